import PyProof.Rows.All
import Wide.All
import OpenK.AllK
import Wide.FinOn
import KE.KStateDown
import HandS.Base
import HandS.Call
import HandS.Words
import HandS.Head0
import HandS.Head1
import HandS.Head2
import HandS.ForMost
import HandS.ForExc
import HandS.Walk
import HandS.Flow
import HandS.NoneIn
import HandS.TupSets
import HandS.Conv
import HandS.SetFor
import HandS.Strs
import HandS.Style
import HandS.Wide
import HandS.TupAny
import HandS.TupLe
import HandS.TupMul
import HandS.Deep
import HandS.IsInst
import HandS.Zip
import HandS.SortInts
import KE.SortData
import KE.DataCmp
import KE.DataMinMax
import KE.KIndexOf
import PyProof.SeqIndex
import KE.GoesEnum
import HandS.Iter
import PyProof.P3Eq
import HandS.Small
import HandS.ExcOwn
import HandS.RaiseMore
import HandS.Dict
import HandS.SetKeys
import HandS.ExcIs
import HandS.TryOnly
import HandS.TryMany
import HandS.DictComp
import HandS.Text
import HandS.List
import KE.KRevSl
import PyProof.ListCopy
import PyProof.InstNe
import KE.KIsAll
import KE.KTryMore
import HandS.Exc
import PyProof.Rows.SortShellAny
import PyProof.EqKinds
import KE.KEqDict
import PyProof.FactsAll.dict
import HandS.Remove
import PyProof.Rows.RegStrFacts
import PyProof.ReprText
import PySem.Challenge.RW_tornsectors_k90_histories_refused
set_option Elab.async false
set_option linter.all false
set_option maxRecDepth 100000
set_option maxHeartbeats 4000000
namespace My
open PySem PySem.Spec PyProof.Rows L2
noncomputable def topS (i : Nat) : Stmt := PySem.Challenge.pw_tornsectors_k90_histories_refused.main.body.getD i (.Pass ⟨0, 0, 0, 0⟩)
end My
namespace SH
open PySem PySem.Spec PyProof.Rows L2 My
noncomputable def names0 : List PySem.Str := [("__name__" : PySem.Str), ("SectorError" : PySem.Str), ("NoHistory" : PySem.Str), ("is_integer" : PySem.Str), ("is_between" : PySem.Str), ("is_index" : PySem.Str), ("MOST_DEALS" : PySem.Str), ("MOST_KEY" : PySem.Str), ("are_writes" : PySem.Str), ("is_read" : PySem.Str), ("are_reads" : PySem.Str), ("is_history" : PySem.Str), ("check_history" : PySem.Str), ("writers" : PySem.Str), ("next_writer" : PySem.Str)]
noncomputable def names1 : List PySem.Str := [("edges_of" : PySem.Str), ("edges" : PySem.Str), ("webs" : PySem.Str), ("order_of" : PySem.Str), ("one_order" : PySem.Str), ("ring" : PySem.Str), ("is_ring" : PySem.Str), ("suits" : PySem.Str), ("moment_of" : PySem.Str), ("moments" : PySem.Str), ("by_snapshots" : PySem.Str), ("_law_pool" : PySem.Str), ("_law_draw" : PySem.Str), ("_law_any" : PySem.Str), ("_law_is_int" : PySem.Str)]
noncomputable def names2 : List PySem.Str := [("_law_deep" : PySem.Str), ("_law_history" : PySem.Str), ("_law_is_reads" : PySem.Str), ("_law_is_keys" : PySem.Str), ("_law_is_history" : PySem.Str), ("_law_bent" : PySem.Str), ("_law_word" : PySem.Str)]
noncomputable def names : List PySem.Str := names0 ++ names1 ++ names2
noncomputable def Kh : Params → PySem.W.Frag := fun P => Prod.mk (nat_lit 1) (@PySem.Obj.mk (@PySem.Value.type "dict") (@Option.none @Nat) (@PySem.Data.dict #[(@PySem.DictEntry.mk (@PySem.PyData.keyHash P ("builtins" : PySem.Str)) (@PySem.Value.str ("builtins" : PySem.Str) 162) (@PySem.Value.ref 4)), (@PySem.DictEntry.mk (@PySem.PyData.keyHash P ("__main__" : PySem.Str)) (@PySem.Value.str ("__main__" : PySem.Str) 163) (@PySem.Value.ref 5))] 2) #[]) :: Prod.mk (nat_lit 2) (@PySem.Obj.mk @PySem.Value.none (@Option.none @Nat) (@PySem.Data.dict #[] 0) #[]) :: Prod.mk (nat_lit 3) (@PySem.Obj.mk (@PySem.Value.type "dict") (@Option.none @Nat) (@PySem.Data.dict #[(@PySem.DictEntry.mk (@PySem.PyData.keyHash P ("__name__" : PySem.Str)) (@PySem.Value.str ("__name__" : PySem.Str) 165) (@PySem.Value.str ("law_tornsectors_k90_histories_refused" : PySem.Str) 369)), (@PySem.DictEntry.mk (@PySem.PyData.keyHash P ("__doc__" : PySem.Str)) (@PySem.Value.str ("__doc__" : PySem.Str) 166) @PySem.Value.none), (@PySem.DictEntry.mk (@PySem.PyData.keyHash P ("__package__" : PySem.Str)) (@PySem.Value.str ("__package__" : PySem.Str) 167) @PySem.Value.none), (@PySem.DictEntry.mk (@PySem.PyData.keyHash P ("__loader__" : PySem.Str)) (@PySem.Value.str ("__loader__" : PySem.Str) 168) (@PySem.Value.builtin "__main__.__loader__#opaque")), (@PySem.DictEntry.mk (@PySem.PyData.keyHash P ("__spec__" : PySem.Str)) (@PySem.Value.str ("__spec__" : PySem.Str) 169) @PySem.Value.none), (@PySem.DictEntry.mk (@PySem.PyData.keyHash P ("__annotations__" : PySem.Str)) (@PySem.Value.str ("__annotations__" : PySem.Str) 170) (@PySem.Value.ref 6)), (@PySem.DictEntry.mk (@PySem.PyData.keyHash P ("__builtins__" : PySem.Str)) (@PySem.Value.str ("__builtins__" : PySem.Str) 171) (@PySem.Value.ref 4)), (@PySem.DictEntry.mk (@PySem.PyData.keyHash P ("__file__" : PySem.Str)) (@PySem.Value.str ("__file__" : PySem.Str) 173) (@PySem.Value.str ("/claim/cut.py" : PySem.Str) 172)), (@PySem.DictEntry.mk (@PySem.PyData.keyHash P ("__cached__" : PySem.Str)) (@PySem.Value.str ("__cached__" : PySem.Str) 174) @PySem.Value.none), (@PySem.DictEntry.mk (@PySem.PyData.keyHash P ("SectorError" : PySem.Str)) (@PySem.Value.str ("SectorError" : PySem.Str) 206) (@PySem.Value.ref 24)), (@PySem.DictEntry.mk (@PySem.PyData.keyHash P ("NoHistory" : PySem.Str)) (@PySem.Value.str ("NoHistory" : PySem.Str) 222) (@PySem.Value.ref 37)), (@PySem.DictEntry.mk (@PySem.PyData.keyHash P ("is_integer" : PySem.Str)) (@PySem.Value.str ("is_integer" : PySem.Str) 231) (@PySem.Value.ref 46)), (@PySem.DictEntry.mk (@PySem.PyData.keyHash P ("is_between" : PySem.Str)) (@PySem.Value.str ("is_between" : PySem.Str) 240) (@PySem.Value.ref 53)), (@PySem.DictEntry.mk (@PySem.PyData.keyHash P ("is_index" : PySem.Str)) (@PySem.Value.str ("is_index" : PySem.Str) 248) (@PySem.Value.ref 60)), (@PySem.DictEntry.mk (@PySem.PyData.keyHash P ("MOST_DEALS" : PySem.Str)) (@PySem.Value.str ("MOST_DEALS" : PySem.Str) 252) (@PySem.Value.int 12 251)), (@PySem.DictEntry.mk (@PySem.PyData.keyHash P ("MOST_KEY" : PySem.Str)) (@PySem.Value.str ("MOST_KEY" : PySem.Str) 254) (@PySem.Value.int 99 253)), (@PySem.DictEntry.mk (@PySem.PyData.keyHash P ("are_writes" : PySem.Str)) (@PySem.Value.str ("are_writes" : PySem.Str) 260) (@PySem.Value.ref 65)), (@PySem.DictEntry.mk (@PySem.PyData.keyHash P ("is_read" : PySem.Str)) (@PySem.Value.str ("is_read" : PySem.Str) 268) (@PySem.Value.ref 72)), (@PySem.DictEntry.mk (@PySem.PyData.keyHash P ("are_reads" : PySem.Str)) (@PySem.Value.str ("are_reads" : PySem.Str) 274) (@PySem.Value.ref 77)), (@PySem.DictEntry.mk (@PySem.PyData.keyHash P ("is_history" : PySem.Str)) (@PySem.Value.str ("is_history" : PySem.Str) 280) (@PySem.Value.ref 82)), (@PySem.DictEntry.mk (@PySem.PyData.keyHash P ("check_history" : PySem.Str)) (@PySem.Value.str ("check_history" : PySem.Str) 287) (@PySem.Value.ref 89)), (@PySem.DictEntry.mk (@PySem.PyData.keyHash P ("writers" : PySem.Str)) (@PySem.Value.str ("writers" : PySem.Str) 293) (@PySem.Value.ref 94)), (@PySem.DictEntry.mk (@PySem.PyData.keyHash P ("next_writer" : PySem.Str)) (@PySem.Value.str ("next_writer" : PySem.Str) 299) (@PySem.Value.ref 99)), (@PySem.DictEntry.mk (@PySem.PyData.keyHash P ("edges_of" : PySem.Str)) (@PySem.Value.str ("edges_of" : PySem.Str) 305) (@PySem.Value.ref 104)), (@PySem.DictEntry.mk (@PySem.PyData.keyHash P ("edges" : PySem.Str)) (@PySem.Value.str ("edges" : PySem.Str) 312) (@PySem.Value.ref 111)), (@PySem.DictEntry.mk (@PySem.PyData.keyHash P ("webs" : PySem.Str)) (@PySem.Value.str ("webs" : PySem.Str) 318) (@PySem.Value.ref 116)), (@PySem.DictEntry.mk (@PySem.PyData.keyHash P ("order_of" : PySem.Str)) (@PySem.Value.str ("order_of" : PySem.Str) 324) (@PySem.Value.ref 121)), (@PySem.DictEntry.mk (@PySem.PyData.keyHash P ("one_order" : PySem.Str)) (@PySem.Value.str ("one_order" : PySem.Str) 332) (@PySem.Value.ref 128)), (@PySem.DictEntry.mk (@PySem.PyData.keyHash P ("ring" : PySem.Str)) (@PySem.Value.str ("ring" : PySem.Str) 338) (@PySem.Value.ref 133)), (@PySem.DictEntry.mk (@PySem.PyData.keyHash P ("is_ring" : PySem.Str)) (@PySem.Value.str ("is_ring" : PySem.Str) 344) (@PySem.Value.ref 138)), (@PySem.DictEntry.mk (@PySem.PyData.keyHash P ("suits" : PySem.Str)) (@PySem.Value.str ("suits" : PySem.Str) 350) (@PySem.Value.ref 143)), (@PySem.DictEntry.mk (@PySem.PyData.keyHash P ("moment_of" : PySem.Str)) (@PySem.Value.str ("moment_of" : PySem.Str) 356) (@PySem.Value.ref 148)), (@PySem.DictEntry.mk (@PySem.PyData.keyHash P ("moments" : PySem.Str)) (@PySem.Value.str ("moments" : PySem.Str) 362) (@PySem.Value.ref 153)), (@PySem.DictEntry.mk (@PySem.PyData.keyHash P ("by_snapshots" : PySem.Str)) (@PySem.Value.str ("by_snapshots" : PySem.Str) 368) (@PySem.Value.ref 158)), (@PySem.DictEntry.mk (@PySem.PyData.keyHash P ("_law_pool" : PySem.Str)) (@PySem.Value.str ("_law_pool" : PySem.Str) 376) (@PySem.Value.ref 163)), (@PySem.DictEntry.mk (@PySem.PyData.keyHash P ("_law_draw" : PySem.Str)) (@PySem.Value.str ("_law_draw" : PySem.Str) 387) (@PySem.Value.ref 170)), (@PySem.DictEntry.mk (@PySem.PyData.keyHash P ("_law_any" : PySem.Str)) (@PySem.Value.str ("_law_any" : PySem.Str) 395) (@PySem.Value.ref 177)), (@PySem.DictEntry.mk (@PySem.PyData.keyHash P ("_law_is_int" : PySem.Str)) (@PySem.Value.str ("_law_is_int" : PySem.Str) 404) (@PySem.Value.ref 184)), (@PySem.DictEntry.mk (@PySem.PyData.keyHash P ("_law_deep" : PySem.Str)) (@PySem.Value.str ("_law_deep" : PySem.Str) 413) (@PySem.Value.ref 191)), (@PySem.DictEntry.mk (@PySem.PyData.keyHash P ("_law_history" : PySem.Str)) (@PySem.Value.str ("_law_history" : PySem.Str) 419) (@PySem.Value.ref 196)), (@PySem.DictEntry.mk (@PySem.PyData.keyHash P ("_law_is_reads" : PySem.Str)) (@PySem.Value.str ("_law_is_reads" : PySem.Str) 425) (@PySem.Value.ref 201)), (@PySem.DictEntry.mk (@PySem.PyData.keyHash P ("_law_is_keys" : PySem.Str)) (@PySem.Value.str ("_law_is_keys" : PySem.Str) 431) (@PySem.Value.ref 206)), (@PySem.DictEntry.mk (@PySem.PyData.keyHash P ("_law_is_history" : PySem.Str)) (@PySem.Value.str ("_law_is_history" : PySem.Str) 437) (@PySem.Value.ref 211)), (@PySem.DictEntry.mk (@PySem.PyData.keyHash P ("_law_bent" : PySem.Str)) (@PySem.Value.str ("_law_bent" : PySem.Str) 443) (@PySem.Value.ref 216)), (@PySem.DictEntry.mk (@PySem.PyData.keyHash P ("_law_word" : PySem.Str)) (@PySem.Value.str ("_law_word" : PySem.Str) 454) (@PySem.Value.ref 223)), (@PySem.DictEntry.mk (@PySem.PyData.keyHash P ("law" : PySem.Str)) (@PySem.Value.str ("law" : PySem.Str) 469) (@PySem.Value.ref 230))] 46) #[]) :: Prod.mk (nat_lit 23) (@PySem.Obj.mk (@PySem.Value.type "dict") (@Option.none @Nat) (@PySem.Data.dict #[(@PySem.DictEntry.mk (@PySem.PyData.keyHash P ("__module__" : PySem.Str)) (@PySem.Value.str ("__module__" : PySem.Str) 196) (@PySem.Value.str ("tornsectors.errors" : PySem.Str) 187)), (@PySem.DictEntry.mk (@PySem.PyData.keyHash P ("__firstlineno__" : PySem.Str)) (@PySem.Value.str ("__firstlineno__" : PySem.Str) 200) (@PySem.Value.int 2 199)), (@PySem.DictEntry.mk (@PySem.PyData.keyHash P ("__static_attributes__" : PySem.Str)) (@PySem.Value.str ("__static_attributes__" : PySem.Str) 201) (@PySem.Value.ref 22)), (@PySem.DictEntry.mk (@PySem.PyData.keyHash P ("__weakref__" : PySem.Str)) (@PySem.Value.str ("__weakref__" : PySem.Str) 203) (@PySem.Value.ref 25)), (@PySem.DictEntry.mk (@PySem.PyData.keyHash P ("__doc__" : PySem.Str)) (@PySem.Value.str ("__doc__" : PySem.Str) 204) @PySem.Value.none)] 3) #[]) :: Prod.mk (nat_lit 24) (@PySem.Obj.mk (@PySem.Value.type "type") (@Option.none @Nat) (@PySem.Data.cls (@PySem.ClassData.mk ("SectorError" : PySem.Str) [(@PySem.Value.type "ValueError")] [(@PySem.Value.ref 24), (@PySem.Value.type "ValueError"), (@PySem.Value.type "Exception"), (@PySem.Value.type "BaseException"), (@PySem.Value.type "object")] 23 ("SectorError" : PySem.Str) @Bool.true [] [(@PySem.Value.ref 37)] @Bool.false (@Option.none @Bool) @Bool.false)) #[(@Option.some @PySem.Value (@PySem.Value.ref 15)), (@Option.none @PySem.Value), (@Option.some @PySem.Value (@PySem.Value.str ("SectorError" : PySem.Str) 189)), (@Option.some @PySem.Value (@PySem.Value.str ("SectorError" : PySem.Str) 197)), (@Option.some @PySem.Value (@PySem.Value.builtin "ValueError.__new__")), (@Option.some @PySem.Value (@PySem.Value.bool @Bool.true))]) :: Prod.mk (nat_lit 25) (@PySem.Obj.mk (@PySem.Value.type "getset_descriptor") (@Option.none @Nat) (@PySem.Data.fields #[(@PySem.Value.str ("__weakref__" : PySem.Str) 202), (@PySem.Value.ref 24), (@PySem.Value.builtin "ExceptionGroup.__weakref__"), @PySem.Value.none]) #[]) :: Prod.mk (nat_lit 36) (@PySem.Obj.mk (@PySem.Value.type "dict") (@Option.none @Nat) (@PySem.Data.dict #[(@PySem.DictEntry.mk (@PySem.PyData.keyHash P ("__module__" : PySem.Str)) (@PySem.Value.str ("__module__" : PySem.Str) 214) (@PySem.Value.str ("tornsectors.errors" : PySem.Str) 187)), (@PySem.DictEntry.mk (@PySem.PyData.keyHash P ("__firstlineno__" : PySem.Str)) (@PySem.Value.str ("__firstlineno__" : PySem.Str) 218) (@PySem.Value.int 4 217)), (@PySem.DictEntry.mk (@PySem.PyData.keyHash P ("__static_attributes__" : PySem.Str)) (@PySem.Value.str ("__static_attributes__" : PySem.Str) 219) (@PySem.Value.ref 35)), (@PySem.DictEntry.mk (@PySem.PyData.keyHash P ("__doc__" : PySem.Str)) (@PySem.Value.str ("__doc__" : PySem.Str) 220) @PySem.Value.none)] 2) #[]) :: Prod.mk (nat_lit 37) (@PySem.Obj.mk (@PySem.Value.type "type") (@Option.none @Nat) (@PySem.Data.cls (@PySem.ClassData.mk ("NoHistory" : PySem.Str) [(@PySem.Value.ref 24)] [(@PySem.Value.ref 37), (@PySem.Value.ref 24), (@PySem.Value.type "ValueError"), (@PySem.Value.type "Exception"), (@PySem.Value.type "BaseException"), (@PySem.Value.type "object")] 36 ("NoHistory" : PySem.Str) @Bool.true [] [] @Bool.false (@Option.none @Bool) @Bool.false)) #[(@Option.some @PySem.Value (@PySem.Value.ref 28)), (@Option.none @PySem.Value), (@Option.some @PySem.Value (@PySem.Value.str ("NoHistory" : PySem.Str) 207)), (@Option.some @PySem.Value (@PySem.Value.str ("NoHistory" : PySem.Str) 215)), (@Option.some @PySem.Value (@PySem.Value.builtin "ValueError.__new__")), (@Option.some @PySem.Value (@PySem.Value.bool @Bool.true))]) :: Prod.mk (nat_lit 45) (@PySem.Obj.mk (@PySem.Value.type "code") (@Option.none @Nat) (@PySem.Data.fields #[(@PySem.Value.str ("is_integer" : PySem.Str) 225), (@PySem.Value.str ("is_integer" : PySem.Str) 226), (@PySem.Value.str ("/claim/cut.py" : PySem.Str) 227), (@PySem.Value.int 7 0), (@PySem.Value.int 1 0), (@PySem.Value.int 0 0), (@PySem.Value.int 0 0), (@PySem.Value.int 3 0), (@PySem.Value.ref 40), (@PySem.Value.bool @Bool.true), (@PySem.Value.int 181 0), (@PySem.Value.ref 41), @PySem.Value.none, (@PySem.Value.ref 42), (@PySem.Value.ref 43), (@PySem.Value.ref 44), (@PySem.Value.int 229 0), (@PySem.Value.int 7 0), (@PySem.Value.str ("/claim/cut.py" : PySem.Str) 230)]) #[]) :: Prod.mk (nat_lit 46) (@PySem.Obj.mk (@PySem.Value.type "function") (@Option.none @Nat) (@PySem.Data.func (PySem.W.fnOf "is_integer" "is_integer" (defArgs (topS 4)) (defBody (topS 4)) (defScope (topS 4)) .none @PySem.Value.none @PySem.Value.none (@PySem.Value.str ("tornsectors.checks" : PySem.Str) 223) (@Option.none @Nat) (@PySem.Value.ref 45) @PySem.Value.none)) #[]) :: Prod.mk (nat_lit 52) (@PySem.Obj.mk (@PySem.Value.type "code") (@Option.none @Nat) (@PySem.Data.fields #[(@PySem.Value.str ("is_between" : PySem.Str) 232), (@PySem.Value.str ("is_between" : PySem.Str) 233), (@PySem.Value.str ("/claim/cut.py" : PySem.Str) 234), (@PySem.Value.int 9 0), (@PySem.Value.int 3 0), (@PySem.Value.int 0 0), (@PySem.Value.int 0 0), (@PySem.Value.int 3 0), (@PySem.Value.ref 47), (@PySem.Value.bool @Bool.true), (@PySem.Value.int 181 0), (@PySem.Value.ref 48), @PySem.Value.none, (@PySem.Value.ref 49), (@PySem.Value.ref 50), (@PySem.Value.ref 51), (@PySem.Value.int 238 0), (@PySem.Value.int 9 0), (@PySem.Value.str ("/claim/cut.py" : PySem.Str) 239)]) #[]) :: Prod.mk (nat_lit 53) (@PySem.Obj.mk (@PySem.Value.type "function") (@Option.none @Nat) (@PySem.Data.func (PySem.W.fnOf "is_between" "is_between" (defArgs (topS 5)) (defBody (topS 5)) (defScope (topS 5)) .none @PySem.Value.none @PySem.Value.none (@PySem.Value.str ("tornsectors.checks" : PySem.Str) 223) (@Option.none @Nat) (@PySem.Value.ref 52) @PySem.Value.none)) #[]) :: Prod.mk (nat_lit 59) (@PySem.Obj.mk (@PySem.Value.type "code") (@Option.none @Nat) (@PySem.Data.fields #[(@PySem.Value.str ("is_index" : PySem.Str) 241), (@PySem.Value.str ("is_index" : PySem.Str) 242), (@PySem.Value.str ("/claim/cut.py" : PySem.Str) 243), (@PySem.Value.int 11 0), (@PySem.Value.int 2 0), (@PySem.Value.int 0 0), (@PySem.Value.int 0 0), (@PySem.Value.int 3 0), (@PySem.Value.ref 54), (@PySem.Value.bool @Bool.true), (@PySem.Value.int 181 0), (@PySem.Value.ref 55), @PySem.Value.none, (@PySem.Value.ref 56), (@PySem.Value.ref 57), (@PySem.Value.ref 58), (@PySem.Value.int 246 0), (@PySem.Value.int 11 0), (@PySem.Value.str ("/claim/cut.py" : PySem.Str) 247)]) #[]) :: Prod.mk (nat_lit 60) (@PySem.Obj.mk (@PySem.Value.type "function") (@Option.none @Nat) (@PySem.Data.func (PySem.W.fnOf "is_index" "is_index" (defArgs (topS 6)) (defBody (topS 6)) (defScope (topS 6)) .none @PySem.Value.none @PySem.Value.none (@PySem.Value.str ("tornsectors.checks" : PySem.Str) 223) (@Option.none @Nat) (@PySem.Value.ref 59) @PySem.Value.none)) #[]) :: Prod.mk (nat_lit 64) (@PySem.Obj.mk (@PySem.Value.type "code") (@Option.none @Nat) (@PySem.Data.fields #[(@PySem.Value.str ("are_writes" : PySem.Str) 255), (@PySem.Value.str ("are_writes" : PySem.Str) 256), (@PySem.Value.str ("/claim/cut.py" : PySem.Str) 257), (@PySem.Value.int 16 0), (@PySem.Value.int 1 0), (@PySem.Value.int 0 0), (@PySem.Value.int 0 0), (@PySem.Value.int 3 0), (@PySem.Value.ref 61), (@PySem.Value.bool @Bool.true), (@PySem.Value.int 181 0), (@PySem.Value.ref 62), @PySem.Value.none, @PySem.Value.none, @PySem.Value.none, (@PySem.Value.ref 63), (@PySem.Value.int 258 0), (@PySem.Value.int 16 0), (@PySem.Value.str ("/claim/cut.py" : PySem.Str) 259)]) #[]) :: Prod.mk (nat_lit 65) (@PySem.Obj.mk (@PySem.Value.type "function") (@Option.none @Nat) (@PySem.Data.func (PySem.W.fnOf "are_writes" "are_writes" (defArgs (topS 10)) (defBody (topS 10)) (defScope (topS 10)) .none @PySem.Value.none @PySem.Value.none (@PySem.Value.str ("tornsectors.histories" : PySem.Str) 249) (@Option.none @Nat) (@PySem.Value.ref 64) @PySem.Value.none)) #[]) :: Prod.mk (nat_lit 71) (@PySem.Obj.mk (@PySem.Value.type "code") (@Option.none @Nat) (@PySem.Data.fields #[(@PySem.Value.str ("is_read" : PySem.Str) 261), (@PySem.Value.str ("is_read" : PySem.Str) 262), (@PySem.Value.str ("/claim/cut.py" : PySem.Str) 263), (@PySem.Value.int 20 0), (@PySem.Value.int 2 0), (@PySem.Value.int 0 0), (@PySem.Value.int 0 0), (@PySem.Value.int 3 0), (@PySem.Value.ref 66), (@PySem.Value.bool @Bool.true), (@PySem.Value.int 181 0), (@PySem.Value.ref 67), @PySem.Value.none, (@PySem.Value.ref 68), (@PySem.Value.ref 69), (@PySem.Value.ref 70), (@PySem.Value.int 266 0), (@PySem.Value.int 20 0), (@PySem.Value.str ("/claim/cut.py" : PySem.Str) 267)]) #[]) :: Prod.mk (nat_lit 72) (@PySem.Obj.mk (@PySem.Value.type "function") (@Option.none @Nat) (@PySem.Data.func (PySem.W.fnOf "is_read" "is_read" (defArgs (topS 11)) (defBody (topS 11)) (defScope (topS 11)) .none @PySem.Value.none @PySem.Value.none (@PySem.Value.str ("tornsectors.histories" : PySem.Str) 249) (@Option.none @Nat) (@PySem.Value.ref 71) @PySem.Value.none)) #[]) :: Prod.mk (nat_lit 76) (@PySem.Obj.mk (@PySem.Value.type "code") (@Option.none @Nat) (@PySem.Data.fields #[(@PySem.Value.str ("are_reads" : PySem.Str) 269), (@PySem.Value.str ("are_reads" : PySem.Str) 270), (@PySem.Value.str ("/claim/cut.py" : PySem.Str) 271), (@PySem.Value.int 26 0), (@PySem.Value.int 3 0), (@PySem.Value.int 0 0), (@PySem.Value.int 0 0), (@PySem.Value.int 3 0), (@PySem.Value.ref 73), (@PySem.Value.bool @Bool.true), (@PySem.Value.int 181 0), (@PySem.Value.ref 74), @PySem.Value.none, @PySem.Value.none, @PySem.Value.none, (@PySem.Value.ref 75), (@PySem.Value.int 272 0), (@PySem.Value.int 26 0), (@PySem.Value.str ("/claim/cut.py" : PySem.Str) 273)]) #[]) :: Prod.mk (nat_lit 77) (@PySem.Obj.mk (@PySem.Value.type "function") (@Option.none @Nat) (@PySem.Data.func (PySem.W.fnOf "are_reads" "are_reads" (defArgs (topS 12)) (defBody (topS 12)) (defScope (topS 12)) .none @PySem.Value.none @PySem.Value.none (@PySem.Value.str ("tornsectors.histories" : PySem.Str) 249) (@Option.none @Nat) (@PySem.Value.ref 76) @PySem.Value.none)) #[]) :: Prod.mk (nat_lit 81) (@PySem.Obj.mk (@PySem.Value.type "code") (@Option.none @Nat) (@PySem.Data.fields #[(@PySem.Value.str ("is_history" : PySem.Str) 275), (@PySem.Value.str ("is_history" : PySem.Str) 276), (@PySem.Value.str ("/claim/cut.py" : PySem.Str) 277), (@PySem.Value.int 32 0), (@PySem.Value.int 1 0), (@PySem.Value.int 0 0), (@PySem.Value.int 0 0), (@PySem.Value.int 3 0), (@PySem.Value.ref 78), (@PySem.Value.bool @Bool.true), (@PySem.Value.int 181 0), (@PySem.Value.ref 79), @PySem.Value.none, @PySem.Value.none, @PySem.Value.none, (@PySem.Value.ref 80), (@PySem.Value.int 278 0), (@PySem.Value.int 32 0), (@PySem.Value.str ("/claim/cut.py" : PySem.Str) 279)]) #[]) :: Prod.mk (nat_lit 82) (@PySem.Obj.mk (@PySem.Value.type "function") (@Option.none @Nat) (@PySem.Data.func (PySem.W.fnOf "is_history" "is_history" (defArgs (topS 13)) (defBody (topS 13)) (defScope (topS 13)) .none @PySem.Value.none @PySem.Value.none (@PySem.Value.str ("tornsectors.histories" : PySem.Str) 249) (@Option.none @Nat) (@PySem.Value.ref 81) @PySem.Value.none)) #[]) :: Prod.mk (nat_lit 88) (@PySem.Obj.mk (@PySem.Value.type "code") (@Option.none @Nat) (@PySem.Data.fields #[(@PySem.Value.str ("check_history" : PySem.Str) 281), (@PySem.Value.str ("check_history" : PySem.Str) 282), (@PySem.Value.str ("/claim/cut.py" : PySem.Str) 283), (@PySem.Value.int 38 0), (@PySem.Value.int 1 0), (@PySem.Value.int 0 0), (@PySem.Value.int 0 0), (@PySem.Value.int 3 0), (@PySem.Value.ref 83), (@PySem.Value.bool @Bool.true), (@PySem.Value.int 181 0), (@PySem.Value.ref 84), @PySem.Value.none, (@PySem.Value.ref 85), (@PySem.Value.ref 86), (@PySem.Value.ref 87), (@PySem.Value.int 285 0), (@PySem.Value.int 38 0), (@PySem.Value.str ("/claim/cut.py" : PySem.Str) 286)]) #[]) :: Prod.mk (nat_lit 89) (@PySem.Obj.mk (@PySem.Value.type "function") (@Option.none @Nat) (@PySem.Data.func (PySem.W.fnOf "check_history" "check_history" (defArgs (topS 14)) (defBody (topS 14)) (defScope (topS 14)) .none @PySem.Value.none @PySem.Value.none (@PySem.Value.str ("tornsectors.histories" : PySem.Str) 249) (@Option.none @Nat) (@PySem.Value.ref 88) @PySem.Value.none)) #[]) :: Prod.mk (nat_lit 93) (@PySem.Obj.mk (@PySem.Value.type "code") (@Option.none @Nat) (@PySem.Data.fields #[(@PySem.Value.str ("writers" : PySem.Str) 288), (@PySem.Value.str ("writers" : PySem.Str) 289), (@PySem.Value.str ("/claim/cut.py" : PySem.Str) 290), (@PySem.Value.int 41 0), (@PySem.Value.int 2 0), (@PySem.Value.int 0 0), (@PySem.Value.int 0 0), (@PySem.Value.int 3 0), (@PySem.Value.ref 90), (@PySem.Value.bool @Bool.true), (@PySem.Value.int 181 0), (@PySem.Value.ref 91), @PySem.Value.none, @PySem.Value.none, @PySem.Value.none, (@PySem.Value.ref 92), (@PySem.Value.int 291 0), (@PySem.Value.int 41 0), (@PySem.Value.str ("/claim/cut.py" : PySem.Str) 292)]) #[]) :: Prod.mk (nat_lit 94) (@PySem.Obj.mk (@PySem.Value.type "function") (@Option.none @Nat) (@PySem.Data.func (PySem.W.fnOf "writers" "writers" (defArgs (topS 15)) (defBody (topS 15)) (defScope (topS 15)) .none @PySem.Value.none @PySem.Value.none (@PySem.Value.str ("tornsectors.histories" : PySem.Str) 249) (@Option.none @Nat) (@PySem.Value.ref 93) @PySem.Value.none)) #[]) :: Prod.mk (nat_lit 98) (@PySem.Obj.mk (@PySem.Value.type "code") (@Option.none @Nat) (@PySem.Data.fields #[(@PySem.Value.str ("next_writer" : PySem.Str) 294), (@PySem.Value.str ("next_writer" : PySem.Str) 295), (@PySem.Value.str ("/claim/cut.py" : PySem.Str) 296), (@PySem.Value.int 43 0), (@PySem.Value.int 3 0), (@PySem.Value.int 0 0), (@PySem.Value.int 0 0), (@PySem.Value.int 3 0), (@PySem.Value.ref 95), (@PySem.Value.bool @Bool.true), (@PySem.Value.int 181 0), (@PySem.Value.ref 96), @PySem.Value.none, @PySem.Value.none, @PySem.Value.none, (@PySem.Value.ref 97), (@PySem.Value.int 297 0), (@PySem.Value.int 43 0), (@PySem.Value.str ("/claim/cut.py" : PySem.Str) 298)]) #[]) :: Prod.mk (nat_lit 99) (@PySem.Obj.mk (@PySem.Value.type "function") (@Option.none @Nat) (@PySem.Data.func (PySem.W.fnOf "next_writer" "next_writer" (defArgs (topS 16)) (defBody (topS 16)) (defScope (topS 16)) .none @PySem.Value.none @PySem.Value.none (@PySem.Value.str ("tornsectors.histories" : PySem.Str) 249) (@Option.none @Nat) (@PySem.Value.ref 98) @PySem.Value.none)) #[]) :: Prod.mk (nat_lit 103) (@PySem.Obj.mk (@PySem.Value.type "code") (@Option.none @Nat) (@PySem.Data.fields #[(@PySem.Value.str ("edges_of" : PySem.Str) 300), (@PySem.Value.str ("edges_of" : PySem.Str) 301), (@PySem.Value.str ("/claim/cut.py" : PySem.Str) 302), (@PySem.Value.int 48 0), (@PySem.Value.int 1 0), (@PySem.Value.int 0 0), (@PySem.Value.int 0 0), (@PySem.Value.int 3 0), (@PySem.Value.ref 100), (@PySem.Value.bool @Bool.true), (@PySem.Value.int 181 0), (@PySem.Value.ref 101), @PySem.Value.none, @PySem.Value.none, @PySem.Value.none, (@PySem.Value.ref 102), (@PySem.Value.int 303 0), (@PySem.Value.int 48 0), (@PySem.Value.str ("/claim/cut.py" : PySem.Str) 304)]) #[]) :: Prod.mk (nat_lit 104) (@PySem.Obj.mk (@PySem.Value.type "function") (@Option.none @Nat) (@PySem.Data.func (PySem.W.fnOf "edges_of" "edges_of" (defArgs (topS 17)) (defBody (topS 17)) (defScope (topS 17)) .none @PySem.Value.none @PySem.Value.none (@PySem.Value.str ("tornsectors.histories" : PySem.Str) 249) (@Option.none @Nat) (@PySem.Value.ref 103) @PySem.Value.none)) #[]) :: Prod.mk (nat_lit 110) (@PySem.Obj.mk (@PySem.Value.type "code") (@Option.none @Nat) (@PySem.Data.fields #[(@PySem.Value.str ("edges" : PySem.Str) 306), (@PySem.Value.str ("edges" : PySem.Str) 307), (@PySem.Value.str ("/claim/cut.py" : PySem.Str) 308), (@PySem.Value.int 60 0), (@PySem.Value.int 1 0), (@PySem.Value.int 0 0), (@PySem.Value.int 0 0), (@PySem.Value.int 3 0), (@PySem.Value.ref 105), (@PySem.Value.bool @Bool.true), (@PySem.Value.int 181 0), (@PySem.Value.ref 106), @PySem.Value.none, (@PySem.Value.ref 107), (@PySem.Value.ref 108), (@PySem.Value.ref 109), (@PySem.Value.int 310 0), (@PySem.Value.int 60 0), (@PySem.Value.str ("/claim/cut.py" : PySem.Str) 311)]) #[]) :: Prod.mk (nat_lit 111) (@PySem.Obj.mk (@PySem.Value.type "function") (@Option.none @Nat) (@PySem.Data.func (PySem.W.fnOf "edges" "edges" (defArgs (topS 18)) (defBody (topS 18)) (defScope (topS 18)) .none @PySem.Value.none @PySem.Value.none (@PySem.Value.str ("tornsectors.histories" : PySem.Str) 249) (@Option.none @Nat) (@PySem.Value.ref 110) @PySem.Value.none)) #[]) :: Prod.mk (nat_lit 115) (@PySem.Obj.mk (@PySem.Value.type "code") (@Option.none @Nat) (@PySem.Data.fields #[(@PySem.Value.str ("webs" : PySem.Str) 313), (@PySem.Value.str ("webs" : PySem.Str) 314), (@PySem.Value.str ("/claim/cut.py" : PySem.Str) 315), (@PySem.Value.int 63 0), (@PySem.Value.int 1 0), (@PySem.Value.int 0 0), (@PySem.Value.int 0 0), (@PySem.Value.int 3 0), (@PySem.Value.ref 112), (@PySem.Value.bool @Bool.true), (@PySem.Value.int 181 0), (@PySem.Value.ref 113), @PySem.Value.none, @PySem.Value.none, @PySem.Value.none, (@PySem.Value.ref 114), (@PySem.Value.int 316 0), (@PySem.Value.int 63 0), (@PySem.Value.str ("/claim/cut.py" : PySem.Str) 317)]) #[]) :: Prod.mk (nat_lit 116) (@PySem.Obj.mk (@PySem.Value.type "function") (@Option.none @Nat) (@PySem.Data.func (PySem.W.fnOf "webs" "webs" (defArgs (topS 19)) (defBody (topS 19)) (defScope (topS 19)) .none @PySem.Value.none @PySem.Value.none (@PySem.Value.str ("tornsectors.histories" : PySem.Str) 249) (@Option.none @Nat) (@PySem.Value.ref 115) @PySem.Value.none)) #[]) :: Prod.mk (nat_lit 120) (@PySem.Obj.mk (@PySem.Value.type "code") (@Option.none @Nat) (@PySem.Data.fields #[(@PySem.Value.str ("order_of" : PySem.Str) 319), (@PySem.Value.str ("order_of" : PySem.Str) 320), (@PySem.Value.str ("/claim/cut.py" : PySem.Str) 321), (@PySem.Value.int 68 0), (@PySem.Value.int 1 0), (@PySem.Value.int 0 0), (@PySem.Value.int 0 0), (@PySem.Value.int 3 0), (@PySem.Value.ref 117), (@PySem.Value.bool @Bool.true), (@PySem.Value.int 181 0), (@PySem.Value.ref 118), @PySem.Value.none, @PySem.Value.none, @PySem.Value.none, (@PySem.Value.ref 119), (@PySem.Value.int 322 0), (@PySem.Value.int 68 0), (@PySem.Value.str ("/claim/cut.py" : PySem.Str) 323)]) #[]) :: Prod.mk (nat_lit 121) (@PySem.Obj.mk (@PySem.Value.type "function") (@Option.none @Nat) (@PySem.Data.func (PySem.W.fnOf "order_of" "order_of" (defArgs (topS 20)) (defBody (topS 20)) (defScope (topS 20)) .none @PySem.Value.none @PySem.Value.none (@PySem.Value.str ("tornsectors.histories" : PySem.Str) 249) (@Option.none @Nat) (@PySem.Value.ref 120) @PySem.Value.none)) #[]) :: Prod.mk (nat_lit 127) (@PySem.Obj.mk (@PySem.Value.type "code") (@Option.none @Nat) (@PySem.Data.fields #[(@PySem.Value.str ("one_order" : PySem.Str) 325), (@PySem.Value.str ("one_order" : PySem.Str) 326), (@PySem.Value.str ("/claim/cut.py" : PySem.Str) 327), (@PySem.Value.int 78 0), (@PySem.Value.int 1 0), (@PySem.Value.int 0 0), (@PySem.Value.int 0 0), (@PySem.Value.int 3 0), (@PySem.Value.ref 122), (@PySem.Value.bool @Bool.true), (@PySem.Value.int 181 0), (@PySem.Value.ref 123), @PySem.Value.none, (@PySem.Value.ref 124), (@PySem.Value.ref 125), (@PySem.Value.ref 126), (@PySem.Value.int 330 0), (@PySem.Value.int 78 0), (@PySem.Value.str ("/claim/cut.py" : PySem.Str) 331)]) #[]) :: Prod.mk (nat_lit 128) (@PySem.Obj.mk (@PySem.Value.type "function") (@Option.none @Nat) (@PySem.Data.func (PySem.W.fnOf "one_order" "one_order" (defArgs (topS 21)) (defBody (topS 21)) (defScope (topS 21)) .none @PySem.Value.none @PySem.Value.none (@PySem.Value.str ("tornsectors.histories" : PySem.Str) 249) (@Option.none @Nat) (@PySem.Value.ref 127) @PySem.Value.none)) #[]) :: Prod.mk (nat_lit 132) (@PySem.Obj.mk (@PySem.Value.type "code") (@Option.none @Nat) (@PySem.Data.fields #[(@PySem.Value.str ("ring" : PySem.Str) 333), (@PySem.Value.str ("ring" : PySem.Str) 334), (@PySem.Value.str ("/claim/cut.py" : PySem.Str) 335), (@PySem.Value.int 84 0), (@PySem.Value.int 1 0), (@PySem.Value.int 0 0), (@PySem.Value.int 0 0), (@PySem.Value.int 3 0), (@PySem.Value.ref 129), (@PySem.Value.bool @Bool.true), (@PySem.Value.int 181 0), (@PySem.Value.ref 130), @PySem.Value.none, @PySem.Value.none, @PySem.Value.none, (@PySem.Value.ref 131), (@PySem.Value.int 336 0), (@PySem.Value.int 84 0), (@PySem.Value.str ("/claim/cut.py" : PySem.Str) 337)]) #[]) :: Prod.mk (nat_lit 133) (@PySem.Obj.mk (@PySem.Value.type "function") (@Option.none @Nat) (@PySem.Data.func (PySem.W.fnOf "ring" "ring" (defArgs (topS 22)) (defBody (topS 22)) (defScope (topS 22)) .none @PySem.Value.none @PySem.Value.none (@PySem.Value.str ("tornsectors.histories" : PySem.Str) 249) (@Option.none @Nat) (@PySem.Value.ref 132) @PySem.Value.none)) #[]) :: Prod.mk (nat_lit 137) (@PySem.Obj.mk (@PySem.Value.type "code") (@Option.none @Nat) (@PySem.Data.fields #[(@PySem.Value.str ("is_ring" : PySem.Str) 339), (@PySem.Value.str ("is_ring" : PySem.Str) 340), (@PySem.Value.str ("/claim/cut.py" : PySem.Str) 341), (@PySem.Value.int 96 0), (@PySem.Value.int 2 0), (@PySem.Value.int 0 0), (@PySem.Value.int 0 0), (@PySem.Value.int 3 0), (@PySem.Value.ref 134), (@PySem.Value.bool @Bool.true), (@PySem.Value.int 181 0), (@PySem.Value.ref 135), @PySem.Value.none, @PySem.Value.none, @PySem.Value.none, (@PySem.Value.ref 136), (@PySem.Value.int 342 0), (@PySem.Value.int 96 0), (@PySem.Value.str ("/claim/cut.py" : PySem.Str) 343)]) #[]) :: Prod.mk (nat_lit 138) (@PySem.Obj.mk (@PySem.Value.type "function") (@Option.none @Nat) (@PySem.Data.func (PySem.W.fnOf "is_ring" "is_ring" (defArgs (topS 23)) (defBody (topS 23)) (defScope (topS 23)) .none @PySem.Value.none @PySem.Value.none (@PySem.Value.str ("tornsectors.histories" : PySem.Str) 249) (@Option.none @Nat) (@PySem.Value.ref 137) @PySem.Value.none)) #[]) :: Prod.mk (nat_lit 142) (@PySem.Obj.mk (@PySem.Value.type "code") (@Option.none @Nat) (@PySem.Data.fields #[(@PySem.Value.str ("suits" : PySem.Str) 345), (@PySem.Value.str ("suits" : PySem.Str) 346), (@PySem.Value.str ("/claim/cut.py" : PySem.Str) 347), (@PySem.Value.int 104 0), (@PySem.Value.int 3 0), (@PySem.Value.int 0 0), (@PySem.Value.int 0 0), (@PySem.Value.int 3 0), (@PySem.Value.ref 139), (@PySem.Value.bool @Bool.true), (@PySem.Value.int 181 0), (@PySem.Value.ref 140), @PySem.Value.none, @PySem.Value.none, @PySem.Value.none, (@PySem.Value.ref 141), (@PySem.Value.int 348 0), (@PySem.Value.int 104 0), (@PySem.Value.str ("/claim/cut.py" : PySem.Str) 349)]) #[]) :: Prod.mk (nat_lit 143) (@PySem.Obj.mk (@PySem.Value.type "function") (@Option.none @Nat) (@PySem.Data.func (PySem.W.fnOf "suits" "suits" (defArgs (topS 24)) (defBody (topS 24)) (defScope (topS 24)) .none @PySem.Value.none @PySem.Value.none (@PySem.Value.str ("tornsectors.histories" : PySem.Str) 249) (@Option.none @Nat) (@PySem.Value.ref 142) @PySem.Value.none)) #[]) :: Prod.mk (nat_lit 147) (@PySem.Obj.mk (@PySem.Value.type "code") (@Option.none @Nat) (@PySem.Data.fields #[(@PySem.Value.str ("moment_of" : PySem.Str) 351), (@PySem.Value.str ("moment_of" : PySem.Str) 352), (@PySem.Value.str ("/claim/cut.py" : PySem.Str) 353), (@PySem.Value.int 112 0), (@PySem.Value.int 2 0), (@PySem.Value.int 0 0), (@PySem.Value.int 0 0), (@PySem.Value.int 3 0), (@PySem.Value.ref 144), (@PySem.Value.bool @Bool.true), (@PySem.Value.int 181 0), (@PySem.Value.ref 145), @PySem.Value.none, @PySem.Value.none, @PySem.Value.none, (@PySem.Value.ref 146), (@PySem.Value.int 354 0), (@PySem.Value.int 112 0), (@PySem.Value.str ("/claim/cut.py" : PySem.Str) 355)]) #[]) :: Prod.mk (nat_lit 148) (@PySem.Obj.mk (@PySem.Value.type "function") (@Option.none @Nat) (@PySem.Data.func (PySem.W.fnOf "moment_of" "moment_of" (defArgs (topS 25)) (defBody (topS 25)) (defScope (topS 25)) .none @PySem.Value.none @PySem.Value.none (@PySem.Value.str ("tornsectors.histories" : PySem.Str) 249) (@Option.none @Nat) (@PySem.Value.ref 147) @PySem.Value.none)) #[]) :: Prod.mk (nat_lit 152) (@PySem.Obj.mk (@PySem.Value.type "code") (@Option.none @Nat) (@PySem.Data.fields #[(@PySem.Value.str ("moments" : PySem.Str) 357), (@PySem.Value.str ("moments" : PySem.Str) 358), (@PySem.Value.str ("/claim/cut.py" : PySem.Str) 359), (@PySem.Value.int 117 0), (@PySem.Value.int 1 0), (@PySem.Value.int 0 0), (@PySem.Value.int 0 0), (@PySem.Value.int 3 0), (@PySem.Value.ref 149), (@PySem.Value.bool @Bool.true), (@PySem.Value.int 181 0), (@PySem.Value.ref 150), @PySem.Value.none, @PySem.Value.none, @PySem.Value.none, (@PySem.Value.ref 151), (@PySem.Value.int 360 0), (@PySem.Value.int 117 0), (@PySem.Value.str ("/claim/cut.py" : PySem.Str) 361)]) #[]) :: Prod.mk (nat_lit 153) (@PySem.Obj.mk (@PySem.Value.type "function") (@Option.none @Nat) (@PySem.Data.func (PySem.W.fnOf "moments" "moments" (defArgs (topS 26)) (defBody (topS 26)) (defScope (topS 26)) .none @PySem.Value.none @PySem.Value.none (@PySem.Value.str ("tornsectors.histories" : PySem.Str) 249) (@Option.none @Nat) (@PySem.Value.ref 152) @PySem.Value.none)) #[]) :: Prod.mk (nat_lit 157) (@PySem.Obj.mk (@PySem.Value.type "code") (@Option.none @Nat) (@PySem.Data.fields #[(@PySem.Value.str ("by_snapshots" : PySem.Str) 363), (@PySem.Value.str ("by_snapshots" : PySem.Str) 364), (@PySem.Value.str ("/claim/cut.py" : PySem.Str) 365), (@PySem.Value.int 120 0), (@PySem.Value.int 1 0), (@PySem.Value.int 0 0), (@PySem.Value.int 0 0), (@PySem.Value.int 3 0), (@PySem.Value.ref 154), (@PySem.Value.bool @Bool.true), (@PySem.Value.int 181 0), (@PySem.Value.ref 155), @PySem.Value.none, @PySem.Value.none, @PySem.Value.none, (@PySem.Value.ref 156), (@PySem.Value.int 366 0), (@PySem.Value.int 120 0), (@PySem.Value.str ("/claim/cut.py" : PySem.Str) 367)]) #[]) :: Prod.mk (nat_lit 158) (@PySem.Obj.mk (@PySem.Value.type "function") (@Option.none @Nat) (@PySem.Data.func (PySem.W.fnOf "by_snapshots" "by_snapshots" (defArgs (topS 27)) (defBody (topS 27)) (defScope (topS 27)) .none @PySem.Value.none @PySem.Value.none (@PySem.Value.str ("tornsectors.histories" : PySem.Str) 249) (@Option.none @Nat) (@PySem.Value.ref 157) @PySem.Value.none)) #[]) :: Prod.mk (nat_lit 162) (@PySem.Obj.mk (@PySem.Value.type "code") (@Option.none @Nat) (@PySem.Data.fields #[(@PySem.Value.str ("_law_pool" : PySem.Str) 371), (@PySem.Value.str ("_law_pool" : PySem.Str) 372), (@PySem.Value.str ("/claim/cut.py" : PySem.Str) 373), (@PySem.Value.int 124 0), (@PySem.Value.int 1 0), (@PySem.Value.int 0 0), (@PySem.Value.int 0 0), (@PySem.Value.int 3 0), (@PySem.Value.ref 159), (@PySem.Value.bool @Bool.true), (@PySem.Value.int 181 0), (@PySem.Value.ref 160), @PySem.Value.none, @PySem.Value.none, @PySem.Value.none, (@PySem.Value.ref 161), (@PySem.Value.int 374 0), (@PySem.Value.int 124 0), (@PySem.Value.str ("/claim/cut.py" : PySem.Str) 375)]) #[]) :: Prod.mk (nat_lit 163) (@PySem.Obj.mk (@PySem.Value.type "function") (@Option.none @Nat) (@PySem.Data.func (PySem.W.fnOf "_law_pool" "_law_pool" (defArgs (topS 29)) (defBody (topS 29)) (defScope (topS 29)) .none @PySem.Value.none @PySem.Value.none (@PySem.Value.str ("law_tornsectors_k90_histories_refused" : PySem.Str) 369) (@Option.none @Nat) (@PySem.Value.ref 162) @PySem.Value.none)) #[]) :: Prod.mk (nat_lit 169) (@PySem.Obj.mk (@PySem.Value.type "code") (@Option.none @Nat) (@PySem.Data.fields #[(@PySem.Value.str ("_law_draw" : PySem.Str) 377), (@PySem.Value.str ("_law_draw" : PySem.Str) 378), (@PySem.Value.str ("/claim/cut.py" : PySem.Str) 379), (@PySem.Value.int 126 0), (@PySem.Value.int 2 0), (@PySem.Value.int 0 0), (@PySem.Value.int 0 0), (@PySem.Value.int 3 0), (@PySem.Value.ref 164), (@PySem.Value.bool @Bool.true), (@PySem.Value.int 181 0), (@PySem.Value.ref 165), @PySem.Value.none, (@PySem.Value.ref 166), (@PySem.Value.ref 167), (@PySem.Value.ref 168), (@PySem.Value.int 385 0), (@PySem.Value.int 126 0), (@PySem.Value.str ("/claim/cut.py" : PySem.Str) 386)]) #[]) :: Prod.mk (nat_lit 170) (@PySem.Obj.mk (@PySem.Value.type "function") (@Option.none @Nat) (@PySem.Data.func (PySem.W.fnOf "_law_draw" "_law_draw" (defArgs (topS 30)) (defBody (topS 30)) (defScope (topS 30)) .none @PySem.Value.none @PySem.Value.none (@PySem.Value.str ("law_tornsectors_k90_histories_refused" : PySem.Str) 369) (@Option.none @Nat) (@PySem.Value.ref 169) @PySem.Value.none)) #[]) :: Prod.mk (nat_lit 176) (@PySem.Obj.mk (@PySem.Value.type "code") (@Option.none @Nat) (@PySem.Data.fields #[(@PySem.Value.str ("_law_any" : PySem.Str) 388), (@PySem.Value.str ("_law_any" : PySem.Str) 389), (@PySem.Value.str ("/claim/cut.py" : PySem.Str) 390), (@PySem.Value.int 143 0), (@PySem.Value.int 2 0), (@PySem.Value.int 0 0), (@PySem.Value.int 0 0), (@PySem.Value.int 3 0), (@PySem.Value.ref 171), (@PySem.Value.bool @Bool.true), (@PySem.Value.int 181 0), (@PySem.Value.ref 172), @PySem.Value.none, (@PySem.Value.ref 173), (@PySem.Value.ref 174), (@PySem.Value.ref 175), (@PySem.Value.int 393 0), (@PySem.Value.int 143 0), (@PySem.Value.str ("/claim/cut.py" : PySem.Str) 394)]) #[]) :: Prod.mk (nat_lit 177) (@PySem.Obj.mk (@PySem.Value.type "function") (@Option.none @Nat) (@PySem.Data.func (PySem.W.fnOf "_law_any" "_law_any" (defArgs (topS 31)) (defBody (topS 31)) (defScope (topS 31)) .none @PySem.Value.none @PySem.Value.none (@PySem.Value.str ("law_tornsectors_k90_histories_refused" : PySem.Str) 369) (@Option.none @Nat) (@PySem.Value.ref 176) @PySem.Value.none)) #[]) :: Prod.mk (nat_lit 183) (@PySem.Obj.mk (@PySem.Value.type "code") (@Option.none @Nat) (@PySem.Data.fields #[(@PySem.Value.str ("_law_is_int" : PySem.Str) 396), (@PySem.Value.str ("_law_is_int" : PySem.Str) 397), (@PySem.Value.str ("/claim/cut.py" : PySem.Str) 398), (@PySem.Value.int 145 0), (@PySem.Value.int 3 0), (@PySem.Value.int 0 0), (@PySem.Value.int 0 0), (@PySem.Value.int 3 0), (@PySem.Value.ref 178), (@PySem.Value.bool @Bool.true), (@PySem.Value.int 181 0), (@PySem.Value.ref 179), @PySem.Value.none, (@PySem.Value.ref 180), (@PySem.Value.ref 181), (@PySem.Value.ref 182), (@PySem.Value.int 402 0), (@PySem.Value.int 145 0), (@PySem.Value.str ("/claim/cut.py" : PySem.Str) 403)]) #[]) :: Prod.mk (nat_lit 184) (@PySem.Obj.mk (@PySem.Value.type "function") (@Option.none @Nat) (@PySem.Data.func (PySem.W.fnOf "_law_is_int" "_law_is_int" (defArgs (topS 32)) (defBody (topS 32)) (defScope (topS 32)) .none @PySem.Value.none @PySem.Value.none (@PySem.Value.str ("law_tornsectors_k90_histories_refused" : PySem.Str) 369) (@Option.none @Nat) (@PySem.Value.ref 183) @PySem.Value.none)) #[]) :: Prod.mk (nat_lit 190) (@PySem.Obj.mk (@PySem.Value.type "code") (@Option.none @Nat) (@PySem.Data.fields #[(@PySem.Value.str ("_law_deep" : PySem.Str) 405), (@PySem.Value.str ("_law_deep" : PySem.Str) 406), (@PySem.Value.str ("/claim/cut.py" : PySem.Str) 407), (@PySem.Value.int 147 0), (@PySem.Value.int 2 0), (@PySem.Value.int 0 0), (@PySem.Value.int 0 0), (@PySem.Value.int 3 0), (@PySem.Value.ref 185), (@PySem.Value.bool @Bool.true), (@PySem.Value.int 181 0), (@PySem.Value.ref 186), @PySem.Value.none, (@PySem.Value.ref 187), (@PySem.Value.ref 188), (@PySem.Value.ref 189), (@PySem.Value.int 411 0), (@PySem.Value.int 147 0), (@PySem.Value.str ("/claim/cut.py" : PySem.Str) 412)]) #[]) :: Prod.mk (nat_lit 191) (@PySem.Obj.mk (@PySem.Value.type "function") (@Option.none @Nat) (@PySem.Data.func (PySem.W.fnOf "_law_deep" "_law_deep" (defArgs (topS 33)) (defBody (topS 33)) (defScope (topS 33)) .none @PySem.Value.none @PySem.Value.none (@PySem.Value.str ("law_tornsectors_k90_histories_refused" : PySem.Str) 369) (@Option.none @Nat) (@PySem.Value.ref 190) @PySem.Value.none)) #[]) :: Prod.mk (nat_lit 195) (@PySem.Obj.mk (@PySem.Value.type "code") (@Option.none @Nat) (@PySem.Data.fields #[(@PySem.Value.str ("_law_history" : PySem.Str) 414), (@PySem.Value.str ("_law_history" : PySem.Str) 415), (@PySem.Value.str ("/claim/cut.py" : PySem.Str) 416), (@PySem.Value.int 151 0), (@PySem.Value.int 2 0), (@PySem.Value.int 0 0), (@PySem.Value.int 0 0), (@PySem.Value.int 3 0), (@PySem.Value.ref 192), (@PySem.Value.bool @Bool.true), (@PySem.Value.int 181 0), (@PySem.Value.ref 193), @PySem.Value.none, @PySem.Value.none, @PySem.Value.none, (@PySem.Value.ref 194), (@PySem.Value.int 417 0), (@PySem.Value.int 151 0), (@PySem.Value.str ("/claim/cut.py" : PySem.Str) 418)]) #[]) :: Prod.mk (nat_lit 196) (@PySem.Obj.mk (@PySem.Value.type "function") (@Option.none @Nat) (@PySem.Data.func (PySem.W.fnOf "_law_history" "_law_history" (defArgs (topS 34)) (defBody (topS 34)) (defScope (topS 34)) .none @PySem.Value.none @PySem.Value.none (@PySem.Value.str ("law_tornsectors_k90_histories_refused" : PySem.Str) 369) (@Option.none @Nat) (@PySem.Value.ref 195) @PySem.Value.none)) #[]) :: Prod.mk (nat_lit 200) (@PySem.Obj.mk (@PySem.Value.type "code") (@Option.none @Nat) (@PySem.Data.fields #[(@PySem.Value.str ("_law_is_reads" : PySem.Str) 420), (@PySem.Value.str ("_law_is_reads" : PySem.Str) 421), (@PySem.Value.str ("/claim/cut.py" : PySem.Str) 422), (@PySem.Value.int 172 0), (@PySem.Value.int 3 0), (@PySem.Value.int 0 0), (@PySem.Value.int 0 0), (@PySem.Value.int 3 0), (@PySem.Value.ref 197), (@PySem.Value.bool @Bool.true), (@PySem.Value.int 181 0), (@PySem.Value.ref 198), @PySem.Value.none, @PySem.Value.none, @PySem.Value.none, (@PySem.Value.ref 199), (@PySem.Value.int 423 0), (@PySem.Value.int 172 0), (@PySem.Value.str ("/claim/cut.py" : PySem.Str) 424)]) #[]) :: Prod.mk (nat_lit 201) (@PySem.Obj.mk (@PySem.Value.type "function") (@Option.none @Nat) (@PySem.Data.func (PySem.W.fnOf "_law_is_reads" "_law_is_reads" (defArgs (topS 35)) (defBody (topS 35)) (defScope (topS 35)) .none @PySem.Value.none @PySem.Value.none (@PySem.Value.str ("law_tornsectors_k90_histories_refused" : PySem.Str) 369) (@Option.none @Nat) (@PySem.Value.ref 200) @PySem.Value.none)) #[]) :: Prod.mk (nat_lit 205) (@PySem.Obj.mk (@PySem.Value.type "code") (@Option.none @Nat) (@PySem.Data.fields #[(@PySem.Value.str ("_law_is_keys" : PySem.Str) 426), (@PySem.Value.str ("_law_is_keys" : PySem.Str) 427), (@PySem.Value.str ("/claim/cut.py" : PySem.Str) 428), (@PySem.Value.int 183 0), (@PySem.Value.int 1 0), (@PySem.Value.int 0 0), (@PySem.Value.int 0 0), (@PySem.Value.int 3 0), (@PySem.Value.ref 202), (@PySem.Value.bool @Bool.true), (@PySem.Value.int 181 0), (@PySem.Value.ref 203), @PySem.Value.none, @PySem.Value.none, @PySem.Value.none, (@PySem.Value.ref 204), (@PySem.Value.int 429 0), (@PySem.Value.int 183 0), (@PySem.Value.str ("/claim/cut.py" : PySem.Str) 430)]) #[]) :: Prod.mk (nat_lit 206) (@PySem.Obj.mk (@PySem.Value.type "function") (@Option.none @Nat) (@PySem.Data.func (PySem.W.fnOf "_law_is_keys" "_law_is_keys" (defArgs (topS 36)) (defBody (topS 36)) (defScope (topS 36)) .none @PySem.Value.none @PySem.Value.none (@PySem.Value.str ("law_tornsectors_k90_histories_refused" : PySem.Str) 369) (@Option.none @Nat) (@PySem.Value.ref 205) @PySem.Value.none)) #[]) :: Prod.mk (nat_lit 210) (@PySem.Obj.mk (@PySem.Value.type "code") (@Option.none @Nat) (@PySem.Data.fields #[(@PySem.Value.str ("_law_is_history" : PySem.Str) 432), (@PySem.Value.str ("_law_is_history" : PySem.Str) 433), (@PySem.Value.str ("/claim/cut.py" : PySem.Str) 434), (@PySem.Value.int 187 0), (@PySem.Value.int 1 0), (@PySem.Value.int 0 0), (@PySem.Value.int 0 0), (@PySem.Value.int 3 0), (@PySem.Value.ref 207), (@PySem.Value.bool @Bool.true), (@PySem.Value.int 181 0), (@PySem.Value.ref 208), @PySem.Value.none, @PySem.Value.none, @PySem.Value.none, (@PySem.Value.ref 209), (@PySem.Value.int 435 0), (@PySem.Value.int 187 0), (@PySem.Value.str ("/claim/cut.py" : PySem.Str) 436)]) #[]) :: Prod.mk (nat_lit 211) (@PySem.Obj.mk (@PySem.Value.type "function") (@Option.none @Nat) (@PySem.Data.func (PySem.W.fnOf "_law_is_history" "_law_is_history" (defArgs (topS 37)) (defBody (topS 37)) (defScope (topS 37)) .none @PySem.Value.none @PySem.Value.none (@PySem.Value.str ("law_tornsectors_k90_histories_refused" : PySem.Str) 369) (@Option.none @Nat) (@PySem.Value.ref 210) @PySem.Value.none)) #[]) :: Prod.mk (nat_lit 215) (@PySem.Obj.mk (@PySem.Value.type "code") (@Option.none @Nat) (@PySem.Data.fields #[(@PySem.Value.str ("_law_bent" : PySem.Str) 438), (@PySem.Value.str ("_law_bent" : PySem.Str) 439), (@PySem.Value.str ("/claim/cut.py" : PySem.Str) 440), (@PySem.Value.int 193 0), (@PySem.Value.int 2 0), (@PySem.Value.int 0 0), (@PySem.Value.int 0 0), (@PySem.Value.int 3 0), (@PySem.Value.ref 212), (@PySem.Value.bool @Bool.true), (@PySem.Value.int 181 0), (@PySem.Value.ref 213), @PySem.Value.none, @PySem.Value.none, @PySem.Value.none, (@PySem.Value.ref 214), (@PySem.Value.int 441 0), (@PySem.Value.int 193 0), (@PySem.Value.str ("/claim/cut.py" : PySem.Str) 442)]) #[]) :: Prod.mk (nat_lit 216) (@PySem.Obj.mk (@PySem.Value.type "function") (@Option.none @Nat) (@PySem.Data.func (PySem.W.fnOf "_law_bent" "_law_bent" (defArgs (topS 38)) (defBody (topS 38)) (defScope (topS 38)) .none @PySem.Value.none @PySem.Value.none (@PySem.Value.str ("law_tornsectors_k90_histories_refused" : PySem.Str) 369) (@Option.none @Nat) (@PySem.Value.ref 215) @PySem.Value.none)) #[]) :: Prod.mk (nat_lit 222) (@PySem.Obj.mk (@PySem.Value.type "code") (@Option.none @Nat) (@PySem.Data.fields #[(@PySem.Value.str ("_law_word" : PySem.Str) 444), (@PySem.Value.str ("_law_word" : PySem.Str) 445), (@PySem.Value.str ("/claim/cut.py" : PySem.Str) 446), (@PySem.Value.int 217 0), (@PySem.Value.int 3 0), (@PySem.Value.int 0 0), (@PySem.Value.int 0 0), (@PySem.Value.int 3 0), (@PySem.Value.ref 217), (@PySem.Value.bool @Bool.true), (@PySem.Value.int 181 0), (@PySem.Value.ref 218), @PySem.Value.none, (@PySem.Value.ref 219), (@PySem.Value.ref 220), (@PySem.Value.ref 221), (@PySem.Value.int 452 0), (@PySem.Value.int 217 0), (@PySem.Value.str ("/claim/cut.py" : PySem.Str) 453)]) #[]) :: Prod.mk (nat_lit 223) (@PySem.Obj.mk (@PySem.Value.type "function") (@Option.none @Nat) (@PySem.Data.func (PySem.W.fnOf "_law_word" "_law_word" (defArgs (topS 39)) (defBody (topS 39)) (defScope (topS 39)) .none @PySem.Value.none @PySem.Value.none (@PySem.Value.str ("law_tornsectors_k90_histories_refused" : PySem.Str) 369) (@Option.none @Nat) (@PySem.Value.ref 222) @PySem.Value.none)) #[]) :: Prod.mk (nat_lit 229) (@PySem.Obj.mk (@PySem.Value.type "code") (@Option.none @Nat) (@PySem.Data.fields #[(@PySem.Value.str ("law" : PySem.Str) 455), (@PySem.Value.str ("law" : PySem.Str) 456), (@PySem.Value.str ("/claim/cut.py" : PySem.Str) 457), (@PySem.Value.int 227 0), (@PySem.Value.int 1 0), (@PySem.Value.int 0 0), (@PySem.Value.int 0 0), (@PySem.Value.int 3 0), (@PySem.Value.ref 224), (@PySem.Value.bool @Bool.true), (@PySem.Value.int 181 0), (@PySem.Value.ref 225), @PySem.Value.none, (@PySem.Value.ref 226), (@PySem.Value.ref 227), (@PySem.Value.ref 228), (@PySem.Value.int 467 0), (@PySem.Value.int 227 0), (@PySem.Value.str ("/claim/cut.py" : PySem.Str) 468)]) #[]) :: Prod.mk (nat_lit 230) (@PySem.Obj.mk (@PySem.Value.type "function") (@Option.none @Nat) (@PySem.Data.func (PySem.W.fnOf "law" "law" (defArgs (topS 40)) (defBody (topS 40)) (defScope (topS 40)) .none @PySem.Value.none @PySem.Value.none (@PySem.Value.str ("law_tornsectors_k90_histories_refused" : PySem.Str) 369) (@Option.none @Nat) (@PySem.Value.ref 229) @PySem.Value.none)) #[]) :: []
noncomputable def asK : List Addr := [nat_lit 1, nat_lit 2, nat_lit 3, nat_lit 23, nat_lit 24, nat_lit 25, nat_lit 36, nat_lit 37, nat_lit 45, nat_lit 46, nat_lit 52, nat_lit 53, nat_lit 59, nat_lit 60, nat_lit 64, nat_lit 65, nat_lit 71, nat_lit 72, nat_lit 76, nat_lit 77, nat_lit 81, nat_lit 82, nat_lit 88, nat_lit 89, nat_lit 93, nat_lit 94, nat_lit 98, nat_lit 99, nat_lit 103, nat_lit 104, nat_lit 110, nat_lit 111, nat_lit 115, nat_lit 116, nat_lit 120, nat_lit 121, nat_lit 127, nat_lit 128, nat_lit 132, nat_lit 133, nat_lit 137, nat_lit 138, nat_lit 142, nat_lit 143, nat_lit 147, nat_lit 148, nat_lit 152, nat_lit 153, nat_lit 157, nat_lit 158, nat_lit 162, nat_lit 163, nat_lit 169, nat_lit 170, nat_lit 176, nat_lit 177, nat_lit 183, nat_lit 184, nat_lit 190, nat_lit 191, nat_lit 195, nat_lit 196, nat_lit 200, nat_lit 201, nat_lit 205, nat_lit 206, nat_lit 210, nat_lit 211, nat_lit 215, nat_lit 216, nat_lit 222, nat_lit 223, nat_lit 229, nat_lit 230]
theorem as_eq (P : Params) : asK = (Kh P).map (·.1) := by rfl
noncomputable abbrev R : PySem.W.OpenRow := PySem.W.OpenLaw.row PySem.Challenge.rw_tornsectors_k90_histories_refused
noncomputable abbrev hk : PySem.W.Hook := PySem.W.kHook Kh asK as_eq
noncomputable def ob (s : PySem.W.SharedT) : List (Option Obj) := asK.map (HandSHeadRun.getT s)
theorem ob_eq (s : PySem.W.SharedT) : ob s = hk.obs s.abs := List.map_congr_left fun a _ => HandSHeadRun.getT_eq s a
theorem run (w : World) : HandSHeadRun.RunEq R (PySem.W.view R.prog [40]) hk ob 8000 names w := by
  intro os
  kernel_rfl
end SH
/-! HDict: dicts whose keys are None, or tuples, beside each other. -/
namespace HD
open PySem PySem.Spec PyProof.Rows L2
open Sem (wp)

/-- keys: None or an object that is known by what it holds; a key's value by its address (of None: any) -/
structure HK (prog : Program) (w : World) (K : Type) [DecidableEq K] where
  is : Heap → K → Addr → Prop
  val : K → Addr → Value
  hash : K → Int
  draws : K → Nat
  room : Around → Prop
  shape : ∀ (k : K) (a : Addr), val k a = .none ∨ val k a = .ref a
  inj : ∀ {h : Heap} {a b : Addr} {x y : K}, is h x a → is h y b → val x a = val y b → x = y
  keeps : ∀ {h h' : Heap} {k : K} {a : Addr} {d : Addr} {o : Obj} {es ep}, is h k a → h.get? d = some o → o.data = .dict es ep → Heap.SameBut d h h' → is h' k a
  pyHash : ∀ {A : Around} {E : Value → Shared → Prop} {s : Shared} {k : K} {a : Addr} {Q : Int → Shared → Prop}, room A → is s.heap k a → Q (hash k) { s with toks := s.toks + draws k } → wpAny (model prog w) A (PySem.pyHash (val k a)) Q E s
  eqBool : ∀ {A : Around} {E : Value → Shared → Prop} {s : Shared} {x y : K} {a b : Addr} {Q : Bool → Shared → Prop}, room A → is s.heap x a → is s.heap y b → Q (decide (x = y)) s → wpAny (model prog w) A (PySem.eqBool (val x a) (val y b)) Q E s
  quiet : ∀ {A : Around} {E : Value → Shared → Prop} {s : Shared} {k : K} {a : Addr} {Q : Bool → Shared → Prop}, is s.heap k a → Q true s → wpAny (model prog w) A (eqIsQuiet 8 (val k a)) Q E s
noncomputable abbrev Row (K : Type) := List (K × Addr × Value)
section
variable {prog : Program} {w : World} {K : Type} [DecidableEq K] (knd : HK prog w K)
noncomputable def entryOf (x : K × Addr × Value) : DictEntry := ⟨knd.hash x.1, knd.val x.1 x.2.1, x.2.2⟩
noncomputable def DictAt (h : Heap) (d : Addr) (xs : Row K) : Prop :=
  ∃ o es ep, h.get? d = some o ∧ o.ExactDict ∧ o.data = .dict es ep ∧ es.toList = xs.map (entryOf knd) ∧ (∀ x ∈ xs, knd.is h x.1 x.2.1) ∧ (xs.map (·.1)).Nodup
variable {knd}
theorem DictAt.typeIs {s : Shared} {d : Addr} {xs : Row K} (hm : DictAt knd s.heap d xs) : s.TypeIs (.ref d) "dict" :=
  let ⟨o, _, _, ho, hc, _⟩ := hm; ⟨o, ho, hc.1⟩
theorem DictAt.new (h : Heap) : DictAt knd (h.push { cls := .type "dict", data := .dict #[] }) h.objs.size [] :=
  ⟨_, #[], 0, Heap.get?_push_size _ rfl, ⟨rfl, rfl, rfl⟩, rfl, rfl, fun _ hx => by simp at hx, List.nodup_nil⟩
variable {A : Around} {E : Value → Shared → Prop} {s : Shared}
end
end HD

namespace HD
open PySem PySem.Spec PyProof.Rows L2
section
variable {prog : Program} {w : World} {K : Type} [DecidableEq K] {knd : HK prog w K} {A : Around} {E : Value → Shared → Prop} {s : Shared}
end
/-! ### None and tuples of ints -/
noncomputable def heldVal (k : Option (List Int)) (a : Addr) : Value := match k with
  | none => .none
  | some _ => .ref a
end HD
/-! HHeld: dicts of None and tuples of ints, in the hand layer's words. -/
namespace HD
open PySem PySem.Spec PyProof.Rows L2

noncomputable abbrev Hk := Option (List Int)
noncomputable def hashOf : Hk → Int
  | none => reduceHash 0xFCA86420
  | some ks => reduceHash (Builtin.Tuple.tupleHashOf (ks.map hashInt))
noncomputable def ent (x : Hk × Addr × Value) : DictEntry := ⟨hashOf x.1, heldVal x.1 x.2.1, x.2.2⟩
/-- the dict at d, without its keys' objects -/
structure HldRaw (d : Addr) (rows : Row Hk) (h : Heap) : Prop where
  no : (d == sysModules) = false
  len : rows.length ≤ sizeLine
  nd : (rows.map (·.1)).Nodup
  ob : ∃ o es ep, h.get? d = some o ∧ o.ExactDict ∧ o.data = .dict es ep ∧ es.toList = rows.map ent
noncomputable def hld (d : Addr) (rows : Row Hk) : HO := .ext (HldRaw d rows)
/-- the keys' tuples are there -/
noncomputable def KeysIn (K : PySem.W.Frag) (H : Hp) (rows : Row Hk) : Prop := ∀ x ∈ rows, ∀ ks, x.1 = some ks → SqT K H x.2.1 (ks.map V.int)
section
variable {X : Cx} {pins : List (Addr × Obj)} {σ : L2.St} {H : Hp} {s : Shared} {d : Addr} {rows : Row Hk}
end
section
variable {X : Cx} {kx vx : Expr} {pos : Pos} {tk tv : TE}
end
end HD
/-! set(xs) of a list of ints, told so that sorted() of it can be told (SetR): the kit tells it of a tuple. -/
namespace HSetL
open PySem PySem.Spec PyProof.Rows L2

noncomputable abbrev emptySet (w : World) : Obj := { cls := .type "set", dict := none, data := .set #[] 0 (.fresh 0 0 (!w.params.followText "set-order")) }
section
variable {P : Program} {w : World} {A : Around} {E : Value → Shared → Prop} {s : Shared}
/-- what the set's __init__ leaves -/
noncomputable def Filled (w : World) (s : Shared) (ns : List Int) (s2 : Shared) : Prop :=
  ∃ h' tk c, s2 = { s with heap := h', toks := tk } ∧ SetR w h' s.heap.objs.size (fun j => decide (j ∈ ns)) c ∧ c ≤ ns.length ∧ ∀ b o, s.heap.get? b = some o → h'.get? b = some o
theorem int_row {items : Array Value} {ns : List Int} (hit : IntsAre items.toList ns) : items.size = ns.length ∧ ∀ (i : Nat) (v : Value), items[i]? = some v → ∃ k t, ns[i]? = some k ∧ v = .int k t := by
  have hsz : items.size = ns.length := by rw [← IntsAre.length hit, Array.length_toList]
  refine ⟨hsz, fun i v hv => ?_⟩
  have hi : i < ns.length := hsz ▸ (Array.getElem?_eq_some_iff.mp hv).1
  obtain ⟨t, e⟩ := PyProof.Rows.IntsAre.int_at hit i v (by rw [Array.getElem?_toList]; exact hv)
  refine ⟨ns[i], t, List.getElem?_eq_getElem hi, ?_⟩
  rw [e, List.getD_eq_getElem?_getD, List.getElem?_eq_getElem hi]
  rfl
set_option maxHeartbeats 3200000 in
theorem call_set_lstI {l : Addr} {items : Array Value} (ns : List Int) {Q : Value → Shared → Prop} (hh : A.handled = none) (hl : s.heap.IsList l items) (hit : IntsAre items.toList ns) (hb : ns.length + 1 < scanBound)
    (h : ∀ s2, Filled w s ns s2 → Q (.ref s.heap.objs.size) s2) :
    wpAny (model P w) A (call (.type "set") [.ref l]) Q E s := by
  obtain ⟨hisz, hval⟩ := int_row hit
  obtain ⟨c, tl, hmro⟩ := F.called_set.mro
  have hmade := F.called_set.made
  have hsub := F.called_set.sub
  refine wpAny_call (codeAny_of_tree ?_)
  show wpAny _ _ (callAny (.type "set") _) _ _ _
  refine wpAny_pure ⟨Code.quiet_builtin _ (by decide +kernel), codeAny_builtin F.entry_type_call ?_⟩
  rw [Around.under_plain (weight_type_call_type "set" [.ref l] []) rfl]
  have h1 := F.called_set.notType
  have h2 := F.called_set.canCreate
  have hct := F.typeCall_set_1 (.ref l)
  repeat (any_goals (first | assumption | wp_step))
  refine codeAny_mono (code_set_led1 (.ref l) (E := E) (Q₁ := fun obj s1 => obj = .ref s.heap.objs.size ∧ s1 = { s with heap := s.heap.push (emptySet w) }) ⟨rfl, rfl⟩) fun r s1 hr => ?_
  match r, hr with
  | .error e, hr => exact hr
  | .ok (.ret obj), hr =>
    obtain ⟨rfl, rfl⟩ := hr
    have hS : (s.heap.push (emptySet w)).get? s.heap.objs.size = some (emptySet w) := Heap.get?_push_size _ rfl
    have hT : Shared.TypeIs { s with heap := s.heap.push (emptySet w) } (.ref s.heap.objs.size) "set" := ⟨_, hS, rfl⟩
    have hli := F.called_set.init.lookup
    have hbi := F.called_set.init.bind (.ref s.heap.objs.size)
    repeat (any_goals (first | assumption | wp_step))
    refine codeAny_mono (codeAny_call_builtin (R := wants (fun r s2 => r = .none ∧ Filled w s ns s2) E) F.called_set.init.plain F.entry_set_init (check_set_init_1 hT ?_)) fun r2 s2 hr2 => ?_
    · obtain ⟨⟨ocls, odict, odata, oslots⟩, hol, hcl, nl, hdl⟩ := hl
      simp only at hcl hdl
      subst hcl; subst hdl
      have hlS : l < s.heap.objs.size := Heap.lt_size hol
      have hol' : (s.heap.push (emptySet w)).get? l = some { cls := .type "list", dict := odict, data := .seq items nl, slots := oslots } := Heap.get?_push_of_some _ hol
      have hsls := F.sub_list_set
      have hslf := F.sub_list_frozenset
      have hne : (Value.type "list" == Value.type "dict") = false := by decide
      have hl1 : (s.heap.push (emptySet w)).IsList l items := ⟨_, hol', rfl, nl, rfl⟩
      unfold Builtin.«set.__init__» noKeywords Builtin.Frozenset.updateFrom
      generalize hPI : pyIter = PI
      wp_walk
      subst hPI
      refine wpAny_pyIter_list hl1 (wpAny_bind (wpAny_runValue ?_))
      have hh3 : A.in1.in1.in1.handled = none := by simp [hh]
      have hneI : l ≠ (s.heap.push (emptySet w)).objs.size := by
        rw [Heap.size_push]; exact Nat.ne_of_lt (Nat.lt_succ_of_lt hlS)
      have hSf : s.heap.objs.size ∉ [(s.heap.push (emptySet w)).objs.size, l] := by
        rw [Heap.size_push]; simp only [List.mem_cons, List.not_mem_nil, or_false, not_or]
        exact ⟨Nat.ne_of_lt (Nat.lt_succ_self _), Nat.ne_of_gt hlS⟩
      refine set_update_ints ((Walks.list hh3 _ l hneI items).toS) s.heap.objs.size hSf ns hisz hb hval (items.size - 0) 0 _ (by omega) (Nat.zero_le _)
        ⟨⟨_, Heap.get?_push_size _ rfl, rfl, rfl⟩, (hl1.push _)⟩ ⟨0, Nat.le_refl 0, setR_new_at (Heap.get?_push_of_some _ hS)⟩ ?_
      rintro ⟨h', g2, d', tk', os'⟩ c' hm hc' hS'
      have eg : g2 = s.gens := hm.gens
      have ed : d' = s.drawn := hm.drawn
      have eo : os' = s.os := hm.os
      subst eg; subst ed; subst eo
      show wpAny _ _ _ _ _ _
      refine wpAny_pure ?_
      show wpAny _ _ (ret Value.none) _ _ _
      refine wpAny_pure ⟨rfl, h', tk', c', rfl, hS', hisz ▸ hc', fun b o e => ?_⟩
      have hb0 : b < s.heap.objs.size := Heap.lt_size e
      have hb2 : b ≠ (s.heap.push (emptySet w)).objs.size := by
        rw [Heap.size_push]; exact Nat.ne_of_lt (Nat.lt_succ_of_lt hb0)
      exact hm.heap b o (by simp only [List.mem_cons, List.not_mem_nil, or_false, not_or]; exact ⟨Nat.ne_of_lt hb0, hb2⟩) (Heap.get?_push_of_some _ (Heap.get?_push_of_some _ e))
    · match r2, hr2 with
      | .error e, hr2 => exact hr2
      | .ok (.ret r), hr2 =>
        obtain ⟨rfl, hf⟩ := hr2
        repeat (any_goals (first | assumption | wp_step))
        obtain ⟨h', tk, c', rfl, f⟩ := hf
        exact h _ ⟨h', tk, c', rfl, f⟩
end
end HSetL
/-! AB: an abstract machine over data, and how the hand layer's judgements follow it. -/
namespace AB
open PySem PySem.Spec PyProof.Rows L2

inductive D where
  | non | bl (b : Bool) | int (i : Int) | str (x : Str) | tup (ds : List D) | lst (ds : List D) | rol (ds : List D) | loc (n : Nat) | con (a : Addr)
inductive AO where
  | lst (ds : List D)
  | ins (C : Str) (fs : List (Str × D))
  | dct (kvs : List (L2.Key × D))
  /-- a dict while a loop walks it -/
  | lck (kvs : List (L2.Key × D))
  /-- a dict whose keys are None and tuples of ints: its keys -/
  | hld (ks : List HD.Hk)
noncomputable abbrev AH := List AO
noncomputable abbrev Env := List (Option D)

/-- what stands for ever (S), what must stay as it is now (F), where the machine's objects lie (mu), how many they are (N) -/
structure Wd where
  S : Hp
  F : Hp
  mu : Nat → Addr
  N : Nat
  LK : Hp

mutual
inductive RepV (K : PySem.W.Frag) (G : Hp) (mu : Nat → Addr) (N : Nat) : V → D → Prop
  | non : RepV K G mu N .non .non
  | bl (b : Bool) : RepV K G mu N (.bl b) (.bl b)
  | int (i : Int) : RepV K G mu N (.int i) (.int i)
  | str (x : Str) : RepV K G mu N (.str x) (.str x)
  | tup {a : Addr} {xs : List V} {ds : List D} : SqT K G a xs → RepAll K G mu N xs ds → RepV K G mu N (.ref a) (.tup ds)
  | lst {a : Addr} {xs : List V} {ds : List D} : Rd G a (.lst xs) → RepAll K G mu N xs ds → RepV K G mu N (.ref a) (.lst ds)
  | rol {a : Addr} {xs : List V} {ds : List D} : SqL K G a xs → RepAll K G mu N xs ds → RepV K G mu N (.ref a) (.rol ds)
  | loc {n : Nat} : n < N → RepV K G mu N (.ref (mu n)) (.loc n)
  | con {a : Addr} : RepV K G mu N (.ref a) (.con a)
inductive RepAll (K : PySem.W.Frag) (G : Hp) (mu : Nat → Addr) (N : Nat) : List V → List D → Prop
  | nil : RepAll K G mu N [] []
  | cons {v : V} {vs : List V} {d : D} {ds : List D} : RepV K G mu N v d → RepAll K G mu N vs ds → RepAll K G mu N (v :: vs) (d :: ds)
end

section
variable {K : PySem.W.Frag} {G G' H H' : Hp} {mu mu' : Nat → Addr} {N N' : Nat}
noncomputable def Ext (H H' : Hp) : Prop := ∀ a o, H a = some o → H' a = some o
theorem Ext.refl (H : Hp) : Ext H H := fun _ _ h => h
theorem Ext.trans {H H1 H2 : Hp} (a : Ext H H1) (b : Ext H1 H2) : Ext H H2 := fun x o h => b x o (a x o h)
theorem Ext.new {H : Hp} {p : Addr} {o : HO} (h : H p = none) : Ext H (upd H p o) := fun a u e => by
  rw [upd_ne (ne_of_none e h)]
  exact e
theorem Ext.rd {a : Addr} {u : HO} (e : Ext H H') (h : Rd H a u) : Rd H' a u := by
  rcases h with h | ⟨o, h⟩
  · exact .inl (e a _ h)
  · exact .inr ⟨o, e a _ h⟩
theorem Ext.l {a : Addr} {xs : List V} (e : Ext H H') (h : SqL K H a xs) : SqL K H' a xs := by
  rcases h with h | h
  · exact .inl (e.rd h)
  · exact .inr h
theorem Ext.t {a : Addr} {xs : List V} (e : Ext H H') (h : SqT K H a xs) : SqT K H' a xs := by
  rcases h with h | h
  · exact .inl (e.rd h)
  · exact .inr h
theorem Ext.free {p : Addr} (e : Ext H H') (h : H' p = none) : H p = none := by
  cases h1 : H p with
  | none => rfl
  | some o =>
    rw [e p o h1] at h
    cases h

mutual
theorem RepV.mono (e : Ext G G') (hN : N ≤ N') (hm : ∀ n, n < N → mu' n = mu n) : ∀ (d : D) (v : V), RepV K G mu N v d → RepV K G' mu' N' v d
  | .non, _, h => by cases h; exact .non
  | .bl _, _, h => by cases h; exact .bl _
  | .int _, _, h => by cases h; exact .int _
  | .str _, _, h => by cases h; exact .str _
  | .tup ds, _, h => by
    cases h with
    | tup a b => exact .tup (e.t a) (RepAll.mono e hN hm ds _ b)
  | .lst ds, _, h => by
    cases h with
    | lst a b => exact .lst (e.rd a) (RepAll.mono e hN hm ds _ b)
  | .rol ds, _, h => by
    cases h with
    | rol a b => exact .rol (e.l a) (RepAll.mono e hN hm ds _ b)
  | .loc n, _, h => by
    cases h with
    | loc a =>
      rw [← hm n a]
      exact .loc (Nat.lt_of_lt_of_le a hN)
  | .con _, _, h => by cases h; exact .con
theorem RepAll.mono (e : Ext G G') (hN : N ≤ N') (hm : ∀ n, n < N → mu' n = mu n) : ∀ (ds : List D) (vs : List V), RepAll K G mu N vs ds → RepAll K G' mu' N' vs ds
  | [], _, h => by cases h; exact .nil
  | d :: ds, _, h => by
    cases h with
    | cons a b => exact .cons (RepV.mono e hN hm d _ a) (RepAll.mono e hN hm ds _ b)
end
theorem RepAll.length : ∀ {vs : List V} {ds : List D}, RepAll K G mu N vs ds → vs.length = ds.length
  | _, _, .nil => rfl
  | _, _, .cons _ b => by rw [List.length_cons, List.length_cons, RepAll.length b]
theorem RepAll.append : ∀ {vs ws : List V} {ds es : List D}, RepAll K G mu N vs ds → RepAll K G mu N ws es → RepAll K G mu N (vs ++ ws) (ds ++ es)
  | _, _, _, _, .nil, h => h
  | _, _, _, _, .cons a b, h => .cons a (RepAll.append b h)
theorem RepAll.get : ∀ {vs : List V} {ds : List D} {i : Nat} {d : D}, RepAll K G mu N vs ds → ds[i]? = some d → ∃ v, vs[i]? = some v ∧ RepV K G mu N v d
  | _, _, _, _, .nil, e => by simp at e
  | _, _, 0, _, .cons a _, e => by
    simp at e
    subst e
    exact ⟨_, rfl, a⟩
  | _, _, i + 1, d, .cons _ b, e => by
    obtain ⟨v, h1, h2⟩ := RepAll.get (i := i) (d := d) b (by simpa using e)
    exact ⟨v, by simpa using h1, h2⟩
theorem RepAll.drop : ∀ {vs : List V} {ds : List D} (n : Nat), RepAll K G mu N vs ds → RepAll K G mu N (vs.drop n) (ds.drop n)
  | _, _, 0, h => h
  | _, _, _ + 1, .nil => .nil
  | _, _, n + 1, .cons _ b => RepAll.drop n b
theorem RepAll.take : ∀ {vs : List V} {ds : List D} (n : Nat), RepAll K G mu N vs ds → RepAll K G mu N (vs.take n) (ds.take n)
  | _, _, 0, _ => .nil
  | _, _, _ + 1, .nil => .nil
  | _, _, n + 1, .cons a b => .cons a (RepAll.take n b)
theorem RepAll.set {v : V} {d : D} (r : RepV K G mu N v d) : ∀ {vs : List V} {ds : List D} (n : Nat), RepAll K G mu N vs ds → RepAll K G mu N (vs.set n v) (ds.set n d)
  | _, _, _, .nil => .nil
  | _, _, 0, .cons _ b => .cons r b
  | _, _, n + 1, .cons a b => .cons a (RepAll.set r n b)
theorem RepAll.reverse : ∀ {vs : List V} {ds : List D}, RepAll K G mu N vs ds → RepAll K G mu N vs.reverse ds.reverse
  | _, _, .nil => .nil
  | _, _, .cons a b => by
    rw [List.reverse_cons, List.reverse_cons]
    exact (RepAll.reverse b).append (.cons a .nil)
end

/-- what stands at a machine's object -/
noncomputable def RepO (K : PySem.W.Frag) (w : Wd) (H : Hp) (a : Addr) : AO → Prop
  | .lst ds => ∃ xs, H a = some (.lst xs) ∧ RepAll K w.S w.mu w.N xs ds
  | .ins C fs => ∃ Ca dx fv, PySem.W.nsIn K mainGlobals C = some (some (.ref Ca)) ∧ H a = some (.ins Ca dx fv) ∧ fv.map (·.1) = fs.map (·.1) ∧ RepAll K w.S w.mu w.N (fv.map (·.2)) (fs.map (·.2)) ∧ w.S dx = some (.own a)
  | .dct kvs => ∃ kv, H a = some (.dK kv) ∧ kv.map (·.1) = kvs.map (·.1) ∧ RepAll K w.S w.mu w.N (kv.map (·.2)) (kvs.map (·.2))
  | .lck kvs => ∃ o kv, H a = some (.frz o (.dK kv)) ∧ w.LK a = some (.frz o (.dK kv)) ∧ kv.map (·.1) = kvs.map (·.1) ∧ RepAll K w.S w.mu w.N (kv.map (·.2)) (kvs.map (·.2))
  | .hld ks => ∃ rows, H a = some (HD.hld a rows) ∧ rows.map (·.1) = ks ∧ HD.KeysIn K w.S rows
structure RepH (K : PySem.W.Frag) (w : Wd) (H : Hp) (h : AH) : Prop where
  ex : Ext w.S H
  len : w.N = h.length
  inj : ∀ m n, m < w.N → n < w.N → w.mu m = w.mu n → m = n
  cell : ∀ n o, h[n]? = some o → w.S (w.mu n) = none ∧ RepO K w H (w.mu n) o
  exF : Ext w.F H
  dis : ∀ a u, w.F a = some u → w.S a = none ∧ ∀ n, n < w.N → w.mu n ≠ a
structure Le (w w' : Wd) : Prop where
  ex : Ext w.S w'.S
  n : w.N ≤ w'.N
  mu : ∀ n, n < w.N → w'.mu n = w.mu n
  f : w'.F = w.F
  lk : w'.LK = w.LK
/-- .. whatever must stay -/
structure LeX (w w' : Wd) : Prop where
  ex : Ext w.S w'.S
  n : w.N ≤ w'.N
  mu : ∀ n, n < w.N → w'.mu n = w.mu n
  lk : w'.LK = w.LK
theorem Le.x {w w' : Wd} (l : Le w w') : LeX w w' := ⟨l.ex, l.n, l.mu, l.lk⟩
theorem LeX.trans {a b c : Wd} (x : LeX a b) (y : LeX b c) : LeX a c :=
  ⟨x.ex.trans y.ex, Nat.le_trans x.n y.n, fun n hn => (y.mu n (Nat.lt_of_lt_of_le hn x.n)).trans (x.mu n hn), y.lk.trans x.lk⟩
theorem Le.refl (w : Wd) : Le w w := ⟨Ext.refl _, Nat.le_refl _, fun _ _ => rfl, rfl, rfl⟩
theorem Le.trans {a b c : Wd} (x : Le a b) (y : Le b c) : Le a c :=
  ⟨x.ex.trans y.ex, Nat.le_trans x.n y.n, fun n hn => (y.mu n (Nat.lt_of_lt_of_le hn x.n)).trans (x.mu n hn), y.f.trans x.f, y.lk.trans x.lk⟩
noncomputable abbrev Rv (K : PySem.W.Frag) (w : Wd) : V → D → Prop := RepV K w.S w.mu w.N
noncomputable abbrev Ra (K : PySem.W.Frag) (w : Wd) : List V → List D → Prop := RepAll K w.S w.mu w.N
theorem Rv_monoX {K : PySem.W.Frag} {w w' : Wd} {v : V} {d : D} (l : LeX w w') (h : Rv K w v d) : Rv K w' v d := RepV.mono l.ex l.n l.mu d v h
theorem Rv_mono {K : PySem.W.Frag} {w w' : Wd} {v : V} {d : D} (l : Le w w') (h : Rv K w v d) : Rv K w' v d := RepV.mono l.ex l.n l.mu d v h
theorem Ra_mono {K : PySem.W.Frag} {w w' : Wd} {v : List V} {d : List D} (l : Le w w') (h : Ra K w v d) : Ra K w' v d := RepAll.mono l.ex l.n l.mu d v h

section
variable {K : PySem.W.Frag} {w : Wd} {H : Hp} {h : AH}
theorem RepO.some {a : Addr} {o : AO} (r : RepO K w H a o) : ∃ u, H a = some u := by
  cases o with
  | lst ds => obtain ⟨xs, e, _⟩ := r; exact ⟨_, e⟩
  | ins C fs => obtain ⟨Ca, dx, fv, _, e, _⟩ := r; exact ⟨_, e⟩
  | dct kvs => obtain ⟨kv, e, _⟩ := r; exact ⟨_, e⟩
  | lck kvs => obtain ⟨o, kv, e, _⟩ := r; exact ⟨_, e⟩
  | hld ks => obtain ⟨rows, e, _⟩ := r; exact ⟨_, e⟩
theorem RepH.taken (r : RepH K w H h) {n : Nat} (hn : n < w.N) : ∃ u, H (w.mu n) = some u := by
  have hl : n < h.length := by rw [← r.len]; exact hn
  obtain ⟨_, c⟩ := r.cell n h[n] (List.getElem?_eq_getElem hl)
  exact c.some
theorem RepH.ne (r : RepH K w H h) {n : Nat} {p : Addr} (hn : n < w.N) (hp : H p = none) : w.mu n ≠ p := by
  obtain ⟨u, e⟩ := r.taken hn
  intro z
  rw [z, hp] at e
  cases e
theorem RepO.mono {w' : Wd} {H' : Hp} {a : Addr} {o : AO} (l : Le w w') (e : H' a = H a) (r : RepO K w H a o) : RepO K w' H' a o := by
  cases o with
  | lst ds =>
    obtain ⟨xs, e1, r⟩ := r
    exact ⟨xs, e.trans e1, Ra_mono l r⟩
  | ins C fs =>
    obtain ⟨Ca, dx, fv, ec, e1, e2, r, e3⟩ := r
    exact ⟨Ca, dx, fv, ec, e.trans e1, e2, Ra_mono l r, l.ex _ _ e3⟩
  | dct kvs =>
    obtain ⟨kv, e1, e2, r⟩ := r
    exact ⟨kv, e.trans e1, e2, Ra_mono l r⟩
  | lck kvs =>
    obtain ⟨o, kv, e1, e0, e2, r⟩ := r
    exact ⟨o, kv, e.trans e1, by rw [l.lk]; exact e0, e2, Ra_mono l r⟩
  | hld ks =>
    obtain ⟨rows, e1, e2, k⟩ := r
    exact ⟨rows, e.trans e1, e2, fun x hx ks ek => l.ex.t (k x hx ks ek)⟩
/-- a new thing that never changes -/
noncomputable def Wd.add (w : Wd) (p : Addr) (o : HO) : Wd := ⟨upd w.S p o, w.F, w.mu, w.N, w.LK⟩
theorem RepH.le_add (r : RepH K w H h) {p : Addr} {o : HO} (hp : H p = none) : Le w (w.add p o) :=
  ⟨Ext.new (r.ex.free hp), Nat.le_refl _, fun _ _ => rfl, rfl, rfl⟩
theorem RepH.add (r : RepH K w H h) {p : Addr} {o : HO} (hp : H p = none) : RepH K (w.add p o) (upd H p o) h := by
  have hF : ∀ a u, w.F a = some u → a ≠ p := fun a u e => ne_of_none (r.exF _ _ e) hp
  refine ⟨fun a u e => ?_, r.len, r.inj, fun n o' e => ?_, fun a u e => by rw [upd_ne (hF a u e)]; exact r.exF _ _ e, fun a u e => ⟨by
    show upd w.S p o a = none
    rw [upd_ne (hF a u e)]
    exact (r.dis a u e).1, (r.dis a u e).2⟩⟩
  · have e : upd w.S p o a = some u := e
    by_cases ha : a = p
    · subst ha
      rw [upd_same] at e ⊢
      exact e
    · rw [upd_ne ha] at e ⊢
      exact r.ex _ _ e
  · obtain ⟨a, b⟩ := r.cell n o' e
    have hn : n < w.N := by
      rw [r.len]
      exact (List.getElem?_eq_some_iff.mp e).1
    have q := r.ne hn hp
    refine ⟨?_, b.mono (r.le_add hp) (upd_ne q)⟩
    show upd w.S p o (w.mu n) = none
    rw [upd_ne q]
    exact a
/-- a new object of the machine's -/
noncomputable def Wd.push (w : Wd) (p : Addr) : Wd := ⟨w.S, w.F, fun n => if n = w.N then p else w.mu n, w.N + 1, w.LK⟩
theorem Wd.le_push (w : Wd) (p : Addr) : Le w (w.push p) :=
  ⟨Ext.refl _, Nat.le_succ _, fun n hn => if_neg (Nat.ne_of_lt hn), rfl, rfl⟩
theorem Wd.push_mu (w : Wd) (p : Addr) : (w.push p).mu w.N = p := if_pos rfl
/-- p stands in H, is none of the known ones -/
structure Apart (w : Wd) (p : Addr) : Prop where
  s : w.S p = none
  m : ∀ n, n < w.N → w.mu n ≠ p
  f : w.F p = none
theorem RepH.push (r : RepH K w H h) {p : Addr} {o : AO} (ap : Apart w p) (ro : RepO K (w.push p) H p o) : RepH K (w.push p) H (h ++ [o]) := by
  refine ⟨r.ex, ?_, fun m n hm hn e => ?_, fun n o' e => ?_, r.exF, fun a u e => ⟨(r.dis a u e).1, fun n hn z => ?_⟩⟩
  rotate_left 3
  · have hn : n < w.N + 1 := hn
    have z : (if n = w.N then p else w.mu n) = a := z
    have e : w.F a = some u := e
    by_cases q : n = w.N
    · rw [if_pos q] at z
      rw [← z, ap.f] at e
      cases e
    · rw [if_neg q] at z
      exact (r.dis a u e).2 n (by omega) z
  · show w.N + 1 = _
    rw [r.len, List.length_append]
    rfl
  · have hm : m < w.N + 1 := hm
    have hn : n < w.N + 1 := hn
    have e : (if m = w.N then p else w.mu m) = (if n = w.N then p else w.mu n) := e
    by_cases m1 : m = w.N
    · by_cases n1 : n = w.N
      · rw [m1, n1]
      · rw [if_pos m1, if_neg n1] at e
        exact absurd e.symm (ap.m n (by omega))
    · by_cases n1 : n = w.N
      · rw [if_neg m1, if_pos n1] at e
        exact absurd e (ap.m m (by omega))
      · rw [if_neg m1, if_neg n1] at e
        exact r.inj m n (by omega) (by omega) e
  · by_cases hn : n < h.length
    · rw [List.getElem?_append_left hn] at e
      obtain ⟨a, b⟩ := r.cell n o' e
      have q : (w.push p).mu n = w.mu n := (w.le_push p).mu n (by rw [r.len]; exact hn)
      rw [q]
      exact ⟨a, b.mono (w.le_push p) rfl⟩
    · have hl := (List.getElem?_eq_some_iff.mp e).1
      rw [List.length_append] at hl
      have en : n = h.length := by
        simp at hl
        omega
      subst en
      rw [List.getElem?_append_right (Nat.le_refl _)] at e
      simp at e
      subst e
      rw [← r.len, w.push_mu]
      exact ⟨ap.s, ro⟩
theorem RepH.set (r : RepH K w H h) {n : Nat} {u : HO} {o : AO} (hn : n < w.N) (ro : RepO K w (upd H (w.mu n) u) (w.mu n) o) : RepH K w (upd H (w.mu n) u) (h.set n o) := by
  refine ⟨fun a x e => ?_, by rw [r.len, List.length_set], r.inj, fun m o' e => ?_, fun a x e => by rw [upd_ne (fun z => (r.dis a x e).2 n hn z.symm)]; exact r.exF _ _ e, r.dis⟩
  · have hl : n < h.length := by rw [← r.len]; exact hn
    obtain ⟨z, _⟩ := r.cell n h[n] (List.getElem?_eq_getElem hl)
    have q : a ≠ w.mu n := by
      intro y
      rw [y, z] at e
      cases e
    rw [upd_ne q]
    exact r.ex _ _ e
  · by_cases hm : m = n
    · subst hm
      have hl : m < h.length := by rw [← r.len]; exact hn
      obtain ⟨z, _⟩ := r.cell m h[m] (List.getElem?_eq_getElem hl)
      rw [List.getElem?_set_self hl] at e
      cases e
      exact ⟨z, ro⟩
    · rw [List.getElem?_set_ne (Ne.symm hm)] at e
      obtain ⟨a, b⟩ := r.cell m o' e
      have hl : m < w.N := by rw [r.len]; exact (List.getElem?_eq_some_iff.mp e).1
      refine ⟨a, b.mono (Le.refl w) (upd_ne fun z => hm (r.inj m n hl hn z))⟩
end

/-! ### results -/
inductive Res (α : Type) where
  | ok (a : α) (h : AH)
  | exc (c : Str) (fs : List (Str × D)) (h : AH)
  | stuck
noncomputable def Res.bind {α β : Type} (r : Res α) (k : α → AH → Res β) : Res β :=
  match r with
  | .ok a h => k a h
  | .exc c fs h => .exc c fs h
  | .stuck => .stuck
@[simp] theorem Res.bind_ok {α β : Type} (a : α) (h : AH) (k : α → AH → Res β) : (Res.ok a h).bind k = k a h := rfl
@[simp] theorem Res.bind_stuck {α β : Type} (k : α → AH → Res β) : (Res.stuck : Res α).bind k = .stuck := rfl
@[simp] theorem Res.bind_exc {α β : Type} (c : Str) (fs : List (Str × D)) (h : AH) (k : α → AH → Res β) : (Res.exc c fs h : Res α).bind k = .exc c fs h := rfl
noncomputable abbrev Me := Env → AH → Res D
noncomputable abbrev MeL := Env → AH → Res (List D)
noncomputable abbrev MeT := Env → AH → Res Bool

/-- the slots -/
noncomputable def RepG (K : PySem.W.Frag) (w : Wd) (σ : L2.St) (G : Env) : Prop := σ.length = G.length ∧ ∀ (i : Nat) (d : D), G[i]? = some (some d) → ∃ v, σ[i]? = some (some v) ∧ Rv K w v d
theorem RepG.mono {K : PySem.W.Frag} {w w' : Wd} {σ : L2.St} {G : Env} (l : Le w w') (r : RepG K w σ G) : RepG K w' σ G :=
  ⟨r.1, fun i d e => by
    obtain ⟨v, h1, h2⟩ := r.2 i d e
    exact ⟨v, h1, Rv_mono l h2⟩⟩
theorem RepG.monoX {K : PySem.W.Frag} {w w' : Wd} {σ : L2.St} {G : Env} (l : LeX w w') (r : RepG K w σ G) : RepG K w' σ G :=
  ⟨r.1, fun i d e => by
    obtain ⟨v, h1, h2⟩ := r.2 i d e
    exact ⟨v, h1, Rv_monoX l h2⟩⟩
theorem RepG.set {K : PySem.W.Frag} {w : Wd} {σ : L2.St} {G : Env} {v : V} {d : D} (r : RepG K w σ G) (i : Nat) (rv : Rv K w v d) : RepG K w (σ.set i (some v)) (G.set i (some d)) := by
  refine ⟨by rw [List.length_set, List.length_set, r.1], fun j e h => ?_⟩
  by_cases hj : j = i
  · subst hj
    have hl : j < G.length := by
      have := (List.getElem?_eq_some_iff.mp h).1
      rwa [List.length_set] at this
    rw [List.getElem?_set_self hl] at h
    cases h
    exact ⟨v, List.getElem?_set_self (by rw [r.1]; exact hl), rv⟩
  · rw [List.getElem?_set_ne (Ne.symm hj)] at h
    obtain ⟨x, h1, h2⟩ := r.2 j e h
    exact ⟨x, by rw [List.getElem?_set_ne (Ne.symm hj)]; exact h1, h2⟩

/-- the wish of what is raised: its class and own dict, the slots, the heap -/
noncomputable abbrev WX := Value → Option Addr → L2.St → Hp → Prop
/-- what an error carries -/
noncomputable def RepX (K : PySem.W.Frag) (w : Wd) (H : Hp) (dd : Option Addr) : List (Str × D) → Prop
  | [] => dd = none
  | fs => ∃ p fv, dd = some p ∧ H p = some (.xd fv) ∧ fv.map (·.1) = fs.map (·.1) ∧ RepAll K w.S w.mu w.N (fv.map (·.2)) (fs.map (·.2))

section
variable (K : PySem.W.Frag) (mg : Str → Option Value) (W : WX)
noncomputable def OutX (w : Wd) (σ : L2.St) (c : Str) (fs : List (Str × D)) (h : AH) : Prop :=
  ∀ cls dd w' H', mg c = some cls → Le w w' → RepH K w' H' h → RepX K w' H' dd fs → W cls dd σ H'
noncomputable def OutE (w : Wd) (σ : L2.St) (Q : VK) : Res D → Prop
  | .ok d h => ∀ v w' H', Le w w' → RepH K w' H' h → Rv K w' v d → Q v H'
  | .exc c fs h => OutX K mg W w σ c fs h
  | .stuck => False
/-- a new list, known to nobody -/
noncomputable def OutF (w : Wd) (σ : L2.St) (Q : VK) : Res (List D) → Prop
  | .ok ds h => ∀ p xs w' H', Le w w' → RepH K w' H' h → Apart w' p → H' p = some (.lst xs) → Ra K w' xs ds → Q (.ref p) H'
  | .exc c fs h => OutX K mg W w σ c fs h
  | .stuck => False
noncomputable def OutA (w : Wd) (σ : L2.St) (Q : List V → Hp → Prop) : Res (List D) → Prop
  | .ok ds h => ∀ vs w' H', Le w w' → RepH K w' H' h → Ra K w' vs ds → Q vs H'
  | .exc c fs h => OutX K mg W w σ c fs h
  | .stuck => False
noncomputable def OutT (w : Wd) (σ : L2.St) (Q : Bool → Hp → Prop) : Res Bool → Prop
  | .ok b h => ∀ w' H', Le w w' → RepH K w' H' h → Q b H'
  | .exc c fs h => OutX K mg W w σ c fs h
  | .stuck => False
noncomputable def tM (m : Me) : TE := fun σ H Q => ∃ w G h, RepG K w σ G ∧ RepH K w H h ∧ OutE K mg W w σ Q (m G h)
noncomputable def tF (m : MeL) : TE := fun σ H Q => ∃ w G h, RepG K w σ G ∧ RepH K w H h ∧ OutF K mg W w σ Q (m G h)
noncomputable def tAr (m : MeL) : TA := fun σ H Q => ∃ w G h, RepG K w σ G ∧ RepH K w H h ∧ OutA K mg W w σ Q (m G h)
noncomputable def tT (m : MeT) : TT := fun σ H Q => ∃ w G h, RepG K w σ G ∧ RepH K w H h ∧ OutT K mg W w σ Q (m G h)
end

section
variable {K : PySem.W.Frag} {mg : Str → Option Value} {W : WX} {w w' : Wd} {σ : L2.St} {H : Hp} {G : Env} {h : AH}
theorem OutX.mono {c : Str} {fs : List (Str × D)} (l : Le w w') (o : OutX K mg W w σ c fs h) : OutX K mg W w' σ c fs h :=
  fun cls dd w2 H' e l2 r x => o cls dd w2 H' e (l.trans l2) r x
theorem OutE.mono {Q : VK} {r : Res D} (l : Le w w') (o : OutE K mg W w σ Q r) : OutE K mg W w' σ Q r := by
  cases r with
  | ok d h => exact fun v w2 H' l2 r x => o v w2 H' (l.trans l2) r x
  | exc c fs h => exact OutX.mono l o
  | stuck => exact o
theorem OutF.mono {Q : VK} {r : Res (List D)} (l : Le w w') (o : OutF K mg W w σ Q r) : OutF K mg W w' σ Q r := by
  cases r with
  | ok d h => exact fun p xs w2 H' l2 r x => o p xs w2 H' (l.trans l2) r x
  | exc c fs h => exact OutX.mono l o
  | stuck => exact o
theorem OutA.mono {Q : List V → Hp → Prop} {r : Res (List D)} (l : Le w w') (o : OutA K mg W w σ Q r) : OutA K mg W w' σ Q r := by
  cases r with
  | ok d h => exact fun v w2 H' l2 r x => o v w2 H' (l.trans l2) r x
  | exc c fs h => exact OutX.mono l o
  | stuck => exact o
theorem OutT.mono {Q : Bool → Hp → Prop} {r : Res Bool} (l : Le w w') (o : OutT K mg W w σ Q r) : OutT K mg W w' σ Q r := by
  cases r with
  | ok d h => exact fun w2 H' l2 r => o w2 H' (l.trans l2) r
  | exc c fs h => exact OutX.mono l o
  | stuck => exact o
theorem OutE.bindE {m : Me} {R : VK} {Q : VK} {k : D → AH → Res D} (o : OutE K mg W w σ Q ((m G h).bind k))
    (hq : ∀ d h1 v w1 H1, Le w w1 → RepH K w1 H1 h1 → Rv K w1 v d → OutE K mg W w1 σ Q (k d h1) → R v H1) : OutE K mg W w σ R (m G h) := by
  cases e : m G h with
  | ok d h1 =>
    rw [e] at o
    exact fun v w1 H1 l r x => hq d h1 v w1 H1 l r x (OutE.mono l o)
  | exc c fs h1 =>
    rw [e] at o
    exact o
  | stuck =>
    rw [e] at o
    exact o
theorem OutF.bindE {m : Me} {R : VK} {Q : VK} {k : D → AH → Res (List D)} (o : OutF K mg W w σ Q ((m G h).bind k))
    (hq : ∀ d h1 v w1 H1, Le w w1 → RepH K w1 H1 h1 → Rv K w1 v d → OutF K mg W w1 σ Q (k d h1) → R v H1) : OutE K mg W w σ R (m G h) := by
  cases e : m G h with
  | ok d h1 =>
    rw [e] at o
    exact fun v w1 H1 l r x => hq d h1 v w1 H1 l r x (OutF.mono l o)
  | exc c fs h1 =>
    rw [e] at o
    exact o
  | stuck =>
    rw [e] at o
    exact o
theorem OutA.bindE {m : Me} {R : VK} {Q : List V → Hp → Prop} {k : D → AH → Res (List D)} (o : OutA K mg W w σ Q ((m G h).bind k))
    (hq : ∀ d h1 v w1 H1, Le w w1 → RepH K w1 H1 h1 → Rv K w1 v d → OutA K mg W w1 σ Q (k d h1) → R v H1) : OutE K mg W w σ R (m G h) := by
  cases e : m G h with
  | ok d h1 =>
    rw [e] at o
    exact fun v w1 H1 l r x => hq d h1 v w1 H1 l r x (OutA.mono l o)
  | exc c fs h1 =>
    rw [e] at o
    exact o
  | stuck =>
    rw [e] at o
    exact o
theorem OutT.bindE {m : Me} {R : VK} {Q : Bool → Hp → Prop} {k : D → AH → Res Bool} (o : OutT K mg W w σ Q ((m G h).bind k))
    (hq : ∀ d h1 v w1 H1, Le w w1 → RepH K w1 H1 h1 → Rv K w1 v d → OutT K mg W w1 σ Q (k d h1) → R v H1) : OutE K mg W w σ R (m G h) := by
  cases e : m G h with
  | ok d h1 =>
    rw [e] at o
    exact fun v w1 H1 l r x => hq d h1 v w1 H1 l r x (OutT.mono l o)
  | exc c fs h1 =>
    rw [e] at o
    exact o
  | stuck =>
    rw [e] at o
    exact o
theorem OutE.bindA {m : MeL} {R : List V → Hp → Prop} {Q : VK} {k : List D → AH → Res D} (o : OutE K mg W w σ Q ((m G h).bind k))
    (hq : ∀ ds h1 vs w1 H1, Le w w1 → RepH K w1 H1 h1 → Ra K w1 vs ds → OutE K mg W w1 σ Q (k ds h1) → R vs H1) : OutA K mg W w σ R (m G h) := by
  cases e : m G h with
  | ok d h1 =>
    rw [e] at o
    exact fun v w1 H1 l r x => hq d h1 v w1 H1 l r x (OutE.mono l o)
  | exc c fs h1 =>
    rw [e] at o
    exact o
  | stuck =>
    rw [e] at o
    exact o
theorem OutF.bindA {m : MeL} {R : List V → Hp → Prop} {Q : VK} {k : List D → AH → Res (List D)} (o : OutF K mg W w σ Q ((m G h).bind k))
    (hq : ∀ ds h1 vs w1 H1, Le w w1 → RepH K w1 H1 h1 → Ra K w1 vs ds → OutF K mg W w1 σ Q (k ds h1) → R vs H1) : OutA K mg W w σ R (m G h) := by
  cases e : m G h with
  | ok d h1 =>
    rw [e] at o
    exact fun v w1 H1 l r x => hq d h1 v w1 H1 l r x (OutF.mono l o)
  | exc c fs h1 =>
    rw [e] at o
    exact o
  | stuck =>
    rw [e] at o
    exact o
theorem OutA.bindA {m : MeL} {R : List V → Hp → Prop} {Q : List V → Hp → Prop} {k : List D → AH → Res (List D)} (o : OutA K mg W w σ Q ((m G h).bind k))
    (hq : ∀ ds h1 vs w1 H1, Le w w1 → RepH K w1 H1 h1 → Ra K w1 vs ds → OutA K mg W w1 σ Q (k ds h1) → R vs H1) : OutA K mg W w σ R (m G h) := by
  cases e : m G h with
  | ok d h1 =>
    rw [e] at o
    exact fun v w1 H1 l r x => hq d h1 v w1 H1 l r x (OutA.mono l o)
  | exc c fs h1 =>
    rw [e] at o
    exact o
  | stuck =>
    rw [e] at o
    exact o
theorem OutE.bindT {m : MeT} {R : Bool → Hp → Prop} {Q : VK} {k : Bool → AH → Res D} (o : OutE K mg W w σ Q ((m G h).bind k))
    (hq : ∀ b h1 w1 H1, Le w w1 → RepH K w1 H1 h1 → OutE K mg W w1 σ Q (k b h1) → R b H1) : OutT K mg W w σ R (m G h) := by
  cases e : m G h with
  | ok d h1 =>
    rw [e] at o
    exact fun w1 H1 l r => hq d h1 w1 H1 l r (OutE.mono l o)
  | exc c fs h1 =>
    rw [e] at o
    exact o
  | stuck =>
    rw [e] at o
    exact o
theorem OutT.bindT {m : MeT} {R : Bool → Hp → Prop} {Q : Bool → Hp → Prop} {k : Bool → AH → Res Bool} (o : OutT K mg W w σ Q ((m G h).bind k))
    (hq : ∀ b h1 w1 H1, Le w w1 → RepH K w1 H1 h1 → OutT K mg W w1 σ Q (k b h1) → R b H1) : OutT K mg W w σ R (m G h) := by
  cases e : m G h with
  | ok d h1 =>
    rw [e] at o
    exact fun w1 H1 l r => hq d h1 w1 H1 l r (OutT.mono l o)
  | exc c fs h1 =>
    rw [e] at o
    exact o
  | stuck =>
    rw [e] at o
    exact o
theorem OutE.bindF {m : MeL} {R : VK} {Q : VK} {k : List D → AH → Res D} (o : OutE K mg W w σ Q ((m G h).bind k))
    (hq : ∀ ds h1 p xs w1 H1, Le w w1 → RepH K w1 H1 h1 → Apart w1 p → H1 p = some (.lst xs) → Ra K w1 xs ds → OutE K mg W w1 σ Q (k ds h1) → R (.ref p) H1) : OutF K mg W w σ R (m G h) := by
  cases e : m G h with
  | ok d h1 =>
    rw [e] at o
    exact fun p xs w1 H1 l r a b x => hq d h1 p xs w1 H1 l r a b x (OutE.mono l o)
  | exc c fs h1 =>
    rw [e] at o
    exact o
  | stuck =>
    rw [e] at o
    exact o
end
end AB
/-! AB: expressions. -/
namespace AB
open PySem PySem.Spec PyProof.Rows L2

theorem _root_.L2.PE.wk {X : Cx} {e : Expr} {t t' : TE} (h : PE X e t) (k : ∀ σ H Q, t' σ H Q → t σ H Q) : PE X e t' := ⟨fun pins s σ H Q I q => h.run pins s σ H Q I (k σ H Q q)⟩
theorem _root_.L2.PT.wk {X : Cx} {e : Expr} {t t' : TT} (h : PT X e t) (k : ∀ σ H Q, t' σ H Q → t σ H Q) : PT X e t' := ⟨fun pins s σ H Q I q => h.run pins s σ H Q I (k σ H Q q)⟩
theorem _root_.L2.PW.wk {X : Cx} {e : Expr} {t t' : TT} (h : PW X e t) (k : ∀ σ H Q, t' σ H Q → t σ H Q) : PW X e t' := ⟨fun wh pins s σ H Q I q => h.run wh pins s σ H Q I (k σ H Q q)⟩
theorem _root_.L2.PA.wk {X : Cx} {e : List Expr} {t t' : TA} (h : PA X e t) (k : ∀ σ H Q, t' σ H Q → t σ H Q) : PA X e t' := ⟨fun pos pins s σ H Q I q => h.run pos pins s σ H Q I (k σ H Q q)⟩

/-- the size that a display, a sum, a slice may have here -/
noncomputable def big : Nat := 1000000
theorem big_le {n : Nat} (h : n ≤ big) : n ≤ sizeLine := Nat.le_trans h (by decide)
theorem big_lt {n : Nat} (h : n < big) : n < sizeLine := Nat.lt_of_lt_of_le h (by decide)

/-! ### the combinators -/
noncomputable def mV (i : Nat) : Me := fun G h => match G[i]? with
  | some (some d) => .ok d h
  | _ => .stuck
noncomputable def mC (d : D) : Me := fun _ h => .ok d h
noncomputable def mOp2 (f : D → D → AH → Res D) (a b : Me) : Me := fun G h => (a G h).bind fun x h1 => (b G h1).bind fun y h2 => f x y h2
noncomputable def mOp1 (f : D → AH → Res D) (a : Me) : Me := fun G h => (a G h).bind fun x h1 => f x h1
noncomputable def aNil : MeL := fun _ h => .ok [] h
noncomputable def aCons (a : Me) (as : MeL) : MeL := fun G h => (a G h).bind fun x h1 => (as G h1).bind fun xs h2 => .ok (x :: xs) h2
noncomputable def mN (f : List D → AH → Res D) (as : MeL) : Me := fun G h => (as G h).bind fun xs h1 => f xs h1
noncomputable def fTup (ds : List D) (h : AH) : Res D := if ds.length ≤ big then .ok (.tup ds) h else .stuck
noncomputable def lLst (as : MeL) : MeL := fun G h => (as G h).bind fun xs h1 => if xs.length ≤ big then .ok xs h1 else .stuck
/-- a new list, as a thing that is not changed any more -/
noncomputable def mL (l : MeL) : Me := fun G h => (l G h).bind fun ds h1 => .ok (.lst ds) h1
/-- a new list, as an object of the machine's -/
noncomputable def mNew (l : MeL) : Me := fun G h => (l G h).bind fun ds h1 => .ok (.loc h1.length) (h1 ++ [.lst ds])
/-- the items of a list, of a list or tuple -/
noncomputable def vL (h : AH) : D → Option (List D)
  | .lst ds => some ds
  | .rol ds => some ds
  | .loc n => match h[n]? with
    | some (.lst ds) => some ds
    | _ => none
  | _ => none
/-- .. of a list that stands in the heap by itself -/
noncomputable def vR (h : AH) : D → Option (List D)
  | .lst ds => some ds
  | .loc n => match h[n]? with
    | some (.lst ds) => some ds
    | _ => none
  | _ => none
noncomputable def vS (h : AH) : D → Option (List D)
  | .tup ds => some ds
  | d => vL h d

section
variable {K : PySem.W.Frag} {w : Wd} {H : Hp} {h : AH} {v : V} {d : D} {ds : List D}
theorem vL_rep (r : RepH K w H h) (rv : Rv K w v d) (e : vL h d = some ds) : ∃ a xs, v = .ref a ∧ SqL K H a xs ∧ Ra K w xs ds := by
  cases rv with
  | lst a b =>
    cases e
    exact ⟨_, _, rfl, .inl (r.ex.rd a), b⟩
  | rol a b =>
    cases e
    exact ⟨_, _, rfl, r.ex.l a, b⟩
  | @loc n hn =>
    have e : (match h[n]? with
      | some (.lst ds) => some ds
      | _ => none) = some ds := e
    split at e
    · rename_i ds' e'
      cases e
      obtain ⟨_, xs, e2, ra⟩ := r.cell _ _ e'
      exact ⟨_, xs, rfl, .inl (.inl e2), ra⟩
    · cases e
  | _ => cases e
theorem vR_rep (r : RepH K w H h) (rv : Rv K w v d) (e : vR h d = some ds) : ∃ a xs, v = .ref a ∧ Rd H a (.lst xs) ∧ Ra K w xs ds := by
  cases rv with
  | lst a b =>
    cases e
    exact ⟨_, _, rfl, r.ex.rd a, b⟩
  | @loc n hn =>
    have e : (match h[n]? with
      | some (.lst ds) => some ds
      | _ => none) = some ds := e
    split at e
    · rename_i ds' e'
      cases e
      obtain ⟨_, xs, e2, ra⟩ := r.cell _ _ e'
      exact ⟨_, xs, rfl, .inl e2, ra⟩
    · cases e
  | _ => cases e
theorem vS_rep (r : RepH K w H h) (rv : Rv K w v d) (e : vS h d = some ds) : ∃ a xs, v = .ref a ∧ (SqL K H a xs ∨ SqT K H a xs) ∧ Ra K w xs ds := by
  by_cases ht : ∃ es, d = .tup es
  · obtain ⟨es, rfl⟩ := ht
    cases rv with
    | tup a b =>
      cases e
      exact ⟨_, _, rfl, .inr (r.ex.t a), b⟩
  · have e : vL h d = some ds := by
      cases d with
      | tup es => exact absurd ⟨es, rfl⟩ ht
      | _ => exact e
    obtain ⟨a, xs, h1, h2, h3⟩ := vL_rep r rv e
    exact ⟨a, xs, h1, .inl h2, h3⟩
end

section
variable {X : Cx} {W : WX} {pos : Pos}
noncomputable abbrev TM (X : Cx) (W : WX) (m : Me) : TE := tM X.K X.mg W m
noncomputable abbrev TF (X : Cx) (W : WX) (m : MeL) : TE := tF X.K X.mg W m
noncomputable abbrev TAr (X : Cx) (W : WX) (m : MeL) : TA := tAr X.K X.mg W m
noncomputable abbrev TTT (X : Cx) (W : WX) (m : MeT) : TT := tT X.K X.mg W m
/-- a step's outcome, done -/
theorem out_ok {K : PySem.W.Frag} {mg : Str → Option Value} {w : Wd} {σ : L2.St} {H : Hp} {Q : VK} {d : D} {h : AH} {v : V} (o : OutE K mg W w σ Q (.ok d h)) (r : RepH K w H h) (rv : Rv K w v d) : Q v H := o v w H (Le.refl _) r rv
/-- .. with a new thing that never changes -/
theorem out_add {K : PySem.W.Frag} {mg : Str → Option Value} {w : Wd} {σ : L2.St} {H : Hp} {Q : VK} {d : D} {h : AH} {p : Addr} {u : HO} (o : OutE K mg W w σ Q (.ok d h)) (r : RepH K w H h) (hp : H p = none) (rv : Rv K (w.add p u) (.ref p) d) : Q (.ref p) (upd H p u) :=
  o (.ref p) (w.add p u) (upd H p u) (r.le_add hp) (r.add hp) rv
theorem rv_tup {K : PySem.W.Frag} {w : Wd} {H : Hp} {h : AH} {p : Addr} {xs : List V} {ds : List D} (r : RepH K w H h) (hp : H p = none) (ra : Ra K w xs ds) : Rv K (w.add p (.tup xs)) (.ref p) (.tup ds) :=
  .tup (.inl (.inl upd_same)) (Ra_mono (r.le_add hp) ra)
theorem rv_lst {K : PySem.W.Frag} {w : Wd} {H : Hp} {h : AH} {p : Addr} {xs : List V} {ds : List D} (r : RepH K w H h) (hp : H p = none) (ra : Ra K w xs ds) : Rv K (w.add p (.lst xs)) (.ref p) (.lst ds) :=
  .lst (.inl upd_same) (Ra_mono (r.le_add hp) ra)
/-- a new list that nobody knows yet -/
theorem out_new {K : PySem.W.Frag} {mg : Str → Option Value} {w : Wd} {σ : L2.St} {H : Hp} {Q : VK} {ds : List D} {h : AH} {p : Addr} {xs : List V} (o : OutF K mg W w σ Q (.ok ds h)) (r : RepH K w H h) (hp : H p = none) (ra : Ra K w xs ds) : Q (.ref p) (upd H p (.lst xs)) := by
  refine o p xs w (upd H p (.lst xs)) (Le.refl _) ⟨fun a u e => ?_, r.len, r.inj, fun n o' e => ?_, fun a u e => by rw [upd_ne (ne_of_none (r.exF _ _ e) hp)]; exact r.exF _ _ e, r.dis⟩ ⟨r.ex.free hp, fun n hn => r.ne hn hp, r.exF.free hp⟩ upd_same ra
  · have e2 := r.ex _ _ e
    rw [upd_ne (ne_of_none e2 hp)]
    exact e2
  · obtain ⟨a, b⟩ := r.cell n o' e
    have hn : n < w.N := by
      rw [r.len]
      exact (List.getElem?_eq_some_iff.mp e).1
    exact ⟨a, b.mono (Le.refl _) (upd_ne (r.ne hn hp))⟩
/-- a list that stands apart, from now on never changed -/
theorem RepH.keep {K : PySem.W.Frag} {w : Wd} {H : Hp} {h : AH} {p : Addr} {u : HO} (r : RepH K w H h) (ap : Apart w p) (e : H p = some u) : RepH K (w.add p u) H h ∧ Le w (w.add p u) := by
  have l : Le w (w.add p u) := ⟨Ext.new ap.s, Nat.le_refl _, fun _ _ => rfl, rfl, rfl⟩
  refine ⟨⟨fun a x q => ?_, r.len, r.inj, fun n o' q => ?_, r.exF, fun a x q => ⟨by
    show upd w.S p u a = none
    have z : a ≠ p := fun z => by
      have q : w.F a = some x := q
      rw [z, ap.f] at q
      cases q
    rw [upd_ne z]
    exact (r.dis a x q).1, (r.dis a x q).2⟩⟩, l⟩
  · have q : upd w.S p u a = some x := q
    by_cases ha : a = p
    · subst ha
      rw [upd_same] at q
      rw [e, q]
    · rw [upd_ne ha] at q
      exact r.ex _ _ q
  · obtain ⟨a, b⟩ := r.cell n o' q
    have hn : n < w.N := by
      rw [r.len]
      exact (List.getElem?_eq_some_iff.mp q).1
    refine ⟨?_, b.mono l rfl⟩
    show upd w.S p u (w.mu n) = none
    rw [upd_ne (ap.m n hn)]
    exact a

/-! ### names, constants -/
theorem e_var (i : Nat) {x : Str} (hN : X.N[i]? = some x := by rfl) (hv : Vis X.env.scope x := by first | exact Or.inl rfl | exact Or.inr (Or.inl rfl) | exact Or.inr (Or.inr rfl)) (hd : (x == ("__debug__" : Str)) = false := by decide)
    (hcd : (x == ("__classdict__" : Str)) = false := by decide) : PE X (.Name x pos) (TM X W (mV i)) := by
  refine (pe_var hN hv hd hcd).wk fun σ H Q ⟨w, G, h, g, r, o⟩ => ?_
  unfold mV at o
  split at o
  · rename_i d e
    obtain ⟨v, e2, rv⟩ := g.2 i d e
    exact ⟨v, e2, out_ok o r rv⟩
  · exact o.elim
noncomputable def StRep (K : PySem.W.Frag) (v : V) (d : D) : Prop := ∀ (w : Wd), Rv K w v d
theorem e_const {e : Expr} {v : V} {d : D} (h : PE X e (tC v)) (s : StRep X.K v d) : PE X e (TM X W (mC d)) :=
  h.wk fun σ H Q ⟨w, G, h, g, r, o⟩ => out_ok o r (s w)
theorem e_int {i : Int} {j : Nat} : PE X (.Constant (.int i) j pos) (TM X W (mC (.int i))) := e_const pe_int fun _ => .int i
theorem e_bl {b : Bool} {j : Nat} : PE X (.Constant (.bool b) j pos) (TM X W (mC (.bl b))) := e_const pe_bl fun _ => .bl b
theorem e_non {j : Nat} : PE X (.Constant .none j pos) (TM X W (mC .non)) := e_const pe_non fun _ => .non
theorem e_str {x : Str} {j : Nat} : PE X (.Constant (.str x) j pos) (TM X W (mC (.str x))) := e_const pe_str fun _ => .str x
theorem e_glob {x : Str} {v : V} {u : Value} {d : D} (hm : X.mg x = some u) (rv : RelV v u) (s : StRep X.K v d) (hg : Gl X x := by rfl) (hd : (x == ("__debug__" : Str)) = false := by decide) : PE X (.Name x pos) (TM X W (mC d)) :=
  e_const (pe_glob hg hm rv hd) s

/-! ### operators -/
noncomputable def Fol2 (X : Cx) (W : WX) (f : D → D → AH → Res D) (r : R2) : Prop := ∀ (w : Wd) (h : AH) (H : Hp) (σ : L2.St) (Q : VK) (v1 v2 : V) (d1 d2 : D),
  RepH X.K w H h → Rv X.K w v1 d1 → Rv X.K w v2 d2 → OutE X.K X.mg W w σ Q (f d1 d2 h) → r v1 v2 H Q
noncomputable def Fol1 (X : Cx) (W : WX) (f : D → AH → Res D) (r : V → Hp → VK → Prop) : Prop := ∀ (w : Wd) (h : AH) (H : Hp) (σ : L2.St) (Q : VK) (v1 : V) (d1 : D),
  RepH X.K w H h → Rv X.K w v1 d1 → OutE X.K X.mg W w σ Q (f d1 h) → r v1 H Q
noncomputable def FolN (X : Cx) (W : WX) (f : List D → AH → Res D) (r : List V → Hp → VK → Prop) : Prop := ∀ (w : Wd) (h : AH) (H : Hp) (σ : L2.St) (Q : VK) (vs : List V) (ds : List D),
  RepH X.K w H h → Ra X.K w vs ds → OutE X.K X.mg W w σ Q (f ds h) → r vs H Q
noncomputable def FolF (X : Cx) (W : WX) (f : List D → AH → Res (List D)) (r : List V → Hp → VK → Prop) : Prop := ∀ (w : Wd) (h : AH) (H : Hp) (σ : L2.St) (Q : VK) (vs : List V) (ds : List D),
  RepH X.K w H h → Ra X.K w vs ds → OutF X.K X.mg W w σ Q (f ds h) → r vs H Q
variable {a b : Expr} {ma mb : Me}
theorem op2 {f : D → D → AH → Res D} {r : R2} (hf : Fol2 X W f r) {σ : L2.St} {H : Hp} {Q : VK} (t : TM X W (mOp2 f ma mb) σ H Q) : tOp r (TM X W ma) (TM X W mb) σ H Q := by
  obtain ⟨w, G, h, g, rh, o⟩ := t
  refine ⟨w, G, h, g, rh, o.bindE fun d h1 v w1 H1 l r1 x o1 => ⟨w1, G, h1, g.mono l, r1, o1.bindE fun d2 h2 v2 w2 H2 l2 r2 x2 o2 => ?_⟩⟩
  exact hf w2 h2 H2 σ Q v v2 d d2 r2 (Rv_mono l2 x) x2 o2
theorem e_bin {f : D → D → AH → Res D} {r : R2} {op : Operator} (ho : OpR X (binaryOp op) r) (hf : Fol2 X W f r) (ha : PE X a (TM X W ma)) (hb : PE X b (TM X W mb)) : PE X (.BinOp a op b pos) (TM X W (mOp2 f ma mb)) :=
  (pe_op ho ha hb).wk fun _ _ _ t => op2 hf t
theorem e_cmp {f : D → D → AH → Res D} {r : R2} {op : CmpOp} (ho : OpR X (compareOp op) r) (hf : Fol2 X W f r) (ha : PE X a (TM X W ma)) (hb : PE X b (TM X W mb)) (hm : behindInMarks op b = false := by rfl) : PE X (.Compare a [op] [b] pos) (TM X W (mOp2 f ma mb)) :=
  (pe_cmpR ho ha hb hm).wk fun _ _ _ t => op2 hf t
theorem e_un {f : D → AH → Res D} {r : V → Hp → VK → Prop} {op : UnaryOp} (ho : UnR X (unaryOp op) r) (hf : Fol1 X W f r) (ha : PE X a (TM X W ma)) : PE X (.UnaryOp op a pos) (TM X W (mOp1 f ma)) := by
  refine (pe_un ho ha).wk fun σ H Q ⟨w, G, h, g, rh, o⟩ => ⟨w, G, h, g, rh, o.bindE fun d h1 v w1 H1 l r1 x o1 => ?_⟩
  exact hf w1 h1 H1 σ Q v d r1 x o1
/-! ints -/
noncomputable def fAdd (x y : D) (h : AH) : Res D := match x, y with
  | .int i, .int j => .ok (.int (i + j)) h
  | .str i, .str j => if i.length + j.length ≤ big then .ok (.str (i ++ j)) h else .stuck
  | .tup xs, .tup ys => if xs.length + ys.length ≤ big then .ok (.tup (xs ++ ys)) h else .stuck
  | x, y => match vR h x, vR h y with
    | some xs, some ys => if xs.length + ys.length ≤ big then .ok (.lst (xs ++ ys)) h else .stuck
    | _, _ => .stuck
noncomputable def fSub (x y : D) (h : AH) : Res D := match x, y with
  | .int i, .int j => .ok (.int (i - j)) h
  | _, _ => .stuck
/-- a factor within 2 ^ 60 -/
noncomputable def fMul (x y : D) (h : AH) : Res D := match x, y with
  | .int i, .int j => if (-(2 ^ 60) ≤ i ∧ i ≤ 2 ^ 60) ∨ (-(2 ^ 60) ≤ j ∧ j ≤ 2 ^ 60) then .ok (.int (i * j)) h else .stuck
  | _, _ => .stuck
noncomputable def fMod (x y : D) (h : AH) : Res D := match x, y with
  | .int i, .int j => if 0 < j then .ok (.int (i % j)) h else .stuck
  | _, _ => .stuck
noncomputable def fDiv (x y : D) (h : AH) : Res D := match x, y with
  | .int i, .int j => if 0 < j ∧ j ≤ 2 ^ 60 then .ok (.int (i / j)) h else .stuck
  | _, _ => .stuck
noncomputable def fPow (x y : D) (h : AH) : Res D := match x, y with
  | .int i, .int j => if 0 ≤ j ∧ j ≤ 1000 ∧ 0 ≤ i ∧ i ≤ 1000 then .ok (.int (i ^ j.toNat)) h else .stuck
  | _, _ => .stuck
noncomputable def fNeg (x : D) (h : AH) : Res D := match x with
  | .int i => .ok (.int (-i)) h
  | _ => .stuck
noncomputable def fNotN (x y : D) (h : AH) : Res D := match x, y with
  | .non, .non => .ok (.bl false) h
  | _, .non => .ok (.bl true) h
  | _, _ => .stuck
theorem fol_int {g : Int → Int → V} {f : D → D → AH → Res D} {e : Int → Int → D} (hs : ∀ i j w, Rv X.K w (g i j) (e i j)) (hf : ∀ x y h, (∃ i j, x = .int i ∧ y = .int j ∧ f x y h = .ok (e i j) h) ∨ f x y h = .stuck) : Fol2 X W f (rI0 g) := by
  intro w h H σ Q v1 v2 d1 d2 rh r1 r2 o
  rcases hf d1 d2 h with ⟨i, j, rfl, rfl, z⟩ | z
  · rw [z] at o
    cases r1
    cases r2
    exact ⟨i, j, rfl, rfl, out_ok o rh (hs i j w)⟩
  · rw [z] at o
    exact o.elim
theorem fol_sub : Fol2 X W fSub (rI0 fun i j => .int (i - j)) := fol_int (e := fun i j => .int (i - j)) (fun _ _ _ => .int _) fun x y h => by
  cases x <;> cases y <;> first | exact .inr rfl | exact .inl ⟨_, _, rfl, rfl, rfl⟩
theorem fol_intC {C : Int → Int → Prop} {g : Int → Int → V} {f : D → D → AH → Res D} {e : Int → Int → D} (hs : ∀ i j w, Rv X.K w (g i j) (e i j)) (hf : ∀ x y h, (∃ i j, x = .int i ∧ y = .int j ∧ C i j ∧ f x y h = .ok (e i j) h) ∨ f x y h = .stuck) : Fol2 X W f (rI C g) := by
  intro w h H σ Q v1 v2 d1 d2 rh r1 r2 o
  rcases hf d1 d2 h with ⟨i, j, rfl, rfl, c, z⟩ | z
  · rw [z] at o
    cases r1
    cases r2
    exact ⟨i, j, rfl, rfl, c, out_ok o rh (hs i j w)⟩
  · rw [z] at o
    exact o.elim
theorem fol_mul : Fol2 X W fMul (rI CMul fun i j => .int (i * j)) := fol_intC (e := fun i j => .int (i * j)) (fun _ _ _ => .int _) fun x y h => by
  cases x with
  | int i =>
    cases y with
    | int j =>
      show (∃ i' j', _) ∨ (if _ then _ else _) = _
      by_cases c : (-(2 ^ 60) ≤ i ∧ i ≤ 2 ^ 60) ∨ (-(2 ^ 60) ≤ j ∧ j ≤ 2 ^ 60)
      · refine .inl ⟨i, j, rfl, rfl, ?_, if_pos c⟩
        rcases c with c | c
        · exact .inl ⟨by omega, by omega⟩
        · exact .inr ⟨by omega, by omega⟩
      · exact .inr (if_neg c)
    | _ => exact .inr rfl
  | _ => exact .inr rfl
theorem fol_mod : Fol2 X W fMod (rI (fun _ j => 0 < j) fun i j => .int (i % j)) := fol_intC (e := fun i j => .int (i % j)) (fun _ _ _ => .int _) fun x y h => by
  cases x with
  | int i =>
    cases y with
    | int j =>
      show (∃ i' j', _) ∨ (if _ then _ else _) = _
      by_cases c : 0 < j
      · exact .inl ⟨i, j, rfl, rfl, c, if_pos c⟩
      · exact .inr (if_neg c)
    | _ => exact .inr rfl
  | _ => exact .inr rfl
theorem fol_div : Fol2 X W fDiv (rI CDivW fun i j => .int (i / j)) := fol_intC (e := fun i j => .int (i / j)) (fun _ _ _ => .int _) fun x y h => by
  cases x with
  | int i =>
    cases y with
    | int j =>
      show (∃ i' j', _) ∨ (if _ then _ else _) = _
      by_cases c : 0 < j ∧ j ≤ 2 ^ 60
      · exact .inl ⟨i, j, rfl, rfl, wide_div (b := 61) c.1 (by omega) (by decide) (by decide), if_pos c⟩
      · exact .inr (if_neg c)
    | _ => exact .inr rfl
  | _ => exact .inr rfl
theorem fol_pow : Fol2 X W fPow (rI CPow fun i j => .int (i ^ j.toNat)) := fol_intC (e := fun i j => .int (i ^ j.toNat)) (fun _ _ _ => .int _) fun x y h => by
  cases x with
  | int i =>
    cases y with
    | int j =>
      show (∃ i' j', _) ∨ (if _ then _ else _) = _
      by_cases c : 0 ≤ j ∧ j ≤ 1000 ∧ 0 ≤ i ∧ i ≤ 1000
      · exact .inl ⟨i, j, rfl, rfl, ⟨by omega, by omega, by omega⟩, if_pos c⟩
      · exact .inr (if_neg c)
    | _ => exact .inr rfl
  | _ => exact .inr rfl
theorem fol_neg : Fol1 X W fNeg (rU fun i => .int (-i)) := by
  intro w h H σ Q v1 d1 rh r1 o
  cases r1 with
  | int i => exact ⟨i, rfl, out_ok o rh (.int _)⟩
  | _ => exact o.elim
/-- two lists -/
noncomputable def rCatR : R2 := fun x y H Q => ∃ l b xs zs, x = .ref l ∧ y = .ref b ∧ Rd H l (.lst xs) ∧ Rd H b (.lst zs) ∧ xs.length + zs.length ≤ sizeLine ∧ ∀ p, H p = none → Q (.ref p) (upd H p (.lst (xs ++ zs)))
theorem op_catR : OpR X (binaryOp .Add) rCatR := by
  intro pins s σ H x y v u Q I rx ry h
  obtain ⟨l, b, xs, zs, rfl, rfl, hH, hB, hz, q⟩ := h
  cases rx
  cases ry
  obtain ⟨z, its, n, r, e⟩ := hH.ok I.hok
  obtain ⟨z2, its2, n2, r2, e2⟩ := hB.ok I.hok
  have hl := r.length
  have hl2 := r2.length
  refine PySem.P.add_list e e2 ?_ (by rw [List.size_toArray, List.size_toArray]; omega)
  have ea : its.toArray ++ its2.toArray = (its ++ its2).toArray := by simp
  rw [ea]
  exact ⟨.ref _, _, I.lnew (t' := s.toks) (r.append r2) (by rw [List.length_append]; omega), rfl, q _ I.fresh⟩
noncomputable def rAdd3 (K : PySem.W.Frag) : R2 := fun x y H Q => (rI0 (fun i j => .int (i + j)) x y H Q) ∨ ((∃ i j, x = .str i ∧ y = .str j ∧ i.length + j.length ≤ sizeLine ∧ Q (.str (i ++ j)) H) ∨ (rCatA K x y H Q ∨ rCatR x y H Q))
theorem op_add3 : OpR X (binaryOp .Add) (rAdd3 X.K) := OpR.or op_add (OpR.or op_add_str (OpR.or op_catA op_catR))
theorem fol_add : Fol2 X W fAdd (rAdd3 X.K) := by
  intro w h H σ Q v1 v2 d1 d2 rh r1 r2 o
  have lists : OutE X.K X.mg W w σ Q (match vR h d1, vR h d2 with
    | some xs, some ys => if xs.length + ys.length ≤ big then .ok (.lst (xs ++ ys)) h else .stuck
    | _, _ => .stuck) → rAdd3 X.K v1 v2 H Q := by
    intro o
    split at o
    · rename_i xs ys e1 e2
      split at o
      · rename_i c
        obtain ⟨a, us, rfl, h1, h2⟩ := vR_rep rh r1 e1
        obtain ⟨b, ws, rfl, g1, g2⟩ := vR_rep rh r2 e2
        have lx := h2.length
        have ly := g2.length
        exact .inr (.inr (.inr ⟨a, b, us, ws, rfl, rfl, h1, g1, big_le (by omega), fun p hp => out_add o rh hp (rv_lst rh hp (h2.append g2))⟩))
      · exact o.elim
    · exact o.elim
  unfold fAdd at o
  split at o
  · cases r1
    cases r2
    exact .inl ⟨_, _, rfl, rfl, out_ok o rh (.int _)⟩
  · split at o
    · rename_i c
      cases r1
      cases r2
      exact .inr (.inl ⟨_, _, rfl, rfl, big_le c, out_ok o rh (.str _)⟩)
    · exact o.elim
  · split at o
    · rename_i c
      cases r1 with
      | @tup p xs ds h1 h2 =>
        cases r2 with
        | @tup q ys es g1 g2 =>
          have lx := h2.length
          have ly := g2.length
          refine .inr (.inr (.inl ⟨p, q, xs, ys, rfl, rfl, rh.ex.t h1, rh.ex.t g1, big_le (by omega), fun ex => ?_, fun _ ey => ?_, fun _ _ z hz => ?_⟩))
          · subst ex
            cases h2
            exact out_ok o rh (.tup g1 g2)
          · subst ey
            cases g2
            rw [List.append_nil] at o
            exact out_ok o rh (.tup h1 h2)
          · exact out_add o rh hz (rv_tup rh hz (h2.append g2))
    · exact o.elim
  · exact lists o
theorem fol_notN : Fol2 X W fNotN (fun x y H Q => y = .non ∧ Q (.bl (!decide (x = .non))) H) := by
  intro w h H σ Q v1 v2 d1 d2 rh r1 r2 o
  cases r2 with
  | non =>
    refine ⟨rfl, ?_⟩
    cases r1 <;> exact out_ok o rh (.bl _)
  | _ => cases r1 <;> exact o.elim
noncomputable def fIsB (x y : D) (h : AH) : Res D := match x, y with
  | .bl i, .bl j => .ok (.bl (decide (i = j))) h
  | _, _ => .stuck
noncomputable def fNotB (x y : D) (h : AH) : Res D := match x, y with
  | .bl i, .bl j => .ok (.bl (!decide (i = j))) h
  | _, _ => .stuck
/-! ### argument lists, displays -/
variable {es : List Expr} {e : Expr} {as : MeL}
theorem a_nil : PA X [] (TAr X W aNil) := pa_nil.wk fun σ H Q ⟨w, G, h, g, r, o⟩ => o [] w H (Le.refl _) r .nil
theorem a_cons (he : PE X e (TM X W ma)) (ha : PA X es (TAr X W as)) (hs : starEach (e :: es) X.env = (false, eval e X.env) :: starEach es X.env := by rfl) : PA X (e :: es) (TAr X W (aCons ma as)) :=
  (pa_cons he ha hs).wk fun σ H Q ⟨w, G, h, g, r, o⟩ => ⟨w, G, h, g, r, o.bindE fun d h1 v w1 H1 l r1 x o1 => ⟨w1, G, h1, g.mono l, r1, o1.bindA fun ds h2 vs w2 H2 l2 r2 xs o2 => o2 _ w2 H2 (Le.refl _) r2 (.cons (Rv_mono l2 x) xs)⟩⟩
theorem e_tup {x1} (ha : PA X es (TAr X W as)) : PE X (.Tuple es x1 pos) (TM X W (mN fTup as)) := by
  refine (pe_tup ha).wk fun σ H Q ⟨w, G, h, g, r, o⟩ => ⟨w, G, h, g, r, o.bindA fun ds h1 vs w1 H1 l r1 x o1 => ?_⟩
  unfold fTup at o1
  split at o1
  · rename_i c
    exact ⟨big_le (by rw [x.length]; exact c), fun p hp => out_add o1 r1 hp (rv_tup r1 hp x)⟩
  · exact o1.elim
theorem f_lst {x1} (ha : PA X es (TAr X W as)) : PE X (.List es x1) (TF X W (lLst as)) := by
  refine (pe_lst ha).wk fun σ H Q ⟨w, G, h, g, r, o⟩ => ⟨w, G, h, g, r, o.bindA fun ds h1 vs w1 H1 l r1 x o1 => ?_⟩
  split at o1
  · rename_i c
    exact ⟨big_le (by rw [x.length]; exact c), fun p hp => out_new o1 r1 hp x⟩
  · exact o1.elim
/-- a new list, never changed from now on; a new list as an object -/
theorem L_read {l : MeL} {σ : L2.St} {H : Hp} {Q : VK} (t : TM X W (mL l) σ H Q) : TF X W l σ H Q := by
  obtain ⟨w, G, h, g, r, o⟩ := t
  refine ⟨w, G, h, g, r, OutE.bindF (m := l) o fun ds h1 p xs w1 H1 l r1 ap hp x o1 => ?_⟩
  obtain ⟨r2, l2⟩ := r1.keep ap hp
  exact o1 _ _ H1 l2 r2 (.lst (.inl upd_same) (Ra_mono l2 x))
theorem e_L {l : MeL} (he : PE X e (TF X W l)) : PE X e (TM X W (mL l)) := he.wk fun _ _ _ t => L_read t
theorem new_read {l : MeL} {σ : L2.St} {H : Hp} {Q : VK} (t : TM X W (mNew l) σ H Q) : TF X W l σ H Q := by
  obtain ⟨w, G, h, g, r, o⟩ := t
  refine ⟨w, G, h, g, r, OutE.bindF (m := l) o fun ds h1 p xs w1 H1 l r1 ap hp x o1 => ?_⟩
  refine o1 _ (w1.push p) H1 (w1.le_push p) (r1.push ap ⟨xs, hp, Ra_mono (w1.le_push p) x⟩) ?_
  have e1 : h1.length = w1.N := r1.len.symm
  rw [e1]
  have e2 : (w1.push p).mu w1.N = p := w1.push_mu p
  have q : Rv X.K (w1.push p) (.ref ((w1.push p).mu w1.N)) (.loc w1.N) := .loc (Nat.lt_succ_self _)
  rw [e2] at q
  exact q
theorem e_new {l : MeL} (he : PE X e (TF X W l)) : PE X e (TM X W (mNew l)) := he.wk fun _ _ _ t => new_read t
end
end AB
/-! AB: calls, truth, equality, subscripts. -/
namespace AB
open PySem PySem.Spec PyProof.Rows L2

/-! ### data of the library's -/
mutual
noncomputable def toP : D → Option PyData
  | .non => some .none
  | .bl b => some (.bool b)
  | .int i => some (.int i)
  | .str x => some (.str x)
  | .tup ds => (toPs ds).map .tuple
  | .lst ds => (toPs ds).map .list
  | .rol _ => none
  | .loc _ => none
  | .con _ => none
noncomputable def toPs : List D → Option (List PyData)
  | [] => some []
  | d :: ds => match toP d, toPs ds with
    | some p, some ps => some (p :: ps)
    | _, _ => none
end
/-- a list of the machine's, read as it stands -/
noncomputable def toPh (h : AH) (d : D) : Option PyData := match d with
  | .loc n => match h[n]? with
    | some (.lst ds) => (toPs ds).map .list
    | _ => none
  | d => toP d
section
variable {K : PySem.W.Frag} {w : Wd} {H : Hp} {h : AH}
mutual
theorem toP_rep (ex : Ext w.S H) : ∀ (d : D) (v : V) (p : PyData), Rv K w v d → toP d = some p → Dp K H v p
  | .non, _, _, r, e => by cases r; cases e; exact .non
  | .bl _, _, _, r, e => by cases r; cases e; exact .bl _
  | .int _, _, _, r, e => by cases r; cases e; exact .int _
  | .str _, _, _, r, e => by cases r; cases e; exact .str _
  | .tup ds, _, p, r, e => by
    cases r with
    | tup a b =>
      unfold toP at e
      cases q : toPs ds with
      | none => rw [q] at e; cases e
      | some ps =>
        rw [q] at e
        cases e
        exact .tup (ex.t a) (toPs_rep ex ds _ ps b q)
  | .lst ds, _, p, r, e => by
    cases r with
    | lst a b =>
      unfold toP at e
      cases q : toPs ds with
      | none => rw [q] at e; cases e
      | some ps =>
        rw [q] at e
        cases e
        exact .lst (.inl (ex.rd a)) (toPs_rep ex ds _ ps b q)
  | .rol _, _, _, _, e => by cases e
  | .loc _, _, _, _, e => by cases e
  | .con _, _, _, _, e => by cases e
theorem toPs_rep (ex : Ext w.S H) : ∀ (ds : List D) (vs : List V) (ps : List PyData), Ra K w vs ds → toPs ds = some ps → DpAll K H vs ps
  | [], _, _, r, e => by cases r; cases e; exact .nil
  | d :: ds, _, ps, r, e => by
    cases r with
    | cons a b =>
      unfold toPs at e
      cases q1 : toP d with
      | none => rw [q1] at e; cases e
      | some p =>
        cases q2 : toPs ds with
        | none => rw [q1, q2] at e; cases e
        | some qs =>
          rw [q1, q2] at e
          cases e
          exact .cons (toP_rep ex d _ p a q1) (toPs_rep ex ds _ qs b q2)
end
theorem toPh_rep (r : RepH K w H h) {v : V} {d : D} {p : PyData} (rv : Rv K w v d) (e : toPh h d = some p) : Dp K H v p := by
  cases rv with
  | @loc n hn =>
    have e : (match h[n]? with
      | some (.lst ds) => (toPs ds).map .list
      | _ => none) = some p := e
    split at e
    · rename_i ds e'
      obtain ⟨_, xs, e2, ra⟩ := r.cell _ _ e'
      cases q : toPs ds with
      | none => rw [q] at e; cases e
      | some ps =>
        rw [q] at e
        cases e
        exact .lst (.inl (.inl e2)) (toPs_rep r.ex ds _ ps ra q)
    · cases e
  | non => exact toP_rep r.ex _ _ p .non e
  | bl b => exact toP_rep r.ex _ _ p (.bl b) e
  | int b => exact toP_rep r.ex _ _ p (.int b) e
  | str b => exact toP_rep r.ex _ _ p (.str b) e
  | tup a b => exact toP_rep r.ex _ _ p (.tup a b) e
  | lst a b => exact toP_rep r.ex _ _ p (.lst a b) e
  | con => cases e
  | rol => cases e
end
/-- both read, of a shape that the library compares -/
noncomputable def okP (h : AH) (d : D) : Option PyData := match toPh h d with
  | some p => if SeqAt.shaped p = true then some p else none
  | none => none
theorem okP_some {h : AH} {d : D} {p : PyData} (e : okP h d = some p) : toPh h d = some p ∧ SeqAt.shaped p = true := by
  unfold okP at e
  split at e
  · split at e
    · cases e
      exact ⟨by assumption, by assumption⟩
    · cases e
  · cases e
noncomputable def fEq (x y : D) (h : AH) : Res D := match okP h x, okP h y with
  | some p, some q => .ok (.bl (PyData.eqv p q)) h
  | _, _ => .stuck
noncomputable def fNe (x y : D) (h : AH) : Res D := match okP h x, okP h y with
  | some p, some q => .ok (.bl (!PyData.eqv p q)) h
  | _, _ => .stuck
/-- x in a list or tuple -/
noncomputable def inD (h : AH) (x y : D) : Option Bool := match okP h x, okP h y with
  | some p, some (.list qs) => some (qs.any fun z => PyData.eqv z p)
  | some p, some (.tuple qs) => some (qs.any fun z => PyData.eqv z p)
  | _, _ => none
noncomputable def fIn (x y : D) (h : AH) : Res D := match inD h x y with
  | some b => .ok (.bl b) h
  | none => .stuck
noncomputable def fNotIn (x y : D) (h : AH) : Res D := match inD h x y with
  | some b => .ok (.bl (!b)) h
  | none => .stuck
section
variable {X : Cx} {W : WX}
theorem fol_eq : Fol2 X W fEq (rEqD X.K) := by
  intro w h H σ Q v1 v2 d1 d2 rh r1 r2 o
  unfold fEq at o
  split at o
  · rename_i p q e1 e2
    obtain ⟨a1, a2⟩ := okP_some e1
    obtain ⟨b1, b2⟩ := okP_some e2
    exact ⟨p, q, toPh_rep rh r1 a1, toPh_rep rh r2 b1, a2, b2, out_ok o rh (.bl _)⟩
  · exact o.elim
theorem fol_ne : Fol2 X W fNe (rNeD X.K) := by
  intro w h H σ Q v1 v2 d1 d2 rh r1 r2 o
  unfold fNe at o
  split at o
  · rename_i p q e1 e2
    obtain ⟨a1, a2⟩ := okP_some e1
    obtain ⟨b1, b2⟩ := okP_some e2
    exact ⟨p, q, toPh_rep rh r1 a1, toPh_rep rh r2 b1, a2, b2, out_ok o rh (.bl _)⟩
  · exact o.elim
/-- x in y, x not in y: a list or a tuple -/
noncomputable def rInA (K : PySem.W.Frag) (neg : Bool) : R2 := fun x y H Q => ∃ d ds, Dp K H x d ∧ (Dp K H y (.list ds) ∨ Dp K H y (.tuple ds)) ∧ SeqAt.shaped d = true ∧ SeqAt.shaped (.list ds) = true ∧ Q (.bl (if neg then !(ds.any fun z => PyData.eqv z d) else ds.any fun z => PyData.eqv z d)) H
theorem op_inA (hu : X.A.units + 65 < cLine) : OpR X (compareOp .In) (rInA X.K false) := by
  intro pins s σ H x y v u Q I rx ry h
  obtain ⟨d, ds, hd, he, sd, se, q⟩ := h
  obtain ⟨as, r1⟩ := Dp.reads I d x v hd rx
  rcases he with he | he
  · obtain ⟨bs, r2⟩ := Dp.reads I (.list ds) y u he ry
    exact SeqAt.in_list_reads r2 r1 (SeqAt.canLay_of_shaped se) (SeqAt.canLay_of_shaped sd) (room_in_shaped sd hu) ⟨.bl _, H, I, rfl, q⟩
  · obtain ⟨bs, r2⟩ := Dp.reads I (.tuple ds) y u he ry
    exact SeqAt.in_tuple_reads r2 r1 (SeqAt.canLay_of_shaped se) (SeqAt.canLay_of_shaped sd) (room_in_shaped sd hu) ⟨.bl _, H, I, rfl, q⟩
theorem op_notInA (hu : X.A.units + 65 < cLine) : OpR X (compareOp .NotIn) (rInA X.K true) := by
  intro pins s σ H x y v u Q I rx ry h
  obtain ⟨d, ds, hd, he, sd, se, q⟩ := h
  obtain ⟨as, r1⟩ := Dp.reads I d x v hd rx
  rcases he with he | he
  · obtain ⟨bs, r2⟩ := Dp.reads I (.list ds) y u he ry
    exact SeqAt.notIn_list_reads r2 r1 (SeqAt.canLay_of_shaped se) (SeqAt.canLay_of_shaped sd) (room_in_shaped sd hu) ⟨.bl _, H, I, rfl, q⟩
  · obtain ⟨bs, r2⟩ := Dp.reads I (.tuple ds) y u he ry
    exact SeqAt.notIn_tuple_reads r2 r1 (SeqAt.canLay_of_shaped se) (SeqAt.canLay_of_shaped sd) (room_in_shaped sd hu) ⟨.bl _, H, I, rfl, q⟩
theorem inD_rep {K : PySem.W.Frag} {w : Wd} {H : Hp} {h : AH} {v1 v2 : V} {d1 d2 : D} {b : Bool} (rh : RepH K w H h) (r1 : Rv K w v1 d1) (r2 : Rv K w v2 d2) (e : inD h d1 d2 = some b) :
    ∃ d ds, Dp K H v1 d ∧ (Dp K H v2 (.list ds) ∨ Dp K H v2 (.tuple ds)) ∧ SeqAt.shaped d = true ∧ SeqAt.shaped (.list ds) = true ∧ b = ds.any fun z => PyData.eqv z d := by
  unfold inD at e
  split at e
  · rename_i p qs e1 e2
    obtain ⟨a1, a2⟩ := okP_some e1
    obtain ⟨b1, b2⟩ := okP_some e2
    cases e
    exact ⟨p, qs, toPh_rep rh r1 a1, .inl (toPh_rep rh r2 b1), a2, b2, rfl⟩
  · rename_i p qs e1 e2
    obtain ⟨a1, a2⟩ := okP_some e1
    obtain ⟨b1, b2⟩ := okP_some e2
    cases e
    exact ⟨p, qs, toPh_rep rh r1 a1, .inr (toPh_rep rh r2 b1), a2, b2, rfl⟩
  · cases e
theorem fol_in : Fol2 X W fIn (rInA X.K false) := by
  intro w h H σ Q v1 v2 d1 d2 rh r1 r2 o
  unfold fIn at o
  split at o
  · rename_i b e
    obtain ⟨d, ds, q1, q2, q3, q4, rfl⟩ := inD_rep rh r1 r2 e
    exact ⟨d, ds, q1, q2, q3, q4, out_ok o rh (.bl _)⟩
  · exact o.elim
theorem fol_notIn : Fol2 X W fNotIn (rInA X.K true) := by
  intro w h H σ Q v1 v2 d1 d2 rh r1 r2 o
  unfold fNotIn at o
  split at o
  · rename_i b e
    obtain ⟨d, ds, q1, q2, q3, q4, rfl⟩ := inD_rep rh r1 r2 e
    exact ⟨d, ds, q1, q2, q3, q4, out_ok o rh (.bl _)⟩
  · exact o.elim
end

/-! ### truth, tests -/
noncomputable def truD (h : AH) : D → Option Bool
  | .non => some false
  | .bl b => some b
  | .int i => some (i != 0)
  | d => (vS h d).map fun ds => !ds.isEmpty
noncomputable def tOf (m : Me) : MeT := fun G h => (m G h).bind fun d h1 => match truD h1 d with
  | some b => .ok b h1
  | none => .stuck
/-- a bool's own -/
noncomputable def tBl (m : Me) : MeT := fun G h => (m G h).bind fun d h1 => match d with
  | .bl b => .ok b h1
  | _ => .stuck
noncomputable def tAndM (a b : MeT) : MeT := fun G h => (a G h).bind fun c h1 => if c = true then b G h1 else .ok false h1
noncomputable def tOrM (a b : MeT) : MeT := fun G h => (a G h).bind fun c h1 => if c = true then .ok true h1 else b G h1
noncomputable def tNotM (a : MeT) : MeT := fun G h => (a G h).bind fun c h1 => .ok (!c) h1
noncomputable def mAnd (a b : Me) : Me := fun G h => (a G h).bind fun d h1 => match truD h1 d with
  | some true => b G h1
  | some false => .ok d h1
  | none => .stuck
noncomputable def mOr (a b : Me) : Me := fun G h => (a G h).bind fun d h1 => match truD h1 d with
  | some true => .ok d h1
  | some false => b G h1
  | none => .stuck
noncomputable def mNot (a : Me) : Me := fun G h => (a G h).bind fun d h1 => match truD h1 d with
  | some b => .ok (.bl (!b)) h1
  | none => .stuck
noncomputable def mIf (c : MeT) (a b : Me) : Me := fun G h => (c G h).bind fun t h1 => if t = true then a G h1 else b G h1
theorem truD_rep {K : PySem.W.Frag} {w : Wd} {H : Hp} {h : AH} {v : V} {d : D} {b : Bool} (rh : RepH K w H h) (rv : Rv K w v d) (e : truD h d = some b) : TruV K v H b := by
  have seq : ∀ {ds : List D}, vS h d = some ds → b = (!ds.isEmpty) → TruV K v H b := by
    intro ds q hb
    obtain ⟨a, xs, rfl, sq, ra⟩ := vS_rep rh rv q
    have eb : b = !xs.isEmpty := by
      rw [hb]
      cases ra <;> rfl
    rcases sq with sq | sq
    · exact .inl ⟨xs, sq, eb⟩
    · exact .inr (.inl ⟨xs, sq, eb⟩)
  cases d with
  | non => cases rv; cases e; rfl
  | bl c => cases rv; cases e; rfl
  | int c => cases rv; cases e; rfl
  | str c => cases e
  | con c => cases e
  | tup ds => cases e; exact seq rfl rfl
  | lst ds => cases e; exact seq rfl rfl
  | rol ds => cases e; exact seq rfl rfl
  | loc n =>
    have e : (vS h (.loc n)).map (fun ds : List D => !ds.isEmpty) = some b := e
    cases q : vS h (.loc n) with
    | none => rw [q] at e; cases e
    | some ds =>
      rw [q] at e
      cases e
      exact seq q rfl
section
variable {X : Cx} {W : WX} {pos : Pos} {a b c : Expr} {rest : List Expr} {ma mb : Me} {ta tb tc : MeT}
theorem t_tru (ha : PE X a (TM X W ma)) (he : ∀ whole, isTrue a X.env whole = (do let v ← whole; standAt a.pos; holding [v] (truthy v)) := by intro _; rfl) : PT X a (TTT X W (tOf ma)) := by
  refine (pt_truth ha he).wk fun σ H Q ⟨w, G, h, g, r, o⟩ => ⟨w, G, h, g, r, o.bindE fun d h1 v w1 H1 l r1 x o1 => ?_⟩
  split at o1
  · rename_i k e
    exact ⟨k, truD_rep r1 x e, o1 w1 H1 (Le.refl _) r1⟩
  · exact o1.elim
/-- a comparison -/
theorem t_cmp {f : D → D → AH → Res D} {r : R2} {op : CmpOp} (ho : OpR X (compareOp op) r) (hf : Fol2 X W f r) (ha : PE X a (TM X W ma)) (hb : PE X b (TM X W mb)) (hm : behindInMarks op b = false := by rfl) : PT X (.Compare a [op] [b] pos) (TTT X W (tBl (mOp2 f ma mb))) := by
  refine (pt_cmpR ho ha hb hm).wk fun σ H Q ⟨w, G, h, g, r, o⟩ => ?_
  refine op2 hf ⟨w, G, h, g, r, o.bindE fun d h1 v w1 H1 l r1 x o1 => ?_⟩
  split at o1
  · cases x
    exact ⟨_, rfl, o1 w1 H1 (Le.refl _) r1⟩
  · exact o1.elim
theorem t_not (ha : PT X a (TTT X W ta)) : PT X (.UnaryOp .Not a pos) (TTT X W (tNotM ta)) :=
  (pt_not ha).wk fun σ H Q ⟨w, G, h, g, r, o⟩ => ⟨w, G, h, g, r, o.bindT fun b h1 w1 H1 l r1 o1 => o1 w1 H1 (Le.refl _) r1⟩
theorem w_one (op : BoolOp) (ha : PT X a (TTT X W ta)) : PW X (.BoolOp op [a] pos) (TTT X W ta) := by
  cases op
  · exact pw_and1 ha
  · exact pw_or1 ha
theorem w_and (ha : PT X a (TTT X W ta)) (hb : PW X (.BoolOp .And (b :: rest) pos) (TTT X W tb)) : PW X (.BoolOp .And (a :: b :: rest) pos) (TTT X W (tAndM ta tb)) := by
  refine (pw_and ha hb).wk fun σ H Q ⟨w, G, h, g, r, o⟩ => ⟨w, G, h, g, r, o.bindT fun c h1 w1 H1 l r1 o1 => ?_⟩
  cases c with
  | true => exact ⟨w1, G, h1, g.mono l, r1, o1⟩
  | false => exact o1 w1 H1 (Le.refl _) r1
theorem w_or (ha : PT X a (TTT X W ta)) (hb : PW X (.BoolOp .Or (b :: rest) pos) (TTT X W tb)) : PW X (.BoolOp .Or (a :: b :: rest) pos) (TTT X W (tOrM ta tb)) := by
  refine (pw_or ha hb).wk fun σ H Q ⟨w, G, h, g, r, o⟩ => ⟨w, G, h, g, r, o.bindT fun c h1 w1 H1 l r1 o1 => ?_⟩
  cases c with
  | true => exact o1 w1 H1 (Le.refl _) r1
  | false => exact ⟨w1, G, h1, g.mono l, r1, o1⟩
theorem e_one {op : BoolOp} (ha : PE X a (TM X W ma)) : PE X (.BoolOp op [a] pos) (TM X W ma) := pe_one ha
theorem e_and (ha : PE X a (TM X W ma)) (hb : PE X (.BoolOp .And (b :: rest) pos) (TM X W mb)) : PE X (.BoolOp .And (a :: b :: rest) pos) (TM X W (mAnd ma mb)) := by
  refine (pe_andT ha hb).wk fun σ H Q ⟨w, G, h, g, r, o⟩ => ⟨w, G, h, g, r, o.bindE fun d h1 v w1 H1 l r1 x o1 => ?_⟩
  split at o1
  · rename_i e
    exact ⟨true, truD_rep r1 x e, iteT ⟨w1, G, h1, g.mono l, r1, o1⟩⟩
  · rename_i e
    exact ⟨false, truD_rep r1 x e, iteF (out_ok o1 r1 x)⟩
  · exact o1.elim
theorem e_or (ha : PE X a (TM X W ma)) (hb : PE X (.BoolOp .Or (b :: rest) pos) (TM X W mb)) : PE X (.BoolOp .Or (a :: b :: rest) pos) (TM X W (mOr ma mb)) := by
  refine (pe_orT ha hb).wk fun σ H Q ⟨w, G, h, g, r, o⟩ => ⟨w, G, h, g, r, o.bindE fun d h1 v w1 H1 l r1 x o1 => ?_⟩
  split at o1
  · rename_i e
    exact ⟨true, truD_rep r1 x e, iteT (out_ok o1 r1 x)⟩
  · rename_i e
    exact ⟨false, truD_rep r1 x e, iteF ⟨w1, G, h1, g.mono l, r1, o1⟩⟩
  · exact o1.elim
theorem e_not (ha : PE X a (TM X W ma)) : PE X (.UnaryOp .Not a pos) (TM X W (mNot ma)) := by
  refine (pe_notT ha).wk fun σ H Q ⟨w, G, h, g, r, o⟩ => ⟨w, G, h, g, r, o.bindE fun d h1 v w1 H1 l r1 x o1 => ?_⟩
  split at o1
  · rename_i b e
    exact ⟨b, truD_rep r1 x e, out_ok o1 r1 (.bl _)⟩
  · exact o1.elim
theorem e_if (hc : PT X c (TTT X W tc)) (ha : PE X a (TM X W ma)) (hb : PE X b (TM X W mb)) : PE X (.IfExp c a b pos) (TM X W (mIf tc ma mb)) := by
  refine (pe_ifExp hc ha hb).wk fun σ H Q ⟨w, G, h, g, r, o⟩ => ⟨w, G, h, g, r, o.bindT fun t h1 w1 H1 l r1 o1 => ?_⟩
  cases t with
  | true => exact ⟨w1, G, h1, g.mono l, r1, o1⟩
  | false => exact ⟨w1, G, h1, g.mono l, r1, o1⟩
/-- least <= x <= most -/
noncomputable def mChain (f g : D → D → AH → Res D) (a b c : Me) : Me := fun G h => (a G h).bind fun x h1 => (b G h1).bind fun y h2 => (f x y h2).bind fun z h3 => match z with
  | .bl true => (c G h3).bind fun u h4 => g y u h4
  | .bl false => .ok (.bl false) h3
  | _ => .stuck
theorem OutE.bindR {K : PySem.W.Frag} {mg : Str → Option Value} {w : Wd} {σ : L2.St} {R Q : VK} {k : D → AH → Res D} {m : Res D} (o : OutE K mg W w σ Q (m.bind k))
    (hq : ∀ d h1 v w1 H1, Le w w1 → RepH K w1 H1 h1 → Rv K w1 v d → OutE K mg W w1 σ Q (k d h1) → R v H1) : OutE K mg W w σ R m := by
  cases m with
  | ok d h1 => exact fun v w1 H1 l r x => hq d h1 v w1 H1 l r x (OutE.mono l o)
  | exc c fs h1 => exact o
  | stuck => exact o
theorem e_chain {f f' : D → D → AH → Res D} {r r' : R2} {op op' : CmpOp} {mc : Me} (ho : OpR X (compareOp op) r) (ho' : OpR X (compareOp op') r') (hf : Fol2 X W f r) (hf' : Fol2 X W f' r')
    (ha : PE X a (TM X W ma)) (hb : PE X b (TM X W mb)) (hc : PE X c (TM X W mc)) (hm : lastMarks [op, op'] [b, c] = false := by with_unfolding_all rfl) : PE X (.Compare a [op, op'] [b, c] pos) (TM X W (mChain f f' ma mb mc)) := by
  refine (pe_chain ho ho' ha hb hc hm).wk fun σ H Q ⟨w, G, h, g, rh, o⟩ => ?_
  refine ⟨w, G, h, g, rh, o.bindE fun d h1 v w1 H1 l r1 x o1 => ⟨w1, G, h1, g.mono l, r1, o1.bindE fun d2 h2 v2 w2 H2 l2 r2 x2 o2 => ?_⟩⟩
  refine hf w2 h2 H2 σ _ v v2 d d2 r2 (Rv_mono l2 x) x2 (o2.bindR fun d3 h3 v3 w3 H3 l3 r3 x3 o3 => ?_)
  split at o3
  · cases x3
    exact ⟨true, rfl, iteT ⟨w3, G, h3, g.mono (l.trans (l2.trans l3)), r3, o3.bindE fun d4 h4 v4 w4 H4 l4 r4 x4 o4 => hf' w4 h4 H4 σ Q v2 v4 d2 d4 r4 (Rv_mono (l3.trans l4) x2) x4 o4⟩⟩
  · cases x3
    exact ⟨false, rfl, iteF (out_ok o3 r3 (.bl false))⟩
  · exact o3.elim
end
end AB
/-! AB: built-in calls, subscripts, slices, calls of defs. -/
namespace AB
open PySem PySem.Spec PyProof.Rows L2

/-! ### calls by values -/
section
variable {X : Cx} {W : WX} {pos p : Pos} {e : Expr} {es : List Expr} {as : MeL} {x : Str} {bid T : String} {ma mb : Me}
theorem cb {f : List D → AH → Res D} {r : List V → Hp → VK → Prop} (hf : FolN X W f r) {σ : L2.St} {H : Hp} {Q : VK} (t : TM X W (mN f as) σ H Q) : tCB r (TAr X W as) σ H Q := by
  obtain ⟨w, G, h, g, rh, o⟩ := t
  exact ⟨w, G, h, g, rh, o.bindA fun ds h1 vs w1 H1 l r1 x o1 => hf w1 h1 H1 σ Q vs ds r1 x o1⟩
noncomputable def lN (f : List D → AH → Res (List D)) (as : MeL) : MeL := fun G h => (as G h).bind fun xs h1 => f xs h1
theorem cbF {f : List D → AH → Res (List D)} {r : List V → Hp → VK → Prop} (hf : FolF X W f r) {σ : L2.St} {H : Hp} {Q : VK} (t : TF X W (lN f as) σ H Q) : tCB r (TAr X W as) σ H Q := by
  obtain ⟨w, G, h, g, rh, o⟩ := t
  exact ⟨w, G, h, g, rh, OutF.bindA (m := as) o fun ds h1 vs w1 H1 l r1 x o1 => hf w1 h1 H1 σ Q vs ds r1 x o1⟩
theorem e_blt {f : List D → AH → Res D} {r : List V → Hp → VK → Prop} (hc : CallR X (.builtin bid) r) (hf : FolN X W f r) (hm : X.mg x = none) (ha : PA X (e :: es) (TAr X W as)) (hg : Gl X x := by rfl) (hv : bootBuiltins x = some (.builtin bid) := by decide +kernel) (hn : x ≠ "__name__" := by decide) (hdb : (x == ("__debug__" : Str)) = false := by decide)
    (he : starEach (e :: es) X.env = (false, eval e X.env) :: starEach es X.env := by rfl) (hpl : (backTo pos (starEach es X.env)).any (·.1) = false := by rfl) : PE X (.Call (.Name x p) (e :: es) [] pos) (TM X W (mN f as)) :=
  (pe_callB hc hg hm hv ha hn hdb he hpl).wk fun _ _ _ t => cb hf t
theorem e_typ {f : List D → AH → Res D} {r : List V → Hp → VK → Prop} (hc : CallR X (.type T) r) (hf : FolN X W f r) (hm : X.mg x = none) (ha : PA X (e :: es) (TAr X W as)) (hg : Gl X x := by rfl) (hv : bootBuiltins x = some (.type T) := by decide +kernel) (hn : x ≠ "__name__" := by decide) (hdb : (x == ("__debug__" : Str)) = false := by decide)
    (he : starEach (e :: es) X.env = (false, eval e X.env) :: starEach es X.env := by rfl) (hpl : (backTo pos (starEach es X.env)).any (·.1) = false := by rfl) : PE X (.Call (.Name x p) (e :: es) [] pos) (TM X W (mN f as)) :=
  (pe_callTy hc hg hm hv ha hn hdb he hpl).wk fun _ _ _ t => cb hf t
theorem f_blt {f : List D → AH → Res (List D)} {r : List V → Hp → VK → Prop} (hc : CallR X (.builtin bid) r) (hf : FolF X W f r) (hm : X.mg x = none) (ha : PA X (e :: es) (TAr X W as)) (hg : Gl X x := by rfl) (hv : bootBuiltins x = some (.builtin bid) := by decide +kernel) (hn : x ≠ "__name__" := by decide) (hdb : (x == ("__debug__" : Str)) = false := by decide)
    (he : starEach (e :: es) X.env = (false, eval e X.env) :: starEach es X.env := by rfl) (hpl : (backTo pos (starEach es X.env)).any (·.1) = false := by rfl) : PE X (.Call (.Name x p) (e :: es) [] pos) (TF X W (lN f as)) :=
  (pe_callB hc hg hm hv ha hn hdb he hpl).wk fun _ _ _ t => cbF hf t
theorem f_typ {f : List D → AH → Res (List D)} {r : List V → Hp → VK → Prop} (hc : CallR X (.type T) r) (hf : FolF X W f r) (hm : X.mg x = none) (ha : PA X (e :: es) (TAr X W as)) (hg : Gl X x := by rfl) (hv : bootBuiltins x = some (.type T) := by decide +kernel) (hn : x ≠ "__name__" := by decide) (hdb : (x == ("__debug__" : Str)) = false := by decide)
    (he : starEach (e :: es) X.env = (false, eval e X.env) :: starEach es X.env := by rfl) (hpl : (backTo pos (starEach es X.env)).any (·.1) = false := by rfl) : PE X (.Call (.Name x p) (e :: es) [] pos) (TF X W (lN f as)) :=
  (pe_callTy hc hg hm hv ha hn hdb he hpl).wk fun _ _ _ t => cbF hf t
theorem ra_one {w : Wd} {vs : List V} {d : D} (r : Ra X.K w vs [d]) : ∃ v, vs = [v] ∧ Rv X.K w v d := by
  cases r with
  | cons a b => cases b; exact ⟨_, rfl, a⟩
theorem ra_two {w : Wd} {vs : List V} {d d2 : D} (r : Ra X.K w vs [d, d2]) : ∃ v v2, vs = [v, v2] ∧ Rv X.K w v d ∧ Rv X.K w v2 d2 := by
  cases r with
  | cons a b =>
    cases b with
    | cons c d => cases d; exact ⟨_, _, rfl, a, c⟩
/-! len -/
noncomputable def fLen (xs : List D) (h : AH) : Res D := match xs with
  | [.str x] => if x.length ≤ big then .ok (.int x.length) h else .stuck
  | [d] => match vS h d with
    | some ds => .ok (.int ds.length) h
    | none => .stuck
  | _ => .stuck
theorem fol_len : FolN X W fLen (fun xs H Q => ∃ x n, xs = [x] ∧ LenV X.K x H n ∧ Q (.int n) H) := by
  intro w h H σ Q vs ds rh ra o
  unfold fLen at o
  split at o
  · obtain ⟨v, rfl, rv⟩ := ra_one ra
    split at o
    · rename_i c
      cases rv
      exact ⟨_, _, rfl, ⟨big_le c, rfl⟩, out_ok o rh (.int _)⟩
    · exact o.elim
  · obtain ⟨v, rfl, rv⟩ := ra_one ra
    split at o
    · rename_i es e
      obtain ⟨a, xs, rfl, sq, ra2⟩ := vS_rep rh rv e
      refine ⟨_, xs.length, rfl, ?_, ?_⟩
      · rcases sq with sq | sq
        · exact .inl ⟨xs, sq, rfl⟩
        · exact .inr ⟨xs, sq, rfl⟩
      · rw [ra2.length]
        exact out_ok o rh (.int _)
    · exact o.elim
  · exact o.elim
theorem e_len (hm : X.mg "len" = none) (ha : PA X [e] (TAr X W as)) (hg : Gl X "len" := by rfl) (he : starEach [e] X.env = (false, eval e X.env) :: starEach [] X.env := by rfl) : PE X (.Call (.Name "len" p) [e] [] pos) (TM X W (mN fLen as)) :=
  e_blt call_len fol_len hm ha hg PySem.boot_len (by decide) (by decide) he rfl
/-! tuple(x), list(x), int(x), abs(x) -/
noncomputable def fTuple (xs : List D) (h : AH) : Res D := match xs with
  | [d] => match vS h d with
    | some ds => .ok (.tup ds) h
    | none => .stuck
  | _ => .stuck
theorem fol_tuple : FolN X W fTuple (fun xs H Q => ∃ p ys, xs = [.ref p] ∧ ((SqL X.K H p ys ∧ ∀ l, H l = none → Q (.ref l) (upd H l (.tup ys))) ∨ (SqT X.K H p ys ∧ Q (.ref p) H))) := by
  intro w h H σ Q vs ds rh ra o
  unfold fTuple at o
  split at o
  · rename_i d
    obtain ⟨v, rfl, rv⟩ := ra_one ra
    split at o
    · rename_i es e
      by_cases ht : ∃ ts, d = .tup ts
      · obtain ⟨ts, rfl⟩ := ht
        cases e
        cases rv with
        | tup a b => exact ⟨_, _, rfl, .inr ⟨rh.ex.t a, out_ok o rh (.tup a b)⟩⟩
      · have e : vL h d = some es := by
          cases d with
          | tup es => exact absurd ⟨es, rfl⟩ ht
          | _ => exact e
        obtain ⟨a, xs, rfl, sq, ra2⟩ := vL_rep rh rv e
        exact ⟨a, xs, rfl, .inl ⟨sq, fun l hl => out_add o rh hl (rv_tup rh hl ra2)⟩⟩
    · exact o.elim
  · exact o.elim
theorem e_tuple (hm : X.mg "tuple" = none) (ha : PA X [e] (TAr X W as)) (hg : Gl X "tuple" := by rfl) (he : starEach [e] X.env = (false, eval e X.env) :: starEach [] X.env := by rfl) : PE X (.Call (.Name "tuple" p) [e] [] pos) (TM X W (mN fTuple as)) :=
  e_typ call_tuple_of fol_tuple hm ha hg (by decide +kernel) (by decide) (by decide) he rfl
noncomputable def lList (xs : List D) (h : AH) : Res (List D) := match xs with
  | [d] => match vS h d with
    | some ds => .ok ds h
    | none => .stuck
  | _ => .stuck
theorem fol_list : FolF X W lList (fun xs H Q => ∃ p ys, xs = [.ref p] ∧ (SqL X.K H p ys ∨ SqT X.K H p ys) ∧ ∀ l, H l = none → Q (.ref l) (upd H l (.lst ys))) := by
  intro w h H σ Q vs ds rh ra o
  unfold lList at o
  split at o
  · obtain ⟨v, rfl, rv⟩ := ra_one ra
    split at o
    · rename_i es e
      obtain ⟨a, xs, rfl, sq, ra2⟩ := vS_rep rh rv e
      exact ⟨a, xs, rfl, sq, fun l hl => out_new o rh hl ra2⟩
    · exact o.elim
  · exact o.elim
theorem f_list (hm : X.mg "list" = none) (ha : PA X [e] (TAr X W as)) (hg : Gl X "list" := by rfl) (he : starEach [e] X.env = (false, eval e X.env) :: starEach [] X.env := by rfl) : PE X (.Call (.Name "list" p) [e] [] pos) (TF X W (lN lList as)) :=
  f_typ call_list_of fol_list hm ha hg (by decide +kernel) (by decide) (by decide) he rfl
noncomputable def fInt (xs : List D) (h : AH) : Res D := match xs with
  | [.int i] => .ok (.int i) h
  | [.bl b] => .ok (.int (if b then 1 else 0)) h
  | _ => .stuck
theorem fol_int1 : FolN X W fInt (fun xs H Q => (∃ i, xs = [.int i] ∧ Q (.int i) H) ∨ ∃ k, xs = [.bl k] ∧ Q (.int (if k then 1 else 0)) H) := by
  intro w h H σ Q vs ds rh ra o
  unfold fInt at o
  split at o
  · obtain ⟨v, rfl, rv⟩ := ra_one ra
    cases rv
    exact .inl ⟨_, rfl, out_ok o rh (.int _)⟩
  · obtain ⟨v, rfl, rv⟩ := ra_one ra
    cases rv
    exact .inr ⟨_, rfl, out_ok o rh (.int _)⟩
  · exact o.elim
theorem e_int1 (hm : X.mg "int" = none) (ha : PA X [e] (TAr X W as)) (hg : Gl X "int" := by rfl) (he : starEach [e] X.env = (false, eval e X.env) :: starEach [] X.env := by rfl) : PE X (.Call (.Name "int" p) [e] [] pos) (TM X W (mN fInt as)) :=
  e_typ call_int1 fol_int1 hm ha hg (by decide +kernel) (by decide) (by decide) he rfl
noncomputable def fAbs (xs : List D) (h : AH) : Res D := match xs with
  | [.int i] => .ok (.int (if i < 0 then -i else i)) h
  | _ => .stuck
theorem fol_abs : FolN X W fAbs (fun xs H Q => ∃ i, xs = [.int i] ∧ Q (.int (if i < 0 then -i else i)) H) := by
  intro w h H σ Q vs ds rh ra o
  unfold fAbs at o
  split at o
  · obtain ⟨v, rfl, rv⟩ := ra_one ra
    cases rv
    exact ⟨_, rfl, out_ok o rh (.int _)⟩
  · exact o.elim
theorem e_abs (hm : X.mg "abs" = none) (ha : PA X [e] (TAr X W as)) (hg : Gl X "abs" := by rfl) (he : starEach [e] X.env = (false, eval e X.env) :: starEach [] X.env := by rfl) : PE X (.Call (.Name "abs" p) [e] [] pos) (TM X W (mN fAbs as)) :=
  e_blt call_abs fol_abs hm ha hg (by decide +kernel) (by decide) (by decide) he rfl
/-! all, any, sum, max, min, sorted of ints -/
noncomputable def blsOf : List D → Option (List Bool)
  | [] => some []
  | .bl b :: ds => (blsOf ds).map (b :: ·)
  | _ :: _ => none
noncomputable def intsOf : List D → Option (List Int)
  | [] => some []
  | .int b :: ds => (intsOf ds).map (b :: ·)
  | _ :: _ => none
theorem blsOf_rep {w : Wd} : ∀ {ds : List D} {xs : List V} {bs : List Bool}, Ra X.K w xs ds → blsOf ds = some bs → xs = bs.map V.bl
  | [], _, _, r, e => by cases r; cases e; rfl
  | .bl b :: ds, _, bs, r, e => by
    cases r with
    | cons a t =>
      cases a
      unfold blsOf at e
      cases q : blsOf ds with
      | none => rw [q] at e; cases e
      | some cs =>
        rw [q] at e
        cases e
        rw [blsOf_rep t q] <;> rfl
  | .non :: _, _, _, _, e => by cases e
  | .int _ :: _, _, _, _, e => by cases e
  | .str _ :: _, _, _, _, e => by cases e
  | .tup _ :: _, _, _, _, e => by cases e
  | .lst _ :: _, _, _, _, e => by cases e
  | .rol _ :: _, _, _, _, e => by cases e
  | .loc _ :: _, _, _, _, e => by cases e
  | .con _ :: _, _, _, _, e => by cases e
theorem intsOf_rep {w : Wd} : ∀ {ds : List D} {xs : List V} {bs : List Int}, Ra X.K w xs ds → intsOf ds = some bs → xs = bs.map V.int
  | [], _, _, r, e => by cases r; cases e; rfl
  | .int b :: ds, _, bs, r, e => by
    cases r with
    | cons a t =>
      cases a
      unfold intsOf at e
      cases q : intsOf ds with
      | none => rw [q] at e; cases e
      | some cs =>
        rw [q] at e
        cases e
        rw [intsOf_rep t q] <;> rfl
  | .non :: _, _, _, _, e => by cases e
  | .bl _ :: _, _, _, _, e => by cases e
  | .str _ :: _, _, _, _, e => by cases e
  | .tup _ :: _, _, _, _, e => by cases e
  | .lst _ :: _, _, _, _, e => by cases e
  | .rol _ :: _, _, _, _, e => by cases e
  | .loc _ :: _, _, _, _, e => by cases e
  | .con _ :: _, _, _, _, e => by cases e
noncomputable def lBls (xs : List D) (h : AH) : Option (List Bool) := match xs with
  | [d] => (vL h d).bind blsOf
  | _ => none
noncomputable def lInts (xs : List D) (h : AH) : Option (List Int) := match xs with
  | [d] => (vL h d).bind intsOf
  | _ => none
theorem lBls_rep {w : Wd} {h : AH} {H : Hp} {vs : List V} {ds : List D} {bs : List Bool} (rh : RepH X.K w H h) (ra : Ra X.K w vs ds) (e : lBls ds h = some bs) : ∃ a, vs = [.ref a] ∧ SqL X.K H a (bs.map V.bl) := by
  unfold lBls at e
  split at e
  · rename_i d
    obtain ⟨v, rfl, rv⟩ := ra_one ra
    cases q : vL h d with
    | none => rw [q] at e; cases e
    | some es =>
      rw [q] at e
      obtain ⟨a, xs, rfl, sq, ra2⟩ := vL_rep rh rv q
      have z := blsOf_rep ra2 e
      subst z
      exact ⟨a, rfl, sq⟩
  · cases e
theorem lInts_rep {w : Wd} {h : AH} {H : Hp} {vs : List V} {ds : List D} {bs : List Int} (rh : RepH X.K w H h) (ra : Ra X.K w vs ds) (e : lInts ds h = some bs) : ∃ a, vs = [.ref a] ∧ SqL X.K H a (bs.map V.int) := by
  unfold lInts at e
  split at e
  · rename_i d
    obtain ⟨v, rfl, rv⟩ := ra_one ra
    cases q : vL h d with
    | none => rw [q] at e; cases e
    | some es =>
      rw [q] at e
      obtain ⟨a, xs, rfl, sq, ra2⟩ := vL_rep rh rv q
      have z := intsOf_rep ra2 e
      subst z
      exact ⟨a, rfl, sq⟩
  · cases e
noncomputable def fAll (xs : List D) (h : AH) : Res D := match lBls xs h with
  | some bs => .ok (.bl (bs.all id)) h
  | none => .stuck
noncomputable def fAny (xs : List D) (h : AH) : Res D := match lBls xs h with
  | some bs => .ok (.bl (bs.any id)) h
  | none => .stuck
noncomputable def maxI : List Int → Int
  | [] => 0
  | [x] => x
  | x :: y :: r => max x (maxI (y :: r))
noncomputable def minI : List Int → Int
  | [] => 0
  | [x] => x
  | x :: y :: r => min x (minI (y :: r))
theorem maxI_ge : ∀ {ns : List Int} {y : Int}, y ∈ ns → y ≤ maxI ns
  | [x], y, h => by simp at h; subst h; exact Int.le_refl _
  | x :: z :: r, y, h => by
    rcases List.mem_cons.mp h with h | h
    · subst h
      exact Int.le_max_left _ _
    · exact Int.le_trans (maxI_ge h) (Int.le_max_right _ _)
theorem maxI_mem : ∀ {ns : List Int}, ns ≠ [] → maxI ns ∈ ns
  | [x], _ => by simp [maxI]
  | x :: z :: r, _ => by
    have := maxI_mem (ns := z :: r) (by simp)
    unfold maxI
    by_cases q : x ≤ maxI (z :: r)
    · rw [Int.max_eq_right q]
      exact List.mem_cons_of_mem _ this
    · rw [Int.max_eq_left (by omega)]
      exact List.mem_cons_self
theorem minI_le : ∀ {ns : List Int} {y : Int}, y ∈ ns → minI ns ≤ y
  | [x], y, h => by simp at h; subst h; exact Int.le_refl _
  | x :: z :: r, y, h => by
    rcases List.mem_cons.mp h with h | h
    · subst h
      exact Int.min_le_left _ _
    · exact Int.le_trans (Int.min_le_right _ _) (minI_le h)
theorem minI_mem : ∀ {ns : List Int}, ns ≠ [] → minI ns ∈ ns
  | [x], _ => by simp [minI]
  | x :: z :: r, _ => by
    have := minI_mem (ns := z :: r) (by simp)
    unfold minI
    by_cases q : x ≤ minI (z :: r)
    · rw [Int.min_eq_left q]
      exact List.mem_cons_self
    · rw [Int.min_eq_right (by omega)]
      exact List.mem_cons_of_mem _ this
noncomputable def fMax (xs : List D) (h : AH) : Res D := match xs with
  | [.int i, .int j] => .ok (.int (if j > i then j else i)) h
  | _ => match lInts xs h with
    | some [] => .stuck
    | some ns => .ok (.int (maxI ns)) h
    | none => .stuck
noncomputable def fMin (xs : List D) (h : AH) : Res D := match xs with
  | [.int i, .int j] => .ok (.int (if j < i then j else i)) h
  | _ => match lInts xs h with
    | some [] => .stuck
    | some ns => .ok (.int (minI ns)) h
    | none => .stuck
theorem fol_all : FolN X W fAll (rAll X.K) := by
  intro w h H σ Q vs ds rh ra o
  unfold fAll at o
  split at o
  · rename_i bs e
    obtain ⟨a, rfl, sq⟩ := lBls_rep rh ra e
    exact ⟨a, bs, rfl, sq, out_ok o rh (.bl _)⟩
  · exact o.elim
theorem fol_any : FolN X W fAny (rAny X.K) := by
  intro w h H σ Q vs ds rh ra o
  unfold fAny at o
  split at o
  · rename_i bs e
    obtain ⟨a, rfl, sq⟩ := lBls_rep rh ra e
    exact ⟨a, bs, rfl, sq, out_ok o rh (.bl _)⟩
  · exact o.elim
noncomputable def rMaxB (K : PySem.W.Frag) : List V → Hp → VK → Prop := fun xs H Q => (∃ i j, xs = [.int i, .int j] ∧ Q (.int (if j > i then j else i)) H) ∨ rMax K xs H Q
noncomputable def rMinB (K : PySem.W.Frag) : List V → Hp → VK → Prop := fun xs H Q => (∃ i j, xs = [.int i, .int j] ∧ Q (.int (if j < i then j else i)) H) ∨ rMin K xs H Q
theorem fol_max : FolN X W fMax (rMaxB X.K) := by
  intro w h H σ Q vs ds rh ra o
  unfold fMax at o
  split at o
  · obtain ⟨v, v2, rfl, r1, r2⟩ := ra_two ra
    cases r1
    cases r2
    exact .inl ⟨_, _, rfl, out_ok o rh (.int _)⟩
  · split at o
    · exact o.elim
    · rename_i bs hne e
      obtain ⟨a, rfl, sq⟩ := lInts_rep rh ra e
      have hb : bs ≠ [] := fun z => hne (by rw [← z] <;> rfl)
      refine .inr ⟨a, bs, rfl, sq, List.length_pos_iff.mpr hb, fun m hm hle => ?_⟩
      have : m = maxI bs := Int.le_antisymm (maxI_ge hm) (hle _ (maxI_mem hb))
      rw [this]
      exact out_ok o rh (.int _)
    · exact o.elim
theorem fol_min : FolN X W fMin (rMinB X.K) := by
  intro w h H σ Q vs ds rh ra o
  unfold fMin at o
  split at o
  · obtain ⟨v, v2, rfl, r1, r2⟩ := ra_two ra
    cases r1
    cases r2
    exact .inl ⟨_, _, rfl, out_ok o rh (.int _)⟩
  · split at o
    · exact o.elim
    · rename_i bs hne e
      obtain ⟨a, rfl, sq⟩ := lInts_rep rh ra e
      have hb : bs ≠ [] := fun z => hne (by rw [← z] <;> rfl)
      refine .inr ⟨a, bs, rfl, sq, List.length_pos_iff.mpr hb, fun m hm hle => ?_⟩
      have : m = minI bs := Int.le_antisymm (hle _ (minI_mem hb)) (minI_le hm)
      rw [this]
      exact out_ok o rh (.int _)
    · exact o.elim
theorem e_all (hm : X.mg "all" = none) (ha : PA X [e] (TAr X W as)) (hg : Gl X "all" := by rfl) (hc : X.calm = true := by rfl) (he : starEach [e] X.env = (false, eval e X.env) :: starEach [] X.env := by rfl) : PE X (.Call (.Name "all" p) [e] [] pos) (TM X W (mN fAll as)) :=
  e_blt (cr_all hc) fol_all hm ha hg (by decide +kernel) (by decide) (by decide) he rfl
theorem e_any (hm : X.mg "any" = none) (ha : PA X [e] (TAr X W as)) (hg : Gl X "any" := by rfl) (hc : X.calm = true := by rfl) (he : starEach [e] X.env = (false, eval e X.env) :: starEach [] X.env := by rfl) : PE X (.Call (.Name "any" p) [e] [] pos) (TM X W (mN fAny as)) :=
  e_blt (cr_any hc) fol_any hm ha hg (by decide +kernel) (by decide) (by decide) he rfl
theorem e_max (hm : X.mg "max" = none) (ha : PA X (e :: es) (TAr X W as)) (hg : Gl X "max" := by rfl) (hc : X.calm = true := by rfl) (he : starEach (e :: es) X.env = (false, eval e X.env) :: starEach es X.env := by rfl) (hpl : (backTo pos (starEach es X.env)).any (·.1) = false := by rfl) : PE X (.Call (.Name "max" p) (e :: es) [] pos) (TM X W (mN fMax as)) :=
  e_blt (CallR.or (call_max2 hc) (cr_max hc)) fol_max hm ha hg (by decide +kernel) (by decide) (by decide) he hpl
theorem e_min (hm : X.mg "min" = none) (ha : PA X (e :: es) (TAr X W as)) (hg : Gl X "min" := by rfl) (hc : X.calm = true := by rfl) (he : starEach (e :: es) X.env = (false, eval e X.env) :: starEach es X.env := by rfl) (hpl : (backTo pos (starEach es X.env)).any (·.1) = false := by rfl) : PE X (.Call (.Name "min" p) (e :: es) [] pos) (TM X W (mN fMin as)) :=
  e_blt (CallR.or (call_min2 hc) (cr_min hc)) fol_min hm ha hg (by decide +kernel) (by decide) (by decide) he hpl

/-! ### isinstance of a built-in class -/
inductive Ty where
  | non | bl | int | str | tup | lst | dct
noncomputable def Ty.name : Ty → String
  | .non => "NoneType"
  | .bl => "bool"
  | .int => "int"
  | .str => "str"
  | .tup => "tuple"
  | .lst => "list"
  | .dct => "dict"
noncomputable def Ty.sub : Ty → Ty → Bool
  | .non, .non => true
  | .bl, .bl => true
  | .bl, .int => true
  | .int, .int => true
  | .str, .str => true
  | .tup, .tup => true
  | .lst, .lst => true
  | .dct, .dct => true
  | _, _ => false
theorem kit_tag : ∀ a b : Ty, kitB a.name b.name = some (a.sub b) := by
  intro a b
  cases a <;> cases b <;> decide +kernel
noncomputable def tyD (h : AH) : D → Option Ty
  | .non => some .non
  | .bl _ => some .bl
  | .int _ => some .int
  | .str _ => some .str
  | .tup _ => some .tup
  | .lst _ => some .lst
  | .rol _ => some .lst
  | .loc n => match h[n]? with
    | some (.lst _) => some .lst
    | _ => none
  | .con _ => none
theorem tyT {K : PySem.W.Frag} {H : Hp} {a : Addr} {xs : List V} (s : SqT K H a xs) : TyX K H (.ref a) (.type "tuple") := by
  rcases s with (s | ⟨o, s⟩) | ⟨o, its, n, hk, hc, _⟩
  · exact .base (.tup s)
  · exact .fTuple s
  · exact .kTuple hk hc
theorem tyL {K : PySem.W.Frag} {H : Hp} {a : Addr} {xs : List V} (s : SqL K H a xs) : TyX K H (.ref a) (.type "list") := by
  rcases s with (s | ⟨o, s⟩) | ⟨o, its, n, hk, hc, _⟩
  · exact .base (.lst s)
  · exact .base (.frz s)
  · exact .kList hk hc
theorem tyD_rep {K : PySem.W.Frag} {w : Wd} {H : Hp} {h : AH} {v : V} {d : D} {t : Ty} (rh : RepH K w H h) (rv : Rv K w v d) (e : tyD h d = some t) : TyX K H v (.type t.name) := by
  cases d with
  | non => cases rv; cases e; exact .base .non
  | bl b => cases rv; cases e; exact .base (.bl b)
  | int b => cases rv; cases e; exact .base (.int b)
  | str b => cases rv; cases e; exact .base (.str b)
  | tup ds =>
    cases rv with
    | tup a b => cases e; exact tyT (rh.ex.t a)
  | lst ds =>
    cases rv with
    | lst a b => cases e; exact tyL (.inl (rh.ex.rd a))
  | rol ds =>
    cases rv with
    | rol a b => cases e; exact tyL (rh.ex.l a)
  | con a => cases e
  | loc n =>
    cases rv with
    | loc hn =>
      have e : (match h[n]? with
        | some (.lst _) => some Ty.lst
        | _ => none) = some t := e
      split at e
      · rename_i ds e'
        obtain ⟨_, xs, e2, ra⟩ := rh.cell _ _ e'
        cases e
        exact .base (.lst e2)
      · cases e
noncomputable def mIsi (T : Ty) (m : Me) : Me := fun G h => (m G h).bind fun d h1 => match tyD h1 d with
  | some t => .ok (.bl (t.sub T)) h1
  | none => .stuck
theorem e_isi (T : Ty) {t : Str} {pt : Pos} (hi : X.mg "isinstance" = none) (ht : X.mg t = none) (he : PE X e (TM X W ma)) (hgt : Gl X t := by rfl) (hbt : bootBuiltins t = some (.type T.name) := by decide +kernel) (hg : Gl X "isinstance" := by rfl)
    (hn : t ≠ "__name__" := by decide) (hd : (t == ("__debug__" : Str)) = false := by decide)
    (h1 : starEach [e, .Name t pt] X.env = (false, eval e X.env) :: starEach [.Name t pt] X.env := by rfl) (h2 : starEach [.Name t pt] X.env = (false, eval (.Name t pt) X.env) :: starEach [] X.env := by rfl) (hpl : (backTo pos (starEach [.Name t pt] X.env)).any (·.1) = false := by rfl) :
    PE X (.Call (.Name "isinstance" p) [e, .Name t pt] [] pos) (TM X W (mIsi T ma)) := by
  refine (pe_callB call_isi hg hi (by decide +kernel) (pa_cons he (pa_cons (pe_bltn (v := .ty T.name) hgt ht hbt rfl hn hd) pa_nil h2) h1) (by decide) (by decide) h1 hpl).wk fun σ H Q ⟨w, G, h, g, r, o⟩ => ⟨w, G, h, g, r, o.bindE fun d h1 v w1 H1 l r1 x o1 => ?_⟩
  split at o1
  · rename_i t e
    exact ⟨v, .ty T.name, .type t.name, .type T.name, t.sub T, rfl, .ty _, tyD_rep r1 x e, kit_ty (kit_tag t T), out_ok o1 r1 (.bl _)⟩
  · exact o1.elim

/-! ### subscripts, slices -/
theorem atI_rep {w : Wd} {xs : List V} {ds : List D} {i : Int} {d : D} (ra : Ra X.K w xs ds) (e : atI ds i = some d) : ∃ v, atI xs i = some v ∧ Rv X.K w v d := by
  unfold atI at e ⊢
  rw [ra.length]
  cases q : ixN ds.length i with
  | none => rw [q] at e; cases e
  | some j =>
    rw [q] at e
    obtain ⟨v, h1, h2⟩ := ra.get (i := j) (d := d) e
    exact ⟨v, h1, h2⟩
noncomputable def fIx (x i : D) (h : AH) : Res D := match i with
  | .int k => match vS h x with
    | some ds => match atI ds k with
      | some d => .ok d h
      | none => .stuck
    | none => .stuck
  | _ => .stuck
theorem fol_ix : Fol2 X W fIx (rIx X.K) := by
  intro w h H σ Q v1 v2 d1 d2 rh r1 r2 o
  unfold fIx at o
  split at o
  · rename_i k
    split at o
    · rename_i ds e
      split at o
      · rename_i d e2
        cases r2
        obtain ⟨a, xs, rfl, sq, ra⟩ := vS_rep rh r1 e
        obtain ⟨v, e3, rv⟩ := atI_rep ra e2
        rcases sq with sq | sq
        · exact .inl ⟨a, xs, k, v, rfl, rfl, sq, e3, out_ok o rh rv⟩
        · exact .inr (.inl ⟨a, xs, k, v, rfl, rfl, sq, e3, out_ok o rh rv⟩)
      · exact o.elim
    · exact o.elim
  · exact o.elim
variable {a b : Expr}
theorem e_ix (ha : PE X a (TM X W ma)) (hb : PE X b (TM X W mb)) (hs : PlainIx b := by exact fun _ _ => rfl) : PE X (.Subscript a b pos) (TM X W (mOp2 fIx ma mb)) :=
  (pe_ix ix_seq ha hb hs).wk fun _ _ _ t => op2 fol_ix t
noncomputable abbrev MeO := Env → AH → Res (Option Int)
noncomputable def oNone : MeO := fun _ h => .ok none h
noncomputable def oSome (m : Me) : MeO := fun G h => (m G h).bind fun d h1 => match d with
  | .int i => .ok (some i) h1
  | _ => .stuck
noncomputable def OutO (K : PySem.W.Frag) (mg : Str → Option Value) (W : WX) (w : Wd) (σ : L2.St) (Q : Option Int → Hp → Prop) : Res (Option Int) → Prop
  | .ok b h => ∀ w' H', Le w w' → RepH K w' H' h → Q b H'
  | .exc c fs h => OutX K mg W w σ c fs h
  | .stuck => False
noncomputable def tO (X : Cx) (W : WX) (m : MeO) : TO := fun σ H Q => ∃ w G h, RepG X.K w σ G ∧ RepH X.K w H h ∧ OutO X.K X.mg W w σ Q (m G h)
theorem _root_.L2.PO.wk {X : Cx} {e : Option Expr} {t t' : TO} (h : PO X e t) (k : ∀ σ H Q, t' σ H Q → t σ H Q) : PO X e t' := ⟨fun pins s σ H Q I q => h.run pins s σ H Q I (k σ H Q q)⟩
theorem o_none : PO X none (tO X W oNone) := po_none.wk fun σ H Q ⟨w, G, h, g, r, o⟩ => o w H (Le.refl _) r
theorem o_some (he : PE X e (TM X W ma)) : PO X (some e) (tO X W (oSome ma)) := by
  refine (po_some he).wk fun σ H Q ⟨w, G, h, g, r, o⟩ => ⟨w, G, h, g, r, ?_⟩
  have o : OutO X.K X.mg W w σ Q ((ma G h).bind _) := o
  cases e : ma G h with
  | ok d h1 =>
    rw [e] at o
    intro v w1 H1 l r1 x
    cases d with
    | int i =>
      cases x
      exact ⟨_, rfl, o w1 H1 l r1⟩
    | _ => exact o.elim
  | exc c fs h1 =>
    rw [e] at o
    exact o
  | stuck =>
    rw [e] at o
    exact o
theorem OutE.bindO {K : PySem.W.Frag} {mg : Str → Option Value} {w : Wd} {σ : L2.St} {G : Env} {h : AH} {m : MeO} {R : Option Int → Hp → Prop} {Q : VK} {k : Option Int → AH → Res D} (o : OutE K mg W w σ Q ((m G h).bind k))
    (hq : ∀ b h1 w1 H1, Le w w1 → RepH K w1 H1 h1 → OutE K mg W w1 σ Q (k b h1) → R b H1) : OutO K mg W w σ R (m G h) := by
  cases e : m G h with
  | ok d h1 =>
    rw [e] at o
    exact fun w1 H1 l r => hq d h1 w1 H1 l r (OutE.mono l o)
  | exc c fs h1 =>
    rw [e] at o
    exact o
  | stuck =>
    rw [e] at o
    exact o
theorem OutF.bindO {K : PySem.W.Frag} {mg : Str → Option Value} {w : Wd} {σ : L2.St} {G : Env} {h : AH} {m : MeO} {R : Option Int → Hp → Prop} {Q : VK} {k : Option Int → AH → Res (List D)} (o : OutF K mg W w σ Q ((m G h).bind k))
    (hq : ∀ b h1 w1 H1, Le w w1 → RepH K w1 H1 h1 → OutF K mg W w1 σ Q (k b h1) → R b H1) : OutO K mg W w σ R (m G h) := by
  cases e : m G h with
  | ok d h1 =>
    rw [e] at o
    exact fun w1 H1 l r => hq d h1 w1 H1 l r (OutF.mono l o)
  | exc c fs h1 =>
    rw [e] at o
    exact o
  | stuck =>
    rw [e] at o
    exact o
noncomputable def cutD (ds : List D) (lo hi : Option Int) : List D := (ds.drop (HT.sIx ds.length 0 lo)).take (HT.sIx ds.length ds.length hi - HT.sIx ds.length 0 lo)
theorem cut_rep {w : Wd} {xs : List V} {ds : List D} (ra : Ra X.K w xs ds) (lo hi : Option Int) : Ra X.K w (cutV xs lo hi) (cutD ds lo hi) := by
  unfold cutV cutD
  rw [ra.length]
  exact (ra.drop _).take _
/-- a[lo:hi] of a tuple, of a list that is not changed -/
noncomputable def mSl (m : Me) (lo hi : MeO) : Me := fun G h => (m G h).bind fun x h1 => (lo G h1).bind fun l h2 => (hi G h2).bind fun u h3 => match x with
  | .tup ds => .ok (.tup (cutD ds l u)) h3
  | d => match vL h3 d with
    | some ds => .ok (.lst (cutD ds l u)) h3
    | none => .stuck
theorem cut_whole {ds : List D} {lo hi : Option Int} (h : HT.sIx ds.length 0 lo = 0 ∧ HT.sIx ds.length ds.length hi = ds.length) : cutD ds lo hi = ds := by
  unfold cutD
  rw [h.1, h.2]
  simp
theorem e_sl {lo hi : Option Expr} {ml mh : MeO} {p2 : Pos} (he : PE X e (TM X W ma)) (hl : PO X lo (tO X W ml)) (hu : PO X hi (tO X W mh)) : PE X (.Subscript e (.Slice lo hi none p2) pos) (TM X W (mSl ma ml mh)) := by
  refine (pe_slice (SlR.or sl_list sl_tupA) he hl hu).wk fun σ H Q ⟨w, G, h, g, r, o⟩ => ⟨w, G, h, g, r, o.bindE fun d h1 v w1 H1 l1 r1 x o1 => ⟨w1, G, h1, g.mono l1, r1, o1.bindO fun l h2 w2 H2 l2 r2 o2 => ⟨w2, G, h2, g.mono (l1.trans l2), r2, o2.bindO fun u h3 w3 H3 l3 r3 o3 => ?_⟩⟩⟩
  have x3 := Rv_mono (l2.trans l3) x
  split at o3
  · cases x3 with
    | @tup a xs ds h1 h2 =>
      refine .inr ⟨a, xs, rfl, r3.ex.t h1, fun hw => ?_, fun _ p hp => out_add o3 r3 hp (rv_tup r3 hp (cut_rep h2 l u))⟩
      rw [h2.length] at hw
      rw [cut_whole hw] at o3
      exact out_ok o3 r3 (.tup h1 h2)
  · split at o3
    · rename_i ds e
      obtain ⟨a, xs, rfl, sq, ra⟩ := vL_rep r3 x3 e
      exact .inl ⟨a, xs, rfl, sq, fun p hp => out_add o3 r3 hp (rv_lst r3 hp (cut_rep ra l u))⟩
    · exact o3.elim
end
end AB
/-! AB: statements, loops, comprehensions, defs. -/
namespace AB
open PySem PySem.Spec PyProof.Rows L2

inductive SR where
  | next (G : Env) (h : AH)
  | ret (d : D) (h : AH)
  | brk (G : Env) (h : AH)
  | cont (G : Env) (h : AH)
  | exc (c : Str) (fs : List (Str × D)) (G : Env) (h : AH)
  | stuck
noncomputable abbrev Ms := Env → AH → SR
noncomputable def Res.toS {α : Type} (r : Res α) (G : Env) (k : α → AH → SR) : SR :=
  match r with
  | .ok a h => k a h
  | .exc c fs h => .exc c fs G h
  | .stuck => .stuck
@[simp] theorem Res.toS_ok {α : Type} (a : α) (h : AH) (G : Env) (k : α → AH → SR) : (Res.ok a h).toS G k = k a h := rfl
@[simp] theorem Res.toS_exc {α : Type} (c : Str) (fs : List (Str × D)) (h : AH) (G : Env) (k : α → AH → SR) : (Res.exc c fs h : Res α).toS G k = .exc c fs G h := rfl
@[simp] theorem Res.toS_stuck {α : Type} (G : Env) (k : α → AH → SR) : (Res.stuck : Res α).toS G k = .stuck := rfl
noncomputable def SR.andThen (r : SR) (k : Env → AH → SR) : SR :=
  match r with
  | .next G h => k G h
  | .ret d h => .ret d h
  | .brk G h => .brk G h
  | .cont G h => .cont G h
  | .exc c fs G h => .exc c fs G h
  | .stuck => .stuck
@[simp] theorem SR.andThen_next (G : Env) (h : AH) (k : Env → AH → SR) : (SR.next G h).andThen k = k G h := rfl
@[simp] theorem SR.andThen_ret (d : D) (h : AH) (k : Env → AH → SR) : (SR.ret d h).andThen k = .ret d h := rfl
@[simp] theorem SR.andThen_brk (G : Env) (h : AH) (k : Env → AH → SR) : (SR.brk G h).andThen k = .brk G h := rfl
@[simp] theorem SR.andThen_cont (G : Env) (h : AH) (k : Env → AH → SR) : (SR.cont G h).andThen k = .cont G h := rfl
@[simp] theorem SR.andThen_exc (c : Str) (fs : List (Str × D)) (G : Env) (h : AH) (k : Env → AH → SR) : (SR.exc c fs G h).andThen k = .exc c fs G h := rfl
@[simp] theorem SR.andThen_stuck (k : Env → AH → SR) : SR.stuck.andThen k = .stuck := rfl

section
variable (K : PySem.W.Frag) (mg : Str → Option Value) (W : WX)
noncomputable def OutS (D : Ends) (w : Wd) : SR → Prop
  | .next G h => ∀ σ' w' H', Le w w' → RepG K w' σ' G → RepH K w' H' h → D.nx σ' H'
  | .ret d h => ∀ v w' H', Le w w' → RepH K w' H' h → Rv K w' v d → D.rt v H'
  | .brk G h => ∀ σ' w' H', Le w w' → RepG K w' σ' G → RepH K w' H' h → D.bk σ' H'
  | .cont G h => ∀ σ' w' H', Le w w' → RepG K w' σ' G → RepH K w' H' h → D.ct σ' H'
  | .exc c fs G h => ∀ cls dd σ' w' H', mg c = some cls → Le w w' → RepG K w' σ' G → RepH K w' H' h → RepX K w' H' dd fs → W cls dd σ' H'
  | .stuck => False
noncomputable def tS (m : Ms) : TS := fun D σ H => ∃ w G h, RepG K w σ G ∧ RepH K w H h ∧ OutS K mg W D w (m G h)
end
section
variable {K : PySem.W.Frag} {mg : Str → Option Value} {W : WX} {w w' : Wd} {σ : L2.St} {H : Hp} {G : Env} {h : AH}
theorem OutS.mono {D : Ends} {r : SR} (l : Le w w') (o : OutS K mg W D w r) : OutS K mg W D w' r := by
  cases r with
  | next G h => exact fun σ' w2 H' l2 g r => o σ' w2 H' (l.trans l2) g r
  | ret d h => exact fun v w2 H' l2 r x => o v w2 H' (l.trans l2) r x
  | brk G h => exact fun σ' w2 H' l2 g r => o σ' w2 H' (l.trans l2) g r
  | cont G h => exact fun σ' w2 H' l2 g r => o σ' w2 H' (l.trans l2) g r
  | exc c fs G h => exact fun cls dd σ' w2 H' e l2 g r x => o cls dd σ' w2 H' e (l.trans l2) g r x
  | stuck => exact o
theorem OutS.bindE {m : Me} {R : VK} {D : Ends} {k : AB.D → AH → SR} (g : RepG K w σ G) (o : OutS K mg W D w ((m G h).toS G k))
    (hq : ∀ d h1 v w1 H1, Le w w1 → RepH K w1 H1 h1 → Rv K w1 v d → OutS K mg W D w1 (k d h1) → R v H1) : OutE K mg W w σ R (m G h) := by
  cases e : m G h with
  | ok d h1 =>
    rw [e] at o
    exact fun v w1 H1 l r x => hq d h1 v w1 H1 l r x (OutS.mono l o)
  | exc c fs h1 =>
    rw [e] at o
    exact fun cls dd w1 H1 e l r x => o cls dd σ w1 H1 e l (g.mono l) r x
  | stuck =>
    rw [e] at o
    exact o
theorem OutS.bindT {m : MeT} {R : Bool → Hp → Prop} {D : Ends} {k : Bool → AH → SR} (g : RepG K w σ G) (o : OutS K mg W D w ((m G h).toS G k))
    (hq : ∀ b h1 w1 H1, Le w w1 → RepH K w1 H1 h1 → OutS K mg W D w1 (k b h1) → R b H1) : OutT K mg W w σ R (m G h) := by
  cases e : m G h with
  | ok d h1 =>
    rw [e] at o
    exact fun w1 H1 l r => hq d h1 w1 H1 l r (OutS.mono l o)
  | exc c fs h1 =>
    rw [e] at o
    exact fun cls dd w1 H1 e l r x => o cls dd σ w1 H1 e l (g.mono l) r x
  | stuck =>
    rw [e] at o
    exact o
end
noncomputable abbrev TSS (X : Cx) (W : WX) (m : Ms) : TS := tS X.K X.mg W m
theorem _root_.L2.PS.wk {X : Cx} {e : Stmt} {t t' : TS} (h : PS X e t) (k : ∀ D σ H, t' D σ H → t D σ H) : PS X e t' := ⟨fun pins s σ H D I q => h.run pins s σ H D I (k D σ H q)⟩
theorem _root_.L2.PSs.wk {X : Cx} {e : List Stmt} {t t' : TS} (h : PSs X e t) (k : ∀ D σ H, t' D σ H → t D σ H) : PSs X e t' := ⟨fun pins s σ H D I q => h.run pins s σ H D I (k D σ H q)⟩

/-! ### the combinators -/
noncomputable def sNil : Ms := fun G h => .next G h
noncomputable def sSeq (a b : Ms) : Ms := fun G h => (a G h).andThen b
noncomputable def sSet (i : Nat) (m : Me) : Ms := fun G h => (m G h).toS G fun d h1 => .next (G.set i (some d)) h1
noncomputable def sRet (m : Me) : Ms := fun G h => (m G h).toS G fun d h1 => .ret d h1
noncomputable def sExpr (m : Me) : Ms := fun G h => (m G h).toS G fun _ h1 => .next G h1
noncomputable def sIf (c : MeT) (a b : Ms) : Ms := fun G h => (c G h).toS G fun t h1 => if t = true then a G h1 else b G h1
noncomputable def sNever : Ms := fun _ _ => .stuck
section
variable {X : Cx} {W : WX} {pos : Pos} {st : Stmt} {rest : List Stmt} {e c : Expr} {a b : Ms} {m : Me} {tc : MeT} {sa sb : List Stmt}
theorem s_nil : PSs X [] (TSS X W sNil) := pss_nil.wk fun D σ H ⟨w, G, h, g, r, o⟩ => o σ w H (Le.refl _) g r
theorem s_seq (h1 : PS X st (TSS X W a)) (h2 : PSs X rest (TSS X W b)) : PSs X (st :: rest) (TSS X W (sSeq a b)) := by
  refine (pss_cons h1 h2).wk fun D σ H ⟨w, G, h, g, r, o⟩ => ⟨w, G, h, g, r, ?_⟩
  have o : OutS X.K X.mg W D w ((a G h).andThen b) := o
  cases e : a G h with
  | next G1 h1 =>
    rw [e] at o
    exact fun σ' w1 H1 l g1 r1 => ⟨w1, G1, h1, g1, r1, OutS.mono l o⟩
  | ret d h1 => rw [e] at o; exact o
  | brk G1 h1 => rw [e] at o; exact o
  | cont G1 h1 => rw [e] at o; exact o
  | exc c fs G1 h1 => rw [e] at o; exact o
  | stuck => rw [e] at o; exact o
theorem s_ret (he : PE X e (TM X W m)) : PS X (.Return (some e) pos) (TSS X W (sRet m)) :=
  (ps_ret he).wk fun D σ H ⟨w, G, h, g, r, o⟩ => ⟨w, G, h, g, r, OutS.bindE (m := m) g o fun d h1 v w1 H1 l r1 x o1 => o1 v w1 H1 (Le.refl _) r1 x⟩
theorem s_set (i : Nat) {x : Str} {pos' : Pos} (he : PE X e (TM X W m)) (hN : X.N.Nodup) (hi : X.N[i]? = some x := by rfl) (hx : Loc X.env.scope x := by first | exact Or.inl rfl | exact Or.inr rfl)
    (hs : swapsWithSole [.Name x pos'] e pos.line X.env = pure false := by rfl) (hw : swappedStores [.Name x pos'] e X.env = pure none := by rfl) (hf : X.fn x = true ∨ X.env.scope.names.lookup x = some .local := by first | exact .inl rfl | exact .inr rfl) : PS X (.Assign [.Name x pos'] e pos) (TSS X W (sSet i m)) :=
  (ps_asg he (pg_name hN hi hx hf) hs hw).wk fun D σ H ⟨w, G, h, g, r, o⟩ => ⟨w, G, h, g, r, OutS.bindE (m := m) g o fun d h1 v w1 H1 l r1 x o1 => o1 _ w1 H1 (Le.refl _) ((g.mono l).set i x) r1⟩
theorem s_expr (he : PE X e (TM X W m)) (hs : swapsWith e none pos.line X.env = pure false := by rfl) : PS X (.Expr e pos) (TSS X W (sExpr m)) :=
  (ps_expr he hs).wk fun D σ H ⟨w, G, h, g, r, o⟩ => ⟨w, G, h, g, r, OutS.bindE (m := m) g o fun d h1 v w1 H1 l r1 x o1 => o1 σ w1 H1 (Le.refl _) (g.mono l) r1⟩
theorem s_if (hc : PT X c (TTT X W tc)) (ha : PSs X sa (TSS X W a)) (hb : PSs X sb (TSS X W b)) : PS X (.If c sa sb pos) (TSS X W (sIf tc a b)) := by
  refine (ps_if hc ha hb).wk fun D σ H ⟨w, G, h, g, r, o⟩ => ⟨w, G, h, g, r, OutS.bindT (m := tc) g o fun t h1 w1 H1 l r1 o1 => ?_⟩
  cases t with
  | true => exact ⟨w1, G, h1, g.mono l, r1, o1⟩
  | false => exact ⟨w1, G, h1, g.mono l, r1, o1⟩
end

/-! ### targets -/
inductive Pat where
  | nm (i : Nat)
  | tp (ps : List Pat)
mutual
noncomputable def asg : Pat → D → Env → Option Env
  | .nm i, d, G => some (G.set i (some d))
  | .tp ps, d, G => match d with
    | .tup ds => asgs ps ds G
    | _ => none
noncomputable def asgs : List Pat → List D → Env → Option Env
  | [], [], G => some G
  | p :: ps, d :: ds, G => match asg p d G with
    | some G1 => asgs ps ds G1
    | none => none
  | _, _, _ => none
end
mutual
noncomputable def gP (K : PySem.W.Frag) : Pat → TG
  | .nm i => gName i
  | .tp ps => gTup K ps.length (gPs K ps)
noncomputable def gPs (K : PySem.W.Frag) : List Pat → TGs
  | [] => gNil
  | p :: ps => gCons (gP K p) (gPs K ps)
end
mutual
noncomputable def Pat.slots : Pat → List Nat
  | .nm i => [i]
  | .tp ps => slotsL ps
noncomputable def slotsL : List Pat → List Nat
  | [] => []
  | p :: ps => p.slots ++ slotsL ps
end
theorem wipe_set {σ : L2.St} {i : Nat} {v : Option V} : ∀ {vs : List Nat}, i ∈ vs → wipe (σ.set i v) vs = wipe σ vs
  | j :: vs, h => by
    unfold wipe
    by_cases e : i = j
    · subst e
      by_cases q : i ∈ vs
      · rw [wipe_set q]
      · have key : ∀ (us : List Nat), (wipe (σ.set i v) us).set i none = (wipe σ us).set i none := by
          intro us
          induction us with
          | nil =>
            show (σ.set i v).set i none = σ.set i none
            rw [List.set_set]
          | cons u us ih =>
            unfold wipe
            by_cases eu : u = i
            · subst eu
              rw [List.set_set, List.set_set]
              exact ih
            · rw [List.set_comm _ _ eu, List.set_comm _ _ eu, ih]
        exact key vs
    · have q : i ∈ vs := by
        rcases List.mem_cons.mp h with h | h
        · exact absurd h e
        · exact h
      rw [wipe_set q]
theorem wipe_wipe {σ : L2.St} {vs : List Nat} : ∀ {us : List Nat}, (∀ i ∈ us, i ∈ vs) → wipe (wipe σ us) vs = wipe σ vs
  | [], _ => rfl
  | u :: us, h => by
    have e : wipe σ (u :: us) = (wipe σ us).set u none := rfl
    rw [e, wipe_set (h u List.mem_cons_self), wipe_wipe fun i hi => h i (List.mem_cons_of_mem _ hi)]
section
variable {K : PySem.W.Frag} {w : Wd} {H : Hp} {h : AH}
mutual
theorem asg_rep (r : RepH K w H h) : ∀ (p : Pat) (d : D) (v : V) (σ : L2.St) (G G' : Env) (Q : L2.St → Hp → Prop), Rv K w v d → RepG K w σ G → asg p d G = some G' →
    (∀ σ', RepG K w σ' G' → (∀ vs : List Nat, (∀ i ∈ p.slots, i ∈ vs) → wipe σ' vs = wipe σ vs) → Q σ' H) → gP K p v σ H Q
  | .nm i, d, v, σ, G, G', Q, rv, g, e, q => by
    unfold asg at e
    cases e
    unfold gP
    exact q _ (g.set i rv) fun vs hv => wipe_set (hv i (by unfold Pat.slots; simp))
  | .tp ps, d, v, σ, G, G', Q, rv, g, e, q => by
    unfold asg at e
    split at e
    · rename_i ds
      cases rv with
      | @tup a xs _ h1 h2 =>
        unfold gP
        have hl : ds.length = ps.length := asgs_len ps ds G G' e
        refine ⟨a, xs, rfl, r.ex.t h1, by rw [h2.length]; exact hl, ?_⟩
        exact asgs_rep r ps ds xs σ G G' Q h2 g e fun σ' g' hw => q σ' g' fun vs hv => hw vs (by unfold Pat.slots at hv; exact hv)
    · cases e
theorem asgs_rep (r : RepH K w H h) : ∀ (ps : List Pat) (ds : List D) (vs : List V) (σ : L2.St) (G G' : Env) (Q : L2.St → Hp → Prop), Ra K w vs ds → RepG K w σ G → asgs ps ds G = some G' →
    (∀ σ', RepG K w σ' G' → (∀ us : List Nat, (∀ i ∈ slotsL ps, i ∈ us) → wipe σ' us = wipe σ us) → Q σ' H) → gPs K ps vs σ H Q
  | [], [], _, σ, G, G', Q, ra, g, e, q => by
    cases ra
    unfold asgs at e
    cases e
    unfold gPs
    exact ⟨rfl, q σ g fun us _ => rfl⟩
  | p :: ps, d :: ds, _, σ, G, G', Q, ra, g, e, q => by
    cases ra with
    | @cons v vs _ _ a b =>
      unfold asgs at e
      split at e
      · rename_i G1 e1
        unfold gPs
        refine ⟨v, vs, rfl, asg_rep r p d v σ G G1 _ a g e1 fun σ1 g1 w1 => ?_⟩
        refine asgs_rep r ps ds vs σ1 G1 G' Q b g1 e fun σ2 g2 w2 => q σ2 g2 fun us hu => ?_
        unfold slotsL at hu
        rw [w2 us fun i hi => hu i (List.mem_append_right _ hi), w1 us fun i hi => hu i (List.mem_append_left _ hi)]
      · cases e
  | [], _ :: _, _, _, _, _, _, _, _, e, _ => by cases e
  | _ :: _, [], _, _, _, _, _, _, _, e, _ => by cases e
theorem asgs_len : ∀ (ps : List Pat) (ds : List D) (G G' : Env), asgs ps ds G = some G' → ds.length = ps.length
  | [], [], _, _, _ => rfl
  | p :: ps, d :: ds, G, G', e => by
    unfold asgs at e
    split at e
    · rename_i G1 _
      rw [List.length_cons, List.length_cons, asgs_len ps ds G1 G' e]
    · cases e
  | [], _ :: _, _, _, e => by cases e
  | _ :: _, [], _, _, e => by cases e
end
end
noncomputable def sAsg (p : Pat) (m : Me) : Ms := fun G h => (m G h).toS G fun d h1 => match asg p d G with
  | some G1 => .next G1 h1
  | none => .stuck
theorem s_asg {X : Cx} {W : WX} {pos : Pos} {e tg : Expr} {m : Me} (p : Pat) (he : PE X e (TM X W m)) (hg : PG X tg (gP X.K p)) (hs : swapsWithSole [tg] e pos.line X.env = pure false := by rfl) (hw : swappedStores [tg] e X.env = pure none := by rfl)
    (h1 : (assignEach [tg] X.env).map (·.2) = [assign tg X.env] := by rfl) : PS X (.Assign [tg] e pos) (TSS X W (sAsg p m)) := by
  refine (ps_asg he hg hs hw h1).wk fun D σ H ⟨w, G, h, g, r, o⟩ => ⟨w, G, h, g, r, OutS.bindE (m := m) g o fun d h1 v w1 H1 l r1 x o1 => ?_⟩
  split at o1
  · rename_i G1 e1
    exact asg_rep r1 p d v σ G G1 _ x (g.mono l) e1 fun σ' g' _ => o1 σ' w1 H1 (Le.refl _) g' r1
  · exact o1.elim

/-! ### what is walked -/
/-- the source still holds these items -/
noncomputable def Still (src : Option Nat) (all : List D) (h : AH) : Prop := match src with
  | none => True
  | some n => h[n]? = some (.lst all)
noncomputable abbrev Im := Env → AH → Res (List D × Option Nat)
structure Walks (K : PySem.W.Frag) (J : It) (w : Wd) (all : List D) (src : Option Nat) : Prop where
  goes : ∀ i w' H' h', i < all.length → LeX w w' → RepH K w' H' h' → Still src all h' → J.go i H'
  stops : ∀ w' H' h', LeX w w' → RepH K w' H' h' → Still src all h' → J.stop all.length H'
  yields : ∀ i x w' H' H2 h' d, all[i]? = some d → LeX w w' → RepH K w' H' h' → Still src all h' → J.yld i H' x H2 → ∃ w2, Le w' w2 ∧ RepH K w2 H2 h' ∧ Rv K w2 x d
noncomputable def OutI (K : PySem.W.Frag) (mg : Str → Option Value) (W : WX) (w : Wd) (σ : L2.St) (R : It → Hp → Prop) : Res (List D × Option Nat) → Prop
  | .ok (all, src) h => ∀ J w' H', Le w w' → RepH K w' H' h → Walks K J w' all src → R J H'
  | .exc c fs h => OutX K mg W w σ c fs h
  | .stuck => False
noncomputable def tI (X : Cx) (W : WX) (m : Im) : TI := fun σ H R => ∃ w G h, RepG X.K w σ G ∧ RepH X.K w H h ∧ OutI X.K X.mg W w σ R (m G h)
theorem _root_.L2.PI.wk {X : Cx} {tg e : Expr} {t t' : TI} (h : PI X tg e t) (k : ∀ σ H R, t' σ H R → t σ H R) : PI X tg e t' := ⟨fun pins s σ H R I q => h.run pins s σ H R I (k σ H R q)⟩
noncomputable def iSeq (m : Me) : Im := fun G h => (m G h).bind fun d h1 => match d with
  | .tup ds => .ok (ds, none) h1
  | .lst ds => .ok (ds, none) h1
  | .rol ds => .ok (ds, none) h1
  | .loc n => match h1[n]? with
    | some (.lst ds) => .ok (ds, some n) h1
    | _ => .stuck
  | _ => .stuck
section
variable {X : Cx} {W : WX} {tg e : Expr} {m : Me} {K : PySem.W.Frag}
theorem OutI.bindE {mg : Str → Option Value} {w : Wd} {σ : L2.St} {G : Env} {h : AH} {R : VK} {Q : It → Hp → Prop} {k : D → AH → Res (List D × Option Nat)} (o : OutI K mg W w σ Q ((m G h).bind k))
    (hq : ∀ d h1 v w1 H1, m G h = .ok d h1 → Le w w1 → RepH K w1 H1 h1 → Rv K w1 v d → OutI K mg W w1 σ Q (k d h1) → R v H1) : OutE K mg W w σ R (m G h) := by
  cases e : m G h with
  | ok d h1 =>
    rw [e] at o
    refine fun v w1 H1 l r x => hq d h1 v w1 H1 e l r x ?_
    have o : OutI K mg W w σ Q (k d h1) := o
    cases z : k d h1 with
    | ok a h2 =>
      rw [z] at o
      exact fun J w2 H2 l2 r2 x2 => o J w2 H2 (l.trans l2) r2 x2
    | exc c fs h2 => rw [z] at o; exact OutX.mono l o
    | stuck => rw [z] at o; exact o
  | exc c fs h1 =>
    rw [e] at o
    exact o
  | stuck =>
    rw [e] at o
    exact o
theorem Walks.tup {a : Addr} {xs : List V} {w : Wd} {ds : List D} (h1 : SqT K w.S a xs) (h2 : Ra K w xs ds) : Walks K (Itt K a) w ds none := by
  refine ⟨fun i w' H' h' hi l r _ => ?_, fun w' H' h' l r _ => ?_, fun i x w' H' H2 h' d hd l r _ y => ?_⟩
  · obtain ⟨v, hv, _⟩ := h2.get (i := i) (d := ds[i]) (List.getElem?_eq_getElem hi)
    exact ⟨xs, v, r.ex.t (l.ex.t h1), hv⟩
  · exact ⟨xs, r.ex.t (l.ex.t h1), by rw [h2.length]; exact Nat.le_refl _⟩
  · obtain ⟨rfl, hy⟩ := y
    obtain ⟨v, hv, rv⟩ := h2.get hd
    have := hy xs (r.ex.t (l.ex.t h1))
    rw [hv] at this
    cases this
    exact ⟨w', Le.refl _, r, Rv_monoX l rv⟩
theorem Walks.lst {a : Addr} {xs : List V} {w : Wd} {ds : List D} (h1 : SqL K w.S a xs) (h2 : Ra K w xs ds) : Walks K (Itl K a) w ds none := by
  refine ⟨fun i w' H' h' hi l r _ => ?_, fun w' H' h' l r _ => ?_, fun i x w' H' H2 h' d hd l r _ y => ?_⟩
  · obtain ⟨v, hv, _⟩ := h2.get (i := i) (d := ds[i]) (List.getElem?_eq_getElem hi)
    exact ⟨xs, v, r.ex.l (l.ex.l h1), hv⟩
  · exact ⟨xs, r.ex.l (l.ex.l h1), by rw [h2.length]; exact Nat.le_refl _⟩
  · obtain ⟨rfl, hy⟩ := y
    obtain ⟨v, hv, rv⟩ := h2.get hd
    have := hy xs (r.ex.l (l.ex.l h1))
    rw [hv] at this
    cases this
    exact ⟨w', Le.refl _, r, Rv_monoX l rv⟩
theorem Walks.loc {w : Wd} {ds : List D} {n : Nat} (hn : n < w.N) : Walks K (Itl K (w.mu n)) w ds (some n) := by
  have key : ∀ {w' : Wd} {H' : Hp} {h' : AH}, LeX w w' → RepH K w' H' h' → Still (some n) ds h' → ∃ xs, SqL K H' (w.mu n) xs ∧ Ra K w' xs ds := by
    intro w' H' h' l r s
    obtain ⟨_, xs, e, ra⟩ := r.cell n _ s
    rw [l.mu n hn] at e
    exact ⟨xs, .inl (.inl e), ra⟩
  refine ⟨fun i w' H' h' hi l r s => ?_, fun w' H' h' l r s => ?_, fun i x w' H' H2 h' d hd l r s y => ?_⟩
  · obtain ⟨xs, q, h2⟩ := key l r s
    obtain ⟨v, hv, _⟩ := h2.get (i := i) (d := ds[i]) (List.getElem?_eq_getElem hi)
    exact ⟨xs, v, q, hv⟩
  · obtain ⟨xs, q, h2⟩ := key l r s
    exact ⟨xs, q, by rw [h2.length]; exact Nat.le_refl _⟩
  · obtain ⟨rfl, hy⟩ := y
    obtain ⟨xs, q, h2⟩ := key l r s
    obtain ⟨v, hv, rv⟩ := h2.get hd
    have := hy xs q
    rw [hv] at this
    cases this
    exact ⟨w', Le.refl _, r, rv⟩
theorem i_seq (he : PE X e (TM X W m)) : PI X tg e (tI X W (iSeq m)) := by
  refine ⟨fun pins s σ H R I ⟨w, G, h, g, r, o⟩ => ?_⟩
  by_cases ht : ∃ ds h1, m G h = .ok (.tup ds) h1
  · obtain ⟨ds, h1, e1⟩ := ht
    refine (pi_tup he).run pins s σ H R I ⟨w, G, h, g, r, OutI.bindE (m := m) o fun d h2 v w1 H1 em l r1 x o1 => ?_⟩
    rw [e1] at em
    cases em
    cases x with
    | @tup a xs _ q1 q2 => exact ⟨a, rfl, ⟨xs, r1.ex.t q1⟩, o1 _ w1 H1 (Le.refl _) r1 (Walks.tup q1 q2)⟩
  · refine (pi_list he).run pins s σ H R I ⟨w, G, h, g, r, OutI.bindE (m := m) o fun d h2 v w1 H1 em l r1 x o1 => ?_⟩
    cases x with
    | tup q1 q2 => exact absurd ⟨_, _, em⟩ ht
    | @lst a xs ds q1 q2 => exact ⟨a, rfl, ⟨xs, .inl (r1.ex.rd q1)⟩, o1 _ w1 H1 (Le.refl _) r1 (Walks.lst (.inl q1) q2)⟩
    | @rol a xs ds q1 q2 => exact ⟨a, rfl, ⟨xs, r1.ex.l q1⟩, o1 _ w1 H1 (Le.refl _) r1 (Walks.lst q1 q2)⟩
    | @loc n hn =>
      have o1 : OutI X.K X.mg W w1 σ R (match h2[n]? with
        | some (.lst ds) => .ok (ds, some n) h2
        | _ => .stuck) := o1
      split at o1
      · rename_i ds e'
        obtain ⟨_, xs, e2, ra⟩ := r1.cell _ _ e'
        exact ⟨_, rfl, ⟨xs, .inl (.inl e2)⟩, o1 _ w1 H1 (Le.refl _) r1 (Walks.loc hn)⟩
      · exact o1.elim
    | _ => exact o1.elim
noncomputable def rangeD (lo : Int) (n : Nat) : List D := (List.range n).map fun i : Nat => D.int (lo + (i : Int))
theorem rangeD_length (lo : Int) (n : Nat) : (rangeD lo n).length = n := by simp [rangeD]
theorem rangeD_get {lo : Int} {n i : Nat} {d : D} (h : (rangeD lo n)[i]? = some d) : d = .int (lo + (i : Int)) := by
  unfold rangeD at h
  rw [List.getElem?_map] at h
  cases q : (List.range n)[i]? with
  | none => rw [q] at h; cases h
  | some j =>
    rw [q] at h
    cases h
    have := List.getElem?_eq_some_iff.mp q
    obtain ⟨h1, h2⟩ := this
    simp at h2
    subst h2
    rfl
theorem Walks.rng {w : Wd} {lo : Int} {n : Nat} : Walks K (Itr lo n) w (rangeD lo n) none := by
  refine ⟨fun i w' H' h' hi l r _ => ?_, fun w' H' h' l r _ => ?_, fun i x w' H' H2 h' d hd l r _ y => ?_⟩
  · rw [rangeD_length] at hi
    exact hi
  · rw [rangeD_length]
    exact Nat.le_refl n
  · obtain ⟨rfl, rfl⟩ := y
    rw [rangeD_get hd]
    exact ⟨w', Le.refl _, r, .int _⟩
/-- bounds of a range (told by a flag that never computes) -/
noncomputable def okR (j : Int) : Prop := -1000000 ≤ j ∧ j ≤ 1000000
noncomputable instance (j : Int) : Decidable (okR j) := Classical.propDecidable _
noncomputable def okR2 (i j : Int) : Prop := -1000000 ≤ i ∧ i ≤ 1000000 ∧ j ≤ 1000000 ∧ -1000000 ≤ j
noncomputable instance (i j : Int) : Decidable (okR2 i j) := Classical.propDecidable _
noncomputable def iRange1 (as : MeL) : Im := fun G h => (as G h).bind fun xs h1 => match xs with
  | [.int j] => if okR j then .ok (rangeD 0 j.toNat, none) h1 else .stuck
  | _ => .stuck
noncomputable def iRange2 (as : MeL) : Im := fun G h => (as G h).bind fun xs h1 => match xs with
  | [.int i, .int j] => if okR2 i j then .ok (rangeD i (j - i).toNat, none) h1 else .stuck
  | _ => .stuck
theorem OutI.bindA {mg : Str → Option Value} {w : Wd} {σ : L2.St} {G : Env} {h : AH} {as : MeL} {R : List V → Hp → Prop} {Q : It → Hp → Prop} {k : List D → AH → Res (List D × Option Nat)} (o : OutI K mg W w σ Q ((as G h).bind k))
    (hq : ∀ d h1 v w1 H1, as G h = .ok d h1 → Le w w1 → RepH K w1 H1 h1 → Ra K w1 v d → OutI K mg W w1 σ Q (k d h1) → R v H1) : OutA K mg W w σ R (as G h) := by
  cases e : as G h with
  | ok d h1 =>
    rw [e] at o
    refine fun v w1 H1 l r x => hq d h1 v w1 H1 e l r x ?_
    have o : OutI K mg W w σ Q (k d h1) := o
    cases z : k d h1 with
    | ok a h2 =>
      rw [z] at o
      exact fun J w2 H2 l2 r2 x2 => o J w2 H2 (l.trans l2) r2 x2
    | exc c fs h2 => rw [z] at o; exact OutX.mono l o
    | stuck => rw [z] at o; exact o
  | exc c fs h1 =>
    rw [e] at o
    exact o
  | stuck =>
    rw [e] at o
    exact o
variable {a b : Expr} {as : MeL} {p pos : Pos}
theorem i_range1 (hm : X.mg "range" = none) (ha : PA X [a] (TAr X W as)) (hg : Gl X "range" := by rfl) (hs : starEach [a] X.env = [(false, eval a X.env)] := by rfl) : PI X tg (.Call (.Name "range" p) [a] [] pos) (tI X W (iRange1 as)) := by
  refine (pi_range1 hg hm ha hs).wk fun σ H R ⟨w, G, h, g, r, o⟩ => ⟨w, G, h, g, r, OutI.bindA (as := as) o fun d h2 v w1 H1 em l r1 x o1 => ?_⟩
  split at o1
  · rename_i j
    split at o1
    · rename_i c
      have c : -1000000 ≤ j ∧ j ≤ 1000000 := c
      obtain ⟨v, rfl, rv⟩ := ra_one x
      cases rv
      exact ⟨j, rfl, by omega, by omega, o1 _ w1 H1 (Le.refl _) r1 Walks.rng⟩
    · exact o1.elim
  · exact o1.elim
theorem i_range2 (hm : X.mg "range" = none) (ha : PA X [a, b] (TAr X W as)) (hg : Gl X "range" := by rfl) (hs : starEach [a, b] X.env = [(false, eval a X.env), (false, eval b X.env)] := by rfl) (hs2 : starEach [b] X.env = [(false, eval b X.env)] := by rfl) : PI X tg (.Call (.Name "range" p) [a, b] [] pos) (tI X W (iRange2 as)) := by
  refine (pi_range2 hg hm ha hs hs2).wk fun σ H R ⟨w, G, h, g, r, o⟩ => ⟨w, G, h, g, r, OutI.bindA (as := as) o fun d h2 v w1 H1 em l r1 x o1 => ?_⟩
  split at o1
  · rename_i i j
    split at o1
    · rename_i c
      have c : -1000000 ≤ i ∧ i ≤ 1000000 ∧ j ≤ 1000000 ∧ -1000000 ≤ j := c
      obtain ⟨v, v2, rfl, rv, rv2⟩ := ra_two x
      cases rv
      cases rv2
      exact ⟨i, j, rfl, ⟨by omega, by omega, by omega, by omega⟩, o1 _ w1 H1 (Le.refl _) r1 Walks.rng⟩
    · exact o1.elim
  · exact o1.elim
/-! zip, enumerate -/
theorem Walks.zip {K : PySem.W.Frag} {w : Wd} {J : It} {as bs : List D} {xs ys : List V} (h1 : Ra K w xs as) (h2 : Ra K w ys bs)
    (hw : ∀ w' H' h', LeX w w' → RepH K w' H' h' → ∃ G : Hp → Prop, G H' ∧ Walk J (min xs.length ys.length) G (YPair (fun i => xs[i]?) (fun i => ys[i]?))) : Walks K J w ((as.zip bs).map fun p => D.tup [p.1, p.2]) none := by
  have l1 := h1.length
  have l2 := h2.length
  have hl : ((as.zip bs).map fun p => D.tup [p.1, p.2]).length = min xs.length ys.length := by
    rw [List.length_map, List.length_zip, l1, l2]
  refine ⟨fun i w' H' h' hi l r _ => ?_, fun w' H' h' l r _ => ?_, fun i x w' H' H2 h' d hd l r _ y => ?_⟩
  · obtain ⟨P, p, wk⟩ := hw w' H' h' l r
    rw [hl] at hi
    exact wk.goes i H' hi p
  · obtain ⟨P, p, wk⟩ := hw w' H' h' l r
    rw [hl]
    exact wk.stops H' p
  · obtain ⟨P, p, wk⟩ := hw w' H' h' l r
    have hi : i < min xs.length ys.length := by
      rw [← hl]
      exact (List.getElem?_eq_some_iff.mp hd).1
    obtain ⟨T, u, v, rfl, hT, rfl, e1, e2⟩ := wk.yields i H' x H2 hi p y
    rw [List.getElem?_map] at hd
    cases q : (as.zip bs)[i]? with
    | none => rw [q] at hd; cases hd
    | some pr =>
      rw [q] at hd
      cases hd
      obtain ⟨q1, q2⟩ := List.getElem?_zip_eq_some.mp q
      obtain ⟨u', g1, ru⟩ := h1.get q1
      obtain ⟨v', g2, rv⟩ := h2.get q2
      have e1 : xs[i]? = some u := e1
      have e2 : ys[i]? = some v := e2
      rw [e1] at g1
      rw [e2] at g2
      cases g1
      cases g2
      exact ⟨w'.add T _, r.le_add hT, r.add hT, rv_tup r hT (.cons (Rv_monoX l ru) (.cons (Rv_monoX l rv) .nil))⟩
end
end AB
/-! AB: loops, comprehensions, list methods, defs and their calls. -/
namespace AB
open PySem PySem.Spec PyProof.Rows L2

/-! ### for -/
open Classical in
noncomputable def forGo (p : Pat) (body : Ms) (src : Option Nat) (all : List D) : List D → Env → AH → SR
  | [], G, h => if Still src all h then .next G h else .stuck
  | d :: r, G, h => if Still src all h then
      match asg p d G with
      | some G1 => match body G1 h with
        | .next G2 h2 => forGo p body src all r G2 h2
        | .cont G2 h2 => forGo p body src all r G2 h2
        | .brk G2 h2 => .next G2 h2
        | .ret x h2 => .ret x h2
        | .exc c fs G2 h2 => .exc c fs G2 h2
        | .stuck => .stuck
      | none => .stuck
    else .stuck
noncomputable def sFor (p : Pat) (it : Im) (body : Ms) : Ms := fun G h => (it G h).toS G fun a h1 => forGo p body a.2 a.1 a.1 G h1
theorem OutS.bindI {K : PySem.W.Frag} {mg : Str → Option Value} {W : WX} {w : Wd} {σ : L2.St} {G : Env} {h : AH} {D : Ends} {m : Im} {R : It → Hp → Prop} {k : List AB.D × Option Nat → AH → SR} (g : RepG K w σ G) (o : OutS K mg W D w ((m G h).toS G k))
    (hq : ∀ all src h1 J w1 H1, Le w w1 → RepH K w1 H1 h1 → Walks K J w1 all src → OutS K mg W D w1 (k (all, src) h1) → R J H1) : OutI K mg W w σ R (m G h) := by
  cases e : m G h with
  | ok d h1 =>
    rw [e] at o
    exact fun J w1 H1 l r x => hq d.1 d.2 h1 J w1 H1 l r x (OutS.mono l o)
  | exc c fs h1 =>
    rw [e] at o
    exact fun cls dd w1 H1 e l r x => o cls dd σ w1 H1 e l (g.mono l) r x
  | stuck =>
    rw [e] at o
    exact o
section
variable {X : Cx} {W : WX} {pos : Pos} {tg iter : Expr} {body : List Stmt} {p : Pat} {im : Im} {mb : Ms}
theorem s_for (hp : PassesOwn (model X.prog X.w) X.A X.env X.xe) (hi : PI X tg iter (tI X W im)) (hg : PG X tg (gP X.K p)) (hb : PSs X body (TSS X W mb)) (hc : X.calm = true := by rfl) (hs : ∀ x, foldedSetIterable iter X.env x = pure x := by intro _; rfl) :
    PS X (.For tg iter body [] pos) (TSS X W (sFor p im mb)) := by
  refine (ps_for hp hc hi hg hb hs).wk fun D σ H ⟨w, G, h, g, r, o⟩ => ⟨w, G, h, g, r, OutS.bindI (m := im) g o fun all src h1 J w1 H1 l r1 wk o1 => ?_⟩
  refine ⟨fun i m σ' H' => m = all.length - i ∧ i ≤ all.length ∧ ∃ w' G' h', Le w1 w' ∧ RepG X.K w' σ' G' ∧ RepH X.K w' H' h' ∧ OutS X.K X.mg W D w' (forGo p mb src all (all.drop i) G' h'),
    ⟨all.length, by simp, Nat.zero_le _, w1, G, h1, Le.refl _, g.mono l, r1, o1⟩, ?_⟩
  rintro i m σ' H' ⟨rfl, hi2, w', G', h', l', g', r', o'⟩
  by_cases hlt : i < all.length
  · have ed : all.drop i = all[i] :: all.drop (i + 1) := List.drop_eq_getElem_cons hlt
    rw [ed] at o'
    unfold forGo at o'
    split at o'
    · rename_i still
      refine .inr ⟨wk.goes i w' H' h' hlt l'.x r' still, fun σ2 H2 => ∃ w' G' h', Le w1 w' ∧ RepG X.K w' σ2 G' ∧ RepH X.K w' H2 h' ∧ OutS X.K X.mg W D w' (forGo p mb src all (all.drop (i + 1)) G' h'),
        fun σ2 H2 hN => ⟨all.length - (i + 1), by omega, rfl, hlt, hN⟩, fun x H2 hy => ?_⟩
      obtain ⟨w2, l2, r2, rv⟩ := wk.yields i x w' H' H2 h' all[i] (List.getElem?_eq_getElem hlt) l'.x r' still hy
      split at o'
      · rename_i G1 e1
        refine asg_rep r2 p all[i] x σ' G' G1 _ rv (g'.mono l2) e1 fun σ3 g3 _ => ?_
        refine ⟨w2, G1, h', g3, r2, ?_⟩
        have o2 := OutS.mono l2 o'
        cases eb : mb G1 h' with
        | next G2 h2 =>
          rw [eb] at o2
          exact fun σ4 w4 H4 l4 g4 r4 => ⟨w4, G2, h2, l'.trans (l2.trans l4), g4, r4, OutS.mono l4 o2⟩
        | cont G2 h2 =>
          rw [eb] at o2
          exact fun σ4 w4 H4 l4 g4 r4 => ⟨w4, G2, h2, l'.trans (l2.trans l4), g4, r4, OutS.mono l4 o2⟩
        | brk G2 h2 =>
          rw [eb] at o2
          exact o2
        | ret d h2 =>
          rw [eb] at o2
          exact o2
        | exc c fs G2 h2 =>
          rw [eb] at o2
          exact o2
        | stuck =>
          rw [eb] at o2
          exact o2
      · exact o'.elim
    · exact o'.elim
  · have e : i = all.length := by omega
    subst e
    rw [List.drop_length] at o'
    unfold forGo at o'
    split at o'
    · rename_i still
      exact .inl ⟨wk.stops w' H' h' l'.x r' still, o' σ' w' H' (Le.refl _) g' r'⟩
    · exact o'.elim
end

/-! ### while -/
noncomputable def whileGo (t : MeT) (body : Ms) : Nat → Env → AH → SR
  | 0, _, _ => .stuck
  | n + 1, G, h => (t G h).toS G fun b h1 => if b = true then
      match body G h1 with
      | .next G2 h2 => whileGo t body n G2 h2
      | .cont G2 h2 => whileGo t body n G2 h2
      | .brk G2 h2 => .next G2 h2
      | .ret x h2 => .ret x h2
      | .exc c fs G2 h2 => .exc c fs G2 h2
      | .stuck => .stuck
    else .next G h1
open Classical in
noncomputable def sWhile (t : MeT) (body : Ms) : Ms := fun G h => if hx : ∃ n, whileGo t body n G h ≠ .stuck then whileGo t body (Classical.choose hx) G h else .stuck
section
variable {X : Cx} {W : WX} {pos : Pos} {c : Expr} {body : List Stmt} {t : MeT} {mb : Ms}
theorem s_while (hp : PassesOwn (model X.prog X.w) X.A X.env X.xe) (hc : PT X c (TTT X W t)) (hb : PSs X body (TSS X W mb)) : PS X (.While c body [] pos) (TSS X W (sWhile t mb)) := by
  refine (ps_while hp hc hb).wk fun D σ H ⟨w, G, h, g, r, o⟩ => ?_
  unfold sWhile at o
  split at o
  · rename_i hx
    generalize Classical.choose hx = n0 at o
    refine ⟨fun m σ' H' => ∃ w' G' h', RepG X.K w' σ' G' ∧ RepH X.K w' H' h' ∧ OutS X.K X.mg W D w' (whileGo t mb m G' h'), ⟨n0, w, G, h, g, r, o⟩, ?_⟩
    rintro m σ' H' ⟨w', G', h', g', r', o'⟩
    cases m with
    | zero => exact o'.elim
    | succ m =>
      unfold whileGo at o'
      refine ⟨w', G', h', g', r', OutS.bindT (m := t) g' o' fun b h1 w1 H1 l r1 o1 => ?_⟩
      cases b with
      | true =>
        refine iteT ⟨fun σ2 H2 => ∃ w' G' h', RepG X.K w' σ2 G' ∧ RepH X.K w' H2 h' ∧ OutS X.K X.mg W D w' (whileGo t mb m G' h'), fun σ2 H2 hN => ⟨m, Nat.lt_succ_self _, hN⟩, ⟨w1, G', h1, g'.mono l, r1, ?_⟩⟩
        have o1 : OutS X.K X.mg W D w1 (match mb G' h1 with
          | .next G2 h2 => whileGo t mb m G2 h2
          | .cont G2 h2 => whileGo t mb m G2 h2
          | .brk G2 h2 => .next G2 h2
          | .ret x h2 => .ret x h2
          | .exc c fs G2 h2 => .exc c fs G2 h2
          | .stuck => .stuck) := o1
        cases eb : mb G' h1 with
        | next G2 h2 =>
          rw [eb] at o1
          exact fun σ4 w4 H4 l4 g4 r4 => ⟨w4, G2, h2, g4, r4, OutS.mono l4 o1⟩
        | cont G2 h2 =>
          rw [eb] at o1
          exact fun σ4 w4 H4 l4 g4 r4 => ⟨w4, G2, h2, g4, r4, OutS.mono l4 o1⟩
        | brk G2 h2 =>
          rw [eb] at o1
          exact o1
        | ret d h2 =>
          rw [eb] at o1
          exact o1
        | exc c fs G2 h2 =>
          rw [eb] at o1
          exact o1
        | stuck =>
          rw [eb] at o1
          exact o1
      | false => exact iteF (o1 σ' w1 H1 (Le.refl _) (g'.mono l) r1)
  · exact o.elim
end

/-! ### comprehensions -/
noncomputable def wipeG (G : Env) : List Nat → Env
  | [] => G
  | v :: vs => (wipeG G vs).set v none
theorem wipe_rep {K : PySem.W.Frag} {w : Wd} {σ : L2.St} {G : Env} (g : RepG K w σ G) : ∀ vs : List Nat, RepG K w (wipe σ vs) (wipeG G vs)
  | [] => g
  | v :: vs => by
    have ih := wipe_rep g vs
    refine ⟨by unfold wipe wipeG; rw [List.length_set, List.length_set, ih.1], fun i d e => ?_⟩
    unfold wipeG at e
    by_cases hi : i = v
    · subst hi
      have hl : i < (wipeG G vs).length := by
        have := (List.getElem?_eq_some_iff.mp e).1
        rwa [List.length_set] at this
      rw [List.getElem?_set_self hl] at e
      cases e
    · rw [List.getElem?_set_ne (Ne.symm hi)] at e
      obtain ⟨x, h1, h2⟩ := ih.2 i d e
      refine ⟨x, ?_, h2⟩
      unfold wipe
      rw [List.getElem?_set_ne (Ne.symm hi)]
      exact h1
noncomputable def tYesM : MeT := fun _ h => .ok true h
/-- in a comprehension nothing is raised -/
noncomputable def Res.noX {α : Type} (r : Res α) : Res α := match r with
  | .ok a h => .ok a h
  | _ => .stuck
@[simp] theorem Res.noX_ok {α : Type} (a : α) (h : AH) : (Res.ok a h).noX = .ok a h := rfl
@[simp] theorem Res.noX_exc {α : Type} (c : Str) (fs : List (Str × D)) (h : AH) : (Res.exc c fs h : Res α).noX = .stuck := rfl
@[simp] theorem Res.noX_stuck {α : Type} : (Res.stuck : Res α).noX = .stuck := rfl
open Classical in
noncomputable def compGo (p : Pat) (t : MeT) (e : Me) (src : Option Nat) (all : List D) (G : Env) : List D → AH → Res (List D)
  | [], h => if Still src all h then .ok [] h else .stuck
  | d :: r, h => if Still src all h then
      match asg p d G with
      | some G1 => (t G1 h).noX.bind fun b h1 => if b = true then (e G1 h1).noX.bind fun x h2 => (compGo p t e src all G r h2).bind fun xs h3 => .ok (x :: xs) h3 else compGo p t e src all G r h1
      | none => .stuck
    else .stuck
noncomputable def lComp (p : Pat) (vs : List Nat) (it : Im) (t : MeT) (e : Me) : MeL := fun G h => (it G h).bind fun a h1 => if a.1.length ≤ big then compGo p t e a.2 a.1 (wipeG G vs) a.1 h1 else .stuck
theorem OutF.bindI {K : PySem.W.Frag} {mg : Str → Option Value} {W : WX} {w : Wd} {σ : L2.St} {G : Env} {h : AH} {m : Im} {R : It → Hp → Prop} {Q : VK} {k : List D × Option Nat → AH → Res (List D)} (o : OutF K mg W w σ Q ((m G h).bind k))
    (hq : ∀ all src h1 J w1 H1, Le w w1 → RepH K w1 H1 h1 → Walks K J w1 all src → OutF K mg W w1 σ Q (k (all, src) h1) → R J H1) : OutI K mg W w σ R (m G h) := by
  cases e : m G h with
  | ok d h1 =>
    rw [e] at o
    exact fun J w1 H1 l r x => hq d.1 d.2 h1 J w1 H1 l r x (OutF.mono l o)
  | exc c fs h1 =>
    rw [e] at o
    exact o
  | stuck =>
    rw [e] at o
    exact o
/-- no wish: nothing is raised -/
noncomputable abbrev W0 : WX := fun _ _ _ _ => False
/-- the world in which the list at p, told apart, must stay as it is -/
noncomputable def Wd.hold (w : Wd) (p : Addr) (u : HO) : Wd := ⟨w.S, upd w.F p u, w.mu, w.N, w.LK⟩
noncomputable def Wd.with (w : Wd) (F : Hp) : Wd := ⟨w.S, F, w.mu, w.N, w.LK⟩
theorem RepH.hold {K : PySem.W.Frag} {w : Wd} {H : Hp} {h : AH} {p : Addr} {u : HO} (r : RepH K w H h) (ap : Apart w p) : RepH K (w.hold p u) (upd H p u) h := by
  refine ⟨fun a x e => ?_, r.len, r.inj, fun n o' e => ?_, fun a x e => ?_, fun a x e => ?_⟩
  · have e : w.S a = some x := e
    have q : a ≠ p := by
      intro z
      rw [z, ap.s] at e
      cases e
    rw [upd_ne q]
    exact r.ex _ _ e
  · obtain ⟨a, b⟩ := r.cell n o' e
    have hn : n < w.N := by
      rw [r.len]
      exact (List.getElem?_eq_some_iff.mp e).1
    refine ⟨a, ?_⟩
    have b2 : RepO K w (upd H p u) (w.mu n) o' := b.mono (Le.refl _) (upd_ne (ap.m n hn))
    cases o' with
    | lst ds => exact b2
    | ins C fs => exact b2
    | dct kvs => exact b2
    | lck kvs => exact b2
    | hld ks => exact b2
  · have e : upd w.F p u a = some x := e
    by_cases q : a = p
    · rw [q, upd_same] at e
      rw [q, upd_same]
      exact e
    · rw [upd_ne q] at e
      rw [upd_ne q]
      exact r.exF _ _ e
  · have e : upd w.F p u a = some x := e
    by_cases q : a = p
    · rw [q]
      exact ⟨ap.s, ap.m⟩
    · rw [upd_ne q] at e
      exact r.dis a x e
/-- the held list goes free again -/
theorem RepH.free {K : PySem.W.Frag} {w : Wd} {H : Hp} {h : AH} {F : Hp} {p : Addr} {u : HO} (r : RepH K w H h) (e : w.F = upd F p u) (hp : F p = none) : RepH K (w.with F) H h ∧ Apart (w.with F) p := by
  have sub : ∀ a x, F a = some x → w.F a = some x := fun a x q => by
    have z : a ≠ p := fun z => by
      rw [z, hp] at q
      cases q
    rw [e, upd_ne z]
    exact q
  have d := r.dis p u (by rw [e, upd_same])
  refine ⟨⟨r.ex, r.len, r.inj, fun n o' q => ?_, fun a x q => r.exF _ _ (sub a x q), fun a x q => r.dis a x (sub a x q)⟩, d.1, d.2, hp⟩
  obtain ⟨a, b⟩ := r.cell n o' q
  refine ⟨a, ?_⟩
  cases o' with
  | lst ds => exact b
  | ins C fs => exact b
  | dct kvs => exact b
  | lck kvs => exact b
  | hld ks => exact b
/-- a list goes on in its place -/
theorem RepH.regrow {K : PySem.W.Frag} {w : Wd} {H : Hp} {h : AH} {F : Hp} {p : Addr} {u u' : HO} (r : RepH K w H h) (e : w.F = upd F p u) (hp : F p = none) : RepH K (w.with (upd F p u')) (upd H p u') h := by
  obtain ⟨r1, ap⟩ := r.free e hp
  exact r1.hold ap
section
variable {X : Cx} {W : WX} {pos : Pos} {tg iter elt : Expr} {ifs : List Expr} {scope : Scope} {own : List (Str × Nat)} {p : Pat} {im : Im} {mt : MeT} {me : Me}
theorem lc_read (p : Pat) (hsl : ∀ i ∈ p.slots, i ∈ own.map (·.2)) {σ : L2.St} {H : Hp} {Q : VK} (t : TF X W (lComp p (own.map (·.2)) im mt me) σ H Q) : tLc (tI X W im) (gP X.K p) (TTT X W0 mt) (TM X W0 me) (own.map (·.2)) σ H Q := by
  obtain ⟨w, G, h, g, r, o⟩ := t
  refine ⟨w, G, h, g, r, OutF.bindI (m := im) o fun all src h1 J w1 H1 l r1 wk o1 => ?_⟩
  intro Dd hD
  have o1 : OutF X.K X.mg W w1 σ Q (if all.length ≤ big then compGo p mt me src all (wipeG G (own.map (·.2))) all h1 else .stuck) := o1
  split at o1
  · rename_i hbig
    have g1 : RepG X.K w1 (wipe σ (own.map (·.2))) (wipeG G (own.map (·.2))) := wipe_rep (g.mono l) _
    generalize hvs : own.map (·.2) = vs at *
    have apD : Apart w1 Dd := ⟨r1.ex.free hD, fun n hn => r1.ne hn hD, r1.exF.free hD⟩
    refine ⟨fun i m H' => m = all.length - i ∧ i ≤ all.length ∧ ∃ w' h' xs ds, w'.F = upd w1.F Dd (.lst xs) ∧ LeX w1 w' ∧ RepH X.K w' H' h' ∧ Ra X.K w' xs ds ∧ ds.length ≤ i ∧
      OutF X.K X.mg W (w'.with w1.F) σ Q ((compGo p mt me src all (wipeG G vs) (all.drop i) h').bind fun ys h2 => .ok (ds ++ ys) h2),
      ⟨all.length, by simp, Nat.zero_le _, w1.hold Dd (.lst []), h1, [], [], rfl, ⟨Ext.refl _, Nat.le_refl _, fun _ _ => rfl, rfl⟩, r1.hold apD, .nil, Nat.le_refl _, ?_⟩, ?_⟩
    · have e : ∀ r : Res (List D), (r.bind fun ys h2 => .ok ([] ++ ys) h2) = r := fun r => by cases r <;> rfl
      rw [List.drop_zero, e]
      exact o1
    · rintro i m H' ⟨rfl, hi2, w', h', xs, ds, eF, lx, r', ra, hds, o'⟩
      obtain ⟨rf, apf⟩ := r'.free eF apD.f
      have lf : LeX w1 (w'.with w1.F) := ⟨lx.ex, lx.n, lx.mu, lx.lk⟩
      have hD' : H' Dd = some (.lst xs) := r'.exF _ _ (by rw [eF, upd_same])
      by_cases hlt : i < all.length
      · have ed : all.drop i = all[i] :: all.drop (i + 1) := List.drop_eq_getElem_cons hlt
        rw [ed] at o'
        unfold compGo at o'
        split at o'
        · rename_i still
          refine .inr ⟨wk.goes i w' H' h' hlt lx r' still, fun H2 => ∃ w' h' xs ds, w'.F = upd w1.F Dd (.lst xs) ∧ LeX w1 w' ∧ RepH X.K w' H2 h' ∧ Ra X.K w' xs ds ∧ ds.length ≤ i + 1 ∧
            OutF X.K X.mg W (w'.with w1.F) σ Q ((compGo p mt me src all (wipeG G vs) (all.drop (i + 1)) h').bind fun ys h2 => .ok (ds ++ ys) h2),
            fun H2 hN => ⟨all.length - (i + 1), by omega, rfl, hlt, hN⟩, fun x H2 hy => ?_⟩
          obtain ⟨w2, l2, r2, rv⟩ := wk.yields i x w' H' H2 h' all[i] (List.getElem?_eq_getElem hlt) lx r' still hy
          split at o'
          · rename_i G1 e1
            refine asg_rep r2 p all[i] x (wipe σ vs) _ G1 _ rv (g1.monoX (lx.trans l2.x)) e1 fun σ3 g3 hw => ⟨(hw vs hsl).trans (wipe_wipe fun _ hi => hi), w2, G1, h', g3, r2, ?_⟩
            cases em : mt G1 h' with
            | exc c fs h2 => rw [em] at o'; exact o'.elim
            | stuck => rw [em] at o'; exact o'.elim
            | ok b h2 =>
              rw [em] at o'
              intro w3 H3 l3 r3
              have o' : OutF X.K X.mg W (w'.with w1.F) σ Q ((if b = true then (me G1 h2).noX.bind fun x h2 => (compGo p mt me src all (wipeG G vs) (all.drop (i + 1)) h2).bind fun xs h3 => .ok (x :: xs) h3 else compGo p mt me src all (wipeG G vs) (all.drop (i + 1)) h2).bind fun ys h2 => .ok (ds ++ ys) h2) := o'
              have F3 : w3.F = upd w1.F Dd (.lst xs) := by rw [l3.f, l2.f, eF]
              cases b with
              | false =>
                rw [if_neg (by decide)] at o'
                refine iteF ⟨w3, h2, xs, ds, F3, lx.trans (l2.x.trans l3.x), r3, Ra_mono (l2.trans l3) ra, by omega, OutF.mono ?_ o'⟩
                exact ⟨(l2.trans l3).ex, (l2.trans l3).n, (l2.trans l3).mu, rfl, (l2.trans l3).lk⟩
              | true =>
                rw [if_pos rfl] at o'
                refine iteT ⟨w3, G1, h2, g3.mono l3, r3, ?_⟩
                cases ee : me G1 h2 with
                | exc c fs h3 => rw [ee] at o'; exact o'.elim
                | stuck => rw [ee] at o'; exact o'.elim
                | ok y h3 =>
                  rw [ee] at o'
                  intro v w4 H4 l4 r4 rv4
                  have F4 : w4.F = upd w1.F Dd (.lst xs) := by rw [l4.f, F3]
                  have lxs := ra.length
                  refine ⟨xs, r4.exF _ _ (by rw [F4, upd_same]), big_lt (by omega), w4.with (upd w1.F Dd (.lst (xs ++ [v]))), h3, xs ++ [v], ds ++ [y], rfl, ?_, r4.regrow F4 apD.f, ?_, ?_, ?_⟩
                  · have l := lx.trans (l2.x.trans (l3.x.trans l4.x))
                    exact ⟨l.ex, l.n, l.mu, l.lk⟩
                  · have ra4 : Ra X.K w4 xs ds := Ra_mono (l2.trans (l3.trans l4)) ra
                    exact ra4.append (.cons rv4 .nil)
                  · rw [List.length_append]
                    exact Nat.succ_le_succ hds
                  · have eq : ∀ r : Res (List D), ((r.bind fun zs h3 => .ok (y :: zs) h3).bind fun ys h2 => .ok (ds ++ ys) h2) = r.bind fun ys h2 => .ok ((ds ++ [y]) ++ ys) h2 := fun r => by
                      cases r with
                      | ok a h =>
                        show Res.ok (ds ++ (y :: a)) h = Res.ok ((ds ++ [y]) ++ a) h
                        rw [List.append_assoc]
                        rfl
                      | exc c fs h => rfl
                      | stuck => rfl
                    have o2 : OutF X.K X.mg W (w'.with w1.F) σ Q (((compGo p mt me src all (wipeG G vs) (all.drop (i + 1)) h3).bind fun zs h3 => .ok (y :: zs) h3).bind fun ys h2 => .ok (ds ++ ys) h2) := o'
                    rw [eq] at o2
                    refine OutF.mono ?_ o2
                    have l := l2.trans (l3.trans l4)
                    exact ⟨l.ex, l.n, l.mu, rfl, l.lk⟩
          · exact o'.elim
        · exact o'.elim
      · have e : i = all.length := by omega
        subst e
        rw [List.drop_length] at o'
        unfold compGo at o'
        split at o'
        · rename_i still
          refine .inl ⟨wk.stops w' H' h' lx r' still, ?_⟩
          have o2 : OutF X.K X.mg W (w'.with w1.F) σ Q (.ok (ds ++ []) h') := o'
          rw [List.append_nil] at o2
          exact o2 Dd xs (w'.with w1.F) H' (Le.refl _) rf apf hD' ra
        · exact o'.elim
  · exact o1.elim
theorem f_lc (p : Pat) (hN : X.N.Nodup) (hi : PI X tg iter (tI X W im)) (ok : BlkOk X.N X.env.scope scope own)
    (hg : ∀ (s : Shared) (H : Hp) (C : Addr) (cl : List (Str × Addr)) (fp : List Addr), PG (X.blk s H scope (compEnvC scope cl C X.env) fp) tg (gP X.K p)) (ht : ∀ (s : Shared) (H : Hp) (C : Addr) (cl : List (Str × Addr)) (fp : List Addr), PTs (X.blk s H scope (compEnvC scope cl C X.env) fp) ifs (TTT X W0 mt))
    (he : ∀ (s : Shared) (H : Hp) (C : Addr) (cl : List (Str × Addr)) (fp : List Addr), PE (X.blk s H scope (compEnvC scope cl C X.env) fp) elt (TM X W0 me)) (hsl : ∀ i ∈ p.slots, i ∈ own.map (·.2)) (hc : X.calm = true := by rfl) (hs : ∀ x, foldedSetIterable iter X.env x = pure x := by intro _; rfl) :
    PE X (.ListComp elt [⟨tg, iter, ifs, 0⟩] scope pos) (TF X W (lComp p (own.map (·.2)) im mt me)) :=
  (pe_lc hc hN hi ok hg ht he hs).wk fun _ _ _ t => lc_read p hsl t
/-- name = [..] on one line, the name a local of its own -/
theorem set_read {m : Me} {i : Nat} {D : Ends} {σ : L2.St} {H : Hp} (t : TSS X W (sSet i m) D σ H) : TM X W m σ H fun x H1 => gName i x σ H1 D.nx := by
  obtain ⟨w, G, h, g, r, o⟩ := t
  exact ⟨w, G, h, g, r, OutS.bindE (m := m) g o fun d h1 v w1 H1 l r1 x o1 => o1 _ w1 H1 (Le.refl _) ((g.mono l).set i x) r1⟩
theorem s_setLc (i : Nat) {y : Str} {py spos : Pos} {m : Me} (p : Pat) (hm : ∀ (σ : L2.St) (H : Hp) (Q : VK), TM X W m σ H Q → TF X W (lComp p (own.map (·.2)) im mt me) σ H Q) (hN : X.N.Nodup) (hi : PI X tg iter (tI X W im)) (ok : BlkOk X.N X.env.scope scope own)
    (hg : ∀ (s : Shared) (H : Hp) (C : Addr) (cl : List (Str × Addr)) (fp : List Addr), PG (X.blk s H scope (compEnvC scope cl C X.env) fp) tg (gP X.K p)) (ht : ∀ (s : Shared) (H : Hp) (C : Addr) (cl : List (Str × Addr)) (fp : List Addr), PTs (X.blk s H scope (compEnvC scope cl C X.env) fp) ifs (TTT X W0 mt))
    (he : ∀ (s : Shared) (H : Hp) (C : Addr) (cl : List (Str × Addr)) (fp : List Addr), PE (X.blk s H scope (compEnvC scope cl C X.env) fp) elt (TM X W0 me)) (hsl : ∀ i ∈ p.slots, i ∈ own.map (·.2)) (hy : X.N[i]? = some y := by rfl) (hyl : X.env.scope.names.lookup y = some .local := by rfl)
    (hk : X.env.scope.kind = .function := by rfl) (hl : (py.line == pos.line) = true := by rfl) (ha : (scope.names.any fun (n, k) => n == y && (k == .local || k == .cell)) = false := by rfl) (hc : X.calm = true := by rfl) (hs : ∀ x, foldedSetIterable iter X.env x = pure x := by intro _; rfl) :
    PS X (.Assign [.Name y py] (.ListComp elt [⟨tg, iter, ifs, 0⟩] scope pos) spos) (TSS X W (sSet i m)) :=
  (ps_setLc hc hN hy hyl (sw_true hk hyl hl ha) hi ok hg ht he hs).wk fun D σ H t => lc_read p hsl (hm _ _ _ (set_read t))
end
end AB
/-! AB: defs, their calls; list methods; raise. -/
namespace AB
open PySem PySem.Spec PyProof.Rows L2

mutual
/-- no object from n on is named -/
noncomputable def D.under (n : Nat) : D → Bool
  | .tup ds => underL n ds
  | .lst ds => underL n ds
  | .rol ds => underL n ds
  | .loc m => decide (m < n)
  | _ => true
noncomputable def underL (n : Nat) : List D → Bool
  | [] => true
  | d :: ds => d.under n && underL n ds
end
noncomputable def AO.under (n : Nat) : AO → Bool
  | .lst ds => underL n ds
  | .ins _ fs => underL n (fs.map (·.2))
  | .dct kvs => underL n (kvs.map (·.2))
  | .lck kvs => underL n (kvs.map (·.2))
  | .hld _ => true
section
variable {K : PySem.W.Frag} {S : Hp} {mu : Nat → Addr} {N n : Nat}
mutual
theorem RepV.lower : ∀ (d : D) (v : V), RepV K S mu N v d → d.under n = true → RepV K S mu n v d
  | .non, _, h, _ => by cases h; exact .non
  | .bl _, _, h, _ => by cases h; exact .bl _
  | .int _, _, h, _ => by cases h; exact .int _
  | .str _, _, h, _ => by cases h; exact .str _
  | .tup ds, _, h, b => by
    cases h with
    | tup x y => exact .tup x (RepAll.lower ds _ y (by unfold D.under at b; exact b))
  | .lst ds, _, h, b => by
    cases h with
    | lst x y => exact .lst x (RepAll.lower ds _ y (by unfold D.under at b; exact b))
  | .rol ds, _, h, b => by
    cases h with
    | rol x y => exact .rol x (RepAll.lower ds _ y (by unfold D.under at b; exact b))
  | .loc m, _, h, b => by
    cases h with
    | loc x => exact .loc (of_decide_eq_true (by unfold D.under at b; exact b))
  | .con _, _, h, _ => by cases h; exact .con
theorem RepAll.lower : ∀ (ds : List D) (vs : List V), RepAll K S mu N vs ds → underL n ds = true → RepAll K S mu n vs ds
  | [], _, h, _ => by cases h; exact .nil
  | d :: ds, _, h, b => by
    cases h with
    | cons x y =>
      unfold underL at b
      rw [Bool.and_eq_true] at b
      exact .cons (RepV.lower d _ x b.1) (RepAll.lower ds _ y b.2)
end
mutual
theorem RepV.is_under : ∀ (d : D) (v : V), RepV K S mu N v d → d.under N = true
  | .non, _, _ => by unfold D.under; rfl
  | .bl _, _, _ => by unfold D.under; rfl
  | .int _, _, _ => by unfold D.under; rfl
  | .str _, _, _ => by unfold D.under; rfl
  | .tup ds, _, h => by
    cases h with
    | tup x y => unfold D.under; exact RepAll.is_under ds _ y
  | .lst ds, _, h => by
    cases h with
    | lst x y => unfold D.under; exact RepAll.is_under ds _ y
  | .rol ds, _, h => by
    cases h with
    | rol x y => unfold D.under; exact RepAll.is_under ds _ y
  | .loc m, _, h => by
    cases h with
    | loc x => unfold D.under; exact decide_eq_true x
  | .con _, _, _ => by unfold D.under; rfl
theorem RepAll.is_under : ∀ (ds : List D) (vs : List V), RepAll K S mu N vs ds → underL N ds = true
  | [], _, _ => by unfold underL; rfl
  | d :: ds, _, h => by
    cases h with
    | cons x y =>
      unfold underL
      rw [RepV.is_under d _ x, RepAll.is_under ds _ y]
      rfl
end
end
/-- the objects ahead of n hold nothing from n on: they stand as they stood, or this is seen -/
noncomputable def OkCells (n : Nat) (h0 h1 : AH) : Prop := ∀ m o, m < n → h1[m]? = some o → h0[m]? = some o ∨ o.under n = true
noncomputable def Wd.cut (w : Wd) (n : Nat) : Wd := ⟨w.S, w.F, w.mu, n, w.LK⟩
theorem RepO.under {K : PySem.W.Frag} {w : Wd} {H : Hp} {a : Addr} {o : AO} (r : RepO K w H a o) : o.under w.N = true := by
  cases o with
  | lst ds =>
    obtain ⟨xs, _, ra⟩ := r
    exact RepAll.is_under ds _ ra
  | ins C fs =>
    obtain ⟨_, dx, fv, _, _, _, ra, _⟩ := r
    exact RepAll.is_under _ _ ra
  | dct kvs =>
    obtain ⟨_, _, _, ra⟩ := r
    exact RepAll.is_under _ _ ra
  | lck kvs =>
    obtain ⟨_, _, _, _, _, ra⟩ := r
    exact RepAll.is_under _ _ ra
  | hld ks => rfl
theorem RepO.lower {K : PySem.W.Frag} {w : Wd} {H : Hp} {a : Addr} {o : AO} {n : Nat} (r : RepO K w H a o) (b : o.under n = true) : RepO K (w.cut n) H a o := by
  cases o with
  | lst ds =>
    obtain ⟨xs, e, ra⟩ := r
    exact ⟨xs, e, RepAll.lower ds _ ra b⟩
  | ins C fs =>
    obtain ⟨Ca, dx, fv, ec, e1, e2, ra, e3⟩ := r
    exact ⟨Ca, dx, fv, ec, e1, e2, RepAll.lower _ _ ra b, e3⟩
  | dct kvs =>
    obtain ⟨kv, e1, e2, ra⟩ := r
    exact ⟨kv, e1, e2, RepAll.lower _ _ ra b⟩
  | lck kvs =>
    obtain ⟨o, kv, e1, e0, e2, ra⟩ := r
    exact ⟨o, kv, e1, e0, e2, RepAll.lower _ _ ra b⟩
  | hld ks => exact r
/-- a def's own objects are forgotten -/
theorem RepH.cut {K : PySem.W.Frag} {w w1 : Wd} {H H1 : Hp} {h0 h1 : AH} (r0 : RepH K w H h0) (l : Le w w1) (r1 : RepH K w1 H1 h1) (ok : OkCells w.N h0 h1) : RepH K (w1.cut w.N) H1 (h1.take w.N) ∧ Le w (w1.cut w.N) := by
  have hl : w.N ≤ h1.length := by rw [← r1.len]; exact l.n
  refine ⟨⟨r1.ex, ?_, fun m n hm hn e => r1.inj m n (Nat.lt_of_lt_of_le hm l.n) (Nat.lt_of_lt_of_le hn l.n) e, fun m o e => ?_, r1.exF, fun a u e => ⟨(r1.dis a u e).1, fun n hn => (r1.dis a u e).2 n (Nat.lt_of_lt_of_le hn l.n)⟩⟩, l.ex, Nat.le_refl _, l.mu, l.f, l.lk⟩
  · show w.N = _
    rw [List.length_take]
    omega
  · have hm : m < w.N := by
      have := (List.getElem?_eq_some_iff.mp e).1
      rw [List.length_take] at this
      omega
    rw [List.getElem?_take, if_pos hm] at e
    obtain ⟨a, b⟩ := r1.cell m o e
    refine ⟨a, b.lower ?_⟩
    rcases ok m o hm e with q | q
    · obtain ⟨_, c⟩ := r0.cell m o q
      exact c.under
    · exact q
noncomputable abbrev Fn := List D → AH → Res D
noncomputable abbrev FnL := List D → AH → Res (List D)
open Classical in
noncomputable def finD (n : Nat) (h0 : AH) (d : D) (h1 : AH) : Res D :=
  if h1.length = n then .ok d h1 else if d.under n = true ∧ OkCells n h0 h1 then .ok d (h1.take n) else .stuck
open Classical in
noncomputable def finX {α : Type} (n : Nat) (h0 : AH) (c : Str) (fs : List (Str × D)) (h1 : AH) : Res α :=
  if h1.length = n then .exc c fs h1 else if underL n (fs.map (·.2)) = true ∧ OkCells n h0 h1 then .exc c fs (h1.take n) else .stuck
open Classical in
noncomputable def finL (n : Nat) (h0 : AH) (d : D) (h1 : AH) : Res (List D) := match d with
  | .loc k => match h1[k]? with
    | some (.lst ds) => if n ≤ k ∧ underL n ds = true ∧ OkCells n h0 h1 then .ok ds (h1.take n) else .stuck
    | _ => .stuck
  | _ => .stuck
/-- a def of n parameters and N slots -/
noncomputable def mDef (n N : Nat) (body : Ms) : Fn := fun ds h => if ds.length = n then
    match body (ds.map some ++ List.replicate (N - n) none) h with
    | .next _ h1 => finD h.length h .non h1
    | .ret d h1 => finD h.length h d h1
    | .exc c fs _ h1 => finX h.length h c fs h1
    | _ => .stuck
  else .stuck
/-- .. that hands back a new list -/
noncomputable def mDefL (n N : Nat) (body : Ms) : FnL := fun ds h => if ds.length = n then
    match body (ds.map some ++ List.replicate (N - n) none) h with
    | .ret d h1 => finL h.length h d h1
    | .exc c fs _ h1 => finX h.length h c fs h1
    | _ => .stuck
  else .stuck
noncomputable def spM (K : PySem.W.Frag) (mg : Str → Option Value) (m : Fn) : Sp := fun vs H Q E => ∃ w ds h, Ra K w vs ds ∧ RepH K w H h ∧ OutE K mg (fun c dd _ H => E c dd H) w [] Q (m ds h)
noncomputable def spL (K : PySem.W.Frag) (mg : Str → Option Value) (m : FnL) : Sp := fun vs H Q E => ∃ w ds h, Ra K w vs ds ∧ RepH K w H h ∧ OutF K mg (fun c dd _ H => E c dd H) w [] Q (m ds h)
theorem start_rep {K : PySem.W.Frag} {w : Wd} {N : List Str} {vs : List V} {ds : List D} (ra : Ra K w vs ds) : RepG K w (L2.start N vs) (ds.map some ++ List.replicate (N.length - ds.length) none) := by
  have hl := ra.length
  refine ⟨by simp [L2.start, hl], fun i d e => ?_⟩
  by_cases hi : i < ds.length
  · rw [List.getElem?_append_left (by simpa using hi), List.getElem?_map] at e
    have e2 : ds[i]? = some d := by
      cases q : ds[i]? with
      | none => rw [q] at e; cases e
      | some x =>
        rw [q] at e
        cases e
        rfl
    obtain ⟨v, h1, h2⟩ := ra.get e2
    refine ⟨v, ?_, h2⟩
    unfold L2.start
    rw [List.getElem?_append_left (by simp; omega), List.getElem?_map, h1]
    rfl
  · rw [List.getElem?_append_right (by simp; omega)] at e
    have := List.mem_of_getElem? e
    simp at this
section
variable {P : Program} {w : World} {K : PySem.W.Frag} {mg : Str → Option Value} {base : Heap}
/-- the end of a def that raises -/
theorem out_finX {E : XK} {w : Wd} {H : Hp} {h0 h1 : AH} {G1 : Env} {c : Str} {fs : List (Str × D)} {D : Ends} (r0 : RepH K w H h0)
    (o : (h1.length = w.N → OutX K mg (fun c dd _ H => E c dd H) w [] c fs h1) ∧ (h1.length ≠ w.N → underL w.N (fs.map (·.2)) = true ∧ OkCells w.N h0 h1 ∧ OutX K mg (fun c dd _ H => E c dd H) w [] c fs (h1.take w.N))) :
    OutS K mg (fun c dd _ H => E c dd H) D w (.exc c fs G1 h1) := by
  intro cls dd σ1 w1 H1 e l g r x
  by_cases q : h1.length = w.N
  · exact o.1 q cls dd w1 H1 e l r x
  · obtain ⟨hb, hc, ox⟩ := o.2 q
    obtain ⟨r2, l2⟩ := RepH.cut r0 l r hc
    refine ox cls dd (w1.cut w.N) H1 e l2 r2 ?_
    cases fs with
    | nil => exact x
    | cons f fs =>
      obtain ⟨p, fv, e1, e2, e3, ra⟩ := x
      exact ⟨p, fv, e1, e2, e3, RepAll.lower _ _ ra hb⟩
theorem sp_len {m : Ms} {n N : Nat} {vs : List V} {H : Hp} {Q : VK} {E : XK} (h : spM K mg (mDef n N m) vs H Q E) : vs.length = n := by
  obtain ⟨w, ds, h, ra, r, o⟩ := h
  unfold mDef at o
  split at o
  · rename_i e
    rw [ra.length]
    exact e
  · exact o.elim
theorem sp_start {m : Ms} {n : Nat} {N : List Str} {vs : List V} {H : Hp} {Q : VK} {E : XK} (h : spM K mg (mDef n N.length m) vs H Q E) : tS K mg (fun c dd _ H => E c dd H) m { nx := fun _ H' => Q .non H', rt := Q } (L2.start N vs) H := by
  obtain ⟨w, ds, h, ra, r, o⟩ := h
  unfold mDef at o
  split at o
  · rename_i e
    refine ⟨w, _, h, start_rep ra, r, ?_⟩
    rw [e]
    have fin : ∀ (d : D) (h1 : AH), OutE K mg (fun c dd _ H => E c dd H) w [] Q (finD h.length h d h1) → ∀ v w1 H1, Le w w1 → RepH K w1 H1 h1 → Rv K w1 v d → Q v H1 := by
      intro d h1 o v w1 H1 l r1 rv
      unfold finD at o
      split at o
      · exact o v w1 H1 l r1 rv
      · split at o
        · rename_i c
          rw [← r.len] at o c
          obtain ⟨r2, l2⟩ := RepH.cut r l r1 c.2
          exact o v (w1.cut w.N) H1 l2 r2 (RepV.lower d v rv c.1)
        · exact o.elim
    cases em : m (ds.map some ++ List.replicate (N.length - n) none) h with
    | next G1 h1 =>
      rw [em] at o
      exact fun σ' w1 H1 l g r1 => fin .non h1 o .non w1 H1 l r1 .non
    | ret d h1 =>
      rw [em] at o
      exact fun v w1 H1 l r1 rv => fin d h1 o v w1 H1 l r1 rv
    | brk G1 h1 => rw [em] at o; exact o.elim
    | cont G1 h1 => rw [em] at o; exact o.elim
    | stuck => rw [em] at o; exact o.elim
    | exc c fs G1 h1 =>
      rw [em] at o
      refine out_finX r ?_
      have o : OutE K mg (fun c dd _ H => E c dd H) w [] Q (finX h.length h c fs h1) := o
      unfold finX at o
      rw [← r.len] at o
      split at o
      · rename_i q
        exact ⟨fun _ => o, fun z => absurd q z⟩
      · rename_i q
        split at o
        · rename_i cc
          exact ⟨fun z => absurd z q, fun _ => ⟨cc.1, cc.2, o⟩⟩
        · exact o.elim
  · exact o.elim
theorem fn_ok {x qual : Str} {st : Stmt} {f : Addr} {fd : FuncData} {N ps : List Str} {k : Nat} (F : Fun K x qual st f fd) (S : FnScope N ps (defScope st)) (m : Ms)
    (hb : ∀ (cdv : Value) (A : Around) (outer : List PySem.Env) (s : Shared) (H : Hp) (E : XK), Room k (A.deeper (envOfC qual (defScope st) s.heap.objs.size f cdv)) →
      PSs (cxOf (L2.CX P w) P w K mg base N qual (defScope st) f cdv A outer s H E) (defBody st) (tS K mg (fun c dd _ H => E c dd H) m)) :
    FnOk P w K mg base (L2.CX P w) (k + 1) f fd ps (spM K mg (mDef ps.length N.length m)) :=
  F.okX S (fun vs H Q E h => sp_len h) fun cdv A outer s H vs Q E hr h => ⟨_, hb cdv A outer s H E hr, sp_start h⟩
open Classical in
theorem fn_okL {x qual : Str} {st : Stmt} {f : Addr} {fd : FuncData} {N ps : List Str} {k : Nat} (F : Fun K x qual st f fd) (S : FnScope N ps (defScope st)) (m : Ms)
    (hb : ∀ (cdv : Value) (A : Around) (outer : List PySem.Env) (s : Shared) (H : Hp) (E : XK), Room k (A.deeper (envOfC qual (defScope st) s.heap.objs.size f cdv)) →
      PSs (cxOf (L2.CX P w) P w K mg base N qual (defScope st) f cdv A outer s H E) (defBody st) (tS K mg (fun c dd _ H => E c dd H) m)) :
    FnOk P w K mg base (L2.CX P w) (k + 1) f fd ps (spL K mg (mDefL ps.length N.length m)) := by
  refine F.okX S (fun vs H Q E h => ?_) fun cdv A outer s H vs Q E hr h => ⟨_, hb cdv A outer s H E hr, ?_⟩
  · obtain ⟨w, ds, h, ra, r, o⟩ := h
    unfold mDefL at o
    split at o
    · rename_i e
      rw [ra.length]
      exact e
    · exact o.elim
  · obtain ⟨w, ds, h, ra, r, o⟩ := h
    unfold mDefL at o
    split at o
    · rename_i e
      refine ⟨w, _, h, start_rep ra, r, ?_⟩
      rw [e]
      cases em : m (ds.map some ++ List.replicate (N.length - ps.length) none) h with
      | next G1 h1 => rw [em] at o; exact o.elim
      | ret d h1 =>
        rw [em] at o
        intro v w1 H1 l r1 rv
        have o : OutF K mg (fun c dd _ H => E c dd H) w [] Q (finL h.length h d h1) := o
        cases rv with
        | @loc k _ =>
          have o : OutF K mg (fun c dd _ H => E c dd H) w [] Q (match h1[k]? with
            | some (.lst ds) => if h.length ≤ k ∧ underL h.length ds = true ∧ OkCells h.length h h1 then .ok ds (h1.take h.length) else .stuck
            | _ => .stuck) := o
          split at o
          · rename_i es eh
            split at o
            · rename_i c
              rw [← r.len] at o c
              obtain ⟨r2, l2⟩ := RepH.cut r l r1 c.2.2
              obtain ⟨a, xs, e1, ra1⟩ := r1.cell k _ eh
              have hk : k < w1.N := by
                rw [r1.len]
                exact (List.getElem?_eq_some_iff.mp eh).1
              refine o (w1.mu k) xs (w1.cut w.N) H1 l2 r2 ⟨a, fun n hn z => ?_, ?_⟩ e1 (RepAll.lower es xs ra1 c.2.1)
              · have hn : n < w.N := hn
                have := r1.inj n k (Nat.lt_of_lt_of_le hn l.n) hk z
                omega
              · cases q : w1.F (w1.mu k) with
                | none => exact q
                | some u => exact absurd rfl ((r1.dis _ u q).2 k hk)
            · exact o.elim
          · exact o.elim
        | _ => exact o.elim
      | brk G1 h1 => rw [em] at o; exact o.elim
      | cont G1 h1 => rw [em] at o; exact o.elim
      | stuck => rw [em] at o; exact o.elim
      | exc c fs G1 h1 =>
        rw [em] at o
        refine out_finX r ?_
        have o : OutF K mg (fun c dd _ H => E c dd H) w [] Q (finX h.length h c fs h1) := o
        unfold finX at o
        rw [← r.len] at o
        split at o
        · rename_i q
          exact ⟨fun _ => o, fun z => absurd q z⟩
        · rename_i q
          split at o
          · rename_i cc
            exact ⟨fun z => absurd z q, fun _ => ⟨cc.1, cc.2, o⟩⟩
          · exact o.elim
    · exact o.elim
end

/-! ### calls -/
section
variable {X : Cx} {W : WX} {pos p : Pos} {e : Expr} {es : List Expr} {as : MeL} {x : Str} {k k' : Nat} {f : Addr} {fd : FuncData} {ps : List Str} {m : Fn} {ml : FnL} {ma mb : Me}
theorem e_call (F : FnOk X.prog X.w X.K X.mg X.base (L2.CX X.prog X.w) k f fd ps (spM X.K X.mg m)) (hr : Room k' X.A) (hk' : k ≤ k') (tk : Takes X W) (hm : X.mg x = some (.ref f)) (hk : PySem.W.keepIn X.K (.ref f) = true) (hb : Binds X.K fd ps [])
    (ha : PA X (e :: es) (TAr X W as)) (hg : Gl X x := by rfl) (hdb : (x == ("__debug__" : Str)) = false := by decide) (he : starEach (e :: es) X.env = (false, eval e X.env) :: starEach es X.env := by rfl) (hpl : (backTo pos (starEach es X.env)).any (·.1) = false := by rfl) :
    PE X (.Call (.Name x p) (e :: es) [] pos) (TM X W (mN m as)) := by
  refine (pe_callS F (hr.mono hk') hg hm hk hb (fun σ => passAt tk σ) ha hdb he hpl).wk fun σ H Q ⟨w, G, h, g, r, o⟩ => ⟨w, G, h, g, r, o.bindA fun ds h1 vs w1 H1 l r1 x o1 => ⟨w1, ds, h1, x, r1, ?_⟩⟩
  cases em : m ds h1 with
  | ok d h2 => rw [em] at o1; exact o1
  | exc c fs h2 => rw [em] at o1; exact o1
  | stuck => rw [em] at o1; exact o1
theorem f_call (F : FnOk X.prog X.w X.K X.mg X.base (L2.CX X.prog X.w) k f fd ps (spL X.K X.mg ml)) (hr : Room k' X.A) (hk' : k ≤ k') (tk : Takes X W) (hm : X.mg x = some (.ref f)) (hk : PySem.W.keepIn X.K (.ref f) = true) (hb : Binds X.K fd ps [])
    (ha : PA X (e :: es) (TAr X W as)) (hg : Gl X x := by rfl) (hdb : (x == ("__debug__" : Str)) = false := by decide) (he : starEach (e :: es) X.env = (false, eval e X.env) :: starEach es X.env := by rfl) (hpl : (backTo pos (starEach es X.env)).any (·.1) = false := by rfl) :
    PE X (.Call (.Name x p) (e :: es) [] pos) (TF X W (lN ml as)) := by
  refine (pe_callS F (hr.mono hk') hg hm hk hb (fun σ => passAt tk σ) ha hdb he hpl).wk fun σ H Q ⟨w, G, h, g, r, o⟩ => ⟨w, G, h, g, r, OutF.bindA (m := as) o fun ds h1 vs w1 H1 l r1 x o1 => ⟨w1, ds, h1, x, r1, ?_⟩⟩
  cases em : ml ds h1 with
  | ok d h2 => rw [em] at o1; exact o1
  | exc c fs h2 => rw [em] at o1; exact o1
  | stuck => rw [em] at o1; exact o1

/-! ### the machine's lists, changed -/
/-- o.m(e, ..) of a list -/
noncomputable def mBM (f : D → List D → AH → Res D) (o : Me) (as : MeL) : Me := fun G h => (o G h).bind fun d h1 => match vL h1 d with
  | some _ => (as G h1).bind fun xs h2 => f d xs h2
  | none => .stuck
noncomputable def FolM (X : Cx) (W : WX) (f : D → List D → AH → Res D) (r : V → List V → Hp → VK → Prop) : Prop := ∀ (w : Wd) (h : AH) (H : Hp) (σ : L2.St) (Q : VK) (v : V) (d : D) (vs : List V) (ds : List D),
  RepH X.K w H h → Rv X.K w v d → Ra X.K w vs ds → OutE X.K X.mg W w σ Q (f d ds h) → r v vs H Q
variable {o : Expr} {name : Str} {apos cpos : Pos} {bid : String} {r : V → List V → Hp → VK → Prop} {fm : D → List D → AH → Res D}
theorem tyV_L {w : Wd} {H : Hp} {h : AH} {v : V} {d : D} {ds : List D} (rh : RepH X.K w H h) (rv : Rv X.K w v d) (e : vL h d = some ds) : tyV X.K "list" v H := by
  obtain ⟨a, xs, rfl, sq, _⟩ := vL_rep rh rv e
  exact .inl ⟨rfl, xs, sq⟩
theorem e_bm (slot : Slot "list" name bid) (hty : typeOf (.builtin bid) = pure (.type "method_descriptor")) (hm : MtR X bid r) (hf : FolM X W fm r) (ho : PE X o (TM X W ma)) (ha : PA X (e :: es) (TAr X W as))
    (hbase : attributeBase o name X.env (eval o X.env) = eval o X.env := by rfl)
    (hfew : ((backTo cpos (starEach (e :: es) X.env)).all (fun x => !x.1) && (backToKw cpos (keywordEach [] X.env)).all (fun x => x.1.isSome)
      && decide ((e :: es).length + ([] : List Keyword).length + (if ([] : List Keyword).isEmpty then 0 else 1) < 30)) = true := by rfl)
    (hline : (apos.endLine == cpos.line) = true := by rfl) (hs : starEach (e :: es) X.env = (false, eval e X.env) :: starEach es X.env := by rfl) (hplain : (backTo cpos (starEach es X.env)).any (·.1) = false := by rfl) :
    PE X (.Call (.Attribute o name apos) (e :: es) [] cpos) (TM X W (mBM fm ma as)) := by
  refine (pe_bm PySem.F.plainAttrs_list slot hty hm ho ha hbase hfew hline hs hplain).wk fun σ H Q ⟨w, G, h, g, r, o⟩ => ⟨w, G, h, g, r, o.bindE fun d h1 v w1 H1 l r1 x o1 => ?_⟩
  split at o1
  · rename_i ds0 e0
    exact ⟨tyV_L r1 x e0, w1, G, h1, g.mono l, r1, OutE.bindA (m := as) o1 fun ds h2 vs w2 H2 l2 r2 xs o2 => hf w2 h2 H2 σ Q v d vs ds r2 (Rv_mono l2 x) xs o2⟩
  · exact o1.elim
noncomputable def fApp (d : D) (xs : List D) (h : AH) : Res D := match d, xs with
  | .loc n, [y] => match h[n]? with
    | some (.lst ds) => if ds.length < big then .ok .non (h.set n (.lst (ds ++ [y]))) else .stuck
    | _ => .stuck
  | _, _ => .stuck
noncomputable def fExt (d : D) (xs : List D) (h : AH) : Res D := match d, xs with
  | .loc n, [y] => match h[n]? with
    | some (.lst ds) => match vR h y with
      | some es => if ds.length + es.length ≤ big then .ok .non (h.set n (.lst (ds ++ es))) else .stuck
      | none => .stuck
    | _ => .stuck
  | _, _ => .stuck
/-- the object at n has a new content -/
theorem out_set {w : Wd} {σ : L2.St} {H : Hp} {Q : VK} {d : D} {h : AH} {v : V} {n : Nat} {xs : List V} {ds : List D} (hn : n < w.N) (o : OutE X.K X.mg W w σ Q (.ok d (h.set n (.lst ds)))) (r : RepH X.K w H h) (rv : Rv X.K w v d) (ra : Ra X.K w xs ds) : Q v (upd H (w.mu n) (.lst xs)) :=
  o v w _ (Le.refl _) (r.set hn ⟨xs, upd_same, ra⟩) rv
theorem fol_app : FolM X W fApp rAppend := by
  intro w h H σ Q v d vs ds rh rv ra o
  unfold fApp at o
  split at o
  · rename_i n y
    split at o
    · rename_i es e
      split at o
      · rename_i c
        cases rv with
        | loc hn =>
          obtain ⟨u, rfl, ru⟩ := ra_one ra
          obtain ⟨_, xs, e1, rx⟩ := rh.cell n _ e
          exact ⟨w.mu n, xs, u, rfl, rfl, e1, big_lt (by rw [rx.length]; exact c), out_set hn o rh .non (rx.append (.cons ru .nil))⟩
      · exact o.elim
    · exact o.elim
  · exact o.elim
noncomputable def rExt3 : V → List V → Hp → VK → Prop := fun x vs H Q => ∃ l b xs zs, x = .ref l ∧ vs = [.ref b] ∧ H l = some (.lst xs) ∧ Rd H b (.lst zs) ∧ xs.length + zs.length ≤ sizeLine ∧ Q .non (upd H l (.lst (xs ++ zs)))
theorem e_app (ho : PE X o (TM X W ma)) (ha : PA X [e] (TAr X W as))
    (hbase : attributeBase o "append" X.env (eval o X.env) = eval o X.env := by rfl)
    (hfew : ((backTo cpos (starEach [e] X.env)).all (fun x => !x.1) && (backToKw cpos (keywordEach [] X.env)).all (fun x => x.1.isSome)
      && decide (([e] : List Expr).length + ([] : List Keyword).length + (if ([] : List Keyword).isEmpty then 0 else 1) < 30)) = true := by rfl)
    (hline : (apos.endLine == cpos.line) = true := by rfl) (hs : starEach [e] X.env = (false, eval e X.env) :: starEach [] X.env := by rfl) (hplain : (backTo cpos (starEach [] X.env)).any (·.1) = false := by rfl) :
    PE X (.Call (.Attribute o "append" apos) [e] [] cpos) (TM X W (mBM fApp ma as)) :=
  e_bm PySem.F.slot_list_append PySem.F.type_list_append mt_append fol_app ho ha hbase hfew hline hs hplain
/-! o[i] = v of a list -/
noncomputable def sSub (o i v : Me) : Ms := fun G h => (v G h).toS G fun x h1 => (o G h1).toS G fun d h2 => (i G h2).toS G fun j h3 => match d, j with
  | .loc n, .int k => match h3[n]? with
    | some (.lst ds) => match ixN ds.length k with
      | some m => .next G (h3.set n (.lst (ds.set m x)))
      | none => .stuck
    | _ => .stuck
  | _, _ => .stuck
theorem s_sub {i : Expr} {mv mo mi : Me} {tpos : Pos} {ev : Expr} (hv : PE X ev (TM X W mv)) (ho : PE X o (TM X W mo)) (hi : PE X i (TM X W mi))
    (hs : swapsWithSole [.Subscript o i tpos] ev pos.line X.env = pure false := by rfl) (hw : swappedStores [.Subscript o i tpos] ev X.env = pure none := by rfl)
    (h1 : (assignEach [.Subscript o i tpos] X.env).map (·.2) = [assign (.Subscript o i tpos) X.env] := by rfl)
    (ha : ∀ v, assign (.Subscript o i tpos) X.env v = (do
      let ov ← holding [v] (eval o X.env)
      let iv ← holding [v, ov] (eval i X.env)
      standAt tpos
      holding [v, ov, iv] (setItem ov iv v)
      release [v, ov, iv] []) := by intro _; rfl) : PS X (.Assign [.Subscript o i tpos] ev pos) (TSS X W (sSub mo mi mv)) := by
  refine (ps_asg hv (pg_sub ho hi set_list ha) hs hw h1).wk fun D σ H ⟨w, G, h, g, r, o⟩ => ⟨w, G, h, g, r, OutS.bindE (m := mv) g o fun x h1 v w1 H1 l1 r1 rx o1 => ?_⟩
  have g1 := g.mono l1
  refine ⟨w1, G, h1, g1, r1, OutS.bindE (m := mo) g1 o1 fun d h2 v2 w2 H2 l2 r2 rd o2 => ?_⟩
  have g2 := g1.mono l2
  refine ⟨w2, G, h2, g2, r2, OutS.bindE (m := mi) g2 o2 fun j h3 v3 w3 H3 l3 r3 rj o3 => ?_⟩
  split at o3
  · rename_i n k
    split at o3
    · rename_i ds e
      split at o3
      · rename_i m em
        cases rj
        cases rd with
        | loc hn =>
          obtain ⟨_, xs, e1, rxs⟩ := r3.cell n _ e
          have hn3 : n < w3.N := Nat.lt_of_lt_of_le hn l3.n
          have emu : w3.mu n = w2.mu n := l3.mu n hn
          rw [← emu]
          refine ⟨w3.mu n, xs, k, m, rfl, rfl, e1, by rw [rxs.length]; exact em, ?_⟩
          exact o3 σ w3 _ (Le.refl _) (g2.mono l3) (r3.set hn3 ⟨xs.set m v, upd_same, RepAll.set (Rv_mono (l2.trans l3) rx) m rxs⟩)
      · exact o3.elim
    · exact o3.elim
  · exact o3.elim
/-! raise C() of an own class -/
noncomputable def sRaise (c : Str) : Ms := fun G h => .exc c [] G h
end
end AB
/-! AB: order over data, sorted. -/
namespace AB
open PySem PySem.Spec PyProof.Rows L2

/-! ### sorted of tuples, empty ones among them -/
section
variable {prog : Program} {w : World} {A : Around} {E : Value → Shared → Prop} {s : Shared}
/-- the first item of a tuple, or none -/
theorem first_of {v : Value} {xs : List PyData} {as : List Addr} (r : Reads s.heap v (.tuple xs) as) : ∃ f : Option Value, (f = none ↔ xs = []) ∧ ∀ (M : Model) (E : Value → Shared → Prop) (Q : Option Value → Shared → Prop), Q f s → wpAny M A (firstOfTuple' v) Q E s := by
  cases r with
  | @tuple a o its n _ _ ho hc hd hr =>
    refine ⟨its[0]?, ?_, fun M E Q hq => ?_⟩
    · have hl := SeqAt.ReadsAll.length _ _ _ hr
      rw [Array.getElem?_eq_none_iff]
      constructor
      · intro h
        have : its.size = 0 := by omega
        have e : xs.length = 0 := by rw [← hl]; simpa using this
        exact List.eq_nil_of_length_eq_zero e
      · intro h
        subst h
        have : its.toList.length = 0 := by simpa using hl
        simp at this
        simp [this]
    · rw [PySem.W.kas_first_eq]
      refine wpAny_bind (PySem.W.Looks.here (show PySem.W.Looks M s.heap (typeOf (.ref a)) o.cls from (PySem.W.Looks.ld ho).andThen .now) ?_)
      rw [hc, if_neg (by first | decide | simp)]
      exact wpAny_bind (listItems_at ho hd (wpAny_pure hq))
theorem firsts_of : ∀ {vs : List Value} {ds : List PyData}, PySem.W.EachIs (fun v d => ∃ as, Reads s.heap v d as) vs ds → (∀ d ∈ ds, ∃ xs, d = .tuple xs) →
    ∃ fs : List (Option Value), ((∃ f ∈ fs, f = none) ↔ ∃ d ∈ ds, d = .tuple []) ∧ ∀ (M : Model) (E : Value → Shared → Prop) (Q : List (Option Value) → Shared → Prop), Q fs s → wpAny M A (vs.mapM firstOfTuple') Q E s
  | _, _, .nil, _ => ⟨[], by simp, fun M E Q hq => by rw [List.mapM_nil]; exact wpAny_pure hq⟩
  | _, _, .cons (a := v) (as := vs) (b := d) (bs := ds) ⟨as, r⟩ t, ht => by
    obtain ⟨fs, h1, h2⟩ := firsts_of t fun d hd => ht d (List.mem_cons_of_mem _ hd)
    obtain ⟨xs, rfl⟩ := ht d List.mem_cons_self
    obtain ⟨f, g1, g2⟩ := first_of (A := A) r
    refine ⟨f :: fs, ?_, fun M E Q hq => ?_⟩
    · constructor
      · rintro ⟨x, hx, e⟩
        rcases List.mem_cons.mp hx with rfl | hx
        · exact ⟨_, List.mem_cons_self, by rw [g1.mp e]⟩
        · obtain ⟨d, hd, e⟩ := h1.mp ⟨x, hx, e⟩
          exact ⟨d, List.mem_cons_of_mem _ hd, e⟩
      · rintro ⟨d, hd, e⟩
        rcases List.mem_cons.mp hd with rfl | hd
        · injection e with e
          exact ⟨f, List.mem_cons_self, g1.mpr e⟩
        · obtain ⟨x, hx, e⟩ := h1.mpr ⟨d, hd, e⟩
          exact ⟨x, List.mem_cons_of_mem _ hx, e⟩
    · rw [List.mapM_cons]
      exact wpAny_bind (g2 M E _ (wpAny_bind (h2 M E (fun bs s' => wpAny M A (pure (f :: bs)) Q E s') (wpAny_pure hq))))
theorem kind_empt {vs : List Value} {ds : List PyData} (e : PySem.W.EachIs (fun v d => ∃ as, Reads s.heap v d as) vs ds) (ht : ∀ d ∈ ds, ∃ xs, d = .tuple xs) (hn : ∃ d ∈ ds, d = .tuple []) :
    ∃ kd : SortKind, (kd = general' ∨ kd = oneType') ∧ ∀ (M : Model) (E : Value → Shared → Prop) {Q : SortKind → Shared → Prop}, Q kd s → wpAny M A (keyKind' vs.toArray) Q E s := by
  obtain ⟨fs, h1, h2⟩ := firsts_of (A := A) e ht
  have hall : (fs.toArray.all fun x => x.isSome) = false := by
    obtain ⟨f, hf, rfl⟩ := h1.mpr hn
    rw [List.all_toArray, List.all_eq_false]
    exact ⟨none, hf, by simp⟩
  by_cases h0 : ((fs.toArray[0]?.bind id).isSome) = true
  · refine ⟨general', .inl rfl, fun M E Q hq => ?_⟩
    rw [PyProof.Rows.kat_kind_eq, List.mapM_toArray, map_eq_pure_bind]
    refine wpAny_bind (wpAny_bind (h2 M E _ (wpAny_pure ?_)))
    rw [if_neg (by rw [hall]; decide), if_pos h0]
    exact wpAny_pure hq
  · have hv : vs ≠ [] := by
      intro z
      subst z
      cases e
      obtain ⟨d, hd, _⟩ := hn
      cases hd
    refine ⟨oneType', .inr rfl, fun M E Q hq => ?_⟩
    rw [PyProof.Rows.kat_kind_eq, List.mapM_toArray, map_eq_pure_bind]
    refine wpAny_bind (wpAny_bind (h2 M E _ (wpAny_pure ?_)))
    rw [if_neg (by rw [hall]; decide), if_neg h0]
    rw [oneTypeOnly'_eq, List.mapM_toArray, map_eq_pure_bind]
    refine wpAny_bind (wpAny_bind (wpAny_bind (PySem.W.kas_mapM (r := Value.type "tuple") _ (fun v hv Q' hq => ?_) (wpAny_pure ?_))))
    · obtain ⟨d, hd, as, r⟩ := e.left v hv
      obtain ⟨xs, rfl⟩ := ht d hd
      exact (PySem.W.looks_reads (M := M) r).here hq
    · cases vs with
      | nil => exact absurd rfl hv
      | cons v vs =>
        have hall2 : ((List.map (fun _ => Value.type "tuple") (v :: vs)).toArray.all fun x => x == Value.type "tuple") = true := by
          simp only [List.all_toArray, List.all_map, List.all_eq_true]
          intro _ _
          exact beq_self_eq_true _
        have h00 : (List.map (fun _ => Value.type "tuple") (v :: vs)).toArray[0]? = some (Value.type "tuple") := by simp
        rw [h00]
        simp only [hall2, if_true]
        exact wpAny_pure (wpAny_pure hq)
theorem call_tuple_lt {Q : Value → Shared → Prop} {l b : Addr} {items items2 : Array Value} {e r : Nat → Bool} (hl : s.heap.IsTuple l items) (hb : s.heap.IsTuple b items2)
    (he : ∀ j (h1 : j < items.size) (h2 : j < items2.size), SeqAt.EqAt A.in1 s items[j] items2[j] (e j)) (hr : ∀ j (h1 : j < items.size) (h2 : j < items2.size), e j = false → SeqAt.RcLt A.in1 s items[j] items2[j] (r j))
    (h : Q (.bool (SeqAt.firstLt e r (decide (items.size < items2.size)) (List.range (min items.size items2.size)))) s) : wpAny (model prog w) A (call (.builtin "tuple.__lt__") [.ref l, .ref b]) Q E s := by
  obtain ⟨⟨cls, dd, data, sl⟩, ho, hc, n, hd⟩ := id hl
  obtain ⟨⟨cls2, dd2, data2, sl2⟩, ho2, hc2, n2, hd2⟩ := id hb
  simp only at hc hd hc2 hd2
  subst hc hd hc2 hd2
  exact call_meets PySem.F.slot_tuple_lt ⟨_, ho, rfl⟩ PySem.F.entry_tuple_lt (PySem.F.args_tuple_lt_2 _ _) (SeqAt.tuple_ltAt l b items items2 n n2 dd dd2 sl sl2 e r) ⟨ho, ho2, he, hr, h⟩
theorem oneLt_tup {f : Bool} {xs ys : List PyData} {a b : Value} {as bs : List Addr} {Q : Bool → Shared → Prop} (ra : Reads s.heap a (.tuple xs) as) (rb : Reads s.heap b (.tuple ys) bs) (h : PySem.W.alike (.tuple xs) (.tuple ys) = true)
    (hu : A.units + min (PyData.tuple xs).depth (PyData.tuple ys).depth < cLine) (hq : Q (PySem.W.dataLt (.tuple xs) (.tuple ys)) s) : wpAny (model prog w) A (oneLt' f a b) Q E s := by
  cases f with
  | false => exact PySem.W.oneLt_alike (fun z => nomatch z) ra rb h (fun z => nomatch z) hu hq
  | true =>
    have hal : PySem.W.alikeAll xs ys = true := by simpa [PySem.W.alike] using h
    cases ra with
    | @tuple l o vs n _ as₁ h1 h2 h3 h4 =>
      cases rb with
      | @tuple l' o' vs' n' _ bs₁ k1 k2 k3 k4 =>
        have n1 : vs.size = xs.length := by simpa using SeqAt.ReadsAll.length _ _ _ h4
        have n2 : vs'.size = ys.length := by simpa using SeqAt.ReadsAll.length _ _ _ k4
        rw [PySem.W.dataLt_tuple, ← PySem.W.firstLt_toks xs ys hal, ← n1, ← n2] at hq
        rw [oneLt'_eq]
        simp only [if_true]
        refine wpAny_bind (wpAny_cRoomFor (by have := hu; omega) ?_)
        refine wpAny_bind (wpAny_callSpecialIfBound?_slot (T := "tuple") ⟨_, h1, h2⟩ PySem.F.slot_tuple_lt (call_tuple_lt (e := SeqAt.pairEq xs ys) (r := fun j => PySem.W.dataLt (xs.getD j .none) (ys.getD j .none)) ⟨_, h1, h2, _, h3⟩ ⟨_, k1, k2, _, k3⟩ (fun j j1 j2 => ?_) (fun j j1 j2 hj => ?_) ?_))
        · have := PySem.W.eqAt_alikeAll xs ys A.in1 s vs.toList vs'.toList _ _ h4 k4 hal (SeqAt.room_in hu) j (by simpa using j1) (by simpa using j2)
          simpa using this
        · have := PySem.W.rcLt_alikeAll xs ys A.in1 s vs.toList vs'.toList _ _ h4 k4 hal (SeqAt.room_in hu) j (by simpa using j1) (by simpa using j2) hj
          simpa using this
        · exact wpAny_truthy_bool hq
theorem keyLt'_general (x y : Value) : keyLt' general' x y = oneLt' false x y := rfl
theorem sorts_empt {vs : List Value} {ds : List PyData} (e : PySem.W.EachIs (fun v d => ∃ as, Reads s.heap v d as) vs ds) (hal : PySem.W.AllAlike ds) (ht : ∀ d ∈ ds, ∃ xs, d = .tuple xs) (hn : ∃ d ∈ ds, d = .tuple []) (hu : ∀ d, d ∈ ds → A.units + d.depth < cLine) :
    PySem.W.SortsAt prog w A s (PySem.W.dataKind s.heap ds) vs := by
  have room : ∀ {d d' : PyData}, d ∈ ds → A.units + min d.depth d'.depth < cLine := fun {d d'} hd => Nat.lt_of_le_of_lt (Nat.add_le_add_left (Nat.min_le_left _ _) _) (hu d hd)
  refine ⟨fun v hv => ?_, ?_⟩
  · obtain ⟨d, hd, as, r⟩ := e.left v hv
    exact ⟨_, PySem.W.dataKind_some hal hd r⟩
  · obtain ⟨kd, hk, hkk⟩ := kind_empt (A := A) e ht hn
    refine ⟨kd, ?_, fun _ E Q hq => hkk _ E hq⟩
    intro E x y a b Q ha hb hq
    obtain ⟨d, as, hd, ra, rfl⟩ := PySem.W.dataKind_inv ha
    obtain ⟨d', as', hd', rb, rfl⟩ := PySem.W.dataKind_inv hb
    obtain ⟨xs, rfl⟩ := ht d hd
    obtain ⟨ys, rfl⟩ := ht d' hd'
    have hq : Q (PySem.W.dataLt (.tuple xs) (.tuple ys)) s := hq
    rcases hk with rfl | rfl
    · rw [keyLt'_general]
      exact oneLt_tup ra rb (hal _ hd _ hd') (room hd) hq
    · rw [keyLt'_oneType]
      exact oneLt_tup ra rb (hal _ hd _ hd') (room hd) hq
end
end AB
/-! AB: sorted, order, index, extend, walks of pairs. -/
namespace AB
open PySem PySem.Spec PyProof.Rows L2

/-! ### sorted of a list -/
noncomputable def alikeB (ps : List PyData) : Bool := ps.all fun a => ps.all fun b => PySem.W.alike a b
noncomputable def isTupP : PyData → Bool
  | .tuple _ => true
  | _ => false
noncomputable def isNonP : PyData → Bool
  | .none => true
  | _ => false
noncomputable def sortB (ps : List PyData) : Bool := alikeB ps && (ps.all isTupP || ps.all fun d => !isTupP d && !isNonP d) && ps.all SeqAt.shaped && decide (ps.length ≤ big)
noncomputable def leP (a b : PyData) : Bool := !PySem.W.dataLt b a
theorem alikeB_all {ps : List PyData} (h : alikeB ps = true) : PySem.W.AllAlike ps := by
  unfold alikeB at h
  rw [List.all_eq_true] at h
  intro d hd d' hd'
  have := h d hd
  rw [List.all_eq_true] at this
  exact this d' hd'
noncomputable def rSortD (K : PySem.W.Frag) : List V → Hp → VK → Prop := fun xs H Q => ∃ (a : Addr) (zs : List (V × PyData)), xs = [.ref a] ∧ SqL K H a (zs.map (·.1)) ∧ (∀ z ∈ zs, Dp K H z.1 z.2) ∧ sortB (zs.map (·.2)) = true ∧
  ∀ l, H l = none → Q (.ref l) (upd H l (.lst ((zs.mergeSort fun a b => leP a.2 b.2).map (·.1))))
theorem each_of {R : Value → β → Prop} {f : β → V} (hR : ∀ u z, RelV (f z) u → R u z) : ∀ {zs : List β} {us : List Value}, Vals (zs.map f) us → PySem.W.EachIs R us zs
  | [], _, h => by cases h; exact .nil
  | z :: zs, _, h => by
    cases h with
    | cons r t => exact .cons (hR _ _ r) (each_of hR t)
theorem vals_of {R : Value → β → Prop} {f : β → V} (hR : ∀ u z, R u z → RelV (f z) u) : ∀ {zs : List β} {us : List Value}, PySem.W.EachIs R us zs → Vals (zs.map f) us
  | _, _, .nil => .nil
  | _, _, .cons r t => .cons (hR _ _ r) (vals_of hR t)
section
variable {X : Cx}
theorem dataLe_leP (k : β → PyData) : PySem.W.dataLe false k = fun a b => leP (k a) (k b) := rfl
theorem each_and {R S : Value → β → Prop} : ∀ {us : List Value} {zs : List β}, PySem.W.EachIs R us zs → (∀ z ∈ zs, ∀ u, R u z → S u z) → PySem.W.EachIs S us zs
  | _, _, .nil, _ => .nil
  | _, _, .cons r t, h => .cons (h _ List.mem_cons_self _ r) (each_and t fun z hz u => h z (List.mem_cons_of_mem _ hz) u)
theorem cr_sortedD (hu : X.A.units + 67 < cLine) : CallR X (.builtin "sorted") (rSortD X.K) := by
  intro pins s σ H vs us Q I r h
  obtain ⟨a, zs, rfl, hs, hd, hsb, q⟩ := h
  obtain ⟨its, rv, hl, hz⟩ := I.list hs
  rw [Vals.ref1 r]
  unfold sortB at hsb
  rw [Bool.and_eq_true, Bool.and_eq_true, Bool.and_eq_true] at hsb
  obtain ⟨⟨⟨hal, hk⟩, hsh⟩, hbig⟩ := hsb
  have hal := alikeB_all hal
  rw [List.all_eq_true] at hsh
  have e1 : PySem.W.EachIs (fun u (z : V × PyData) => RelV z.1 u) its zs := each_of (f := fun z : V × PyData => z.1) (fun u z h => h) rv
  have er : PySem.W.EachIs (fun u (z : V × PyData) => ∃ as, Reads s.heap u z.2 as) its zs := each_and e1 fun z hz u r => Dp.reads I z.2 z.1 u (hd z hz) r
  have hdep : ∀ z ∈ zs, z.2.depth ≤ 64 := fun z hz => SeqAt.depth_of_shaped (hsh _ (List.mem_map_of_mem hz))
  have hL : its.length ≤ sizeLine := by
    rw [← rv.length]
    exact hz
  have fin : ∀ out : List Value, out.length = its.length → PySem.W.EachIs (fun u (z : V × PyData) => RelV z.1 u) out (zs.mergeSort (PySem.W.dataLe false fun z : V × PyData => z.2)) →
      EP X pins σ Q (.ref (s.heap.objs.size + 1)) { s with heap := sortedAll s.heap its (List.toArray out) } := by
    intro out ho eo
    obtain ⟨ep, he'⟩ := PyProof.Rows.sortedAll_at s.heap its out.toArray
    have vo := vals_of (f := fun z : V × PyData => z.1) (fun u z h => h) eo
    rw [dataLe_leP] at vo
    have hlen : ((zs.mergeSort fun a b => leP a.2 b.2).map (·.1)).length ≤ sizeLine := by
      rw [vo.length, ho]
      exact hL
    exact ⟨.ref _, upd H (s.heap.objs.size + 1) (.lst ((zs.mergeSort fun a b => leP a.2 b.2).map (·.1))), I.laid (t' := s.toks) (fun _ _ => PyProof.Rows.sortedAll_old) (Nat.le_succ _) ⟨hlen, out, ep, vo, he'⟩, rfl, q _ (I.hok.fresh (Nat.le_succ _))⟩
  have er' : PySem.W.EachIs (fun v (b : V × PyData) => ∃ as, Reads (PySem.W.sortingHeap (PySem.W.copyHeap s.heap its) (s.heap.objs.size + 1) its) v b.2 as) its zs := er.mono fun _ _ ⟨as, r⟩ => ⟨as, PyProof.Rows.Reads.keeps (fun _ _ => PySem.W.sorting_copy_old) r⟩
  have em := PySem.W.each_map (R := fun v d => ∃ as, Reads (PySem.W.sortingHeap (PySem.W.copyHeap s.heap its) (s.heap.objs.size + 1) its) v d as) (fun z : V × PyData => z.2) er'
  have room : ∀ d ∈ zs.map (·.2), X.A.in1.in1.units + d.depth < cLine := by
    intro d hd'
    obtain ⟨z, hz, rfl⟩ := List.mem_map.mp hd'
    have := hdep z hz
    show X.A.units + 1 + 1 + z.2.depth < cLine
    omega
  have S : PySem.W.SortsAt X.prog X.w X.A.in1.in1 { s with heap := PySem.W.sortingHeap (PySem.W.copyHeap s.heap its) (s.heap.objs.size + 1) its } (PySem.W.dataKind (PySem.W.sortingHeap (PySem.W.copyHeap s.heap its) (s.heap.objs.size + 1) its) (zs.map (·.2))) its := by
    rw [Bool.or_eq_true] at hk
    rcases hk with hk | hk
    · rw [List.all_eq_true] at hk
      have ht : ∀ d ∈ zs.map (·.2), ∃ xs, d = .tuple xs := fun d hd => by
        have := hk d hd
        cases d with
        | tuple xs => exact ⟨xs, rfl⟩
        | _ => cases this
      by_cases hn : ∃ d ∈ zs.map (·.2), d = .tuple []
      · exact sorts_empt (s := { s with heap := PySem.W.sortingHeap (PySem.W.copyHeap s.heap its) (s.heap.objs.size + 1) its }) em hal ht hn room
      · refine PySem.W.SortsAt.data (s := { s with heap := PySem.W.sortingHeap (PySem.W.copyHeap s.heap its) (s.heap.objs.size + 1) its }) em hal (.inl fun d hd => ?_) room
        obtain ⟨xs, rfl⟩ := ht d hd
        cases xs with
        | nil => exact absurd ⟨_, hd, rfl⟩ hn
        | cons x r => exact ⟨x, r, rfl⟩
    · rw [List.all_eq_true] at hk
      refine PySem.W.SortsAt.data (s := { s with heap := PySem.W.sortingHeap (PySem.W.copyHeap s.heap its) (s.heap.objs.size + 1) its }) em hal (.inr fun d hd => ?_) room
      have := hk d hd
      constructor
      · rintro rfl
        exact absurd this (by decide)
      · rintro xs rfl
        exact absurd this (by simp [isTupP])
  exact PySem.W.sorted_vals hl.isList S hL (fin _ (by rw [PySem.W.sortVals_length false rfl]) (PySem.W.sortVals_data false e1 er' hal))
end
/-- the items of a list, sorted -/
noncomputable def sortD (ds : List D) (ps : List PyData) : List D := ((ds.zip ps).mergeSort fun a b => leP a.2 b.2).map (·.1)
noncomputable def fSorted (xs : List D) (h : AH) : Res (List D) := match xs with
  | [d] => match vL h d with
    | some ds => match toPs ds with
      | some ps => if sortB ps = true then .ok (sortD ds ps) h else .stuck
      | none => .stuck
    | none => .stuck
  | _ => .stuck
theorem ra_mem {K : PySem.W.Frag} {w : Wd} {T : List (V × D × PyData)} (h : ∀ t ∈ T, Rv K w t.1 t.2.1) : Ra K w (T.map (·.1)) (T.map (·.2.1)) := by
  induction T with
  | nil => exact .nil
  | cons t T ih => exact .cons (h t List.mem_cons_self) (ih fun x hx => h x (List.mem_cons_of_mem _ hx))
theorem trip {K : PySem.W.Frag} {w : Wd} {H : Hp} (ex : Ext w.S H) : ∀ {vs : List V} {ds : List D} {ps : List PyData}, Ra K w vs ds → toPs ds = some ps → ∃ T : List (V × D × PyData), vs = T.map (·.1) ∧ ds = T.map (·.2.1) ∧ ps = T.map (·.2.2) ∧ ∀ t ∈ T, Rv K w t.1 t.2.1 ∧ Dp K H t.1 t.2.2
  | _, _, ps, .nil, e => by
    cases e
    exact ⟨[], rfl, rfl, rfl, fun t h => nomatch h⟩
  | _, _, ps, .cons (v := v) (vs := vs) (d := d) (ds := ds) a b, e => by
    unfold toPs at e
    split at e
    · rename_i p qs e1 e2
      cases e
      obtain ⟨T, rfl, rfl, rfl, hT⟩ := trip ex b e2
      refine ⟨(v, d, p) :: T, rfl, rfl, rfl, fun t ht => ?_⟩
      rcases List.mem_cons.mp ht with rfl | ht
      · exact ⟨a, toP_rep ex d v p a e1⟩
      · exact hT t ht
    · cases e
section
variable {X : Cx} {W : WX} {pos p : Pos} {e : Expr} {es : List Expr} {as : MeL} {ma mb : Me}
theorem fol_sorted : FolF X W fSorted (rSortD X.K) := by
  intro w h H σ Q vs ds rh ra o
  unfold fSorted at o
  split at o
  · rename_i d
    obtain ⟨v, rfl, rv⟩ := ra_one ra
    split at o
    · rename_i es ev
      split at o
      · rename_i ps ep
        split at o
        · rename_i c
          obtain ⟨a, xs, rfl, sq, ra2⟩ := vL_rep rh rv ev
          obtain ⟨T, rfl, rfl, rfl, hT⟩ := trip rh.ex ra2 ep
          refine ⟨a, T.map fun t => (t.1, t.2.2), rfl, by rw [List.map_map]; exact sq, fun z hz => ?_, by rw [List.map_map]; exact c, fun l hl => ?_⟩
          · obtain ⟨t, ht, rfl⟩ := List.mem_map.mp hz
            exact (hT t ht).2
          · refine out_new o rh hl ?_
            have e1 : ((T.map fun t => (t.1, t.2.2)).mergeSort fun a b => leP a.2 b.2).map (·.1) = (T.mergeSort fun a b => leP a.2.2 b.2.2).map (·.1) := by
              rw [← List.map_mergeSort (r := fun a b => leP a.2.2 b.2.2) (f := fun t : V × D × PyData => (t.1, t.2.2)) (fun _ _ _ _ => rfl), List.map_map]
              rfl
            have e2 : sortD (T.map (·.2.1)) (T.map (·.2.2)) = (T.mergeSort fun a b => leP a.2.2 b.2.2).map (·.2.1) := by
              unfold sortD
              have ez : (T.map (·.2.1)).zip (T.map (·.2.2)) = T.map fun t => (t.2.1, t.2.2) := by
                rw [List.zip_map']
              rw [ez, ← List.map_mergeSort (r := fun a b => leP a.2.2 b.2.2) (f := fun t : V × D × PyData => (t.2.1, t.2.2)) (fun _ _ _ _ => rfl), List.map_map]
              rfl
            rw [e1, e2]
            refine ra_mem fun t ht => (hT t ?_).1
            exact (List.mergeSort_perm T _).mem_iff.mp ht
        · exact o.elim
      · exact o.elim
    · exact o.elim
  · exact o.elim
theorem f_sorted (hu : X.A.units + 67 < cLine) (hm : X.mg "sorted" = none) (ha : PA X [e] (TAr X W as)) (hg : Gl X "sorted" := by rfl) (he : starEach [e] X.env = (false, eval e X.env) :: starEach [] X.env := by rfl) : PE X (.Call (.Name "sorted" p) [e] [] pos) (TF X W (lN fSorted as)) :=
  f_blt (cr_sortedD hu) fol_sorted hm ha hg (by decide +kernel) (by decide) (by decide) he rfl
/-! ### < of data -/
noncomputable def lrD (h : AH) (x y : D) : Option (PyData × PyData) := match okP h x, okP h y with
  | some p, some q => if PySem.W.alike p q = true ∧ isNonP p = false then some (p, q) else none
  | _, _ => none
noncomputable def fLtD (x y : D) (h : AH) : Res D := match lrD h x y with
  | some (p, q) => .ok (.bl (PySem.W.dataLt p q)) h
  | none => .stuck
noncomputable def fGtD (x y : D) (h : AH) : Res D := match lrD h x y with
  | some (p, q) => .ok (.bl (PySem.W.dataLt q p)) h
  | none => .stuck
noncomputable def fLeD (x y : D) (h : AH) : Res D := match lrD h x y with
  | some (p, q) => .ok (.bl (!PySem.W.dataLt q p)) h
  | none => .stuck
noncomputable def fGeD (x y : D) (h : AH) : Res D := match lrD h x y with
  | some (p, q) => .ok (.bl (!PySem.W.dataLt p q)) h
  | none => .stuck
noncomputable def rLtD (K : PySem.W.Frag) (f : PyData → PyData → Bool) : R2 := fun x y H Q => ∃ d e, Dp K H x d ∧ Dp K H y e ∧ PySem.W.alike d e = true ∧ d ≠ .none ∧ d.depth ≤ 64 ∧ Q (.bl (f d e)) H
theorem room_min {A : Around} {d e : PyData} (h : d.depth ≤ 64) (hu : A.units + 65 < cLine) : A.units + min d.depth e.depth < cLine := by
  have := Nat.min_le_left d.depth e.depth
  omega
theorem op_ltD (hu : X.A.units + 65 < cLine) : OpR X (compareOp .Lt) (rLtD X.K fun d e => PySem.W.dataLt d e) := by
  intro pins s σ H x y v u Q I rx ry h
  obtain ⟨d, e, hd, he, ha, hn, hdep, q⟩ := h
  obtain ⟨as, r1⟩ := Dp.reads I d x v hd rx
  obtain ⟨bs, r2⟩ := Dp.reads I e y u he ry
  exact PySem.W.lt_data r1 r2 ha hn (room_min hdep hu) ⟨.bl _, H, I, rfl, q⟩
theorem op_gtD (hu : X.A.units + 65 < cLine) : OpR X (compareOp .Gt) (rLtD X.K fun d e => PySem.W.dataLt e d) := by
  intro pins s σ H x y v u Q I rx ry h
  obtain ⟨d, e, hd, he, ha, hn, hdep, q⟩ := h
  obtain ⟨as, r1⟩ := Dp.reads I d x v hd rx
  obtain ⟨bs, r2⟩ := Dp.reads I e y u he ry
  exact PySem.W.gt_data r1 r2 ha hn (room_min hdep hu) ⟨.bl _, H, I, rfl, q⟩
theorem op_leD (hu : X.A.units + 65 < cLine) : OpR X (compareOp .LtE) (rLtD X.K fun d e => !PySem.W.dataLt e d) := by
  intro pins s σ H x y v u Q I rx ry h
  obtain ⟨d, e, hd, he, ha, hn, hdep, q⟩ := h
  obtain ⟨as, r1⟩ := Dp.reads I d x v hd rx
  obtain ⟨bs, r2⟩ := Dp.reads I e y u he ry
  exact PySem.W.le_data r1 r2 ha hn (room_min hdep hu) ⟨.bl _, H, I, rfl, q⟩
theorem op_geD (hu : X.A.units + 65 < cLine) : OpR X (compareOp .GtE) (rLtD X.K fun d e => !PySem.W.dataLt d e) := by
  intro pins s σ H x y v u Q I rx ry h
  obtain ⟨d, e, hd, he, ha, hn, hdep, q⟩ := h
  obtain ⟨as, r1⟩ := Dp.reads I d x v hd rx
  obtain ⟨bs, r2⟩ := Dp.reads I e y u he ry
  exact PySem.W.ge_data r1 r2 ha hn (room_min hdep hu) ⟨.bl _, H, I, rfl, q⟩
theorem fol_ltD {f : PyData → PyData → Bool} {g : D → D → AH → Res D} (hg : ∀ x y h, g x y h = match lrD h x y with
  | some (p, q) => .ok (.bl (f p q)) h
  | none => .stuck) : Fol2 X W g (rLtD X.K f) := by
  intro w h H σ Q v1 v2 d1 d2 rh r1 r2 o
  rw [hg] at o
  split at o
  · rename_i p q e
    unfold lrD at e
    split at e
    · rename_i p' q' e1 e2
      split at e
      · rename_i c
        cases e
        obtain ⟨a1, a2⟩ := okP_some e1
        obtain ⟨b1, b2⟩ := okP_some e2
        exact ⟨_, _, toPh_rep rh r1 a1, toPh_rep rh r2 b1, c.1, fun z => by rw [z] at c; exact absurd c.2 (by decide), SeqAt.depth_of_shaped a2, out_ok o rh (.bl _)⟩
      · cases e
    · cases e
  · exact o.elim
end
end AB
/-! AB: enumerate of lists and tuples. -/
namespace AB
open PySem PySem.Spec PyProof.Rows L2
open Sem (wp)

set_option maxHeartbeats 4000000 in
theorem meets_enumerate_new1 {v : Value} {o : Obj} {H : Heap → Prop} (B : Begins v o H) :
    Meets (Builtin.«enumerate.__new__» ⟨[.type "enumerate", v], []⟩) (fun _ R s => H s.heap ∧
      R (.ok (.ret (.ref (s.heap.push o).objs.size))) { s with heap := (s.heap.push o).push { cls := .type "enumerate", data := .fields #[.none, .bool false, .ref s.heap.objs.size, rawInt 0, .none, .none] } }) :=
  .of_wp fun prog w A R s h => by
    obtain ⟨hp, g, d, tk, os⟩ := s; obtain ⟨h1, h⟩ := h
    have hsub := sub_enumerate
    have q1 : ∀ {A' : Around} {E : Value → Shared → Prop} {Q : Value → Shared → Prop}, Q (.ref hp.objs.size) ⟨hp.push o, g, d, tk, os⟩ → wpAny (model prog w) A' (pyIter v) Q E ⟨hp, g, d, tk, os⟩ :=
      fun q => B.iter prog w _ _ ⟨hp, g, d, tk, os⟩ _ h1 q
    wp_walk using q1
    refine wpAny_stack_any fun st => wpAny_pure ?_
    split
    · rename_i c _ _ _ _ _
      cases (c == Value.type "enumerate")
      · wp_walk using q1
        exact ⟨_, rfl, h⟩
      · wp_walk using q1
        exact ⟨_, rfl, h⟩
    · wp_walk using q1
      exact ⟨_, rfl, h⟩
section
variable {prog : Program} {w : World} {A : Around} {E : Value → Shared → Prop} {s : Shared}
theorem enum_begins1 {v : Value} {o : Obj} {H : Heap → Prop} {Q : Value → Shared → Prop} (B : Begins v o H) (h1 : H s.heap)
    (h : ∀ h', IsEnum h' (s.heap.objs.size + 1) s.heap.objs.size 0 .none → h'.get? s.heap.objs.size = some o → h'.objs.size = s.heap.objs.size + 2 →
      (∀ b o, s.heap.get? b = some o → h'.get? b = some o) → Q (.ref (s.heap.objs.size + 1)) { s with heap := h' }) :
    wpAny (model prog w) A (call (.type "enumerate") [v]) Q E s := by
  refine callType_new F.called_enumerate (by decide) (F.typeCall_enumerate_1 _) (F.newCall_enumerate_1 _) (fun obj => F.args_object_init_2 obj _) F.entry_enumerate_new
    (meets_enumerate_new1 B) ⟨h1, ?_⟩
  have hz : (s.heap.push o).objs.size = s.heap.objs.size + 1 := Heap.size_push ..
  show _ ∧ _
  rw [hz]
  have he : IsEnum ((s.heap.push o).push { cls := .type "enumerate", data := .fields #[.none, .bool false, .ref s.heap.objs.size, rawInt 0, .none, .none] }) (s.heap.objs.size + 1) s.heap.objs.size 0 .none := by
    have := Heap.get?_push_size (s.heap.push o) (o := { cls := .type "enumerate", data := .fields #[.none, .bool false, .ref s.heap.objs.size, rawInt 0, .none, .none] }) rfl
    rw [hz] at this; exact this
  refine ⟨⟨_, he, rfl⟩, h _ he (Heap.get?_push_of_some _ (Heap.get?_push_size _ B.free)) (by rw [Heap.size_push, hz]) fun b o x => Heap.get?_push_of_some _ (Heap.get?_push_of_some _ x)⟩
end

/-- the tuple at a as it stands at each turn, each item in a new pair -/
noncomputable def IteT (K : PySem.W.Frag) (a : Addr) : It :=
  ⟨fun i H => ∃ (xs : List V) (x : V), SqT K H a xs ∧ xs[i]? = some x, fun i H v H' => ∃ T x, v = .ref T ∧ H T = none ∧ H' = upd H T (.tup [.int (i : Nat), x]) ∧ ∀ xs, SqT K H a xs → xs[i]? = some x, fun i H => ∃ xs : List V, SqT K H a xs ∧ xs.length ≤ i⟩
theorem turn_enumT {P : Program} {w : World} {K : PySem.W.Frag} {elts : List Expr} {kk : Nat} {tpos : Pos} (a e it : Addr) :
    Turn P w K (.Tuple elts kk tpos) (IteT K a) [e, it] e (fun i h => (∃ old, IsEnum h e it ((i : Nat) : Int) old) ∧ h.IsTupleIter it a i ∧ e ≠ it ∧ a ≠ it ∧ a ≠ e) where
  mem := by simp
  obj := fun i h st b hb => by
    obtain ⟨⟨old, he⟩, ⟨o, ho, hc, hd⟩, _⟩ := st
    have e' : b = e ∨ b = it := by simpa using hb
    rcases e' with z | z
    · rw [z]; exact ⟨_, he, fun v q => nomatch q⟩
    · rw [z]; exact ⟨o, ho, fun v q => by rw [hd] at q; cases q⟩
  keep := fun i h h' st k => let ⟨⟨old, he⟩, hi, hne⟩ := st; ⟨⟨old, k e (by simp) _ he⟩, hi.at fun o q => k it (by simp) o q, hne⟩
  item := by
    intro X hP hw hK hc i pins s σ H E I hf st hg
    subst hP hw hK
    obtain ⟨⟨old, he⟩, hit, hne, hai, hae⟩ := st
    obtain ⟨xs, x, hq, hx⟩ := hg
    obtain ⟨its, rv, p, hz⟩ := I.tuple hq
    obtain ⟨u, hu, ru⟩ := rv.get hx
    have hel : e < s.heap.objs.size := Heap.lt_size he
    have hil : it < s.heap.objs.size := by obtain ⟨_, q, _⟩ := hit; exact Heap.lt_size q
    have hlt : i < its.toArray.size := by
      rw [List.size_toArray]
      exact (List.getElem?_eq_some_iff.mp hu).1
    refine wpAny_pyNext_enum_itemD (Draws.tuple (A := X.A.in1) (I.ok.hd hc) it a hai its.toArray) he ⟨hit, p⟩ hlt hne (by simp [hne, Ne.symm hae]) fun y h' tk hy ho hst hT hsz hk => ?_
    have ey : y = u := by
      have hy : its.toArray[i]? = some y := hy
      have hu' : its.toArray[i]? = some u := by simpa using hu
      rw [hu'] at hy
      exact (Option.some.inj hy).symm
    subst ey
    refine ⟨_, rfl, wpAny_letOwnedTupleGo_enum (s := { s with heap := h', toks := tk + 1 }) ho fun h'' he' sb => ?_⟩
    have hT2 : h''.get? s.heap.objs.size = some { cls := .type "tuple", data := .seq #[.int i tk, y] } := (sb.2 _ (Nat.ne_of_gt hel)).trans hT
    have new : ObjOk X.prog X.w (upd H s.heap.objs.size (.tup [.int (i : Nat), x])) h'' s.heap.objs.size (.tup [.int (i : Nat), x]) :=
      ⟨by show 2 ≤ sizeLine; decide, [.int i tk, y], .cons ⟨_, rfl⟩ (.cons ru .nil), ⟨_, hT2, rfl, _, rfl⟩⟩
    have I1 : Inv X pins σ (upd H s.heap.objs.size (.tup [.int (i : Nat), x])) { s with heap := h'', toks := tk + 1 } :=
      I.turnedNew (ch := [e, it]) (fun b ob hb q => (sb.2 b (fun z => hb (by simp [z]))).trans (hk b ob (fun z => hb (by simp [z])) (fun z => hb (by simp [z])) q)) hf (Nat.le_refl _) new
    refine ⟨.ref s.heap.objs.size, _, I1, rfl, ⟨_, x, rfl, I.hok.fresh (Nat.le_refl _), rfl, fun ys hy => by rw [I.tuple_inj hy hq]; exact hx⟩, ⟨⟨y, ?_⟩, hst.1.at fun o q => (sb.2 it (Ne.symm hne)).trans q, hne, hai, hae⟩, fun b hb => ?_⟩
    · have e1 : ((i + 1 : Nat) : Int) = (i : Int) + 1 := by omega
      rw [e1]; exact he'
    · have hb' : b < s.heap.objs.size := by
        have e' : b = e ∨ b = it := by simpa using hb
        rcases e' with z | z
        · rw [z]; exact hel
        · rw [z]; exact hil
      rw [upd_ne (Nat.ne_of_lt hb')]
      exact (hf b hb).1
  done := by
    intro X hP hw hK hc i pins s σ H E I hf st hg
    subst hP hw hK
    obtain ⟨⟨old, he⟩, hit, hne, hai, hae⟩ := st
    obtain ⟨xs, hq, hx⟩ := hg
    obtain ⟨its, rv, p, hz⟩ := I.tuple hq
    obtain ⟨f0, f1, f2, f3, f4, f5⟩ := hf it (by simp)
    have hl := rv.length
    have hsize : its.toArray.size ≤ i := by rw [List.size_toArray]; omega
    obtain ⟨T, hT⟩ : ∃ T : Array Value, T.size = i ∧ True := ⟨Array.replicate i .none, by simp, trivial⟩
    unfold pyNext
    have hTy : s.TypeIs (.ref e) "enumerate" := ⟨_, he, rfl⟩
    refine wpAny_bind (wpAny_attempt (wpAny_callSpecial?_slot (name := Str.ofString "__next__") hTy F.slot_enumerate_next
      (wpAny_call_entry F.slot_enumerate_next hTy F.entry_enumerate_next ?_ (F.args_enumerate_next_1 _))))
    show wpAny _ _ (field (.ref e) 2 >>= _) _ _ _
    refine wpAny_bind (wpAny_field he rfl (x := .ref it) rfl ?_)
    refine wpAny_bind (wpAny_nextOf_tuple_end (A := X.A.in1) (I.ok.hd hc) hit p (by simpa using hsize) fun h' x he' hx' => ?_)
    obtain ⟨o, ho, hc'⟩ := hx'
    refine wpAny_bind (wpAny_isInstance (T := "StopIteration") (b := true) ⟨o, ho, hc'⟩ isSubtype_stop ?_)
    exact wpAny_pure ⟨rfl, I.turned (t' := s.toks) (fun b o hb q => he' b o hb q) f0 f1 f3 f4 f5⟩
  self := fun A i s Q E st h => let ⟨⟨_, he⟩, _⟩ := st; wpAny_pyIter_enum he h
noncomputable def iEnumA (K : PySem.W.Frag) (ta : TA) : TI := fun σ H R => ta σ H fun vs H1 => ∃ a xs, vs = [.ref a] ∧ ((SqL K H1 a xs ∧ R (Ite K a) H1) ∨ (SqT K H1 a xs ∧ R (IteT K a) H1))
theorem pi_enumA {X : Cx} {e : Expr} {ta : TA} {p pos tpos : Pos} {elts : List Expr} {kk : Nat} (hg : Gl X "enumerate") (hm : X.mg "enumerate" = none) (ha : PA X [e] ta) (hs : starEach [e] X.env = [(false, eval e X.env)] := by rfl) :
    PI X (.Tuple elts kk tpos) (.Call (.Name "enumerate" p) [e] [] pos) (iEnumA X.K ta) := by
  refine ⟨fun pins s σ H R I h => ?_⟩
  refine Call_ (ld_blt I hg hm boot_enumerate (PyProof.Rows.callWith_type1 (thn (ha.run pos pins s σ H _ I h) fun us s1 ⟨vs, H1, I1, r1, q1⟩ => ?_) hs rfl))
  obtain ⟨a, xs, ex, q1⟩ := q1
  subst ex
  cases r1 with
  | cons r rr =>
    cases rr
    cases r
    have fresh2 : ∀ b, b ∈ [s1.heap.objs.size + 1, s1.heap.objs.size] → FpOk X pins H1 b := fun b hb => by
      have e' : b = s1.heap.objs.size + 1 ∨ b = s1.heap.objs.size := by simpa using hb
      have hle : s1.heap.objs.size ≤ b := by
        rcases e' with z | z
        · rw [z]; exact Nat.le_add_right _ _
        · rw [z]; exact Nat.le_refl _
      exact I1.fpOk hle (I1.hok.fresh hle)
    rcases q1 with ⟨hq, q⟩ | ⟨hq, q⟩
    · obtain ⟨its, rv, p', hz⟩ := I1.list hq
      refine call_enumerate_list p'.isList fun h' he hit hsz hk => wpAny_pyIter_enum he ?_
      have I2 : Inv X pins σ H1 { s1 with heap := h' } := I1.kept (t' := s1.toks) hk
      exact ⟨s1.heap.objs.size + 1, [s1.heap.objs.size + 1, s1.heap.objs.size], _, _, H1, rfl, I2, turn_enum a (s1.heap.objs.size + 1) s1.heap.objs.size, ⟨⟨.none, he⟩, hit, Nat.succ_ne_self _⟩, fresh2, q⟩
    · obtain ⟨its, rv, p', hz⟩ := I1.tuple hq
      have hal : a < s1.heap.objs.size := by
        obtain ⟨o, ho, _⟩ := p'
        exact Heap.lt_size ho
      refine enum_begins1 (begins_tuple a its.toArray) p' fun h' he hit hsz hk => wpAny_pyIter_enum he ?_
      have I2 : Inv X pins σ H1 { s1 with heap := h' } := I1.kept (t' := s1.toks) hk
      exact ⟨s1.heap.objs.size + 1, [s1.heap.objs.size + 1, s1.heap.objs.size], _, _, H1, rfl, I2, turn_enumT a (s1.heap.objs.size + 1) s1.heap.objs.size, ⟨⟨.none, he⟩, ⟨_, hit, rfl, rfl⟩, Nat.succ_ne_self _, Nat.ne_of_lt hal, Nat.ne_of_lt (Nat.lt_succ_of_lt hal)⟩, fresh2, q⟩
end AB
/-! AB: walks of pairs, ranges down, extend. -/
namespace AB
open PySem PySem.Spec PyProof.Rows L2

section
variable {X : Cx} {W : WX} {tg e e2 a b c : Expr} {as : MeL} {p pos tpos : Pos} {elts : List Expr} {kk : Nat} {K : PySem.W.Frag}
noncomputable def pairsD (as bs : List D) : List D := (as.zip bs).map fun p => D.tup [p.1, p.2]
noncomputable def enumD (ds : List D) : List D := pairsD (rangeD 0 ds.length) ds
/-- lists that are not changed -/
noncomputable def vI : D → Option (List D)
  | .lst ds => some ds
  | .rol ds => some ds
  | _ => none
theorem vI_rep {w : Wd} {v : V} {d : D} {ds : List D} (rv : Rv K w v d) (e : vI d = some ds) : ∃ a xs, v = .ref a ∧ SqL K w.S a xs ∧ Ra K w xs ds := by
  cases rv with
  | lst a b => cases e; exact ⟨_, _, rfl, .inl a, b⟩
  | rol a b => cases e; exact ⟨_, _, rfl, a, b⟩
  | _ => cases e
noncomputable def iZip (as : MeL) : Im := fun G h => (as G h).bind fun xs h1 => match xs with
  | [.tup ds, .tup es] => .ok (pairsD ds es, none) h1
  | [d, e] => match vI d, vI e with
    | some ds, some es => .ok (pairsD ds es, none) h1
    | _, _ => .stuck
  | _ => .stuck
theorem walk_zipT {a b : Addr} {xs ys : List V} : Walk (RZ.ItzT K a b) (min xs.length ys.length) (fun H => SqT K H a xs ∧ SqT K H b ys) (YPair (fun i => xs[i]?) (fun i => ys[i]?)) := by
  refine ⟨fun i _ hi q => ?_, fun _ q => ⟨xs, ys, q.1, q.2, by omega⟩, fun i H v H' _ q y => ?_⟩
  · have h1 : i < xs.length := by omega
    have h2 : i < ys.length := by omega
    exact ⟨xs, ys, xs[i], ys[i], q.1, q.2, by simp [h1], by simp [h2]⟩
  · obtain ⟨T, x, z, h1, h2, h3, h4, h5⟩ := y
    exact ⟨T, x, z, h1, h2, h3, h4 xs q.1, h5 ys q.2⟩
theorem i_zip (hm : X.mg "zip" = none) (ha : PA X [e, e2] (TAr X W as)) (hg : Gl X "zip" := by rfl)
    (hs : starEach [e, e2] X.env = (false, eval e X.env) :: starEach [e2] X.env := by rfl) (hpl : (backTo pos (starEach [e2] X.env)).any (·.1) = false := by rfl) :
    PI X (.Tuple elts kk tpos) (.Call (.Name "zip" p) [e, e2] [] pos) (tI X W (iZip as)) := by
  refine (RZ.pi_zipA hg hm ha hs hpl).wk fun σ H R ⟨w, G, h, g, r, o⟩ => ⟨w, G, h, g, r, OutI.bindA (as := as) o fun d h2 v w1 H1 em l r1 x o1 => ?_⟩
  split at o1
  · rename_i ds es
    obtain ⟨v, v2, rfl, rv, rv2⟩ := ra_two x
    cases rv with
    | @tup p1 xs _ a1 b1 =>
      cases rv2 with
      | @tup p2 ys _ a2 b2 =>
        exact ⟨p1, p2, xs, ys, rfl, .inr ⟨r1.ex.t a1, r1.ex.t a2, o1 _ w1 H1 (Le.refl _) r1 (Walks.zip b1 b2 fun w' H' h' l r => ⟨_, ⟨r.ex.t (l.ex.t a1), r.ex.t (l.ex.t a2)⟩, walk_zipT⟩)⟩⟩
  · split at o1
    · rename_i ds es e1 e2
      obtain ⟨v, v2, rfl, rv, rv2⟩ := ra_two x
      obtain ⟨p1, xs, rfl, a1, b1⟩ := vI_rep rv e1
      obtain ⟨p2, ys, rfl, a2, b2⟩ := vI_rep rv2 e2
      exact ⟨p1, p2, xs, ys, rfl, .inl ⟨r1.ex.l a1, r1.ex.l a2, o1 _ w1 H1 (Le.refl _) r1 (Walks.zip b1 b2 fun w' H' h' l r => ⟨_, ⟨r.ex.l (l.ex.l a1), r.ex.l (l.ex.l a2)⟩, walk_zip rfl⟩)⟩⟩
    · exact o1.elim
  · exact o1.elim
/-! enumerate -/
noncomputable def iEnum (as : MeL) : Im := fun G h => (as G h).bind fun xs h1 => match xs with
  | [.tup ds] => .ok (enumD ds, none) h1
  | [d] => match vI d with
    | some ds => .ok (enumD ds, none) h1
    | none => .stuck
  | _ => .stuck
theorem walk_enumT {a : Addr} {xs : List V} : Walk (IteT K a) xs.length (fun H => SqT K H a xs) (YPair (fun i => some (.int (i : Nat))) (fun i => xs[i]?)) := by
  refine ⟨fun i _ hi q => ⟨xs, xs[i], q, by simp [hi]⟩, fun _ q => ⟨xs, q, Nat.le_refl _⟩, fun i H v H' _ q y => ?_⟩
  obtain ⟨T, x, h1, h2, h3, h4⟩ := y
  exact ⟨T, .int (i : Nat), x, h1, h2, h3, rfl, h4 xs q⟩
/-- the numbers of a range as values -/
noncomputable def rangeV (n : Nat) : List V := (List.range n).map fun i : Nat => V.int (i : Int)
theorem rangeV_rep {w : Wd} : ∀ (ns : List Nat), Ra K w (ns.map fun i : Nat => V.int (i : Int)) (ns.map fun i : Nat => D.int (0 + (i : Int)))
  | [] => .nil
  | n :: ns => .cons (by show RepV K w.S w.mu w.N (V.int (n : Int)) (D.int (0 + (n : Int))); rw [Int.zero_add]; exact .int _) (rangeV_rep ns)
theorem rangeV_get {n i : Nat} (h : i < n) : (rangeV n)[i]? = some (V.int (i : Int)) := by
  unfold rangeV
  rw [List.getElem?_map, List.getElem?_range h]
  rfl
theorem Walks.enum {w : Wd} {J : It} {ds : List D} {xs : List V} (h1 : Ra K w xs ds)
    (hw : ∀ w' H' h', LeX w w' → RepH K w' H' h' → ∃ G : Hp → Prop, G H' ∧ Walk J xs.length G (YPair (fun i => some (.int (i : Nat))) (fun i => xs[i]?))) : Walks K J w (enumD ds) none := by
  have l1 := h1.length
  have hl : (rangeV ds.length).length = xs.length := by unfold rangeV; simp [l1]
  refine Walks.zip (rangeV_rep (List.range ds.length)) h1 fun w' H' h' l r => ?_
  obtain ⟨G, g, wk⟩ := hw w' H' h' l r
  refine ⟨G, g, ?_⟩
  have e : min (List.map (fun i : Nat => V.int (i : Int)) (List.range ds.length)).length xs.length = xs.length := by
    simp [l1]
  rw [e]
  refine wk.mono (fun _ q => q) fun i H x H' hi _ y => ?_
  obtain ⟨T, x, z, q1, q2, q3, q4, q5⟩ := y
  refine ⟨T, x, z, q1, q2, q3, ?_, q5⟩
  have q4 : some (V.int (i : Int)) = some x := q4
  rw [← q4]
  exact rangeV_get (by omega)
theorem i_enum (hm : X.mg "enumerate" = none) (ha : PA X [e] (TAr X W as)) (hg : Gl X "enumerate" := by rfl)
    (hs : starEach [e] X.env = [(false, eval e X.env)] := by rfl) :
    PI X (.Tuple elts kk tpos) (.Call (.Name "enumerate" p) [e] [] pos) (tI X W (iEnum as)) := by
  refine (pi_enumA hg hm ha hs).wk fun σ H R ⟨w, G, h, g, r, o⟩ => ⟨w, G, h, g, r, OutI.bindA (as := as) o fun d h2 v w1 H1 em l r1 x o1 => ?_⟩
  split at o1
  · obtain ⟨v, rfl, rv⟩ := ra_one x
    cases rv with
    | @tup p1 xs _ a1 b1 =>
      exact ⟨p1, xs, rfl, .inr ⟨r1.ex.t a1, o1 _ w1 H1 (Le.refl _) r1 (Walks.enum b1 fun w' H' h' l r => ⟨_, r.ex.t (l.ex.t a1), walk_enumT⟩)⟩⟩
  · split at o1
    · rename_i ds e1
      obtain ⟨v, rfl, rv⟩ := ra_one x
      obtain ⟨p1, xs, rfl, a1, b1⟩ := vI_rep rv e1
      exact ⟨p1, xs, rfl, .inl ⟨r1.ex.l a1, o1 _ w1 H1 (Le.refl _) r1 (Walks.enum b1 fun w' H' h' l r => ⟨_, r.ex.l (l.ex.l a1), walk_enum⟩)⟩⟩
    · exact o1.elim
  · exact o1.elim
/-! range(i, j, -1) -/
noncomputable def downD (lo : Int) (n : Nat) : List D := (List.range n).map fun i : Nat => D.int (lo + (i : Int) * (-1))
noncomputable def iDown (as : MeL) : Im := fun G h => (as G h).bind fun xs h1 => match xs with
  | [.int i, .int j, .int k] => if k = -1 ∧ okR2 i j then .ok (downD i (i - j).toNat, none) h1 else .stuck
  | _ => .stuck
/-! l.extend(xs), xs a list -/
variable {o : Expr} {ma : Me} {apos cpos : Pos}
theorem mt_extendR : MtM X "list.extend" rExt3 := by
  intro pins s σ H x vs v us Q I rx rv h
  obtain ⟨l, b, xs, zs, rfl, rfl, hH, hB, hz, q⟩ := h
  cases rx
  obtain ⟨u, rfl, ru⟩ := rv.one
  cases ru
  obtain ⟨z, its, n, r, hl, e⟩ := I.lstM hH
  obtain ⟨z2, its2, n2, r2, e2⟩ := hB.ok I.hok
  have hl2 := r2.length
  have hsz : its.toArray.size + its2.toArray.size ≤ sizeLine := by rw [List.size_toArray, List.size_toArray]; omega
  have hlong : ¬ (!its.toArray.isEmpty && Builtin.List.listTooLong (its.toArray.size + its2.toArray.size)) = true := by
    rw [notLongL hsz, Bool.and_false]
    exact Bool.false_ne_true
  refine call_meets F.slot_list_extend ⟨_, e, rfl⟩ F.entry_list_extend (F.args_list_extend_2 _ _)
    (AutoSeq1.list_extend_list_list_0 l its.toArray n b its2.toArray n2 hlong (by rw [List.size_toArray]; omega) (by omega)) ⟨e, e2, ?_⟩
  refine ⟨.non, _, I.lset (its' := its ++ its2) hH e (by simp) (r.append r2) ?_, rfl, q⟩
  rw [List.length_append]
  omega
theorem fol_ext : FolM X W fExt rExt3 := by
  intro w h H σ Q v d vs ds rh rv ra o
  unfold fExt at o
  split at o
  · rename_i n y
    split at o
    · rename_i es e
      split at o
      · rename_i fs e3
        split at o
        · rename_i c
          cases rv with
          | loc hn =>
            obtain ⟨u, rfl, ru⟩ := ra_one ra
            obtain ⟨_, xs, e1, rx⟩ := rh.cell n _ e
            obtain ⟨b, zs, rfl, hB, rz⟩ := vR_rep rh ru e3
            exact ⟨w.mu n, b, xs, zs, rfl, rfl, e1, hB, big_le (by rw [rx.length, rz.length]; exact c), out_set hn o rh .non (rx.append rz)⟩
        · exact o.elim
      · exact o.elim
    · exact o.elim
  · exact o.elim
theorem e_ext (ho : PE X o (TM X W ma)) (ha : PA X [e] (TAr X W as))
    (hbase : attributeBase o "extend" X.env (eval o X.env) = eval o X.env := by rfl)
    (hfew : ((backTo cpos (starEach [e] X.env)).all (fun x => !x.1) && (backToKw cpos (keywordEach [] X.env)).all (fun x => x.1.isSome)
      && decide (([e] : List Expr).length + ([] : List Keyword).length + (if ([] : List Keyword).isEmpty then 0 else 1) < 30)) = true := by rfl)
    (hline : (apos.endLine == cpos.line) = true := by rfl) (hs : starEach [e] X.env = (false, eval e X.env) :: starEach [] X.env := by rfl) (hplain : (backTo cpos (starEach [] X.env)).any (·.1) = false := by rfl) :
    PE X (.Call (.Attribute o "extend" apos) [e] [] cpos) (TM X W (mBM fExt ma as)) :=
  e_bm PySem.F.slot_list_extend PySem.F.type_list_extend mt_extendR fol_ext ho ha hbase hfew hline hs hplain
end
end AB
/-! AB: what the printed texts use. -/
namespace AB
open PySem PySem.Spec PyProof.Rows L2

/-- the def x keeps its mirror's promise -/
structure Has (P : Program) (w : World) (K : PySem.W.Frag) (mg : Str → Option Value) (base : Heap) (x : Str) (k : Nat) (ps : List Str) (sp : Sp) : Prop where
  ex : ∃ f fd, mg x = some (.ref f) ∧ PySem.W.keepIn K (.ref f) = true ∧ Binds K fd ps [] ∧ FnOk P w K mg base (L2.CX P w) k f fd ps sp
theorem hu65 {k : Nat} {A : Around} (hr : Room k A) : A.units + 65 < cLine := by
  have := hr.un
  omega
theorem hu64 {k : Nat} {A : Around} (hr : Room k A) : A.units + 64 < cLine := by
  have := hr.un
  omega
theorem hu67 {k : Nat} {A : Around} (hr : Room k A) : A.units + 67 < cLine := by
  have := hr.un
  omega
section
variable {X : Cx} {W : WX} {pos p : Pos} {e : Expr} {es : List Expr} {as : MeL} {x : Str} {k k' : Nat} {ps : List Str} {m : Fn} {ml : FnL}
theorem e_callH (F : Has X.prog X.w X.K X.mg X.base x k ps (spM X.K X.mg m)) (hr : Room k' X.A) (tk : Takes X W)
    (ha : PA X (e :: es) (TAr X W as)) (hk' : k ≤ k' := by first | decide | omega) (hg : Gl X x := by rfl) (hdb : (x == ("__debug__" : Str)) = false := by decide) (he : starEach (e :: es) X.env = (false, eval e X.env) :: starEach es X.env := by rfl) (hpl : (backTo pos (starEach es X.env)).any (·.1) = false := by rfl) :
    PE X (.Call (.Name x p) (e :: es) [] pos) (TM X W (mN m as)) := by
  obtain ⟨f, fd, h1, h2, h3, h4⟩ := F.ex
  exact e_call h4 hr hk' tk h1 h2 h3 ha hg hdb he hpl
theorem f_callH (F : Has X.prog X.w X.K X.mg X.base x k ps (spL X.K X.mg ml)) (hr : Room k' X.A) (tk : Takes X W)
    (ha : PA X (e :: es) (TAr X W as)) (hk' : k ≤ k' := by first | decide | omega) (hg : Gl X x := by rfl) (hdb : (x == ("__debug__" : Str)) = false := by decide) (he : starEach (e :: es) X.env = (false, eval e X.env) :: starEach es X.env := by rfl) (hpl : (backTo pos (starEach es X.env)).any (·.1) = false := by rfl) :
    PE X (.Call (.Name x p) (e :: es) [] pos) (TF X W (lN ml as)) := by
  obtain ⟨f, fd, h1, h2, h3, h4⟩ := F.ex
  exact f_call h4 hr hk' tk h1 h2 h3 ha hg hdb he hpl
theorem e_globI {i : Int} (hm : ∃ t : Tok, X.mg x = some (.int i t)) (hg : Gl X x := by rfl) (hd : (x == ("__debug__" : Str)) = false := by decide) : PE X (.Name x pos) (TM X W (mC (.int i))) := by
  obtain ⟨t, hm⟩ := hm
  exact e_glob (v := .int i) hm ⟨t, rfl⟩ (fun _ => .int i) hg hd
/-! < of ints, else of data -/
noncomputable def isII (x y : D) : Option (Int × Int) := match x, y with
  | .int i, .int j => some (i, j)
  | _, _ => none
noncomputable def oII (f : Int → Int → Bool) (g : D → D → AH → Res D) (x y : D) (h : AH) : Res D := match isII x y with
  | some (i, j) => .ok (.bl (f i j)) h
  | none => g x y h
noncomputable def cLt : D → D → AH → Res D := oII (fun i j => decide (i < j)) fLtD
noncomputable def cLe : D → D → AH → Res D := oII (fun i j => decide (i ≤ j)) fLeD
noncomputable def cGt : D → D → AH → Res D := oII (fun i j => decide (j < i)) fGtD
noncomputable def cGe : D → D → AH → Res D := oII (fun i j => decide (j ≤ i)) fGeD
noncomputable def rII (K : PySem.W.Frag) (f : Int → Int → Bool) (g : PyData → PyData → Bool) : R2 := fun x y H Q => rI0 (fun i j => .bl (f i j)) x y H Q ∨ rLtD K g x y H Q
theorem fol_ii {f : Int → Int → Bool} {g : PyData → PyData → Bool} {gg : D → D → AH → Res D} (hg : Fol2 X W gg (rLtD X.K g)) : Fol2 X W (oII f gg) (rII X.K f g) := by
  intro w h H σ Q v1 v2 d1 d2 rh r1 r2 o
  unfold oII at o
  split at o
  · rename_i i j e
    have : d1 = .int i ∧ d2 = .int j := by
      cases d1 <;> cases d2 <;> first | (cases e; exact ⟨rfl, rfl⟩) | cases e
    obtain ⟨rfl, rfl⟩ := this
    cases r1
    cases r2
    exact .inl ⟨i, j, rfl, rfl, out_ok o rh (.bl _)⟩
  · exact .inr (hg w h H σ Q v1 v2 d1 d2 rh r1 r2 o)
theorem op_cLt (hu : X.A.units + 65 < cLine) : OpR X (compareOp .Lt) (rII X.K (fun i j => decide (i < j)) fun d e => PySem.W.dataLt d e) := OpR.or op_lt (op_ltD hu)
theorem op_cLe (hu : X.A.units + 65 < cLine) : OpR X (compareOp .LtE) (rII X.K (fun i j => decide (i ≤ j)) fun d e => !PySem.W.dataLt e d) := OpR.or op_le (op_leD hu)
theorem op_cGt (hu : X.A.units + 65 < cLine) : OpR X (compareOp .Gt) (rII X.K (fun i j => decide (j < i)) fun d e => PySem.W.dataLt e d) := OpR.or op_gt (op_gtD hu)
theorem op_cGe (hu : X.A.units + 65 < cLine) : OpR X (compareOp .GtE) (rII X.K (fun i j => decide (j ≤ i)) fun d e => !PySem.W.dataLt d e) := OpR.or op_ge (op_geD hu)
theorem fol_cLt : Fol2 X W cLt (rII X.K (fun i j => decide (i < j)) fun d e => PySem.W.dataLt d e) := fol_ii (fol_ltD fun _ _ _ => rfl)
theorem fol_cLe : Fol2 X W cLe (rII X.K (fun i j => decide (i ≤ j)) fun d e => !PySem.W.dataLt e d) := fol_ii (fol_ltD (f := fun d e => !PySem.W.dataLt e d) fun _ _ _ => rfl)
theorem fol_cGt : Fol2 X W cGt (rII X.K (fun i j => decide (j < i)) fun d e => PySem.W.dataLt e d) := fol_ii (fol_ltD (f := fun d e => PySem.W.dataLt e d) fun _ _ _ => rfl)
theorem fol_cGe : Fol2 X W cGe (rII X.K (fun i j => decide (j ≤ i)) fun d e => !PySem.W.dataLt d e) := fol_ii (fol_ltD (f := fun d e => !PySem.W.dataLt d e) fun _ _ _ => rfl)
end
section
variable {X : Cx} {x : Str} {pos : Pos} {i kk : Nat} {e : Expr} {es : List Expr} {p : Pat} {ps : List Pat}
theorem pg_nmP (hN : X.N.Nodup) (hi : X.N[i]? = some x) (hx : Loc X.env.scope x := by first | exact Or.inl rfl | exact Or.inr rfl) (hf : X.fn x = true ∨ X.env.scope.names.lookup x = some .local := by first | exact .inl rfl | exact .inr rfl) : PG X (.Name x pos) (gP X.K (.nm i)) := by
  unfold gP
  exact pg_name hN hi hx hf
theorem pgs_nilP : PGs X [] (gPs X.K []) := by
  unfold gPs
  exact pgs_nil
theorem pgs_consP (h1 : PG X e (gP X.K p)) (h2 : PGs X es (gPs X.K ps)) (hs : (assignEach (e :: es) X.env).map (·.2) = assign e X.env :: (assignEach es X.env).map (·.2) := by rfl) : PGs X (e :: es) (gPs X.K (p :: ps)) := by
  unfold gPs
  exact pgs_cons h1 h2 hs
theorem pg_tpP (hc : X.calm = true) (h : PGs X es (gPs X.K ps)) (hn : (assignEach es X.env).length = ps.length := by rfl) (hst : (assignEach es X.env).findIdx? (·.1) = none := by rfl) : PG X (.Tuple es kk pos) (gP X.K (.tp ps)) := by
  unfold gP
  exact pg_tup hc h hn hst
end
theorem p_yes {X : Cx} {W : WX} : PTs X [] (TTT X W tYesM) := ⟨fun pins s σ H Q I ⟨w, G, h, g, r, o⟩ => pts_nil.run pins s σ H Q I (o w H (Le.refl _) r)⟩
theorem ints_rep {K : PySem.W.Frag} {w : Wd} : ∀ (ns : List Int), Ra K w (ns.map V.int) (ns.map D.int)
  | [] => .nil
  | n :: ns => .cons (.int n) (ints_rep ns)
/-- the end: the mirror of law, from the script -/
noncomputable def spLaw (K : PySem.W.Frag) : Sp := fun vs H Q _ => ∃ (a : Addr) (ns : List Int), vs = [.ref a] ∧ SqL K H a (ns.map V.int) ∧ ns.length ≤ 63 ∧ ∀ H', Q (.bl true) H'
theorem sp_law {K : PySem.W.Frag} {mg : Str → Option Value} {m : Fn} (ht : ∀ ns : List Int, ns.length ≤ 63 → ∃ h, m [.rol (ns.map D.int)] [] = .ok (.bl true) h) {vs : List V} {H : Hp} {Q : VK} {E : XK} (h : spLaw K vs H Q E) : spM K mg m vs H Q E := by
  obtain ⟨a, ns, rfl, hS, hl, hQ⟩ := h
  obtain ⟨h, e⟩ := ht ns hl
  refine ⟨⟨H, fun _ => none, fun _ => 0, 0, fun _ => none⟩, [.rol (ns.map D.int)], [], .cons (.rol hS (ints_rep ns)) .nil, ⟨Ext.refl _, rfl, fun m n hm _ _ => absurd hm (Nat.not_lt_zero _), fun n o e => (by simp at e), fun _ _ e => (by cases e), fun _ _ e => (by cases e)⟩, ?_⟩
  rw [e]
  intro v w' H' l r x
  cases x
  exact hQ H'
end AB
/-! AB: repr in the law's own def, which knows that nothing is guarded. -/
namespace AB
open PySem PySem.Spec PyProof.Rows L2

section
variable {X : Cx} {W : WX} {pos p : Pos} {e : Expr} {as : MeL}
noncomputable def isSeqP : PyData → Bool
  | .tuple _ => true
  | .list _ => true
  | _ => false
noncomputable def fRepr (xs : List D) (h : AH) : Res D := match xs with
  | [d] => match toPh h d with
    | some p => if isSeqP p = true ∧ p.showable = true ∧ p.hasDict = false ∧ p.depth ≤ 60 ∧ p.shown.length ≤ big then .ok (.str p.shown) h else .stuck
    | none => .stuck
  | _ => .stuck
end
/-! != of texts -/
noncomputable def fNeS (x y : D) (h : AH) : Res D := match x, y with
  | .str i, .str j => .ok (.bl (i != j)) h
  | _, _ => .stuck
theorem op_neS {X : Cx} : OpR X (compareOp .NotEq) (fun x y H Q => ∃ i j, x = .str i ∧ y = .str j ∧ Q (.bl (i != j)) H) := by
  intro pins s σ H x y v u Q I rx ry h
  obtain ⟨i, j, rfl, rfl, q⟩ := h
  obtain ⟨t, rfl⟩ := rx
  obtain ⟨t', rfl⟩ := ry
  exact PyProof.Rows.ne_str ⟨.bl _, H, I, rfl, q⟩
theorem fol_neS {X : Cx} {W : WX} : Fol2 X W fNeS (fun x y H Q => ∃ i j, x = .str i ∧ y = .str j ∧ Q (.bl (i != j)) H) := by
  intro w h H σ Q v1 v2 d1 d2 rh r1 r2 o
  unfold fNeS at o
  split at o
  · cases r1
    cases r2
    exact ⟨_, _, rfl, rfl, out_ok o rh (.bl _)⟩
  · exact o.elim
@[simp] theorem v_neS {h : AH} (x : Str) : fNeS (.str x) (.str x) h = .ok (.bl false) h := by
  show Res.ok (D.bl (x != x)) h = _
  simp
/-- the law's def, called as the claim calls it -/
noncomputable def LawAt (P : Program) (w : World) (K : PySem.W.Frag) (mg : Str → Option Value) (base : Heap) (CX : CXT) (f : Addr) (fd : FuncData) (ps : List Str) (sp : Sp) : Prop :=
  ∀ (s : Shared) (H : Hp) (args : Args) (us : List Value) (vs : List V) (Q : VK) (E : XK), Env0 P w K mg base callerA [] s H → BindsTo s fd args (ps.zip us) → Vals vs us → sp vs H Q E →
    codeAny (model P w) callerA (.call (.ref f) args) (CR CX [] P w H s Q E) s
/-- .. by its body -/
theorem law_of {CX : CXT} {P : Program} {w : World} {K : PySem.W.Frag} {mg : Str → Option Value} {base : Heap} {k : Nat} {f : Addr} {x qual : Str} {st : Stmt} {fd : FuncData} {N ps : List Str} {sp : Sp}
    (F : Fun K x qual st f fd) (S : FnScope N ps (defScope st)) (hr : Room (k + 1) callerA)
    (len : ∀ vs H Q E, sp vs H Q E → vs.length = ps.length)
    (hbody : ∀ (cdv : Value) (s : Shared) (H : Hp) (vs : List V) (Q : VK) (E : XK), Room k (callerA.deeper (envOfC qual (defScope st) s.heap.objs.size f cdv)) → sp vs H Q E →
      ∃ t, PSs (cxOf CX P w K mg base N qual (defScope st) f cdv callerA [] s H E) (defBody st) t ∧ t { nx := fun _ H' => Q .non H', rt := Q } (L2.start N vs) H) :
    LawAt P w K mg base CX f fd ps sp := by
  obtain ⟨oc, od, kV, doc, pm, an, cdv, ct, osl, rfl, lk, hcd⟩ := F.ex
  intro s H args us vs Q E e0 hb r hsp
  have hl := len _ _ _ _ hsp
  have keepB : ∀ b o, base.get? b = some o → s.heap.get? b = some o := fun b o e => (e0.bs b o e).1
  have KX : K.In s.heap := e0.mod.kin.keeps keepB
  have lim : s.heap.NoLimit := e0.mod.nolimit.keeps keepB
  have kinds : ∀ y ∈ ps.zip us, (defScope st).names.lookup y.1 = some .local ∨ ((defScope st).names.lookup y.1 = some .cell ∧ ((cellsFrom (s.heap.objs.size + 1) (defScope st).names []).lookup y.1).isSome = true) := by
    rintro ⟨n, v⟩ hy
    exact (S.par n (List.of_mem_zip hy).1).imp id fun q => ⟨q, PySem.W.cellsFrom_some _ _ _ (.inl q)⟩
  refine codeAny_call_function hr.depth (KX _ _ lk) rfl S.co S.gen rfl (PySem.W.codeRec_of KX hcd) (hb _ _ _ _ (wpAny_newFunctionEnv_cells S.kind kinds fun env he s1 x => ?_))
  subst he
  refine ⟨lim.keeps x.toInCall.keep, codeAny_func ?_⟩
  obtain ⟨t, ht, hq⟩ := hbody cdv s H vs Q E (hr.deeper _) hsp
  refine wpAny_mono (ht.run [] s1 (L2.start N vs) H _ (inv_start S hr.hd e0 hl r x) hq) (fun fl s' hs => ?_) fun e s' hs => hs
  cases fl with
  | ret u =>
    obtain ⟨v, σ', H', J, rv, q⟩ := hs
    exact ⟨v, H', J.os, J.bare, J.base, J.hok, rv, q⟩
  | next =>
    obtain ⟨σ', H', J, q⟩ := hs
    exact ⟨.non, H', J.os, J.bare, J.base, J.hok, rfl, q⟩
  | brk => obtain ⟨_, _, _, q⟩ := hs; exact q.elim
  | cont => obtain ⟨_, _, _, q⟩ := hs; exact q.elim

/-- the script as the only thing that is tracked, or one of the module's own objects -/
theorem law_callC {P : Program} {w : World} {K : PySem.W.Frag} {mg mb : Str → Option Value} {CX : CXT} {fa a : Addr} {fd : FuncData} {x : Str} {sp : Sp} {s₁ : Shared} {vs : List Value} {ns : List Int}
    (KX : K.In s₁.heap) (hns : s₁.heap.Ns mainGlobals mg) (hb : s₁.heap.Ns builtinsNs mb) (hbb : ∀ x : Str, x ≠ "__name__" → mb x = bootBuiltins x) (hlim : s₁.heap.NoLimit) (hg : s₁.gens = #[])
    (ha : s₁.heap.get? a = some { cls := .type "list", data := .seq vs.toArray }) (hi : IntsAre vs ns) (hl : ns.length ≤ sizeLine)
    (F : ∀ base : Heap, K.In base → base.Ns mainGlobals mg → LawAt P w K mg base CX fa fd [x] sp) (hbind : ∀ (s : Shared) (u : Value), BindsTo s fd ⟨[u], []⟩ [(x, u)])
    (hsp : ∀ H : Hp, Only H → SqL K H a (ns.map V.int) → sp [.ref a] H (fun v _ => v = .bl true) fun _ _ _ => False)
    (hCX : ∀ H e s', CX [] H s₁ (fun _ _ _ => False) e s' → False) :
    codeAny (model P w) callerA (.call (.ref fa) ⟨[.ref a], []⟩) (fun r s' => r = .ok (.ret (.bool true)) ∧ OldK s₁.heap s'.heap ∧ s'.os = s₁.os ∧ AllBare s'.gens) s₁ := by
  have rv := vals_ints hi
  have lenV := hi.length
  have core : ∀ H : Hp, Only H → SqL K H a (ns.map V.int) → HOk P w H s₁.heap → (∀ b, H b ≠ none → b = a) → (H a ≠ none → K.lookup a = none) →
      codeAny (model P w) callerA (.call (.ref fa) ⟨[.ref a], []⟩) (fun r s' => r = .ok (.ret (.bool true)) ∧ OldK s₁.heap s'.heap ∧ s'.os = s₁.os ∧ AllBare s'.gens) s₁ := by
    intro H hO hS hok hA hK
    have none_of : ∀ {b : Addr}, b ≠ a → H b = none := fun {b} hb => by
      cases q : H b with
      | none => rfl
      | some u => exact absurd (hA b (by rw [q]; simp)) hb
    have dict_none : ∀ {b : Addr} {o : Obj} {es : Array DictEntry} {ep : Nat}, s₁.heap.get? b = some o → o.data = .dict es ep → H b = none := fun {b o es ep} e d => none_of fun z => by
      subst z
      rw [ha] at e
      cases e
      have d' : Data.seq vs.toArray _ = Data.dict es ep := d
      cases d'
    have ns_hid : ∀ {b : Addr} {m : Str → Option Value}, s₁.heap.Ns b m → (hidT s₁.heap H).Ns b m := fun {b m} ⟨o, es, ep, e, d, r⟩ => ⟨o, es, ep, hidT_get e (dict_none e d), d, r⟩
    have hKb : K.In (hidT s₁.heap H) := fun b o e => hidT_get (KX b o e) (by
      cases q : H b with
      | none => rfl
      | some u =>
        have z := hA b (by rw [q]; simp)
        subst z
        rw [hK (by rw [q]; simp)] at e
        cases e)
    have hM : Mod K mg (hidT s₁.heap H) := ⟨hKb, ns_hid hns, ⟨mb, ns_hid hb, hbb⟩, let ⟨mc, h1, h2⟩ := hlim; ⟨mc, ns_hid h1, h2⟩⟩
    have e0 : Env0 P w K mg (hidT s₁.heap H) callerA [] s₁ H := ⟨rfl, hM, fun b o e => of_hidT e, Nat.le_of_eq (hidT_size _ _), trivial, fun b hb => absurd (show b ∈ ([] : List Addr) from hb) (by simp), hok, .of_eq hg⟩
    refine codeAny_mono (F _ hKb (ns_hid hns) s₁ H ⟨[.ref a], []⟩ [.ref a] [.ref a] _ _ e0 (hbind s₁ (.ref a)) (.cons rfl .nil) (hsp H hO hS)) fun r s' h => ?_
    cases r with
    | error e => exact (hCX H e s' h).elim
    | ok fl =>
      cases fl with
      | next => exact False.elim h
      | brk => exact False.elim h
      | cont => exact False.elim h
      | ret u =>
        obtain ⟨v, H', os, bare, un, hok', r', q⟩ := h
        have q' : v = .bl true := q
        subst q'
        obtain rfl : u = Value.bool true := r'
        refine ⟨rfl, OldK.of_keep fun b o e => ?_, os, bare⟩
        cases q : H b with
        | none => exact un.keep b o e q (by intro z; exact absurd (show b ∈ ([] : List Addr) from z) (by simp)) (by simp)
        | some u =>
          rcases hO b with z | ⟨ob, xs, z⟩
          · rw [q] at z; cases z
          · obtain ⟨e1, _⟩ := hok b _ z
            obtain ⟨e2, _⟩ := hok' b _ (un.frzs b ob _ z)
            rw [e] at e1
            cases e1
            exact e2
  cases hk : K.lookup a with
  | some o =>
    have e := KX a o hk
    rw [ha] at e
    cases e
    exact core (fun _ => none) (fun _ => .inl rfl) (.inr ⟨_, vs.toArray, _, hk, rfl, rfl, rfl, by rw [List.size_toArray, lenV]; exact hl, by simpa using rv⟩) (fun b u z => by have z' : (none : Option HO) = some u := z; cases z') (fun b z => absurd rfl z) fun z => absurd rfl z
  | none =>
    refine core (fun b => if b = a then some (.frz { cls := .type "list", data := .seq vs.toArray } (.lst (ns.map V.int))) else none) (fun b => ?_) (.inl (.inr ⟨{ cls := .type "list", data := .seq vs.toArray }, if_pos rfl⟩)) (fun b u z => ?_) (fun b z => ?_) fun _ => hk
    · by_cases hb : b = a
      · exact .inr ⟨_, _, if_pos hb⟩
      · exact .inl (if_neg hb)
    · by_cases hb : b = a
      · have z' := (if_pos hb).symm.trans z
        cases z'
        subst hb
        exact ⟨ha, by rw [List.length_map]; exact hl, vs, _, rv, ha⟩
      · have z' := (if_neg hb).symm.trans z
        cases z'
    · by_cases hb : b = a
      · exact hb
      · exact absurd (if_neg hb) z
theorem walk_ofC {l : PySem.W.OpenLaw} {n : Nat} {q : Program} {loose : List Str} {XP : (Str → Option Value) → Heap → Prop} {YP : World → Heap → Prop} {d : DefRec} {K : Params → PySem.W.Frag} {CX : World → CXT} {sp : World → Sp} {x : Str}
    (hn : l.most = some n) (hn2 : n ≤ sizeLine) (hdf : d.params.defaults = [])
    (hY : ∀ (w : World) (h : Heap), YP w h → (K w.params).In h)
    (F : ∀ (w : World) (mg : Str → Option Value) (fa : Addr) (h : Heap), (K w.params).In h → h.Ns mainGlobals mg → mg d.name = some (.ref fa) →
      ∃ fd : FuncData, (∀ (s : Shared) (u : Value), BindsTo s fd ⟨[u], []⟩ [(x, u)]) ∧
        ∀ base : Heap, (K w.params).In base → base.Ns mainGlobals mg → LawAt l.prog w (K w.params) mg base (CX w) fa fd [x] (sp w))
    (hsp : ∀ (w : World) (H : Hp) (a : Addr) (ns : List Int), ns.length ≤ n → Only H → SqL (K w.params) H a (ns.map V.int) → sp w [.ref a] H (fun v _ => v = .bl true) fun _ _ _ => False)
    (hCX : ∀ (w : World) (H : Hp) (s : Shared) (e : Value) (s' : Shared), CX w [] H s (fun _ _ _ => False) e s' → False) :
    PySem.W.WalkO q loose XP YP l.row.toRowW d [] (fun f vs => PySem.call f vs) := by
  refine Att.attach_call hn hdf fun w s₀ s₁ mg mb fa o pm cd doc a vs ns G Y ho hd hcd hmg hobj hints hlen hg => ?_
  have KX := hY w _ Y
  obtain ⟨fd, hb, hF⟩ := F w mg fa _ KX G.T.g hmg
  exact law_callC KX G.T.g G.T.b G.T.builtins G.T.nolimit hg hobj hints (Nat.le_trans hlen hn2) hF hb (fun H hO hS => hsp w H a ns hlen hO hS) fun H e s' => hCX w H s₁ e s'
/-- the law's def by its mirror -/
theorem law_ok {P : Program} {w : World} {K : PySem.W.Frag} {mg : Str → Option Value} {base : Heap} {x qual : Str} {st : Stmt} {f : Addr} {fd : FuncData} {N ps : List Str} {k : Nat} (F : Fun K x qual st f fd) (S : FnScope N ps (defScope st)) (hr : Room (k + 1) callerA) (m : Ms)
    (hb : ∀ (cdv : Value) (s : Shared) (H : Hp) (E : XK), Room k (callerA.deeper (envOfC qual (defScope st) s.heap.objs.size f cdv)) →
      PSs (cxOf (L2.CX P w) P w K mg base N qual (defScope st) f cdv callerA [] s H E) (defBody st) (tS K mg (fun c dd _ H => E c dd H) m)) :
    LawAt P w K mg base (L2.CX P w) f fd ps (spM K mg (mDef ps.length N.length m)) := by
  refine law_of F S hr (fun vs H Q E h => ?_) fun cdv s H vs Q E hr h => ⟨_, hb cdv s H E hr, sp_start h⟩
  exact sp_len h
theorem LawAt.imp {P : Program} {w : World} {K : PySem.W.Frag} {mg : Str → Option Value} {base : Heap} {CX : CXT} {f : Addr} {fd : FuncData} {ps : List Str} {sp sp' : Sp} (F : LawAt P w K mg base CX f fd ps sp) (h : ∀ vs H Q E, sp' vs H Q E → sp vs H Q E) : LawAt P w K mg base CX f fd ps sp' :=
  fun s H args us vs Q E e0 hb r q => F s H args us vs Q E e0 hb r (h vs H Q E q)
theorem cx_false {P : Program} {w : World} {H : Hp} {s : Shared} {e : Value} {s' : Shared} (h : L2.CX P w [] H s (fun _ _ _ => False) e s') : False := by
  obtain ⟨_, _, _, _, _, _, _, _, _, _, _, _, z⟩ := h
  exact z
end AB
/-! AB: how the mirrors go, as rules of simp. -/
namespace AB
open PySem PySem.Spec PyProof.Rows L2

section
variable {G : Env} {h : AH} {i j : Int} {d e : D} {m a b c : Me} {as : MeL} {t u : MeT} {n : Nat}
@[simp] theorem v_mV (i : Nat) : mV i G h = (match G[i]? with | some (some d) => .ok d h | _ => .stuck) := rfl
@[simp] theorem v_mC : mC d G h = .ok d h := rfl
@[simp] theorem v_mOp2 {f : D → D → AH → Res D} : mOp2 f a b G h = (a G h).bind fun x h1 => (b G h1).bind fun y h2 => f x y h2 := rfl
@[simp] theorem v_mOp1 {f : D → AH → Res D} : mOp1 f a G h = (a G h).bind fun x h1 => f x h1 := rfl
@[simp] theorem v_aNil : aNil G h = .ok [] h := rfl
@[simp] theorem v_aCons : aCons a as G h = (a G h).bind fun x h1 => (as G h1).bind fun xs h2 => .ok (x :: xs) h2 := rfl
@[simp] theorem v_mN {f : List D → AH → Res D} : mN f as G h = (as G h).bind fun xs h1 => f xs h1 := rfl
@[simp] theorem v_lN {f : List D → AH → Res (List D)} : lN f as G h = (as G h).bind fun xs h1 => f xs h1 := rfl
@[simp] theorem v_mL : mL as G h = (as G h).bind fun ds h1 => .ok (.lst ds) h1 := rfl
@[simp] theorem v_mNew : mNew as G h = (as G h).bind fun ds h1 => .ok (.loc h1.length) (h1 ++ [.lst ds]) := rfl
@[simp] theorem v_lLst : lLst as G h = (as G h).bind fun xs h1 => if xs.length ≤ big then .ok xs h1 else .stuck := id rfl
@[simp] theorem v_fTup {ds : List D} : fTup ds h = if ds.length ≤ big then .ok (.tup ds) h else .stuck := id rfl
@[simp] theorem v_tOf : tOf m G h = (m G h).bind fun d h1 => match truD h1 d with | some b => .ok b h1 | none => .stuck := rfl
@[simp] theorem v_tBl : tBl m G h = (m G h).bind fun d h1 => match d with | .bl b => .ok b h1 | _ => .stuck := rfl
@[simp] theorem v_tAnd : tAndM t u G h = (t G h).bind fun c h1 => if c = true then u G h1 else .ok false h1 := rfl
@[simp] theorem v_tOr : tOrM t u G h = (t G h).bind fun c h1 => if c = true then .ok true h1 else u G h1 := rfl
@[simp] theorem v_tNot : tNotM t G h = (t G h).bind fun c h1 => .ok (!c) h1 := rfl
@[simp] theorem v_mAnd : mAnd a b G h = (a G h).bind fun d h1 => match truD h1 d with | some true => b G h1 | some false => .ok d h1 | none => .stuck := rfl
@[simp] theorem v_mOr : mOr a b G h = (a G h).bind fun d h1 => match truD h1 d with | some true => .ok d h1 | some false => b G h1 | none => .stuck := rfl
@[simp] theorem v_mNot : mNot a G h = (a G h).bind fun d h1 => match truD h1 d with | some b => .ok (.bl (!b)) h1 | none => .stuck := rfl
@[simp] theorem v_mIf : mIf t a b G h = (t G h).bind fun c h1 => if c = true then a G h1 else b G h1 := rfl
@[simp] theorem v_mChain {f g : D → D → AH → Res D} : mChain f g a b c G h = (a G h).bind fun x h1 => (b G h1).bind fun y h2 => (f x y h2).bind fun z h3 => match z with
  | .bl true => (c G h3).bind fun u h4 => g y u h4
  | .bl false => .ok (.bl false) h3
  | _ => .stuck := rfl
@[simp] theorem v_mIsi (T : Ty) : mIsi T m G h = (m G h).bind fun d h1 => match tyD h1 d with | some t => .ok (.bl (t.sub T)) h1 | none => .stuck := rfl
@[simp] theorem v_oNone : oNone G h = .ok none h := rfl
@[simp] theorem v_oSome : oSome m G h = (m G h).bind fun d h1 => match d with | .int i => .ok (some i) h1 | _ => .stuck := rfl
@[simp] theorem v_yes : tYesM G h = .ok true h := rfl
@[simp] theorem v_sNil : sNil G h = .next G h := rfl
@[simp] theorem v_sSeq {x y : Ms} : sSeq x y G h = (x G h).andThen y := rfl
@[simp] theorem v_sSet (i : Nat) : sSet i m G h = (m G h).toS G fun d h1 => .next (G.set i (some d)) h1 := rfl
@[simp] theorem v_sRet : sRet m G h = (m G h).toS G fun d h1 => .ret d h1 := rfl
@[simp] theorem v_sExpr : sExpr m G h = (m G h).toS G fun _ h1 => .next G h1 := rfl
@[simp] theorem v_sIf {x y : Ms} : sIf t x y G h = (t G h).toS G fun c h1 => if c = true then x G h1 else y G h1 := rfl
@[simp] theorem v_sNever : sNever G h = .stuck := rfl
@[simp] theorem v_sSub : sSub a b m G h = (m G h).toS G fun x h1 => (a G h1).toS G fun d h2 => (b G h2).toS G fun j h3 => match d, j with
  | .loc n, .int k => match h3[n]? with
    | some (.lst ds) => match ixN ds.length k with
      | some m => .next G (h3.set n (.lst (ds.set m x)))
      | none => .stuck
    | _ => .stuck
  | _, _ => .stuck := rfl
@[simp] theorem v_mBM {f : D → List D → AH → Res D} : mBM f m as G h = (m G h).bind fun d h1 => match vL h1 d with | some _ => (as G h1).bind fun xs h2 => f d xs h2 | none => .stuck := rfl
@[simp] theorem v_sFor {p : Pat} {it : Im} {x : Ms} : sFor p it x G h = (it G h).toS G fun a h1 => forGo p x a.2 a.1 a.1 G h1 := rfl
@[simp] theorem v_lComp {p : Pat} {vs : List Nat} {it : Im} : lComp p vs it t m G h = (it G h).bind fun a h1 => if a.1.length ≤ big then compGo p t m a.2 a.1 (wipeG G vs) a.1 h1 else .stuck := id rfl
@[simp] theorem v_iSeq : iSeq m G h = (m G h).bind fun d h1 => match d with
  | .tup ds => .ok (ds, none) h1
  | .lst ds => .ok (ds, none) h1
  | .rol ds => .ok (ds, none) h1
  | .loc n => match h1[n]? with
    | some (.lst ds) => .ok (ds, some n) h1
    | _ => .stuck
  | _ => .stuck := rfl
/-! values -/
@[simp] theorem v_ii : isII (.int i) (.int j) = some (i, j) := rfl
@[simp] theorem v_cLt : cLt (.int i) (.int j) h = .ok (.bl (decide (i < j))) h := rfl
@[simp] theorem v_cLe : cLe (.int i) (.int j) h = .ok (.bl (decide (i ≤ j))) h := rfl
@[simp] theorem v_cGt : cGt (.int i) (.int j) h = .ok (.bl (decide (j < i))) h := rfl
@[simp] theorem v_cGe : cGe (.int i) (.int j) h = .ok (.bl (decide (j ≤ i))) h := rfl
@[simp] theorem v_add : fAdd (.int i) (.int j) h = .ok (.int (i + j)) h := rfl
@[simp] theorem v_sub : fSub (.int i) (.int j) h = .ok (.int (i - j)) h := rfl
@[simp] theorem v_neg : fNeg (.int i) h = .ok (.int (-i)) h := rfl
@[simp] theorem v_mul : fMul (.int i) (.int j) h = if (-(2 ^ 60) ≤ i ∧ i ≤ 2 ^ 60) ∨ (-(2 ^ 60) ≤ j ∧ j ≤ 2 ^ 60) then .ok (.int (i * j)) h else .stuck := id rfl
@[simp] theorem v_mod : fMod (.int i) (.int j) h = if 0 < j then .ok (.int (i % j)) h else .stuck := id rfl
@[simp] theorem v_div : fDiv (.int i) (.int j) h = if 0 < j ∧ j ≤ 2 ^ 60 then .ok (.int (i / j)) h else .stuck := id rfl
@[simp] theorem v_pow : fPow (.int i) (.int j) h = if 0 ≤ j ∧ j ≤ 1000 ∧ 0 ≤ i ∧ i ≤ 1000 then .ok (.int (i ^ j.toNat)) h else .stuck := id rfl
@[simp] theorem v_int : fInt [.int i] h = .ok (.int i) h := rfl
@[simp] theorem v_intB {b : Bool} : fInt [.bl b] h = .ok (.int (if b then 1 else 0)) h := rfl
@[simp] theorem v_abs : fAbs [.int i] h = .ok (.int (if i < 0 then -i else i)) h := rfl
theorem okP_int : okP h (.int i) = some (.int i) := rfl
theorem okP_non : okP h .non = some .none := rfl
@[simp] theorem v_eq : fEq (.int i) (.int j) h = .ok (.bl (decide (i = j))) h := by
  show Res.ok (D.bl (PyData.eqv (.int i) (.int j))) h = _
  simp only [PyData.eqv]
  rfl
@[simp] theorem v_ne : fNe (.int i) (.int j) h = .ok (.bl (!decide (i = j))) h := by
  show Res.ok (D.bl (!PyData.eqv (.int i) (.int j))) h = _
  simp only [PyData.eqv]
  rfl
@[simp] theorem v_eqB {b c : Bool} : fEq (.bl b) (.bl c) h = .ok (.bl (decide (b = c))) h := by
  show Res.ok (D.bl (PyData.eqv (.bool b) (.bool c))) h = _
  simp only [PyData.eqv]
  cases b <;> cases c <;> rfl
@[simp] theorem v_isB {b c : Bool} : fIsB (.bl b) (.bl c) h = .ok (.bl (decide (b = c))) h := rfl
@[simp] theorem v_notB {b c : Bool} : fNotB (.bl b) (.bl c) h = .ok (.bl (!decide (b = c))) h := rfl
@[simp] theorem v_truB {b : Bool} : truD h (.bl b) = some b := rfl
@[simp] theorem v_truI : truD h (.int i) = some (i != 0) := rfl
@[simp] theorem v_vSt {ds : List D} : vS h (.tup ds) = some ds := rfl
@[simp] theorem v_vSl {ds : List D} : vS h (.lst ds) = some ds := rfl
@[simp] theorem v_vSr {ds : List D} : vS h (.rol ds) = some ds := rfl
@[simp] theorem v_vSo : vS h (.loc n) = (match h[n]? with | some (.lst ds) => some ds | _ => none) := rfl
@[simp] theorem v_vLl {ds : List D} : vL h (.lst ds) = some ds := rfl
@[simp] theorem v_vLr {ds : List D} : vL h (.rol ds) = some ds := rfl
@[simp] theorem v_vLo : vL h (.loc n) = (match h[n]? with | some (.lst ds) => some ds | _ => none) := rfl
@[simp] theorem v_ix : fIx d (.int i) h = (match vS h d with | some ds => (match atI ds i with | some d => .ok d h | none => .stuck) | none => .stuck) := rfl
@[simp] theorem v_len (hd : ∀ x, d ≠ .str x) : fLen [d] h = (match vS h d with | some ds => .ok (.int ds.length) h | none => .stuck) := by
  cases d with
  | str x => exact absurd rfl (hd x)
  | _ => rfl
@[simp] theorem v_tuple : fTuple [d] h = (match vS h d with | some ds => .ok (.tup ds) h | none => .stuck) := rfl
@[simp] theorem v_list : lList [d] h = (match vS h d with | some ds => .ok ds h | none => .stuck) := rfl
@[simp] theorem v_app : fApp (.loc n) [d] h = (match h[n]? with | some (.lst ds) => if ds.length < big then .ok .non (h.set n (.lst (ds ++ [d]))) else .stuck | _ => .stuck) := id rfl
@[simp] theorem v_tyI : tyD h (.int i) = some .int := rfl
@[simp] theorem v_tyB {b : Bool} : tyD h (.bl b) = some .bl := rfl
@[simp] theorem v_tyT {ds : List D} : tyD h (.tup ds) = some .tup := rfl
@[simp] theorem v_tyN : tyD h .non = some .non := rfl
@[simp] theorem v_range1 : iRange1 as G h = (as G h).bind fun xs h1 => match xs with
  | [.int j] => if okR j then .ok (rangeD 0 j.toNat, none) h1 else .stuck
  | _ => .stuck := rfl
@[simp] theorem v_range2 : iRange2 as G h = (as G h).bind fun xs h1 => match xs with
  | [.int i, .int j] => if okR2 i j then .ok (rangeD i (j - i).toNat, none) h1 else .stuck
  | _ => .stuck := rfl
@[simp] theorem v_down : iDown as G h = (as G h).bind fun xs h1 => match xs with
  | [.int i, .int j, .int k] => if k = -1 ∧ okR2 i j then .ok (downD i (i - j).toNat, none) h1 else .stuck
  | _ => .stuck := rfl
end
theorem big_eq : big = 1000000 := rfl
/-- an index within -/
theorem atI_nat {α : Type} {xs : List α} {i : Int} {x : α} (h0 : 0 ≤ i) (hx : xs[i.toNat]? = some x) : atI xs i = some x := by
  have hl := (List.getElem?_eq_some_iff.mp hx).1
  unfold atI ixN
  rw [if_pos h0, if_pos (by omega)]
  exact hx
theorem atI_map {α β : Type} (f : α → β) (xs : List α) (i : Int) : atI (xs.map f) i = (atI xs i).map f := by
  unfold atI
  rw [List.length_map]
  cases ixN xs.length i with
  | none => rfl
  | some j => simp
theorem atI_some {α : Type} {xs : List α} {i : Int} (h0 : 0 ≤ i) (h1 : i < xs.length) : ∃ x, atI xs i = some x ∧ x ∈ xs := by
  have hl : i.toNat < xs.length := by omega
  exact ⟨xs[i.toNat], atI_nat h0 (List.getElem?_eq_getElem hl), List.getElem_mem hl⟩
section
variable {α : Type} {x0 x1 x2 x3 x4 : α} {xs : List α}
@[simp] theorem atI_0 : atI (x0 :: xs) 0 = some x0 := atI_nat (Int.le_refl _) rfl
@[simp] theorem atI_1 : atI (x0 :: x1 :: xs) 1 = some x1 := atI_nat (by decide) rfl
@[simp] theorem atI_2 : atI (x0 :: x1 :: x2 :: xs) 2 = some x2 := atI_nat (by decide) rfl
@[simp] theorem atI_3 : atI (x0 :: x1 :: x2 :: x3 :: xs) 3 = some x3 := atI_nat (by decide) rfl
@[simp] theorem atI_4 : atI (x0 :: x1 :: x2 :: x3 :: x4 :: xs) 4 = some x4 := atI_nat (by decide) rfl
end
/-- the last -/
theorem atI_last {α : Type} {xs : List α} : atI xs (-1) = xs.getLast? := by
  unfold atI ixN
  rw [if_neg (by decide)]
  cases xs with
  | nil => rfl
  | cons x r =>
    have h : -((x :: r).length : Int) ≤ -1 := by
      rw [List.length_cons]
      omega
    rw [if_pos h]
    have e : (-1 + (((x :: r).length : Nat) : Int)).toNat = (x :: r).length - 1 := by
      rw [List.length_cons]
      omega
    show (x :: r)[(-1 + (((x :: r).length : Nat) : Int)).toNat]? = _
    rw [e, List.getLast?_eq_getElem?]
end AB
/-! AB: loops and comprehensions whose source stays; in, all, any, max; what defs hand back. -/
namespace AB
open PySem PySem.Spec PyProof.Rows L2

section
variable {α : Type} {p : Pat} {t : MeT} {e : Me} {body : Ms} {all0 : List D} {G0 : Env} {h : AH}
theorem comp_ok (enc : α → D) (q : α → Bool) (f : α → D) : ∀ (xs : List α), (∀ x ∈ xs, ∃ G1, asg p (enc x) G0 = some G1 ∧ t G1 h = .ok (q x) h ∧ (q x = true → e G1 h = .ok (f x) h)) →
    compGo p t e none all0 G0 (xs.map enc) h = .ok ((xs.filter q).map f) h
  | [], _ => by simp [compGo, Still]
  | x :: xs, hx => by
    obtain ⟨G1, e1, e2, e3⟩ := hx x List.mem_cons_self
    have ih := comp_ok enc q f xs fun y hy => hx y (List.mem_cons_of_mem _ hy)
    rw [List.map_cons]
    unfold compGo
    rw [if_pos (by trivial), e1]
    simp only [e2, Res.noX_ok, Res.bind_ok]
    cases hq : q x with
    | true =>
      rw [if_pos rfl, e3 hq, List.filter_cons_of_pos hq]
      simp only [Res.noX_ok, Res.bind_ok, ih, List.map_cons]
    | false =>
      rw [if_neg (by simp), ih, List.filter_cons_of_neg (by simp [hq])]
/-- every element, with no test -/
theorem comp_all (enc : α → D) (f : α → D) (xs : List α) (hx : ∀ x ∈ xs, ∃ G1, asg p (enc x) G0 = some G1 ∧ e G1 h = .ok (f x) h) : compGo p tYesM e none all0 G0 (xs.map enc) h = .ok (xs.map f) h := by
  have := comp_ok (p := p) (t := tYesM) (e := e) (all0 := all0) (G0 := G0) (h := h) enc (fun _ => true) f xs fun x hm => by
    obtain ⟨G1, e1, e2⟩ := hx x hm
    exact ⟨G1, e1, rfl, fun _ => e2⟩
  rw [this, List.filter_eq_self.mpr fun _ _ => rfl]
/-- with a heap that goes on: what is taken is a sublist -/
theorem comp_inv {I : AH → Prop} (enc : α → D) (f : α → D) : ∀ (xs : List α), (∀ x ∈ xs, ∀ h, I h → ∃ G1 b h1, asg p (enc x) G0 = some G1 ∧ t G1 h = .ok b h1 ∧ I h1 ∧ (b = true → ∃ h2, e G1 h1 = .ok (f x) h2 ∧ I h2)) →
    ∀ h, I h → ∃ (ys : List α) (h' : AH), compGo p t e none all0 G0 (xs.map enc) h = .ok (ys.map f) h' ∧ I h' ∧ ys.Sublist xs
  | [], _, h, hI => ⟨[], h, by simp [compGo, Still], hI, .slnil⟩
  | x :: xs, hx, h, hI => by
    obtain ⟨G1, b, h1, e1, e2, hI1, e3⟩ := hx x List.mem_cons_self h hI
    rw [List.map_cons]
    unfold compGo
    rw [if_pos (by trivial), e1]
    simp only [e2, Res.noX_ok, Res.bind_ok]
    cases b with
    | true =>
      obtain ⟨h2, e4, hI2⟩ := e3 rfl
      obtain ⟨ys, h', e5, hI', sl⟩ := comp_inv enc f xs (fun y hy => hx y (List.mem_cons_of_mem _ hy)) h2 hI2
      refine ⟨x :: ys, h', ?_, hI', sl.cons₂ x⟩
      rw [if_pos rfl, e4]
      simp only [Res.noX_ok, Res.bind_ok, e5, List.map_cons]
    | false =>
      obtain ⟨ys, h', e5, hI', sl⟩ := comp_inv enc f xs (fun y hy => hx y (List.mem_cons_of_mem _ hy)) h1 hI1
      refine ⟨ys, h', ?_, hI', sl.cons x⟩
      rw [if_neg (by simp), e5]
/-- a loop that goes on -/
theorem for_inv (I : Env → AH → Prop) (enc : α → D) : ∀ (xs : List α), (∀ x ∈ xs, ∀ G h, I G h → ∃ G1 G2 h2, asg p (enc x) G = some G1 ∧ body G1 h = .next G2 h2 ∧ I G2 h2) →
    ∀ G h, I G h → ∃ G' h', forGo p body none all0 (xs.map enc) G h = .next G' h' ∧ I G' h'
  | [], _, G, h, hI => ⟨G, h, by simp [forGo, Still], hI⟩
  | x :: xs, hx, G, h, hI => by
    obtain ⟨G1, G2, h2, e1, e2, hI2⟩ := hx x List.mem_cons_self G h hI
    obtain ⟨G', h', e3, hI'⟩ := for_inv I enc xs (fun y hy => hx y (List.mem_cons_of_mem _ hy)) G2 h2 hI2
    refine ⟨G', h', ?_, hI'⟩
    rw [List.map_cons]
    unfold forGo
    rw [if_pos (by trivial), e1]
    simp only [e2, e3]
/-- a loop with a count of its turns -/
theorem for_invN (I : Nat → Env → AH → Prop) (enc : Nat → D) (n : Nat) : ∀ (k j : Nat), k + j = n → (∀ i, i < n → ∀ G h, I i G h → ∃ G1 G2 h2, asg p (enc i) G = some G1 ∧ body G1 h = .next G2 h2 ∧ I (i + 1) G2 h2) →
    ∀ G h, I k G h → ∃ G' h', forGo p body none all0 ((List.range' k j).map enc) G h = .next G' h' ∧ I n G' h'
  | k, 0, hk, _, G, h, hI => ⟨G, h, by simp [forGo, Still], by
    have : k = n := by omega
    rw [← this]
    exact hI⟩
  | k, j + 1, hk, hx, G, h, hI => by
    obtain ⟨G1, G2, h2, e1, e2, hI2⟩ := hx k (by omega) G h hI
    obtain ⟨G', h', e3, hI'⟩ := for_invN I enc n (k + 1) j (by omega) hx G2 h2 hI2
    refine ⟨G', h', ?_, hI'⟩
    rw [List.range'_succ, List.map_cons]
    unfold forGo
    rw [if_pos (by trivial), e1]
    simp only [e2, e3]
/-- a loop that ends at the first one found -/
theorem for_find (I : Env → Prop) (enc : α → D) (q : α → Bool) (r : α → D) : ∀ (xs : List α), (∀ x ∈ xs, ∀ G, I G → ∃ G1, asg p (enc x) G = some G1 ∧ (q x = true → body G1 h = .ret (r x) h) ∧ (q x = false → ∃ G2, body G1 h = .next G2 h ∧ I G2)) →
    ∀ G, I G → (∀ x, xs.find? q = some x → forGo p body none all0 (xs.map enc) G h = .ret (r x) h) ∧ (xs.find? q = none → ∃ G', forGo p body none all0 (xs.map enc) G h = .next G' h ∧ I G')
  | [], _, G, hI => ⟨fun x hx => by simp at hx, fun _ => ⟨G, by simp [forGo, Still], hI⟩⟩
  | x :: xs, hx, G, hI => by
    obtain ⟨G1, e1, e2, e3⟩ := hx x List.mem_cons_self G hI
    cases hq : q x with
    | true =>
      refine ⟨fun y hy => ?_, fun hn => ?_⟩
      · rw [List.find?_cons_of_pos hq] at hy
        cases hy
        rw [List.map_cons]
        unfold forGo
        rw [if_pos (by trivial), e1]
        simp only [e2 hq]
      · rw [List.find?_cons_of_pos hq] at hn
        cases hn
    | false =>
      obtain ⟨G2, e4, hI2⟩ := e3 hq
      obtain ⟨i1, i2⟩ := for_find I enc q r xs (fun y hy => hx y (List.mem_cons_of_mem _ hy)) G2 hI2
      have hf : (x :: xs).find? q = xs.find? q := List.find?_cons_of_neg (by simp [hq])
      have hgo : forGo p body none all0 ((x :: xs).map enc) G h = forGo p body none all0 (xs.map enc) G2 h := by
        rw [List.map_cons]
        conv => lhs; unfold forGo
        rw [if_pos (by trivial), e1]
        simp only [e4]
      rw [hf, hgo]
      exact ⟨i1, i2⟩
end
/-! lists of ints as data -/
theorem toPs_ints : ∀ ns : List Int, toPs (ns.map D.int) = some (ns.map PyData.int)
  | [] => rfl
  | n :: ns => by
    show (match toP (D.int n), toPs (ns.map D.int) with | some p, some ps => some (p :: ps) | _, _ => none) = _
    rw [toPs_ints ns]
    rfl
theorem lay_ints : ∀ ns : List Int, PyData.canLayAll0 (ns.map PyData.int) = true
  | [] => by simp [PyData.canLayAll0]
  | n :: ns => by simp [PyData.canLayAll0, PyData.canLay0, lay_ints ns]
theorem dep_ints : ∀ ns : List Int, PyData.depthAll (ns.map PyData.int) = 0
  | [] => by simp [PyData.depthAll]
  | n :: ns => by simp [PyData.depthAll, PyData.depth, dep_ints ns]
theorem shaped_ints (ns : List Int) : SeqAt.shaped (.tuple (ns.map PyData.int)) = true := by
  simp [SeqAt.shaped, PyData.canLay0, PyData.depth, lay_ints, dep_ints]
theorem okP_ints {h : AH} (ns : List Int) : okP h (.tup (ns.map D.int)) = some (.tuple (ns.map PyData.int)) := by
  unfold okP
  have e : toPh h (.tup (ns.map D.int)) = some (.tuple (ns.map PyData.int)) := by
    show (toPs (ns.map D.int)).map PyData.tuple = _
    rw [toPs_ints]
    rfl
  rw [e]
  simp only [shaped_ints, if_true]
theorem any_ints (k : Int) (ns : List Int) : ((ns.map PyData.int).any fun z => PyData.eqv z (.int k)) = decide (k ∈ ns) := by
  induction ns with
  | nil => rfl
  | cons n ns ih =>
    rw [List.map_cons, List.any_cons, ih]
    simp only [PyData.eqv, List.mem_cons]
    by_cases h : n = k
    · subst h
      simp
    · have h2 : ¬ k = n := fun e => h e.symm
      simp [h, h2]
@[simp] theorem v_inT {h : AH} (k : Int) (ns : List Int) : fIn (.int k) (.tup (ns.map D.int)) h = .ok (.bl (decide (k ∈ ns))) h := by
  unfold fIn inD
  rw [okP_int, okP_ints]
  simp only [any_ints]
/-! lists of flags -/
theorem bls_map {α : Type} (f : α → Bool) : ∀ xs : List α, blsOf (xs.map fun x => D.bl (f x)) = some (xs.map f)
  | [] => rfl
  | x :: xs => by
    show (blsOf (xs.map fun x => D.bl (f x))).map (f x :: ·) = _
    rw [bls_map f xs]
    rfl
@[simp] theorem v_all {α : Type} {h : AH} (f : α → Bool) (xs : List α) : fAll [.lst (xs.map fun x => D.bl (f x))] h = .ok (.bl (xs.all f)) h := by
  have e : lBls [.lst (xs.map fun x => D.bl (f x))] h = some (xs.map f) := bls_map f xs
  unfold fAll
  rw [e]
  simp [List.all_map, Function.comp_def]
@[simp] theorem v_any {α : Type} {h : AH} (f : α → Bool) (xs : List α) : fAny [.lst (xs.map fun x => D.bl (f x))] h = .ok (.bl (xs.any f)) h := by
  have e : lBls [.lst (xs.map fun x => D.bl (f x))] h = some (xs.map f) := bls_map f xs
  unfold fAny
  rw [e]
  simp [List.any_map, Function.comp_def]
theorem ints_map : ∀ ns : List Int, intsOf (ns.map D.int) = some ns
  | [] => rfl
  | n :: ns => by
    show (intsOf (ns.map D.int)).map (n :: ·) = _
    rw [ints_map ns]
    rfl
theorem v_max {h : AH} (n : Int) (ns : List Int) : fMax [.lst (D.int n :: ns.map D.int)] h = .ok (.int (maxI (n :: ns))) h := by
  have e : lInts [.lst (D.int n :: ns.map D.int)] h = some (n :: ns) := ints_map (n :: ns)
  unfold fMax
  rw [e]
@[simp] theorem v_addL {h : AH} (xs ys : List D) : fAdd (.lst xs) (.lst ys) h = if xs.length + ys.length ≤ big then .ok (.lst (xs ++ ys)) h else .stuck := id rfl
@[simp] theorem v_addT {h : AH} (xs ys : List D) : fAdd (.tup xs) (.tup ys) h = if xs.length + ys.length ≤ big then .ok (.tup (xs ++ ys)) h else .stuck := id rfl
@[simp] theorem v_enum {h : AH} {G : Env} {as : MeL} : iEnum as G h = (as G h).bind fun xs h1 => match xs with
  | [.tup ds] => .ok (enumD ds, none) h1
  | [d] => match vI d with
    | some ds => .ok (enumD ds, none) h1
    | none => .stuck
  | _ => .stuck := rfl
@[simp] theorem v_zip {h : AH} {G : Env} {as : MeL} : iZip as G h = (as G h).bind fun xs h1 => match xs with
  | [.tup ds, .tup es] => .ok (pairsD ds es, none) h1
  | [d, e] => match vI d, vI e with
    | some ds, some es => .ok (pairsD ds es, none) h1
    | _, _ => .stuck
  | _ => .stuck := rfl
@[simp] theorem v_mSlT {h : AH} {G : Env} {m : Me} {lo hi : MeO} : mSl m lo hi G h = (m G h).bind fun x h1 => (lo G h1).bind fun l h2 => (hi G h2).bind fun u h3 => match x with
  | .tup ds => .ok (.tup (cutD ds l u)) h3
  | d => match vL h3 d with
    | some ds => .ok (.lst (cutD ds l u)) h3
    | none => .stuck := rfl
@[simp] theorem v_sAsg {h : AH} {G : Env} {p : Pat} {m : Me} : sAsg p m G h = (m G h).toS G fun d h1 => match asg p d G with
  | some G1 => .next G1 h1
  | none => .stuck := rfl
theorem enumD_eq (ds : List D) : enumD ds = (List.range ds.length).map fun i : Nat => D.tup [.int (i : Int), ds.getD i .non] := by
  unfold enumD pairsD rangeD
  apply List.ext_getElem?
  intro i
  by_cases hi : i < ds.length
  · simp [List.getElem?_zip_eq_some, hi, List.getD_eq_getElem?_getD]
  · simp [hi]
theorem rangeD_eq (n : Nat) : rangeD 0 n = (List.range n).map fun i : Nat => D.int (i : Int) := by
  unfold rangeD
  simp
theorem rangeD_from (a n : Nat) : rangeD (a : Int) n = (List.range' a n).map fun i : Nat => D.int (i : Int) := by
  unfold rangeD
  rw [List.range'_eq_map_range, List.map_map]
  apply List.map_congr_left
  intro i _
  simp
theorem enumD_len (ds : List D) : (enumD ds).length = ds.length := by rw [enumD_eq]; simp
/-! what defs hand back -/
theorem okCells_app (h t : AH) : OkCells h.length h (h ++ t) := fun m o hm e => .inl (by rwa [List.getElem?_append_left hm] at e)
theorem finD_app (h t : AH) (d : D) (hd : d.under h.length = true) : finD h.length h d (h ++ t) = .ok d h := by
  unfold finD
  by_cases q : (h ++ t).length = h.length
  · have : t = [] := by
      rw [List.length_append] at q
      exact List.eq_nil_of_length_eq_zero (by omega)
    subst this
    simp
  · rw [if_neg q, if_pos ⟨hd, okCells_app h t⟩, List.take_left']
    rfl
@[simp] theorem finD_same (h : AH) (d : D) : finD h.length h d h = .ok d h := by
  unfold finD
  rw [if_pos rfl]
theorem finL_new (h : AH) (ds : List D) (hd : underL h.length ds = true) : finL h.length h (.loc h.length) (h ++ [.lst ds]) = .ok ds h := by
  unfold finL
  have e : (h ++ [AO.lst ds])[h.length]? = some (.lst ds) := by
    rw [List.getElem?_append_right (Nat.le_refl _), Nat.sub_self]
    rfl
  simp only [e]
  rw [if_pos ⟨Nat.le_refl _, hd, okCells_app h _⟩, List.take_left']
  rfl
theorem under_ints (n : Nat) (ns : List Int) : underL n (ns.map D.int) = true := by
  induction ns with
  | nil => simp [underL]
  | cons k ns ih => simp [underL, ih, D.under]
theorem under_intF {α : Type} (n : Nat) (f : α → Int) (xs : List α) : underL n (xs.map fun x => D.int (f x)) = true := by
  induction xs with
  | nil => simp [underL]
  | cons k ns ih => simp [underL, ih, D.under]
theorem cut_from1 {α : Type} (f : α → D) (xs : List α) : cutD (xs.map f) (some 1) none = (xs.drop 1).map f := by
  unfold cutD
  have e : HT.sIx (xs.map f).length 0 (some 1) = min 1 (xs.map f).length := HT.sIx_nat _ _ 1
  have e2 : HT.sIx (xs.map f).length (xs.map f).length none = (xs.map f).length := rfl
  rw [e, e2]
  cases xs with
  | nil => rfl
  | cons x r =>
    have e3 : min 1 ((x :: r).map f).length = 1 := by
      rw [List.length_map, List.length_cons]
      omega
    rw [e3, List.take_of_length_le (by rw [List.length_drop]; exact Nat.le_refl _), List.map_drop]
theorem cut_to {α : Type} (f : α → D) (xs : List α) (n : Nat) : cutD (xs.map f) none (some (n : Int)) = (xs.take n).map f := by
  unfold cutD
  have e : HT.sIx (xs.map f).length (xs.map f).length (some (n : Int)) = min n (xs.map f).length := HT.sIx_nat _ _ n
  have e2 : HT.sIx (xs.map f).length 0 none = 0 := rfl
  rw [e, e2]
  simp [List.map_take]
theorem pairsD_map {α β : Type} (f : α → D) (g : β → D) (xs : List α) (ys : List β) : pairsD (xs.map f) (ys.map g) = (xs.zip ys).map fun p => D.tup [f p.1, g p.2] := by
  unfold pairsD
  rw [List.zip_map, List.map_map]
  rfl
end AB
/-! AB: x += e of ints; defs that leave their objects; raise of an own error. -/
namespace AB
open PySem PySem.Spec PyProof.Rows L2

/-! ### x += e, x -= e -/
noncomputable def sAug (f : Int → Int → Int) (i : Nat) (m : Me) : Ms := fun G h => match G[i]? with
  | some (some (.int k)) => (m G h).toS G fun y h1 => match y with
    | .int j => .next (G.set i (some (.int (f k j)))) h1
    | _ => .stuck
  | _ => .stuck
section
variable {X : Cx} {W : WX} {x : Str} {e : Expr} {m : Me} {op : Operator} {pos pos' : Pos} {f : Int → Int → Int}
end
@[simp] theorem v_sAug {f : Int → Int → Int} {i : Nat} {m : Me} {G : Env} {h : AH} : sAug f i m G h = (match G[i]? with
  | some (some (.int k)) => (m G h).toS G fun y h1 => match y with
    | .int j => .next (G.set i (some (.int (f k j)))) h1
    | _ => .stuck
  | _ => .stuck) := rfl
/-! ### a def whose objects stay -/
noncomputable def mDefK (n N : Nat) (body : Ms) : Fn := fun ds h => if ds.length = n then
    match body (ds.map some ++ List.replicate (N - n) none) h with
    | .next _ h1 => .ok .non h1
    | .ret d h1 => .ok d h1
    | .exc c fs _ h1 => .exc c fs h1
    | _ => .stuck
  else .stuck
section
variable {P : Program} {w : World} {K : PySem.W.Frag} {mg : Str → Option Value} {base : Heap}
theorem fn_okK {x qual : Str} {st : Stmt} {f : Addr} {fd : FuncData} {N ps : List Str} {k : Nat} (F : Fun K x qual st f fd) (S : FnScope N ps (defScope st)) (m : Ms)
    (hb : ∀ (cdv : Value) (A : Around) (outer : List PySem.Env) (s : Shared) (H : Hp) (E : XK), Room k (A.deeper (envOfC qual (defScope st) s.heap.objs.size f cdv)) →
      PSs (cxOf (L2.CX P w) P w K mg base N qual (defScope st) f cdv A outer s H E) (defBody st) (tS K mg (fun c dd _ H => E c dd H) m)) :
    FnOk P w K mg base (L2.CX P w) (k + 1) f fd ps (spM K mg (mDefK ps.length N.length m)) := by
  refine F.okX S (fun vs H Q E h => ?_) fun cdv A outer s H vs Q E hr h => ⟨_, hb cdv A outer s H E hr, ?_⟩
  · obtain ⟨w, ds, h, ra, r, o⟩ := h
    unfold mDefK at o
    split at o
    · rename_i e
      rw [ra.length]
      exact e
    · exact o.elim
  · obtain ⟨w, ds, h, ra, r, o⟩ := h
    unfold mDefK at o
    split at o
    · rename_i e
      refine ⟨w, _, h, start_rep ra, r, ?_⟩
      rw [e]
      cases em : m (ds.map some ++ List.replicate (N.length - ps.length) none) h with
      | next G1 h1 =>
        rw [em] at o
        exact fun σ' w1 H1 l g r1 => o .non w1 H1 l r1 .non
      | ret d h1 =>
        rw [em] at o
        exact fun v w1 H1 l r1 rv => o v w1 H1 l r1 rv
      | brk G1 h1 => rw [em] at o; exact o.elim
      | cont G1 h1 => rw [em] at o; exact o.elim
      | stuck => rw [em] at o; exact o.elim
      | exc c fs G1 h1 =>
        rw [em] at o
        exact fun cls dd σ' w1 H1 e l g r1 x => o cls dd w1 H1 e l r1 x
    · exact o.elim
end
/-! ### raise C(), C an own class over ValueError without an own __init__ -/
structure ExcK (K : PySem.W.Frag) (mg : Str → Option Value) (x : Str) : Prop where
  ex : ∃ (C : Addr) (bmB : List Value), mg x = some (.ref C) ∧ ExcBaseFacts "ValueError" "ValueError.__new__" "ValueError.__init__" bmB ∧ PySem.W.excIn K C bmB "ValueError.__new__" = true ∧ PySem.W.keepIn K (.ref C) = true ∧
    PySem.W.subIn K (.ref C) (.type "BaseException") = some true ∧ PySem.W.typeIn K (.ref C) = some (.type "type")
section
variable {X : Cx} {W : WX} {x : Str} {p pos pos' : Pos}
theorem pmk_own0 {C : Addr} {bmB : List Value} {B newId initId : String} (F : ExcBaseFacts B newId initId bmB) (q : PySem.W.excIn X.K C bmB newId = true) (gC : X.mg x = some (.ref C))
    (kC : PySem.W.keepIn X.K (.ref C) = true) (r : Raises X (.ref C)) (hg : Gl X x) (hdb : (x == ("__debug__" : Str)) = false := by decide) :
    PMk X (.Call (.Name x p) [] [] pos) (fun σ H Q => Q (.ref C) none H) := by
  intro pins s σ H Q I h
  refine wpAny_Call_Name_kw (ld_glob I hg gC ?_ hdb)
  refine PySem.W.callWith_K0 I.kIn kC ?_
  show wpAny _ _ (call (.ref C) []) _ _ _
  obtain ⟨bm, N, nm, qn, bs, hdct, sn, sub, ab, col, dd, k0, k1, k2, k3, k5, mN, hC, hN, hni, T⟩ := exc_obj I.kIn q
  refine wpAny_call_exc_subT F T hC hN hni (fun h' e hm => ?_) (Nat.zero_le _)
  exact mk_of I hm r h (I.hok.gone hm.new)
theorem s_raise0 (E : ExcK X.K X.mg x) (tk : Takes X W) (hc : X.calm = true := by rfl) (hg : Gl X x := by rfl) (hdb : (x == ("__debug__" : Str)) = false := by decide) : PS X (.Raise (some (.Call (.Name x p) [] [] pos)) none pos') (TSS X W (sRaise x)) := by
  obtain ⟨C, bmB, h1, h2, h3, h4, h5, h6⟩ := E.ex
  refine (L2.ps_raise hc tk (pmk_own0 h2 h3 h1 h4 (raises_own h5 h6) hg hdb)).wk fun D σ H ⟨w, G, h, g, r, o⟩ => ?_
  have o : ∀ cls dd σ' w' H', X.mg x = some cls → Le w w' → RepG X.K w' σ' G → RepH X.K w' H' h → RepX X.K w' H' dd [] → W cls dd σ' H' := o
  exact o (.ref C) none σ w H h1 (Le.refl _) g r rfl
end
end AB
/-! AB: t * k of tuples. -/
namespace AB
open PySem PySem.Spec PyProof.Rows L2
open Sem (wp)
open AutoSeq1 (wpAny_loadPart')
theorem tuple_mul1 (l : Addr) (items : Array Value) (n : Nat) (dd : Option Addr) (sl : Array (Option Value)) (u : Tok) :
    Meets (Builtin.«tuple.__mul__» ⟨[.ref l, .int 1 u], []⟩) (fun _ R s => s.heap.get? l = some { cls := .type "tuple", dict := dd, data := .seq items n, slots := sl } ∧ R (.ok (.ret (Value.ref l))) s) :=
  .of_wp fun prog w A R s h => by
    obtain ⟨hp, g, d, tk, os⟩ := s
    obtain ⟨hl, h⟩ := h
    have f1 := AutoSeq1.idx_int
    have c0 : (decide ((1 : Int) < -(2 ^ 63)) || decide ((1 : Int) ≥ 2 ^ 63)) = false := by decide
    have c1 : (items.isEmpty || (1 : Int) == 1) = true := by simp
    wp_walk using wpAny_loadPart' hl
    exact ⟨_, rfl, h⟩
noncomputable def rRepT1 (K : PySem.W.Frag) : R2 := fun x y H Q => ∃ l xs, x = .ref l ∧ y = .int 1 ∧ SqT K H l xs ∧ Q (.ref l) H
section
variable {X : Cx} {W : WX}
theorem op_repT1 : OpR X (binaryOp .Mult) (rRepT1 X.K) := by
  intro pins s σ H x y v u Q I rx ry h
  obtain ⟨l, xs, rfl, rfl, hT, q⟩ := h
  cases rx
  obtain ⟨t, rfl⟩ := ry
  obtain ⟨its, r, ⟨⟨cls, dd, data, sl⟩, ho, hc, n, hd⟩, hs⟩ := I.tuple hT
  simp only at hc hd
  subst hc hd
  exact wpAny_binaryOp_repeat_ref (T := "tuple") (U := "int") (by decide) ⟨_, ho, rfl⟩ (fun s' => typeIs_int s' 1 t) noFill_tuple_mul F.fills_int_mul F.slot_int_rmul repeat_tuple F.slot_int_index.lookup
    (call_meets F.slot_int_rmul (typeIs_int s 1 t) F.entry_int_rmul (F.args_int_rmul_2 _ _) (int_rmul_tuple 1 t l its.toArray n dd sl)
      ⟨ho, rfl, ⟨_, ho, rfl⟩, call_meets F.slot_tuple_mul ⟨_, ho, rfl⟩ F.entry_tuple_mul (F.args_tuple_mul_2 _ _) (tuple_mul1 l its.toArray n dd sl t) ⟨ho, ⟨.ref l, H, I, rfl, q⟩⟩⟩)
noncomputable def fMulA (x y : D) (h : AH) : Res D := match x, y with
  | .tup xs, .int k => if k = 1 then .ok (.tup xs) h else if 2 ≤ k ∧ k ≤ 1000 ∧ 1 ≤ xs.length ∧ xs.length ≤ 1000 then .ok (.tup (List.replicate k.toNat xs).flatten) h else .stuck
  | x, y => fMul x y h
noncomputable def rMulA (K : PySem.W.Frag) : R2 := fun x y H Q => rI CMul (fun i j => .int (i * j)) x y H Q ∨ (rRepT1 K x y H Q ∨ rRepT K x y H Q)
theorem op_mulA : OpR X (binaryOp .Mult) (rMulA X.K) := OpR.or op_mul (OpR.or op_repT1 op_repT)
theorem ra_rep {K : PySem.W.Frag} {w : Wd} {vs : List V} {ds : List D} (h : Ra K w vs ds) : ∀ k : Nat, Ra K w (List.replicate k vs).flatten (List.replicate k ds).flatten
  | 0 => .nil
  | k + 1 => by
    rw [List.replicate_succ, List.replicate_succ, List.flatten_cons, List.flatten_cons]
    exact h.append (ra_rep h k)
theorem fol_mulA : Fol2 X W fMulA (rMulA X.K) := by
  intro w h H σ Q v1 v2 d1 d2 rh r1 r2 o
  unfold fMulA at o
  split at o
  · rename_i xs k
    cases r2
    cases r1 with
    | @tup a vs _ h1 h2 =>
      split at o
      · rename_i e
        subst e
        exact .inr (.inl ⟨a, vs, rfl, rfl, rh.ex.t h1, out_ok o rh (.tup h1 h2)⟩)
      · split at o
        · rename_i c
          have hl := h2.length
          refine .inr (.inr ⟨a, k, vs, rfl, rfl, rh.ex.t h1, fun z => ?_, c.1, c.2.1, by omega, fun p hp => out_add o rh hp (rv_tup rh hp (ra_rep h2 _))⟩)
          rw [z] at hl
          simp at hl
          omega
        · exact o.elim
  · exact .inl (fol_mul w h H σ Q v1 v2 _ _ rh r1 r2 o)
end
end AB
/-! AB: comprehensions and loops that change the heap. -/
namespace AB
open PySem PySem.Spec PyProof.Rows L2
section
variable {α : Type} {p : Pat} {t : MeT} {e : Me} {body : Ms} {all0 : List D} {G0 : Env} {h : AH}
/-- a loop that knows what is behind it -/
theorem for_pre (I : List α → Env → AH → Prop) (enc : α → D) (xs : List α) : ∀ (todo done : List α), done ++ todo = xs →
    (∀ done x rest, done ++ x :: rest = xs → ∀ G h, I done G h → ∃ G1 G2 h2, asg p (enc x) G = some G1 ∧ body G1 h = .next G2 h2 ∧ I (done ++ [x]) G2 h2) →
    ∀ G h, I done G h → ∃ G' h', forGo p body none all0 (todo.map enc) G h = .next G' h' ∧ I xs G' h'
  | [], done, e, _, G, h, hI => by
    rw [List.append_nil] at e
    subst e
    exact ⟨G, h, by simp [forGo, Still], hI⟩
  | x :: r, done, e, hx, G, h, hI => by
    obtain ⟨G1, G2, h2, e1, e2, hI2⟩ := hx done x r e G h hI
    obtain ⟨G', h', e3, hI'⟩ := for_pre I enc xs r (done ++ [x]) (by rw [List.append_assoc]; exact e) hx G2 h2 hI2
    refine ⟨G', h', ?_, hI'⟩
    rw [List.map_cons]
    unfold forGo
    rw [if_pos (by trivial), e1]
    simp only [e2, e3]
end
/-! while: any fuel that is enough -/
section
variable {t : MeT} {b : Ms}
theorem whileGo_mono : ∀ (n : Nat) (G : Env) (h : AH), whileGo t b n G h ≠ .stuck → whileGo t b (n + 1) G h = whileGo t b n G h
  | 0, _, _, hn => absurd rfl hn
  | n + 1, G, h, hn => by
    have e1 : whileGo t b (n + 1) G h = (t G h).toS G fun c h1 => if c = true then
      match b G h1 with
      | .next G2 h2 => whileGo t b n G2 h2
      | .cont G2 h2 => whileGo t b n G2 h2
      | .brk G2 h2 => .next G2 h2
      | .ret x h2 => .ret x h2
      | .exc c fs G2 h2 => .exc c fs G2 h2
      | .stuck => .stuck
    else .next G h1 := rfl
    have e2 : whileGo t b (n + 1 + 1) G h = (t G h).toS G fun c h1 => if c = true then
      match b G h1 with
      | .next G2 h2 => whileGo t b (n + 1) G2 h2
      | .cont G2 h2 => whileGo t b (n + 1) G2 h2
      | .brk G2 h2 => .next G2 h2
      | .ret x h2 => .ret x h2
      | .exc c fs G2 h2 => .exc c fs G2 h2
      | .stuck => .stuck
    else .next G h1 := rfl
    rw [e1] at hn
    rw [e2, e1]
    cases ec : t G h with
    | exc c fs h1 => rfl
    | stuck => rfl
    | ok c h1 =>
      rw [ec] at hn
      simp only [Res.toS_ok] at hn ⊢
      cases c with
      | false => rfl
      | true =>
        simp only [if_true] at hn ⊢
        cases eb : b G h1 with
        | next G2 h2 =>
          rw [eb] at hn
          exact whileGo_mono n G2 h2 hn
        | cont G2 h2 =>
          rw [eb] at hn
          exact whileGo_mono n G2 h2 hn
        | brk G2 h2 => rfl
        | ret x h2 => rfl
        | exc c fs G2 h2 => rfl
        | stuck => rfl
theorem whileGo_le {n m : Nat} {G : Env} {h : AH} (hn : whileGo t b n G h ≠ .stuck) (hm : n ≤ m) : whileGo t b m G h = whileGo t b n G h := by
  obtain ⟨d, rfl⟩ : ∃ d, m = n + d := ⟨m - n, by omega⟩
  induction d with
  | zero => rfl
  | succ d ih =>
    have ih := ih (by omega)
    rw [← Nat.add_assoc, whileGo_mono (n + d) G h (by rw [ih]; exact hn), ih]
theorem while_ok {n : Nat} {G : Env} {h : AH} {r : SR} (e : whileGo t b n G h = r) (hr : r ≠ .stuck) : sWhile t b G h = r := by
  have hn : whileGo t b n G h ≠ .stuck := by rw [e]; exact hr
  unfold sWhile
  rw [dif_pos ⟨n, hn⟩]
  have hc := Classical.choose_spec (⟨n, hn⟩ : ∃ n, whileGo t b n G h ≠ .stuck)
  generalize Classical.choose (⟨n, hn⟩ : ∃ n, whileGo t b n G h ≠ .stuck) = m at hc
  rcases Nat.le_total n m with q | q
  · rw [whileGo_le hn q, e]
  · rw [← whileGo_le hc q, e]
end
/-! loops over an object that stays meanwhile -/
section
variable {α : Type} {p : Pat} {t : MeT} {e : Me} {body : Ms} {all0 : List D} {G0 : Env} {src : Option Nat}
theorem comp_okS {h : AH} (hs : Still src all0 h) (enc : α → D) (q : α → Bool) (f : α → D) : ∀ (xs : List α), (∀ x ∈ xs, ∃ G1, asg p (enc x) G0 = some G1 ∧ t G1 h = .ok (q x) h ∧ (q x = true → e G1 h = .ok (f x) h)) →
    compGo p t e src all0 G0 (xs.map enc) h = .ok ((xs.filter q).map f) h
  | [], _ => by
    rw [List.map_nil]
    unfold compGo
    rw [if_pos hs]
    rfl
  | x :: xs, hx => by
    obtain ⟨G1, e1, e2, e3⟩ := hx x List.mem_cons_self
    have ih := comp_okS hs enc q f xs fun y hy => hx y (List.mem_cons_of_mem _ hy)
    rw [List.map_cons]
    unfold compGo
    rw [if_pos hs, e1]
    simp only [e2, Res.noX_ok, Res.bind_ok]
    cases hq : q x with
    | true =>
      rw [if_pos rfl, e3 hq, List.filter_cons_of_pos hq]
      simp only [Res.noX_ok, Res.bind_ok, ih, List.map_cons]
    | false =>
      rw [if_neg (by simp), ih, List.filter_cons_of_neg (by simp [hq])]
end
end AB
/-! AB: classes: making, attributes, methods. -/
namespace AB
open PySem PySem.Spec PyProof.Rows L2

section
variable {K : PySem.W.Frag} {w : Wd} {H : Hp} {h : AH}
theorem RepH.fresh (r : RepH K w H h) {p : Addr} (u : HO) (hp : H p = none) : RepH K w (upd H p u) h ∧ Apart w p := by
  refine ⟨⟨fun a x e => ?_, r.len, r.inj, fun n o' e => ?_, fun a x e => by rw [upd_ne (ne_of_none (r.exF _ _ e) hp)]; exact r.exF _ _ e, r.dis⟩, r.ex.free hp, fun n hn => r.ne hn hp, r.exF.free hp⟩
  · have e2 := r.ex _ _ e
    rw [upd_ne (ne_of_none e2 hp)]
    exact e2
  · obtain ⟨a, b⟩ := r.cell n o' e
    have hn : n < w.N := by
      rw [r.len]
      exact (List.getElem?_eq_some_iff.mp e).1
    exact ⟨a, b.mono (Le.refl _) (upd_ne (r.ne hn hp))⟩
theorem RepH.newO (r : RepH K w H h) {p : Addr} {u : HO} {o : AO} (hp : H p = none) (ro : RepO K (w.push p) (upd H p u) p o) : RepH K (w.push p) (upd H p u) (h ++ [o]) :=
  let ⟨r1, ap⟩ := r.fresh u hp
  r1.push ap ro
/-- a machine's object as a value -/
theorem rv_loc {n : Nat} {v : V} (rv : Rv K w v (.loc n)) : v = .ref (w.mu n) ∧ n < w.N := by
  cases rv with
  | loc hn => exact ⟨rfl, hn⟩
theorem rv_new (p : Addr) : Rv K (w.push p) (.ref p) (.loc w.N) := by
  have h : Rv K (w.push p) (.ref ((w.push p).mu w.N)) (.loc w.N) := .loc (Nat.lt_succ_self _)
  rw [w.push_mu p] at h
  exact h
end

/-! ### rows of named things -/
noncomputable def putD (f : Str) (d : D) : List (Str × D) → List (Str × D)
  | [] => [(f, d)]
  | (g, x) :: r => if g = f then (g, d) :: r else (g, x) :: putD f d r
section
variable {K : PySem.W.Frag} {G : Hp} {mu : Nat → Addr} {N : Nat}
theorem rep_lookup (f : Str) : ∀ {fv : List (Str × V)} {fs : List (Str × D)}, fv.map (·.1) = fs.map (·.1) → RepAll K G mu N (fv.map (·.2)) (fs.map (·.2)) →
    (∀ d, fs.lookup f = some d → ∃ v, fv.lookup f = some v ∧ RepV K G mu N v d) ∧ (fs.lookup f = none → fv.lookup f = none)
  | [], [], _, _ => ⟨fun d e => (by cases e), fun _ => rfl⟩
  | [], _ :: _, e, _ => by cases e
  | _ :: _, [], e, _ => by cases e
  | (g, v) :: fv, (g', d) :: fs, e, r => by
    rw [List.map_cons, List.map_cons] at e r
    cases r with
    | cons r1 r2 =>
      obtain ⟨e1, e2⟩ := List.cons.inj e
      have e1 : g = g' := e1
      subst e1
      obtain ⟨i1, i2⟩ := rep_lookup f e2 r2
      refine ⟨fun x q => ?_, fun q => ?_⟩
      · rw [List.lookup_cons] at q ⊢
        cases c : f == g with
        | true =>
          rw [c] at q
          cases q
          exact ⟨v, rfl, r1⟩
        | false =>
          rw [c] at q
          exact i1 x q
      · rw [List.lookup_cons] at q ⊢
        cases c : f == g with
        | true => rw [c] at q; cases q
        | false =>
          rw [c] at q
          exact i2 q
end

/-! ### attributes -/
structure FldOk (K : PySem.W.Frag) (C f : Str) : Prop where
  get : ∀ Ca, PySem.W.nsIn K mainGlobals C = some (some (.ref Ca)) → Cls K Ca ∧ NoAttr K Ca f
noncomputable def AllC (p : Str → Prop) : List Str → Prop
  | [] => True
  | C :: cs => p C ∧ AllC p cs
theorem AllC.mem {p : Str → Prop} : ∀ {cs : List Str}, AllC p cs → ∀ C ∈ cs, p C
  | _ :: _, ⟨h1, h2⟩, C, hc => by
    rcases List.mem_cons.mp hc with rfl | hc
    · exact h1
    · exact AllC.mem h2 C hc
theorem AllC.n {p : Str → Prop} : AllC p [] := trivial
/-- o.f -/
noncomputable def mFld (cs : List Str) (f : Str) (o : Me) : Me := fun G h => (o G h).bind fun d h1 => match d with
  | .loc n => match h1[n]? with
    | some (.ins C fs) => if C ∈ cs then match fs.lookup f with
      | some x => .ok x h1
      | none => .stuck
      else .stuck
    | _ => .stuck
  | _ => .stuck
/-- o.f = v -/
noncomputable def sFldM (cs : List Str) (f : Str) (o v : Me) : Ms := fun G h => (v G h).toS G fun x h1 => (o G h1).toS G fun d h2 => match d with
  | .loc n => match h2[n]? with
    | some (.ins C fs) => if C ∈ cs ∧ fs.length < 1000 then .next G (h2.set n (.ins C (putD f x fs))) else .stuck
    | _ => .stuck
  | _ => .stuck
/-- o.f += e, of ints -/
noncomputable def sFldA (g : Int → Int → Int) (cs : List Str) (f : Str) (o v : Me) : Ms := fun G h => (o G h).toS G fun d h1 => match d with
  | .loc n => match h1[n]? with
    | some (.ins C fs) => if C ∈ cs then match fs.lookup f with
      | some (.int i) => (v G h1).toS G fun y h2 => match y, h2[n]? with
        | .int j, some (.ins C2 fs2) => if C2 = C ∧ fs2.length < 1000 then .next G (h2.set n (.ins C (putD f (.int (g i j)) fs2))) else .stuck
        | _, _ => .stuck
      | _ => .stuck
      else .stuck
    | _ => .stuck
  | _ => .stuck
section
variable {X : Cx} {W : WX} {o e value : Expr} {f : Str} {pos pos' tpos : Pos} {m mo mv : Me} {cs : List Str}
theorem e_fld (cs : List Str) (he : PE X e (TM X W m)) (hc : AllC (fun C => FldOk X.K C f) cs) (hb : attributeBase e f X.env (eval e X.env) = eval e X.env := by rfl) : PE X (.Attribute e f pos) (TM X W (mFld cs f m)) := by
  refine (pe_fld he hb).wk fun σ H Q ⟨w, G, h, g, r, o⟩ => ⟨w, G, h, g, r, o.bindE fun d h1 v w1 H1 l r1 x o1 => ?_⟩
  split at o1
  · rename_i n
    obtain ⟨rfl, hn⟩ := rv_loc x
    split at o1
    · rename_i C fs ec
      split at o1
      · rename_i hC
        split at o1
        · rename_i y ey
          obtain ⟨_, Ca, dx, fv, e1, e2, e3, ra, _⟩ := r1.cell n _ ec
          obtain ⟨c1, c2⟩ := (hc.mem C hC).get Ca e1
          obtain ⟨u, eu, ru⟩ := (rep_lookup f e3 ra).1 y ey
          exact ⟨_, Ca, dx, fv, u, rfl, e2, c1, c2, eu, o1 u w1 H1 (Le.refl _) r1 ru⟩
        · exact o1.elim
      · exact o1.elim
    · exact o1.elim
  · exact o1.elim
end
end AB
/-! AB: calls of methods, making of instances. -/
namespace AB
open PySem PySem.Spec PyProof.Rows L2

/-- o.m(..) -/
noncomputable def mMeth (tb : List (Str × Fn)) (m : Str) (o : Me) (as : MeL) : Me := fun G h => (o G h).bind fun d h1 => match d with
  | .loc n => match h1[n]? with
    | some (.ins C fs) => match tb.lookup C with
      | some fn => match fs.lookup m with
        | none => (as G h1).bind fun xs h2 => fn (.loc n :: xs) h2
        | some _ => .stuck
      | none => .stuck
    | _ => .stuck
  | _ => .stuck
/-- C(..) -/
noncomputable def mMake (C : Str) (fn : Fn) (as : MeL) : Me := fun G h => (as G h).bind fun xs h1 => (fn (.loc h1.length :: xs) (h1 ++ [.ins C []])).bind fun v h2 => match v with
  | .non => .ok (.loc h1.length) h2
  | _ => .stuck
section
variable {X : Cx} {W : WX} {m : Str} {k' : Nat} {o e : Expr} {es : List Expr} {ta : TE} {t : TA} {apos pos : Pos} {pl : Sem Bool} {mo : Me} {as : MeL} {tb : List (Str × Fn)}
end
/-! ### making -/
section
variable {X : Cx} {W : WX} {x : Str} {k k' : Nat} {f C : Addr} {fd : FuncData} {ps : List Str} {sp : Sp} {e : Expr} {es : List Expr} {t : TA} {p pos : Pos} {as : MeL} {fn : Fn}
end
end AB
/-! AB: dicts whose keys are ints and texts, as objects of the machine. -/
namespace AB
open PySem PySem.Spec PyProof.Rows L2

noncomputable abbrev KD := List (L2.Key × D)
noncomputable def keyD : L2.Key → D
  | .inl i => .int i
  | .inr x => .str x
noncomputable def toKey : D → Option L2.Key
  | .int i => some (.inl i)
  | .str x => some (.inr x)
  | _ => none
noncomputable def valD (kvs : KD) (k : L2.Key) : Option D := (kvs.find? fun kv => decide (kv.1 = k)).map (·.2)
noncomputable def putKD (kvs : KD) (k : L2.Key) (d : D) : KD := if (kvs.any fun kv => decide (kv.1 = k)) = true then kvs.map (fun kv => if kv.1 = k then (kv.1, d) else kv) else kvs ++ [(k, d)]
section
variable {K : PySem.W.Frag} {G : Hp} {mu : Nat → Addr} {N : Nat}
theorem toKey_rep {v : V} {d : D} {k : L2.Key} (r : RepV K G mu N v d) (e : toKey d = some k) : v = kV k := by
  cases r <;> first | (cases e; rfl) | cases e
theorem keyD_rep (k : L2.Key) : RepV K G mu N (kV k) (keyD k) := by
  cases k with
  | inl i => exact .int i
  | inr x => exact .str x
theorem rep_val (k : L2.Key) : ∀ {kv : List (L2.Key × V)} {kvs : KD}, kv.map (·.1) = kvs.map (·.1) → RepAll K G mu N (kv.map (·.2)) (kvs.map (·.2)) →
    (∀ d, valD kvs k = some d → ∃ v, valV kv k = some v ∧ RepV K G mu N v d) ∧ (valD kvs k = none → valV kv k = none)
  | [], [], _, _ => ⟨fun d e => (by cases e), fun _ => rfl⟩
  | [], _ :: _, e, _ => by cases e
  | _ :: _, [], e, _ => by cases e
  | (g, v) :: fv, (g', d) :: fs, e, r => by
    rw [List.map_cons, List.map_cons] at e r
    cases r with
    | cons r1 r2 =>
      obtain ⟨e1, e2⟩ := List.cons.inj e
      have e1 : g = g' := e1
      subst e1
      obtain ⟨i1, i2⟩ := rep_val k e2 r2
      by_cases c : g = k
      · have q1 : valV ((g, v) :: fv) k = some v := valV_pos c
        have q2 : valD ((g, d) :: fs) k = some d := by simp [valD, List.find?_cons, c]
        rw [q1, q2]
        exact ⟨fun x q => by cases q; exact ⟨v, rfl, r1⟩, fun q => by cases q⟩
      · have q1 : valV ((g, v) :: fv) k = valV fv k := valV_neg c
        have q2 : valD ((g, d) :: fs) k = valD fs k := by simp [valD, List.find?_cons, c]
        rw [q1, q2]
        exact ⟨i1, i2⟩
theorem any_keys (k : L2.Key) : ∀ {kv : List (L2.Key × V)} {kvs : KD}, kv.map (·.1) = kvs.map (·.1) → (kv.any fun x => decide (x.1 = k)) = (kvs.any fun x => decide (x.1 = k))
  | [], [], _ => rfl
  | [], _ :: _, e => by cases e
  | _ :: _, [], e => by cases e
  | (g, v) :: fv, (g', d) :: fs, e => by
    rw [List.map_cons, List.map_cons] at e
    obtain ⟨e1, e2⟩ := List.cons.inj e
    have e1 : g = g' := e1
    subst e1
    rw [List.any_cons, List.any_cons, any_keys k e2]
theorem rep_mapK (k : L2.Key) {v : V} {d : D} (rv : RepV K G mu N v d) : ∀ {kv : List (L2.Key × V)} {kvs : KD}, kv.map (·.1) = kvs.map (·.1) → RepAll K G mu N (kv.map (·.2)) (kvs.map (·.2)) →
    (kv.map fun x => if x.1 = k then (x.1, v) else x).map (·.1) = (kvs.map fun x => if x.1 = k then (x.1, d) else x).map (·.1) ∧ RepAll K G mu N ((kv.map fun x => if x.1 = k then (x.1, v) else x).map (·.2)) ((kvs.map fun x => if x.1 = k then (x.1, d) else x).map (·.2))
  | [], [], _, _ => ⟨rfl, .nil⟩
  | [], _ :: _, e, _ => by cases e
  | _ :: _, [], e, _ => by cases e
  | (g, x) :: fv, (g', y) :: fs, e, r => by
    rw [List.map_cons, List.map_cons] at e r
    cases r with
    | cons r1 r2 =>
      obtain ⟨e1, e2⟩ := List.cons.inj e
      have e1 : g = g' := e1
      subst e1
      obtain ⟨i1, i2⟩ := rep_mapK k rv e2 r2
      rw [List.map_cons, List.map_cons, List.map_cons, List.map_cons, List.map_cons, List.map_cons]
      by_cases c : g = k
      · rw [if_pos c, if_pos c]
        exact ⟨by rw [i1], .cons rv i2⟩
      · rw [if_neg c, if_neg c]
        exact ⟨by rw [i1], .cons r1 i2⟩
theorem rep_putK (k : L2.Key) {v : V} {d : D} (rv : RepV K G mu N v d) {kv : List (L2.Key × V)} {kvs : KD} (e : kv.map (·.1) = kvs.map (·.1)) (r : RepAll K G mu N (kv.map (·.2)) (kvs.map (·.2))) :
    (putK kv k v).map (·.1) = (putKD kvs k d).map (·.1) ∧ RepAll K G mu N ((putK kv k v).map (·.2)) ((putKD kvs k d).map (·.2)) := by
  unfold putK putKD
  rw [any_keys k e]
  by_cases c : (kvs.any fun x => decide (x.1 = k)) = true
  · rw [if_pos c, if_pos c]
    exact rep_mapK k rv e r
  · rw [if_neg c, if_neg c]
    refine ⟨by rw [List.map_append, List.map_append, e]; rfl, ?_⟩
    rw [List.map_append, List.map_append]
    exact r.append (.cons rv .nil)
end
/-- the dict at n, locked or not -/
noncomputable def dctAt (h : AH) (n : Nat) : Option KD := match h[n]? with
  | some (.dct kvs) => some kvs
  | some (.lck kvs) => some kvs
  | _ => none
theorem dct_rd {K : PySem.W.Frag} {w : Wd} {H : Hp} {h : AH} {n : Nat} {kvs : KD} (r : RepH K w H h) (e : dctAt h n = some kvs) : ∃ kv, Rd H (w.mu n) (.dK kv) ∧ kv.map (·.1) = kvs.map (·.1) ∧ Ra K w (kv.map (·.2)) (kvs.map (·.2)) := by
  unfold dctAt at e
  split at e
  · rename_i ks ek
    cases e
    obtain ⟨_, kv, e1, e2, ra⟩ := r.cell n _ ek
    exact ⟨kv, .inl e1, e2, ra⟩
  · rename_i ks ek
    cases e
    obtain ⟨_, o, kv, e1, _, e2, ra⟩ := r.cell n _ ek
    exact ⟨kv, .inr ⟨o, e1⟩, e2, ra⟩
  · cases e
/-- k in d -/
noncomputable def fDIn (x y : D) (h : AH) : Res D := match y with
  | .loc n => match dctAt h n, toKey x with
    | some kvs, some k => .ok (.bl (valD kvs k).isSome) h
    | _, _ => .stuck
  | _ => .stuck
/-- {} -/
noncomputable def mDNew : Me := fun _ h => .ok (.loc h.length) (h ++ [.dct []])
/-- d[k] = v -/
noncomputable def sDPutM (o k v : Me) : Ms := fun G h => (v G h).toS G fun x h1 => (o G h1).toS G fun d h2 => (k G h2).toS G fun j h3 => match d with
  | .loc n => match h3[n]?, toKey j with
    | some (.dct kvs), some q => if kvs.length < big then .next G (h3.set n (.dct (putKD kvs q x))) else .stuck
    | _, _ => .stuck
  | _ => .stuck
section
variable {X : Cx} {W : WX} {o i e f value : Expr} {pos pos' tpos apos cpos : Pos} {mo mk mv mx : Me}
theorem dget_of {w : Wd} {H : Hp} {h : AH} {n : Nat} {kvs : KD} {y : V} {d : D} {k : L2.Key} (r : RepH X.K w H h) (e : dctAt h n = some kvs) (ry : Rv X.K w y d) (ek : toKey d = some k) :
    ∃ ov, DGet H (w.mu n) y ov ∧ (∀ x, valD kvs k = some x → ∃ v, ov = some v ∧ Rv X.K w v x) ∧ (valD kvs k = none → ov = none) := by
  obtain ⟨kv, e1, e2, ra⟩ := dct_rd r e
  have ey := toKey_rep ry ek
  subst ey
  exact ⟨valV kv k, .inl ⟨kv, k, e1, rfl, rfl⟩, (rep_val k e2 ra).1, (rep_val k e2 ra).2⟩
theorem isSome_of {kvs : KD} {k : L2.Key} {ov : Option V} {w : Wd} (h1 : ∀ x, valD kvs k = some x → ∃ v, ov = some v ∧ Rv X.K w v x) (h2 : valD kvs k = none → ov = none) : ov.isSome = (valD kvs k).isSome := by
  cases e : valD kvs k with
  | none => rw [h2 e]; rfl
  | some x =>
    obtain ⟨v, ev, _⟩ := h1 x e
    rw [ev]
    rfl
noncomputable def rDIn (b : Bool) : R2 := fun x y H Q => ∃ a o, y = .ref a ∧ DGet H a x o ∧ Q (.bl (if b then o.isSome else !o.isSome)) H
theorem op_dIn (hu : X.A.units + 1 < cLine) : OpR X (compareOp .In) (rDIn true) := by
  rintro pins s σ H x y u v Q I rx ry ⟨a, o, rfl, g, q⟩
  obtain rfl : v = Value.ref a := ry
  exact d_in hu I g rx fun s3 I3 => ⟨.bl o.isSome, H, I3, rfl, q⟩
theorem fol_dIn : Fol2 X W fDIn (rDIn true) := by
  intro w h H σ Q v1 v2 d1 d2 rh r1 r2 o
  unfold fDIn at o
  split at o
  · rename_i n
    obtain ⟨rfl, hn⟩ := rv_loc r2
    split at o
    · rename_i kvs k e1 e2
      obtain ⟨ov, g1, g2, g3⟩ := dget_of rh e1 r1 e2
      refine ⟨_, ov, rfl, g1, ?_⟩
      have q := isSome_of g2 g3
      rw [if_pos rfl, q]
      exact o _ w H (Le.refl _) rh (.bl _)
    · exact o.elim
  · exact o.elim
theorem e_dnew : PE X (.Dict [] [] pos) (TM X W mDNew) := by
  refine pe_dnewK.wk fun σ H Q ⟨w, G, h, g, r, o⟩ => fun p hp => ?_
  have r1 := r.newO (u := .dK []) (o := .dct []) hp ⟨[], upd_same, rfl, .nil⟩
  have rx := rv_new (K := X.K) (w := w) p
  rw [r.len] at rx
  exact o (.ref p) (w.push p) _ (w.le_push p) r1 rx
theorem set_dct {w : Wd} {H : Hp} {h : AH} {n : Nat} {kvs : KD} {kv : List (L2.Key × V)} (r : RepH X.K w H h) (hn : n < w.N) (e2 : kv.map (·.1) = kvs.map (·.1)) (ra : Ra X.K w (kv.map (·.2)) (kvs.map (·.2))) :
    RepH X.K w (upd H (w.mu n) (.dK kv)) (h.set n (.dct kvs)) := r.set hn ⟨kv, upd_same, e2, ra⟩
theorem kv_len {kv : List (L2.Key × V)} {kvs : KD} (e : kv.map (·.1) = kvs.map (·.1)) : kv.length = kvs.length := by
  have := congrArg List.length e
  simpa using this
theorem s_dput (hu : X.A.units + 1 < cLine) (ho : PE X o (TM X W mo)) (hi : PE X i (TM X W mk)) (hv : PE X value (TM X W mv)) (hs : swapsWith value (some (.Subscript o i pos')) pos.line X.env = pure false := by rfl) :
    PS X (.Assign [.Subscript o i pos'] value pos) (TSS X W (sDPutM mo mk mv)) := by
  refine (ps_dput hu ho hi hv hs).wk fun D σ H ⟨w, G, h, g, r, o⟩ => ⟨w, G, h, g, r, OutS.bindE (m := mv) g o fun x h1 v w1 H1 l1 r1 rx o1 => ?_⟩
  have g1 := g.mono l1
  refine ⟨w1, G, h1, g1, r1, OutS.bindE (m := mo) g1 o1 fun d h2 v2 w2 H2 l2 r2 rd o2 => ?_⟩
  have g2 := g1.mono l2
  refine ⟨w2, G, h2, g2, r2, OutS.bindE (m := mk) g2 o2 fun j h3 v3 w3 H3 l3 r3 rj o3 => ?_⟩
  split at o3
  · rename_i n
    obtain ⟨rfl, hn⟩ := rv_loc rd
    split at o3
    · rename_i kvs q e1 e2
      split at o3
      · rename_i hl
        obtain ⟨_, kv, f1, f2, ra⟩ := r3.cell n _ e1
        have ey := toKey_rep rj e2
        subst ey
        have emu : w3.mu n = w2.mu n := l3.mu n hn
        have hn3 : n < w3.N := Nat.lt_of_lt_of_le hn l3.n
        obtain ⟨p1, p2⟩ := rep_putK q (Rv_mono (l2.trans l3) rx) f2 ra
        refine ⟨_, upd H3 (w3.mu n) (.dK (putK kv q v)), rfl, .inl ⟨kv, q, ?_, rfl, big_lt (by rw [kv_len f2]; exact hl), ?_⟩, ?_⟩
        · rw [← emu]; exact f1
        · rw [emu]
        · exact o3 σ w3 _ (Le.refl _) (g2.mono l3) (set_dct r3 hn3 p1 p2)
      · exact o3.elim
    · exact o3.elim
  · exact o3.elim
end
end AB
/-! AB: loops over dicts, which are locked meanwhile. -/
namespace AB
open PySem PySem.Spec PyProof.Rows L2

noncomputable def pickI (kv : L2.Key × D) : D := .tup [keyD kv.1, kv.2]
noncomputable def pickK (kv : L2.Key × D) : D := keyD kv.1
noncomputable def pickV (kv : L2.Key × D) : D := kv.2
open Classical in
noncomputable def forGoD (p : Pat) (body : Ms) (pick : L2.Key × D → D) (n : Nat) (kvs : KD) : KD → Env → AH → SR
  | [], G, h => if h[n]? = some (.lck kvs) then .next G (h.set n (.dct kvs)) else .stuck
  | x :: r, G, h => if h[n]? = some (.lck kvs) then
      match asg p (pick x) G with
      | some G1 => match body G1 h with
        | .next G2 h2 => forGoD p body pick n kvs r G2 h2
        | .cont G2 h2 => forGoD p body pick n kvs r G2 h2
        | .brk G2 h2 => if h2[n]? = some (.lck kvs) then .next G2 (h2.set n (.dct kvs)) else .stuck
        | .ret d h2 => if h2[n]? = some (.lck kvs) then .ret d (h2.set n (.dct kvs)) else .stuck
        | _ => .stuck
      | none => .stuck
    else .stuck
open Classical in
/-- for .. in d.items() (keys, values): d is a plain thing, a name or an attribute -/
noncomputable def sForD (pick : L2.Key × D → D) (p : Pat) (o : Me) (body : Ms) : Ms := fun G h => match o G h with
  | .ok (.loc n) h1 => if h1 = h then (match h[n]? with
    | some (.dct kvs) => if o G (h.set n (.lck kvs)) = .ok (.loc n) (h.set n (.lck kvs)) then forGoD p body pick n kvs kvs G (h.set n (.lck kvs)) else .stuck
    | _ => .stuck) else .stuck
  | _ => .stuck
/-- other locks -/
noncomputable def Wd.lkd (w : Wd) (L : Hp) : Wd := ⟨w.S, w.F, w.mu, w.N, L⟩
section
variable {K : PySem.W.Frag} {w : Wd} {H : Hp} {h : AH}
theorem RepH.relk (r : RepH K w H h) {n : Nat} {u : HO} {o : AO} {L : Hp} (hn : n < w.N) (hL : ∀ a, a ≠ w.mu n → L a = w.LK a) (ro : RepO K (w.lkd L) (upd H (w.mu n) u) (w.mu n) o) : RepH K (w.lkd L) (upd H (w.mu n) u) (h.set n o) := by
  refine ⟨fun a x e => ?_, by rw [List.length_set]; exact r.len, r.inj, fun m o' e => ?_, fun a x e => by rw [upd_ne (fun z => (r.dis a x e).2 n hn z.symm)]; exact r.exF _ _ e, r.dis⟩
  · have hl : n < h.length := by rw [← r.len]; exact hn
    obtain ⟨z, _⟩ := r.cell n h[n] (List.getElem?_eq_getElem hl)
    have q : a ≠ w.mu n := by
      intro y
      have e : w.S a = some x := e
      rw [y, z] at e
      cases e
    rw [upd_ne q]
    exact r.ex _ _ e
  · by_cases hm : m = n
    · subst hm
      have hl : m < h.length := by rw [← r.len]; exact hn
      obtain ⟨z, _⟩ := r.cell m h[m] (List.getElem?_eq_getElem hl)
      rw [List.getElem?_set_self hl] at e
      cases e
      exact ⟨z, ro⟩
    · rw [List.getElem?_set_ne (Ne.symm hm)] at e
      obtain ⟨a, b⟩ := r.cell m o' e
      have hl : m < w.N := by rw [r.len]; exact (List.getElem?_eq_some_iff.mp e).1
      have hne : w.mu m ≠ w.mu n := fun z => hm (r.inj m n hl hn z)
      refine ⟨a, ?_⟩
      have b2 : RepO K w (upd H (w.mu n) u) (w.mu m) o' := b.mono (Le.refl w) (upd_ne hne)
      show RepO K (w.lkd L) (upd H (w.mu n) u) (w.mu m) o'
      cases o' with
      | lst ds => exact b2
      | ins C fs => exact b2
      | dct kvs => exact b2
      | lck kvs =>
        obtain ⟨o, kv, e1, e0, e2, ra⟩ := b2
        exact ⟨o, kv, e1, (hL _ hne).trans e0, e2, ra⟩
      | hld ks => exact b2
end
section
variable {X : Cx} {W : WX} {tg iter e : Expr} {body : List Stmt} {pos apos cpos : Pos} {p : Pat} {mo : Me} {mb : Ms} {pick : L2.Key × D → D}
/-- what is walked of the locked dict at a -/
structure WalksD (K : PySem.W.Frag) (J : Addr → Obj → List (L2.Key × V) → It) (pick : L2.Key × D → D) : Prop where
  go : ∀ d o kvs i H, H d = some (.frz o (.dK kvs)) → i < kvs.length → (J d o kvs).go i H
  stop : ∀ d o kvs i H, H d = some (.frz o (.dK kvs)) → kvs.length ≤ i → (J d o kvs).stop i H
  yld : ∀ (w : Wd) (h : AH) d o kvs (ks : KD) i H x H2 kd, RepH K w H h → (J d o kvs).yld i H x H2 → kvs.map (·.1) = ks.map (·.1) → Ra K w (kvs.map (·.2)) (ks.map (·.2)) → ks[i]? = some kd →
    ∃ w2, Le w w2 ∧ RepH K w2 H2 h ∧ Rv K w2 x (pick kd)
theorem at_both {K : PySem.W.Frag} {w : Wd} {kvs : List (L2.Key × V)} {ks : KD} {i : Nat} {kd : L2.Key × D} {k : L2.Key} {v : V} (e : kvs.map (·.1) = ks.map (·.1)) (ra : Ra K w (kvs.map (·.2)) (ks.map (·.2))) (h1 : ks[i]? = some kd) (h2 : kvs[i]? = some (k, v)) :
    k = kd.1 ∧ Rv K w v kd.2 := by
  have q1 : (kvs.map (·.1))[i]? = some k := by rw [List.getElem?_map, h2]; rfl
  rw [e, List.getElem?_map, h1] at q1
  have q2 : (ks.map (·.2))[i]? = some kd.2 := by rw [List.getElem?_map, h1]; rfl
  obtain ⟨u, e1, ru⟩ := ra.get q2
  rw [List.getElem?_map, h2] at e1
  cases q1
  cases e1
  exact ⟨rfl, ru⟩
theorem walks_items {K : PySem.W.Frag} : WalksD K Iti pickI := by
  refine ⟨fun d o kvs i H h1 h2 => ⟨h1, h2⟩, fun d o kvs i H h1 h2 => ⟨h1, h2⟩, ?_⟩
  rintro w h d o kvs ks i H x H2 kd r ⟨T, k, v, e1, rfl, e2, rfl⟩ e ra ek
  obtain ⟨rfl, rv⟩ := at_both e ra ek e1
  refine ⟨w.add T (.tup [kV kd.1, v]), r.le_add e2, r.add e2, .tup (.inl (.inl upd_same)) (.cons (Rv_mono (r.le_add e2) (keyD_rep kd.1)) (.cons (Rv_mono (r.le_add e2) rv) .nil))⟩
theorem walks_vals {K : PySem.W.Frag} : WalksD K Itd pickV := by
  refine ⟨fun d o kvs i H h1 h2 => ⟨h1, h2⟩, fun d o kvs i H h1 h2 => ⟨h1, h2⟩, ?_⟩
  rintro w h d o kvs ks i H x H2 kd r ⟨rfl, k, e1⟩ e ra ek
  obtain ⟨rfl, rv⟩ := at_both e ra ek e1
  exact ⟨w, Le.refl _, r, rv⟩
theorem s_forD {J : Addr → Obj → List (L2.Key × V) → It} (wk : WalksD X.K J pick) {ti : TI} (hti : ∀ σ H (R : It → Hp → Prop), (TM X W mo σ H fun x H1 => ∃ d o kvs, x = .ref d ∧ H1 d = some (.frz o (.dK kvs)) ∧ R (J d o kvs) H1) → ti σ H R)
    (hp : PassesOwn (model X.prog X.w) X.A X.env X.xe) (hi : PI X tg iter ti) (hg : PG X tg (gP X.K p)) (hb : PSs X body (TSS X W mb)) (hc : X.calm = true := by rfl) (hs : ∀ x, foldedSetIterable iter X.env x = pure x := by intro _; rfl) :
    PS X (.For tg iter body [] pos) (TSS X W (sForD pick p mo mb)) := by
  refine (ps_lock (ps_for hp hc hi hg hb hs)).wk fun D σ H ⟨w, G, h, g, r, o⟩ => ?_
  unfold sForD at o
  split at o
  · rename_i n h1 eo
    split at o
    · rename_i eh
      subst eh
      split at o
      · rename_i kvs ec
        split at o
        · rename_i eo2
          have hn : n < w.N := by rw [r.len]; exact (List.getElem?_eq_some_iff.mp ec).1
          obtain ⟨sN, kv, e1, e2, ra⟩ := r.cell n _ ec
          refine ⟨w.mu n, .dK kv, e1, trivial, fun od => ?_⟩
          obtain ⟨wL, hwL⟩ : ∃ wL, wL = w.lkd (upd w.LK (w.mu n) (.frz od (.dK kv))) := ⟨_, rfl⟩
          have rL : RepH X.K wL (upd H (w.mu n) (.frz od (.dK kv))) (h1.set n (.lck kvs)) := by
            rw [hwL]
            exact r.relk hn (fun a ha => upd_ne ha) ⟨od, kv, upd_same, upd_same, e2, ra⟩
          have gL : RepG X.K wL σ G := by rw [hwL]; exact g
          have hnL : n < wL.N := by rw [hwL]; exact hn
          have muL : wL.mu n = w.mu n := by rw [hwL]; rfl
          have lkL : wL.LK = upd w.LK (w.mu n) (.frz od (.dK kv)) := by rw [hwL]; rfl
          -- the locked dict later
          have back : ∀ w' H' h', Le wL w' → RepH X.K w' H' h' → h'[n]? = some (.lck kvs) → w'.mu n = w.mu n ∧ H' (w.mu n) = some (.frz od (.dK kv)) ∧ Ra X.K w' (kv.map (·.2)) (kvs.map (·.2)) := by
            intro w' H' h' l' r' e'
            obtain ⟨_, o', kv', f1, f0, f2, ra'⟩ := r'.cell n _ e'
            have em : w'.mu n = w.mu n := (l'.mu n hnL).trans muL
            rw [em, l'.lk, lkL, upd_same] at f0
            cases f0
            rw [em] at f1
            exact ⟨em, f1, ra'⟩
          -- the unlocked state
          have un : ∀ w' H' h', Le wL w' → RepH X.K w' H' h' → h'[n]? = some (.lck kvs) → Le w (w'.lkd w.LK) ∧ RepH X.K (w'.lkd w.LK) (upd H' (w.mu n) (.dK kv)) (h'.set n (.dct kvs)) := by
            intro w' H' h' l' r' e'
            obtain ⟨em, f1, ra'⟩ := back w' H' h' l' r' e'
            have hn' : n < w'.N := Nat.lt_of_lt_of_le hnL l'.n
            refine ⟨⟨?_, ?_, ?_, ?_, rfl⟩, ?_⟩
            · have := l'.ex; rw [hwL] at this; exact this
            · have := l'.n; rw [hwL] at this; exact this
            · have := l'.mu; rw [hwL] at this; exact this
            · have := l'.f; rw [hwL] at this; exact this
            · rw [← em]
              exact r'.relk hn' (fun a ha => by
                rw [l'.lk, lkL, upd_ne]
                rw [← em]
                exact ha) ⟨kv, upd_same, e2, ra'⟩
          have endN : ∀ {G2 : Env} {h2 : AH} {w2 : Wd} {σ2 : L2.St} {H2 : Hp}, h2[n]? = some (.lck kvs) → OutS X.K X.mg W D w (.next G2 (h2.set n (.dct kvs))) → Le wL w2 → RepG X.K w2 σ2 G2 → RepH X.K w2 H2 h2 →
              H2 (w.mu n) = some (.frz od (.dK kv)) ∧ D.nx σ2 (upd H2 (w.mu n) (.dK kv)) := by
            intro G2 h2 w2 σ2 H2 e' o' l' g' r'
            obtain ⟨u1, u2⟩ := un w2 H2 h2 l' r' e'
            exact ⟨(back w2 H2 h2 l' r' e').2.1, o' σ2 _ _ u1 g' u2⟩
          refine hti _ _ _ ⟨wL, G, _, gL, rL, ?_⟩
          rw [eo2]
          intro v w1 H1 l1 r1 rv
          obtain ⟨rfl, hn1⟩ := rv_loc rv
          have hlc : (h1.set n (.lck kvs))[n]? = some (.lck kvs) := by
            rw [List.getElem?_set_self (by rw [← r.len]; exact hn)]
          obtain ⟨em1, f1, ra1⟩ := back w1 H1 _ l1 r1 hlc
          have hlen : kv.length = kvs.length := kv_len e2
          refine ⟨w1.mu n, od, kv, rfl, by rw [em1]; exact f1, ?_⟩
          rw [em1]
          refine ⟨fun i m σ' H' => m = kvs.length - i ∧ i ≤ kvs.length ∧ ∃ w' G' h', Le wL w' ∧ RepG X.K w' σ' G' ∧ RepH X.K w' H' h' ∧ OutS X.K X.mg W D w (forGoD p mb pick n kvs (kvs.drop i) G' h'),
            ⟨kvs.length, by simp, Nat.zero_le _, w1, G, _, l1, gL.mono l1, r1, by simpa using o⟩, ?_⟩
          rintro i m σ' H' ⟨rfl, hi2, w', G', h', l', g', r', o'⟩
          by_cases hlt : i < kvs.length
          · have ed : kvs.drop i = kvs[i] :: kvs.drop (i + 1) := List.drop_eq_getElem_cons hlt
            rw [ed] at o'
            unfold forGoD at o'
            split at o'
            · rename_i still
              obtain ⟨em', f', ra'⟩ := back w' H' h' l' r' still
              refine .inr ⟨wk.go _ _ _ i H' f' (by omega), fun σ2 H2 => ∃ w' G' h', Le wL w' ∧ RepG X.K w' σ2 G' ∧ RepH X.K w' H2 h' ∧ OutS X.K X.mg W D w (forGoD p mb pick n kvs (kvs.drop (i + 1)) G' h'),
                fun σ2 H2 hN => ⟨kvs.length - (i + 1), by omega, rfl, hlt, hN⟩, fun x H2 hy => ?_⟩
              obtain ⟨w2, l2, r2, rv2⟩ := wk.yld w' h' _ _ _ kvs i H' x H2 kvs[i] r' hy e2 ra' (List.getElem?_eq_getElem hlt)
              split at o'
              · rename_i G1 ea
                refine asg_rep r2 p (pick kvs[i]) x σ' G' G1 _ rv2 (g'.mono l2) ea fun σ3 g3 _ => ?_
                refine ⟨w2, G1, h', g3, r2, ?_⟩
                cases eb : mb G1 h' with
                | next G2 h2 =>
                  rw [eb] at o'
                  exact fun σ4 w4 H4 l4 g4 r4 => ⟨w4, G2, h2, l'.trans (l2.trans l4), g4, r4, o'⟩
                | cont G2 h2 =>
                  rw [eb] at o'
                  exact fun σ4 w4 H4 l4 g4 r4 => ⟨w4, G2, h2, l'.trans (l2.trans l4), g4, r4, o'⟩
                | brk G2 h2 =>
                  rw [eb] at o'
                  simp only at o'
                  split at o'
                  · rename_i e'
                    exact fun σ4 w4 H4 l4 g4 r4 => endN e' o' (l'.trans (l2.trans l4)) g4 r4
                  · exact o'.elim
                | ret d h2 =>
                  rw [eb] at o'
                  simp only at o'
                  split at o'
                  · rename_i e'
                    intro v4 w4 H4 l4 r4 x4
                    have l5 := l'.trans (l2.trans l4)
                    obtain ⟨u1, u2⟩ := un w4 H4 h2 l5 r4 e'
                    exact ⟨(back w4 H4 h2 l5 r4 e').2.1, o' v4 (w4.lkd w.LK) _ u1 u2 x4⟩
                  · exact o'.elim
                | exc c fs G2 h2 => rw [eb] at o'; exact o'.elim
                | stuck => rw [eb] at o'; exact o'.elim
              · exact o'.elim
            · exact o'.elim
          · have e : i = kvs.length := by omega
            subst e
            rw [List.drop_length] at o'
            unfold forGoD at o'
            split at o'
            · rename_i still
              obtain ⟨em', f', ra'⟩ := back w' H' h' l' r' still
              exact .inl ⟨wk.stop _ _ _ _ H' f' (by omega), endN still o' l' g' r'⟩
            · exact o'.elim
        · exact o.elim
      · exact o.elim
    · exact o.elim
  · exact o.elim
theorem s_forItems {elts : List Expr} {kk : Nat} {tpos : Pos} (hp : PassesOwn (model X.prog X.w) X.A X.env X.xe) (he : PE X e (TM X W mo)) (hg : PG X (.Tuple elts kk tpos) (gP X.K p)) (hb : PSs X body (TSS X W mb)) (hc : X.calm = true := by rfl)
    (hbase : attributeBase e "items" X.env (eval e X.env) = eval e X.env := by rfl) (hline : (apos.endLine == cpos.line) = true := by rfl)
    (hs : ∀ x, foldedSetIterable (.Call (.Attribute e "items" apos) [] [] cpos) X.env x = pure x := by intro _; rfl) :
    PS X (.For (.Tuple elts kk tpos) (.Call (.Attribute e "items" apos) [] [] cpos) body [] pos) (TSS X W (sForD pickI p mo mb)) :=
  s_forD walks_items (fun σ H R t => t) hp (pi_items he hbase hline) hg hb hc hs
theorem s_forVals (hp : PassesOwn (model X.prog X.w) X.A X.env X.xe) (he : PE X e (TM X W mo)) (hg : PG X tg (gP X.K p)) (hb : PSs X body (TSS X W mb)) (hc : X.calm = true := by rfl)
    (hbase : attributeBase e "values" X.env (eval e X.env) = eval e X.env := by rfl) (hline : (apos.endLine == cpos.line) = true := by rfl)
    (hs : ∀ x, foldedSetIterable (.Call (.Attribute e "values" apos) [] [] cpos) X.env x = pure x := by intro _; rfl) :
    PS X (.For tg (.Call (.Attribute e "values" apos) [] [] cpos) body [] pos) (TSS X W (sForD pickV p mo mb)) :=
  s_forD walks_vals (fun σ H R t => t) hp (pi_values he hbase hline) hg hb hc hs
end
theorem hu1 {k : Nat} {A : Around} (hr : Room k A) : A.units + 1 < cLine := by
  have := hr.un
  omega
end AB
/-! AB: try .. except C as e. -/
namespace AB
open PySem PySem.Spec PyProof.Rows L2

/-- slot i goes -/
noncomputable def wipeS (i : Nat) : SR → SR
  | .next G h => .next (G.set i none) h
  | .ret d h => .ret d h
  | .brk G h => .brk (G.set i none) h
  | .cont G h => .cont (G.set i none) h
  | _ => .stuck
@[simp] theorem wipeS_next (i : Nat) (G : Env) (h : AH) : wipeS i (.next G h) = .next (G.set i none) h := rfl
@[simp] theorem wipeS_ret (i : Nat) (d : D) (h : AH) : wipeS i (.ret d h) = .ret d h := rfl
@[simp] theorem wipeS_brk (i : Nat) (G : Env) (h : AH) : wipeS i (.brk G h) = .brk (G.set i none) h := rfl
@[simp] theorem wipeS_cont (i : Nat) (G : Env) (h : AH) : wipeS i (.cont G h) = .cont (G.set i none) h := rfl
/-- a suite, by the error's address; it does not tell which -/
noncomputable abbrev Su := Addr → Ms
structure Par (i : Nat) (m : Su) : Prop where
  eq : ∀ (a : Addr) (G : Env) (h : AH), i < G.length → wipeS i (m a (G.set i (some (.con a))) h) = wipeS i (m 0 (G.set i (some (.con 0))) h)
noncomputable def tryK (i : Nat) (tb : List (Str × Option Su)) (G : Env) (h : AH) (c : Str) (fs : List (Str × D)) : SR := match tb.lookup c, fs with
  | some (some m), [] => if i < G.length then wipeS i (m 0 (G.set i (some (.con 0))) h) else .stuck
  | some none, _ => .exc c fs G h
  | _, _ => .stuck
/-- try: body / except C as e (slot i): by the class of what comes, a suite or nothing -/
noncomputable def sTry (i : Nat) (tb : List (Str × Option Su)) (body : Ms) : Ms := fun G h => match body G h with
  | .exc c fs G1 h1 => tryK i tb G1 h1 c fs
  | r => r
noncomputable def WF : WX := fun _ _ _ _ => False
section
variable {K : PySem.W.Frag} {mg : Str → Option Value} {W : WX} {w : Wd} {i : Nat}
theorem RepG.wipe {σ : L2.St} {G : Env} (g : RepG K w σ G) (x : Option V) : RepG K w (σ.set i x) (G.set i none) :=
  ⟨by rw [List.length_set, List.length_set, g.1], fun j d e => by
    by_cases hj : j = i
    · subst hj
      by_cases hl : j < G.length
      · rw [List.getElem?_set_self hl] at e
        cases e
      · rw [List.getElem?_eq_none (by rw [List.length_set]; omega)] at e
        cases e
    · rw [List.getElem?_set_ne (Ne.symm hj)] at e
      obtain ⟨v, h1, h2⟩ := g.2 j d e
      exact ⟨v, by rw [List.getElem?_set_ne (Ne.symm hj)]; exact h1, h2⟩⟩
theorem out_wipe {D : Ends} {r : SR} (o : OutS K mg W D w (wipeS i r)) : OutS K mg WF { nx := fun σ' H' => D.nx (σ'.set i none) H', rt := D.rt, bk := fun σ' H' => D.bk (σ'.set i none) H', ct := fun σ' H' => D.ct (σ'.set i none) H' } w r := by
  cases r with
  | next G h => exact fun σ' w2 H' l2 g r => o (σ'.set i none) w2 H' l2 (g.wipe _) r
  | ret d h => exact o
  | brk G h => exact fun σ' w2 H' l2 g r => o (σ'.set i none) w2 H' l2 (g.wipe _) r
  | cont G h => exact fun σ' w2 H' l2 g r => o (σ'.set i none) w2 H' l2 (g.wipe _) r
  | exc c fs G h => exact o.elim
  | stuck => exact o.elim
end
/-- the suite of a class: its class, its derivation -/
structure SuOk (X : Cx) (i : Nat) (suite : List Stmt) (c : Str) (m : Su) : Prop where
  par : Par i m
  go : ∀ D0, X.mg c = some (.ref D0) → ∀ (a : Addr) (oe : Obj) (pn : List (Addr × Obj)), Zc (.ref D0) none oe → (∃ vs, oe.data = .fields vs) → PSs (X.suite a ((a, oe) :: pn)) suite (tS X.K X.mg WF (m a))
/-- the class c of an error: known, and whether the clause takes it -/
structure TkOk (K : PySem.W.Frag) (mg : Str → Option Value) (cl : Value) (c : Str) (b : Bool) : Prop where
  ex : ∃ D0, mg c = some (.ref D0) ∧ PySem.W.exmOne K (.ref D0) cl = some b
noncomputable def TyOk (X : Cx) (i : Nat) (cl : Value) (suite : List Stmt) (tb : List (Str × Option Su)) : Prop :=
  ∀ c om, tb.lookup c = some om → TkOk X.K X.mg cl c om.isSome ∧ ∀ m, om = some m → SuOk X i suite c m
section
variable {X : Cx} {W : WX} {i : Nat} {cl : Value} {suite : List Stmt} {tb : List (Str × Option Su)} {c : Str}
theorem ty_nil : TyOk X i cl suite [] := fun c om e => by cases e
theorem ty_cons {om : Option Su} (h : TkOk X.K X.mg cl c om.isSome) (s : ∀ m, om = some m → SuOk X i suite c m) (t : TyOk X i cl suite tb) : TyOk X i cl suite ((c, om) :: tb) := fun c2 om2 e => by
  rw [List.lookup_cons] at e
  cases q : c2 == c with
  | true =>
    rw [q] at e
    cases e
    have : c2 = c := by simpa using q
    subst this
    exact ⟨h, s⟩
  | false =>
    rw [q] at e
    exact t c2 om2 e
theorem ty_some {m : Su} (h : TkOk X.K X.mg cl c true) (s : SuOk X i suite c m) (t : TyOk X i cl suite tb) : TyOk X i cl suite ((c, some m) :: tb) := ty_cons h (fun m2 e => by cases e; exact s) t
variable {x n : Str} {body : List Stmt} {b₀ : Stmt} {np pos pos' : Pos} {mb : Ms}
theorem s_tryAs (i : Nat) (hs : X.stack = X.env :: X.outer) (hf : X.env.frame = some X.env.locals) (hN : X.N.Nodup) (hi : X.N[i]? = some n) (hln : X.env.kindOf n = some .local) (hc : Names X x cl) (tk : Takes X W)
    (hb : ∀ (W : WX) (pn : List (Addr × Obj)) (xe : Value → Shared → Prop), Takes (X.tr pn xe) W → PassesOwn (model X.prog X.w) X.A X.env xe → PSs (X.tr pn xe) body (tS X.K X.mg W mb))
    (ht : TyOk X i cl (b₀ :: suite) tb) :
    PS X (.Try body [.ExceptHandler (some (.Name x np)) (some n) (b₀ :: suite) pos'] [] [] pos) (TSS X W (sTry i tb mb)) := by
  refine (ps_try_as (tb := fun W => tS X.K X.mg W mb) (ts := fun a cls d => fun D σ H => ∃ c m D0, tb.lookup c = some (some m) ∧ X.mg c = some (.ref D0) ∧ cls = .ref D0 ∧ d = none ∧ tS X.K X.mg WF (m a) D σ H)
    hs hf hN hi hln hc tk hb fun a oe cls d pn z f => ⟨fun pins s σ H D I q => ?_⟩).wk fun D σ H ⟨w, G, h, g, r, o⟩ => ⟨w, G, h, g, r, ?_⟩
  · obtain ⟨c, m, D0, e1, e2, rfl, rfl, q⟩ := q
    exact (((ht c _ e1).2 m rfl).go D0 e2 a oe pn z f).run pins s σ H D I q
  · have o : OutS X.K X.mg W D w (match mb G h with
      | .exc c fs G1 h1 => tryK i tb G1 h1 c fs
      | r => r) := o
    cases em : mb G h with
    | next G1 h1 => rw [em] at o; exact o
    | ret d h1 => rw [em] at o; exact o
    | brk G1 h1 => rw [em] at o; exact o
    | cont G1 h1 => rw [em] at o; exact o
    | stuck => rw [em] at o; exact o.elim
    | exc c fs G1 h1 =>
      rw [em] at o
      have o : OutS X.K X.mg W D w (tryK i tb G1 h1 c fs) := o
      intro cls dd σ' w' H' ec l g' r' x'
      cases et : tb.lookup c with
      | none => unfold tryK at o; rw [et] at o; exact o.elim
      | some om =>
        obtain ⟨⟨D0, hm, he⟩⟩ := (ht c _ et).1
        rw [hm] at ec
        cases ec
        cases om with
        | none =>
          have o : OutS X.K X.mg W D w (.exc c fs G1 h1) := by
            unfold tryK at o
            rw [et] at o
            exact o
          exact ⟨false, he, (fun z => by cases z), fun _ => o _ dd σ' w' H' hm l g' r' x'⟩
        | some m =>
          have sk := (ht c _ et).2 m rfl
          cases fs with
          | cons _ _ => unfold tryK at o; rw [et] at o; exact o.elim
          | nil =>
            refine ⟨true, he, fun _ a ha => ⟨c, m, D0, et, hm, rfl, x', w', G1.set i (some (.con a)), h1, g'.set i .con, r', ?_⟩, fun z => by cases z⟩
            have o : OutS X.K X.mg W D w (if i < G1.length then wipeS i (m 0 (G1.set i (some (.con 0))) h1) else .stuck) := by
              unfold tryK at o
              rw [et] at o
              exact o
            split at o
            · rename_i hl
              rw [← sk.par.eq a G1 h1 hl] at o
              exact out_wipe (OutS.mono l o)
            · exact o.elim
end
/-- what the clause 'except x' says of the class c -/
structure CatK (K : PySem.W.Frag) (mg : Str → Option Value) (x c : Str) (b : Bool) : Prop where
  ex : ∀ cl, mg x = some cl → TkOk K mg cl c b
theorem s_try {X : Cx} {W : WX} {suite : List Stmt} {tb : List (Str × Option Su)} {x n : Str} {body : List Stmt} {b₀ : Stmt} {np pos pos' : Pos} {mb : Ms} (i : Nat) (hN : X.N.Nodup) (hx : ∃ cl, X.mg x = some cl) (tk : Takes X W)
    (hb : ∀ (W : WX) (pn : List (Addr × Obj)) (xe : Value → Shared → Prop), Takes (X.tr pn xe) W → PassesOwn (model X.prog X.w) X.A X.env xe → PSs (X.tr pn xe) body (tS X.K X.mg W mb))
    (ht : ∀ cl, X.mg x = some cl → TyOk X i cl (b₀ :: suite) tb) (hs : X.stack = X.env :: X.outer := by rfl) (hf : X.env.frame = some X.env.locals := by rfl) (hi : X.N[i]? = some n := by rfl) (hln : X.env.kindOf n = some .local := by rfl) (hg : Gl X x := by rfl) (hd : (x == ("__debug__" : Str)) = false := by decide) :
    PS X (.Try body [.ExceptHandler (some (.Name x np)) (some n) (b₀ :: suite) pos'] [] [] pos) (TSS X W (sTry i tb mb)) := by
  obtain ⟨cl, hx⟩ := hx
  exact s_tryAs i hs hf hN hi hln ⟨hg, hd, .inl hx⟩ tk hb (ht cl hx)
/-! ### isinstance(e, C) in the suite -/
noncomputable def mIsE (i : Nat) (a : Addr) (b : Bool) : Me := fun G h => match G[i]? with
  | some (some (.con a')) => if a' = a then .ok (.bl b) h else .stuck
  | _ => .stuck
/-- the class x, and whether the class D0 is under it -/
structure IsOk (K : PySem.W.Frag) (mg : Str → Option Value) (c x : Str) (b : Bool) : Prop where
  ex : ∀ D0, mg c = some (.ref D0) → ExcC K D0 ∧ ∃ Ca, mg x = some (.ref Ca) ∧ PySem.W.kitOne K (.ref D0) (.ref Ca) = some b
structure IsOkB (K : PySem.W.Frag) (mg : Str → Option Value) (c : Str) (x : String) (b : Bool) : Prop where
  ex : ∀ D0, mg c = some (.ref D0) → ExcC K D0 ∧ PySem.W.kitOne K (.ref D0) (.type x) = some b
theorem v_mIsE {i : Nat} {a : Addr} {b : Bool} {G : Env} {h : AH} (e : G[i]? = some (some (.con a))) : mIsE i a b G h = .ok (.bl b) h := by
  unfold mIsE
  rw [e]
  exact if_pos rfl
theorem set_swap {α : Type} {G : List (Option α)} {i k : Nat} {u : α} (h : k ≠ i) : (G.set k (some u)).set i none = (G.set i none).set k (some u) := List.set_comm _ _ h
section
variable {X : Cx} {W : WX} {a D0 : Addr} {oe : Obj} {pn : List (Addr × Obj)} {c x n : Str} {b : Bool} {p p1 p2 pos : Pos}
theorem e_isE (i : Nat) (K0 : IsOk X.K X.mg c x b) (hD : X.mg c = some (.ref D0)) (hz : Zc (.ref D0) none oe) (hf : ∃ vs, oe.data = .fields vs) (hN : X.N[i]? = some n) (hi : X.mg "isinstance" = none)
    (hv : Vis X.env.scope n := by first | exact Or.inl rfl | exact Or.inr (Or.inl rfl) | exact Or.inr (Or.inr rfl)) (hd : (n == ("__debug__" : Str)) = false := by decide) (hcd : (n == ("__classdict__" : Str)) = false := by decide)
    (hgx : Gl X x := by rfl) (hdx : (x == ("__debug__" : Str)) = false := by decide) (hg : Gl X "isinstance" := by rfl)
    (h1 : starEach [.Name n p1, .Name x p2] X.env = (false, eval (.Name n p1) X.env) :: starEach [.Name x p2] X.env := by rfl) (h2 : starEach [.Name x p2] X.env = (false, eval (.Name x p2) X.env) :: starEach [] X.env := by rfl)
    (hpl : (backTo pos (starEach [.Name x p2] X.env)).any (·.1) = false := by rfl) :
    PE (X.suite a ((a, oe) :: pn)) (.Call (.Name "isinstance" p) [.Name n p1, .Name x p2] [] pos) (TM (X.suite a ((a, oe) :: pn)) W (mIsE i a b)) := by
  obtain ⟨C, Ca, hx, hk⟩ := K0.ex D0 hD
  refine (pe_callB (X := X.suite a ((a, oe) :: pn)) (call_isE C hz hf) hg hi (by decide +kernel) (pa_cons (pe_var (X := X.suite a ((a, oe) :: pn)) hN hv hd hcd) (pa_cons (pe_glob (X := X.suite a ((a, oe) :: pn)) (v := .ref Ca) hgx hx rfl hdx) pa_nil h2) h1) (by decide) (by decide) h1 hpl).wk fun σ H Q ⟨w, G, h, g, r, o⟩ => ?_
  unfold mIsE at o
  split at o
  · rename_i a' e
    split at o
    · rename_i ea
      subst ea
      obtain ⟨v, e2, rv⟩ := g.2 i _ e
      cases rv
      exact ⟨_, e2, .ref Ca, .ref Ca, b, rfl, fun u e => e, hk, out_ok o r (.bl b)⟩
    · exact o.elim
  · exact o.elim
theorem e_isEB (i : Nat) {x' : String} (K0 : IsOkB X.K X.mg c x' b) (hD : X.mg c = some (.ref D0)) (hz : Zc (.ref D0) none oe) (hf : ∃ vs, oe.data = .fields vs) (hN : X.N[i]? = some n) (hi : X.mg "isinstance" = none) (hx : X.mg x = none)
    (hbx : bootBuiltins x = some (.type x') := by decide +kernel) (hnx : x ≠ "__name__" := by decide)
    (hv : Vis X.env.scope n := by first | exact Or.inl rfl | exact Or.inr (Or.inl rfl) | exact Or.inr (Or.inr rfl)) (hd : (n == ("__debug__" : Str)) = false := by decide) (hcd : (n == ("__classdict__" : Str)) = false := by decide)
    (hgx : Gl X x := by rfl) (hdx : (x == ("__debug__" : Str)) = false := by decide) (hg : Gl X "isinstance" := by rfl)
    (h1 : starEach [.Name n p1, .Name x p2] X.env = (false, eval (.Name n p1) X.env) :: starEach [.Name x p2] X.env := by rfl) (h2 : starEach [.Name x p2] X.env = (false, eval (.Name x p2) X.env) :: starEach [] X.env := by rfl)
    (hpl : (backTo pos (starEach [.Name x p2] X.env)).any (·.1) = false := by rfl) :
    PE (X.suite a ((a, oe) :: pn)) (.Call (.Name "isinstance" p) [.Name n p1, .Name x p2] [] pos) (TM (X.suite a ((a, oe) :: pn)) W (mIsE i a b)) := by
  obtain ⟨C, hk⟩ := K0.ex D0 hD
  refine (pe_callB (X := X.suite a ((a, oe) :: pn)) (call_isE C hz hf) hg hi (by decide +kernel) (pa_cons (pe_var (X := X.suite a ((a, oe) :: pn)) hN hv hd hcd) (pa_cons (pe_bltn (X := X.suite a ((a, oe) :: pn)) (v := .ty x') hgx hx hbx rfl hnx hdx) pa_nil h2) h1) (by decide) (by decide) h1 hpl).wk fun σ H Q ⟨w, G, h, g, r, o⟩ => ?_
  unfold mIsE at o
  split at o
  · rename_i a' e
    split at o
    · rename_i ea
      subst ea
      obtain ⟨v, e2, rv⟩ := g.2 i _ e
      cases rv
      exact ⟨_, e2, .ty x', .type x', b, rfl, fun u e => e, hk, out_ok o r (.bl b)⟩
    · exact o.elim
  · exact o.elim
end
end AB
/-! AB: comprehensions over the keys of a dict, which is locked meanwhile. -/
namespace AB
open PySem PySem.Spec PyProof.Rows L2

open Classical in
noncomputable def compGoD (p : Pat) (t : MeT) (e : Me) (n : Nat) (kvs : KD) (G : Env) : KD → AH → Res (List D)
  | [], h => if h[n]? = some (.lck kvs) then .ok [] h else .stuck
  | x :: r, h => if h[n]? = some (.lck kvs) then
      match asg p (pickK x) G with
      | some G1 => (t G1 h).noX.bind fun b h1 => if b = true then (e G1 h1).noX.bind fun x h2 => (compGoD p t e n kvs G r h2).bind fun xs h3 => .ok (x :: xs) h3 else compGoD p t e n kvs G r h1
      | none => .stuck
    else .stuck
open Classical in
/-- [.. for key in d if ..]: d is a plain thing, a name or an attribute -/
noncomputable def lCompD (p : Pat) (vs : List Nat) (o : Me) (t : MeT) (e : Me) : MeL := fun G h => match o G h with
  | .ok (.loc n) h1 => if h1 = h then (match h[n]? with
    | some (.dct kvs) => if o G (h.set n (.lck kvs)) = .ok (.loc n) (h.set n (.lck kvs)) then (if kvs.length ≤ big then
        (compGoD p t e n kvs (wipeG G vs) kvs (h.set n (.lck kvs))).bind fun ys h2 => .ok ys (h2.set n (.dct kvs)) else .stuck) else .stuck
    | _ => .stuck) else .stuck
  | _ => .stuck
section
variable {X : Cx} {W : WX} {pos : Pos} {tg iter elt : Expr} {ifs : List Expr} {scope : Scope} {own : List (Str × Nat)} {p : Pat} {mo : Me} {mt : MeT} {me : Me}
end
end AB
/-! AB: dicts: len, {k: v}, {k: v for ..}; isinstance of instances. -/
namespace AB
open PySem PySem.Spec PyProof.Rows L2

/-! ### len(d) -/
noncomputable def fLenD (xs : List D) (h : AH) : Res D := match xs with
  | [.loc n] => match dctAt h n with
    | some kvs => .ok (.int kvs.length) h
    | none => .stuck
  | _ => .stuck
section
variable {X : Cx} {W : WX} {e : Expr} {as : MeL} {p pos : Pos}
end
/-! ### {k: v} -/
section
variable {X : Cx} {W : WX} {k v : Expr} {mk mv : Me} {pos : Pos}
end
/-! ### {k: v for .. in .. if ..} -/
theorem OutE.bindI {K : PySem.W.Frag} {mg : Str → Option Value} {W : WX} {w : Wd} {σ : L2.St} {G : Env} {h : AH} {m : Im} {R : It → Hp → Prop} {Q : VK} {k : List D × Option Nat → AH → Res D} (o : OutE K mg W w σ Q ((m G h).bind k))
    (hq : ∀ all src h1 J w1 H1, Le w w1 → RepH K w1 H1 h1 → Walks K J w1 all src → OutE K mg W w1 σ Q (k (all, src) h1) → R J H1) : OutI K mg W w σ R (m G h) := by
  cases e : m G h with
  | ok d h1 =>
    rw [e] at o
    exact fun J w1 H1 l r x => hq d.1 d.2 h1 J w1 H1 l r x (OutE.mono l o)
  | exc c fs h1 =>
    rw [e] at o
    exact o
  | stuck =>
    rw [e] at o
    exact o
section
variable {X : Cx} {W : WX} {pos : Pos} {tg iter kx vx : Expr} {ifs : List Expr} {scope : Scope} {own : List (Str × Nat)} {p : Pat} {im : Im} {mt : MeT} {mk mv : Me}
end
/-! ### isinstance(x, T) where x may be an instance of the classes cs (none of which is under T) -/
structure NotTy (K : PySem.W.Frag) (C : Str) (T : String) : Prop where
  ex : ∀ Ca, PySem.W.nsIn K mainGlobals C = some (some (.ref Ca)) → Cls K Ca ∧ PySem.W.findIn K (.ref Ca) "__class__" = some (some (.builtin "object.__class__")) ∧ PySem.W.specialIn K (.builtin "object.__class__") "__get__" = some (some (.builtin "getset_descriptor.__get__")) ∧
    PySem.W.takesIn K (.builtin "object.__class__") = some true ∧ PySem.W.mroIn K Ca (.type "object") = some true ∧ PySem.W.kitOne K (.ref Ca) (.type T) = some false
noncomputable def tyDC (cs : List Str) (h : AH) (T : Ty) (d : D) : Option Bool := match d with
  | .loc n => match h[n]? with
    | some (.dct _) => some (Ty.dct.sub T)
    | some (.lst _) => some (Ty.lst.sub T)
    | some (.ins C _) => if C ∈ cs then some false else none
    | _ => none
  | d => (tyD h d).map fun t => t.sub T
noncomputable def mIsiC (cs : List Str) (T : Ty) (m : Me) : Me := fun G h => (m G h).bind fun d h1 => match tyDC cs h1 T d with
  | some b => .ok (.bl b) h1
  | none => .stuck
section
variable {X : Cx} {W : WX} {e : Expr} {ma : Me} {p pos : Pos} {T : Ty}
theorem e_isiC (cs : List Str) (T : Ty) {t : Str} {pt : Pos} (hi : X.mg "isinstance" = none) (ht : X.mg t = none) (he : PE X e (TM X W ma)) (hC : AllC (fun C => NotTy X.K C T.name) cs) (hgt : Gl X t := by rfl) (hbt : bootBuiltins t = some (.type T.name) := by decide +kernel) (hg : Gl X "isinstance" := by rfl)
    (hn : t ≠ "__name__" := by decide) (hd : (t == ("__debug__" : Str)) = false := by decide)
    (h1 : starEach [e, .Name t pt] X.env = (false, eval e X.env) :: starEach [.Name t pt] X.env := by rfl) (h2 : starEach [.Name t pt] X.env = (false, eval (.Name t pt) X.env) :: starEach [] X.env := by rfl) (hpl : (backTo pos (starEach [.Name t pt] X.env)).any (·.1) = false := by rfl) :
    PE X (.Call (.Name "isinstance" p) [e, .Name t pt] [] pos) (TM X W (mIsiC cs T ma)) := by
  refine (pe_callB call_isi hg hi (by decide +kernel) (pa_cons he (pa_cons (pe_bltn (v := .ty T.name) hgt ht hbt rfl hn hd) pa_nil h2) h1) (by decide) (by decide) h1 hpl).wk fun σ H Q ⟨w, G, h, g, r, o⟩ => ⟨w, G, h, g, r, o.bindE fun d h1 v w1 H1 l r1 x o1 => ?_⟩
  split at o1
  · rename_i b eb
    have old : ∀ t, tyD h1 d = some t → b = t.sub T → ∃ (x : V) (c : V) (t : Value) (u : Value) (b : Bool), [v, .ty T.name] = [x, c] ∧ ClsV c u ∧ TyX X.K H1 x t ∧ PySem.W.kitOne X.K t u = some b ∧ Q (.bl b) H1 := fun t e q => by
      subst q
      exact ⟨v, .ty T.name, .type t.name, .type T.name, t.sub T, rfl, .ty _, tyD_rep r1 x e, kit_ty (kit_tag t T), out_ok o1 r1 (.bl _)⟩
    unfold tyDC at eb
    split at eb
    · rename_i n
      obtain ⟨rfl, hn⟩ := rv_loc x
      split at eb
      · rename_i kvs ec
        cases eb
        obtain ⟨_, kv, f1, f2, f3⟩ := r1.cell n _ ec
        exact ⟨_, .ty T.name, .type Ty.dct.name, .type T.name, _, rfl, .ty _, .base (.dK f1), kit_ty (kit_tag Ty.dct T), out_ok o1 r1 (.bl _)⟩
      · rename_i ds ec
        cases eb
        refine old .lst ?_ rfl
        show (match h1[n]? with
          | some (.lst _) => some Ty.lst
          | _ => none) = some Ty.lst
        rw [ec]
      · rename_i C fs ec
        split at eb
        · rename_i hc
          cases eb
          obtain ⟨_, Ca, dx, fv, f0, f1, f2, f3, _⟩ := r1.cell n _ ec
          obtain ⟨q1, q2, q3, q4, q5, q6⟩ := (AllC.mem hC C hc).ex Ca f0
          exact ⟨_, .ty T.name, .ref Ca, .type T.name, false, rfl, .ty _, .base (.ins f1 q1 q2 q3 q4 q5), q6, out_ok o1 r1 (.bl _)⟩
        · cases eb
      · cases eb
    · cases et : tyD h1 d with
      | none => rw [et] at eb; cases eb
      | some t =>
        rw [et] at eb
        cases eb
        exact old t et rfl
  · exact o1.elim
end
/-! ### facts of classes, by what the kit reads off the text -/
theorem kit_clsR {K : PySem.W.Frag} {C : Addr} {t : Value} {b : Bool} (hd : PySem.W.hasDictIn K C = true) (ht : PySem.W.typeIn K (.ref C) = some (.type "type")) (h4 : PySem.W.subIn K t (.ref C) = some b) : PySem.W.kitCls K t (.ref C) = some b := by
  obtain ⟨cd, hc, _⟩ := PySem.W.any_some hd
  have e2 : ((PySem.W.clsIn K C).isSome && PySem.W.typeIn K (.ref C) == some (.type "type")) = true := by rw [hc, ht] <;> rfl
  show (if ((PySem.W.clsIn K C).isSome && PySem.W.typeIn K (.ref C) == some (.type "type")) = true then PySem.W.subIn K t (.ref C) else none) = some b
  rw [if_pos e2]
  exact h4
theorem kit_oneT {K : PySem.W.Frag} {C : Addr} {t : Value} (hd : PySem.W.hasDictIn K C = true) (ht : PySem.W.typeIn K (.ref C) = some (.type "type")) (h4 : PySem.W.subIn K t (.ref C) = some true) : PySem.W.kitOne K t (.ref C) = some true := by
  unfold PySem.W.kitOne
  split
  · rfl
  · exact kit_clsR hd ht h4
theorem kit_oneTy {K : PySem.W.Frag} {C : Addr} {T : String} {b : Bool} (h4 : PySem.W.subIn K (.ref C) (.type T) = some b) (hm : PySem.W.kitMeta T = true := by decide +kernel) : PySem.W.kitOne K (.ref C) (.type T) = some b := by
  have e : PySem.W.kitOne K (.ref C) (.type T) = (if PySem.W.kitMeta T = true then PySem.W.subIn K (.ref C) (.type T) else none) := rfl
  rw [e, if_pos hm]
  exact h4
/-! ### sorted(d), the keys of d ints -/
section
variable {X : Cx} {W : WX} {pos p : Pos} {e : Expr} {as : MeL}
end
end AB
/-! AB: rules of simp for objects, dicts, try. -/
namespace AB
open PySem PySem.Spec PyProof.Rows L2
section
variable {G : Env} {h : AH} {m a b c : Me} {as : MeL} {n : Nat} {x y : D} {f C : Str} {cs : List Str} {tb : List (Str × Fn)}
@[simp] theorem v_mFld : mFld cs f m G h = (m G h).bind fun d h1 => match d with
  | .loc n => match h1[n]? with
    | some (.ins C fs) => if C ∈ cs then match fs.lookup f with
      | some x => .ok x h1
      | none => .stuck
      else .stuck
    | _ => .stuck
  | _ => .stuck := id rfl
@[simp] theorem v_sFld : sFldM cs f a b G h = (b G h).toS G fun x h1 => (a G h1).toS G fun d h2 => match d with
  | .loc n => match h2[n]? with
    | some (.ins C fs) => if C ∈ cs ∧ fs.length < 1000 then .next G (h2.set n (.ins C (putD f x fs))) else .stuck
    | _ => .stuck
  | _ => .stuck := id rfl
@[simp] theorem v_sFldA {g : Int → Int → Int} : sFldA g cs f a b G h = (a G h).toS G fun d h1 => match d with
  | .loc n => match h1[n]? with
    | some (.ins C fs) => if C ∈ cs then match fs.lookup f with
      | some (.int i) => (b G h1).toS G fun y h2 => match y, h2[n]? with
        | .int j, some (.ins C2 fs2) => if C2 = C ∧ fs2.length < 1000 then .next G (h2.set n (.ins C (putD f (.int (g i j)) fs2))) else .stuck
        | _, _ => .stuck
      | _ => .stuck
      else .stuck
    | _ => .stuck
  | _ => .stuck := id rfl
@[simp] theorem v_mMeth : mMeth tb f m as G h = (m G h).bind fun d h1 => match d with
  | .loc n => match h1[n]? with
    | some (.ins C fs) => match tb.lookup C with
      | some fn => match fs.lookup f with
        | none => (as G h1).bind fun xs h2 => fn (.loc n :: xs) h2
        | some _ => .stuck
      | none => .stuck
    | _ => .stuck
  | _ => .stuck := rfl
@[simp] theorem v_mMake {fn : Fn} : mMake C fn as G h = (as G h).bind fun xs h1 => (fn (.loc h1.length :: xs) (h1 ++ [.ins C []])).bind fun v h2 => match v with
  | .non => .ok (.loc h1.length) h2
  | _ => .stuck := rfl
@[simp] theorem v_mDNew : mDNew G h = .ok (.loc h.length) (h ++ [.dct []]) := rfl
@[simp] theorem v_keyI (i : Int) : toKey (.int i) = some (.inl i) := rfl
@[simp] theorem v_mIsiC (T : Ty) : mIsiC cs T m G h = (m G h).bind fun d h1 => match tyDC cs h1 T d with | some b => .ok (.bl b) h1 | none => .stuck := rfl
@[simp] theorem v_dcI {T : Ty} {i : Int} : tyDC cs h T (.int i) = some (Ty.int.sub T) := rfl
@[simp] theorem v_dcB {T : Ty} {i : Bool} : tyDC cs h T (.bl i) = some (Ty.bl.sub T) := rfl
@[simp] theorem v_dcN {T : Ty} : tyDC cs h T .non = some (Ty.non.sub T) := rfl
@[simp] theorem v_dcS {T : Ty} {i : Str} : tyDC cs h T (.str i) = some (Ty.str.sub T) := rfl
@[simp] theorem v_dcT {T : Ty} {i : List D} : tyDC cs h T (.tup i) = some (Ty.tup.sub T) := rfl
@[simp] theorem v_dcL {T : Ty} {i : List D} : tyDC cs h T (.lst i) = some (Ty.lst.sub T) := rfl
@[simp] theorem v_lenD : fLenD [.loc n] h = (match dctAt h n with
    | some kvs => .ok (.int kvs.length) h
    | none => .stuck) := rfl
theorem lt_of_get {α : Type} {l : List α} {n : Nat} {a : α} (e : l[n]? = some a) : n < l.length := (List.getElem?_eq_some_iff.mp e).1
theorem g_app {α : Type} {l t : List α} {n : Nat} {a : α} (e : l[n]? = some a) : (l ++ t)[n]? = some a := by
  rw [List.getElem?_append_left (lt_of_get e)]
  exact e
theorem s_app {α : Type} {l t : List α} {n : Nat} {a : α} (h : n < l.length) : (l ++ t).set n a = l.set n a ++ t := List.set_append_left _ _ h
theorem while_no {t : MeT} {b : Ms} {h1 : AH} (e : t G h = .ok false h1) : sWhile t b G h = .next G h1 := by
  refine while_ok (n := 1) ?_ (by simp)
  unfold whileGo
  rw [e]
  rfl
theorem sTry_ok {i : Nat} {tbl : List (Str × Option Su)} {b : Ms} {G1 : Env} {h1 : AH} (e : b G h = .next G1 h1) : sTry i tbl b G h = .next G1 h1 := by
  unfold sTry
  rw [e]
theorem sTry_exc {i : Nat} {tbl : List (Str × Option Su)} {b : Ms} {G1 : Env} {h1 : AH} {c0 : Str} {fs : List (Str × D)} (e : b G h = .exc c0 fs G1 h1) : sTry i tbl b G h = tryK i tbl G1 h1 c0 fs := by
  unfold sTry
  rw [e]
end
end AB
/-! AB: dicts whose keys are None and tuples of ints. -/
namespace AB
open PySem PySem.Spec PyProof.Rows L2 HD

noncomputable def intsD : List D → Option (List Int)
  | [] => some []
  | .int i :: r => (intsD r).map fun is => i :: is
  | _ :: _ => none
section
variable {K : PySem.W.Frag} {w : Wd} {H : Hp} {h : AH}
theorem intsD_rep {G : Hp} {mu : Nat → Addr} {N : Nat} : ∀ {ds : List D} {is : List Int} {vs : List V}, intsD ds = some is → RepAll K G mu N vs ds → vs = is.map V.int
  | [], is, vs, e, r => by
    cases e
    cases r
    rfl
  | d :: ds, is, vs, e, r => by
    cases d with
    | int i =>
      unfold intsD at e
      cases q : intsD ds with
      | none => rw [q] at e; cases e
      | some js =>
        rw [q] at e
        cases e
        cases r with
        | cons a b =>
          cases a
          rw [intsD_rep q b]
          rfl
    | _ => cases e
end
/-! ### {k: v}, d[k] = v, list(d) -/
section
variable {X : Cx} {W : WX} {o i e value k v : Expr} {pos pos' tpos apos cpos p : Pos} {mo mk mv : Me} {as : MeL}
end
end AB
/-! AB: loops whose source must stay by a condition of its own; enumerate over a list of the machine's. -/
namespace AB
open PySem PySem.Spec PyProof.Rows L2 HD

noncomputable abbrev ImP := Env → AH → Res (List D × (AH → Prop))
structure WalksP (K : PySem.W.Frag) (J : It) (w : Wd) (all : List D) (Cn : AH → Prop) : Prop where
  goes : ∀ i w' H' h', i < all.length → LeX w w' → RepH K w' H' h' → Cn h' → J.go i H'
  stops : ∀ w' H' h', LeX w w' → RepH K w' H' h' → Cn h' → J.stop all.length H'
  yields : ∀ i x w' H' H2 h' d, all[i]? = some d → LeX w w' → RepH K w' H' h' → Cn h' → J.yld i H' x H2 → ∃ w2, Le w' w2 ∧ RepH K w2 H2 h' ∧ Rv K w2 x d
noncomputable def OutIP (K : PySem.W.Frag) (mg : Str → Option Value) (W : WX) (w : Wd) (σ : L2.St) (R : It → Hp → Prop) : Res (List D × (AH → Prop)) → Prop
  | .ok (all, Cn) h => ∀ J w' H', Le w w' → RepH K w' H' h → WalksP K J w' all Cn → R J H'
  | .exc c fs h => OutX K mg W w σ c fs h
  | .stuck => False
theorem OutIP.mono {K : PySem.W.Frag} {mg : Str → Option Value} {W : WX} {w w' : Wd} {σ : L2.St} {R : It → Hp → Prop} {r : Res (List D × (AH → Prop))} (l : Le w w') (o : OutIP K mg W w σ R r) : OutIP K mg W w' σ R r := by
  cases r with
  | ok a h => exact fun J w2 H' l2 r x => o J w2 H' (l.trans l2) r x
  | exc c fs h => exact OutX.mono l o
  | stuck => exact o
theorem OutS.bindIP {K : PySem.W.Frag} {mg : Str → Option Value} {W : WX} {w : Wd} {σ : L2.St} {G : Env} {h : AH} {D : Ends} {m : ImP} {R : It → Hp → Prop} {k : List AB.D × (AH → Prop) → AH → SR} (g : RepG K w σ G) (o : OutS K mg W D w ((m G h).toS G k))
    (hq : ∀ all Cn h1 J w1 H1, Le w w1 → RepH K w1 H1 h1 → WalksP K J w1 all Cn → OutS K mg W D w1 (k (all, Cn) h1) → R J H1) : OutIP K mg W w σ R (m G h) := by
  cases e : m G h with
  | ok d h1 =>
    rw [e] at o
    exact fun J w1 H1 l r x => hq d.1 d.2 h1 J w1 H1 l r x (OutS.mono l o)
  | exc c fs h1 =>
    rw [e] at o
    exact fun cls dd w1 H1 e l r x => o cls dd σ w1 H1 e l (g.mono l) r x
  | stuck =>
    rw [e] at o
    exact o
section
variable {X : Cx} {W : WX} {pos : Pos} {tg iter : Expr} {body : List Stmt} {p : Pat} {im : ImP} {mb : Ms}
end
/-! ### enumerate(o), o a list of the machine's, which stays as it is meanwhile -/
theorem OutIP.bindA {K : PySem.W.Frag} {mg : Str → Option Value} {W : WX} {w : Wd} {σ : L2.St} {G : Env} {h : AH} {m : MeL} {R : List V → Hp → Prop} {Q : It → Hp → Prop} {k : List D → AH → Res (List D × (AH → Prop))} (o : OutIP K mg W w σ Q ((m G h).bind k))
    (hq : ∀ ds h1 vs w1 H1, Le w w1 → RepH K w1 H1 h1 → Ra K w1 vs ds → OutIP K mg W w1 σ Q (k ds h1) → R vs H1) : OutA K mg W w σ R (m G h) := by
  cases e : m G h with
  | ok d h1 =>
    rw [e] at o
    exact fun v w1 H1 l r x => hq d h1 v w1 H1 l r x (OutIP.mono l o)
  | exc c fs h1 =>
    rw [e] at o
    exact o
  | stuck =>
    rw [e] at o
    exact o
section
variable {X : Cx} {W : WX} {e : Expr} {as : MeL} {p pos tpos : Pos} {elts : List Expr} {kk : Nat}
end
end AB
/-! AB: sorted(set(xs)) of a list of ints. -/
namespace AB
open PySem PySem.Spec PyProof.Rows L2 HSetL

/-! ### plain: a strictly rising list of the members -/
noncomputable def insU (x : Int) : List Int → List Int
  | [] => [x]
  | y :: r => if x < y then x :: y :: r else if x = y then y :: r else y :: insU x r
noncomputable def upSet (is : List Int) : List Int := is.foldr insU []
theorem insU_mem {x k : Int} : ∀ {l : List Int}, k ∈ insU x l ↔ k = x ∨ k ∈ l
  | [] => by simp [insU]
  | y :: r => by
    unfold insU
    split
    · simp
    · split
      · rename_i e
        subst e
        simp
      · rw [List.mem_cons, insU_mem (l := r), List.mem_cons]
        constructor <;> rintro (h | h | h) <;> simp [h]
theorem insU_up {x : Int} : ∀ {l : List Int}, l.Pairwise (· < ·) → (insU x l).Pairwise (· < ·)
  | [], _ => List.pairwise_singleton _ _
  | y :: r, h => by
    obtain ⟨h1, h2⟩ := List.pairwise_cons.mp h
    unfold insU
    split
    · rename_i c
      refine List.pairwise_cons.mpr ⟨fun z hz => ?_, h⟩
      rcases List.mem_cons.mp hz with q | q
      · rw [q]; exact c
      · exact Int.lt_trans c (h1 z q)
    · split
      · exact h
      · refine List.pairwise_cons.mpr ⟨fun z hz => ?_, insU_up h2⟩
        rcases insU_mem.mp hz with q | q
        · rw [q]; omega
        · exact h1 z q
theorem upSet_mem {k : Int} : ∀ {l : List Int}, k ∈ upSet l ↔ k ∈ l
  | [] => by simp [upSet]
  | y :: r => by
    show k ∈ insU y (upSet r) ↔ _
    rw [insU_mem, upSet_mem (l := r), List.mem_cons]
theorem upSet_up : ∀ (l : List Int), (upSet l).Pairwise (· < ·)
  | [] => List.Pairwise.nil
  | y :: r => insU_up (upSet_up r)
/-! ### the calls -/
section
variable {X : Cx} {W : WX} {pos pos2 p p2 : Pos} {e : Expr} {as : MeL}
end
/-! ### xs * k, xs a list of the machine's own -/
noncomputable def fMulLs (x y : D) (h : AH) : Res D := match x, y with
  | .loc n, .int k => match h[n]? with
    | some (.lst ds) => if 0 ≤ k ∧ k ≤ 1000 ∧ ds.length ≤ 1000 then .ok (.lst (List.replicate k.toNat ds).flatten) h else .stuck
    | _ => .stuck
  | _, _ => .stuck
section
variable {X : Cx} {W : WX}
theorem len_flat {α : Type} (xs : List α) : ∀ k : Nat, (List.replicate k xs).flatten.length = k * xs.length
  | 0 => by simp
  | k + 1 => by
    rw [List.replicate_succ, List.flatten_cons, List.length_append, len_flat xs k, Nat.succ_mul]
    omega
theorem fol_mulLs : Fol2 X W fMulLs rRep := by
  intro w h H σ Q v1 v2 d1 d2 rh r1 r2 o
  unfold fMulLs at o
  split at o
  · rename_i n k
    obtain ⟨rfl, hn⟩ := rv_loc r1
    cases r2
    split at o
    · rename_i ds e
      split at o
      · rename_i c
        obtain ⟨_, xs, e2, ra⟩ := rh.cell n _ e
        have hl := ra.length
        refine ⟨_, k, xs, rfl, rfl, e2, by omega, by omega, ?_, fun p hp => out_add o rh hp (rv_lst rh hp (ra_rep ra _))⟩
        have h1 : xs.length * k.toNat ≤ 1000 * 1000 := Nat.mul_le_mul (by omega) (by omega)
        rw [sizeLine_eq]
        omega
      · exact o.elim
    · exact o.elim
  · exact o.elim
end
end AB
/-! AB: xs.count(text) of a list of texts. -/
namespace AB
open PySem PySem.Spec PyProof.Rows L2
noncomputable def rCntS (K : PySem.W.Frag) : V → List V → Hp → VK → Prop := fun x xs H Q => ∃ (p : Addr) (ns : List Str) (k : Str), x = .ref p ∧ xs = [.str k] ∧ SqL K H p (ns.map V.str) ∧ Q (.int (ns.count k : Nat)) H
theorem cnt_str {k : Str} : ∀ {us : List Value} {ns : List Str}, StrsAre us ns → us.countP (PyProof.Rows.isStrOf k) = ns.count k
  | _, _, .nil => rfl
  | _, _, .cons n t h => by
    have ih := cnt_str (k := k) h
    rw [List.countP_cons, List.count_cons, ih] <;> rfl
section
variable {X : Cx} {W : WX}
theorem mt_scount : MtR X "list.count" (rCntS X.K) := by
  intro pins s σ H x xs v us Q I rx rxs h
  obtain ⟨p, ns, k, rfl, rfl, hs, q⟩ := h
  cases rx
  obtain ⟨u, rfl, ru⟩ := rxs.one
  obtain ⟨t, rfl⟩ := ru
  obtain ⟨its, rv, ⟨⟨cls, dd, data, sl⟩, n, ho, hc, hdn, hd⟩, hlen⟩ := I.list hs
  simp only at hc hd
  subst hc hd
  have hi := strs_of_vals rv
  refine call_meets PySem.F.slot_list_count ⟨_, ho, rfl⟩ PySem.F.entry_list_count (PySem.F.args_list_count_2 _ _)
    (SeqAt.list_countAt p its.toArray n dd sl (.str k t) (PyProof.Rows.isStrOf k)) ⟨ho, fun y hy => (PyProof.Rows.eq_isStrOf k t hi y (by simpa using hy)).at _ _, ?_⟩
  have ec : its.toArray.toList.countP (PyProof.Rows.isStrOf k) = ns.count k := cnt_str hi
  refine ⟨.int (ns.count k : Nat), H, I.tok _, ⟨s.toks, ?_⟩, q⟩
  show Value.int ((its.toArray.toList.countP (PyProof.Rows.isStrOf k) : Nat) : Int) s.toks = Value.int ((ns.count k : Nat) : Int) s.toks
  rw [ec]
noncomputable def strsD : List D → Option (List Str)
  | [] => some []
  | .str i :: r => (strsD r).map fun is => i :: is
  | _ :: _ => none
theorem strsD_rep {K : PySem.W.Frag} {G : Hp} {mu : Nat → Addr} {N : Nat} : ∀ {ds : List D} {is : List Str} {vs : List V}, strsD ds = some is → RepAll K G mu N vs ds → vs = is.map V.str
  | [], is, vs, e, r => by
    cases e
    cases r
    rfl
  | d :: ds, is, vs, e, r => by
    cases d with
    | str i =>
      unfold strsD at e
      cases q : strsD ds with
      | none => rw [q] at e; cases e
      | some js =>
        rw [q] at e
        cases e
        cases r with
        | cons a b =>
          cases a
          rw [strsD_rep q b]
          rfl
    | _ => cases e
noncomputable def fCntS (d : D) (xs : List D) (h : AH) : Res D := match xs with
  | [.str k] => match vL h d with
    | some ds => match strsD ds with
      | some ns => .ok (.int (ns.count k : Nat)) h
      | none => .stuck
    | none => .stuck
  | _ => .stuck
theorem fol_cntS : FolM X W fCntS (rCntS X.K) := by
  intro w h H σ Q v d vs ds rh rv ra o
  unfold fCntS at o
  split at o
  · rename_i k
    obtain ⟨u, rfl, ru⟩ := ra_one ra
    cases ru
    split at o
    · rename_i es ev
      split at o
      · rename_i ns en
        obtain ⟨a, xs, rfl, sq, ra2⟩ := vL_rep rh rv ev
        have ex := strsD_rep en ra2
        subst ex
        exact ⟨a, ns, k, rfl, rfl, sq, o _ w H (Le.refl _) rh (.int _)⟩
      · exact o.elim
    · exact o.elim
  · exact o.elim
variable {o e : Expr} {apos cpos : Pos} {ma : Me} {as : MeL}
theorem e_cntS (ho : PE X o (TM X W ma)) (ha : PA X [e] (TAr X W as))
    (hbase : attributeBase o "count" X.env (eval o X.env) = eval o X.env := by rfl)
    (hfew : ((backTo cpos (starEach [e] X.env)).all (fun x => !x.1) && (backToKw cpos (keywordEach [] X.env)).all (fun x => x.1.isSome)
      && decide (([e] : List Expr).length + ([] : List Keyword).length + (if ([] : List Keyword).isEmpty then 0 else 1) < 30)) = true := by rfl)
    (hline : (apos.endLine == cpos.line) = true := by rfl) (hs : starEach [e] X.env = (false, eval e X.env) :: starEach [] X.env := by rfl) (hplain : (backTo cpos (starEach [] X.env)).any (·.1) = false := by rfl) :
    PE X (.Call (.Attribute o "count" apos) [e] [] cpos) (TM X W (mBM fCntS ma as)) :=
  e_bm PySem.F.slot_list_count PySem.F.type_list_count mt_scount fol_cntS ho ha hbase hfew hline hs hplain
end
end AB
/-! t[::-1] of a tuple, of a list. -/
namespace HT
open PySem PySem.Spec PyProof.Rows L2
section
variable {prog : Program} {w : World} {A : Around} {E : Value → Shared → Prop} {s : Shared}
theorem places_rev (n : Nat) : Builtin.Slice.slicePlaces ((n : Int) - 1) (-1) (-1) = n := by
  unfold Builtin.Slice.slicePlaces
  have h1 : ¬ ((-1 : Int) > 0) := by decide
  rw [if_neg h1]
  by_cases h : (n : Int) - 1 > -1
  · rw [if_pos h]
    have e : ((n : Int) - 1 - -1 - 1) / (- -1) + 1 = (n : Int) := by
      rw [show (- -1 : Int) = 1 by decide, Int.ediv_one]
      omega
    rw [e, Int.toNat_natCast]
  · rw [if_neg h]
    have : n = 0 := by omega
    subst this
    rfl
theorem sliceApplied_rev {sl : Addr} {vl vu vk : Value} {n : Nat} {Q : Int × Int × Nat → Shared → Prop} (hs : s.heap.IsSliceOf sl vl vu vk) (pl : IsPart vl none) (pu : IsPart vu none) (pk : IsPart vk (some (-1)))
    (h : Q ((n : Int) - 1, -1, n) s) : wpAny (model prog w) A (Builtin.Slice.sliceApplied (.ref sl) (pure (n : Int))) Q E s := by
  obtain ⟨os, hos, hcs, hds⟩ := id hs
  unfold Builtin.Slice.sliceApplied Builtin.Slice.sliceFields
  refine wpAny_bind (wpAny_bind (wpAny_field hos hds (x := vl) rfl (wpAny_bind (wpAny_field hos hds (x := vu) rfl (wpAny_bind (wpAny_field hos hds (x := vk) rfl (wpAny_pure ?_)))))))
  refine wpAny_bind (slicePart_ pk ?_)
  show wpAny _ _ (if ((-1 : Int) == 0) = true then _ else _) _ _ s
  rw [if_neg (by decide)]
  refine wpAny_bind (slicePart_ pl (wpAny_bind (slicePart_ pu (wpAny_bind (wpAny_pure ?_)))))
  show wpAny _ _ (pure ((n : Int) - 1, (-1 : Int), Builtin.Slice.slicePlaces ((n : Int) - 1) (-1) (-1))) _ _ s
  rw [places_rev]
  exact wpAny_pure h
theorem fm_congr {α β : Type} {f g : α → Option β} : ∀ (l : List α), (∀ m ∈ l, f m = g m) → l.filterMap f = l.filterMap g
  | [], _ => rfl
  | x :: l, h => by
    rw [List.filterMap_cons, List.filterMap_cons, h x List.mem_cons_self, fm_congr l fun m hm => h m (List.mem_cons_of_mem _ hm)]
theorem pick_rev (xs : Array Value) : ((List.range xs.size).filterMap fun (m : Nat) => xs[(((xs.size : Int) - 1) + (m : Int) * (-1)).toNat]?).toArray = xs.toList.reverse.toArray := by
  have e : (List.range xs.size).filterMap (fun (m : Nat) => xs[(((xs.size : Int) - 1) + (m : Int) * (-1)).toNat]?) = ((List.range xs.size).map fun k => xs.size - 1 - k).filterMap (xs[·]?) := by
    rw [List.filterMap_map]
    refine fm_congr _ fun m hm => ?_
    have := List.mem_range.mp hm
    have e2 : (((xs.size : Int) - 1) + (m : Int) * (-1)).toNat = xs.size - 1 - m := by omega
    rw [e2]
    rfl
  rw [e, PySem.W.krv_range, List.filterMap_reverse, PySem.W.krv_all]
theorem getItem_tuple_rev {t sl : Addr} {items : Array Value} {vl vu vk : Value} {Q : Value → Shared → Prop} (ht : IsTup s.heap t items) (hs : s.heap.IsSliceOf sl vl vu vk) (pl : IsPart vl none) (pu : IsPart vu none) (pk : IsPart vk (some (-1)))
    (h : Q (.ref s.heap.objs.size) { s with heap := s.heap.push { cls := .type "tuple", data := .seq items.toList.reverse.toArray } })
    (hsz : items.size ≤ sizeLine) : wpAny (model prog w) A (getItem (.ref t) (.ref sl)) Q E s := by
  have htake : sizeOk (.seq items.toList.reverse.toArray) := by
    show items.toList.reverse.toArray.size ≤ sizeLine
    rw [List.size_toArray, List.length_reverse, Array.length_toList]
    omega
  obtain ⟨os, hos, hcs, hds⟩ := id hs
  have hTs : s.TypeIs (.ref sl) "slice" := ⟨os, hos, hcs⟩
  unfold getItem
  try with_reducible refine wpAny_holding ?_
  first | refine wpAny_bind (wpAny_pure ?_) | skip
  refine wpAny_bind (wpAny_sequenceKey ht.typeIs (by decide) ?_)
  refine wpAny_bind (wpAny_callSpecial?_slot (name := Str.ofString "__getitem__") ht.typeIs PyProof.Rows.slot_tuple_getitem
    (wpAny_call_entry PyProof.Rows.slot_tuple_getitem ht.typeIs entry_tuple_getitem ?_ (args_tuple_getitem _ _)))
  show wpAny _ _ (Builtin.Tuple.tupleItemsOf (.ref t) >>= _) _ _ s
  refine wpAny_bind (tupleItemsOf_ ht ?_)
  refine wpAny_bind (wpAny_typeOf hTs ?_)
  rw [if_pos (by decide)]
  refine wpAny_bind (sliceApplied_rev hs pl pu pk ?_)
  have hno : ¬ ((((items.size : Int) - 1) == 0 && (-1 : Int) == 1 && items.size == items.size) = true) := by
    intro q
    rw [Bool.and_eq_true, Bool.and_eq_true] at q
    exact absurd q.1.2 (by decide)
  show wpAny _ _ (if (((items.size : Int) - 1) == 0 && (-1 : Int) == 1 && items.size == items.size) = true then _ else _) _ _ s
  rw [if_neg hno, pick_rev]
  first
    | exact wpAny_bind (m := Builtin.Tuple.tupleExact _) (wpAny_newObj_type (wpAny_pure ⟨_, rfl, wpAny_pure h⟩) htake)
    | exact wpAny_bind (m := Builtin.Tuple.tupleExact _) (wpAny_newObj_type (wpAny_bind (wpAny_pure (wpAny_pure ⟨_, rfl, wpAny_pure h⟩))) htake)
    | exact wpAny_bind (wpAny_bind (m := Builtin.Tuple.tupleExact _) (wpAny_newObj_type (wpAny_pure (wpAny_pure ⟨_, rfl, wpAny_pure h⟩)) htake))
    | exact wpAny_bind (wpAny_bind (m := Builtin.Tuple.tupleExact _) (wpAny_newObj_type (wpAny_pure ⟨_, rfl, wpAny_pure h⟩) htake))
end
end HT
namespace L2
open PySem PySem.Spec PyProof.Rows
section
variable {X : Cx}
noncomputable def tRevA (K : PySem.W.Frag) (te : TE) : TE := fun σ H Q => te σ H fun x H1 => (∃ a xs, x = .ref a ∧ SqT K H1 a xs ∧ ∀ p, H1 p = none → Q (.ref p) (upd H1 p (.tup xs.reverse))) ∨ (∃ a xs, x = .ref a ∧ SqL K H1 a xs ∧ ∀ p, H1 p = none → Q (.ref p) (upd H1 p (.lst xs.reverse)))
theorem pe_revA {e : Expr} {te : TE} {k : Nat} {p1 p2 p3 pos : Pos} (he : PE X e te) : PE X (.Subscript e (.Slice none none (some (.UnaryOp .USub (.Constant (.int 1) k p1) p2)) p3) pos) (tRevA X.K te) := by
  refine ⟨fun pins s σ H Q I h => ?_⟩
  refine Subscript_ (thn (he.run pins s σ H _ I h) fun v s1 ⟨x, H1, I1, r1, q1⟩ => ?_)
  have hst : PO X (some (.UnaryOp .USub (.Constant (.int 1) k p1) p2)) (tPart (tUn (rU fun i => .int (-i)) (tC (.int 1)))) := po_some (pe_un un_neg pe_int)
  refine wpAny_Slice (thn (po_none.run pins s1 σ H1 (fun o H2 => o = none ∧ H2 = H1) I1 ⟨rfl, rfl⟩) fun vl s2 ⟨l, H2, I2, pl, el, e2⟩ => ?_)
  subst el e2
  refine thn (po_none.run pins s2 σ H2 (fun o H3 => o = none ∧ H3 = H2) I2 ⟨rfl, rfl⟩) fun vu s3 ⟨u, H3, I3, pu, eu, e3⟩ => ?_
  subst eu e3
  refine thn (hst.run pins s3 σ H3 (fun o H4 => o = some (-1) ∧ H4 = H3) I3 ⟨1, rfl, -1, rfl, rfl, rfl⟩) fun vs s4 ⟨o, H4, I4, ps, eo, e4⟩ => ?_
  subst eo e4
  have I5 : Inv X pins σ H4 { s4 with heap := s4.heap.push { cls := .type "slice", data := .fields #[vl, vu, vs] } } := I4.kept (t' := s4.toks) fun b ob q => Heap.get?_push_of_some _ q
  rcases q1 with ⟨a, xs, ex, hx, q⟩ | ⟨a, xs, ex, hx, q⟩
  · subst ex
    cases r1
    obtain ⟨its, r, ht, hz⟩ := I5.tuple hx
    have hlen := r.length
    show wpAny (model X.prog X.w) X.A (subscriptTail e (.Slice none none (some (.UnaryOp .USub (.Constant (.int 1) k p1) p2)) p3) (.ref a) (.ref s4.heap.objs.size)) (EP X pins σ Q) X.xe { s4 with heap := s4.heap.push { cls := .type "slice", data := .fields #[vl, vu, vs] } }
    refine tail_any (ops := [.ref a, .ref s4.heap.objs.size]) ht.typeIs (PyProof.Rows.slot_tuple_getitem.lookup) ?_ (by with_unfolding_all rfl)
    refine HT.getItem_tuple_rev ht (Heap.IsSliceOf.new _ vl vu vs) pl pu ps ?_ (by rw [List.size_toArray]; omega)
    refine ⟨.ref _, _, I5.laid (t' := s4.toks) (o := .tup xs.reverse) (fun b ob q => Heap.get?_push_of_some _ q) (Nat.le_refl _) ?_, rfl, q _ (I5.hok.fresh (Nat.le_refl _))⟩
    exact ⟨by rw [List.length_reverse]; exact hz, _, r.reverse, IsTup.new _ _⟩
  · subst ex
    cases r1
    obtain ⟨its, r, ht, hz⟩ := I5.list hx
    have hlen := r.length
    show wpAny (model X.prog X.w) X.A (subscriptTail e (.Slice none none (some (.UnaryOp .USub (.Constant (.int 1) k p1) p2)) p3) (.ref a) (.ref s4.heap.objs.size)) (EP X pins σ Q) X.xe { s4 with heap := s4.heap.push { cls := .type "slice", data := .fields #[vl, vu, vs] } }
    refine tail_any (ops := [.ref a, .ref s4.heap.objs.size]) ht.isList.typeIs (PySem.slot_list_getitem.lookup) ?_ (by with_unfolding_all rfl)
    refine wpAny_getItem_list_slice ht.isList (Heap.IsSliceOf.new _ vl vu vs) pl pu ps (by decide) ?_ (by rw [List.size_toArray]; omega)
    rw [PySem.W.krv_pick]
    refine ⟨.ref _, _, I5.laid (t' := s4.toks) (o := .lst xs.reverse) (fun b ob q => Heap.get?_push_of_some _ q) (Nat.le_refl _) ?_, rfl, q _ (I5.hok.fresh (Nat.le_refl _))⟩
    exact ⟨by rw [List.length_reverse]; exact hz, _, 0, r.reverse, Heap.get?_push_size _ rfl⟩
end
end L2
/-! AB: x[::-1] of a tuple or a list. -/
namespace AB
open PySem PySem.Spec PyProof.Rows L2
noncomputable def mRev (m : Me) : Me := fun G h => (m G h).bind fun x h1 => match x with
  | .tup ds => .ok (.tup ds.reverse) h1
  | d => match vL h1 d with
    | some ds => .ok (.lst ds.reverse) h1
    | none => .stuck
@[simp] theorem v_mRev {G : Env} {h : AH} {m : Me} : mRev m G h = (m G h).bind fun x h1 => match x with
  | .tup ds => .ok (.tup ds.reverse) h1
  | d => match vL h1 d with
    | some ds => .ok (.lst ds.reverse) h1
    | none => .stuck := rfl
section
variable {X : Cx} {W : WX} {e : Expr} {ma : Me} {pos : Pos}
theorem e_rev {k : Nat} {p1 p2 p3 : Pos} (he : PE X e (TM X W ma)) : PE X (.Subscript e (.Slice none none (some (.UnaryOp .USub (.Constant (.int 1) k p1) p2)) p3) pos) (TM X W (mRev ma)) := by
  refine (pe_revA he).wk fun σ H Q ⟨w, G, h, g, r, o⟩ => ⟨w, G, h, g, r, o.bindE fun d h1 v w1 H1 l1 r1 x o1 => ?_⟩
  split at o1
  · cases x with
    | @tup a xs ds h1 h2 => exact .inl ⟨a, xs, rfl, r1.ex.t h1, fun p hp => out_add o1 r1 hp (rv_tup r1 hp h2.reverse)⟩
  · split at o1
    · rename_i ds e
      obtain ⟨a, xs, rfl, sq, ra⟩ := vL_rep r1 x e
      exact .inr ⟨a, xs, rfl, sq, fun p hp => out_add o1 r1 hp (rv_lst r1 hp ra.reverse)⟩
    · exact o1.elim
end
end AB
/-! HHComp: {k: v for ..} whose keys are None and tuples of ints (the road is the library's for keys that are ints or texts). -/
namespace HD
open PySem PySem.Spec PyProof.Rows L2
section
variable {X : Cx}
end
end HD
/-! AB: comprehensions of held dicts, dict(d), xs.pop(), xs.pop(i), xs.index(x). -/
namespace AB
open PySem PySem.Spec PyProof.Rows L2 HD
/-! ### {k: v for ..}, keys None and tuples of ints -/
section
variable {X : Cx} {W : WX} {pos : Pos} {tg iter kx vx : Expr} {ifs : List Expr} {scope : Scope} {own : List (Str × Nat)} {p : Pat} {im : Im} {mt : MeT} {mk mv : Me}
end
/-! ### dict(d) -/
section
variable {X : Cx} {W : WX} {e o : Expr} {p pos apos cpos : Pos} {as : MeL} {ma : Me}
/-! ### xs.pop() -/
noncomputable def mPop (o : Me) : Me := fun G h => (o G h).bind fun d h1 => match d with
  | .loc n => match h1[n]? with
    | some (.lst ds) => match ds[ds.length - 1]? with
      | some x => .ok x (h1.set n (.lst ds.dropLast))
      | none => .stuck
    | _ => .stuck
  | _ => .stuck
theorem RepAll.dropLast {K : PySem.W.Frag} {G : Hp} {mu : Nat → Addr} {N : Nat} : ∀ {vs : List V} {ds : List D}, RepAll K G mu N vs ds → RepAll K G mu N vs.dropLast ds.dropLast
  | _, _, .nil => .nil
  | _, _, .cons _ .nil => .nil
  | _, _, .cons a (.cons b c) => .cons a (RepAll.dropLast (.cons b c))
theorem e_pop (ho : PE X o (TM X W ma)) (hbase : attributeBase o "pop" X.env (eval o X.env) = eval o X.env := by rfl) (hline : (apos.endLine == cpos.line) = true := by rfl) :
    PE X (.Call (.Attribute o "pop" apos) [] [] cpos) (TM X W (mPop ma)) := by
  refine (pe_bm0 PySem.F.plainAttrs_list PySem.F.slot_list_pop PySem.F.type_list_pop (mt_pop (X := X)) ho hbase hline).wk fun σ H Q ⟨w, G, h, g, r, o⟩ => ⟨w, G, h, g, r, o.bindE fun d h1 v w1 H1 l1 r1 x o1 => ?_⟩
  split at o1
  · rename_i n
    split at o1
    · rename_i ds ed
      split at o1
      · rename_i y ey
        cases x with
        | loc hn =>
          obtain ⟨_, xs, e1, rx⟩ := r1.cell n _ ed
          obtain ⟨u, hu, ru⟩ := rx.get ey
          rw [← rx.length] at hu
          refine ⟨.inl ⟨rfl, xs, .inl (.inl e1)⟩, w1.mu n, xs, u, rfl, rfl, e1, hu, out_set hn o1 r1 ru rx.dropLast⟩
      · exact o1.elim
    · exact o1.elim
  · exact o1.elim
/-! ### xs.pop(i) -/
/-! ### xs.index(x) -/
noncomputable def fIdxD (d : D) (xs : List D) (h : AH) : Res D := match vL h d, xs with
  | some ds, [x] => match okP h x with
    | some p => match toPs ds with
      | some ps => if SeqAt.shaped (.list ps) = true then (match ps.findIdx? (fun z => PyData.eqv z p) with
        | some j => .ok (.int (j : Nat)) h
        | none => .stuck) else .stuck
      | none => .stuck
    | none => .stuck
  | _, _ => .stuck
theorem fol_idxD : FolM X W fIdxD (rIndexD X.K) := by
  intro w h H σ Q v d vs ds rh rv ra o
  unfold fIdxD at o
  split at o
  · rename_i es x ev
    obtain ⟨u, rfl, ru⟩ := ra_one ra
    split at o
    · rename_i pd ep
      split at o
      · rename_i ps eps
        split at o
        · rename_i sh
          split at o
          · rename_i j ej
            obtain ⟨a, xs, rfl, sq, ra2⟩ := vL_rep rh rv ev
            obtain ⟨e1, e2⟩ := okP_some ep
            have dp := toPh_rep rh ru e1
            obtain ⟨hj, hz, hno⟩ := List.findIdx?_eq_some_iff_getElem.mp ej
            refine ⟨a, u, pd, ps, j, ps[j], rfl, rfl, .lst sq (toPs_rep rh.ex es xs ps ra2 eps), dp, sh, e2, List.getElem?_eq_getElem hj, hz, fun m z' hm he => ?_, o _ w H (Le.refl _) rh (.int _)⟩
            have h1 := hno m hm
            have h2 : m < ps.length := by omega
            rw [List.getElem?_eq_getElem h2] at he
            cases he
            simpa using h1
          · exact o.elim
        · exact o.elim
      · exact o.elim
    · exact o.elim
  · exact o.elim
theorem e_idxD (hu : X.A.units + 65 < cLine) (ho : PE X o (TM X W ma)) (ha : PA X [e] (TAr X W as))
    (hbase : attributeBase o "index" X.env (eval o X.env) = eval o X.env := by rfl)
    (hfew : ((backTo cpos (starEach [e] X.env)).all (fun x => !x.1) && (backToKw cpos (keywordEach [] X.env)).all (fun x => x.1.isSome)
      && decide (([e] : List Expr).length + ([] : List Keyword).length + (if ([] : List Keyword).isEmpty then 0 else 1) < 30)) = true := by rfl)
    (hline : (apos.endLine == cpos.line) = true := by rfl) (hs : starEach [e] X.env = (false, eval e X.env) :: starEach [] X.env := by rfl) (hplain : (backTo cpos (starEach [] X.env)).any (·.1) = false := by rfl) :
    PE X (.Call (.Attribute o "index" apos) [e] [] cpos) (TM X W (mBM fIdxD ma as)) :=
  e_bm PySem.F.slot_list_index PySem.F.type_list_index (mt_indexD hu) fol_idxD ho ha hbase hfew hline hs hplain
end
end AB
/-! AB: min of a list of data. -/
namespace AB
open PySem PySem.Spec PyProof.Rows L2
section
variable {X : Cx} {W : WX} {e : Expr} {p pos : Pos} {as : MeL}
end
end AB
/-! AB: list comprehensions whose source must stay by a condition of its own (enumerate over a list of the machine's). -/
namespace AB
open PySem PySem.Spec PyProof.Rows L2 HD
open Classical in
noncomputable def compGoP (p : Pat) (t : MeT) (e : Me) (Cn : AH → Prop) (G : Env) : List D → AH → Res (List D)
  | [], h => if Cn h then .ok [] h else .stuck
  | d :: r, h => if Cn h then
      match asg p d G with
      | some G1 => (t G1 h).noX.bind fun b h1 => if b = true then (e G1 h1).noX.bind fun x h2 => (compGoP p t e Cn G r h2).bind fun xs h3 => .ok (x :: xs) h3 else compGoP p t e Cn G r h1
      | none => .stuck
    else .stuck
noncomputable def lCompP (p : Pat) (vs : List Nat) (it : ImP) (t : MeT) (e : Me) : MeL := fun G h => (it G h).bind fun a h1 => if a.1.length ≤ big then compGoP p t e a.2 (wipeG G vs) a.1 h1 else .stuck
@[simp] theorem v_lCompP {p : Pat} {vs : List Nat} {it : ImP} {t : MeT} {m : Me} {G : Env} {h : AH} : lCompP p vs it t m G h = (it G h).bind fun a h1 => if a.1.length ≤ big then compGoP p t m a.2 (wipeG G vs) a.1 h1 else .stuck := id rfl
theorem OutF.bindIP {K : PySem.W.Frag} {mg : Str → Option Value} {W : WX} {w : Wd} {σ : L2.St} {G : Env} {h : AH} {m : ImP} {R : It → Hp → Prop} {Q : VK} {k : List D × (AH → Prop) → AH → Res (List D)} (o : OutF K mg W w σ Q ((m G h).bind k))
    (hq : ∀ all Cn h1 J w1 H1, Le w w1 → RepH K w1 H1 h1 → WalksP K J w1 all Cn → OutF K mg W w1 σ Q (k (all, Cn) h1) → R J H1) : OutIP K mg W w σ R (m G h) := by
  cases e : m G h with
  | ok d h1 =>
    rw [e] at o
    exact fun J w1 H1 l r x => hq d.1 d.2 h1 J w1 H1 l r x (OutF.mono l o)
  | exc c fs h1 =>
    rw [e] at o
    exact o
  | stuck =>
    rw [e] at o
    exact o
section
variable {X : Cx} {W : WX} {pos : Pos} {tg iter elt : Expr} {ifs : List Expr} {scope : Scope} {own : List (Str × Nat)} {p : Pat} {im : ImP} {mt : MeT} {me : Me}
end
end AB
/-! AB: {} whose keys are to be None and tuples of ints. -/
namespace HD
open PySem PySem.Spec PyProof.Rows L2
section
variable {X : Cx} {pos : Pos}
end
end HD
namespace AB
open PySem PySem.Spec PyProof.Rows L2 HD
noncomputable def mHNew : Me := fun _ h => .ok (.loc h.length) (h ++ [.hld []])
@[simp] theorem v_mHNew {G : Env} {h : AH} : mHNew G h = .ok (.loc h.length) (h ++ [.hld []]) := rfl
section
variable {X : Cx} {W : WX} {pos : Pos}
end
end AB
/-! AB: list(range(n)), list(range(a, b)). -/
namespace AB
open PySem PySem.Spec PyProof.Rows L2
noncomputable def lRg1 (m : Me) : MeL := fun G h => (m G h).bind fun d h1 => match d with
  | .int j => if okR j then .ok (rangeD 0 j.toNat) h1 else .stuck
  | _ => .stuck
@[simp] theorem v_lRg1 {m : Me} {G : Env} {h : AH} : lRg1 m G h = (m G h).bind fun d h1 => match d with
  | .int j => if okR j then .ok (rangeD 0 j.toNat) h1 else .stuck
  | _ => .stuck := rfl
section
variable {K : PySem.W.Frag} {w : Wd}
theorem ra_rg : ∀ (xs : List Nat) (a : Int), Ra K w (xs.map fun i => V.int (a + (i : Nat))) (xs.map fun i => D.int (a + (i : Nat)))
  | [], _ => .nil
  | x :: xs, a => .cons (.int _) (ra_rg xs a)
end
section
variable {X : Cx} {W : WX} {a : Expr} {m : Me} {p p2 pos : Pos}
theorem f_listRg1 (hc : X.calm = true) (hm : X.mg "list" = none) (hm2 : X.mg "range" = none) (ha : PE X a (TM X W m)) (hg : Gl X "list" := by rfl) (hg2 : Gl X "range" := by rfl) (hs : starEach [a] X.env = (false, eval a X.env) :: starEach [] X.env := by rfl)
    (hs2 : starEach [.Call (.Name "range" p2) [a] [] pos] X.env = (false, eval (.Call (.Name "range" p2) [a] [] pos) X.env) :: starEach [] X.env := by rfl) :
    PE X (.Call (.Name "list" p) [.Call (.Name "range" p2) [a] [] pos] [] pos2) (TF X W (lRg1 m)) := by
  refine (pe_listRg hc hg hm (prg_1 hg2 hm2 ha hs) hs2).wk fun σ H Q ⟨w, G, h, g, r, o⟩ => ⟨w, G, h, g, r, OutF.bindE o fun d h1 v w1 H1 l r1 x o1 => ?_⟩
  split at o1
  · rename_i j
    split at o1
    · rename_i c
      have c : -1000000 ≤ j ∧ j ≤ 1000000 := c
      cases x
      refine ⟨j, rfl, ⟨by omega, by omega, by omega, by omega, by omega⟩, fun q hq => ?_⟩
      refine out_new o1 r1 hq ?_
      have e : (j - 0).toNat = j.toNat := by omega
      unfold rgV rangeD
      rw [e]
      exact ra_rg _ _
    · exact o1.elim
  · exact o1.elim
end
end AB
/-! xs.extend(t) of a tuple. -/
namespace HT
open PySem PySem.Spec PyProof.Rows L2
theorem meets_extT (l : Addr) (items : Array Value) (n : Nat) (b : Addr) (items2 : Array Value) (hs0 : ¬(!items.isEmpty && Builtin.List.listTooLong (items.size + items2.size)) = true) (hs1 : items.size ≤ sizeLine) (hs2 : items.size + items2.size ≤ sizeLine + 1) :
    Meets (Builtin.«list.extend» ⟨[.ref l, .ref b], []⟩) (fun _ R s => s.heap.get? l = some { cls := .type "list", dict := none, data := .seq items n, slots := #[] } ∧ IsTup s.heap b items2 ∧ R (.ok (.ret Value.none)) { s with heap := s.heap.update l (Obj.mapSeq fun x => x ++ items2), toks := s.toks }) :=
  .of_wp fun prog w A R s h => by
    obtain ⟨hl, ⟨ob, hb, hcb, hdb⟩, h⟩ := h
    have hz' : (items ++ items2).size ≤ sizeLine + 1 := by rw [Array.size_append]; exact hs2
    show wpAny _ _ (Builtin.List.listExtendWith (.ref l) (.ref b) .none) _ _ s
    unfold Builtin.List.listExtendWith
    refine wpAny_bind (wpAny_typeOf ⟨ob, hb, hcb⟩ ?_)
    have h1 : (Builtin.List.listSameRef (.ref l) (.ref b) || Value.type "tuple" == Value.type "list" || Value.type "tuple" == Value.type "tuple") = true := by simp
    simp only [h1, if_true]
    refine wpAny_bind ?_
    unfold Builtin.List.listItems
    obtain ⟨n2, hdb⟩ := hdb
    refine wpAny_bind (wpAny_seqItems hb hdb (wpAny_pure ?_))
    refine wpAny_bind ?_
    refine wpAny_bind (wpAny_seqItems hl rfl (wpAny_pure ?_))
    rw [if_neg hs0]
    show wpAny _ _ (updateSeq l (· ++ items2) >>= fun _ => ret Value.none) _ _ s
    refine wpAny_bind (wpAny_updateSeq hl rfl ?_ (hz := hs1) (_hz' := hz'))
    exact wpAny_pure ⟨_, rfl, h⟩
end HT
namespace L2
open PySem PySem.Spec PyProof.Rows
section
variable {X : Cx}
noncomputable def rExtT (K : PySem.W.Frag) : V → List V → Hp → VK → Prop := fun x vs H Q => ∃ l b xs zs, x = .ref l ∧ vs = [.ref b] ∧ H l = some (.lst xs) ∧ SqT K H b zs ∧ xs.length + zs.length ≤ sizeLine ∧ Q .non (upd H l (.lst (xs ++ zs)))
theorem mt_extT : MtM X "list.extend" (rExtT X.K) := by
  intro pins s σ H x vs v us Q I rx rv h
  obtain ⟨l, b, xs, zs, rfl, rfl, hH, hB, hz, q⟩ := h
  cases rx
  obtain ⟨u, rfl, ru⟩ := rv.one
  cases ru
  obtain ⟨z, its, n, r, hl, e⟩ := I.lstM hH
  obtain ⟨its2, r2, ht, hz2⟩ := I.tuple hB
  have hl2 := r2.length
  have hsz : its.toArray.size + its2.toArray.size ≤ sizeLine := by rw [List.size_toArray, List.size_toArray]; omega
  have hlong : ¬ (!its.toArray.isEmpty && Builtin.List.listTooLong (its.toArray.size + its2.toArray.size)) = true := by
    rw [notLongL hsz, Bool.and_false]
    exact Bool.false_ne_true
  refine call_meets F.slot_list_extend ⟨_, e, rfl⟩ F.entry_list_extend (F.args_list_extend_2 _ _)
    (HT.meets_extT l its.toArray n b its2.toArray hlong (by rw [List.size_toArray]; omega) (by omega)) ⟨e, ht, ?_⟩
  refine ⟨.non, _, I.lset (its' := its ++ its2) hH e (by simp) (r.append r2) ?_, rfl, q⟩
  rw [List.length_append]
  omega
end
end L2
/-! AB: xs.extend(t) of a tuple. -/
namespace AB
open PySem PySem.Spec PyProof.Rows L2
noncomputable def fExtT (d : D) (xs : List D) (h : AH) : Res D := match d, xs with
  | .loc n, [.tup es] => match h[n]? with
    | some (.lst ds) => if ds.length + es.length ≤ big then .ok .non (h.set n (.lst (ds ++ es))) else .stuck
    | _ => .stuck
  | _, _ => .stuck
section
variable {X : Cx} {W : WX} {o e : Expr} {ma : Me} {as : MeL} {apos cpos : Pos}
theorem fol_extT : FolM X W fExtT (rExtT X.K) := by
  intro w h H σ Q v d vs ds rh rv ra o
  unfold fExtT at o
  split at o
  · rename_i n es
    split at o
    · rename_i fs e
      split at o
      · rename_i c
        cases rv with
        | loc hn =>
          obtain ⟨u, rfl, ru⟩ := ra_one ra
          cases ru with
          | @tup b zs _ sq rz =>
            obtain ⟨_, xs, e1, rx⟩ := rh.cell n _ e
            exact ⟨w.mu n, b, xs, zs, rfl, rfl, e1, rh.ex.t sq, big_le (by rw [rx.length, rz.length]; exact c), out_set hn o rh .non (rx.append rz)⟩
      · exact o.elim
    · exact o.elim
  · exact o.elim
theorem e_extT (ho : PE X o (TM X W ma)) (ha : PA X [e] (TAr X W as))
    (hbase : attributeBase o "extend" X.env (eval o X.env) = eval o X.env := by rfl)
    (hfew : ((backTo cpos (starEach [e] X.env)).all (fun x => !x.1) && (backToKw cpos (keywordEach [] X.env)).all (fun x => x.1.isSome)
      && decide (([e] : List Expr).length + ([] : List Keyword).length + (if ([] : List Keyword).isEmpty then 0 else 1) < 30)) = true := by rfl)
    (hline : (apos.endLine == cpos.line) = true := by rfl) (hs : starEach [e] X.env = (false, eval e X.env) :: starEach [] X.env := by rfl) (hplain : (backTo cpos (starEach [] X.env)).any (·.1) = false := by rfl) :
    PE X (.Call (.Attribute o "extend" apos) [e] [] cpos) (TM X W (mBM fExtT ma as)) :=
  e_bm PySem.F.slot_list_extend PySem.F.type_list_extend mt_extT fol_extT ho ha hbase hfew hline hs hplain
end
end AB
/-! AB: name = [.. for i, x in enumerate(o)] on one line, o an object. -/
namespace AB
open PySem PySem.Spec PyProof.Rows L2
section
variable {X : Cx} {W : WX} {pos : Pos} {tg iter elt : Expr} {ifs : List Expr} {scope : Scope} {own : List (Str × Nat)} {p : Pat} {im : ImP} {mt : MeT} {me : Me}
end
end AB
/-! AB: [f, g][i](..): a call of one of two defs, by a number. -/
namespace AB
open PySem PySem.Spec PyProof.Rows L2

section
variable {X : Cx} {W : WX} {pos p0 p1 sp lp : Pos} {e ie : Expr} {es : List Expr} {as : MeL} {mi : Me} {x0 x1 : Str} {k0 k1 k' : Nat} {ps0 ps1 : List Str} {m0 m1 : Fn}
theorem call_of {m : Fn} {σ : L2.St} {H : Hp} {Q : VK} (t : TM X W (mN m as) σ H Q) : tCallS (spM X.K X.mg m) (fun σ c d H => W c d σ H) (TAr X W as) σ H Q := by
  obtain ⟨w, G, h, g, r, o⟩ := t
  refine ⟨w, G, h, g, r, o.bindA fun ds h1 vs w1 H1 l r1 x o1 => ⟨w1, ds, h1, x, r1, ?_⟩⟩
  cases em : m ds h1 with
  | ok d h2 => rw [em] at o1; exact o1
  | exc c fs h2 => rw [em] at o1; exact o1
  | stuck => rw [em] at o1; exact o1
end
end AB
/-! AB: try .. except C: without a name. -/
namespace AB
open PySem PySem.Spec PyProof.Rows L2

noncomputable def noExc : SR → SR
  | .exc _ _ _ _ => .stuck
  | r => r
@[simp] theorem noExc_next (G : Env) (h : AH) : noExc (.next G h) = .next G h := rfl
@[simp] theorem noExc_ret (d : D) (h : AH) : noExc (.ret d h) = .ret d h := rfl
section
variable {K : PySem.W.Frag} {mg : Str → Option Value} {W : WX} {w : Wd}
end
section
variable {X : Cx} {W : WX} {cl : Value} {suite : List Stmt} {tb : List (Str × Option Ms)} {c : Str}
end
end AB
/-! x != y of instances by an own __eq__ (found anywhere on the way), whatever it tells. -/
namespace HNeK
open PySem PySem.Spec PySem.Calls PyProof.Rows PySem.W
section
variable {prog : Program} {w : World} {A : Around} {E : Value → Shared → Prop} {s : Shared} {K : PySem.W.Frag} {x C f : Addr} {ox : Obj} {od : Option Obj} {b tb : Value}
end
end HNeK
/-! AB: x != y of instances, by an own __eq__ that tells a flag. -/
namespace AB
open PySem PySem.Spec PyProof.Rows L2
section
variable {X : Cx} {W : WX} {k' : Nat} {tb : List (Str × Fn)} {cs : List (Str × Str)}
end
/-! isinstance of an instance, by an own class -/
section
variable {X : Cx} {W : WX} {e : Expr} {ma : Me} {p pos : Pos}
end
end AB
/-! sorted(d) of a dict with int keys, of any length -/
namespace AB
open PySem PySem.Spec PyProof.Rows L2
section
variable {X : Cx}
end
section
variable {X : Cx} {W : WX} {pos p : Pos} {e : Expr} {as : MeL}
end
end AB
/-! AB: == where the left side may be a dict and the right one is a tuple: False -/
namespace AB
open PySem PySem.Spec PyProof.Rows L2
namespace EqDT
open PySem.SeqAt PySem.MeetsSeq PySem.Calls PyProof.V
open PySem.AutoSeq1 (wpAny_loadPart')
section
variable {prog : Program} {w : World} {κ : Type} [DecidableEq κ] {knd : KeyKind prog w κ} {A : Around} {E : Value → Shared → Prop} {s : Shared}
end
end EqDT
section
variable {X : Cx} {W : WX}
end
end AB
/-! AB: repr of None, flags, ints, texts, an empty dict, lists and tuples -/
namespace AB
open PySem PySem.Spec PyProof.Rows L2
noncomputable def fReprA (xs : List D) (h : AH) : Res D := match xs with
  | [.non] => .ok (.str "None") h
  | [.bl b] => .ok (.str (if b then "True" else "False")) h
  | [.int i] => if i.natAbs.log2 < 1920 then .ok (.str (toString i)) h else .stuck
  | [.str x] => if (PySem.reprText x).length ≤ big then .ok (.str (PySem.reprText x)) h else .stuck
  | [.loc n] => match dctAt h n with
    | some [] => .ok (.str (PyData.dict []).shown) h
    | some _ => .stuck
    | none => fRepr [.loc n] h
  | xs => fRepr xs h
section
variable {X : Cx} {W : WX} {pos p : Pos} {e : Expr} {as : MeL}
end
end AB
/-! AB: t * k of tuples, empty ones too -/
namespace AB
open PySem PySem.Spec PyProof.Rows L2
open Sem (wp)
open AutoSeq1 (wpAny_loadPart')
theorem tuple_mul0 (l : Addr) (n : Nat) (dd : Option Addr) (sl : Array (Option Value)) (k : Int) (hk : 0 ≤ k ∧ k ≤ 1000) (u : Tok) :
    Meets (Builtin.«tuple.__mul__» ⟨[.ref l, .int k u], []⟩) (fun _ R s => s.heap.get? l = some { cls := .type "tuple", dict := dd, data := .seq #[] n, slots := sl } ∧ R (.ok (.ret (Value.ref l))) s) :=
  .of_wp fun prog w A R s h => by
    obtain ⟨hp, g, d, tk, os⟩ := s
    obtain ⟨hl, h⟩ := h
    have f1 := AutoSeq1.idx_int
    have c0 : (decide (k < -(2 ^ 63)) || decide (k ≥ 2 ^ 63)) = false := by
      rw [Bool.or_eq_false_iff]
      exact ⟨decide_eq_false (by omega), decide_eq_false (by omega)⟩
    have c1 : ((#[] : Array Value).isEmpty || k == 1) = true := rfl
    wp_walk using wpAny_loadPart' hl
    refine wpAny_ite_false (decide_eq_false (by rw [c0]; decide)) ?_
    wp_walk using wpAny_loadPart' hl
    exact ⟨_, rfl, h⟩
noncomputable def rRepT0 (K : PySem.W.Frag) : R2 := fun x y H Q => ∃ l k, x = .ref l ∧ y = .int k ∧ (0 ≤ k ∧ k ≤ 1000) ∧ SqT K H l [] ∧ Q (.ref l) H
section
variable {X : Cx} {W : WX}
theorem op_repT0 : OpR X (binaryOp .Mult) (rRepT0 X.K) := by
  intro pins s σ H x y v u Q I rx ry h
  obtain ⟨l, k, rfl, rfl, hk, hT, q⟩ := h
  cases rx
  obtain ⟨t, rfl⟩ := ry
  obtain ⟨its, r, ⟨⟨cls, dd, data, sl⟩, ho, hc, n, hd⟩, hs⟩ := I.tuple hT
  simp only at hc hd
  subst hc hd
  have e : its = [] := by cases r; rfl
  subst e
  exact wpAny_binaryOp_repeat_ref (T := "tuple") (U := "int") (by decide) ⟨_, ho, rfl⟩ (fun s' => typeIs_int s' k t) noFill_tuple_mul F.fills_int_mul F.slot_int_rmul repeat_tuple F.slot_int_index.lookup
    (call_meets F.slot_int_rmul (typeIs_int s k t) F.entry_int_rmul (F.args_int_rmul_2 _ _) (int_rmul_tuple k t l #[] n dd sl)
      ⟨ho, rfl, ⟨_, ho, rfl⟩, call_meets F.slot_tuple_mul ⟨_, ho, rfl⟩ F.entry_tuple_mul (F.args_tuple_mul_2 _ _) (tuple_mul0 l n dd sl k hk t) ⟨ho, ⟨.ref l, H, I, rfl, q⟩⟩⟩)
noncomputable def fMulT (x y : D) (h : AH) : Res D := match x, y with
  | .tup [], .int k => if 0 ≤ k ∧ k ≤ 1000 then .ok (.tup []) h else .stuck
  | x, y => fMulA x y h
noncomputable def rMulT (K : PySem.W.Frag) : R2 := fun x y H Q => rMulA K x y H Q ∨ rRepT0 K x y H Q
theorem op_mulT : OpR X (binaryOp .Mult) (rMulT X.K) := OpR.or op_mulA op_repT0
theorem fol_mulT : Fol2 X W fMulT (rMulT X.K) := by
  intro w h H σ Q v1 v2 d1 d2 rh r1 r2 o
  unfold fMulT at o
  split at o
  · rename_i k
    split at o
    · rename_i c
      cases r2
      cases r1 with
      | tup a b =>
        rename_i l xs
        have ex : xs = [] := by cases b; rfl
        subst ex
        exact .inr ⟨_, _, rfl, rfl, c, rh.ex.t a, out_ok o rh (.tup a b)⟩
    · exact o.elim
  · exact .inl (fol_mulA w h H σ Q _ _ _ _ rh r1 r2 o)
end
end AB
/-! AB: len(set(xs)) of a list of ints; xs.remove(k); [f, g, ..][i](..) of any number of defs. -/
namespace AB
open PySem PySem.Spec PyProof.Rows L2 HSetL

/-! ### len(set(xs)) -/
noncomputable def rLenSO (w : World) : List V → Hp → VK → Prop := fun vs H Q => ∃ (a : Addr) (S : Int → Bool) (n : Nat), vs = [V.ref a] ∧ H a = some (SetO w a S n) ∧
  ∀ ns : List Int, ns.Nodup → (∀ k : Int, k ∈ ns ↔ S k = true) → ns.length = n → Q (.int (n : Int)) H
theorem cr_lenSO {X : Cx} : CallR X (.builtin "len") (rLenSO X.w) := by
  intro pins s σ H vs us Q I r h
  obtain ⟨a, S, n, rfl, ha, q⟩ := h
  obtain ⟨o, es, ep, t, ho, hex, hd, g, nd, hm, hb, hf, hn, hr, hl⟩ := setO_get I ha
  rw [Vals.ref1 r]
  have hb2 : (es.size : Int) < 2 ^ 63 := by
    have : es.size < 1000000000 := Nat.lt_of_lt_of_le hb (by decide)
    omega
  refine call_len_set ho hex hd hf hb2 ?_
  have q2 := q (es.toList.map keyOf) nd (fun k => (hm k).symm) (by rw [List.length_map, Array.length_toList]; exact hn)
  exact ⟨.int n, H, I.tok _, ⟨_, by rw [hn]⟩, q2⟩

theorem len_le_of_sub : ∀ {a b : List Int}, a.Nodup → (∀ k, k ∈ a → k ∈ b) → a.length ≤ b.length
  | [], _, _, _ => Nat.zero_le _
  | x :: a, b, nd, h => by
    have hx : x ∈ b := h x List.mem_cons_self
    obtain ⟨n1, n2⟩ := List.nodup_cons.mp nd
    have ih := len_le_of_sub (a := a) (b := b.erase x) n2 fun k hk => by
      have hne : k ≠ x := fun e => n1 (e ▸ hk)
      exact (List.mem_erase_of_ne hne).mpr (h k (List.mem_cons_of_mem _ hk))
    rw [List.length_erase_of_mem hx] at ih
    have : 0 < b.length := List.length_pos_of_mem hx
    simp only [List.length_cons]
    omega
theorem upSet_nodup (l : List Int) : (upSet l).Nodup := (upSet_up l).imp fun h => by omega
noncomputable def rSetM (K : PySem.W.Frag) (w : World) : List V → Hp → VK → Prop := fun xs H Q => ∃ (a : Addr) (ns : List Int), xs = [V.ref a] ∧ SqL K H a (ns.map V.int) ∧ ns.length ≤ 2000 ∧
  ∀ (p : Addr) (c : Nat), c ≤ ns.length → H p = none → Q (.ref p) (upd H p (SetO w p (fun j => decide (j ∈ ns)) c))
theorem cr_setM {X : Cx} (hc : X.calm = true) : CallR X (.type "set") (rSetM X.K X.w) := by
  intro pins s σ H xs us Q I r h
  obtain ⟨a, ns, rfl, hq, hl, q⟩ := h
  rw [Vals.ref1 r]
  obtain ⟨its, rv, pl, hz⟩ := I.list hq
  refine call_set_lstI ns (I.ok.hd hc) pl.isList (ints_of_vals rv) (by unfold scanBound; omega) fun s2 f => ?_
  obtain ⟨h', tk, c, rfl, R, hle, k⟩ := f
  have hlt : s.heap.objs.size < h'.objs.size := R.lt
  exact ⟨.ref _, _, I.laid (t' := tk) (fun b u e => k b u e) (Nat.le_refl _) (setO_new R), rfl, q _ c hle (I.hok.fresh (Nat.le_refl _))⟩
noncomputable def rLenSet (K : PySem.W.Frag) (w : World) : List V → Hp → VK → Prop := fun xs H Q => rSetM K w xs H fun v H1 => rLenSO w [v] H1 Q
noncomputable def fLenSet (xs : List D) (h : AH) : Res D := match xs with
  | [d] => match vL h d with
    | some ds => match intsD ds with
      | some is => if is.length ≤ 2000 then .ok (.int ((upSet is).length : Int)) h else .stuck
      | none => .stuck
    | none => .stuck
  | _ => .stuck
section
variable {X : Cx} {W : WX} {pos pos2 p p2 : Pos} {e : Expr} {as : MeL}
theorem fol_lenSet : FolN X W fLenSet (rLenSet X.K X.w) := by
  intro w h H σ Q vs ds rh ra o
  unfold fLenSet at o
  split at o
  · rename_i d
    obtain ⟨v, rfl, rv⟩ := ra_one ra
    split at o
    · rename_i es ev
      split at o
      · rename_i is ei
        split at o
        · rename_i hl
          obtain ⟨a, xs, rfl, sq, ra2⟩ := vL_rep rh rv ev
          have ex := intsD_rep ei ra2
          subst ex
          refine ⟨a, is, rfl, sq, hl, fun q c hc hq => ⟨q, _, c, rfl, upd_same, fun ns nd hm hn => ?_⟩⟩
          have m1 : ∀ k, k ∈ ns ↔ k ∈ upSet is := fun k => ((hm k).trans decide_eq_true_iff).trans upSet_mem.symm
          have en : c = (upSet is).length := by
            rw [← hn]
            exact Nat.le_antisymm (len_le_of_sub nd fun k hk => (m1 k).mp hk) (len_le_of_sub (upSet_nodup is) fun k hk => (m1 k).mpr hk)
          subst en
          exact out_ok o (rh.fresh _ hq).1 (.int _)
        · exact o.elim
      · exact o.elim
    · exact o.elim
  · exact o.elim
theorem e_lenSet (hm : X.mg "len" = none) (hm2 : X.mg "set" = none) (ha : PA X [e] (TAr X W as)) (hc : X.calm = true := by rfl) (hg : Gl X "len" := by rfl) (hg2 : Gl X "set" := by rfl)
    (he2 : starEach [e] X.env = (false, eval e X.env) :: starEach [] X.env := by rfl)
    (he : starEach [.Call (.Name "set" p2) [e] [] pos2] X.env = (false, eval (.Call (.Name "set" p2) [e] [] pos2) X.env) :: starEach [] X.env := by rfl) :
    PE X (.Call (.Name "len" p) [.Call (.Name "set" p2) [e] [] pos2] [] pos) (TM X W (mN fLenSet as)) :=
  (pe_callB cr_lenSO hg hm PySem.boot_len (pa_cons (pe_callTy (cr_setM hc) hg2 hm2 (by decide +kernel) ha (by decide) (by decide) he2 rfl) pa_nil he) (by decide) (by decide) he rfl).wk
    fun σ H Q t => show tCB (rLenSet X.K X.w) (TAr X W as) σ H Q from cb fol_lenSet t
end
/-! ### xs.remove(k) -/
noncomputable def remC (n : Nat) (y : D) (h : AH) : Res D := match y with
  | .int k => match h[n]? with
    | some (.lst ds) => match intsD ds with
      | some is => if k ∈ is then .ok .non (h.set n (.lst ((is.erase k).map .int))) else .stuck
      | none => .stuck
    | _ => .stuck
  | _ => .stuck
noncomputable def mRem (o e : Me) : Me := fun G h => (o G h).bind fun d h1 => match d with
  | .loc n => match h1[n]? with
    | some (.lst _) => (e G h1).bind fun y h2 => remC n y h2
    | _ => .stuck
  | _ => .stuck
section
variable {X : Cx} {W : WX} {o e : Expr} {ma mb : Me} {apos cpos : Pos}
theorem e_rem (tk : Takes X W) (ho : PE X o (TM X W ma)) (he : PE X e (TM X W mb)) (hc : X.calm = true := by rfl) (hbase : attributeBase o "remove" X.env (eval o X.env) = eval o X.env := by rfl)
    (hfew : ((backTo cpos (starEach [e] X.env)).all (fun x => !x.1) && (backToKw cpos (keywordEach [] X.env)).all (fun x => x.1.isSome)
      && decide (([e] : List Expr).length + ([] : List Keyword).length + (if ([] : List Keyword).isEmpty then 0 else 1) < 30)) = true := by rfl)
    (hline : (apos.endLine == cpos.line) = true := by rfl) (hs : starEach [e] X.env = (false, eval e X.env) :: starEach [] X.env := by rfl) (hplain : (backTo cpos (starEach [] X.env)).any (·.1) = false := by rfl) :
    PE X (.Call (.Attribute o "remove" apos) [e] [] cpos) (TM X W (mRem ma mb)) := by
  refine (pe_remX hc tk ho he hbase hfew hline hs hplain).wk fun σ H Q ⟨w, G, h, g, r, o⟩ => ⟨w, G, h, g, r, o.bindE fun d h1 v w1 H1 l1 r1 x o1 => ?_⟩
  split at o1
  · rename_i n
    split at o1
    · rename_i ds ed
      obtain ⟨ev, hn⟩ := rv_loc x
      subst ev
      obtain ⟨_, xs, e1, rx⟩ := r1.cell n _ ed
      refine ⟨.inl ⟨rfl, xs, .inl (.inl e1)⟩, w1, G, h1, g.mono l1, r1, o1.bindE fun y h2 u w2 H2 l2 r2 x2 o2 => ?_⟩
      unfold remC at o2
      split at o2
      · rename_i k
        split at o2
        · rename_i ds2 ed2
          split at o2
          · rename_i is ei
            split at o2
            · rename_i hk
              cases x2
              obtain ⟨_, xs2, e2, rx2⟩ := r2.cell n _ ed2
              have ex := intsD_rep ei rx2
              subst ex
              have hmu : w2.mu n = w1.mu n := l2.mu n hn
              have hn2 : n < w2.N := Nat.lt_of_lt_of_le hn l2.n
              refine ⟨w1.mu n, is, k, rfl, rfl, by rw [← hmu]; exact e2, fun _ => ?_, fun hno => absurd hk hno⟩
              rw [← hmu]
              exact out_set hn2 o2 r2 .non (ints_rep _)
            · exact o2.elim
          · exact o2.elim
        · exact o2.elim
      · exact o2.elim
    · exact o1.elim
  · exact o1.elim
end
/-! ### [f, g, ..][i](..) -/
noncomputable def pickL (ms : List Fn) (as : MeL) (G : Env) (d : D) (h : AH) : Res D := match d with
  | .int k => if 0 ≤ k then match ms[k.toNat]? with
    | some m => mN m as G h
    | none => .stuck
   else .stuck
  | _ => .stuck
noncomputable def mPickL (ms : List Fn) (mi : Me) (as : MeL) : Me := fun G h => (mi G h).bind fun d h1 => pickL ms as G d h1
inductive Picks (X : Cx) (k' : Nat) (n : Nat) : List Expr → List Addr → List Fn → Prop where
  | nil : Picks X k' n [] [] []
  | cons {x : Str} {pos : Pos} {f : Addr} {fd : FuncData} {k : Nat} {ps : List Str} {m : Fn} {es : List Expr} {fs : List Addr} {ms : List Fn} :
      X.mg x = some (.ref f) → PySem.W.keepIn X.K (.ref f) = true → L2.Binds X.K fd ps [] → FnOk X.prog X.w X.K X.mg X.base (L2.CX X.prog X.w) k f fd ps (spM X.K X.mg m) → k ≤ k' → Gl X x → (x == ("__debug__" : Str)) = false →
      Picks X k' n es fs ms → Picks X k' n (.Name x pos :: es) (f :: fs) (m :: ms)
noncomputable def conL : List Addr → MeL
  | [] => aNil
  | f :: fs => aCons (mC (.con f)) (conL fs)
section
variable {X : Cx} {W : WX} {k' n : Nat} {es as0 : List Expr} {fs : List Addr} {ms : List Fn}
theorem conL_v (G : Env) (h : AH) : ∀ fs : List Addr, conL fs G h = .ok (fs.map .con) h
  | [] => rfl
  | f :: fs => by
    show ((mC (.con f)) G h).bind (fun d h1 => (conL fs G h1).bind fun ds h2 => .ok (d :: ds) h2) = _
    show ((conL fs G h).bind fun ds h2 => .ok (D.con f :: ds) h2) = _
    rw [conL_v G h fs]
    rfl
theorem Picks.pa (P : Picks X k' n es fs ms) : PA X es (TAr X W (conL fs)) := by
  induction P with
  | nil => exact a_nil
  | cons a b c d e g i j ih => exact a_cons (e_glob (v := .ref _) a rfl (fun _ => .con) g i) ih rfl
theorem Picks.at_ (P : Picks X k' n es fs ms) : ∀ {i : Nat} {m : Fn}, ms[i]? = some m → ∃ f fd k ps, fs[i]? = some f ∧ PySem.W.keepIn X.K (.ref f) = true ∧ L2.Binds X.K fd ps [] ∧ FnOk X.prog X.w X.K X.mg X.base (L2.CX X.prog X.w) k f fd ps (spM X.K X.mg m) ∧ k ≤ k' := by
  induction P with
  | nil => intro i m e; cases e
  | cons a b c d e g i j ih =>
    intro i m em
    cases i with
    | zero =>
      obtain rfl := Option.some.inj em
      exact ⟨_, _, _, _, rfl, b, c, d, e⟩
    | succ i =>
      obtain ⟨f, fd, k, ps, z⟩ := ih em
      exact ⟨f, fd, k, ps, z⟩
theorem Picks.len (P : Picks X k' n es fs ms) : fs.length = ms.length := by
  induction P with
  | nil => rfl
  | cons a b c d e g i j ih => rw [List.length_cons, List.length_cons, ih]
theorem picks_nil : ∃ fs, Picks X k' 0 [] fs [] := ⟨[], .nil⟩
theorem picks_cons {x : Str} {pos : Pos} {k : Nat} {ps : List Str} {m : Fn} (F : Has X.prog X.w X.K X.mg X.base x k ps (spM X.K X.mg m)) (P : ∃ fs, Picks X k' 0 es fs ms) (hk : k ≤ k' := by first | decide | omega) (hg : Gl X x := by rfl)
    (hd : (x == ("__debug__" : Str)) = false := by decide) : ∃ fs, Picks X k' 0 (.Name x pos :: es) fs (m :: ms) := by
  obtain ⟨fs, P⟩ := P
  obtain ⟨f, fd, a1, a2, a3, a4⟩ := F.ex
  exact ⟨f :: fs, .cons a1 a2 a3 a4 hk hg hd P⟩
variable {pos sp lp : Pos} {e ie : Expr} {as : MeL} {mi : Me}
theorem e_pickL (P : ∃ fs, Picks X k' 0 es fs ms) (hr : Room k' X.A) (tk : Takes X W)
    (hi : PE X ie (TM X W mi)) (ha : PA X (e :: as0) (TAr X W as)) (hb : ms.length ≤ 30 := by decide) (hs : PlainIx ie := by exact fun _ _ => rfl)
    (he : starEach (e :: as0) X.env = (false, eval e X.env) :: starEach as0 X.env := by rfl) (hpl : (backTo pos (starEach as0 X.env)).any (·.1) = false := by rfl) :
    PE X (.Call (.Subscript (.List es lp) ie sp) (e :: as0) [] pos) (TM X W (mPickL ms mi as)) := by
  obtain ⟨fs, P⟩ := P
  have hf : PE X (.Subscript (.List es lp) ie sp) (TM X W (mOp2 fIx (mL (lLst (conL fs))) mi)) := e_ix (e_L (f_lst P.pa)) hi hs
  refine ⟨fun pins s σ H Q I h => ?_⟩
  have hb2 : fs.length ≤ 30 := by rw [P.len]; exact hb
  have key : TM X W (mOp2 fIx (mL (lLst (conL fs))) mi) σ H fun v H1 => ∃ f fd k ps m, v = .ref f ∧ PySem.W.keepIn X.K (.ref f) = true ∧ L2.Binds X.K fd ps [] ∧ FnOk X.prog X.w X.K X.mg X.base (L2.CX X.prog X.w) k f fd ps (spM X.K X.mg m) ∧ k ≤ k' ∧ TM X W (mN m as) σ H1 Q := by
    obtain ⟨w, G, h0, g, r, o⟩ := h
    refine ⟨w, G, h0, g, r, ?_⟩
    have hb3 : (fs.map D.con).length ≤ big := by
      rw [List.length_map]
      exact Nat.le_trans hb2 (by decide)
    have e1 : (mL (lLst (conL fs))) G h0 = .ok (.lst (fs.map .con)) h0 := by
      show ((conL fs G h0).bind fun ds h2 => if ds.length ≤ big then Res.ok ds h2 else .stuck).bind _ = _
      rw [conL_v]
      show (if (fs.map D.con).length ≤ big then Res.ok (fs.map D.con) h0 else .stuck).bind _ = _
      rw [if_pos hb3]
      rfl
    have ee : mOp2 fIx (mL (lLst (conL fs))) mi G h0 = (mi G h0).bind fun y h2 => fIx (.lst (fs.map .con)) y h2 := by
      show ((mL (lLst (conL fs))) G h0).bind _ = _
      rw [e1]
      rfl
    rw [ee]
    unfold mPickL at o
    cases em : mi G h0 with
    | ok d h1 =>
      rw [em] at o
      replace o : OutE X.K X.mg W w σ Q (pickL ms as G d h1) := o
      unfold pickL at o
      split at o
      · rename_i k
        split at o
        · rename_i hk
          split at o
          · rename_i m eem
            obtain ⟨f, fd, k0, ps, e2, e3, e4, e5, e6⟩ := P.at_ eem
            have hlt : k.toNat < fs.length := (List.getElem?_eq_some_iff.mp e2).1
            have e7 : fIx (.lst (fs.map .con)) (.int k) h1 = .ok (.con f) h1 := by
              obtain ⟨j, rfl⟩ := Int.eq_ofNat_of_zero_le hk
              have hlt : j < fs.length := hlt
              have e2 : fs[j]? = some f := e2
              have e8 : atI (fs.map D.con) (j : Int) = some (.con f) := by
                have e9 : ixN fs.length (j : Int) = some j := by
                  unfold ixN
                  rw [if_pos (by omega), if_pos (by omega)]
                  simp
                unfold atI
                rw [List.length_map, e9]
                show (fs.map D.con)[j]? = _
                rw [List.getElem?_map, e2]
                rfl
              rw [v_ix]
              show (match atI (fs.map D.con) (j : Int) with | some d => Res.ok d h1 | none => .stuck) = _
              rw [e8]
            show OutE X.K X.mg W w σ _ (fIx (.lst (fs.map .con)) (.int k) h1)
            rw [e7]
            intro v w1 H1 l r1 rv
            cases rv
            exact ⟨f, fd, k0, ps, m, rfl, e3, e4, e5, e6, w1, G, h1, g.mono l, r1, OutE.mono l o⟩
          · exact o.elim
        · exact o.elim
      · exact o.elim
    | exc c fs h1 =>
      rw [em] at o
      exact o
    | stuck =>
      rw [em] at o
      exact o.elim
  have ea : eval (.Call (.Subscript (.List es lp) ie sp) (e :: as0) [] pos) X.env = (do
      callWith pos (← eval (.Subscript (.List es lp) ie sp) X.env) [] (backTo pos (starEach (e :: as0) X.env)) []) := rfl
  rw [ea]
  refine wpAny_bind (thn (hf.run pins s σ H _ I key) fun u s1 ⟨v, H1, I1, rv, f, fd, k, ps, m, ev, e3, e4, e5, e6, q⟩ => ?_)
  subst ev
  obtain rfl := rv
  refine PySem.W.callWith_K (h₀ := X.base) I1.ok.mod.kin e3 (thn (ha.run pos pins s1 σ H1 _ I1 (call_of q)) fun us s2 ⟨vs, H2, I2, r, q⟩ => ⟨I2.kIn, ?_⟩) he hpl
  exact run_fnS e5 (hr.mono e6) e4 (passAt tk σ) I2 r q
end
end AB
/-! AB: repr of a tuple with empty dicts among its items -/
namespace AB
open PySem PySem.Spec PyProof.Rows L2
/-- the modules' dict is written out -/
noncomputable def smIn (K : PySem.W.Frag) : Bool := match K.lookup sysModules with
  | some o => match o.cls with
    | .type c => c == "dict"
    | _ => false
  | none => false
section
variable {X : Cx} {pins : List (Addr × Obj)} {σ : L2.St} {H : Hp} {s : Shared}
theorem sm_at {K : PySem.W.Frag} (e : smIn K = true) : ∃ o, K.lookup sysModules = some o ∧ o.cls = .type "dict" := by
  unfold smIn at e
  split at e
  · rename_i o eo
    refine ⟨o, eo, ?_⟩
    split at e
    · rename_i c ec
      rw [ec, beq_iff_eq.mp e]
    · cases e
  · cases e
theorem sm_free (I : L2.Inv X pins σ H s) (hk : smIn X.K = true) : H sysModules = none := by
  obtain ⟨o, e, _⟩ := sm_at hk
  exact (I.bs _ _ (I.mod.kin _ _ e)).2
theorem sm_lst (I : L2.Inv X pins σ H s) (hk : smIn X.K = true) {a : Addr} {xs : List V} (h : SqL X.K H a xs) : a ≠ sysModules := by
  rintro rfl
  have f := sm_free I hk
  obtain ⟨o', e', c'⟩ := sm_at hk
  rcases h with h | ⟨o, its, n, e, c, _⟩
  · rcases h with h | ⟨_, h⟩
    · rw [f] at h; cases h
    · rw [f] at h; cases h
  · rw [e'] at e
    cases e
    rw [c'] at c
    exact absurd c (by simp)
mutual
theorem dp_reads1 (I : L2.Inv X pins σ H s) (hk : smIn X.K = true) : ∀ (d : PyData) (v : V) (u : Value), Dp X.K H v d → RelV v u → ∃ as, Reads s.heap u d as ∧ sysModules ∉ as
  | .none, _, _, h, r => by
    cases h
    cases r
    exact ⟨_, Reads.none, by simp⟩
  | .bool b, _, _, h, r => by
    cases h
    cases r
    exact ⟨_, Reads.bool b, by simp⟩
  | .int i, _, _, h, r => by
    cases h
    obtain ⟨t, rfl⟩ := r
    exact ⟨_, Reads.int i t, by simp⟩
  | .str x, _, _, h, r => by
    cases h
    obtain ⟨t, rfl⟩ := r
    exact ⟨_, Reads.str x t, by simp⟩
  | .list ds, _, _, h, r => by
    cases h with
    | lst hs ha =>
      cases r
      obtain ⟨its, rv, ⟨o, n, ho, hc, _, hd⟩, _⟩ := I.list hs
      obtain ⟨as, hr, hn⟩ := dp_readsAll1 I hk ds _ its ha rv
      refine ⟨_, Reads.list ho hc hd hr, ?_⟩
      simp only [List.mem_cons, not_or]
      exact ⟨fun e => sm_lst I hk hs e.symm, hn⟩
  | .tuple ds, _, _, h, r => by
    cases h with
    | tup hs ha =>
      cases r
      obtain ⟨its, rv, ⟨o, ho, hc, n, hd⟩, _⟩ := I.tuple hs
      obtain ⟨as, hr, hn⟩ := dp_readsAll1 I hk ds _ its ha rv
      exact ⟨_, Reads.tuple ho hc hd hr, hn⟩
  | .dict _, _, _, h, _ => by cases h
theorem dp_readsAll1 (I : L2.Inv X pins σ H s) (hk : smIn X.K = true) : ∀ (ds : List PyData) (vs : List V) (us : List Value), DpAll X.K H vs ds → Vals vs us → ∃ as, ReadsAll s.heap us ds as ∧ sysModules ∉ as
  | [], _, _, h, r => by
    cases h
    cases r
    exact ⟨_, ReadsAll.nil, by simp⟩
  | d :: ds, _, _, h, r => by
    cases h with
    | cons h1 h2 =>
      cases r with
      | cons r1 r2 =>
        obtain ⟨as, q1, n1⟩ := dp_reads1 I hk d _ _ h1 r1
        obtain ⟨bs, q2, n2⟩ := dp_readsAll1 I hk ds _ _ h2 r2
        refine ⟨_, ReadsAll.cons q1 q2, ?_⟩
        rw [List.mem_append, not_or]
        exact ⟨n1, n2⟩
end
/-- data, or an empty dict -/
noncomputable def DpX (K : PySem.W.Frag) (H : Hp) (v : V) (p : PyData) : Prop := Dp K H v p ∨ ∃ b, v = .ref b ∧ Rd H b (.dK []) ∧ p = .dict []
inductive DpXs (K : PySem.W.Frag) (H : Hp) : List V → List PyData → Prop where
  | nil : DpXs K H [] []
  | cons {v : V} {vs : List V} {p : PyData} {ps : List PyData} : DpX K H v p → DpXs K H vs ps → DpXs K H (v :: vs) (p :: ps)
theorem dpx_reads (I : L2.Inv X pins σ H s) (hk : smIn X.K = true) {v : V} {p : PyData} {u : Value} (h : DpX X.K H v p) (r : RelV v u) : ∃ as, Reads s.heap u p as ∧ sysModules ∉ as := by
  rcases h with h | ⟨b, rfl, hd, rfl⟩
  · exact dp_reads1 I hk p v u h r
  · cases r
    obtain ⟨_, lo, vs, rel, o, es, ep, ho, hx, hdt, _, hp, _⟩ := dk_rd I.hok hd
    have ev : vs = [] := by cases rel; rfl
    subst ev
    have ee : es.toList = [] := List.eq_nil_of_length_eq_zero hp.length
    have rd : Reads s.heap (.ref b) (.dict []) (b :: [] ++ []) := Reads.dict ho hx.1 hdt (by rw [ee]; exact .nil) (by rw [ee]; exact .nil)
    refine ⟨_, rd, fun hm => ?_⟩
    have : sysModules = b := by simpa using hm
    subst this
    exact absurd lo (by simp)
theorem dpxs_reads (I : L2.Inv X pins σ H s) (hk : smIn X.K = true) : ∀ {vs : List V} {ps : List PyData} {us : List Value}, DpXs X.K H vs ps → Vals vs us → ∃ as, ReadsAll s.heap us ps as ∧ sysModules ∉ as
  | _, _, _, .nil, .nil => ⟨_, ReadsAll.nil, by simp⟩
  | _, _, _, .cons h1 h2, .cons r1 r2 => by
    obtain ⟨as, q1, n1⟩ := dpx_reads I hk h1 r1
    obtain ⟨bs, q2, n2⟩ := dpxs_reads I hk h2 r2
    refine ⟨_, ReadsAll.cons q1 q2, ?_⟩
    rw [List.mem_append, not_or]
    exact ⟨n1, n2⟩
end
noncomputable def toPX (h : AH) : D → Option PyData
  | .loc n => match dctAt h n with
    | some [] => some (.dict [])
    | _ => none
  | d => toP d
noncomputable def toPXs (h : AH) : List D → Option (List PyData)
  | [] => some []
  | d :: ds => match toPX h d, toPXs h ds with
    | some p, some ps => some (p :: ps)
    | _, _ => none
noncomputable def fReprT (xs : List D) (h : AH) : Res D := match xs with
  | [.tup ds] => match toPXs h ds with
    | some ps => if (PyData.tuple ps).showable = true ∧ (PyData.tuple ps).depth ≤ 60 ∧ (PyData.tuple ps).shown.length ≤ 4000000 then .ok (.str (PyData.tuple ps).shown) h else .stuck
    | none => .stuck
  | _ => .stuck
noncomputable def rReprT (K : PySem.W.Frag) : List V → Hp → VK → Prop := fun xs H Q => ∃ a vs ps, xs = [.ref a] ∧ SqT K H a vs ∧ DpXs K H vs ps ∧ (PyData.tuple ps).showable = true ∧ (PyData.tuple ps).depth ≤ 60 ∧ (PyData.tuple ps).shown.length ≤ sizeLine ∧ Q (.str (PyData.tuple ps).shown) H
section
variable {X : Cx} {W : WX} {pos p : Pos} {e : Expr} {as : MeL}
theorem cr_reprT (hk : smIn X.K = true) (hg : X.A.guards = some []) (hu : X.A.units + 65 < cLine) : CallR X (.builtin "repr") (rReprT X.K) := by
  intro pins s σ H xs us Q I r h
  obtain ⟨a, vs, ps, rfl, hs, hd, h1, h3, h4, q⟩ := h
  rw [Vals.ref1 r]
  obtain ⟨its, rv, ⟨o, ho, hc, n, hdt⟩, _⟩ := I.tuple hs
  obtain ⟨as, hr, hn⟩ := dpxs_reads I hk hd rv
  exact repr_of_reads' (Reads.tuple ho hc hdt hr) h1 (fun _ => hn) hg (by omega) (fun _ _ e => e) (fun h' u tk hk => ⟨.str _, H, I.kept hk, ⟨u, rfl⟩, q⟩) h4
theorem toPXs_rep {K : PySem.W.Frag} {w : Wd} {H : Hp} {h : AH} (rh : RepH K w H h) : ∀ {vs : List V} {ds : List D} {ps : List PyData}, Ra K w vs ds → toPXs h ds = some ps → DpXs K H vs ps
  | _, _, ps, .nil, e => by
    cases e
    exact .nil
  | _, _, ps, .cons (v := v) (d := d) (ds := ds) a b, e => by
    unfold toPXs at e
    split at e
    · rename_i p qs e1 e2
      cases e
      refine .cons ?_ (toPXs_rep rh b e2)
      unfold toPX at e1
      split at e1
      · rename_i n
        split at e1
        · rename_i ed
          cases e1
          obtain ⟨rfl, hn⟩ := rv_loc a
          obtain ⟨kv, g1, g2, _⟩ := dct_rd rh ed
          have : kv = [] := by cases kv with | nil => rfl | cons a b => cases g2
          subst this
          exact .inr ⟨_, rfl, g1, rfl⟩
        · cases e1
      · exact .inl (toP_rep rh.ex _ _ _ a e1)
    · cases e
theorem fol_reprT : FolN X W fReprT (rReprT X.K) := by
  intro w h H σ Q vs ds rh ra o
  unfold fReprT at o
  split at o
  · rename_i es
    split at o
    · rename_i ps ep
      split at o
      · rename_i c
        obtain ⟨v, rfl, rv⟩ := ra_one ra
        cases rv with
        | tup sq rx => exact ⟨_, _, ps, rfl, rh.ex.t sq, toPXs_rep rh rx ep, c.1, c.2.1, Nat.le_trans c.2.2 (by decide), out_ok o rh (.str _)⟩
      · exact o.elim
    · exact o.elim
  · exact o.elim
theorem e_reprT (hk : smIn X.K = true) (gd : X.A.guards = some []) (hu : X.A.units + 65 < cLine) (hm : X.mg "repr" = none) (ha : PA X [e] (TAr X W as)) (hg : Gl X "repr" := by rfl) (he : starEach [e] X.env = (false, eval e X.env) :: starEach [] X.env := by rfl) :
    PE X (.Call (.Name "repr" p) [e] [] pos) (TM X W (mN fReprT as)) :=
  e_blt (cr_reprT hk gd hu) fol_reprT hm ha hg (by decide +kernel) (by decide) (by decide) he rfl
end
end AB
namespace My
open PySem AB
/-- _law_pool(script): slots 0=script 1=cell -/
noncomputable def b__law_pool : Ms :=
  (sSeq (sRet (mNew (lLst (aCons (mL (lComp (.nm 1) [1] (iSeq (mSl (mV 0) oNone (oSome (mC (.int 63))))) tYesM (mN fAbs (aCons (mN fInt (aCons (mV 1) aNil)) aNil)))) (aCons (mC (.int 0)) (aCons (mC (.int 0)) (aCons (mOp2 fAdd (mC (.int 1)) (mN fLen (aCons (mV 0) aNil))) (aCons (mC (.int 0)) aNil)))))))) sNil)
noncomputable def m__law_pool : FnL := mDefL 1 2 b__law_pool
/-- _law_draw(pool, many): slots 0=pool 1=many 2=cell 3=digit 4=mixed -/
noncomputable def b__law_draw : Ms :=
  (sSeq (sIf (tAndM (tBl (mOp2 fEq (mOp2 fIx (mV 0) (mC (.int 2))) (mC (.int 0)))) (tBl (mOp2 cLt (mOp2 fIx (mV 0) (mC (.int 1))) (mN fLen (aCons (mOp2 fIx (mV 0) (mC (.int 0))) aNil))))) (sSeq (sSet 2 (mOp2 fIx (mOp2 fIx (mV 0) (mC (.int 0))) (mOp2 fIx (mV 0) (mC (.int 1))))) (sSeq (sSub (mV 0) (mC (.int 1)) (mOp2 fAdd (mOp2 fIx (mV 0) (mC (.int 1))) (mC (.int 1)))) (sSeq (sIf (tBl (mOp2 cGe (mV 2) (mOp2 fPow (mC (.int 10)) (mC (.int 18))))) (sSeq (sSub (mV 0) (mC (.int 2)) (mV 2)) sNil) (sSeq (sSub (mV 0) (mC (.int 3)) (mOp2 fMod (mN fInt (aCons (mOp2 fAdd (mOp2 fAdd (mOp2 fMul (mOp2 fIx (mV 0) (mC (.int 3))) (mC (.int 48271))) (mOp2 fMul (mOp2 fMod (mN fInt (aCons (mV 2) aNil)) (mC (.int 2147483629))) (mC (.int 69621)))) (mOp2 fIx (mV 0) (mC (.int 1)))) aNil)) (mC (.int 2147483647)))) sNil)) sNil))) sNil) (sSeq (sIf (tBl (mOp2 cGt (mOp2 fIx (mV 0) (mC (.int 2))) (mC (.int 0)))) (sSeq (sSet 3 (mOp2 fMod (mN fInt (aCons (mOp2 fIx (mV 0) (mC (.int 2))) aNil)) (mV 1))) (sSeq (sSub (mV 0) (mC (.int 2)) (mOp2 fDiv (mN fInt (aCons (mOp2 fIx (mV 0) (mC (.int 2))) aNil)) (mV 1))) (sSeq (sRet (mV 3)) sNil))) sNil) (sSeq (sSub (mV 0) (mC (.int 4)) (mOp2 fAdd (mOp2 fIx (mV 0) (mC (.int 4))) (mC (.int 1)))) (sSeq (sSub (mV 0) (mC (.int 3)) (mOp2 fMod (mN fInt (aCons (mOp2 fAdd (mOp2 fAdd (mOp2 fMul (mOp2 fIx (mV 0) (mC (.int 3))) (mC (.int 40692))) (mOp2 fMul (mC (.int 7919)) (mOp2 fIx (mV 0) (mC (.int 4))))) (mC (.int 30103))) aNil)) (mC (.int 2147483399)))) (sSeq (sSet 4 (mOp2 fMod (mN fInt (aCons (mOp2 fMul (mOp2 fIx (mV 0) (mC (.int 3))) (mOp2 fAdd (mOp2 fDiv (mOp2 fIx (mV 0) (mC (.int 3))) (mC (.int 1009))) (mC (.int 69621)))) aNil)) (mC (.int 2147483647)))) (sSeq (sSet 4 (mOp2 fMod (mN fInt (aCons (mOp2 fMul (mV 4) (mOp2 fAdd (mOp2 fDiv (mV 4) (mC (.int 2003))) (mC (.int 48271)))) aNil)) (mC (.int 2147483629)))) (sSeq (sRet (mOp2 fMod (mN fInt (aCons (mOp2 fDiv (mV 4) (mC (.int 16))) aNil)) (mV 1))) sNil)))))))
noncomputable def m__law_draw : Fn := mDef 2 5 b__law_draw
/-- _law_deep(thing, many): slots 0=thing 1=many 2=turn -/
noncomputable def b__law_deep : Ms :=
  (sSeq (sFor (.nm 2) (iRange1 (aCons (mV 1) aNil)) (sSeq (sSet 0 (mN fTup (aCons (mV 0) aNil))) sNil)) (sSeq (sRet (mV 0)) sNil))
noncomputable def m__law_deep : Fn := mDef 2 3 b__law_deep
/-- _law_is_int(thing, least, most): slots 0=thing 1=least 2=most -/
noncomputable def b__law_is_int : Ms :=
  (sSeq (sRet (mAnd (mIsi .int (mV 0)) (mAnd (mNot (mIsi .bl (mV 0))) (mChain cLe cLe (mV 1) (mV 0) (mV 2))))) sNil)
noncomputable def m__law_is_int : Fn := mDef 3 3 b__law_is_int
/-- is_integer(thing): slots 0=thing -/
noncomputable def b_is_integer : Ms :=
  (sSeq (sRet (mAnd (mIsi .int (mV 0)) (mNot (mIsi .bl (mV 0))))) sNil)
noncomputable def m_is_integer : Fn := mDef 1 1 b_is_integer
/-- writers(history, key): slots 0=history 1=key 2=index 3=deal -/
noncomputable def b_writers : Ms :=
  (sSeq (sRet (mNew (lComp (.tp [(.nm 2), (.nm 3)]) [2, 3] (iEnum (aCons (mV 0) aNil)) (tBl (mOp2 fIn (mV 1) (mOp2 fIx (mV 3) (mC (.int 1))))) (mV 2)))) sNil)
noncomputable def m_writers : FnL := mDefL 2 4 b_writers
/-- _law_any(pool, things): slots 0=pool 1=things -/
noncomputable def b__law_any : Ms :=
  (sSeq (sRet (mOp2 fIx (mV 1) (mN m__law_draw (aCons (mV 0) (aCons (mN fLen (aCons (mV 1) aNil)) aNil))))) sNil)
noncomputable def m__law_any : Fn := mDef 2 2 b__law_any
/-- _law_is_reads(told, one, thing): slots 0=told 1=one 2=thing 3=pair 4=k -/
noncomputable def b__law_is_reads : Ms :=
  (sSeq (sIf (tNotM (tOf (mIsi .tup (mV 2)))) (sSeq (sRet (mC (.bl false))) sNil) sNil) (sSeq (sFor (.nm 3) (iSeq (mV 2)) (sSeq (sIf (tOrM (tNotM (tOf (mIsi .tup (mV 3)))) (tOrM (tBl (mOp2 fNe (mN fLen (aCons (mV 3) aNil)) (mC (.int 2)))) (tNotM (tOf (mN m__law_is_int (aCons (mOp2 fIx (mV 3) (mC (.int 0))) (aCons (mC (.int 0)) (aCons (mC (.int 99)) aNil)))))))) (sSeq (sRet (mC (.bl false))) sNil) sNil) (sSeq (sIf (tOrM (tNotM (tOf (mN m__law_is_int (aCons (mOp2 fIx (mV 3) (mC (.int 1))) (aCons (mOp1 fNeg (mC (.int 1))) (aCons (mOp2 fSub (mN fLen (aCons (mV 0) aNil)) (mC (.int 1))) aNil)))))) (tBl (mOp2 fEq (mOp2 fIx (mV 3) (mC (.int 1))) (mV 1)))) (sSeq (sRet (mC (.bl false))) sNil) sNil) (sSeq (sIf (tAndM (tBl (mOp2 cGe (mOp2 fIx (mV 3) (mC (.int 1))) (mC (.int 0)))) (tBl (mOp2 fNotIn (mOp2 fIx (mV 3) (mC (.int 0))) (mOp2 fIx (mOp2 fIx (mV 0) (mOp2 fIx (mV 3) (mC (.int 1)))) (mC (.int 1)))))) (sSeq (sRet (mC (.bl false))) sNil) sNil) sNil)))) (sSeq (sRet (mOp2 fEq (mN fLen (aCons (mL (lComp (.nm 4) [4] (iRange2 (aCons (mC (.int 1)) (aCons (mN fLen (aCons (mV 2) aNil)) aNil))) (tBl (mOp2 cGe (mOp2 fIx (mOp2 fIx (mV 2) (mOp2 fSub (mV 4) (mC (.int 1)))) (mC (.int 0))) (mOp2 fIx (mOp2 fIx (mV 2) (mV 4)) (mC (.int 0))))) (mV 4))) aNil)) (mC (.int 0)))) sNil)))
noncomputable def m__law_is_reads : Fn := mDef 3 5 b__law_is_reads
/-- _law_is_keys(thing): slots 0=thing 1=key 2=k -/
noncomputable def b__law_is_keys : Ms :=
  (sSeq (sIf (tOrM (tNotM (tOf (mIsi .tup (mV 0)))) (tBl (mOp2 cGt (mN fLen (aCons (mL (lComp (.nm 1) [1] (iSeq (mV 0)) (tNotM (tOf (mN m__law_is_int (aCons (mV 1) (aCons (mC (.int 0)) (aCons (mC (.int 99)) aNil)))))) (mV 1))) aNil)) (mC (.int 0))))) (sSeq (sRet (mC (.bl false))) sNil) sNil) (sSeq (sRet (mOp2 fEq (mN fLen (aCons (mL (lComp (.nm 2) [2] (iRange2 (aCons (mC (.int 1)) (aCons (mN fLen (aCons (mV 0) aNil)) aNil))) (tBl (mOp2 cGe (mOp2 fIx (mV 0) (mOp2 fSub (mV 2) (mC (.int 1)))) (mOp2 fIx (mV 0) (mV 2)))) (mV 2))) aNil)) (mC (.int 0)))) sNil))
noncomputable def m__law_is_keys : Fn := mDef 1 3 b__law_is_keys
/-- is_between(thing, least, most): slots 0=thing 1=least 2=most -/
noncomputable def b_is_between : Ms :=
  (sSeq (sRet (mAnd (mN m_is_integer (aCons (mV 0) aNil)) (mChain cLe cLe (mV 1) (mV 0) (mV 2)))) sNil)
noncomputable def m_is_between : Fn := mDef 3 3 b_is_between
/-- next_writer(history, key, last): slots 0=history 1=key 2=last 3=later 4=index -/
noncomputable def b_next_writer : Ms :=
  (sSeq (sSet 3 (mL (lComp (.nm 4) [4] (iSeq (mL (lN m_writers (aCons (mV 0) (aCons (mV 1) aNil))))) (tBl (mOp2 cGt (mV 4) (mV 2))) (mV 4)))) (sSeq (sIf (tBl (mOp2 fEq (mN fLen (aCons (mV 3) aNil)) (mC (.int 0)))) (sSeq (sRet (mC .non)) sNil) sNil) (sSeq (sRet (mOp2 fIx (mV 3) (mC (.int 0)))) sNil)))
noncomputable def m_next_writer : Fn := mDef 3 5 b_next_writer
/-- suits(history, index, moment): slots 0=history 1=index 2=moment 3=reads 4=writes 5=key 6=source 7=ahead 8=between 9=other -/
noncomputable def b_suits : Ms :=
  (sSeq (sAsg (.tp [(.nm 3), (.nm 4)]) (mOp2 fIx (mV 0) (mV 1))) (sSeq (sFor (.tp [(.nm 5), (.nm 6)]) (iSeq (mV 3)) (sSeq (sSet 7 (mL (lComp (.nm 9) [9] (iSeq (mL (lN m_writers (aCons (mV 0) (aCons (mV 5) aNil))))) (tBl (mOp2 cLt (mV 9) (mV 2))) (mV 9)))) (sSeq (sIf (tBl (mOp2 fNe (mOp2 fIx (mOp2 fAdd (mL (lLst (aCons (mOp1 fNeg (mC (.int 1))) aNil))) (mV 7)) (mOp1 fNeg (mC (.int 1)))) (mV 6))) (sSeq (sRet (mC (.bl false))) sNil) sNil) sNil))) (sSeq (sSet 8 (mL (lComp (.nm 9) [9] (iRange2 (aCons (mV 2) (aCons (mV 1) aNil))) (tOf (mN fAny (aCons (mL (lComp (.nm 5) [5] (iSeq (mV 4)) tYesM (mOp2 fIn (mV 5) (mOp2 fIx (mOp2 fIx (mV 0) (mV 9)) (mC (.int 1)))))) aNil))) (mV 9)))) (sSeq (sRet (mOp2 fEq (mN fLen (aCons (mV 8) aNil)) (mC (.int 0)))) sNil))))
noncomputable def m_suits : Fn := mDef 3 10 b_suits
/-- _law_history(pool, most): slots 0=pool 1=most 2=many 3=names 4=style 5=wrote 6=k 7=found 8=at 9=reads 10=key 11=some 12=ahead 13=way 14=other -/
noncomputable def b__law_history : Ms :=
  (sSeq (sSet 2 (mN m__law_draw (aCons (mV 0) (aCons (mOp2 fAdd (mV 1) (mC (.int 1))) aNil)))) (sSeq (sSet 3 (mN m__law_any (aCons (mV 0) (aCons (mL (lLst (aCons (mN fTup (aCons (mC (.int 0)) (aCons (mC (.int 1)) (aCons (mC (.int 7)) (aCons (mC (.int 99)) aNil))))) (aCons (mN fTup (aCons (mC (.int 3)) (aCons (mC (.int 4)) aNil))) (aCons (mN fTup (aCons (mC (.int 5)) aNil)) (aCons (mN fTup (aCons (mC (.int 0)) (aCons (mC (.int 2)) (aCons (mC (.int 50)) aNil)))) aNil)))))) aNil)))) (sSeq (sSet 4 (mN m__law_draw (aCons (mV 0) (aCons (mC (.int 4)) aNil)))) (sSeq (sSet 5 (mNew (lLst aNil))) (sSeq (sFor (.nm 6) (iRange1 (aCons (mV 2) aNil)) (sSeq (sExpr (mBM fApp (mV 5) (aCons (mN fTuple (aCons (mL (lComp (.nm 10) [10] (iSeq (mV 3)) (tBl (mOp2 fEq (mN m__law_draw (aCons (mV 0) (aCons (mOp2 fAdd (mC (.int 2)) (mN fInt (aCons (mOp2 cGt (mN fLen (aCons (mV 3) aNil)) (mC (.int 2))) aNil))) aNil))) (mC (.int 0)))) (mV 10))) aNil)) aNil))) sNil)) (sSeq (sSet 7 (mNew (lLst aNil))) (sSeq (sFor (.nm 6) (iRange1 (aCons (mV 2) aNil)) (sSeq (sSet 8 (mIf (tBl (mOp2 fEq (mV 4) (mC (.int 0)))) (mV 6) (mN m__law_draw (aCons (mV 0) (aCons (mOp2 fAdd (mV 6) (mC (.int 1))) aNil))))) (sSeq (sSet 9 (mNew (lLst aNil))) (sSeq (sFor (.nm 10) (iSeq (mV 3)) (sSeq (sSet 11 (mOp2 fAdd (mL (lLst (aCons (mOp1 fNeg (mC (.int 1))) aNil))) (mL (lComp (.nm 14) [14] (iRange1 (aCons (mV 2) aNil)) (tAndM (tBl (mOp2 fNe (mV 14) (mV 6))) (tBl (mOp2 fIn (mV 10) (mOp2 fIx (mV 5) (mV 14))))) (mV 14))))) (sSeq (sSet 12 (mL (lComp (.nm 14) [14] (iSeq (mV 11)) (tBl (mOp2 cLt (mV 14) (mV 8))) (mV 14)))) (sSeq (sSet 13 (mN m__law_draw (aCons (mV 0) (aCons (mC (.int 6)) aNil)))) (sSeq (sIf (tAndM (tBl (mOp2 fEq (mV 13) (mC (.int 0)))) (tBl (mOp2 cGt (mV 4) (mC (.int 1))))) (sSeq (sExpr (mBM fApp (mV 9) (aCons (mN fTup (aCons (mV 10) (aCons (mN m__law_any (aCons (mV 0) (aCons (mV 11) aNil))) aNil))) aNil))) sNil) (sSeq (sIf (tBl (mOp2 cLt (mV 13) (mC (.int 4)))) (sSeq (sExpr (mBM fApp (mV 9) (aCons (mN fTup (aCons (mV 10) (aCons (mN fMax (aCons (mOp2 fAdd (mL (lLst (aCons (mOp1 fNeg (mC (.int 1))) aNil))) (mV 12)) aNil)) aNil))) aNil))) sNil) sNil) sNil)) sNil))))) (sSeq (sExpr (mBM fApp (mV 7) (aCons (mN fTup (aCons (mN fTuple (aCons (mV 9) aNil)) (aCons (mOp2 fIx (mV 5) (mV 6)) aNil))) aNil))) sNil))))) (sSeq (sRet (mN fTuple (aCons (mV 7) aNil))) sNil))))))))
noncomputable def m__law_history : Fn := mDef 2 15 b__law_history
/-- _law_bent(pool, told): slots 0=pool 1=told 2=odd 3=at 4=reads 5=writes 6=others 7=pairs 8=keys 9=spot 10=place 11=deals 12=pair 13=turned 14=k -/
noncomputable def b__law_bent : Ms :=
  (sSeq (sSet 2 (mL (lLst (aCons (mC .non) (aCons (mL (lLst aNil)) (aCons (mN fTup aNil) (aCons mDNew (aCons (mC (.str "")) (aCons (mC (.int 0)) (aCons (mOp1 fNeg (mC (.int 1))) (aCons (mC (.bl true)) (aCons (mL (lN lList (aCons (mV 1) aNil))) (aCons (mOp2 fMulT (mV 1) (mC (.int 13))) (aCons (mN m__law_deep (aCons (mC (.int 0)) (aCons (mC (.int 28)) aNil))) (aCons (mL (lLst (aCons (mV 1) aNil))) (aCons (mOp2 fAdd (mV 1) (mN fTup (aCons (mN fTup aNil) aNil))) aNil)))))))))))))))) (sSeq (sSet 2 (mOp2 fAdd (mV 2) (mL (lLst (aCons (mOp2 fAdd (mV 1) (mN fTup (aCons (mC .non) aNil))) (aCons (mOp2 fAdd (mV 1) (mN fTup (aCons (mN fTup (aCons (mN fTup aNil) (aCons (mN fTup aNil) (aCons (mN fTup aNil) aNil)))) aNil))) (aCons (mOp2 fAdd (mV 1) (mN fTup (aCons (mN fTup (aCons (mN fTup aNil) (aCons (mN fTup aNil) aNil))) aNil))) (aCons (mOp2 fMulA (mN fTup (aCons (mN fTup (aCons (mN fTup aNil) (aCons (mN fTup aNil) aNil))) aNil)) (mC (.int 12))) (aCons (mOp2 fMulA (mN fTup (aCons (mN fTup (aCons (mN fTup aNil) (aCons (mN fTup aNil) aNil))) aNil)) (mC (.int 13))) aNil))))))))) (sSeq (sIf (tOrM (tBl (mOp2 fEq (mN fLen (aCons (mV 1) aNil)) (mC (.int 0)))) (tBl (mOp2 fEq (mN m__law_draw (aCons (mV 0) (aCons (mC (.int 6)) aNil))) (mC (.int 0))))) (sSeq (sRet (mN m__law_any (aCons (mV 0) (aCons (mV 2) aNil)))) sNil) sNil) (sSeq (sSet 3 (mN m__law_draw (aCons (mV 0) (aCons (mN fLen (aCons (mV 1) aNil)) aNil)))) (sSeq (sAsg (.tp [(.nm 4), (.nm 5)]) (mOp2 fIx (mV 1) (mV 3))) (sSeq (sSet 6 (mOp2 fAdd (mL (lComp (.nm 14) [14] (iRange1 (aCons (mN fLen (aCons (mV 1) aNil)) aNil)) (tBl (mOp2 fNe (mV 14) (mV 3))) (mV 14))) (mL (lLst (aCons (mN fLen (aCons (mV 1) aNil)) (aCons (mOp1 fNeg (mC (.int 1))) (aCons (mV 3) (aCons (mOp1 fNeg (mC (.int 2))) (aCons (mC (.bl true)) (aCons (mC .non) (aCons (mC (.str "0")) (aCons (mOp2 fPow (mC (.int 10)) (mC (.int 20))) aNil)))))))))))) (sSeq (sSet 7 (mL (lLst (aCons (mN fTup (aCons (mC (.int 0)) (aCons (mN m__law_any (aCons (mV 0) (aCons (mV 6) aNil))) aNil))) (aCons (mN fTup (aCons (mC (.int 99)) (aCons (mN m__law_any (aCons (mV 0) (aCons (mV 6) aNil))) aNil))) (aCons (mN fTup (aCons (mC (.int 7)) (aCons (mOp1 fNeg (mC (.int 1))) aNil))) (aCons (mN fTup (aCons (mC (.int 100)) (aCons (mOp1 fNeg (mC (.int 1))) aNil))) (aCons (mN fTup (aCons (mOp1 fNeg (mC (.int 1))) (aCons (mOp1 fNeg (mC (.int 1))) aNil))) (aCons (mN fTup (aCons (mC (.bl true)) (aCons (mOp1 fNeg (mC (.int 1))) aNil))) aNil))))))))) (sSeq (sSet 7 (mOp2 fAdd (mV 7) (mL (lLst (aCons (mN fTup (aCons (mC (.int 1)) (aCons (mOp1 fNeg (mC (.int 1))) (aCons (mC (.int 0)) aNil)))) (aCons (mN fTup (aCons (mC (.int 1)) aNil)) (aCons (mL (lLst (aCons (mC (.int 1)) (aCons (mOp1 fNeg (mC (.int 1))) aNil)))) (aCons (mC .non) (aCons (mC (.int 3)) (aCons (mN fTup (aCons (mC .non) (aCons (mOp1 fNeg (mC (.int 1))) aNil))) (aCons (mN fTup (aCons (mC (.str "1")) (aCons (mOp1 fNeg (mC (.int 1))) aNil))) (aCons (mN m__law_deep (aCons (mC (.int 1)) (aCons (mC (.int 22)) aNil))) aNil)))))))))))) (sSeq (sSet 8 (mL (lLst (aCons (mC (.int 0)) (aCons (mC (.int 7)) (aCons (mC (.int 99)) (aCons (mC (.int 100)) (aCons (mOp1 fNeg (mC (.int 1))) (aCons (mC (.bl true)) (aCons (mC .non) (aCons (mC (.str "1")) (aCons (mN fTup (aCons (mC (.int 0)) aNil)) (aCons (mOp2 fPow (mC (.int 10)) (mC (.int 20))) (aCons (mC (.int 3)) aNil)))))))))))))) (sSeq (sSet 9 (mN m__law_draw (aCons (mV 0) (aCons (mOp2 fAdd (mN fLen (aCons (mV 4) aNil)) (mC (.int 1))) aNil)))) (sSeq (sSet 10 (mN m__law_draw (aCons (mV 0) (aCons (mOp2 fAdd (mN fLen (aCons (mV 5) aNil)) (mC (.int 1))) aNil)))) (sSeq (sSet 11 (mOp2 fMulLs (mNew (lLst (aCons (mN fTup (aCons (mOp2 fAdd (mOp2 fAdd (mSl (mV 4) oNone (oSome (mV 9))) (mN fTup (aCons (mN m__law_any (aCons (mV 0) (aCons (mV 7) aNil))) aNil))) (mSl (mV 4) (oSome (mV 9)) oNone)) (aCons (mV 5) aNil))) aNil))) (mC (.int 4)))) (sSeq (sSet 11 (mOp2 fAdd (mV 11) (mL (lLst (aCons (mN fTup (aCons (mOp2 fAdd (mSl (mV 4) oNone (oSome (mV 9))) (mSl (mV 4) (oSome (mOp2 fAdd (mV 9) (mC (.int 1)))) oNone)) (aCons (mV 5) aNil))) (aCons (mN fTup (aCons (mRev (mV 4)) (aCons (mV 5) aNil))) (aCons (mN fTup (aCons (mL (lN lList (aCons (mV 4) aNil))) (aCons (mV 5) aNil))) aNil))))))) (sSeq (sSet 11 (mOp2 fAdd (mV 11) (mOp2 fMulLs (mNew (lLst (aCons (mN fTup (aCons (mV 4) (aCons (mOp2 fAdd (mOp2 fAdd (mSl (mV 5) oNone (oSome (mV 10))) (mN fTup (aCons (mN m__law_any (aCons (mV 0) (aCons (mV 8) aNil))) aNil))) (mSl (mV 5) (oSome (mV 10)) oNone)) aNil))) aNil))) (mC (.int 3))))) (sSeq (sSet 11 (mOp2 fAdd (mV 11) (mL (lLst (aCons (mN fTup (aCons (mV 4) (aCons (mOp2 fAdd (mSl (mV 5) oNone (oSome (mV 10))) (mSl (mV 5) (oSome (mOp2 fAdd (mV 10) (mC (.int 1)))) oNone)) aNil))) (aCons (mN fTup (aCons (mV 4) (aCons (mRev (mV 5)) aNil))) (aCons (mN fTup (aCons (mV 4) (aCons (mL (lN lList (aCons (mV 5) aNil))) aNil))) aNil))))))) (sSeq (sSet 11 (mOp2 fAdd (mV 11) (mL (lLst (aCons (mN fTup (aCons (mV 4) aNil)) (aCons (mN fTup (aCons (mV 4) (aCons (mV 5) (aCons (mN fTup aNil) aNil)))) (aCons (mL (lLst (aCons (mV 4) (aCons (mV 5) aNil)))) (aCons (mN fTup (aCons (mV 5) (aCons (mV 4) aNil))) (aCons (mN fTup (aCons (mC .non) (aCons (mV 5) aNil))) (aCons (mN fTup (aCons (mV 4) (aCons (mC .non) aNil))) aNil)))))))))) (sSeq (sSet 11 (mOp2 fAdd (mV 11) (mL (lLst (aCons (mC .non) aNil))))) (sSeq (sIf (tBl (mOp2 cGt (mN fLen (aCons (mV 4) aNil)) (mC (.int 0)))) (sSeq (sSet 12 (mOp2 fIx (mV 4) (mN fMin (aCons (mV 9) (aCons (mOp2 fSub (mN fLen (aCons (mV 4) aNil)) (mC (.int 1))) aNil))))) (sSeq (sSet 13 (mOp2 fAdd (mOp2 fAdd (mSl (mV 4) oNone (oSome (mV 9))) (mN fTup (aCons (mN fTup (aCons (mOp2 fIx (mV 12) (mC (.int 0))) (aCons (mN m__law_any (aCons (mV 0) (aCons (mV 6) aNil))) aNil))) aNil))) (mSl (mV 4) (oSome (mOp2 fAdd (mV 9) (mC (.int 1)))) oNone))) (sSeq (sSet 11 (mOp2 fAdd (mV 11) (mOp2 fMulLs (mNew (lLst (aCons (mN fTup (aCons (mV 13) (aCons (mV 5) aNil))) aNil))) (mC (.int 6))))) sNil))) sNil) (sSeq (sRet (mOp2 fAdd (mOp2 fAdd (mSl (mV 1) oNone (oSome (mV 3))) (mN fTup (aCons (mN m__law_any (aCons (mV 0) (aCons (mV 11) aNil))) aNil))) (mSl (mV 1) (oSome (mOp2 fAdd (mV 3) (mC (.int 1)))) oNone))) sNil)))))))))))))))))))
noncomputable def m__law_bent : Fn := mDefK 2 15 b__law_bent
/-- _law_is_history(thing): slots 0=thing 1=deal 2=k -/
noncomputable def b__law_is_history : Ms :=
  (sSeq (sIf (tOrM (tNotM (tOf (mIsiC [] .tup (mV 0)))) (tBl (mOp2 cGt (mN fLen (aCons (mV 0) aNil)) (mC (.int 12))))) (sSeq (sRet (mC (.bl false))) sNil) sNil) (sSeq (sIf (tBl (mOp2 cGt (mN fLen (aCons (mL (lComp (.nm 1) [1] (iSeq (mV 0)) (tOrM (tNotM (tOf (mIsi .tup (mV 1)))) (tOrM (tBl (mOp2 fNe (mN fLen (aCons (mV 1) aNil)) (mC (.int 2)))) (tNotM (tOf (mN m__law_is_keys (aCons (mOp2 fIx (mV 1) (mC (.int 1))) aNil)))))) (mV 1))) aNil)) (mC (.int 0)))) (sSeq (sRet (mC (.bl false))) sNil) sNil) (sSeq (sRet (mOp2 fEq (mN fLen (aCons (mL (lComp (.nm 2) [2] (iRange1 (aCons (mN fLen (aCons (mV 0) aNil)) aNil)) (tNotM (tOf (mN m__law_is_reads (aCons (mV 0) (aCons (mV 2) (aCons (mOp2 fIx (mOp2 fIx (mV 0) (mV 2)) (mC (.int 0))) aNil)))))) (mV 2))) aNil)) (mC (.int 0)))) sNil)))
noncomputable def m__law_is_history : Fn := mDef 1 3 b__law_is_history
/-- is_read(thing, history): slots 0=thing 1=history -/
noncomputable def b_is_read : Ms :=
  (sSeq (sIf (tOrM (tNotM (tOf (mIsi .tup (mV 0)))) (tOrM (tBl (mOp2 fNe (mN fLen (aCons (mV 0) aNil)) (mC (.int 2)))) (tNotM (tOf (mN m_is_between (aCons (mOp2 fIx (mV 0) (mC (.int 0))) (aCons (mC (.int 0)) (aCons (mC (.int 99)) aNil)))))))) (sSeq (sRet (mC (.bl false))) sNil) sNil) (sSeq (sIf (tNotM (tOf (mN m_is_between (aCons (mOp2 fIx (mV 0) (mC (.int 1))) (aCons (mOp1 fNeg (mC (.int 1))) (aCons (mOp2 fSub (mN fLen (aCons (mV 1) aNil)) (mC (.int 1))) aNil)))))) (sSeq (sRet (mC (.bl false))) sNil) sNil) (sSeq (sRet (mOr (mOp2 fEq (mOp2 fIx (mV 0) (mC (.int 1))) (mOp1 fNeg (mC (.int 1)))) (mOp2 fIn (mOp2 fIx (mV 0) (mC (.int 0))) (mOp2 fIx (mOp2 fIx (mV 1) (mOp2 fIx (mV 0) (mC (.int 1)))) (mC (.int 1)))))) sNil)))
noncomputable def m_is_read : Fn := mDef 2 2 b_is_read
/-- are_writes(thing): slots 0=thing 1=key 2=one 3=other -/
noncomputable def b_are_writes : Ms :=
  (sSeq (sIf (tOrM (tNotM (tOf (mIsi .tup (mV 0)))) (tNotM (tOf (mN fAll (aCons (mL (lComp (.nm 1) [1] (iSeq (mV 0)) tYesM (mN m_is_between (aCons (mV 1) (aCons (mC (.int 0)) (aCons (mC (.int 99)) aNil)))))) aNil))))) (sSeq (sRet (mC (.bl false))) sNil) sNil) (sSeq (sRet (mN fAll (aCons (mL (lComp (.tp [(.nm 2), (.nm 3)]) [2, 3] (iZip (aCons (mV 0) (aCons (mSl (mV 0) (oSome (mC (.int 1))) oNone) aNil))) tYesM (mOp2 cLt (mV 2) (mV 3)))) aNil))) sNil))
noncomputable def m_are_writes : Fn := mDef 1 4 b_are_writes
/-- edges_of(history): slots 0=history 1=found 2=index 3=deal 4=key 5=source 6=behind 7=other -/
noncomputable def b_edges_of : Ms :=
  (sSeq (sSet 1 (mNew (lLst aNil))) (sSeq (sFor (.tp [(.nm 2), (.nm 3)]) (iEnum (aCons (mV 0) aNil)) (sSeq (sFor (.nm 4) (iSeq (mOp2 fIx (mV 3) (mC (.int 1)))) (sSeq (sExpr (mBM fExt (mV 1) (aCons (mL (lComp (.nm 7) [7] (iSeq (mL (lN m_writers (aCons (mV 0) (aCons (mV 4) aNil))))) (tBl (mOp2 cGt (mV 7) (mV 2))) (mN fTup (aCons (mV 2) (aCons (mV 7) (aCons (mC (.str "wrote")) (aCons (mV 4) aNil))))))) aNil))) sNil)) (sSeq (sFor (.tp [(.nm 4), (.nm 5)]) (iSeq (mOp2 fIx (mV 3) (mC (.int 0)))) (sSeq (sIf (tBl (mOp2 fNe (mV 5) (mOp1 fNeg (mC (.int 1))))) (sSeq (sExpr (mBM fApp (mV 1) (aCons (mN fTup (aCons (mV 5) (aCons (mV 2) (aCons (mC (.str "read")) (aCons (mV 4) aNil))))) aNil))) sNil) sNil) (sSeq (sSet 6 (mN m_next_writer (aCons (mV 0) (aCons (mV 4) (aCons (mV 5) aNil))))) (sSeq (sIf (tAndM (tBl (mOp2 fNotN (mV 6) (mC .non))) (tBl (mOp2 fNe (mV 6) (mV 2)))) (sSeq (sExpr (mBM fApp (mV 1) (aCons (mN fTup (aCons (mV 2) (aCons (mV 6) (aCons (mC (.str "over")) (aCons (mV 4) aNil))))) aNil))) sNil) sNil) sNil)))) sNil))) (sSeq (sRet (mNew (lN fSorted (aCons (mV 1) aNil)))) sNil)))
noncomputable def m_edges_of : FnL := mDefL 1 8 b_edges_of
/-- is_index(thing, many): slots 0=thing 1=many -/
noncomputable def b_is_index : Ms :=
  (sSeq (sRet (mN m_is_between (aCons (mV 0) (aCons (mC (.int 0)) (aCons (mOp2 fSub (mV 1) (mC (.int 1))) aNil))))) sNil)
noncomputable def m_is_index : Fn := mDef 2 2 b_is_index
/-- moment_of(history, index): slots 0=history 1=index 2=found 3=moment -/
noncomputable def b_moment_of : Ms :=
  (sSeq (sSet 2 (mL (lComp (.nm 3) [3] (iRange1 (aCons (mOp2 fAdd (mV 1) (mC (.int 1))) aNil)) (tOf (mN m_suits (aCons (mV 0) (aCons (mV 1) (aCons (mV 3) aNil))))) (mV 3)))) (sSeq (sIf (tBl (mOp2 fEq (mN fLen (aCons (mV 2) aNil)) (mC (.int 0)))) (sSeq (sRet (mC .non)) sNil) sNil) (sSeq (sRet (mOp2 fIx (mV 2) (mOp1 fNeg (mC (.int 1))))) sNil)))
noncomputable def m_moment_of : Fn := mDef 2 4 b_moment_of
/-- are_reads(thing, index, history): slots 0=thing 1=index 2=history 3=pair 4=one 5=other -/
noncomputable def b_are_reads : Ms :=
  (sSeq (sIf (tOrM (tNotM (tOf (mIsi .tup (mV 0)))) (tNotM (tOf (mN fAll (aCons (mL (lComp (.nm 3) [3] (iSeq (mV 0)) tYesM (mN m_is_read (aCons (mV 3) (aCons (mV 2) aNil))))) aNil))))) (sSeq (sRet (mC (.bl false))) sNil) sNil) (sSeq (sIf (tOf (mN fAny (aCons (mL (lComp (.nm 3) [3] (iSeq (mV 0)) tYesM (mOp2 fEq (mOp2 fIx (mV 3) (mC (.int 1))) (mV 1)))) aNil))) (sSeq (sRet (mC (.bl false))) sNil) sNil) (sSeq (sRet (mN fAll (aCons (mL (lComp (.tp [(.nm 4), (.nm 5)]) [4, 5] (iZip (aCons (mV 0) (aCons (mSl (mV 0) (oSome (mC (.int 1))) oNone) aNil))) tYesM (mOp2 cLt (mOp2 fIx (mV 4) (mC (.int 0))) (mOp2 fIx (mV 5) (mC (.int 0)))))) aNil))) sNil)))
noncomputable def m_are_reads : Fn := mDef 3 6 b_are_reads
/-- webs(history): slots 0=history 1=found 2=one 3=other 4=_ -/
noncomputable def b_webs : Ms :=
  (sSeq (sSet 1 (mL (lComp (.nm 4) [4] (iSeq (mV 0)) tYesM mDNew))) (sSeq (sFor (.tp [(.nm 2), (.nm 3), (.nm 4), (.nm 4)]) (iSeq (mL (lN m_edges_of (aCons (mV 0) aNil)))) (sSeq (sDPutM (mOp2 fIx (mV 1) (mV 2)) (mV 3) (mC (.bl true))) sNil)) (sSeq (sRet (mV 1)) sNil)))
noncomputable def m_webs : Fn := mDefK 1 5 b_webs
/-- is_history(thing): slots 0=thing 1=deal 2=index -/
noncomputable def b_is_history : Ms :=
  (sSeq (sIf (tOrM (tNotM (tOf (mIsiC [] .tup (mV 0)))) (tBl (mOp2 cGt (mN fLen (aCons (mV 0) aNil)) (mC (.int 12))))) (sSeq (sRet (mC (.bl false))) sNil) sNil) (sSeq (sIf (tNotM (tOf (mN fAll (aCons (mL (lComp (.nm 1) [1] (iSeq (mV 0)) tYesM (mAnd (mIsi .tup (mV 1)) (mAnd (mOp2 fEq (mN fLen (aCons (mV 1) aNil)) (mC (.int 2))) (mN m_are_writes (aCons (mOp2 fIx (mV 1) (mC (.int 1))) aNil)))))) aNil)))) (sSeq (sRet (mC (.bl false))) sNil) sNil) (sSeq (sRet (mN fAll (aCons (mL (lComp (.tp [(.nm 2), (.nm 1)]) [2, 1] (iEnum (aCons (mV 0) aNil)) tYesM (mN m_are_reads (aCons (mOp2 fIx (mV 1) (mC (.int 0))) (aCons (mV 2) (aCons (mV 0) aNil)))))) aNil))) sNil)))
noncomputable def m_is_history : Fn := mDef 1 3 b_is_history
/-- order_of(history): slots 0=history 1=web 2=left 3=found 4=ready 5=deal 6=other -/
noncomputable def b_order_of : Ms :=
  (sSeq (sSet 1 (mN m_webs (aCons (mV 0) aNil))) (sSeq (sSet 2 (mNew (lRg1 (mN fLen (aCons (mV 0) aNil))))) (sSeq (sSet 3 (mNew (lLst aNil))) (sSeq (sWhile (tOf (mC (.bl true))) (sSeq (sSet 4 (mL (lComp (.nm 5) [5] (iSeq (mV 2)) (tNotM (tOf (mN fAny (aCons (mL (lComp (.nm 6) [6] (iSeq (mV 2)) tYesM (mOp2 fDIn (mV 5) (mOp2 fIx (mV 1) (mV 6))))) aNil)))) (mV 5)))) (sSeq (sIf (tBl (mOp2 fEq (mN fLen (aCons (mV 4) aNil)) (mC (.int 0)))) (sSeq (sRet (mN fTuple (aCons (mV 3) aNil))) sNil) sNil) (sSeq (sExpr (mBM fApp (mV 3) (aCons (mOp2 fIx (mV 4) (mC (.int 0))) aNil))) (sSeq (sExpr (mRem (mV 2) (mOp2 fIx (mV 4) (mC (.int 0))))) sNil))))) sNil))))
noncomputable def m_order_of : Fn := mDef 1 7 b_order_of
/-- check_history(thing): slots 0=thing -/
noncomputable def b_check_history : Ms :=
  (sSeq (sIf (tNotM (tOf (mN m_is_history (aCons (mV 0) aNil)))) (sSeq (sRaise "NoHistory") sNil) sNil) sNil)
noncomputable def m_check_history : Fn := mDef 1 1 b_check_history
/-- is_ring(history, thing): slots 0=history 1=thing 2=web 3=deal 4=at -/
noncomputable def b_is_ring : Ms :=
  (sSeq (sExpr (mN m_check_history (aCons (mV 0) aNil))) (sSeq (sIf (tOrM (tNotM (tOf (mIsiC [] .tup (mV 1)))) (tOrM (tBl (mOp2 cLt (mN fLen (aCons (mV 1) aNil)) (mC (.int 2)))) (tNotM (tOf (mN fAll (aCons (mL (lComp (.nm 3) [3] (iSeq (mV 1)) tYesM (mN m_is_index (aCons (mV 3) (aCons (mN fLen (aCons (mV 0) aNil)) aNil))))) aNil)))))) (sSeq (sRet (mC (.bl false))) sNil) sNil) (sSeq (sSet 2 (mN m_webs (aCons (mV 0) aNil))) (sSeq (sIf (tBl (mOp2 cLt (mN fLenSet (aCons (mL (lN lList (aCons (mV 1) aNil))) aNil)) (mN fLen (aCons (mV 1) aNil)))) (sSeq (sRet (mC (.bl false))) sNil) sNil) (sSeq (sRet (mN fAll (aCons (mL (lComp (.nm 4) [4] (iRange1 (aCons (mN fLen (aCons (mV 1) aNil)) aNil)) tYesM (mOp2 fDIn (mOp2 fIx (mV 1) (mV 4)) (mOp2 fIx (mV 2) (mOp2 fIx (mV 1) (mOp2 fSub (mV 4) (mC (.int 1)))))))) aNil))) sNil)))))
noncomputable def m_is_ring : Fn := mDef 2 5 b_is_ring
/-- edges(history): slots 0=history -/
noncomputable def b_edges : Ms :=
  (sSeq (sExpr (mN m_check_history (aCons (mV 0) aNil))) (sSeq (sRet (mL (lN m_edges_of (aCons (mV 0) aNil)))) sNil))
noncomputable def m_edges : Fn := mDefK 1 1 b_edges
/-- one_order(history): slots 0=history 1=found -/
noncomputable def b_one_order : Ms :=
  (sSeq (sExpr (mN m_check_history (aCons (mV 0) aNil))) (sSeq (sSet 1 (mN m_order_of (aCons (mV 0) aNil))) (sSeq (sIf (tBl (mOp2 cLt (mN fLen (aCons (mV 1) aNil)) (mN fLen (aCons (mV 0) aNil)))) (sSeq (sRet (mC .non)) sNil) sNil) (sSeq (sRet (mV 1)) sNil))))
noncomputable def m_one_order : Fn := mDef 1 2 b_one_order
/-- ring(history): slots 0=history 1=web 2=done 3=left 4=row 5=found 6=deal -/
noncomputable def b_ring : Ms :=
  (sSeq (sExpr (mN m_check_history (aCons (mV 0) aNil))) (sSeq (sSet 1 (mN m_webs (aCons (mV 0) aNil))) (sSeq (sSet 2 (mN m_order_of (aCons (mV 0) aNil))) (sSeq (sSet 3 (mL (lComp (.nm 6) [6] (iRange1 (aCons (mN fLen (aCons (mV 0) aNil)) aNil)) (tBl (mOp2 fNotIn (mV 6) (mV 2))) (mV 6)))) (sSeq (sIf (tBl (mOp2 fEq (mN fLen (aCons (mV 3) aNil)) (mC (.int 0)))) (sSeq (sRet (mC .non)) sNil) sNil) (sSeq (sSet 4 (mNew (lLst (aCons (mOp2 fIx (mV 3) (mC (.int 0))) aNil)))) (sSeq (sWhile (tBl (mOp2 fNotIn (mOp2 fIx (mV 4) (mOp1 fNeg (mC (.int 1)))) (mSl (mV 4) oNone (oSome (mOp1 fNeg (mC (.int 1))))))) (sSeq (sExpr (mBM fApp (mV 4) (aCons (mOp2 fIx (mL (lComp (.nm 6) [6] (iSeq (mV 3)) (tBl (mOp2 fDIn (mOp2 fIx (mV 4) (mOp1 fNeg (mC (.int 1)))) (mOp2 fIx (mV 1) (mV 6)))) (mV 6))) (mC (.int 0))) aNil))) sNil)) (sSeq (sSet 5 (mSl (mV 4) (oSome (mBM fIdxD (mV 4) (aCons (mOp2 fIx (mV 4) (mOp1 fNeg (mC (.int 1)))) aNil))) (oSome (mOp1 fNeg (mC (.int 1)))))) (sSeq (sRet (mN fTuple (aCons (mRev (mV 5)) aNil))) sNil)))))))))
noncomputable def m_ring : Fn := mDef 1 7 b_ring
/-- moments(history): slots 0=history 1=index -/
noncomputable def b_moments : Ms :=
  (sSeq (sExpr (mN m_check_history (aCons (mV 0) aNil))) (sSeq (sRet (mN fTuple (aCons (mL (lComp (.nm 1) [1] (iRange1 (aCons (mN fLen (aCons (mV 0) aNil)) aNil)) tYesM (mN m_moment_of (aCons (mV 0) (aCons (mV 1) aNil))))) aNil))) sNil))
noncomputable def m_moments : Fn := mDef 1 2 b_moments
/-- by_snapshots(history): slots 0=history 1=index -/
noncomputable def b_by_snapshots : Ms :=
  (sSeq (sExpr (mN m_check_history (aCons (mV 0) aNil))) (sSeq (sRet (mOp2 fNotIn (mC .non) (mL (lComp (.nm 1) [1] (iRange1 (aCons (mN fLen (aCons (mV 0) aNil)) aNil)) tYesM (mN m_moment_of (aCons (mV 0) (aCons (mV 1) aNil))))))) sNil))
noncomputable def m_by_snapshots : Fn := mDef 1 2 b_by_snapshots
/-- _law_word(which, thing, other): slots 0=which 1=thing 2=other 3=word 4=e -/
noncomputable def b__law_word : Ms :=
  (sSeq (sSet 3 (mC (.str "let"))) (sSeq (sTry 4 [("NoHistory", some (fun a => (sSeq (sSet 3 (mIf (tAndM (tOf (mIsE 4 a true)) (tOf (mIsE 4 a true))) (mC (.str "history")) (mC (.str "other")))) sNil)))] (sSeq (sIf (tBl (mOp2 fEq (mV 0) (mC (.int 5)))) (sSeq (sExpr (mN m_is_ring (aCons (mV 1) (aCons (mV 2) aNil)))) sNil) (sSeq (sExpr (mPickL [m_edges, m_one_order, m_ring, m_moments, m_by_snapshots] (mV 0) (aCons (mV 1) aNil))) sNil)) sNil)) (sSeq (sRet (mV 3)) sNil)))
noncomputable def m__law_word : Fn := mDef 3 5 b__law_word
/-- law(script): slots 0=script 1=pool 2=turn 3=told 4=thing 5=due 6=other 7=shown 8=which -/
noncomputable def b_law : Ms :=
  (sSeq (sSet 1 (mNew (lN m__law_pool (aCons (mV 0) aNil)))) (sSeq (sFor (.nm 2) (iRange1 (aCons (mC (.int 6)) aNil)) (sSeq (sSet 3 (mN m__law_history (aCons (mV 1) (aCons (mC (.int 8)) aNil)))) (sSeq (sSet 4 (mN m__law_bent (aCons (mV 1) (aCons (mV 3) aNil)))) (sSeq (sSet 5 (mIf (tOf (mN m__law_is_history (aCons (mV 4) aNil))) (mC (.str "let")) (mC (.str "history")))) (sSeq (sSet 6 (mN m__law_any (aCons (mV 1) (aCons (mL (lLst (aCons (mC .non) (aCons (mN fTup (aCons (mC (.int 0)) (aCons (mC (.int 1)) aNil))) (aCons (mN fTup (aCons (mC (.int 0)) (aCons (mC (.int 0)) aNil))) (aCons (mL (lLst (aCons (mC (.int 0)) (aCons (mC (.int 1)) aNil)))) (aCons (mV 4) (aCons (mN m__law_deep (aCons (mC (.int 0)) (aCons (mC (.int 28)) aNil))) aNil)))))))) aNil)))) (sSeq (sSet 7 (mN fReprT (aCons (mN fTup (aCons (mV 4) (aCons (mV 6) aNil))) aNil))) (sSeq (sFor (.nm 8) (iRange1 (aCons (mC (.int 6)) aNil)) (sSeq (sIf (tOrM (tBl (mOp2 fNe (mN m__law_word (aCons (mV 8) (aCons (mV 4) (aCons (mV 6) aNil)))) (mV 5))) (tBl (mOp2 fNe (mN m__law_word (aCons (mV 8) (aCons (mV 3) (aCons (mV 6) aNil)))) (mC (.str "let"))))) (sSeq (sRet (mC (.bl false))) sNil) sNil) sNil)) (sSeq (sIf (tBl (mOp2 fNeS (mN fReprT (aCons (mN fTup (aCons (mV 4) (aCons (mV 6) aNil))) aNil)) (mV 7))) (sSeq (sRet (mC (.bl false))) sNil) sNil) sNil)))))))) (sSeq (sRet (mC (.bl true))) sNil)))
noncomputable def m_law : Fn := mDef 1 9 b_law
end My
namespace My
open PySem AB L2
noncomputable def pool (cs : List Int) (a b s t : Int) : AO := .lst [.lst (cs.map .int), .int a, .int b, .int s, .int t]
noncomputable def IsP (cs : List Int) (o : AO) : Prop := ∃ a b s t, o = pool cs a b s t ∧ 0 ≤ a ∧ a ≤ cs.length ∧ 0 ≤ b
theorem mod_lo (k : Int) (hk : 0 < k) (x : Int) : -1152921504606846976 ≤ x % k := by
  have := Int.emod_nonneg x (show k ≠ 0 by omega)
  omega
theorem mod_hi (k : Int) (hk : 0 < k) (hk2 : k ≤ 2147483647) (x : Int) : x % k ≤ 1152921504606846976 := by
  have := Int.emod_lt_of_pos x hk
  omega
theorem draw_ok {cs : List Int} (hc : ∀ c ∈ cs, 0 ≤ c) {P : AO} (hP : IsP cs P) {many : Int} (h1 : 1 ≤ many) (h2 : many ≤ 1000000) (tl : AH) :
    ∃ r P', m__law_draw [.loc 0, .int many] (P :: tl) = .ok (.int r) (P' :: tl) ∧ IsP cs P' ∧ 0 ≤ r ∧ r < many := by
  have hm : 0 < many := by omega
  have hm60 : many ≤ 1152921504606846976 := by omega
  have mm : ∀ x : Int, 0 ≤ x % many ∧ x % many < many := fun x => ⟨Int.emod_nonneg x (by omega), Int.emod_lt_of_pos x hm⟩
  have l1 := mod_lo 2147483647 (by decide)
  have l2 := mod_lo 2147483399 (by decide)
  have u1 := mod_hi 2147483647 (by decide) (by decide)
  have u2 := mod_hi 2147483399 (by decide) (by decide)
  obtain ⟨a, b, s, t, rfl, ha, ha2, hb⟩ := hP
  by_cases c1 : b = 0 ∧ a < cs.length
  · obtain ⟨rfl, c1⟩ := c1
    obtain ⟨c, hcx, hcm⟩ := atI_some ha c1
    have hc0 := hc c hcm
    by_cases c2 : 1000000000000000000 ≤ c
    · have c3 : 0 < c := by omega
      simp [m__law_draw, mDef, b__law_draw, pool, ixN, c1, atI_map, hcx, c2, c3, hm, hm60, finD]
      exact ⟨_, _, ⟨rfl, rfl⟩, ⟨_, _, _, _, rfl, by omega, by omega, Int.ediv_nonneg hc0 (by omega)⟩, mm _⟩
    · simp [m__law_draw, mDef, b__law_draw, pool, ixN, c1, atI_map, hcx, c2, hm, hm60, finD, l1, l2, u1, u2]
      exact ⟨_, _, ⟨rfl, rfl⟩, ⟨_, _, _, _, rfl, by omega, by omega, by omega⟩, mm _⟩
  · by_cases c2 : 0 < b
    · have c3 : ¬ b = 0 := by omega
      simp [m__law_draw, mDef, b__law_draw, pool, ixN, c3, c2, hm, hm60, finD]
      exact ⟨_, _, ⟨rfl, rfl⟩, ⟨_, _, _, _, rfl, by omega, by omega, Int.ediv_nonneg hb (by omega)⟩, mm _⟩
    · have c3 : b = 0 := by omega
      subst c3
      have c4 : ¬ a < cs.length := fun z => c1 ⟨rfl, z⟩
      simp [m__law_draw, mDef, b__law_draw, pool, ixN, c4, hm, hm60, finD, l1, l2, u1, u2]
      exact ⟨_, _, ⟨rfl, rfl⟩, ⟨_, _, _, _, rfl, by omega, by omega, by omega⟩, mm _⟩
theorem g_app (h l : AH) (i : Nat) : (h ++ l)[h.length + i]? = l[i]? := by
  rw [List.getElem?_append_right (Nat.le_add_right _ _), Nat.add_sub_cancel_left]
theorem s_app (h l : AH) (i : Nat) (x : AO) : (h ++ l).set (h.length + i) x = h ++ l.set i x := by
  rw [List.set_append_right _ _ (Nat.le_add_right _ _), Nat.add_sub_cancel_left]
@[simp] theorem gm0 {tl r : AH} {a : AO} : (tl ++ a :: r)[tl.length]? = some a := g_app tl (a :: r) 0
@[simp] theorem gm1 {tl r : AH} {a b : AO} : (tl ++ a :: b :: r)[tl.length + 1]? = some b := g_app tl (a :: b :: r) 1
@[simp] theorem sm0 {tl r : AH} {a x : AO} : (tl ++ a :: r).set tl.length x = tl ++ x :: r := s_app tl (a :: r) 0 x
@[simp] theorem sm1 {tl r : AH} {a b x : AO} : (tl ++ a :: b :: r).set (tl.length + 1) x = tl ++ a :: x :: r := s_app tl (a :: b :: r) 1 x
theorem gR (tl rest : AH) (P a b o : AO) : (P :: (tl ++ a :: b :: (rest ++ [o])))[tl.length + rest.length + 3]? = some o := by
  show (tl ++ a :: b :: (rest ++ [o]))[tl.length + rest.length + 2]? = _
  rw [show tl.length + rest.length + 2 = tl.length + (rest.length + 2) from by omega, g_app]
  simp
theorem sR (tl rest : AH) (P a b o x : AO) : (P :: (tl ++ a :: b :: (rest ++ [o]))).set (tl.length + rest.length + 3) x = P :: (tl ++ a :: b :: (rest ++ [x])) := by
  show P :: (tl ++ a :: b :: (rest ++ [o])).set (tl.length + rest.length + 2) x = _
  rw [show tl.length + rest.length + 2 = tl.length + (rest.length + 2) from by omega, s_app]
  simp

end My
namespace My
open PySem AB L2
noncomputable abbrev Deal := List (Int × Int) × List Int
noncomputable def nilD : Deal := ([], [])
noncomputable def rD (r : Int × Int) : D := .tup [.int r.1, .int r.2]
noncomputable def dD (d : Deal) : D := .tup [.tup (d.1.map rD), .tup (d.2.map .int)]
noncomputable def hD (H : List Deal) : D := .tup (H.map dD)
noncomputable def rd (H : List Deal) (i : Nat) : List (Int × Int) := (H.getD i nilD).1
noncomputable def wr (H : List Deal) (i : Nat) : List Int := (H.getD i nilD).2
theorem get_deal {H : List Deal} {i : Int} (h0 : 0 ≤ i) (h1 : i < H.length) : atI (H.map dD) i = some (.tup [.tup ((rd H i.toNat).map rD), .tup ((wr H i.toNat).map .int)]) := by
  rw [atI_map]
  have hl : i.toNat < H.length := by omega
  rw [atI_nat h0 (List.getElem?_eq_getElem hl)]
  unfold rd wr
  rw [List.getD_eq_getElem?_getD, List.getElem?_eq_getElem hl]
  rfl
@[simp] theorem is_integer_ok {h : AH} (i : Int) : m_is_integer [.int i] h = .ok (.bl true) h := by
  simp [m_is_integer, mDef, b_is_integer, Ty.sub]
@[simp] theorem is_between_ok {h : AH} (i a b : Int) : m_is_between [.int i, .int a, .int b] h = .ok (.bl (decide (a ≤ i) && decide (i ≤ b))) h := by
  by_cases c : a ≤ i
  · simp [m_is_between, mDef, b_is_between, c]
  · simp [m_is_between, mDef, b_is_between, c]
structure WOk (ws : List Int) : Prop where
  asc : ws.Pairwise (· < ·)
  bd : ∀ k ∈ ws, 0 ≤ k ∧ k ≤ 99
  len : ws.length ≤ 1000
structure ROk (H : List Deal) (i : Nat) (rs : List (Int × Int)) : Prop where
  asc : (rs.map (·.1)).Pairwise (· < ·)
  bd : ∀ r ∈ rs, 0 ≤ r.1 ∧ r.1 ≤ 99
  src : ∀ r ∈ rs, r.2 = -1 ∨ (0 ≤ r.2 ∧ r.2 < H.length ∧ r.1 ∈ wr H r.2.toNat)
  own : ∀ r ∈ rs, r.2 ≠ i
  len : rs.length ≤ 1000
structure Wf (H : List Deal) : Prop where
  len : H.length ≤ 12
  w : ∀ i, i < H.length → WOk (wr H i)
  r : ∀ i, i < H.length → ROk H i (rd H i)
theorem dD_getD {H : List Deal} {i : Nat} (hi : i < H.length) : (H.map dD).getD i .non = .tup [.tup ((rd H i).map rD), .tup ((wr H i).map .int)] := by
  unfold rd wr
  rw [List.getD_eq_getElem?_getD, List.getElem?_map, List.getD_eq_getElem?_getD, List.getElem?_eq_getElem hi]
  rfl
noncomputable abbrev iD (i : Nat) : D := .int (i : Int)
@[simp] theorem vS_hD {h : AH} {H : List Deal} : vS h (hD H) = some (H.map dD) := rfl
@[simp] theorem ty_hD {h : AH} {H : List Deal} : tyD h (hD H) = some .tup := rfl
@[simp] theorem len_hD {h : AH} {H : List Deal} : fLen [hD H] h = .ok (.int H.length) h := by simp [hD]

end My
namespace My
open PySem AB L2
noncomputable def absI (i : Int) : Int := if i < 0 then -i else i
theorem absI_nn (i : Int) : 0 ≤ absI i := by
  unfold absI
  split <;> omega
theorem pool_ok (ns : List Int) (hl : ns.length ≤ 63) : ∃ cs : List Int, (∀ c ∈ cs, 0 ≤ c) ∧ ∃ s, m__law_pool [.rol (ns.map .int)] [] = .ok [.lst (cs.map .int), .int 0, .int 0, .int s, .int 0] [] := by
  refine ⟨ns.map absI, fun c hc => ?_, 1 + ns.length, ?_⟩
  · obtain ⟨i, _, rfl⟩ := List.mem_map.mp hc
    exact absI_nn i
  have hc : ∀ (all0 : List D), compGo (.nm 1) tYesM (mN fAbs (aCons (mN fInt (aCons (mV 1) aNil)) aNil)) none all0 [some (.rol (ns.map .int)), none] (ns.map .int) [] = .ok (ns.map fun i => .int (absI i)) [] := by
    intro all0
    exact comp_all _ _ _ fun i hi => ⟨[some (.rol (ns.map .int)), some (.int i)], rfl, by simp [absI]⟩
  have e1 : cutD (ns.map D.int) none (some 63) = ns.map .int := by
    have := cut_to D.int ns 63
    rw [List.take_of_length_le hl] at this
    exact this
  have l1 : ns.length ≤ big := by rw [big_eq]; omega
  have l2 : (5 : Nat) ≤ big := by decide
  have e2 : underL 0 [D.lst (ns.map fun i => D.int (absI i)), D.int 0, D.int 0, D.int (1 + ns.length), D.int 0] = true := by
    simp [underL, D.under, under_intF]
  have e3 := finL_new [] [D.lst (ns.map fun i => D.int (absI i)), D.int 0, D.int 0, D.int (1 + ns.length), D.int 0] e2
  have e4 : (ns.map absI).map D.int = ns.map fun i => D.int (absI i) := by rw [List.map_map]; rfl
  rw [e4]
  simp [m__law_pool, mDefL, b__law_pool, wipeG, e1, hc, l1, l2]
  simpa using e3
theorem any_ok {cs : List Int} (hc : ∀ c ∈ cs, 0 ≤ c) {P : AO} (hP : IsP cs P) (ds : List D) (h1 : 1 ≤ ds.length) (h2 : ds.length ≤ 1000000) (tl : AH) :
    ∃ x P', m__law_any [.loc 0, .lst ds] (P :: tl) = .ok x (P' :: tl) ∧ IsP cs P' ∧ x ∈ ds := by
  obtain ⟨r, P', e, hP', r0, r1⟩ := draw_ok hc hP (many := ds.length) (by omega) (by omega) tl
  obtain ⟨x, hx, hm⟩ := atI_some r0 r1
  refine ⟨x, P', ?_, hP', hm⟩
  have fin : ∀ x : D, finD (tl.length + 1) (P :: tl) x (P' :: tl) = .ok x (P' :: tl) := fun x => by
    unfold finD
    rw [if_pos (by simp)]
  simp [m__law_any, mDef, b__law_any, e, hx, fin]
noncomputable def wD (ws : List Int) : D := .tup (ws.map .int)
/-- the texts of names -/
structure Names (nm : List Int) : Prop where
  asc : nm.Pairwise (· < ·)
  bd : ∀ k ∈ nm, 0 ≤ k ∧ k ≤ 99
  len : nm.length ≤ 4
theorem wrote_body {cs : List Int} (hc : ∀ c ∈ cs, 0 ≤ c) {nm : List Int} (hn : Names nm) {P : AO} (hP : IsP cs P) (W : List (List Int)) (hW : W.length ≤ 100) (tl : AH) (a b c k : Option D) :
    ∃ ys P', ((sSeq (sExpr (mBM fApp (mV 5) (aCons (mN fTuple (aCons (mL (lComp (.nm 10) [10] (iSeq (mV 3)) (tBl (mOp2 fEq (mN m__law_draw (aCons (mV 0) (aCons (mOp2 fAdd (mC (.int 2)) (mN fInt (aCons (mOp2 cGt (mN fLen (aCons (mV 3) aNil)) (mC (.int 2))) aNil))) aNil))) (mC (.int 0)))) (mV 10))) aNil)) aNil))) sNil) : Ms)
      [some (.loc 0), a, b, some (wD nm), c, some (.loc (tl.length + 1)), k, none, none, none, none, none, none, none, none] (P :: (tl ++ [.lst (W.map wD)]))
      = .next [some (.loc 0), a, b, some (wD nm), c, some (.loc (tl.length + 1)), k, none, none, none, none, none, none, none, none] (P' :: (tl ++ [.lst ((W ++ [ys]).map wD)])) ∧ IsP cs P' ∧ ys.Sublist nm := by
  have hl := hn.len
  obtain ⟨q, hq, hq1, hq2⟩ : ∃ q : Int, q = 2 + (if (2 : Int) < nm.length then 1 else 0) ∧ 1 ≤ q ∧ q ≤ 1000000 := ⟨_, rfl, by split <;> omega, by split <;> omega⟩
  obtain ⟨ys, h', e1, ⟨P', hP', rfl⟩, sl⟩ := comp_inv (p := .nm 10) (t := (tBl (mOp2 fEq (mN m__law_draw (aCons (mV 0) (aCons (mOp2 fAdd (mC (.int 2)) (mN fInt (aCons (mOp2 cGt (mN fLen (aCons (mV 3) aNil)) (mC (.int 2))) aNil))) aNil))) (mC (.int 0))))) (e := mV 10) (all0 := nm.map D.int)
    (G0 := [some (.loc 0), a, b, some (wD nm), c, some (.loc (tl.length + 1)), k, none, none, none, none, none, none, none, none]) (I := fun h => ∃ P', IsP cs P' ∧ h = P' :: (tl ++ [.lst (W.map wD)])) D.int D.int nm
    (by
      rintro x hx h ⟨P1, hP1, rfl⟩
      obtain ⟨r, P2, e, hP2, r0, r1⟩ := draw_ok hc hP1 hq1 hq2 (tl ++ [.lst (W.map wD)])
      refine ⟨[some (.loc 0), a, b, some (wD nm), c, some (.loc (tl.length + 1)), k, none, none, none, some (.int x), none, none, none, none], decide (r = 0), P2 :: (tl ++ [.lst (W.map wD)]), rfl, ?_, ⟨P2, hP2, rfl⟩, fun _ => ⟨_, by simp, ⟨P2, hP2, rfl⟩⟩⟩
      have e5 : (2 : Int) + (if decide ((2 : Int) < nm.length) = true then 1 else 0) = q := by rw [hq]; simp
      simp [wD]
      simp at e5
      simp [e5, e])
    (P :: (tl ++ [.lst (W.map wD)])) ⟨P, hP, rfl⟩
  have l1 : nm.length ≤ big := by rw [big_eq]; omega
  have l2 : W.length < big := by rw [big_eq]; omega
  refine ⟨ys, P', ?_, hP', sl⟩
  have e3 : wD nm = .tup (nm.map .int) := rfl
  rw [e3] at e1 ⊢
  simp [l1, l2, wipeG, e1, wD]

end My
namespace My
open PySem AB L2
noncomputable abbrev innerB : Ms := (sSeq (sSet 11 (mOp2 fAdd (mL (lLst (aCons (mOp1 fNeg (mC (.int 1))) aNil))) (mL (lComp (.nm 14) [14] (iRange1 (aCons (mV 2) aNil)) (tAndM (tBl (mOp2 fNe (mV 14) (mV 6))) (tBl (mOp2 fIn (mV 10) (mOp2 fIx (mV 5) (mV 14))))) (mV 14))))) (sSeq (sSet 12 (mL (lComp (.nm 14) [14] (iSeq (mV 11)) (tBl (mOp2 cLt (mV 14) (mV 8))) (mV 14)))) (sSeq (sSet 13 (mN m__law_draw (aCons (mV 0) (aCons (mC (.int 6)) aNil)))) (sSeq (sIf (tAndM (tBl (mOp2 fEq (mV 13) (mC (.int 0)))) (tBl (mOp2 cGt (mV 4) (mC (.int 1))))) (sSeq (sExpr (mBM fApp (mV 9) (aCons (mN fTup (aCons (mV 10) (aCons (mN m__law_any (aCons (mV 0) (aCons (mV 11) aNil))) aNil))) aNil))) sNil) (sSeq (sIf (tBl (mOp2 cLt (mV 13) (mC (.int 4)))) (sSeq (sExpr (mBM fApp (mV 9) (aCons (mN fTup (aCons (mV 10) (aCons (mN fMax (aCons (mOp2 fAdd (mL (lLst (aCons (mOp1 fNeg (mC (.int 1))) aNil))) (mV 12)) aNil)) aNil))) aNil))) sNil) sNil) sNil)) sNil))))
/-- what a read may name -/
noncomputable def Src (W : List (List Int)) (k : Nat) (x s : Int) : Prop := s = -1 ∨ ∃ o : Nat, o < W.length ∧ o ≠ k ∧ s = o ∧ x ∈ W.getD o []
noncomputable def somes (W : List (List Int)) (k : Nat) (x : Int) : List Nat := (List.range W.length).filter fun o => !decide (o = k) && decide (x ∈ W.getD o [])
theorem somes_src {W : List (List Int)} {k : Nat} {x s : Int} (h : s ∈ -1 :: (somes W k x).map fun o : Nat => (o : Int)) : Src W k x s := by
  rcases List.mem_cons.mp h with rfl | h
  · exact .inl rfl
  · obtain ⟨o, ho, rfl⟩ := List.mem_map.mp h
    unfold somes at ho
    obtain ⟨h1, h2⟩ := List.mem_filter.mp ho
    rw [Bool.and_eq_true] at h2
    exact .inr ⟨o, List.mem_range.mp h1, by simpa using h2.1, rfl, by simpa using h2.2⟩
theorem inner_body {cs : List Int} (hc : ∀ c ∈ cs, 0 ≤ c) {P : AO} (hP : IsP cs P) {W : List (List Int)} (hW : W.length ≤ 100) (x style atv : Int) (k n : Nat) (Fo : AO) (tl rest : AH) (hn : n = tl.length + rest.length + 3) (R : List (Int × Int)) (hR : R.length ≤ 100) (most nmv b11 b12 b13 : Option D) :
    ∃ a11 a12 a13 P' R', innerB [some (.loc 0), most, some (.int W.length), nmv, some (.int style), some (.loc (tl.length + 1)), some (.int k), some (.loc (tl.length + 2)), some (.int atv), some (.loc n), some (.int x), b11, b12, b13, none] (P :: (tl ++ .lst (W.map wD) :: Fo :: (rest ++ [.lst (R.map rD)])))
      = .next [some (.loc 0), most, some (.int W.length), nmv, some (.int style), some (.loc (tl.length + 1)), some (.int k), some (.loc (tl.length + 2)), some (.int atv), some (.loc n), some (.int x), a11, a12, a13, none] (P' :: (tl ++ .lst (W.map wD) :: Fo :: (rest ++ [.lst (R'.map rD)])))
      ∧ IsP cs P' ∧ (R' = R ∨ ∃ s, R' = R ++ [(x, s)] ∧ Src W k x s) := by
  have hget : ∀ (P : AO) (o : AO), (P :: (tl ++ .lst (W.map wD) :: Fo :: (rest ++ [o])))[n]? = some o := fun P o => by
    subst hn
    exact gR tl rest _ _ _ _
  have hset : ∀ (P : AO) (o o' : AO), (P :: (tl ++ .lst (W.map wD) :: Fo :: (rest ++ [o]))).set n o' = P :: (tl ++ .lst (W.map wD) :: Fo :: (rest ++ [o'])) := fun P o o' => by
    subst hn
    exact sR tl rest _ _ _ _ _
  have er : rangeD 0 W.length = (List.range W.length).map iD := rangeD_eq _
  have c1 : okR (W.length : Int) := ⟨by omega, by omega⟩
  have c4 : W.length ≤ big := by rw [big_eq]; omega
  have b1 : (1 : Nat) ≤ big := by decide
  have b2 : (2 : Nat) ≤ big := by decide
  have hlen : (somes W k x).length ≤ W.length := by
    have := List.length_filter_le (fun o => !decide (o = k) && decide (x ∈ W.getD o [])) (List.range W.length)
    simpa [somes] using this
  have l1 : 1 + (somes W k x).length ≤ big := by rw [big_eq]; omega
  have l1' : (somes W k x).length + 1 ≤ big := by rw [big_eq]; omega
  have lR : R.length < big := by rw [big_eq]; omega
  -- some
  have h1 : ∀ (all0 : List D) (b11 : Option D), compGo (.nm 14) (tAndM (tBl (mOp2 fNe (mV 14) (mV 6))) (tBl (mOp2 fIn (mV 10) (mOp2 fIx (mV 5) (mV 14))))) (mV 14) none all0 [some (.loc 0), most, some (.int W.length), nmv, some (.int style), some (.loc (tl.length + 1)), some (.int k), some (.loc (tl.length + 2)), some (.int atv), some (.loc n), some (.int x), b11, b12, b13, none] ((List.range W.length).map iD) (P :: (tl ++ .lst (W.map wD) :: Fo :: (rest ++ [.lst (R.map rD)]))) = .ok ((somes W k x).map iD) (P :: (tl ++ .lst (W.map wD) :: Fo :: (rest ++ [.lst (R.map rD)]))) := by
    intro all0 b11
    refine comp_ok _ (fun o => !decide (o = k) && decide (x ∈ W.getD o [])) _ _ fun o ho => ?_
    have ho := List.mem_range.mp ho
    have e : atI (W.map wD) (o : Int) = some (.tup ((W.getD o []).map .int)) := by
      rw [atI_map, atI_nat (by omega) (List.getElem?_eq_getElem (by simpa using ho))]
      simp [wD, List.getD_eq_getElem?_getD, ho]
    refine ⟨[some (.loc 0), most, some (.int W.length), nmv, some (.int style), some (.loc (tl.length + 1)), some (.int k), some (.loc (tl.length + 2)), some (.int atv), some (.loc n), some (.int x), b11, b12, b13, some (iD o)], rfl, ?_, by simp⟩
    by_cases q : o = k
    · simp [q]
    · have q2 : ¬ (o : Int) = (k : Int) := by omega
      simp [q, q2, e]
  -- ahead
  have h2 : ∀ (all0 : List D) (b11 : Option D) (h : AH), compGo (.nm 14) (tBl (mOp2 cLt (mV 14) (mV 8))) (mV 14) none all0 [some (.loc 0), most, some (.int W.length), nmv, some (.int style), some (.loc (tl.length + 1)), some (.int k), some (.loc (tl.length + 2)), some (.int atv), some (.loc n), some (.int x), b11, b12, b13, none] ((-1 :: (somes W k x).map fun o : Nat => (o : Int)).map .int) h = .ok (((-1 :: (somes W k x).map fun o : Nat => (o : Int)).filter fun i => decide (i < atv)).map .int) h := by
    intro all0 b11 h
    exact comp_ok _ (fun i => decide (i < atv)) _ _ fun i hi => ⟨[some (.loc 0), most, some (.int W.length), nmv, some (.int style), some (.loc (tl.length + 1)), some (.int k), some (.loc (tl.length + 2)), some (.int atv), some (.loc n), some (.int x), b11, b12, b13, some (.int i)], rfl, by simp, by simp⟩
  have eS : (-1 :: (somes W k x).map fun o : Nat => (o : Int)).map D.int = D.int (-1) :: (somes W k x).map iD := by
    rw [List.map_cons, List.map_map]
    rfl
  obtain ⟨A, hA⟩ : ∃ A, A = (-1 :: (somes W k x).map fun o : Nat => (o : Int)).filter fun i => decide (i < atv) := ⟨_, rfl⟩
  rw [← hA, eS] at h2
  have lA : A.length ≤ (somes W k x).length + 1 := by
    rw [hA]
    have := List.length_filter_le (fun i : Int => decide (i < atv)) (-1 :: (somes W k x).map fun o : Nat => (o : Int))
    simpa using this
  have l3 : 1 + A.length ≤ big := by rw [big_eq]; omega
  have hAm : maxI (-1 :: A) ∈ -1 :: (somes W k x).map fun o : Nat => (o : Int) := by
    have := maxI_mem (ns := -1 :: A) (by simp)
    rcases List.mem_cons.mp this with e | e
    · rw [e]
      exact List.mem_cons_self
    · rw [hA] at e
      have := (List.mem_filter.mp e).1
      rw [hA]
      exact this
  obtain ⟨r, P1, e1, hP1, r0, r1⟩ := draw_ok hc hP (many := 6) (by omega) (by omega) (tl ++ .lst (W.map wD) :: Fo :: (rest ++ [.lst (R.map rD)]))
  by_cases q1 : r = 0 ∧ 1 < style
  · obtain ⟨rfl, q1⟩ := q1
    obtain ⟨y, P2, e2, hP2, hy⟩ := any_ok hc hP1 (D.int (-1) :: (somes W k x).map iD) (by simp) (by simp; omega) (tl ++ .lst (W.map wD) :: Fo :: (rest ++ [.lst (R.map rD)]))
    obtain ⟨s, rfl, hs⟩ : ∃ s, y = .int s ∧ s ∈ -1 :: (somes W k x).map fun o : Nat => (o : Int) := by
      rw [← eS] at hy
      obtain ⟨s, hs, rfl⟩ := List.mem_map.mp hy
      exact ⟨s, rfl, hs⟩
    refine ⟨some (.lst (D.int (-1) :: (somes W k x).map iD)), some (.lst (A.map .int)), some (.int 0), P2, R ++ [(x, s)], ?_, hP2, .inr ⟨s, rfl, somes_src hs⟩⟩
    simp [innerB, c1, er, c4, wipeG, h1, l1, l1', h2, e1, q1, e2, hget, hset, lR, b1, b2, rD]
  · by_cases q2 : r < 4
    · refine ⟨some (.lst (D.int (-1) :: (somes W k x).map iD)), some (.lst (A.map .int)), some (.int r), P1, R ++ [(x, maxI (-1 :: A))], ?_, hP1, .inr ⟨_, rfl, somes_src hAm⟩⟩
      have e4 := fun h : AH => v_max (h := h) (-1) A
      by_cases q3 : r = 0
      · have q4 : ¬ 1 < style := fun z => q1 ⟨q3, z⟩
        subst q3
        simp [innerB, c1, er, c4, wipeG, h1, l1, l1', h2, e1, q4, hget, hset, lR, b1, b2, rD, l3, e4]
      · simp [innerB, c1, er, c4, wipeG, h1, l1, l1', h2, e1, q3, q2, hget, hset, lR, b1, b2, rD, l3, e4]
    · have q3 : ¬ r = 0 := by omega
      refine ⟨some (.lst (D.int (-1) :: (somes W k x).map iD)), some (.lst (A.map .int)), some (.int r), P1, R, ?_, hP1, .inl rfl⟩
      simp [innerB, c1, er, c4, wipeG, h1, l1, l1', h2, e1, q3, q2, hget, hset, lR, b1, b2, rD]

end My
namespace My
open PySem AB L2
theorem for_pre {α : Type} {p : Pat} {body : Ms} {all0 : List D} (I : List α → AB.Env → AH → Prop) (enc : α → D) (xs : List α) : ∀ (todo done : List α), done ++ todo = xs →
    (∀ done x rest, done ++ x :: rest = xs → ∀ G h, I done G h → ∃ G1 G2 h2, asg p (enc x) G = some G1 ∧ body G1 h = .next G2 h2 ∧ I (done ++ [x]) G2 h2) →
    ∀ G h, I done G h → ∃ G' h', forGo p body none all0 (todo.map enc) G h = .next G' h' ∧ I xs G' h'
  | [], done, e, _, G, h, hI => by
    rw [List.append_nil] at e
    subst e
    exact ⟨G, h, by simp [forGo, Still], hI⟩
  | x :: r, done, e, hx, G, h, hI => by
    obtain ⟨G1, G2, h2, e1, e2, hI2⟩ := hx done x r e G h hI
    obtain ⟨G', h', e3, hI'⟩ := for_pre (all0 := all0) I enc xs r (done ++ [x]) (by rw [List.append_assoc]; exact e) hx G2 h2 hI2
    refine ⟨G', h', ?_, hI'⟩
    rw [List.map_cons]
    unfold forGo
    rw [if_pos (by trivial), e1]
    simp only [e2, e3]
structure RGood (W : List (List Int)) (nm : List Int) (k : Nat) (R : List (Int × Int)) : Prop where
  sub : (R.map (·.1)).Sublist nm
  src : ∀ r ∈ R, Src W k r.1 r.2
theorem inner_loop {cs : List Int} (hc : ∀ c ∈ cs, 0 ≤ c) {P : AO} (hP : IsP cs P) {W : List (List Int)} (hW : W.length ≤ 100) {nm : List Int} (hn : Names nm) (style atv : Int) (k : Nat) (Fo : AO) (tl rest : AH) (most : Option D) (b10 b11 b12 b13 : Option D) (all0 : List D) :
    ∃ a10 a11 a12 a13 P' R', forGo (.nm 10) innerB none all0 (nm.map .int) [some (.loc 0), most, some (.int W.length), some (wD nm), some (.int style), some (.loc (tl.length + 1)), some (.int k), some (.loc (tl.length + 2)), some (.int atv), some (.loc (tl.length + rest.length + 3)), b10, b11, b12, b13, none] (P :: (tl ++ .lst (W.map wD) :: Fo :: (rest ++ [.lst []])))
      = .next [some (.loc 0), most, some (.int W.length), some (wD nm), some (.int style), some (.loc (tl.length + 1)), some (.int k), some (.loc (tl.length + 2)), some (.int atv), some (.loc (tl.length + rest.length + 3)), a10, a11, a12, a13, none] (P' :: (tl ++ .lst (W.map wD) :: Fo :: (rest ++ [.lst (R'.map rD)])))
      ∧ IsP cs P' ∧ RGood W nm k R' := by
  have hl := hn.len
  obtain ⟨G', h', e, a10, a11, a12, a13, P', R', rfl, rfl, hP', s1, s2⟩ := for_pre (p := .nm 10) (body := innerB) (all0 := all0)
    (fun done G h => ∃ a10 a11 a12 a13 P' R', G = [some (.loc 0), most, some (.int W.length), some (wD nm), some (.int style), some (.loc (tl.length + 1)), some (.int k), some (.loc (tl.length + 2)), some (.int atv), some (.loc (tl.length + rest.length + 3)), a10, a11, a12, a13, none] ∧ h = P' :: (tl ++ .lst (W.map wD) :: Fo :: (rest ++ [.lst (R'.map rD)])) ∧ IsP cs P' ∧ (R'.map (·.1)).Sublist done ∧ ∀ r ∈ R', Src W k r.1 r.2)
    D.int nm nm [] rfl
    (by
      rintro done x rs hxs G h ⟨a10, a11, a12, a13, P1, R1, rfl, rfl, hP1, s1, s2⟩
      have hR : R1.length ≤ 100 := by
        have h1 := s1.length_le
        rw [List.length_map] at h1
        have h2 : done.length ≤ nm.length := by
          rw [← hxs, List.length_append]
          omega
        omega
      obtain ⟨c11, c12, c13, P2, R2, e, hP2, hR2⟩ := inner_body hc hP1 hW x style atv k (tl.length + rest.length + 3) Fo tl rest rfl R1 hR most (some (wD nm)) a11 a12 a13
      refine ⟨_, _, _, rfl, e, some (.int x), c11, c12, c13, P2, R2, rfl, rfl, hP2, ?_, ?_⟩
      · rcases hR2 with rfl | ⟨s, rfl, _⟩
        · exact s1.trans (List.sublist_append_left _ _)
        · rw [List.map_append]
          exact s1.append (List.Sublist.refl _)
      · rcases hR2 with rfl | ⟨s, rfl, hs⟩
        · exact s2
        · intro r hr
          rcases List.mem_append.mp hr with hr | hr
          · exact s2 r hr
          · rw [List.mem_singleton.mp hr]
            exact hs)
    _ _ ⟨b10, b11, b12, b13, P, [], rfl, rfl, hP, by simp, by simp⟩
  exact ⟨a10, a11, a12, a13, P', R', e, hP', s1, s2⟩
noncomputable abbrev outerB : Ms := (sSeq (sSet 8 (mIf (tBl (mOp2 fEq (mV 4) (mC (.int 0)))) (mV 6) (mN m__law_draw (aCons (mV 0) (aCons (mOp2 fAdd (mV 6) (mC (.int 1))) aNil))))) (sSeq (sSet 9 (mNew (lLst aNil))) (sSeq (sFor (.nm 10) (iSeq (mV 3)) (sSeq (sSet 11 (mOp2 fAdd (mL (lLst (aCons (mOp1 fNeg (mC (.int 1))) aNil))) (mL (lComp (.nm 14) [14] (iRange1 (aCons (mV 2) aNil)) (tAndM (tBl (mOp2 fNe (mV 14) (mV 6))) (tBl (mOp2 fIn (mV 10) (mOp2 fIx (mV 5) (mV 14))))) (mV 14))))) (sSeq (sSet 12 (mL (lComp (.nm 14) [14] (iSeq (mV 11)) (tBl (mOp2 cLt (mV 14) (mV 8))) (mV 14)))) (sSeq (sSet 13 (mN m__law_draw (aCons (mV 0) (aCons (mC (.int 6)) aNil)))) (sSeq (sIf (tAndM (tBl (mOp2 fEq (mV 13) (mC (.int 0)))) (tBl (mOp2 cGt (mV 4) (mC (.int 1))))) (sSeq (sExpr (mBM fApp (mV 9) (aCons (mN fTup (aCons (mV 10) (aCons (mN m__law_any (aCons (mV 0) (aCons (mV 11) aNil))) aNil))) aNil))) sNil) (sSeq (sIf (tBl (mOp2 cLt (mV 13) (mC (.int 4)))) (sSeq (sExpr (mBM fApp (mV 9) (aCons (mN fTup (aCons (mV 10) (aCons (mN fMax (aCons (mOp2 fAdd (mL (lLst (aCons (mOp1 fNeg (mC (.int 1))) aNil))) (mV 12)) aNil)) aNil))) aNil))) sNil) sNil) sNil)) sNil))))) (sSeq (sExpr (mBM fApp (mV 7) (aCons (mN fTup (aCons (mN fTuple (aCons (mV 9) aNil)) (aCons (mOp2 fIx (mV 5) (mV 6)) aNil))) aNil))) sNil))))
theorem outer_body {cs : List Int} (hc : ∀ c ∈ cs, 0 ≤ c) {P : AO} (hP : IsP cs P) {W : List (List Int)} (hW : W.length ≤ 100) {nm : List Int} (hn : Names nm) (style : Int) (k : Nat) (hk : k < W.length) (F : List Deal) (hF : F.length ≤ 100) (tl rest : AH) (most : Option D) (b8 b9 b10 b11 b12 b13 : Option D) :
    ∃ a8 a9 a10 a11 a12 a13 P' o R', outerB [some (.loc 0), most, some (.int W.length), some (wD nm), some (.int style), some (.loc (tl.length + 1)), some (.int k), some (.loc (tl.length + 2)), b8, b9, b10, b11, b12, b13, none] (P :: (tl ++ .lst (W.map wD) :: .lst (F.map dD) :: rest))
      = .next [some (.loc 0), most, some (.int W.length), some (wD nm), some (.int style), some (.loc (tl.length + 1)), some (.int k), some (.loc (tl.length + 2)), a8, a9, a10, a11, a12, a13, none] (P' :: (tl ++ .lst (W.map wD) :: .lst ((F ++ [(R', W.getD k [])]).map dD) :: (rest ++ [o])))
      ∧ IsP cs P' ∧ RGood W nm k R' := by
  have hat : ∃ (atv : Int) (P1 : AO), (mIf (tBl (mOp2 fEq (mV 4) (mC (.int 0)))) (mV 6) (mN m__law_draw (aCons (mV 0) (aCons (mOp2 fAdd (mV 6) (mC (.int 1))) aNil)))) [some (.loc 0), most, some (.int W.length), some (wD nm), some (.int style), some (.loc (tl.length + 1)), some (.int k), some (.loc (tl.length + 2)), b8, b9, b10, b11, b12, b13, none] (P :: (tl ++ .lst (W.map wD) :: .lst (F.map dD) :: rest)) = .ok (.int atv) (P1 :: (tl ++ .lst (W.map wD) :: .lst (F.map dD) :: rest)) ∧ IsP cs P1 := by
    by_cases q : style = 0
    · exact ⟨k, P, by simp [q], hP⟩
    · obtain ⟨r, P1, e, hP1, _, _⟩ := draw_ok hc hP (many := (k : Int) + 1) (by omega) (by omega) (tl ++ .lst (W.map wD) :: .lst (F.map dD) :: rest)
      exact ⟨r, P1, by simp [q, e], hP1⟩
  obtain ⟨atv, P1, e1, hP1⟩ := hat
  obtain ⟨a10, a11, a12, a13, P2, R', e2, hP2, hR⟩ := inner_loop hc hP1 hW hn style atv k (.lst (F.map dD)) tl rest most b10 b11 b12 b13 (nm.map .int)
  have e3 : atI (W.map wD) (k : Int) = some (.tup ((W.getD k []).map .int)) := by
    rw [atI_map, atI_nat (by omega) (List.getElem?_eq_getElem (by simpa using hk))]
    simp [wD, List.getD_eq_getElem?_getD, hk]
  have lF : F.length < big := by rw [big_eq]; omega
  have b2 : (2 : Nat) ≤ big := by decide
  have e4 : wD nm = .tup (nm.map .int) := rfl
  have hget : ∀ (P x y : AO) (o : AO), (P :: (tl ++ x :: y :: (rest ++ [o])))[tl.length + rest.length + 3]? = some o := fun P x y o => gR tl rest P x y o
  have b0 : (0 : Nat) ≤ big := by decide
  have e9 : ∀ G : AB.Env, (mNew (lLst aNil)) G (P1 :: (tl ++ .lst (W.map wD) :: .lst (F.map dD) :: rest)) = .ok (.loc (tl.length + rest.length + 3)) (P1 :: (tl ++ .lst (W.map wD) :: .lst (F.map dD) :: (rest ++ [.lst []]))) := by
    intro G
    have el : (P1 :: (tl ++ .lst (W.map wD) :: .lst (F.map dD) :: rest)).length = tl.length + rest.length + 3 := by simp; omega
    simp only [v_mNew, v_lLst, v_aNil, Res.bind_ok, List.length_nil, b0, if_true, el]
    simp
  refine ⟨some (.int atv), some (.loc (tl.length + rest.length + 3)), a10, a11, a12, a13, P2, .lst (R'.map rD), R', ?_, hP2, hR⟩
  rw [e4] at e1 e2 ⊢
  simp only [outerB, v_sSeq, v_sSet, e1, Res.toS_ok, SR.andThen_next, e9]
  simp [e2, hget, e3, lF, b2, dD]

end My
namespace My
open PySem AB L2
theorem names_ok {d : D} (h : d ∈ [wD [0, 1, 7, 99], wD [3, 4], wD [5], wD [0, 2, 50]]) : ∃ nm, d = wD nm ∧ Names nm := by
  have key : ∀ nm ∈ [[0, 1, 7, 99], [3, 4], [5], [0, 2, 50]], Names nm := by
    intro nm h
    simp at h
    rcases h with rfl | rfl | rfl | rfl
    · exact ⟨by decide, by decide, by decide⟩
    · exact ⟨by decide, by decide, by decide⟩
    · exact ⟨by decide, by decide, by decide⟩
    · exact ⟨by decide, by decide, by decide⟩
  simp only [List.mem_cons, List.not_mem_nil, or_false] at h
  rcases h with rfl | rfl | rfl | rfl
  · exact ⟨_, rfl, key _ (by simp)⟩
  · exact ⟨_, rfl, key _ (by simp)⟩
  · exact ⟨_, rfl, key _ (by simp)⟩
  · exact ⟨_, rfl, key _ (by simp)⟩
/-- a drawn history -/
structure Made (W : List (List Int)) (nm : List Int) (F : List Deal) : Prop where
  each : ∀ i d, F[i]? = some d → d.2 = W.getD i [] ∧ RGood W nm i d.1
theorem made_wf {W : List (List Int)} {nm : List Int} {F : List Deal} (hn : Names nm) (hW : ∀ w ∈ W, w.Sublist nm) (hl : F.length = W.length) (h12 : F.length ≤ 12) (m : Made W nm F) : Wf F := by
  have hl4 := hn.len
  have get : ∀ i, i < F.length → F[i]? = some (F.getD i nilD) := fun i hi => by
    rw [List.getD_eq_getElem?_getD, List.getElem?_eq_getElem hi]
    rfl
  have hwr : ∀ i, i < F.length → wr F i = W.getD i [] := fun i hi => (m.each i _ (get i hi)).1
  have hmem : ∀ i, i < F.length → (W.getD i []).Sublist nm := fun i hi => by
    have hi : i < W.length := by omega
    apply hW
    rw [List.getD_eq_getElem?_getD, List.getElem?_eq_getElem hi]
    exact List.getElem_mem hi
  refine ⟨h12, fun i hi => ?_, fun i hi => ?_⟩
  · have s := hmem i hi
    rw [hwr i hi]
    have := s.length_le
    exact ⟨hn.asc.sublist s, fun k hk => hn.bd k (s.subset hk), by omega⟩
  · have g := (m.each i _ (get i hi)).2
    have s := g.sub
    have l := s.length_le
    rw [List.length_map] at l
    have e : rd F i = (F.getD i nilD).1 := rfl
    rw [e]
    refine ⟨hn.asc.sublist s, fun r hr => hn.bd _ (s.subset (List.mem_map.mpr ⟨r, hr, rfl⟩)), fun r hr => ?_, fun r hr => ?_, by omega⟩
    · rcases g.src r hr with h | ⟨o, ho, _, e, hx⟩
      · exact .inl h
      · refine .inr ⟨by omega, by omega, ?_⟩
        rw [e, Int.toNat_natCast, hwr o (by omega)]
        exact hx
    · rcases g.src r hr with h | ⟨o, ho, hne, e, hx⟩
      · omega
      · omega
theorem under_rs (n : Nat) (rs : List (Int × Int)) : underL n (rs.map rD) = true := by
  induction rs with
  | nil => simp [underL]
  | cons r rs ih => simp [underL, ih, rD, D.under]
theorem under_hD (n : Nat) (F : List Deal) : (hD F).under n = true := by
  unfold hD
  have : underL n (F.map dD) = true := by
    induction F with
    | nil => simp [underL]
    | cons d F ih => simp [underL, ih, dD, D.under, under_rs, under_ints]
  simpa [D.under] using this
theorem under_P {cs : List Int} {P : AO} (h : IsP cs P) (n : Nat) : P.under n = true := by
  obtain ⟨a, b, s, t, rfl, _⟩ := h
  simp [pool, AO.under, underL, D.under, under_ints]
theorem okCells_hand {cs : List Int} {P P2 : AO} (hP2 : IsP cs P2) (tl t : AH) : OkCells (tl.length + 1) (P :: tl) (P2 :: (tl ++ t)) := by
  intro m o hm e
  cases m with
  | zero =>
    simp at e
    subst e
    exact .inr (under_P hP2 _)
  | succ m =>
    refine .inl ?_
    have hm : m < tl.length := by omega
    rw [List.getElem?_cons_succ] at e ⊢
    rwa [List.getElem?_append_left hm] at e
theorem finD_hand {cs : List Int} {P P2 : AO} (hP2 : IsP cs P2) (tl t : AH) (d : D) (hd : d.under (tl.length + 1) = true) : finD (tl.length + 1) (P :: tl) d (P2 :: (tl ++ t)) = .ok d (P2 :: tl) := by
  unfold finD
  by_cases q : (P2 :: (tl ++ t)).length = tl.length + 1
  · have : t = [] := by
      simp at q
      exact q
    subst this
    simp
  · rw [if_neg q, if_pos ⟨hd, okCells_hand hP2 tl t⟩]
    simp
/-- what is wanted of how long its parts are -/
structure Sm (F : List Deal) : Prop where
  r : ∀ i, i < F.length → (rd F i).length ≤ 4
  w : ∀ i, i < F.length → (wr F i).length ≤ 4
theorem made_sm {W : List (List Int)} {nm : List Int} {F : List Deal} (hn : Names nm) (hW : ∀ w ∈ W, w.Sublist nm) (hl : F.length = W.length) (m : Made W nm F) : Sm F := by
  have hl4 := hn.len
  have get : ∀ i, i < F.length → F[i]? = some (F.getD i nilD) := fun i hi => by
    rw [List.getD_eq_getElem?_getD, List.getElem?_eq_getElem hi]
    rfl
  refine ⟨fun i hi => ?_, fun i hi => ?_⟩
  · have l := (m.each i _ (get i hi)).2.sub.length_le
    rw [List.length_map] at l
    have e : rd F i = (F.getD i nilD).1 := rfl
    rw [e]
    omega
  · have e : wr F i = W.getD i [] := (m.each i _ (get i hi)).1
    have hi2 : i < W.length := by omega
    have := hW _ (show W.getD i [] ∈ W by rw [List.getD_eq_getElem?_getD, List.getElem?_eq_getElem hi2]; exact List.getElem_mem hi2)
    rw [e]
    have := this.length_le
    omega
noncomputable def s2 : Ms := sSet 2 (mN m__law_draw (aCons (mV 0) (aCons (mOp2 fAdd (mV 1) (mC (.int 1))) aNil)))
noncomputable def s3 : Ms := sSet 3 (mN m__law_any (aCons (mV 0) (aCons (mL (lLst (aCons (mN fTup (aCons (mC (.int 0)) (aCons (mC (.int 1)) (aCons (mC (.int 7)) (aCons (mC (.int 99)) aNil))))) (aCons (mN fTup (aCons (mC (.int 3)) (aCons (mC (.int 4)) aNil))) (aCons (mN fTup (aCons (mC (.int 5)) aNil)) (aCons (mN fTup (aCons (mC (.int 0)) (aCons (mC (.int 2)) (aCons (mC (.int 50)) aNil)))) aNil)))))) aNil)))
noncomputable def s4 : Ms := sSet 4 (mN m__law_draw (aCons (mV 0) (aCons (mC (.int 4)) aNil)))
noncomputable def wB : Ms := (sSeq (sExpr (mBM fApp (mV 5) (aCons (mN fTuple (aCons (mL (lComp (.nm 10) [10] (iSeq (mV 3)) (tBl (mOp2 fEq (mN m__law_draw (aCons (mV 0) (aCons (mOp2 fAdd (mC (.int 2)) (mN fInt (aCons (mOp2 cGt (mN fLen (aCons (mV 3) aNil)) (mC (.int 2))) aNil))) aNil))) (mC (.int 0)))) (mV 10))) aNil)) aNil))) sNil)
noncomputable def s6 : Ms := sFor (.nm 6) (iRange1 (aCons (mV 2) aNil)) wB
noncomputable def s8 : Ms := sFor (.nm 6) (iRange1 (aCons (mV 2) aNil)) outerB
theorem hist_eq : b__law_history = sSeq s2 (sSeq s3 (sSeq s4 (sSeq (sSet 5 (mNew (lLst aNil))) (sSeq s6 (sSeq (sSet 7 (mNew (lLst aNil))) (sSeq s8 (sSeq (sRet (mN fTuple (aCons (mV 7) aNil))) sNil))))))) := rfl
theorem history_ok {cs : List Int} (hc : ∀ c ∈ cs, 0 ≤ c) {P : AO} (hP : IsP cs P) (tl : AH) {most : Nat} (hm : most ≤ 12) :
    ∃ F P', m__law_history [.loc 0, .int most] (P :: tl) = .ok (hD F) (P' :: tl) ∧ IsP cs P' ∧ Wf F ∧ Sm F := by
  obtain ⟨many, P1, e1, hP1, r0, r1⟩ := draw_ok hc hP (many := (most : Int) + 1) (by omega) (by omega) tl
  obtain ⟨n, rfl⟩ : ∃ n : Nat, many = n := ⟨many.toNat, by omega⟩
  have hn12 : n ≤ 12 := by omega
  obtain ⟨x, P2, e2, hP2, hx⟩ := any_ok hc hP1 [wD [0, 1, 7, 99], wD [3, 4], wD [5], wD [0, 2, 50]] (by simp) (by simp) tl
  obtain ⟨nm, rfl, hn⟩ := names_ok hx
  obtain ⟨style, P3, e3, hP3, _, _⟩ := draw_ok hc hP2 (many := 4) (by omega) (by omega) tl
  have er : rangeD 0 n = (List.range' 0 n).map iD := by rw [rangeD_eq, List.range_eq_range']
  have c1 : okR (n : Int) := ⟨by omega, by omega⟩
  have b0 : (0 : Nat) ≤ big := by decide
  have b1 : (1 : Nat) ≤ big := by decide
  have b2 : (2 : Nat) ≤ big := by decide
  have b3 : (3 : Nat) ≤ big := by decide
  have b4 : (4 : Nat) ≤ big := by decide
  have c2 : s2 [some (.loc 0), some (.int most), none, none, none, none, none, none, none, none, none, none, none, none, none] (P :: tl) = .next [some (.loc 0), some (.int most), some (.int n), none, none, none, none, none, none, none, none, none, none, none, none] (P1 :: tl) := by
    unfold s2
    simp only [v_sSet, v_mN, v_aCons, v_aNil, v_mOp2, v_mV, v_mC, List.getElem?_cons_succ, List.getElem?_cons_zero, Res.bind_ok, v_add, e1, Res.toS_ok, List.set_cons_succ, List.set_cons_zero]
  have e2' : m__law_any [D.loc 0, D.lst [D.tup [D.int 0, D.int 1, D.int 7, D.int 99], D.tup [D.int 3, D.int 4], D.tup [D.int 5], D.tup [D.int 0, D.int 2, D.int 50]]] (P1 :: tl) = Res.ok (wD nm) (P2 :: tl) := e2
  have c3 : s3 [some (.loc 0), some (.int most), some (.int n), none, none, none, none, none, none, none, none, none, none, none, none] (P1 :: tl) = .next [some (.loc 0), some (.int most), some (.int n), some (wD nm), none, none, none, none, none, none, none, none, none, none, none] (P2 :: tl) := by
    unfold s3
    simp only [v_sSet, v_mN, v_aCons, v_aNil, v_mL, v_lLst, v_mV, v_mC, v_fTup, List.length_cons, List.length_nil, Nat.zero_add, Nat.reduceAdd, b0, b1, b2, b3, b4, if_true, List.getElem?_cons_succ, List.getElem?_cons_zero, Res.bind_ok, e2', Res.toS_ok, List.set_cons_succ, List.set_cons_zero]
  have c4 : s4 [some (.loc 0), some (.int most), some (.int n), some (wD nm), none, none, none, none, none, none, none, none, none, none, none] (P2 :: tl) = .next [some (.loc 0), some (.int most), some (.int n), some (wD nm), some (.int style), none, none, none, none, none, none, none, none, none, none] (P3 :: tl) := by
    unfold s4
    simp only [v_sSet, v_mN, v_aCons, v_aNil, v_mV, v_mC, List.getElem?_cons_succ, List.getElem?_cons_zero, Res.bind_ok, e3, Res.toS_ok, List.set_cons_succ, List.set_cons_zero]
  have c5 : (sSet 5 (mNew (lLst aNil))) [some (.loc 0), some (.int most), some (.int n), some (wD nm), some (.int style), none, none, none, none, none, none, none, none, none, none] (P3 :: tl) = .next [some (.loc 0), some (.int most), some (.int n), some (wD nm), some (.int style), some (.loc (tl.length + 1)), none, none, none, none, none, none, none, none, none] (P3 :: (tl ++ [.lst []])) := by
    simp only [v_sSet, v_mNew, v_lLst, v_aNil, Res.bind_ok, List.length_nil, b0, if_true, Res.toS_ok, List.set_cons_succ, List.set_cons_zero]
    rfl
  have l4 : ((List.range' 0 n).map iD).length ≤ big := by rw [List.length_map, List.length_range', big_eq]; omega
  have ei : ∀ (G : AB.Env) (hh : AH), G[2]? = some (some (.int (n : Int))) → (iRange1 (aCons (mV 2) aNil)) G hh = .ok ((List.range' 0 n).map iD, none) hh := fun G hh hG => by
    rw [v_range1]
    simp only [v_aCons, v_aNil, v_mV, hG, Res.bind_ok, c1, if_true]
    show Res.ok (rangeD 0 (n : Int).toNat, none) _ = _
    rw [Int.toNat_natCast, er]
  obtain ⟨G4, h4, e4, k4, P4, W, rfl, rfl, hP4, hWl, hWs⟩ := for_invN (p := .nm 6) (body := wB) (all0 := (List.range' 0 n).map iD)
    (fun j G h => ∃ k P W, G = [some (.loc 0), some (.int most), some (.int n), some (wD nm), some (.int style), some (.loc (tl.length + 1)), k, none, none, none, none, none, none, none, none] ∧ h = P :: (tl ++ [.lst (W.map wD)]) ∧ IsP cs P ∧ W.length = j ∧ ∀ w ∈ W, w.Sublist nm)
    iD n 0 n (by omega)
    (by
      rintro i hi G h ⟨k, P, W, rfl, rfl, hP, hWl, hWs⟩
      obtain ⟨ys, P', e, hP', sl⟩ := wrote_body hc hn hP W (by omega) tl (some (.int most)) (some (.int n)) (some (.int style)) (some (iD i))
      refine ⟨_, _, _, rfl, e, _, P', W ++ [ys], rfl, rfl, hP', by simp [hWl], fun w hw => ?_⟩
      rcases List.mem_append.mp hw with hw | hw
      · exact hWs w hw
      · rw [List.mem_singleton.mp hw]
        exact sl)
    [some (.loc 0), some (.int most), some (.int n), some (wD nm), some (.int style), some (.loc (tl.length + 1)), none, none, none, none, none, none, none, none, none] (P3 :: (tl ++ [.lst []])) ⟨none, P3, [], rfl, rfl, hP3, rfl, by simp⟩
  have c6 : s6 [some (.loc 0), some (.int most), some (.int n), some (wD nm), some (.int style), some (.loc (tl.length + 1)), none, none, none, none, none, none, none, none, none] (P3 :: (tl ++ [.lst []])) = .next [some (.loc 0), some (.int most), some (.int n), some (wD nm), some (.int style), some (.loc (tl.length + 1)), k4, none, none, none, none, none, none, none, none] (P4 :: (tl ++ [.lst (W.map wD)])) := by
    unfold s6
    rw [v_sFor, ei _ _ rfl]
    exact e4
  have c7 : (sSet 7 (mNew (lLst aNil))) [some (.loc 0), some (.int most), some (.int n), some (wD nm), some (.int style), some (.loc (tl.length + 1)), k4, none, none, none, none, none, none, none, none] (P4 :: (tl ++ [.lst (W.map wD)])) = .next [some (.loc 0), some (.int most), some (.int n), some (wD nm), some (.int style), some (.loc (tl.length + 1)), k4, some (.loc (tl.length + 2)), none, none, none, none, none, none, none] (P4 :: (tl ++ .lst (W.map wD) :: .lst (([] : List Deal).map dD) :: [])) := by
    have el : (P4 :: (tl ++ [AO.lst (W.map wD)])).length = tl.length + 2 := by simp
    have eh : P4 :: (tl ++ [AO.lst (W.map wD)]) ++ [AO.lst []] = P4 :: (tl ++ .lst (W.map wD) :: .lst (([] : List Deal).map dD) :: []) := by simp
    simp only [v_sSet, v_mNew, v_lLst, v_aNil, Res.bind_ok, List.length_nil, b0, if_true, Res.toS_ok, List.set_cons_succ, List.set_cons_zero, el, eh]
  obtain ⟨G5, h5, e5, k5, a8, a9, a10, a11, a12, a13, P5, rest, F, rfl, rfl, hP5, hFl, hF⟩ := for_invN (p := .nm 6) (body := outerB) (all0 := (List.range' 0 n).map iD)
    (fun j G h => ∃ k a8 a9 a10 a11 a12 a13 P rest F, G = [some (.loc 0), some (.int most), some (.int W.length), some (wD nm), some (.int style), some (.loc (tl.length + 1)), k, some (.loc (tl.length + 2)), a8, a9, a10, a11, a12, a13, none] ∧ h = P :: (tl ++ .lst (W.map wD) :: .lst (F.map dD) :: rest) ∧ IsP cs P ∧ F.length = j ∧ Made W nm F)
    iD n 0 n (by omega)
    (by
      rintro i hi G h ⟨k, a8, a9, a10, a11, a12, a13, P, rest, F, rfl, rfl, hP, hFl, hF⟩
      obtain ⟨b8, b9, b10, b11, b12, b13, P', o, R', e, hP', hR⟩ := outer_body hc hP (W := W) (by omega) hn style i (by omega) F (by omega) tl rest (some (.int most)) a8 a9 a10 a11 a12 a13
      refine ⟨_, _, _, rfl, e, some (iD i), b8, b9, b10, b11, b12, b13, P', rest ++ [o], F ++ [(R', W.getD i [])], rfl, rfl, hP', by simp [hFl], ⟨fun j d hj => ?_⟩⟩
      by_cases q : j < F.length
      · rw [List.getElem?_append_left q] at hj
        exact hF.each j d hj
      · have hl := (List.getElem?_eq_some_iff.mp hj).1
        rw [List.length_append] at hl
        have ej : j = i := by
          simp at hl
          omega
        subst ej
        rw [List.getElem?_append_right (by omega), hFl] at hj
        simp at hj
        subst hj
        exact ⟨rfl, hR⟩)
    [some (.loc 0), some (.int most), some (.int W.length), some (wD nm), some (.int style), some (.loc (tl.length + 1)), k4, some (.loc (tl.length + 2)), none, none, none, none, none, none, none] (P4 :: (tl ++ .lst (W.map wD) :: .lst (([] : List Deal).map dD) :: [])) ⟨k4, none, none, none, none, none, none, P4, [], [], rfl, rfl, hP4, rfl, ⟨fun i d h => by simp at h⟩⟩
  rw [hWl] at e5
  have c8 : s8 [some (.loc 0), some (.int most), some (.int n), some (wD nm), some (.int style), some (.loc (tl.length + 1)), k4, some (.loc (tl.length + 2)), none, none, none, none, none, none, none] (P4 :: (tl ++ .lst (W.map wD) :: .lst (([] : List Deal).map dD) :: [])) = .next [some (.loc 0), some (.int most), some (.int n), some (wD nm), some (.int style), some (.loc (tl.length + 1)), k5, some (.loc (tl.length + 2)), a8, a9, a10, a11, a12, a13, none] (P5 :: (tl ++ .lst (W.map wD) :: .lst (F.map dD) :: rest)) := by
    unfold s8
    rw [v_sFor, ei _ _ rfl]
    exact e5
  refine ⟨F, P5, ?_, hP5, made_wf hn hWs (by omega) (by omega) hF, made_sm hn hWs (by omega) hF⟩
  have gF : (P5 :: (tl ++ AO.lst (W.map wD) :: AO.lst (F.map dD) :: rest))[tl.length + 2]? = some (.lst (F.map dD)) := gm1
  have eb : b__law_history [some (.loc 0), some (.int most), none, none, none, none, none, none, none, none, none, none, none, none, none] (P :: tl) = .ret (hD F) (P5 :: (tl ++ .lst (W.map wD) :: .lst (F.map dD) :: rest)) := by
    rw [hist_eq, v_sSeq, c2, SR.andThen_next, v_sSeq, c3, SR.andThen_next, v_sSeq, c4, SR.andThen_next, v_sSeq, c5, SR.andThen_next, v_sSeq, c6, SR.andThen_next, v_sSeq, c7, SR.andThen_next, v_sSeq, c8, SR.andThen_next]
    simp only [v_sSeq, v_sRet, v_mN, v_aCons, v_aNil, v_mV, List.getElem?_cons_succ, List.getElem?_cons_zero, Res.bind_ok, v_tuple, v_vSo]
    rw [← List.getElem?_cons_succ (a := P5), gF]
    rfl
  have fin := finD_hand (P := P) hP5 tl (.lst (W.map wD) :: .lst (F.map dD) :: rest) (hD F) (under_hD _ F)
  have em : m__law_history [.loc 0, .int most] (P :: tl) = (match b__law_history [some (.loc 0), some (.int most), none, none, none, none, none, none, none, none, none, none, none, none, none] (P :: tl) with
    | .next _ h1 => finD (tl.length + 1) (P :: tl) .non h1
    | .ret d h1 => finD (tl.length + 1) (P :: tl) d h1
    | .exc c fs _ h1 => finX (tl.length + 1) (P :: tl) c fs h1
    | _ => .stuck) := by
    unfold m__law_history mDef
    rw [if_pos (show [D.loc 0, D.int most].length = 2 from rfl)]
    rfl
  rw [em, eb]
  exact fin

end My
/-! the judges of any thing: numbers, writes -/
namespace My
open PySem AB L2
/-- data -/
noncomputable def Gd (d : D) : Prop := ∃ p, toP d = some p
theorem gds : ∀ {ds : List D} {ps : List PyData}, toPs ds = some ps → ∀ x ∈ ds, Gd x
  | [], _, _, x, hx => by cases hx
  | d :: ds, ps, e, x, hx => by
    unfold toPs at e
    split at e
    · rename_i p qs e1 e2
      rcases List.mem_cons.mp hx with rfl | hx
      · exact ⟨p, e1⟩
      · exact gds e2 x hx
    · cases e
theorem gd_tup {ds : List D} (h : Gd (.tup ds)) : ∀ x ∈ ds, Gd x := by
  obtain ⟨p, e⟩ := h
  unfold toP at e
  cases q : toPs ds with
  | none => rw [q] at e; cases e
  | some ps => exact gds q
noncomputable def isI (lo hi : Int) : D → Bool
  | .int i => decide (lo ≤ i) && decide (i ≤ hi)
  | _ => false
noncomputable def keyI : D → Int
  | .int i => i
  | _ => 0
theorem isI_int {lo hi : Int} {d : D} (h : isI lo hi d = true) : d = .int (keyI d) ∧ lo ≤ keyI d ∧ keyI d ≤ hi := by
  cases d with
  | int i =>
    have h : (decide (lo ≤ i) && decide (i ≤ hi)) = true := h
    rw [Bool.and_eq_true, decide_eq_true_iff, decide_eq_true_iff] at h
    exact ⟨rfl, h⟩
  | _ => cases h
section
variable {h : AH}
theorem between_j {d : D} (g : Gd d) (lo hi : Int) : m_is_between [d, .int lo, .int hi] h = .ok (.bl (isI lo hi d)) h := by
  have ti : ∀ i : Int, tyD h (.int i) = some .int := fun _ => rfl
  cases d with
  | int i =>
    by_cases c : lo ≤ i
    · simp [m_is_between, mDef, b_is_between, m_is_integer, b_is_integer, Ty.sub, isI, c]
    · simp [m_is_between, mDef, b_is_between, m_is_integer, b_is_integer, Ty.sub, isI, c]
  | non => simp [m_is_between, mDef, b_is_between, m_is_integer, b_is_integer, Ty.sub, isI, tyD]
  | bl b => simp [m_is_between, mDef, b_is_between, m_is_integer, b_is_integer, Ty.sub, isI, tyD]
  | str b => simp [m_is_between, mDef, b_is_between, m_is_integer, b_is_integer, Ty.sub, isI, tyD]
  | tup b => simp [m_is_between, mDef, b_is_between, m_is_integer, b_is_integer, Ty.sub, isI, tyD]
  | lst b => simp [m_is_between, mDef, b_is_between, m_is_integer, b_is_integer, Ty.sub, isI, tyD]
  | rol b => obtain ⟨p, e⟩ := g; simp [toP] at e
  | loc b => obtain ⟨p, e⟩ := g; simp [toP] at e
  | con b => obtain ⟨p, e⟩ := g; simp [toP] at e
theorem is_int_j {d : D} (g : Gd d) (lo hi : Int) : m__law_is_int [d, .int lo, .int hi] h = .ok (.bl (isI lo hi d)) h := by
  cases d with
  | int i =>
    by_cases c : lo ≤ i
    · simp [m__law_is_int, mDef, b__law_is_int, Ty.sub, isI, c]
    · simp [m__law_is_int, mDef, b__law_is_int, Ty.sub, isI, c]
  | non => simp [m__law_is_int, mDef, b__law_is_int, Ty.sub, isI, tyD]
  | bl b => simp [m__law_is_int, mDef, b__law_is_int, Ty.sub, isI, tyD]
  | str b => simp [m__law_is_int, mDef, b__law_is_int, Ty.sub, isI, tyD]
  | tup b => simp [m__law_is_int, mDef, b__law_is_int, Ty.sub, isI, tyD]
  | lst b => simp [m__law_is_int, mDef, b__law_is_int, Ty.sub, isI, tyD]
  | rol b => obtain ⟨p, e⟩ := g; simp [toP] at e
  | loc b => obtain ⟨p, e⟩ := g; simp [toP] at e
  | con b => obtain ⟨p, e⟩ := g; simp [toP] at e
/-- is it a tuple -/
noncomputable def isT : D → Bool
  | .tup _ => true
  | _ => false
theorem ty_j {d : D} (g : Gd d) : ∃ t, tyD h d = some t ∧ t.sub .tup = isT d := by
  cases d with
  | int i => exact ⟨_, rfl, rfl⟩
  | non => exact ⟨_, rfl, rfl⟩
  | bl b => exact ⟨_, rfl, rfl⟩
  | str b => exact ⟨_, rfl, rfl⟩
  | tup b => exact ⟨_, rfl, rfl⟩
  | lst b => exact ⟨_, rfl, rfl⟩
  | rol b => obtain ⟨p, e⟩ := g; simp [toP] at e
  | loc b => obtain ⟨p, e⟩ := g; simp [toP] at e
  | con b => obtain ⟨p, e⟩ := g; simp [toP] at e
theorem mIsi_j {d : D} (g : Gd d) {G : AB.Env} {i : Nat} (hi : G[i]? = some (some d)) : (mIsi .tup (mV i)) G h = .ok (.bl (isT d)) h := by
  obtain ⟨t, e1, e2⟩ := ty_j (h := h) g
  simp only [v_mIsi, v_mV, hi, Res.bind_ok, e1, e2]
theorem isT_tup {d : D} (h : isT d = true) : ∃ ds, d = .tup ds := by
  cases d with
  | tup ds => exact ⟨ds, rfl⟩
  | _ => cases h
/-- ascending -/
noncomputable def ascB (ks : List Int) : Bool := (ks.zip (ks.drop 1)).all fun p => decide (p.1 < p.2)
noncomputable def jW : D → Bool
  | .tup ds => ds.all (isI 0 99) && ascB (ds.map keyI)
  | _ => false
noncomputable def fewD (n : Nat) : D → Prop
  | .tup ds => ds.length ≤ n
  | _ => True
theorem ints_all {ds : List D} (h : ds.all (isI 0 99) = true) : ds = (ds.map keyI).map D.int := by
  rw [List.map_map]
  rw [List.all_eq_true] at h
  conv => lhs; rw [← List.map_id ds]
  exact List.map_congr_left fun d hd => (isI_int (h d hd)).1
theorem are_writes_j {d : D} (g : Gd d) (hl : fewD 1000 d) : m_are_writes [d] h = .ok (.bl (jW d)) h := by
  have t0 := mIsi_j (h := h) g (G := [some d, none, none, none]) (i := 0) rfl
  by_cases c : isT d = true
  · obtain ⟨ds, rfl⟩ := isT_tup c
    have gs := gd_tup g
    have hl : ds.length ≤ 1000 := hl
    have l1 : ds.length ≤ big := by rw [big_eq]; omega
    have h1 : ∀ all0, compGo (.nm 1) tYesM (mN m_is_between (aCons (mV 1) (aCons (mC (.int 0)) (aCons (mC (.int 99)) aNil)))) none all0 [some (.tup ds), none, none, none] (ds.map id) h = .ok (ds.map fun x => .bl (isI 0 99 x)) h :=
      fun all0 => comp_all id _ _ fun x hx => ⟨[some (.tup ds), some x, none, none], rfl, by
        simp only [v_mN, v_aCons, v_aNil, v_mV, v_mC, List.getElem?_cons_succ, List.getElem?_cons_zero, Res.bind_ok, between_j (gs x hx)]⟩
    rw [List.map_id] at h1
    have a1 := v_all (h := h) (isI 0 99) ds
    have w1 : wipeG [some (.tup ds), none, none, none] [1] = [some (.tup ds), none, none, none] := rfl
    cases q : ds.all (isI 0 99) with
    | false =>
      rw [q] at a1
      have eb : b_are_writes [some (.tup ds), none, none, none] h = .ret (.bl false) h := by
        unfold b_are_writes
        simp only [v_sSeq, v_sIf, v_tOr, v_tNot, v_tOf, t0, isT, Res.bind_ok, v_truB, Bool.not_true, Bool.not_false, Bool.false_eq_true, if_false, v_mN, v_aCons, v_aNil, v_mL, v_lComp, v_iSeq, v_mV, List.getElem?_cons_zero, v_vSt, l1, if_true, w1, h1, a1, Res.toS_ok, v_sRet, v_mC, SR.andThen_ret]
      have ej : jW (.tup ds) = false := by
        show (ds.all (isI 0 99) && _) = false
        rw [q]
        rfl
      simp [m_are_writes, mDef, eb, ej]
    | true =>
      rw [q] at a1
      obtain ⟨is, ei⟩ : ∃ is, is = ds.map keyI := ⟨_, rfl⟩
      have ed : ds = is.map D.int := by rw [ei]; exact ints_all q
      have h2 : ∀ all0, compGo (.tp [.nm 2, .nm 3]) tYesM (mOp2 cLt (mV 2) (mV 3)) none all0 [some (.tup ds), none, none, none] (pairsD ds (cutD ds (some 1) none)) h = .ok ((is.zip (is.drop 1)).map fun p => .bl (decide (p.1 < p.2))) h := by
        intro all0
        rw [ed, cut_from1, pairsD_map]
        exact comp_all _ _ _ fun p hp => ⟨[_, none, some (.int p.1), some (.int p.2)], rfl, by
          simp only [v_mOp2, v_mV, List.getElem?_cons_succ, List.getElem?_cons_zero, Res.bind_ok, v_cLt]⟩
      have l2 : (pairsD ds (cutD ds (some 1) none)).length ≤ big := by
        have li : is.length = ds.length := by rw [ei, List.length_map]
        rw [ed, cut_from1, pairsD_map, big_eq]
        simp
        omega
      have a2 := v_all (h := h) (fun p : Int × Int => decide (p.1 < p.2)) (is.zip (is.drop 1))
      have w2 : wipeG [some (.tup ds), none, none, none] [2, 3] = [some (.tup ds), none, none, none] := rfl
      have i2 : (iZip (aCons (mV 0) (aCons (mSl (mV 0) (oSome (mC (.int 1))) oNone) aNil))) [some (.tup ds), none, none, none] h = .ok (pairsD ds (cutD ds (some 1) none), none) h := by
        simp only [v_zip, v_aCons, v_aNil, v_mV, v_mSlT, v_oSome, v_oNone, v_mC, List.getElem?_cons_succ, List.getElem?_cons_zero, Res.bind_ok]
      have ej : jW (.tup ds) = ascB is := by
        show (ds.all (isI 0 99) && ascB (ds.map keyI)) = _
        rw [q, ei]
        rfl
      have eb : b_are_writes [some (.tup ds), none, none, none] h = .ret (.bl (ascB is)) h := by
        unfold b_are_writes
        simp only [v_sSeq, v_sIf, v_tOr, v_tNot, v_tOf, t0, isT, Res.bind_ok, v_truB, Bool.not_true, Bool.not_false, Bool.false_eq_true, if_false, v_mN, v_aCons, v_aNil, v_mL, v_lComp, v_iSeq, v_mV, List.getElem?_cons_zero, v_vSt, l1, if_true, w1, h1, a1, i2, l2, w2, h2, a2, Res.toS_ok, v_sNil, SR.andThen_next, v_sRet, v_mC, SR.andThen_ret]
        rfl
      simp [m_are_writes, mDef, eb, ej]
  · have c : isT d = false := by simpa using c
    rw [c] at t0
    have ej : jW d = false := by
      cases d with
      | tup ds => cases c
      | _ => rfl
    have eb : b_are_writes [some d, none, none, none] h = .ret (.bl false) h := by
      unfold b_are_writes
      simp only [v_sSeq, v_sIf, v_tOr, v_tNot, v_tOf, t0, Res.bind_ok, v_truB, Bool.not_false, if_true, Res.toS_ok, v_sRet, v_mC, SR.andThen_ret]
    simp [m_are_writes, mDef, eb, ej]
end
end My
/-! the judges of any thing: the law's keys; reads -/
namespace My
open PySem AB L2
theorem ascB_cons (a b : Int) (r : List Int) : ascB (a :: b :: r) = (decide (a < b) && ascB (b :: r)) := rfl
theorem ascB_iff : ∀ {is : List Int}, ascB is = true ↔ ∀ i, i + 1 < is.length → is.getD i 0 < is.getD (i + 1) 0
  | [] => ⟨fun _ i h => by simp at h, fun _ => rfl⟩
  | [a] => ⟨fun _ i h => by simp at h, fun _ => rfl⟩
  | a :: b :: r => by
    rw [ascB_cons, Bool.and_eq_true, decide_eq_true_iff, ascB_iff (is := b :: r)]
    constructor
    · rintro ⟨h1, h2⟩ i hi
      cases i with
      | zero => exact h1
      | succ i => exact h2 i (by simp at hi ⊢; omega)
    · intro h
      exact ⟨h 0 (by simp), fun i hi => h (i + 1) (by simp at hi ⊢; omega)⟩
noncomputable def downs (is : List Int) : List Nat := (List.range' 1 (is.length - 1)).filter fun k => decide (is.getD k 0 ≤ is.getD (k - 1) 0)
theorem downs_asc (is : List Int) : decide (((downs is).length : Int) = 0) = ascB is := by
  have key : downs is = [] ↔ ascB is = true := by
    unfold downs
    rw [List.filter_eq_nil_iff, ascB_iff]
    constructor
    · intro h i hi
      have := h (i + 1) (List.mem_range'.mpr ⟨i, by omega, by omega⟩)
      simp only [Nat.add_sub_cancel, decide_eq_true_iff] at this
      omega
    · intro h k hk
      obtain ⟨i, hi, rfl⟩ := List.mem_range'.mp hk
      have := h i (by omega)
      have e1 : 1 + 1 * i = i + 1 := by omega
      rw [e1]
      simp only [Nat.add_sub_cancel, decide_eq_true_iff]
      omega
  cases c : ascB is with
  | true =>
    rw [key.mpr c]
    rfl
  | false =>
    refine decide_eq_false fun z => ?_
    have : downs is = [] := List.eq_nil_of_length_eq_zero (by omega)
    rw [key.mp this] at c
    cases c
theorem none_len {α : Type} (q : α → Bool) (l : List α) (f : α → D) : decide ((0 : Int) < (((l.filter fun x => !q x).map f).length : Int)) = !l.all q := by
  rw [List.length_map]
  cases c : l.all q with
  | true =>
    have : (l.filter fun x => !q x) = [] := by
      rw [List.filter_eq_nil_iff]
      intro x hx
      rw [List.all_eq_true.mp c x hx]
      simp
    rw [this]
    rfl
  | false =>
    rw [List.all_eq_false] at c
    obtain ⟨x, hx, hq⟩ := c
    have : x ∈ l.filter fun x => !q x := List.mem_filter.mpr ⟨hx, by simpa using hq⟩
    have := List.length_pos_of_mem this
    exact decide_eq_true (by omega)
section
variable {h : AH}
theorem ix_D {ds : List D} {i : Nat} (hi : i < ds.length) : fIx (.tup ds) (.int (i : Int)) h = .ok (ds.getD i .non) h := by
  have : atI ds (i : Int) = some (ds.getD i .non) := atI_nat (by omega) (by
    rw [Int.toNat_natCast, List.getElem?_eq_getElem hi, List.getD_eq_getElem?_getD, List.getElem?_eq_getElem hi]
    rfl)
  rw [v_ix]
  simp only [v_vSt, this]
theorem ix_ints {is : List Int} {i : Nat} (hi : i < is.length) : fIx (.tup (is.map D.int)) (.int (i : Int)) h = .ok (.int (is.getD i 0)) h := by
  rw [ix_D (by rw [List.length_map]; exact hi)]
  simp [List.getD_eq_getElem?_getD, List.getElem?_eq_getElem hi]
/-- a walk over range(1, n) -/
theorem range_one {G : AB.Env} {m : Me} {n : Nat} (hn : n ≤ 2000) (e : m G h = .ok (.int (n : Int)) h) : (iRange2 (aCons (mC (.int 1)) (aCons m aNil))) G h = .ok ((List.range' 1 (n - 1)).map fun k : Nat => D.int (k : Int), none) h := by
  have c : okR2 1 (n : Int) := by unfold okR2; omega
  rw [v_range2]
  simp only [v_aCons, v_aNil, v_mC, e, Res.bind_ok, c, if_true]
  have e1 : ((n : Int) - 1).toNat = n - 1 := by omega
  rw [e1, show (1 : Int) = ((1 : Nat) : Int) from rfl, rangeD_from]
theorem is_keys_j {d : D} (g : Gd d) (hl : fewD 1000 d) : m__law_is_keys [d] h = .ok (.bl (jW d)) h := by
  have t0 := mIsi_j (h := h) g (G := [some d, none, none]) (i := 0) rfl
  by_cases c : isT d = true
  · obtain ⟨ds, rfl⟩ := isT_tup c
    have gs := gd_tup g
    have hl : ds.length ≤ 1000 := hl
    have l1 : ds.length ≤ big := by rw [big_eq]; omega
    have h1 : ∀ all0, compGo (.nm 1) (tNotM (tOf (mN m__law_is_int (aCons (mV 1) (aCons (mC (.int 0)) (aCons (mC (.int 99)) aNil)))))) (mV 1) none all0 [some (.tup ds), none, none] (ds.map id) h = .ok ((ds.filter fun x => !isI 0 99 x).map id) h :=
      fun all0 => comp_ok id (fun x => !isI 0 99 x) id _ fun x hx => ⟨[some (.tup ds), some x, none], rfl, by
        simp only [v_tNot, v_tOf, v_mN, v_aCons, v_aNil, v_mV, v_mC, List.getElem?_cons_succ, List.getElem?_cons_zero, Res.bind_ok, is_int_j (gs x hx), v_truB], fun _ => rfl⟩
    rw [List.map_id] at h1
    have a1 := none_len (isI 0 99) ds id
    have f1 : fLen [.lst ((ds.filter fun x => !isI 0 99 x).map id)] h = .ok (.int (((ds.filter fun x => !isI 0 99 x).map id).length : Int)) h := by simp
    have w1 : wipeG [some (.tup ds), none, none] [1] = [some (.tup ds), none, none] := rfl
    cases q : ds.all (isI 0 99) with
    | false =>
      rw [q] at a1
      have eb : b__law_is_keys [some (.tup ds), none, none] h = .ret (.bl false) h := by
        unfold b__law_is_keys
        simp only [v_sSeq, v_sIf, v_tOr, v_tNot, v_tOf, t0, isT, Res.bind_ok, v_truB, Bool.not_true, Bool.not_false, Bool.false_eq_true, if_false, v_tBl, v_mOp2, v_mN, v_aCons, v_aNil, v_mL, v_lComp, v_iSeq, v_mV, List.getElem?_cons_zero, v_vSt, l1, if_true, w1, h1, f1, v_mC, v_cGt, a1, Res.toS_ok, v_sRet, SR.andThen_ret]
      have ej : jW (.tup ds) = false := by
        show (ds.all (isI 0 99) && _) = false
        rw [q]
        rfl
      simp [m__law_is_keys, mDef, eb, ej]
    | true =>
      rw [q] at a1
      obtain ⟨is, ei⟩ : ∃ is, is = ds.map keyI := ⟨_, rfl⟩
      have ed : ds = is.map D.int := by rw [ei]; exact ints_all q
      have li : is.length = ds.length := by rw [ei, List.length_map]
      have h2 : ∀ all0, compGo (.nm 2) (tBl (mOp2 cGe (mOp2 fIx (mV 0) (mOp2 fSub (mV 2) (mC (.int 1)))) (mOp2 fIx (mV 0) (mV 2)))) (mV 2) none all0 [some (.tup ds), none, none] ((List.range' 1 (is.length - 1)).map fun k : Nat => D.int (k : Int)) h = .ok ((downs is).map fun k : Nat => D.int (k : Int)) h := by
        intro all0
        refine comp_ok (fun k : Nat => D.int (k : Int)) (fun k => decide (is.getD k 0 ≤ is.getD (k - 1) 0)) _ _ fun k hk => ?_
        obtain ⟨i, hi, rfl⟩ := List.mem_range'.mp hk
        have e1 : (1 + 1 * i) = i + 1 := by omega
        rw [e1]
        have e2 : ((i + 1 : Nat) : Int) - 1 = (i : Int) := by omega
        refine ⟨[some (.tup ds), none, some (.int ((i + 1 : Nat) : Int))], rfl, ?_, fun _ => rfl⟩
        simp only [v_tBl, v_mOp2, v_mV, v_mC, List.getElem?_cons_succ, List.getElem?_cons_zero, Res.bind_ok, v_sub, e2]
        have x1 := ix_ints (h := h) (is := is) (i := i) (by omega)
        have x2 := ix_ints (h := h) (is := is) (i := i + 1) (by omega)
        rw [ed]
        simp only [x1, Res.bind_ok, x2, v_cGe, Nat.add_sub_cancel]
      have w2 : wipeG [some (.tup ds), none, none] [2] = [some (.tup ds), none, none] := rfl
      have f2 : fLen [.tup ds] h = .ok (.int (is.length : Int)) h := by rw [li]; simp
      have i2 := range_one (h := h) (G := [some (.tup ds), none, none]) (m := mN fLen (aCons (mV 0) aNil)) (n := is.length) (by omega) (by simp only [v_mN, v_aCons, v_aNil, v_mV, List.getElem?_cons_zero, Res.bind_ok, f2])
      have l2 : ((List.range' 1 (is.length - 1)).map fun k : Nat => D.int (k : Int)).length ≤ big := by rw [List.length_map, List.length_range', big_eq]; omega
      have f3 : fLen [.lst ((downs is).map fun k : Nat => D.int (k : Int))] h = .ok (.int ((downs is).length : Int)) h := by simp
      have ej : jW (.tup ds) = ascB is := by
        show (ds.all (isI 0 99) && ascB (ds.map keyI)) = _
        rw [q, ei]
        rfl
      have eb : b__law_is_keys [some (.tup ds), none, none] h = .ret (.bl (ascB is)) h := by
        unfold b__law_is_keys
        simp only [v_sSeq, v_sIf, v_tOr, v_tNot, v_tOf, t0, isT, Res.bind_ok, v_truB, Bool.not_true, Bool.not_false, Bool.false_eq_true, if_false, v_tBl, v_mOp2, v_mN, v_aCons, v_aNil, v_mL, v_lComp, v_iSeq, v_mV, List.getElem?_cons_zero, v_vSt, l1, if_true, w1, h1, f1, v_mC, v_cGt, a1, Res.toS_ok, v_sNil, SR.andThen_next, v_sRet, i2, l2, w2, h2, f3, v_eq, downs_asc, SR.andThen_ret]
      simp [m__law_is_keys, mDef, eb, ej]
  · have c : isT d = false := by simpa using c
    rw [c] at t0
    have ej : jW d = false := by
      cases d with
      | tup ds => cases c
      | _ => rfl
    have eb : b__law_is_keys [some d, none, none] h = .ret (.bl false) h := by
      unfold b__law_is_keys
      simp only [v_sSeq, v_sIf, v_tOr, v_tNot, v_tOf, t0, Res.bind_ok, v_truB, Bool.not_false, if_true, Res.toS_ok, v_sRet, v_mC, SR.andThen_ret]
    simp [m__law_is_keys, mDef, eb, ej]
/-! reads -/
noncomputable def jD : D → Bool
  | .tup [_, w] => jW w
  | _ => false
noncomputable def wK : D → List Int
  | .tup [_, .tup ws] => ws.map keyI
  | _ => []
noncomputable def jR (Hs : List D) : D → Bool
  | .tup [a, b] => isI 0 99 a && (isI (-1) ((Hs.length : Int) - 1) b && (decide (keyI b = -1) || decide (keyI a ∈ wK (Hs.getD (keyI b).toNat .non))))
  | _ => false
theorem jD_inv {x : D} (hx : jD x = true) : ∃ r is, x = .tup [r, .tup (is.map D.int)] ∧ wK x = is := by
  unfold jD at hx
  split at hx
  · rename_i r w
    unfold jW at hx
    split at hx
    · rename_i ds
      obtain ⟨h1, _⟩ := Bool.and_eq_true_iff.mp hx
      exact ⟨r, ds.map keyI, by rw [← ints_all h1], rfl⟩
    · cases hx
  · cases hx
theorem read_in {Hs : List D} (hH : Hs.all jD = true) {b : Nat} (hb : b < Hs.length) (a : Int) : ∃ w, fIx (Hs.getD b .non) (.int 1) h = .ok w h ∧ fIn (.int a) w h = .ok (.bl (decide (a ∈ wK (Hs.getD b .non)))) h ∧ fNotIn (.int a) w h = .ok (.bl (!decide (a ∈ wK (Hs.getD b .non)))) h := by
  have hm : Hs.getD b .non ∈ Hs := by
    rw [List.getD_eq_getElem?_getD, List.getElem?_eq_getElem hb]
    exact List.getElem_mem hb
  obtain ⟨r, is, e1, e2⟩ := jD_inv (List.all_eq_true.mp hH _ hm)
  refine ⟨.tup (is.map D.int), ?_, ?_, ?_⟩
  · rw [e1]
    exact ix_D (ds := [r, .tup (is.map D.int)]) (i := 1) (by simp)
  · rw [e2]
    exact v_inT a is
  · rw [e2]
    have z := v_inT (h := h) a is
    unfold fIn at z
    unfold fNotIn
    cases q : inD h (.int a) (.tup (is.map D.int)) with
    | none => rw [q] at z; cases z
    | some c =>
      rw [q] at z
      have z : Res.ok (D.bl c) h = .ok (.bl (decide (a ∈ is))) h := z
      injection z with z
      injection z with z
      rw [z]
end
end My
/-! the judges of any thing: reads -/
namespace My
open PySem AB L2
section
variable {h : AH} {Hs : List D}
theorem is_read_j (hH : Hs.all jD = true) (hl : Hs.length ≤ 1000) {d : D} (g : Gd d) : m_is_read [d, .tup Hs] h = .ok (.bl (jR Hs d)) h := by
  have t0 := mIsi_j (h := h) g (G := [some d, some (.tup Hs)]) (i := 0) rfl
  have fin : ∀ b : Bool, b_is_read [some d, some (.tup Hs)] h = .ret (.bl b) h → m_is_read [d, .tup Hs] h = .ok (.bl b) h := fun b e => by simp [m_is_read, mDef, e]
  apply fin
  by_cases c : isT d = true
  · obtain ⟨ds, rfl⟩ := isT_tup c
    have gs := gd_tup g
    have len2 : ∀ n : Int, decide (n = 2) = false → fLen [.tup ds] h = .ok (.int n) h → b_is_read [some (.tup ds), some (.tup Hs)] h = .ret (.bl false) h := fun n c1 c2 => by
      unfold b_is_read
      simp only [v_sSeq, v_sIf, v_tOr, v_tNot, v_tOf, t0, isT, Res.bind_ok, v_truB, Bool.not_true, Bool.false_eq_true, if_false, v_tBl, v_mOp2, v_mN, v_aCons, v_aNil, v_mV, List.getElem?_cons_zero, c2, v_mC, v_ne, c1, Bool.not_false, if_true, Res.toS_ok, v_sRet, SR.andThen_ret]
    match ds, gs, len2, t0 with
    | [], gs, len2, t0 => exact len2 0 (by decide) (by simp)
    | [x], gs, len2, t0 => exact len2 1 (by decide) (by simp)
    | x :: y :: z :: r, gs, len2, t0 => exact len2 ((r.length : Int) + 3) (decide_eq_false (by omega)) (by simp; omega)
    | [a, b], gs, len2, t0 =>
      have ga := gs a List.mem_cons_self
      have gb := gs b (List.mem_cons_of_mem _ List.mem_cons_self)
      have x0 : fIx (.tup [a, b]) (.int 0) h = .ok a h := ix_D (ds := [a, b]) (i := 0) (by simp)
      have x1 : fIx (.tup [a, b]) (.int 1) h = .ok b h := ix_D (ds := [a, b]) (i := 1) (by simp)
      have c2 : fLen [.tup [a, b]] h = .ok (.int 2) h := by simp
      have l2 : fLen [.tup Hs] h = .ok (.int (Hs.length : Int)) h := by simp
      have ba := between_j (h := h) ga 0 99
      have bb := between_j (h := h) gb (-1) ((Hs.length : Int) - 1)
      have e22 : decide ((2 : Int) = 2) = true := by decide
      cases qa : isI 0 99 a with
      | false =>
        rw [qa] at ba
        have ej : jR Hs (.tup [a, b]) = false := by
          show (isI 0 99 a && _) = false
          rw [qa]
          rfl
        rw [ej]
        unfold b_is_read
        simp only [v_sSeq, v_sIf, v_tOr, v_tNot, v_tOf, t0, isT, Res.bind_ok, v_truB, Bool.not_true, Bool.false_eq_true, if_false, v_tBl, v_mOp2, v_mN, v_aCons, v_aNil, v_mV, List.getElem?_cons_zero, c2, v_mC, v_ne, e22, decide_true, x0, ba, Bool.not_false, if_true, Res.toS_ok, v_sRet, SR.andThen_ret]
      | true =>
        rw [qa] at ba
        obtain ⟨ea, _, _⟩ := isI_int qa
        cases qb : isI (-1) ((Hs.length : Int) - 1) b with
        | false =>
          rw [qb] at bb
          have ej : jR Hs (.tup [a, b]) = false := by
            show (isI 0 99 a && (isI (-1) ((Hs.length : Int) - 1) b && _)) = false
            rw [qb]
            simp
          rw [ej]
          unfold b_is_read
          simp only [v_sSeq, v_sIf, v_tOr, v_tNot, v_tOf, t0, isT, Res.bind_ok, v_truB, Bool.not_true, Bool.false_eq_true, if_false, v_tBl, v_mOp2, v_mOp1, v_mN, v_aCons, v_aNil, v_mV, List.getElem?_cons_zero, List.getElem?_cons_succ, c2, l2, v_mC, v_ne, e22, decide_true, x0, x1, ba, v_neg, v_sub, bb, Bool.not_false, if_true, Res.toS_ok, v_sNil, SR.andThen_next, v_sRet, SR.andThen_ret]
        | true =>
          rw [qb] at bb
          obtain ⟨eb, hb1, hb2⟩ := isI_int qb
          have ej : jR Hs (.tup [a, b]) = (decide (keyI b = -1) || decide (keyI a ∈ wK (Hs.getD (keyI b).toNat .non))) := by
            show (isI 0 99 a && (isI (-1) ((Hs.length : Int) - 1) b && _)) = _
            rw [qa, qb]
            rfl
          rw [ej]
          by_cases cb : keyI b = -1
          · rw [decide_eq_true cb, Bool.true_or]
            have eb : b = .int (-1) := by rw [eb, cb]
            subst eb
            unfold b_is_read
            simp only [v_sSeq, v_sIf, v_tOr, v_tNot, v_tOf, t0, isT, Res.bind_ok, v_truB, Bool.not_true, Bool.false_eq_true, if_false, v_tBl, v_mOp2, v_mOp1, v_mN, v_aCons, v_aNil, v_mV, List.getElem?_cons_zero, List.getElem?_cons_succ, c2, l2, v_mC, v_ne, e22, decide_true, x0, x1, ba, v_neg, v_sub, bb, Res.toS_ok, v_sNil, SR.andThen_next, v_sRet, v_mOr, v_eq, decide_true, SR.andThen_ret]
          · rw [decide_eq_false cb, Bool.false_or]
            obtain ⟨j, ej⟩ : ∃ j : Nat, keyI b = (j : Int) := ⟨(keyI b).toNat, by omega⟩
            rw [ej] at eb cb hb2 ⊢
            rw [Int.toNat_natCast]
            subst eb
            have hj : j < Hs.length := by omega
            have xj := ix_D (h := h) hj
            obtain ⟨w, w1, w2, _⟩ := read_in (h := h) hH hj (keyI a)
            rw [← ea] at w2
            have e1 : decide ((j : Int) = -1) = false := decide_eq_false cb
            unfold b_is_read
            simp only [v_sSeq, v_sIf, v_tOr, v_tNot, v_tOf, t0, isT, Res.bind_ok, v_truB, Bool.not_true, Bool.false_eq_true, if_false, v_tBl, v_mOp2, v_mOp1, v_mN, v_aCons, v_aNil, v_mV, List.getElem?_cons_zero, List.getElem?_cons_succ, c2, l2, v_mC, v_ne, e22, decide_true, x0, x1, ba, v_neg, v_sub, bb, Res.toS_ok, v_sNil, SR.andThen_next, v_sRet, v_mOr, v_eq, e1, xj, w1, w2, SR.andThen_ret]
  · have c : isT d = false := by simpa using c
    rw [c] at t0
    have ej : jR Hs d = false := by
      cases d with
      | tup ds => cases c
      | _ => rfl
    rw [ej]
    unfold b_is_read
    simp only [v_sSeq, v_sIf, v_tOr, v_tNot, v_tOf, t0, Res.bind_ok, v_truB, Bool.not_false, if_true, Res.toS_ok, v_sRet, v_mC, SR.andThen_ret]
noncomputable def fstI : D → Int
  | .tup (a :: _) => keyI a
  | _ => 0
noncomputable def sndI : D → Int
  | .tup [_, b] => keyI b
  | _ => 0
noncomputable def rP (r : Int × Int) : D := .tup [.int r.1, .int r.2]
theorem jR_inv {d : D} (q : jR Hs d = true) : d = rP (fstI d, sndI d) ∧ -1 ≤ sndI d ∧ sndI d ≤ (Hs.length : Int) - 1 := by
  unfold jR at q
  split at q
  · rename_i a b
    obtain ⟨h1, h2⟩ := Bool.and_eq_true_iff.mp q
    obtain ⟨h2, _⟩ := Bool.and_eq_true_iff.mp h2
    obtain ⟨e1, _, _⟩ := isI_int h1
    obtain ⟨e2, h3, h4⟩ := isI_int h2
    refine ⟨?_, h3, h4⟩
    show D.tup [a, b] = .tup [.int (keyI a), .int (keyI b)]
    rw [← e1, ← e2]
  · cases q
theorem reads_all {ds : List D} (q : ds.all (jR Hs) = true) : ds = (ds.map fun d => (fstI d, sndI d)).map rP := by
  rw [List.map_map]
  rw [List.all_eq_true] at q
  conv => lhs; rw [← List.map_id ds]
  exact List.map_congr_left fun d hd => (jR_inv (q d hd)).1
noncomputable def jRs (Hs : List D) (i : Nat) : D → Bool
  | .tup ps => ps.all (jR Hs) && (ps.all (fun q => !decide (sndI q = (i : Int))) && ascB (ps.map fstI))
  | _ => false
theorem asc_pairs (rs : List (Int × Int)) : ((rs.zip (rs.drop 1)).all fun p => decide (p.1.1 < p.2.1)) = ascB (rs.map (·.1)) := by
  unfold ascB
  have : ((rs.map (·.1)).zip ((rs.map (·.1)).drop 1)) = (rs.zip (rs.drop 1)).map fun p => (p.1.1, p.2.1) := by
    rw [← List.map_drop, List.zip_map]
    rfl
  rw [this, List.all_map]
  rfl
theorem are_reads_j (hH : Hs.all jD = true) (hl : Hs.length ≤ 1000) {d : D} (g : Gd d) (hd : fewD 1000 d) (i : Nat) : m_are_reads [d, .int (i : Int), .tup Hs] h = .ok (.bl (jRs Hs i d)) h := by
  have t0 := mIsi_j (h := h) g (G := [some d, some (.int (i : Int)), some (.tup Hs), none, none, none]) (i := 0) rfl
  have fin : ∀ b : Bool, b_are_reads [some d, some (.int (i : Int)), some (.tup Hs), none, none, none] h = .ret (.bl b) h → m_are_reads [d, .int (i : Int), .tup Hs] h = .ok (.bl b) h := fun b e => by simp [m_are_reads, mDef, e]
  apply fin
  by_cases c : isT d = true
  · obtain ⟨ds, rfl⟩ := isT_tup c
    have gs := gd_tup g
    have hd : ds.length ≤ 1000 := hd
    have l1 : ds.length ≤ big := by rw [big_eq]; omega
    have h1 : ∀ all0, compGo (.nm 3) tYesM (mN m_is_read (aCons (mV 3) (aCons (mV 2) aNil))) none all0 [some (.tup ds), some (.int (i : Int)), some (.tup Hs), none, none, none] (ds.map id) h = .ok (ds.map fun x => .bl (jR Hs x)) h :=
      fun all0 => comp_all id _ _ fun x hx => ⟨[some (.tup ds), some (.int (i : Int)), some (.tup Hs), some x, none, none], rfl, by
        simp only [v_mN, v_aCons, v_aNil, v_mV, List.getElem?_cons_succ, List.getElem?_cons_zero, Res.bind_ok, is_read_j hH hl (gs x hx)]⟩
    rw [List.map_id] at h1
    have a1 := v_all (h := h) (jR Hs) ds
    have w1 : wipeG [some (.tup ds), some (.int (i : Int)), some (.tup Hs), none, none, none] [3] = [some (.tup ds), some (.int (i : Int)), some (.tup Hs), none, none, none] := rfl
    cases q : ds.all (jR Hs) with
    | false =>
      rw [q] at a1
      have ej : jRs Hs i (.tup ds) = false := by
        show (ds.all (jR Hs) && _) = false
        rw [q]
        rfl
      rw [ej]
      unfold b_are_reads
      simp only [v_sSeq, v_sIf, v_tOr, v_tNot, v_tOf, t0, isT, Res.bind_ok, v_truB, Bool.not_true, Bool.not_false, Bool.false_eq_true, if_false, v_mN, v_aCons, v_aNil, v_mL, v_lComp, v_iSeq, v_mV, List.getElem?_cons_zero, v_vSt, l1, if_true, w1, h1, a1, Res.toS_ok, v_sRet, v_mC, SR.andThen_ret]
    | true =>
      rw [q] at a1
      have h2 : ∀ all0, compGo (.nm 3) tYesM (mOp2 fEq (mOp2 fIx (mV 3) (mC (.int 1))) (mV 1)) none all0 [some (.tup ds), some (.int (i : Int)), some (.tup Hs), none, none, none] (ds.map id) h = .ok (ds.map fun x => .bl (decide (sndI x = (i : Int)))) h :=
        fun all0 => comp_all id _ _ fun x hx => ⟨[some (.tup ds), some (.int (i : Int)), some (.tup Hs), some x, none, none], rfl, by
          obtain ⟨ex, _, _⟩ := jR_inv (List.all_eq_true.mp q x hx)
          have x1 : fIx x (.int 1) h = .ok (.int (sndI x)) h := by
            rw [ex]
            exact ix_D (ds := [.int (fstI x), .int (sndI x)]) (i := 1) (by simp)
          simp only [v_mOp2, v_mV, v_mC, List.getElem?_cons_succ, List.getElem?_cons_zero, Res.bind_ok, x1, v_eq]⟩
      rw [List.map_id] at h2
      have a2 := v_any (h := h) (fun x => decide (sndI x = (i : Int))) ds
      have eany : (ds.any fun x => decide (sndI x = (i : Int))) = !(ds.all fun x => !decide (sndI x = (i : Int))) := by
        rw [List.not_all_eq_any_not]
        simp
      rw [eany] at a2
      cases q2 : ds.all (fun x => !decide (sndI x = (i : Int))) with
      | false =>
        rw [q2] at a2
        have ej : jRs Hs i (.tup ds) = false := by
          show (ds.all (jR Hs) && (ds.all (fun q => !decide (sndI q = (i : Int))) && _)) = false
          rw [q2]
          simp
        rw [ej]
        unfold b_are_reads
        simp only [v_sSeq, v_sIf, v_tOr, v_tNot, v_tOf, t0, isT, Res.bind_ok, v_truB, Bool.not_true, Bool.not_false, Bool.false_eq_true, if_false, v_mN, v_aCons, v_aNil, v_mL, v_lComp, v_iSeq, v_mV, List.getElem?_cons_zero, v_vSt, l1, if_true, w1, h1, a1, h2, a2, Res.toS_ok, v_sNil, SR.andThen_next, v_sRet, v_mC, SR.andThen_ret]
      | true =>
        rw [q2] at a2
        obtain ⟨rs, er⟩ : ∃ rs, rs = ds.map fun d => (fstI d, sndI d) := ⟨_, rfl⟩
        have ed : ds = rs.map rP := by rw [er]; exact reads_all q
        have lr : rs.length = ds.length := by rw [er, List.length_map]
        have h3 : ∀ all0, compGo (.tp [.nm 4, .nm 5]) tYesM (mOp2 cLt (mOp2 fIx (mV 4) (mC (.int 0))) (mOp2 fIx (mV 5) (mC (.int 0)))) none all0 [some (.tup ds), some (.int (i : Int)), some (.tup Hs), none, none, none] (pairsD ds (cutD ds (some 1) none)) h = .ok ((rs.zip (rs.drop 1)).map fun p => .bl (decide (p.1.1 < p.2.1))) h := by
          intro all0
          rw [ed, cut_from1, pairsD_map]
          refine comp_all _ _ _ fun p hp => ⟨[_, _, _, none, some (rP p.1), some (rP p.2)], rfl, ?_⟩
          have x1 : ∀ r : Int × Int, fIx (rP r) (.int 0) h = .ok (.int r.1) h := fun r => ix_D (ds := [.int r.1, .int r.2]) (i := 0) (by simp)
          simp only [v_mOp2, v_mV, v_mC, List.getElem?_cons_succ, List.getElem?_cons_zero, Res.bind_ok, x1, v_cLt]
        have l2 : (pairsD ds (cutD ds (some 1) none)).length ≤ big := by
          rw [ed, cut_from1, pairsD_map, big_eq]
          simp
          omega
        have a3 := v_all (h := h) (fun p : (Int × Int) × (Int × Int) => decide (p.1.1 < p.2.1)) (rs.zip (rs.drop 1))
        rw [asc_pairs] at a3
        have w2 : wipeG [some (.tup ds), some (.int (i : Int)), some (.tup Hs), none, none, none] [4, 5] = [some (.tup ds), some (.int (i : Int)), some (.tup Hs), none, none, none] := rfl
        have i2 : (iZip (aCons (mV 0) (aCons (mSl (mV 0) (oSome (mC (.int 1))) oNone) aNil))) [some (.tup ds), some (.int (i : Int)), some (.tup Hs), none, none, none] h = .ok (pairsD ds (cutD ds (some 1) none), none) h := by
          simp only [v_zip, v_aCons, v_aNil, v_mV, v_mSlT, v_oSome, v_oNone, v_mC, List.getElem?_cons_succ, List.getElem?_cons_zero, Res.bind_ok]
        have ej : jRs Hs i (.tup ds) = ascB (rs.map (·.1)) := by
          show (ds.all (jR Hs) && (ds.all (fun q => !decide (sndI q = (i : Int))) && ascB (ds.map fstI))) = _
          rw [q, q2, er, List.map_map]
          rfl
        rw [ej]
        unfold b_are_reads
        simp only [v_sSeq, v_sIf, v_tOr, v_tNot, v_tOf, t0, isT, Res.bind_ok, v_truB, Bool.not_true, Bool.not_false, Bool.false_eq_true, if_false, v_mN, v_aCons, v_aNil, v_mL, v_lComp, v_iSeq, v_mV, List.getElem?_cons_zero, v_vSt, l1, if_true, w1, h1, a1, h2, a2, i2, l2, w2, h3, a3, Res.toS_ok, v_sNil, SR.andThen_next, v_sRet, v_mC, SR.andThen_ret]
  · have c : isT d = false := by simpa using c
    rw [c] at t0
    have ej : jRs Hs i d = false := by
      cases d with
      | tup ds => cases c
      | _ => rfl
    rw [ej]
    unfold b_are_reads
    simp only [v_sSeq, v_sIf, v_tOr, v_tNot, v_tOf, t0, Res.bind_ok, v_truB, Bool.not_false, if_true, Res.toS_ok, v_sRet, v_mC, SR.andThen_ret]
end
end My
/-! the judges of any thing: the law's reads -/
namespace My
open PySem AB L2
theorem nb_t {b : Bool} (h : (!b) = true) : b = false := by cases b with | false => rfl | true => cases h
theorem nb_f {b : Bool} (h : (!b) = false) : b = true := by cases b with | true => rfl | false => cases h
theorem nb_n {b : Bool} (h : ¬ b = true) : (!b) = true := by cases b with | false => rfl | true => exact absurd rfl h
section
variable {h : AH} {Hs : List D}
noncomputable def lrB : Ms := (sSeq (sIf (tOrM (tNotM (tOf (mIsi .tup (mV 3)))) (tOrM (tBl (mOp2 fNe (mN fLen (aCons (mV 3) aNil)) (mC (.int 2)))) (tNotM (tOf (mN m__law_is_int (aCons (mOp2 fIx (mV 3) (mC (.int 0))) (aCons (mC (.int 0)) (aCons (mC (.int 99)) aNil)))))))) (sSeq (sRet (mC (.bl false))) sNil) sNil) (sSeq (sIf (tOrM (tNotM (tOf (mN m__law_is_int (aCons (mOp2 fIx (mV 3) (mC (.int 1))) (aCons (mOp1 fNeg (mC (.int 1))) (aCons (mOp2 fSub (mN fLen (aCons (mV 0) aNil)) (mC (.int 1))) aNil)))))) (tBl (mOp2 fEq (mOp2 fIx (mV 3) (mC (.int 1))) (mV 1)))) (sSeq (sRet (mC (.bl false))) sNil) sNil) (sSeq (sIf (tAndM (tBl (mOp2 cGe (mOp2 fIx (mV 3) (mC (.int 1))) (mC (.int 0)))) (tBl (mOp2 fNotIn (mOp2 fIx (mV 3) (mC (.int 0))) (mOp2 fIx (mOp2 fIx (mV 0) (mOp2 fIx (mV 3) (mC (.int 1)))) (mC (.int 1)))))) (sSeq (sRet (mC (.bl false))) sNil) sNil) sNil)))
theorem lrB_ok (hH : Hs.all jD = true) (hl : Hs.length ≤ 1000) {d t : D} (g : Gd d) (i : Nat) :
    lrB [some (.tup Hs), some (.int (i : Int)), some t, some d, none] h = if (jR Hs d && !decide (sndI d = (i : Int))) = true then .next [some (.tup Hs), some (.int (i : Int)), some t, some d, none] h else .ret (.bl false) h := by
  have t0 := mIsi_j (h := h) g (G := [some (.tup Hs), some (.int (i : Int)), some t, some d, none]) (i := 3) rfl
  have no : jR Hs d = false → (if (jR Hs d && !decide (sndI d = (i : Int))) = true then SR.next [some (.tup Hs), some (.int (i : Int)), some t, some d, none] h else .ret (.bl false) h) = .ret (.bl false) h := fun e => by rw [e]; rfl
  by_cases c : isT d = true
  · obtain ⟨ds, rfl⟩ := isT_tup c
    have gs := gd_tup g
    have len2 : ∀ n : Int, decide (n = 2) = false → fLen [.tup ds] h = .ok (.int n) h → lrB [some (.tup Hs), some (.int (i : Int)), some t, some (.tup ds), none] h = .ret (.bl false) h := fun n c1 c2 => by
      unfold lrB
      simp only [v_sSeq, v_sIf, v_tOr, v_tNot, v_tOf, t0, isT, Res.bind_ok, v_truB, Bool.not_true, Bool.false_eq_true, if_false, v_tBl, v_mOp2, v_mN, v_aCons, v_aNil, v_mV, List.getElem?_cons_succ, List.getElem?_cons_zero, c2, v_mC, v_ne, c1, Bool.not_false, if_true, Res.toS_ok, v_sRet, SR.andThen_ret]
    match ds, gs, len2, t0, no with
    | [], gs, len2, t0, no => rw [no rfl]; exact len2 0 (by decide) (by simp)
    | [x], gs, len2, t0, no => rw [no rfl]; exact len2 1 (by decide) (by simp)
    | x :: y :: z :: r, gs, len2, t0, no => rw [no rfl]; exact len2 ((r.length : Int) + 3) (decide_eq_false (by omega)) (by simp; omega)
    | [a, b], gs, len2, t0, no =>
      have ga := gs a List.mem_cons_self
      have gb := gs b (List.mem_cons_of_mem _ List.mem_cons_self)
      have x0 : fIx (.tup [a, b]) (.int 0) h = .ok a h := ix_D (ds := [a, b]) (i := 0) (by simp)
      have x1 : fIx (.tup [a, b]) (.int 1) h = .ok b h := ix_D (ds := [a, b]) (i := 1) (by simp)
      have c2 : fLen [.tup [a, b]] h = .ok (.int 2) h := by simp
      have l2 : fLen [.tup Hs] h = .ok (.int (Hs.length : Int)) h := by simp
      have ba := is_int_j (h := h) ga 0 99
      have bb := is_int_j (h := h) gb (-1) ((Hs.length : Int) - 1)
      cases qa : isI 0 99 a with
      | false =>
        rw [qa] at ba
        rw [no (by show (isI 0 99 a && _) = false; rw [qa]; rfl)]
        unfold lrB
        simp only [v_sSeq, v_sIf, v_tOr, v_tNot, v_tOf, t0, isT, Res.bind_ok, v_truB, Bool.not_true, Bool.false_eq_true, if_false, v_tBl, v_mOp2, v_mN, v_aCons, v_aNil, v_mV, List.getElem?_cons_succ, List.getElem?_cons_zero, c2, v_mC, v_ne, decide_true, x0, ba, Bool.not_false, if_true, Res.toS_ok, v_sRet, SR.andThen_ret]
      | true =>
        rw [qa] at ba
        obtain ⟨ea, _, _⟩ := isI_int qa
        cases qb : isI (-1) ((Hs.length : Int) - 1) b with
        | false =>
          rw [qb] at bb
          rw [no (by show (isI 0 99 a && (isI (-1) ((Hs.length : Int) - 1) b && _)) = false; rw [qb]; simp)]
          unfold lrB
          simp only [v_sSeq, v_sIf, v_tOr, v_tNot, v_tOf, t0, isT, Res.bind_ok, v_truB, Bool.not_true, Bool.false_eq_true, if_false, v_tBl, v_mOp2, v_mOp1, v_mN, v_aCons, v_aNil, v_mV, List.getElem?_cons_zero, List.getElem?_cons_succ, c2, l2, v_mC, v_ne, decide_true, x0, x1, ba, v_neg, v_sub, bb, Bool.not_false, if_true, Res.toS_ok, v_sNil, SR.andThen_next, v_sRet, SR.andThen_ret]
        | true =>
          rw [qb] at bb
          obtain ⟨eb, hb1, hb2⟩ := isI_int qb
          have es : sndI (.tup [a, b]) = keyI b := rfl
          have ej : jR Hs (.tup [a, b]) = (decide (keyI b = -1) || decide (keyI a ∈ wK (Hs.getD (keyI b).toNat .non))) := by
            show (isI 0 99 a && (isI (-1) ((Hs.length : Int) - 1) b && _)) = _
            rw [qa, qb]
            rfl
          rw [ej, es]
          have q2 : fEq b (.int (i : Int)) h = .ok (.bl (decide (keyI b = (i : Int)))) h := by
            rw [eb]
            exact v_eq
          by_cases ci : keyI b = (i : Int)
          · rw [decide_eq_true ci, Bool.not_true, Bool.and_false, if_neg (by decide)]
            rw [decide_eq_true ci] at q2
            unfold lrB
            simp only [v_sSeq, v_sIf, v_tOr, v_tNot, v_tOf, t0, isT, Res.bind_ok, v_truB, Bool.not_true, Bool.false_eq_true, if_false, v_tBl, v_mOp2, v_mOp1, v_mN, v_aCons, v_aNil, v_mV, List.getElem?_cons_zero, List.getElem?_cons_succ, c2, l2, v_mC, v_ne, decide_true, x0, x1, ba, v_neg, v_sub, bb, q2, if_true, Res.toS_ok, v_sNil, SR.andThen_next, v_sRet, SR.andThen_ret]
          · rw [decide_eq_false ci, Bool.not_false, Bool.and_true]
            rw [decide_eq_false ci] at q2
            by_cases cb : keyI b = -1
            · rw [decide_eq_true cb, Bool.true_or, if_pos rfl]
              have g1 : cGe b (.int 0) h = .ok (.bl false) h := by
                rw [eb, cb]
                rfl
              unfold lrB
              simp only [v_sSeq, v_sIf, v_tOr, v_tAnd, v_tNot, v_tOf, t0, isT, Res.bind_ok, v_truB, Bool.not_true, Bool.false_eq_true, if_false, v_tBl, v_mOp2, v_mOp1, v_mN, v_aCons, v_aNil, v_mV, List.getElem?_cons_zero, List.getElem?_cons_succ, c2, l2, v_mC, v_ne, decide_true, x0, x1, ba, v_neg, v_sub, bb, q2, g1, Res.toS_ok, v_sNil, SR.andThen_next]
            · rw [decide_eq_false cb, Bool.false_or]
              obtain ⟨j, ej⟩ : ∃ j : Nat, keyI b = (j : Int) := ⟨(keyI b).toNat, by omega⟩
              rw [ej] at eb hb2 ⊢
              rw [Int.toNat_natCast]
              subst eb
              have hj : j < Hs.length := by omega
              have xj := ix_D (h := h) hj
              obtain ⟨w, w1, _, w3⟩ := read_in (h := h) hH hj (keyI a)
              rw [← ea] at w3
              have g1 : cGe (.int (j : Int)) (.int 0) h = .ok (.bl true) h := by
                rw [v_cGe, decide_eq_true (by omega)]
              by_cases cm : keyI a ∈ wK (Hs.getD j .non)
              · rw [decide_eq_true cm, if_pos rfl]
                rw [decide_eq_true cm] at w3
                unfold lrB
                simp only [v_sSeq, v_sIf, v_tOr, v_tAnd, v_tNot, v_tOf, t0, isT, Res.bind_ok, v_truB, Bool.not_true, Bool.false_eq_true, if_false, if_true, v_tBl, v_mOp2, v_mOp1, v_mN, v_aCons, v_aNil, v_mV, List.getElem?_cons_zero, List.getElem?_cons_succ, c2, l2, v_mC, v_ne, decide_true, x0, x1, ba, v_neg, v_sub, bb, q2, g1, xj, w1, w3, Res.toS_ok, v_sNil, SR.andThen_next]
              · rw [decide_eq_false cm, if_neg (by decide)]
                rw [decide_eq_false cm] at w3
                unfold lrB
                simp only [v_sSeq, v_sIf, v_tOr, v_tAnd, v_tNot, v_tOf, t0, isT, Res.bind_ok, v_truB, Bool.not_true, Bool.not_false, Bool.false_eq_true, if_false, if_true, v_tBl, v_mOp2, v_mOp1, v_mN, v_aCons, v_aNil, v_mV, List.getElem?_cons_zero, List.getElem?_cons_succ, c2, l2, v_mC, v_ne, decide_true, x0, x1, ba, v_neg, v_sub, bb, q2, g1, xj, w1, w3, Res.toS_ok, v_sNil, SR.andThen_next, v_sRet, SR.andThen_ret]
  · have c : isT d = false := by simpa using c
    rw [c] at t0
    have ej : jR Hs d = false := by
      cases d with
      | tup ds => cases c
      | _ => rfl
    rw [no ej]
    unfold lrB
    simp only [v_sSeq, v_sIf, v_tOr, v_tNot, v_tOf, t0, Res.bind_ok, v_truB, Bool.not_false, if_true, Res.toS_ok, v_sRet, v_mC, SR.andThen_ret]
theorem all_both {α : Type} (p q : α → Bool) (l : List α) : (l.all fun x => p x && q x) = (l.all p && l.all q) := by
  induction l with
  | nil => rfl
  | cons x l ih => simp only [List.all_cons, ih]; cases p x <;> cases q x <;> simp
theorem law_reads_j (hH : Hs.all jD = true) (hl : Hs.length ≤ 1000) {d : D} (g : Gd d) (hd : fewD 1000 d) (i : Nat) : m__law_is_reads [.tup Hs, .int (i : Int), d] h = .ok (.bl (jRs Hs i d)) h := by
  have t0 := mIsi_j (h := h) g (G := [some (.tup Hs), some (.int (i : Int)), some d, none, none]) (i := 2) rfl
  have fin : ∀ b : Bool, b__law_is_reads [some (.tup Hs), some (.int (i : Int)), some d, none, none] h = .ret (.bl b) h → m__law_is_reads [.tup Hs, .int (i : Int), d] h = .ok (.bl b) h := fun b e => by simp [m__law_is_reads, mDef, e]
  apply fin
  have eq : b__law_is_reads = sSeq (sIf (tNotM (tOf (mIsi .tup (mV 2)))) (sSeq (sRet (mC (.bl false))) sNil) sNil) (sSeq (sFor (.nm 3) (iSeq (mV 2)) lrB) (sSeq (sRet (mOp2 fEq (mN fLen (aCons (mL (lComp (.nm 4) [4] (iRange2 (aCons (mC (.int 1)) (aCons (mN fLen (aCons (mV 2) aNil)) aNil))) (tBl (mOp2 cGe (mOp2 fIx (mOp2 fIx (mV 2) (mOp2 fSub (mV 4) (mC (.int 1)))) (mC (.int 0))) (mOp2 fIx (mOp2 fIx (mV 2) (mV 4)) (mC (.int 0))))) (mV 4))) aNil)) (mC (.int 0)))) sNil)) := rfl
  rw [eq]
  by_cases c : isT d = true
  · obtain ⟨ds, rfl⟩ := isT_tup c
    have gs := gd_tup g
    have hd : ds.length ≤ 1000 := hd
    have loop := for_find (h := h) (p := .nm 3) (body := lrB) (all0 := ds) (fun G => ∃ u, G = [some (.tup Hs), some (.int (i : Int)), some (.tup ds), u, none]) id (fun x => !(jR Hs x && !decide (sndI x = (i : Int)))) (fun _ => .bl false) ds (by
      rintro x hx G ⟨u, rfl⟩
      have e := lrB_ok (h := h) hH hl (t := .tup ds) (gs x hx) i
      refine ⟨[some (.tup Hs), some (.int (i : Int)), some (.tup ds), some x, none], rfl, fun q => ?_, fun q => ⟨_, ?_, some x, rfl⟩⟩
      · have q : (jR Hs x && !decide (sndI x = (i : Int))) = false := nb_t q
        rw [q, if_neg (by decide)] at e
        exact e
      · have q : (jR Hs x && !decide (sndI x = (i : Int))) = true := nb_f q
        rw [q, if_pos rfl] at e
        exact e) [some (.tup Hs), some (.int (i : Int)), some (.tup ds), none, none] ⟨none, rfl⟩
    rw [List.map_id] at loop
    have ei : (iSeq (mV 2)) [some (.tup Hs), some (.int (i : Int)), some (.tup ds), none, none] h = .ok (ds, none) h := rfl
    have ej : jRs Hs i (.tup ds) = (ds.all (fun x => jR Hs x && !decide (sndI x = (i : Int))) && ascB (ds.map fstI)) := by
      show (ds.all (jR Hs) && (ds.all (fun q => !decide (sndI q = (i : Int))) && ascB (ds.map fstI))) = _
      rw [all_both, Bool.and_assoc]
    rw [ej]
    cases q : ds.all (fun x => jR Hs x && !decide (sndI x = (i : Int))) with
    | false =>
      rw [Bool.false_and]
      rw [List.all_eq_false] at q
      obtain ⟨x, hx, qx⟩ := q
      have : (ds.find? fun x => !(jR Hs x && !decide (sndI x = (i : Int)))).isSome := List.find?_isSome.mpr ⟨x, hx, nb_n qx⟩
      obtain ⟨y, hy⟩ := Option.isSome_iff_exists.mp this
      have e := loop.1 y hy
      simp only [v_sSeq, v_sIf, v_tNot, v_tOf, t0, isT, Res.bind_ok, v_truB, Bool.not_true, Bool.false_eq_true, if_false, Res.toS_ok, v_sNil, SR.andThen_next, v_sFor, ei, e, SR.andThen_ret]
    | true =>
      rw [Bool.true_and]
      have hn : ds.find? (fun x => !(jR Hs x && !decide (sndI x = (i : Int)))) = none := List.find?_eq_none.mpr fun x hx => by
        have := List.all_eq_true.mp q x hx
        rw [this]
        simp
      obtain ⟨_, e, u, rfl⟩ := loop.2 hn
      have qr : ds.all (jR Hs) = true := by
        rw [all_both] at q
        exact (Bool.and_eq_true_iff.mp q).1
      obtain ⟨is, eis⟩ : ∃ is, is = ds.map fstI := ⟨_, rfl⟩
      have li : is.length = ds.length := by rw [eis, List.length_map]
      have x0 : ∀ j, j < ds.length → fIx (ds.getD j .non) (.int 0) h = .ok (.int (is.getD j 0)) h := fun j hj => by
        have hm : ds.getD j .non ∈ ds := by
          rw [List.getD_eq_getElem?_getD, List.getElem?_eq_getElem hj]
          exact List.getElem_mem hj
        obtain ⟨ex, _, _⟩ := jR_inv (List.all_eq_true.mp qr _ hm)
        have e1 : is.getD j 0 = fstI (ds.getD j .non) := by
          rw [eis]
          simp [List.getD_eq_getElem?_getD, List.getElem?_eq_getElem hj]
        rw [e1]
        conv => lhs; rw [ex]
        exact ix_D (ds := [.int (fstI (ds.getD j .non)), .int (sndI (ds.getD j .non))]) (i := 0) (by simp)
      have h2 : ∀ all0 u, compGo (.nm 4) (tBl (mOp2 cGe (mOp2 fIx (mOp2 fIx (mV 2) (mOp2 fSub (mV 4) (mC (.int 1)))) (mC (.int 0))) (mOp2 fIx (mOp2 fIx (mV 2) (mV 4)) (mC (.int 0))))) (mV 4) none all0 [some (.tup Hs), some (.int (i : Int)), some (.tup ds), u, none] ((List.range' 1 (is.length - 1)).map fun k : Nat => D.int (k : Int)) h = .ok ((downs is).map fun k : Nat => D.int (k : Int)) h := by
        intro all0 u
        refine comp_ok (fun k : Nat => D.int (k : Int)) (fun k => decide (is.getD k 0 ≤ is.getD (k - 1) 0)) _ _ fun k hk => ?_
        obtain ⟨j, hj, rfl⟩ := List.mem_range'.mp hk
        have e1 : (1 + 1 * j) = j + 1 := by omega
        rw [e1]
        have e2 : ((j + 1 : Nat) : Int) - 1 = (j : Int) := by omega
        refine ⟨[some (.tup Hs), some (.int (i : Int)), some (.tup ds), u, some (.int ((j + 1 : Nat) : Int))], rfl, ?_, fun _ => rfl⟩
        have y1 := ix_D (h := h) (ds := ds) (i := j) (by omega)
        have y2 := ix_D (h := h) (ds := ds) (i := j + 1) (by omega)
        have z1 := x0 j (by omega)
        have z2 := x0 (j + 1) (by omega)
        simp only [v_tBl, v_mOp2, v_mV, v_mC, List.getElem?_cons_succ, List.getElem?_cons_zero, Res.bind_ok, v_sub, e2, y1, y2, z1, z2, v_cGe, Nat.add_sub_cancel]
      have w2 : wipeG [some (.tup Hs), some (.int (i : Int)), some (.tup ds), u, none] [4] = [some (.tup Hs), some (.int (i : Int)), some (.tup ds), u, none] := rfl
      have f2 : fLen [.tup ds] h = .ok (.int (is.length : Int)) h := by rw [li]; simp
      have i2 := range_one (h := h) (G := [some (.tup Hs), some (.int (i : Int)), some (.tup ds), u, none]) (m := mN fLen (aCons (mV 2) aNil)) (n := is.length) (by omega) (by simp only [v_mN, v_aCons, v_aNil, v_mV, List.getElem?_cons_succ, List.getElem?_cons_zero, Res.bind_ok, f2])
      have l2 : ((List.range' 1 (is.length - 1)).map fun k : Nat => D.int (k : Int)).length ≤ big := by rw [List.length_map, List.length_range', big_eq]; omega
      have f3 : fLen [.lst ((downs is).map fun k : Nat => D.int (k : Int))] h = .ok (.int ((downs is).length : Int)) h := by simp
      rw [← eis]
      simp only [v_sSeq, v_sIf, v_tNot, v_tOf, t0, isT, Res.bind_ok, v_truB, Bool.not_true, Bool.false_eq_true, if_false, Res.toS_ok, v_sNil, SR.andThen_next, v_sFor, ei, e, v_sRet, v_mOp2, v_mN, v_aCons, v_aNil, v_mL, v_lComp, i2, l2, if_true, w2, h2, f3, v_mC, v_eq, downs_asc, SR.andThen_ret]
  · have c : isT d = false := by simpa using c
    rw [c] at t0
    have ej : jRs Hs i d = false := by
      cases d with
      | tup ds => cases c
      | _ => rfl
    rw [ej]
    simp only [v_sSeq, v_sIf, v_tOr, v_tNot, v_tOf, t0, Res.bind_ok, v_truB, Bool.not_false, if_true, Res.toS_ok, v_sRet, v_mC, SR.andThen_ret]
end
end My
/-! the judges of any thing: histories -/
namespace My
open PySem AB L2
/-- parts of bounded lengths -/
noncomputable def FewP (ds : List D) : Prop := ∀ x ∈ ds, ∀ r w, x = .tup [r, w] → fewD 1000 r ∧ fewD 1000 w
noncomputable def dlR : D → D
  | .tup [r, _] => r
  | _ => .non
noncomputable def jH : D → Bool
  | .tup ds => decide (ds.length ≤ 12) && (ds.all jD && (List.range ds.length).all fun i => jRs ds i (dlR (ds.getD i .non)))
  | _ => false
section
variable {h : AH}
theorem deal_j {G : AB.Env} {x : D} (hx : G[1]? = some (some x)) (g : Gd x) (few : ∀ r w, x = .tup [r, w] → fewD 1000 r ∧ fewD 1000 w) :
    (mAnd (mIsi .tup (mV 1)) (mAnd (mOp2 fEq (mN fLen (aCons (mV 1) aNil)) (mC (.int 2))) (mN m_are_writes (aCons (mOp2 fIx (mV 1) (mC (.int 1))) aNil)))) G h = .ok (.bl (jD x)) h := by
  have t0 := mIsi_j (h := h) g (G := G) (i := 1) hx
  by_cases c : isT x = true
  · obtain ⟨ds, rfl⟩ := isT_tup c
    have gs := gd_tup g
    have len2 : ∀ n : Int, decide (n = 2) = false → fLen [.tup ds] h = .ok (.int n) h → jD (.tup ds) = false → (mAnd (mIsi .tup (mV 1)) (mAnd (mOp2 fEq (mN fLen (aCons (mV 1) aNil)) (mC (.int 2))) (mN m_are_writes (aCons (mOp2 fIx (mV 1) (mC (.int 1))) aNil)))) G h = .ok (.bl (jD (.tup ds))) h := fun n c1 c2 c3 => by
      rw [c3]
      simp only [v_mAnd, t0, isT, Res.bind_ok, v_truB, v_mOp2, v_mN, v_aCons, v_aNil, v_mV, hx, c2, v_mC, v_eq, c1]
    match ds, gs, len2, t0, few, hx with
    | [], gs, len2, t0, few, hx => exact len2 0 (by decide) (by simp) rfl
    | [x], gs, len2, t0, few, hx => exact len2 1 (by decide) (by simp) rfl
    | x :: y :: z :: r, gs, len2, t0, few, hx => exact len2 ((r.length : Int) + 3) (decide_eq_false (by omega)) (by simp; omega) rfl
    | [a, b], gs, len2, t0, few, hx =>
      have gb := gs b (List.mem_cons_of_mem _ List.mem_cons_self)
      have x1 : fIx (.tup [a, b]) (.int 1) h = .ok b h := ix_D (ds := [a, b]) (i := 1) (by simp)
      have c2 : fLen [.tup [a, b]] h = .ok (.int 2) h := by simp
      have w := are_writes_j (h := h) gb (few a b rfl).2
      have ej : jD (.tup [a, b]) = jW b := rfl
      rw [ej]
      simp only [v_mAnd, t0, isT, Res.bind_ok, v_truB, v_mOp2, v_mN, v_aCons, v_aNil, v_mV, hx, c2, v_mC, v_eq, decide_true, x1, w]
  · have c : isT x = false := by simpa using c
    rw [c] at t0
    have ej : jD x = false := by
      cases x with
      | tup ds => cases c
      | _ => rfl
    rw [ej]
    simp only [v_mAnd, t0, Res.bind_ok, v_truB]
theorem dealL_j {G : AB.Env} {x : D} (hx : G[1]? = some (some x)) (g : Gd x) (few : ∀ r w, x = .tup [r, w] → fewD 1000 r ∧ fewD 1000 w) :
    (tOrM (tNotM (tOf (mIsi .tup (mV 1)))) (tOrM (tBl (mOp2 fNe (mN fLen (aCons (mV 1) aNil)) (mC (.int 2)))) (tNotM (tOf (mN m__law_is_keys (aCons (mOp2 fIx (mV 1) (mC (.int 1))) aNil)))))) G h = .ok (!jD x) h := by
  have t0 := mIsi_j (h := h) g (G := G) (i := 1) hx
  by_cases c : isT x = true
  · obtain ⟨ds, rfl⟩ := isT_tup c
    have gs := gd_tup g
    have len2 : ∀ n : Int, decide (n = 2) = false → fLen [.tup ds] h = .ok (.int n) h → jD (.tup ds) = false → (tOrM (tNotM (tOf (mIsi .tup (mV 1)))) (tOrM (tBl (mOp2 fNe (mN fLen (aCons (mV 1) aNil)) (mC (.int 2)))) (tNotM (tOf (mN m__law_is_keys (aCons (mOp2 fIx (mV 1) (mC (.int 1))) aNil)))))) G h = .ok (!jD (.tup ds)) h := fun n c1 c2 c3 => by
      rw [c3]
      simp only [v_tOr, v_tNot, v_tOf, v_tBl, t0, isT, Res.bind_ok, v_truB, v_mOp2, v_mN, v_aCons, v_aNil, v_mV, hx, c2, v_mC, v_ne, c1, Bool.not_true, Bool.not_false, Bool.false_eq_true, if_false, if_true]
    match ds, gs, len2, t0, few, hx with
    | [], gs, len2, t0, few, hx => exact len2 0 (by decide) (by simp) rfl
    | [x], gs, len2, t0, few, hx => exact len2 1 (by decide) (by simp) rfl
    | x :: y :: z :: r, gs, len2, t0, few, hx => exact len2 ((r.length : Int) + 3) (decide_eq_false (by omega)) (by simp; omega) rfl
    | [a, b], gs, len2, t0, few, hx =>
      have gb := gs b (List.mem_cons_of_mem _ List.mem_cons_self)
      have x1 : fIx (.tup [a, b]) (.int 1) h = .ok b h := ix_D (ds := [a, b]) (i := 1) (by simp)
      have c2 : fLen [.tup [a, b]] h = .ok (.int 2) h := by simp
      have w := is_keys_j (h := h) gb (few a b rfl).2
      have ej : jD (.tup [a, b]) = jW b := rfl
      rw [ej]
      simp only [v_tOr, v_tNot, v_tOf, v_tBl, t0, isT, Res.bind_ok, v_truB, v_mOp2, v_mN, v_aCons, v_aNil, v_mV, hx, c2, v_mC, v_ne, decide_true, x1, w, Bool.not_true, Bool.false_eq_true, if_false]
  · have c : isT x = false := by simpa using c
    rw [c] at t0
    have ej : jD x = false := by
      cases x with
      | tup ds => cases c
      | _ => rfl
    rw [ej]
    simp only [v_tOr, v_tNot, v_tOf, v_tBl, t0, Res.bind_ok, v_truB, Bool.not_false, if_true]
theorem jD_two {x : D} (hx : jD x = true) : ∃ r w, x = .tup [r, w] := by
  unfold jD at hx
  split at hx
  · exact ⟨_, _, rfl⟩
  · cases hx
theorem mem_D {ds : List D} {i : Nat} (hi : i < ds.length) : ds.getD i .non ∈ ds := by
  rw [List.getD_eq_getElem?_getD, List.getElem?_eq_getElem hi]
  exact List.getElem_mem hi
theorem hist_no {d : D} (ty : tyDC [] h .tup d = some false) : m_is_history [d] h = .ok (.bl false) h := by
  have eb : b_is_history [some d, none, none] h = .ret (.bl false) h := by
    unfold b_is_history
    simp only [v_sSeq, v_sIf, v_tOr, v_tNot, v_tOf, v_mIsiC, v_mV, List.getElem?_cons_zero, Res.bind_ok, ty, v_truB, Bool.not_false, if_true, Res.toS_ok, v_sRet, v_mC, SR.andThen_ret]
  simp [m_is_history, mDef, eb]
theorem lawh_no {d : D} (ty : tyDC [] h .tup d = some false) : m__law_is_history [d] h = .ok (.bl false) h := by
  have eb : b__law_is_history [some d, none, none] h = .ret (.bl false) h := by
    unfold b__law_is_history
    simp only [v_sSeq, v_sIf, v_tOr, v_tNot, v_tOf, v_mIsiC, v_mV, List.getElem?_cons_zero, Res.bind_ok, ty, v_truB, Bool.not_false, if_true, Res.toS_ok, v_sRet, v_mC, SR.andThen_ret]
  simp [m__law_is_history, mDef, eb]
theorem hist_j {ds : List D} (g : Gd (.tup ds)) (few : FewP ds) (hl : ds.length ≤ 1000) : m_is_history [.tup ds] h = .ok (.bl (jH (.tup ds))) h := by
  have gs := gd_tup g
  have ty : tyDC [] h .tup (.tup ds) = some true := rfl
  have l1 : ds.length ≤ big := by rw [big_eq]; omega
  have f0 : fLen [.tup ds] h = .ok (.int (ds.length : Int)) h := by simp
  have fin : ∀ b : Bool, b_is_history [some (.tup ds), none, none] h = .ret (.bl b) h → m_is_history [.tup ds] h = .ok (.bl b) h := fun b e => by simp [m_is_history, mDef, e]
  apply fin
  by_cases c12 : ds.length ≤ 12
  · have e12 : decide ((12 : Int) < (ds.length : Int)) = false := decide_eq_false (by omega)
    have h1 : ∀ all0, compGo (.nm 1) tYesM (mAnd (mIsi .tup (mV 1)) (mAnd (mOp2 fEq (mN fLen (aCons (mV 1) aNil)) (mC (.int 2))) (mN m_are_writes (aCons (mOp2 fIx (mV 1) (mC (.int 1))) aNil)))) none all0 [some (.tup ds), none, none] (ds.map id) h = .ok (ds.map fun x => .bl (jD x)) h :=
      fun all0 => comp_all id _ _ fun x hx => ⟨[some (.tup ds), some x, none], rfl, deal_j rfl (gs x hx) (few x hx)⟩
    rw [List.map_id] at h1
    have a1 := v_all (h := h) jD ds
    have w1 : wipeG [some (.tup ds), none, none] [1] = [some (.tup ds), none, none] := rfl
    have ej : jH (.tup ds) = (ds.all jD && (List.range ds.length).all fun i => jRs ds i (dlR (ds.getD i .non))) := by
      show (decide (ds.length ≤ 12) && _) = _
      rw [decide_eq_true c12, Bool.true_and]
    rw [ej]
    cases q : ds.all jD with
    | false =>
      rw [q] at a1
      unfold b_is_history
      simp only [v_sSeq, v_sIf, v_tOr, v_tNot, v_tOf, v_tBl, v_mIsiC, v_mV, List.getElem?_cons_zero, Res.bind_ok, ty, v_truB, Bool.not_true, Bool.not_false, Bool.false_eq_true, if_false, if_true, v_mOp2, v_mN, v_aCons, v_aNil, f0, v_mC, v_cGt, e12, Res.toS_ok, v_sNil, SR.andThen_next, v_mL, v_lComp, v_iSeq, v_vSt, l1, w1, h1, a1, v_sRet, SR.andThen_ret, Bool.false_and]
    | true =>
      rw [q] at a1
      have h2 : ∀ all0, compGo (.tp [.nm 2, .nm 1]) tYesM (mN m_are_reads (aCons (mOp2 fIx (mV 1) (mC (.int 0))) (aCons (mV 2) (aCons (mV 0) aNil)))) none all0 [some (.tup ds), none, none] (enumD ds) h = .ok ((List.range ds.length).map fun i => .bl (jRs ds i (dlR (ds.getD i .non)))) h := by
        intro all0
        rw [enumD_eq]
        refine comp_all _ _ _ fun i hi => ?_
        have hi := List.mem_range.mp hi
        have hm := mem_D hi
        obtain ⟨r, w, ex⟩ := jD_two (List.all_eq_true.mp q _ hm)
        have gx := gs _ hm
        rw [ex] at gx
        have gr := gd_tup gx r List.mem_cons_self
        have x0 : fIx (.tup [r, w]) (.int 0) h = .ok r h := ix_D (ds := [r, w]) (i := 0) (by simp)
        have e := are_reads_j (h := h) (Hs := ds) q hl gr (few _ hm r w ex).1 i
        refine ⟨[some (.tup ds), some (ds.getD i .non), some (.int (i : Int))], rfl, ?_⟩
        rw [ex]
        have ed : dlR (.tup [r, w]) = r := rfl
        rw [ed]
        simp only [v_mN, v_aCons, v_aNil, v_mOp2, v_mV, v_mC, List.getElem?_cons_succ, List.getElem?_cons_zero, Res.bind_ok, x0, e]
      have l2 : (enumD ds).length ≤ big := by rw [enumD_len]; exact l1
      have i2 : (iEnum (aCons (mV 0) aNil)) [some (.tup ds), none, none] h = .ok (enumD ds, none) h := rfl
      have w2 : wipeG [some (.tup ds), none, none] [2, 1] = [some (.tup ds), none, none] := rfl
      have a2 := v_all (h := h) (fun i => jRs ds i (dlR (ds.getD i .non))) (List.range ds.length)
      unfold b_is_history
      simp only [v_sSeq, v_sIf, v_tOr, v_tNot, v_tOf, v_tBl, v_mIsiC, v_mV, List.getElem?_cons_zero, Res.bind_ok, ty, v_truB, Bool.not_true, Bool.not_false, Bool.false_eq_true, if_false, if_true, v_mOp2, v_mN, v_aCons, v_aNil, f0, v_mC, v_cGt, e12, Res.toS_ok, v_sNil, SR.andThen_next, v_mL, v_lComp, v_iSeq, v_vSt, l1, w1, h1, a1, i2, l2, w2, h2, a2, v_sRet, SR.andThen_ret, Bool.true_and]
  · have e12 : decide ((12 : Int) < (ds.length : Int)) = true := decide_eq_true (by omega)
    have ej : jH (.tup ds) = false := by
      show (decide (ds.length ≤ 12) && _) = _
      rw [decide_eq_false c12, Bool.false_and]
    rw [ej]
    unfold b_is_history
    simp only [v_sSeq, v_sIf, v_tOr, v_tNot, v_tOf, v_tBl, v_mIsiC, v_mV, List.getElem?_cons_zero, Res.bind_ok, ty, v_truB, Bool.not_true, Bool.false_eq_true, if_false, if_true, v_mOp2, v_mN, v_aCons, v_aNil, f0, v_mC, v_cGt, e12, Res.toS_ok, v_sRet, SR.andThen_ret]
theorem zero_len {α : Type} (q : α → Bool) (l : List α) (f : α → D) : decide ((((l.filter fun x => !q x).map f).length : Int) = 0) = l.all q := by
  have := none_len q l f
  cases c : l.all q with
  | true =>
    rw [c] at this
    have := of_decide_eq_false this
    exact decide_eq_true (by omega)
  | false =>
    rw [c] at this
    have := of_decide_eq_true this
    exact decide_eq_false (by omega)
theorem lawh_j {ds : List D} (g : Gd (.tup ds)) (few : FewP ds) (hl : ds.length ≤ 1000) : m__law_is_history [.tup ds] h = .ok (.bl (jH (.tup ds))) h := by
  have gs := gd_tup g
  have ty : tyDC [] h .tup (.tup ds) = some true := rfl
  have l1 : ds.length ≤ big := by rw [big_eq]; omega
  have f0 : fLen [.tup ds] h = .ok (.int (ds.length : Int)) h := by simp
  have fin : ∀ b : Bool, b__law_is_history [some (.tup ds), none, none] h = .ret (.bl b) h → m__law_is_history [.tup ds] h = .ok (.bl b) h := fun b e => by simp [m__law_is_history, mDef, e]
  apply fin
  by_cases c12 : ds.length ≤ 12
  · have e12 : decide ((12 : Int) < (ds.length : Int)) = false := decide_eq_false (by omega)
    have h1 : ∀ all0, compGo (.nm 1) (tOrM (tNotM (tOf (mIsi .tup (mV 1)))) (tOrM (tBl (mOp2 fNe (mN fLen (aCons (mV 1) aNil)) (mC (.int 2)))) (tNotM (tOf (mN m__law_is_keys (aCons (mOp2 fIx (mV 1) (mC (.int 1))) aNil)))))) (mV 1) none all0 [some (.tup ds), none, none] (ds.map id) h = .ok ((ds.filter fun x => !jD x).map id) h :=
      fun all0 => comp_ok id (fun x => !jD x) id _ fun x hx => ⟨[some (.tup ds), some x, none], rfl, dealL_j rfl (gs x hx) (few x hx), fun _ => rfl⟩
    rw [List.map_id] at h1
    have a1 := none_len jD ds id
    have f1 : fLen [.lst ((ds.filter fun x => !jD x).map id)] h = .ok (.int (((ds.filter fun x => !jD x).map id).length : Int)) h := by simp
    have w1 : wipeG [some (.tup ds), none, none] [1] = [some (.tup ds), none, none] := rfl
    have ej : jH (.tup ds) = (ds.all jD && (List.range ds.length).all fun i => jRs ds i (dlR (ds.getD i .non))) := by
      show (decide (ds.length ≤ 12) && _) = _
      rw [decide_eq_true c12, Bool.true_and]
    rw [ej]
    cases q : ds.all jD with
    | false =>
      rw [q] at a1
      unfold b__law_is_history
      simp only [v_sSeq, v_sIf, v_tOr, v_tNot, v_tOf, v_tBl, v_mIsiC, v_mV, List.getElem?_cons_zero, Res.bind_ok, ty, v_truB, Bool.not_true, Bool.not_false, Bool.false_eq_true, if_false, if_true, v_mOp2, v_mN, v_aCons, v_aNil, f0, v_mC, v_cGt, e12, Res.toS_ok, v_sNil, SR.andThen_next, v_mL, v_lComp, v_iSeq, v_vSt, l1, w1, h1, f1, a1, v_sRet, SR.andThen_ret, Bool.false_and]
    | true =>
      rw [q] at a1
      have h2 : ∀ all0, compGo (.nm 2) (tNotM (tOf (mN m__law_is_reads (aCons (mV 0) (aCons (mV 2) (aCons (mOp2 fIx (mOp2 fIx (mV 0) (mV 2)) (mC (.int 0))) aNil)))))) (mV 2) none all0 [some (.tup ds), none, none] ((List.range ds.length).map fun i : Nat => D.int (i : Int)) h = .ok (((List.range ds.length).filter fun i => !jRs ds i (dlR (ds.getD i .non))).map fun i : Nat => D.int (i : Int)) h := by
        intro all0
        refine comp_ok (fun i : Nat => D.int (i : Int)) (fun i => !jRs ds i (dlR (ds.getD i .non))) _ _ fun i hi => ?_
        have hi := List.mem_range.mp hi
        have hm := mem_D hi
        obtain ⟨r, w, ex⟩ := jD_two (List.all_eq_true.mp q _ hm)
        have gx := gs _ hm
        rw [ex] at gx
        have gr := gd_tup gx r List.mem_cons_self
        have xi := ix_D (h := h) hi
        have x0 : fIx (.tup [r, w]) (.int 0) h = .ok r h := ix_D (ds := [r, w]) (i := 0) (by simp)
        have e := law_reads_j (h := h) (Hs := ds) q hl gr (few _ hm r w ex).1 i
        have ed : dlR (ds.getD i .non) = r := by rw [ex]; rfl
        rw [ex] at xi
        refine ⟨[some (.tup ds), none, some (.int (i : Int))], rfl, ?_, fun _ => rfl⟩
        rw [ed]
        simp only [v_tNot, v_tOf, v_mN, v_aCons, v_aNil, v_mOp2, v_mV, v_mC, List.getElem?_cons_succ, List.getElem?_cons_zero, Res.bind_ok, xi, x0, e, v_truB]
      have l2 : ((List.range ds.length).map fun i : Nat => D.int (i : Int)).length ≤ big := by rw [List.length_map, List.length_range]; exact l1
      have cr : okR (ds.length : Int) := ⟨by omega, by omega⟩
      have i2 : (iRange1 (aCons (mN fLen (aCons (mV 0) aNil)) aNil)) [some (.tup ds), none, none] h = .ok ((List.range ds.length).map fun i : Nat => D.int (i : Int), none) h := by
        rw [v_range1]
        simp only [v_aCons, v_aNil, v_mN, v_mV, List.getElem?_cons_zero, Res.bind_ok, f0, cr, if_true]
        rw [Int.toNat_natCast, rangeD_eq]
      have w2 : wipeG [some (.tup ds), none, none] [2] = [some (.tup ds), none, none] := rfl
      have a2 := zero_len (fun i => jRs ds i (dlR (ds.getD i .non))) (List.range ds.length) fun i : Nat => D.int (i : Int)
      have f2 : fLen [.lst (((List.range ds.length).filter fun i => !jRs ds i (dlR (ds.getD i .non))).map fun i : Nat => D.int (i : Int))] h = .ok (.int ((((List.range ds.length).filter fun i => !jRs ds i (dlR (ds.getD i .non))).map fun i : Nat => D.int (i : Int)).length : Int)) h := by simp
      unfold b__law_is_history
      simp only [v_sSeq, v_sIf, v_tOr, v_tNot, v_tOf, v_tBl, v_mIsiC, v_mV, List.getElem?_cons_zero, Res.bind_ok, ty, v_truB, Bool.not_true, Bool.not_false, Bool.false_eq_true, if_false, if_true, v_mOp2, v_mN, v_aCons, v_aNil, f0, v_mC, v_cGt, e12, Res.toS_ok, v_sNil, SR.andThen_next, v_mL, v_lComp, v_iSeq, v_vSt, l1, w1, h1, f1, a1, i2, l2, w2, h2, f2, v_eq, a2, v_sRet, SR.andThen_ret, Bool.true_and]
  · have e12 : decide ((12 : Int) < (ds.length : Int)) = true := decide_eq_true (by omega)
    have ej : jH (.tup ds) = false := by
      show (decide (ds.length ≤ 12) && _) = _
      rw [decide_eq_false c12, Bool.false_and]
    rw [ej]
    unfold b__law_is_history
    simp only [v_sSeq, v_sIf, v_tOr, v_tNot, v_tOf, v_tBl, v_mIsiC, v_mV, List.getElem?_cons_zero, Res.bind_ok, ty, v_truB, Bool.not_true, Bool.false_eq_true, if_false, if_true, v_mOp2, v_mN, v_aCons, v_aNil, f0, v_mC, v_cGt, e12, Res.toS_ok, v_sRet, SR.andThen_ret]
end
end My
/-! things: what is judged and shown of them -/
namespace My
open PySem AB L2
mutual
noncomputable def hw : D → Bool
  | .tup ds => decide (ds.length ≤ 1000) && hwAll ds
  | _ => true
noncomputable def hwAll : List D → Bool
  | [] => true
  | d :: ds => hw d && hwAll ds
end
theorem hwAll_iff : ∀ {ds : List D}, hwAll ds = true ↔ ∀ x ∈ ds, hw x = true
  | [] => ⟨fun _ x h => (nomatch h), fun _ => rfl⟩
  | d :: ds => by
    show (hw d && hwAll ds) = true ↔ _
    rw [Bool.and_eq_true, hwAll_iff (ds := ds)]
    simp
theorem hw_tup {ds : List D} : hw (.tup ds) = true ↔ ds.length ≤ 1000 ∧ ∀ x ∈ ds, hw x = true := by
  show (decide (ds.length ≤ 1000) && hwAll ds) = true ↔ _
  rw [Bool.and_eq_true, decide_eq_true_iff, hwAll_iff]
theorem hw_few {d : D} (h : hw d = true) : fewD 1000 d := by
  cases d with
  | tup ds => exact (hw_tup.mp h).1
  | _ => trivial
theorem hw_fewP {ds : List D} (h : hw (.tup ds) = true) : FewP ds := by
  intro x hx r w e
  have := (hw_tup.mp h).2 x hx
  rw [e] at this
  have := (hw_tup.mp this).2
  exact ⟨hw_few (this r List.mem_cons_self), hw_few (this w (List.mem_cons_of_mem _ List.mem_cons_self))⟩
structure Pz (d : D) (k n : Nat) : Prop where
  w : hw d = true
  ex : ∃ p, toP d = some p ∧ p.showable = true ∧ p.hasDict = false ∧ p.depth ≤ k ∧ p.shown.length ≤ n
theorem Pz.mono {d : D} {k n k' n' : Nat} (h : Pz d k n) (hk : k ≤ k') (hn : n ≤ n') : Pz d k' n' := by
  obtain ⟨p, e, a, b, c, f⟩ := h.ex
  exact ⟨h.w, p, e, a, b, by omega, by omega⟩
theorem Pz.gd {d : D} {k n : Nat} (h : Pz d k n) : Gd d := by
  obtain ⟨p, e, _⟩ := h.ex
  exact ⟨p, e⟩
theorem pz_all {k n : Nat} : ∀ {ds : List D}, (∀ x ∈ ds, Pz x k n) → ∃ ps, toPs ds = some ps ∧ PyData.showableAll ps = true ∧ PyData.hasDictAll ps = false ∧ PyData.depthAll ps ≤ k ∧ piled (PyData.shownAll ps) ≤ ds.length * (n + 2)
  | [], _ => ⟨[], rfl, rfl, rfl, Nat.zero_le _, by simp [PyData.shownAll, piled]⟩
  | d :: ds, h => by
    obtain ⟨p, e, a, b, c, f⟩ := (h d List.mem_cons_self).ex
    obtain ⟨ps, e2, a2, b2, c2, f2⟩ := pz_all fun x hx => h x (List.mem_cons_of_mem _ hx)
    refine ⟨p :: ps, ?_, ?_, ?_, ?_, ?_⟩
    · show (match toP d, toPs ds with | some p, some ps => some (p :: ps) | _, _ => none) = _
      rw [e, e2]
    · simp only [PyData.showableAll, a, a2, Bool.and_self]
    · simp only [PyData.hasDictAll, b, b2, Bool.or_self]
    · simp only [PyData.depthAll]; omega
    · simp only [PyData.shownAll]
      rw [piled_cons, List.length_cons, Nat.succ_mul]
      omega
theorem join_le (ts : List Str) : (Str.join ", " ts).length ≤ piled ts + 2 := by
  by_cases z : ts = []
  · rw [z]
    decide
  · have := join_length_add _ z
    omega
theorem pz_tup {ds : List D} {k n L : Nat} (hx : ∀ x ∈ ds, Pz x k n) (hl : ds.length ≤ L) (hL : L ≤ 1000) : Pz (.tup ds) (k + 1) (L * (n + 2) + 5) := by
  obtain ⟨ps, e, a, b, c, f⟩ := pz_all hx
  refine ⟨hw_tup.mpr ⟨by omega, fun x h => (hx x h).w⟩, .tuple ps, ?_, ?_, ?_, ?_, ?_⟩
  · show (toPs ds).map PyData.tuple = _
    rw [e]
    rfl
  · simpa [PyData.showable] using a
  · simpa [PyData.hasDict] using b
  · simp only [PyData.depth]; omega
  · simp only [PyData.shown, tupleText]
    rw [Str.length_append, Str.length_append]
    have t1 := join_le (PyData.shownAll ps)
    have t2 : ((if (PyData.shownAll ps).length == 1 then ",)" else ")" : String) : Str).length ≤ 2 := by
      split <;> decide
    have t3 : (("(" : Str)).length ≤ 1 := by decide
    have t4 : ds.length * (n + 2) ≤ L * (n + 2) := Nat.mul_le_mul_right _ hl
    omega
theorem pz_lst {ds : List D} {k n L : Nat} (hx : ∀ x ∈ ds, Pz x k n) (hl : ds.length ≤ L) : Pz (.lst ds) (k + 1) (L * (n + 2) + 5) := by
  obtain ⟨ps, e, a, b, c, f⟩ := pz_all hx
  refine ⟨rfl, .list ps, ?_, ?_, ?_, ?_, ?_⟩
  · show (toPs ds).map PyData.list = _
    rw [e]
    rfl
  · simpa [PyData.showable] using a
  · simpa [PyData.hasDict] using b
  · simp only [PyData.depth]; omega
  · simp only [PyData.shown]
    rw [PySem.listText_eq_join, Str.length_append, Str.length_append]
    have t1 := join_le (PyData.shownAll ps)
    have t2 : (("]" : Str)).length ≤ 1 := by decide
    have t3 : (("[" : Str)).length ≤ 1 := by decide
    have t4 : ds.length * (n + 2) ≤ L * (n + 2) := Nat.mul_le_mul_right _ hl
    omega
theorem pz_non : Pz .non 0 1921 := ⟨rfl, .none, rfl, rfl, rfl, by decide, by decide⟩
theorem pz_bl (b : Bool) : Pz (.bl b) 0 1921 := ⟨rfl, .bool b, rfl, rfl, rfl, by cases b <;> decide, by cases b <;> decide⟩
theorem pz_int {i : Int} (hi : i.natAbs < 2 ^ 1000) : Pz (.int i) 0 1921 := by
  have lg : i.natAbs.log2 < 1920 := by
    by_cases z : i.natAbs = 0
    · rw [z]; decide
    · rw [Nat.log2_lt z]
      exact Nat.lt_of_lt_of_le hi (Nat.pow_le_pow_right (by decide) (by decide))
  refine ⟨rfl, .int i, rfl, ?_, rfl, Nat.le_refl _, ?_⟩
  · simpa [PyData.showable] using lg
  · simp only [PyData.shown]
    exact PyProof.Rows.int_text_len_1921 lg
theorem few_chars : ∀ n : Fin 101, (PySem.Str.ofString (toString ((n.val : Int) - 1))).length ≤ 3 := by decide +kernel
theorem pz_small {i : Int} (h1 : -1 ≤ i) (h2 : i ≤ 99) : Pz (.int i) 0 3 := by
  obtain ⟨_, p, e, a, b, c, _⟩ := pz_int (i := i) (Nat.lt_of_le_of_lt (by omega : i.natAbs ≤ 99) (Nat.lt_of_lt_of_le (by decide : 99 < 2 ^ 7) (Nat.pow_le_pow_right (by decide) (by decide))))
  refine ⟨rfl, p, e, a, b, c, ?_⟩
  cases e
  have := few_chars ⟨(i + 1).toNat, by omega⟩
  have e2 : (((i + 1).toNat : Nat) : Int) - 1 = i := by omega
  simp only [e2] at this
  exact this
theorem pz_str {x : Str} (h : (PyData.str x).shown.length ≤ 1921) : Pz (.str x) 0 1921 := ⟨rfl, .str x, rfl, rfl, rfl, by simp [PyData.depth], h⟩
section
variable {h : AH}
/-- any thing, as both judges take it -/
noncomputable def Thing (h : AH) (d : D) : Prop := Pz d 55 900000 ∨ ∃ n, d = .loc n ∧ h[n]? = some (.dct [])
theorem thing_ok {d : D} (t : Thing h d) : ∃ b s, m_is_history [d] h = .ok (.bl b) h ∧ m__law_is_history [d] h = .ok (.bl b) h ∧ fReprA [d] h = .ok (.str s) h := by
  rcases t with t | ⟨n, rfl, gn⟩
  · obtain ⟨p, e, a, b, c, f⟩ := t.ex
    have seq : isSeqP p = true → toPh h d = some p → fRepr [d] h = .ok (.str p.shown) h := fun s1 s2 => by
      unfold fRepr
      simp only [s2]
      rw [if_pos ⟨s1, a, b, by omega, by rw [big_eq]; omega⟩]
    cases d with
    | tup ds =>
      have few := hw_fewP t.w
      have hl := (hw_tup.mp t.w).1
      refine ⟨_, p.shown, hist_j t.gd few hl, lawh_j t.gd few hl, ?_⟩
      have e' : (toPs ds).map PyData.tuple = some p := e
      cases q : toPs ds with
      | none => rw [q] at e'; cases e'
      | some ps =>
        rw [q] at e'
        cases e'
        exact seq rfl e
    | lst ds =>
      refine ⟨false, p.shown, hist_no rfl, lawh_no rfl, ?_⟩
      have e' : (toPs ds).map PyData.list = some p := e
      cases q : toPs ds with
      | none => rw [q] at e'; cases e'
      | some ps =>
        rw [q] at e'
        cases e'
        exact seq rfl e
    | non => exact ⟨false, _, hist_no rfl, lawh_no rfl, rfl⟩
    | bl b => exact ⟨false, _, hist_no rfl, lawh_no rfl, rfl⟩
    | int i =>
      cases e
      have a : i.natAbs.log2 < 1920 := by simpa [PyData.showable] using a
      exact ⟨false, _, hist_no rfl, lawh_no rfl, if_pos a⟩
    | str x =>
      cases e
      have f : (PySem.reprText x).length ≤ 900000 := f
      exact ⟨false, _, hist_no rfl, lawh_no rfl, if_pos (by rw [big_eq]; omega)⟩
    | rol b => simp [toP] at e
    | loc b => simp [toP] at e
    | con b => simp [toP] at e
  · have hd : dctAt h n = some [] := by unfold dctAt; rw [gn]
    refine ⟨false, (PyData.dict []).shown, hist_no ?_, lawh_no ?_, ?_⟩
    · show (match h[n]? with
        | some (.dct _) => some (Ty.dct.sub .tup)
        | some (.lst _) => some (Ty.lst.sub .tup)
        | some (.ins C _) => if C ∈ [] then some false else none
        | _ => none) = _
      rw [gn]
      rfl
    · show (match h[n]? with
        | some (.dct _) => some (Ty.dct.sub .tup)
        | some (.lst _) => some (Ty.lst.sub .tup)
        | some (.ins C _) => if C ∈ ([] : List Str) then some false else none
        | _ => none) = _
      rw [gn]
      rfl
    · show (match dctAt h n with
        | some [] => Res.ok (D.str (PyData.dict []).shown) h
        | some _ => .stuck
        | none => fRepr [.loc n] h) = _
      rw [hd]
end
end My
/-! drawn histories are right; deep things; parts of what is bent -/
namespace My
open PySem AB L2
theorem keyI_ints (ws : List Int) : (ws.map D.int).map keyI = ws := by
  rw [List.map_map]
  have : (keyI ∘ D.int) = id := rfl
  rw [this, List.map_id]
theorem ascB_of {is : List Int} (h : is.Pairwise (· < ·)) : ascB is = true := by
  rw [ascB_iff]
  intro i hi
  have := List.pairwise_iff_getElem.mp h i (i + 1) (by omega) hi (by omega)
  rw [List.getD_eq_getElem?_getD, List.getElem?_eq_getElem (by omega : i < is.length), List.getD_eq_getElem?_getD, List.getElem?_eq_getElem hi]
  exact this
theorem jW_ok {ws : List Int} (w : WOk ws) : jW (.tup (ws.map D.int)) = true := by
  show ((ws.map D.int).all (isI 0 99) && ascB ((ws.map D.int).map keyI)) = true
  rw [keyI_ints, ascB_of w.asc, Bool.and_true, List.all_eq_true]
  intro x hx
  obtain ⟨k, hk, rfl⟩ := List.mem_map.mp hx
  have := w.bd k hk
  show (decide (0 ≤ k) && decide (k ≤ 99)) = true
  rw [decide_eq_true this.1, decide_eq_true this.2]
  rfl
theorem jH_ok {F : List Deal} (w : Wf F) : jH (hD F) = true := by
  have e : hD F = .tup (F.map dD) := rfl
  rw [e]
  show (decide ((F.map dD).length ≤ 12) && ((F.map dD).all jD && (List.range (F.map dD).length).all fun i => jRs (F.map dD) i (dlR ((F.map dD).getD i .non)))) = true
  rw [List.length_map, decide_eq_true w.len, Bool.true_and, Bool.and_eq_true]
  constructor
  · rw [List.all_eq_true]
    intro x hx
    obtain ⟨i, hi, ei⟩ := List.getElem_of_mem hx
    rw [List.length_map] at hi
    have e2 := dD_getD hi
    rw [List.getD_eq_getElem?_getD, List.getElem?_eq_getElem (by rw [List.length_map]; exact hi)] at e2
    have e2 : (F.map dD)[i]'(by rw [List.length_map]; exact hi) = _ := e2
    rw [← ei, e2]
    exact jW_ok (w.w i hi)
  · rw [List.all_eq_true]
    intro i hi
    have hi := List.mem_range.mp hi
    rw [dD_getD hi]
    have r := w.r i hi
    show ((((rd F i).map rD).all (jR (F.map dD))) && ((((rd F i).map rD).all fun q => !decide (sndI q = (i : Int))) && ascB (((rd F i).map rD).map fstI))) = true
    have ef : ((rd F i).map rD).map fstI = (rd F i).map (·.1) := by
      rw [List.map_map]
      rfl
    rw [ef, ascB_of r.asc, Bool.and_true, Bool.and_eq_true, List.all_eq_true, List.all_eq_true]
    constructor
    · intro x hx
      obtain ⟨q, hq, rfl⟩ := List.mem_map.mp hx
      have b := r.bd q hq
      show (isI 0 99 (.int q.1) && (isI (-1) (((F.map dD).length : Int) - 1) (.int q.2) && (decide (q.2 = -1) || decide (q.1 ∈ wK ((F.map dD).getD q.2.toNat .non))))) = true
      have b1 : isI 0 99 (.int q.1) = true := by
        show (decide (0 ≤ q.1) && decide (q.1 ≤ 99)) = true
        rw [decide_eq_true b.1, decide_eq_true b.2]
        rfl
      rw [b1, Bool.true_and, List.length_map]
      rcases r.src q hq with z | ⟨z1, z2, z3⟩
      · have b2 : isI (-1) ((F.length : Int) - 1) (.int q.2) = true := by
          show (decide (-1 ≤ q.2) && decide (q.2 ≤ (F.length : Int) - 1)) = true
          rw [decide_eq_true (by omega), decide_eq_true (by omega)]
          rfl
        rw [b2, decide_eq_true z]
        rfl
      · have b2 : isI (-1) ((F.length : Int) - 1) (.int q.2) = true := by
          show (decide (-1 ≤ q.2) && decide (q.2 ≤ (F.length : Int) - 1)) = true
          rw [decide_eq_true (by omega), decide_eq_true (by omega)]
          rfl
        have hj : q.2.toNat < F.length := by omega
        rw [b2, dD_getD hj]
        have ek : wK (.tup [.tup ((rd F q.2.toNat).map rD), .tup ((wr F q.2.toNat).map .int)]) = wr F q.2.toNat := keyI_ints _
        rw [ek, decide_eq_true z3, Bool.or_true]
        rfl
    · intro x hx
      obtain ⟨q, hq, rfl⟩ := List.mem_map.mp hx
      have e3 : sndI (rD q) = q.2 := rfl
      rw [e3, decide_eq_false (r.own q hq)]
      rfl
/-! sizes -/
noncomputable def Al (ds : List D) (k n : Nat) : Prop := ∀ x ∈ ds, Pz x k n
theorem al_nil {k n : Nat} : Al [] k n := fun x h => (nomatch h)
theorem al_cons {d : D} {ds : List D} {k n : Nat} (h : Pz d k n) (t : Al ds k n) : Al (d :: ds) k n := fun x hx => by
  rcases List.mem_cons.mp hx with rfl | hx
  · exact h
  · exact t x hx
theorem al_app {a b : List D} {k n : Nat} (h : Al a k n) (t : Al b k n) : Al (a ++ b) k n := fun x hx => by
  rcases List.mem_append.mp hx with hx | hx
  · exact h x hx
  · exact t x hx
theorem Al.sub {a b : List D} {k n : Nat} (h : Al b k n) (s : ∀ x ∈ a, x ∈ b) : Al a k n := fun x hx => h x (s x hx)
theorem Al.mono {a : List D} {k n k' n' : Nat} (h : Al a k n) (hk : k ≤ k') (hn : n ≤ n') : Al a k' n' := fun x hx => (h x hx).mono hk hn
theorem al_cut {ds : List D} {k n : Nat} (h : Al ds k n) (a b : Option Int) : Al (cutD ds a b) k n := h.sub fun x hx => by
  unfold cutD at hx
  exact List.mem_of_mem_drop (List.mem_of_mem_take hx)
theorem cut_len (ds : List D) (a b : Option Int) : (cutD ds a b).length ≤ ds.length := by
  unfold cutD
  rw [List.length_take, List.length_drop]
  omega
theorem al_rep {ds : List D} {k n : Nat} (h : Al ds k n) (m : Nat) : Al (List.replicate m ds).flatten k n := h.sub fun x hx => by
  obtain ⟨l, hl, hx⟩ := List.mem_flatten.mp hx
  rw [(List.mem_replicate.mp hl).2] at hx
  exact hx
theorem told_al {F : List Deal} (w : Wf F) (s : Sm F) : Al (F.map dD) 3 155 ∧ ∀ i, i < F.length → Al ((rd F i).map rD) 1 15 ∧ Al ((wr F i).map D.int) 0 3 := by
  have parts : ∀ i, i < F.length → Al ((rd F i).map rD) 1 15 ∧ Al ((wr F i).map D.int) 0 3 := by
    intro i hi
    refine ⟨fun x hx => ?_, fun x hx => ?_⟩
    · obtain ⟨q, hq, rfl⟩ := List.mem_map.mp hx
      have b := (w.r i hi).bd q hq
      have l := w.len
      have c : -1 ≤ q.2 ∧ q.2 ≤ 99 := by
        rcases (w.r i hi).src q hq with z | ⟨z1, z2, _⟩
        · omega
        · omega
      exact (pz_tup (L := 2) (al_cons (pz_small (by omega) b.2) (al_cons (pz_small c.1 c.2) al_nil)) (by simp) (by omega)).mono (by omega) (by omega)
    · obtain ⟨q, hq, rfl⟩ := List.mem_map.mp hx
      have b := (w.w i hi).bd q hq
      exact pz_small (by omega) b.2
  refine ⟨fun x hx => ?_, parts⟩
  obtain ⟨i, hi, ei⟩ := List.getElem_of_mem hx
  rw [List.length_map] at hi
  have e2 := dD_getD hi
  rw [List.getD_eq_getElem?_getD, List.getElem?_eq_getElem (by rw [List.length_map]; exact hi)] at e2
  have e2 : (F.map dD)[i]'(by rw [List.length_map]; exact hi) = _ := e2
  rw [← ei, e2]
  have a1 := pz_tup (L := 4) (parts i hi).1 (by rw [List.length_map]; exact s.r i hi) (by omega)
  have a2 := pz_tup (L := 4) (parts i hi).2 (by rw [List.length_map]; exact s.w i hi) (by omega)
  exact (pz_tup (L := 2) (al_cons (a1.mono (k' := 2) (n' := 73) (by omega) (by omega)) (al_cons (a2.mono (by omega) (by omega)) al_nil)) (by simp) (by omega)).mono (by omega) (by omega)
/-! deep things -/
noncomputable def deepD : Nat → D → D
  | 0, d => d
  | n + 1, d => .tup [deepD n d]
theorem pz_deep {d : D} {k n : Nat} (h : Pz d k n) : ∀ m, Pz (deepD m d) (k + m) (n + 7 * m)
  | 0 => h
  | m + 1 => (pz_tup (L := 1) (al_cons (pz_deep h m) al_nil) (by simp) (by omega)).mono (by omega) (by omega)
theorem deep_ok {h : AH} {d : D} {n : Nat} (hn : n ≤ 100) : m__law_deep [d, .int (n : Int)] h = .ok (deepD n d) h := by
  have b1 : (1 : Nat) ≤ big := by decide
  obtain ⟨G', h', e, u, rfl, eh⟩ := for_pre (p := .nm 2) (body := sSeq (sSet 0 (mN fTup (aCons (mV 0) aNil))) sNil) (all0 := (List.range n).map fun i : Nat => D.int (i : Int))
    (fun done G hh => ∃ u, G = [some (deepD done.length d), some (.int (n : Int)), u] ∧ hh = h)
    (fun i : Nat => D.int (i : Int)) (List.range n) (List.range n) [] rfl
    (by
      rintro done x rest ed G hh ⟨u, rfl, rfl⟩
      refine ⟨[some (deepD done.length d), some (.int (n : Int)), some (.int (x : Int))], _, _, rfl, ?_, some (.int (x : Int)), rfl, rfl⟩
      simp only [v_sSeq, v_sSet, v_mN, v_aCons, v_aNil, v_mV, List.getElem?_cons_zero, Res.bind_ok, v_fTup, List.length_cons, List.length_nil, Nat.zero_add, b1, if_true, Res.toS_ok, List.set_cons_zero, SR.andThen_next, v_sNil, List.length_append, List.length_singleton]
      rfl)
    [some d, some (.int (n : Int)), none] h ⟨none, rfl, rfl⟩
  rw [List.length_range, eh] at e
  have c1 : okR (n : Int) := ⟨by omega, by omega⟩
  have ei : (iRange1 (aCons (mV 1) aNil)) [some d, some (.int (n : Int)), none] h = .ok ((List.range n).map fun i : Nat => D.int (i : Int), none) h := by
    rw [v_range1]
    simp only [v_aCons, v_aNil, v_mV, List.getElem?_cons_succ, List.getElem?_cons_zero, Res.bind_ok, c1, if_true]
    rw [Int.toNat_natCast, rangeD_eq]
  have eb : b__law_deep [some d, some (.int (n : Int)), none] h = .ret (deepD n d) h := by
    unfold b__law_deep
    simp only [v_sSeq, v_sFor, ei, Res.toS_ok, e, SR.andThen_next, v_sRet, v_mV, List.getElem?_cons_zero, SR.andThen_ret]
  simp [m__law_deep, mDef, eb]
theorem mul13 {h : AH} {ds : List D} (hl : ds.length ≤ 1000) : fMulT (.tup ds) (.int 13) h = .ok (.tup (List.replicate 13 ds).flatten) h := by
  cases ds with
  | nil => rfl
  | cons d ds =>
    show fMulA (.tup (d :: ds)) (.int 13) h = _
    unfold fMulA
    simp only
    rw [if_neg (by decide), if_pos ⟨by decide, by decide, by simp, hl⟩]
    rfl
theorem mulA {h : AH} {ds : List D} {k : Nat} (h1 : 1 ≤ ds.length) (hl : ds.length ≤ 1000) (k2 : 2 ≤ k) (k1 : k ≤ 1000) : fMulA (.tup ds) (.int (k : Int)) h = .ok (.tup (List.replicate k ds).flatten) h := by
  unfold fMulA
  simp only
  rw [if_neg (by omega), if_pos ⟨by omega, by omega, h1, hl⟩, Int.toNat_natCast]
theorem mulLs {h : AH} {n : Nat} {ds : List D} {k : Nat} (hn : h[n]? = some (.lst ds)) (hl : ds.length ≤ 1000) (k1 : k ≤ 1000) : fMulLs (.loc n) (.int (k : Int)) h = .ok (.lst (List.replicate k ds).flatten) h := by
  unfold fMulLs
  simp only [hn]
  rw [if_pos ⟨by omega, by omega, hl⟩, Int.toNat_natCast]
end My
namespace My
open PySem AB L2
theorem writers_ok {h : AH} (H : List Deal) (k : Int) (hl : H.length ≤ 1000) : m_writers [hD H, .int k] h = .ok (((List.range H.length).filter fun i => decide (k ∈ wr H i)).map fun i : Nat => .int (i : Int)) h := by
  have hc : ∀ all0, compGo (.tp [.nm 2, .nm 3]) (tBl (mOp2 fIn (mV 1) (mOp2 fIx (mV 3) (mC (.int 1))))) (mV 2) none all0 [some (hD H), some (.int k), none, none] (enumD (H.map dD)) h
      = .ok (((List.range H.length).filter fun i => decide (k ∈ wr H i)).map fun i : Nat => .int (i : Int)) h := by
    intro all0
    rw [enumD_eq, List.length_map]
    refine comp_ok _ _ _ _ fun i hi => ?_
    have hi : i < H.length := List.mem_range.mp hi
    have e : (H.map dD).getD i .non = .tup [.tup ((rd H i).map rD), .tup ((wr H i).map .int)] := by
      unfold rd wr
      rw [List.getD_eq_getElem?_getD, List.getElem?_map, List.getD_eq_getElem?_getD, List.getElem?_eq_getElem hi]
      rfl
    refine ⟨[some (hD H), some (.int k), some (.int (i : Int)), some (.tup [.tup ((rd H i).map rD), .tup ((wr H i).map .int)])], ?_, ?_, ?_⟩
    · rw [e]
      simp [asg, asgs]
    · simp
    · simp
  have hb : (enumD (H.map dD)).length ≤ big := by
    rw [enumD_len, List.length_map, big_eq]
    omega
  simp [m_writers, mDefL, b_writers, wipeG, hD] at hc ⊢
  simp [hb, hc]
  exact finL_new h _ (under_intF _ _ _)
/-- the writers of a key -/
noncomputable def ws (H : List Deal) (k : Int) : List Nat := (List.range H.length).filter fun i => decide (k ∈ wr H i)
noncomputable def lastI (l : List Nat) : Int := match l.getLast? with
  | none => -1
  | some i => i
noncomputable def ahead (H : List Deal) (m : Nat) (k : Int) : List Nat := (ws H k).filter fun i => decide (i < m)
noncomputable def goodR (H : List Deal) (i m : Nat) : Bool := (rd H i).all fun r => decide (lastI (ahead H m r.1) = r.2)
noncomputable def clear (H : List Deal) (i m : Nat) : Bool := ((List.range' m (i - m)).filter fun o => (wr H i).any fun k => decide (k ∈ wr H o)).length == 0
theorem ws_le {H : List Deal} {k : Int} : (ws H k).length ≤ H.length := by
  have := List.length_filter_le (fun i => decide (k ∈ wr H i)) (List.range H.length)
  simpa [ws] using this
theorem last_cons (l : List Nat) : (D.int (-1) :: l.map fun i : Nat => D.int (i : Int)).getLast? = some (.int (lastI l)) := by
  unfold lastI
  cases h : l.getLast? with
  | none =>
    rw [List.getLast?_eq_none_iff] at h
    subst h
    rfl
  | some i =>
    rw [List.getLast?_cons, List.getLast?_map, h]
    rfl
theorem nat_lt (i m : Nat) : decide ((i : Int) < (m : Int)) = decide (i < m) := by
  simp
theorem reads_body {h : AH} {H : List Deal} (w : Wf H) {i m : Nat} (hi : i < H.length) (a b c : Option D) (r : Int × Int) :
    ∃ G1, asg (.tp [.nm 5, .nm 6]) (rD r) [some (hD H), some (iD i), some (iD m), some (.tup ((rd H i).map rD)), some (.tup ((wr H i).map .int)), a, b, c, none, none] = some G1 ∧
      ((sSeq (sSet 7 (mL (lComp (.nm 9) [9] (iSeq (mL (lN m_writers (aCons (mV 0) (aCons (mV 5) aNil))))) (tBl (mOp2 cLt (mV 9) (mV 2))) (mV 9)))) (sSeq (sIf (tBl (mOp2 fNe (mOp2 fIx (mOp2 fAdd (mL (lLst (aCons (mOp1 fNeg (mC (.int 1))) aNil))) (mV 7)) (mOp1 fNeg (mC (.int 1)))) (mV 6))) (sSeq (sRet (mC (.bl false))) sNil) sNil) sNil)) : Ms) G1 h =
        (if lastI (ahead H m r.1) = r.2 then .next [some (hD H), some (iD i), some (iD m), some (.tup ((rd H i).map rD)), some (.tup ((wr H i).map .int)), some (.int r.1), some (.int r.2), some (.lst ((ahead H m r.1).map iD)), none, none] h else .ret (.bl false) h) := by
  have hl := w.len
  refine ⟨[some (hD H), some (iD i), some (iD m), some (.tup ((rd H i).map rD)), some (.tup ((wr H i).map .int)), some (.int r.1), some (.int r.2), c, none, none], rfl, ?_⟩
  have hw := writers_ok (h := h) H r.1 (by omega)
  have hc : ∀ all0 G7, compGo (.nm 9) (tBl (mOp2 cLt (mV 9) (mV 2))) (mV 9) none all0 [some (hD H), some (iD i), some (iD m), some (.tup ((rd H i).map rD)), some (.tup ((wr H i).map .int)), some (.int r.1), some (.int r.2), G7, none, none] ((ws H r.1).map iD) h = .ok ((ahead H m r.1).map iD) h := by
    intro all0 G7
    refine comp_ok _ (fun i => decide (i < m)) _ _ fun o ho => ?_
    exact ⟨_, rfl, by simp [iD, nat_lt], by simp⟩
  have e1 : ((List.range H.length).filter fun i => decide (r.1 ∈ wr H i)).map (fun i : Nat => D.int (i : Int)) = (ws H r.1).map iD := rfl
  rw [e1] at hw
  have l1 : (ws H r.1).length ≤ big := by rw [big_eq]; have := ws_le (H := H) (k := r.1); omega
  have l2 : 1 + (ahead H m r.1).length ≤ big := by
    have h1 : (ahead H m r.1).length ≤ (ws H r.1).length := List.length_filter_le _ _
    rw [big_eq]
    have := ws_le (H := H) (k := r.1)
    omega
  have l3 : atI (D.int (-1) :: (ahead H m r.1).map iD) (-1) = some (.int (lastI (ahead H m r.1))) := by
    rw [AB.atI_last]
    exact last_cons _
  have b1 : (1 : Nat) ≤ big := by decide
  simp [hw, hc, l1, wipeG, l2, l3, b1]
  by_cases q : lastI (ahead H m r.1) = r.2
  · simp [q]
  · simp [q]

noncomputable def suitsB (H : List Deal) (i m : Nat) : Bool := goodR H i m && clear H i m
theorem suits_ok {h : AH} {H : List Deal} (w : Wf H) {i m : Nat} (hi : i < H.length) (hm : m ≤ i) : m_suits [hD H, .int i, .int m] h = .ok (.bl (suitsB H i m)) h := by
  have hl := w.len
  have e0 : atI (H.map dD) (i : Int) = some (.tup [.tup ((rd H i).map rD), .tup ((wr H i).map .int)]) := by
    have := get_deal (H := H) (i := (i : Int)) (by omega) (by omega)
    simpa using this
  have lr : (rd H i).length ≤ big := by rw [big_eq]; have := (w.r i hi).len; omega
  have lw : (wr H i).length ≤ big := by rw [big_eq]; have := (w.w i hi).len; omega
  -- the reads
  have hf := fun all0 : List D => for_find (p := .tp [.nm 5, .nm 6]) (all0 := all0) (h := h) (body := (sSeq (sSet 7 (mL (lComp (.nm 9) [9] (iSeq (mL (lN m_writers (aCons (mV 0) (aCons (mV 5) aNil))))) (tBl (mOp2 cLt (mV 9) (mV 2))) (mV 9)))) (sSeq (sIf (tBl (mOp2 fNe (mOp2 fIx (mOp2 fAdd (mL (lLst (aCons (mOp1 fNeg (mC (.int 1))) aNil))) (mV 7)) (mOp1 fNeg (mC (.int 1)))) (mV 6))) (sSeq (sRet (mC (.bl false))) sNil) sNil) sNil)))
    (fun G => ∃ a b c, G = [some (hD H), some (iD i), some (iD m), some (.tup ((rd H i).map rD)), some (.tup ((wr H i).map .int)), a, b, c, none, none]) rD (fun r => !decide (lastI (ahead H m r.1) = r.2)) (fun _ => .bl false) (rd H i)
    (by
      rintro r hr G ⟨a, b, c, rfl⟩
      obtain ⟨G1, e1, e2⟩ := reads_body (h := h) w (m := m) hi a b c r
      refine ⟨G1, e1, fun hq => ?_, fun hq => ?_⟩
      · have hq : ¬ lastI (ahead H m r.1) = r.2 := by simpa using hq
        rw [e2, if_neg hq]
      · have hq : lastI (ahead H m r.1) = r.2 := by simpa using hq
        exact ⟨_, by rw [e2, if_pos hq], _, _, _, rfl⟩) _ ⟨none, none, none, rfl⟩
  -- between
  have hb : ∀ (all0 : List D) (a b c : Option D), compGo (.nm 9) (tOf (mN fAny (aCons (mL (lComp (.nm 5) [5] (iSeq (mV 4)) tYesM (mOp2 fIn (mV 5) (mOp2 fIx (mOp2 fIx (mV 0) (mV 9)) (mC (.int 1)))))) aNil))) (mV 9) none all0 [some (hD H), some (iD i), some (iD m), some (.tup ((rd H i).map rD)), some (.tup ((wr H i).map .int)), a, b, c, none, none] ((List.range' m (i - m)).map iD) h
      = .ok (((List.range' m (i - m)).filter fun o => (wr H i).any fun k => decide (k ∈ wr H o)).map iD) h := by
    intro all0 a b c
    refine comp_ok _ (fun o => (wr H i).any fun k => decide (k ∈ wr H o)) _ _ fun o ho => ?_
    have ho : o < H.length := by
      have := List.mem_range'.mp ho
      omega
    have e1 : atI (H.map dD) (o : Int) = some (.tup [.tup ((rd H o).map rD), .tup ((wr H o).map .int)]) := by
      have := get_deal (H := H) (i := (o : Int)) (by omega) (by omega)
      simpa using this
    have hc : ∀ all1 : List D, compGo (.nm 5) tYesM (mOp2 fIn (mV 5) (mOp2 fIx (mOp2 fIx (mV 0) (mV 9)) (mC (.int 1)))) none all1 [some (hD H), some (iD i), some (iD m), some (.tup ((rd H i).map rD)), some (.tup ((wr H i).map .int)), none, b, c, none, some (iD o)] ((wr H i).map .int) h = .ok ((wr H i).map fun k => .bl (decide (k ∈ wr H o))) h := by
      intro all1
      refine comp_all _ _ _ fun k hk => ⟨_, rfl, ?_⟩
      simp [iD, hD, e1]
    refine ⟨[some (hD H), some (iD i), some (iD m), some (.tup ((rd H i).map rD)), some (.tup ((wr H i).map .int)), a, b, c, none, some (iD o)], rfl, ?_, ?_⟩
    · simp [lw, wipeG, hc]
    · simp
  have er : rangeD (m : Int) (i - m) = (List.range' m (i - m)).map iD := rangeD_from m (i - m)
  have c1 : okR2 (m : Int) (i : Int) := ⟨by omega, by omega, by omega, by omega⟩
  have c5 : i - m ≤ big := by rw [big_eq]; omega
  have c6 : ((List.range' m (i - m)).map iD).length ≤ big := by simp [c5]
  cases hfind : (rd H i).find? (fun r => !decide (lastI (ahead H m r.1) = r.2)) with
  | some r =>
    have hg : goodR H i m = false := by
      unfold goodR
      rw [List.all_eq_false]
      have := List.find?_some hfind
      exact ⟨r, List.mem_of_find?_eq_some hfind, by simpa using this⟩
    have h1 := fun all0 => (hf all0).1 r hfind
    simp [m_suits, mDef, b_suits, e0, asg, asgs, h1, suitsB, hg]
  | none =>
    have hg : goodR H i m = true := by
      unfold goodR
      rw [List.all_eq_true]
      intro r hr
      have := List.find?_eq_none.mp hfind r hr
      simpa using this
    obtain ⟨G', h1, a, b, c, rfl⟩ := (hf ((rd H i).map rD)).2 hfind
    have c7 : ∀ x : Nat, ((x : Int) = 0) = (x = 0) := fun x => by simp
    simp [m_suits, mDef, b_suits, e0, asg, asgs, h1, suitsB, hg, c1, er, c5, wipeG, hb]
    unfold clear
    have cc : ∀ n : Nat, decide ((n : Int) = 0) = (n == 0) := fun n => by cases n with | zero => rfl | succ k => exact decide_eq_false (by omega)
    exact cc _
end My
/-! what is judged as a history is one (Wf); check_history -/
namespace My
open PySem AB L2
theorem gd_all : ∀ {ds : List D}, (∀ x ∈ ds, Gd x) → ∃ ps, toPs ds = some ps
  | [], _ => ⟨[], rfl⟩
  | d :: ds, h => by
    obtain ⟨p, e⟩ := h d List.mem_cons_self
    obtain ⟨ps, e2⟩ := gd_all fun x hx => h x (List.mem_cons_of_mem _ hx)
    refine ⟨p :: ps, ?_⟩
    show (match toP d, toPs ds with | some p, some ps => some (p :: ps) | _, _ => none) = _
    rw [e, e2]
theorem gd_of {ds : List D} (h : ∀ x ∈ ds, Gd x) : Gd (.tup ds) := by
  obtain ⟨ps, e⟩ := gd_all h
  refine ⟨.tuple ps, ?_⟩
  show (toPs ds).map PyData.tuple = _
  rw [e]
  rfl
theorem gd_int (i : Int) : Gd (.int i) := ⟨.int i, rfl⟩
theorem gd_dD (d : Deal) : Gd (dD d) := gd_of fun x hx => by
  rcases List.mem_cons.mp hx with rfl | hx
  · refine gd_of fun y hy => ?_
    obtain ⟨r, _, rfl⟩ := List.mem_map.mp hy
    refine gd_of fun z hz => ?_
    rcases List.mem_cons.mp hz with rfl | hz
    · exact gd_int _
    · rcases List.mem_cons.mp hz with rfl | hz
      · exact gd_int _
      · cases hz
  · rcases List.mem_cons.mp hx with rfl | hx
    · refine gd_of fun y hy => ?_
      obtain ⟨r, _, rfl⟩ := List.mem_map.mp hy
      exact gd_int _
    · cases hx
theorem gd_h (F : List Deal) : Gd (.tup (F.map dD)) := gd_of fun x hx => by
  obtain ⟨d, _, rfl⟩ := List.mem_map.mp hx
  exact gd_dD d
theorem few_h {F : List Deal} (w : Wf F) : FewP (F.map dD) := by
  intro x hx r v e
  obtain ⟨d, hd, rfl⟩ := List.mem_map.mp hx
  obtain ⟨i, hi, ei⟩ := List.getElem_of_mem hd
  have e1 : rd F i = d.1 := by
    unfold rd
    rw [List.getD_eq_getElem?_getD, List.getElem?_eq_getElem hi, ← ei]
    rfl
  have e2 : wr F i = d.2 := by
    unfold wr
    rw [List.getD_eq_getElem?_getD, List.getElem?_eq_getElem hi, ← ei]
    rfl
  injection e with e
  injection e with e3 e4
  injection e4 with e4 _
  subst e3
  subst e4
  refine ⟨?_, ?_⟩
  · show (d.1.map rD).length ≤ 1000
    rw [List.length_map, ← e1]
    exact (w.r i hi).len
  · show (d.2.map D.int).length ≤ 1000
    rw [List.length_map, ← e2]
    exact (w.w i hi).len
section
variable {h : AH}
theorem is_history_ok {H : List Deal} (w : Wf H) : m_is_history [hD H] h = .ok (.bl true) h := by
  have := hist_j (h := h) (gd_h H) (few_h w) (by rw [List.length_map]; have := w.len; omega)
  have e : jH (.tup (H.map dD)) = true := jH_ok w
  rw [e] at this
  exact this
theorem check_history_ok {H : List Deal} (w : Wf H) : m_check_history [hD H] h = .ok .non h := by
  have eb : b_check_history [some (hD H)] h = .next [some (hD H)] h := by
    unfold b_check_history
    simp only [v_sSeq, v_sIf, v_tNot, v_tOf, v_mN, v_aCons, v_aNil, v_mV, List.getElem?_cons_zero, Res.bind_ok, is_history_ok w, v_truB, Bool.not_true, Bool.false_eq_true, if_false, Res.toS_ok, v_sNil, SR.andThen_next]
  simp [m_check_history, mDef, eb]
theorem check_history_no {d : D} (e : m_is_history [d] h = .ok (.bl false) h) : m_check_history [d] h = .exc "NoHistory" [] h := by
  have eb : b_check_history [some d] h = .exc "NoHistory" [] [some d] h := by
    unfold b_check_history
    simp [e, sRaise]
  simp [m_check_history, mDef, eb, finX]
end
/-! the other way about -/
noncomputable def rdsOf : D → List (Int × Int)
  | .tup [.tup ps, _] => ps.map fun d => (fstI d, sndI d)
  | _ => []
noncomputable def dlOf (x : D) : Deal := (rdsOf x, wK x)
theorem asc_pw : ∀ {is : List Int}, ascB is = true → is.Pairwise (· < ·)
  | [], _ => .nil
  | [a], _ => List.pairwise_singleton _ _
  | a :: b :: r, h => by
    rw [ascB_cons, Bool.and_eq_true, decide_eq_true_iff] at h
    have ih := asc_pw h.2
    refine List.pairwise_cons.mpr ⟨fun c hc => ?_, ih⟩
    rcases List.mem_cons.mp hc with rfl | hc
    · exact h.1
    · exact Int.lt_trans h.1 ((List.pairwise_cons.mp ih).1 c hc)
theorem jRs_inv {Hs : List D} {i : Nat} {d : D} (q : jRs Hs i d = true) : ∃ ps, d = .tup ps ∧ ps.all (jR Hs) = true ∧ (ps.all fun q => !decide (sndI q = (i : Int))) = true ∧ ascB (ps.map fstI) = true := by
  unfold jRs at q
  split at q
  · rename_i ps
    rw [Bool.and_eq_true, Bool.and_eq_true] at q
    exact ⟨ps, rfl, q.1, q.2.1, q.2.2⟩
  · cases q
theorem jR_src {Hs : List D} {d : D} (q : jR Hs d = true) : 0 ≤ fstI d ∧ fstI d ≤ 99 ∧ (sndI d = -1 ∨ (0 ≤ sndI d ∧ sndI d < Hs.length ∧ fstI d ∈ wK (Hs.getD (sndI d).toNat .non))) := by
  have bb := (jR_inv q).2
  unfold jR at q
  split at q
  · rename_i a b
    rw [Bool.and_eq_true, Bool.and_eq_true, Bool.or_eq_true, decide_eq_true_iff, decide_eq_true_iff] at q
    obtain ⟨_, c1, c2⟩ := isI_int q.1
    refine ⟨c1, c2, ?_⟩
    have b1 : -1 ≤ keyI b := bb.1
    have b2 : keyI b ≤ (Hs.length : Int) - 1 := bb.2
    show keyI b = -1 ∨ (0 ≤ keyI b ∧ keyI b < Hs.length ∧ keyI a ∈ wK (Hs.getD (keyI b).toNat .non))
    by_cases z : keyI b = -1
    · exact .inl z
    · rcases q.2.2 with z2 | z2
      · exact .inl z2
      · exact .inr ⟨by omega, by omega, z2⟩
  · cases q
theorem jH_wf {ds : List D} (hj : jH (.tup ds) = true) (few : FewP ds) : ∃ F, D.tup ds = hD F ∧ Wf F := by
  have hj : (decide (ds.length ≤ 12) && (ds.all jD && (List.range ds.length).all fun i => jRs ds i (dlR (ds.getD i .non)))) = true := hj
  rw [Bool.and_eq_true, Bool.and_eq_true, decide_eq_true_iff, List.all_eq_true, List.all_eq_true] at hj
  obtain ⟨hl, hD1, hR⟩ := hj
  have at1 : ∀ i, i < ds.length → ds.getD i .non ∈ ds := fun i hi => mem_D hi
  have one : ∀ i, i < ds.length → ∃ ps ws, ds.getD i .non = .tup [.tup ps, .tup (ws.map D.int)] ∧ wK (ds.getD i .non) = ws ∧ rdsOf (ds.getD i .non) = ps.map (fun d => (fstI d, sndI d)) ∧ ps.all (jR ds) = true ∧ (ps.all fun q => !decide (sndI q = (i : Int))) = true ∧ ascB (ps.map fstI) = true ∧ jW (.tup (ws.map D.int)) = true ∧ ps.length ≤ 1000 ∧ ws.length ≤ 1000 := by
    intro i hi
    obtain ⟨r, ws, e1, e2⟩ := jD_inv (hD1 _ (at1 i hi))
    have q := hR i (List.mem_range.mpr hi)
    have e3 : dlR (ds.getD i .non) = r := by rw [e1]; rfl
    rw [e3] at q
    obtain ⟨ps, rfl, a, b, c⟩ := jRs_inv q
    have f := few _ (at1 i hi) _ _ e1
    have jd := hD1 _ (at1 i hi)
    rw [e1] at jd
    have f2 : (ws.map D.int).length ≤ 1000 := f.2
    rw [List.length_map] at f2
    exact ⟨ps, ws, e1, e2, by rw [e1]; rfl, a, b, c, jd, f.1, f2⟩
  have gF : ∀ i, i < ds.length → (ds.map dlOf).getD i nilD = dlOf (ds.getD i .non) := fun i hi => by
    rw [List.getD_eq_getElem?_getD, List.getElem?_map, List.getD_eq_getElem?_getD, List.getElem?_eq_getElem hi]
    rfl
  have back : ∀ x ∈ ds, dD (dlOf x) = x := by
    intro x hx
    obtain ⟨i, hi, ei⟩ := List.getElem_of_mem hx
    have eg : ds.getD i .non = x := by
      rw [List.getD_eq_getElem?_getD, List.getElem?_eq_getElem hi, ei]
      rfl
    obtain ⟨ps, ws, e1, e2, e3, a, b, c, jw, l1, l2⟩ := one i hi
    rw [eg] at e1 e2 e3
    show D.tup [.tup ((rdsOf x).map rD), .tup ((wK x).map .int)] = x
    rw [e3, e2, e1]
    have := reads_all a
    have e5 : (ps.map fun d => (fstI d, sndI d)).map rD = ps := this.symm
    rw [e5]
  refine ⟨ds.map dlOf, ?_, ?_, ?_, ?_⟩
  · show D.tup ds = .tup ((ds.map dlOf).map dD)
    rw [List.map_map]
    congr 1
    conv => lhs; rw [← List.map_id ds]
    exact List.map_congr_left fun x hx => (back x hx).symm
  · rw [List.length_map]; exact hl
  · intro i hi
    rw [List.length_map] at hi
    obtain ⟨ps, ws, e1, e2, e3, a, b, c, jw, l1, l2⟩ := one i hi
    have ew : wr (ds.map dlOf) i = ws := by
      unfold wr
      rw [gF i hi]
      exact e2
    rw [ew]
    have jw : ((ws.map D.int).all (isI 0 99) && ascB ((ws.map D.int).map keyI)) = true := jw
    rw [keyI_ints, Bool.and_eq_true, List.all_eq_true] at jw
    exact ⟨asc_pw jw.2, fun k hk => (isI_int (jw.1 _ (List.mem_map_of_mem hk))).2, l2⟩
  · intro i hi
    rw [List.length_map] at hi
    obtain ⟨ps, ws, e1, e2, e3, a, b, c, jw, l1, l2⟩ := one i hi
    have er : rd (ds.map dlOf) i = ps.map fun d => (fstI d, sndI d) := by
      unfold rd
      rw [gF i hi]
      exact e3
    rw [er]
    rw [List.all_eq_true] at a b
    refine ⟨?_, ?_, ?_, ?_, ?_⟩
    · have : (ps.map fun d => (fstI d, sndI d)).map (·.1) = ps.map fstI := by rw [List.map_map]; rfl
      rw [this]
      exact asc_pw c
    · intro r hr
      obtain ⟨q, hq, rfl⟩ := List.mem_map.mp hr
      have := jR_src (a q hq)
      exact ⟨this.1, this.2.1⟩
    · intro r hr
      obtain ⟨q, hq, rfl⟩ := List.mem_map.mp hr
      rcases (jR_src (a q hq)).2.2 with z | ⟨z1, z2, z3⟩
      · exact .inl z
      · refine .inr ⟨z1, by rw [List.length_map]; exact z2, ?_⟩
        have hlt : (sndI q).toNat < ds.length := by omega
        have ew : wr (ds.map dlOf) (sndI q).toNat = wK (ds.getD (sndI q).toNat .non) := by
          unfold wr
          rw [gF _ hlt]
          rfl
        rw [ew]
        exact z3
    · intro r hr
      obtain ⟨q, hq, rfl⟩ := List.mem_map.mp hr
      have := b q hq
      simpa using this
    · rw [List.length_map]; exact l1
end My
namespace My
open PySem AB L2
noncomputable def oD : Option Nat → D
  | none => .non
  | some m => iD m
noncomputable def oP : Option Nat → PyData
  | none => .none
  | some m => .int m
theorem toP_o (o : Option Nat) : toP (oD o) = some (oP o) := by cases o <;> rfl
theorem toPs_o {α : Type} (f : α → Option Nat) : ∀ xs : List α, toPs (xs.map fun x => oD (f x)) = some (xs.map fun x => oP (f x))
  | [] => rfl
  | x :: xs => by
    show (match toP (oD (f x)), toPs (xs.map fun x => oD (f x)) with | some p, some ps => some (p :: ps) | _, _ => none) = _
    rw [toP_o, toPs_o f xs]
    rfl
theorem lay_o {α : Type} (f : α → Option Nat) : ∀ xs : List α, PyData.canLayAll0 (xs.map fun x => oP (f x)) = true
  | [] => by simp [PyData.canLayAll0]
  | x :: xs => by
    have : PyData.canLay0 (oP (f x)) = true := by cases f x <;> simp [oP, PyData.canLay0]
    simp [PyData.canLayAll0, this, lay_o f xs]
theorem dep_o {α : Type} (f : α → Option Nat) : ∀ xs : List α, PyData.depthAll (xs.map fun x => oP (f x)) = 0
  | [] => by simp [PyData.depthAll]
  | x :: xs => by
    have : PyData.depth (oP (f x)) = 0 := by cases f x <;> simp [oP, PyData.depth]
    simp [PyData.depthAll, this, dep_o f xs]
theorem okP_oT {α : Type} {h : AH} (f : α → Option Nat) (xs : List α) : okP h (.tup (xs.map fun x => oD (f x))) = some (.tuple (xs.map fun x => oP (f x))) := by
  unfold okP
  have e : toPh h (.tup (xs.map fun x => oD (f x))) = some (.tuple (xs.map fun x => oP (f x))) := by
    show (toPs (xs.map fun x => oD (f x))).map PyData.tuple = _
    rw [toPs_o]
    rfl
  rw [e]
  simp [SeqAt.shaped, PyData.canLay0, PyData.depth, lay_o, dep_o]
theorem okP_oL {α : Type} {h : AH} (f : α → Option Nat) (xs : List α) : okP h (.lst (xs.map fun x => oD (f x))) = some (.list (xs.map fun x => oP (f x))) := by
  unfold okP
  have e : toPh h (.lst (xs.map fun x => oD (f x))) = some (.list (xs.map fun x => oP (f x))) := by
    show (toPs (xs.map fun x => oD (f x))).map PyData.list = _
    rw [toPs_o]
    rfl
  rw [e]
  simp [SeqAt.shaped, PyData.canLay0, PyData.depth, lay_o, dep_o]
theorem any_o {α : Type} (f : α → Option Nat) (xs : List α) : ((xs.map fun x => oP (f x)).any fun z => PyData.eqv z .none) = !(xs.all fun x => (f x).isSome) := by
  induction xs with
  | nil => rfl
  | cons x xs ih =>
    rw [List.map_cons, List.any_cons, ih, List.all_cons]
    cases f x <;> simp [oP, PyData.eqv]
@[simp] theorem notin_oT {α : Type} {h : AH} (f : α → Option Nat) (xs : List α) : fNotIn .non (.tup (xs.map fun x => oD (f x))) h = .ok (.bl (xs.all fun x => (f x).isSome)) h := by
  unfold fNotIn inD
  rw [okP_non, okP_oT]
  simp only [any_o, Bool.not_not]
@[simp] theorem notin_oL {α : Type} {h : AH} (f : α → Option Nat) (xs : List α) : fNotIn .non (.lst (xs.map fun x => oD (f x))) h = .ok (.bl (xs.all fun x => (f x).isSome)) h := by
  unfold fNotIn inD
  rw [okP_non, okP_oL]
  simp only [any_o, Bool.not_not]
noncomputable def momB (H : List Deal) (i : Nat) : Option Nat := ((List.range (i + 1)).filter (suitsB H i)).getLast?
theorem moment_of_ok {h : AH} {H : List Deal} (w : Wf H) {i : Nat} (hi : i < H.length) : m_moment_of [hD H, .int i] h = .ok (oD (momB H i)) h := by
  have hl := w.len
  have hc : ∀ (all0 : List D) (a : Option D), compGo (.nm 3) (tOf (mN m_suits (aCons (mV 0) (aCons (mV 1) (aCons (mV 3) aNil))))) (mV 3) none all0 [some (hD H), some (.int i), a, none] ((List.range (i + 1)).map iD) h = .ok (((List.range (i + 1)).filter (suitsB H i)).map iD) h := by
    intro all0 a
    refine comp_ok _ (suitsB H i) _ _ fun m hm => ?_
    have hm : m < i + 1 := List.mem_range.mp hm
    exact ⟨[some (hD H), some (.int i), a, some (iD m)], rfl, by simp [suits_ok w hi (show m ≤ i by omega)], by simp⟩
  have er : rangeD 0 (i + 1) = (List.range (i + 1)).map iD := rangeD_eq _
  have c1 : okR ((i : Int) + 1) := ⟨by omega, by omega⟩
  have c3 : ((i : Int) + 1).toNat = i + 1 := by omega
  have c4 : i + 1 ≤ big := by rw [big_eq]; omega
  unfold momB
  generalize (List.range (i + 1)).filter (suitsB H i) = L at hc
  have fin : ∀ x : D, finD h.length h x h = .ok x h := finD_same h
  cases L with
  | nil => simp [m_moment_of, mDef, b_moment_of, c1, c3, er, c4, wipeG, hc, oD]
  | cons x r =>
    have e : atI ((x :: r).map iD) (-1) = (x :: r).getLast?.map iD := by
      rw [AB.atI_last, List.getLast?_map]
    have e2 : ∃ y, (x :: r).getLast? = some y := by
      cases q : (x :: r).getLast? with
      | none => rw [List.getLast?_eq_none_iff] at q; cases q
      | some y => exact ⟨y, rfl⟩
    obtain ⟨y, e2⟩ := e2
    rw [e2] at e ⊢
    have ne : ¬ ((r.length : Int) + 1 = 0) := by omega
    rw [List.map_cons] at e hc
    simp [m_moment_of, mDef, b_moment_of, c1, c3, er, c4, wipeG, hc, ne, e, oD]
theorem moments_ok {h : AH} {H : List Deal} (w : Wf H) : m_moments [hD H] h = .ok (.tup ((List.range H.length).map fun i => oD (momB H i))) h := by
  have hl := w.len
  have hc : ∀ (all0 : List D), compGo (.nm 1) tYesM (mN m_moment_of (aCons (mV 0) (aCons (mV 1) aNil))) none all0 [some (hD H), none] ((List.range H.length).map iD) h = .ok ((List.range H.length).map fun i => oD (momB H i)) h := by
    intro all0
    exact comp_all _ _ _ fun i hi => ⟨[some (hD H), some (iD i)], rfl, by simp [moment_of_ok w (List.mem_range.mp hi)]⟩
  have er : rangeD 0 H.length = (List.range H.length).map iD := rangeD_eq _
  have c1 : okR (H.length : Int) := ⟨by omega, by omega⟩
  have c4 : H.length ≤ big := by rw [big_eq]; omega
  simp [m_moments, mDef, b_moments, check_history_ok w, c1, er, c4, wipeG, hc]
theorem by_snapshots_ok {h : AH} {H : List Deal} (w : Wf H) : m_by_snapshots [hD H] h = .ok (.bl ((List.range H.length).all fun i => (momB H i).isSome)) h := by
  have hl := w.len
  have hc : ∀ (all0 : List D), compGo (.nm 1) tYesM (mN m_moment_of (aCons (mV 0) (aCons (mV 1) aNil))) none all0 [some (hD H), none] ((List.range H.length).map iD) h = .ok ((List.range H.length).map fun i => oD (momB H i)) h := by
    intro all0
    exact comp_all _ _ _ fun i hi => ⟨[some (hD H), some (iD i)], rfl, by simp [moment_of_ok w (List.mem_range.mp hi)]⟩
  have er : rangeD 0 H.length = (List.range H.length).map iD := rangeD_eq _
  have c1 : okR (H.length : Int) := ⟨by omega, by omega⟩
  have c4 : H.length ≤ big := by rw [big_eq]; omega
  simp [m_by_snapshots, mDef, b_by_snapshots, check_history_ok w, c1, er, c4, wipeG, hc]
end My
/-! edges_of, plain and as it runs -/
namespace My
open PySem AB L2
noncomputable def kT : Fin 3 → Str
  | 0 => "wrote"
  | 1 => "read"
  | 2 => "over"
theorem kT_ok (k : Fin 3) : PyData.strOk (kT k) = true := by
  revert k
  decide +kernel
noncomputable abbrev Edge := Nat × Nat × Fin 3 × Int
noncomputable def eD (e : Edge) : D := .tup [.int (e.1 : Int), .int (e.2.1 : Int), .str (kT e.2.2.1), .int e.2.2.2]
noncomputable def eP (e : Edge) : PyData := .tuple [.int (e.1 : Int), .int (e.2.1 : Int), .str (kT e.2.2.1), .int e.2.2.2]
noncomputable def wroteE (F : List Deal) (i : Nat) (k : Int) : List Edge := ((ws F k).filter fun o : Nat => decide (i < o)).map fun o => (i, o, 0, k)
noncomputable def nextW (F : List Deal) (k s : Int) : Option Nat := ((ws F k).filter fun o : Nat => decide (s < (o : Int))).head?
noncomputable def overE (F : List Deal) (i : Nat) (r : Int × Int) : List Edge := match nextW F r.1 r.2 with
  | some b => if b = i then [] else [(i, b, 2, r.1)]
  | none => []
noncomputable def readE (F : List Deal) (i : Nat) (r : Int × Int) : List Edge := (if r.2 = -1 then [] else [((r.2.toNat, i, 1, r.1) : Edge)]) ++ overE F i r
noncomputable def dealE (F : List Deal) (i : Nat) : List Edge := (wr F i).flatMap (wroteE F i) ++ (rd F i).flatMap (readE F i)
noncomputable def edgesE (F : List Deal) : List Edge := (List.range F.length).flatMap (dealE F)
section
variable {h : AH} {F : List Deal}
theorem next_writer_ok (w : Wf F) (k s : Int) : m_next_writer [hD F, .int k, .int s] h = .ok (oD (nextW F k s)) h := by
  have hl := w.len
  have hw := writers_ok (h := h) F k (by omega)
  have e1 : ∀ G3 G4 : Option D, (sSet 3 (mL (lComp (.nm 4) [4] (iSeq (mL (lN m_writers (aCons (mV 0) (aCons (mV 1) aNil))))) (tBl (mOp2 cGt (mV 4) (mV 2))) (mV 4)))) [some (hD F), some (.int k), some (.int s), none, none] h =
      .next [some (hD F), some (.int k), some (.int s), some (.lst (((ws F k).filter fun o : Nat => decide (s < (o : Int))).map iD)), none] h := by
    intro G3 G4
    have hc : ∀ all0, compGo (.nm 4) (tBl (mOp2 cGt (mV 4) (mV 2))) (mV 4) none all0 [some (hD F), some (.int k), some (.int s), none, none] ((ws F k).map iD) h = .ok (((ws F k).filter fun o : Nat => decide (s < (o : Int))).map iD) h := by
      intro all0
      refine comp_ok _ (fun o : Nat => decide (s < (o : Int))) _ _ fun o ho => ?_
      exact ⟨_, rfl, by simp [iD], by simp⟩
    have hb : ((ws F k).map iD).length ≤ big := by
      rw [List.length_map, big_eq]
      have := ws_le (H := F) (k := k)
      omega
    have hw2 : m_writers [hD F, .int k] h = .ok ((ws F k).map iD) h := hw
    simp only [v_sSet, v_mL, v_lComp, v_iSeq, v_lN, v_aCons, v_aNil, v_mV, List.getElem?_cons_succ, List.getElem?_cons_zero, Res.bind_ok, hw2, hb, if_true, wipeG, List.set_cons_succ, List.set_cons_zero, hc, Res.toS_ok]
  have eb : b_next_writer [some (hD F), some (.int k), some (.int s), none, none] h = .ret (oD (nextW F k s)) h := by
    unfold b_next_writer
    rw [v_sSeq, e1 none none, SR.andThen_next]
    unfold nextW
    cases hq : (ws F k).filter fun o : Nat => decide (s < (o : Int)) with
    | nil => simp [oD]
    | cons o r =>
      have : ¬((r.length : Int) + 1 = 0) := by omega
      simp [oD, iD, this]
  simp [m_next_writer, mDef, eb]
theorem nextW_lt {k s : Int} {b : Nat} (e : nextW F k s = some b) : b < F.length ∧ s < b ∧ k ∈ wr F b := by
  unfold nextW at e
  have := List.mem_of_head? e
  obtain ⟨h1, h2⟩ := List.mem_filter.mp this
  obtain ⟨h3, h4⟩ := List.mem_filter.mp h1
  exact ⟨List.mem_range.mp h3, of_decide_eq_true h2, of_decide_eq_true h4⟩
/-! the loops -/
noncomputable def lw : Ms := sSeq (sExpr (mBM fExt (mV 1) (aCons (mL (lComp (.nm 7) [7] (iSeq (mL (lN m_writers (aCons (mV 0) (aCons (mV 4) aNil))))) (tBl (mOp2 cGt (mV 7) (mV 2))) (mN fTup (aCons (mV 2) (aCons (mV 7) (aCons (mC (.str "wrote")) (aCons (mV 4) aNil))))))) aNil))) sNil
noncomputable def lr1 : Ms := sIf (tBl (mOp2 fNe (mV 5) (mOp1 fNeg (mC (.int 1))))) (sSeq (sExpr (mBM fApp (mV 1) (aCons (mN fTup (aCons (mV 5) (aCons (mV 2) (aCons (mC (.str "read")) (aCons (mV 4) aNil))))) aNil))) sNil) sNil
noncomputable def lr2 : Ms := sSet 6 (mN m_next_writer (aCons (mV 0) (aCons (mV 4) (aCons (mV 5) aNil))))
noncomputable def lr3 : Ms := sIf (tAndM (tBl (mOp2 fNotN (mV 6) (mC .non))) (tBl (mOp2 fNe (mV 6) (mV 2)))) (sSeq (sExpr (mBM fApp (mV 1) (aCons (mN fTup (aCons (mV 2) (aCons (mV 6) (aCons (mC (.str "over")) (aCons (mV 4) aNil))))) aNil))) sNil) sNil
noncomputable def lr : Ms := sSeq lr1 (sSeq lr2 (sSeq lr3 sNil))
noncomputable def ld : Ms := sSeq (sFor (.nm 4) (iSeq (mOp2 fIx (mV 3) (mC (.int 1)))) lw) (sSeq (sFor (.tp [(.nm 4), (.nm 5)]) (iSeq (mOp2 fIx (mV 3) (mC (.int 0)))) lr) sNil)
theorem edges_eq : b_edges_of = sSeq (sSet 1 (mNew (lLst aNil))) (sSeq (sFor (.tp [(.nm 2), (.nm 3)]) (iEnum (aCons (mV 0) aNil)) ld) (sSeq (sRet (mNew (lN fSorted (aCons (mV 1) aNil)))) sNil)) := rfl
/-- the place in edges_of's frame -/
noncomputable def En (F : List Deal) (h : AH) (i : Nat) (a b c d : Option D) : AB.Env := [some (hD F), some (.loc h.length), some (iD i), some (dD (F.getD i nilD)), a, b, c, d]
theorem hl1 (h : AH) (x : AO) : (h ++ [x])[h.length]? = some x := by simp
theorem hs1 (h : AH) (x y : AO) : (h ++ [x]).set h.length y = h ++ [y] := by simp
theorem lw_ok (w : Wf F) {i : Nat} (k : Int) {es : List Edge} (he : es.length ≤ 500000) (b c d : Option D) :
    lw (En F h i (some (.int k)) b c none) (h ++ [.lst (es.map eD)]) = .next (En F h i (some (.int k)) b c none) (h ++ [.lst ((es ++ wroteE F i k).map eD)]) := by
  have hl := w.len
  have hw : m_writers [hD F, .int k] (h ++ [.lst (es.map eD)]) = .ok ((ws F k).map iD) (h ++ [.lst (es.map eD)]) := writers_ok F k (by omega)
  have hc : ∀ all0, compGo (.nm 7) (tBl (mOp2 cGt (mV 7) (mV 2))) (mN fTup (aCons (mV 2) (aCons (mV 7) (aCons (mC (.str "wrote")) (aCons (mV 4) aNil))))) none all0 (En F h i (some (.int k)) b c none) ((ws F k).map iD) (h ++ [.lst (es.map eD)]) = .ok ((wroteE F i k).map eD) (h ++ [.lst (es.map eD)]) := by
    intro all0
    have := comp_ok (p := .nm 7) (t := tBl (mOp2 cGt (mV 7) (mV 2))) (e := mN fTup (aCons (mV 2) (aCons (mV 7) (aCons (mC (.str "wrote")) (aCons (mV 4) aNil))))) (all0 := all0) (G0 := En F h i (some (.int k)) b c none) (h := h ++ [.lst (es.map eD)])
      iD (fun o : Nat => decide (i < o)) (fun o => eD (i, o, 0, k)) (ws F k) fun o ho => ⟨En F h i (some (.int k)) b c (some (iD o)), rfl, by simp [En, iD], by
        intro _
        have b4 : (4 : Nat) ≤ big := by rw [big_eq]; omega
        simp [En, iD, eD, b4, kT]⟩
    rw [this]
    unfold wroteE
    rw [List.map_map]
    rfl
  have hb : ((ws F k).map iD).length ≤ big := by
    rw [List.length_map, big_eq]
    have := ws_le (H := F) (k := k)
    omega
  have hl2 : (wroteE F i k).length ≤ 12 := by
    unfold wroteE
    rw [List.length_map]
    have h1 := List.length_filter_le (fun o : Nat => decide (i < o)) (ws F k)
    have := ws_le (H := F) (k := k)
    omega
  have hb2 : (es.map eD).length + ((wroteE F i k).map eD).length ≤ big := by
    rw [List.length_map, List.length_map, big_eq]
    omega
  have g1 : (En F h i (some (.int k)) b c none)[1]? = some (some (.loc h.length)) := rfl
  have g0 : (En F h i (some (.int k)) b c none)[0]? = some (some (hD F)) := rfl
  have g4 : (En F h i (some (.int k)) b c none)[4]? = some (some (.int k)) := rfl
  have wi : wipeG (En F h i (some (.int k)) b c none) [7] = En F h i (some (.int k)) b c none := rfl
  have ex : fExt (.loc h.length) [.lst ((wroteE F i k).map eD)] (h ++ [.lst (es.map eD)]) = .ok .non (h ++ [.lst ((es ++ wroteE F i k).map eD)]) := by
    unfold fExt
    simp only [hl1]
    show (if (es.map eD).length + ((wroteE F i k).map eD).length ≤ big then Res.ok D.non ((h ++ [AO.lst (es.map eD)]).set h.length (.lst (es.map eD ++ (wroteE F i k).map eD))) else .stuck) = _
    rw [if_pos hb2, hs1, List.map_append]
  unfold lw
  simp only [v_sSeq, v_sExpr, v_mBM, v_mV, g1, Res.bind_ok, v_vLo, hl1, v_aCons, v_mL, v_lComp, v_iSeq, v_lN, g0, g4, v_aNil, hw, hb, if_true, wi, hc, ex, Res.toS_ok, SR.andThen_next, v_sNil]
theorem app1 {es : List Edge} (e : Edge) (he : es.length ≤ 900000) : fApp (.loc h.length) [eD e] (h ++ [.lst (es.map eD)]) = .ok .non (h ++ [.lst ((es ++ [e]).map eD)]) := by
  have hb : (es.map eD).length < big := by
    rw [List.length_map, big_eq]
    omega
  rw [v_app]
  simp only [hl1]
  rw [if_pos hb, hs1, List.map_append]
  rfl
theorem lr_ok (w : Wf F) {i : Nat} (r : Int × Int) (hr : r.2 = -1 ∨ 0 ≤ r.2) {es : List Edge} (he : es.length ≤ 500000) (c : Option D) :
    ∃ c', lr (En F h i (some (.int r.1)) (some (.int r.2)) c none) (h ++ [.lst (es.map eD)]) = .next (En F h i (some (.int r.1)) (some (.int r.2)) c' none) (h ++ [.lst ((es ++ readE F i r).map eD)]) := by
  have b4 : (4 : Nat) ≤ big := by rw [big_eq]; omega
  have c1 : lr1 (En F h i (some (.int r.1)) (some (.int r.2)) c none) (h ++ [.lst (es.map eD)]) = .next (En F h i (some (.int r.1)) (some (.int r.2)) c none) (h ++ [.lst ((es ++ (if r.2 = -1 then [] else [((r.2.toNat, i, 1, r.1) : Edge)])).map eD)]) := by
    by_cases z : r.2 = -1
    · rw [if_pos z, List.append_nil]
      unfold lr1
      simp [En, z]
    · rw [if_neg z]
      have z2 : 0 ≤ r.2 := by omega
      have ap := app1 (h := h) ((r.2.toNat, i, 1, r.1) : Edge) (es := es) (by omega)
      have ed : eD ((r.2.toNat, i, 1, r.1) : Edge) = .tup [.int r.2, .int (i : Int), .str "read", .int r.1] := by
        show D.tup [.int ((r.2.toNat : Nat) : Int), .int (i : Int), .str "read", .int r.1] = _
        rw [Int.toNat_of_nonneg z2]
      rw [ed] at ap
      unfold lr1
      simp only [En, v_sIf, v_tBl, v_mOp2, v_mOp1, v_mV, v_mC, v_neg, List.getElem?_cons_succ, List.getElem?_cons_zero, Res.bind_ok, v_ne, decide_eq_false z, Bool.not_false, if_true, Res.toS_ok, v_sSeq, v_sExpr, v_mBM, v_vLo, hl1, v_aCons, v_aNil, v_mN, v_fTup, List.length_cons, List.length_nil, Nat.zero_add, Nat.reduceAdd, b4, iD, ap, SR.andThen_next, v_sNil]
  generalize hes : es ++ (if r.2 = -1 then [] else [((r.2.toNat, i, 1, r.1) : Edge)]) = es1 at c1
  have he1 : es1.length ≤ 500001 := by
    rw [← hes, List.length_append]
    split <;> simp <;> omega
  have c2 : lr2 (En F h i (some (.int r.1)) (some (.int r.2)) c none) (h ++ [.lst (es1.map eD)]) = .next (En F h i (some (.int r.1)) (some (.int r.2)) (some (oD (nextW F r.1 r.2))) none) (h ++ [.lst (es1.map eD)]) := by
    unfold lr2
    simp only [En, v_sSet, v_mN, v_aCons, v_aNil, v_mV, List.getElem?_cons_succ, List.getElem?_cons_zero, Res.bind_ok, next_writer_ok w, Res.toS_ok, List.set_cons_succ, List.set_cons_zero]
  have c3 : lr3 (En F h i (some (.int r.1)) (some (.int r.2)) (some (oD (nextW F r.1 r.2))) none) (h ++ [.lst (es1.map eD)]) = .next (En F h i (some (.int r.1)) (some (.int r.2)) (some (oD (nextW F r.1 r.2))) none) (h ++ [.lst ((es1 ++ overE F i r).map eD)]) := by
    unfold lr3 overE
    cases q : nextW F r.1 r.2 with
    | none =>
      have en : fNotN .non .non (h ++ [.lst (es1.map eD)]) = .ok (.bl false) (h ++ [.lst (es1.map eD)]) := rfl
      simp [En, oD, en]
    | some b =>
      have en : fNotN (oD (some b)) .non (h ++ [.lst (es1.map eD)]) = .ok (.bl true) (h ++ [.lst (es1.map eD)]) := rfl
      by_cases z : b = i
      · have zz : decide ((b : Int) = (i : Int)) = true := decide_eq_true (by omega)
        simp only [En, v_sIf, v_tAnd, v_tBl, v_mOp2, v_mV, v_mC, List.getElem?_cons_succ, List.getElem?_cons_zero, Res.bind_ok, en, if_true]
        simp [oD, iD, z]
      · have zz : decide ((b : Int) = (i : Int)) = false := decide_eq_false (by omega)
        have ap := app1 (h := h) ((i, b, 2, r.1) : Edge) (es := es1) (by omega)
        have ed : eD ((i, b, 2, r.1) : Edge) = .tup [.int (i : Int), .int (b : Int), .str "over", .int r.1] := rfl
        rw [ed] at ap
        simp only [En, v_sIf, v_tAnd, v_tBl, v_mOp2, v_mV, v_mC, List.getElem?_cons_succ, List.getElem?_cons_zero, Res.bind_ok, en, if_true]
        simp only [oD, iD, v_ne, zz, Bool.not_false, Res.bind_ok, if_true, Res.toS_ok, v_sSeq, v_sExpr, v_mBM, v_mV, List.getElem?_cons_succ, List.getElem?_cons_zero, v_vLo, hl1, v_aCons, v_aNil, v_mC, v_mN, v_fTup, List.length_cons, List.length_nil, Nat.zero_add, Nat.reduceAdd, b4, ap, SR.andThen_next, v_sNil, if_neg z]
  refine ⟨some (oD (nextW F r.1 r.2)), ?_⟩
  unfold lr
  rw [v_sSeq, c1, SR.andThen_next, v_sSeq, c2, SR.andThen_next, v_sSeq, c3, SR.andThen_next, v_sNil]
  unfold readE
  rw [← hes, List.append_assoc]
theorem wroteE_len (w : Wf F) (i : Nat) (k : Int) : (wroteE F i k).length ≤ 12 := by
  have hl := w.len
  unfold wroteE
  rw [List.length_map]
  have h1 := List.length_filter_le (fun o : Nat => decide (i < o)) (ws F k)
  have := ws_le (H := F) (k := k)
  omega
theorem overE_len (i : Nat) (r : Int × Int) : (overE F i r).length ≤ 1 := by
  unfold overE
  split
  · split <;> simp
  · simp
theorem readE_len (i : Nat) (r : Int × Int) : (readE F i r).length ≤ 2 := by
  unfold readE
  rw [List.length_append]
  have := overE_len (F := F) i r
  split <;> simp <;> omega
theorem flat_len {α β : Type} (f : α → List β) (B : Nat) (hf : ∀ x, (f x).length ≤ B) : ∀ l : List α, (l.flatMap f).length ≤ l.length * B
  | [] => by simp
  | x :: l => by
    rw [List.flatMap_cons, List.length_append, List.length_cons, Nat.succ_mul]
    have := flat_len f B hf l
    have := hf x
    omega
theorem ld_ok (w : Wf F) {i : Nat} (hi : i < F.length) {es : List Edge} (he : es.length ≤ 400000) (a b c : Option D) :
    ∃ a' b' c', ld (En F h i a b c none) (h ++ [.lst (es.map eD)]) = .next (En F h i a' b' c' none) (h ++ [.lst ((es ++ dealE F i).map eD)]) := by
  have g3 : ∀ a b c d, (En F h i a b c d)[3]? = some (some (.tup [.tup ((rd F i).map rD), .tup ((wr F i).map .int)])) := fun a b c d => rfl
  have lw1 : (wr F i).length ≤ 1000 := (w.w i hi).len
  have lr1' : (rd F i).length ≤ 1000 := (w.r i hi).len
  obtain ⟨G1, h1, e1, a1, rfl, rfl⟩ := for_pre (p := .nm 4) (body := lw) (all0 := (wr F i).map .int) (fun (done : List Int) G hh => ∃ a', G = En F h i a' b c none ∧ hh = h ++ [.lst ((es ++ done.flatMap (wroteE F i)).map eD)]) D.int (wr F i) (wr F i) [] rfl
    (by
      rintro done k rest ed G hh ⟨a', rfl, rfl⟩
      have hd : done.length ≤ 1000 := by
        have := congrArg List.length ed
        rw [List.length_append, List.length_cons] at this
        omega
      have hf := flat_len (wroteE F i) 12 (wroteE_len w i) done
      refine ⟨En F h i (some (.int k)) b c none, _, _, rfl, lw_ok w k (es := es ++ done.flatMap (wroteE F i)) (by rw [List.length_append]; omega) b c none, some (.int k), rfl, ?_⟩
      rw [List.flatMap_append, List.flatMap_cons, List.flatMap_nil, List.append_nil, List.append_assoc])
    (En F h i a b c none) (h ++ [.lst (es.map eD)]) ⟨a, rfl, by rw [List.flatMap_nil, List.append_nil]⟩
  have hf0 := flat_len (wroteE F i) 12 (wroteE_len w i) (wr F i)
  obtain ⟨G2, h2, e2, a2, b2, c2, rfl, rfl⟩ := for_pre (p := .tp [.nm 4, .nm 5]) (body := lr) (all0 := (rd F i).map rD) (fun (done : List (Int × Int)) G hh => ∃ a' b' c', G = En F h i a' b' c' none ∧ hh = h ++ [.lst (((es ++ (wr F i).flatMap (wroteE F i)) ++ done.flatMap (readE F i)).map eD)]) rD (rd F i) (rd F i) [] rfl
    (by
      rintro done r rest ed G hh ⟨a', b', c', rfl, rfl⟩
      have hd : done.length ≤ 1000 := by
        have := congrArg List.length ed
        rw [List.length_append, List.length_cons] at this
        omega
      have hf := flat_len (readE F i) 2 (readE_len i) done
      have hr : r.2 = -1 ∨ 0 ≤ r.2 := by
        rcases (w.r i hi).src r (by rw [← ed]; simp) with z | z
        · exact .inl z
        · exact .inr z.1
      obtain ⟨c'', e⟩ := lr_ok w r hr (i := i) (h := h) (es := (es ++ (wr F i).flatMap (wroteE F i)) ++ done.flatMap (readE F i)) (by rw [List.length_append, List.length_append]; omega) c'
      refine ⟨En F h i (some (.int r.1)) (some (.int r.2)) c' none, _, _, rfl, e, some (.int r.1), some (.int r.2), c'', rfl, ?_⟩
      simp only [List.flatMap_append, List.flatMap_cons, List.flatMap_nil, List.append_nil, List.append_assoc])
    (En F h i a1 b c none) (h ++ [.lst ((es ++ (wr F i).flatMap (wroteE F i)).map eD)]) ⟨a1, b, c, rfl, by rw [List.flatMap_nil, List.append_nil]⟩
  refine ⟨a2, b2, c2, ?_⟩
  unfold ld
  simp only [v_sSeq, v_sFor, v_iSeq, v_mOp2, v_mV, v_mC, g3, Res.bind_ok, v_ix, v_vSt, atI_1, atI_0, Res.toS_ok, e1, SR.andThen_next, e2, v_sNil]
  unfold dealE
  rw [List.append_assoc]
theorem edges_len (w : Wf F) : (edgesE F).length ≤ 168000 := by
    have hl := w.len
    unfold edgesE
    have : ∀ l : List Nat, (∀ j ∈ l, j < F.length) → (l.flatMap (dealE F)).length ≤ l.length * 14000 := by
      intro l
      induction l with
      | nil => intro _; simp
      | cons j l ih =>
        intro hj
        rw [List.flatMap_cons, List.length_append, List.length_cons, Nat.succ_mul]
        have := ih fun k hk => hj k (List.mem_cons_of_mem _ hk)
        have hj := hj j List.mem_cons_self
        have lw1 : (wr F j).length ≤ 1000 := (w.w j hj).len
        have lr1' : (rd F j).length ≤ 1000 := (w.r j hj).len
        have hf0 := flat_len (wroteE F j) 12 (wroteE_len w j) (wr F j)
        have hf1 := flat_len (readE F j) 2 (readE_len j) (rd F j)
        have : (dealE F j).length ≤ 14000 := by
          unfold dealE
          rw [List.length_append]
          omega
        omega
    have := this (List.range F.length) fun j hj => List.mem_range.mp hj
    rw [List.length_range] at this
    omega
/-! sorted -/
theorem toPs_e : ∀ es : List Edge, toPs (es.map eD) = some (es.map eP)
  | [] => rfl
  | e :: es => by
    show (match toP (eD e), toPs (es.map eD) with | some p, some ps => some (p :: ps) | _, _ => none) = _
    rw [toPs_e es]
    rfl
noncomputable def leE (a b : Edge) : Bool := leP (eP a) (eP b)
theorem sortD_e (es : List Edge) : sortD (es.map eD) (es.map eP) = (es.mergeSort leE).map eD := by
  unfold sortD
  have e : (es.map eD).zip (es.map eP) = es.map fun v => (eD v, eP v) := by
    rw [List.zip_map']
  rw [e]
  have e2 := (List.map_mergeSort (r := leE) (s := fun a b : D × PyData => leP a.2 b.2) (f := fun v => (eD v, eP v)) (l := es) (by
    intro a _ b _
    rfl)).symm
  rw [e2, List.map_map]
  rfl
theorem sortB_e (es : List Edge) (hl : es.length ≤ 1000000) : sortB (es.map eP) = true := by
  unfold sortB
  have h1 : alikeB (es.map eP) = true := by
    unfold alikeB
    rw [List.all_eq_true]
    intro a ha
    rw [List.all_eq_true]
    intro b hb
    obtain ⟨u, _, rfl⟩ := List.mem_map.mp ha
    obtain ⟨v, _, rfl⟩ := List.mem_map.mp hb
    simp [eP, PySem.W.alike, PySem.W.alikeAll]
  have h2 : (es.map eP).all isTupP = true := by
    rw [List.all_eq_true]
    intro a ha
    obtain ⟨u, _, rfl⟩ := List.mem_map.mp ha
    rfl
  have h3 : (es.map eP).all SeqAt.shaped = true := by
    rw [List.all_eq_true]
    intro a ha
    obtain ⟨u, _, rfl⟩ := List.mem_map.mp ha
    simp [eP, SeqAt.shaped, PyData.canLayAll0, PyData.canLay0, PyData.depthAll, PyData.depth, kT_ok]
  rw [h1, h2, h3, decide_eq_true (by rw [List.length_map, big_eq]; exact hl)]
  rfl
theorem under_e (n : Nat) : ∀ es : List Edge, underL n (es.map eD) = true
  | [] => rfl
  | e :: es => by
    simp [underL, eD, D.under, under_e n es]
theorem finL_at2 (h : AH) (o : AO) (ds : List D) (hd : underL h.length ds = true) : finL h.length h (.loc (h.length + 1)) (h ++ [o] ++ [.lst ds]) = .ok ds h := by
  have g : (h ++ [o] ++ [.lst ds])[h.length + 1]? = some (.lst ds) := by simp
  unfold finL
  simp only [g]
  rw [if_pos ⟨by omega, hd, by rw [List.append_assoc]; exact okCells_app h _⟩, List.append_assoc, List.take_left']
  rfl
theorem edges_of_ok (w : Wf F) : m_edges_of [hD F] h = .ok (((edgesE F).mergeSort leE).map eD) h := by
  have hl := w.len
  have b0 : (0 : Nat) ≤ big := Nat.zero_le _
  obtain ⟨G1, h1, e1, x2, x3, x4, x5, x6, rfl, rfl⟩ := for_pre (p := .tp [.nm 2, .nm 3]) (body := ld) (all0 := enumD (F.map dD)) (fun (done : List Nat) G hh => ∃ x2 x3 x4 x5 x6, G = [some (hD F), some (.loc h.length), x2, x3, x4, x5, x6, none] ∧ hh = h ++ [.lst ((done.flatMap (dealE F)).map eD)])
    (fun i => D.tup [.int (i : Int), (F.map dD).getD i .non]) (List.range F.length) (List.range F.length) [] rfl
    (by
      rintro done i rest ed G hh ⟨x2, x3, x4, x5, x6, rfl, rfl⟩
      have hd : done.length ≤ 12 := by
        have := congrArg List.length ed
        rw [List.length_append, List.length_cons, List.length_range] at this
        omega
      have hi : i < F.length := by
        have : i ∈ List.range F.length := by rw [← ed]; simp
        exact List.mem_range.mp this
      have hin : ∀ j, j ∈ done → j < F.length := fun j hj => by
        have : j ∈ List.range F.length := by rw [← ed]; simp [hj]
        exact List.mem_range.mp this
      have hf : ((done.flatMap (dealE F)).length) ≤ done.length * 14000 := by
        have : ∀ l : List Nat, (∀ j ∈ l, j < F.length) → (l.flatMap (dealE F)).length ≤ l.length * 14000 := by
          intro l
          induction l with
          | nil => intro _; simp
          | cons j l ih =>
            intro hj
            rw [List.flatMap_cons, List.length_append, List.length_cons, Nat.succ_mul]
            have := ih fun k hk => hj k (List.mem_cons_of_mem _ hk)
            have hj := hj j List.mem_cons_self
            have lw1 : (wr F j).length ≤ 1000 := (w.w j hj).len
            have lr1' : (rd F j).length ≤ 1000 := (w.r j hj).len
            have hf0 := flat_len (wroteE F j) 12 (wroteE_len w j) (wr F j)
            have hf1 := flat_len (readE F j) 2 (readE_len j) (rd F j)
            have : (dealE F j).length ≤ 14000 := by
              unfold dealE
              rw [List.length_append]
              omega
            omega
        exact this done hin
      obtain ⟨a', b', c', e⟩ := ld_ok w hi (h := h) (es := done.flatMap (dealE F)) (by omega) x4 x5 x6
      have ea : asg (.tp [.nm 2, .nm 3]) (D.tup [.int (i : Int), (F.map dD).getD i .non]) [some (hD F), some (.loc h.length), x2, x3, x4, x5, x6, none] = some (En F h i x4 x5 x6 none) := by
        rw [dD_getD hi]
        rfl
      refine ⟨_, _, _, ea, e, some (iD i), some (dD (F.getD i nilD)), a', b', c', rfl, ?_⟩
      rw [List.flatMap_append, List.flatMap_cons, List.flatMap_nil, List.append_nil])
    [some (hD F), some (.loc h.length), none, none, none, none, none, none] (h ++ [.lst []]) ⟨none, none, none, none, none, rfl, rfl⟩
  have hE := edges_len w
  have sr : ∀ hh : AH, hh = h ++ [.lst ((edgesE F).map eD)] → fSorted [.loc h.length] hh = .ok (((edgesE F).mergeSort leE).map eD) hh := by
    rintro hh rfl
    unfold fSorted
    simp only [v_vLo, hl1, toPs_e]
    rw [if_pos (sortB_e _ (by omega)), sortD_e]
  have ee : (iEnum (aCons (mV 0) aNil)) [some (hD F), some (.loc h.length), none, none, none, none, none, none] (h ++ [.lst []]) = .ok (enumD (F.map dD), none) (h ++ [.lst []]) := by
    simp [hD]
  have eb : b_edges_of [some (hD F), none, none, none, none, none, none, none] h = .ret (.loc (h.length + 1)) (h ++ [.lst ((edgesE F).map eD)] ++ [.lst (((edgesE F).mergeSort leE).map eD)]) := by
    rw [edges_eq]
    have en : enumD (F.map dD) = (List.range F.length).map fun i : Nat => D.tup [.int (i : Int), (F.map dD).getD i .non] := by
      rw [enumD_eq, List.length_map]
    rw [← en] at e1
    have hx : (edgesE F) = (List.range F.length).flatMap (dealE F) := rfl
    rw [← hx] at e1
    simp only [v_sSeq, v_sSet, v_mNew, v_lLst, v_aNil, Res.bind_ok, List.length_nil, b0, if_true, Res.toS_ok, List.set_cons_succ, List.set_cons_zero, SR.andThen_next, v_sFor, ee, e1, v_sRet, v_lN, v_aCons, v_mV, List.getElem?_cons_succ, List.getElem?_cons_zero, sr _ rfl, SR.andThen_ret, List.length_append, List.length_cons]
  unfold m_edges_of mDefL
  rw [if_pos (show [hD F].length = 1 from rfl)]
  show (match b_edges_of [some (hD F), none, none, none, none, none, none, none] h with
    | .ret d h1 => finL h.length h d h1
    | .exc c fs _ h1 => finX h.length h c fs h1
    | _ => .stuck) = _
  rw [eb]
  show finL h.length h (.loc (h.length + 1)) _ = _
  exact finL_at2 h _ _ (under_e _ _)
end
end My
/-! webs: dicts of the deals to which edges lead -/
namespace My
open PySem AB L2
/-- whether an edge leads from a to b -/
noncomputable def adjB (F : List Deal) (a b : Nat) : Bool := (edgesE F).any fun e => decide (e.1 = a) && decide (e.2.1 = b)
theorem edge_bd {F : List Deal} (w : Wf F) : ∀ e ∈ edgesE F, e.1 < F.length ∧ e.2.1 < F.length := by
  intro e he
  obtain ⟨i, hi, he⟩ := List.mem_flatMap.mp he
  have hi : i < F.length := List.mem_range.mp hi
  unfold dealE at he
  rcases List.mem_append.mp he with he | he
  · obtain ⟨k, hk, he⟩ := List.mem_flatMap.mp he
    obtain ⟨o, ho, rfl⟩ := List.mem_map.mp he
    have ho := (List.mem_filter.mp ho).1
    exact ⟨hi, List.mem_range.mp (List.mem_filter.mp ho).1⟩
  · obtain ⟨r, hr, he⟩ := List.mem_flatMap.mp he
    unfold readE at he
    rcases List.mem_append.mp he with he | he
    · split at he
      · cases he
      · rename_i z
        have he := List.mem_singleton.mp he
        subst he
        rcases (w.r i hi).src r hr with q | q
        · exact absurd q z
        · refine ⟨?_, hi⟩
          show r.2.toNat < F.length
          omega
    · unfold overE at he
      split at he
      · rename_i b eb
        split at he
        · cases he
        · have he := List.mem_singleton.mp he
          subst he
          exact ⟨hi, (nextW_lt eb).1⟩
      · cases he
theorem any_perm {α : Type} {a b : List α} (p : a.Perm b) (q : α → Bool) : a.any q = b.any q := by
  rw [← Bool.coe_iff_coe, List.any_eq_true, List.any_eq_true]
  exact ⟨fun ⟨x, h1, h2⟩ => ⟨x, p.mem_iff.mp h1, h2⟩, fun ⟨x, h1, h2⟩ => ⟨x, p.mem_iff.mpr h1, h2⟩⟩
/-- the dicts, after some edges -/
structure Web (E : List Edge) (n : Nat) (T : AH) : Prop where
  len : T.length = n
  row : ∀ i, i < n → ∃ kvs : KD, T[i]? = some (.dct kvs) ∧ kvs.length ≤ E.length ∧ ∀ b : Nat, (valD kvs (.inl (b : Int))).isSome = E.any fun e => decide (e.1 = i) && decide (e.2.1 = b)
theorem put_len (kvs : KD) (k : L2.Key) (d : D) : (putKD kvs k d).length ≤ kvs.length + 1 := by
  unfold putKD
  split <;> simp
theorem val_put (kvs : KD) (k k2 : L2.Key) (d : D) : (valD (putKD kvs k d) k2).isSome = ((valD kvs k2).isSome || decide (k = k2)) := by
  have e : ∀ l : KD, (valD l k2).isSome = l.any fun kv => decide (kv.1 = k2) := fun l => by
    unfold valD
    rw [Option.isSome_map, ← Bool.coe_iff_coe, List.find?_isSome, List.any_eq_true]
  rw [e, e]
  unfold putKD
  split
  · rename_i c
    rw [List.any_map]
    have : (kvs.any ((fun kv : L2.Key × D => decide (kv.1 = k2)) ∘ fun kv => if kv.1 = k then (kv.1, d) else kv)) = kvs.any fun kv => decide (kv.1 = k2) := by
      congr 1
      funext kv
      show decide ((if kv.1 = k then (kv.1, d) else kv).1 = k2) = _
      split <;> rfl
    rw [this]
    by_cases z : k = k2
    · subst z
      rw [c]
      rfl
    · rw [decide_eq_false z, Bool.or_false]
  · rw [List.any_append]
    simp
section
variable {h : AH} {F : List Deal}
theorem comp_new (p : Pat) (hp : ∀ d G, ∃ G1, asg p d G = some G1) {all0 : List D} {G : AB.Env} : ∀ (xs : List D) (h : AH), compGo p tYesM mDNew none all0 G xs h = .ok ((List.range' h.length xs.length).map fun i => .loc i) (h ++ List.replicate xs.length (.dct []))
  | [], h => by simp [compGo, Still]
  | x :: xs, h => by
    obtain ⟨G1, e1⟩ := hp x G
    unfold compGo
    rw [if_pos (by trivial), e1]
    simp only [v_yes, Res.noX_ok, Res.bind_ok, if_true, v_mDNew, comp_new p hp xs]
    rw [List.length_append, List.length_cons, List.length_nil, Nat.zero_add, List.length_cons, List.range'_succ, List.replicate_succ, List.append_assoc]
    rfl
noncomputable def locs (n m : Nat) : List D := (List.range' m n).map fun i => D.loc i
theorem loc_at {n m a : Nat} (ha : a < n) : atI (locs n m) (a : Int) = some (.loc (m + a)) := by
  refine atI_nat (by omega) ?_
  show (locs n m)[((a : Int)).toNat]? = _
  rw [Int.toNat_natCast]
  unfold locs
  rw [List.getElem?_map, List.getElem?_range' ha]
  simp
noncomputable def lweb : Ms := sSeq (sDPutM (mOp2 fIx (mV 1) (mV 2)) (mV 3) (mC (.bl true))) sNil
theorem web_put {E : List Edge} {n : Nat} {T : AH} (w : Web E n T) {e : Edge} (h1 : e.1 < n) (hE : E.length ≤ 200000) (x4 : Option D) (x0 : D) :
    ∃ T', lweb [some x0, some (.lst (locs n h.length)), some (.int (e.1 : Int)), some (.int (e.2.1 : Int)), x4] (h ++ T) = .next [some x0, some (.lst (locs n h.length)), some (.int (e.1 : Int)), some (.int (e.2.1 : Int)), x4] (h ++ T') ∧ Web (E ++ [e]) n T' := by
  obtain ⟨kvs, g, hk, hv⟩ := w.row e.1 h1
  have g2 : (h ++ T)[h.length + e.1]? = some (.dct kvs) := by rw [List.getElem?_append_right (by omega), Nat.add_sub_cancel_left]; exact g
  have s2 : ∀ x, (h ++ T).set (h.length + e.1) x = h ++ T.set e.1 x := fun x => by rw [List.set_append_right _ _ (by omega), Nat.add_sub_cancel_left]
  have hb : kvs.length < big := by rw [big_eq]; omega
  refine ⟨T.set e.1 (.dct (putKD kvs (.inl (e.2.1 : Int)) (.bl true))), ?_, ?_, ?_⟩
  · have ix : fIx (.lst (locs n h.length)) (.int (e.1 : Int)) (h ++ T) = .ok (.loc (h.length + e.1)) (h ++ T) := by
      rw [v_ix]
      simp only [v_vSl, loc_at h1]
    unfold lweb sDPutM
    simp only [v_sSeq, v_mC, Res.toS_ok, v_mOp2, v_mV, List.getElem?_cons_succ, List.getElem?_cons_zero, Res.bind_ok, ix, g2, toKey, hb, if_true, s2, SR.andThen_next, v_sNil]
  · rw [List.length_set]; exact w.len
  · intro i hi
    by_cases z : i = e.1
    · subst z
      refine ⟨_, by rw [List.getElem?_set_self (by rw [w.len]; exact hi)], ?_, fun b => ?_⟩
      · have := put_len kvs (.inl (e.2.1 : Int)) (.bl true)
        rw [List.length_append]
        simp
        omega
      · rw [val_put, hv, List.any_append]
        congr 1
        simp only [List.any_cons, List.any_nil, Bool.or_false, decide_true, Bool.true_and]
        by_cases y : e.2.1 = b
        · subst y; simp
        · rw [decide_eq_false y]
          exact decide_eq_false fun q => y (by injection q with q; omega)
    · obtain ⟨kv2, g3, hk3, hv3⟩ := w.row i hi
      refine ⟨kv2, by rw [List.getElem?_set_ne (Ne.symm z)]; exact g3, by rw [List.length_append]; omega, fun b => ?_⟩
      rw [hv3, List.any_append]
      simp [Ne.symm z]
theorem web_nil (n : Nat) : Web [] n (List.replicate n (.dct [])) where
  len := by simp
  row := fun i hi => ⟨[], by simp [hi], by simp, fun b => rfl⟩
/-- the webs of a history, as they lie -/
noncomputable def WebOf (F : List Deal) (T : AH) : Prop := T.length = F.length ∧ ∀ i, i < F.length → ∃ kvs : KD, T[i]? = some (.dct kvs) ∧ ∀ b : Nat, (valD kvs (.inl (b : Int))).isSome = adjB F i b
theorem webs_ok (w : Wf F) : ∃ T, m_webs [hD F] h = .ok (.lst (locs F.length h.length)) (h ++ T) ∧ WebOf F T := by
  have hl := w.len
  have hE : (edgesE F).length ≤ 168000 := edges_len w
  generalize hes : (edgesE F).mergeSort leE = es
  have hp : es.Perm (edgesE F) := by rw [← hes]; exact List.mergeSort_perm _ _
  have eo : ∀ hh : AH, m_edges_of [hD F] hh = .ok (es.map eD) hh := fun hh => by rw [← hes]; exact edges_of_ok w
  have hb : (F.map dD).length ≤ big := by rw [List.length_map, big_eq]; omega
  have e1 : (sSet 1 (mL (lComp (.nm 4) [4] (iSeq (mV 0)) tYesM mDNew))) [some (hD F), none, none, none, none] h = .next [some (hD F), some (.lst (locs F.length h.length)), none, none, none] (h ++ List.replicate F.length (.dct [])) := by
    have c := comp_new (.nm 4) (fun d G => ⟨_, rfl⟩) (all0 := F.map dD) (G := [some (hD F), none, none, none, none]) (F.map dD) h
    rw [List.length_map] at c
    have wi : wipeG [some (hD F), none, none, none, none] [4] = [some (hD F), none, none, none, none] := rfl
    have is : (iSeq (mV 0)) [some (hD F), none, none, none, none] h = .ok (F.map dD, none) h := rfl
    simp only [v_sSet, v_mL, v_lComp, is, Res.bind_ok, hb, if_true, wi, c, Res.toS_ok, List.set_cons_succ, List.set_cons_zero]
    rfl
  obtain ⟨G2, h2, e2, x2, x3, x4, T, rfl, rfl, wb⟩ := for_pre (p := .tp [(.nm 2), (.nm 3), (.nm 4), (.nm 4)]) (body := lweb) (all0 := es.map eD) (fun (done : List Edge) G hh => ∃ x2 x3 x4 T, G = [some (hD F), some (.lst (locs F.length h.length)), x2, x3, x4] ∧ hh = h ++ T ∧ Web done F.length T) eD es es [] rfl
    (by
      rintro done e rest ed G hh ⟨x2, x3, x4, T, rfl, rfl, wb⟩
      have hm : e ∈ edgesE F := hp.mem_iff.mp (by rw [← ed]; simp)
      have hd : done.length ≤ 200000 := by
        have := congrArg List.length ed
        rw [List.length_append, List.length_cons, hp.length_eq] at this
        omega
      obtain ⟨T', e3, wb'⟩ := web_put (h := h) wb (edge_bd w e hm).1 hd (some (.int e.2.2.2)) (hD F)
      exact ⟨_, _, _, rfl, e3, _, _, _, T', rfl, rfl, wb'⟩)
    [some (hD F), some (.lst (locs F.length h.length)), none, none, none] (h ++ List.replicate F.length (.dct [])) ⟨none, none, none, _, rfl, rfl, web_nil _⟩
  refine ⟨T, ?_, wb.len, fun i hi => ?_⟩
  · have eb : b_webs [some (hD F), none, none, none, none] h = .ret (.lst (locs F.length h.length)) (h ++ T) := by
      have eq : b_webs = sSeq (sSet 1 (mL (lComp (.nm 4) [4] (iSeq (mV 0)) tYesM mDNew))) (sSeq (sFor (.tp [(.nm 2), (.nm 3), (.nm 4), (.nm 4)]) (iSeq (mL (lN m_edges_of (aCons (mV 0) aNil)))) lweb) (sSeq (sRet (mV 1)) sNil)) := rfl
      rw [eq, v_sSeq, e1, SR.andThen_next]
      simp only [v_sSeq, v_sFor, v_iSeq, v_mL, v_lN, v_aCons, v_aNil, v_mV, List.getElem?_cons_succ, List.getElem?_cons_zero, Res.bind_ok, eo, Res.toS_ok, e2, SR.andThen_next, v_sRet, SR.andThen_ret]
    unfold m_webs mDefK
    rw [if_pos (show [hD F].length = 1 from rfl)]
    have eb2 : b_webs (List.map some [hD F] ++ List.replicate (5 - 1) none) h = .ret (.lst (locs F.length h.length)) (h ++ T) := eb
    rw [eb2]
  · obtain ⟨kvs, g, _, hv⟩ := wb.row i hi
    refine ⟨kvs, g, fun b => ?_⟩
    rw [hv]
    unfold adjB
    exact any_perm hp _
end
end My
/-! order_of -/
namespace My
open PySem AB L2
/-- those of what is left that no edge from what is left leads to -/
noncomputable def readyL (F : List Deal) (lf : List Nat) : List Nat := lf.filter fun d => !(lf.any fun o => adjB F o d)
theorem intsD_iD : ∀ L : List Nat, intsD (L.map iD) = some (L.map fun q : Nat => (q : Int))
  | [] => rfl
  | q :: L => by
    have e : (q :: L).map iD = .int (q : Int) :: L.map iD := rfl
    rw [e]
    unfold intsD
    rw [intsD_iD L]
    rfl
theorem erase_iD (d : Nat) : ∀ L : List Nat, (L.map fun q : Nat => (q : Int)).erase (d : Int) = (L.erase d).map fun q : Nat => (q : Int)
  | [] => rfl
  | q :: L => by
    rw [List.map_cons, List.erase_cons, List.erase_cons]
    by_cases z : q = d
    · subst z
      simp
    · have z2 : ¬ ((q : Int) = (d : Int)) := by omega
      rw [if_neg (by simp [z2]), if_neg (by simp [z]), erase_iD d L]
      rfl
/-- what order_of hands back, and what is left then -/
noncomputable def OrdS (F : List Deal) (lf fd : List Nat) : Prop := readyL F lf = [] ∧ (fd ++ lf).Perm (List.range F.length)
section
variable {h : AH} {F : List Deal}
theorem fdin_ok {hh : AH} {n : Nat} {kvs : KD} {a : Int} (g : hh[n]? = some (.dct kvs)) : fDIn (.int a) (.loc n) hh = .ok (.bl (valD kvs (.inl a)).isSome) hh := by
  unfold fDIn dctAt
  simp only [g, toKey]
noncomputable def innM : Me := mN fAny (aCons (mL (lComp (.nm 6) [6] (iSeq (mV 2)) tYesM (mOp2 fDIn (mV 5) (mOp2 fIx (mV 1) (mV 6))))) aNil)
noncomputable def ob1 : Ms := sSet 4 (mL (lComp (.nm 5) [5] (iSeq (mV 2)) (tNotM (tOf innM)) (mV 5)))
noncomputable def ob2 : Ms := sIf (tBl (mOp2 fEq (mN fLen (aCons (mV 4) aNil)) (mC (.int 0)))) (sSeq (sRet (mN fTuple (aCons (mV 3) aNil))) sNil) sNil
noncomputable def ob3 : Ms := sExpr (mBM fApp (mV 3) (aCons (mOp2 fIx (mV 4) (mC (.int 0))) aNil))
noncomputable def ob4 : Ms := sExpr (mRem (mV 2) (mOp2 fIx (mV 4) (mC (.int 0))))
noncomputable def obB : Ms := sSeq ob1 (sSeq ob2 (sSeq ob3 (sSeq ob4 sNil)))
theorem order_eq : b_order_of = sSeq (sSet 1 (mN m_webs (aCons (mV 0) aNil))) (sSeq (sSet 2 (mNew (lRg1 (mN fLen (aCons (mV 0) aNil))))) (sSeq (sSet 3 (mNew (lLst aNil))) (sSeq (sWhile (tOf (mC (.bl true))) obB) sNil))) := rfl
noncomputable def Hp2 (h T : AH) (lf fd : List Nat) : AH := (h ++ T) ++ [.lst (lf.map iD), .lst (fd.map iD)]
noncomputable def Ge (F : List Deal) (h T : AH) (x4 x5 x6 : Option D) : AB.Env := [some (hD F), some (.lst (locs F.length h.length)), some (.loc (h ++ T).length), some (.loc ((h ++ T).length + 1)), x4, x5, x6]
theorem hp_l (T : AH) (lf fd : List Nat) : (Hp2 h T lf fd)[(h ++ T).length]? = some (.lst (lf.map iD)) := by unfold Hp2; simp
theorem hp_f (T : AH) (lf fd : List Nat) : (Hp2 h T lf fd)[(h ++ T).length + 1]? = some (.lst (fd.map iD)) := by unfold Hp2; rw [List.getElem?_append_right (by omega), Nat.add_sub_cancel_left]; rfl
theorem fLen_nil (hh : AH) : fLen [.lst []] hh = .ok (.int 0) hh := by
  rw [v_len (by intro x hx; cases hx)]
  rfl
theorem hp_sl (T : AH) (lf fd lf' : List Nat) : (Hp2 h T lf fd).set (h ++ T).length (.lst (lf'.map iD)) = Hp2 h T lf' fd := by unfold Hp2; simp
theorem hp_sf (T : AH) (lf fd fd' : List Nat) : (Hp2 h T lf fd).set ((h ++ T).length + 1) (.lst (fd'.map iD)) = Hp2 h T lf fd' := by unfold Hp2; rw [List.set_append_right _ _ (by omega), Nat.add_sub_cancel_left]; rfl
theorem web_in {T : AH} (wb : WebOf F T) (R : AH) {a b : Nat} (hb : b < F.length) : ∃ kvs, ((h ++ T) ++ R)[h.length + b]? = some (.dct kvs) ∧ fDIn (.int (a : Int)) (.loc (h.length + b)) ((h ++ T) ++ R) = .ok (.bl (adjB F b a)) ((h ++ T) ++ R) := by
  obtain ⟨kvs, g, hv⟩ := wb.2 b hb
  have hb2 : b < T.length := by rw [wb.1]; exact hb
  have g2 : ((h ++ T) ++ R)[h.length + b]? = some (.dct kvs) := by
    rw [List.getElem?_append_left (by rw [List.length_append]; omega), List.getElem?_append_right (by omega), Nat.add_sub_cancel_left]
    exact g
  exact ⟨kvs, g2, by rw [fdin_ok g2, hv]⟩
theorem inn_ok {T : AH} (wb : WebOf F T) {lf fd : List Nat} (hl : ∀ x ∈ lf, x < F.length) (hn : F.length ≤ 12) (hlen : lf.length ≤ 12) (x4 : Option D) {d : Nat} (x6 : Option D) :
    innM (Ge F h T x4 (some (iD d)) x6) (Hp2 h T lf fd) = .ok (.bl (lf.any fun o => adjB F o d)) (Hp2 h T lf fd) := by
  have st : Still (some (h ++ T).length) (lf.map iD) (Hp2 h T lf fd) := hp_l T lf fd
  have hc : compGo (.nm 6) tYesM (mOp2 fDIn (mV 5) (mOp2 fIx (mV 1) (mV 6))) (some (h ++ T).length) (lf.map iD) (Ge F h T x4 (some (iD d)) none) (lf.map iD) (Hp2 h T lf fd) = .ok (lf.map fun o => .bl (adjB F o d)) (Hp2 h T lf fd) := by
    have := comp_okS (p := .nm 6) (t := tYesM) (e := mOp2 fDIn (mV 5) (mOp2 fIx (mV 1) (mV 6))) (src := some (h ++ T).length) (all0 := lf.map iD) (G0 := Ge F h T x4 (some (iD d)) none) st iD (fun _ => true) (fun o => D.bl (adjB F o d)) lf fun o ho => ⟨Ge F h T x4 (some (iD d)) (some (iD o)), rfl, rfl, by
      intro _
      obtain ⟨kvs, g, e⟩ := web_in (h := h) wb [.lst (lf.map iD), .lst (fd.map iD)] (a := d) (hl o ho)
      have ix : fIx (.lst (locs F.length h.length)) (.int (o : Int)) (Hp2 h T lf fd) = .ok (.loc (h.length + o)) (Hp2 h T lf fd) := by
        rw [v_ix]
        simp only [v_vSl, loc_at (hl o ho)]
      simp only [Ge, v_mOp2, v_mV, List.getElem?_cons_succ, List.getElem?_cons_zero, Res.bind_ok, iD, ix]
      exact e⟩
    rw [this, List.filter_eq_self.mpr fun _ _ => rfl]
  have hb : (lf.map iD).length ≤ big := by rw [List.length_map, big_eq]; omega
  have wi : wipeG (Ge F h T x4 (some (iD d)) x6) [6] = Ge F h T x4 (some (iD d)) none := rfl
  have is : (iSeq (mV 2)) (Ge F h T x4 (some (iD d)) x6) (Hp2 h T lf fd) = .ok (lf.map iD, some (h ++ T).length) (Hp2 h T lf fd) := by
    have g2 : (Ge F h T x4 (some (iD d)) x6)[2]? = some (some (.loc (h ++ T).length)) := rfl
    simp only [v_iSeq, v_mV, g2, Res.bind_ok, hp_l]
  unfold innM
  simp only [v_mN, v_aCons, v_aNil, v_mL, v_lComp, is, Res.bind_ok, hb, if_true, wi, hc, v_any]
theorem ob1_ok {T : AH} (wb : WebOf F T) {lf fd : List Nat} (hl : ∀ x ∈ lf, x < F.length) (hn : F.length ≤ 12) (hlen : lf.length ≤ 12) (x4 : Option D) :
    ob1 (Ge F h T x4 none none) (Hp2 h T lf fd) = .next (Ge F h T (some (.lst ((readyL F lf).map iD))) none none) (Hp2 h T lf fd) := by
  have st : Still (some (h ++ T).length) (lf.map iD) (Hp2 h T lf fd) := hp_l T lf fd
  have hc : compGo (.nm 5) (tNotM (tOf innM)) (mV 5) (some (h ++ T).length) (lf.map iD) (Ge F h T x4 none none) (lf.map iD) (Hp2 h T lf fd) = .ok ((readyL F lf).map iD) (Hp2 h T lf fd) := by
    refine comp_okS (p := .nm 5) (t := tNotM (tOf innM)) (e := mV 5) (src := some (h ++ T).length) (all0 := lf.map iD) (G0 := Ge F h T x4 none none) st iD (fun d => !(lf.any fun o => adjB F o d)) iD lf fun d hd => ⟨Ge F h T x4 (some (iD d)) none, rfl, ?_, fun _ => rfl⟩
    simp only [v_tNot, v_tOf, inn_ok wb hl hn hlen x4 none, Res.bind_ok, v_truB]
  have hb : (lf.map iD).length ≤ big := by rw [List.length_map, big_eq]; omega
  have wi : wipeG (Ge F h T x4 none none) [5] = Ge F h T x4 none none := rfl
  have is : (iSeq (mV 2)) (Ge F h T x4 none none) (Hp2 h T lf fd) = .ok (lf.map iD, some (h ++ T).length) (Hp2 h T lf fd) := by
    have g2 : (Ge F h T x4 none none)[2]? = some (some (.loc (h ++ T).length)) := rfl
    simp only [v_iSeq, v_mV, g2, Res.bind_ok, hp_l]
  unfold ob1
  simp only [v_sSet, v_mL, v_lComp, is, Res.bind_ok, hb, if_true, wi, hc, Res.toS_ok]
  rfl
theorem obB_end {T : AH} (wb : WebOf F T) {lf fd : List Nat} (hl : ∀ x ∈ lf, x < F.length) (hn : F.length ≤ 12) (hlen : lf.length ≤ 12) (x4 : Option D) (he : readyL F lf = []) :
    obB (Ge F h T x4 none none) (Hp2 h T lf fd) = .ret (.tup (fd.map iD)) (Hp2 h T lf fd) := by
  have g3 : ∀ x4 : Option D, (Ge F h T x4 none none)[3]? = some (some (.loc ((h ++ T).length + 1))) := fun _ => rfl
  have g4 : ∀ d : D, (Ge F h T (some d) none none)[4]? = some (some d) := fun _ => rfl
  unfold obB
  rw [v_sSeq, ob1_ok wb hl hn hlen, SR.andThen_next, he]
  unfold ob2
  simp only [v_sSeq, v_sIf, v_tBl, v_mOp2, v_mN, v_aCons, v_aNil, v_mV, g4, Res.bind_ok, List.map_nil, fLen_nil, v_mC, v_eq, decide_true, if_true, Res.toS_ok, v_sRet, g3, v_tuple, v_vSo, hp_f, SR.andThen_ret]
theorem obB_step {T : AH} (wb : WebOf F T) {lf fd : List Nat} (hl : ∀ x ∈ lf, x < F.length) (hn : F.length ≤ 12) (hlen : lf.length ≤ 12) (hf : fd.length ≤ 100) (x4 : Option D) {d : Nat} {r : List Nat} (he : readyL F lf = d :: r) :
    ∃ x4', obB (Ge F h T x4 none none) (Hp2 h T lf fd) = .next (Ge F h T x4' none none) (Hp2 h T (lf.erase d) (fd ++ [d])) := by
  have g3 : ∀ x4 : Option D, (Ge F h T x4 none none)[3]? = some (some (.loc ((h ++ T).length + 1))) := fun _ => rfl
  have g2 : ∀ x4 : Option D, (Ge F h T x4 none none)[2]? = some (some (.loc (h ++ T).length)) := fun _ => rfl
  have g4 : ∀ d : D, (Ge F h T (some d) none none)[4]? = some (some d) := fun _ => rfl
  have hd : d ∈ lf := by
    have : d ∈ readyL F lf := by rw [he]; exact List.mem_cons_self
    exact (List.mem_filter.mp this).1
  have b1 : (fd.map iD).length < big := by rw [List.length_map, big_eq]; omega
  refine ⟨some (.lst ((d :: r).map iD)), ?_⟩
  have c1 := ob1_ok (h := h) wb hl hn hlen (fd := fd) x4
  rw [he] at c1
  have c2 : ob2 (Ge F h T (some (.lst ((d :: r).map iD))) none none) (Hp2 h T lf fd) = .next (Ge F h T (some (.lst ((d :: r).map iD))) none none) (Hp2 h T lf fd) := by
    have z : ¬ ((((d :: r).map iD).length : Int) = 0) := by simp; omega
    have ln : fLen [.lst ((d :: r).map iD)] (Hp2 h T lf fd) = .ok (.int ((d :: r).map iD).length) (Hp2 h T lf fd) := by
      rw [v_len (by intro x hx; cases hx)]
      rfl
    unfold ob2
    simp only [v_sIf, v_tBl, v_mOp2, v_mN, v_aCons, v_aNil, v_mV, g4, Res.bind_ok, ln, v_mC, v_eq, decide_eq_false z, Bool.false_eq_true, if_false, Res.toS_ok, v_sNil]
  have ix : ∀ hh : AH, fIx (.lst ((d :: r).map iD)) (.int 0) hh = .ok (iD d) hh := fun hh => by
    rw [v_ix]
    simp only [v_vSl, List.map_cons, atI_0]
  have c3 : ob3 (Ge F h T (some (.lst ((d :: r).map iD))) none none) (Hp2 h T lf fd) = .next (Ge F h T (some (.lst ((d :: r).map iD))) none none) (Hp2 h T lf (fd ++ [d])) := by
    have ap : fApp (.loc ((h ++ T).length + 1)) [iD d] (Hp2 h T lf fd) = .ok .non (Hp2 h T lf (fd ++ [d])) := by
      rw [v_app]
      simp only [hp_f]
      rw [if_pos b1]
      have := hp_sf (h := h) T lf fd (fd ++ [d])
      rw [List.map_append] at this
      exact congrArg (fun x => Res.ok D.non x) this
    unfold ob3
    simp only [v_sExpr, v_mBM, v_mV, g3, Res.bind_ok, v_vLo, hp_f, v_aCons, v_aNil, v_mOp2, g4, v_mC, ix, ap, Res.toS_ok]
  have c4 : ob4 (Ge F h T (some (.lst ((d :: r).map iD))) none none) (Hp2 h T lf (fd ++ [d])) = .next (Ge F h T (some (.lst ((d :: r).map iD))) none none) (Hp2 h T (lf.erase d) (fd ++ [d])) := by
    have rm : remC (h ++ T).length (iD d) (Hp2 h T lf (fd ++ [d])) = .ok .non (Hp2 h T (lf.erase d) (fd ++ [d])) := by
      unfold remC
      simp only [iD, hp_l]
      have ei := intsD_iD lf
      have hm : (d : Int) ∈ lf.map fun q : Nat => (q : Int) := List.mem_map.mpr ⟨d, hd, rfl⟩
      have ei : intsD (lf.map fun i : Nat => D.int (i : Int)) = some (lf.map fun q : Nat => (q : Int)) := ei
      simp only [ei]
      rw [if_pos hm, erase_iD, List.map_map]
      have := hp_sl (h := h) T lf (fd ++ [d]) (lf.erase d)
      exact congrArg (fun x => Res.ok D.non x) this
    unfold ob4 mRem
    simp only [v_sExpr, v_mV, g2, Res.bind_ok, hp_l, v_mOp2, g4, v_mC, ix, rm, Res.toS_ok]
  unfold obB
  rw [v_sSeq, c1, SR.andThen_next, v_sSeq, c2, SR.andThen_next, v_sSeq, c3, SR.andThen_next, v_sSeq, c4, SR.andThen_next, v_sNil]
theorem while_step {t : MeT} {b : Ms} {G G2 : AB.Env} {h h1 h2 : AH} {r : SR} (e1 : t G h = .ok true h1) (e2 : b G h1 = .next G2 h2) (e3 : sWhile t b G2 h2 = r) (hr : r ≠ .stuck) : sWhile t b G h = r := by
  unfold sWhile at e3
  by_cases hx : ∃ n, whileGo t b n G2 h2 ≠ .stuck
  · rw [dif_pos hx] at e3
    refine while_ok (n := Classical.choose hx + 1) ?_ hr
    have e : whileGo t b (Classical.choose hx + 1) G h = (t G h).toS G fun c h1 => if c = true then
        match b G h1 with
        | .next G2 h2 => whileGo t b (Classical.choose hx) G2 h2
        | .cont G2 h2 => whileGo t b (Classical.choose hx) G2 h2
        | .brk G2 h2 => .next G2 h2
        | .ret x h2 => .ret x h2
        | .exc c fs G2 h2 => .exc c fs G2 h2
        | .stuck => .stuck
      else .next G h1 := rfl
    rw [e, e1]
    simp only [Res.toS_ok, if_true, e2]
    exact e3
  · rw [dif_neg hx] at e3
    exact absurd e3.symm hr
theorem while_ret {t : MeT} {b : Ms} {G : AB.Env} {h h1 h2 : AH} {d : D} (e1 : t G h = .ok true h1) (e2 : b G h1 = .ret d h2) : sWhile t b G h = .ret d h2 := by
  refine while_ok (n := 1) ?_ (by simp)
  unfold whileGo
  rw [e1]
  simp only [Res.toS_ok, if_true, e2]
theorem loop_ok {T : AH} (wb : WebOf F T) (hn : F.length ≤ 12) : ∀ (k : Nat) (lf fd : List Nat) (x4 : Option D), lf.length = k → (fd ++ lf).Perm (List.range F.length) →
    ∃ lf' fd', sWhile (tOf (mC (.bl true))) obB (Ge F h T x4 none none) (Hp2 h T lf fd) = .ret (.tup (fd'.map iD)) (Hp2 h T lf' fd') ∧ OrdS F lf' fd' := by
  intro k
  induction k with
  | zero =>
    intro lf fd x4 hk hp
    have : lf = [] := List.eq_nil_of_length_eq_zero hk
    subst this
    exact ⟨[], fd, while_ret rfl (obB_end wb (by intro x hx; cases hx) hn (by simp) x4 rfl), rfl, hp⟩
  | succ k ih =>
    intro lf fd x4 hk hp
    have hl : ∀ x ∈ lf, x < F.length := fun x hx => List.mem_range.mp (hp.mem_iff.mp (List.mem_append.mpr (.inr hx)))
    have hlen : fd.length + lf.length = F.length := by
      have := hp.length_eq
      rwa [List.length_append, List.length_range] at this
    cases q : readyL F lf with
    | nil => exact ⟨lf, fd, while_ret rfl (obB_end wb hl hn (by omega) x4 q), q, hp⟩
    | cons d r =>
      obtain ⟨x4', e⟩ := obB_step (h := h) wb hl hn (by omega) (fd := fd) (by omega) x4 q
      have hd : d ∈ lf := by
        have : d ∈ readyL F lf := by rw [q]; exact List.mem_cons_self
        exact (List.mem_filter.mp this).1
      obtain ⟨lf', fd', e2, o⟩ := ih (lf.erase d) (fd ++ [d]) x4' (by rw [List.length_erase_of_mem hd]; omega) (by
        refine List.Perm.trans ?_ hp
        rw [List.append_assoc]
        exact List.Perm.append_left _ (List.perm_cons_erase hd).symm)
      exact ⟨lf', fd', while_step rfl e e2 (by simp), o⟩
theorem under_iDs (n : Nat) : ∀ L : List Nat, underL n (L.map iD) = true
  | [] => rfl
  | q :: L => by simp [underL, iD, D.under, under_iDs n L]
theorem order_of_ok (w : Wf F) : ∃ lf fd, m_order_of [hD F] h = .ok (.tup (fd.map iD)) h ∧ OrdS F lf fd := by
  have hl := w.len
  obtain ⟨T, e1, wb⟩ := webs_ok (h := h) w
  obtain ⟨lf, fd, e4, o⟩ := loop_ok (h := h) wb hl F.length (List.range F.length) [] none (by simp) (by simp)
  refine ⟨lf, fd, ?_, o⟩
  have rg : (lRg1 (mN fLen (aCons (mV 0) aNil))) [some (hD F), some (.lst (locs F.length h.length)), none, none, none, none, none] (h ++ T) = .ok ((List.range F.length).map iD) (h ++ T) := by
    have c1 : okR (F.length : Int) := ⟨by omega, by omega⟩
    simp only [v_lRg1, v_mN, v_aCons, v_aNil, v_mV, List.getElem?_cons_zero, Res.bind_ok, len_hD, if_pos c1, Int.toNat_natCast, rangeD_eq]
  have b0 : (0 : Nat) ≤ big := Nat.zero_le _
  have eb : b_order_of [some (hD F), none, none, none, none, none, none] h = .ret (.tup (fd.map iD)) (Hp2 h T lf fd) := by
    rw [order_eq]
    have e5 : sWhile (tOf (mC (.bl true))) obB [some (hD F), some (.lst (locs F.length h.length)), some (.loc (h ++ T).length), some (.loc ((h ++ T).length + 1)), none, none, none] ((h ++ T) ++ [.lst ((List.range F.length).map iD)] ++ [.lst []]) = .ret (.tup (fd.map iD)) (Hp2 h T lf fd) := by
      have : (h ++ T) ++ [.lst ((List.range F.length).map iD)] ++ [.lst []] = Hp2 h T (List.range F.length) [] := by unfold Hp2; simp
      rw [this]
      exact e4
    simp only [v_sSeq, v_sSet, v_mN, v_aCons, v_aNil, v_mV, List.getElem?_cons_zero, Res.bind_ok, e1, Res.toS_ok, List.set_cons_succ, List.set_cons_zero, SR.andThen_next, v_mNew, rg, v_lLst, List.length_nil, b0, if_true]
    rw [show ((h ++ T) ++ [AO.lst ((List.range F.length).map iD)]).length = (h ++ T).length + 1 from by simp; omega, e5]
    rfl
  unfold m_order_of mDef
  rw [if_pos (show [hD F].length = 1 from rfl)]
  have eb2 : b_order_of (List.map some [hD F] ++ List.replicate (7 - 1) none) h = .ret (.tup (fd.map iD)) (Hp2 h T lf fd) := eb
  rw [eb2]
  have : Hp2 h T lf fd = h ++ (T ++ [.lst (lf.map iD), .lst (fd.map iD)]) := by unfold Hp2; rw [List.append_assoc]
  rw [this]
  exact finD_app h _ _ (by show underL _ _ = true; exact under_iDs _ _)
end
end My
/-! one_order, ring -/
namespace My
open PySem AB L2
section
variable {h : AH} {F : List Deal}
theorem map_iD (L : List Nat) : L.map iD = (L.map fun q : Nat => (q : Int)).map D.int := by rw [List.map_map]; rfl
theorem mem_cast (d : Nat) (L : List Nat) : decide ((d : Int) ∈ L.map fun q : Nat => (q : Int)) = decide (d ∈ L) := by
  refine decide_eq_decide.mpr ⟨fun hm => ?_, fun hm => List.mem_map.mpr ⟨d, hm, rfl⟩⟩
  obtain ⟨q, hq, e⟩ := List.mem_map.mp hm
  have : q = d := by omega
  exact this ▸ hq
theorem okP_iL {hh : AH} (ns : List Int) : okP hh (.lst (ns.map D.int)) = some (.list (ns.map PyData.int)) := by
  unfold okP
  have e : toPh hh (.lst (ns.map D.int)) = some (.list (ns.map PyData.int)) := by
    show (toPs (ns.map D.int)).map PyData.list = _
    rw [toPs_ints]
    rfl
  have sh : SeqAt.shaped (.list (ns.map PyData.int)) = true := by
    simp [SeqAt.shaped, PyData.canLay0, PyData.depth, lay_ints, dep_ints]
  rw [e]
  simp only [sh, if_true]
theorem notin_iT {hh : AH} (d : Nat) (L : List Nat) : fNotIn (.int (d : Int)) (.tup (L.map iD)) hh = .ok (.bl (!decide (d ∈ L))) hh := by
  unfold fNotIn inD
  rw [okP_int, map_iD, okP_ints]
  simp only [AB.any_ints, mem_cast]
theorem notin_iL {hh : AH} (d : Nat) (L : List Nat) : fNotIn (.int (d : Int)) (.lst (L.map iD)) hh = .ok (.bl (!decide (d ∈ L))) hh := by
  unfold fNotIn inD
  rw [okP_int, map_iD, okP_iL]
  simp only [AB.any_ints, mem_cast]
theorem one_order_ok (w : Wf F) : ∃ lf fd, m_one_order [hD F] h = .ok (if fd.length < F.length then .non else .tup (fd.map iD)) h ∧ OrdS F lf fd := by
  obtain ⟨lf, fd, e, o⟩ := order_of_ok (h := h) w
  refine ⟨lf, fd, ?_, o⟩
  have ln : fLen [.tup (fd.map iD)] h = .ok (.int fd.length) h := by
    rw [v_len (by intro x hx; cases hx)]
    simp
  have eb : b_one_order [some (hD F), none] h = .ret (if fd.length < F.length then .non else .tup (fd.map iD)) h := by
    unfold b_one_order
    simp only [v_sSeq, v_sExpr, v_mN, v_aCons, v_aNil, v_mV, List.getElem?_cons_zero, Res.bind_ok, check_history_ok w, Res.toS_ok, SR.andThen_next, v_sSet, e, List.set_cons_succ, List.set_cons_zero, v_sIf, v_tBl, v_mOp2, List.getElem?_cons_succ, ln, len_hD, v_cLt]
    by_cases z : fd.length < F.length
    · rw [if_pos (by simpa using z), if_pos z]
      simp
    · rw [if_neg (by simpa using z), if_neg z]
      simp
  simp [m_one_order, mDef, eb]
theorem nodup_sub : ∀ {a b : List Nat}, a.Nodup → (∀ k, k ∈ a → k ∈ b) → a.length ≤ b.length
  | [], _, _, _ => Nat.zero_le _
  | x :: a, b, nd, h => by
    have hx : x ∈ b := h x List.mem_cons_self
    obtain ⟨n1, n2⟩ := List.nodup_cons.mp nd
    have ih := nodup_sub (a := a) (b := b.erase x) n2 fun k hk => by
      have hne : k ≠ x := fun e => n1 (e ▸ hk)
      exact (List.mem_erase_of_ne hne).mpr (h k (List.mem_cons_of_mem _ hk))
    rw [List.length_erase_of_mem hx] at ih
    have : 0 < b.length := List.length_pos_of_mem hx
    simp only [List.length_cons]
    omega
theorem under_mem {n : Nat} : ∀ {ds : List D}, (∀ x ∈ ds, x.under n = true) → underL n ds = true
  | [], _ => rfl
  | d :: ds, h => by
    simp [underL, h d List.mem_cons_self, under_mem fun x hx => h x (List.mem_cons_of_mem _ hx)]
/-! the ring's row -/
noncomputable def He (h T : AH) (row : List Nat) : AH := (h ++ T) ++ [.lst (row.map iD)]
noncomputable def Gr (F : List Deal) (h T : AH) (fd L0 : List Nat) (x5 x6 : Option D) : AB.Env := [some (hD F), some (.lst (locs F.length h.length)), some (.tup (fd.map iD)), some (.lst (L0.map iD)), some (.loc (h ++ T).length), x5, x6]
theorem he_g (T : AH) (row : List Nat) : (He h T row)[(h ++ T).length]? = some (.lst (row.map iD)) := by unfold He; simp
theorem he_s (T : AH) (row row' : List Nat) : (He h T row).set (h ++ T).length (.lst (row'.map iD)) = He h T row' := by unfold He; simp
theorem last_iD {α : Type} (f : α → D) (pre : List α) (a : α) : atI ((pre ++ [a]).map f) (-1) = some (f a) := by
  have e1 : ixN ((pre ++ [a]).map f).length (-1) = some pre.length := by
    unfold ixN
    rw [if_neg (by omega), if_pos (by simp; omega)]
    simp
    omega
  unfold atI
  rw [e1]
  simp
theorem cut_last {α : Type} (f : α → D) (pre : List α) (a : α) : cutD ((pre ++ [a]).map f) none (some (-1)) = pre.map f := by
  unfold cutD
  have e1 : HT.sIx ((pre ++ [a]).map f).length ((pre ++ [a]).map f).length (some (-1)) = pre.length := by
    unfold HT.sIx
    simp only []
    rw [if_pos (by omega)]
    simp
    omega
  have e2 : HT.sIx ((pre ++ [a]).map f).length 0 none = 0 := rfl
  rw [e1, e2]
  simp
theorem ixlast {T : AH} (pre : List Nat) (a : Nat) : fIx (.loc (h ++ T).length) (.int (-1)) (He h T (pre ++ [a])) = .ok (iD a) (He h T (pre ++ [a])) := by
  rw [v_ix]
  simp only [v_vSo, he_g, last_iD]
noncomputable def rT : MeT := tBl (mOp2 fNotIn (mOp2 fIx (mV 4) (mOp1 fNeg (mC (.int 1)))) (mSl (mV 4) oNone (oSome (mOp1 fNeg (mC (.int 1))))))
noncomputable def rC : MeL := lComp (.nm 6) [6] (iSeq (mV 3)) (tBl (mOp2 fDIn (mOp2 fIx (mV 4) (mOp1 fNeg (mC (.int 1)))) (mOp2 fIx (mV 1) (mV 6)))) (mV 6)
noncomputable def rB : Ms := sSeq (sExpr (mBM fApp (mV 4) (aCons (mOp2 fIx (mL rC) (mC (.int 0))) aNil))) sNil
noncomputable def r3 : Ms := sSet 3 (mL (lComp (.nm 6) [6] (iRange1 (aCons (mN fLen (aCons (mV 0) aNil)) aNil)) (tBl (mOp2 fNotIn (mV 6) (mV 2))) (mV 6)))
noncomputable def rI : Ms := sIf (tBl (mOp2 fEq (mN fLen (aCons (mV 3) aNil)) (mC (.int 0)))) (sSeq (sRet (mC .non)) sNil) sNil
noncomputable def r4 : Ms := sSet 4 (mNew (lLst (aCons (mOp2 fIx (mV 3) (mC (.int 0))) aNil)))
noncomputable def r5 : Ms := sSet 5 (mSl (mV 4) (oSome (mBM fIdxD (mV 4) (aCons (mOp2 fIx (mV 4) (mOp1 fNeg (mC (.int 1)))) aNil))) (oSome (mOp1 fNeg (mC (.int 1)))))
noncomputable def r6 : Ms := sRet (mN fTuple (aCons (mRev (mV 5)) aNil))
theorem ring_eq : b_ring = sSeq (sExpr (mN m_check_history (aCons (mV 0) aNil))) (sSeq (sSet 1 (mN m_webs (aCons (mV 0) aNil))) (sSeq (sSet 2 (mN m_order_of (aCons (mV 0) aNil))) (sSeq r3 (sSeq rI (sSeq r4 (sSeq (sWhile rT rB) (sSeq r5 (sSeq r6 sNil)))))))) := rfl
theorem rT_ok {T : AH} (fd L0 pre : List Nat) (a : Nat) : rT (Gr F h T fd L0 none none) (He h T (pre ++ [a])) = .ok (!decide (a ∈ pre)) (He h T (pre ++ [a])) := by
  have g4 : (Gr F h T fd L0 none none)[4]? = some (some (.loc (h ++ T).length)) := rfl
  have sl : (mSl (mV 4) oNone (oSome (mOp1 fNeg (mC (.int 1))))) (Gr F h T fd L0 none none) (He h T (pre ++ [a])) = .ok (.lst (pre.map iD)) (He h T (pre ++ [a])) := by
    simp only [v_mSlT, v_mV, g4, Res.bind_ok, v_oNone, v_oSome, v_mOp1, v_mC, v_neg, v_vLo, he_g, cut_last]
  unfold rT
  simp only [v_tBl, v_mOp2, v_mV, g4, Res.bind_ok, v_mOp1, v_mC, v_neg, ixlast, sl, iD, notin_iL]
theorem rB_ok {T : AH} (wb : WebOf F T) {fd L0 pre : List Nat} {a b : Nat} {r : List Nat} (hn : F.length ≤ 12) (hl : ∀ x ∈ L0, x < F.length) (hL : L0.length ≤ 12) (hp : pre.length ≤ 100) (hq : (L0.filter fun d => adjB F d a) = b :: r) :
    rB (Gr F h T fd L0 none none) (He h T (pre ++ [a])) = .next (Gr F h T fd L0 none none) (He h T (pre ++ [a] ++ [b])) := by
  have g4 : ∀ x6 : Option D, (Gr F h T fd L0 none x6)[4]? = some (some (.loc (h ++ T).length)) := fun _ => rfl
  have hc : ∀ all0, compGo (.nm 6) (tBl (mOp2 fDIn (mOp2 fIx (mV 4) (mOp1 fNeg (mC (.int 1)))) (mOp2 fIx (mV 1) (mV 6)))) (mV 6) none all0 (Gr F h T fd L0 none none) (L0.map iD) (He h T (pre ++ [a])) = .ok ((b :: r).map iD) (He h T (pre ++ [a])) := by
    intro all0
    rw [← hq]
    refine comp_ok _ (fun d => adjB F d a) _ _ fun d hd => ⟨Gr F h T fd L0 none (some (iD d)), rfl, ?_, fun _ => rfl⟩
    obtain ⟨kvs, g, e⟩ := web_in (h := h) wb [.lst ((pre ++ [a]).map iD)] (a := a) (hl d hd)
    have ix : fIx (.lst (locs F.length h.length)) (.int (d : Int)) (He h T (pre ++ [a])) = .ok (.loc (h.length + d)) (He h T (pre ++ [a])) := by
      rw [v_ix]
      simp only [v_vSl, loc_at (hl d hd)]
    have g1 : (Gr F h T fd L0 none (some (iD d)))[1]? = some (some (.lst (locs F.length h.length))) := rfl
    have g6 : (Gr F h T fd L0 none (some (iD d)))[6]? = some (some (iD d)) := rfl
    have e2 : fDIn (iD a) (.loc (h.length + d)) (He h T (pre ++ [a])) = .ok (.bl (adjB F d a)) (He h T (pre ++ [a])) := e
    simp only [v_tBl, v_mOp2, v_mV, g4, Res.bind_ok, v_mOp1, v_mC, v_neg, ixlast, g1, g6, ix, e2]
  have wi : wipeG (Gr F h T fd L0 none none) [6] = Gr F h T fd L0 none none := rfl
  have is : (iSeq (mV 3)) (Gr F h T fd L0 none none) (He h T (pre ++ [a])) = .ok (L0.map iD, none) (He h T (pre ++ [a])) := rfl
  have hb : (L0.map iD).length ≤ big := by rw [List.length_map, big_eq]; omega
  have er : rC (Gr F h T fd L0 none none) (He h T (pre ++ [a])) = .ok ((b :: r).map iD) (He h T (pre ++ [a])) := by
    unfold rC
    simp only [v_lComp, is, Res.bind_ok, hb, if_true, wi, hc]
  have ix0 : fIx (.lst ((b :: r).map iD)) (.int 0) (He h T (pre ++ [a])) = .ok (iD b) (He h T (pre ++ [a])) := by
    rw [v_ix]
    simp only [v_vSl, List.map_cons, atI_0]
  have ap : fApp (.loc (h ++ T).length) [iD b] (He h T (pre ++ [a])) = .ok .non (He h T (pre ++ [a] ++ [b])) := by
    have b1 : ((pre ++ [a]).map iD).length < big := by rw [List.length_map, List.length_append, big_eq]; simp; omega
    rw [v_app]
    simp only [he_g]
    rw [if_pos b1]
    have := he_s (h := h) T (pre ++ [a]) (pre ++ [a] ++ [b])
    rw [List.map_append (l₂ := [b])] at this
    exact congrArg (fun x => Res.ok D.non x) this
  unfold rB
  simp only [v_sSeq, v_sExpr, v_mBM, v_mV, g4, Res.bind_ok, v_vLo, he_g, v_aCons, v_aNil, v_mOp2, v_mL, er, v_mC, ix0, ap, Res.toS_ok, SR.andThen_next, v_sNil]
theorem row_ok {T : AH} (wb : WebOf F T) {fd L0 : List Nat} (hn : F.length ≤ 12) (hl : ∀ x ∈ L0, x < F.length) (hL : L0.length ≤ 12) (hx : ∀ a ∈ L0, (L0.any fun o => adjB F o a) = true) :
    ∀ (k : Nat) (pre : List Nat) (a : Nat), L0.length + 1 - pre.length = k → pre.Nodup → (∀ x ∈ pre, x ∈ L0) → a ∈ L0 →
    ∃ pre' a', sWhile rT rB (Gr F h T fd L0 none none) (He h T (pre ++ [a])) = .next (Gr F h T fd L0 none none) (He h T (pre' ++ [a'])) ∧ a' ∈ pre' ∧ pre'.length ≤ 12 := by
  intro k
  induction k with
  | zero =>
    intro pre a hk nd hs ha
    have := nodup_sub nd hs
    omega
  | succ k ih =>
    intro pre a hk nd hs ha
    have hp := nodup_sub nd hs
    by_cases z : a ∈ pre
    · refine ⟨pre, a, ?_, z, by omega⟩
      refine while_no ?_
      rw [rT_ok, decide_eq_true z]
      rfl
    · have hy := hx a ha
      cases hq : L0.filter fun d => adjB F d a with
      | nil =>
        rw [List.any_eq_true] at hy
        obtain ⟨o, ho, e⟩ := hy
        have : o ∈ L0.filter fun d => adjB F d a := List.mem_filter.mpr ⟨ho, e⟩
        rw [hq] at this
        cases this
      | cons b r =>
        have hb : b ∈ L0 := by
          have : b ∈ L0.filter fun d => adjB F d a := by rw [hq]; exact List.mem_cons_self
          exact (List.mem_filter.mp this).1
        obtain ⟨pre', a', e, h1, h2⟩ := ih (pre ++ [a]) b (by rw [List.length_append, List.length_cons, List.length_nil]; omega)
          (List.nodup_append.mpr ⟨nd, by simp, by
            intro x hx y hy e
            have := List.mem_singleton.mp hy
            subst this
            subst e
            exact z hx⟩)
          (fun x hx => by
            rcases List.mem_append.mp hx with q | q
            · exact hs x q
            · rw [List.mem_singleton.mp q]; exact ha) hb
        refine ⟨pre', a', ?_, h1, h2⟩
        refine while_step (h1 := He h T (pre ++ [a])) ?_ (rB_ok wb hn hl hL (by omega) hq) e (by simp)
        rw [rT_ok, decide_eq_false z]
        rfl
theorem end_ok {T : AH} {fd L0 pre : List Nat} {a : Nat} (ha : a ∈ pre) (hp : pre.length ≤ 12) : ∃ d : List D, (sSeq r5 (sSeq r6 sNil)) (Gr F h T fd L0 none none) (He h T (pre ++ [a])) = .ret (.tup d) (He h T (pre ++ [a])) ∧ underL h.length d = true := by
  have g4 : ∀ x5 : Option D, (Gr F h T fd L0 x5 none)[4]? = some (some (.loc (h ++ T).length)) := fun _ => rfl
  have g5 : ∀ d : D, (Gr F h T fd L0 (some d) none)[5]? = some (some d) := fun _ => rfl
  have ex : ∃ j : Nat, fIdxD (.loc (h ++ T).length) [iD a] (He h T (pre ++ [a])) = .ok (.int (j : Int)) (He h T (pre ++ [a])) := by
    unfold fIdxD
    simp only [v_vLo, he_g]
    have o1 : okP (He h T (pre ++ [a])) (iD a) = some (.int (a : Int)) := okP_int
    have o2 : toPs ((pre ++ [a]).map iD) = some (((pre ++ [a]).map fun q : Nat => (q : Int)).map PyData.int) := by rw [map_iD, toPs_ints]
    have sh : SeqAt.shaped (.list (((pre ++ [a]).map fun q : Nat => (q : Int)).map PyData.int)) = true := by
      simp only [SeqAt.shaped, PyData.canLay0, PyData.depth, lay_ints, dep_ints]
      decide
    simp only [o1, o2]
    rw [if_pos sh]
    cases q : (((pre ++ [a]).map fun q : Nat => (q : Int)).map PyData.int).findIdx? (fun z => PyData.eqv z (.int (a : Int))) with
    | some j => exact ⟨j, rfl⟩
    | none =>
      rw [List.findIdx?_eq_none_iff] at q
      have := q (.int (a : Int)) (by simp)
      simp [PyData.eqv] at this
  obtain ⟨j, ej⟩ := ex
  have e5 : r5 (Gr F h T fd L0 none none) (He h T (pre ++ [a])) = .next (Gr F h T fd L0 (some (.lst (cutD ((pre ++ [a]).map iD) (some (j : Int)) (some (-1))))) none) (He h T (pre ++ [a])) := by
    unfold r5
    simp only [v_sSet, v_mSlT, v_mV, g4, Res.bind_ok, v_oSome, v_mBM, v_vLo, he_g, v_aCons, v_aNil, v_mOp2, v_mOp1, v_mC, v_neg, ixlast, ej, Res.toS_ok]
    rfl
  refine ⟨(cutD ((pre ++ [a]).map iD) (some (j : Int)) (some (-1))).reverse, ?_, ?_⟩
  · rw [v_sSeq, e5, SR.andThen_next]
    unfold r6
    simp only [v_sSeq, v_sRet, v_mN, v_aCons, v_aNil, v_mRev, v_mV, g5, Res.bind_ok, v_vLl, v_tuple, v_vSl, Res.toS_ok, SR.andThen_ret]
  · refine under_mem fun x hx => ?_
    have hx := List.mem_reverse.mp hx
    have hx : x ∈ (pre ++ [a]).map iD := List.mem_of_mem_drop (List.mem_of_mem_take hx)
    obtain ⟨q, _, rfl⟩ := List.mem_map.mp hx
    rfl
theorem ring_ok (w : Wf F) : ∃ lf fd d, m_ring [hD F] h = .ok d h ∧ OrdS F lf fd ∧ (lf = [] → d = .non) := by
  have hn := w.len
  obtain ⟨T, e1, wb⟩ := webs_ok (h := h) w
  obtain ⟨lf, fd, e2, o⟩ := order_of_ok (h := h ++ T) w
  generalize hL0 : ((List.range F.length).filter fun d => !decide (d ∈ fd)) = L0
  have nd : (fd ++ lf).Nodup := o.2.nodup_iff.mpr List.nodup_range
  have mL : ∀ x, x ∈ L0 ↔ x ∈ lf := fun x => by
    rw [← hL0, List.mem_filter]
    constructor
    · rintro ⟨h1, h2⟩
      have := o.2.mem_iff.mpr h1
      rcases List.mem_append.mp this with q | q
      · simp [q] at h2
      · exact q
    · intro hx
      refine ⟨o.2.mem_iff.mp (List.mem_append.mpr (.inr hx)), ?_⟩
      have : x ∉ fd := fun q => (List.nodup_append.mp nd).2.2 x q x hx rfl
      simp [this]
  have hl : ∀ x ∈ L0, x < F.length := fun x hx => by
    rw [← hL0] at hx
    exact List.mem_range.mp (List.mem_filter.mp hx).1
  have hL : L0.length ≤ 12 := by
    rw [← hL0]
    have := List.length_filter_le (fun d => !decide (d ∈ fd)) (List.range F.length)
    rw [List.length_range] at this
    omega
  have hx : ∀ a ∈ L0, (L0.any fun o => adjB F o a) = true := by
    intro a ha
    have ha := (mL a).mp ha
    cases q : lf.any fun o => adjB F o a with
    | true =>
      rw [List.any_eq_true] at q ⊢
      obtain ⟨b, hb, e⟩ := q
      exact ⟨b, (mL b).mpr hb, e⟩
    | false =>
      have : a ∈ readyL F lf := List.mem_filter.mpr ⟨ha, by rw [q]; rfl⟩
      rw [o.1] at this
      cases this
  have c3 : r3 [some (hD F), some (.lst (locs F.length h.length)), some (.tup (fd.map iD)), none, none, none, none] (h ++ T) = .next [some (hD F), some (.lst (locs F.length h.length)), some (.tup (fd.map iD)), some (.lst (L0.map iD)), none, none, none] (h ++ T) := by
    have okr : okR (F.length : Int) := ⟨by omega, by omega⟩
    have rg : (iRange1 (aCons (mN fLen (aCons (mV 0) aNil)) aNil)) [some (hD F), some (.lst (locs F.length h.length)), some (.tup (fd.map iD)), none, none, none, none] (h ++ T) = .ok ((List.range F.length).map iD, none) (h ++ T) := by
      simp only [v_range1, v_aCons, v_mN, v_mV, List.getElem?_cons_zero, v_aNil, Res.bind_ok, len_hD, if_pos okr, Int.toNat_natCast, rangeD_eq]
    have hc : ∀ all0, compGo (.nm 6) (tBl (mOp2 fNotIn (mV 6) (mV 2))) (mV 6) none all0 [some (hD F), some (.lst (locs F.length h.length)), some (.tup (fd.map iD)), none, none, none, none] ((List.range F.length).map iD) (h ++ T) = .ok (L0.map iD) (h ++ T) := by
      intro all0
      rw [← hL0]
      refine comp_ok _ (fun d => !decide (d ∈ fd)) _ _ fun d hd => ⟨_, rfl, ?_, fun _ => rfl⟩
      simp only [v_tBl, v_mOp2, v_mV, List.set_cons_succ, List.set_cons_zero, List.getElem?_cons_succ, List.getElem?_cons_zero, Res.bind_ok, iD, notin_iT]
    have hb : ((List.range F.length).map iD).length ≤ big := by rw [List.length_map, List.length_range, big_eq]; omega
    unfold r3
    simp only [v_sSet, v_mL, v_lComp, rg, Res.bind_ok, hb, if_true, wipeG, List.set_cons_succ, List.set_cons_zero, hc, Res.toS_ok]
  have fin : ∀ {d : D} {h' : AH}, (sSeq rI (sSeq r4 (sSeq (sWhile rT rB) (sSeq r5 (sSeq r6 sNil))))) [some (hD F), some (.lst (locs F.length h.length)), some (.tup (fd.map iD)), some (.lst (L0.map iD)), none, none, none] (h ++ T) = .ret d (h ++ h') → d.under h.length = true → m_ring [hD F] h = .ok d h := by
    intro d h' e hu
    have eb : b_ring [some (hD F), none, none, none, none, none, none] h = .ret d (h ++ h') := by
      rw [ring_eq]
      simp only [v_sSeq (x := sExpr (mN m_check_history (aCons (mV 0) aNil))), v_sSeq (x := sSet 1 (mN m_webs (aCons (mV 0) aNil))), v_sSeq (x := sSet 2 (mN m_order_of (aCons (mV 0) aNil))), v_sExpr, v_mN, v_aCons, v_aNil, v_mV, List.getElem?_cons_zero, Res.bind_ok, check_history_ok w, Res.toS_ok, SR.andThen_next, v_sSet, e1, e2, List.set_cons_succ, List.set_cons_zero]
      rw [v_sSeq (x := r3), c3, SR.andThen_next, e]
    have eb2 : b_ring (List.map some [hD F] ++ List.replicate (7 - 1) none) h = .ret d (h ++ h') := eb
    unfold m_ring mDef
    rw [if_pos (show [hD F].length = 1 from rfl), eb2]
    exact finD_app h _ _ hu
  cases q : L0 with
  | nil =>
    refine ⟨lf, fd, .non, fin (h' := T) ?_ rfl, o, fun _ => rfl⟩
    unfold rI
    simp only [v_sSeq, v_sIf, v_tBl, v_mOp2, v_mN, v_aCons, v_aNil, v_mV, List.getElem?_cons_succ, List.getElem?_cons_zero, Res.bind_ok, q, List.map_nil, fLen_nil, v_mC, v_eq, decide_true, if_true, Res.toS_ok, v_sRet, SR.andThen_ret]
  | cons a r =>
    have hlf : lf ≠ [] := fun z => by
      have := (mL a).mp (by rw [q]; exact List.mem_cons_self)
      rw [z] at this
      cases this
    obtain ⟨pre, a', e3, h1, h2⟩ := row_ok (h := h) (fd := fd) wb hn hl hL hx (L0.length + 1) [] a rfl List.nodup_nil (by intro x hx; cases hx) (by rw [q]; exact List.mem_cons_self)
    obtain ⟨d, e4, hu⟩ := end_ok (h := h) (F := F) (T := T) (fd := fd) (L0 := L0) h1 h2
    have heq : He h T (pre ++ [a']) = h ++ (T ++ [.lst ((pre ++ [a']).map iD)]) := by unfold He; rw [List.append_assoc]
    refine ⟨lf, fd, .tup d, fin (h' := T ++ [.lst ((pre ++ [a']).map iD)]) ?_ hu, o, fun z => absurd z hlf⟩
    have cI : rI [some (hD F), some (.lst (locs F.length h.length)), some (.tup (fd.map iD)), some (.lst (L0.map iD)), none, none, none] (h ++ T) = .next [some (hD F), some (.lst (locs F.length h.length)), some (.tup (fd.map iD)), some (.lst (L0.map iD)), none, none, none] (h ++ T) := by
      have ln : fLen [.lst (L0.map iD)] (h ++ T) = .ok (.int L0.length) (h ++ T) := by
        rw [v_len (by intro x hx; cases hx)]
        simp
      have z : ¬ ((L0.length : Int) = 0) := by rw [q]; simp; omega
      unfold rI
      simp only [v_sIf, v_tBl, v_mOp2, v_mN, v_aCons, v_aNil, v_mV, List.getElem?_cons_succ, List.getElem?_cons_zero, Res.bind_ok, ln, v_mC, v_eq, decide_eq_false z, Bool.false_eq_true, if_false, Res.toS_ok, v_sNil]
    have c4 : r4 [some (hD F), some (.lst (locs F.length h.length)), some (.tup (fd.map iD)), some (.lst (L0.map iD)), none, none, none] (h ++ T) = .next (Gr F h T fd L0 none none) (He h T ([] ++ [a])) := by
      have b1 : (1 : Nat) ≤ big := by rw [big_eq]; omega
      unfold r4
      simp only [v_sSet, v_mNew, v_lLst, v_aCons, v_aNil, v_mOp2, v_mV, List.getElem?_cons_succ, List.getElem?_cons_zero, Res.bind_ok, v_mC, v_ix, v_vSl, q, List.map_cons, atI_0, List.length_cons, List.length_nil, Nat.zero_add, b1, if_true, Res.toS_ok, List.set_cons_succ, List.set_cons_zero]
      rfl
    rw [v_sSeq, cI, SR.andThen_next, v_sSeq, c4, SR.andThen_next, v_sSeq, e3, SR.andThen_next, e4, heq]
end
end My
/-! is_ring of any thing -/
namespace My
open PySem AB L2
section
variable {h : AH} {F : List Deal}
theorem index_j {d : D} (g : Gd d) (n : Nat) : m_is_index [d, .int (n : Int)] h = .ok (.bl (isI 0 ((n : Int) - 1) d)) h := by
  have eb : b_is_index [some d, some (.int (n : Int))] h = .ret (.bl (isI 0 ((n : Int) - 1) d)) h := by
    unfold b_is_index
    simp only [v_sSeq, v_sRet, v_mN, v_aCons, v_aNil, v_mV, v_mOp2, v_mC, v_sub, List.getElem?_cons_succ, List.getElem?_cons_zero, Res.bind_ok, between_j g, Res.toS_ok, SR.andThen_ret]
  simp [m_is_index, mDef, eb]
noncomputable def irT : MeT := tOrM (tNotM (tOf (mIsiC [] .tup (mV 1)))) (tOrM (tBl (mOp2 cLt (mN fLen (aCons (mV 1) aNil)) (mC (.int 2)))) (tNotM (tOf (mN fAll (aCons (mL (lComp (.nm 3) [3] (iSeq (mV 1)) tYesM (mN m_is_index (aCons (mV 3) (aCons (mN fLen (aCons (mV 0) aNil)) aNil))))) aNil)))))
noncomputable def irF : Ms := sSeq (sRet (mC (.bl false))) sNil
noncomputable def ir2 : Ms := sIf (tBl (mOp2 cLt (mN fLenSet (aCons (mL (lN lList (aCons (mV 1) aNil))) aNil)) (mN fLen (aCons (mV 1) aNil)))) irF sNil
noncomputable def ir3 : Ms := sRet (mN fAll (aCons (mL (lComp (.nm 4) [4] (iRange1 (aCons (mN fLen (aCons (mV 1) aNil)) aNil)) tYesM (mOp2 fDIn (mOp2 fIx (mV 1) (mV 4)) (mOp2 fIx (mV 2) (mOp2 fIx (mV 1) (mOp2 fSub (mV 4) (mC (.int 1)))))))) aNil))
theorem is_ring_eq : b_is_ring = sSeq (sExpr (mN m_check_history (aCons (mV 0) aNil))) (sSeq (sIf irT irF sNil) (sSeq (sSet 2 (mN m_webs (aCons (mV 0) aNil))) (sSeq ir2 (sSeq ir3 sNil)))) := rfl
theorem len_tup {hh : AH} (ds : List D) : fLen [.tup ds] hh = .ok (.int ds.length) hh := by
  rw [v_len (by intro x hx; cases hx)]
  rfl
theorem tyC_j {d : D} (g : Gd d) : tyDC [] h .tup d = some (isT d) := by
  obtain ⟨t, e1, e2⟩ := ty_j (h := h) g
  cases d with
  | loc n => obtain ⟨p, e⟩ := g; simp [toP] at e
  | _ =>
    unfold tyDC
    simp only [e1, Option.map_some, e2]
theorem isiC_j {d : D} {b : Bool} {G : AB.Env} {i : Nat} (e : tyDC [] h .tup d = some b) (hi : G[i]? = some (some d)) : (mIsiC [] .tup (mV i)) G h = .ok (.bl b) h := by
  unfold mIsiC
  simp only [v_mV, hi, Res.bind_ok, e]
/-- the flag of the first row -/
noncomputable def irB (n : Nat) : D → Bool
  | .tup ds => decide ((ds.length : Int) < 2) || !(ds.all (isI 0 ((n : Int) - 1)))
  | _ => true
theorem irT_ok {d : D} (t : Thing h d) : irT [some (hD F), some d, none, none, none] h = .ok (irB F.length d) h := by
  rcases t with t | ⟨n, rfl, gn⟩
  · have g := t.gd
    by_cases c : isT d = true
    · obtain ⟨ds, rfl⟩ := isT_tup c
      have gs := gd_tup g
      have hl := (hw_tup.mp t.w).1
      have hb : ds.length ≤ big := by rw [big_eq]; omega
      have hc : ∀ all0, compGo (.nm 3) tYesM (mN m_is_index (aCons (mV 3) (aCons (mN fLen (aCons (mV 0) aNil)) aNil))) none all0 [some (hD F), some (.tup ds), none, none, none] (ds.map id) h = .ok (ds.map fun x => .bl (isI 0 ((F.length : Int) - 1) x)) h :=
        fun all0 => comp_all id _ _ fun x hx => ⟨[some (hD F), some (.tup ds), none, some x, none], rfl, by
          simp only [v_mN, v_aCons, v_aNil, v_mV, List.getElem?_cons_succ, List.getElem?_cons_zero, Res.bind_ok, len_hD, index_j (gs x hx)]⟩
      rw [List.map_id] at hc
      have ti : (mIsiC [] .tup (mV 1)) [some (hD F), some (.tup ds), none, none, none] h = .ok (.bl true) h := isiC_j (tyC_j g) rfl
      have wi : wipeG [some (hD F), some (.tup ds), none, none, none] [3] = [some (hD F), some (.tup ds), none, none, none] := rfl
      unfold irT irB
      by_cases z : (ds.length : Int) < 2
      · simp only [v_tOr, v_tNot, v_tOf, ti, Res.bind_ok, v_truB, Bool.not_true, Bool.false_eq_true, if_false, v_tBl, v_mOp2, v_mN, v_aCons, v_aNil, v_mV, List.getElem?_cons_succ, List.getElem?_cons_zero, len_tup, v_mC, v_cLt, decide_eq_true z, if_true, Bool.true_or]
      · simp only [v_tOr, v_tNot, v_tOf, ti, Res.bind_ok, v_truB, Bool.not_true, Bool.false_eq_true, if_false, v_tBl, v_mOp2, v_mN, v_aCons, v_aNil, v_mV, List.getElem?_cons_succ, List.getElem?_cons_zero, len_tup, v_mC, v_cLt, decide_eq_false z, v_mL, v_lComp, v_iSeq, hb, if_true, wi, hc, v_all, Bool.false_or]
    · have c : isT d = false := by cases q : isT d with | true => exact absurd q c | false => rfl
      have ti : (mIsiC [] .tup (mV 1)) [some (hD F), some d, none, none, none] h = .ok (.bl false) h := by
        rw [← c]
        exact isiC_j (tyC_j g) rfl
      have e : irB F.length d = true := by
        cases d with
        | tup ds => cases c
        | _ => rfl
      unfold irT
      simp only [v_tOr, v_tNot, v_tOf, ti, Res.bind_ok, v_truB, Bool.not_false, if_true, e]
  · have ti : (mIsiC [] .tup (mV 1)) [some (hD F), some (.loc n), none, none, none] h = .ok (.bl false) h := by
      refine isiC_j ?_ rfl
      unfold tyDC
      simp only [gn]
      rfl
    unfold irT
    simp only [v_tOr, v_tNot, v_tOf, ti, Res.bind_ok, v_truB, Bool.not_false, if_true]
    rfl
noncomputable def prevN (Ks : List Nat) (i : Nat) : Nat := if i = 0 then Ks.getD (Ks.length - 1) 0 else Ks.getD (i - 1) 0
theorem ix_iD {hh : AH} (Ks : List Nat) {i : Nat} (hi : i < Ks.length) : fIx (.tup (Ks.map iD)) (.int (i : Int)) hh = .ok (iD (Ks.getD i 0)) hh := by
  have e : atI (Ks.map iD) (i : Int) = some (iD (Ks.getD i 0)) := by
    refine atI_nat (by omega) ?_
    rw [Int.toNat_natCast, List.getElem?_map, List.getD_eq_getElem?_getD, List.getElem?_eq_getElem hi]
    rfl
  rw [v_ix]
  simp only [v_vSt, e]
theorem ix_prev {hh : AH} (Ks : List Nat) {i : Nat} (hi : i < Ks.length) : fIx (.tup (Ks.map iD)) (.int ((i : Int) - 1)) hh = .ok (iD (prevN Ks i)) hh := by
  unfold prevN
  by_cases z : i = 0
  · subst z
    rw [if_pos rfl]
    have hne : Ks ≠ [] := fun e => by rw [e] at hi; simp at hi
    obtain ⟨pre, a, rfl⟩ : ∃ pre a, Ks = pre ++ [a] := ⟨Ks.dropLast, Ks.getLast hne, (List.dropLast_concat_getLast hne).symm⟩
    have e : atI ((pre ++ [a]).map iD) (-1) = some (iD a) := last_iD iD pre a
    have e2 : ((0 : Nat) : Int) - 1 = -1 := by omega
    rw [e2, v_ix]
    simp only [v_vSt, e]
    simp
  · rw [if_neg z]
    have e2 : (i : Int) - 1 = ((i - 1 : Nat) : Int) := by omega
    rw [e2]
    exact ix_iD Ks (by omega)
theorem prev_mem (Ks : List Nat) {i : Nat} (hi : i < Ks.length) : prevN Ks i ∈ Ks := by
  have m : ∀ j, j < Ks.length → Ks.getD j 0 ∈ Ks := fun j hj => by
    rw [List.getD_eq_getElem?_getD, List.getElem?_eq_getElem hj]
    exact List.getElem_mem hj
  unfold prevN
  split
  · exact m _ (by omega)
  · exact m _ (by omega)
theorem is_ring_ok (w : Wf F) {d : D} (t : Thing h d) : ∃ b, m_is_ring [hD F, d] h = .ok (.bl b) h := by
  have hn := w.len
  have fin : ∀ {b : Bool} {h' : AH}, (sSeq (sIf irT irF sNil) (sSeq (sSet 2 (mN m_webs (aCons (mV 0) aNil))) (sSeq ir2 (sSeq ir3 sNil)))) [some (hD F), some d, none, none, none] h = .ret (.bl b) (h ++ h') → m_is_ring [hD F, d] h = .ok (.bl b) h := by
    intro b h' e
    have eb : b_is_ring [some (hD F), some d, none, none, none] h = .ret (.bl b) (h ++ h') := by
      rw [is_ring_eq, v_sSeq (x := sExpr (mN m_check_history (aCons (mV 0) aNil)))]
      simp only [v_sExpr, v_mN, v_aCons, v_aNil, v_mV, List.getElem?_cons_zero, Res.bind_ok, check_history_ok w, Res.toS_ok, SR.andThen_next]
      exact e
    unfold m_is_ring mDef
    rw [if_pos (show [hD F, d].length = 2 from rfl)]
    have eb2 : b_is_ring (List.map some [hD F, d] ++ List.replicate (5 - 2) none) h = .ret (.bl b) (h ++ h') := eb
    rw [eb2]
    exact finD_app h _ _ rfl
  have cT := irT_ok (F := F) t
  cases q : irB F.length d with
  | true =>
    refine ⟨false, fin (h' := []) ?_⟩
    rw [q] at cT
    rw [List.append_nil, v_sSeq]
    unfold irF
    simp only [v_sIf, cT, Res.toS_ok, if_true, v_sSeq, v_sRet, v_mC, SR.andThen_ret]
  | false =>
    rw [q] at cT
    obtain ⟨ds, rfl⟩ : ∃ ds, d = .tup ds := by
      cases d with
      | tup ds => exact ⟨ds, rfl⟩
      | _ => cases q
    have q2 : (decide ((ds.length : Int) < 2) || !(ds.all (isI 0 ((F.length : Int) - 1)))) = false := q
    rw [Bool.or_eq_false_iff, Bool.not_eq_false'] at q2
    have hl : ds.length ≤ 1000 := by
      rcases t with t | ⟨n, e, _⟩
      · exact (hw_tup.mp t.w).1
      · cases e
    have all := q2.2
    rw [List.all_eq_true] at all
    generalize hK : (ds.map fun x => (keyI x).toNat) = Ks
    have hKl : Ks.length = ds.length := by rw [← hK, List.length_map]
    have eD : ds = Ks.map iD := by
      rw [← hK, List.map_map]
      conv => lhs; rw [← List.map_id ds]
      refine List.map_congr_left fun x hx => ?_
      obtain ⟨e1, e2, e3⟩ := isI_int (all x hx)
      show x = D.int (((keyI x).toNat : Nat) : Int)
      rw [Int.toNat_of_nonneg e2]
      exact e1
    have hb : ∀ a ∈ Ks, a < F.length := by
      intro a ha
      rw [← hK] at ha
      obtain ⟨x, hx, rfl⟩ := List.mem_map.mp ha
      obtain ⟨e1, e2, e3⟩ := isI_int (all x hx)
      omega
    subst eD
    obtain ⟨T, e1, wb⟩ := webs_ok (h := h) w
    have c1 : (sIf irT irF sNil) [some (hD F), some (.tup (Ks.map iD)), none, none, none] h = .next [some (hD F), some (.tup (Ks.map iD)), none, none, none] h := by
      simp only [v_sIf, cT, Res.toS_ok, Bool.false_eq_true, if_false, v_sNil]
    have c2 : (sSet 2 (mN m_webs (aCons (mV 0) aNil))) [some (hD F), some (.tup (Ks.map iD)), none, none, none] h = .next [some (hD F), some (.tup (Ks.map iD)), some (.lst (locs F.length h.length)), none, none] (h ++ T) := by
      simp only [v_sSet, v_mN, v_aCons, v_aNil, v_mV, List.getElem?_cons_zero, Res.bind_ok, e1, Res.toS_ok, List.set_cons_succ, List.set_cons_zero]
    have ls : fLenSet [.lst (Ks.map iD)] (h ++ T) = .ok (.int ((upSet (Ks.map fun q : Nat => (q : Int))).length : Int)) (h ++ T) := by
      unfold fLenSet
      have e : intsD (Ks.map iD) = some (Ks.map fun q : Nat => (q : Int)) := intsD_iD Ks
      simp only [v_vLl, e]
      rw [if_pos (by rw [List.length_map, hKl]; omega)]
    generalize (upSet (Ks.map fun q : Nat => (q : Int))).length = m at ls
    have hbl : (Ks.map iD).length ≤ big := by rw [List.length_map, hKl, big_eq]; omega
    by_cases z : (m : Int) < ((Ks.map iD).length : Int)
    · refine ⟨false, fin (h' := T) ?_⟩
      rw [v_sSeq, c1, SR.andThen_next, v_sSeq, c2, SR.andThen_next]
      unfold ir2 irF
      simp only [v_sSeq, v_sIf, v_tBl, v_mOp2, v_mN, v_aCons, v_aNil, v_mL, v_lN, v_mV, List.getElem?_cons_succ, List.getElem?_cons_zero, Res.bind_ok, v_list, v_vSt, ls, len_tup, v_cLt, decide_eq_true z, if_true, Res.toS_ok, v_sRet, v_mC, SR.andThen_ret]
    · refine ⟨(List.range Ks.length).all fun i => adjB F (prevN Ks i) (Ks.getD i 0), fin (h' := T) ?_⟩
      have okr : okR ((Ks.length : Nat) : Int) := ⟨by omega, by omega⟩
      have rg : (iRange1 (aCons (mN fLen (aCons (mV 1) aNil)) aNil)) [some (hD F), some (.tup (Ks.map iD)), some (.lst (locs F.length h.length)), none, none] (h ++ T) = .ok ((List.range Ks.length).map iD, none) (h ++ T) := by
        simp only [v_range1, v_aCons, v_mN, v_mV, List.getElem?_cons_succ, List.getElem?_cons_zero, v_aNil, Res.bind_ok, len_tup, List.length_map, if_pos okr, Int.toNat_natCast, rangeD_eq]
      have hc : ∀ all0, compGo (.nm 4) tYesM (mOp2 fDIn (mOp2 fIx (mV 1) (mV 4)) (mOp2 fIx (mV 2) (mOp2 fIx (mV 1) (mOp2 fSub (mV 4) (mC (.int 1)))))) none all0 [some (hD F), some (.tup (Ks.map iD)), some (.lst (locs F.length h.length)), none, none] ((List.range Ks.length).map iD) (h ++ T) = .ok ((List.range Ks.length).map fun i => .bl (adjB F (prevN Ks i) (Ks.getD i 0))) (h ++ T) := by
        intro all0
        refine comp_all iD (fun i => D.bl (adjB F (prevN Ks i) (Ks.getD i 0))) _ fun i hi => ⟨[some (hD F), some (.tup (Ks.map iD)), some (.lst (locs F.length h.length)), none, some (iD i)], rfl, ?_⟩
        have hi := List.mem_range.mp hi
        have hp := hb _ (prev_mem Ks hi)
        obtain ⟨kvs, g, e⟩ := web_in (h := h) wb [] (a := Ks.getD i 0) hp
        rw [List.append_nil] at e
        have ix : fIx (.lst (locs F.length h.length)) (iD (prevN Ks i)) (h ++ T) = .ok (.loc (h.length + prevN Ks i)) (h ++ T) := by
          unfold iD
          rw [v_ix]
          simp only [v_vSl, loc_at hp]
        have e2 : fDIn (iD (Ks.getD i 0)) (.loc (h.length + prevN Ks i)) (h ++ T) = .ok (.bl (adjB F (prevN Ks i) (Ks.getD i 0))) (h ++ T) := e
        have i1 : fIx (.tup (Ks.map iD)) (iD i) (h ++ T) = .ok (iD (Ks.getD i 0)) (h ++ T) := ix_iD Ks hi
        have i2 : fIx (.tup (Ks.map iD)) (.int ((i : Int) - 1)) (h ++ T) = .ok (iD (prevN Ks i)) (h ++ T) := ix_prev Ks hi
        have s1 : fSub (iD i) (.int 1) (h ++ T) = .ok (.int ((i : Int) - 1)) (h ++ T) := rfl
        simp only [v_mOp2, v_mV, List.getElem?_cons_succ, List.getElem?_cons_zero, Res.bind_ok, i1, v_mC, s1, i2, ix, e2]
      have hb2 : ((List.range Ks.length).map iD).length ≤ big := by rw [List.length_map, List.length_range, hKl, big_eq]; omega
      have wi : wipeG [some (hD F), some (.tup (Ks.map iD)), some (.lst (locs F.length h.length)), none, none] [4] = [some (hD F), some (.tup (Ks.map iD)), some (.lst (locs F.length h.length)), none, none] := rfl
      have c3 : ir2 [some (hD F), some (.tup (Ks.map iD)), some (.lst (locs F.length h.length)), none, none] (h ++ T) = .next [some (hD F), some (.tup (Ks.map iD)), some (.lst (locs F.length h.length)), none, none] (h ++ T) := by
        unfold ir2 irF
        simp only [v_sSeq, v_sIf, v_tBl, v_mOp2, v_mN, v_aCons, v_aNil, v_mL, v_lN, v_mV, List.getElem?_cons_succ, List.getElem?_cons_zero, Res.bind_ok, v_list, v_vSt, ls, len_tup, v_cLt, decide_eq_false z, Bool.false_eq_true, if_false, Res.toS_ok, v_sNil]
      rw [v_sSeq, c1, SR.andThen_next, v_sSeq, c2, SR.andThen_next, v_sSeq, c3, SR.andThen_next]
      unfold ir3
      simp only [v_sSeq, v_sRet, v_mN, v_aCons, v_aNil, v_mL, v_lComp, rg, Res.bind_ok, hb2, if_true, wi, hc, v_all, Res.toS_ok, SR.andThen_ret]
end
end My
/-! what _law_bent hands back -/
namespace My
open PySem AB L2
noncomputable def q2a : Ms := (sSet 2 (mL (lLst (aCons (mC .non) (aCons (mL (lLst aNil)) (aCons (mN fTup aNil) (aCons mDNew (aCons (mC (.str "")) (aCons (mC (.int 0)) (aCons (mOp1 fNeg (mC (.int 1))) (aCons (mC (.bl true)) (aCons (mL (lN lList (aCons (mV 1) aNil))) (aCons (mOp2 fMulT (mV 1) (mC (.int 13))) (aCons (mN m__law_deep (aCons (mC (.int 0)) (aCons (mC (.int 28)) aNil))) (aCons (mL (lLst (aCons (mV 1) aNil))) (aCons (mOp2 fAdd (mV 1) (mN fTup (aCons (mN fTup aNil) aNil))) aNil))))))))))))))))
noncomputable def q2b : Ms := (sSet 2 (mOp2 fAdd (mV 2) (mL (lLst (aCons (mOp2 fAdd (mV 1) (mN fTup (aCons (mC .non) aNil))) (aCons (mOp2 fAdd (mV 1) (mN fTup (aCons (mN fTup (aCons (mN fTup aNil) (aCons (mN fTup aNil) (aCons (mN fTup aNil) aNil)))) aNil))) (aCons (mOp2 fAdd (mV 1) (mN fTup (aCons (mN fTup (aCons (mN fTup aNil) (aCons (mN fTup aNil) aNil))) aNil))) (aCons (mOp2 fMulA (mN fTup (aCons (mN fTup (aCons (mN fTup aNil) (aCons (mN fTup aNil) aNil))) aNil)) (mC (.int 12))) (aCons (mOp2 fMulA (mN fTup (aCons (mN fTup (aCons (mN fTup aNil) (aCons (mN fTup aNil) aNil))) aNil)) (mC (.int 13))) aNil)))))))))
noncomputable def qi : Ms := (sIf (tOrM (tBl (mOp2 fEq (mN fLen (aCons (mV 1) aNil)) (mC (.int 0)))) (tBl (mOp2 fEq (mN m__law_draw (aCons (mV 0) (aCons (mC (.int 6)) aNil))) (mC (.int 0))))) (sSeq (sRet (mN m__law_any (aCons (mV 0) (aCons (mV 2) aNil)))) sNil) sNil)
noncomputable def q3 : Ms := (sSet 3 (mN m__law_draw (aCons (mV 0) (aCons (mN fLen (aCons (mV 1) aNil)) aNil))))
noncomputable def q4 : Ms := (sAsg (.tp [(.nm 4), (.nm 5)]) (mOp2 fIx (mV 1) (mV 3)))
noncomputable def q6 : Ms := (sSet 6 (mOp2 fAdd (mL (lComp (.nm 14) [14] (iRange1 (aCons (mN fLen (aCons (mV 1) aNil)) aNil)) (tBl (mOp2 fNe (mV 14) (mV 3))) (mV 14))) (mL (lLst (aCons (mN fLen (aCons (mV 1) aNil)) (aCons (mOp1 fNeg (mC (.int 1))) (aCons (mV 3) (aCons (mOp1 fNeg (mC (.int 2))) (aCons (mC (.bl true)) (aCons (mC .non) (aCons (mC (.str "0")) (aCons (mOp2 fPow (mC (.int 10)) (mC (.int 20))) aNil))))))))))))
noncomputable def q7a : Ms := (sSet 7 (mL (lLst (aCons (mN fTup (aCons (mC (.int 0)) (aCons (mN m__law_any (aCons (mV 0) (aCons (mV 6) aNil))) aNil))) (aCons (mN fTup (aCons (mC (.int 99)) (aCons (mN m__law_any (aCons (mV 0) (aCons (mV 6) aNil))) aNil))) (aCons (mN fTup (aCons (mC (.int 7)) (aCons (mOp1 fNeg (mC (.int 1))) aNil))) (aCons (mN fTup (aCons (mC (.int 100)) (aCons (mOp1 fNeg (mC (.int 1))) aNil))) (aCons (mN fTup (aCons (mOp1 fNeg (mC (.int 1))) (aCons (mOp1 fNeg (mC (.int 1))) aNil))) (aCons (mN fTup (aCons (mC (.bl true)) (aCons (mOp1 fNeg (mC (.int 1))) aNil))) aNil)))))))))
noncomputable def q7b : Ms := (sSet 7 (mOp2 fAdd (mV 7) (mL (lLst (aCons (mN fTup (aCons (mC (.int 1)) (aCons (mOp1 fNeg (mC (.int 1))) (aCons (mC (.int 0)) aNil)))) (aCons (mN fTup (aCons (mC (.int 1)) aNil)) (aCons (mL (lLst (aCons (mC (.int 1)) (aCons (mOp1 fNeg (mC (.int 1))) aNil)))) (aCons (mC .non) (aCons (mC (.int 3)) (aCons (mN fTup (aCons (mC .non) (aCons (mOp1 fNeg (mC (.int 1))) aNil))) (aCons (mN fTup (aCons (mC (.str "1")) (aCons (mOp1 fNeg (mC (.int 1))) aNil))) (aCons (mN m__law_deep (aCons (mC (.int 1)) (aCons (mC (.int 22)) aNil))) aNil))))))))))))
noncomputable def q8 : Ms := (sSet 8 (mL (lLst (aCons (mC (.int 0)) (aCons (mC (.int 7)) (aCons (mC (.int 99)) (aCons (mC (.int 100)) (aCons (mOp1 fNeg (mC (.int 1))) (aCons (mC (.bl true)) (aCons (mC .non) (aCons (mC (.str "1")) (aCons (mN fTup (aCons (mC (.int 0)) aNil)) (aCons (mOp2 fPow (mC (.int 10)) (mC (.int 20))) (aCons (mC (.int 3)) aNil))))))))))))))
noncomputable def q9 : Ms := (sSet 9 (mN m__law_draw (aCons (mV 0) (aCons (mOp2 fAdd (mN fLen (aCons (mV 4) aNil)) (mC (.int 1))) aNil))))
noncomputable def q10 : Ms := (sSet 10 (mN m__law_draw (aCons (mV 0) (aCons (mOp2 fAdd (mN fLen (aCons (mV 5) aNil)) (mC (.int 1))) aNil))))
noncomputable def q11a : Ms := (sSet 11 (mOp2 fMulLs (mNew (lLst (aCons (mN fTup (aCons (mOp2 fAdd (mOp2 fAdd (mSl (mV 4) oNone (oSome (mV 9))) (mN fTup (aCons (mN m__law_any (aCons (mV 0) (aCons (mV 7) aNil))) aNil))) (mSl (mV 4) (oSome (mV 9)) oNone)) (aCons (mV 5) aNil))) aNil))) (mC (.int 4))))
noncomputable def q11b : Ms := (sSet 11 (mOp2 fAdd (mV 11) (mL (lLst (aCons (mN fTup (aCons (mOp2 fAdd (mSl (mV 4) oNone (oSome (mV 9))) (mSl (mV 4) (oSome (mOp2 fAdd (mV 9) (mC (.int 1)))) oNone)) (aCons (mV 5) aNil))) (aCons (mN fTup (aCons (mRev (mV 4)) (aCons (mV 5) aNil))) (aCons (mN fTup (aCons (mL (lN lList (aCons (mV 4) aNil))) (aCons (mV 5) aNil))) aNil)))))))
noncomputable def q11c : Ms := (sSet 11 (mOp2 fAdd (mV 11) (mOp2 fMulLs (mNew (lLst (aCons (mN fTup (aCons (mV 4) (aCons (mOp2 fAdd (mOp2 fAdd (mSl (mV 5) oNone (oSome (mV 10))) (mN fTup (aCons (mN m__law_any (aCons (mV 0) (aCons (mV 8) aNil))) aNil))) (mSl (mV 5) (oSome (mV 10)) oNone)) aNil))) aNil))) (mC (.int 3)))))
noncomputable def q11d : Ms := (sSet 11 (mOp2 fAdd (mV 11) (mL (lLst (aCons (mN fTup (aCons (mV 4) (aCons (mOp2 fAdd (mSl (mV 5) oNone (oSome (mV 10))) (mSl (mV 5) (oSome (mOp2 fAdd (mV 10) (mC (.int 1)))) oNone)) aNil))) (aCons (mN fTup (aCons (mV 4) (aCons (mRev (mV 5)) aNil))) (aCons (mN fTup (aCons (mV 4) (aCons (mL (lN lList (aCons (mV 5) aNil))) aNil))) aNil)))))))
noncomputable def q11e : Ms := (sSet 11 (mOp2 fAdd (mV 11) (mL (lLst (aCons (mN fTup (aCons (mV 4) aNil)) (aCons (mN fTup (aCons (mV 4) (aCons (mV 5) (aCons (mN fTup aNil) aNil)))) (aCons (mL (lLst (aCons (mV 4) (aCons (mV 5) aNil)))) (aCons (mN fTup (aCons (mV 5) (aCons (mV 4) aNil))) (aCons (mN fTup (aCons (mC .non) (aCons (mV 5) aNil))) (aCons (mN fTup (aCons (mV 4) (aCons (mC .non) aNil))) aNil))))))))))
noncomputable def q11f : Ms := (sSet 11 (mOp2 fAdd (mV 11) (mL (lLst (aCons (mC .non) aNil)))))
noncomputable def qj : Ms := (sIf (tBl (mOp2 cGt (mN fLen (aCons (mV 4) aNil)) (mC (.int 0)))) (sSeq (sSet 12 (mOp2 fIx (mV 4) (mN fMin (aCons (mV 9) (aCons (mOp2 fSub (mN fLen (aCons (mV 4) aNil)) (mC (.int 1))) aNil))))) (sSeq (sSet 13 (mOp2 fAdd (mOp2 fAdd (mSl (mV 4) oNone (oSome (mV 9))) (mN fTup (aCons (mN fTup (aCons (mOp2 fIx (mV 12) (mC (.int 0))) (aCons (mN m__law_any (aCons (mV 0) (aCons (mV 6) aNil))) aNil))) aNil))) (mSl (mV 4) (oSome (mOp2 fAdd (mV 9) (mC (.int 1)))) oNone))) (sSeq (sSet 11 (mOp2 fAdd (mV 11) (mOp2 fMulLs (mNew (lLst (aCons (mN fTup (aCons (mV 13) (aCons (mV 5) aNil))) aNil))) (mC (.int 6))))) sNil))) sNil)
noncomputable def qr : Ms := (sRet (mOp2 fAdd (mOp2 fAdd (mSl (mV 1) oNone (oSome (mV 3))) (mN fTup (aCons (mN m__law_any (aCons (mV 0) (aCons (mV 11) aNil))) aNil))) (mSl (mV 1) (oSome (mOp2 fAdd (mV 3) (mC (.int 1)))) oNone)))
theorem bent_eq : b__law_bent = sSeq q2a (sSeq q2b (sSeq qi (sSeq q3 (sSeq q4 (sSeq q6 (sSeq q7a (sSeq q7b (sSeq q8 (sSeq q9 (sSeq q10 (sSeq q11a (sSeq q11b (sSeq q11c (sSeq q11d (sSeq q11e (sSeq q11f (sSeq qj (sSeq qr sNil)))))))))))))))))) := rfl
noncomputable def xq2a : Me := (mL (lLst (aCons (mC .non) (aCons (mL (lLst aNil)) (aCons (mN fTup aNil) (aCons mDNew (aCons (mC (.str "")) (aCons (mC (.int 0)) (aCons (mOp1 fNeg (mC (.int 1))) (aCons (mC (.bl true)) (aCons (mL (lN lList (aCons (mV 1) aNil))) (aCons (mOp2 fMulT (mV 1) (mC (.int 13))) (aCons (mN m__law_deep (aCons (mC (.int 0)) (aCons (mC (.int 28)) aNil))) (aCons (mL (lLst (aCons (mV 1) aNil))) (aCons (mOp2 fAdd (mV 1) (mN fTup (aCons (mN fTup aNil) aNil))) aNil)))))))))))))))
noncomputable def xq2b : Me := (mOp2 fAdd (mV 2) (mL (lLst (aCons (mOp2 fAdd (mV 1) (mN fTup (aCons (mC .non) aNil))) (aCons (mOp2 fAdd (mV 1) (mN fTup (aCons (mN fTup (aCons (mN fTup aNil) (aCons (mN fTup aNil) (aCons (mN fTup aNil) aNil)))) aNil))) (aCons (mOp2 fAdd (mV 1) (mN fTup (aCons (mN fTup (aCons (mN fTup aNil) (aCons (mN fTup aNil) aNil))) aNil))) (aCons (mOp2 fMulA (mN fTup (aCons (mN fTup (aCons (mN fTup aNil) (aCons (mN fTup aNil) aNil))) aNil)) (mC (.int 12))) (aCons (mOp2 fMulA (mN fTup (aCons (mN fTup (aCons (mN fTup aNil) (aCons (mN fTup aNil) aNil))) aNil)) (mC (.int 13))) aNil))))))))
noncomputable def xq6 : Me := (mOp2 fAdd (mL (lComp (.nm 14) [14] (iRange1 (aCons (mN fLen (aCons (mV 1) aNil)) aNil)) (tBl (mOp2 fNe (mV 14) (mV 3))) (mV 14))) (mL (lLst (aCons (mN fLen (aCons (mV 1) aNil)) (aCons (mOp1 fNeg (mC (.int 1))) (aCons (mV 3) (aCons (mOp1 fNeg (mC (.int 2))) (aCons (mC (.bl true)) (aCons (mC .non) (aCons (mC (.str "0")) (aCons (mOp2 fPow (mC (.int 10)) (mC (.int 20))) aNil)))))))))))
noncomputable def xq7a : Me := (mL (lLst (aCons (mN fTup (aCons (mC (.int 0)) (aCons (mN m__law_any (aCons (mV 0) (aCons (mV 6) aNil))) aNil))) (aCons (mN fTup (aCons (mC (.int 99)) (aCons (mN m__law_any (aCons (mV 0) (aCons (mV 6) aNil))) aNil))) (aCons (mN fTup (aCons (mC (.int 7)) (aCons (mOp1 fNeg (mC (.int 1))) aNil))) (aCons (mN fTup (aCons (mC (.int 100)) (aCons (mOp1 fNeg (mC (.int 1))) aNil))) (aCons (mN fTup (aCons (mOp1 fNeg (mC (.int 1))) (aCons (mOp1 fNeg (mC (.int 1))) aNil))) (aCons (mN fTup (aCons (mC (.bl true)) (aCons (mOp1 fNeg (mC (.int 1))) aNil))) aNil))))))))
noncomputable def xq7b : Me := (mOp2 fAdd (mV 7) (mL (lLst (aCons (mN fTup (aCons (mC (.int 1)) (aCons (mOp1 fNeg (mC (.int 1))) (aCons (mC (.int 0)) aNil)))) (aCons (mN fTup (aCons (mC (.int 1)) aNil)) (aCons (mL (lLst (aCons (mC (.int 1)) (aCons (mOp1 fNeg (mC (.int 1))) aNil)))) (aCons (mC .non) (aCons (mC (.int 3)) (aCons (mN fTup (aCons (mC .non) (aCons (mOp1 fNeg (mC (.int 1))) aNil))) (aCons (mN fTup (aCons (mC (.str "1")) (aCons (mOp1 fNeg (mC (.int 1))) aNil))) (aCons (mN m__law_deep (aCons (mC (.int 1)) (aCons (mC (.int 22)) aNil))) aNil)))))))))))
noncomputable def xq8 : Me := (mL (lLst (aCons (mC (.int 0)) (aCons (mC (.int 7)) (aCons (mC (.int 99)) (aCons (mC (.int 100)) (aCons (mOp1 fNeg (mC (.int 1))) (aCons (mC (.bl true)) (aCons (mC .non) (aCons (mC (.str "1")) (aCons (mN fTup (aCons (mC (.int 0)) aNil)) (aCons (mOp2 fPow (mC (.int 10)) (mC (.int 20))) (aCons (mC (.int 3)) aNil)))))))))))))
noncomputable def xq11a : Me := (mOp2 fMulLs (mNew (lLst (aCons (mN fTup (aCons (mOp2 fAdd (mOp2 fAdd (mSl (mV 4) oNone (oSome (mV 9))) (mN fTup (aCons (mN m__law_any (aCons (mV 0) (aCons (mV 7) aNil))) aNil))) (mSl (mV 4) (oSome (mV 9)) oNone)) (aCons (mV 5) aNil))) aNil))) (mC (.int 4)))
noncomputable def xq11b : Me := (mOp2 fAdd (mV 11) (mL (lLst (aCons (mN fTup (aCons (mOp2 fAdd (mSl (mV 4) oNone (oSome (mV 9))) (mSl (mV 4) (oSome (mOp2 fAdd (mV 9) (mC (.int 1)))) oNone)) (aCons (mV 5) aNil))) (aCons (mN fTup (aCons (mRev (mV 4)) (aCons (mV 5) aNil))) (aCons (mN fTup (aCons (mL (lN lList (aCons (mV 4) aNil))) (aCons (mV 5) aNil))) aNil))))))
noncomputable def xq11c : Me := (mOp2 fAdd (mV 11) (mOp2 fMulLs (mNew (lLst (aCons (mN fTup (aCons (mV 4) (aCons (mOp2 fAdd (mOp2 fAdd (mSl (mV 5) oNone (oSome (mV 10))) (mN fTup (aCons (mN m__law_any (aCons (mV 0) (aCons (mV 8) aNil))) aNil))) (mSl (mV 5) (oSome (mV 10)) oNone)) aNil))) aNil))) (mC (.int 3))))
noncomputable def xq11d : Me := (mOp2 fAdd (mV 11) (mL (lLst (aCons (mN fTup (aCons (mV 4) (aCons (mOp2 fAdd (mSl (mV 5) oNone (oSome (mV 10))) (mSl (mV 5) (oSome (mOp2 fAdd (mV 10) (mC (.int 1)))) oNone)) aNil))) (aCons (mN fTup (aCons (mV 4) (aCons (mRev (mV 5)) aNil))) (aCons (mN fTup (aCons (mV 4) (aCons (mL (lN lList (aCons (mV 5) aNil))) aNil))) aNil))))))
noncomputable def xq11e : Me := (mOp2 fAdd (mV 11) (mL (lLst (aCons (mN fTup (aCons (mV 4) aNil)) (aCons (mN fTup (aCons (mV 4) (aCons (mV 5) (aCons (mN fTup aNil) aNil)))) (aCons (mL (lLst (aCons (mV 4) (aCons (mV 5) aNil)))) (aCons (mN fTup (aCons (mV 5) (aCons (mV 4) aNil))) (aCons (mN fTup (aCons (mC .non) (aCons (mV 5) aNil))) (aCons (mN fTup (aCons (mV 4) (aCons (mC .non) aNil))) aNil)))))))))
noncomputable def xq11f : Me := (mOp2 fAdd (mV 11) (mL (lLst (aCons (mC .non) aNil))))
/-! lists by their sums -/
structure Pl (ds : List D) (k N : Nat) : Prop where
  w : ∀ x ∈ ds, hw x = true
  ex : ∃ ps, toPs ds = some ps ∧ PyData.showableAll ps = true ∧ PyData.hasDictAll ps = false ∧ PyData.depthAll ps ≤ k ∧ piled (PyData.shownAll ps) ≤ N
theorem pl_nil {k : Nat} : Pl [] k 0 := ⟨fun x h => (nomatch h), [], rfl, rfl, rfl, Nat.zero_le _, by simp [PyData.shownAll, piled]⟩
theorem pl_cons {d : D} {ds : List D} {k n N : Nat} (h : Pz d k n) (t : Pl ds k N) : Pl (d :: ds) k (n + 2 + N) := by
  obtain ⟨p, e, a, b, c, f⟩ := h.ex
  obtain ⟨ps, e2, a2, b2, c2, f2⟩ := t.ex
  refine ⟨fun x hx => ?_, p :: ps, ?_, ?_, ?_, ?_, ?_⟩
  · rcases List.mem_cons.mp hx with rfl | hx
    · exact h.w
    · exact t.w x hx
  · show (match toP d, toPs ds with | some p, some ps => some (p :: ps) | _, _ => none) = _
    rw [e, e2]
  · simp only [PyData.showableAll, a, a2, Bool.and_self]
  · simp only [PyData.hasDictAll, b, b2, Bool.or_self]
  · simp only [PyData.depthAll]; omega
  · simp only [PyData.shownAll]
    rw [piled_cons]
    omega
theorem Pl.mono {ds : List D} {k N k' N' : Nat} (h : Pl ds k N) (hk : k ≤ k') (hN : N ≤ N') : Pl ds k' N' := by
  obtain ⟨ps, e, a, b, c, f⟩ := h.ex
  exact ⟨h.w, ps, e, a, b, by omega, by omega⟩
theorem pl_app {b : List D} {k M : Nat} (hb : Pl b k M) : ∀ {a : List D} {N n : Nat}, Al a k n → a.length * (n + 2) ≤ N → Pl (a ++ b) k (N + M)
  | [], N, n, _, _ => hb.mono (Nat.le_refl _) (by omega)
  | d :: a, N, n, h, hN => by
    rw [List.length_cons, Nat.succ_mul] at hN
    have ih := pl_app hb (a := a) (N := N - (n + 2)) (n := n) (fun x hx => h x (List.mem_cons_of_mem _ hx)) (by omega)
    exact (pl_cons (h d List.mem_cons_self) ih).mono (Nat.le_refl _) (by omega)
theorem pl_al {a : List D} {k n N : Nat} (h : Al a k n) (hN : a.length * (n + 2) ≤ N) : Pl a k N := by
  have := pl_app (b := []) pl_nil h hN
  rwa [List.append_nil, Nat.add_zero] at this
theorem pz_tupP {ds : List D} {k N : Nat} (h : Pl ds k N) (hl : ds.length ≤ 1000) : Pz (.tup ds) (k + 1) (N + 5) := by
  obtain ⟨ps, e, a, b, c, f⟩ := h.ex
  refine ⟨hw_tup.mpr ⟨hl, h.w⟩, .tuple ps, ?_, ?_, ?_, ?_, ?_⟩
  · show (toPs ds).map PyData.tuple = _
    rw [e]
    rfl
  · simpa [PyData.showable] using a
  · simpa [PyData.hasDict] using b
  · simp only [PyData.depth]; omega
  · simp only [PyData.shown, tupleText]
    rw [Str.length_append, Str.length_append]
    have t1 := join_le (PyData.shownAll ps)
    have t2 : ((if (PyData.shownAll ps).length == 1 then ",)" else ")" : String) : Str).length ≤ 2 := by
      split <;> decide
    have t3 : (("(" : Str)).length ≤ 1 := by decide
    omega
/-- a[:i] + (x,) + a[j:] -/
theorem pz_mid {A B : List D} {x : D} {k n m La Lb : Nat} (hA : Al A k n) (hx : Pz x k m) (hB : Al B k n) (la : A.length ≤ La) (lb : B.length ≤ Lb) (h1 : La + Lb ≤ 900) : Pz (.tup (A ++ [x] ++ B)) (k + 1) ((La + Lb) * (n + 2) + m + 7) := by
  have p1 := pl_cons hx (pl_al hB (Nat.mul_le_mul_right (n + 2) lb))
  have p2 := pl_app p1 hA (Nat.mul_le_mul_right (n + 2) la)
  have e : A ++ [x] ++ B = A ++ (x :: B) := by simp
  rw [e]
  refine (pz_tupP p2 (by rw [List.length_append, List.length_cons]; omega)).mono (Nat.le_refl _) ?_
  have := Nat.add_mul La Lb (n + 2)
  omega
theorem b_le {n : Nat} (h : n ≤ 1000) : n ≤ big := by rw [big_eq]; omega
theorem add_t {h : AH} (a b : List D) (hl : a.length + b.length ≤ 100000) : fAdd (.tup a) (.tup b) h = .ok (.tup (a ++ b)) h := by
  rw [v_addT, if_pos (by rw [big_eq]; omega)]
theorem add_l {h : AH} (a b : List D) (hl : a.length + b.length ≤ 100000) : fAdd (.lst a) (.lst b) h = .ok (.lst (a ++ b)) h := by
  rw [v_addL, if_pos (by rw [big_eq]; omega)]
theorem pz_i (i : Int) (h1 : -1000000 ≤ i) (h2 : i ≤ 1000000) : Pz (.int i) 0 1921 := pz_int (Nat.lt_of_le_of_lt (by omega : i.natAbs ≤ 1000000) (Nat.lt_of_lt_of_le (by decide : 1000000 < 2 ^ 20) (Nat.pow_le_pow_right (by decide) (by decide))))
theorem pz_ten : Pz (.int (10 ^ 20)) 0 1921 := pz_int (Nat.lt_of_lt_of_le (by decide : (10 ^ 20 : Int).natAbs < 2 ^ 70) (Nat.pow_le_pow_right (by decide) (by decide)))
section
variable {cs : List Int} {P : AO} {tl h : AH} {G : AB.Env} {ds R Wt : List D}
theorem x2a_ok (g1 : G[1]? = some (some (.tup ds))) (hl : ds.length ≤ 12) (a : Al ds 3 155) :
    ∃ OL, xq2a G h = .ok (.lst OL) (h ++ [.dct []]) ∧ (∀ x ∈ OL, Pz x 55 900000 ∨ x = .loc h.length) ∧ OL.length = 13 := by
  have b0 : (0 : Nat) ≤ big := b_le (by omega)
  have b1 : (1 : Nat) ≤ big := b_le (by omega)
  have b13 : (13 : Nat) ≤ big := b_le (by omega)
  obtain ⟨h1, e1⟩ : ∃ h1, h1 = h ++ [AO.dct []] := ⟨_, rfl⟩
  have d28 : m__law_deep [.int 0, .int 28] h1 = .ok (deepD 28 (.int 0)) h1 := deep_ok (n := 28) (by omega)
  have m13 := mul13 (h := h1) (ds := ds) (by omega)
  have x1 := add_t (h := h1) ds [.tup []] (by simp; omega)
  refine ⟨[.non, .lst [], .tup [], .loc h.length, .str "", .int 0, .int (-1), .bl true, .lst ds, .tup (List.replicate 13 ds).flatten, deepD 28 (.int 0), .lst [.tup ds], .tup (ds ++ [.tup []])], ?_, ?_, rfl⟩
  · rw [← e1]
    unfold xq2a
    simp only [v_mL, v_lLst, v_aCons, v_aNil, v_mC, v_mN, v_fTup, List.length_cons, List.length_nil, Nat.zero_add, Nat.reduceAdd, b0, b1, if_true, Res.bind_ok, v_mDNew]
    rw [← e1]
    simp only [v_mOp1, v_neg, v_mV, g1, v_lN, v_list, v_vSt, v_mOp2, v_mN, v_aCons, v_aNil, v_mC, v_fTup, m13, d28, v_lLst, v_mL, List.length_cons, List.length_nil, Nat.zero_add, Nat.reduceAdd, b0, b1, b13, if_true, Res.bind_ok, x1]
  · have pT : Pz (.tup []) 3 155 := (pz_tup (L := 0) (k := 0) (n := 0) al_nil (by simp) (by omega)).mono (by omega) (by omega)
    have pD : Pz (.tup ds) 4 1889 := (pz_tup (L := 12) a hl (by omega)).mono (by omega) (by omega)
    intro x hx
    simp only [List.mem_cons, List.not_mem_nil, or_false] at hx
    rcases hx with rfl | rfl | rfl | rfl | rfl | rfl | rfl | rfl | rfl | rfl | rfl | rfl | rfl
    · exact .inl (pz_non.mono (by omega) (by omega))
    · exact .inl ((pz_lst (L := 0) (k := 0) (n := 0) al_nil (by simp)).mono (by omega) (by omega))
    · exact .inl (pT.mono (by omega) (by omega))
    · exact .inr rfl
    · exact .inl ((pz_str (x := "") (by decide +kernel)).mono (by omega) (by omega))
    · exact .inl ((pz_i 0 (by omega) (by omega)).mono (by omega) (by omega))
    · exact .inl ((pz_i (-1) (by omega) (by omega)).mono (by omega) (by omega))
    · exact .inl ((pz_bl true).mono (by omega) (by omega))
    · exact .inl ((pz_lst (L := 12) a hl).mono (by omega) (by omega))
    · refine .inl ((pz_tup (L := 156) (al_rep a 13) (by rw [len_flat]; omega) (by omega)).mono (by omega) (by omega))
    · exact .inl ((pz_deep (pz_i 0 (by omega) (by omega)) 28).mono (by omega) (by omega))
    · exact .inl ((pz_lst (L := 1) (al_cons pD al_nil) (by simp)).mono (by omega) (by omega))
    · exact .inl ((pz_tup (L := 13) (al_app a (al_cons pT al_nil)) (by simp; omega) (by omega)).mono (by omega) (by omega))
theorem x2b_ok {OL : List D} (g1 : G[1]? = some (some (.tup ds))) (g2 : G[2]? = some (some (.lst OL))) (hO : OL.length = 13) (hl : ds.length ≤ 12) (a : Al ds 3 155) :
    ∃ NL, xq2b G h = .ok (.lst (OL ++ NL)) h ∧ (∀ x ∈ NL, Pz x 55 900000) ∧ NL.length = 5 := by
  have b0 : (0 : Nat) ≤ big := b_le (by omega)
  have b1 : (1 : Nat) ≤ big := b_le (by omega)
  have b2 : (2 : Nat) ≤ big := b_le (by omega)
  have b3 : (3 : Nat) ≤ big := b_le (by omega)
  have b5 : (5 : Nat) ≤ big := b_le (by omega)
  have x1 := add_t (h := h) ds [.non] (by simp; omega)
  have x2 := add_t (h := h) ds [.tup [.tup [], .tup [], .tup []]] (by simp; omega)
  have x3 := add_t (h := h) ds [.tup [.tup [], .tup []]] (by simp; omega)
  have m12 : fMulA (.tup [.tup [.tup [], .tup []]]) (.int 12) h = .ok (.tup (List.replicate 12 [D.tup [.tup [], .tup []]]).flatten) h := mulA (k := 12) (by simp) (by simp) (by omega) (by omega)
  have m13 : fMulA (.tup [.tup [.tup [], .tup []]]) (.int 13) h = .ok (.tup (List.replicate 13 [D.tup [.tup [], .tup []]]).flatten) h := mulA (k := 13) (by simp) (by simp) (by omega) (by omega)
  have y := add_l (h := h) OL [.tup (ds ++ [.non]), .tup (ds ++ [.tup [.tup [], .tup [], .tup []]]), .tup (ds ++ [.tup [.tup [], .tup []]]), .tup (List.replicate 12 [D.tup [.tup [], .tup []]]).flatten, .tup (List.replicate 13 [D.tup [.tup [], .tup []]]).flatten] (by simp; omega)
  refine ⟨[.tup (ds ++ [.non]), .tup (ds ++ [.tup [.tup [], .tup [], .tup []]]), .tup (ds ++ [.tup [.tup [], .tup []]]), .tup (List.replicate 12 [D.tup [.tup [], .tup []]]).flatten, .tup (List.replicate 13 [D.tup [.tup [], .tup []]]).flatten], ?_, ?_, rfl⟩
  · unfold xq2b
    simp only [v_mOp2, v_mV, g1, g2, v_mL, v_lLst, v_aCons, v_aNil, v_mC, v_mN, v_fTup, List.length_cons, List.length_nil, Nat.zero_add, Nat.reduceAdd, b0, b1, b2, b3, b5, if_true, Res.bind_ok, x1, x2, x3, m12, m13, y]
  · have pT : Pz (.tup []) 1 5 := (pz_tup (L := 0) (k := 0) (n := 0) al_nil (by simp) (by omega)).mono (by omega) (by omega)
    have p3 : Pz (D.tup [.tup [], .tup [], .tup []]) 3 155 := (pz_tup (L := 3) (al_cons pT (al_cons pT (al_cons pT al_nil))) (by simp) (by omega)).mono (by omega) (by omega)
    have p2 : Pz (D.tup [.tup [], .tup []]) 3 155 := (pz_tup (L := 2) (al_cons pT (al_cons pT al_nil)) (by simp) (by omega)).mono (by omega) (by omega)
    have pN : Pz .non 3 155 := ⟨rfl, .none, rfl, rfl, rfl, by decide, by decide⟩
    intro x hx
    simp only [List.mem_cons, List.not_mem_nil, or_false] at hx
    rcases hx with rfl | rfl | rfl | rfl | rfl
    · exact (pz_tup (L := 13) (al_app a (al_cons pN al_nil)) (by simp; omega) (by omega)).mono (by omega) (by omega)
    · exact (pz_tup (L := 13) (al_app a (al_cons p3 al_nil)) (by simp; omega) (by omega)).mono (by omega) (by omega)
    · exact (pz_tup (L := 13) (al_app a (al_cons p2 al_nil)) (by simp; omega) (by omega)).mono (by omega) (by omega)
    · exact (pz_tup (L := 12) (al_rep (al_cons p2 al_nil) 12) (by rw [len_flat]; simp) (by omega)).mono (by omega) (by omega)
    · exact (pz_tup (L := 13) (al_rep (al_cons p2 al_nil) 13) (by rw [len_flat]; simp) (by omega)).mono (by omega) (by omega)
theorem x6_ok {o2 s4 s5 : D} {a : Nat} (hl : ds.length ≤ 12) (ha : a < ds.length) :
    ∃ OT, xq6 [some (.loc 0), some (.tup ds), some o2, some (.int (a : Int)), some s4, some s5, none, none, none, none, none, none, none, none, none] h = .ok (.lst OT) h ∧ Al OT 0 1921 ∧ 1 ≤ OT.length ∧ OT.length ≤ 30 := by
  have b8 : (8 : Nat) ≤ big := b_le (by omega)
  have f0 : fLen [.tup ds] h = .ok (.int (ds.length : Int)) h := by simp
  have cr : okR (ds.length : Int) := ⟨by omega, by omega⟩
  have ei : (iRange1 (aCons (mN fLen (aCons (mV 1) aNil)) aNil)) [some (.loc 0), some (.tup ds), some o2, some (.int (a : Int)), some s4, some s5, none, none, none, none, none, none, none, none, none] h = .ok ((List.range ds.length).map fun i : Nat => D.int (i : Int), none) h := by
    rw [v_range1]
    simp only [v_aCons, v_aNil, v_mN, v_mV, List.getElem?_cons_succ, List.getElem?_cons_zero, Res.bind_ok, f0, cr, if_true]
    rw [Int.toNat_natCast, rangeD_eq]
  have hc : ∀ all0, compGo (.nm 14) (tBl (mOp2 fNe (mV 14) (mV 3))) (mV 14) none all0 [some (.loc 0), some (.tup ds), some o2, some (.int (a : Int)), some s4, some s5, none, none, none, none, none, none, none, none, none] ((List.range ds.length).map fun i : Nat => D.int (i : Int)) h = .ok (((List.range ds.length).filter fun i : Nat => !decide ((i : Int) = (a : Int))).map fun i : Nat => D.int (i : Int)) h :=
    fun all0 => comp_ok (fun i : Nat => D.int (i : Int)) (fun i : Nat => !decide ((i : Int) = (a : Int))) _ _ fun i hi => ⟨[some (.loc 0), some (.tup ds), some o2, some (.int (a : Int)), some s4, some s5, none, none, none, none, none, none, none, none, some (.int (i : Int))], rfl, by
      simp only [v_tBl, v_mOp2, v_mV, List.getElem?_cons_succ, List.getElem?_cons_zero, Res.bind_ok, v_ne], fun _ => rfl⟩
  have w : wipeG [some (.loc 0), some (.tup ds), some o2, some (.int (a : Int)), some s4, some s5, none, none, none, none, none, none, none, none, none] [14] = [some (.loc 0), some (.tup ds), some o2, some (.int (a : Int)), some s4, some s5, none, none, none, none, none, none, none, none, none] := rfl
  have ln : ((List.range ds.length).map fun i : Nat => D.int (i : Int)).length ≤ big := by rw [List.length_map, List.length_range]; exact b_le (by omega)
  have pw : (0 : Int) ≤ 20 ∧ (20 : Int) ≤ 1000 ∧ (0 : Int) ≤ 10 ∧ (10 : Int) ≤ 1000 := by decide
  have lf : ((List.range ds.length).filter fun i : Nat => !decide ((i : Int) = (a : Int))).length ≤ 12 := by
    have := List.length_filter_le (fun i : Nat => !decide ((i : Int) = (a : Int))) (List.range ds.length)
    rw [List.length_range] at this
    omega
  have y := add_l (h := h) (((List.range ds.length).filter fun i : Nat => !decide ((i : Int) = (a : Int))).map fun i : Nat => D.int (i : Int)) [.int (ds.length : Int), .int (-1), .int (a : Int), .int (-2), .bl true, .non, .str "0", .int (10 ^ (20 : Int).toNat)] (by simp; omega)
  obtain ⟨OT, eO⟩ : ∃ OT, OT = ((List.range ds.length).filter fun i : Nat => !decide ((i : Int) = (a : Int))).map (fun i : Nat => D.int (i : Int)) ++ [.int (ds.length : Int), .int (-1), .int (a : Int), .int (-2), .bl true, .non, .str "0", .int (10 ^ (20 : Int).toNat)] := ⟨_, rfl⟩
  rw [← eO] at y
  refine ⟨OT, ?_, ?_, ?_, ?_⟩
  · unfold xq6
    simp only [v_mOp2, v_mOp1, v_mL, v_lComp, ei, Res.bind_ok, ln, if_true, w, hc, v_lLst, v_aCons, v_aNil, v_mN, v_mV, v_mC, List.getElem?_cons_succ, List.getElem?_cons_zero, f0, v_neg, v_pow, pw, and_self, List.length_cons, List.length_nil, Nat.zero_add, Nat.reduceAdd, b8, y]
  · rw [eO]
    refine al_app (fun x hx => ?_) (al_cons (pz_i _ (by omega) (by omega)) (al_cons (pz_i _ (by omega) (by omega)) (al_cons (pz_i _ (by omega) (by omega)) (al_cons (pz_i _ (by omega) (by omega)) (al_cons (pz_bl _) (al_cons pz_non (al_cons (pz_str (by decide +kernel)) (al_cons pz_ten al_nil))))))))
    obtain ⟨i, hi, rfl⟩ := List.mem_map.mp hx
    have := List.mem_range.mp (List.mem_filter.mp hi).1
    exact pz_i _ (by omega) (by omega)
  · rw [eO, List.length_append, List.length_map]
    show 1 ≤ _ + 8
    omega
  · rw [eO, List.length_append, List.length_map]
    show _ + 8 ≤ 30
    omega
theorem x7a_ok (hc : ∀ c ∈ cs, 0 ≤ c) (hP : IsP cs P) {OT : List D} (g0 : G[0]? = some (some (.loc 0))) (g6 : G[6]? = some (some (.lst OT))) (aO : Al OT 0 1921) (l1 : 1 ≤ OT.length) (l2 : OT.length ≤ 30) :
    ∃ PL P', xq7a G (P :: tl) = .ok (.lst PL) (P' :: tl) ∧ IsP cs P' ∧ Al PL 30 4000 ∧ PL.length = 6 := by
  obtain ⟨x, P1, e1, hP1, hx⟩ := any_ok hc hP OT l1 (by omega) tl
  obtain ⟨y, P2, e2, hP2, hy⟩ := any_ok hc hP1 OT l1 (by omega) tl
  have b2 : (2 : Nat) ≤ big := b_le (by omega)
  have b6 : (6 : Nat) ≤ big := b_le (by omega)
  have two : ∀ {a b : D}, Pz a 0 1921 → Pz b 0 1921 → Pz (.tup [a, b]) 30 4000 := fun ha hb => (pz_tup (L := 2) (al_cons ha (al_cons hb al_nil)) (by simp) (by omega)).mono (by omega) (by omega)
  refine ⟨[.tup [.int 0, x], .tup [.int 99, y], .tup [.int 7, .int (-1)], .tup [.int 100, .int (-1)], .tup [.int (-1), .int (-1)], .tup [.bl true, .int (-1)]], P2, ?_, hP2, ?_, rfl⟩
  · unfold xq7a
    simp only [v_mL, v_lLst, v_aCons, v_aNil, v_mN, v_mC, v_mV, g0, g6, Res.bind_ok, e1, e2, v_fTup, v_mOp1, v_neg, List.length_cons, List.length_nil, Nat.zero_add, Nat.reduceAdd, b2, b6, if_true]
  · have i1 := pz_i (-1) (by omega) (by omega)
    exact al_cons (two (pz_i _ (by omega) (by omega)) (aO x hx)) (al_cons (two (pz_i _ (by omega) (by omega)) (aO y hy)) (al_cons (two (pz_i _ (by omega) (by omega)) i1) (al_cons (two (pz_i _ (by omega) (by omega)) i1) (al_cons (two i1 i1) (al_cons (two (pz_bl _) i1) al_nil)))))
theorem x7b_ok {PL : List D} (g7 : G[7]? = some (some (.lst PL))) (aP : Al PL 30 4000) (lP : PL.length = 6) :
    ∃ QL, xq7b G h = .ok (.lst QL) h ∧ Al QL 30 4000 ∧ QL.length = 14 := by
  have b1 : (1 : Nat) ≤ big := b_le (by omega)
  have b2 : (2 : Nat) ≤ big := b_le (by omega)
  have b3 : (3 : Nat) ≤ big := b_le (by omega)
  have b8 : (8 : Nat) ≤ big := b_le (by omega)
  have d22 : m__law_deep [.int 1, .int 22] h = .ok (deepD 22 (.int 1)) h := deep_ok (n := 22) (by omega)
  have y := add_l (h := h) PL [.tup [.int 1, .int (-1), .int 0], .tup [.int 1], .lst [.int 1, .int (-1)], .non, .int 3, .tup [.non, .int (-1)], .tup [.str "1", .int (-1)], deepD 22 (.int 1)] (by simp; omega)
  refine ⟨PL ++ [.tup [.int 1, .int (-1), .int 0], .tup [.int 1], .lst [.int 1, .int (-1)], .non, .int 3, .tup [.non, .int (-1)], .tup [.str "1", .int (-1)], deepD 22 (.int 1)], ?_, ?_, by rw [List.length_append]; show PL.length + 8 = 14; omega⟩
  · unfold xq7b
    simp only [v_mOp2, v_mOp1, v_mL, v_lLst, v_aCons, v_aNil, v_mN, v_mC, v_mV, g7, Res.bind_ok, v_neg, d22, v_fTup, List.length_cons, List.length_nil, Nat.zero_add, Nat.reduceAdd, b1, b2, b3, b8, if_true, y]
  · have i1 := pz_i (-1) (by omega) (by omega)
    have s0 := pz_small (i := 0) (by omega) (by omega)
    have s1 := pz_small (i := 1) (by omega) (by omega)
    have s2 := pz_small (i := -1) (by omega) (by omega)
    refine al_app aP (al_cons ?_ (al_cons ?_ (al_cons ?_ (al_cons (pz_non.mono (by omega) (by omega)) (al_cons ((pz_i 3 (by omega) (by omega)).mono (by omega) (by omega)) (al_cons ?_ (al_cons ?_ (al_cons ?_ al_nil))))))))
    · exact (pz_tup (L := 3) (al_cons s1 (al_cons s2 (al_cons s0 al_nil))) (by simp) (by omega)).mono (by omega) (by omega)
    · exact (pz_tup (L := 1) (al_cons s1 al_nil) (by simp) (by omega)).mono (by omega) (by omega)
    · exact (pz_lst (L := 2) (al_cons s1 (al_cons s2 al_nil)) (by simp)).mono (by omega) (by omega)
    · exact (pz_tup (L := 2) (al_cons pz_non (al_cons i1 al_nil)) (by simp) (by omega)).mono (by omega) (by omega)
    · exact (pz_tup (L := 2) (al_cons (pz_str (by decide +kernel)) (al_cons i1 al_nil)) (by simp) (by omega)).mono (by omega) (by omega)
    · exact (pz_deep s1 22).mono (by omega) (by omega)
theorem x8_ok : ∃ KL, xq8 G h = .ok (.lst KL) h ∧ Al KL 30 4000 ∧ KL.length = 11 := by
  have b1 : (1 : Nat) ≤ big := b_le (by omega)
  have b11 : (11 : Nat) ≤ big := b_le (by omega)
  have pw : (0 : Int) ≤ 20 ∧ (20 : Int) ≤ 1000 ∧ (0 : Int) ≤ 10 ∧ (10 : Int) ≤ 1000 := by decide
  refine ⟨[.int 0, .int 7, .int 99, .int 100, .int (-1), .bl true, .non, .str "1", .tup [.int 0], .int (10 ^ (20 : Int).toNat), .int 3], ?_, ?_, rfl⟩
  · unfold xq8
    simp only [v_mOp2, v_mOp1, v_mL, v_lLst, v_aCons, v_aNil, v_mN, v_mC, v_mV, Res.bind_ok, v_neg, v_pow, pw, and_self, v_fTup, List.length_cons, List.length_nil, Nat.zero_add, Nat.reduceAdd, b1, b11, if_true]
  · have q : ∀ {d : D}, Pz d 0 1921 → Pz d 30 4000 := fun z => z.mono (by omega) (by omega)
    have i : ∀ i : Int, -1000000 ≤ i → i ≤ 1000000 → Pz (.int i) 30 4000 := fun i h1 h2 => q (pz_i i h1 h2)
    refine al_cons (i _ (by omega) (by omega)) (al_cons (i _ (by omega) (by omega)) (al_cons (i _ (by omega) (by omega)) (al_cons (i _ (by omega) (by omega)) (al_cons (i _ (by omega) (by omega)) (al_cons (q (pz_bl _)) (al_cons (q pz_non) (al_cons (q (pz_str (by decide +kernel))) (al_cons ?_ (al_cons (q pz_ten) (al_cons (i _ (by omega) (by omega)) al_nil))))))))))
    exact (pz_tup (L := 1) (al_cons (pz_i 0 (by omega) (by omega)) al_nil) (by simp) (by omega)).mono (by omega) (by omega)
end
end My
/-! what _law_bent hands back: the deals -/
namespace My
open PySem AB L2
theorem pz_deal {a b : D} (ha : Pz a 36 4300) (hb : Pz b 36 4300) : Pz (.tup [a, b]) 40 13000 := (pz_tup (L := 2) (al_cons ha (al_cons hb al_nil)) (by simp) (by omega)).mono (by omega) (by omega)
theorem pz_rd {R : List D} (aR : Al R 1 15) (lR : R.length ≤ 4) : Pz (.tup R) 36 4300 := (pz_tup (L := 4) aR lR (by omega)).mono (by omega) (by omega)
theorem pz_wt {Wt : List D} (aW : Al Wt 0 3) (lW : Wt.length ≤ 4) : Pz (.tup Wt) 36 4300 := (pz_tup (L := 4) aW lW (by omega)).mono (by omega) (by omega)
section
variable {cs : List Int} {P : AO} {tl h : AH} {G : AB.Env} {ds R Wt DL : List D} {i j : Nat}
theorem slice_lo {xs : List D} {k m : Nat} (g : G[k]? = some (some (.tup xs))) (gm : G[m]? = some (some (.int (i : Int)))) : (mSl (mV k) oNone (oSome (mV m))) G h = .ok (.tup (cutD xs none (some (i : Int)))) h := by
  simp only [v_mSlT, v_mV, g, gm, Res.bind_ok, v_oNone, v_oSome]
theorem slice_hi {xs : List D} {k m : Nat} (g : G[k]? = some (some (.tup xs))) (gm : G[m]? = some (some (.int (i : Int)))) : (mSl (mV k) (oSome (mV m)) oNone) G h = .ok (.tup (cutD xs (some (i : Int)) none)) h := by
  simp only [v_mSlT, v_mV, g, gm, Res.bind_ok, v_oNone, v_oSome]
theorem slice_hi1 {xs : List D} {k m : Nat} (g : G[k]? = some (some (.tup xs))) (gm : G[m]? = some (some (.int (i : Int)))) : (mSl (mV k) (oSome (mOp2 fAdd (mV m) (mC (.int 1)))) oNone) G h = .ok (.tup (cutD xs (some ((i : Int) + 1)) none)) h := by
  simp only [v_mSlT, v_mOp2, v_mV, v_mC, g, gm, Res.bind_ok, v_add, v_oNone, v_oSome]
theorem x11a_ok (hc : ∀ c ∈ cs, 0 ≤ c) (hP : IsP cs P) {QL : List D} (g0 : G[0]? = some (some (.loc 0))) (g4 : G[4]? = some (some (.tup R))) (g5 : G[5]? = some (some (.tup Wt))) (g7 : G[7]? = some (some (.lst QL))) (g9 : G[9]? = some (some (.int (i : Int))))
    (aR : Al R 1 15) (lR : R.length ≤ 4) (aW : Al Wt 0 3) (lW : Wt.length ≤ 4) (aQ : Al QL 30 4000) (lQ : QL.length = 14) :
    ∃ DL P' o, xq11a G (P :: tl) = .ok (.lst DL) (P' :: (tl ++ [o])) ∧ IsP cs P' ∧ Al DL 40 13000 ∧ DL.length = 4 := by
  obtain ⟨x, P1, e1, hP1, hx⟩ := any_ok hc hP QL (by omega) (by omega) tl
  have b1 : (1 : Nat) ≤ big := b_le (by omega)
  have b2 : (2 : Nat) ≤ big := b_le (by omega)
  have cA := cut_len R none (some (i : Int))
  have cB := cut_len R (some (i : Int)) none
  have s1 := slice_lo (h := P :: tl) g4 g9
  have s2 := slice_hi (h := P1 :: tl) g4 g9
  have y1 := add_t (h := P1 :: tl) (cutD R none (some (i : Int))) [x] (by simp; omega)
  have y2 := add_t (h := P1 :: tl) (cutD R none (some (i : Int)) ++ [x]) (cutD R (some (i : Int)) none) (by simp; omega)
  obtain ⟨w, ew⟩ : ∃ w, w = D.tup [.tup (cutD R none (some (i : Int)) ++ [x] ++ cutD R (some (i : Int)) none), .tup Wt] := ⟨_, rfl⟩
  have gn : (P1 :: tl ++ [AO.lst [w]])[(P1 :: tl).length]? = some (.lst [w]) := g_app (P1 :: tl) [AO.lst [w]] 0
  have m4 : fMulLs (.loc (P1 :: tl).length) (.int 4) (P1 :: tl ++ [AO.lst [w]]) = .ok (.lst (List.replicate 4 [w]).flatten) (P1 :: tl ++ [AO.lst [w]]) := mulLs (k := 4) gn (by simp) (by omega)
  refine ⟨(List.replicate 4 [w]).flatten, P1, AO.lst [w], ?_, hP1, al_rep (al_cons ?_ al_nil) 4, by rw [len_flat]; rfl⟩
  · unfold xq11a
    simp only [v_mOp2, v_mNew, v_lLst, v_aCons, v_aNil, v_mN, s1, Res.bind_ok, v_mV, g0, g7, e1, v_fTup, List.length_cons, List.length_nil, Nat.zero_add, Nat.reduceAdd, b1, b2, if_true, y1, s2, y2, g5, v_mC]
    rw [← ew]
    exact m4
  · rw [ew]
    exact pz_deal ((pz_mid (La := 4) (Lb := 4) (k := 30) ((al_cut aR _ _).mono (by omega) (Nat.le_refl _)) (aQ x hx) ((al_cut aR _ _).mono (by omega) (Nat.le_refl _)) (by omega) (by omega) (by omega)).mono (by omega) (by omega)) (pz_wt aW lW)
theorem x11b_ok (g4 : G[4]? = some (some (.tup R))) (g5 : G[5]? = some (some (.tup Wt))) (g9 : G[9]? = some (some (.int (i : Int)))) (g11 : G[11]? = some (some (.lst DL)))
    (aR : Al R 1 15) (lR : R.length ≤ 4) (aW : Al Wt 0 3) (lW : Wt.length ≤ 4) (aD : Al DL 40 13000) (lD : DL.length ≤ 50) :
    ∃ EL, xq11b G h = .ok (.lst EL) h ∧ Al EL 40 13000 ∧ EL.length = DL.length + 3 := by
  have b2 : (2 : Nat) ≤ big := b_le (by omega)
  have b3 : (3 : Nat) ≤ big := b_le (by omega)
  have cA := cut_len R none (some (i : Int))
  have cB := cut_len R (some ((i : Int) + 1)) none
  have s1 := slice_lo (h := h) g4 g9
  have s2 := slice_hi1 (h := h) g4 g9
  have y1 := add_t (h := h) (cutD R none (some (i : Int))) (cutD R (some ((i : Int) + 1)) none) (by omega)
  have y := add_l (h := h) DL [.tup [.tup (cutD R none (some (i : Int)) ++ cutD R (some ((i : Int) + 1)) none), .tup Wt], .tup [.tup R.reverse, .tup Wt], .tup [.lst R, .tup Wt]] (by simp; omega)
  refine ⟨DL ++ [.tup [.tup (cutD R none (some (i : Int)) ++ cutD R (some ((i : Int) + 1)) none), .tup Wt], .tup [.tup R.reverse, .tup Wt], .tup [.lst R, .tup Wt]], ?_, al_app aD (al_cons (pz_deal ?_ (pz_wt aW lW)) (al_cons (pz_deal ?_ (pz_wt aW lW)) (al_cons (pz_deal ?_ (pz_wt aW lW)) al_nil))), by rw [List.length_append]; rfl⟩
  · unfold xq11b
    simp only [v_mOp2, v_mL, v_lLst, v_aCons, v_aNil, v_mN, v_lN, s1, s2, Res.bind_ok, v_mV, g4, g5, g11, v_fTup, List.length_cons, List.length_nil, Nat.zero_add, Nat.reduceAdd, b2, b3, if_true, y1, v_mRev, v_list, v_vSt, y]
  · show Pz (.tup (cutD R none (some (i : Int)) ++ cutD R (some ((i : Int) + 1)) none)) 36 4300
    exact (pz_tup (L := 8) (al_app (al_cut aR _ _) (al_cut aR _ _)) (by rw [List.length_append]; omega) (by omega)).mono (by omega) (by omega)
  · show Pz (.tup R.reverse) 36 4300
    exact pz_rd (aR.sub fun x hx => List.mem_reverse.mp hx) (by rw [List.length_reverse]; exact lR)
  · show Pz (.lst R) 36 4300
    exact (pz_lst (L := 4) aR lR).mono (by omega) (by omega)
theorem x11c_ok (hc : ∀ c ∈ cs, 0 ≤ c) (hP : IsP cs P) {KL : List D} (g0 : G[0]? = some (some (.loc 0))) (g4 : G[4]? = some (some (.tup R))) (g5 : G[5]? = some (some (.tup Wt))) (g8 : G[8]? = some (some (.lst KL))) (g10 : G[10]? = some (some (.int (j : Int)))) (g11 : G[11]? = some (some (.lst DL)))
    (aR : Al R 1 15) (lR : R.length ≤ 4) (aW : Al Wt 0 3) (lW : Wt.length ≤ 4) (aK : Al KL 30 4000) (lK : KL.length = 11) (aD : Al DL 40 13000) (lD : DL.length ≤ 50) :
    ∃ EL P' o, xq11c G (P :: tl) = .ok (.lst EL) (P' :: (tl ++ [o])) ∧ IsP cs P' ∧ Al EL 40 13000 ∧ EL.length = DL.length + 3 := by
  obtain ⟨x, P1, e1, hP1, hx⟩ := any_ok hc hP KL (by omega) (by omega) tl
  have b1 : (1 : Nat) ≤ big := b_le (by omega)
  have b2 : (2 : Nat) ≤ big := b_le (by omega)
  have cA := cut_len Wt none (some (j : Int))
  have cB := cut_len Wt (some (j : Int)) none
  have s1 := slice_lo (h := P :: tl) g5 g10
  have s2 := slice_hi (h := P1 :: tl) g5 g10
  have y1 := add_t (h := P1 :: tl) (cutD Wt none (some (j : Int))) [x] (by simp; omega)
  have y2 := add_t (h := P1 :: tl) (cutD Wt none (some (j : Int)) ++ [x]) (cutD Wt (some (j : Int)) none) (by simp; omega)
  obtain ⟨w, ew⟩ : ∃ w, w = D.tup [.tup R, .tup (cutD Wt none (some (j : Int)) ++ [x] ++ cutD Wt (some (j : Int)) none)] := ⟨_, rfl⟩
  have gn : (P1 :: tl ++ [AO.lst [w]])[(P1 :: tl).length]? = some (.lst [w]) := g_app (P1 :: tl) [AO.lst [w]] 0
  have m3 : fMulLs (.loc (P1 :: tl).length) (.int 3) (P1 :: tl ++ [AO.lst [w]]) = .ok (.lst (List.replicate 3 [w]).flatten) (P1 :: tl ++ [AO.lst [w]]) := mulLs (k := 3) gn (by simp) (by omega)
  have lr : (List.replicate 3 [w]).flatten.length = 3 := by rw [len_flat]; rfl
  have y := add_l (h := P1 :: tl ++ [AO.lst [w]]) DL (List.replicate 3 [w]).flatten (by omega)
  refine ⟨DL ++ (List.replicate 3 [w]).flatten, P1, AO.lst [w], ?_, hP1, al_app aD (al_rep (al_cons ?_ al_nil) 3), by rw [List.length_append, lr]⟩
  · unfold xq11c
    simp only [v_mOp2, v_mNew, v_lLst, v_aCons, v_aNil, v_mN, s1, Res.bind_ok, v_mV, g0, g4, g8, g11, e1, v_fTup, List.length_cons, List.length_nil, Nat.zero_add, Nat.reduceAdd, b1, b2, if_true, y1, s2, y2, v_mC]
    rw [← ew]
    have m3' : fMulLs (.loc (tl.length + 1)) (.int 3) (P1 :: tl ++ [AO.lst [w]]) = .ok (.lst (List.replicate 3 [w]).flatten) (P1 :: tl ++ [AO.lst [w]]) := m3
    simp only [m3', Res.bind_ok, y]
    rfl
  · rw [ew]
    exact pz_deal (pz_rd aR lR) ((pz_mid (La := 4) (Lb := 4) (k := 30) ((al_cut aW _ _).mono (by omega) (Nat.le_refl _)) (aK x hx) ((al_cut aW _ _).mono (by omega) (Nat.le_refl _)) (by omega) (by omega) (by omega)).mono (by omega) (by omega))
theorem x11d_ok (g4 : G[4]? = some (some (.tup R))) (g5 : G[5]? = some (some (.tup Wt))) (g10 : G[10]? = some (some (.int (j : Int)))) (g11 : G[11]? = some (some (.lst DL)))
    (aR : Al R 1 15) (lR : R.length ≤ 4) (aW : Al Wt 0 3) (lW : Wt.length ≤ 4) (aD : Al DL 40 13000) (lD : DL.length ≤ 50) :
    ∃ EL, xq11d G h = .ok (.lst EL) h ∧ Al EL 40 13000 ∧ EL.length = DL.length + 3 := by
  have b2 : (2 : Nat) ≤ big := b_le (by omega)
  have b3 : (3 : Nat) ≤ big := b_le (by omega)
  have cA := cut_len Wt none (some (j : Int))
  have cB := cut_len Wt (some ((j : Int) + 1)) none
  have s1 := slice_lo (h := h) g5 g10
  have s2 := slice_hi1 (h := h) g5 g10
  have y1 := add_t (h := h) (cutD Wt none (some (j : Int))) (cutD Wt (some ((j : Int) + 1)) none) (by omega)
  have y := add_l (h := h) DL [.tup [.tup R, .tup (cutD Wt none (some (j : Int)) ++ cutD Wt (some ((j : Int) + 1)) none)], .tup [.tup R, .tup Wt.reverse], .tup [.tup R, .lst Wt]] (by simp; omega)
  refine ⟨DL ++ [.tup [.tup R, .tup (cutD Wt none (some (j : Int)) ++ cutD Wt (some ((j : Int) + 1)) none)], .tup [.tup R, .tup Wt.reverse], .tup [.tup R, .lst Wt]], ?_, al_app aD (al_cons (pz_deal (pz_rd aR lR) ?_) (al_cons (pz_deal (pz_rd aR lR) ?_) (al_cons (pz_deal (pz_rd aR lR) ?_) al_nil))), by rw [List.length_append]; rfl⟩
  · unfold xq11d
    simp only [v_mOp2, v_mL, v_lLst, v_aCons, v_aNil, v_mN, v_lN, s1, s2, Res.bind_ok, v_mV, g4, g5, g11, v_fTup, List.length_cons, List.length_nil, Nat.zero_add, Nat.reduceAdd, b2, b3, if_true, y1, v_mRev, v_list, v_vSt, y]
  · show Pz (.tup (cutD Wt none (some (j : Int)) ++ cutD Wt (some ((j : Int) + 1)) none)) 36 4300
    exact (pz_tup (L := 8) (al_app (al_cut aW _ _) (al_cut aW _ _)) (by rw [List.length_append]; omega) (by omega)).mono (by omega) (by omega)
  · show Pz (.tup Wt.reverse) 36 4300
    exact pz_wt (aW.sub fun x hx => List.mem_reverse.mp hx) (by rw [List.length_reverse]; exact lW)
  · show Pz (.lst Wt) 36 4300
    exact (pz_lst (L := 4) aW lW).mono (by omega) (by omega)
theorem x11e_ok (g4 : G[4]? = some (some (.tup R))) (g5 : G[5]? = some (some (.tup Wt))) (g11 : G[11]? = some (some (.lst DL)))
    (aR : Al R 1 15) (lR : R.length ≤ 4) (aW : Al Wt 0 3) (lW : Wt.length ≤ 4) (aD : Al DL 40 13000) (lD : DL.length ≤ 50) :
    ∃ EL, xq11e G h = .ok (.lst EL) h ∧ Al EL 40 13000 ∧ EL.length = DL.length + 6 := by
  have b0 : (0 : Nat) ≤ big := b_le (by omega)
  have b1 : (1 : Nat) ≤ big := b_le (by omega)
  have b2 : (2 : Nat) ≤ big := b_le (by omega)
  have b3 : (3 : Nat) ≤ big := b_le (by omega)
  have b6 : (6 : Nat) ≤ big := b_le (by omega)
  have y := add_l (h := h) DL [.tup [.tup R], .tup [.tup R, .tup Wt, .tup []], .lst [.tup R, .tup Wt], .tup [.tup Wt, .tup R], .tup [.non, .tup Wt], .tup [.tup R, .non]] (by simp; omega)
  have pR := pz_rd aR lR
  have pW := pz_wt aW lW
  have pT : Pz (.tup []) 36 4300 := (pz_tup (L := 0) (k := 0) (n := 0) al_nil (by simp) (by omega)).mono (by omega) (by omega)
  have pN : Pz .non 36 4300 := pz_non.mono (by omega) (by omega)
  refine ⟨DL ++ [.tup [.tup R], .tup [.tup R, .tup Wt, .tup []], .lst [.tup R, .tup Wt], .tup [.tup Wt, .tup R], .tup [.non, .tup Wt], .tup [.tup R, .non]], ?_, al_app aD (al_cons ?_ (al_cons ?_ (al_cons ?_ (al_cons (pz_deal pW pR) (al_cons (pz_deal pN pW) (al_cons (pz_deal pR pN) al_nil)))))), by rw [List.length_append]; rfl⟩
  · unfold xq11e
    simp only [v_mOp2, v_mL, v_lLst, v_aCons, v_aNil, v_mN, v_mC, Res.bind_ok, v_mV, g4, g5, g11, v_fTup, List.length_cons, List.length_nil, Nat.zero_add, Nat.reduceAdd, b0, b1, b2, b3, b6, if_true, y]
  · exact (pz_tup (L := 1) (al_cons pR al_nil) (by simp) (by omega)).mono (by omega) (by omega)
  · exact (pz_tup (L := 3) (al_cons pR (al_cons pW (al_cons pT al_nil))) (by simp) (by omega)).mono (by omega) (by omega)
  · exact (pz_lst (L := 2) (al_cons pR (al_cons pW al_nil)) (by simp)).mono (by omega) (by omega)
theorem x11f_ok (g11 : G[11]? = some (some (.lst DL))) (aD : Al DL 40 13000) (lD : DL.length ≤ 50) :
    ∃ EL, xq11f G h = .ok (.lst EL) h ∧ Al EL 40 13000 ∧ EL.length = DL.length + 1 := by
  have b1 : (1 : Nat) ≤ big := b_le (by omega)
  have y := add_l (h := h) DL [.non] (by simp; omega)
  refine ⟨DL ++ [.non], ?_, al_app aD (al_cons (pz_non.mono (by omega) (by omega)) al_nil), by rw [List.length_append]; rfl⟩
  unfold xq11f
  simp only [v_mOp2, v_mL, v_lLst, v_aCons, v_aNil, v_mC, Res.bind_ok, v_mV, g11, List.length_cons, List.length_nil, Nat.zero_add, b1, if_true, y]
end
end My
/-! _law_bent -/
namespace My
open PySem AB L2
section
variable {cs : List Int} {P : AO} {tl h : AH} {ds Wt DL OT QL KL : List D} {rs : List (Int × Int)} {a i j : Nat} {o2 : D}
noncomputable abbrev eJ (ds : List D) (o2 : D) (a : Nat) (rs : List (Int × Int)) (Wt OT QL KL : List D) (i j : Nat) (DL : List D) (u v : Option D) : AB.Env :=
  [some (.loc 0), some (.tup ds), some o2, some (.int (a : Int)), some (.tup (rs.map rD)), some (.tup Wt), some (.lst OT), some (.lst QL), some (.lst KL), some (.int (i : Int)), some (.int (j : Int)), some (.lst DL), u, v, none]
theorem qj_ok (hc : ∀ c ∈ cs, 0 ≤ c) (hP : IsP cs P) (aR : Al (rs.map rD) 1 15) (lR : rs.length ≤ 4) (aW : Al Wt 0 3) (lW : Wt.length ≤ 4) (aO : Al OT 0 1921) (l1 : 1 ≤ OT.length) (l2 : OT.length ≤ 30) (bR : ∀ q ∈ rs, 0 ≤ q.1 ∧ q.1 ≤ 99) (aD : Al DL 40 13000) (lD : DL.length ≤ 40) :
    ∃ EL u v P' T, qj (eJ ds o2 a rs Wt OT QL KL i j DL none none) (P :: tl) = .next (eJ ds o2 a rs Wt OT QL KL i j EL u v) (P' :: (tl ++ T)) ∧ IsP cs P' ∧ Al EL 40 13000 ∧ DL.length ≤ EL.length ∧ EL.length ≤ DL.length + 6 := by
  have f4 : ∀ h : AH, fLen [.tup (rs.map rD)] h = .ok (.int (rs.length : Int)) h := fun h => by simp
  by_cases c : rs.length = 0
  · have c0 : decide ((0 : Int) < (rs.length : Int)) = false := decide_eq_false (by omega)
    refine ⟨DL, none, none, P, [], ?_, hP, aD, Nat.le_refl _, by omega⟩
    unfold qj eJ
    simp only [v_sIf, v_tBl, v_mOp2, v_mN, v_aCons, v_aNil, v_mV, v_mC, List.getElem?_cons_succ, List.getElem?_cons_zero, Res.bind_ok, f4, v_cGt, c0, Res.toS_ok, Bool.false_eq_true, if_false, v_sNil, List.append_nil]
  · have c0 : decide ((0 : Int) < (rs.length : Int)) = true := decide_eq_true (by omega)
    obtain ⟨m, em, hm⟩ : ∃ m : Nat, (if ((rs.length : Int) - 1) < (i : Int) then ((rs.length : Int) - 1) else (i : Int)) = (m : Int) ∧ m < rs.length := by
      by_cases z : ((rs.length : Int) - 1) < (i : Int)
      · exact ⟨rs.length - 1, by rw [if_pos z]; omega, by omega⟩
      · exact ⟨i, by rw [if_neg z], by omega⟩
    obtain ⟨q, eq⟩ : ∃ q, q = rs.getD m (0, 0) := ⟨_, rfl⟩
    have hq : q ∈ rs := by
      rw [eq, List.getD_eq_getElem?_getD, List.getElem?_eq_getElem hm]
      exact List.getElem_mem hm
    have xm : ∀ h : AH, fIx (.tup (rs.map rD)) (.int (m : Int)) h = .ok (rD q) h := fun h => by
      rw [ix_D (by rw [List.length_map]; exact hm), eq]
      simp [List.getD_eq_getElem?_getD, List.getElem?_eq_getElem hm]
    have x0 : ∀ h : AH, fIx (rD q) (.int 0) h = .ok (.int q.1) h := fun h => ix_D (ds := [.int q.1, .int q.2]) (i := 0) (by simp)
    have mn : ∀ h : AH, fMin [.int (i : Int), .int ((rs.length : Int) - 1)] h = .ok (.int (m : Int)) h := fun h => by
      rw [← em]
      rfl
    obtain ⟨y, P1, e1, hP1, hy⟩ := any_ok hc hP OT l1 (by omega) tl
    have b1 : (1 : Nat) ≤ big := b_le (by omega)
    have b2 : (2 : Nat) ≤ big := b_le (by omega)
    have cA := cut_len (rs.map rD) none (some (i : Int))
    have cB := cut_len (rs.map rD) (some ((i : Int) + 1)) none
    rw [List.length_map] at cA cB
    have y1 := add_t (h := P1 :: tl) (cutD (rs.map rD) none (some (i : Int))) [.tup [.int q.1, y]] (by simp; omega)
    have y2 := add_t (h := P1 :: tl) (cutD (rs.map rD) none (some (i : Int)) ++ [.tup [.int q.1, y]]) (cutD (rs.map rD) (some ((i : Int) + 1)) none) (by simp; omega)
    obtain ⟨Tn, eT⟩ : ∃ Tn, Tn = D.tup (cutD (rs.map rD) none (some (i : Int)) ++ [.tup [.int q.1, y]] ++ cutD (rs.map rD) (some ((i : Int) + 1)) none) := ⟨_, rfl⟩
    have gn : (P1 :: tl ++ [AO.lst [D.tup [Tn, .tup Wt]]])[(P1 :: tl).length]? = some (.lst [D.tup [Tn, .tup Wt]]) := g_app (P1 :: tl) [AO.lst [D.tup [Tn, .tup Wt]]] 0
    have m6 : fMulLs (.loc (P1 :: tl).length) (.int 6) (P1 :: tl ++ [AO.lst [D.tup [Tn, .tup Wt]]]) = .ok (.lst (List.replicate 6 [D.tup [Tn, .tup Wt]]).flatten) (P1 :: tl ++ [AO.lst [D.tup [Tn, .tup Wt]]]) := mulLs (k := 6) gn (by simp) (by omega)
    have lr : (List.replicate 6 [D.tup [Tn, .tup Wt]]).flatten.length = 6 := by rw [len_flat]; rfl
    have ya := add_l (h := P1 :: tl ++ [AO.lst [D.tup [Tn, .tup Wt]]]) DL (List.replicate 6 [D.tup [Tn, .tup Wt]]).flatten (by omega)
    have pT : Pz Tn 36 4300 := by
      rw [eT]
      have py : Pz (.tup [.int q.1, y]) 30 4000 := (pz_tup (L := 2) (al_cons (pz_i q.1 (by have := bR q hq; omega) (by have := bR q hq; omega)) (al_cons (aO y hy) al_nil)) (by simp) (by omega)).mono (by omega) (by omega)
      exact (pz_mid (La := 4) (Lb := 4) (k := 30) ((al_cut aR _ _).mono (by omega) (Nat.le_refl _)) py ((al_cut aR _ _).mono (by omega) (Nat.le_refl _)) (by omega) (by omega) (by omega)).mono (by omega) (by omega)
    refine ⟨DL ++ (List.replicate 6 [D.tup [Tn, .tup Wt]]).flatten, some (rD q), some Tn, P1, [AO.lst [D.tup [Tn, .tup Wt]]], ?_, hP1, al_app aD (al_rep (al_cons (pz_deal pT (pz_wt aW lW)) al_nil) 6), by rw [List.length_append]; omega, by rw [List.length_append, lr]; omega⟩
    unfold qj eJ
    simp only [v_sIf, v_tBl, v_mOp2, v_mN, v_aCons, v_aNil, v_mV, v_mC, List.getElem?_cons_succ, List.getElem?_cons_zero, Res.bind_ok, f4, v_cGt, c0, Res.toS_ok, if_true, v_sSeq, v_sSet, v_sub, mn, xm, List.set_cons_succ, List.set_cons_zero, SR.andThen_next, v_mSlT, v_oNone, v_oSome, x0, e1, v_fTup, List.length_cons, List.length_nil, Nat.zero_add, Nat.reduceAdd, b1, b2, y1, v_add, y2]
    rw [← eT]
    simp only [List.getElem?_cons_succ, List.getElem?_cons_zero, v_mNew, v_lLst, v_aCons, v_aNil, v_mN, v_mV, Res.bind_ok, v_fTup, List.length_cons, List.length_nil, Nat.zero_add, Nat.reduceAdd, b1, b2, if_true]
    have m6' : fMulLs (.loc (tl.length + 1)) (.int 6) (P1 :: tl ++ [AO.lst [D.tup [Tn, .tup Wt]]]) = .ok (.lst (List.replicate 6 [D.tup [Tn, .tup Wt]]).flatten) (P1 :: tl ++ [AO.lst [D.tup [Tn, .tup Wt]]]) := m6
    simp only [m6', Res.bind_ok, ya, Res.toS_ok, SR.andThen_next, v_sNil, List.set_cons_succ, List.set_cons_zero]
    rfl
theorem qr_ok (hc : ∀ c ∈ cs, 0 ≤ c) (hP : IsP cs P) {u v : Option D} (aS : Al ds 3 155) (lS : ds.length ≤ 12) (aD : Al DL 40 13000) (lD : DL.length ≤ 60) (l1 : 1 ≤ DL.length) :
    ∃ d P', qr (eJ ds o2 a rs Wt OT QL KL i j DL u v) (P :: tl) = .ret d (P' :: tl) ∧ IsP cs P' ∧ Pz d 55 900000 := by
  obtain ⟨x, P1, e1, hP1, hx⟩ := any_ok hc hP DL l1 (by omega) tl
  have b1 : (1 : Nat) ≤ big := b_le (by omega)
  have cA := cut_len ds none (some (a : Int))
  have cB := cut_len ds (some ((a : Int) + 1)) none
  have y1 := add_t (h := P1 :: tl) (cutD ds none (some (a : Int))) [x] (by simp; omega)
  have y2 := add_t (h := P1 :: tl) (cutD ds none (some (a : Int)) ++ [x]) (cutD ds (some ((a : Int) + 1)) none) (by simp; omega)
  refine ⟨.tup (cutD ds none (some (a : Int)) ++ [x] ++ cutD ds (some ((a : Int) + 1)) none), P1, ?_, hP1, ?_⟩
  · unfold qr eJ
    simp only [v_sRet, v_mOp2, v_mSlT, v_oNone, v_oSome, v_mN, v_aCons, v_aNil, v_mV, v_mC, List.getElem?_cons_succ, List.getElem?_cons_zero, Res.bind_ok, e1, v_fTup, List.length_cons, List.length_nil, Nat.zero_add, b1, if_true, y1, v_add, y2, Res.toS_ok]
  · exact (pz_mid (La := 12) (Lb := 12) (k := 40) ((al_cut aS _ _).mono (by omega) (Nat.le_refl _)) (aD x hx) ((al_cut aS _ _).mono (by omega) (Nat.le_refl _)) (by omega) (by omega) (by omega)).mono (by omega) (by omega)
end
end My
/-! _law_bent whole; a turn; the law -/
namespace My
open PySem AB L2
theorem set_ok {m : Me} {G : AB.Env} {h h' : AH} {d : D} (n : Nat) (e : m G h = .ok d h') : sSet n m G h = .next (G.set n (some d)) h' := by
  rw [v_sSet, e]
  rfl
section
variable {cs : List Int} {P : AO}
theorem bent_ok (hc : ∀ c ∈ cs, 0 ≤ c) (hP : IsP cs P) (tl : AH) {F : List Deal} (w : Wf F) (s : Sm F) :
    ∃ d P' T, m__law_bent [.loc 0, hD F] (P :: tl) = .ok d (P' :: (tl ++ T)) ∧ IsP cs P' ∧ Thing (P' :: (tl ++ T)) d := by
  have fin : ∀ {d : D} {h' : AH}, b__law_bent [some (.loc 0), some (.tup (F.map dD)), none, none, none, none, none, none, none, none, none, none, none, none, none] (P :: tl) = .ret d h' → m__law_bent [.loc 0, hD F] (P :: tl) = .ok d h' := fun e => by
    unfold m__law_bent mDefK
    rw [if_pos (show [D.loc 0, hD F].length = 2 from rfl)]
    show (match b__law_bent [some (.loc 0), some (.tup (F.map dD)), none, none, none, none, none, none, none, none, none, none, none, none, none] (P :: tl) with
      | .next _ h1 => Res.ok D.non h1
      | .ret d h1 => .ok d h1
      | .exc c fs _ h1 => .exc c fs h1
      | _ => .stuck) = _
    rw [e]
  obtain ⟨aF, parts⟩ := told_al w s
  have lF : (F.map dD).length ≤ 12 := by rw [List.length_map]; exact w.len
  obtain ⟨OL, e2a, hOL, lOL⟩ := x2a_ok (h := P :: tl) (G := [some (.loc 0), some (.tup (F.map dD)), none, none, none, none, none, none, none, none, none, none, none, none, none]) rfl lF aF
  have c2a : q2a [some (.loc 0), some (.tup (F.map dD)), none, none, none, none, none, none, none, none, none, none, none, none, none] (P :: tl) = .next [some (.loc 0), some (.tup (F.map dD)), some (.lst OL), none, none, none, none, none, none, none, none, none, none, none, none] (P :: (tl ++ [.dct []])) := set_ok 2 e2a
  obtain ⟨NL, e2b, hNL, lNL⟩ := x2b_ok (h := P :: (tl ++ [.dct []])) (G := [some (.loc 0), some (.tup (F.map dD)), some (.lst OL), none, none, none, none, none, none, none, none, none, none, none, none]) (OL := OL) rfl rfl lOL lF aF
  obtain ⟨OD, eOD⟩ : ∃ OD, OD = OL ++ NL := ⟨_, rfl⟩
  rw [← eOD] at e2b
  have c2b : q2b [some (.loc 0), some (.tup (F.map dD)), some (.lst OL), none, none, none, none, none, none, none, none, none, none, none, none] (P :: (tl ++ [.dct []])) = .next [some (.loc 0), some (.tup (F.map dD)), some (.lst OD), none, none, none, none, none, none, none, none, none, none, none, none] (P :: (tl ++ [.dct []])) := set_ok 2 e2b
  have lOD : OD.length = 18 := by rw [eOD, List.length_append]; omega
  have hOD : ∀ (P' : AO) (x : D), x ∈ OD → Thing (P' :: (tl ++ [.dct []])) x := fun P' x hx => by
    rw [eOD] at hx
    rcases List.mem_append.mp hx with hx | hx
    · rcases hOL x hx with z | rfl
      · exact .inl z
      · exact .inr ⟨_, rfl, gm0⟩
    · exact .inl (hNL x hx)
  have f1 : ∀ h : AH, fLen [.tup (F.map dD)] h = .ok (.int (F.length : Int)) h := fun h => by simp
  have any : ∀ {P1 : AO}, IsP cs P1 → ∃ x P2, (mN m__law_any (aCons (mV 0) (aCons (mV 2) aNil))) [some (.loc 0), some (.tup (F.map dD)), some (.lst OD), none, none, none, none, none, none, none, none, none, none, none, none] (P1 :: (tl ++ [.dct []])) = .ok x (P2 :: (tl ++ [.dct []])) ∧ IsP cs P2 ∧ Thing (P2 :: (tl ++ [.dct []])) x := fun {P1} hP1 => by
    obtain ⟨x, P2, e, hP2, hx⟩ := any_ok hc hP1 OD (by omega) (by omega) (tl ++ [.dct []])
    refine ⟨x, P2, ?_, hP2, hOD P2 x hx⟩
    simp only [v_mN, v_aCons, v_aNil, v_mV, List.getElem?_cons_succ, List.getElem?_cons_zero, Res.bind_ok, e]
  by_cases c0 : F.length = 0
  · obtain ⟨x, P2, e, hP2, hx⟩ := any hP
    refine ⟨x, P2, [.dct []], fin ?_, hP2, hx⟩
    have z0 : decide ((F.length : Int) = 0) = true := decide_eq_true (by omega)
    have ci : qi [some (.loc 0), some (.tup (F.map dD)), some (.lst OD), none, none, none, none, none, none, none, none, none, none, none, none] (P :: (tl ++ [.dct []])) = .ret x (P2 :: (tl ++ [.dct []])) := by
      unfold qi
      rw [v_sIf, v_tOr, v_tBl]
      simp only [v_mOp2, v_mN, v_aCons, v_aNil, v_mV, v_mC, List.getElem?_cons_succ, List.getElem?_cons_zero, Res.bind_ok, f1, v_eq, z0, if_true, Res.toS_ok]
      rw [v_sSeq, v_sRet, e]
      rfl
    rw [bent_eq, v_sSeq, c2a, SR.andThen_next, v_sSeq, c2b, SR.andThen_next, v_sSeq, ci]
    rfl
  have z0 : decide ((F.length : Int) = 0) = false := decide_eq_false (by omega)
  obtain ⟨r, P1, e1, hP1, r0, r1⟩ := draw_ok hc hP (many := 6) (by omega) (by omega) (tl ++ [.dct []])
  by_cases c1 : r = 0
  · obtain ⟨x, P2, e, hP2, hx⟩ := any hP1
    refine ⟨x, P2, [.dct []], fin ?_, hP2, hx⟩
    have ci : qi [some (.loc 0), some (.tup (F.map dD)), some (.lst OD), none, none, none, none, none, none, none, none, none, none, none, none] (P :: (tl ++ [.dct []])) = .ret x (P2 :: (tl ++ [.dct []])) := by
      unfold qi
      rw [v_sIf, v_tOr, v_tBl]
      simp only [v_tBl, v_mOp2, v_mN, v_aCons, v_aNil, v_mV, v_mC, List.getElem?_cons_succ, List.getElem?_cons_zero, Res.bind_ok, f1, v_eq, z0, Bool.false_eq_true, if_false, e1, decide_eq_true c1, if_true, Res.toS_ok]
      rw [v_sSeq, v_sRet, e]
      rfl
    rw [bent_eq, v_sSeq, c2a, SR.andThen_next, v_sSeq, c2b, SR.andThen_next, v_sSeq, ci]
    rfl
  have ci : qi [some (.loc 0), some (.tup (F.map dD)), some (.lst OD), none, none, none, none, none, none, none, none, none, none, none, none] (P :: (tl ++ [.dct []])) = .next [some (.loc 0), some (.tup (F.map dD)), some (.lst OD), none, none, none, none, none, none, none, none, none, none, none, none] (P1 :: (tl ++ [.dct []])) := by
    unfold qi
    simp only [v_sIf, v_tOr, v_tBl, v_mOp2, v_mN, v_aCons, v_aNil, v_mV, v_mC, List.getElem?_cons_succ, List.getElem?_cons_zero, Res.bind_ok, f1, v_eq, z0, Bool.false_eq_true, if_false, e1, decide_eq_false c1, Res.toS_ok, v_sNil]
  obtain ⟨k, P3, e3, hP3, k0, k1⟩ := draw_ok hc hP1 (many := (F.length : Int)) (by omega) (by have := w.len; omega) (tl ++ [.dct []])
  obtain ⟨a, rfl⟩ : ∃ a : Nat, k = (a : Int) := ⟨k.toNat, by omega⟩
  have ha : a < F.length := by omega
  have c3 : q3 [some (.loc 0), some (.tup (F.map dD)), some (.lst OD), none, none, none, none, none, none, none, none, none, none, none, none] (P1 :: (tl ++ [.dct []])) = .next [some (.loc 0), some (.tup (F.map dD)), some (.lst OD), some (.int (a : Int)), none, none, none, none, none, none, none, none, none, none, none] (P3 :: (tl ++ [.dct []])) := by
    refine set_ok 3 ?_
    simp only [v_mN, v_aCons, v_aNil, v_mV, List.getElem?_cons_succ, List.getElem?_cons_zero, Res.bind_ok, f1, e3]
  obtain ⟨aR, aW⟩ := parts a ha
  have lR := s.r a ha
  have lW := s.w a ha
  have lR' : ((rd F a).map rD).length ≤ 4 := by rw [List.length_map]; exact lR
  have lW' : ((wr F a).map D.int).length ≤ 4 := by rw [List.length_map]; exact lW
  have c4 : q4 [some (.loc 0), some (.tup (F.map dD)), some (.lst OD), some (.int (a : Int)), none, none, none, none, none, none, none, none, none, none, none] (P3 :: (tl ++ [.dct []])) = .next [some (.loc 0), some (.tup (F.map dD)), some (.lst OD), some (.int (a : Int)), some (.tup ((rd F a).map rD)), some (.tup ((wr F a).map .int)), none, none, none, none, none, none, none, none, none] (P3 :: (tl ++ [.dct []])) := by
    have xa := ix_D (h := P3 :: (tl ++ [.dct []])) (ds := F.map dD) (i := a) (by rw [List.length_map]; exact ha)
    rw [dD_getD ha] at xa
    unfold q4
    simp only [v_sAsg, v_mOp2, v_mV, List.getElem?_cons_succ, List.getElem?_cons_zero, Res.bind_ok, xa, Res.toS_ok]
    rfl
  obtain ⟨OT, e6, aO, lO1, lO2⟩ := x6_ok (h := P3 :: (tl ++ [.dct []])) (ds := F.map dD) (o2 := .lst OD) (s4 := .tup ((rd F a).map rD)) (s5 := .tup ((wr F a).map .int)) lF (by rw [List.length_map]; exact ha)
  have c6 : q6 [some (.loc 0), some (.tup (F.map dD)), some (.lst OD), some (.int (a : Int)), some (.tup ((rd F a).map rD)), some (.tup ((wr F a).map .int)), none, none, none, none, none, none, none, none, none] (P3 :: (tl ++ [.dct []])) = .next [some (.loc 0), some (.tup (F.map dD)), some (.lst OD), some (.int (a : Int)), some (.tup ((rd F a).map rD)), some (.tup ((wr F a).map .int)), some (.lst OT), none, none, none, none, none, none, none, none] (P3 :: (tl ++ [.dct []])) := set_ok 6 e6
  obtain ⟨PL, P4, e7a, hP4, aP, lP⟩ := x7a_ok (tl := tl ++ [.dct []]) (G := [some (.loc 0), some (.tup (F.map dD)), some (.lst OD), some (.int (a : Int)), some (.tup ((rd F a).map rD)), some (.tup ((wr F a).map .int)), some (.lst OT), none, none, none, none, none, none, none, none]) hc hP3 rfl rfl aO lO1 lO2
  have c7a : q7a [some (.loc 0), some (.tup (F.map dD)), some (.lst OD), some (.int (a : Int)), some (.tup ((rd F a).map rD)), some (.tup ((wr F a).map .int)), some (.lst OT), none, none, none, none, none, none, none, none] (P3 :: (tl ++ [.dct []])) = .next [some (.loc 0), some (.tup (F.map dD)), some (.lst OD), some (.int (a : Int)), some (.tup ((rd F a).map rD)), some (.tup ((wr F a).map .int)), some (.lst OT), some (.lst PL), none, none, none, none, none, none, none] (P4 :: (tl ++ [.dct []])) := set_ok 7 e7a
  obtain ⟨QL, e7b, aQ, lQ⟩ := x7b_ok (h := P4 :: (tl ++ [.dct []])) (G := [some (.loc 0), some (.tup (F.map dD)), some (.lst OD), some (.int (a : Int)), some (.tup ((rd F a).map rD)), some (.tup ((wr F a).map .int)), some (.lst OT), some (.lst PL), none, none, none, none, none, none, none]) rfl aP lP
  have c7b : q7b [some (.loc 0), some (.tup (F.map dD)), some (.lst OD), some (.int (a : Int)), some (.tup ((rd F a).map rD)), some (.tup ((wr F a).map .int)), some (.lst OT), some (.lst PL), none, none, none, none, none, none, none] (P4 :: (tl ++ [.dct []])) = .next [some (.loc 0), some (.tup (F.map dD)), some (.lst OD), some (.int (a : Int)), some (.tup ((rd F a).map rD)), some (.tup ((wr F a).map .int)), some (.lst OT), some (.lst QL), none, none, none, none, none, none, none] (P4 :: (tl ++ [.dct []])) := set_ok 7 e7b
  obtain ⟨KL, e8, aK, lK⟩ := x8_ok (h := P4 :: (tl ++ [.dct []])) (G := [some (.loc 0), some (.tup (F.map dD)), some (.lst OD), some (.int (a : Int)), some (.tup ((rd F a).map rD)), some (.tup ((wr F a).map .int)), some (.lst OT), some (.lst QL), none, none, none, none, none, none, none])
  have c8 : q8 [some (.loc 0), some (.tup (F.map dD)), some (.lst OD), some (.int (a : Int)), some (.tup ((rd F a).map rD)), some (.tup ((wr F a).map .int)), some (.lst OT), some (.lst QL), none, none, none, none, none, none, none] (P4 :: (tl ++ [.dct []])) = .next [some (.loc 0), some (.tup (F.map dD)), some (.lst OD), some (.int (a : Int)), some (.tup ((rd F a).map rD)), some (.tup ((wr F a).map .int)), some (.lst OT), some (.lst QL), some (.lst KL), none, none, none, none, none, none] (P4 :: (tl ++ [.dct []])) := set_ok 8 e8
  obtain ⟨i', P5, e9, hP5, i0, i1⟩ := draw_ok hc hP4 (many := ((rd F a).length : Int) + 1) (by omega) (by omega) (tl ++ [.dct []])
  obtain ⟨i, rfl⟩ : ∃ i : Nat, i' = (i : Int) := ⟨i'.toNat, by omega⟩
  have f4 : ∀ h : AH, fLen [.tup ((rd F a).map rD)] h = .ok (.int ((rd F a).length : Int)) h := fun h => by simp
  have f5 : ∀ h : AH, fLen [.tup ((wr F a).map .int)] h = .ok (.int ((wr F a).length : Int)) h := fun h => by simp
  have c9 : q9 [some (.loc 0), some (.tup (F.map dD)), some (.lst OD), some (.int (a : Int)), some (.tup ((rd F a).map rD)), some (.tup ((wr F a).map .int)), some (.lst OT), some (.lst QL), some (.lst KL), none, none, none, none, none, none] (P4 :: (tl ++ [.dct []])) = .next [some (.loc 0), some (.tup (F.map dD)), some (.lst OD), some (.int (a : Int)), some (.tup ((rd F a).map rD)), some (.tup ((wr F a).map .int)), some (.lst OT), some (.lst QL), some (.lst KL), some (.int (i : Int)), none, none, none, none, none] (P5 :: (tl ++ [.dct []])) := by
    refine set_ok 9 ?_
    simp only [v_mN, v_aCons, v_aNil, v_mOp2, v_mV, v_mC, List.getElem?_cons_succ, List.getElem?_cons_zero, Res.bind_ok, f4, v_add, e9]
  obtain ⟨j', P6, e10, hP6, j0, j1⟩ := draw_ok hc hP5 (many := ((wr F a).length : Int) + 1) (by omega) (by omega) (tl ++ [.dct []])
  obtain ⟨j, rfl⟩ : ∃ j : Nat, j' = (j : Int) := ⟨j'.toNat, by omega⟩
  have c10 : q10 [some (.loc 0), some (.tup (F.map dD)), some (.lst OD), some (.int (a : Int)), some (.tup ((rd F a).map rD)), some (.tup ((wr F a).map .int)), some (.lst OT), some (.lst QL), some (.lst KL), some (.int (i : Int)), none, none, none, none, none] (P5 :: (tl ++ [.dct []])) = .next [some (.loc 0), some (.tup (F.map dD)), some (.lst OD), some (.int (a : Int)), some (.tup ((rd F a).map rD)), some (.tup ((wr F a).map .int)), some (.lst OT), some (.lst QL), some (.lst KL), some (.int (i : Int)), some (.int (j : Int)), none, none, none, none] (P6 :: (tl ++ [.dct []])) := by
    refine set_ok 10 ?_
    simp only [v_mN, v_aCons, v_aNil, v_mOp2, v_mV, v_mC, List.getElem?_cons_succ, List.getElem?_cons_zero, Res.bind_ok, f5, v_add, e10]
  obtain ⟨D1, P7, o1, e11a, hP7, aD1, lD1⟩ := x11a_ok (tl := tl ++ [.dct []]) (G := [some (.loc 0), some (.tup (F.map dD)), some (.lst OD), some (.int (a : Int)), some (.tup ((rd F a).map rD)), some (.tup ((wr F a).map .int)), some (.lst OT), some (.lst QL), some (.lst KL), some (.int (i : Int)), some (.int (j : Int)), none, none, none, none]) (i := i) hc hP6 rfl rfl rfl rfl rfl aR lR' aW lW' aQ lQ
  obtain ⟨t1, et1⟩ : ∃ t1, t1 = tl ++ [AO.dct []] ++ [o1] := ⟨_, rfl⟩
  have c11a : q11a [some (.loc 0), some (.tup (F.map dD)), some (.lst OD), some (.int (a : Int)), some (.tup ((rd F a).map rD)), some (.tup ((wr F a).map .int)), some (.lst OT), some (.lst QL), some (.lst KL), some (.int (i : Int)), some (.int (j : Int)), none, none, none, none] (P6 :: (tl ++ [.dct []])) = .next [some (.loc 0), some (.tup (F.map dD)), some (.lst OD), some (.int (a : Int)), some (.tup ((rd F a).map rD)), some (.tup ((wr F a).map .int)), some (.lst OT), some (.lst QL), some (.lst KL), some (.int (i : Int)), some (.int (j : Int)), some (.lst D1), none, none, none] (P7 :: t1) := by rw [et1]; exact set_ok 11 e11a
  obtain ⟨D2, e11b, aD2, lD2⟩ := x11b_ok (h := P7 :: t1) (G := [some (.loc 0), some (.tup (F.map dD)), some (.lst OD), some (.int (a : Int)), some (.tup ((rd F a).map rD)), some (.tup ((wr F a).map .int)), some (.lst OT), some (.lst QL), some (.lst KL), some (.int (i : Int)), some (.int (j : Int)), some (.lst D1), none, none, none]) (i := i) rfl rfl rfl rfl aR lR' aW lW' aD1 (by omega)
  have c11b : q11b [some (.loc 0), some (.tup (F.map dD)), some (.lst OD), some (.int (a : Int)), some (.tup ((rd F a).map rD)), some (.tup ((wr F a).map .int)), some (.lst OT), some (.lst QL), some (.lst KL), some (.int (i : Int)), some (.int (j : Int)), some (.lst D1), none, none, none] (P7 :: t1) = .next [some (.loc 0), some (.tup (F.map dD)), some (.lst OD), some (.int (a : Int)), some (.tup ((rd F a).map rD)), some (.tup ((wr F a).map .int)), some (.lst OT), some (.lst QL), some (.lst KL), some (.int (i : Int)), some (.int (j : Int)), some (.lst D2), none, none, none] (P7 :: t1) := set_ok 11 e11b
  obtain ⟨D3, P8, o2, e11c, hP8, aD3, lD3⟩ := x11c_ok (tl := t1) (G := [some (.loc 0), some (.tup (F.map dD)), some (.lst OD), some (.int (a : Int)), some (.tup ((rd F a).map rD)), some (.tup ((wr F a).map .int)), some (.lst OT), some (.lst QL), some (.lst KL), some (.int (i : Int)), some (.int (j : Int)), some (.lst D2), none, none, none]) (j := j) hc hP7 rfl rfl rfl rfl rfl rfl aR lR' aW lW' aK lK aD2 (by omega)
  obtain ⟨t2, et2⟩ : ∃ t2, t2 = t1 ++ [o2] := ⟨_, rfl⟩
  have c11c : q11c [some (.loc 0), some (.tup (F.map dD)), some (.lst OD), some (.int (a : Int)), some (.tup ((rd F a).map rD)), some (.tup ((wr F a).map .int)), some (.lst OT), some (.lst QL), some (.lst KL), some (.int (i : Int)), some (.int (j : Int)), some (.lst D2), none, none, none] (P7 :: t1) = .next [some (.loc 0), some (.tup (F.map dD)), some (.lst OD), some (.int (a : Int)), some (.tup ((rd F a).map rD)), some (.tup ((wr F a).map .int)), some (.lst OT), some (.lst QL), some (.lst KL), some (.int (i : Int)), some (.int (j : Int)), some (.lst D3), none, none, none] (P8 :: t2) := by rw [et2]; exact set_ok 11 e11c
  obtain ⟨D4, e11d, aD4, lD4⟩ := x11d_ok (h := P8 :: t2) (G := [some (.loc 0), some (.tup (F.map dD)), some (.lst OD), some (.int (a : Int)), some (.tup ((rd F a).map rD)), some (.tup ((wr F a).map .int)), some (.lst OT), some (.lst QL), some (.lst KL), some (.int (i : Int)), some (.int (j : Int)), some (.lst D3), none, none, none]) (j := j) rfl rfl rfl rfl aR lR' aW lW' aD3 (by omega)
  have c11d : q11d [some (.loc 0), some (.tup (F.map dD)), some (.lst OD), some (.int (a : Int)), some (.tup ((rd F a).map rD)), some (.tup ((wr F a).map .int)), some (.lst OT), some (.lst QL), some (.lst KL), some (.int (i : Int)), some (.int (j : Int)), some (.lst D3), none, none, none] (P8 :: t2) = .next [some (.loc 0), some (.tup (F.map dD)), some (.lst OD), some (.int (a : Int)), some (.tup ((rd F a).map rD)), some (.tup ((wr F a).map .int)), some (.lst OT), some (.lst QL), some (.lst KL), some (.int (i : Int)), some (.int (j : Int)), some (.lst D4), none, none, none] (P8 :: t2) := set_ok 11 e11d
  obtain ⟨D5, e11e, aD5, lD5⟩ := x11e_ok (h := P8 :: t2) (G := [some (.loc 0), some (.tup (F.map dD)), some (.lst OD), some (.int (a : Int)), some (.tup ((rd F a).map rD)), some (.tup ((wr F a).map .int)), some (.lst OT), some (.lst QL), some (.lst KL), some (.int (i : Int)), some (.int (j : Int)), some (.lst D4), none, none, none]) rfl rfl rfl aR lR' aW lW' aD4 (by omega)
  have c11e : q11e [some (.loc 0), some (.tup (F.map dD)), some (.lst OD), some (.int (a : Int)), some (.tup ((rd F a).map rD)), some (.tup ((wr F a).map .int)), some (.lst OT), some (.lst QL), some (.lst KL), some (.int (i : Int)), some (.int (j : Int)), some (.lst D4), none, none, none] (P8 :: t2) = .next [some (.loc 0), some (.tup (F.map dD)), some (.lst OD), some (.int (a : Int)), some (.tup ((rd F a).map rD)), some (.tup ((wr F a).map .int)), some (.lst OT), some (.lst QL), some (.lst KL), some (.int (i : Int)), some (.int (j : Int)), some (.lst D5), none, none, none] (P8 :: t2) := set_ok 11 e11e
  obtain ⟨D6, e11f, aD6, lD6⟩ := x11f_ok (h := P8 :: t2) (G := [some (.loc 0), some (.tup (F.map dD)), some (.lst OD), some (.int (a : Int)), some (.tup ((rd F a).map rD)), some (.tup ((wr F a).map .int)), some (.lst OT), some (.lst QL), some (.lst KL), some (.int (i : Int)), some (.int (j : Int)), some (.lst D5), none, none, none]) rfl aD5 (by omega)
  have c11f : q11f [some (.loc 0), some (.tup (F.map dD)), some (.lst OD), some (.int (a : Int)), some (.tup ((rd F a).map rD)), some (.tup ((wr F a).map .int)), some (.lst OT), some (.lst QL), some (.lst KL), some (.int (i : Int)), some (.int (j : Int)), some (.lst D5), none, none, none] (P8 :: t2) = .next [some (.loc 0), some (.tup (F.map dD)), some (.lst OD), some (.int (a : Int)), some (.tup ((rd F a).map rD)), some (.tup ((wr F a).map .int)), some (.lst OT), some (.lst QL), some (.lst KL), some (.int (i : Int)), some (.int (j : Int)), some (.lst D6), none, none, none] (P8 :: t2) := set_ok 11 e11f
  obtain ⟨D7, u, v, P9, T9, cj, hP9, aD7, lD7a, lD7b⟩ := qj_ok (ds := F.map dD) (o2 := .lst OD) (a := a) (rs := rd F a) (Wt := (wr F a).map .int) (OT := OT) (QL := QL) (KL := KL) (i := i) (j := j) (DL := D6) (tl := t2) hc hP8 aR lR aW lW' aO lO1 lO2 (fun q hq => (w.r a ha).bd q hq) aD6 (by omega)
  obtain ⟨d, P10, cr, hP10, pd⟩ := qr_ok (ds := F.map dD) (o2 := .lst OD) (a := a) (rs := rd F a) (Wt := (wr F a).map .int) (OT := OT) (QL := QL) (KL := KL) (i := i) (j := j) (DL := D7) (tl := t2 ++ T9) (u := u) (v := v) hc hP9 aF lF aD7 (by omega) (by omega)
  refine ⟨d, P10, [AO.dct []] ++ [o1] ++ [o2] ++ T9, fin ?_, hP10, .inl pd⟩
  have et : t2 ++ T9 = tl ++ ([AO.dct []] ++ [o1] ++ [o2] ++ T9) := by rw [et2, et1]; simp
  rw [← et]
  rw [bent_eq, v_sSeq, c2a, SR.andThen_next, v_sSeq, c2b, SR.andThen_next, v_sSeq, ci, SR.andThen_next, v_sSeq, c3, SR.andThen_next, v_sSeq, c4, SR.andThen_next, v_sSeq, c6, SR.andThen_next, v_sSeq, c7a, SR.andThen_next, v_sSeq, c7b, SR.andThen_next, v_sSeq, c8, SR.andThen_next, v_sSeq, c9, SR.andThen_next, v_sSeq, c10, SR.andThen_next, v_sSeq, c11a, SR.andThen_next, v_sSeq, c11b, SR.andThen_next, v_sSeq, c11c, SR.andThen_next, v_sSeq, c11d, SR.andThen_next, v_sSeq, c11e, SR.andThen_next, v_sSeq, c11f, SR.andThen_next, v_sSeq, cj, SR.andThen_next, v_sSeq, cr]
  rfl
end
end My
/-! what each function says of a thing: _law_word -/
namespace My
open PySem AB L2
section
variable {h : AH} {F : List Deal}
theorem thing_wf {d : D} (t : Thing h d) (e : m_is_history [d] h = .ok (.bl true) h) : ∃ F, d = hD F ∧ Wf F := by
  have no : ∀ b, tyDC [] h .tup d = some b → b = false → False := fun b ty eb => by
    subst eb
    have := hist_no (h := h) ty
    rw [this] at e
    injection e with e
    injection e with e
    cases e
  rcases t with t | ⟨n, rfl, gn⟩
  · by_cases c : isT d = true
    · obtain ⟨ds, rfl⟩ := isT_tup c
      have few := hw_fewP t.w
      have q := hist_j (h := h) t.gd few (hw_tup.mp t.w).1
      rw [q] at e
      injection e with e
      injection e with e
      exact jH_wf e few
    · have c : isT d = false := by cases q : isT d with | true => exact absurd q c | false => rfl
      exact (no _ (tyC_j t.gd) c).elim
  · refine (no false ?_ rfl).elim
    unfold tyDC
    simp only [gn]
    rfl
theorem edges_ok (w : Wf F) : ∃ d, m_edges [hD F] h = .ok d h := by
  refine ⟨.lst (((edgesE F).mergeSort leE).map eD), ?_⟩
  have eb : b_edges [some (hD F)] h = .ret (.lst (((edgesE F).mergeSort leE).map eD)) h := by
    unfold b_edges
    simp only [v_sSeq, v_sExpr, v_mN, v_aCons, v_aNil, v_mV, List.getElem?_cons_zero, Res.bind_ok, check_history_ok w, Res.toS_ok, SR.andThen_next, v_sRet, v_mL, v_lN, edges_of_ok w, SR.andThen_ret]
  unfold m_edges mDefK
  rw [if_pos (show [hD F].length = 1 from rfl)]
  have eb2 : b_edges (List.map some [hD F] ++ List.replicate (1 - 1) none) h = .ret (.lst (((edgesE F).mergeSort leE).map eD)) h := eb
  rw [eb2]
/-! what is none -/
theorem chk_exc {d : D} {ds : List D} (e : m_is_history [d] h = .ok (.bl false) h) (G : AB.Env) (hG : G[0]? = some (some d)) (R : Ms) :
    (sSeq (sExpr (mN m_check_history (aCons (mV 0) aNil))) R) G h = .exc "NoHistory" [] G h := by
  simp only [v_sSeq, v_sExpr, v_mN, v_aCons, v_aNil, v_mV, hG, Res.bind_ok, check_history_no e]
  rfl
theorem finX_same {α : Type} (c : Str) (fs : List (Str × D)) : (finX h.length h c fs h : Res α) = .exc c fs h := by
  unfold finX
  rw [if_pos rfl]
theorem exc_def {n N : Nat} {R : Ms} {d : D} {ds : List D} (e : m_is_history [d] h = .ok (.bl false) h) (hl : (d :: ds).length = n) :
    mDef n N (sSeq (sExpr (mN m_check_history (aCons (mV 0) aNil))) R) (d :: ds) h = .exc "NoHistory" [] h := by
  unfold mDef
  rw [if_pos hl, chk_exc (ds := ds) e _ rfl R]
  exact finX_same _ _
theorem exc_defK {n N : Nat} {R : Ms} {d : D} {ds : List D} (e : m_is_history [d] h = .ok (.bl false) h) (hl : (d :: ds).length = n) :
    mDefK n N (sSeq (sExpr (mN m_check_history (aCons (mV 0) aNil))) R) (d :: ds) h = .exc "NoHistory" [] h := by
  unfold mDefK
  rw [if_pos hl, chk_exc (ds := ds) e _ rfl R]
/-! the words -/
noncomputable def wwT : Su := fun a => (sSeq (sSet 3 (mIf (tAndM (tOf (mIsE 4 a true)) (tOf (mIsE 4 a true))) (mC (.str "history")) (mC (.str "other")))) sNil)
noncomputable def wwB : Ms := (sSeq (sIf (tBl (mOp2 fEq (mV 0) (mC (.int 5)))) (sSeq (sExpr (mN m_is_ring (aCons (mV 1) (aCons (mV 2) aNil)))) sNil) (sSeq (sExpr (mPickL [m_edges, m_one_order, m_ring, m_moments, m_by_snapshots] (mV 0) (aCons (mV 1) aNil))) sNil)) sNil)
theorem word_eq : b__law_word = sSeq (sSet 3 (mC (.str "let"))) (sSeq (sTry 4 [("NoHistory", some wwT)] wwB) (sSeq (sRet (mV 3)) sNil)) := rfl
theorem pick_at {G : AB.Env} {k : Nat} {m : Fn} {ms : List Fn} {as : MeL} (g : G[0]? = some (some (.int (k : Int)))) (e : ms[k]? = some m) : mPickL ms (mV 0) as G h = mN m as G h := by
  unfold mPickL
  simp only [v_mV, g, Res.bind_ok]
  unfold pickL
  simp only []
  rw [if_pos (by omega), Int.toNat_natCast]
  simp only [e]
/-- each of the five, of a history, of none -/
theorem five (k : Nat) (hk : k < 5) : ∃ m : Fn, [m_edges, m_one_order, m_ring, m_moments, m_by_snapshots][k]? = some m ∧ (∀ F, Wf F → ∃ d, m [hD F] h = .ok d h) ∧ (∀ d, m_is_history [d] h = .ok (.bl false) h → m [d] h = .exc "NoHistory" [] h) := by
  have hk : k = 0 ∨ k = 1 ∨ k = 2 ∨ k = 3 ∨ k = 4 := by omega
  rcases hk with rfl | rfl | rfl | rfl | rfl
  · exact ⟨m_edges, rfl, fun F w => edges_ok w, fun d e => exc_defK e rfl⟩
  · exact ⟨m_one_order, rfl, fun F w => by
      obtain ⟨_, _, e, _⟩ := one_order_ok (h := h) w
      exact ⟨_, e⟩, fun d e => exc_def e rfl⟩
  · exact ⟨m_ring, rfl, fun F w => by
      obtain ⟨_, _, d, e, _⟩ := ring_ok (h := h) w
      exact ⟨d, e⟩, fun d e => exc_def e rfl⟩
  · exact ⟨m_moments, rfl, fun F w => ⟨_, moments_ok w⟩, fun d e => exc_def e rfl⟩
  · exact ⟨m_by_snapshots, rfl, fun F w => ⟨_, by_snapshots_ok w⟩, fun d e => exc_def e rfl⟩
theorem word_ok {k : Nat} (hk : k < 6) {d o : D} (t : Thing h d) (to : Thing h o) {b : Bool} (e : m_is_history [d] h = .ok (.bl b) h) :
    m__law_word [.int (k : Int), d, o] h = .ok (.str (if b then "let" else "history")) h := by
  have c1 : (sSet 3 (mC (.str "let"))) [some (.int (k : Int)), some d, some o, none, none] h = .next [some (.int (k : Int)), some d, some o, some (.str "let"), none] h := rfl
  have five5 : (k : Int) = 5 → k = 5 := fun z => by omega
  have fin : ∀ {x : Str}, (sTry 4 [("NoHistory", some wwT)] wwB) [some (.int (k : Int)), some d, some o, some (.str "let"), none] h = .next [some (.int (k : Int)), some d, some o, some (.str x), none] h → m__law_word [.int (k : Int), d, o] h = .ok (.str x) h := by
    intro x ex
    have eb : b__law_word [some (.int (k : Int)), some d, some o, none, none] h = .ret (.str x) h := by
      rw [word_eq, v_sSeq, c1, SR.andThen_next, v_sSeq, ex, SR.andThen_next]
      rfl
    simp [m__law_word, mDef, eb]
  cases b with
  | true =>
    obtain ⟨F, rfl, w⟩ := thing_wf t e
    refine fin (sTry_ok ?_)
    by_cases z : k = 5
    · obtain ⟨b, er⟩ := is_ring_ok w to
      have z2 : decide ((k : Int) = 5) = true := decide_eq_true (by omega)
      unfold wwB
      simp only [v_sSeq, v_sIf, v_tBl, v_mOp2, v_mV, v_mC, List.getElem?_cons_succ, List.getElem?_cons_zero, Res.bind_ok, v_eq, z2, if_true, Res.toS_ok, v_sExpr, v_mN, v_aCons, v_aNil, er, SR.andThen_next, v_sNil]
    · obtain ⟨m, em, h1, _⟩ := five (h := h) k (by omega)
      obtain ⟨x, ex⟩ := h1 F w
      have z2 : decide ((k : Int) = 5) = false := decide_eq_false (by omega)
      have ep : mPickL [m_edges, m_one_order, m_ring, m_moments, m_by_snapshots] (mV 0) (aCons (mV 1) aNil) [some (.int (k : Int)), some (hD F), some o, some (.str "let"), none] h = .ok x h := by
        rw [pick_at rfl em]
        simp only [v_mN, v_aCons, v_aNil, v_mV, List.getElem?_cons_succ, List.getElem?_cons_zero, Res.bind_ok, ex]
      unfold wwB
      simp only [v_sSeq, v_sIf, v_tBl, v_mOp2, v_mV, v_mC, List.getElem?_cons_zero, Res.bind_ok, v_eq, z2, Bool.false_eq_true, if_false, if_true, Res.toS_ok, v_sExpr, ep, SR.andThen_next, v_sNil]
  | false =>
    have cB : wwB [some (.int (k : Int)), some d, some o, some (.str "let"), none] h = .exc "NoHistory" [] [some (.int (k : Int)), some d, some o, some (.str "let"), none] h := by
      by_cases z : k = 5
      · have er : m_is_ring [d, o] h = .exc "NoHistory" [] h := exc_def e rfl
        have z2 : decide ((k : Int) = 5) = true := decide_eq_true (by omega)
        unfold wwB
        simp only [v_sSeq, v_sIf, v_tBl, v_mOp2, v_mV, v_mC, List.getElem?_cons_succ, List.getElem?_cons_zero, Res.bind_ok, v_eq, z2, if_true, Res.toS_ok, v_sExpr, v_mN, v_aCons, v_aNil, er]
        rfl
      · obtain ⟨m, em, _, h2⟩ := five (h := h) k (by omega)
        have z2 : decide ((k : Int) = 5) = false := decide_eq_false (by omega)
        have ep : mPickL [m_edges, m_one_order, m_ring, m_moments, m_by_snapshots] (mV 0) (aCons (mV 1) aNil) [some (.int (k : Int)), some d, some o, some (.str "let"), none] h = .exc "NoHistory" [] h := by
          rw [pick_at rfl em]
          simp only [v_mN, v_aCons, v_aNil, v_mV, List.getElem?_cons_succ, List.getElem?_cons_zero, Res.bind_ok, h2 d e]
        unfold wwB
        simp only [v_sSeq, v_sIf, v_tBl, v_mOp2, v_mV, v_mC, List.getElem?_cons_zero, Res.bind_ok, v_eq, z2, Bool.false_eq_true, if_false, Res.toS_ok, v_sExpr, ep]
        rfl
    refine fin ?_
    rw [sTry_exc cB]
    have tk : tryK 4 [("NoHistory", some wwT)] [some (.int (k : Int)), some d, some o, some (.str "let"), none] h "NoHistory" [] = wipeS 4 (wwT 0 [some (.int (k : Int)), some d, some o, some (.str "let"), some (.con 0)] h) := by
      unfold tryK
      have lk : ([("NoHistory", some wwT)] : List (Str × Option Su)).lookup ("NoHistory" : Str) = some (some wwT) := by simp [List.lookup]
      rw [lk]
      rfl
    rw [tk]
    have e4 : ∀ x3 : Option D, (mIsE 4 0 true) [some (.int (k : Int)), some d, some o, x3, some (.con 0)] h = .ok (.bl true) h := fun x3 => v_mIsE rfl
    unfold wwT
    simp only [v_sSeq, v_sSet, v_mIf, v_tAnd, v_tOf, e4, Res.bind_ok, v_truB, if_true, v_mC, Res.toS_ok, List.set_cons_succ, List.set_cons_zero, SR.andThen_next, v_sNil, wipeS_next]
    rfl
end
end My
/-! the turn, law_true -/
namespace My
open PySem AB L2
theorem shape_s {x : Str} (hx : PyData.strOk x = true) : SeqAt.shaped (.str x) = true := by
  simp [SeqAt.shaped, PyData.canLay0, PyData.depth, hx]
theorem ne_s {h : AH} {x : Str} (hx : PyData.strOk x = true) : fNe (.str x) (.str x) h = .ok (.bl false) h := by
  have e : okP h (.str x) = some (.str x) := by
    unfold okP
    have : toPh h (.str x) = some (.str x) := rfl
    rw [this]
    simp only [shape_s hx, if_true]
  unfold fNe
  rw [e]
  simp [PyData.eqv]
theorem thingX {h : AH} {d : D} (t : Thing h d) : ∃ p, toPX h d = some p ∧ p.showable = true ∧ p.depth ≤ 55 ∧ p.shown.length ≤ 900000 := by
  rcases t with t | ⟨n, rfl, gn⟩
  · obtain ⟨p, e, a, b, c, f⟩ := t.ex
    refine ⟨p, ?_, a, c, f⟩
    cases d with
    | loc n => simp [toP] at e
    | _ => exact e
  · refine ⟨.dict [], ?_, by decide, by decide, by decide⟩
    unfold toPX dctAt
    simp only [gn]
theorem reprT_ok {h : AH} {d o : D} (t1 : Thing h d) (t2 : Thing h o) : ∃ s, fReprT [.tup [d, o]] h = .ok (.str s) h := by
  obtain ⟨p, e1, a1, c1, f1⟩ := thingX t1
  obtain ⟨q, e2, a2, c2, f2⟩ := thingX t2
  have es : toPXs h [d, o] = some [p, q] := by
    unfold toPXs
    rw [e1]
    unfold toPXs
    rw [e2]
    rfl
  have s1 : (PyData.tuple [p, q]).showable = true := by simp [PyData.showable, PyData.showableAll, a1, a2]
  have s2 : (PyData.tuple [p, q]).depth ≤ 60 := by simp [PyData.depth, PyData.depthAll]; omega
  have s3 : (PyData.tuple [p, q]).shown.length ≤ 4000000 := by
    simp only [PyData.shown, tupleText]
    rw [Str.length_append, Str.length_append]
    have t1 := join_le (PyData.shownAll [p, q])
    have t2 : ((if (PyData.shownAll [p, q]).length == 1 then ",)" else ")" : String) : Str).length ≤ 2 := by
      split <;> decide
    have t3 : (("(" : Str)).length ≤ 1 := by decide
    have t4 : piled (PyData.shownAll [p, q]) ≤ 1800004 := by
      simp only [PyData.shownAll, piled_cons]
      have : piled [] = 0 := rfl
      omega
    omega
  refine ⟨(PyData.tuple [p, q]).shown, ?_⟩
  unfold fReprT
  simp only [es]
  rw [if_pos ⟨s1, s2, s3⟩]
theorem thing_swap {cs : List Int} {P P' : AO} (hP : IsP cs P) {tl : AH} {d : D} (t : Thing (P :: tl) d) : Thing (P' :: tl) d := by
  rcases t with t | ⟨n, rfl, gn⟩
  · exact .inl t
  · refine .inr ⟨n, rfl, ?_⟩
    cases n with
    | zero =>
      obtain ⟨a, b, s, u, e, _⟩ := hP
      have : some P = some (.dct []) := gn
      rw [e] at this
      cases this
    | succ n => exact gn
noncomputable def u3 : Ms := sSet 3 (mN m__law_history (aCons (mV 1) (aCons (mC (.int 8)) aNil)))
noncomputable def u4 : Ms := sSet 4 (mN m__law_bent (aCons (mV 1) (aCons (mV 3) aNil)))
noncomputable def u5 : Ms := sSet 5 (mIf (tOf (mN m__law_is_history (aCons (mV 4) aNil))) (mC (.str "let")) (mC (.str "history")))
noncomputable def u6 : Ms := sSet 6 (mN m__law_any (aCons (mV 1) (aCons (mL (lLst (aCons (mC .non) (aCons (mN fTup (aCons (mC (.int 0)) (aCons (mC (.int 1)) aNil))) (aCons (mN fTup (aCons (mC (.int 0)) (aCons (mC (.int 0)) aNil))) (aCons (mL (lLst (aCons (mC (.int 0)) (aCons (mC (.int 1)) aNil)))) (aCons (mV 4) (aCons (mN m__law_deep (aCons (mC (.int 0)) (aCons (mC (.int 28)) aNil))) aNil)))))))) aNil)))
noncomputable def u7 : Ms := sSet 7 (mN fReprT (aCons (mN fTup (aCons (mV 4) (aCons (mV 6) aNil))) aNil))
noncomputable def uW : Ms := sSeq (sIf (tOrM (tBl (mOp2 fNe (mN m__law_word (aCons (mV 8) (aCons (mV 4) (aCons (mV 6) aNil)))) (mV 5))) (tBl (mOp2 fNe (mN m__law_word (aCons (mV 8) (aCons (mV 3) (aCons (mV 6) aNil)))) (mC (.str "let"))))) (sSeq (sRet (mC (.bl false))) sNil) sNil) sNil
noncomputable def u8 : Ms := sFor (.nm 8) (iRange1 (aCons (mC (.int 6)) aNil)) uW
noncomputable def u9 : Ms := sIf (tBl (mOp2 fNeS (mN fReprT (aCons (mN fTup (aCons (mV 4) (aCons (mV 6) aNil))) aNil)) (mV 7))) (sSeq (sRet (mC (.bl false))) sNil) sNil
noncomputable def uB : Ms := sSeq u3 (sSeq u4 (sSeq u5 (sSeq u6 (sSeq u7 (sSeq u8 (sSeq u9 sNil))))))
theorem law_eq : b_law = sSeq (sSet 1 (mNew (lN m__law_pool (aCons (mV 0) aNil)))) (sSeq (sFor (.nm 2) (iRange1 (aCons (mC (.int 6)) aNil)) uB) (sSeq (sRet (mC (.bl true))) sNil)) := rfl
theorem range6 {G : AB.Env} {h : AH} : (iRange1 (aCons (mC (.int 6)) aNil)) G h = .ok ((List.range 6).map fun i : Nat => D.int (i : Int), none) h := by
  have er : rangeD 0 6 = (List.range 6).map fun i : Nat => D.int (i : Int) := rangeD_eq 6
  have c1 : okR (6 : Int) := ⟨by decide, by decide⟩
  rw [v_range1]
  simp only [v_aCons, v_aNil, v_mC, Res.bind_ok, c1, if_true]
  show Res.ok (rangeD 0 6, none) _ = _
  rw [er]
theorem let_ok : PyData.strOk ("let" : Str) = true := by decide +kernel
theorem his_ok : PyData.strOk ("history" : Str) = true := by decide +kernel
theorem gd_hD {F : List Deal} (w : Wf F) (s : Sm F) : Pz (hD F) 4 1889 := (pz_tup (L := 12) (told_al w s).1 (by rw [List.length_map]; exact w.len) (by omega)).mono (by omega) (by omega)
section
variable {cs : List Int} {P : AO}
theorem turn_ok (hc : ∀ c ∈ cs, 0 ≤ c) (hP : IsP cs P) (tl : AH) {g0 g2 g3 g4 g5 g6 g7 g8 : Option D} :
    ∃ x3 x4 x5 x6 x7 x8 P' T, uB [g0, some (.loc 0), g2, g3, g4, g5, g6, g7, g8] (P :: tl) = .next [g0, some (.loc 0), g2, x3, x4, x5, x6, x7, x8] (P' :: (tl ++ T)) ∧ IsP cs P' := by
  obtain ⟨F, P2, e2, hP2, w, s⟩ := history_ok hc hP tl (most := 8) (by omega)
  have c3 : u3 [g0, some (.loc 0), g2, g3, g4, g5, g6, g7, g8] (P :: tl) = .next [g0, some (.loc 0), g2, some (hD F), g4, g5, g6, g7, g8] (P2 :: tl) := by
    refine set_ok 3 ?_
    have e2 : m__law_history [.loc 0, .int 8] (P :: tl) = .ok (hD F) (P2 :: tl) := e2
    simp only [v_mN, v_aCons, v_aNil, v_mV, v_mC, List.getElem?_cons_succ, List.getElem?_cons_zero, Res.bind_ok, e2]
  obtain ⟨d, P3, T, e3, hP3, td⟩ := bent_ok hc hP2 tl w s
  have c4 : u4 [g0, some (.loc 0), g2, some (hD F), g4, g5, g6, g7, g8] (P2 :: tl) = .next [g0, some (.loc 0), g2, some (hD F), some d, g5, g6, g7, g8] (P3 :: (tl ++ T)) := by
    refine set_ok 4 ?_
    simp only [v_mN, v_aCons, v_aNil, v_mV, List.getElem?_cons_succ, List.getElem?_cons_zero, Res.bind_ok, e3]
  obtain ⟨b, _, j1, j2, _⟩ := thing_ok td
  have c5 : u5 [g0, some (.loc 0), g2, some (hD F), some d, g5, g6, g7, g8] (P3 :: (tl ++ T)) = .next [g0, some (.loc 0), g2, some (hD F), some d, some (.str (if b then "let" else "history")), g6, g7, g8] (P3 :: (tl ++ T)) := by
    refine set_ok 5 ?_
    simp only [v_mIf, v_tOf, v_mN, v_aCons, v_aNil, v_mV, List.getElem?_cons_succ, List.getElem?_cons_zero, Res.bind_ok, j2, v_truB, v_mC]
    cases b <;> rfl
  have b0 : (0 : Nat) ≤ big := Nat.zero_le _
  have b2 : (2 : Nat) ≤ big := by rw [big_eq]; omega
  have b6 : (6 : Nat) ≤ big := by rw [big_eq]; omega
  have dp : m__law_deep [.int 0, .int 28] (P3 :: (tl ++ T)) = .ok (deepD 28 (.int 0)) (P3 :: (tl ++ T)) := deep_ok (h := P3 :: (tl ++ T)) (d := .int 0) (n := 28) (by omega)
  obtain ⟨o, P4, e6, hP4, hm⟩ := any_ok hc hP3 [.non, .tup [.int 0, .int 1], .tup [.int 0, .int 0], .lst [.int 0, .int 1], d, deepD 28 (.int 0)] (by simp) (by simp) (tl ++ T)
  have c6 : u6 [g0, some (.loc 0), g2, some (hD F), some d, some (.str (if b then "let" else "history")), g6, g7, g8] (P3 :: (tl ++ T)) = .next [g0, some (.loc 0), g2, some (hD F), some d, some (.str (if b then "let" else "history")), some o, g7, g8] (P4 :: (tl ++ T)) := by
    refine set_ok 6 ?_
    simp only [v_mN, v_aCons, v_aNil, v_mL, v_lLst, v_mV, v_mC, v_fTup, List.length_cons, List.length_nil, Nat.zero_add, Nat.reduceAdd, b2, b6, if_true, List.getElem?_cons_succ, List.getElem?_cons_zero, Res.bind_ok, dp, e6]
  have td4 : Thing (P4 :: (tl ++ T)) d := thing_swap hP3 td
  have ai : ∀ i : Int, -1000000 ≤ i → i ≤ 1000000 → Pz (.int i) 0 1921 := pz_i
  have to : Thing (P4 :: (tl ++ T)) o := by
    simp only [List.mem_cons, List.not_mem_nil, or_false] at hm
    rcases hm with rfl | rfl | rfl | rfl | rfl | rfl
    · exact .inl (pz_non.mono (by omega) (by omega))
    · exact .inl ((pz_tup (L := 2) (al_cons (ai 0 (by omega) (by omega)) (al_cons (ai 1 (by omega) (by omega)) al_nil)) (by simp) (by omega)).mono (by omega) (by omega))
    · exact .inl ((pz_tup (L := 2) (al_cons (ai 0 (by omega) (by omega)) (al_cons (ai 0 (by omega) (by omega)) al_nil)) (by simp) (by omega)).mono (by omega) (by omega))
    · exact .inl ((pz_lst (L := 2) (al_cons (ai 0 (by omega) (by omega)) (al_cons (ai 1 (by omega) (by omega)) al_nil)) (by simp)).mono (by omega) (by omega))
    · exact td4
    · exact .inl ((pz_deep (ai 0 (by omega) (by omega)) 28).mono (by omega) (by omega))
  obtain ⟨sr, er⟩ := reprT_ok td4 to
  have c7 : u7 [g0, some (.loc 0), g2, some (hD F), some d, some (.str (if b then "let" else "history")), some o, g7, g8] (P4 :: (tl ++ T)) = .next [g0, some (.loc 0), g2, some (hD F), some d, some (.str (if b then "let" else "history")), some o, some (.str sr), g8] (P4 :: (tl ++ T)) := by
    refine set_ok 7 ?_
    simp only [v_mN, v_aCons, v_aNil, v_fTup, List.length_cons, List.length_nil, Nat.zero_add, Nat.reduceAdd, b2, if_true, v_mV, List.getElem?_cons_succ, List.getElem?_cons_zero, Res.bind_ok, er]
  have tF : Thing (P4 :: (tl ++ T)) (hD F) := .inl ((gd_hD w s).mono (by omega) (by omega))
  have jd : m_is_history [d] (P4 :: (tl ++ T)) = .ok (.bl b) (P4 :: (tl ++ T)) := by
    obtain ⟨b', _, q1, _, _⟩ := thing_ok td4
    cases hb : b with
    | true =>
      obtain ⟨F', rfl, w'⟩ := thing_wf td (by rw [j1, hb])
      exact is_history_ok w'
    | false =>
      cases hb' : b' with
      | false => rw [q1, hb']
      | true =>
        obtain ⟨F', rfl, w'⟩ := thing_wf td4 (by rw [q1, hb'])
        rw [is_history_ok w', hb] at j1
        injection j1 with j1
        injection j1 with j1
        cases j1
  have n1 : fNe (.str (if b then "let" else "history")) (.str (if b then "let" else "history")) (P4 :: (tl ++ T)) = .ok (.bl false) (P4 :: (tl ++ T)) := by
    cases b
    · exact ne_s his_ok
    · exact ne_s let_ok
  have n2 : fNe (.str "let") (.str "let") (P4 :: (tl ++ T)) = .ok (.bl false) (P4 :: (tl ++ T)) := ne_s let_ok
  obtain ⟨G', h', e8, x8, rfl, rfl⟩ := for_inv (p := .nm 8) (body := uW) (all0 := (List.range 6).map fun i : Nat => D.int (i : Int))
    (fun G hh => ∃ x8, G = [g0, some (.loc 0), g2, some (hD F), some d, some (.str (if b then "let" else "history")), some o, some (.str sr), x8] ∧ hh = P4 :: (tl ++ T))
    (fun i : Nat => D.int (i : Int)) (List.range 6)
    (by
      rintro i hi G hh ⟨x8, rfl, rfl⟩
      have hi := List.mem_range.mp hi
      have w1 := word_ok hi td4 to jd
      have w2 := word_ok hi tF to (is_history_ok w)
      have w2 : m__law_word [.int (i : Int), hD F, o] (P4 :: (tl ++ T)) = .ok (.str "let") (P4 :: (tl ++ T)) := w2
      refine ⟨_, _, _, rfl, ?_, some (.int (i : Int)), rfl, rfl⟩
      unfold uW
      simp only [v_sSeq, v_sIf, v_tOr, v_tBl, v_mOp2, v_mN, v_aCons, v_aNil, v_mV, v_mC, List.set_cons_succ, List.set_cons_zero, List.getElem?_cons_succ, List.getElem?_cons_zero, Res.bind_ok, w1, n1, w2, n2, Bool.false_eq_true, if_false, Res.toS_ok, v_sNil, SR.andThen_next])
    [g0, some (.loc 0), g2, some (hD F), some d, some (.str (if b then "let" else "history")), some o, some (.str sr), g8] (P4 :: (tl ++ T)) ⟨g8, rfl, rfl⟩
  have c8 : u8 [g0, some (.loc 0), g2, some (hD F), some d, some (.str (if b then "let" else "history")), some o, some (.str sr), g8] (P4 :: (tl ++ T)) = .next [g0, some (.loc 0), g2, some (hD F), some d, some (.str (if b then "let" else "history")), some o, some (.str sr), x8] (P4 :: (tl ++ T)) := by
    unfold u8
    rw [v_sFor, range6]
    exact e8
  have nS : fNeS (.str sr) (.str sr) (P4 :: (tl ++ T)) = .ok (.bl false) (P4 :: (tl ++ T)) := by
    unfold fNeS
    simp
  have c9 : u9 [g0, some (.loc 0), g2, some (hD F), some d, some (.str (if b then "let" else "history")), some o, some (.str sr), x8] (P4 :: (tl ++ T)) = .next [g0, some (.loc 0), g2, some (hD F), some d, some (.str (if b then "let" else "history")), some o, some (.str sr), x8] (P4 :: (tl ++ T)) := by
    unfold u9
    simp only [v_sIf, v_tBl, v_mOp2, v_mN, v_aCons, v_aNil, v_fTup, List.length_cons, List.length_nil, Nat.zero_add, Nat.reduceAdd, b2, if_true, v_mV, List.getElem?_cons_succ, List.getElem?_cons_zero, Res.bind_ok, er, nS, Bool.false_eq_true, if_false, Res.toS_ok, v_sNil]
  refine ⟨some (hD F), some d, some (.str (if b then "let" else "history")), some o, some (.str sr), x8, P4, T, ?_, hP4⟩
  unfold uB
  rw [v_sSeq, c3, SR.andThen_next, v_sSeq, c4, SR.andThen_next, v_sSeq, c5, SR.andThen_next, v_sSeq, c6, SR.andThen_next, v_sSeq, c7, SR.andThen_next, v_sSeq, c8, SR.andThen_next, v_sSeq, c9, SR.andThen_next, v_sNil]
end
theorem law_true : ∀ ns : List Int, ns.length ≤ 63 → ∃ h, m_law [.rol (ns.map D.int)] [] = .ok (.bl true) h := by
  intro ns hns
  obtain ⟨cs, hc, s, ep⟩ := pool_ok ns hns
  obtain ⟨P0, eP0⟩ : ∃ P0, P0 = AO.lst [.lst (cs.map .int), .int 0, .int 0, .int s, .int 0] := ⟨_, rfl⟩
  have hP : IsP cs P0 := ⟨0, 0, s, 0, by rw [eP0]; rfl, by omega, by omega, by omega⟩
  obtain ⟨G', h', e5, P', tl, ⟨x2, x3, x4, x5, x6, x7, x8, rfl⟩, rfl, hP'⟩ := for_inv (p := .nm 2) (body := uB) (all0 := (List.range 6).map fun i : Nat => D.int (i : Int))
    (fun G h => ∃ P tl, (∃ x2 x3 x4 x5 x6 x7 x8, G = [some (.rol (ns.map .int)), some (.loc 0), x2, x3, x4, x5, x6, x7, x8]) ∧ h = P :: tl ∧ IsP cs P)
    (fun i : Nat => D.int (i : Int)) (List.range 6)
    (by
      rintro i hi G h ⟨P, tl, ⟨x2, x3, x4, x5, x6, x7, x8, rfl⟩, rfl, hP⟩
      obtain ⟨y3, y4, y5, y6, y7, y8, P', T, e, hP'⟩ := turn_ok hc hP tl (g0 := some (.rol (ns.map .int))) (g2 := some (.int i)) (g3 := x3) (g4 := x4) (g5 := x5) (g6 := x6) (g7 := x7) (g8 := x8)
      exact ⟨_, _, _, rfl, e, P', tl ++ T, ⟨some (.int i), y3, y4, y5, y6, y7, y8, rfl⟩, rfl, hP'⟩)
    [some (.rol (ns.map .int)), some (.loc 0), none, none, none, none, none, none, none] [P0] ⟨P0, [], ⟨none, none, none, none, none, none, none, rfl⟩, rfl, hP⟩
  have e0 : (mNew (lN m__law_pool (aCons (mV 0) aNil))) [some (.rol (ns.map .int)), none, none, none, none, none, none, none, none] [] = .ok (.loc 0) [P0] := by
    rw [eP0]
    simp only [v_mNew, v_lN, v_aCons, v_aNil, v_mV, List.getElem?_cons_zero, Res.bind_ok, ep]
    rfl
  have eb : b_law [some (.rol (ns.map .int)), none, none, none, none, none, none, none, none] [] = .ret (.bl true) (P' :: tl) := by
    rw [law_eq]
    simp only [v_sSeq, v_sSet, e0, Res.toS_ok, List.set_cons_succ, List.set_cons_zero, SR.andThen_next, v_sFor, range6, e5, v_sRet, v_mC, SR.andThen_ret]
  refine ⟨[], ?_⟩
  have em : m_law [.rol (ns.map D.int)] [] = (match b_law [some (.rol (ns.map .int)), none, none, none, none, none, none, none, none] [] with
    | .next _ h1 => finD 0 [] .non h1
    | .ret d h1 => finD 0 [] d h1
    | .exc c fs _ h1 => finX 0 [] c fs h1
    | _ => .stuck) := by
    unfold m_law mDef
    rw [if_pos (show [D.rol (List.map D.int ns)].length = 1 from rfl)]
    rfl
  rw [em, eb]
  exact finD_app [] (P' :: tl) _ rfl
end My
namespace My
open PySem PySem.Spec PyProof.Rows L2 AB
structure Txt (K : PySem.W.Frag) (mg : Str → Option Value) : Prop where
  b_ValueError : mg "ValueError" = none
  b_abs : mg "abs" = none
  b_all : mg "all" = none
  b_any : mg "any" = none
  b_bool : mg "bool" = none
  b_enumerate : mg "enumerate" = none
  b_int : mg "int" = none
  b_isinstance : mg "isinstance" = none
  b_len : mg "len" = none
  b_list : mg "list" = none
  b_max : mg "max" = none
  b_min : mg "min" = none
  b_range : mg "range" = none
  b_repr : mg "repr" = none
  b_set : mg "set" = none
  b_sorted : mg "sorted" = none
  b_tuple : mg "tuple" = none
  b_zip : mg "zip" = none
  g_MOST_DEALS : ∃ t : Tok, mg "MOST_DEALS" = some (.int 12 t)
  g_MOST_KEY : ∃ t : Tok, mg "MOST_KEY" = some (.int 99 t)
  x_NoHistory : ExcK K mg "NoHistory"
  n_NoHistory : ∃ cl, mg "NoHistory" = some cl
  n_SectorError : ∃ cl, mg "SectorError" = some cl
  k_SectorError_NoHistory : CatK K mg "SectorError" "NoHistory" true
  ib_NoHistory_ValueError : IsOkB K mg "NoHistory" "ValueError" true
  i_NoHistory_NoHistory : IsOk K mg "NoHistory" "NoHistory" true
  sm : smIn K = true
section
variable {P : Program} {w : World} {K : PySem.W.Frag} {mg : Str → Option Value} {base : Heap}
theorem sc__law_pool : FnScope ["script", "cell"] ["script"] (defScope (topS 29)) := ⟨rfl, rfl, rfl, by decide +kernel, rfl, by decide +kernel, by decide +kernel⟩
theorem ok__law_pool {f : Addr} {fd : FuncData} (F : Fun K "_law_pool" "_law_pool" (topS 29) f fd) (T : Txt K mg)  : FnOk P w K mg base (L2.CX P w) 1 f fd ["script"] (spL K mg m__law_pool) :=
  fn_okL F sc__law_pool b__law_pool fun cdv A outer s H E hr =>
    (s_seq (s_ret (e_new (f_lst (a_cons (e_L (f_lc (own := [("cell", 1)]) (.nm 1) sc__law_pool.nd (i_seq (e_sl (e_var 0) o_none (o_some e_int))) (blkOk_by (by rfl)) (fun _ _ _ _ _ => (pg_nmP (i := 1) sc__law_pool.nd rfl)) (fun _ _ _ _ _ => p_yes) (fun _ _ _ _ _ => (e_abs T.b_abs (a_cons (e_int1 T.b_int (a_cons (e_var 1) a_nil)) a_nil))) (by decide))) (a_cons e_int (a_cons e_int (a_cons (e_bin op_add3 fol_add e_int (e_len T.b_len (a_cons (e_var 0) a_nil))) (a_cons e_int a_nil)))))))) s_nil)
theorem sc__law_draw : FnScope ["pool", "many", "cell", "digit", "mixed"] ["pool", "many"] (defScope (topS 30)) := ⟨rfl, rfl, rfl, by decide +kernel, rfl, by decide +kernel, by decide +kernel⟩
theorem ok__law_draw {f : Addr} {fd : FuncData} (F : Fun K "_law_draw" "_law_draw" (topS 30) f fd) (T : Txt K mg)  : FnOk P w K mg base (L2.CX P w) 1 f fd ["pool", "many"] (spM K mg m__law_draw) :=
  fn_ok F sc__law_draw b__law_draw fun cdv A outer s H E hr =>
    (s_seq (s_if (w_and (t_cmp (op_eqD (hu64 hr)) fol_eq (e_ix (e_var 0) e_int) e_int) (w_one .And (t_cmp (op_cLt (hu65 hr)) fol_cLt (e_ix (e_var 0) e_int) (e_len T.b_len (a_cons (e_ix (e_var 0) e_int) a_nil))))).pt (s_seq (s_set 2 (e_ix (e_ix (e_var 0) e_int) (e_ix (e_var 0) e_int)) sc__law_draw.nd) (s_seq (s_sub (e_bin op_add3 fol_add (e_ix (e_var 0) e_int) e_int) (e_var 0) e_int) (s_seq (s_if (t_cmp (op_cGe (hu65 hr)) fol_cGe (e_var 2) (e_bin op_pow fol_pow e_int e_int)) (s_seq (s_sub (e_var 2) (e_var 0) e_int) s_nil) (s_seq (s_sub (e_bin op_mod fol_mod (e_int1 T.b_int (a_cons (e_bin op_add3 fol_add (e_bin op_add3 fol_add (e_bin op_mul fol_mul (e_ix (e_var 0) e_int) e_int) (e_bin op_mul fol_mul (e_bin op_mod fol_mod (e_int1 T.b_int (a_cons (e_var 2) a_nil)) e_int) e_int)) (e_ix (e_var 0) e_int)) a_nil)) e_int) (e_var 0) e_int) s_nil)) s_nil))) s_nil) (s_seq (s_if (t_cmp (op_cGt (hu65 hr)) fol_cGt (e_ix (e_var 0) e_int) e_int) (s_seq (s_set 3 (e_bin op_mod fol_mod (e_int1 T.b_int (a_cons (e_ix (e_var 0) e_int) a_nil)) (e_var 1)) sc__law_draw.nd) (s_seq (s_sub (e_bin op_fdivW fol_div (e_int1 T.b_int (a_cons (e_ix (e_var 0) e_int) a_nil)) (e_var 1)) (e_var 0) e_int) (s_seq (s_ret (e_var 3)) s_nil))) s_nil) (s_seq (s_sub (e_bin op_add3 fol_add (e_ix (e_var 0) e_int) e_int) (e_var 0) e_int) (s_seq (s_sub (e_bin op_mod fol_mod (e_int1 T.b_int (a_cons (e_bin op_add3 fol_add (e_bin op_add3 fol_add (e_bin op_mul fol_mul (e_ix (e_var 0) e_int) e_int) (e_bin op_mul fol_mul e_int (e_ix (e_var 0) e_int))) e_int) a_nil)) e_int) (e_var 0) e_int) (s_seq (s_set 4 (e_bin op_mod fol_mod (e_int1 T.b_int (a_cons (e_bin op_mul fol_mul (e_ix (e_var 0) e_int) (e_bin op_add3 fol_add (e_bin op_fdivW fol_div (e_ix (e_var 0) e_int) e_int) e_int)) a_nil)) e_int) sc__law_draw.nd) (s_seq (s_set 4 (e_bin op_mod fol_mod (e_int1 T.b_int (a_cons (e_bin op_mul fol_mul (e_var 4) (e_bin op_add3 fol_add (e_bin op_fdivW fol_div (e_var 4) e_int) e_int)) a_nil)) e_int) sc__law_draw.nd) (s_seq (s_ret (e_bin op_mod fol_mod (e_int1 T.b_int (a_cons (e_bin op_fdivW fol_div (e_var 4) e_int) a_nil)) (e_var 1))) s_nil)))))))
theorem sc__law_deep : FnScope ["thing", "many", "turn"] ["thing", "many"] (defScope (topS 33)) := ⟨rfl, rfl, rfl, by decide +kernel, rfl, by decide +kernel, by decide +kernel⟩
theorem ok__law_deep {f : Addr} {fd : FuncData} (F : Fun K "_law_deep" "_law_deep" (topS 33) f fd) (T : Txt K mg)  : FnOk P w K mg base (L2.CX P w) 1 f fd ["thing", "many"] (spM K mg m__law_deep) :=
  fn_ok F sc__law_deep b__law_deep fun cdv A outer s H E hr =>
    (s_seq (s_for (p := (.nm 2)) (passes_of rfl) (i_range1 T.b_range (a_cons (e_var 1) a_nil)) (pg_nmP (i := 2) sc__law_deep.nd rfl) (s_seq (s_set 0 (e_tup (a_cons (e_var 0) a_nil)) sc__law_deep.nd) s_nil)) (s_seq (s_ret (e_var 0)) s_nil))
theorem sc__law_is_int : FnScope ["thing", "least", "most"] ["thing", "least", "most"] (defScope (topS 32)) := ⟨rfl, rfl, rfl, by decide +kernel, rfl, by decide +kernel, by decide +kernel⟩
theorem ok__law_is_int {f : Addr} {fd : FuncData} (F : Fun K "_law_is_int" "_law_is_int" (topS 32) f fd) (T : Txt K mg)  : FnOk P w K mg base (L2.CX P w) 1 f fd ["thing", "least", "most"] (spM K mg m__law_is_int) :=
  fn_ok F sc__law_is_int b__law_is_int fun cdv A outer s H E hr =>
    (s_seq (s_ret (e_and (e_isi .int T.b_isinstance T.b_int (e_var 0)) (e_and (e_not (e_isi .bl T.b_isinstance T.b_bool (e_var 0))) (e_one (e_chain (op_cLe (hu65 hr)) (op_cLe (hu65 hr)) fol_cLe fol_cLe (e_var 1) (e_var 0) (e_var 2)))))) s_nil)
theorem sc_is_integer : FnScope ["thing"] ["thing"] (defScope (topS 4)) := ⟨rfl, rfl, rfl, by decide +kernel, rfl, by decide +kernel, by decide +kernel⟩
theorem ok_is_integer {f : Addr} {fd : FuncData} (F : Fun K "is_integer" "is_integer" (topS 4) f fd) (T : Txt K mg)  : FnOk P w K mg base (L2.CX P w) 1 f fd ["thing"] (spM K mg m_is_integer) :=
  fn_ok F sc_is_integer b_is_integer fun cdv A outer s H E hr =>
    (s_seq (s_ret (e_and (e_isi .int T.b_isinstance T.b_int (e_var 0)) (e_one (e_not (e_isi .bl T.b_isinstance T.b_bool (e_var 0)))))) s_nil)
theorem sc_writers : FnScope ["history", "key", "index", "deal"] ["history", "key"] (defScope (topS 15)) := ⟨rfl, rfl, rfl, by decide +kernel, rfl, by decide +kernel, by decide +kernel⟩
theorem ok_writers {f : Addr} {fd : FuncData} (F : Fun K "writers" "writers" (topS 15) f fd) (T : Txt K mg)  : FnOk P w K mg base (L2.CX P w) 1 f fd ["history", "key"] (spL K mg m_writers) :=
  fn_okL F sc_writers b_writers fun cdv A outer s H E hr =>
    (s_seq (s_ret (e_new (f_lc (own := [("index", 2), ("deal", 3)]) (.tp [(.nm 2), (.nm 3)]) sc_writers.nd (i_enum T.b_enumerate (a_cons (e_var 0) a_nil)) (blkOk_by (by rfl)) (fun _ _ _ _ _ => (pg_tpP rfl (pgs_consP (pg_nmP (i := 2) sc_writers.nd rfl) (pgs_consP (pg_nmP (i := 3) sc_writers.nd rfl) pgs_nilP)))) (fun _ _ _ _ _ => (pts_one (t_cmp (op_inA (hu65 hr)) fol_in (e_var 1) (e_ix (e_var 3) e_int)))) (fun _ _ _ _ _ => (e_var 2)) (by decide)))) s_nil)
theorem sc__law_any : FnScope ["pool", "things"] ["pool", "things"] (defScope (topS 31)) := ⟨rfl, rfl, rfl, by decide +kernel, rfl, by decide +kernel, by decide +kernel⟩
theorem ok__law_any {f : Addr} {fd : FuncData} (F : Fun K "_law_any" "_law_any" (topS 31) f fd) (T : Txt K mg) (c__law_draw : Has P w K mg base "_law_draw" 1 ["pool", "many"] (spM K mg m__law_draw)) : FnOk P w K mg base (L2.CX P w) 2 f fd ["pool", "things"] (spM K mg m__law_any) :=
  fn_ok F sc__law_any b__law_any fun cdv A outer s H E hr =>
    (s_seq (s_ret (e_ix (e_var 1) (e_callH c__law_draw hr (takes_of rfl rfl rfl rfl) (a_cons (e_var 0) (a_cons (e_len T.b_len (a_cons (e_var 1) a_nil)) a_nil))))) s_nil)
theorem sc__law_is_reads : FnScope ["told", "one", "thing", "pair", "k"] ["told", "one", "thing"] (defScope (topS 35)) := ⟨rfl, rfl, rfl, by decide +kernel, rfl, by decide +kernel, by decide +kernel⟩
theorem ok__law_is_reads {f : Addr} {fd : FuncData} (F : Fun K "_law_is_reads" "_law_is_reads" (topS 35) f fd) (T : Txt K mg) (c__law_is_int : Has P w K mg base "_law_is_int" 1 ["thing", "least", "most"] (spM K mg m__law_is_int)) : FnOk P w K mg base (L2.CX P w) 2 f fd ["told", "one", "thing"] (spM K mg m__law_is_reads) :=
  fn_ok F sc__law_is_reads b__law_is_reads fun cdv A outer s H E hr =>
    (s_seq (s_if (t_not (t_tru (e_isi .tup T.b_isinstance T.b_tuple (e_var 2)))) (s_seq (s_ret e_bl) s_nil) s_nil) (s_seq (s_for (p := (.nm 3)) (passes_of rfl) (i_seq (e_var 2)) (pg_nmP (i := 3) sc__law_is_reads.nd rfl) (s_seq (s_if (w_or (t_not (t_tru (e_isi .tup T.b_isinstance T.b_tuple (e_var 3)))) (w_or (t_cmp (op_neD (hu64 hr)) fol_ne (e_len T.b_len (a_cons (e_var 3) a_nil)) e_int) (w_one .Or (t_not (t_tru (e_callH c__law_is_int hr (takes_of rfl rfl rfl rfl) (a_cons (e_ix (e_var 3) e_int) (a_cons e_int (a_cons e_int a_nil))))))))).pt (s_seq (s_ret e_bl) s_nil) s_nil) (s_seq (s_if (w_or (t_not (t_tru (e_callH c__law_is_int hr (takes_of rfl rfl rfl rfl) (a_cons (e_ix (e_var 3) e_int) (a_cons (e_un un_neg fol_neg e_int) (a_cons (e_bin op_sub fol_sub (e_len T.b_len (a_cons (e_var 0) a_nil)) e_int) a_nil)))))) (w_one .Or (t_cmp (op_eqD (hu64 hr)) fol_eq (e_ix (e_var 3) e_int) (e_var 1)))).pt (s_seq (s_ret e_bl) s_nil) s_nil) (s_seq (s_if (w_and (t_cmp (op_cGe (hu65 hr)) fol_cGe (e_ix (e_var 3) e_int) e_int) (w_one .And (t_cmp (op_notInA (hu65 hr)) fol_notIn (e_ix (e_var 3) e_int) (e_ix (e_ix (e_var 0) (e_ix (e_var 3) e_int)) e_int)))).pt (s_seq (s_ret e_bl) s_nil) s_nil) s_nil)))) (s_seq (s_ret (e_cmp (op_eqD (hu64 hr)) fol_eq (e_len T.b_len (a_cons (e_L (f_lc (own := [("k", 4)]) (.nm 4) sc__law_is_reads.nd (i_range2 T.b_range (a_cons e_int (a_cons (e_len T.b_len (a_cons (e_var 2) a_nil)) a_nil))) (blkOk_by (by rfl)) (fun _ _ _ _ _ => (pg_nmP (i := 4) sc__law_is_reads.nd rfl)) (fun _ _ _ _ _ => (pts_one (t_cmp (op_cGe (hu65 hr)) fol_cGe (e_ix (e_ix (e_var 2) (e_bin op_sub fol_sub (e_var 4) e_int)) e_int) (e_ix (e_ix (e_var 2) (e_var 4)) e_int)))) (fun _ _ _ _ _ => (e_var 4)) (by decide))) a_nil)) e_int)) s_nil)))
theorem sc__law_is_keys : FnScope ["thing", "key", "k"] ["thing"] (defScope (topS 36)) := ⟨rfl, rfl, rfl, by decide +kernel, rfl, by decide +kernel, by decide +kernel⟩
theorem ok__law_is_keys {f : Addr} {fd : FuncData} (F : Fun K "_law_is_keys" "_law_is_keys" (topS 36) f fd) (T : Txt K mg) (c__law_is_int : Has P w K mg base "_law_is_int" 1 ["thing", "least", "most"] (spM K mg m__law_is_int)) : FnOk P w K mg base (L2.CX P w) 2 f fd ["thing"] (spM K mg m__law_is_keys) :=
  fn_ok F sc__law_is_keys b__law_is_keys fun cdv A outer s H E hr =>
    (s_seq (s_if (w_or (t_not (t_tru (e_isi .tup T.b_isinstance T.b_tuple (e_var 0)))) (w_one .Or (t_cmp (op_cGt (hu65 hr)) fol_cGt (e_len T.b_len (a_cons (e_L (f_lc (own := [("key", 1)]) (.nm 1) sc__law_is_keys.nd (i_seq (e_var 0)) (blkOk_by (by rfl)) (fun _ _ _ _ _ => (pg_nmP (i := 1) sc__law_is_keys.nd rfl)) (fun _ _ _ _ _ => (pts_one (t_not (t_tru (e_callH c__law_is_int hr takes0 (a_cons (e_var 1) (a_cons e_int (a_cons e_int a_nil)))))))) (fun _ _ _ _ _ => (e_var 1)) (by decide))) a_nil)) e_int))).pt (s_seq (s_ret e_bl) s_nil) s_nil) (s_seq (s_ret (e_cmp (op_eqD (hu64 hr)) fol_eq (e_len T.b_len (a_cons (e_L (f_lc (own := [("k", 2)]) (.nm 2) sc__law_is_keys.nd (i_range2 T.b_range (a_cons e_int (a_cons (e_len T.b_len (a_cons (e_var 0) a_nil)) a_nil))) (blkOk_by (by rfl)) (fun _ _ _ _ _ => (pg_nmP (i := 2) sc__law_is_keys.nd rfl)) (fun _ _ _ _ _ => (pts_one (t_cmp (op_cGe (hu65 hr)) fol_cGe (e_ix (e_var 0) (e_bin op_sub fol_sub (e_var 2) e_int)) (e_ix (e_var 0) (e_var 2))))) (fun _ _ _ _ _ => (e_var 2)) (by decide))) a_nil)) e_int)) s_nil))
theorem sc_is_between : FnScope ["thing", "least", "most"] ["thing", "least", "most"] (defScope (topS 5)) := ⟨rfl, rfl, rfl, by decide +kernel, rfl, by decide +kernel, by decide +kernel⟩
theorem ok_is_between {f : Addr} {fd : FuncData} (F : Fun K "is_between" "is_between" (topS 5) f fd) (T : Txt K mg) (c_is_integer : Has P w K mg base "is_integer" 1 ["thing"] (spM K mg m_is_integer)) : FnOk P w K mg base (L2.CX P w) 2 f fd ["thing", "least", "most"] (spM K mg m_is_between) :=
  fn_ok F sc_is_between b_is_between fun cdv A outer s H E hr =>
    (s_seq (s_ret (e_and (e_callH c_is_integer hr (takes_of rfl rfl rfl rfl) (a_cons (e_var 0) a_nil)) (e_one (e_chain (op_cLe (hu65 hr)) (op_cLe (hu65 hr)) fol_cLe fol_cLe (e_var 1) (e_var 0) (e_var 2))))) s_nil)
theorem sc_next_writer : FnScope ["history", "key", "last", "later", "index"] ["history", "key", "last"] (defScope (topS 16)) := ⟨rfl, rfl, rfl, by decide +kernel, rfl, by decide +kernel, by decide +kernel⟩
theorem ok_next_writer {f : Addr} {fd : FuncData} (F : Fun K "next_writer" "next_writer" (topS 16) f fd) (T : Txt K mg) (c_writers : Has P w K mg base "writers" 1 ["history", "key"] (spL K mg m_writers)) : FnOk P w K mg base (L2.CX P w) 2 f fd ["history", "key", "last"] (spM K mg m_next_writer) :=
  fn_ok F sc_next_writer b_next_writer fun cdv A outer s H E hr =>
    (s_seq (s_setLc (own := [("index", 4)]) 3 (.nm 4) (fun _ _ _ => L_read)  sc_next_writer.nd (i_seq (e_L (f_callH c_writers hr (takes_of rfl rfl rfl rfl) (a_cons (e_var 0) (a_cons (e_var 1) a_nil))))) (blkOk_by (by rfl)) (fun _ _ _ _ _ => (pg_nmP (i := 4) sc_next_writer.nd rfl)) (fun _ _ _ _ _ => (pts_one (t_cmp (op_cGt (hu65 hr)) fol_cGt (e_var 4) (e_var 2)))) (fun _ _ _ _ _ => (e_var 4)) (by decide)) (s_seq (s_if (t_cmp (op_eqD (hu64 hr)) fol_eq (e_len T.b_len (a_cons (e_var 3) a_nil)) e_int) (s_seq (s_ret e_non) s_nil) s_nil) (s_seq (s_ret (e_ix (e_var 3) e_int)) s_nil)))
theorem sc_suits : FnScope ["history", "index", "moment", "reads", "writes", "key", "source", "ahead", "between", "other"] ["history", "index", "moment"] (defScope (topS 24)) := ⟨rfl, rfl, rfl, by decide +kernel, rfl, by decide +kernel, by decide +kernel⟩
theorem ok_suits {f : Addr} {fd : FuncData} (F : Fun K "suits" "suits" (topS 24) f fd) (T : Txt K mg) (c_writers : Has P w K mg base "writers" 1 ["history", "key"] (spL K mg m_writers)) : FnOk P w K mg base (L2.CX P w) 2 f fd ["history", "index", "moment"] (spM K mg m_suits) :=
  fn_ok F sc_suits b_suits fun cdv A outer s H E hr =>
    (s_seq (s_asg (.tp [(.nm 3), (.nm 4)]) (e_ix (e_var 0) (e_var 1)) (pg_tpP rfl (pgs_consP (pg_nmP (i := 3) sc_suits.nd rfl) (pgs_consP (pg_nmP (i := 4) sc_suits.nd rfl) pgs_nilP)))) (s_seq (s_for (p := (.tp [(.nm 5), (.nm 6)])) (passes_of rfl) (i_seq (e_var 3)) (pg_tpP rfl (pgs_consP (pg_nmP (i := 5) sc_suits.nd rfl) (pgs_consP (pg_nmP (i := 6) sc_suits.nd rfl) pgs_nilP))) (s_seq (s_setLc (own := [("other", 9)]) 7 (.nm 9) (fun _ _ _ => L_read)  sc_suits.nd (i_seq (e_L (f_callH c_writers hr (takes_of rfl rfl rfl rfl) (a_cons (e_var 0) (a_cons (e_var 5) a_nil))))) (blkOk_by (by rfl)) (fun _ _ _ _ _ => (pg_nmP (i := 9) sc_suits.nd rfl)) (fun _ _ _ _ _ => (pts_one (t_cmp (op_cLt (hu65 hr)) fol_cLt (e_var 9) (e_var 2)))) (fun _ _ _ _ _ => (e_var 9)) (by decide)) (s_seq (s_if (t_cmp (op_neD (hu64 hr)) fol_ne (e_ix (e_bin op_add3 fol_add (e_L (f_lst (a_cons (e_un un_neg fol_neg e_int) a_nil))) (e_var 7)) (e_un un_neg fol_neg e_int)) (e_var 6)) (s_seq (s_ret e_bl) s_nil) s_nil) s_nil))) (s_seq (s_setLc (own := [("other", 9)]) 8 (.nm 9) (fun _ _ _ => L_read)  sc_suits.nd (i_range2 T.b_range (a_cons (e_var 2) (a_cons (e_var 1) a_nil))) (blkOk_by (by rfl)) (fun _ _ _ _ _ => (pg_nmP (i := 9) sc_suits.nd rfl)) (fun _ _ _ _ _ => (pts_one (t_tru (e_any T.b_any (a_cons (e_L (f_lc (own := [("key", 5)]) (.nm 5) sc_suits.nd (i_seq (e_var 4)) (blkOk_by (by rfl)) (fun _ _ _ _ _ => (pg_nmP (i := 5) sc_suits.nd rfl)) (fun _ _ _ _ _ => p_yes) (fun _ _ _ _ _ => (e_cmp (op_inA (hu65 hr)) fol_in (e_var 5) (e_ix (e_ix (e_var 0) (e_var 9)) e_int))) (by decide))) a_nil))))) (fun _ _ _ _ _ => (e_var 9)) (by decide)) (s_seq (s_ret (e_cmp (op_eqD (hu64 hr)) fol_eq (e_len T.b_len (a_cons (e_var 8) a_nil)) e_int)) s_nil))))
theorem sc__law_history : FnScope ["pool", "most", "many", "names", "style", "wrote", "k", "found", "at", "reads", "key", "some", "ahead", "way", "other"] ["pool", "most"] (defScope (topS 34)) := ⟨rfl, rfl, rfl, by decide +kernel, rfl, by decide +kernel, by decide +kernel⟩
theorem ok__law_history {f : Addr} {fd : FuncData} (F : Fun K "_law_history" "_law_history" (topS 34) f fd) (T : Txt K mg) (c__law_draw : Has P w K mg base "_law_draw" 1 ["pool", "many"] (spM K mg m__law_draw)) (c__law_any : Has P w K mg base "_law_any" 2 ["pool", "things"] (spM K mg m__law_any)) : FnOk P w K mg base (L2.CX P w) 3 f fd ["pool", "most"] (spM K mg m__law_history) :=
  fn_ok F sc__law_history b__law_history fun cdv A outer s H E hr =>
    (s_seq (s_set 2 (e_callH c__law_draw hr (takes_of rfl rfl rfl rfl) (a_cons (e_var 0) (a_cons (e_bin op_add3 fol_add (e_var 1) e_int) a_nil))) sc__law_history.nd) (s_seq (s_set 3 (e_callH c__law_any hr (takes_of rfl rfl rfl rfl) (a_cons (e_var 0) (a_cons (e_L (f_lst (a_cons (e_tup (a_cons e_int (a_cons e_int (a_cons e_int (a_cons e_int a_nil))))) (a_cons (e_tup (a_cons e_int (a_cons e_int a_nil))) (a_cons (e_tup (a_cons e_int a_nil)) (a_cons (e_tup (a_cons e_int (a_cons e_int (a_cons e_int a_nil)))) a_nil)))))) a_nil))) sc__law_history.nd) (s_seq (s_set 4 (e_callH c__law_draw hr (takes_of rfl rfl rfl rfl) (a_cons (e_var 0) (a_cons e_int a_nil))) sc__law_history.nd) (s_seq (s_set 5 (e_new (f_lst a_nil)) sc__law_history.nd) (s_seq (s_for (p := (.nm 6)) (passes_of rfl) (i_range1 T.b_range (a_cons (e_var 2) a_nil)) (pg_nmP (i := 6) sc__law_history.nd rfl) (s_seq (s_expr (e_app (e_var 5) (a_cons (e_tuple T.b_tuple (a_cons (e_L (f_lc (own := [("key", 10)]) (.nm 10) sc__law_history.nd (i_seq (e_var 3)) (blkOk_by (by rfl)) (fun _ _ _ _ _ => (pg_nmP (i := 10) sc__law_history.nd rfl)) (fun _ _ _ _ _ => (pts_one (t_cmp (op_eqD (hu64 hr)) fol_eq (e_callH c__law_draw hr takes0 (a_cons (e_var 0) (a_cons (e_bin op_add3 fol_add e_int (e_int1 T.b_int (a_cons (e_cmp (op_cGt (hu65 hr)) fol_cGt (e_len T.b_len (a_cons (e_var 3) a_nil)) e_int) a_nil))) a_nil))) e_int))) (fun _ _ _ _ _ => (e_var 10)) (by decide))) a_nil)) a_nil))) s_nil)) (s_seq (s_set 7 (e_new (f_lst a_nil)) sc__law_history.nd) (s_seq (s_for (p := (.nm 6)) (passes_of rfl) (i_range1 T.b_range (a_cons (e_var 2) a_nil)) (pg_nmP (i := 6) sc__law_history.nd rfl) (s_seq (s_set 8 (e_if (t_cmp (op_eqD (hu64 hr)) fol_eq (e_var 4) e_int) (e_var 6) (e_callH c__law_draw hr (takes_of rfl rfl rfl rfl) (a_cons (e_var 0) (a_cons (e_bin op_add3 fol_add (e_var 6) e_int) a_nil)))) sc__law_history.nd) (s_seq (s_set 9 (e_new (f_lst a_nil)) sc__law_history.nd) (s_seq (s_for (p := (.nm 10)) (passes_of rfl) (i_seq (e_var 3)) (pg_nmP (i := 10) sc__law_history.nd rfl) (s_seq (s_set 11 (e_bin op_add3 fol_add (e_L (f_lst (a_cons (e_un un_neg fol_neg e_int) a_nil))) (e_L (f_lc (own := [("other", 14)]) (.nm 14) sc__law_history.nd (i_range1 T.b_range (a_cons (e_var 2) a_nil)) (blkOk_by (by rfl)) (fun _ _ _ _ _ => (pg_nmP (i := 14) sc__law_history.nd rfl)) (fun _ _ _ _ _ => (pts_one (w_and (t_cmp (op_neD (hu64 hr)) fol_ne (e_var 14) (e_var 6)) (w_one .And (t_cmp (op_inA (hu65 hr)) fol_in (e_var 10) (e_ix (e_var 5) (e_var 14))))).pt)) (fun _ _ _ _ _ => (e_var 14)) (by decide)))) sc__law_history.nd) (s_seq (s_setLc (own := [("other", 14)]) 12 (.nm 14) (fun _ _ _ => L_read)  sc__law_history.nd (i_seq (e_var 11)) (blkOk_by (by rfl)) (fun _ _ _ _ _ => (pg_nmP (i := 14) sc__law_history.nd rfl)) (fun _ _ _ _ _ => (pts_one (t_cmp (op_cLt (hu65 hr)) fol_cLt (e_var 14) (e_var 8)))) (fun _ _ _ _ _ => (e_var 14)) (by decide)) (s_seq (s_set 13 (e_callH c__law_draw hr (takes_of rfl rfl rfl rfl) (a_cons (e_var 0) (a_cons e_int a_nil))) sc__law_history.nd) (s_seq (s_if (w_and (t_cmp (op_eqD (hu64 hr)) fol_eq (e_var 13) e_int) (w_one .And (t_cmp (op_cGt (hu65 hr)) fol_cGt (e_var 4) e_int))).pt (s_seq (s_expr (e_app (e_var 9) (a_cons (e_tup (a_cons (e_var 10) (a_cons (e_callH c__law_any hr (takes_of rfl rfl rfl rfl) (a_cons (e_var 0) (a_cons (e_var 11) a_nil))) a_nil))) a_nil))) s_nil) (s_seq (s_if (t_cmp (op_cLt (hu65 hr)) fol_cLt (e_var 13) e_int) (s_seq (s_expr (e_app (e_var 9) (a_cons (e_tup (a_cons (e_var 10) (a_cons (e_max T.b_max (a_cons (e_bin op_add3 fol_add (e_L (f_lst (a_cons (e_un un_neg fol_neg e_int) a_nil))) (e_var 12)) a_nil)) a_nil))) a_nil))) s_nil) s_nil) s_nil)) s_nil))))) (s_seq (s_expr (e_app (e_var 7) (a_cons (e_tup (a_cons (e_tuple T.b_tuple (a_cons (e_var 9) a_nil)) (a_cons (e_ix (e_var 5) (e_var 6)) a_nil))) a_nil))) s_nil))))) (s_seq (s_ret (e_tuple T.b_tuple (a_cons (e_var 7) a_nil))) s_nil))))))))
theorem sc__law_bent : FnScope ["pool", "told", "odd", "at", "reads", "writes", "others", "pairs", "keys", "spot", "place", "deals", "pair", "turned", "k"] ["pool", "told"] (defScope (topS 38)) := ⟨rfl, rfl, rfl, by decide +kernel, rfl, by decide +kernel, by decide +kernel⟩
theorem ok__law_bent {f : Addr} {fd : FuncData} (F : Fun K "_law_bent" "_law_bent" (topS 38) f fd) (T : Txt K mg) (c__law_draw : Has P w K mg base "_law_draw" 1 ["pool", "many"] (spM K mg m__law_draw)) (c__law_deep : Has P w K mg base "_law_deep" 1 ["thing", "many"] (spM K mg m__law_deep)) (c__law_any : Has P w K mg base "_law_any" 2 ["pool", "things"] (spM K mg m__law_any)) : FnOk P w K mg base (L2.CX P w) 3 f fd ["pool", "told"] (spM K mg m__law_bent) :=
  fn_okK F sc__law_bent b__law_bent fun cdv A outer s H E hr =>
    (s_seq (s_set 2 (e_L (f_lst (a_cons e_non (a_cons (e_L (f_lst a_nil)) (a_cons (e_tup a_nil) (a_cons e_dnew (a_cons e_str (a_cons e_int (a_cons (e_un un_neg fol_neg e_int) (a_cons e_bl (a_cons (e_L (f_list T.b_list (a_cons (e_var 1) a_nil))) (a_cons (e_bin op_mulT fol_mulT (e_var 1) e_int) (a_cons (e_callH c__law_deep hr (takes_of rfl rfl rfl rfl) (a_cons e_int (a_cons e_int a_nil))) (a_cons (e_L (f_lst (a_cons (e_var 1) a_nil))) (a_cons (e_bin op_add3 fol_add (e_var 1) (e_tup (a_cons (e_tup a_nil) a_nil))) a_nil))))))))))))))) sc__law_bent.nd) (s_seq (s_set 2 (e_bin op_add3 fol_add (e_var 2) (e_L (f_lst (a_cons (e_bin op_add3 fol_add (e_var 1) (e_tup (a_cons e_non a_nil))) (a_cons (e_bin op_add3 fol_add (e_var 1) (e_tup (a_cons (e_tup (a_cons (e_tup a_nil) (a_cons (e_tup a_nil) (a_cons (e_tup a_nil) a_nil)))) a_nil))) (a_cons (e_bin op_add3 fol_add (e_var 1) (e_tup (a_cons (e_tup (a_cons (e_tup a_nil) (a_cons (e_tup a_nil) a_nil))) a_nil))) (a_cons (e_bin op_mulA fol_mulA (e_tup (a_cons (e_tup (a_cons (e_tup a_nil) (a_cons (e_tup a_nil) a_nil))) a_nil)) e_int) (a_cons (e_bin op_mulA fol_mulA (e_tup (a_cons (e_tup (a_cons (e_tup a_nil) (a_cons (e_tup a_nil) a_nil))) a_nil)) e_int) a_nil)))))))) sc__law_bent.nd) (s_seq (s_if (w_or (t_cmp (op_eqD (hu64 hr)) fol_eq (e_len T.b_len (a_cons (e_var 1) a_nil)) e_int) (w_one .Or (t_cmp (op_eqD (hu64 hr)) fol_eq (e_callH c__law_draw hr (takes_of rfl rfl rfl rfl) (a_cons (e_var 0) (a_cons e_int a_nil))) e_int))).pt (s_seq (s_ret (e_callH c__law_any hr (takes_of rfl rfl rfl rfl) (a_cons (e_var 0) (a_cons (e_var 2) a_nil)))) s_nil) s_nil) (s_seq (s_set 3 (e_callH c__law_draw hr (takes_of rfl rfl rfl rfl) (a_cons (e_var 0) (a_cons (e_len T.b_len (a_cons (e_var 1) a_nil)) a_nil))) sc__law_bent.nd) (s_seq (s_asg (.tp [(.nm 4), (.nm 5)]) (e_ix (e_var 1) (e_var 3)) (pg_tpP rfl (pgs_consP (pg_nmP (i := 4) sc__law_bent.nd rfl) (pgs_consP (pg_nmP (i := 5) sc__law_bent.nd rfl) pgs_nilP)))) (s_seq (s_set 6 (e_bin op_add3 fol_add (e_L (f_lc (own := [("k", 14)]) (.nm 14) sc__law_bent.nd (i_range1 T.b_range (a_cons (e_len T.b_len (a_cons (e_var 1) a_nil)) a_nil)) (blkOk_by (by rfl)) (fun _ _ _ _ _ => (pg_nmP (i := 14) sc__law_bent.nd rfl)) (fun _ _ _ _ _ => (pts_one (t_cmp (op_neD (hu64 hr)) fol_ne (e_var 14) (e_var 3)))) (fun _ _ _ _ _ => (e_var 14)) (by decide))) (e_L (f_lst (a_cons (e_len T.b_len (a_cons (e_var 1) a_nil)) (a_cons (e_un un_neg fol_neg e_int) (a_cons (e_var 3) (a_cons (e_un un_neg fol_neg e_int) (a_cons e_bl (a_cons e_non (a_cons e_str (a_cons (e_bin op_pow fol_pow e_int e_int) a_nil))))))))))) sc__law_bent.nd) (s_seq (s_set 7 (e_L (f_lst (a_cons (e_tup (a_cons e_int (a_cons (e_callH c__law_any hr (takes_of rfl rfl rfl rfl) (a_cons (e_var 0) (a_cons (e_var 6) a_nil))) a_nil))) (a_cons (e_tup (a_cons e_int (a_cons (e_callH c__law_any hr (takes_of rfl rfl rfl rfl) (a_cons (e_var 0) (a_cons (e_var 6) a_nil))) a_nil))) (a_cons (e_tup (a_cons e_int (a_cons (e_un un_neg fol_neg e_int) a_nil))) (a_cons (e_tup (a_cons e_int (a_cons (e_un un_neg fol_neg e_int) a_nil))) (a_cons (e_tup (a_cons (e_un un_neg fol_neg e_int) (a_cons (e_un un_neg fol_neg e_int) a_nil))) (a_cons (e_tup (a_cons e_bl (a_cons (e_un un_neg fol_neg e_int) a_nil))) a_nil)))))))) sc__law_bent.nd) (s_seq (s_set 7 (e_bin op_add3 fol_add (e_var 7) (e_L (f_lst (a_cons (e_tup (a_cons e_int (a_cons (e_un un_neg fol_neg e_int) (a_cons e_int a_nil)))) (a_cons (e_tup (a_cons e_int a_nil)) (a_cons (e_L (f_lst (a_cons e_int (a_cons (e_un un_neg fol_neg e_int) a_nil)))) (a_cons e_non (a_cons e_int (a_cons (e_tup (a_cons e_non (a_cons (e_un un_neg fol_neg e_int) a_nil))) (a_cons (e_tup (a_cons e_str (a_cons (e_un un_neg fol_neg e_int) a_nil))) (a_cons (e_callH c__law_deep hr (takes_of rfl rfl rfl rfl) (a_cons e_int (a_cons e_int a_nil))) a_nil))))))))))) sc__law_bent.nd) (s_seq (s_set 8 (e_L (f_lst (a_cons e_int (a_cons e_int (a_cons e_int (a_cons e_int (a_cons (e_un un_neg fol_neg e_int) (a_cons e_bl (a_cons e_non (a_cons e_str (a_cons (e_tup (a_cons e_int a_nil)) (a_cons (e_bin op_pow fol_pow e_int e_int) (a_cons e_int a_nil))))))))))))) sc__law_bent.nd) (s_seq (s_set 9 (e_callH c__law_draw hr (takes_of rfl rfl rfl rfl) (a_cons (e_var 0) (a_cons (e_bin op_add3 fol_add (e_len T.b_len (a_cons (e_var 4) a_nil)) e_int) a_nil))) sc__law_bent.nd) (s_seq (s_set 10 (e_callH c__law_draw hr (takes_of rfl rfl rfl rfl) (a_cons (e_var 0) (a_cons (e_bin op_add3 fol_add (e_len T.b_len (a_cons (e_var 5) a_nil)) e_int) a_nil))) sc__law_bent.nd) (s_seq (s_set 11 (e_bin op_rep fol_mulLs (e_new (f_lst (a_cons (e_tup (a_cons (e_bin op_add3 fol_add (e_bin op_add3 fol_add (e_sl (e_var 4) o_none (o_some (e_var 9))) (e_tup (a_cons (e_callH c__law_any hr (takes_of rfl rfl rfl rfl) (a_cons (e_var 0) (a_cons (e_var 7) a_nil))) a_nil))) (e_sl (e_var 4) (o_some (e_var 9)) o_none)) (a_cons (e_var 5) a_nil))) a_nil))) e_int) sc__law_bent.nd) (s_seq (s_set 11 (e_bin op_add3 fol_add (e_var 11) (e_L (f_lst (a_cons (e_tup (a_cons (e_bin op_add3 fol_add (e_sl (e_var 4) o_none (o_some (e_var 9))) (e_sl (e_var 4) (o_some (e_bin op_add3 fol_add (e_var 9) e_int)) o_none)) (a_cons (e_var 5) a_nil))) (a_cons (e_tup (a_cons (e_rev (e_var 4)) (a_cons (e_var 5) a_nil))) (a_cons (e_tup (a_cons (e_L (f_list T.b_list (a_cons (e_var 4) a_nil))) (a_cons (e_var 5) a_nil))) a_nil)))))) sc__law_bent.nd) (s_seq (s_set 11 (e_bin op_add3 fol_add (e_var 11) (e_bin op_rep fol_mulLs (e_new (f_lst (a_cons (e_tup (a_cons (e_var 4) (a_cons (e_bin op_add3 fol_add (e_bin op_add3 fol_add (e_sl (e_var 5) o_none (o_some (e_var 10))) (e_tup (a_cons (e_callH c__law_any hr (takes_of rfl rfl rfl rfl) (a_cons (e_var 0) (a_cons (e_var 8) a_nil))) a_nil))) (e_sl (e_var 5) (o_some (e_var 10)) o_none)) a_nil))) a_nil))) e_int)) sc__law_bent.nd) (s_seq (s_set 11 (e_bin op_add3 fol_add (e_var 11) (e_L (f_lst (a_cons (e_tup (a_cons (e_var 4) (a_cons (e_bin op_add3 fol_add (e_sl (e_var 5) o_none (o_some (e_var 10))) (e_sl (e_var 5) (o_some (e_bin op_add3 fol_add (e_var 10) e_int)) o_none)) a_nil))) (a_cons (e_tup (a_cons (e_var 4) (a_cons (e_rev (e_var 5)) a_nil))) (a_cons (e_tup (a_cons (e_var 4) (a_cons (e_L (f_list T.b_list (a_cons (e_var 5) a_nil))) a_nil))) a_nil)))))) sc__law_bent.nd) (s_seq (s_set 11 (e_bin op_add3 fol_add (e_var 11) (e_L (f_lst (a_cons (e_tup (a_cons (e_var 4) a_nil)) (a_cons (e_tup (a_cons (e_var 4) (a_cons (e_var 5) (a_cons (e_tup a_nil) a_nil)))) (a_cons (e_L (f_lst (a_cons (e_var 4) (a_cons (e_var 5) a_nil)))) (a_cons (e_tup (a_cons (e_var 5) (a_cons (e_var 4) a_nil))) (a_cons (e_tup (a_cons e_non (a_cons (e_var 5) a_nil))) (a_cons (e_tup (a_cons (e_var 4) (a_cons e_non a_nil))) a_nil))))))))) sc__law_bent.nd) (s_seq (s_set 11 (e_bin op_add3 fol_add (e_var 11) (e_L (f_lst (a_cons e_non a_nil)))) sc__law_bent.nd) (s_seq (s_if (t_cmp (op_cGt (hu65 hr)) fol_cGt (e_len T.b_len (a_cons (e_var 4) a_nil)) e_int) (s_seq (s_set 12 (e_ix (e_var 4) (e_min T.b_min (a_cons (e_var 9) (a_cons (e_bin op_sub fol_sub (e_len T.b_len (a_cons (e_var 4) a_nil)) e_int) a_nil)))) sc__law_bent.nd) (s_seq (s_set 13 (e_bin op_add3 fol_add (e_bin op_add3 fol_add (e_sl (e_var 4) o_none (o_some (e_var 9))) (e_tup (a_cons (e_tup (a_cons (e_ix (e_var 12) e_int) (a_cons (e_callH c__law_any hr (takes_of rfl rfl rfl rfl) (a_cons (e_var 0) (a_cons (e_var 6) a_nil))) a_nil))) a_nil))) (e_sl (e_var 4) (o_some (e_bin op_add3 fol_add (e_var 9) e_int)) o_none)) sc__law_bent.nd) (s_seq (s_set 11 (e_bin op_add3 fol_add (e_var 11) (e_bin op_rep fol_mulLs (e_new (f_lst (a_cons (e_tup (a_cons (e_var 13) (a_cons (e_var 5) a_nil))) a_nil))) e_int)) sc__law_bent.nd) s_nil))) s_nil) (s_seq (s_ret (e_bin op_add3 fol_add (e_bin op_add3 fol_add (e_sl (e_var 1) o_none (o_some (e_var 3))) (e_tup (a_cons (e_callH c__law_any hr (takes_of rfl rfl rfl rfl) (a_cons (e_var 0) (a_cons (e_var 11) a_nil))) a_nil))) (e_sl (e_var 1) (o_some (e_bin op_add3 fol_add (e_var 3) e_int)) o_none))) s_nil)))))))))))))))))))
theorem sc__law_is_history : FnScope ["thing", "deal", "k"] ["thing"] (defScope (topS 37)) := ⟨rfl, rfl, rfl, by decide +kernel, rfl, by decide +kernel, by decide +kernel⟩
theorem ok__law_is_history {f : Addr} {fd : FuncData} (F : Fun K "_law_is_history" "_law_is_history" (topS 37) f fd) (T : Txt K mg) (c__law_is_reads : Has P w K mg base "_law_is_reads" 2 ["told", "one", "thing"] (spM K mg m__law_is_reads)) (c__law_is_keys : Has P w K mg base "_law_is_keys" 2 ["thing"] (spM K mg m__law_is_keys)) : FnOk P w K mg base (L2.CX P w) 3 f fd ["thing"] (spM K mg m__law_is_history) :=
  fn_ok F sc__law_is_history b__law_is_history fun cdv A outer s H E hr =>
    (s_seq (s_if (w_or (t_not (t_tru (e_isiC [] .tup T.b_isinstance T.b_tuple (e_var 0) AllC.n))) (w_one .Or (t_cmp (op_cGt (hu65 hr)) fol_cGt (e_len T.b_len (a_cons (e_var 0) a_nil)) e_int))).pt (s_seq (s_ret e_bl) s_nil) s_nil) (s_seq (s_if (t_cmp (op_cGt (hu65 hr)) fol_cGt (e_len T.b_len (a_cons (e_L (f_lc (own := [("deal", 1)]) (.nm 1) sc__law_is_history.nd (i_seq (e_var 0)) (blkOk_by (by rfl)) (fun _ _ _ _ _ => (pg_nmP (i := 1) sc__law_is_history.nd rfl)) (fun _ _ _ _ _ => (pts_one (w_or (t_not (t_tru (e_isi .tup T.b_isinstance T.b_tuple (e_var 1)))) (w_or (t_cmp (op_neD (hu64 hr)) fol_ne (e_len T.b_len (a_cons (e_var 1) a_nil)) e_int) (w_one .Or (t_not (t_tru (e_callH c__law_is_keys hr takes0 (a_cons (e_ix (e_var 1) e_int) a_nil))))))).pt)) (fun _ _ _ _ _ => (e_var 1)) (by decide))) a_nil)) e_int) (s_seq (s_ret e_bl) s_nil) s_nil) (s_seq (s_ret (e_cmp (op_eqD (hu64 hr)) fol_eq (e_len T.b_len (a_cons (e_L (f_lc (own := [("k", 2)]) (.nm 2) sc__law_is_history.nd (i_range1 T.b_range (a_cons (e_len T.b_len (a_cons (e_var 0) a_nil)) a_nil)) (blkOk_by (by rfl)) (fun _ _ _ _ _ => (pg_nmP (i := 2) sc__law_is_history.nd rfl)) (fun _ _ _ _ _ => (pts_one (t_not (t_tru (e_callH c__law_is_reads hr takes0 (a_cons (e_var 0) (a_cons (e_var 2) (a_cons (e_ix (e_ix (e_var 0) (e_var 2)) e_int) a_nil)))))))) (fun _ _ _ _ _ => (e_var 2)) (by decide))) a_nil)) e_int)) s_nil)))
theorem sc_is_read : FnScope ["thing", "history"] ["thing", "history"] (defScope (topS 11)) := ⟨rfl, rfl, rfl, by decide +kernel, rfl, by decide +kernel, by decide +kernel⟩
theorem ok_is_read {f : Addr} {fd : FuncData} (F : Fun K "is_read" "is_read" (topS 11) f fd) (T : Txt K mg) (c_is_between : Has P w K mg base "is_between" 2 ["thing", "least", "most"] (spM K mg m_is_between)) : FnOk P w K mg base (L2.CX P w) 3 f fd ["thing", "history"] (spM K mg m_is_read) :=
  fn_ok F sc_is_read b_is_read fun cdv A outer s H E hr =>
    (s_seq (s_if (w_or (t_not (t_tru (e_isi .tup T.b_isinstance T.b_tuple (e_var 0)))) (w_or (t_cmp (op_neD (hu64 hr)) fol_ne (e_len T.b_len (a_cons (e_var 0) a_nil)) e_int) (w_one .Or (t_not (t_tru (e_callH c_is_between hr (takes_of rfl rfl rfl rfl) (a_cons (e_ix (e_var 0) e_int) (a_cons e_int (a_cons (e_globI T.g_MOST_KEY) a_nil))))))))).pt (s_seq (s_ret e_bl) s_nil) s_nil) (s_seq (s_if (t_not (t_tru (e_callH c_is_between hr (takes_of rfl rfl rfl rfl) (a_cons (e_ix (e_var 0) e_int) (a_cons (e_un un_neg fol_neg e_int) (a_cons (e_bin op_sub fol_sub (e_len T.b_len (a_cons (e_var 1) a_nil)) e_int) a_nil)))))) (s_seq (s_ret e_bl) s_nil) s_nil) (s_seq (s_ret (e_or (e_cmp (op_eqD (hu64 hr)) fol_eq (e_ix (e_var 0) e_int) (e_un un_neg fol_neg e_int)) (e_one (e_cmp (op_inA (hu65 hr)) fol_in (e_ix (e_var 0) e_int) (e_ix (e_ix (e_var 1) (e_ix (e_var 0) e_int)) e_int))))) s_nil)))
theorem sc_are_writes : FnScope ["thing", "key", "one", "other"] ["thing"] (defScope (topS 10)) := ⟨rfl, rfl, rfl, by decide +kernel, rfl, by decide +kernel, by decide +kernel⟩
theorem ok_are_writes {f : Addr} {fd : FuncData} (F : Fun K "are_writes" "are_writes" (topS 10) f fd) (T : Txt K mg) (c_is_between : Has P w K mg base "is_between" 2 ["thing", "least", "most"] (spM K mg m_is_between)) : FnOk P w K mg base (L2.CX P w) 3 f fd ["thing"] (spM K mg m_are_writes) :=
  fn_ok F sc_are_writes b_are_writes fun cdv A outer s H E hr =>
    (s_seq (s_if (w_or (t_not (t_tru (e_isi .tup T.b_isinstance T.b_tuple (e_var 0)))) (w_one .Or (t_not (t_tru (e_all T.b_all (a_cons (e_L (f_lc (own := [("key", 1)]) (.nm 1) sc_are_writes.nd (i_seq (e_var 0)) (blkOk_by (by rfl)) (fun _ _ _ _ _ => (pg_nmP (i := 1) sc_are_writes.nd rfl)) (fun _ _ _ _ _ => p_yes) (fun _ _ _ _ _ => (e_callH c_is_between hr takes0 (a_cons (e_var 1) (a_cons e_int (a_cons (e_globI T.g_MOST_KEY) a_nil))))) (by decide))) a_nil)))))).pt (s_seq (s_ret e_bl) s_nil) s_nil) (s_seq (s_ret (e_all T.b_all (a_cons (e_L (f_lc (own := [("one", 2), ("other", 3)]) (.tp [(.nm 2), (.nm 3)]) sc_are_writes.nd (i_zip T.b_zip (a_cons (e_var 0) (a_cons (e_sl (e_var 0) (o_some e_int) o_none) a_nil))) (blkOk_by (by rfl)) (fun _ _ _ _ _ => (pg_tpP rfl (pgs_consP (pg_nmP (i := 2) sc_are_writes.nd rfl) (pgs_consP (pg_nmP (i := 3) sc_are_writes.nd rfl) pgs_nilP)))) (fun _ _ _ _ _ => p_yes) (fun _ _ _ _ _ => (e_cmp (op_cLt (hu65 hr)) fol_cLt (e_var 2) (e_var 3))) (by decide))) a_nil))) s_nil))
theorem sc_edges_of : FnScope ["history", "found", "index", "deal", "key", "source", "behind", "other"] ["history"] (defScope (topS 17)) := ⟨rfl, rfl, rfl, by decide +kernel, rfl, by decide +kernel, by decide +kernel⟩
theorem ok_edges_of {f : Addr} {fd : FuncData} (F : Fun K "edges_of" "edges_of" (topS 17) f fd) (T : Txt K mg) (c_next_writer : Has P w K mg base "next_writer" 2 ["history", "key", "last"] (spM K mg m_next_writer)) (c_writers : Has P w K mg base "writers" 1 ["history", "key"] (spL K mg m_writers)) : FnOk P w K mg base (L2.CX P w) 3 f fd ["history"] (spL K mg m_edges_of) :=
  fn_okL F sc_edges_of b_edges_of fun cdv A outer s H E hr =>
    (s_seq (s_set 1 (e_new (f_lst a_nil)) sc_edges_of.nd) (s_seq (s_for (p := (.tp [(.nm 2), (.nm 3)])) (passes_of rfl) (i_enum T.b_enumerate (a_cons (e_var 0) a_nil)) (pg_tpP rfl (pgs_consP (pg_nmP (i := 2) sc_edges_of.nd rfl) (pgs_consP (pg_nmP (i := 3) sc_edges_of.nd rfl) pgs_nilP))) (s_seq (s_for (p := (.nm 4)) (passes_of rfl) (i_seq (e_ix (e_var 3) e_int)) (pg_nmP (i := 4) sc_edges_of.nd rfl) (s_seq (s_expr (e_ext (e_var 1) (a_cons (e_L (f_lc (own := [("other", 7)]) (.nm 7) sc_edges_of.nd (i_seq (e_L (f_callH c_writers hr (takes_of rfl rfl rfl rfl) (a_cons (e_var 0) (a_cons (e_var 4) a_nil))))) (blkOk_by (by rfl)) (fun _ _ _ _ _ => (pg_nmP (i := 7) sc_edges_of.nd rfl)) (fun _ _ _ _ _ => (pts_one (t_cmp (op_cGt (hu65 hr)) fol_cGt (e_var 7) (e_var 2)))) (fun _ _ _ _ _ => (e_tup (a_cons (e_var 2) (a_cons (e_var 7) (a_cons e_str (a_cons (e_var 4) a_nil)))))) (by decide))) a_nil))) s_nil)) (s_seq (s_for (p := (.tp [(.nm 4), (.nm 5)])) (passes_of rfl) (i_seq (e_ix (e_var 3) e_int)) (pg_tpP rfl (pgs_consP (pg_nmP (i := 4) sc_edges_of.nd rfl) (pgs_consP (pg_nmP (i := 5) sc_edges_of.nd rfl) pgs_nilP))) (s_seq (s_if (t_cmp (op_neD (hu64 hr)) fol_ne (e_var 5) (e_un un_neg fol_neg e_int)) (s_seq (s_expr (e_app (e_var 1) (a_cons (e_tup (a_cons (e_var 5) (a_cons (e_var 2) (a_cons e_str (a_cons (e_var 4) a_nil))))) a_nil))) s_nil) s_nil) (s_seq (s_set 6 (e_callH c_next_writer hr (takes_of rfl rfl rfl rfl) (a_cons (e_var 0) (a_cons (e_var 4) (a_cons (e_var 5) a_nil)))) sc_edges_of.nd) (s_seq (s_if (w_and (t_cmp op_notN fol_notN (e_var 6) e_non) (w_one .And (t_cmp (op_neD (hu64 hr)) fol_ne (e_var 6) (e_var 2)))).pt (s_seq (s_expr (e_app (e_var 1) (a_cons (e_tup (a_cons (e_var 2) (a_cons (e_var 6) (a_cons e_str (a_cons (e_var 4) a_nil))))) a_nil))) s_nil) s_nil) s_nil)))) s_nil))) (s_seq (s_ret (e_new (f_sorted (hu67 hr) T.b_sorted (a_cons (e_var 1) a_nil)))) s_nil)))
theorem sc_is_index : FnScope ["thing", "many"] ["thing", "many"] (defScope (topS 6)) := ⟨rfl, rfl, rfl, by decide +kernel, rfl, by decide +kernel, by decide +kernel⟩
theorem ok_is_index {f : Addr} {fd : FuncData} (F : Fun K "is_index" "is_index" (topS 6) f fd) (T : Txt K mg) (c_is_between : Has P w K mg base "is_between" 2 ["thing", "least", "most"] (spM K mg m_is_between)) : FnOk P w K mg base (L2.CX P w) 3 f fd ["thing", "many"] (spM K mg m_is_index) :=
  fn_ok F sc_is_index b_is_index fun cdv A outer s H E hr =>
    (s_seq (s_ret (e_callH c_is_between hr (takes_of rfl rfl rfl rfl) (a_cons (e_var 0) (a_cons e_int (a_cons (e_bin op_sub fol_sub (e_var 1) e_int) a_nil))))) s_nil)
theorem sc_moment_of : FnScope ["history", "index", "found", "moment"] ["history", "index"] (defScope (topS 25)) := ⟨rfl, rfl, rfl, by decide +kernel, rfl, by decide +kernel, by decide +kernel⟩
theorem ok_moment_of {f : Addr} {fd : FuncData} (F : Fun K "moment_of" "moment_of" (topS 25) f fd) (T : Txt K mg) (c_suits : Has P w K mg base "suits" 2 ["history", "index", "moment"] (spM K mg m_suits)) : FnOk P w K mg base (L2.CX P w) 3 f fd ["history", "index"] (spM K mg m_moment_of) :=
  fn_ok F sc_moment_of b_moment_of fun cdv A outer s H E hr =>
    (s_seq (s_setLc (own := [("moment", 3)]) 2 (.nm 3) (fun _ _ _ => L_read)  sc_moment_of.nd (i_range1 T.b_range (a_cons (e_bin op_add3 fol_add (e_var 1) e_int) a_nil)) (blkOk_by (by rfl)) (fun _ _ _ _ _ => (pg_nmP (i := 3) sc_moment_of.nd rfl)) (fun _ _ _ _ _ => (pts_one (t_tru (e_callH c_suits hr takes0 (a_cons (e_var 0) (a_cons (e_var 1) (a_cons (e_var 3) a_nil))))))) (fun _ _ _ _ _ => (e_var 3)) (by decide)) (s_seq (s_if (t_cmp (op_eqD (hu64 hr)) fol_eq (e_len T.b_len (a_cons (e_var 2) a_nil)) e_int) (s_seq (s_ret e_non) s_nil) s_nil) (s_seq (s_ret (e_ix (e_var 2) (e_un un_neg fol_neg e_int))) s_nil)))
theorem sc_are_reads : FnScope ["thing", "index", "history", "pair", "one", "other"] ["thing", "index", "history"] (defScope (topS 12)) := ⟨rfl, rfl, rfl, by decide +kernel, rfl, by decide +kernel, by decide +kernel⟩
theorem ok_are_reads {f : Addr} {fd : FuncData} (F : Fun K "are_reads" "are_reads" (topS 12) f fd) (T : Txt K mg) (c_is_read : Has P w K mg base "is_read" 3 ["thing", "history"] (spM K mg m_is_read)) : FnOk P w K mg base (L2.CX P w) 4 f fd ["thing", "index", "history"] (spM K mg m_are_reads) :=
  fn_ok F sc_are_reads b_are_reads fun cdv A outer s H E hr =>
    (s_seq (s_if (w_or (t_not (t_tru (e_isi .tup T.b_isinstance T.b_tuple (e_var 0)))) (w_one .Or (t_not (t_tru (e_all T.b_all (a_cons (e_L (f_lc (own := [("pair", 3)]) (.nm 3) sc_are_reads.nd (i_seq (e_var 0)) (blkOk_by (by rfl)) (fun _ _ _ _ _ => (pg_nmP (i := 3) sc_are_reads.nd rfl)) (fun _ _ _ _ _ => p_yes) (fun _ _ _ _ _ => (e_callH c_is_read hr takes0 (a_cons (e_var 3) (a_cons (e_var 2) a_nil)))) (by decide))) a_nil)))))).pt (s_seq (s_ret e_bl) s_nil) s_nil) (s_seq (s_if (t_tru (e_any T.b_any (a_cons (e_L (f_lc (own := [("pair", 3)]) (.nm 3) sc_are_reads.nd (i_seq (e_var 0)) (blkOk_by (by rfl)) (fun _ _ _ _ _ => (pg_nmP (i := 3) sc_are_reads.nd rfl)) (fun _ _ _ _ _ => p_yes) (fun _ _ _ _ _ => (e_cmp (op_eqD (hu64 hr)) fol_eq (e_ix (e_var 3) e_int) (e_var 1))) (by decide))) a_nil))) (s_seq (s_ret e_bl) s_nil) s_nil) (s_seq (s_ret (e_all T.b_all (a_cons (e_L (f_lc (own := [("one", 4), ("other", 5)]) (.tp [(.nm 4), (.nm 5)]) sc_are_reads.nd (i_zip T.b_zip (a_cons (e_var 0) (a_cons (e_sl (e_var 0) (o_some e_int) o_none) a_nil))) (blkOk_by (by rfl)) (fun _ _ _ _ _ => (pg_tpP rfl (pgs_consP (pg_nmP (i := 4) sc_are_reads.nd rfl) (pgs_consP (pg_nmP (i := 5) sc_are_reads.nd rfl) pgs_nilP)))) (fun _ _ _ _ _ => p_yes) (fun _ _ _ _ _ => (e_cmp (op_cLt (hu65 hr)) fol_cLt (e_ix (e_var 4) e_int) (e_ix (e_var 5) e_int))) (by decide))) a_nil))) s_nil)))
theorem sc_webs : FnScope ["history", "found", "one", "other", "_"] ["history"] (defScope (topS 19)) := ⟨rfl, rfl, rfl, by decide +kernel, rfl, by decide +kernel, by decide +kernel⟩
theorem ok_webs {f : Addr} {fd : FuncData} (F : Fun K "webs" "webs" (topS 19) f fd) (T : Txt K mg) (c_edges_of : Has P w K mg base "edges_of" 3 ["history"] (spL K mg m_edges_of)) : FnOk P w K mg base (L2.CX P w) 4 f fd ["history"] (spM K mg m_webs) :=
  fn_okK F sc_webs b_webs fun cdv A outer s H E hr =>
    (s_seq (s_setLc (own := [("_", 4)]) 1 (.nm 4) (fun _ _ _ => L_read)  sc_webs.nd (i_seq (e_var 0)) (blkOk_by (by rfl)) (fun _ _ _ _ _ => (pg_nmP (i := 4) sc_webs.nd rfl)) (fun _ _ _ _ _ => p_yes) (fun _ _ _ _ _ => e_dnew) (by decide)) (s_seq (s_for (p := (.tp [(.nm 2), (.nm 3), (.nm 4), (.nm 4)])) (passes_of rfl) (i_seq (e_L (f_callH c_edges_of hr (takes_of rfl rfl rfl rfl) (a_cons (e_var 0) a_nil)))) (pg_tpP rfl (pgs_consP (pg_nmP (i := 2) sc_webs.nd rfl) (pgs_consP (pg_nmP (i := 3) sc_webs.nd rfl) (pgs_consP (pg_nmP (i := 4) sc_webs.nd rfl) (pgs_consP (pg_nmP (i := 4) sc_webs.nd rfl) pgs_nilP))))) (s_seq (s_dput (hu1 hr) (e_ix (e_var 1) (e_var 2)) (e_var 3) e_bl) s_nil)) (s_seq (s_ret (e_var 1)) s_nil)))
theorem sc_is_history : FnScope ["thing", "deal", "index"] ["thing"] (defScope (topS 13)) := ⟨rfl, rfl, rfl, by decide +kernel, rfl, by decide +kernel, by decide +kernel⟩
theorem ok_is_history {f : Addr} {fd : FuncData} (F : Fun K "is_history" "is_history" (topS 13) f fd) (T : Txt K mg) (c_are_reads : Has P w K mg base "are_reads" 4 ["thing", "index", "history"] (spM K mg m_are_reads)) (c_are_writes : Has P w K mg base "are_writes" 3 ["thing"] (spM K mg m_are_writes)) : FnOk P w K mg base (L2.CX P w) 5 f fd ["thing"] (spM K mg m_is_history) :=
  fn_ok F sc_is_history b_is_history fun cdv A outer s H E hr =>
    (s_seq (s_if (w_or (t_not (t_tru (e_isiC [] .tup T.b_isinstance T.b_tuple (e_var 0) AllC.n))) (w_one .Or (t_cmp (op_cGt (hu65 hr)) fol_cGt (e_len T.b_len (a_cons (e_var 0) a_nil)) (e_globI T.g_MOST_DEALS)))).pt (s_seq (s_ret e_bl) s_nil) s_nil) (s_seq (s_if (t_not (t_tru (e_all T.b_all (a_cons (e_L (f_lc (own := [("deal", 1)]) (.nm 1) sc_is_history.nd (i_seq (e_var 0)) (blkOk_by (by rfl)) (fun _ _ _ _ _ => (pg_nmP (i := 1) sc_is_history.nd rfl)) (fun _ _ _ _ _ => p_yes) (fun _ _ _ _ _ => (e_and (e_isi .tup T.b_isinstance T.b_tuple (e_var 1)) (e_and (e_cmp (op_eqD (hu64 hr)) fol_eq (e_len T.b_len (a_cons (e_var 1) a_nil)) e_int) (e_one (e_callH c_are_writes hr takes0 (a_cons (e_ix (e_var 1) e_int) a_nil)))))) (by decide))) a_nil)))) (s_seq (s_ret e_bl) s_nil) s_nil) (s_seq (s_ret (e_all T.b_all (a_cons (e_L (f_lc (own := [("index", 2), ("deal", 1)]) (.tp [(.nm 2), (.nm 1)]) sc_is_history.nd (i_enum T.b_enumerate (a_cons (e_var 0) a_nil)) (blkOk_by (by rfl)) (fun _ _ _ _ _ => (pg_tpP rfl (pgs_consP (pg_nmP (i := 2) sc_is_history.nd rfl) (pgs_consP (pg_nmP (i := 1) sc_is_history.nd rfl) pgs_nilP)))) (fun _ _ _ _ _ => p_yes) (fun _ _ _ _ _ => (e_callH c_are_reads hr takes0 (a_cons (e_ix (e_var 1) e_int) (a_cons (e_var 2) (a_cons (e_var 0) a_nil))))) (by decide))) a_nil))) s_nil)))
theorem sc_order_of : FnScope ["history", "web", "left", "found", "ready", "deal", "other"] ["history"] (defScope (topS 20)) := ⟨rfl, rfl, rfl, by decide +kernel, rfl, by decide +kernel, by decide +kernel⟩
theorem ok_order_of {f : Addr} {fd : FuncData} (F : Fun K "order_of" "order_of" (topS 20) f fd) (T : Txt K mg) (c_webs : Has P w K mg base "webs" 4 ["history"] (spM K mg m_webs)) : FnOk P w K mg base (L2.CX P w) 5 f fd ["history"] (spM K mg m_order_of) :=
  fn_ok F sc_order_of b_order_of fun cdv A outer s H E hr =>
    (s_seq (s_set 1 (e_callH c_webs hr (takes_of rfl rfl rfl rfl) (a_cons (e_var 0) a_nil)) sc_order_of.nd) (s_seq (s_set 2 (e_new (f_listRg1 rfl T.b_list T.b_range (e_len T.b_len (a_cons (e_var 0) a_nil)))) sc_order_of.nd) (s_seq (s_set 3 (e_new (f_lst a_nil)) sc_order_of.nd) (s_seq (s_while (passes_of rfl) (t_tru e_bl) (s_seq (s_setLc (own := [("deal", 5)]) 4 (.nm 5) (fun _ _ _ => L_read)  sc_order_of.nd (i_seq (e_var 2)) (blkOk_by (by rfl)) (fun _ _ _ _ _ => (pg_nmP (i := 5) sc_order_of.nd rfl)) (fun _ _ _ _ _ => (pts_one (t_not (t_tru (e_any T.b_any (a_cons (e_L (f_lc (own := [("other", 6)]) (.nm 6) sc_order_of.nd (i_seq (e_var 2)) (blkOk_by (by rfl)) (fun _ _ _ _ _ => (pg_nmP (i := 6) sc_order_of.nd rfl)) (fun _ _ _ _ _ => p_yes) (fun _ _ _ _ _ => (e_cmp (op_dIn (hu1 hr)) fol_dIn (e_var 5) (e_ix (e_var 1) (e_var 6)))) (by decide))) a_nil)))))) (fun _ _ _ _ _ => (e_var 5)) (by decide)) (s_seq (s_if (t_cmp (op_eqD (hu64 hr)) fol_eq (e_len T.b_len (a_cons (e_var 4) a_nil)) e_int) (s_seq (s_ret (e_tuple T.b_tuple (a_cons (e_var 3) a_nil))) s_nil) s_nil) (s_seq (s_expr (e_app (e_var 3) (a_cons (e_ix (e_var 4) e_int) a_nil))) (s_seq (s_expr (e_rem (takes_of rfl rfl rfl rfl) (e_var 2) (e_ix (e_var 4) e_int))) s_nil))))) s_nil))))
theorem sc_check_history : FnScope ["thing"] ["thing"] (defScope (topS 14)) := ⟨rfl, rfl, rfl, by decide +kernel, rfl, by decide +kernel, by decide +kernel⟩
theorem ok_check_history {f : Addr} {fd : FuncData} (F : Fun K "check_history" "check_history" (topS 14) f fd) (T : Txt K mg) (c_is_history : Has P w K mg base "is_history" 5 ["thing"] (spM K mg m_is_history)) : FnOk P w K mg base (L2.CX P w) 6 f fd ["thing"] (spM K mg m_check_history) :=
  fn_ok F sc_check_history b_check_history fun cdv A outer s H E hr =>
    (s_seq (s_if (t_not (t_tru (e_callH c_is_history hr (takes_of rfl rfl rfl rfl) (a_cons (e_var 0) a_nil)))) (s_seq (s_raise0 T.x_NoHistory (takes_of rfl rfl rfl rfl)) s_nil) s_nil) s_nil)
theorem sc_is_ring : FnScope ["history", "thing", "web", "deal", "at"] ["history", "thing"] (defScope (topS 23)) := ⟨rfl, rfl, rfl, by decide +kernel, rfl, by decide +kernel, by decide +kernel⟩
theorem ok_is_ring {f : Addr} {fd : FuncData} (F : Fun K "is_ring" "is_ring" (topS 23) f fd) (T : Txt K mg) (c_check_history : Has P w K mg base "check_history" 6 ["thing"] (spM K mg m_check_history)) (c_webs : Has P w K mg base "webs" 4 ["history"] (spM K mg m_webs)) (c_is_index : Has P w K mg base "is_index" 3 ["thing", "many"] (spM K mg m_is_index)) : FnOk P w K mg base (L2.CX P w) 7 f fd ["history", "thing"] (spM K mg m_is_ring) :=
  fn_ok F sc_is_ring b_is_ring fun cdv A outer s H E hr =>
    (s_seq (s_expr (e_callH c_check_history hr (takes_of rfl rfl rfl rfl) (a_cons (e_var 0) a_nil))) (s_seq (s_if (w_or (t_not (t_tru (e_isiC [] .tup T.b_isinstance T.b_tuple (e_var 1) AllC.n))) (w_or (t_cmp (op_cLt (hu65 hr)) fol_cLt (e_len T.b_len (a_cons (e_var 1) a_nil)) e_int) (w_one .Or (t_not (t_tru (e_all T.b_all (a_cons (e_L (f_lc (own := [("deal", 3)]) (.nm 3) sc_is_ring.nd (i_seq (e_var 1)) (blkOk_by (by rfl)) (fun _ _ _ _ _ => (pg_nmP (i := 3) sc_is_ring.nd rfl)) (fun _ _ _ _ _ => p_yes) (fun _ _ _ _ _ => (e_callH c_is_index hr takes0 (a_cons (e_var 3) (a_cons (e_len T.b_len (a_cons (e_var 0) a_nil)) a_nil)))) (by decide))) a_nil))))))).pt (s_seq (s_ret e_bl) s_nil) s_nil) (s_seq (s_set 2 (e_callH c_webs hr (takes_of rfl rfl rfl rfl) (a_cons (e_var 0) a_nil)) sc_is_ring.nd) (s_seq (s_if (t_cmp (op_cLt (hu65 hr)) fol_cLt (e_lenSet T.b_len T.b_set (a_cons (e_L (f_list T.b_list (a_cons (e_var 1) a_nil))) a_nil)) (e_len T.b_len (a_cons (e_var 1) a_nil))) (s_seq (s_ret e_bl) s_nil) s_nil) (s_seq (s_ret (e_all T.b_all (a_cons (e_L (f_lc (own := [("at", 4)]) (.nm 4) sc_is_ring.nd (i_range1 T.b_range (a_cons (e_len T.b_len (a_cons (e_var 1) a_nil)) a_nil)) (blkOk_by (by rfl)) (fun _ _ _ _ _ => (pg_nmP (i := 4) sc_is_ring.nd rfl)) (fun _ _ _ _ _ => p_yes) (fun _ _ _ _ _ => (e_cmp (op_dIn (hu1 hr)) fol_dIn (e_ix (e_var 1) (e_var 4)) (e_ix (e_var 2) (e_ix (e_var 1) (e_bin op_sub fol_sub (e_var 4) e_int))))) (by decide))) a_nil))) s_nil)))))
theorem sc_edges : FnScope ["history"] ["history"] (defScope (topS 18)) := ⟨rfl, rfl, rfl, by decide +kernel, rfl, by decide +kernel, by decide +kernel⟩
theorem ok_edges {f : Addr} {fd : FuncData} (F : Fun K "edges" "edges" (topS 18) f fd) (T : Txt K mg) (c_check_history : Has P w K mg base "check_history" 6 ["thing"] (spM K mg m_check_history)) (c_edges_of : Has P w K mg base "edges_of" 3 ["history"] (spL K mg m_edges_of)) : FnOk P w K mg base (L2.CX P w) 7 f fd ["history"] (spM K mg m_edges) :=
  fn_okK F sc_edges b_edges fun cdv A outer s H E hr =>
    (s_seq (s_expr (e_callH c_check_history hr (takes_of rfl rfl rfl rfl) (a_cons (e_var 0) a_nil))) (s_seq (s_ret (e_L (f_callH c_edges_of hr (takes_of rfl rfl rfl rfl) (a_cons (e_var 0) a_nil)))) s_nil))
theorem sc_one_order : FnScope ["history", "found"] ["history"] (defScope (topS 21)) := ⟨rfl, rfl, rfl, by decide +kernel, rfl, by decide +kernel, by decide +kernel⟩
theorem ok_one_order {f : Addr} {fd : FuncData} (F : Fun K "one_order" "one_order" (topS 21) f fd) (T : Txt K mg) (c_check_history : Has P w K mg base "check_history" 6 ["thing"] (spM K mg m_check_history)) (c_order_of : Has P w K mg base "order_of" 5 ["history"] (spM K mg m_order_of)) : FnOk P w K mg base (L2.CX P w) 7 f fd ["history"] (spM K mg m_one_order) :=
  fn_ok F sc_one_order b_one_order fun cdv A outer s H E hr =>
    (s_seq (s_expr (e_callH c_check_history hr (takes_of rfl rfl rfl rfl) (a_cons (e_var 0) a_nil))) (s_seq (s_set 1 (e_callH c_order_of hr (takes_of rfl rfl rfl rfl) (a_cons (e_var 0) a_nil)) sc_one_order.nd) (s_seq (s_if (t_cmp (op_cLt (hu65 hr)) fol_cLt (e_len T.b_len (a_cons (e_var 1) a_nil)) (e_len T.b_len (a_cons (e_var 0) a_nil))) (s_seq (s_ret e_non) s_nil) s_nil) (s_seq (s_ret (e_var 1)) s_nil))))
theorem sc_ring : FnScope ["history", "web", "done", "left", "row", "found", "deal"] ["history"] (defScope (topS 22)) := ⟨rfl, rfl, rfl, by decide +kernel, rfl, by decide +kernel, by decide +kernel⟩
theorem ok_ring {f : Addr} {fd : FuncData} (F : Fun K "ring" "ring" (topS 22) f fd) (T : Txt K mg) (c_check_history : Has P w K mg base "check_history" 6 ["thing"] (spM K mg m_check_history)) (c_webs : Has P w K mg base "webs" 4 ["history"] (spM K mg m_webs)) (c_order_of : Has P w K mg base "order_of" 5 ["history"] (spM K mg m_order_of)) : FnOk P w K mg base (L2.CX P w) 7 f fd ["history"] (spM K mg m_ring) :=
  fn_ok F sc_ring b_ring fun cdv A outer s H E hr =>
    (s_seq (s_expr (e_callH c_check_history hr (takes_of rfl rfl rfl rfl) (a_cons (e_var 0) a_nil))) (s_seq (s_set 1 (e_callH c_webs hr (takes_of rfl rfl rfl rfl) (a_cons (e_var 0) a_nil)) sc_ring.nd) (s_seq (s_set 2 (e_callH c_order_of hr (takes_of rfl rfl rfl rfl) (a_cons (e_var 0) a_nil)) sc_ring.nd) (s_seq (s_setLc (own := [("deal", 6)]) 3 (.nm 6) (fun _ _ _ => L_read)  sc_ring.nd (i_range1 T.b_range (a_cons (e_len T.b_len (a_cons (e_var 0) a_nil)) a_nil)) (blkOk_by (by rfl)) (fun _ _ _ _ _ => (pg_nmP (i := 6) sc_ring.nd rfl)) (fun _ _ _ _ _ => (pts_one (t_cmp (op_notInA (hu65 hr)) fol_notIn (e_var 6) (e_var 2)))) (fun _ _ _ _ _ => (e_var 6)) (by decide)) (s_seq (s_if (t_cmp (op_eqD (hu64 hr)) fol_eq (e_len T.b_len (a_cons (e_var 3) a_nil)) e_int) (s_seq (s_ret e_non) s_nil) s_nil) (s_seq (s_set 4 (e_new (f_lst (a_cons (e_ix (e_var 3) e_int) a_nil))) sc_ring.nd) (s_seq (s_while (passes_of rfl) (t_cmp (op_notInA (hu65 hr)) fol_notIn (e_ix (e_var 4) (e_un un_neg fol_neg e_int)) (e_sl (e_var 4) o_none (o_some (e_un un_neg fol_neg e_int)))) (s_seq (s_expr (e_app (e_var 4) (a_cons (e_ix (e_L (f_lc (own := [("deal", 6)]) (.nm 6) sc_ring.nd (i_seq (e_var 3)) (blkOk_by (by rfl)) (fun _ _ _ _ _ => (pg_nmP (i := 6) sc_ring.nd rfl)) (fun _ _ _ _ _ => (pts_one (t_cmp (op_dIn (hu1 hr)) fol_dIn (e_ix (e_var 4) (e_un un_neg fol_neg e_int)) (e_ix (e_var 1) (e_var 6))))) (fun _ _ _ _ _ => (e_var 6)) (by decide))) e_int) a_nil))) s_nil)) (s_seq (s_set 5 (e_sl (e_var 4) (o_some (e_idxD (hu65 hr) (e_var 4) (a_cons (e_ix (e_var 4) (e_un un_neg fol_neg e_int)) a_nil))) (o_some (e_un un_neg fol_neg e_int))) sc_ring.nd) (s_seq (s_ret (e_tuple T.b_tuple (a_cons (e_rev (e_var 5)) a_nil))) s_nil)))))))))
theorem sc_moments : FnScope ["history", "index"] ["history"] (defScope (topS 26)) := ⟨rfl, rfl, rfl, by decide +kernel, rfl, by decide +kernel, by decide +kernel⟩
theorem ok_moments {f : Addr} {fd : FuncData} (F : Fun K "moments" "moments" (topS 26) f fd) (T : Txt K mg) (c_check_history : Has P w K mg base "check_history" 6 ["thing"] (spM K mg m_check_history)) (c_moment_of : Has P w K mg base "moment_of" 3 ["history", "index"] (spM K mg m_moment_of)) : FnOk P w K mg base (L2.CX P w) 7 f fd ["history"] (spM K mg m_moments) :=
  fn_ok F sc_moments b_moments fun cdv A outer s H E hr =>
    (s_seq (s_expr (e_callH c_check_history hr (takes_of rfl rfl rfl rfl) (a_cons (e_var 0) a_nil))) (s_seq (s_ret (e_tuple T.b_tuple (a_cons (e_L (f_lc (own := [("index", 1)]) (.nm 1) sc_moments.nd (i_range1 T.b_range (a_cons (e_len T.b_len (a_cons (e_var 0) a_nil)) a_nil)) (blkOk_by (by rfl)) (fun _ _ _ _ _ => (pg_nmP (i := 1) sc_moments.nd rfl)) (fun _ _ _ _ _ => p_yes) (fun _ _ _ _ _ => (e_callH c_moment_of hr takes0 (a_cons (e_var 0) (a_cons (e_var 1) a_nil)))) (by decide))) a_nil))) s_nil))
theorem sc_by_snapshots : FnScope ["history", "index"] ["history"] (defScope (topS 27)) := ⟨rfl, rfl, rfl, by decide +kernel, rfl, by decide +kernel, by decide +kernel⟩
theorem ok_by_snapshots {f : Addr} {fd : FuncData} (F : Fun K "by_snapshots" "by_snapshots" (topS 27) f fd) (T : Txt K mg) (c_check_history : Has P w K mg base "check_history" 6 ["thing"] (spM K mg m_check_history)) (c_moment_of : Has P w K mg base "moment_of" 3 ["history", "index"] (spM K mg m_moment_of)) : FnOk P w K mg base (L2.CX P w) 7 f fd ["history"] (spM K mg m_by_snapshots) :=
  fn_ok F sc_by_snapshots b_by_snapshots fun cdv A outer s H E hr =>
    (s_seq (s_expr (e_callH c_check_history hr (takes_of rfl rfl rfl rfl) (a_cons (e_var 0) a_nil))) (s_seq (s_ret (e_cmp (op_notInA (hu65 hr)) fol_notIn e_non (e_L (f_lc (own := [("index", 1)]) (.nm 1) sc_by_snapshots.nd (i_range1 T.b_range (a_cons (e_len T.b_len (a_cons (e_var 0) a_nil)) a_nil)) (blkOk_by (by rfl)) (fun _ _ _ _ _ => (pg_nmP (i := 1) sc_by_snapshots.nd rfl)) (fun _ _ _ _ _ => p_yes) (fun _ _ _ _ _ => (e_callH c_moment_of hr takes0 (a_cons (e_var 0) (a_cons (e_var 1) a_nil)))) (by decide))))) s_nil))
theorem sc__law_word : FnScope ["which", "thing", "other", "word", "e"] ["which", "thing", "other"] (defScope (topS 39)) := ⟨rfl, rfl, rfl, by decide +kernel, rfl, by decide +kernel, by decide +kernel⟩
theorem ok__law_word {f : Addr} {fd : FuncData} (F : Fun K "_law_word" "_law_word" (topS 39) f fd) (T : Txt K mg) (c_is_ring : Has P w K mg base "is_ring" 7 ["history", "thing"] (spM K mg m_is_ring)) (c_edges : Has P w K mg base "edges" 7 ["history"] (spM K mg m_edges)) (c_one_order : Has P w K mg base "one_order" 7 ["history"] (spM K mg m_one_order)) (c_ring : Has P w K mg base "ring" 7 ["history"] (spM K mg m_ring)) (c_moments : Has P w K mg base "moments" 7 ["history"] (spM K mg m_moments)) (c_by_snapshots : Has P w K mg base "by_snapshots" 7 ["history"] (spM K mg m_by_snapshots)) : FnOk P w K mg base (L2.CX P w) 8 f fd ["which", "thing", "other"] (spM K mg m__law_word) :=
  fn_ok F sc__law_word b__law_word fun cdv A outer s H E hr =>
    (s_seq (s_set 3 e_str sc__law_word.nd) (s_seq (s_try 4 sc__law_word.nd T.n_SectorError (takes_of rfl rfl rfl rfl) (fun W pn xe tkb hpb => (s_seq (s_if (t_cmp (op_eqD (hu64 hr)) fol_eq (e_var 0) e_int) (s_seq (s_expr (e_callH c_is_ring hr tkb (a_cons (e_var 1) (a_cons (e_var 2) a_nil)))) s_nil) (s_seq (s_expr (e_pickL (picks_cons c_edges (picks_cons c_one_order (picks_cons c_ring (picks_cons c_moments (picks_cons c_by_snapshots picks_nil))))) hr tkb (e_var 0) (a_cons (e_var 1) a_nil))) s_nil)) s_nil)) (fun cl hcl => (ty_some (T.k_SectorError_NoHistory.ex cl hcl) ⟨⟨fun a G h hl => by simp [mIsE, List.getElem?_set, List.set_set, set_swap, hl]⟩, fun D0 hD a oe pn hz hf => (s_seq (s_set 3 (e_if (w_and (t_tru (e_isE 4 T.i_NoHistory_NoHistory hD hz hf rfl T.b_isinstance)) (w_one .And (t_tru (e_isEB 4 T.ib_NoHistory_ValueError hD hz hf rfl T.b_isinstance T.b_ValueError)))).pt e_str e_str) sc__law_word.nd) s_nil)⟩ ty_nil))) (s_seq (s_ret (e_var 3)) s_nil)))
theorem sc_law : FnScope ["script", "pool", "turn", "told", "thing", "due", "other", "shown", "which"] ["script"] (defScope (topS 40)) := ⟨rfl, rfl, rfl, by decide +kernel, rfl, by decide +kernel, by decide +kernel⟩
theorem ok_law {f : Addr} {fd : FuncData} (F : Fun K "law" "law" (topS 40) f fd) (T : Txt K mg) (c__law_pool : Has P w K mg base "_law_pool" 1 ["script"] (spL K mg m__law_pool)) (c__law_history : Has P w K mg base "_law_history" 3 ["pool", "most"] (spM K mg m__law_history)) (c__law_bent : Has P w K mg base "_law_bent" 3 ["pool", "told"] (spM K mg m__law_bent)) (c__law_any : Has P w K mg base "_law_any" 2 ["pool", "things"] (spM K mg m__law_any)) (c__law_is_history : Has P w K mg base "_law_is_history" 3 ["thing"] (spM K mg m__law_is_history)) (c__law_deep : Has P w K mg base "_law_deep" 1 ["thing", "many"] (spM K mg m__law_deep)) (c__law_word : Has P w K mg base "_law_word" 8 ["which", "thing", "other"] (spM K mg m__law_word)) : LawAt P w K mg base (L2.CX P w) f fd ["script"] (spM K mg m_law) :=
  law_ok (k := 8) F sc_law ⟨rfl, by decide, by decide⟩ b_law fun cdv s H E hr =>
    (s_seq (s_set 1 (e_new (f_callH c__law_pool hr (takes_of rfl rfl rfl rfl) (a_cons (e_var 0) a_nil))) sc_law.nd) (s_seq (s_for (p := (.nm 2)) (passes_of rfl) (i_range1 T.b_range (a_cons e_int a_nil)) (pg_nmP (i := 2) sc_law.nd rfl) (s_seq (s_set 3 (e_callH c__law_history hr (takes_of rfl rfl rfl rfl) (a_cons (e_var 1) (a_cons e_int a_nil))) sc_law.nd) (s_seq (s_set 4 (e_callH c__law_bent hr (takes_of rfl rfl rfl rfl) (a_cons (e_var 1) (a_cons (e_var 3) a_nil))) sc_law.nd) (s_seq (s_set 5 (e_if (t_tru (e_callH c__law_is_history hr (takes_of rfl rfl rfl rfl) (a_cons (e_var 4) a_nil))) e_str e_str) sc_law.nd) (s_seq (s_set 6 (e_callH c__law_any hr (takes_of rfl rfl rfl rfl) (a_cons (e_var 1) (a_cons (e_L (f_lst (a_cons e_non (a_cons (e_tup (a_cons e_int (a_cons e_int a_nil))) (a_cons (e_tup (a_cons e_int (a_cons e_int a_nil))) (a_cons (e_L (f_lst (a_cons e_int (a_cons e_int a_nil)))) (a_cons (e_var 4) (a_cons (e_callH c__law_deep hr (takes_of rfl rfl rfl rfl) (a_cons e_int (a_cons e_int a_nil))) a_nil)))))))) a_nil))) sc_law.nd) (s_seq (s_set 7 (e_reprT T.sm rfl (hu65 hr) T.b_repr (a_cons (e_tup (a_cons (e_var 4) (a_cons (e_var 6) a_nil))) a_nil)) sc_law.nd) (s_seq (s_for (p := (.nm 8)) (passes_of rfl) (i_range1 T.b_range (a_cons e_int a_nil)) (pg_nmP (i := 8) sc_law.nd rfl) (s_seq (s_if (w_or (t_cmp (op_neD (hu64 hr)) fol_ne (e_callH c__law_word hr (takes_of rfl rfl rfl rfl) (a_cons (e_var 8) (a_cons (e_var 4) (a_cons (e_var 6) a_nil)))) (e_var 5)) (w_one .Or (t_cmp (op_neD (hu64 hr)) fol_ne (e_callH c__law_word hr (takes_of rfl rfl rfl rfl) (a_cons (e_var 8) (a_cons (e_var 3) (a_cons (e_var 6) a_nil)))) e_str))).pt (s_seq (s_ret e_bl) s_nil) s_nil) s_nil)) (s_seq (s_if (t_cmp op_neS fol_neS (e_reprT T.sm rfl (hu65 hr) T.b_repr (a_cons (e_tup (a_cons (e_var 4) (a_cons (e_var 6) a_nil))) a_nil)) (e_var 7)) (s_seq (s_ret e_bl) s_nil) s_nil) s_nil)))))))) (s_seq (s_ret e_bl) s_nil)))
end
end My
namespace My
open PySem PySem.Spec PyProof.Rows L2 AB
theorem us_0 {us : List Value} (h : us.length = 0) : us = [] := match us, h with | [], _ => rfl
theorem us_1 {us : List Value} (h : us.length = 1) : ∃ a0, us = [a0] := match us, h with | [a0], _ => ⟨a0, rfl⟩
theorem us_2 {us : List Value} (h : us.length = 2) : ∃ a0 a1, us = [a0, a1] := match us, h with | [a0, a1], _ => ⟨a0, a1, rfl⟩
theorem us_3 {us : List Value} (h : us.length = 3) : ∃ a0 a1 a2, us = [a0, a1, a2] := match us, h with | [a0, a1, a2], _ => ⟨a0, a1, a2, rfl⟩
theorem us_4 {us : List Value} (h : us.length = 4) : ∃ a0 a1 a2 a3, us = [a0, a1, a2, a3] := match us, h with | [a0, a1, a2, a3], _ => ⟨a0, a1, a2, a3, rfl⟩
theorem us_5 {us : List Value} (h : us.length = 5) : ∃ a0 a1 a2 a3 a4, us = [a0, a1, a2, a3, a4] := match us, h with | [a0, a1, a2, a3, a4], _ => ⟨a0, a1, a2, a3, a4, rfl⟩
theorem us_6 {us : List Value} (h : us.length = 6) : ∃ a0 a1 a2 a3 a4 a5, us = [a0, a1, a2, a3, a4, a5] := match us, h with | [a0, a1, a2, a3, a4, a5], _ => ⟨a0, a1, a2, a3, a4, a5, rfl⟩
theorem us_7 {us : List Value} (h : us.length = 7) : ∃ a0 a1 a2 a3 a4 a5 a6, us = [a0, a1, a2, a3, a4, a5, a6] := match us, h with | [a0, a1, a2, a3, a4, a5, a6], _ => ⟨a0, a1, a2, a3, a4, a5, a6, rfl⟩
theorem us_8 {us : List Value} (h : us.length = 8) : ∃ a0 a1 a2 a3 a4 a5 a6 a7, us = [a0, a1, a2, a3, a4, a5, a6, a7] := match us, h with | [a0, a1, a2, a3, a4, a5, a6, a7], _ => ⟨a0, a1, a2, a3, a4, a5, a6, a7, rfl⟩
theorem all_mk {l : PySem.W.OpenLaw} {w : World} {K : PySem.W.Frag} {h : Heap} {mg : Str → Option Value} {fa : Addr} (X : K.In h) (G : h.Ns mainGlobals mg) (hfa : mg "law" = some (.ref fa))
    (ht : ∀ ns : List Int, ns.length ≤ 63 → ∃ h, m_law [.rol (ns.map D.int)] [] = .ok (.bl true) h)
    {f0 : Addr} {od0 an0 : Option Addr} {sl0 : Array (Option Value)} {oc0 kV0 dc0 pm0 cd0 ct0 : Value}
    {f1 : Addr} {od1 an1 : Option Addr} {sl1 : Array (Option Value)} {oc1 kV1 dc1 pm1 cd1 ct1 : Value}
    {f2 : Addr} {od2 an2 : Option Addr} {sl2 : Array (Option Value)} {oc2 kV2 dc2 pm2 cd2 ct2 : Value}
    {f3 : Addr} {od3 an3 : Option Addr} {sl3 : Array (Option Value)} {oc3 kV3 dc3 pm3 cd3 ct3 : Value}
    {f4 : Addr} {od4 an4 : Option Addr} {sl4 : Array (Option Value)} {oc4 kV4 dc4 pm4 cd4 ct4 : Value}
    {f5 : Addr} {od5 an5 : Option Addr} {sl5 : Array (Option Value)} {oc5 kV5 dc5 pm5 cd5 ct5 : Value}
    {f6 : Addr} {od6 an6 : Option Addr} {sl6 : Array (Option Value)} {oc6 kV6 dc6 pm6 cd6 ct6 : Value}
    {f7 : Addr} {od7 an7 : Option Addr} {sl7 : Array (Option Value)} {oc7 kV7 dc7 pm7 cd7 ct7 : Value}
    {f8 : Addr} {od8 an8 : Option Addr} {sl8 : Array (Option Value)} {oc8 kV8 dc8 pm8 cd8 ct8 : Value}
    {f9 : Addr} {od9 an9 : Option Addr} {sl9 : Array (Option Value)} {oc9 kV9 dc9 pm9 cd9 ct9 : Value}
    {f10 : Addr} {od10 an10 : Option Addr} {sl10 : Array (Option Value)} {oc10 kV10 dc10 pm10 cd10 ct10 : Value}
    {f11 : Addr} {od11 an11 : Option Addr} {sl11 : Array (Option Value)} {oc11 kV11 dc11 pm11 cd11 ct11 : Value}
    {f12 : Addr} {od12 an12 : Option Addr} {sl12 : Array (Option Value)} {oc12 kV12 dc12 pm12 cd12 ct12 : Value}
    {f13 : Addr} {od13 an13 : Option Addr} {sl13 : Array (Option Value)} {oc13 kV13 dc13 pm13 cd13 ct13 : Value}
    {f14 : Addr} {od14 an14 : Option Addr} {sl14 : Array (Option Value)} {oc14 kV14 dc14 pm14 cd14 ct14 : Value}
    {f15 : Addr} {od15 an15 : Option Addr} {sl15 : Array (Option Value)} {oc15 kV15 dc15 pm15 cd15 ct15 : Value}
    {f16 : Addr} {od16 an16 : Option Addr} {sl16 : Array (Option Value)} {oc16 kV16 dc16 pm16 cd16 ct16 : Value}
    {f17 : Addr} {od17 an17 : Option Addr} {sl17 : Array (Option Value)} {oc17 kV17 dc17 pm17 cd17 ct17 : Value}
    {f18 : Addr} {od18 an18 : Option Addr} {sl18 : Array (Option Value)} {oc18 kV18 dc18 pm18 cd18 ct18 : Value}
    {f19 : Addr} {od19 an19 : Option Addr} {sl19 : Array (Option Value)} {oc19 kV19 dc19 pm19 cd19 ct19 : Value}
    {f20 : Addr} {od20 an20 : Option Addr} {sl20 : Array (Option Value)} {oc20 kV20 dc20 pm20 cd20 ct20 : Value}
    {f21 : Addr} {od21 an21 : Option Addr} {sl21 : Array (Option Value)} {oc21 kV21 dc21 pm21 cd21 ct21 : Value}
    {f22 : Addr} {od22 an22 : Option Addr} {sl22 : Array (Option Value)} {oc22 kV22 dc22 pm22 cd22 ct22 : Value}
    {f23 : Addr} {od23 an23 : Option Addr} {sl23 : Array (Option Value)} {oc23 kV23 dc23 pm23 cd23 ct23 : Value}
    {f24 : Addr} {od24 an24 : Option Addr} {sl24 : Array (Option Value)} {oc24 kV24 dc24 pm24 cd24 ct24 : Value}
    {f25 : Addr} {od25 an25 : Option Addr} {sl25 : Array (Option Value)} {oc25 kV25 dc25 pm25 cd25 ct25 : Value}
    {f26 : Addr} {od26 an26 : Option Addr} {sl26 : Array (Option Value)} {oc26 kV26 dc26 pm26 cd26 ct26 : Value}
    {f27 : Addr} {od27 an27 : Option Addr} {sl27 : Array (Option Value)} {oc27 kV27 dc27 pm27 cd27 ct27 : Value}
    {f28 : Addr} {od28 an28 : Option Addr} {sl28 : Array (Option Value)} {oc28 kV28 dc28 pm28 cd28 ct28 : Value}
    {f29 : Addr} {od29 an29 : Option Addr} {sl29 : Array (Option Value)} {oc29 kV29 dc29 pm29 cd29 ct29 : Value}
    {f30 : Addr} {od30 an30 : Option Addr} {sl30 : Array (Option Value)} {oc30 kV30 dc30 pm30 cd30 ct30 : Value}
    {f31 : Addr} {od31 an31 : Option Addr} {sl31 : Array (Option Value)} {oc31 kV31 dc31 pm31 cd31 ct31 : Value}
    {f32 : Addr} {od32 an32 : Option Addr} {sl32 : Array (Option Value)} {oc32 kV32 dc32 pm32 cd32 ct32 : Value}
    {t0 : Tok}
    {t1 : Tok}
    {C0 : Addr}
    {E0 : Addr} (eg0 : PySem.W.nsIn K mainGlobals "NoHistory" = some (some (.ref E0)))
    {E1 : Addr} (eg1 : PySem.W.nsIn K mainGlobals "SectorError" = some (some (.ref E1)))
    (ea0a : PySem.W.subIn K (.ref E0) (.type "BaseException") = some true) (ea0b : PySem.W.hasDictIn K E0 = true) (ea0c : PySem.W.typeIn K (.ref E0) = some (.type "type"))
    (ea1a : PySem.W.subIn K (.ref E1) (.type "BaseException") = some true) (ea1b : PySem.W.hasDictIn K E1 = true) (ea1c : PySem.W.typeIn K (.ref E1) = some (.type "type"))
    (es0 : PySem.W.subIn K (.ref E0) (.type "ValueError") = some true)
    (es1 : PySem.W.subIn K (.ref E0) (.ref E0) = some true)
    (es2 : PySem.W.subIn K (.ref E0) (.ref E1) = some true)
    (eq0a : PySem.W.findIn K (.ref E0) "__getattribute__" = some (some (.builtin "BaseException.__getattribute__"))) (eq0b : PySem.W.findIn K (.ref E0) "__getattr__" = some none) (eq0c : PySem.W.subIn K (.ref E0) (.type "BaseException") = some true) (eq0d : PySem.W.hasDictIn K E0 = true) (eq0e : PySem.W.findIn K (.ref E0) "__class__" = some (some (.builtin "object.__class__"))) (eq0f : PySem.W.mroIn K E0 (.type "object") = some true)
    (cs1 : PySem.W.specialIn K (.builtin "object.__class__") "__get__" = some (some (.builtin "getset_descriptor.__get__"))) (cs2 : PySem.W.takesIn K (.builtin "object.__class__") = some true)
    (a0 : PySem.W.nsIn K mainGlobals "_law_pool" = some (some (.ref f0)))
    (l0 : K.lookup f0 = some ⟨oc0, od0, .func (PySem.W.fnOf "_law_pool" "_law_pool" (defArgs (topS 29)) (defBody (topS 29)) (defScope (topS 29)) .none kV0 dc0 pm0 an0 cd0 ct0), sl0⟩) (c0 : PySem.W.codeIn K cd0 "_law_pool" = true) (k0 : PySem.W.keepIn K (.ref f0) = true)
    (a1 : PySem.W.nsIn K mainGlobals "_law_draw" = some (some (.ref f1)))
    (l1 : K.lookup f1 = some ⟨oc1, od1, .func (PySem.W.fnOf "_law_draw" "_law_draw" (defArgs (topS 30)) (defBody (topS 30)) (defScope (topS 30)) .none kV1 dc1 pm1 an1 cd1 ct1), sl1⟩) (c1 : PySem.W.codeIn K cd1 "_law_draw" = true) (k1 : PySem.W.keepIn K (.ref f1) = true)
    (a2 : PySem.W.nsIn K mainGlobals "_law_deep" = some (some (.ref f2)))
    (l2 : K.lookup f2 = some ⟨oc2, od2, .func (PySem.W.fnOf "_law_deep" "_law_deep" (defArgs (topS 33)) (defBody (topS 33)) (defScope (topS 33)) .none kV2 dc2 pm2 an2 cd2 ct2), sl2⟩) (c2 : PySem.W.codeIn K cd2 "_law_deep" = true) (k2 : PySem.W.keepIn K (.ref f2) = true)
    (a3 : PySem.W.nsIn K mainGlobals "_law_is_int" = some (some (.ref f3)))
    (l3 : K.lookup f3 = some ⟨oc3, od3, .func (PySem.W.fnOf "_law_is_int" "_law_is_int" (defArgs (topS 32)) (defBody (topS 32)) (defScope (topS 32)) .none kV3 dc3 pm3 an3 cd3 ct3), sl3⟩) (c3 : PySem.W.codeIn K cd3 "_law_is_int" = true) (k3 : PySem.W.keepIn K (.ref f3) = true)
    (a4 : PySem.W.nsIn K mainGlobals "is_integer" = some (some (.ref f4)))
    (l4 : K.lookup f4 = some ⟨oc4, od4, .func (PySem.W.fnOf "is_integer" "is_integer" (defArgs (topS 4)) (defBody (topS 4)) (defScope (topS 4)) .none kV4 dc4 pm4 an4 cd4 ct4), sl4⟩) (c4 : PySem.W.codeIn K cd4 "is_integer" = true) (k4 : PySem.W.keepIn K (.ref f4) = true)
    (a5 : PySem.W.nsIn K mainGlobals "writers" = some (some (.ref f5)))
    (l5 : K.lookup f5 = some ⟨oc5, od5, .func (PySem.W.fnOf "writers" "writers" (defArgs (topS 15)) (defBody (topS 15)) (defScope (topS 15)) .none kV5 dc5 pm5 an5 cd5 ct5), sl5⟩) (c5 : PySem.W.codeIn K cd5 "writers" = true) (k5 : PySem.W.keepIn K (.ref f5) = true)
    (a6 : PySem.W.nsIn K mainGlobals "_law_any" = some (some (.ref f6)))
    (l6 : K.lookup f6 = some ⟨oc6, od6, .func (PySem.W.fnOf "_law_any" "_law_any" (defArgs (topS 31)) (defBody (topS 31)) (defScope (topS 31)) .none kV6 dc6 pm6 an6 cd6 ct6), sl6⟩) (c6 : PySem.W.codeIn K cd6 "_law_any" = true) (k6 : PySem.W.keepIn K (.ref f6) = true)
    (a7 : PySem.W.nsIn K mainGlobals "_law_is_reads" = some (some (.ref f7)))
    (l7 : K.lookup f7 = some ⟨oc7, od7, .func (PySem.W.fnOf "_law_is_reads" "_law_is_reads" (defArgs (topS 35)) (defBody (topS 35)) (defScope (topS 35)) .none kV7 dc7 pm7 an7 cd7 ct7), sl7⟩) (c7 : PySem.W.codeIn K cd7 "_law_is_reads" = true) (k7 : PySem.W.keepIn K (.ref f7) = true)
    (a8 : PySem.W.nsIn K mainGlobals "_law_is_keys" = some (some (.ref f8)))
    (l8 : K.lookup f8 = some ⟨oc8, od8, .func (PySem.W.fnOf "_law_is_keys" "_law_is_keys" (defArgs (topS 36)) (defBody (topS 36)) (defScope (topS 36)) .none kV8 dc8 pm8 an8 cd8 ct8), sl8⟩) (c8 : PySem.W.codeIn K cd8 "_law_is_keys" = true) (k8 : PySem.W.keepIn K (.ref f8) = true)
    (a9 : PySem.W.nsIn K mainGlobals "is_between" = some (some (.ref f9)))
    (l9 : K.lookup f9 = some ⟨oc9, od9, .func (PySem.W.fnOf "is_between" "is_between" (defArgs (topS 5)) (defBody (topS 5)) (defScope (topS 5)) .none kV9 dc9 pm9 an9 cd9 ct9), sl9⟩) (c9 : PySem.W.codeIn K cd9 "is_between" = true) (k9 : PySem.W.keepIn K (.ref f9) = true)
    (a10 : PySem.W.nsIn K mainGlobals "next_writer" = some (some (.ref f10)))
    (l10 : K.lookup f10 = some ⟨oc10, od10, .func (PySem.W.fnOf "next_writer" "next_writer" (defArgs (topS 16)) (defBody (topS 16)) (defScope (topS 16)) .none kV10 dc10 pm10 an10 cd10 ct10), sl10⟩) (c10 : PySem.W.codeIn K cd10 "next_writer" = true) (k10 : PySem.W.keepIn K (.ref f10) = true)
    (a11 : PySem.W.nsIn K mainGlobals "suits" = some (some (.ref f11)))
    (l11 : K.lookup f11 = some ⟨oc11, od11, .func (PySem.W.fnOf "suits" "suits" (defArgs (topS 24)) (defBody (topS 24)) (defScope (topS 24)) .none kV11 dc11 pm11 an11 cd11 ct11), sl11⟩) (c11 : PySem.W.codeIn K cd11 "suits" = true) (k11 : PySem.W.keepIn K (.ref f11) = true)
    (a12 : PySem.W.nsIn K mainGlobals "_law_history" = some (some (.ref f12)))
    (l12 : K.lookup f12 = some ⟨oc12, od12, .func (PySem.W.fnOf "_law_history" "_law_history" (defArgs (topS 34)) (defBody (topS 34)) (defScope (topS 34)) .none kV12 dc12 pm12 an12 cd12 ct12), sl12⟩) (c12 : PySem.W.codeIn K cd12 "_law_history" = true) (k12 : PySem.W.keepIn K (.ref f12) = true)
    (a13 : PySem.W.nsIn K mainGlobals "_law_bent" = some (some (.ref f13)))
    (l13 : K.lookup f13 = some ⟨oc13, od13, .func (PySem.W.fnOf "_law_bent" "_law_bent" (defArgs (topS 38)) (defBody (topS 38)) (defScope (topS 38)) .none kV13 dc13 pm13 an13 cd13 ct13), sl13⟩) (c13 : PySem.W.codeIn K cd13 "_law_bent" = true) (k13 : PySem.W.keepIn K (.ref f13) = true)
    (a14 : PySem.W.nsIn K mainGlobals "_law_is_history" = some (some (.ref f14)))
    (l14 : K.lookup f14 = some ⟨oc14, od14, .func (PySem.W.fnOf "_law_is_history" "_law_is_history" (defArgs (topS 37)) (defBody (topS 37)) (defScope (topS 37)) .none kV14 dc14 pm14 an14 cd14 ct14), sl14⟩) (c14 : PySem.W.codeIn K cd14 "_law_is_history" = true) (k14 : PySem.W.keepIn K (.ref f14) = true)
    (a15 : PySem.W.nsIn K mainGlobals "is_read" = some (some (.ref f15)))
    (l15 : K.lookup f15 = some ⟨oc15, od15, .func (PySem.W.fnOf "is_read" "is_read" (defArgs (topS 11)) (defBody (topS 11)) (defScope (topS 11)) .none kV15 dc15 pm15 an15 cd15 ct15), sl15⟩) (c15 : PySem.W.codeIn K cd15 "is_read" = true) (k15 : PySem.W.keepIn K (.ref f15) = true)
    (a16 : PySem.W.nsIn K mainGlobals "are_writes" = some (some (.ref f16)))
    (l16 : K.lookup f16 = some ⟨oc16, od16, .func (PySem.W.fnOf "are_writes" "are_writes" (defArgs (topS 10)) (defBody (topS 10)) (defScope (topS 10)) .none kV16 dc16 pm16 an16 cd16 ct16), sl16⟩) (c16 : PySem.W.codeIn K cd16 "are_writes" = true) (k16 : PySem.W.keepIn K (.ref f16) = true)
    (a17 : PySem.W.nsIn K mainGlobals "edges_of" = some (some (.ref f17)))
    (l17 : K.lookup f17 = some ⟨oc17, od17, .func (PySem.W.fnOf "edges_of" "edges_of" (defArgs (topS 17)) (defBody (topS 17)) (defScope (topS 17)) .none kV17 dc17 pm17 an17 cd17 ct17), sl17⟩) (c17 : PySem.W.codeIn K cd17 "edges_of" = true) (k17 : PySem.W.keepIn K (.ref f17) = true)
    (a18 : PySem.W.nsIn K mainGlobals "is_index" = some (some (.ref f18)))
    (l18 : K.lookup f18 = some ⟨oc18, od18, .func (PySem.W.fnOf "is_index" "is_index" (defArgs (topS 6)) (defBody (topS 6)) (defScope (topS 6)) .none kV18 dc18 pm18 an18 cd18 ct18), sl18⟩) (c18 : PySem.W.codeIn K cd18 "is_index" = true) (k18 : PySem.W.keepIn K (.ref f18) = true)
    (a19 : PySem.W.nsIn K mainGlobals "moment_of" = some (some (.ref f19)))
    (l19 : K.lookup f19 = some ⟨oc19, od19, .func (PySem.W.fnOf "moment_of" "moment_of" (defArgs (topS 25)) (defBody (topS 25)) (defScope (topS 25)) .none kV19 dc19 pm19 an19 cd19 ct19), sl19⟩) (c19 : PySem.W.codeIn K cd19 "moment_of" = true) (k19 : PySem.W.keepIn K (.ref f19) = true)
    (a20 : PySem.W.nsIn K mainGlobals "are_reads" = some (some (.ref f20)))
    (l20 : K.lookup f20 = some ⟨oc20, od20, .func (PySem.W.fnOf "are_reads" "are_reads" (defArgs (topS 12)) (defBody (topS 12)) (defScope (topS 12)) .none kV20 dc20 pm20 an20 cd20 ct20), sl20⟩) (c20 : PySem.W.codeIn K cd20 "are_reads" = true) (k20 : PySem.W.keepIn K (.ref f20) = true)
    (a21 : PySem.W.nsIn K mainGlobals "webs" = some (some (.ref f21)))
    (l21 : K.lookup f21 = some ⟨oc21, od21, .func (PySem.W.fnOf "webs" "webs" (defArgs (topS 19)) (defBody (topS 19)) (defScope (topS 19)) .none kV21 dc21 pm21 an21 cd21 ct21), sl21⟩) (c21 : PySem.W.codeIn K cd21 "webs" = true) (k21 : PySem.W.keepIn K (.ref f21) = true)
    (a22 : PySem.W.nsIn K mainGlobals "is_history" = some (some (.ref f22)))
    (l22 : K.lookup f22 = some ⟨oc22, od22, .func (PySem.W.fnOf "is_history" "is_history" (defArgs (topS 13)) (defBody (topS 13)) (defScope (topS 13)) .none kV22 dc22 pm22 an22 cd22 ct22), sl22⟩) (c22 : PySem.W.codeIn K cd22 "is_history" = true) (k22 : PySem.W.keepIn K (.ref f22) = true)
    (a23 : PySem.W.nsIn K mainGlobals "order_of" = some (some (.ref f23)))
    (l23 : K.lookup f23 = some ⟨oc23, od23, .func (PySem.W.fnOf "order_of" "order_of" (defArgs (topS 20)) (defBody (topS 20)) (defScope (topS 20)) .none kV23 dc23 pm23 an23 cd23 ct23), sl23⟩) (c23 : PySem.W.codeIn K cd23 "order_of" = true) (k23 : PySem.W.keepIn K (.ref f23) = true)
    (a24 : PySem.W.nsIn K mainGlobals "check_history" = some (some (.ref f24)))
    (l24 : K.lookup f24 = some ⟨oc24, od24, .func (PySem.W.fnOf "check_history" "check_history" (defArgs (topS 14)) (defBody (topS 14)) (defScope (topS 14)) .none kV24 dc24 pm24 an24 cd24 ct24), sl24⟩) (c24 : PySem.W.codeIn K cd24 "check_history" = true) (k24 : PySem.W.keepIn K (.ref f24) = true)
    (a25 : PySem.W.nsIn K mainGlobals "is_ring" = some (some (.ref f25)))
    (l25 : K.lookup f25 = some ⟨oc25, od25, .func (PySem.W.fnOf "is_ring" "is_ring" (defArgs (topS 23)) (defBody (topS 23)) (defScope (topS 23)) .none kV25 dc25 pm25 an25 cd25 ct25), sl25⟩) (c25 : PySem.W.codeIn K cd25 "is_ring" = true) (k25 : PySem.W.keepIn K (.ref f25) = true)
    (a26 : PySem.W.nsIn K mainGlobals "edges" = some (some (.ref f26)))
    (l26 : K.lookup f26 = some ⟨oc26, od26, .func (PySem.W.fnOf "edges" "edges" (defArgs (topS 18)) (defBody (topS 18)) (defScope (topS 18)) .none kV26 dc26 pm26 an26 cd26 ct26), sl26⟩) (c26 : PySem.W.codeIn K cd26 "edges" = true) (k26 : PySem.W.keepIn K (.ref f26) = true)
    (a27 : PySem.W.nsIn K mainGlobals "one_order" = some (some (.ref f27)))
    (l27 : K.lookup f27 = some ⟨oc27, od27, .func (PySem.W.fnOf "one_order" "one_order" (defArgs (topS 21)) (defBody (topS 21)) (defScope (topS 21)) .none kV27 dc27 pm27 an27 cd27 ct27), sl27⟩) (c27 : PySem.W.codeIn K cd27 "one_order" = true) (k27 : PySem.W.keepIn K (.ref f27) = true)
    (a28 : PySem.W.nsIn K mainGlobals "ring" = some (some (.ref f28)))
    (l28 : K.lookup f28 = some ⟨oc28, od28, .func (PySem.W.fnOf "ring" "ring" (defArgs (topS 22)) (defBody (topS 22)) (defScope (topS 22)) .none kV28 dc28 pm28 an28 cd28 ct28), sl28⟩) (c28 : PySem.W.codeIn K cd28 "ring" = true) (k28 : PySem.W.keepIn K (.ref f28) = true)
    (a29 : PySem.W.nsIn K mainGlobals "moments" = some (some (.ref f29)))
    (l29 : K.lookup f29 = some ⟨oc29, od29, .func (PySem.W.fnOf "moments" "moments" (defArgs (topS 26)) (defBody (topS 26)) (defScope (topS 26)) .none kV29 dc29 pm29 an29 cd29 ct29), sl29⟩) (c29 : PySem.W.codeIn K cd29 "moments" = true) (k29 : PySem.W.keepIn K (.ref f29) = true)
    (a30 : PySem.W.nsIn K mainGlobals "by_snapshots" = some (some (.ref f30)))
    (l30 : K.lookup f30 = some ⟨oc30, od30, .func (PySem.W.fnOf "by_snapshots" "by_snapshots" (defArgs (topS 27)) (defBody (topS 27)) (defScope (topS 27)) .none kV30 dc30 pm30 an30 cd30 ct30), sl30⟩) (c30 : PySem.W.codeIn K cd30 "by_snapshots" = true) (k30 : PySem.W.keepIn K (.ref f30) = true)
    (a31 : PySem.W.nsIn K mainGlobals "_law_word" = some (some (.ref f31)))
    (l31 : K.lookup f31 = some ⟨oc31, od31, .func (PySem.W.fnOf "_law_word" "_law_word" (defArgs (topS 39)) (defBody (topS 39)) (defScope (topS 39)) .none kV31 dc31 pm31 an31 cd31 ct31), sl31⟩) (c31 : PySem.W.codeIn K cd31 "_law_word" = true) (k31 : PySem.W.keepIn K (.ref f31) = true)
    (a32 : PySem.W.nsIn K mainGlobals "law" = some (some (.ref f32)))
    (l32 : K.lookup f32 = some ⟨oc32, od32, .func (PySem.W.fnOf "law" "law" (defArgs (topS 40)) (defBody (topS 40)) (defScope (topS 40)) .none kV32 dc32 pm32 an32 cd32 ct32), sl32⟩) (c32 : PySem.W.codeIn K cd32 "law" = true) (k32 : PySem.W.keepIn K (.ref f32) = true)
    (z0 : PySem.W.nsIn K mainGlobals "ValueError" = some none)
    (z1 : PySem.W.nsIn K mainGlobals "abs" = some none)
    (z2 : PySem.W.nsIn K mainGlobals "all" = some none)
    (z3 : PySem.W.nsIn K mainGlobals "any" = some none)
    (z4 : PySem.W.nsIn K mainGlobals "bool" = some none)
    (z5 : PySem.W.nsIn K mainGlobals "enumerate" = some none)
    (z6 : PySem.W.nsIn K mainGlobals "int" = some none)
    (z7 : PySem.W.nsIn K mainGlobals "isinstance" = some none)
    (z8 : PySem.W.nsIn K mainGlobals "len" = some none)
    (z9 : PySem.W.nsIn K mainGlobals "list" = some none)
    (z10 : PySem.W.nsIn K mainGlobals "max" = some none)
    (z11 : PySem.W.nsIn K mainGlobals "min" = some none)
    (z12 : PySem.W.nsIn K mainGlobals "range" = some none)
    (z13 : PySem.W.nsIn K mainGlobals "repr" = some none)
    (z14 : PySem.W.nsIn K mainGlobals "set" = some none)
    (z15 : PySem.W.nsIn K mainGlobals "sorted" = some none)
    (z16 : PySem.W.nsIn K mainGlobals "tuple" = some none)
    (z17 : PySem.W.nsIn K mainGlobals "zip" = some none)
    (y0 : PySem.W.nsIn K mainGlobals "MOST_DEALS" = some (some (.int 12 t0)))
    (y1 : PySem.W.nsIn K mainGlobals "MOST_KEY" = some (some (.int 99 t1)))
    (xg0 : PySem.W.nsIn K mainGlobals "NoHistory" = some (some (.ref C0))) (xk0 : PySem.W.keepIn K (.ref C0) = true) (xe0 : PySem.W.excIn K C0 [.type "ValueError", .type "Exception", .type "BaseException", .type "object"] "ValueError.__new__" = true) (xs0 : PySem.W.subIn K (.ref C0) (.type "BaseException") = some true) (xt0 : PySem.W.typeIn K (.ref C0) = some (.type "type"))
    (sm : smIn K = true)
    : ∃ fd : FuncData, (∀ (s : Shared) (v : Value), BindsTo s fd ⟨[v], []⟩ [("script", v)]) ∧ ∀ base : Heap, K.In base → base.Ns mainGlobals mg → LawAt l.prog w K mg base (L2.CX l.prog w) fa fd ["script"] (spLaw K) := by
  have e := hfa.symm.trans (PySem.W.mg_of X G a32)
  cases e
  have T : Txt K mg := ⟨PySem.W.mg_none_of X G z0, PySem.W.mg_none_of X G z1, PySem.W.mg_none_of X G z2, PySem.W.mg_none_of X G z3, PySem.W.mg_none_of X G z4, PySem.W.mg_none_of X G z5, PySem.W.mg_none_of X G z6, PySem.W.mg_none_of X G z7, PySem.W.mg_none_of X G z8, PySem.W.mg_none_of X G z9, PySem.W.mg_none_of X G z10, PySem.W.mg_none_of X G z11, PySem.W.mg_none_of X G z12, PySem.W.mg_none_of X G z13, PySem.W.mg_none_of X G z14, PySem.W.mg_none_of X G z15, PySem.W.mg_none_of X G z16, PySem.W.mg_none_of X G z17, ⟨_, PySem.W.mg_of X G y0⟩, ⟨_, PySem.W.mg_of X G y1⟩, ⟨⟨C0, _, PySem.W.mg_of X G xg0, PySem.F.excBase_ValueError, xe0, xk0, xs0, xt0⟩⟩, ⟨_, PySem.W.mg_of X G eg0⟩, ⟨_, PySem.W.mg_of X G eg1⟩, ⟨fun cl e => by rw [PySem.W.mg_of X G eg1] at e; cases e; exact ⟨⟨E0, PySem.W.mg_of X G eg0, PySem.W.exm_ref ea1a ea1b ea1c es2⟩⟩⟩, ⟨fun D0 e => by rw [PySem.W.mg_of X G eg0] at e; cases e; exact ⟨⟨eq0a, eq0b, eq0c, eq0d, eq0e, cs1, cs2, eq0f⟩, (kit_oneTy es0)⟩⟩, ⟨fun D0 e => by rw [PySem.W.mg_of X G eg0] at e; cases e; exact ⟨⟨eq0a, eq0b, eq0c, eq0d, eq0e, cs1, cs2, eq0f⟩, E0, PySem.W.mg_of X G eg0, (kit_oneT ea0b ea0c es1)⟩⟩, sm⟩
  have F0 := fun_mk (st := (topS 29)) l0 c0 k0
  have F1 := fun_mk (st := (topS 30)) l1 c1 k1
  have F2 := fun_mk (st := (topS 33)) l2 c2 k2
  have F3 := fun_mk (st := (topS 32)) l3 c3 k3
  have F4 := fun_mk (st := (topS 4)) l4 c4 k4
  have F5 := fun_mk (st := (topS 15)) l5 c5 k5
  have F6 := fun_mk (st := (topS 31)) l6 c6 k6
  have F7 := fun_mk (st := (topS 35)) l7 c7 k7
  have F8 := fun_mk (st := (topS 36)) l8 c8 k8
  have F9 := fun_mk (st := (topS 5)) l9 c9 k9
  have F10 := fun_mk (st := (topS 16)) l10 c10 k10
  have F11 := fun_mk (st := (topS 24)) l11 c11 k11
  have F12 := fun_mk (st := (topS 34)) l12 c12 k12
  have F13 := fun_mk (st := (topS 38)) l13 c13 k13
  have F14 := fun_mk (st := (topS 37)) l14 c14 k14
  have F15 := fun_mk (st := (topS 11)) l15 c15 k15
  have F16 := fun_mk (st := (topS 10)) l16 c16 k16
  have F17 := fun_mk (st := (topS 17)) l17 c17 k17
  have F18 := fun_mk (st := (topS 6)) l18 c18 k18
  have F19 := fun_mk (st := (topS 25)) l19 c19 k19
  have F20 := fun_mk (st := (topS 12)) l20 c20 k20
  have F21 := fun_mk (st := (topS 19)) l21 c21 k21
  have F22 := fun_mk (st := (topS 13)) l22 c22 k22
  have F23 := fun_mk (st := (topS 20)) l23 c23 k23
  have F24 := fun_mk (st := (topS 14)) l24 c24 k24
  have F25 := fun_mk (st := (topS 23)) l25 c25 k25
  have F26 := fun_mk (st := (topS 18)) l26 c26 k26
  have F27 := fun_mk (st := (topS 21)) l27 c27 k27
  have F28 := fun_mk (st := (topS 22)) l28 c28 k28
  have F29 := fun_mk (st := (topS 26)) l29 c29 k29
  have F30 := fun_mk (st := (topS 27)) l30 c30 k30
  have F31 := fun_mk (st := (topS 39)) l31 c31 k31
  have F32 := fun_mk (st := (topS 40)) l32 c32 k32
  refine ⟨PySem.W.fnOf "law" "law" (defArgs (topS 40)) (defBody (topS 40)) (defScope (topS 40)) .none kV32 dc32 pm32 an32 cd32 ct32, fun s v => .of_eq rfl, fun base _ _ => ?_⟩
  have c__law_pool : Has l.prog w K mg base "_law_pool" 1 ["script"] (spL K mg m__law_pool) := ⟨⟨f0, _, PySem.W.mg_of X G a0, k0, F0.binds (ps := ["script"]) fun _ _ _ _ _ _ us hl => by obtain ⟨_, rfl⟩ := us_1 hl; rfl, ok__law_pool F0 T ⟩⟩
  have c__law_draw : Has l.prog w K mg base "_law_draw" 1 ["pool", "many"] (spM K mg m__law_draw) := ⟨⟨f1, _, PySem.W.mg_of X G a1, k1, F1.binds (ps := ["pool", "many"]) fun _ _ _ _ _ _ us hl => by obtain ⟨_, _, rfl⟩ := us_2 hl; rfl, ok__law_draw F1 T ⟩⟩
  have c__law_deep : Has l.prog w K mg base "_law_deep" 1 ["thing", "many"] (spM K mg m__law_deep) := ⟨⟨f2, _, PySem.W.mg_of X G a2, k2, F2.binds (ps := ["thing", "many"]) fun _ _ _ _ _ _ us hl => by obtain ⟨_, _, rfl⟩ := us_2 hl; rfl, ok__law_deep F2 T ⟩⟩
  have c__law_is_int : Has l.prog w K mg base "_law_is_int" 1 ["thing", "least", "most"] (spM K mg m__law_is_int) := ⟨⟨f3, _, PySem.W.mg_of X G a3, k3, F3.binds (ps := ["thing", "least", "most"]) fun _ _ _ _ _ _ us hl => by obtain ⟨_, _, _, rfl⟩ := us_3 hl; rfl, ok__law_is_int F3 T ⟩⟩
  have c_is_integer : Has l.prog w K mg base "is_integer" 1 ["thing"] (spM K mg m_is_integer) := ⟨⟨f4, _, PySem.W.mg_of X G a4, k4, F4.binds (ps := ["thing"]) fun _ _ _ _ _ _ us hl => by obtain ⟨_, rfl⟩ := us_1 hl; rfl, ok_is_integer F4 T ⟩⟩
  have c_writers : Has l.prog w K mg base "writers" 1 ["history", "key"] (spL K mg m_writers) := ⟨⟨f5, _, PySem.W.mg_of X G a5, k5, F5.binds (ps := ["history", "key"]) fun _ _ _ _ _ _ us hl => by obtain ⟨_, _, rfl⟩ := us_2 hl; rfl, ok_writers F5 T ⟩⟩
  have c__law_any : Has l.prog w K mg base "_law_any" 2 ["pool", "things"] (spM K mg m__law_any) := ⟨⟨f6, _, PySem.W.mg_of X G a6, k6, F6.binds (ps := ["pool", "things"]) fun _ _ _ _ _ _ us hl => by obtain ⟨_, _, rfl⟩ := us_2 hl; rfl, ok__law_any F6 T c__law_draw⟩⟩
  have c__law_is_reads : Has l.prog w K mg base "_law_is_reads" 2 ["told", "one", "thing"] (spM K mg m__law_is_reads) := ⟨⟨f7, _, PySem.W.mg_of X G a7, k7, F7.binds (ps := ["told", "one", "thing"]) fun _ _ _ _ _ _ us hl => by obtain ⟨_, _, _, rfl⟩ := us_3 hl; rfl, ok__law_is_reads F7 T c__law_is_int⟩⟩
  have c__law_is_keys : Has l.prog w K mg base "_law_is_keys" 2 ["thing"] (spM K mg m__law_is_keys) := ⟨⟨f8, _, PySem.W.mg_of X G a8, k8, F8.binds (ps := ["thing"]) fun _ _ _ _ _ _ us hl => by obtain ⟨_, rfl⟩ := us_1 hl; rfl, ok__law_is_keys F8 T c__law_is_int⟩⟩
  have c_is_between : Has l.prog w K mg base "is_between" 2 ["thing", "least", "most"] (spM K mg m_is_between) := ⟨⟨f9, _, PySem.W.mg_of X G a9, k9, F9.binds (ps := ["thing", "least", "most"]) fun _ _ _ _ _ _ us hl => by obtain ⟨_, _, _, rfl⟩ := us_3 hl; rfl, ok_is_between F9 T c_is_integer⟩⟩
  have c_next_writer : Has l.prog w K mg base "next_writer" 2 ["history", "key", "last"] (spM K mg m_next_writer) := ⟨⟨f10, _, PySem.W.mg_of X G a10, k10, F10.binds (ps := ["history", "key", "last"]) fun _ _ _ _ _ _ us hl => by obtain ⟨_, _, _, rfl⟩ := us_3 hl; rfl, ok_next_writer F10 T c_writers⟩⟩
  have c_suits : Has l.prog w K mg base "suits" 2 ["history", "index", "moment"] (spM K mg m_suits) := ⟨⟨f11, _, PySem.W.mg_of X G a11, k11, F11.binds (ps := ["history", "index", "moment"]) fun _ _ _ _ _ _ us hl => by obtain ⟨_, _, _, rfl⟩ := us_3 hl; rfl, ok_suits F11 T c_writers⟩⟩
  have c__law_history : Has l.prog w K mg base "_law_history" 3 ["pool", "most"] (spM K mg m__law_history) := ⟨⟨f12, _, PySem.W.mg_of X G a12, k12, F12.binds (ps := ["pool", "most"]) fun _ _ _ _ _ _ us hl => by obtain ⟨_, _, rfl⟩ := us_2 hl; rfl, ok__law_history F12 T c__law_draw c__law_any⟩⟩
  have c__law_bent : Has l.prog w K mg base "_law_bent" 3 ["pool", "told"] (spM K mg m__law_bent) := ⟨⟨f13, _, PySem.W.mg_of X G a13, k13, F13.binds (ps := ["pool", "told"]) fun _ _ _ _ _ _ us hl => by obtain ⟨_, _, rfl⟩ := us_2 hl; rfl, ok__law_bent F13 T c__law_draw c__law_deep c__law_any⟩⟩
  have c__law_is_history : Has l.prog w K mg base "_law_is_history" 3 ["thing"] (spM K mg m__law_is_history) := ⟨⟨f14, _, PySem.W.mg_of X G a14, k14, F14.binds (ps := ["thing"]) fun _ _ _ _ _ _ us hl => by obtain ⟨_, rfl⟩ := us_1 hl; rfl, ok__law_is_history F14 T c__law_is_reads c__law_is_keys⟩⟩
  have c_is_read : Has l.prog w K mg base "is_read" 3 ["thing", "history"] (spM K mg m_is_read) := ⟨⟨f15, _, PySem.W.mg_of X G a15, k15, F15.binds (ps := ["thing", "history"]) fun _ _ _ _ _ _ us hl => by obtain ⟨_, _, rfl⟩ := us_2 hl; rfl, ok_is_read F15 T c_is_between⟩⟩
  have c_are_writes : Has l.prog w K mg base "are_writes" 3 ["thing"] (spM K mg m_are_writes) := ⟨⟨f16, _, PySem.W.mg_of X G a16, k16, F16.binds (ps := ["thing"]) fun _ _ _ _ _ _ us hl => by obtain ⟨_, rfl⟩ := us_1 hl; rfl, ok_are_writes F16 T c_is_between⟩⟩
  have c_edges_of : Has l.prog w K mg base "edges_of" 3 ["history"] (spL K mg m_edges_of) := ⟨⟨f17, _, PySem.W.mg_of X G a17, k17, F17.binds (ps := ["history"]) fun _ _ _ _ _ _ us hl => by obtain ⟨_, rfl⟩ := us_1 hl; rfl, ok_edges_of F17 T c_next_writer c_writers⟩⟩
  have c_is_index : Has l.prog w K mg base "is_index" 3 ["thing", "many"] (spM K mg m_is_index) := ⟨⟨f18, _, PySem.W.mg_of X G a18, k18, F18.binds (ps := ["thing", "many"]) fun _ _ _ _ _ _ us hl => by obtain ⟨_, _, rfl⟩ := us_2 hl; rfl, ok_is_index F18 T c_is_between⟩⟩
  have c_moment_of : Has l.prog w K mg base "moment_of" 3 ["history", "index"] (spM K mg m_moment_of) := ⟨⟨f19, _, PySem.W.mg_of X G a19, k19, F19.binds (ps := ["history", "index"]) fun _ _ _ _ _ _ us hl => by obtain ⟨_, _, rfl⟩ := us_2 hl; rfl, ok_moment_of F19 T c_suits⟩⟩
  have c_are_reads : Has l.prog w K mg base "are_reads" 4 ["thing", "index", "history"] (spM K mg m_are_reads) := ⟨⟨f20, _, PySem.W.mg_of X G a20, k20, F20.binds (ps := ["thing", "index", "history"]) fun _ _ _ _ _ _ us hl => by obtain ⟨_, _, _, rfl⟩ := us_3 hl; rfl, ok_are_reads F20 T c_is_read⟩⟩
  have c_webs : Has l.prog w K mg base "webs" 4 ["history"] (spM K mg m_webs) := ⟨⟨f21, _, PySem.W.mg_of X G a21, k21, F21.binds (ps := ["history"]) fun _ _ _ _ _ _ us hl => by obtain ⟨_, rfl⟩ := us_1 hl; rfl, ok_webs F21 T c_edges_of⟩⟩
  have c_is_history : Has l.prog w K mg base "is_history" 5 ["thing"] (spM K mg m_is_history) := ⟨⟨f22, _, PySem.W.mg_of X G a22, k22, F22.binds (ps := ["thing"]) fun _ _ _ _ _ _ us hl => by obtain ⟨_, rfl⟩ := us_1 hl; rfl, ok_is_history F22 T c_are_reads c_are_writes⟩⟩
  have c_order_of : Has l.prog w K mg base "order_of" 5 ["history"] (spM K mg m_order_of) := ⟨⟨f23, _, PySem.W.mg_of X G a23, k23, F23.binds (ps := ["history"]) fun _ _ _ _ _ _ us hl => by obtain ⟨_, rfl⟩ := us_1 hl; rfl, ok_order_of F23 T c_webs⟩⟩
  have c_check_history : Has l.prog w K mg base "check_history" 6 ["thing"] (spM K mg m_check_history) := ⟨⟨f24, _, PySem.W.mg_of X G a24, k24, F24.binds (ps := ["thing"]) fun _ _ _ _ _ _ us hl => by obtain ⟨_, rfl⟩ := us_1 hl; rfl, ok_check_history F24 T c_is_history⟩⟩
  have c_is_ring : Has l.prog w K mg base "is_ring" 7 ["history", "thing"] (spM K mg m_is_ring) := ⟨⟨f25, _, PySem.W.mg_of X G a25, k25, F25.binds (ps := ["history", "thing"]) fun _ _ _ _ _ _ us hl => by obtain ⟨_, _, rfl⟩ := us_2 hl; rfl, ok_is_ring F25 T c_check_history c_webs c_is_index⟩⟩
  have c_edges : Has l.prog w K mg base "edges" 7 ["history"] (spM K mg m_edges) := ⟨⟨f26, _, PySem.W.mg_of X G a26, k26, F26.binds (ps := ["history"]) fun _ _ _ _ _ _ us hl => by obtain ⟨_, rfl⟩ := us_1 hl; rfl, ok_edges F26 T c_check_history c_edges_of⟩⟩
  have c_one_order : Has l.prog w K mg base "one_order" 7 ["history"] (spM K mg m_one_order) := ⟨⟨f27, _, PySem.W.mg_of X G a27, k27, F27.binds (ps := ["history"]) fun _ _ _ _ _ _ us hl => by obtain ⟨_, rfl⟩ := us_1 hl; rfl, ok_one_order F27 T c_check_history c_order_of⟩⟩
  have c_ring : Has l.prog w K mg base "ring" 7 ["history"] (spM K mg m_ring) := ⟨⟨f28, _, PySem.W.mg_of X G a28, k28, F28.binds (ps := ["history"]) fun _ _ _ _ _ _ us hl => by obtain ⟨_, rfl⟩ := us_1 hl; rfl, ok_ring F28 T c_check_history c_webs c_order_of⟩⟩
  have c_moments : Has l.prog w K mg base "moments" 7 ["history"] (spM K mg m_moments) := ⟨⟨f29, _, PySem.W.mg_of X G a29, k29, F29.binds (ps := ["history"]) fun _ _ _ _ _ _ us hl => by obtain ⟨_, rfl⟩ := us_1 hl; rfl, ok_moments F29 T c_check_history c_moment_of⟩⟩
  have c_by_snapshots : Has l.prog w K mg base "by_snapshots" 7 ["history"] (spM K mg m_by_snapshots) := ⟨⟨f30, _, PySem.W.mg_of X G a30, k30, F30.binds (ps := ["history"]) fun _ _ _ _ _ _ us hl => by obtain ⟨_, rfl⟩ := us_1 hl; rfl, ok_by_snapshots F30 T c_check_history c_moment_of⟩⟩
  have c__law_word : Has l.prog w K mg base "_law_word" 8 ["which", "thing", "other"] (spM K mg m__law_word) := ⟨⟨f31, _, PySem.W.mg_of X G a31, k31, F31.binds (ps := ["which", "thing", "other"]) fun _ _ _ _ _ _ us hl => by obtain ⟨_, _, _, rfl⟩ := us_3 hl; rfl, ok__law_word F31 T c_is_ring c_edges c_one_order c_ring c_moments c_by_snapshots⟩⟩
  exact (ok_law F32 T c__law_pool c__law_history c__law_bent c__law_any c__law_is_history c__law_deep c__law_word).imp fun vs H Q E h => sp_law ht h
end My
open PySem PySem.W PyProof.Rows
set_option maxHeartbeats 0 in
theorem PySem.Challenge.cw_tornsectors_k90_histories_refused_holds : PySem.Challenge.rw_tornsectors_k90_histories_refused.Holds := by
  w_on; o_law
  refine HandSHeadRun.head_any (r := OpenLaw.row PySem.Challenge.rw_tornsectors_k90_histories_refused) (q := PySem.W.view (OpenLaw.row PySem.Challenge.rw_tornsectors_k90_histories_refused).prog [40]) (H := PySem.W.kHook SH.Kh SH.asK SH.as_eq) (ob := SH.ob) (M := 8000) (loose := SH.names) (d := HandSHeadRun.topDef (OpenLaw.row PySem.Challenge.rw_tornsectors_k90_histories_refused).prog 40) (kwd := []) SH.ob_eq (by kernel_rfl) (fun s => by kernel_rfl) SH.run (by kernel_rfl) (by kernel_rfl) (by kernel_rfl) (by rfl) (by first | assumption | decide +kernel) (by decide +kernel) ⟨rfl, rfl, rfl, rfl, rfl, by decide +kernel⟩ ?hw ?hc
  case hw => w_witness2
  k_fill
  refine AB.walk_ofC (l := PySem.Challenge.rw_tornsectors_k90_histories_refused) (n := 63) (x := "script") (CX := fun w => L2.CX PySem.Challenge.rw_tornsectors_k90_histories_refused.prog w) (sp := fun w => AB.spLaw _) rfl (by decide) (by kernel_rfl) (fun w h Y => PySem.W.kIn_of Y) ?F (fun _ _ a ns hl _ hS => ⟨a, ns, rfl, hS, hl, fun _ => rfl⟩) (fun _ _ _ _ _ h => AB.cx_false h)
  case F =>
    intro w mg fa h KX G hmg0
    have hmg : mg ("law" : PySem.Str) = some (.ref fa) := by
      have e : (HandSHeadRun.topDef (OpenLaw.row PySem.Challenge.rw_tornsectors_k90_histories_refused).prog 40).name = ("law" : PySem.Str) := by kernel_rfl
      rw [← e]
      exact hmg0
    refine' My.all_mk KX G hmg My.law_true ?eg0 ?eg1 ?ea0a ?ea0b ?ea0c ?ea1a ?ea1b ?ea1c ?es0 ?es1 ?es2 ?eq0a ?eq0b ?eq0c ?eq0d ?eq0e ?eq0f ?cs1 ?cs2 ?a0 ?l0 ?c0 ?k0 ?a1 ?l1 ?c1 ?k1 ?a2 ?l2 ?c2 ?k2 ?a3 ?l3 ?c3 ?k3 ?a4 ?l4 ?c4 ?k4 ?a5 ?l5 ?c5 ?k5 ?a6 ?l6 ?c6 ?k6 ?a7 ?l7 ?c7 ?k7 ?a8 ?l8 ?c8 ?k8 ?a9 ?l9 ?c9 ?k9 ?a10 ?l10 ?c10 ?k10 ?a11 ?l11 ?c11 ?k11 ?a12 ?l12 ?c12 ?k12 ?a13 ?l13 ?c13 ?k13 ?a14 ?l14 ?c14 ?k14 ?a15 ?l15 ?c15 ?k15 ?a16 ?l16 ?c16 ?k16 ?a17 ?l17 ?c17 ?k17 ?a18 ?l18 ?c18 ?k18 ?a19 ?l19 ?c19 ?k19 ?a20 ?l20 ?c20 ?k20 ?a21 ?l21 ?c21 ?k21 ?a22 ?l22 ?c22 ?k22 ?a23 ?l23 ?c23 ?k23 ?a24 ?l24 ?c24 ?k24 ?a25 ?l25 ?c25 ?k25 ?a26 ?l26 ?c26 ?k26 ?a27 ?l27 ?c27 ?k27 ?a28 ?l28 ?c28 ?k28 ?a29 ?l29 ?c29 ?k29 ?a30 ?l30 ?c30 ?k30 ?a31 ?l31 ?c31 ?k31 ?a32 ?l32 ?c32 ?k32 ?z0 ?z1 ?z2 ?z3 ?z4 ?z5 ?z6 ?z7 ?z8 ?z9 ?z10 ?z11 ?z12 ?z13 ?z14 ?z15 ?z16 ?z17 ?y0 ?y1 ?xg0 ?xk0 ?xe0 ?xs0 ?xt0 ?sm
    (case eg0 => k_is); (case eg1 => k_is); (case ea0a => k_is); (case ea0b => k_is); (case ea0c => k_is); (case ea1a => k_is); (case ea1b => k_is); (case ea1c => k_is); (case es0 => first | k_is | rfl); (case es1 => first | k_is | rfl); (case es2 => first | k_is | rfl); (case eq0a => k_is); (case eq0b => k_is); (case eq0c => k_is); (case eq0d => k_is); (case eq0e => k_is); (case eq0f => k_is); (case cs1 => k_is); (case cs2 => k_is); (case a0 => k_is); (case l0 => k_is); (case c0 => k_is); (case k0 => k_is); (case a1 => k_is); (case l1 => k_is); (case c1 => k_is); (case k1 => k_is); (case a2 => k_is); (case l2 => k_is); (case c2 => k_is); (case k2 => k_is); (case a3 => k_is); (case l3 => k_is); (case c3 => k_is); (case k3 => k_is); (case a4 => k_is); (case l4 => k_is); (case c4 => k_is); (case k4 => k_is); (case a5 => k_is); (case l5 => k_is); (case c5 => k_is); (case k5 => k_is); (case a6 => k_is); (case l6 => k_is); (case c6 => k_is); (case k6 => k_is); (case a7 => k_is); (case l7 => k_is); (case c7 => k_is); (case k7 => k_is); (case a8 => k_is); (case l8 => k_is); (case c8 => k_is); (case k8 => k_is); (case a9 => k_is); (case l9 => k_is); (case c9 => k_is); (case k9 => k_is); (case a10 => k_is); (case l10 => k_is); (case c10 => k_is); (case k10 => k_is); (case a11 => k_is); (case l11 => k_is); (case c11 => k_is); (case k11 => k_is); (case a12 => k_is); (case l12 => k_is); (case c12 => k_is); (case k12 => k_is); (case a13 => k_is); (case l13 => k_is); (case c13 => k_is); (case k13 => k_is); (case a14 => k_is); (case l14 => k_is); (case c14 => k_is); (case k14 => k_is); (case a15 => k_is); (case l15 => k_is); (case c15 => k_is); (case k15 => k_is); (case a16 => k_is); (case l16 => k_is); (case c16 => k_is); (case k16 => k_is); (case a17 => k_is); (case l17 => k_is); (case c17 => k_is); (case k17 => k_is); (case a18 => k_is); (case l18 => k_is); (case c18 => k_is); (case k18 => k_is); (case a19 => k_is); (case l19 => k_is); (case c19 => k_is); (case k19 => k_is); (case a20 => k_is); (case l20 => k_is); (case c20 => k_is); (case k20 => k_is); (case a21 => k_is); (case l21 => k_is); (case c21 => k_is); (case k21 => k_is); (case a22 => k_is); (case l22 => k_is); (case c22 => k_is); (case k22 => k_is); (case a23 => k_is); (case l23 => k_is); (case c23 => k_is); (case k23 => k_is); (case a24 => k_is); (case l24 => k_is); (case c24 => k_is); (case k24 => k_is); (case a25 => k_is); (case l25 => k_is); (case c25 => k_is); (case k25 => k_is); (case a26 => k_is); (case l26 => k_is); (case c26 => k_is); (case k26 => k_is); (case a27 => k_is); (case l27 => k_is); (case c27 => k_is); (case k27 => k_is); (case a28 => k_is); (case l28 => k_is); (case c28 => k_is); (case k28 => k_is); (case a29 => k_is); (case l29 => k_is); (case c29 => k_is); (case k29 => k_is); (case a30 => k_is); (case l30 => k_is); (case c30 => k_is); (case k30 => k_is); (case a31 => k_is); (case l31 => k_is); (case c31 => k_is); (case k31 => k_is); (case a32 => k_is); (case l32 => k_is); (case c32 => k_is); (case k32 => k_is); (case z0 => k_is); (case z1 => k_is); (case z2 => k_is); (case z3 => k_is); (case z4 => k_is); (case z5 => k_is); (case z6 => k_is); (case z7 => k_is); (case z8 => k_is); (case z9 => k_is); (case z10 => k_is); (case z11 => k_is); (case z12 => k_is); (case z13 => k_is); (case z14 => k_is); (case z15 => k_is); (case z16 => k_is); (case z17 => k_is); (case y0 => k_is); (case y1 => k_is); (case xg0 => k_is); (case xk0 => k_is); (case xe0 => k_exc); (case xs0 => k_is); (case xt0 => k_is); (case sm => exact rfl)
