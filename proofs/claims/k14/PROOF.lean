import PyProof.Rows.All
import Wide.All
import OpenK.AllK
import Wide.FinOn
import HandS.ForMost
import HandS.ForExc
import HandS.Walk
import HandS.Flow
import HandS.NoneIn
import HandS.TupSets
import HandS.Conv
import HandS.SetFor
import HandS.Strs
import HandS.Style
import HandS.Wide
import HandS.TupAny
import HandS.TupLe
import HandS.TupMul
import HandS.Deep
import HandS.IsInst
import HandS.Zip
import HandS.SortInts
import KE.SortData
import KE.DataCmp
import KE.DataMinMax
import KE.KIndexOf
import PyProof.SeqIndex
import KE.GoesEnum
import HandS.Iter
import PyProof.P3Eq
import HandS.Small
import HandS.ExcOwn
import HandS.RaiseMore
import HandS.Dict
import HandS.SetKeys
import HandS.ExcIs
import HandS.TryOnly
import HandS.TryMany
import HandS.DictComp
import HandS.Text
import PySem.Challenge.RW_tornsectors_k14_whole_what_crashes_leave
set_option Elab.async false
set_option linter.all false
set_option maxRecDepth 100000
set_option maxHeartbeats 4000000
/-! HDict: dicts whose keys are None, or tuples, beside each other. -/
namespace HD
open PySem PySem.Spec PyProof.Rows L2
open Sem (wp)

/-- keys: None or an object that is known by what it holds; a key's value by its address (of None: any) -/
structure HK (prog : Program) (w : World) (K : Type) [DecidableEq K] where
  is : Heap → K → Addr → Prop
  val : K → Addr → Value
  hash : K → Int
  draws : K → Nat
  room : Around → Prop
  shape : ∀ (k : K) (a : Addr), val k a = .none ∨ val k a = .ref a
  inj : ∀ {h : Heap} {a b : Addr} {x y : K}, is h x a → is h y b → val x a = val y b → x = y
  keeps : ∀ {h h' : Heap} {k : K} {a : Addr} {d : Addr} {o : Obj} {es ep}, is h k a → h.get? d = some o → o.data = .dict es ep → Heap.SameBut d h h' → is h' k a
  pyHash : ∀ {A : Around} {E : Value → Shared → Prop} {s : Shared} {k : K} {a : Addr} {Q : Int → Shared → Prop}, room A → is s.heap k a → Q (hash k) { s with toks := s.toks + draws k } → wpAny (model prog w) A (PySem.pyHash (val k a)) Q E s
  eqBool : ∀ {A : Around} {E : Value → Shared → Prop} {s : Shared} {x y : K} {a b : Addr} {Q : Bool → Shared → Prop}, room A → is s.heap x a → is s.heap y b → Q (decide (x = y)) s → wpAny (model prog w) A (PySem.eqBool (val x a) (val y b)) Q E s
  quiet : ∀ {A : Around} {E : Value → Shared → Prop} {s : Shared} {k : K} {a : Addr} {Q : Bool → Shared → Prop}, is s.heap k a → Q true s → wpAny (model prog w) A (eqIsQuiet 8 (val k a)) Q E s
abbrev Row (K : Type) := List (K × Addr × Value)
section
variable {prog : Program} {w : World} {K : Type} [DecidableEq K] (knd : HK prog w K)
def entryOf (x : K × Addr × Value) : DictEntry := ⟨knd.hash x.1, knd.val x.1 x.2.1, x.2.2⟩
def DictAt (h : Heap) (d : Addr) (xs : Row K) : Prop :=
  ∃ o es ep, h.get? d = some o ∧ o.ExactDict ∧ o.data = .dict es ep ∧ es.toList = xs.map (entryOf knd) ∧ (∀ x ∈ xs, knd.is h x.1 x.2.1) ∧ (xs.map (·.1)).Nodup
variable {knd}
theorem entry_at {es : Array DictEntry} {xs : Row K} (he : es.toList = xs.map (entryOf knd)) (j : Nat) : es[j]? = (xs[j]?).map (entryOf knd) := by
  rw [← Array.getElem?_toList, he, List.getElem?_map]
theorem size_of {es : Array DictEntry} {xs : Row K} (he : es.toList = xs.map (entryOf knd)) : es.size = xs.length := by
  rw [← Array.length_toList, he, List.length_map]
theorem DictAt.typeIs {s : Shared} {d : Addr} {xs : Row K} (hm : DictAt knd s.heap d xs) : s.TypeIs (.ref d) "dict" :=
  let ⟨o, _, _, ho, hc, _⟩ := hm; ⟨o, ho, hc.1⟩
theorem DictAt.new (h : Heap) : DictAt knd (h.push { cls := .type "dict", data := .dict #[] }) h.objs.size [] :=
  ⟨_, #[], 0, Heap.get?_push_size _ rfl, ⟨rfl, rfl, rfl⟩, rfl, rfl, fun _ hx => by simp at hx, List.nodup_nil⟩
variable {A : Around} {E : Value → Shared → Prop} {s : Shared}
theorem tellQuiet {a : Addr} {k : K} {st : List Value} {Q : Bool → Shared → Prop} (hkey : knd.is s.heap k a)
    (hst : ∀ v ∈ st, ∃ k' b, v = knd.val k' b ∧ knd.is s.heap k' b) (h : Q false s) : wpAny (model prog w) A (tableMayTell (knd.val k a) st) Q E s := by
  unfold tableMayTell
  split
  · exact wpAny_pure h
  · refine wpAny_bind (knd.quiet hkey ?_)
    simp only [Bool.not_true, Bool.false_eq_true, if_false]
    refine wpAny_bind ?_
    refine wpAny_forIn_list _ (fun rest r s' => s' = s ∧ r = (none, ()) ∧ ∀ v ∈ rest, ∃ k' b, v = knd.val k' b ∧ knd.is s.heap k' b) _ ?_ ?_ _ _ ⟨rfl, rfl, hst⟩
    · rintro x rest r s' ⟨rfl, rfl, hr⟩
      obtain ⟨k', b, rfl, hb⟩ := hr x List.mem_cons_self
      refine wpAny_bind (knd.quiet hb ?_)
      simp only [Bool.not_true, Bool.false_eq_true, if_false]
      exact wpAny_pure ⟨rfl, rfl, fun v hv => hr v (List.mem_cons_of_mem _ hv)⟩
    · rintro r s' ⟨rfl, rfl, _⟩
      exact wpAny_pure h
theorem dictFind_held {d a : Addr} {u : Value} {o : Obj} {es ep} {xs : Row K} {k : K} {Q : Option Nat → Shared → Prop} (hu : knd.room A) (hkey : knd.is s.heap k a) (hv : knd.val k a = u)
    (ho : s.heap.get? d = some o) (hd : o.data = .dict es ep) (he : es.toList = xs.map (entryOf knd)) (his : ∀ x ∈ xs, knd.is s.heap x.1 x.2.1) (hn : (xs.map (·.1)).Nodup)
    (hnone : (∀ (j : Nat) (p : Addr × Value), xs[j]? ≠ some (k, p)) → Q none s) (hsome : ∀ (j : Nat) (p : Addr × Value), xs[j]? = some (k, p) → Q (some j) s) :
    wpAny (model prog w) A (dictFind d u (knd.hash k)) Q E s := by
  have hsz : es.size = xs.length := size_of he
  have haskey : ∀ (j : Nat) (p : Addr × Value), xs[j]? = some (k, p) → ((es[j]?.map (·.hash)) == some (knd.hash k)) = true := by
    intro j p hj
    rw [entry_at he j, hj]
    simp [entryOf]
  have hmem : ∀ e ∈ es, ∃ x ∈ xs, e = entryOf knd x := by
    intro e hin
    have : e ∈ xs.map (entryOf knd) := he ▸ Array.mem_toList_iff.mpr hin
    obtain ⟨x, hx, rfl⟩ := List.mem_map.mp this
    exact ⟨x, hx, rfl⟩
  have hany : ¬ (es.any fun e => e.key == u && e.hash != knd.hash k) = true := by
    rw [← Array.any_toList, List.any_eq_true]
    rintro ⟨e, hin, hc⟩
    obtain ⟨x, hx, rfl⟩ := hmem e (Array.mem_toList_iff.mp hin)
    simp only [entryOf, Bool.and_eq_true, beq_iff_eq, bne_iff_ne, ne_eq] at hc
    obtain ⟨hxa, hne⟩ := hc
    exact hne (by rw [knd.inj (his x hx) hkey (hxa.trans hv.symm)])
  have hst : ∀ v ∈ (placesWithHash es.size (fun i => es[i]?.map (·.hash)) (knd.hash k)).filterMap (fun i => es[i]?.map (·.key)), ∃ k' b, v = knd.val k' b ∧ knd.is s.heap k' b := by
    intro v hv
    obtain ⟨i, _, hi⟩ := List.mem_filterMap.mp hv
    cases hei : es[i]? with
    | none => rw [hei] at hi; cases hi
    | some e =>
      rw [hei] at hi
      obtain rfl : e.key = v := by simpa using hi
      obtain ⟨x, hx, rfl⟩ := hmem e (Array.mem_of_getElem? hei)
      exact ⟨x.1, x.2.1, rfl, his x hx⟩
  have eqU : ∀ {A : Around} {E : Value → Shared → Prop} {k' : K} {b : Addr} {Q : Bool → Shared → Prop}, knd.room A → knd.is s.heap k' b → Q (decide (k' = k)) s → wpAny (model prog w) A (PySem.eqBool (knd.val k' b) u) Q E s := by
    intro A E k' b Q h1 h2 h3
    rw [← hv]
    exact knd.eqBool h1 h2 hkey h3
  have tellU : ∀ {A : Around} {E : Value → Shared → Prop} {st : List Value} {Q : Bool → Shared → Prop}, (∀ v ∈ st, ∃ k' b, v = knd.val k' b ∧ knd.is s.heap k' b) → Q false s → wpAny (model prog w) A (tableMayTell u st) Q E s := by
    intro A E st Q h1 h2
    rw [← hv]
    exact tellQuiet hkey h1 h2
  have sh : u = .none ∨ u = .ref a := by rw [← hv]; exact knd.shape k a
  -- one turn's facts
  have stepF : ∀ {x i : Nat} {rest : List Nat}, x :: rest = (List.range' i (es.size - i)).filter (fun i => (es[i]?.map (·.hash)) == some (knd.hash k)) → i ≤ es.size → i ≤ x ∧ x < es.size ∧ (∀ j, i ≤ j → j < x → ((es[j]?.map (·.hash)) == some (knd.hash k)) = false) ∧
      rest = (List.range' (x + 1) (es.size - (x + 1))).filter (fun i => (es[i]?.map (·.hash)) == some (knd.hash k)) := by
    intro x i rest hr hi
    obtain ⟨hix, hxn, hpx, hskip, hrest⟩ := filter_range'_cons _ _ _ _ _ hr.symm
    refine ⟨hix, by omega, hskip, ?_⟩
    rw [hrest]
    congr 2
    omega
  have endF : ∀ {i : Nat}, [] = (List.range' i (es.size - i)).filter (fun i => (es[i]?.map (·.hash)) == some (knd.hash k)) → i ≤ es.size → (∀ (j : Nat) (p : Addr × Value), j < i → xs[j]? ≠ some (k, p)) → ∀ (j : Nat) (p : Addr × Value), xs[j]? ≠ some (k, p) := by
    intro i hr hi hno j p hj
    rcases Nat.lt_or_ge j i with h | h
    · exact hno j p h hj
    · have hjl : j < es.size := by
        rw [hsz]
        rcases Nat.lt_or_ge j xs.length with h' | h'
        · exact h'
        · rw [List.getElem?_eq_none h'] at hj; exact nomatch hj
      have := List.filter_eq_nil_iff.mp hr.symm j (List.mem_range'_1.mpr ⟨h, by omega⟩)
      rw [haskey j p hj] at this
      exact absurd rfl this
  have skipF : ∀ {x i : Nat}, (∀ (j : Nat) (p : Addr × Value), j < i → xs[j]? ≠ some (k, p)) → (∀ j, i ≤ j → j < x → ((es[j]?.map (·.hash)) == some (knd.hash k)) = false) → ∀ (j : Nat) (p : Addr × Value), j < x → xs[j]? ≠ some (k, p) := by
    intro x i hno hskip j p hjx hj
    rcases Nat.lt_or_ge j i with h | h
    · exact hno j p h hj
    · have := hskip j h hjx
      rw [haskey j p hj] at this
      exact absurd this (by decide)
  have plain : wpAny (model prog w) A (dictWalkPlain d u (knd.hash k) es (placesWithHash es.size (fun i => es[i]?.map (·.hash)) (knd.hash k))) Q E s := by
    unfold dictWalkPlain
    refine wpAny_bind ?_
    refine wpAny_forIn_list _
      (fun rest b s' => s' = s ∧ b = (none, ()) ∧ ∃ i, rest = (List.range' i (es.size - i)).filter (fun i => (es[i]?.map (·.hash)) == some (knd.hash k)) ∧ i ≤ es.size ∧ ∀ (j : Nat) (p : Addr × Value), j < i → xs[j]? ≠ some (k, p)) _ ?_ ?_ _ _
      ⟨rfl, rfl, 0, by rw [placesWithHash, List.range_eq_range', Nat.sub_zero], Nat.zero_le _, fun _ _ h => absurd h (Nat.not_lt_zero _)⟩
    · rintro x rest b s' ⟨rfl, rfl, i, hr, hi, hno⟩
      obtain ⟨hix, hlt, hskip, hrest⟩ := stepF hr hi
      obtain ⟨⟨k', b, v'⟩, hkv⟩ : ∃ y, xs[x]? = some y := ⟨xs[x]'(by rw [← hsz]; exact hlt), List.getElem?_eq_getElem _⟩
      have hib : knd.is s'.heap k' b := his _ (List.mem_of_getElem? hkv)
      have hex : es[x]? = some ⟨knd.hash k', knd.val k' b, v'⟩ := by rw [entry_at he x, hkv]; rfl
      have hno2 := skipF hno hskip
      have hnext : ¬ k' = k → ∀ (j : Nat) (p : Addr × Value), j < x + 1 → xs[j]? ≠ some (k, p) := by
        intro hne j p hj e
        rcases Nat.lt_or_ge j x with h | h
        · exact hno2 j p h e
        · have : j = x := by omega
          subst this
          rw [hkv] at e
          exact hne (Prod.mk.inj (Option.some.inj e)).1
      rw [hex]
      dsimp only
      by_cases hh : (knd.hash k' == knd.hash k) = true
      · rw [if_pos hh]
        refine wpAny_bind (wpAny_dictEpoch ho hd (wpAny_bind (eqU hu hib (wpAny_bind (wpAny_dictEpoch ho hd ?_)))))
        show wpAny _ _ (if (ep != ep) = true then _ else _) _ E _
        rw [if_neg (by simp)]
        by_cases hkk : k' = k
        · rw [decide_eq_true hkk]
          subst hkk
          first | rw [if_pos rfl] | skip
          refine wpAny_bind (wpAny_rule ?_)
          first
            | exact wpAny_pure (wpAny_pure (hsome x _ hkv))
            | exact wpAny_pure (hsome x _ hkv)
        · rw [decide_eq_false hkk]
          simp only [Bool.false_eq_true, if_false]
          refine wpAny_bind (wpAny_rule ?_)
          first
            | exact wpAny_pure ⟨rfl, rfl, x + 1, hrest, hlt, hnext hkk⟩
            | exact wpAny_bind (wpAny_pure (wpAny_pure ⟨rfl, rfl, x + 1, hrest, hlt, hnext hkk⟩))
      · rw [if_neg hh]
        refine wpAny_pure ⟨rfl, rfl, x + 1, hrest, hlt, hnext ?_⟩
        intro hkk
        rw [hkk] at hh
        simp at hh
    · rintro b s' ⟨rfl, rfl, i, hr, hi, hno⟩
      exact wpAny_pure (hnone (endF hr hi hno))
  unfold dictFind
  try with_reducible refine wpAny_holding ?_
  refine wpAny_bind (wpAny_dictEntries ho hd ?_)
  rcases sh with rfl | rfl
  · dsimp only
    refine wpAny_ite_split (fun hall => plain) (fun hall => ?_)
    refine wpAny_ite_split (fun _ => wpAny_bind (wpAny_pure ?_)) (fun _ => wpAny_bind (tellU hst ?_)) <;> (
      rw [if_neg (by simp)]
      refine wpAny_bind ?_
      refine wpAny_forIn_list _
        (fun rest b s' => s' = s ∧ ∃ i hit, b = (none, hit) ∧ rest = (List.range' i (es.size - i)).filter (fun i => (es[i]?.map (·.hash)) == some (knd.hash k)) ∧ i ≤ es.size ∧
          ((hit = none ∧ ∀ (j : Nat) (p : Addr × Value), j < i → xs[j]? ≠ some (k, p)) ∨ ∃ (j : Nat) (p : Addr × Value), hit = some j ∧ j < i ∧ xs[j]? = some (k, p))) _ ?_ ?_ _ _
        ⟨rfl, 0, none, rfl, by rw [placesWithHash, List.range_eq_range', Nat.sub_zero], Nat.zero_le _, .inl ⟨rfl, fun _ _ h => absurd h (Nat.not_lt_zero _)⟩⟩
      · rintro x rest b s' ⟨rfl, i, hit, rfl, hr, hi, hH⟩
        obtain ⟨hix, hlt, hskip, hrest'⟩ := stepF hr hi
        obtain ⟨⟨k', b, v'⟩, hkv⟩ : ∃ y, xs[x]? = some y := ⟨xs[x]'(by rw [← hsz]; exact hlt), List.getElem?_eq_getElem _⟩
        have hib : knd.is s'.heap k' b := his _ (List.mem_of_getElem? hkv)
        have hex : es[x]? = some ⟨knd.hash k', knd.val k' b, v'⟩ := by rw [entry_at he x, hkv]; rfl
        have hHx : (hit = none ∧ ∀ (j : Nat) (p : Addr × Value), j < x → xs[j]? ≠ some (k, p)) ∨ ∃ (j : Nat) (p : Addr × Value), hit = some j ∧ j < x ∧ xs[j]? = some (k, p) := by
          rcases hH with ⟨h0, hno⟩ | ⟨j, p, h1, hji, hj⟩
          · exact .inl ⟨h0, skipF hno hskip⟩
          · exact .inr ⟨j, p, h1, by omega, hj⟩
        have hstay : ¬ k' = k → ((hit = none ∧ ∀ (j : Nat) (p : Addr × Value), j < x + 1 → xs[j]? ≠ some (k, p)) ∨ ∃ (j : Nat) (p : Addr × Value), hit = some j ∧ j < x + 1 ∧ xs[j]? = some (k, p)) := by
          intro hne
          rcases hHx with ⟨h0, hno⟩ | ⟨j, p, h1, hjx, hj⟩
          · refine .inl ⟨h0, fun j p hjx hj => ?_⟩
            rcases Nat.lt_or_ge j x with h | h
            · exact hno j p h hj
            · have hjx' : j = x := by omega
              subst hjx'
              rw [hkv] at hj
              injection hj with hj
              injection hj with hj
              exact hne hj
          · exact .inr ⟨j, p, h1, by omega, hj⟩
        rw [hex]
        dsimp only
        by_cases hh : (knd.hash k' == knd.hash k) = true
        · rw [if_pos hh]
          refine wpAny_bind (wpAny_dictEpoch ho hd (wpAny_bind (eqU hu hib (wpAny_bind (wpAny_dictEpoch ho hd ?_)))))
          show wpAny _ _ (if (ep != ep) = true then _ else _) _ E _
          rw [if_neg (by simp)]
          by_cases hkk : k' = k
          · rw [decide_eq_true hkk]
            subst hkk
            rcases hHx with ⟨rfl, _⟩ | ⟨j, p, _, hjx, hj⟩
            · first | rw [if_pos rfl] | skip
              simp only [Option.isSome_none, Bool.false_eq_true, if_false]
              first | refine wpAny_bind (wpAny_pure ?_) | skip
              refine wpAny_bind (wpAny_rule ?_)
              split
              · exact wpAny_pure (wpAny_pure (hsome x _ hkv))
              · exact wpAny_pure ⟨rfl, x + 1, some x, rfl, hrest', hlt, .inr ⟨x, _, rfl, Nat.lt_succ_self x, hkv⟩⟩
            · exact absurd (idxH_unique hn hj hkv) (by omega)
          · rw [decide_eq_false hkk]
            simp only [Bool.false_eq_true, if_false]
            refine wpAny_bind (wpAny_rule ?_)
            first | rw [if_neg (by simp)] | skip
            first
              | exact wpAny_pure ⟨rfl, x + 1, hit, rfl, hrest', hlt, hstay hkk⟩
              | exact wpAny_bind (wpAny_pure (wpAny_pure ⟨rfl, x + 1, hit, rfl, hrest', hlt, hstay hkk⟩))
        · rw [if_neg hh]
          refine wpAny_pure ⟨rfl, x + 1, hit, rfl, hrest', hlt, hstay ?_⟩
          intro hkk
          rw [hkk] at hh
          simp at hh
      · rintro b s' ⟨rfl, i, hit, rfl, hr, hi, hH⟩
        rcases hH with ⟨rfl, hno⟩ | ⟨j, p, rfl, _, hj⟩
        · exact wpAny_pure (hnone (endF hr hi hno))
        · exact wpAny_pure (hsome j p hj))
  · dsimp only
    refine wpAny_ite_split (fun hall => plain) (fun hall => ?_)
    refine wpAny_ite_split (fun h => absurd h hany) (fun _ => ?_)
    refine wpAny_ite_split (fun _ => wpAny_bind (wpAny_pure ?_)) (fun _ => wpAny_bind (tellU hst ?_)) <;> (
      rw [if_neg (by simp)]
      refine wpAny_bind ?_
      refine wpAny_forIn_list _
        (fun rest b s' => s' = s ∧ ∃ i hit, b = (none, hit) ∧ rest = (List.range' i (es.size - i)).filter (fun i => (es[i]?.map (·.hash)) == some (knd.hash k)) ∧ i ≤ es.size ∧
          ((hit = none ∧ ∀ (j : Nat) (p : Addr × Value), j < i → xs[j]? ≠ some (k, p)) ∨ ∃ (j : Nat) (p : Addr × Value), hit = some j ∧ j < i ∧ xs[j]? = some (k, p))) _ ?_ ?_ _ _
        ⟨rfl, 0, none, rfl, by rw [placesWithHash, List.range_eq_range', Nat.sub_zero], Nat.zero_le _, .inl ⟨rfl, fun _ _ h => absurd h (Nat.not_lt_zero _)⟩⟩
      · rintro x rest b s' ⟨rfl, i, hit, rfl, hr, hi, hH⟩
        obtain ⟨hix, hlt, hskip, hrest'⟩ := stepF hr hi
        obtain ⟨⟨k', b, v'⟩, hkv⟩ : ∃ y, xs[x]? = some y := ⟨xs[x]'(by rw [← hsz]; exact hlt), List.getElem?_eq_getElem _⟩
        have hib : knd.is s'.heap k' b := his _ (List.mem_of_getElem? hkv)
        have hex : es[x]? = some ⟨knd.hash k', knd.val k' b, v'⟩ := by rw [entry_at he x, hkv]; rfl
        have hHx : (hit = none ∧ ∀ (j : Nat) (p : Addr × Value), j < x → xs[j]? ≠ some (k, p)) ∨ ∃ (j : Nat) (p : Addr × Value), hit = some j ∧ j < x ∧ xs[j]? = some (k, p) := by
          rcases hH with ⟨h0, hno⟩ | ⟨j, p, h1, hji, hj⟩
          · exact .inl ⟨h0, skipF hno hskip⟩
          · exact .inr ⟨j, p, h1, by omega, hj⟩
        have hstay : ¬ k' = k → ((hit = none ∧ ∀ (j : Nat) (p : Addr × Value), j < x + 1 → xs[j]? ≠ some (k, p)) ∨ ∃ (j : Nat) (p : Addr × Value), hit = some j ∧ j < x + 1 ∧ xs[j]? = some (k, p)) := by
          intro hne
          rcases hHx with ⟨h0, hno⟩ | ⟨j, p, h1, hjx, hj⟩
          · refine .inl ⟨h0, fun j p hjx hj => ?_⟩
            rcases Nat.lt_or_ge j x with h | h
            · exact hno j p h hj
            · have hjx' : j = x := by omega
              subst hjx'
              rw [hkv] at hj
              injection hj with hj
              injection hj with hj
              exact hne hj
          · exact .inr ⟨j, p, h1, by omega, hj⟩
        rw [hex]
        dsimp only
        by_cases hh : (knd.hash k' == knd.hash k) = true
        · rw [if_pos hh]
          refine wpAny_bind (wpAny_dictEpoch ho hd (wpAny_bind (eqU hu hib (wpAny_bind (wpAny_dictEpoch ho hd ?_)))))
          show wpAny _ _ (if (ep != ep) = true then _ else _) _ E _
          rw [if_neg (by simp)]
          by_cases hkk : k' = k
          · rw [decide_eq_true hkk]
            subst hkk
            rcases hHx with ⟨rfl, _⟩ | ⟨j, p, _, hjx, hj⟩
            · first | rw [if_pos rfl] | skip
              simp only [Option.isSome_none, Bool.false_eq_true, if_false]
              first | refine wpAny_bind (wpAny_pure ?_) | skip
              refine wpAny_bind (wpAny_rule ?_)
              split
              · exact wpAny_pure (wpAny_pure (hsome x _ hkv))
              · exact wpAny_pure ⟨rfl, x + 1, some x, rfl, hrest', hlt, .inr ⟨x, _, rfl, Nat.lt_succ_self x, hkv⟩⟩
            · exact absurd (idxH_unique hn hj hkv) (by omega)
          · rw [decide_eq_false hkk]
            simp only [Bool.false_eq_true, if_false]
            refine wpAny_bind (wpAny_rule ?_)
            first | rw [if_neg (by simp)] | skip
            first
              | exact wpAny_pure ⟨rfl, x + 1, hit, rfl, hrest', hlt, hstay hkk⟩
              | exact wpAny_bind (wpAny_pure (wpAny_pure ⟨rfl, x + 1, hit, rfl, hrest', hlt, hstay hkk⟩))
        · rw [if_neg hh]
          refine wpAny_pure ⟨rfl, x + 1, hit, rfl, hrest', hlt, hstay ?_⟩
          intro hkk
          rw [hkk] at hh
          simp at hh
      · rintro b s' ⟨rfl, i, hit, rfl, hr, hi, hH⟩
        rcases hH with ⟨rfl, hno⟩ | ⟨j, p, rfl, _, hj⟩
        · exact wpAny_pure (hnone (endF hr hi hno))
        · exact wpAny_pure (hsome j p hj))
end
end HD

namespace HD
open PySem PySem.Spec PyProof.Rows L2
section
variable {prog : Program} {w : World} {K : Type} [DecidableEq K] {knd : HK prog w K} {A : Around} {E : Value → Shared → Prop} {s : Shared}
/-- d[key] = v -/
theorem dictSet_held {d a : Addr} {xs : Row K} {k : K} {v : Value} {Q : Unit → Shared → Prop} (hu : knd.room A) (hkey : knd.is s.heap k a) (hm : DictAt knd s.heap d xs)
    (hQ : ∀ h', DictAt knd h' d (storedH xs k a v) → Heap.SameBut d s.heap h' → Q () { s with heap := h', toks := s.toks + knd.draws k }) (hsz : xs.length ≤ sizeLine) :
    wpAny (model prog w) A (dictSet d (knd.val k a) v) Q E s := by
  obtain ⟨o, es, ep, ho, hc, hd, he, his, hn⟩ := hm
  unfold dictSet
  try with_reducible refine wpAny_holding ?_
  refine wpAny_bind (knd.pyHash hu hkey ?_)
  unfold dictSetHashed
  try with_reducible refine wpAny_holding ?_
  have keepK : ∀ {h' : Heap} {x : K} {b : Addr}, Heap.SameBut d s.heap h' → knd.is s.heap x b → knd.is h' x b := fun hs hb => knd.keeps hb ho hd hs
  refine wpAny_bind (dictFind_held (s := { s with toks := s.toks + knd.draws k }) hu hkey rfl ho hd he his hn ?_ ?_)
  · intro hno
    have hnot : k ∉ xs.map (·.1) := not_mem_keys_of_get hno
    refine wpAny_bind (wpAny_rule (wpAny_updateDictKeys (hz := by have e := size_of he; omega) (s := { s with toks := s.toks + knd.draws k }) ho hd (hQ _ ⟨_, _, ep + 1, Heap.get?_update_self _ ho (Obj.isFreed_of_dict (Obj.data_mapDictKeys hd _)),
      hc.mapDictKeys _, Obj.data_mapDictKeys hd _, ?_, ?_, ?_⟩ (Heap.SameBut.update ..))))
    · rw [storedH_new (atKey_none_of_get hno)]
      simp [he, entryOf]
    · rw [storedH_new (atKey_none_of_get hno)]
      intro x hx
      rcases List.mem_append.mp hx with hx | hx
      · exact keepK (Heap.SameBut.update ..) (his x hx)
      · have e := List.mem_singleton.mp hx
        subst e
        exact keepK (Heap.SameBut.update ..) hkey
    · rw [storedH_new (atKey_none_of_get hno), List.map_append, List.nodup_append]
      refine ⟨hn, by simp, fun x hx y hy => ?_⟩
      have e := List.mem_singleton.mp hy
      subst e
      exact fun z => hnot (z ▸ hx)
  · intro j p hj
    refine wpAny_bind (wpAny_rule (wpAny_bind (wpAny_updateDict (s := { s with toks := s.toks + knd.draws k }) ho hd (wpAny_point (hQ _ ⟨_, _, ep, Heap.get?_update_self _ ho (Obj.isFreed_of_dict (Obj.data_mapDict hd _)),
      hc.mapDict _, Obj.data_mapDict hd _, ?_, ?_, ?_⟩ (Heap.SameBut.update ..))))))
    · rw [storedH_old (atKey_of_get hn hj)]
      have := modify_map_putAt (entryOf knd) (fun e : DictEntry => { e with val := v }) k v (fun _ _ => rfl) hn hj
      rw [← he] at this
      obtain ⟨l⟩ := es
      simpa using this
    · rw [storedH_old (atKey_of_get hn hj)]
      intro x hx
      obtain ⟨y, hy, rfl⟩ := List.mem_map.mp hx
      unfold putAt
      split <;> exact keepK (Heap.SameBut.update ..) (his y hy)
    · rw [storedH_old (atKey_of_get hn hj), keys_map_putAt]
      exact hn
theorem setItem_held {d a : Addr} {xs : Row K} {k : K} {v : Value} {Q : Unit → Shared → Prop} (hu : knd.room A.in1) (hkey : knd.is s.heap k a) (hm : DictAt knd s.heap d xs)
    (hQ : ∀ h', DictAt knd h' d (storedH xs k a v) → Heap.SameBut d s.heap h' → Q () { s with heap := h', toks := s.toks + knd.draws k }) (hsz : xs.length ≤ sizeLine) :
    wpAny (model prog w) A (setItem (.ref d) (knd.val k a) v) Q E s := by
  unfold setItem
  try with_reducible refine wpAny_holding ?_
  refine wpAny_bind (wpAny_sequenceKey hm.typeIs (by decide) ?_)
  refine wpAny_bind (wpAny_callSpecial?_slot (name := Str.ofString "__setitem__") hm.typeIs slot_dict_setitem
    (wpAny_call_entry slot_dict_setitem hm.typeIs entry_dict_setitem ?_ (args_dict_setitem _ _ _)))
  show wpAny _ _ (Builtin.Dict.notOrdered "__setitem__" ⟨[.ref d, knd.val k a, v], []⟩ >>= _) _ _ s
  refine wpAny_bind (wpAny_notOrdered_dict hm.typeIs ?_)
  show wpAny _ _ (dictSet d (knd.val k a) v >>= _) _ _ s
  exact wpAny_bind (dictSet_held hu hkey hm (fun h' hm' hs' => wpAny_pure ⟨.none, rfl, wpAny_pure (hQ h' hm' hs')⟩) hsz)
/-- {key: v} -/
theorem display_held {env : PySem.Env} {kx vx : Expr} {pos : Pos} {Q : Value → Shared → Prop} (hu : knd.room A)
    (h : wpAny (model prog w) A (evalPairs (pairTrees [some kx] [vx] env pos)) (fun vs s₁ => ∃ k a v, vs = [(knd.val k a, v)] ∧ knd.is s₁.heap k a ∧ DictAt knd s₁.heap s.heap.objs.size [] ∧
      ∀ h' tk, DictAt knd h' s.heap.objs.size [(k, a, v)] → Heap.SameBut s.heap.objs.size s₁.heap h' → Q (.ref s.heap.objs.size) { s₁ with heap := h', toks := tk }) E
      { s with heap := s.heap.push { cls := .type "dict", data := .dict #[] } }) :
    wpAny (model prog w) A (eval (.Dict [some kx] [vx] pos) env) Q E s := by
  have hn : (pairTrees [some kx] [vx] env pos).length = 1 := pairTrees_length [some kx] [vx] env pos rfl rfl
  rw [arm_eval_Dict, zip_pairTrees [some kx] [vx] env pos rfl rfl, dictDisplay_pairs _ (by intro z; rw [z] at hn; cases hn) (by omega)]
  refine wpAny_bind (wpAny_standAt (wpAny_bind ?_))
  unfold subDict
  refine wpAny_bind (wpAny_alloc ?_)
  refine wpAny_bind (wpAny_holding ?_)
  rw [if_pos (by omega)]
  refine wpAny_bind (wpAny_mono h (fun vs s₁ h₁ => ?_) fun _ _ e => e)
  obtain ⟨k, a, v, rfl, hk, hm, hQ⟩ := h₁
  refine wpAny_holding ?_
  refine wpAny_bind ?_
  rw [List.forIn_cons]
  refine wpAny_bind (wpAny_bind (dictSet_held hu hk hm (fun h' hm' hs' => wpAny_pure ?_) (Nat.zero_le _)))
  dsimp only
  rw [List.forIn_nil]
  exact wpAny_pure (wpAny_pure (wpAny_pure (wpAny_pure (hQ h' _ hm' hs'))))
end
/-! ### None and tuples of ints -/
def heldIs (prog : Program) (w : World) (h : Heap) (k : Option (List Int)) (a : Addr) : Prop := match k with
  | none => True
  | some ks => IsTupleKey (intKind prog w) h ks a
def heldVal (k : Option (List Int)) (a : Addr) : Value := match k with
  | none => .none
  | some _ => .ref a
theorem isTuple_of {prog : Program} {w : World} {h : Heap} {ks : List Int} {a : Addr} (x : IsTupleKey (intKind prog w) h ks a) : ∃ items, h.IsTuple a items := by
  obtain ⟨o, items, n, ho, hc, hd, _⟩ := x
  exact ⟨items, o, ho, hc, n, hd⟩
def heldKind (prog : Program) (w : World) : HK prog w (Option (List Int)) where
  is := heldIs prog w
  val := heldVal
  hash := fun k => match k with
    | none => (noneKind prog w).hash none
    | some ks => tupleKeyHash (intKind prog w) ks
  draws := fun k => match k with
    | none => 1
    | some ks => ks.length + 1
  room := fun A => A.units < cLine
  shape := fun k a => match k with
    | none => .inl rfl
    | some _ => .inr rfl
  inj := fun {h a b x y} hx hy e => by
    cases x with
    | none =>
      cases y with
      | none => rfl
      | some ys => cases e
    | some xs =>
      cases y with
      | none => cases e
      | some ys =>
        cases e
        have hx : IsTupleKey (intKind prog w) h xs a := hx
        have hy : IsTupleKey (intKind prog w) h ys a := hy
        exact congrArg some (hx.inj hy)
  keeps := fun {h h' k a d o es ep} hk ho hd hs => by
    cases k with
    | none => exact True.intro
    | some ks =>
      have hk : IsTupleKey (intKind prog w) h ks a := hk
      exact hk.keeps ho hd hs
  pyHash := @fun A E s k a Q hu hk h => by
    cases k with
    | none => exact (noneKind prog w).pyHash (k := none) (v := .none) rfl h
    | some ks =>
      have hk : IsTupleKey (intKind prog w) s.heap ks a := hk
      exact wpAny_pyHash_tuple hu hk h
  eqBool := @fun A E s x y a b Q hu hx hy h => by
    cases x with
    | none =>
      cases y with
      | none => exact (noneKind prog w).eqBool (a := none) (b := none) (u := .none) (v := .none) rfl rfl h
      | some ys =>
        obtain ⟨items, it⟩ := isTuple_of (show IsTupleKey (intKind prog w) s.heap ys b from hy)
        rw [decide_eq_false (fun z => nomatch z)] at h
        exact SeqAt.EqAt.none_tuple it hu _ _ _ _ h
    | some xs =>
      have hx : IsTupleKey (intKind prog w) s.heap xs a := hx
      cases y with
      | none =>
        obtain ⟨items, it⟩ := isTuple_of hx
        rw [decide_eq_false (fun z => nomatch z)] at h
        exact SeqAt.EqAt.tuple_none it hu _ _ _ _ h
      | some ys =>
        have hy : IsTupleKey (intKind prog w) s.heap ys b := hy
        have e : decide ((some xs : Option (List Int)) = some ys) = decide (xs = ys) := by simp
        rw [e] at h
        exact wpAny_eqBool_tuple hu hx hy h
  quiet := @fun A E s k a Q hk h => by
    cases k with
    | none =>
      have e : eqIsQuiet 8 (heldVal none a) = pure true := eqIsQuiet_byValue 8 rfl
      rw [e]
      exact wpAny_pure h
    | some ks =>
      have hk : IsTupleKey (intKind prog w) s.heap ks a := hk
      exact wpAny_eqIsQuiet_tuple hk h
end HD
/-! HHeld: dicts of None and tuples of ints, in the hand layer's words. -/
namespace HD
open PySem PySem.Spec PyProof.Rows L2

abbrev Hk := Option (List Int)
def hashOf : Hk → Int
  | none => reduceHash 0xFCA86420
  | some ks => reduceHash (Builtin.Tuple.tupleHashOf (ks.map hashInt))
def ent (x : Hk × Addr × Value) : DictEntry := ⟨hashOf x.1, heldVal x.1 x.2.1, x.2.2⟩
theorem ent_eq (P : Program) (w : World) (x : Hk × Addr × Value) : entryOf (heldKind P w) x = ent x := by
  obtain ⟨k, a, v⟩ := x
  cases k <;> rfl
theorem ents_eq (P : Program) (w : World) (xs : Row Hk) : xs.map (entryOf (heldKind P w)) = xs.map ent := List.map_congr_left fun x _ => ent_eq P w x
/-- the dict at d, without its keys' objects -/
structure HldRaw (d : Addr) (rows : Row Hk) (h : Heap) : Prop where
  no : (d == sysModules) = false
  len : rows.length ≤ sizeLine
  nd : (rows.map (·.1)).Nodup
  ob : ∃ o es ep, h.get? d = some o ∧ o.ExactDict ∧ o.data = .dict es ep ∧ es.toList = rows.map ent
def hld (d : Addr) (rows : Row Hk) : HO := .ext (HldRaw d rows)
theorem hld_ok {P : Program} {w : World} {H : Hp} {h : Heap} {d : Addr} {rows : Row Hk} (r : HldRaw d rows h) : ObjOk P w H h d (hld d rows) := by
  obtain ⟨o, es, ep, ho, r2⟩ := r.ob
  refine ⟨r, ⟨o, ho⟩, fun h1 h2 p k => ?_⟩
  obtain ⟨o, es, ep, ho, r3⟩ := p.ob
  exact ⟨p.no, p.len, p.nd, o, es, ep, k o ho, r3⟩
/-- the keys' tuples are there -/
def KeysIn (K : PySem.W.Frag) (H : Hp) (rows : Row Hk) : Prop := ∀ x ∈ rows, ∀ ks, x.1 = some ks → SqT K H x.2.1 (ks.map V.int)
/-- the value y is the key k, at a -/
def KeyAt (K : PySem.W.Frag) (H : Hp) (y : V) (k : Hk) (a : Addr) : Prop := match k with
  | none => y = .non
  | some ks => y = .ref a ∧ SqT K H a (ks.map V.int)
def keyV (x : Hk × Addr × Value) : V := match x.1 with
  | none => .non
  | some _ => .ref x.2.1
section
variable {X : Cx} {pins : List (Addr × Obj)} {σ : L2.St} {H : Hp} {s : Shared} {d : Addr} {rows : Row Hk}
theorem hld_at (I : Inv X pins σ H s) (e : H d = some (hld d rows)) : HldRaw d rows s.heap := (show ObjOk X.prog X.w H s.heap d (hld d rows) from I.hok d _ e).1
theorem key_is (I : Inv X pins σ H s) {y : V} {k : Hk} {a : Addr} (h : KeyAt X.K H y k a) : heldIs X.prog X.w s.heap k a := by
  cases k with
  | none => exact True.intro
  | some ks => exact Inv.isT I h.2
theorem key_val {K : PySem.W.Frag} {y : V} {k : Hk} {a : Addr} {u : Value} (h : KeyAt K H y k a) (ry : RelV y u) : u = heldVal k a := by
  cases k with
  | none =>
    have h : y = .non := h
    subst h
    exact ry
  | some ks =>
    obtain ⟨rfl, _⟩ := (show y = .ref a ∧ _ from h)
    exact ry
theorem dict_of (I : Inv X pins σ H s) (e : H d = some (hld d rows)) (hk : KeysIn X.K H rows) : DictAt (heldKind X.prog X.w) s.heap d rows := by
  have r := hld_at I e
  obtain ⟨o, es, ep, ho, hx, hd, he⟩ := r.ob
  refine ⟨o, es, ep, ho, hx, hd, he.trans (ents_eq _ _ _).symm, fun x hx => ?_, r.nd⟩
  obtain ⟨k, a, v⟩ := x
  cases k with
  | none => exact True.intro
  | some ks => exact Inv.isT I (hk _ hx ks rfl)
theorem raw_of {P : Program} {w : World} {h : Heap} (no : (d == sysModules) = false) (len : rows.length ≤ sizeLine) (x : DictAt (heldKind P w) h d rows) : HldRaw d rows h := by
  obtain ⟨o, es, ep, ho, hx, hd, he, _, hn⟩ := x
  exact ⟨no, len, hn, o, es, ep, ho, hx, hd, he.trans (ents_eq _ _ _)⟩
theorem storedH_le (rows : Row Hk) (k : Hk) (a : Addr) (v : Value) : (storedH rows k a v).length ≤ rows.length + 1 := by
  unfold storedH
  split
  · rw [List.length_map]; omega
  · rw [List.length_append]; exact Nat.le_refl _
/-- d[y] = r -/
theorem h_put {A : Around} {E : Value → Shared → Prop} {Q : Unit → Shared → Prop} {y : V} {k : Hk} {a : Addr} {u r : Value} (hu : A.units + 1 < cLine) (I : Inv X pins σ H s) (e : H d = some (hld d rows)) (hk : KeysIn X.K H rows) (hy : KeyAt X.K H y k a) (ry : RelV y u) (hl : rows.length < sizeLine)
    (h : ∀ s', Inv X pins σ (upd H d (hld d (storedH rows k a r))) s' → Q () s') : wpAny (model X.prog X.w) A (setItem (.ref d) u r) Q E s := by
  rw [key_val hy ry]
  have r0 := hld_at I e
  have hle := storedH_le rows k a r
  refine setItem_held (knd := heldKind X.prog X.w) (show A.in1.units < cLine from hu) (key_is I hy) (dict_of I e hk) (fun h' dd' hs => h _ ?_) (by omega)
  obtain ⟨o, es, ep, ho, _⟩ := id dd'
  exact d_write I (by rw [e]; exact True.intro) hs ⟨o, ho⟩ (hld_ok (raw_of r0.no (by omega) dd'))
end
/-- {k: v} -/
def tHDisp (K : PySem.W.Frag) (tk tv : TE) : TE := fun σ H Q => ∀ p, H p = none → tk σ (upd H p (hld p [])) fun x H1 => tv σ H1 fun y H2 => H2 p = some (hld p []) ∧ ∃ k a, KeyAt K H2 x k a ∧ ∀ r, RelV y r → Q (.ref p) (upd H2 p (hld p [(k, a, r)]))
section
variable {X : Cx} {kx vx : Expr} {pos : Pos} {tk tv : TE}
theorem raw_new {h : Heap} (hb : sysModules < h.objs.size) : HldRaw h.objs.size [] (h.push { cls := .type "dict", data := .dict #[] }) := by
  refine ⟨?_, Nat.zero_le _, List.nodup_nil, _, #[], 0, Heap.get?_push_size _ rfl, ⟨rfl, rfl, rfl⟩, rfl, rfl⟩
  exact beq_eq_false_iff_ne.mpr fun z => absurd (z ▸ hb) (Nat.lt_irrefl _)
theorem pe_hdisp (hu : X.A.units + 1 < cLine) (hk : PE X kx tk) (hv : PE X vx tv) : PE X (.Dict [some kx] [vx] pos) (tHDisp X.K tk tv) := by
  refine ⟨fun pins s σ H Q I q => ?_⟩
  have hn := I.hok.fresh (Nat.le_refl s.heap.objs.size)
  have I1 := I.laid (a := s.heap.objs.size) (o := hld s.heap.objs.size []) (h' := s.heap.push { cls := .type "dict", data := .dict #[] }) (t' := s.toks) (fun _ _ q => Heap.get?_push_of_some _ q) (Nat.le_refl _) (hld_ok (raw_new I.big))
  refine display_held (knd := heldKind X.prog X.w) (show X.A.units < cLine by omega) (pairTrees_cons_walk (thn (hk.run pins _ σ _ _ I1 (q _ hn)) fun u s1 ⟨x, H1, I2, rx, q1⟩ => thn (hv.run pins s1 σ H1 _ I2 q1) fun r s2 ⟨y, H2, I3, ry, e, k, a, hy, q2⟩ => pairTrees_nil_walk ?_))
  have r0 := hld_at I3 e
  refine ⟨k, a, r, by rw [key_val hy rx]; rfl, key_is I3 hy, dict_of I3 e (fun x hx => by simp at hx), fun h' tk dd hs => ?_⟩
  obtain ⟨o, es, ep, ho, _⟩ := id dd
  exact ⟨.ref s.heap.objs.size, _, d_write I3 (by rw [e]; exact True.intro) hs ⟨o, ho⟩ (hld_ok (raw_of r0.no (by rw [sizeLine_eq]; exact (by decide : 1 ≤ 16777216)) dd)), rfl, q2 r ry⟩
/-- list(d) -/
def rHList : List V → Hp → VK → Prop := fun xs H Q => ∃ d rows, xs = [V.ref d] ∧ H d = some (hld d rows) ∧ ∀ p, H p = none → Q (.ref p) (upd H p (.lst (rows.map keyV)))
theorem call_hlist (hc : X.calm = true) : CallR X (.type "list") rHList := by
  intro pins s σ H xs us Q I r h
  obtain ⟨d, rows, rfl, e, q⟩ := h
  obtain ⟨u, rfl, rx⟩ := r.one
  cases rx
  have r0 := hld_at I e
  obtain ⟨o, es, ep, ho, hx, hd, he⟩ := r0.ob
  have hz : es.size = rows.length := by rw [← Array.length_toList, he, List.length_map]
  refine PySem.W.kdl_call (kdl_raw r0.no hx hd) (I.ok.hd hc) ho (by rw [hz]; exact r0.len) fun h' tk acc' c' kp e2 it => ?_
  refine ⟨.ref s.heap.objs.size, upd H s.heap.objs.size (.lst (rows.map keyV)), I.laid (t' := tk) kp (Nat.le_refl _) ⟨by rw [List.length_map]; exact r0.len, acc'.toList, c', ?_, by rw [Array.toArray_toList]; exact e2⟩, rfl, q _ (I.hok.fresh (Nat.le_refl _))⟩
  refine vals_of_at (by
    have e1 : acc'.toList.length = acc'.size := by simp
    rw [List.length_map, e1, it.1, hz]) fun j x u h1 h2 => ?_
  obtain ⟨en, hen, rfl⟩ := it.2 j u (by rw [← Array.getElem?_toList]; exact h2)
  rw [← Array.getElem?_toList, he, List.getElem?_map] at hen
  rw [List.getElem?_map] at h1
  cases hr : rows[j]? with
  | none => rw [hr] at h1; cases h1
  | some row =>
    rw [hr] at h1 hen
    cases h1
    cases hen
    obtain ⟨k, a, v⟩ := row
    cases k <;> rfl
end
end HD
/-! set(xs) of a list of ints, told so that sorted() of it can be told (SetR): the kit tells it of a tuple. -/
namespace HSetL
open PySem PySem.Spec PyProof.Rows L2

abbrev emptySet (w : World) : Obj := { cls := .type "set", dict := none, data := .set #[] 0 (.fresh 0 0 (!w.params.followText "set-order")) }
section
variable {P : Program} {w : World} {A : Around} {E : Value → Shared → Prop} {s : Shared}
/-- what the set's __init__ leaves -/
def Filled (w : World) (s : Shared) (ns : List Int) (s2 : Shared) : Prop :=
  ∃ h' tk c, s2 = { s with heap := h', toks := tk } ∧ SetR w h' s.heap.objs.size (fun j => decide (j ∈ ns)) c ∧ c ≤ ns.length ∧ ∀ b o, s.heap.get? b = some o → h'.get? b = some o
theorem int_row {items : Array Value} {ns : List Int} (hit : IntsAre items.toList ns) : items.size = ns.length ∧ ∀ (i : Nat) (v : Value), items[i]? = some v → ∃ k t, ns[i]? = some k ∧ v = .int k t := by
  have hsz : items.size = ns.length := by rw [← IntsAre.length hit, Array.length_toList]
  refine ⟨hsz, fun i v hv => ?_⟩
  have hi : i < ns.length := hsz ▸ (Array.getElem?_eq_some_iff.mp hv).1
  obtain ⟨t, e⟩ := PyProof.Rows.IntsAre.int_at hit i v (by rw [Array.getElem?_toList]; exact hv)
  refine ⟨ns[i], t, List.getElem?_eq_getElem hi, ?_⟩
  rw [e, List.getD_eq_getElem?_getD, List.getElem?_eq_getElem hi]
  rfl
set_option maxHeartbeats 3200000 in
theorem call_set_lstI {l : Addr} {items : Array Value} (ns : List Int) {Q : Value → Shared → Prop} (hh : A.handled = none) (hl : s.heap.IsList l items) (hit : IntsAre items.toList ns) (hb : ns.length + 1 < scanBound)
    (h : ∀ s2, Filled w s ns s2 → Q (.ref s.heap.objs.size) s2) :
    wpAny (model P w) A (call (.type "set") [.ref l]) Q E s := by
  obtain ⟨hisz, hval⟩ := int_row hit
  obtain ⟨c, tl, hmro⟩ := F.called_set.mro
  have hmade := F.called_set.made
  have hsub := F.called_set.sub
  refine wpAny_call (codeAny_of_tree ?_)
  show wpAny _ _ (callAny (.type "set") _) _ _ _
  refine wpAny_pure ⟨Code.quiet_builtin _ (by decide +kernel), codeAny_builtin F.entry_type_call ?_⟩
  rw [Around.under_plain (weight_type_call_type "set" [.ref l] []) rfl]
  have h1 := F.called_set.notType
  have h2 := F.called_set.canCreate
  have hct := F.typeCall_set_1 (.ref l)
  repeat (any_goals (first | assumption | wp_step))
  refine codeAny_mono (code_set_led1 (.ref l) (E := E) (Q₁ := fun obj s1 => obj = .ref s.heap.objs.size ∧ s1 = { s with heap := s.heap.push (emptySet w) }) ⟨rfl, rfl⟩) fun r s1 hr => ?_
  match r, hr with
  | .error e, hr => exact hr
  | .ok (.ret obj), hr =>
    obtain ⟨rfl, rfl⟩ := hr
    have hS : (s.heap.push (emptySet w)).get? s.heap.objs.size = some (emptySet w) := Heap.get?_push_size _ rfl
    have hT : Shared.TypeIs { s with heap := s.heap.push (emptySet w) } (.ref s.heap.objs.size) "set" := ⟨_, hS, rfl⟩
    have hli := F.called_set.init.lookup
    have hbi := F.called_set.init.bind (.ref s.heap.objs.size)
    repeat (any_goals (first | assumption | wp_step))
    refine codeAny_mono (codeAny_call_builtin (R := wants (fun r s2 => r = .none ∧ Filled w s ns s2) E) F.called_set.init.plain F.entry_set_init (check_set_init_1 hT ?_)) fun r2 s2 hr2 => ?_
    · obtain ⟨⟨ocls, odict, odata, oslots⟩, hol, hcl, nl, hdl⟩ := hl
      simp only at hcl hdl
      subst hcl; subst hdl
      have hlS : l < s.heap.objs.size := Heap.lt_size hol
      have hol' : (s.heap.push (emptySet w)).get? l = some { cls := .type "list", dict := odict, data := .seq items nl, slots := oslots } := Heap.get?_push_of_some _ hol
      have hsls := F.sub_list_set
      have hslf := F.sub_list_frozenset
      have hne : (Value.type "list" == Value.type "dict") = false := by decide
      have hl1 : (s.heap.push (emptySet w)).IsList l items := ⟨_, hol', rfl, nl, rfl⟩
      unfold Builtin.«set.__init__» noKeywords Builtin.Frozenset.updateFrom
      generalize hPI : pyIter = PI
      wp_walk
      subst hPI
      refine wpAny_pyIter_list hl1 (wpAny_bind (wpAny_runValue ?_))
      have hh3 : A.in1.in1.in1.handled = none := by simp [hh]
      have hneI : l ≠ (s.heap.push (emptySet w)).objs.size := by
        rw [Heap.size_push]; exact Nat.ne_of_lt (Nat.lt_succ_of_lt hlS)
      have hSf : s.heap.objs.size ∉ [(s.heap.push (emptySet w)).objs.size, l] := by
        rw [Heap.size_push]; simp only [List.mem_cons, List.not_mem_nil, or_false, not_or]
        exact ⟨Nat.ne_of_lt (Nat.lt_succ_self _), Nat.ne_of_gt hlS⟩
      refine set_update_ints ((Walks.list hh3 _ l hneI items).toS) s.heap.objs.size hSf ns hisz hb hval (items.size - 0) 0 _ (by omega) (Nat.zero_le _)
        ⟨⟨_, Heap.get?_push_size _ rfl, rfl, rfl⟩, (hl1.push _)⟩ ⟨0, Nat.le_refl 0, setR_new_at (Heap.get?_push_of_some _ hS)⟩ ?_
      rintro ⟨h', g2, d', tk', os'⟩ c' hm hc' hS'
      have eg : g2 = s.gens := hm.gens
      have ed : d' = s.drawn := hm.drawn
      have eo : os' = s.os := hm.os
      subst eg; subst ed; subst eo
      show wpAny _ _ _ _ _ _
      refine wpAny_pure ?_
      show wpAny _ _ (ret Value.none) _ _ _
      refine wpAny_pure ⟨rfl, h', tk', c', rfl, hS', hisz ▸ hc', fun b o e => ?_⟩
      have hb0 : b < s.heap.objs.size := Heap.lt_size e
      have hb2 : b ≠ (s.heap.push (emptySet w)).objs.size := by
        rw [Heap.size_push]; exact Nat.ne_of_lt (Nat.lt_succ_of_lt hb0)
      exact hm.heap b o (by simp only [List.mem_cons, List.not_mem_nil, or_false, not_or]; exact ⟨Nat.ne_of_lt hb0, hb2⟩) (Heap.get?_push_of_some _ (Heap.get?_push_of_some _ e))
    · match r2, hr2 with
      | .error e, hr2 => exact hr2
      | .ok (.ret r), hr2 =>
        obtain ⟨rfl, hf⟩ := hr2
        repeat (any_goals (first | assumption | wp_step))
        obtain ⟨h', tk, c', rfl, f⟩ := hf
        exact h _ ⟨h', tk, c', rfl, f⟩
end
end HSetL
/-! AB: an abstract machine over data, and how the hand layer's judgements follow it. -/
namespace AB
open PySem PySem.Spec PyProof.Rows L2

inductive D where
  | non | bl (b : Bool) | int (i : Int) | str (x : Str) | tup (ds : List D) | lst (ds : List D) | rol (ds : List D) | loc (n : Nat) | con (a : Addr)
inductive AO where
  | lst (ds : List D)
  | ins (C : Str) (fs : List (Str × D))
  | dct (kvs : List (L2.Key × D))
  /-- a dict while a loop walks it -/
  | lck (kvs : List (L2.Key × D))
  /-- a dict whose keys are None and tuples of ints: its keys -/
  | hld (ks : List HD.Hk)
abbrev AH := List AO
abbrev Env := List (Option D)

/-- what stands for ever (S), what must stay as it is now (F), where the machine's objects lie (mu), how many they are (N) -/
structure Wd where
  S : Hp
  F : Hp
  mu : Nat → Addr
  N : Nat
  LK : Hp

mutual
inductive RepV (K : PySem.W.Frag) (G : Hp) (mu : Nat → Addr) (N : Nat) : V → D → Prop
  | non : RepV K G mu N .non .non
  | bl (b : Bool) : RepV K G mu N (.bl b) (.bl b)
  | int (i : Int) : RepV K G mu N (.int i) (.int i)
  | str (x : Str) : RepV K G mu N (.str x) (.str x)
  | tup {a : Addr} {xs : List V} {ds : List D} : SqT K G a xs → RepAll K G mu N xs ds → RepV K G mu N (.ref a) (.tup ds)
  | lst {a : Addr} {xs : List V} {ds : List D} : Rd G a (.lst xs) → RepAll K G mu N xs ds → RepV K G mu N (.ref a) (.lst ds)
  | rol {a : Addr} {xs : List V} {ds : List D} : SqL K G a xs → RepAll K G mu N xs ds → RepV K G mu N (.ref a) (.rol ds)
  | loc {n : Nat} : n < N → RepV K G mu N (.ref (mu n)) (.loc n)
  | con {a : Addr} : RepV K G mu N (.ref a) (.con a)
inductive RepAll (K : PySem.W.Frag) (G : Hp) (mu : Nat → Addr) (N : Nat) : List V → List D → Prop
  | nil : RepAll K G mu N [] []
  | cons {v : V} {vs : List V} {d : D} {ds : List D} : RepV K G mu N v d → RepAll K G mu N vs ds → RepAll K G mu N (v :: vs) (d :: ds)
end

section
variable {K : PySem.W.Frag} {G G' H H' : Hp} {mu mu' : Nat → Addr} {N N' : Nat}
def Ext (H H' : Hp) : Prop := ∀ a o, H a = some o → H' a = some o
theorem Ext.refl (H : Hp) : Ext H H := fun _ _ h => h
theorem Ext.trans {H H1 H2 : Hp} (a : Ext H H1) (b : Ext H1 H2) : Ext H H2 := fun x o h => b x o (a x o h)
theorem Ext.new {H : Hp} {p : Addr} {o : HO} (h : H p = none) : Ext H (upd H p o) := fun a u e => by
  rw [upd_ne (ne_of_none e h)]
  exact e
theorem Ext.rd {a : Addr} {u : HO} (e : Ext H H') (h : Rd H a u) : Rd H' a u := by
  rcases h with h | ⟨o, h⟩
  · exact .inl (e a _ h)
  · exact .inr ⟨o, e a _ h⟩
theorem Ext.l {a : Addr} {xs : List V} (e : Ext H H') (h : SqL K H a xs) : SqL K H' a xs := by
  rcases h with h | h
  · exact .inl (e.rd h)
  · exact .inr h
theorem Ext.t {a : Addr} {xs : List V} (e : Ext H H') (h : SqT K H a xs) : SqT K H' a xs := by
  rcases h with h | h
  · exact .inl (e.rd h)
  · exact .inr h
theorem Ext.free {p : Addr} (e : Ext H H') (h : H' p = none) : H p = none := by
  cases h1 : H p with
  | none => rfl
  | some o =>
    rw [e p o h1] at h
    cases h

mutual
theorem RepV.mono (e : Ext G G') (hN : N ≤ N') (hm : ∀ n, n < N → mu' n = mu n) : ∀ (d : D) (v : V), RepV K G mu N v d → RepV K G' mu' N' v d
  | .non, _, h => by cases h; exact .non
  | .bl _, _, h => by cases h; exact .bl _
  | .int _, _, h => by cases h; exact .int _
  | .str _, _, h => by cases h; exact .str _
  | .tup ds, _, h => by
    cases h with
    | tup a b => exact .tup (e.t a) (RepAll.mono e hN hm ds _ b)
  | .lst ds, _, h => by
    cases h with
    | lst a b => exact .lst (e.rd a) (RepAll.mono e hN hm ds _ b)
  | .rol ds, _, h => by
    cases h with
    | rol a b => exact .rol (e.l a) (RepAll.mono e hN hm ds _ b)
  | .loc n, _, h => by
    cases h with
    | loc a =>
      rw [← hm n a]
      exact .loc (Nat.lt_of_lt_of_le a hN)
  | .con _, _, h => by cases h; exact .con
theorem RepAll.mono (e : Ext G G') (hN : N ≤ N') (hm : ∀ n, n < N → mu' n = mu n) : ∀ (ds : List D) (vs : List V), RepAll K G mu N vs ds → RepAll K G' mu' N' vs ds
  | [], _, h => by cases h; exact .nil
  | d :: ds, _, h => by
    cases h with
    | cons a b => exact .cons (RepV.mono e hN hm d _ a) (RepAll.mono e hN hm ds _ b)
end
theorem RepAll.length : ∀ {vs : List V} {ds : List D}, RepAll K G mu N vs ds → vs.length = ds.length
  | _, _, .nil => rfl
  | _, _, .cons _ b => by rw [List.length_cons, List.length_cons, RepAll.length b]
theorem RepAll.append : ∀ {vs ws : List V} {ds es : List D}, RepAll K G mu N vs ds → RepAll K G mu N ws es → RepAll K G mu N (vs ++ ws) (ds ++ es)
  | _, _, _, _, .nil, h => h
  | _, _, _, _, .cons a b, h => .cons a (RepAll.append b h)
theorem RepAll.get : ∀ {vs : List V} {ds : List D} {i : Nat} {d : D}, RepAll K G mu N vs ds → ds[i]? = some d → ∃ v, vs[i]? = some v ∧ RepV K G mu N v d
  | _, _, _, _, .nil, e => by simp at e
  | _, _, 0, _, .cons a _, e => by
    simp at e
    subst e
    exact ⟨_, rfl, a⟩
  | _, _, i + 1, d, .cons _ b, e => by
    obtain ⟨v, h1, h2⟩ := RepAll.get (i := i) (d := d) b (by simpa using e)
    exact ⟨v, by simpa using h1, h2⟩
theorem RepAll.get' : ∀ {vs : List V} {ds : List D} {i : Nat} {v : V}, RepAll K G mu N vs ds → vs[i]? = some v → ∃ d, ds[i]? = some d ∧ RepV K G mu N v d
  | _, _, _, _, .nil, e => by simp at e
  | _, _, 0, _, .cons a _, e => by
    simp at e
    subst e
    exact ⟨_, rfl, a⟩
  | _, _, i + 1, d, .cons _ b, e => by
    obtain ⟨v, h1, h2⟩ := RepAll.get' (i := i) (v := d) b (by simpa using e)
    exact ⟨v, by simpa using h1, h2⟩
theorem RepAll.drop : ∀ {vs : List V} {ds : List D} (n : Nat), RepAll K G mu N vs ds → RepAll K G mu N (vs.drop n) (ds.drop n)
  | _, _, 0, h => h
  | _, _, _ + 1, .nil => .nil
  | _, _, n + 1, .cons _ b => RepAll.drop n b
theorem RepAll.take : ∀ {vs : List V} {ds : List D} (n : Nat), RepAll K G mu N vs ds → RepAll K G mu N (vs.take n) (ds.take n)
  | _, _, 0, _ => .nil
  | _, _, _ + 1, .nil => .nil
  | _, _, n + 1, .cons a b => .cons a (RepAll.take n b)
theorem RepAll.set {v : V} {d : D} (r : RepV K G mu N v d) : ∀ {vs : List V} {ds : List D} (n : Nat), RepAll K G mu N vs ds → RepAll K G mu N (vs.set n v) (ds.set n d)
  | _, _, _, .nil => .nil
  | _, _, 0, .cons _ b => .cons r b
  | _, _, n + 1, .cons a b => .cons a (RepAll.set r n b)
theorem RepAll.reverse : ∀ {vs : List V} {ds : List D}, RepAll K G mu N vs ds → RepAll K G mu N vs.reverse ds.reverse
  | _, _, .nil => .nil
  | _, _, .cons a b => by
    rw [List.reverse_cons, List.reverse_cons]
    exact (RepAll.reverse b).append (.cons a .nil)
theorem RepAll.eraseIdx : ∀ {vs : List V} {ds : List D} (n : Nat), RepAll K G mu N vs ds → RepAll K G mu N (vs.eraseIdx n) (ds.eraseIdx n)
  | _, _, _, .nil => .nil
  | _, _, 0, .cons _ b => b
  | _, _, n + 1, .cons a b => .cons a (RepAll.eraseIdx n b)
end

/-- what stands at a machine's object -/
def RepO (K : PySem.W.Frag) (w : Wd) (H : Hp) (a : Addr) : AO → Prop
  | .lst ds => ∃ xs, H a = some (.lst xs) ∧ RepAll K w.S w.mu w.N xs ds
  | .ins C fs => ∃ Ca dx fv, PySem.W.nsIn K mainGlobals C = some (some (.ref Ca)) ∧ H a = some (.ins Ca dx fv) ∧ fv.map (·.1) = fs.map (·.1) ∧ RepAll K w.S w.mu w.N (fv.map (·.2)) (fs.map (·.2)) ∧ w.S dx = some (.own a)
  | .dct kvs => ∃ kv, H a = some (.dK kv) ∧ kv.map (·.1) = kvs.map (·.1) ∧ RepAll K w.S w.mu w.N (kv.map (·.2)) (kvs.map (·.2))
  | .lck kvs => ∃ o kv, H a = some (.frz o (.dK kv)) ∧ w.LK a = some (.frz o (.dK kv)) ∧ kv.map (·.1) = kvs.map (·.1) ∧ RepAll K w.S w.mu w.N (kv.map (·.2)) (kvs.map (·.2))
  | .hld ks => ∃ rows, H a = some (HD.hld a rows) ∧ rows.map (·.1) = ks ∧ HD.KeysIn K w.S rows
structure RepH (K : PySem.W.Frag) (w : Wd) (H : Hp) (h : AH) : Prop where
  ex : Ext w.S H
  len : w.N = h.length
  inj : ∀ m n, m < w.N → n < w.N → w.mu m = w.mu n → m = n
  cell : ∀ n o, h[n]? = some o → w.S (w.mu n) = none ∧ RepO K w H (w.mu n) o
  exF : Ext w.F H
  dis : ∀ a u, w.F a = some u → w.S a = none ∧ ∀ n, n < w.N → w.mu n ≠ a
structure Le (w w' : Wd) : Prop where
  ex : Ext w.S w'.S
  n : w.N ≤ w'.N
  mu : ∀ n, n < w.N → w'.mu n = w.mu n
  f : w'.F = w.F
  lk : w'.LK = w.LK
/-- .. whatever must stay -/
structure LeX (w w' : Wd) : Prop where
  ex : Ext w.S w'.S
  n : w.N ≤ w'.N
  mu : ∀ n, n < w.N → w'.mu n = w.mu n
  lk : w'.LK = w.LK
theorem Le.x {w w' : Wd} (l : Le w w') : LeX w w' := ⟨l.ex, l.n, l.mu, l.lk⟩
theorem LeX.trans {a b c : Wd} (x : LeX a b) (y : LeX b c) : LeX a c :=
  ⟨x.ex.trans y.ex, Nat.le_trans x.n y.n, fun n hn => (y.mu n (Nat.lt_of_lt_of_le hn x.n)).trans (x.mu n hn), y.lk.trans x.lk⟩
theorem Le.refl (w : Wd) : Le w w := ⟨Ext.refl _, Nat.le_refl _, fun _ _ => rfl, rfl, rfl⟩
theorem Le.trans {a b c : Wd} (x : Le a b) (y : Le b c) : Le a c :=
  ⟨x.ex.trans y.ex, Nat.le_trans x.n y.n, fun n hn => (y.mu n (Nat.lt_of_lt_of_le hn x.n)).trans (x.mu n hn), y.f.trans x.f, y.lk.trans x.lk⟩
abbrev Rv (K : PySem.W.Frag) (w : Wd) : V → D → Prop := RepV K w.S w.mu w.N
abbrev Ra (K : PySem.W.Frag) (w : Wd) : List V → List D → Prop := RepAll K w.S w.mu w.N
theorem Rv_monoX {K : PySem.W.Frag} {w w' : Wd} {v : V} {d : D} (l : LeX w w') (h : Rv K w v d) : Rv K w' v d := RepV.mono l.ex l.n l.mu d v h
theorem Ra_monoX {K : PySem.W.Frag} {w w' : Wd} {v : List V} {d : List D} (l : LeX w w') (h : Ra K w v d) : Ra K w' v d := RepAll.mono l.ex l.n l.mu d v h
theorem Rv_mono {K : PySem.W.Frag} {w w' : Wd} {v : V} {d : D} (l : Le w w') (h : Rv K w v d) : Rv K w' v d := RepV.mono l.ex l.n l.mu d v h
theorem Ra_mono {K : PySem.W.Frag} {w w' : Wd} {v : List V} {d : List D} (l : Le w w') (h : Ra K w v d) : Ra K w' v d := RepAll.mono l.ex l.n l.mu d v h

section
variable {K : PySem.W.Frag} {w : Wd} {H : Hp} {h : AH}
theorem RepO.some {a : Addr} {o : AO} (r : RepO K w H a o) : ∃ u, H a = some u := by
  cases o with
  | lst ds => obtain ⟨xs, e, _⟩ := r; exact ⟨_, e⟩
  | ins C fs => obtain ⟨Ca, dx, fv, _, e, _⟩ := r; exact ⟨_, e⟩
  | dct kvs => obtain ⟨kv, e, _⟩ := r; exact ⟨_, e⟩
  | lck kvs => obtain ⟨o, kv, e, _⟩ := r; exact ⟨_, e⟩
  | hld ks => obtain ⟨rows, e, _⟩ := r; exact ⟨_, e⟩
theorem RepH.taken (r : RepH K w H h) {n : Nat} (hn : n < w.N) : ∃ u, H (w.mu n) = some u := by
  have hl : n < h.length := by rw [← r.len]; exact hn
  obtain ⟨_, c⟩ := r.cell n h[n] (List.getElem?_eq_getElem hl)
  exact c.some
theorem RepH.ne (r : RepH K w H h) {n : Nat} {p : Addr} (hn : n < w.N) (hp : H p = none) : w.mu n ≠ p := by
  obtain ⟨u, e⟩ := r.taken hn
  intro z
  rw [z, hp] at e
  cases e
theorem RepO.mono {w' : Wd} {H' : Hp} {a : Addr} {o : AO} (l : Le w w') (e : H' a = H a) (r : RepO K w H a o) : RepO K w' H' a o := by
  cases o with
  | lst ds =>
    obtain ⟨xs, e1, r⟩ := r
    exact ⟨xs, e.trans e1, Ra_mono l r⟩
  | ins C fs =>
    obtain ⟨Ca, dx, fv, ec, e1, e2, r, e3⟩ := r
    exact ⟨Ca, dx, fv, ec, e.trans e1, e2, Ra_mono l r, l.ex _ _ e3⟩
  | dct kvs =>
    obtain ⟨kv, e1, e2, r⟩ := r
    exact ⟨kv, e.trans e1, e2, Ra_mono l r⟩
  | lck kvs =>
    obtain ⟨o, kv, e1, e0, e2, r⟩ := r
    exact ⟨o, kv, e.trans e1, by rw [l.lk]; exact e0, e2, Ra_mono l r⟩
  | hld ks =>
    obtain ⟨rows, e1, e2, k⟩ := r
    exact ⟨rows, e.trans e1, e2, fun x hx ks ek => l.ex.t (k x hx ks ek)⟩
/-- a new thing that never changes -/
def Wd.add (w : Wd) (p : Addr) (o : HO) : Wd := ⟨upd w.S p o, w.F, w.mu, w.N, w.LK⟩
theorem RepH.le_add (r : RepH K w H h) {p : Addr} {o : HO} (hp : H p = none) : Le w (w.add p o) :=
  ⟨Ext.new (r.ex.free hp), Nat.le_refl _, fun _ _ => rfl, rfl, rfl⟩
theorem RepH.add (r : RepH K w H h) {p : Addr} {o : HO} (hp : H p = none) : RepH K (w.add p o) (upd H p o) h := by
  have hF : ∀ a u, w.F a = some u → a ≠ p := fun a u e => ne_of_none (r.exF _ _ e) hp
  refine ⟨fun a u e => ?_, r.len, r.inj, fun n o' e => ?_, fun a u e => by rw [upd_ne (hF a u e)]; exact r.exF _ _ e, fun a u e => ⟨by
    show upd w.S p o a = none
    rw [upd_ne (hF a u e)]
    exact (r.dis a u e).1, (r.dis a u e).2⟩⟩
  · have e : upd w.S p o a = some u := e
    by_cases ha : a = p
    · subst ha
      rw [upd_same] at e ⊢
      exact e
    · rw [upd_ne ha] at e ⊢
      exact r.ex _ _ e
  · obtain ⟨a, b⟩ := r.cell n o' e
    have hn : n < w.N := by
      rw [r.len]
      exact (List.getElem?_eq_some_iff.mp e).1
    have q := r.ne hn hp
    refine ⟨?_, b.mono (r.le_add hp) (upd_ne q)⟩
    show upd w.S p o (w.mu n) = none
    rw [upd_ne q]
    exact a
/-- a new object of the machine's -/
def Wd.push (w : Wd) (p : Addr) : Wd := ⟨w.S, w.F, fun n => if n = w.N then p else w.mu n, w.N + 1, w.LK⟩
theorem Wd.le_push (w : Wd) (p : Addr) : Le w (w.push p) :=
  ⟨Ext.refl _, Nat.le_succ _, fun n hn => if_neg (Nat.ne_of_lt hn), rfl, rfl⟩
theorem Wd.push_mu (w : Wd) (p : Addr) : (w.push p).mu w.N = p := if_pos rfl
/-- p stands in H, is none of the known ones -/
structure Apart (w : Wd) (p : Addr) : Prop where
  s : w.S p = none
  m : ∀ n, n < w.N → w.mu n ≠ p
  f : w.F p = none
theorem RepH.push (r : RepH K w H h) {p : Addr} {o : AO} (ap : Apart w p) (ro : RepO K (w.push p) H p o) : RepH K (w.push p) H (h ++ [o]) := by
  refine ⟨r.ex, ?_, fun m n hm hn e => ?_, fun n o' e => ?_, r.exF, fun a u e => ⟨(r.dis a u e).1, fun n hn z => ?_⟩⟩
  rotate_left 3
  · have hn : n < w.N + 1 := hn
    have z : (if n = w.N then p else w.mu n) = a := z
    have e : w.F a = some u := e
    by_cases q : n = w.N
    · rw [if_pos q] at z
      rw [← z, ap.f] at e
      cases e
    · rw [if_neg q] at z
      exact (r.dis a u e).2 n (by omega) z
  · show w.N + 1 = _
    rw [r.len, List.length_append]
    rfl
  · have hm : m < w.N + 1 := hm
    have hn : n < w.N + 1 := hn
    have e : (if m = w.N then p else w.mu m) = (if n = w.N then p else w.mu n) := e
    by_cases m1 : m = w.N
    · by_cases n1 : n = w.N
      · rw [m1, n1]
      · rw [if_pos m1, if_neg n1] at e
        exact absurd e.symm (ap.m n (by omega))
    · by_cases n1 : n = w.N
      · rw [if_neg m1, if_pos n1] at e
        exact absurd e (ap.m m (by omega))
      · rw [if_neg m1, if_neg n1] at e
        exact r.inj m n (by omega) (by omega) e
  · by_cases hn : n < h.length
    · rw [List.getElem?_append_left hn] at e
      obtain ⟨a, b⟩ := r.cell n o' e
      have q : (w.push p).mu n = w.mu n := (w.le_push p).mu n (by rw [r.len]; exact hn)
      rw [q]
      exact ⟨a, b.mono (w.le_push p) rfl⟩
    · have hl := (List.getElem?_eq_some_iff.mp e).1
      rw [List.length_append] at hl
      have en : n = h.length := by
        simp at hl
        omega
      subst en
      rw [List.getElem?_append_right (Nat.le_refl _)] at e
      simp at e
      subst e
      rw [← r.len, w.push_mu]
      exact ⟨ap.s, ro⟩
theorem RepH.set (r : RepH K w H h) {n : Nat} {u : HO} {o : AO} (hn : n < w.N) (ro : RepO K w (upd H (w.mu n) u) (w.mu n) o) : RepH K w (upd H (w.mu n) u) (h.set n o) := by
  refine ⟨fun a x e => ?_, by rw [r.len, List.length_set], r.inj, fun m o' e => ?_, fun a x e => by rw [upd_ne (fun z => (r.dis a x e).2 n hn z.symm)]; exact r.exF _ _ e, r.dis⟩
  · have hl : n < h.length := by rw [← r.len]; exact hn
    obtain ⟨z, _⟩ := r.cell n h[n] (List.getElem?_eq_getElem hl)
    have q : a ≠ w.mu n := by
      intro y
      rw [y, z] at e
      cases e
    rw [upd_ne q]
    exact r.ex _ _ e
  · by_cases hm : m = n
    · subst hm
      have hl : m < h.length := by rw [← r.len]; exact hn
      obtain ⟨z, _⟩ := r.cell m h[m] (List.getElem?_eq_getElem hl)
      rw [List.getElem?_set_self hl] at e
      cases e
      exact ⟨z, ro⟩
    · rw [List.getElem?_set_ne (Ne.symm hm)] at e
      obtain ⟨a, b⟩ := r.cell m o' e
      have hl : m < w.N := by rw [r.len]; exact (List.getElem?_eq_some_iff.mp e).1
      refine ⟨a, b.mono (Le.refl w) (upd_ne fun z => hm (r.inj m n hl hn z))⟩
end

/-! ### results -/
inductive Res (α : Type) where
  | ok (a : α) (h : AH)
  | exc (c : Str) (fs : List (Str × D)) (h : AH)
  | stuck
def Res.bind {α β : Type} (r : Res α) (k : α → AH → Res β) : Res β :=
  match r with
  | .ok a h => k a h
  | .exc c fs h => .exc c fs h
  | .stuck => .stuck
@[simp] theorem Res.bind_ok {α β : Type} (a : α) (h : AH) (k : α → AH → Res β) : (Res.ok a h).bind k = k a h := rfl
@[simp] theorem Res.bind_stuck {α β : Type} (k : α → AH → Res β) : (Res.stuck : Res α).bind k = .stuck := rfl
@[simp] theorem Res.bind_exc {α β : Type} (c : Str) (fs : List (Str × D)) (h : AH) (k : α → AH → Res β) : (Res.exc c fs h : Res α).bind k = .exc c fs h := rfl
abbrev Me := Env → AH → Res D
abbrev MeL := Env → AH → Res (List D)
abbrev MeT := Env → AH → Res Bool

/-- the slots -/
def RepG (K : PySem.W.Frag) (w : Wd) (σ : L2.St) (G : Env) : Prop := σ.length = G.length ∧ ∀ (i : Nat) (d : D), G[i]? = some (some d) → ∃ v, σ[i]? = some (some v) ∧ Rv K w v d
theorem RepG.mono {K : PySem.W.Frag} {w w' : Wd} {σ : L2.St} {G : Env} (l : Le w w') (r : RepG K w σ G) : RepG K w' σ G :=
  ⟨r.1, fun i d e => by
    obtain ⟨v, h1, h2⟩ := r.2 i d e
    exact ⟨v, h1, Rv_mono l h2⟩⟩
theorem RepG.monoX {K : PySem.W.Frag} {w w' : Wd} {σ : L2.St} {G : Env} (l : LeX w w') (r : RepG K w σ G) : RepG K w' σ G :=
  ⟨r.1, fun i d e => by
    obtain ⟨v, h1, h2⟩ := r.2 i d e
    exact ⟨v, h1, Rv_monoX l h2⟩⟩
theorem RepG.set {K : PySem.W.Frag} {w : Wd} {σ : L2.St} {G : Env} {v : V} {d : D} (r : RepG K w σ G) (i : Nat) (rv : Rv K w v d) : RepG K w (σ.set i (some v)) (G.set i (some d)) := by
  refine ⟨by rw [List.length_set, List.length_set, r.1], fun j e h => ?_⟩
  by_cases hj : j = i
  · subst hj
    have hl : j < G.length := by
      have := (List.getElem?_eq_some_iff.mp h).1
      rwa [List.length_set] at this
    rw [List.getElem?_set_self hl] at h
    cases h
    exact ⟨v, List.getElem?_set_self (by rw [r.1]; exact hl), rv⟩
  · rw [List.getElem?_set_ne (Ne.symm hj)] at h
    obtain ⟨x, h1, h2⟩ := r.2 j e h
    exact ⟨x, by rw [List.getElem?_set_ne (Ne.symm hj)]; exact h1, h2⟩

/-- the wish of what is raised: its class and own dict, the slots, the heap -/
abbrev WX := Value → Option Addr → L2.St → Hp → Prop
/-- what an error carries -/
def RepX (K : PySem.W.Frag) (w : Wd) (H : Hp) (dd : Option Addr) : List (Str × D) → Prop
  | [] => dd = none
  | fs => ∃ p fv, dd = some p ∧ H p = some (.xd fv) ∧ fv.map (·.1) = fs.map (·.1) ∧ RepAll K w.S w.mu w.N (fv.map (·.2)) (fs.map (·.2))

section
variable (K : PySem.W.Frag) (mg : Str → Option Value) (W : WX)
def OutX (w : Wd) (σ : L2.St) (c : Str) (fs : List (Str × D)) (h : AH) : Prop :=
  ∀ cls dd w' H', mg c = some cls → Le w w' → RepH K w' H' h → RepX K w' H' dd fs → W cls dd σ H'
def OutE (w : Wd) (σ : L2.St) (Q : VK) : Res D → Prop
  | .ok d h => ∀ v w' H', Le w w' → RepH K w' H' h → Rv K w' v d → Q v H'
  | .exc c fs h => OutX K mg W w σ c fs h
  | .stuck => False
/-- a new list, known to nobody -/
def OutF (w : Wd) (σ : L2.St) (Q : VK) : Res (List D) → Prop
  | .ok ds h => ∀ p xs w' H', Le w w' → RepH K w' H' h → Apart w' p → H' p = some (.lst xs) → Ra K w' xs ds → Q (.ref p) H'
  | .exc c fs h => OutX K mg W w σ c fs h
  | .stuck => False
def OutA (w : Wd) (σ : L2.St) (Q : List V → Hp → Prop) : Res (List D) → Prop
  | .ok ds h => ∀ vs w' H', Le w w' → RepH K w' H' h → Ra K w' vs ds → Q vs H'
  | .exc c fs h => OutX K mg W w σ c fs h
  | .stuck => False
def OutT (w : Wd) (σ : L2.St) (Q : Bool → Hp → Prop) : Res Bool → Prop
  | .ok b h => ∀ w' H', Le w w' → RepH K w' H' h → Q b H'
  | .exc c fs h => OutX K mg W w σ c fs h
  | .stuck => False
def tM (m : Me) : TE := fun σ H Q => ∃ w G h, RepG K w σ G ∧ RepH K w H h ∧ OutE K mg W w σ Q (m G h)
def tF (m : MeL) : TE := fun σ H Q => ∃ w G h, RepG K w σ G ∧ RepH K w H h ∧ OutF K mg W w σ Q (m G h)
def tAr (m : MeL) : TA := fun σ H Q => ∃ w G h, RepG K w σ G ∧ RepH K w H h ∧ OutA K mg W w σ Q (m G h)
def tT (m : MeT) : TT := fun σ H Q => ∃ w G h, RepG K w σ G ∧ RepH K w H h ∧ OutT K mg W w σ Q (m G h)
end

section
variable {K : PySem.W.Frag} {mg : Str → Option Value} {W : WX} {w w' : Wd} {σ : L2.St} {H : Hp} {G : Env} {h : AH}
theorem OutX.mono {c : Str} {fs : List (Str × D)} (l : Le w w') (o : OutX K mg W w σ c fs h) : OutX K mg W w' σ c fs h :=
  fun cls dd w2 H' e l2 r x => o cls dd w2 H' e (l.trans l2) r x
theorem OutE.mono {Q : VK} {r : Res D} (l : Le w w') (o : OutE K mg W w σ Q r) : OutE K mg W w' σ Q r := by
  cases r with
  | ok d h => exact fun v w2 H' l2 r x => o v w2 H' (l.trans l2) r x
  | exc c fs h => exact OutX.mono l o
  | stuck => exact o
theorem OutF.mono {Q : VK} {r : Res (List D)} (l : Le w w') (o : OutF K mg W w σ Q r) : OutF K mg W w' σ Q r := by
  cases r with
  | ok d h => exact fun p xs w2 H' l2 r x => o p xs w2 H' (l.trans l2) r x
  | exc c fs h => exact OutX.mono l o
  | stuck => exact o
theorem OutA.mono {Q : List V → Hp → Prop} {r : Res (List D)} (l : Le w w') (o : OutA K mg W w σ Q r) : OutA K mg W w' σ Q r := by
  cases r with
  | ok d h => exact fun v w2 H' l2 r x => o v w2 H' (l.trans l2) r x
  | exc c fs h => exact OutX.mono l o
  | stuck => exact o
theorem OutT.mono {Q : Bool → Hp → Prop} {r : Res Bool} (l : Le w w') (o : OutT K mg W w σ Q r) : OutT K mg W w' σ Q r := by
  cases r with
  | ok d h => exact fun w2 H' l2 r => o w2 H' (l.trans l2) r
  | exc c fs h => exact OutX.mono l o
  | stuck => exact o
/-- a part's reading, then what is made of it -/
theorem runE {m : Me} {Q : VK} (g : RepG K w σ G) (r : RepH K w H h)
    (k : OutE K mg W w σ Q (m G h)) : tM K mg W m σ H Q := ⟨w, G, h, g, r, k⟩
theorem OutE.bindE {m : Me} {R : VK} {Q : VK} {k : D → AH → Res D} (o : OutE K mg W w σ Q ((m G h).bind k))
    (hq : ∀ d h1 v w1 H1, Le w w1 → RepH K w1 H1 h1 → Rv K w1 v d → OutE K mg W w1 σ Q (k d h1) → R v H1) : OutE K mg W w σ R (m G h) := by
  cases e : m G h with
  | ok d h1 =>
    rw [e] at o
    exact fun v w1 H1 l r x => hq d h1 v w1 H1 l r x (OutE.mono l o)
  | exc c fs h1 =>
    rw [e] at o
    exact o
  | stuck =>
    rw [e] at o
    exact o
theorem OutF.bindE {m : Me} {R : VK} {Q : VK} {k : D → AH → Res (List D)} (o : OutF K mg W w σ Q ((m G h).bind k))
    (hq : ∀ d h1 v w1 H1, Le w w1 → RepH K w1 H1 h1 → Rv K w1 v d → OutF K mg W w1 σ Q (k d h1) → R v H1) : OutE K mg W w σ R (m G h) := by
  cases e : m G h with
  | ok d h1 =>
    rw [e] at o
    exact fun v w1 H1 l r x => hq d h1 v w1 H1 l r x (OutF.mono l o)
  | exc c fs h1 =>
    rw [e] at o
    exact o
  | stuck =>
    rw [e] at o
    exact o
theorem OutA.bindE {m : Me} {R : VK} {Q : List V → Hp → Prop} {k : D → AH → Res (List D)} (o : OutA K mg W w σ Q ((m G h).bind k))
    (hq : ∀ d h1 v w1 H1, Le w w1 → RepH K w1 H1 h1 → Rv K w1 v d → OutA K mg W w1 σ Q (k d h1) → R v H1) : OutE K mg W w σ R (m G h) := by
  cases e : m G h with
  | ok d h1 =>
    rw [e] at o
    exact fun v w1 H1 l r x => hq d h1 v w1 H1 l r x (OutA.mono l o)
  | exc c fs h1 =>
    rw [e] at o
    exact o
  | stuck =>
    rw [e] at o
    exact o
theorem OutT.bindE {m : Me} {R : VK} {Q : Bool → Hp → Prop} {k : D → AH → Res Bool} (o : OutT K mg W w σ Q ((m G h).bind k))
    (hq : ∀ d h1 v w1 H1, Le w w1 → RepH K w1 H1 h1 → Rv K w1 v d → OutT K mg W w1 σ Q (k d h1) → R v H1) : OutE K mg W w σ R (m G h) := by
  cases e : m G h with
  | ok d h1 =>
    rw [e] at o
    exact fun v w1 H1 l r x => hq d h1 v w1 H1 l r x (OutT.mono l o)
  | exc c fs h1 =>
    rw [e] at o
    exact o
  | stuck =>
    rw [e] at o
    exact o
theorem OutE.bindA {m : MeL} {R : List V → Hp → Prop} {Q : VK} {k : List D → AH → Res D} (o : OutE K mg W w σ Q ((m G h).bind k))
    (hq : ∀ ds h1 vs w1 H1, Le w w1 → RepH K w1 H1 h1 → Ra K w1 vs ds → OutE K mg W w1 σ Q (k ds h1) → R vs H1) : OutA K mg W w σ R (m G h) := by
  cases e : m G h with
  | ok d h1 =>
    rw [e] at o
    exact fun v w1 H1 l r x => hq d h1 v w1 H1 l r x (OutE.mono l o)
  | exc c fs h1 =>
    rw [e] at o
    exact o
  | stuck =>
    rw [e] at o
    exact o
theorem OutF.bindA {m : MeL} {R : List V → Hp → Prop} {Q : VK} {k : List D → AH → Res (List D)} (o : OutF K mg W w σ Q ((m G h).bind k))
    (hq : ∀ ds h1 vs w1 H1, Le w w1 → RepH K w1 H1 h1 → Ra K w1 vs ds → OutF K mg W w1 σ Q (k ds h1) → R vs H1) : OutA K mg W w σ R (m G h) := by
  cases e : m G h with
  | ok d h1 =>
    rw [e] at o
    exact fun v w1 H1 l r x => hq d h1 v w1 H1 l r x (OutF.mono l o)
  | exc c fs h1 =>
    rw [e] at o
    exact o
  | stuck =>
    rw [e] at o
    exact o
theorem OutA.bindA {m : MeL} {R : List V → Hp → Prop} {Q : List V → Hp → Prop} {k : List D → AH → Res (List D)} (o : OutA K mg W w σ Q ((m G h).bind k))
    (hq : ∀ ds h1 vs w1 H1, Le w w1 → RepH K w1 H1 h1 → Ra K w1 vs ds → OutA K mg W w1 σ Q (k ds h1) → R vs H1) : OutA K mg W w σ R (m G h) := by
  cases e : m G h with
  | ok d h1 =>
    rw [e] at o
    exact fun v w1 H1 l r x => hq d h1 v w1 H1 l r x (OutA.mono l o)
  | exc c fs h1 =>
    rw [e] at o
    exact o
  | stuck =>
    rw [e] at o
    exact o
theorem OutE.bindT {m : MeT} {R : Bool → Hp → Prop} {Q : VK} {k : Bool → AH → Res D} (o : OutE K mg W w σ Q ((m G h).bind k))
    (hq : ∀ b h1 w1 H1, Le w w1 → RepH K w1 H1 h1 → OutE K mg W w1 σ Q (k b h1) → R b H1) : OutT K mg W w σ R (m G h) := by
  cases e : m G h with
  | ok d h1 =>
    rw [e] at o
    exact fun w1 H1 l r => hq d h1 w1 H1 l r (OutE.mono l o)
  | exc c fs h1 =>
    rw [e] at o
    exact o
  | stuck =>
    rw [e] at o
    exact o
theorem OutT.bindT {m : MeT} {R : Bool → Hp → Prop} {Q : Bool → Hp → Prop} {k : Bool → AH → Res Bool} (o : OutT K mg W w σ Q ((m G h).bind k))
    (hq : ∀ b h1 w1 H1, Le w w1 → RepH K w1 H1 h1 → OutT K mg W w1 σ Q (k b h1) → R b H1) : OutT K mg W w σ R (m G h) := by
  cases e : m G h with
  | ok d h1 =>
    rw [e] at o
    exact fun w1 H1 l r => hq d h1 w1 H1 l r (OutT.mono l o)
  | exc c fs h1 =>
    rw [e] at o
    exact o
  | stuck =>
    rw [e] at o
    exact o
theorem OutE.bindF {m : MeL} {R : VK} {Q : VK} {k : List D → AH → Res D} (o : OutE K mg W w σ Q ((m G h).bind k))
    (hq : ∀ ds h1 p xs w1 H1, Le w w1 → RepH K w1 H1 h1 → Apart w1 p → H1 p = some (.lst xs) → Ra K w1 xs ds → OutE K mg W w1 σ Q (k ds h1) → R (.ref p) H1) : OutF K mg W w σ R (m G h) := by
  cases e : m G h with
  | ok d h1 =>
    rw [e] at o
    exact fun p xs w1 H1 l r a b x => hq d h1 p xs w1 H1 l r a b x (OutE.mono l o)
  | exc c fs h1 =>
    rw [e] at o
    exact o
  | stuck =>
    rw [e] at o
    exact o
end
end AB
/-! AB: expressions. -/
namespace AB
open PySem PySem.Spec PyProof.Rows L2

theorem _root_.L2.PE.wk {X : Cx} {e : Expr} {t t' : TE} (h : PE X e t) (k : ∀ σ H Q, t' σ H Q → t σ H Q) : PE X e t' := ⟨fun pins s σ H Q I q => h.run pins s σ H Q I (k σ H Q q)⟩
theorem _root_.L2.PT.wk {X : Cx} {e : Expr} {t t' : TT} (h : PT X e t) (k : ∀ σ H Q, t' σ H Q → t σ H Q) : PT X e t' := ⟨fun pins s σ H Q I q => h.run pins s σ H Q I (k σ H Q q)⟩
theorem _root_.L2.PW.wk {X : Cx} {e : Expr} {t t' : TT} (h : PW X e t) (k : ∀ σ H Q, t' σ H Q → t σ H Q) : PW X e t' := ⟨fun wh pins s σ H Q I q => h.run wh pins s σ H Q I (k σ H Q q)⟩
theorem _root_.L2.PA.wk {X : Cx} {e : List Expr} {t t' : TA} (h : PA X e t) (k : ∀ σ H Q, t' σ H Q → t σ H Q) : PA X e t' := ⟨fun pos pins s σ H Q I q => h.run pos pins s σ H Q I (k σ H Q q)⟩

/-- the size that a display, a sum, a slice may have here -/
def big : Nat := 1000000
theorem big_le {n : Nat} (h : n ≤ big) : n ≤ sizeLine := Nat.le_trans h (by decide)
theorem big_lt {n : Nat} (h : n < big) : n < sizeLine := Nat.lt_of_lt_of_le h (by decide)

/-! ### the combinators -/
def mV (i : Nat) : Me := fun G h => match G[i]? with
  | some (some d) => .ok d h
  | _ => .stuck
def mC (d : D) : Me := fun _ h => .ok d h
def mOp2 (f : D → D → AH → Res D) (a b : Me) : Me := fun G h => (a G h).bind fun x h1 => (b G h1).bind fun y h2 => f x y h2
def mOp1 (f : D → AH → Res D) (a : Me) : Me := fun G h => (a G h).bind fun x h1 => f x h1
def aNil : MeL := fun _ h => .ok [] h
def aCons (a : Me) (as : MeL) : MeL := fun G h => (a G h).bind fun x h1 => (as G h1).bind fun xs h2 => .ok (x :: xs) h2
def mN (f : List D → AH → Res D) (as : MeL) : Me := fun G h => (as G h).bind fun xs h1 => f xs h1
def fTup (ds : List D) (h : AH) : Res D := if ds.length ≤ big then .ok (.tup ds) h else .stuck
def lLst (as : MeL) : MeL := fun G h => (as G h).bind fun xs h1 => if xs.length ≤ big then .ok xs h1 else .stuck
/-- a new list, as a thing that is not changed any more -/
def mL (l : MeL) : Me := fun G h => (l G h).bind fun ds h1 => .ok (.lst ds) h1
/-- a new list, as an object of the machine's -/
def mNew (l : MeL) : Me := fun G h => (l G h).bind fun ds h1 => .ok (.loc h1.length) (h1 ++ [.lst ds])
/-- the items of a list, of a list or tuple -/
def vL (h : AH) : D → Option (List D)
  | .lst ds => some ds
  | .rol ds => some ds
  | .loc n => match h[n]? with
    | some (.lst ds) => some ds
    | _ => none
  | _ => none
/-- .. of a list that stands in the heap by itself -/
def vR (h : AH) : D → Option (List D)
  | .lst ds => some ds
  | .loc n => match h[n]? with
    | some (.lst ds) => some ds
    | _ => none
  | _ => none
def vS (h : AH) : D → Option (List D)
  | .tup ds => some ds
  | d => vL h d

section
variable {K : PySem.W.Frag} {w : Wd} {H : Hp} {h : AH} {v : V} {d : D} {ds : List D}
theorem vL_rep (r : RepH K w H h) (rv : Rv K w v d) (e : vL h d = some ds) : ∃ a xs, v = .ref a ∧ SqL K H a xs ∧ Ra K w xs ds := by
  cases rv with
  | lst a b =>
    cases e
    exact ⟨_, _, rfl, .inl (r.ex.rd a), b⟩
  | rol a b =>
    cases e
    exact ⟨_, _, rfl, r.ex.l a, b⟩
  | @loc n hn =>
    have e : (match h[n]? with
      | some (.lst ds) => some ds
      | _ => none) = some ds := e
    split at e
    · rename_i ds' e'
      cases e
      obtain ⟨_, xs, e2, ra⟩ := r.cell _ _ e'
      exact ⟨_, xs, rfl, .inl (.inl e2), ra⟩
    · cases e
  | _ => cases e
theorem vR_rep (r : RepH K w H h) (rv : Rv K w v d) (e : vR h d = some ds) : ∃ a xs, v = .ref a ∧ Rd H a (.lst xs) ∧ Ra K w xs ds := by
  cases rv with
  | lst a b =>
    cases e
    exact ⟨_, _, rfl, r.ex.rd a, b⟩
  | @loc n hn =>
    have e : (match h[n]? with
      | some (.lst ds) => some ds
      | _ => none) = some ds := e
    split at e
    · rename_i ds' e'
      cases e
      obtain ⟨_, xs, e2, ra⟩ := r.cell _ _ e'
      exact ⟨_, xs, rfl, .inl e2, ra⟩
    · cases e
  | _ => cases e
theorem vS_rep (r : RepH K w H h) (rv : Rv K w v d) (e : vS h d = some ds) : ∃ a xs, v = .ref a ∧ (SqL K H a xs ∨ SqT K H a xs) ∧ Ra K w xs ds := by
  by_cases ht : ∃ es, d = .tup es
  · obtain ⟨es, rfl⟩ := ht
    cases rv with
    | tup a b =>
      cases e
      exact ⟨_, _, rfl, .inr (r.ex.t a), b⟩
  · have e : vL h d = some ds := by
      cases d with
      | tup es => exact absurd ⟨es, rfl⟩ ht
      | _ => exact e
    obtain ⟨a, xs, h1, h2, h3⟩ := vL_rep r rv e
    exact ⟨a, xs, h1, .inl h2, h3⟩
end

section
variable {X : Cx} {W : WX} {pos : Pos}
abbrev TM (X : Cx) (W : WX) (m : Me) : TE := tM X.K X.mg W m
abbrev TF (X : Cx) (W : WX) (m : MeL) : TE := tF X.K X.mg W m
abbrev TAr (X : Cx) (W : WX) (m : MeL) : TA := tAr X.K X.mg W m
abbrev TTT (X : Cx) (W : WX) (m : MeT) : TT := tT X.K X.mg W m
/-- a step's outcome, done -/
theorem out_ok {K : PySem.W.Frag} {mg : Str → Option Value} {w : Wd} {σ : L2.St} {H : Hp} {Q : VK} {d : D} {h : AH} {v : V} (o : OutE K mg W w σ Q (.ok d h)) (r : RepH K w H h) (rv : Rv K w v d) : Q v H := o v w H (Le.refl _) r rv
/-- .. with a new thing that never changes -/
theorem out_add {K : PySem.W.Frag} {mg : Str → Option Value} {w : Wd} {σ : L2.St} {H : Hp} {Q : VK} {d : D} {h : AH} {p : Addr} {u : HO} (o : OutE K mg W w σ Q (.ok d h)) (r : RepH K w H h) (hp : H p = none) (rv : Rv K (w.add p u) (.ref p) d) : Q (.ref p) (upd H p u) :=
  o (.ref p) (w.add p u) (upd H p u) (r.le_add hp) (r.add hp) rv
theorem rv_tup {K : PySem.W.Frag} {w : Wd} {H : Hp} {h : AH} {p : Addr} {xs : List V} {ds : List D} (r : RepH K w H h) (hp : H p = none) (ra : Ra K w xs ds) : Rv K (w.add p (.tup xs)) (.ref p) (.tup ds) :=
  .tup (.inl (.inl upd_same)) (Ra_mono (r.le_add hp) ra)
theorem rv_lst {K : PySem.W.Frag} {w : Wd} {H : Hp} {h : AH} {p : Addr} {xs : List V} {ds : List D} (r : RepH K w H h) (hp : H p = none) (ra : Ra K w xs ds) : Rv K (w.add p (.lst xs)) (.ref p) (.lst ds) :=
  .lst (.inl upd_same) (Ra_mono (r.le_add hp) ra)
/-- a new list that nobody knows yet -/
theorem out_new {K : PySem.W.Frag} {mg : Str → Option Value} {w : Wd} {σ : L2.St} {H : Hp} {Q : VK} {ds : List D} {h : AH} {p : Addr} {xs : List V} (o : OutF K mg W w σ Q (.ok ds h)) (r : RepH K w H h) (hp : H p = none) (ra : Ra K w xs ds) : Q (.ref p) (upd H p (.lst xs)) := by
  refine o p xs w (upd H p (.lst xs)) (Le.refl _) ⟨fun a u e => ?_, r.len, r.inj, fun n o' e => ?_, fun a u e => by rw [upd_ne (ne_of_none (r.exF _ _ e) hp)]; exact r.exF _ _ e, r.dis⟩ ⟨r.ex.free hp, fun n hn => r.ne hn hp, r.exF.free hp⟩ upd_same ra
  · have e2 := r.ex _ _ e
    rw [upd_ne (ne_of_none e2 hp)]
    exact e2
  · obtain ⟨a, b⟩ := r.cell n o' e
    have hn : n < w.N := by
      rw [r.len]
      exact (List.getElem?_eq_some_iff.mp e).1
    exact ⟨a, b.mono (Le.refl _) (upd_ne (r.ne hn hp))⟩
/-- a list that stands apart, from now on never changed -/
theorem RepH.keep {K : PySem.W.Frag} {w : Wd} {H : Hp} {h : AH} {p : Addr} {u : HO} (r : RepH K w H h) (ap : Apart w p) (e : H p = some u) : RepH K (w.add p u) H h ∧ Le w (w.add p u) := by
  have l : Le w (w.add p u) := ⟨Ext.new ap.s, Nat.le_refl _, fun _ _ => rfl, rfl, rfl⟩
  refine ⟨⟨fun a x q => ?_, r.len, r.inj, fun n o' q => ?_, r.exF, fun a x q => ⟨by
    show upd w.S p u a = none
    have z : a ≠ p := fun z => by
      have q : w.F a = some x := q
      rw [z, ap.f] at q
      cases q
    rw [upd_ne z]
    exact (r.dis a x q).1, (r.dis a x q).2⟩⟩, l⟩
  · have q : upd w.S p u a = some x := q
    by_cases ha : a = p
    · subst ha
      rw [upd_same] at q
      rw [e, q]
    · rw [upd_ne ha] at q
      exact r.ex _ _ q
  · obtain ⟨a, b⟩ := r.cell n o' q
    have hn : n < w.N := by
      rw [r.len]
      exact (List.getElem?_eq_some_iff.mp q).1
    refine ⟨?_, b.mono l rfl⟩
    show upd w.S p u (w.mu n) = none
    rw [upd_ne (ap.m n hn)]
    exact a

/-! ### names, constants -/
theorem e_var (i : Nat) {x : Str} (hN : X.N[i]? = some x := by rfl) (hv : Vis X.env.scope x := by first | exact Or.inl rfl | exact Or.inr (Or.inl rfl) | exact Or.inr (Or.inr rfl)) (hd : (x == ("__debug__" : Str)) = false := by decide)
    (hcd : (x == ("__classdict__" : Str)) = false := by decide) : PE X (.Name x pos) (TM X W (mV i)) := by
  refine (pe_var hN hv hd hcd).wk fun σ H Q ⟨w, G, h, g, r, o⟩ => ?_
  unfold mV at o
  split at o
  · rename_i d e
    obtain ⟨v, e2, rv⟩ := g.2 i d e
    exact ⟨v, e2, out_ok o r rv⟩
  · exact o.elim
def StRep (K : PySem.W.Frag) (v : V) (d : D) : Prop := ∀ (w : Wd), Rv K w v d
theorem e_const {e : Expr} {v : V} {d : D} (h : PE X e (tC v)) (s : StRep X.K v d) : PE X e (TM X W (mC d)) :=
  h.wk fun σ H Q ⟨w, G, h, g, r, o⟩ => out_ok o r (s w)
theorem e_int {i : Int} {j : Nat} : PE X (.Constant (.int i) j pos) (TM X W (mC (.int i))) := e_const pe_int fun _ => .int i
theorem e_bl {b : Bool} {j : Nat} : PE X (.Constant (.bool b) j pos) (TM X W (mC (.bl b))) := e_const pe_bl fun _ => .bl b
theorem e_non {j : Nat} : PE X (.Constant .none j pos) (TM X W (mC .non)) := e_const pe_non fun _ => .non
theorem e_str {x : Str} {j : Nat} : PE X (.Constant (.str x) j pos) (TM X W (mC (.str x))) := e_const pe_str fun _ => .str x
theorem e_glob {x : Str} {v : V} {u : Value} {d : D} (hm : X.mg x = some u) (rv : RelV v u) (s : StRep X.K v d) (hg : Gl X x := by rfl) (hd : (x == ("__debug__" : Str)) = false := by decide) : PE X (.Name x pos) (TM X W (mC d)) :=
  e_const (pe_glob hg hm rv hd) s

/-! ### operators -/
def Fol2 (X : Cx) (W : WX) (f : D → D → AH → Res D) (r : R2) : Prop := ∀ (w : Wd) (h : AH) (H : Hp) (σ : L2.St) (Q : VK) (v1 v2 : V) (d1 d2 : D),
  RepH X.K w H h → Rv X.K w v1 d1 → Rv X.K w v2 d2 → OutE X.K X.mg W w σ Q (f d1 d2 h) → r v1 v2 H Q
def Fol1 (X : Cx) (W : WX) (f : D → AH → Res D) (r : V → Hp → VK → Prop) : Prop := ∀ (w : Wd) (h : AH) (H : Hp) (σ : L2.St) (Q : VK) (v1 : V) (d1 : D),
  RepH X.K w H h → Rv X.K w v1 d1 → OutE X.K X.mg W w σ Q (f d1 h) → r v1 H Q
def FolN (X : Cx) (W : WX) (f : List D → AH → Res D) (r : List V → Hp → VK → Prop) : Prop := ∀ (w : Wd) (h : AH) (H : Hp) (σ : L2.St) (Q : VK) (vs : List V) (ds : List D),
  RepH X.K w H h → Ra X.K w vs ds → OutE X.K X.mg W w σ Q (f ds h) → r vs H Q
def FolF (X : Cx) (W : WX) (f : List D → AH → Res (List D)) (r : List V → Hp → VK → Prop) : Prop := ∀ (w : Wd) (h : AH) (H : Hp) (σ : L2.St) (Q : VK) (vs : List V) (ds : List D),
  RepH X.K w H h → Ra X.K w vs ds → OutF X.K X.mg W w σ Q (f ds h) → r vs H Q
variable {a b : Expr} {ma mb : Me}
theorem op2 {f : D → D → AH → Res D} {r : R2} (hf : Fol2 X W f r) {σ : L2.St} {H : Hp} {Q : VK} (t : TM X W (mOp2 f ma mb) σ H Q) : tOp r (TM X W ma) (TM X W mb) σ H Q := by
  obtain ⟨w, G, h, g, rh, o⟩ := t
  refine ⟨w, G, h, g, rh, o.bindE fun d h1 v w1 H1 l r1 x o1 => ⟨w1, G, h1, g.mono l, r1, o1.bindE fun d2 h2 v2 w2 H2 l2 r2 x2 o2 => ?_⟩⟩
  exact hf w2 h2 H2 σ Q v v2 d d2 r2 (Rv_mono l2 x) x2 o2
theorem e_bin {f : D → D → AH → Res D} {r : R2} {op : Operator} (ho : OpR X (binaryOp op) r) (hf : Fol2 X W f r) (ha : PE X a (TM X W ma)) (hb : PE X b (TM X W mb)) : PE X (.BinOp a op b pos) (TM X W (mOp2 f ma mb)) :=
  (pe_op ho ha hb).wk fun _ _ _ t => op2 hf t
theorem e_cmp {f : D → D → AH → Res D} {r : R2} {op : CmpOp} (ho : OpR X (compareOp op) r) (hf : Fol2 X W f r) (ha : PE X a (TM X W ma)) (hb : PE X b (TM X W mb)) (hm : behindInMarks op b = false := by rfl) : PE X (.Compare a [op] [b] pos) (TM X W (mOp2 f ma mb)) :=
  (pe_cmpR ho ha hb hm).wk fun _ _ _ t => op2 hf t
theorem e_un {f : D → AH → Res D} {r : V → Hp → VK → Prop} {op : UnaryOp} (ho : UnR X (unaryOp op) r) (hf : Fol1 X W f r) (ha : PE X a (TM X W ma)) : PE X (.UnaryOp op a pos) (TM X W (mOp1 f ma)) := by
  refine (pe_un ho ha).wk fun σ H Q ⟨w, G, h, g, rh, o⟩ => ⟨w, G, h, g, rh, o.bindE fun d h1 v w1 H1 l r1 x o1 => ?_⟩
  exact hf w1 h1 H1 σ Q v d r1 x o1
/-! ints -/
def fAdd (x y : D) (h : AH) : Res D := match x, y with
  | .int i, .int j => .ok (.int (i + j)) h
  | .str i, .str j => if i.length + j.length ≤ big then .ok (.str (i ++ j)) h else .stuck
  | .tup xs, .tup ys => if xs.length + ys.length ≤ big then .ok (.tup (xs ++ ys)) h else .stuck
  | x, y => match vR h x, vR h y with
    | some xs, some ys => if xs.length + ys.length ≤ big then .ok (.lst (xs ++ ys)) h else .stuck
    | _, _ => .stuck
def fSub (x y : D) (h : AH) : Res D := match x, y with
  | .int i, .int j => .ok (.int (i - j)) h
  | _, _ => .stuck
/-- a factor within 2 ^ 60 -/
def fMul (x y : D) (h : AH) : Res D := match x, y with
  | .int i, .int j => if (-(2 ^ 60) ≤ i ∧ i ≤ 2 ^ 60) ∨ (-(2 ^ 60) ≤ j ∧ j ≤ 2 ^ 60) then .ok (.int (i * j)) h else .stuck
  | _, _ => .stuck
def fMod (x y : D) (h : AH) : Res D := match x, y with
  | .int i, .int j => if 0 < j then .ok (.int (i % j)) h else .stuck
  | _, _ => .stuck
def fDiv (x y : D) (h : AH) : Res D := match x, y with
  | .int i, .int j => if 0 < j ∧ j ≤ 2 ^ 60 then .ok (.int (i / j)) h else .stuck
  | _, _ => .stuck
def fPow (x y : D) (h : AH) : Res D := match x, y with
  | .int i, .int j => if 0 ≤ j ∧ j ≤ 1000 ∧ 0 ≤ i ∧ i ≤ 1000 then .ok (.int (i ^ j.toNat)) h else .stuck
  | _, _ => .stuck
def fNeg (x : D) (h : AH) : Res D := match x with
  | .int i => .ok (.int (-i)) h
  | _ => .stuck
def fLt (x y : D) (h : AH) : Res D := match x, y with
  | .int i, .int j => .ok (.bl (decide (i < j))) h
  | _, _ => .stuck
def fLe (x y : D) (h : AH) : Res D := match x, y with
  | .int i, .int j => .ok (.bl (decide (i ≤ j))) h
  | _, _ => .stuck
def fGt (x y : D) (h : AH) : Res D := match x, y with
  | .int i, .int j => .ok (.bl (decide (j < i))) h
  | _, _ => .stuck
def fGe (x y : D) (h : AH) : Res D := match x, y with
  | .int i, .int j => .ok (.bl (decide (j ≤ i))) h
  | _, _ => .stuck
def fIsN (x y : D) (h : AH) : Res D := match x, y with
  | .non, .non => .ok (.bl true) h
  | _, .non => .ok (.bl false) h
  | _, _ => .stuck
def fNotN (x y : D) (h : AH) : Res D := match x, y with
  | .non, .non => .ok (.bl false) h
  | _, .non => .ok (.bl true) h
  | _, _ => .stuck
theorem rv_int {w : Wd} {v : V} {i : Int} (r : Rv X.K w v (.int i)) : v = .int i := by cases r; rfl
theorem fol_int {g : Int → Int → V} {f : D → D → AH → Res D} {e : Int → Int → D} (hs : ∀ i j w, Rv X.K w (g i j) (e i j)) (hf : ∀ x y h, (∃ i j, x = .int i ∧ y = .int j ∧ f x y h = .ok (e i j) h) ∨ f x y h = .stuck) : Fol2 X W f (rI0 g) := by
  intro w h H σ Q v1 v2 d1 d2 rh r1 r2 o
  rcases hf d1 d2 h with ⟨i, j, rfl, rfl, z⟩ | z
  · rw [z] at o
    cases r1
    cases r2
    exact ⟨i, j, rfl, rfl, out_ok o rh (hs i j w)⟩
  · rw [z] at o
    exact o.elim
theorem two_cases {α : Type} {f : D → D → AH → Res D} {e : Int → Int → D} (h1 : ∀ i j h, f (.int i) (.int j) h = .ok (e i j) h) (h2 : ∀ x y h, (∀ i j, ¬ (x = .int i ∧ y = .int j)) → f x y h = .stuck) : ∀ x y h, (∃ i j, x = .int i ∧ y = .int j ∧ f x y h = .ok (e i j) h) ∨ f x y h = .stuck := by
  intro x y h
  by_cases z : ∃ i j, x = .int i ∧ y = .int j
  · obtain ⟨i, j, rfl, rfl⟩ := z
    exact .inl ⟨i, j, rfl, rfl, h1 i j h⟩
  · exact .inr (h2 x y h fun i j q => z ⟨i, j, q⟩)
theorem fol_lt : Fol2 X W fLt (rI0 fun i j => .bl (decide (i < j))) := fol_int (e := fun i j => .bl (decide (i < j))) (fun _ _ _ => .bl _) fun x y h => by
  cases x <;> cases y <;> first | exact .inr rfl | exact .inl ⟨_, _, rfl, rfl, rfl⟩
theorem fol_le : Fol2 X W fLe (rI0 fun i j => .bl (decide (i ≤ j))) := fol_int (e := fun i j => .bl (decide (i ≤ j))) (fun _ _ _ => .bl _) fun x y h => by
  cases x <;> cases y <;> first | exact .inr rfl | exact .inl ⟨_, _, rfl, rfl, rfl⟩
theorem fol_gt : Fol2 X W fGt (rI0 fun i j => .bl (decide (j < i))) := fol_int (e := fun i j => .bl (decide (j < i))) (fun _ _ _ => .bl _) fun x y h => by
  cases x <;> cases y <;> first | exact .inr rfl | exact .inl ⟨_, _, rfl, rfl, rfl⟩
theorem fol_ge : Fol2 X W fGe (rI0 fun i j => .bl (decide (j ≤ i))) := fol_int (e := fun i j => .bl (decide (j ≤ i))) (fun _ _ _ => .bl _) fun x y h => by
  cases x <;> cases y <;> first | exact .inr rfl | exact .inl ⟨_, _, rfl, rfl, rfl⟩
theorem fol_sub : Fol2 X W fSub (rI0 fun i j => .int (i - j)) := fol_int (e := fun i j => .int (i - j)) (fun _ _ _ => .int _) fun x y h => by
  cases x <;> cases y <;> first | exact .inr rfl | exact .inl ⟨_, _, rfl, rfl, rfl⟩
theorem fol_intC {C : Int → Int → Prop} {g : Int → Int → V} {f : D → D → AH → Res D} {e : Int → Int → D} (hs : ∀ i j w, Rv X.K w (g i j) (e i j)) (hf : ∀ x y h, (∃ i j, x = .int i ∧ y = .int j ∧ C i j ∧ f x y h = .ok (e i j) h) ∨ f x y h = .stuck) : Fol2 X W f (rI C g) := by
  intro w h H σ Q v1 v2 d1 d2 rh r1 r2 o
  rcases hf d1 d2 h with ⟨i, j, rfl, rfl, c, z⟩ | z
  · rw [z] at o
    cases r1
    cases r2
    exact ⟨i, j, rfl, rfl, c, out_ok o rh (hs i j w)⟩
  · rw [z] at o
    exact o.elim
theorem fol_mul : Fol2 X W fMul (rI CMul fun i j => .int (i * j)) := fol_intC (e := fun i j => .int (i * j)) (fun _ _ _ => .int _) fun x y h => by
  cases x with
  | int i =>
    cases y with
    | int j =>
      show (∃ i' j', _) ∨ (if _ then _ else _) = _
      by_cases c : (-(2 ^ 60) ≤ i ∧ i ≤ 2 ^ 60) ∨ (-(2 ^ 60) ≤ j ∧ j ≤ 2 ^ 60)
      · refine .inl ⟨i, j, rfl, rfl, ?_, if_pos c⟩
        rcases c with c | c
        · exact .inl ⟨by omega, by omega⟩
        · exact .inr ⟨by omega, by omega⟩
      · exact .inr (if_neg c)
    | _ => exact .inr rfl
  | _ => exact .inr rfl
theorem fol_mod : Fol2 X W fMod (rI (fun _ j => 0 < j) fun i j => .int (i % j)) := fol_intC (e := fun i j => .int (i % j)) (fun _ _ _ => .int _) fun x y h => by
  cases x with
  | int i =>
    cases y with
    | int j =>
      show (∃ i' j', _) ∨ (if _ then _ else _) = _
      by_cases c : 0 < j
      · exact .inl ⟨i, j, rfl, rfl, c, if_pos c⟩
      · exact .inr (if_neg c)
    | _ => exact .inr rfl
  | _ => exact .inr rfl
theorem fol_div : Fol2 X W fDiv (rI CDivW fun i j => .int (i / j)) := fol_intC (e := fun i j => .int (i / j)) (fun _ _ _ => .int _) fun x y h => by
  cases x with
  | int i =>
    cases y with
    | int j =>
      show (∃ i' j', _) ∨ (if _ then _ else _) = _
      by_cases c : 0 < j ∧ j ≤ 2 ^ 60
      · exact .inl ⟨i, j, rfl, rfl, wide_div (b := 61) c.1 (by omega) (by decide) (by decide), if_pos c⟩
      · exact .inr (if_neg c)
    | _ => exact .inr rfl
  | _ => exact .inr rfl
theorem fol_pow : Fol2 X W fPow (rI CPow fun i j => .int (i ^ j.toNat)) := fol_intC (e := fun i j => .int (i ^ j.toNat)) (fun _ _ _ => .int _) fun x y h => by
  cases x with
  | int i =>
    cases y with
    | int j =>
      show (∃ i' j', _) ∨ (if _ then _ else _) = _
      by_cases c : 0 ≤ j ∧ j ≤ 1000 ∧ 0 ≤ i ∧ i ≤ 1000
      · exact .inl ⟨i, j, rfl, rfl, ⟨by omega, by omega, by omega⟩, if_pos c⟩
      · exact .inr (if_neg c)
    | _ => exact .inr rfl
  | _ => exact .inr rfl
theorem fol_neg : Fol1 X W fNeg (rU fun i => .int (-i)) := by
  intro w h H σ Q v1 d1 rh r1 o
  cases r1 with
  | int i => exact ⟨i, rfl, out_ok o rh (.int _)⟩
  | _ => exact o.elim
/-- two lists -/
def rCatR : R2 := fun x y H Q => ∃ l b xs zs, x = .ref l ∧ y = .ref b ∧ Rd H l (.lst xs) ∧ Rd H b (.lst zs) ∧ xs.length + zs.length ≤ sizeLine ∧ ∀ p, H p = none → Q (.ref p) (upd H p (.lst (xs ++ zs)))
theorem op_catR : OpR X (binaryOp .Add) rCatR := by
  intro pins s σ H x y v u Q I rx ry h
  obtain ⟨l, b, xs, zs, rfl, rfl, hH, hB, hz, q⟩ := h
  cases rx
  cases ry
  obtain ⟨z, its, n, r, e⟩ := hH.ok I.hok
  obtain ⟨z2, its2, n2, r2, e2⟩ := hB.ok I.hok
  have hl := r.length
  have hl2 := r2.length
  refine PySem.P.add_list e e2 ?_ (by rw [List.size_toArray, List.size_toArray]; omega)
  have ea : its.toArray ++ its2.toArray = (its ++ its2).toArray := by simp
  rw [ea]
  exact ⟨.ref _, _, I.lnew (t' := s.toks) (r.append r2) (by rw [List.length_append]; omega), rfl, q _ I.fresh⟩
def rAdd3 (K : PySem.W.Frag) : R2 := fun x y H Q => (rI0 (fun i j => .int (i + j)) x y H Q) ∨ ((∃ i j, x = .str i ∧ y = .str j ∧ i.length + j.length ≤ sizeLine ∧ Q (.str (i ++ j)) H) ∨ (rCatA K x y H Q ∨ rCatR x y H Q))
theorem op_add3 : OpR X (binaryOp .Add) (rAdd3 X.K) := OpR.or op_add (OpR.or op_add_str (OpR.or op_catA op_catR))
theorem fol_add : Fol2 X W fAdd (rAdd3 X.K) := by
  intro w h H σ Q v1 v2 d1 d2 rh r1 r2 o
  have lists : OutE X.K X.mg W w σ Q (match vR h d1, vR h d2 with
    | some xs, some ys => if xs.length + ys.length ≤ big then .ok (.lst (xs ++ ys)) h else .stuck
    | _, _ => .stuck) → rAdd3 X.K v1 v2 H Q := by
    intro o
    split at o
    · rename_i xs ys e1 e2
      split at o
      · rename_i c
        obtain ⟨a, us, rfl, h1, h2⟩ := vR_rep rh r1 e1
        obtain ⟨b, ws, rfl, g1, g2⟩ := vR_rep rh r2 e2
        have lx := h2.length
        have ly := g2.length
        exact .inr (.inr (.inr ⟨a, b, us, ws, rfl, rfl, h1, g1, big_le (by omega), fun p hp => out_add o rh hp (rv_lst rh hp (h2.append g2))⟩))
      · exact o.elim
    · exact o.elim
  unfold fAdd at o
  split at o
  · cases r1
    cases r2
    exact .inl ⟨_, _, rfl, rfl, out_ok o rh (.int _)⟩
  · split at o
    · rename_i c
      cases r1
      cases r2
      exact .inr (.inl ⟨_, _, rfl, rfl, big_le c, out_ok o rh (.str _)⟩)
    · exact o.elim
  · split at o
    · rename_i c
      cases r1 with
      | @tup p xs ds h1 h2 =>
        cases r2 with
        | @tup q ys es g1 g2 =>
          have lx := h2.length
          have ly := g2.length
          refine .inr (.inr (.inl ⟨p, q, xs, ys, rfl, rfl, rh.ex.t h1, rh.ex.t g1, big_le (by omega), fun ex => ?_, fun _ ey => ?_, fun _ _ z hz => ?_⟩))
          · subst ex
            cases h2
            exact out_ok o rh (.tup g1 g2)
          · subst ey
            cases g2
            rw [List.append_nil] at o
            exact out_ok o rh (.tup h1 h2)
          · exact out_add o rh hz (rv_tup rh hz (h2.append g2))
    · exact o.elim
  · exact lists o
theorem fol_isN : Fol2 X W fIsN (fun x y H Q => y = .non ∧ Q (.bl (decide (x = .non))) H) := by
  intro w h H σ Q v1 v2 d1 d2 rh r1 r2 o
  cases r2 with
  | non =>
    refine ⟨rfl, ?_⟩
    cases r1 <;> exact out_ok o rh (.bl _)
  | _ => cases r1 <;> exact o.elim
theorem fol_notN : Fol2 X W fNotN (fun x y H Q => y = .non ∧ Q (.bl (!decide (x = .non))) H) := by
  intro w h H σ Q v1 v2 d1 d2 rh r1 r2 o
  cases r2 with
  | non =>
    refine ⟨rfl, ?_⟩
    cases r1 <;> exact out_ok o rh (.bl _)
  | _ => cases r1 <;> exact o.elim
def fIsB (x y : D) (h : AH) : Res D := match x, y with
  | .bl i, .bl j => .ok (.bl (decide (i = j))) h
  | _, _ => .stuck
def fNotB (x y : D) (h : AH) : Res D := match x, y with
  | .bl i, .bl j => .ok (.bl (!decide (i = j))) h
  | _, _ => .stuck
theorem fol_isB : Fol2 X W fIsB rIsB := by
  intro w h H σ Q v1 v2 d1 d2 rh r1 r2 o
  cases r1 with
  | bl i =>
    cases r2 with
    | bl j => exact ⟨i, j, rfl, rfl, out_ok o rh (.bl _)⟩
    | _ => exact o.elim
  | _ => exact o.elim
theorem fol_notB : Fol2 X W fNotB rNotB := by
  intro w h H σ Q v1 v2 d1 d2 rh r1 r2 o
  cases r1 with
  | bl i =>
    cases r2 with
    | bl j => exact ⟨i, j, rfl, rfl, out_ok o rh (.bl _)⟩
    | _ => exact o.elim
  | _ => exact o.elim

/-! ### argument lists, displays -/
variable {es : List Expr} {e : Expr} {as : MeL}
theorem a_nil : PA X [] (TAr X W aNil) := pa_nil.wk fun σ H Q ⟨w, G, h, g, r, o⟩ => o [] w H (Le.refl _) r .nil
theorem a_cons (he : PE X e (TM X W ma)) (ha : PA X es (TAr X W as)) (hs : starEach (e :: es) X.env = (false, eval e X.env) :: starEach es X.env := by rfl) : PA X (e :: es) (TAr X W (aCons ma as)) :=
  (pa_cons he ha hs).wk fun σ H Q ⟨w, G, h, g, r, o⟩ => ⟨w, G, h, g, r, o.bindE fun d h1 v w1 H1 l r1 x o1 => ⟨w1, G, h1, g.mono l, r1, o1.bindA fun ds h2 vs w2 H2 l2 r2 xs o2 => o2 _ w2 H2 (Le.refl _) r2 (.cons (Rv_mono l2 x) xs)⟩⟩
theorem e_tup {x1} (ha : PA X es (TAr X W as)) : PE X (.Tuple es x1 pos) (TM X W (mN fTup as)) := by
  refine (pe_tup ha).wk fun σ H Q ⟨w, G, h, g, r, o⟩ => ⟨w, G, h, g, r, o.bindA fun ds h1 vs w1 H1 l r1 x o1 => ?_⟩
  unfold fTup at o1
  split at o1
  · rename_i c
    exact ⟨big_le (by rw [x.length]; exact c), fun p hp => out_add o1 r1 hp (rv_tup r1 hp x)⟩
  · exact o1.elim
theorem f_lst {x1} (ha : PA X es (TAr X W as)) : PE X (.List es x1) (TF X W (lLst as)) := by
  refine (pe_lst ha).wk fun σ H Q ⟨w, G, h, g, r, o⟩ => ⟨w, G, h, g, r, o.bindA fun ds h1 vs w1 H1 l r1 x o1 => ?_⟩
  split at o1
  · rename_i c
    exact ⟨big_le (by rw [x.length]; exact c), fun p hp => out_new o1 r1 hp x⟩
  · exact o1.elim
/-- a new list, never changed from now on; a new list as an object -/
theorem L_read {l : MeL} {σ : L2.St} {H : Hp} {Q : VK} (t : TM X W (mL l) σ H Q) : TF X W l σ H Q := by
  obtain ⟨w, G, h, g, r, o⟩ := t
  refine ⟨w, G, h, g, r, OutE.bindF (m := l) o fun ds h1 p xs w1 H1 l r1 ap hp x o1 => ?_⟩
  obtain ⟨r2, l2⟩ := r1.keep ap hp
  exact o1 _ _ H1 l2 r2 (.lst (.inl upd_same) (Ra_mono l2 x))
theorem e_L {l : MeL} (he : PE X e (TF X W l)) : PE X e (TM X W (mL l)) := he.wk fun _ _ _ t => L_read t
theorem new_read {l : MeL} {σ : L2.St} {H : Hp} {Q : VK} (t : TM X W (mNew l) σ H Q) : TF X W l σ H Q := by
  obtain ⟨w, G, h, g, r, o⟩ := t
  refine ⟨w, G, h, g, r, OutE.bindF (m := l) o fun ds h1 p xs w1 H1 l r1 ap hp x o1 => ?_⟩
  refine o1 _ (w1.push p) H1 (w1.le_push p) (r1.push ap ⟨xs, hp, Ra_mono (w1.le_push p) x⟩) ?_
  have e1 : h1.length = w1.N := r1.len.symm
  rw [e1]
  have e2 : (w1.push p).mu w1.N = p := w1.push_mu p
  have q : Rv X.K (w1.push p) (.ref ((w1.push p).mu w1.N)) (.loc w1.N) := .loc (Nat.lt_succ_self _)
  rw [e2] at q
  exact q
theorem e_new {l : MeL} (he : PE X e (TF X W l)) : PE X e (TM X W (mNew l)) := he.wk fun _ _ _ t => new_read t
end
end AB
/-! AB: calls, truth, equality, subscripts. -/
namespace AB
open PySem PySem.Spec PyProof.Rows L2

/-! ### data of the library's -/
mutual
def toP : D → Option PyData
  | .non => some .none
  | .bl b => some (.bool b)
  | .int i => some (.int i)
  | .str x => some (.str x)
  | .tup ds => (toPs ds).map .tuple
  | .lst ds => (toPs ds).map .list
  | .rol _ => none
  | .loc _ => none
  | .con _ => none
def toPs : List D → Option (List PyData)
  | [] => some []
  | d :: ds => match toP d, toPs ds with
    | some p, some ps => some (p :: ps)
    | _, _ => none
end
/-- a list of the machine's, read as it stands -/
def toPh (h : AH) (d : D) : Option PyData := match d with
  | .loc n => match h[n]? with
    | some (.lst ds) => (toPs ds).map .list
    | _ => none
  | d => toP d
section
variable {K : PySem.W.Frag} {w : Wd} {H : Hp} {h : AH}
mutual
theorem toP_rep (ex : Ext w.S H) : ∀ (d : D) (v : V) (p : PyData), Rv K w v d → toP d = some p → Dp K H v p
  | .non, _, _, r, e => by cases r; cases e; exact .non
  | .bl _, _, _, r, e => by cases r; cases e; exact .bl _
  | .int _, _, _, r, e => by cases r; cases e; exact .int _
  | .str _, _, _, r, e => by cases r; cases e; exact .str _
  | .tup ds, _, p, r, e => by
    cases r with
    | tup a b =>
      unfold toP at e
      cases q : toPs ds with
      | none => rw [q] at e; cases e
      | some ps =>
        rw [q] at e
        cases e
        exact .tup (ex.t a) (toPs_rep ex ds _ ps b q)
  | .lst ds, _, p, r, e => by
    cases r with
    | lst a b =>
      unfold toP at e
      cases q : toPs ds with
      | none => rw [q] at e; cases e
      | some ps =>
        rw [q] at e
        cases e
        exact .lst (.inl (ex.rd a)) (toPs_rep ex ds _ ps b q)
  | .rol _, _, _, _, e => by cases e
  | .loc _, _, _, _, e => by cases e
  | .con _, _, _, _, e => by cases e
theorem toPs_rep (ex : Ext w.S H) : ∀ (ds : List D) (vs : List V) (ps : List PyData), Ra K w vs ds → toPs ds = some ps → DpAll K H vs ps
  | [], _, _, r, e => by cases r; cases e; exact .nil
  | d :: ds, _, ps, r, e => by
    cases r with
    | cons a b =>
      unfold toPs at e
      cases q1 : toP d with
      | none => rw [q1] at e; cases e
      | some p =>
        cases q2 : toPs ds with
        | none => rw [q1, q2] at e; cases e
        | some qs =>
          rw [q1, q2] at e
          cases e
          exact .cons (toP_rep ex d _ p a q1) (toPs_rep ex ds _ qs b q2)
end
theorem toPh_rep (r : RepH K w H h) {v : V} {d : D} {p : PyData} (rv : Rv K w v d) (e : toPh h d = some p) : Dp K H v p := by
  cases rv with
  | @loc n hn =>
    have e : (match h[n]? with
      | some (.lst ds) => (toPs ds).map .list
      | _ => none) = some p := e
    split at e
    · rename_i ds e'
      obtain ⟨_, xs, e2, ra⟩ := r.cell _ _ e'
      cases q : toPs ds with
      | none => rw [q] at e; cases e
      | some ps =>
        rw [q] at e
        cases e
        exact .lst (.inl (.inl e2)) (toPs_rep r.ex ds _ ps ra q)
    · cases e
  | non => exact toP_rep r.ex _ _ p .non e
  | bl b => exact toP_rep r.ex _ _ p (.bl b) e
  | int b => exact toP_rep r.ex _ _ p (.int b) e
  | str b => exact toP_rep r.ex _ _ p (.str b) e
  | tup a b => exact toP_rep r.ex _ _ p (.tup a b) e
  | lst a b => exact toP_rep r.ex _ _ p (.lst a b) e
  | con => cases e
  | rol => cases e
end
/-- both read, of a shape that the library compares -/
def okP (h : AH) (d : D) : Option PyData := match toPh h d with
  | some p => if SeqAt.shaped p = true then some p else none
  | none => none
theorem okP_some {h : AH} {d : D} {p : PyData} (e : okP h d = some p) : toPh h d = some p ∧ SeqAt.shaped p = true := by
  unfold okP at e
  split at e
  · split at e
    · cases e
      exact ⟨by assumption, by assumption⟩
    · cases e
  · cases e
def fEq (x y : D) (h : AH) : Res D := match okP h x, okP h y with
  | some p, some q => .ok (.bl (PyData.eqv p q)) h
  | _, _ => .stuck
def fNe (x y : D) (h : AH) : Res D := match okP h x, okP h y with
  | some p, some q => .ok (.bl (!PyData.eqv p q)) h
  | _, _ => .stuck
/-- x in a list or tuple -/
def inD (h : AH) (x y : D) : Option Bool := match okP h x, okP h y with
  | some p, some (.list qs) => some (qs.any fun z => PyData.eqv z p)
  | some p, some (.tuple qs) => some (qs.any fun z => PyData.eqv z p)
  | _, _ => none
def fIn (x y : D) (h : AH) : Res D := match inD h x y with
  | some b => .ok (.bl b) h
  | none => .stuck
def fNotIn (x y : D) (h : AH) : Res D := match inD h x y with
  | some b => .ok (.bl (!b)) h
  | none => .stuck
section
variable {X : Cx} {W : WX}
theorem fol_eq : Fol2 X W fEq (rEqD X.K) := by
  intro w h H σ Q v1 v2 d1 d2 rh r1 r2 o
  unfold fEq at o
  split at o
  · rename_i p q e1 e2
    obtain ⟨a1, a2⟩ := okP_some e1
    obtain ⟨b1, b2⟩ := okP_some e2
    exact ⟨p, q, toPh_rep rh r1 a1, toPh_rep rh r2 b1, a2, b2, out_ok o rh (.bl _)⟩
  · exact o.elim
theorem fol_ne : Fol2 X W fNe (rNeD X.K) := by
  intro w h H σ Q v1 v2 d1 d2 rh r1 r2 o
  unfold fNe at o
  split at o
  · rename_i p q e1 e2
    obtain ⟨a1, a2⟩ := okP_some e1
    obtain ⟨b1, b2⟩ := okP_some e2
    exact ⟨p, q, toPh_rep rh r1 a1, toPh_rep rh r2 b1, a2, b2, out_ok o rh (.bl _)⟩
  · exact o.elim
/-- x in y, x not in y: a list or a tuple -/
def rInA (K : PySem.W.Frag) (neg : Bool) : R2 := fun x y H Q => ∃ d ds, Dp K H x d ∧ (Dp K H y (.list ds) ∨ Dp K H y (.tuple ds)) ∧ SeqAt.shaped d = true ∧ SeqAt.shaped (.list ds) = true ∧ Q (.bl (if neg then !(ds.any fun z => PyData.eqv z d) else ds.any fun z => PyData.eqv z d)) H
theorem op_inA (hu : X.A.units + 65 < cLine) : OpR X (compareOp .In) (rInA X.K false) := by
  intro pins s σ H x y v u Q I rx ry h
  obtain ⟨d, ds, hd, he, sd, se, q⟩ := h
  obtain ⟨as, r1⟩ := Dp.reads I d x v hd rx
  rcases he with he | he
  · obtain ⟨bs, r2⟩ := Dp.reads I (.list ds) y u he ry
    exact SeqAt.in_list_reads r2 r1 (SeqAt.canLay_of_shaped se) (SeqAt.canLay_of_shaped sd) (room_in_shaped sd hu) ⟨.bl _, H, I, rfl, q⟩
  · obtain ⟨bs, r2⟩ := Dp.reads I (.tuple ds) y u he ry
    exact SeqAt.in_tuple_reads r2 r1 (SeqAt.canLay_of_shaped se) (SeqAt.canLay_of_shaped sd) (room_in_shaped sd hu) ⟨.bl _, H, I, rfl, q⟩
theorem op_notInA (hu : X.A.units + 65 < cLine) : OpR X (compareOp .NotIn) (rInA X.K true) := by
  intro pins s σ H x y v u Q I rx ry h
  obtain ⟨d, ds, hd, he, sd, se, q⟩ := h
  obtain ⟨as, r1⟩ := Dp.reads I d x v hd rx
  rcases he with he | he
  · obtain ⟨bs, r2⟩ := Dp.reads I (.list ds) y u he ry
    exact SeqAt.notIn_list_reads r2 r1 (SeqAt.canLay_of_shaped se) (SeqAt.canLay_of_shaped sd) (room_in_shaped sd hu) ⟨.bl _, H, I, rfl, q⟩
  · obtain ⟨bs, r2⟩ := Dp.reads I (.tuple ds) y u he ry
    exact SeqAt.notIn_tuple_reads r2 r1 (SeqAt.canLay_of_shaped se) (SeqAt.canLay_of_shaped sd) (room_in_shaped sd hu) ⟨.bl _, H, I, rfl, q⟩
theorem inD_rep {K : PySem.W.Frag} {w : Wd} {H : Hp} {h : AH} {v1 v2 : V} {d1 d2 : D} {b : Bool} (rh : RepH K w H h) (r1 : Rv K w v1 d1) (r2 : Rv K w v2 d2) (e : inD h d1 d2 = some b) :
    ∃ d ds, Dp K H v1 d ∧ (Dp K H v2 (.list ds) ∨ Dp K H v2 (.tuple ds)) ∧ SeqAt.shaped d = true ∧ SeqAt.shaped (.list ds) = true ∧ b = ds.any fun z => PyData.eqv z d := by
  unfold inD at e
  split at e
  · rename_i p qs e1 e2
    obtain ⟨a1, a2⟩ := okP_some e1
    obtain ⟨b1, b2⟩ := okP_some e2
    cases e
    exact ⟨p, qs, toPh_rep rh r1 a1, .inl (toPh_rep rh r2 b1), a2, b2, rfl⟩
  · rename_i p qs e1 e2
    obtain ⟨a1, a2⟩ := okP_some e1
    obtain ⟨b1, b2⟩ := okP_some e2
    cases e
    exact ⟨p, qs, toPh_rep rh r1 a1, .inr (toPh_rep rh r2 b1), a2, b2, rfl⟩
  · cases e
theorem fol_in : Fol2 X W fIn (rInA X.K false) := by
  intro w h H σ Q v1 v2 d1 d2 rh r1 r2 o
  unfold fIn at o
  split at o
  · rename_i b e
    obtain ⟨d, ds, q1, q2, q3, q4, rfl⟩ := inD_rep rh r1 r2 e
    exact ⟨d, ds, q1, q2, q3, q4, out_ok o rh (.bl _)⟩
  · exact o.elim
theorem fol_notIn : Fol2 X W fNotIn (rInA X.K true) := by
  intro w h H σ Q v1 v2 d1 d2 rh r1 r2 o
  unfold fNotIn at o
  split at o
  · rename_i b e
    obtain ⟨d, ds, q1, q2, q3, q4, rfl⟩ := inD_rep rh r1 r2 e
    exact ⟨d, ds, q1, q2, q3, q4, out_ok o rh (.bl _)⟩
  · exact o.elim
end

/-! ### truth, tests -/
def truD (h : AH) : D → Option Bool
  | .non => some false
  | .bl b => some b
  | .int i => some (i != 0)
  | d => (vS h d).map fun ds => !ds.isEmpty
def tOf (m : Me) : MeT := fun G h => (m G h).bind fun d h1 => match truD h1 d with
  | some b => .ok b h1
  | none => .stuck
/-- a bool's own -/
def tBl (m : Me) : MeT := fun G h => (m G h).bind fun d h1 => match d with
  | .bl b => .ok b h1
  | _ => .stuck
def tAndM (a b : MeT) : MeT := fun G h => (a G h).bind fun c h1 => if c = true then b G h1 else .ok false h1
def tOrM (a b : MeT) : MeT := fun G h => (a G h).bind fun c h1 => if c = true then .ok true h1 else b G h1
def tNotM (a : MeT) : MeT := fun G h => (a G h).bind fun c h1 => .ok (!c) h1
def mAnd (a b : Me) : Me := fun G h => (a G h).bind fun d h1 => match truD h1 d with
  | some true => b G h1
  | some false => .ok d h1
  | none => .stuck
def mOr (a b : Me) : Me := fun G h => (a G h).bind fun d h1 => match truD h1 d with
  | some true => .ok d h1
  | some false => b G h1
  | none => .stuck
def mNot (a : Me) : Me := fun G h => (a G h).bind fun d h1 => match truD h1 d with
  | some b => .ok (.bl (!b)) h1
  | none => .stuck
def mIf (c : MeT) (a b : Me) : Me := fun G h => (c G h).bind fun t h1 => if t = true then a G h1 else b G h1
theorem truD_rep {K : PySem.W.Frag} {w : Wd} {H : Hp} {h : AH} {v : V} {d : D} {b : Bool} (rh : RepH K w H h) (rv : Rv K w v d) (e : truD h d = some b) : TruV K v H b := by
  have seq : ∀ {ds : List D}, vS h d = some ds → b = (!ds.isEmpty) → TruV K v H b := by
    intro ds q hb
    obtain ⟨a, xs, rfl, sq, ra⟩ := vS_rep rh rv q
    have eb : b = !xs.isEmpty := by
      rw [hb]
      cases ra <;> rfl
    rcases sq with sq | sq
    · exact .inl ⟨xs, sq, eb⟩
    · exact .inr (.inl ⟨xs, sq, eb⟩)
  cases d with
  | non => cases rv; cases e; rfl
  | bl c => cases rv; cases e; rfl
  | int c => cases rv; cases e; rfl
  | str c => cases e
  | con c => cases e
  | tup ds => cases e; exact seq rfl rfl
  | lst ds => cases e; exact seq rfl rfl
  | rol ds => cases e; exact seq rfl rfl
  | loc n =>
    have e : (vS h (.loc n)).map (fun ds : List D => !ds.isEmpty) = some b := e
    cases q : vS h (.loc n) with
    | none => rw [q] at e; cases e
    | some ds =>
      rw [q] at e
      cases e
      exact seq q rfl
section
variable {X : Cx} {W : WX} {pos : Pos} {a b c : Expr} {rest : List Expr} {ma mb : Me} {ta tb tc : MeT}
theorem t_tru (ha : PE X a (TM X W ma)) (he : ∀ whole, isTrue a X.env whole = (do let v ← whole; standAt a.pos; holding [v] (truthy v)) := by intro _; rfl) : PT X a (TTT X W (tOf ma)) := by
  refine (pt_truth ha he).wk fun σ H Q ⟨w, G, h, g, r, o⟩ => ⟨w, G, h, g, r, o.bindE fun d h1 v w1 H1 l r1 x o1 => ?_⟩
  split at o1
  · rename_i k e
    exact ⟨k, truD_rep r1 x e, o1 w1 H1 (Le.refl _) r1⟩
  · exact o1.elim
/-- a comparison -/
theorem t_cmp {f : D → D → AH → Res D} {r : R2} {op : CmpOp} (ho : OpR X (compareOp op) r) (hf : Fol2 X W f r) (ha : PE X a (TM X W ma)) (hb : PE X b (TM X W mb)) (hm : behindInMarks op b = false := by rfl) : PT X (.Compare a [op] [b] pos) (TTT X W (tBl (mOp2 f ma mb))) := by
  refine (pt_cmpR ho ha hb hm).wk fun σ H Q ⟨w, G, h, g, r, o⟩ => ?_
  refine op2 hf ⟨w, G, h, g, r, o.bindE fun d h1 v w1 H1 l r1 x o1 => ?_⟩
  split at o1
  · cases x
    exact ⟨_, rfl, o1 w1 H1 (Le.refl _) r1⟩
  · exact o1.elim
theorem t_not (ha : PT X a (TTT X W ta)) : PT X (.UnaryOp .Not a pos) (TTT X W (tNotM ta)) :=
  (pt_not ha).wk fun σ H Q ⟨w, G, h, g, r, o⟩ => ⟨w, G, h, g, r, o.bindT fun b h1 w1 H1 l r1 o1 => o1 w1 H1 (Le.refl _) r1⟩
theorem w_one (op : BoolOp) (ha : PT X a (TTT X W ta)) : PW X (.BoolOp op [a] pos) (TTT X W ta) := by
  cases op
  · exact pw_and1 ha
  · exact pw_or1 ha
theorem w_and (ha : PT X a (TTT X W ta)) (hb : PW X (.BoolOp .And (b :: rest) pos) (TTT X W tb)) : PW X (.BoolOp .And (a :: b :: rest) pos) (TTT X W (tAndM ta tb)) := by
  refine (pw_and ha hb).wk fun σ H Q ⟨w, G, h, g, r, o⟩ => ⟨w, G, h, g, r, o.bindT fun c h1 w1 H1 l r1 o1 => ?_⟩
  cases c with
  | true => exact ⟨w1, G, h1, g.mono l, r1, o1⟩
  | false => exact o1 w1 H1 (Le.refl _) r1
theorem w_or (ha : PT X a (TTT X W ta)) (hb : PW X (.BoolOp .Or (b :: rest) pos) (TTT X W tb)) : PW X (.BoolOp .Or (a :: b :: rest) pos) (TTT X W (tOrM ta tb)) := by
  refine (pw_or ha hb).wk fun σ H Q ⟨w, G, h, g, r, o⟩ => ⟨w, G, h, g, r, o.bindT fun c h1 w1 H1 l r1 o1 => ?_⟩
  cases c with
  | true => exact o1 w1 H1 (Le.refl _) r1
  | false => exact ⟨w1, G, h1, g.mono l, r1, o1⟩
theorem e_one {op : BoolOp} (ha : PE X a (TM X W ma)) : PE X (.BoolOp op [a] pos) (TM X W ma) := pe_one ha
theorem e_and (ha : PE X a (TM X W ma)) (hb : PE X (.BoolOp .And (b :: rest) pos) (TM X W mb)) : PE X (.BoolOp .And (a :: b :: rest) pos) (TM X W (mAnd ma mb)) := by
  refine (pe_andT ha hb).wk fun σ H Q ⟨w, G, h, g, r, o⟩ => ⟨w, G, h, g, r, o.bindE fun d h1 v w1 H1 l r1 x o1 => ?_⟩
  split at o1
  · rename_i e
    exact ⟨true, truD_rep r1 x e, iteT ⟨w1, G, h1, g.mono l, r1, o1⟩⟩
  · rename_i e
    exact ⟨false, truD_rep r1 x e, iteF (out_ok o1 r1 x)⟩
  · exact o1.elim
theorem e_or (ha : PE X a (TM X W ma)) (hb : PE X (.BoolOp .Or (b :: rest) pos) (TM X W mb)) : PE X (.BoolOp .Or (a :: b :: rest) pos) (TM X W (mOr ma mb)) := by
  refine (pe_orT ha hb).wk fun σ H Q ⟨w, G, h, g, r, o⟩ => ⟨w, G, h, g, r, o.bindE fun d h1 v w1 H1 l r1 x o1 => ?_⟩
  split at o1
  · rename_i e
    exact ⟨true, truD_rep r1 x e, iteT (out_ok o1 r1 x)⟩
  · rename_i e
    exact ⟨false, truD_rep r1 x e, iteF ⟨w1, G, h1, g.mono l, r1, o1⟩⟩
  · exact o1.elim
theorem e_not (ha : PE X a (TM X W ma)) : PE X (.UnaryOp .Not a pos) (TM X W (mNot ma)) := by
  refine (pe_notT ha).wk fun σ H Q ⟨w, G, h, g, r, o⟩ => ⟨w, G, h, g, r, o.bindE fun d h1 v w1 H1 l r1 x o1 => ?_⟩
  split at o1
  · rename_i b e
    exact ⟨b, truD_rep r1 x e, out_ok o1 r1 (.bl _)⟩
  · exact o1.elim
theorem e_if (hc : PT X c (TTT X W tc)) (ha : PE X a (TM X W ma)) (hb : PE X b (TM X W mb)) : PE X (.IfExp c a b pos) (TM X W (mIf tc ma mb)) := by
  refine (pe_ifExp hc ha hb).wk fun σ H Q ⟨w, G, h, g, r, o⟩ => ⟨w, G, h, g, r, o.bindT fun t h1 w1 H1 l r1 o1 => ?_⟩
  cases t with
  | true => exact ⟨w1, G, h1, g.mono l, r1, o1⟩
  | false => exact ⟨w1, G, h1, g.mono l, r1, o1⟩
/-- least <= x <= most -/
def mChain (f g : D → D → AH → Res D) (a b c : Me) : Me := fun G h => (a G h).bind fun x h1 => (b G h1).bind fun y h2 => (f x y h2).bind fun z h3 => match z with
  | .bl true => (c G h3).bind fun u h4 => g y u h4
  | .bl false => .ok (.bl false) h3
  | _ => .stuck
theorem OutE.bindR {K : PySem.W.Frag} {mg : Str → Option Value} {w : Wd} {σ : L2.St} {R Q : VK} {k : D → AH → Res D} {m : Res D} (o : OutE K mg W w σ Q (m.bind k))
    (hq : ∀ d h1 v w1 H1, Le w w1 → RepH K w1 H1 h1 → Rv K w1 v d → OutE K mg W w1 σ Q (k d h1) → R v H1) : OutE K mg W w σ R m := by
  cases m with
  | ok d h1 => exact fun v w1 H1 l r x => hq d h1 v w1 H1 l r x (OutE.mono l o)
  | exc c fs h1 => exact o
  | stuck => exact o
theorem e_chain {f f' : D → D → AH → Res D} {r r' : R2} {op op' : CmpOp} {mc : Me} (ho : OpR X (compareOp op) r) (ho' : OpR X (compareOp op') r') (hf : Fol2 X W f r) (hf' : Fol2 X W f' r')
    (ha : PE X a (TM X W ma)) (hb : PE X b (TM X W mb)) (hc : PE X c (TM X W mc)) (hm : lastMarks [op, op'] [b, c] = false := by with_unfolding_all rfl) : PE X (.Compare a [op, op'] [b, c] pos) (TM X W (mChain f f' ma mb mc)) := by
  refine (pe_chain ho ho' ha hb hc hm).wk fun σ H Q ⟨w, G, h, g, rh, o⟩ => ?_
  refine ⟨w, G, h, g, rh, o.bindE fun d h1 v w1 H1 l r1 x o1 => ⟨w1, G, h1, g.mono l, r1, o1.bindE fun d2 h2 v2 w2 H2 l2 r2 x2 o2 => ?_⟩⟩
  refine hf w2 h2 H2 σ _ v v2 d d2 r2 (Rv_mono l2 x) x2 (o2.bindR fun d3 h3 v3 w3 H3 l3 r3 x3 o3 => ?_)
  split at o3
  · cases x3
    exact ⟨true, rfl, iteT ⟨w3, G, h3, g.mono (l.trans (l2.trans l3)), r3, o3.bindE fun d4 h4 v4 w4 H4 l4 r4 x4 o4 => hf' w4 h4 H4 σ Q v2 v4 d2 d4 r4 (Rv_mono (l3.trans l4) x2) x4 o4⟩⟩
  · cases x3
    exact ⟨false, rfl, iteF (out_ok o3 r3 (.bl false))⟩
  · exact o3.elim
theorem t_chain {f f' : D → D → AH → Res D} {r r' : R2} {op op' : CmpOp} {mc : Me} (ho : OpR X (compareOp op) r) (ho' : OpR X (compareOp op') r') (hf : Fol2 X W f r) (hf' : Fol2 X W f' r')
    (ha : PE X a (TM X W ma)) (hb : PE X b (TM X W mb)) (hc : PE X c (TM X W mc)) (hm : lastMarks [op, op'] [b, c] = false := by with_unfolding_all rfl) : PT X (.Compare a [op, op'] [b, c] pos) (TTT X W (tBl (mChain f f' ma mb mc))) := by
  refine (pt_chain ho ho' ha hb hc hm).wk fun σ H Q ⟨w, G, h, g, rh, o⟩ => ?_
  have o : OutT X.K X.mg W w σ Q ((mChain f f' ma mb mc G h).bind _) := o
  have o2 : OutE X.K X.mg W w σ (fun x H1 => ∃ k, x = .bl k ∧ Q k H1) (mChain f f' ma mb mc G h) := o.bindE fun d h1 v w1 H1 l r1 x o1 => by
    split at o1
    · cases x
      exact ⟨_, rfl, o1 w1 H1 (Le.refl _) r1⟩
    · exact o1.elim
  refine ⟨w, G, h, g, rh, o2.bindE fun d h1 v w1 H1 l r1 x o1 => ⟨w1, G, h1, g.mono l, r1, o1.bindE fun d2 h2 v2 w2 H2 l2 r2 x2 o2 => ?_⟩⟩
  refine hf w2 h2 H2 σ _ v v2 d d2 r2 (Rv_mono l2 x) x2 (o2.bindR fun d3 h3 v3 w3 H3 l3 r3 x3 o3 => ?_)
  split at o3
  · cases x3
    exact ⟨true, rfl, iteT ⟨w3, G, h3, g.mono (l.trans (l2.trans l3)), r3, o3.bindE fun d4 h4 v4 w4 H4 l4 r4 x4 o4 => hf' w4 h4 H4 σ _ v2 v4 d2 d4 r4 (Rv_mono (l3.trans l4) x2) x4 o4⟩⟩
  · cases x3
    exact ⟨false, rfl, iteF (out_ok o3 r3 (.bl false))⟩
  · exact o3.elim
end
end AB
/-! AB: built-in calls, subscripts, slices, calls of defs. -/
namespace AB
open PySem PySem.Spec PyProof.Rows L2

/-! ### calls by values -/
section
variable {X : Cx} {W : WX} {pos p : Pos} {e : Expr} {es : List Expr} {as : MeL} {x : Str} {bid T : String} {ma mb : Me}
theorem cb {f : List D → AH → Res D} {r : List V → Hp → VK → Prop} (hf : FolN X W f r) {σ : L2.St} {H : Hp} {Q : VK} (t : TM X W (mN f as) σ H Q) : tCB r (TAr X W as) σ H Q := by
  obtain ⟨w, G, h, g, rh, o⟩ := t
  exact ⟨w, G, h, g, rh, o.bindA fun ds h1 vs w1 H1 l r1 x o1 => hf w1 h1 H1 σ Q vs ds r1 x o1⟩
def lN (f : List D → AH → Res (List D)) (as : MeL) : MeL := fun G h => (as G h).bind fun xs h1 => f xs h1
theorem cbF {f : List D → AH → Res (List D)} {r : List V → Hp → VK → Prop} (hf : FolF X W f r) {σ : L2.St} {H : Hp} {Q : VK} (t : TF X W (lN f as) σ H Q) : tCB r (TAr X W as) σ H Q := by
  obtain ⟨w, G, h, g, rh, o⟩ := t
  exact ⟨w, G, h, g, rh, OutF.bindA (m := as) o fun ds h1 vs w1 H1 l r1 x o1 => hf w1 h1 H1 σ Q vs ds r1 x o1⟩
theorem e_blt {f : List D → AH → Res D} {r : List V → Hp → VK → Prop} (hc : CallR X (.builtin bid) r) (hf : FolN X W f r) (hm : X.mg x = none) (ha : PA X (e :: es) (TAr X W as)) (hg : Gl X x := by rfl) (hv : bootBuiltins x = some (.builtin bid) := by decide +kernel) (hn : x ≠ "__name__" := by decide) (hdb : (x == ("__debug__" : Str)) = false := by decide)
    (he : starEach (e :: es) X.env = (false, eval e X.env) :: starEach es X.env := by rfl) (hpl : (backTo pos (starEach es X.env)).any (·.1) = false := by rfl) : PE X (.Call (.Name x p) (e :: es) [] pos) (TM X W (mN f as)) :=
  (pe_callB hc hg hm hv ha hn hdb he hpl).wk fun _ _ _ t => cb hf t
theorem e_typ {f : List D → AH → Res D} {r : List V → Hp → VK → Prop} (hc : CallR X (.type T) r) (hf : FolN X W f r) (hm : X.mg x = none) (ha : PA X (e :: es) (TAr X W as)) (hg : Gl X x := by rfl) (hv : bootBuiltins x = some (.type T) := by decide +kernel) (hn : x ≠ "__name__" := by decide) (hdb : (x == ("__debug__" : Str)) = false := by decide)
    (he : starEach (e :: es) X.env = (false, eval e X.env) :: starEach es X.env := by rfl) (hpl : (backTo pos (starEach es X.env)).any (·.1) = false := by rfl) : PE X (.Call (.Name x p) (e :: es) [] pos) (TM X W (mN f as)) :=
  (pe_callTy hc hg hm hv ha hn hdb he hpl).wk fun _ _ _ t => cb hf t
theorem f_blt {f : List D → AH → Res (List D)} {r : List V → Hp → VK → Prop} (hc : CallR X (.builtin bid) r) (hf : FolF X W f r) (hm : X.mg x = none) (ha : PA X (e :: es) (TAr X W as)) (hg : Gl X x := by rfl) (hv : bootBuiltins x = some (.builtin bid) := by decide +kernel) (hn : x ≠ "__name__" := by decide) (hdb : (x == ("__debug__" : Str)) = false := by decide)
    (he : starEach (e :: es) X.env = (false, eval e X.env) :: starEach es X.env := by rfl) (hpl : (backTo pos (starEach es X.env)).any (·.1) = false := by rfl) : PE X (.Call (.Name x p) (e :: es) [] pos) (TF X W (lN f as)) :=
  (pe_callB hc hg hm hv ha hn hdb he hpl).wk fun _ _ _ t => cbF hf t
theorem f_typ {f : List D → AH → Res (List D)} {r : List V → Hp → VK → Prop} (hc : CallR X (.type T) r) (hf : FolF X W f r) (hm : X.mg x = none) (ha : PA X (e :: es) (TAr X W as)) (hg : Gl X x := by rfl) (hv : bootBuiltins x = some (.type T) := by decide +kernel) (hn : x ≠ "__name__" := by decide) (hdb : (x == ("__debug__" : Str)) = false := by decide)
    (he : starEach (e :: es) X.env = (false, eval e X.env) :: starEach es X.env := by rfl) (hpl : (backTo pos (starEach es X.env)).any (·.1) = false := by rfl) : PE X (.Call (.Name x p) (e :: es) [] pos) (TF X W (lN f as)) :=
  (pe_callTy hc hg hm hv ha hn hdb he hpl).wk fun _ _ _ t => cbF hf t
theorem ra_one {w : Wd} {vs : List V} {d : D} (r : Ra X.K w vs [d]) : ∃ v, vs = [v] ∧ Rv X.K w v d := by
  cases r with
  | cons a b => cases b; exact ⟨_, rfl, a⟩
theorem ra_two {w : Wd} {vs : List V} {d d2 : D} (r : Ra X.K w vs [d, d2]) : ∃ v v2, vs = [v, v2] ∧ Rv X.K w v d ∧ Rv X.K w v2 d2 := by
  cases r with
  | cons a b =>
    cases b with
    | cons c d => cases d; exact ⟨_, _, rfl, a, c⟩
/-! len -/
def fLen (xs : List D) (h : AH) : Res D := match xs with
  | [.str x] => if x.length ≤ big then .ok (.int x.length) h else .stuck
  | [d] => match vS h d with
    | some ds => .ok (.int ds.length) h
    | none => .stuck
  | _ => .stuck
theorem fol_len : FolN X W fLen (fun xs H Q => ∃ x n, xs = [x] ∧ LenV X.K x H n ∧ Q (.int n) H) := by
  intro w h H σ Q vs ds rh ra o
  unfold fLen at o
  split at o
  · obtain ⟨v, rfl, rv⟩ := ra_one ra
    split at o
    · rename_i c
      cases rv
      exact ⟨_, _, rfl, ⟨big_le c, rfl⟩, out_ok o rh (.int _)⟩
    · exact o.elim
  · obtain ⟨v, rfl, rv⟩ := ra_one ra
    split at o
    · rename_i es e
      obtain ⟨a, xs, rfl, sq, ra2⟩ := vS_rep rh rv e
      refine ⟨_, xs.length, rfl, ?_, ?_⟩
      · rcases sq with sq | sq
        · exact .inl ⟨xs, sq, rfl⟩
        · exact .inr ⟨xs, sq, rfl⟩
      · rw [ra2.length]
        exact out_ok o rh (.int _)
    · exact o.elim
  · exact o.elim
theorem e_len (hm : X.mg "len" = none) (ha : PA X [e] (TAr X W as)) (hg : Gl X "len" := by rfl) (he : starEach [e] X.env = (false, eval e X.env) :: starEach [] X.env := by rfl) : PE X (.Call (.Name "len" p) [e] [] pos) (TM X W (mN fLen as)) :=
  e_blt call_len fol_len hm ha hg PySem.boot_len (by decide) (by decide) he rfl
/-! tuple(x), list(x), int(x), abs(x) -/
def fTuple (xs : List D) (h : AH) : Res D := match xs with
  | [d] => match vS h d with
    | some ds => .ok (.tup ds) h
    | none => .stuck
  | _ => .stuck
theorem fol_tuple : FolN X W fTuple (fun xs H Q => ∃ p ys, xs = [.ref p] ∧ ((SqL X.K H p ys ∧ ∀ l, H l = none → Q (.ref l) (upd H l (.tup ys))) ∨ (SqT X.K H p ys ∧ Q (.ref p) H))) := by
  intro w h H σ Q vs ds rh ra o
  unfold fTuple at o
  split at o
  · rename_i d
    obtain ⟨v, rfl, rv⟩ := ra_one ra
    split at o
    · rename_i es e
      by_cases ht : ∃ ts, d = .tup ts
      · obtain ⟨ts, rfl⟩ := ht
        cases e
        cases rv with
        | tup a b => exact ⟨_, _, rfl, .inr ⟨rh.ex.t a, out_ok o rh (.tup a b)⟩⟩
      · have e : vL h d = some es := by
          cases d with
          | tup es => exact absurd ⟨es, rfl⟩ ht
          | _ => exact e
        obtain ⟨a, xs, rfl, sq, ra2⟩ := vL_rep rh rv e
        exact ⟨a, xs, rfl, .inl ⟨sq, fun l hl => out_add o rh hl (rv_tup rh hl ra2)⟩⟩
    · exact o.elim
  · exact o.elim
theorem e_tuple (hm : X.mg "tuple" = none) (ha : PA X [e] (TAr X W as)) (hg : Gl X "tuple" := by rfl) (he : starEach [e] X.env = (false, eval e X.env) :: starEach [] X.env := by rfl) : PE X (.Call (.Name "tuple" p) [e] [] pos) (TM X W (mN fTuple as)) :=
  e_typ call_tuple_of fol_tuple hm ha hg (by decide +kernel) (by decide) (by decide) he rfl
def lList (xs : List D) (h : AH) : Res (List D) := match xs with
  | [d] => match vS h d with
    | some ds => .ok ds h
    | none => .stuck
  | _ => .stuck
theorem fol_list : FolF X W lList (fun xs H Q => ∃ p ys, xs = [.ref p] ∧ (SqL X.K H p ys ∨ SqT X.K H p ys) ∧ ∀ l, H l = none → Q (.ref l) (upd H l (.lst ys))) := by
  intro w h H σ Q vs ds rh ra o
  unfold lList at o
  split at o
  · obtain ⟨v, rfl, rv⟩ := ra_one ra
    split at o
    · rename_i es e
      obtain ⟨a, xs, rfl, sq, ra2⟩ := vS_rep rh rv e
      exact ⟨a, xs, rfl, sq, fun l hl => out_new o rh hl ra2⟩
    · exact o.elim
  · exact o.elim
theorem f_list (hm : X.mg "list" = none) (ha : PA X [e] (TAr X W as)) (hg : Gl X "list" := by rfl) (he : starEach [e] X.env = (false, eval e X.env) :: starEach [] X.env := by rfl) : PE X (.Call (.Name "list" p) [e] [] pos) (TF X W (lN lList as)) :=
  f_typ call_list_of fol_list hm ha hg (by decide +kernel) (by decide) (by decide) he rfl
def fInt (xs : List D) (h : AH) : Res D := match xs with
  | [.int i] => .ok (.int i) h
  | [.bl b] => .ok (.int (if b then 1 else 0)) h
  | _ => .stuck
theorem fol_int1 : FolN X W fInt (fun xs H Q => (∃ i, xs = [.int i] ∧ Q (.int i) H) ∨ ∃ k, xs = [.bl k] ∧ Q (.int (if k then 1 else 0)) H) := by
  intro w h H σ Q vs ds rh ra o
  unfold fInt at o
  split at o
  · obtain ⟨v, rfl, rv⟩ := ra_one ra
    cases rv
    exact .inl ⟨_, rfl, out_ok o rh (.int _)⟩
  · obtain ⟨v, rfl, rv⟩ := ra_one ra
    cases rv
    exact .inr ⟨_, rfl, out_ok o rh (.int _)⟩
  · exact o.elim
theorem e_int1 (hm : X.mg "int" = none) (ha : PA X [e] (TAr X W as)) (hg : Gl X "int" := by rfl) (he : starEach [e] X.env = (false, eval e X.env) :: starEach [] X.env := by rfl) : PE X (.Call (.Name "int" p) [e] [] pos) (TM X W (mN fInt as)) :=
  e_typ call_int1 fol_int1 hm ha hg (by decide +kernel) (by decide) (by decide) he rfl
def fAbs (xs : List D) (h : AH) : Res D := match xs with
  | [.int i] => .ok (.int (if i < 0 then -i else i)) h
  | _ => .stuck
theorem fol_abs : FolN X W fAbs (fun xs H Q => ∃ i, xs = [.int i] ∧ Q (.int (if i < 0 then -i else i)) H) := by
  intro w h H σ Q vs ds rh ra o
  unfold fAbs at o
  split at o
  · obtain ⟨v, rfl, rv⟩ := ra_one ra
    cases rv
    exact ⟨_, rfl, out_ok o rh (.int _)⟩
  · exact o.elim
theorem e_abs (hm : X.mg "abs" = none) (ha : PA X [e] (TAr X W as)) (hg : Gl X "abs" := by rfl) (he : starEach [e] X.env = (false, eval e X.env) :: starEach [] X.env := by rfl) : PE X (.Call (.Name "abs" p) [e] [] pos) (TM X W (mN fAbs as)) :=
  e_blt call_abs fol_abs hm ha hg (by decide +kernel) (by decide) (by decide) he rfl
/-! all, any, sum, max, min, sorted of ints -/
def blsOf : List D → Option (List Bool)
  | [] => some []
  | .bl b :: ds => (blsOf ds).map (b :: ·)
  | _ :: _ => none
def intsOf : List D → Option (List Int)
  | [] => some []
  | .int b :: ds => (intsOf ds).map (b :: ·)
  | _ :: _ => none
theorem blsOf_rep {w : Wd} : ∀ {ds : List D} {xs : List V} {bs : List Bool}, Ra X.K w xs ds → blsOf ds = some bs → xs = bs.map V.bl
  | [], _, _, r, e => by cases r; cases e; rfl
  | .bl b :: ds, _, bs, r, e => by
    cases r with
    | cons a t =>
      cases a
      unfold blsOf at e
      cases q : blsOf ds with
      | none => rw [q] at e; cases e
      | some cs =>
        rw [q] at e
        cases e
        rw [blsOf_rep t q] <;> rfl
  | .non :: _, _, _, _, e => by cases e
  | .int _ :: _, _, _, _, e => by cases e
  | .str _ :: _, _, _, _, e => by cases e
  | .tup _ :: _, _, _, _, e => by cases e
  | .lst _ :: _, _, _, _, e => by cases e
  | .rol _ :: _, _, _, _, e => by cases e
  | .loc _ :: _, _, _, _, e => by cases e
  | .con _ :: _, _, _, _, e => by cases e
theorem intsOf_rep {w : Wd} : ∀ {ds : List D} {xs : List V} {bs : List Int}, Ra X.K w xs ds → intsOf ds = some bs → xs = bs.map V.int
  | [], _, _, r, e => by cases r; cases e; rfl
  | .int b :: ds, _, bs, r, e => by
    cases r with
    | cons a t =>
      cases a
      unfold intsOf at e
      cases q : intsOf ds with
      | none => rw [q] at e; cases e
      | some cs =>
        rw [q] at e
        cases e
        rw [intsOf_rep t q] <;> rfl
  | .non :: _, _, _, _, e => by cases e
  | .bl _ :: _, _, _, _, e => by cases e
  | .str _ :: _, _, _, _, e => by cases e
  | .tup _ :: _, _, _, _, e => by cases e
  | .lst _ :: _, _, _, _, e => by cases e
  | .rol _ :: _, _, _, _, e => by cases e
  | .loc _ :: _, _, _, _, e => by cases e
  | .con _ :: _, _, _, _, e => by cases e
def lBls (xs : List D) (h : AH) : Option (List Bool) := match xs with
  | [d] => (vL h d).bind blsOf
  | _ => none
def lInts (xs : List D) (h : AH) : Option (List Int) := match xs with
  | [d] => (vL h d).bind intsOf
  | _ => none
theorem lBls_rep {w : Wd} {h : AH} {H : Hp} {vs : List V} {ds : List D} {bs : List Bool} (rh : RepH X.K w H h) (ra : Ra X.K w vs ds) (e : lBls ds h = some bs) : ∃ a, vs = [.ref a] ∧ SqL X.K H a (bs.map V.bl) := by
  unfold lBls at e
  split at e
  · rename_i d
    obtain ⟨v, rfl, rv⟩ := ra_one ra
    cases q : vL h d with
    | none => rw [q] at e; cases e
    | some es =>
      rw [q] at e
      obtain ⟨a, xs, rfl, sq, ra2⟩ := vL_rep rh rv q
      have z := blsOf_rep ra2 e
      subst z
      exact ⟨a, rfl, sq⟩
  · cases e
theorem lInts_rep {w : Wd} {h : AH} {H : Hp} {vs : List V} {ds : List D} {bs : List Int} (rh : RepH X.K w H h) (ra : Ra X.K w vs ds) (e : lInts ds h = some bs) : ∃ a, vs = [.ref a] ∧ SqL X.K H a (bs.map V.int) := by
  unfold lInts at e
  split at e
  · rename_i d
    obtain ⟨v, rfl, rv⟩ := ra_one ra
    cases q : vL h d with
    | none => rw [q] at e; cases e
    | some es =>
      rw [q] at e
      obtain ⟨a, xs, rfl, sq, ra2⟩ := vL_rep rh rv q
      have z := intsOf_rep ra2 e
      subst z
      exact ⟨a, rfl, sq⟩
  · cases e
def fAll (xs : List D) (h : AH) : Res D := match lBls xs h with
  | some bs => .ok (.bl (bs.all id)) h
  | none => .stuck
def fAny (xs : List D) (h : AH) : Res D := match lBls xs h with
  | some bs => .ok (.bl (bs.any id)) h
  | none => .stuck
def fSum (xs : List D) (h : AH) : Res D := match lInts xs h with
  | some bs => .ok (.int bs.sum) h
  | none => .stuck
def maxI : List Int → Int
  | [] => 0
  | [x] => x
  | x :: y :: r => max x (maxI (y :: r))
def minI : List Int → Int
  | [] => 0
  | [x] => x
  | x :: y :: r => min x (minI (y :: r))
theorem maxI_ge : ∀ {ns : List Int} {y : Int}, y ∈ ns → y ≤ maxI ns
  | [x], y, h => by simp at h; subst h; exact Int.le_refl _
  | x :: z :: r, y, h => by
    rcases List.mem_cons.mp h with h | h
    · subst h
      exact Int.le_max_left _ _
    · exact Int.le_trans (maxI_ge h) (Int.le_max_right _ _)
theorem maxI_mem : ∀ {ns : List Int}, ns ≠ [] → maxI ns ∈ ns
  | [x], _ => by simp [maxI]
  | x :: z :: r, _ => by
    have := maxI_mem (ns := z :: r) (by simp)
    unfold maxI
    by_cases q : x ≤ maxI (z :: r)
    · rw [Int.max_eq_right q]
      exact List.mem_cons_of_mem _ this
    · rw [Int.max_eq_left (by omega)]
      exact List.mem_cons_self
theorem minI_le : ∀ {ns : List Int} {y : Int}, y ∈ ns → minI ns ≤ y
  | [x], y, h => by simp at h; subst h; exact Int.le_refl _
  | x :: z :: r, y, h => by
    rcases List.mem_cons.mp h with h | h
    · subst h
      exact Int.min_le_left _ _
    · exact Int.le_trans (Int.min_le_right _ _) (minI_le h)
theorem minI_mem : ∀ {ns : List Int}, ns ≠ [] → minI ns ∈ ns
  | [x], _ => by simp [minI]
  | x :: z :: r, _ => by
    have := minI_mem (ns := z :: r) (by simp)
    unfold minI
    by_cases q : x ≤ minI (z :: r)
    · rw [Int.min_eq_left q]
      exact List.mem_cons_self
    · rw [Int.min_eq_right (by omega)]
      exact List.mem_cons_of_mem _ this
def fMax (xs : List D) (h : AH) : Res D := match xs with
  | [.int i, .int j] => .ok (.int (if j > i then j else i)) h
  | _ => match lInts xs h with
    | some [] => .stuck
    | some ns => .ok (.int (maxI ns)) h
    | none => .stuck
def fMin (xs : List D) (h : AH) : Res D := match xs with
  | [.int i, .int j] => .ok (.int (if j < i then j else i)) h
  | _ => match lInts xs h with
    | some [] => .stuck
    | some ns => .ok (.int (minI ns)) h
    | none => .stuck
theorem fol_all : FolN X W fAll (rAll X.K) := by
  intro w h H σ Q vs ds rh ra o
  unfold fAll at o
  split at o
  · rename_i bs e
    obtain ⟨a, rfl, sq⟩ := lBls_rep rh ra e
    exact ⟨a, bs, rfl, sq, out_ok o rh (.bl _)⟩
  · exact o.elim
theorem fol_any : FolN X W fAny (rAny X.K) := by
  intro w h H σ Q vs ds rh ra o
  unfold fAny at o
  split at o
  · rename_i bs e
    obtain ⟨a, rfl, sq⟩ := lBls_rep rh ra e
    exact ⟨a, bs, rfl, sq, out_ok o rh (.bl _)⟩
  · exact o.elim
theorem fol_sum : FolN X W fSum (rSum X.K) := by
  intro w h H σ Q vs ds rh ra o
  unfold fSum at o
  split at o
  · rename_i bs e
    obtain ⟨a, rfl, sq⟩ := lInts_rep rh ra e
    exact ⟨a, bs, rfl, sq, out_ok o rh (.int _)⟩
  · exact o.elim
def rMaxB (K : PySem.W.Frag) : List V → Hp → VK → Prop := fun xs H Q => (∃ i j, xs = [.int i, .int j] ∧ Q (.int (if j > i then j else i)) H) ∨ rMax K xs H Q
def rMinB (K : PySem.W.Frag) : List V → Hp → VK → Prop := fun xs H Q => (∃ i j, xs = [.int i, .int j] ∧ Q (.int (if j < i then j else i)) H) ∨ rMin K xs H Q
theorem fol_max : FolN X W fMax (rMaxB X.K) := by
  intro w h H σ Q vs ds rh ra o
  unfold fMax at o
  split at o
  · obtain ⟨v, v2, rfl, r1, r2⟩ := ra_two ra
    cases r1
    cases r2
    exact .inl ⟨_, _, rfl, out_ok o rh (.int _)⟩
  · split at o
    · exact o.elim
    · rename_i bs hne e
      obtain ⟨a, rfl, sq⟩ := lInts_rep rh ra e
      have hb : bs ≠ [] := fun z => hne (by rw [← z] <;> rfl)
      refine .inr ⟨a, bs, rfl, sq, List.length_pos_iff.mpr hb, fun m hm hle => ?_⟩
      have : m = maxI bs := Int.le_antisymm (maxI_ge hm) (hle _ (maxI_mem hb))
      rw [this]
      exact out_ok o rh (.int _)
    · exact o.elim
theorem fol_min : FolN X W fMin (rMinB X.K) := by
  intro w h H σ Q vs ds rh ra o
  unfold fMin at o
  split at o
  · obtain ⟨v, v2, rfl, r1, r2⟩ := ra_two ra
    cases r1
    cases r2
    exact .inl ⟨_, _, rfl, out_ok o rh (.int _)⟩
  · split at o
    · exact o.elim
    · rename_i bs hne e
      obtain ⟨a, rfl, sq⟩ := lInts_rep rh ra e
      have hb : bs ≠ [] := fun z => hne (by rw [← z] <;> rfl)
      refine .inr ⟨a, bs, rfl, sq, List.length_pos_iff.mpr hb, fun m hm hle => ?_⟩
      have : m = minI bs := Int.le_antisymm (hle _ (minI_mem hb)) (minI_le hm)
      rw [this]
      exact out_ok o rh (.int _)
    · exact o.elim
theorem e_all (hm : X.mg "all" = none) (ha : PA X [e] (TAr X W as)) (hg : Gl X "all" := by rfl) (hc : X.calm = true := by rfl) (he : starEach [e] X.env = (false, eval e X.env) :: starEach [] X.env := by rfl) : PE X (.Call (.Name "all" p) [e] [] pos) (TM X W (mN fAll as)) :=
  e_blt (cr_all hc) fol_all hm ha hg (by decide +kernel) (by decide) (by decide) he rfl
theorem e_any (hm : X.mg "any" = none) (ha : PA X [e] (TAr X W as)) (hg : Gl X "any" := by rfl) (hc : X.calm = true := by rfl) (he : starEach [e] X.env = (false, eval e X.env) :: starEach [] X.env := by rfl) : PE X (.Call (.Name "any" p) [e] [] pos) (TM X W (mN fAny as)) :=
  e_blt (cr_any hc) fol_any hm ha hg (by decide +kernel) (by decide) (by decide) he rfl
theorem e_sum (hm : X.mg "sum" = none) (ha : PA X [e] (TAr X W as)) (hg : Gl X "sum" := by rfl) (hc : X.calm = true := by rfl) (he : starEach [e] X.env = (false, eval e X.env) :: starEach [] X.env := by rfl) : PE X (.Call (.Name "sum" p) [e] [] pos) (TM X W (mN fSum as)) :=
  e_blt (cr_sum hc) fol_sum hm ha hg (by decide +kernel) (by decide) (by decide) he rfl
theorem e_max (hm : X.mg "max" = none) (ha : PA X (e :: es) (TAr X W as)) (hg : Gl X "max" := by rfl) (hc : X.calm = true := by rfl) (he : starEach (e :: es) X.env = (false, eval e X.env) :: starEach es X.env := by rfl) (hpl : (backTo pos (starEach es X.env)).any (·.1) = false := by rfl) : PE X (.Call (.Name "max" p) (e :: es) [] pos) (TM X W (mN fMax as)) :=
  e_blt (CallR.or (call_max2 hc) (cr_max hc)) fol_max hm ha hg (by decide +kernel) (by decide) (by decide) he hpl
theorem e_min (hm : X.mg "min" = none) (ha : PA X (e :: es) (TAr X W as)) (hg : Gl X "min" := by rfl) (hc : X.calm = true := by rfl) (he : starEach (e :: es) X.env = (false, eval e X.env) :: starEach es X.env := by rfl) (hpl : (backTo pos (starEach es X.env)).any (·.1) = false := by rfl) : PE X (.Call (.Name "min" p) (e :: es) [] pos) (TM X W (mN fMin as)) :=
  e_blt (CallR.or (call_min2 hc) (cr_min hc)) fol_min hm ha hg (by decide +kernel) (by decide) (by decide) he hpl

/-! ### isinstance of a built-in class -/
inductive Ty where
  | non | bl | int | str | tup | lst | dct
def Ty.name : Ty → String
  | .non => "NoneType"
  | .bl => "bool"
  | .int => "int"
  | .str => "str"
  | .tup => "tuple"
  | .lst => "list"
  | .dct => "dict"
def Ty.sub : Ty → Ty → Bool
  | .non, .non => true
  | .bl, .bl => true
  | .bl, .int => true
  | .int, .int => true
  | .str, .str => true
  | .tup, .tup => true
  | .lst, .lst => true
  | .dct, .dct => true
  | _, _ => false
theorem kit_tag : ∀ a b : Ty, kitB a.name b.name = some (a.sub b) := by
  intro a b
  cases a <;> cases b <;> decide +kernel
def tyD (h : AH) : D → Option Ty
  | .non => some .non
  | .bl _ => some .bl
  | .int _ => some .int
  | .str _ => some .str
  | .tup _ => some .tup
  | .lst _ => some .lst
  | .rol _ => some .lst
  | .loc n => match h[n]? with
    | some (.lst _) => some .lst
    | _ => none
  | .con _ => none
theorem tyT {K : PySem.W.Frag} {H : Hp} {a : Addr} {xs : List V} (s : SqT K H a xs) : TyX K H (.ref a) (.type "tuple") := by
  rcases s with (s | ⟨o, s⟩) | ⟨o, its, n, hk, hc, _⟩
  · exact .base (.tup s)
  · exact .fTuple s
  · exact .kTuple hk hc
theorem tyL {K : PySem.W.Frag} {H : Hp} {a : Addr} {xs : List V} (s : SqL K H a xs) : TyX K H (.ref a) (.type "list") := by
  rcases s with (s | ⟨o, s⟩) | ⟨o, its, n, hk, hc, _⟩
  · exact .base (.lst s)
  · exact .base (.frz s)
  · exact .kList hk hc
theorem tyD_rep {K : PySem.W.Frag} {w : Wd} {H : Hp} {h : AH} {v : V} {d : D} {t : Ty} (rh : RepH K w H h) (rv : Rv K w v d) (e : tyD h d = some t) : TyX K H v (.type t.name) := by
  cases d with
  | non => cases rv; cases e; exact .base .non
  | bl b => cases rv; cases e; exact .base (.bl b)
  | int b => cases rv; cases e; exact .base (.int b)
  | str b => cases rv; cases e; exact .base (.str b)
  | tup ds =>
    cases rv with
    | tup a b => cases e; exact tyT (rh.ex.t a)
  | lst ds =>
    cases rv with
    | lst a b => cases e; exact tyL (.inl (rh.ex.rd a))
  | rol ds =>
    cases rv with
    | rol a b => cases e; exact tyL (rh.ex.l a)
  | con a => cases e
  | loc n =>
    cases rv with
    | loc hn =>
      have e : (match h[n]? with
        | some (.lst _) => some Ty.lst
        | _ => none) = some t := e
      split at e
      · rename_i ds e'
        obtain ⟨_, xs, e2, ra⟩ := rh.cell _ _ e'
        cases e
        exact .base (.lst e2)
      · cases e
def mIsi (T : Ty) (m : Me) : Me := fun G h => (m G h).bind fun d h1 => match tyD h1 d with
  | some t => .ok (.bl (t.sub T)) h1
  | none => .stuck
theorem e_isi (T : Ty) {t : Str} {pt : Pos} (hi : X.mg "isinstance" = none) (ht : X.mg t = none) (he : PE X e (TM X W ma)) (hgt : Gl X t := by rfl) (hbt : bootBuiltins t = some (.type T.name) := by decide +kernel) (hg : Gl X "isinstance" := by rfl)
    (hn : t ≠ "__name__" := by decide) (hd : (t == ("__debug__" : Str)) = false := by decide)
    (h1 : starEach [e, .Name t pt] X.env = (false, eval e X.env) :: starEach [.Name t pt] X.env := by rfl) (h2 : starEach [.Name t pt] X.env = (false, eval (.Name t pt) X.env) :: starEach [] X.env := by rfl) (hpl : (backTo pos (starEach [.Name t pt] X.env)).any (·.1) = false := by rfl) :
    PE X (.Call (.Name "isinstance" p) [e, .Name t pt] [] pos) (TM X W (mIsi T ma)) := by
  refine (pe_callB call_isi hg hi (by decide +kernel) (pa_cons he (pa_cons (pe_bltn (v := .ty T.name) hgt ht hbt rfl hn hd) pa_nil h2) h1) (by decide) (by decide) h1 hpl).wk fun σ H Q ⟨w, G, h, g, r, o⟩ => ⟨w, G, h, g, r, o.bindE fun d h1 v w1 H1 l r1 x o1 => ?_⟩
  split at o1
  · rename_i t e
    exact ⟨v, .ty T.name, .type t.name, .type T.name, t.sub T, rfl, .ty _, tyD_rep r1 x e, kit_ty (kit_tag t T), out_ok o1 r1 (.bl _)⟩
  · exact o1.elim

/-! ### subscripts, slices -/
theorem atI_rep {w : Wd} {xs : List V} {ds : List D} {i : Int} {d : D} (ra : Ra X.K w xs ds) (e : atI ds i = some d) : ∃ v, atI xs i = some v ∧ Rv X.K w v d := by
  unfold atI at e ⊢
  rw [ra.length]
  cases q : ixN ds.length i with
  | none => rw [q] at e; cases e
  | some j =>
    rw [q] at e
    obtain ⟨v, h1, h2⟩ := ra.get (i := j) (d := d) e
    exact ⟨v, h1, h2⟩
def fIx (x i : D) (h : AH) : Res D := match i with
  | .int k => match vS h x with
    | some ds => match atI ds k with
      | some d => .ok d h
      | none => .stuck
    | none => .stuck
  | _ => .stuck
theorem fol_ix : Fol2 X W fIx (rIx X.K) := by
  intro w h H σ Q v1 v2 d1 d2 rh r1 r2 o
  unfold fIx at o
  split at o
  · rename_i k
    split at o
    · rename_i ds e
      split at o
      · rename_i d e2
        cases r2
        obtain ⟨a, xs, rfl, sq, ra⟩ := vS_rep rh r1 e
        obtain ⟨v, e3, rv⟩ := atI_rep ra e2
        rcases sq with sq | sq
        · exact .inl ⟨a, xs, k, v, rfl, rfl, sq, e3, out_ok o rh rv⟩
        · exact .inr (.inl ⟨a, xs, k, v, rfl, rfl, sq, e3, out_ok o rh rv⟩)
      · exact o.elim
    · exact o.elim
  · exact o.elim
variable {a b : Expr}
theorem e_ix (ha : PE X a (TM X W ma)) (hb : PE X b (TM X W mb)) (hs : PlainIx b := by exact fun _ _ => rfl) : PE X (.Subscript a b pos) (TM X W (mOp2 fIx ma mb)) :=
  (pe_ix ix_seq ha hb hs).wk fun _ _ _ t => op2 fol_ix t
abbrev MeO := Env → AH → Res (Option Int)
def oNone : MeO := fun _ h => .ok none h
def oSome (m : Me) : MeO := fun G h => (m G h).bind fun d h1 => match d with
  | .int i => .ok (some i) h1
  | _ => .stuck
def OutO (K : PySem.W.Frag) (mg : Str → Option Value) (W : WX) (w : Wd) (σ : L2.St) (Q : Option Int → Hp → Prop) : Res (Option Int) → Prop
  | .ok b h => ∀ w' H', Le w w' → RepH K w' H' h → Q b H'
  | .exc c fs h => OutX K mg W w σ c fs h
  | .stuck => False
def tO (X : Cx) (W : WX) (m : MeO) : TO := fun σ H Q => ∃ w G h, RepG X.K w σ G ∧ RepH X.K w H h ∧ OutO X.K X.mg W w σ Q (m G h)
theorem _root_.L2.PO.wk {X : Cx} {e : Option Expr} {t t' : TO} (h : PO X e t) (k : ∀ σ H Q, t' σ H Q → t σ H Q) : PO X e t' := ⟨fun pins s σ H Q I q => h.run pins s σ H Q I (k σ H Q q)⟩
theorem o_none : PO X none (tO X W oNone) := po_none.wk fun σ H Q ⟨w, G, h, g, r, o⟩ => o w H (Le.refl _) r
theorem o_some (he : PE X e (TM X W ma)) : PO X (some e) (tO X W (oSome ma)) := by
  refine (po_some he).wk fun σ H Q ⟨w, G, h, g, r, o⟩ => ⟨w, G, h, g, r, ?_⟩
  have o : OutO X.K X.mg W w σ Q ((ma G h).bind _) := o
  cases e : ma G h with
  | ok d h1 =>
    rw [e] at o
    intro v w1 H1 l r1 x
    cases d with
    | int i =>
      cases x
      exact ⟨_, rfl, o w1 H1 l r1⟩
    | _ => exact o.elim
  | exc c fs h1 =>
    rw [e] at o
    exact o
  | stuck =>
    rw [e] at o
    exact o
theorem OutE.bindO {K : PySem.W.Frag} {mg : Str → Option Value} {w : Wd} {σ : L2.St} {G : Env} {h : AH} {m : MeO} {R : Option Int → Hp → Prop} {Q : VK} {k : Option Int → AH → Res D} (o : OutE K mg W w σ Q ((m G h).bind k))
    (hq : ∀ b h1 w1 H1, Le w w1 → RepH K w1 H1 h1 → OutE K mg W w1 σ Q (k b h1) → R b H1) : OutO K mg W w σ R (m G h) := by
  cases e : m G h with
  | ok d h1 =>
    rw [e] at o
    exact fun w1 H1 l r => hq d h1 w1 H1 l r (OutE.mono l o)
  | exc c fs h1 =>
    rw [e] at o
    exact o
  | stuck =>
    rw [e] at o
    exact o
theorem OutF.bindO {K : PySem.W.Frag} {mg : Str → Option Value} {w : Wd} {σ : L2.St} {G : Env} {h : AH} {m : MeO} {R : Option Int → Hp → Prop} {Q : VK} {k : Option Int → AH → Res (List D)} (o : OutF K mg W w σ Q ((m G h).bind k))
    (hq : ∀ b h1 w1 H1, Le w w1 → RepH K w1 H1 h1 → OutF K mg W w1 σ Q (k b h1) → R b H1) : OutO K mg W w σ R (m G h) := by
  cases e : m G h with
  | ok d h1 =>
    rw [e] at o
    exact fun w1 H1 l r => hq d h1 w1 H1 l r (OutF.mono l o)
  | exc c fs h1 =>
    rw [e] at o
    exact o
  | stuck =>
    rw [e] at o
    exact o
def cutD (ds : List D) (lo hi : Option Int) : List D := (ds.drop (HT.sIx ds.length 0 lo)).take (HT.sIx ds.length ds.length hi - HT.sIx ds.length 0 lo)
theorem cut_rep {w : Wd} {xs : List V} {ds : List D} (ra : Ra X.K w xs ds) (lo hi : Option Int) : Ra X.K w (cutV xs lo hi) (cutD ds lo hi) := by
  unfold cutV cutD
  rw [ra.length]
  exact (ra.drop _).take _
/-- a[lo:hi] of a tuple, of a list that is not changed -/
def mSl (m : Me) (lo hi : MeO) : Me := fun G h => (m G h).bind fun x h1 => (lo G h1).bind fun l h2 => (hi G h2).bind fun u h3 => match x with
  | .tup ds => .ok (.tup (cutD ds l u)) h3
  | d => match vL h3 d with
    | some ds => .ok (.lst (cutD ds l u)) h3
    | none => .stuck
theorem cut_whole {ds : List D} {lo hi : Option Int} (h : HT.sIx ds.length 0 lo = 0 ∧ HT.sIx ds.length ds.length hi = ds.length) : cutD ds lo hi = ds := by
  unfold cutD
  rw [h.1, h.2]
  simp
theorem e_sl {lo hi : Option Expr} {ml mh : MeO} {p2 : Pos} (he : PE X e (TM X W ma)) (hl : PO X lo (tO X W ml)) (hu : PO X hi (tO X W mh)) : PE X (.Subscript e (.Slice lo hi none p2) pos) (TM X W (mSl ma ml mh)) := by
  refine (pe_slice (SlR.or sl_list sl_tupA) he hl hu).wk fun σ H Q ⟨w, G, h, g, r, o⟩ => ⟨w, G, h, g, r, o.bindE fun d h1 v w1 H1 l1 r1 x o1 => ⟨w1, G, h1, g.mono l1, r1, o1.bindO fun l h2 w2 H2 l2 r2 o2 => ⟨w2, G, h2, g.mono (l1.trans l2), r2, o2.bindO fun u h3 w3 H3 l3 r3 o3 => ?_⟩⟩⟩
  have x3 := Rv_mono (l2.trans l3) x
  split at o3
  · cases x3 with
    | @tup a xs ds h1 h2 =>
      refine .inr ⟨a, xs, rfl, r3.ex.t h1, fun hw => ?_, fun _ p hp => out_add o3 r3 hp (rv_tup r3 hp (cut_rep h2 l u))⟩
      rw [h2.length] at hw
      rw [cut_whole hw] at o3
      exact out_ok o3 r3 (.tup h1 h2)
  · split at o3
    · rename_i ds e
      obtain ⟨a, xs, rfl, sq, ra⟩ := vL_rep r3 x3 e
      exact .inl ⟨a, xs, rfl, sq, fun p hp => out_add o3 r3 hp (rv_lst r3 hp (cut_rep ra l u))⟩
    · exact o3.elim
/-- .. of a list, a new list -/
def lSl (m : Me) (lo hi : MeO) : MeL := fun G h => (m G h).bind fun x h1 => (lo G h1).bind fun l h2 => (hi G h2).bind fun u h3 => match vL h3 x with
  | some ds => .ok (cutD ds l u) h3
  | none => .stuck
theorem f_sl {lo hi : Option Expr} {ml mh : MeO} {p2 : Pos} (he : PE X e (TM X W ma)) (hl : PO X lo (tO X W ml)) (hu : PO X hi (tO X W mh)) : PE X (.Subscript e (.Slice lo hi none p2) pos) (TF X W (lSl ma ml mh)) := by
  refine (pe_slice sl_list he hl hu).wk fun σ H Q ⟨w, G, h, g, r, o⟩ => ⟨w, G, h, g, r, OutF.bindE (m := ma) o fun d h1 v w1 H1 l1 r1 x o1 => ⟨w1, G, h1, g.mono l1, r1, o1.bindO fun l h2 w2 H2 l2 r2 o2 => ⟨w2, G, h2, g.mono (l1.trans l2), r2, o2.bindO fun u h3 w3 H3 l3 r3 o3 => ?_⟩⟩⟩
  have x3 := Rv_mono (l2.trans l3) x
  split at o3
  · rename_i ds e
    obtain ⟨a, xs, rfl, sq, ra⟩ := vL_rep r3 x3 e
    exact ⟨a, xs, rfl, sq, fun p hp => out_new o3 r3 hp (cut_rep ra l u)⟩
  · exact o3.elim
/-- xs[::-1] of a list -/
def lRev (m : Me) : MeL := fun G h => (m G h).bind fun x h1 => match vL h1 x with
  | some ds => .ok ds.reverse h1
  | none => .stuck
theorem f_rev {k : Nat} {p1 p2 p3 : Pos} (he : PE X e (TM X W ma)) : PE X (.Subscript e (.Slice none none (some (.UnaryOp .USub (.Constant (.int 1) k p1) p2)) p3) pos) (TF X W (lRev ma)) := by
  refine (pe_revL he).wk fun σ H Q ⟨w, G, h, g, r, o⟩ => ⟨w, G, h, g, r, OutF.bindE (m := ma) o fun d h1 v w1 H1 l1 r1 x o1 => ?_⟩
  split at o1
  · rename_i ds e
    obtain ⟨a, xs, rfl, sq, ra⟩ := vL_rep r1 x e
    exact ⟨a, xs, rfl, sq, fun p hp => out_new o1 r1 hp ra.reverse⟩
  · exact o1.elim

end
end AB
/-! AB: statements, loops, comprehensions, defs. -/
namespace AB
open PySem PySem.Spec PyProof.Rows L2

inductive SR where
  | next (G : Env) (h : AH)
  | ret (d : D) (h : AH)
  | brk (G : Env) (h : AH)
  | cont (G : Env) (h : AH)
  | exc (c : Str) (fs : List (Str × D)) (G : Env) (h : AH)
  | stuck
abbrev Ms := Env → AH → SR
def Res.toS {α : Type} (r : Res α) (G : Env) (k : α → AH → SR) : SR :=
  match r with
  | .ok a h => k a h
  | .exc c fs h => .exc c fs G h
  | .stuck => .stuck
@[simp] theorem Res.toS_ok {α : Type} (a : α) (h : AH) (G : Env) (k : α → AH → SR) : (Res.ok a h).toS G k = k a h := rfl
@[simp] theorem Res.toS_exc {α : Type} (c : Str) (fs : List (Str × D)) (h : AH) (G : Env) (k : α → AH → SR) : (Res.exc c fs h : Res α).toS G k = .exc c fs G h := rfl
@[simp] theorem Res.toS_stuck {α : Type} (G : Env) (k : α → AH → SR) : (Res.stuck : Res α).toS G k = .stuck := rfl
def SR.andThen (r : SR) (k : Env → AH → SR) : SR :=
  match r with
  | .next G h => k G h
  | .ret d h => .ret d h
  | .brk G h => .brk G h
  | .cont G h => .cont G h
  | .exc c fs G h => .exc c fs G h
  | .stuck => .stuck
@[simp] theorem SR.andThen_next (G : Env) (h : AH) (k : Env → AH → SR) : (SR.next G h).andThen k = k G h := rfl
@[simp] theorem SR.andThen_ret (d : D) (h : AH) (k : Env → AH → SR) : (SR.ret d h).andThen k = .ret d h := rfl
@[simp] theorem SR.andThen_brk (G : Env) (h : AH) (k : Env → AH → SR) : (SR.brk G h).andThen k = .brk G h := rfl
@[simp] theorem SR.andThen_cont (G : Env) (h : AH) (k : Env → AH → SR) : (SR.cont G h).andThen k = .cont G h := rfl
@[simp] theorem SR.andThen_exc (c : Str) (fs : List (Str × D)) (G : Env) (h : AH) (k : Env → AH → SR) : (SR.exc c fs G h).andThen k = .exc c fs G h := rfl
@[simp] theorem SR.andThen_stuck (k : Env → AH → SR) : SR.stuck.andThen k = .stuck := rfl

section
variable (K : PySem.W.Frag) (mg : Str → Option Value) (W : WX)
def OutS (D : Ends) (w : Wd) : SR → Prop
  | .next G h => ∀ σ' w' H', Le w w' → RepG K w' σ' G → RepH K w' H' h → D.nx σ' H'
  | .ret d h => ∀ v w' H', Le w w' → RepH K w' H' h → Rv K w' v d → D.rt v H'
  | .brk G h => ∀ σ' w' H', Le w w' → RepG K w' σ' G → RepH K w' H' h → D.bk σ' H'
  | .cont G h => ∀ σ' w' H', Le w w' → RepG K w' σ' G → RepH K w' H' h → D.ct σ' H'
  | .exc c fs G h => ∀ cls dd σ' w' H', mg c = some cls → Le w w' → RepG K w' σ' G → RepH K w' H' h → RepX K w' H' dd fs → W cls dd σ' H'
  | .stuck => False
def tS (m : Ms) : TS := fun D σ H => ∃ w G h, RepG K w σ G ∧ RepH K w H h ∧ OutS K mg W D w (m G h)
end
section
variable {K : PySem.W.Frag} {mg : Str → Option Value} {W : WX} {w w' : Wd} {σ : L2.St} {H : Hp} {G : Env} {h : AH}
theorem OutS.mono {D : Ends} {r : SR} (l : Le w w') (o : OutS K mg W D w r) : OutS K mg W D w' r := by
  cases r with
  | next G h => exact fun σ' w2 H' l2 g r => o σ' w2 H' (l.trans l2) g r
  | ret d h => exact fun v w2 H' l2 r x => o v w2 H' (l.trans l2) r x
  | brk G h => exact fun σ' w2 H' l2 g r => o σ' w2 H' (l.trans l2) g r
  | cont G h => exact fun σ' w2 H' l2 g r => o σ' w2 H' (l.trans l2) g r
  | exc c fs G h => exact fun cls dd σ' w2 H' e l2 g r x => o cls dd σ' w2 H' e (l.trans l2) g r x
  | stuck => exact o
theorem OutS.bindE {m : Me} {R : VK} {D : Ends} {k : AB.D → AH → SR} (g : RepG K w σ G) (o : OutS K mg W D w ((m G h).toS G k))
    (hq : ∀ d h1 v w1 H1, Le w w1 → RepH K w1 H1 h1 → Rv K w1 v d → OutS K mg W D w1 (k d h1) → R v H1) : OutE K mg W w σ R (m G h) := by
  cases e : m G h with
  | ok d h1 =>
    rw [e] at o
    exact fun v w1 H1 l r x => hq d h1 v w1 H1 l r x (OutS.mono l o)
  | exc c fs h1 =>
    rw [e] at o
    exact fun cls dd w1 H1 e l r x => o cls dd σ w1 H1 e l (g.mono l) r x
  | stuck =>
    rw [e] at o
    exact o
theorem OutS.bindT {m : MeT} {R : Bool → Hp → Prop} {D : Ends} {k : Bool → AH → SR} (g : RepG K w σ G) (o : OutS K mg W D w ((m G h).toS G k))
    (hq : ∀ b h1 w1 H1, Le w w1 → RepH K w1 H1 h1 → OutS K mg W D w1 (k b h1) → R b H1) : OutT K mg W w σ R (m G h) := by
  cases e : m G h with
  | ok d h1 =>
    rw [e] at o
    exact fun w1 H1 l r => hq d h1 w1 H1 l r (OutS.mono l o)
  | exc c fs h1 =>
    rw [e] at o
    exact fun cls dd w1 H1 e l r x => o cls dd σ w1 H1 e l (g.mono l) r x
  | stuck =>
    rw [e] at o
    exact o
end
abbrev TSS (X : Cx) (W : WX) (m : Ms) : TS := tS X.K X.mg W m
theorem _root_.L2.PS.wk {X : Cx} {e : Stmt} {t t' : TS} (h : PS X e t) (k : ∀ D σ H, t' D σ H → t D σ H) : PS X e t' := ⟨fun pins s σ H D I q => h.run pins s σ H D I (k D σ H q)⟩
theorem _root_.L2.PSs.wk {X : Cx} {e : List Stmt} {t t' : TS} (h : PSs X e t) (k : ∀ D σ H, t' D σ H → t D σ H) : PSs X e t' := ⟨fun pins s σ H D I q => h.run pins s σ H D I (k D σ H q)⟩

/-! ### the combinators -/
def sNil : Ms := fun G h => .next G h
def sSeq (a b : Ms) : Ms := fun G h => (a G h).andThen b
def sSet (i : Nat) (m : Me) : Ms := fun G h => (m G h).toS G fun d h1 => .next (G.set i (some d)) h1
def sRet (m : Me) : Ms := fun G h => (m G h).toS G fun d h1 => .ret d h1
def sExpr (m : Me) : Ms := fun G h => (m G h).toS G fun _ h1 => .next G h1
def sIf (c : MeT) (a b : Ms) : Ms := fun G h => (c G h).toS G fun t h1 => if t = true then a G h1 else b G h1
def sNever : Ms := fun _ _ => .stuck
def sBrk : Ms := fun G h => .brk G h
def sCont : Ms := fun G h => .cont G h
section
variable {X : Cx} {W : WX} {pos : Pos} {st : Stmt} {rest : List Stmt} {e c : Expr} {a b : Ms} {m : Me} {tc : MeT} {sa sb : List Stmt}
theorem s_nil : PSs X [] (TSS X W sNil) := pss_nil.wk fun D σ H ⟨w, G, h, g, r, o⟩ => o σ w H (Le.refl _) g r
theorem s_seq (h1 : PS X st (TSS X W a)) (h2 : PSs X rest (TSS X W b)) : PSs X (st :: rest) (TSS X W (sSeq a b)) := by
  refine (pss_cons h1 h2).wk fun D σ H ⟨w, G, h, g, r, o⟩ => ⟨w, G, h, g, r, ?_⟩
  have o : OutS X.K X.mg W D w ((a G h).andThen b) := o
  cases e : a G h with
  | next G1 h1 =>
    rw [e] at o
    exact fun σ' w1 H1 l g1 r1 => ⟨w1, G1, h1, g1, r1, OutS.mono l o⟩
  | ret d h1 => rw [e] at o; exact o
  | brk G1 h1 => rw [e] at o; exact o
  | cont G1 h1 => rw [e] at o; exact o
  | exc c fs G1 h1 => rw [e] at o; exact o
  | stuck => rw [e] at o; exact o
theorem s_one (h1 : PS X st (TSS X W a)) : PSs X [st] (TSS X W (sSeq a sNil)) := s_seq h1 s_nil
theorem s_ret (he : PE X e (TM X W m)) : PS X (.Return (some e) pos) (TSS X W (sRet m)) :=
  (ps_ret he).wk fun D σ H ⟨w, G, h, g, r, o⟩ => ⟨w, G, h, g, r, OutS.bindE (m := m) g o fun d h1 v w1 H1 l r1 x o1 => o1 v w1 H1 (Le.refl _) r1 x⟩
theorem s_retN : PS X (.Return none pos) (TSS X W (sRet (mC .non))) := by
  refine ps_retN.wk fun D σ H ⟨w, G, h, g, r, o⟩ => ?_
  have o : ∀ v w' H', Le w w' → RepH X.K w' H' h → Rv X.K w' v .non → D.rt v H' := o
  exact o .non w H (Le.refl _) r .non
theorem s_set (i : Nat) {x : Str} {pos' : Pos} (he : PE X e (TM X W m)) (hN : X.N.Nodup) (hi : X.N[i]? = some x := by rfl) (hx : Loc X.env.scope x := by first | exact Or.inl rfl | exact Or.inr rfl)
    (hs : swapsWithSole [.Name x pos'] e pos.line X.env = pure false := by rfl) (hw : swappedStores [.Name x pos'] e X.env = pure none := by rfl) (hf : X.fn x = true ∨ X.env.scope.names.lookup x = some .local := by first | exact .inl rfl | exact .inr rfl) : PS X (.Assign [.Name x pos'] e pos) (TSS X W (sSet i m)) :=
  (ps_asg he (pg_name hN hi hx hf) hs hw).wk fun D σ H ⟨w, G, h, g, r, o⟩ => ⟨w, G, h, g, r, OutS.bindE (m := m) g o fun d h1 v w1 H1 l r1 x o1 => o1 _ w1 H1 (Le.refl _) ((g.mono l).set i x) r1⟩
theorem s_expr (he : PE X e (TM X W m)) (hs : swapsWith e none pos.line X.env = pure false := by rfl) : PS X (.Expr e pos) (TSS X W (sExpr m)) :=
  (ps_expr he hs).wk fun D σ H ⟨w, G, h, g, r, o⟩ => ⟨w, G, h, g, r, OutS.bindE (m := m) g o fun d h1 v w1 H1 l r1 x o1 => o1 σ w1 H1 (Le.refl _) (g.mono l) r1⟩
theorem s_if (hc : PT X c (TTT X W tc)) (ha : PSs X sa (TSS X W a)) (hb : PSs X sb (TSS X W b)) : PS X (.If c sa sb pos) (TSS X W (sIf tc a b)) := by
  refine (ps_if hc ha hb).wk fun D σ H ⟨w, G, h, g, r, o⟩ => ⟨w, G, h, g, r, OutS.bindT (m := tc) g o fun t h1 w1 H1 l r1 o1 => ?_⟩
  cases t with
  | true => exact ⟨w1, G, h1, g.mono l, r1, o1⟩
  | false => exact ⟨w1, G, h1, g.mono l, r1, o1⟩
theorem s_pass : PS X (.Pass pos) (TSS X W sNil) := ps_pass.wk fun D σ H ⟨w, G, h, g, r, o⟩ => o σ w H (Le.refl _) g r
theorem s_never : PS X st (TSS X W sNever) := ps_never.wk fun D σ H ⟨w, G, h, g, r, o⟩ => o.elim
theorem ss_never : PSs X rest (TSS X W sNever) := pss_never.wk fun D σ H ⟨w, G, h, g, r, o⟩ => o.elim
theorem s_brk : PS X (.Break pos) (TSS X W sBrk) := ps_break.wk fun D σ H ⟨w, G, h, g, r, o⟩ => o σ w H (Le.refl _) g r
theorem s_cont : PS X (.Continue pos) (TSS X W sCont) := ps_continue.wk fun D σ H ⟨w, G, h, g, r, o⟩ => o σ w H (Le.refl _) g r
end

/-! ### targets -/
inductive Pat where
  | nm (i : Nat)
  | tp (ps : List Pat)
mutual
def asg : Pat → D → Env → Option Env
  | .nm i, d, G => some (G.set i (some d))
  | .tp ps, d, G => match d with
    | .tup ds => asgs ps ds G
    | _ => none
def asgs : List Pat → List D → Env → Option Env
  | [], [], G => some G
  | p :: ps, d :: ds, G => match asg p d G with
    | some G1 => asgs ps ds G1
    | none => none
  | _, _, _ => none
end
mutual
def gP (K : PySem.W.Frag) : Pat → TG
  | .nm i => gName i
  | .tp ps => gTup K ps.length (gPs K ps)
def gPs (K : PySem.W.Frag) : List Pat → TGs
  | [] => gNil
  | p :: ps => gCons (gP K p) (gPs K ps)
end
mutual
def Pat.slots : Pat → List Nat
  | .nm i => [i]
  | .tp ps => slotsL ps
def slotsL : List Pat → List Nat
  | [] => []
  | p :: ps => p.slots ++ slotsL ps
end
theorem wipe_set {σ : L2.St} {i : Nat} {v : Option V} : ∀ {vs : List Nat}, i ∈ vs → wipe (σ.set i v) vs = wipe σ vs
  | j :: vs, h => by
    unfold wipe
    by_cases e : i = j
    · subst e
      by_cases q : i ∈ vs
      · rw [wipe_set q]
      · have key : ∀ (us : List Nat), (wipe (σ.set i v) us).set i none = (wipe σ us).set i none := by
          intro us
          induction us with
          | nil =>
            show (σ.set i v).set i none = σ.set i none
            rw [List.set_set]
          | cons u us ih =>
            unfold wipe
            by_cases eu : u = i
            · subst eu
              rw [List.set_set, List.set_set]
              exact ih
            · rw [List.set_comm _ _ eu, List.set_comm _ _ eu, ih]
        exact key vs
    · have q : i ∈ vs := by
        rcases List.mem_cons.mp h with h | h
        · exact absurd h e
        · exact h
      rw [wipe_set q]
theorem wipe_wipe {σ : L2.St} {vs : List Nat} : ∀ {us : List Nat}, (∀ i ∈ us, i ∈ vs) → wipe (wipe σ us) vs = wipe σ vs
  | [], _ => rfl
  | u :: us, h => by
    have e : wipe σ (u :: us) = (wipe σ us).set u none := rfl
    rw [e, wipe_set (h u List.mem_cons_self), wipe_wipe fun i hi => h i (List.mem_cons_of_mem _ hi)]
section
variable {K : PySem.W.Frag} {w : Wd} {H : Hp} {h : AH}
mutual
theorem asg_rep (r : RepH K w H h) : ∀ (p : Pat) (d : D) (v : V) (σ : L2.St) (G G' : Env) (Q : L2.St → Hp → Prop), Rv K w v d → RepG K w σ G → asg p d G = some G' →
    (∀ σ', RepG K w σ' G' → (∀ vs : List Nat, (∀ i ∈ p.slots, i ∈ vs) → wipe σ' vs = wipe σ vs) → Q σ' H) → gP K p v σ H Q
  | .nm i, d, v, σ, G, G', Q, rv, g, e, q => by
    unfold asg at e
    cases e
    unfold gP
    exact q _ (g.set i rv) fun vs hv => wipe_set (hv i (by unfold Pat.slots; simp))
  | .tp ps, d, v, σ, G, G', Q, rv, g, e, q => by
    unfold asg at e
    split at e
    · rename_i ds
      cases rv with
      | @tup a xs _ h1 h2 =>
        unfold gP
        have hl : ds.length = ps.length := asgs_len ps ds G G' e
        refine ⟨a, xs, rfl, r.ex.t h1, by rw [h2.length]; exact hl, ?_⟩
        exact asgs_rep r ps ds xs σ G G' Q h2 g e fun σ' g' hw => q σ' g' fun vs hv => hw vs (by unfold Pat.slots at hv; exact hv)
    · cases e
theorem asgs_rep (r : RepH K w H h) : ∀ (ps : List Pat) (ds : List D) (vs : List V) (σ : L2.St) (G G' : Env) (Q : L2.St → Hp → Prop), Ra K w vs ds → RepG K w σ G → asgs ps ds G = some G' →
    (∀ σ', RepG K w σ' G' → (∀ us : List Nat, (∀ i ∈ slotsL ps, i ∈ us) → wipe σ' us = wipe σ us) → Q σ' H) → gPs K ps vs σ H Q
  | [], [], _, σ, G, G', Q, ra, g, e, q => by
    cases ra
    unfold asgs at e
    cases e
    unfold gPs
    exact ⟨rfl, q σ g fun us _ => rfl⟩
  | p :: ps, d :: ds, _, σ, G, G', Q, ra, g, e, q => by
    cases ra with
    | @cons v vs _ _ a b =>
      unfold asgs at e
      split at e
      · rename_i G1 e1
        unfold gPs
        refine ⟨v, vs, rfl, asg_rep r p d v σ G G1 _ a g e1 fun σ1 g1 w1 => ?_⟩
        refine asgs_rep r ps ds vs σ1 G1 G' Q b g1 e fun σ2 g2 w2 => q σ2 g2 fun us hu => ?_
        unfold slotsL at hu
        rw [w2 us fun i hi => hu i (List.mem_append_right _ hi), w1 us fun i hi => hu i (List.mem_append_left _ hi)]
      · cases e
  | [], _ :: _, _, _, _, _, _, _, _, e, _ => by cases e
  | _ :: _, [], _, _, _, _, _, _, _, e, _ => by cases e
theorem asgs_len : ∀ (ps : List Pat) (ds : List D) (G G' : Env), asgs ps ds G = some G' → ds.length = ps.length
  | [], [], _, _, _ => rfl
  | p :: ps, d :: ds, G, G', e => by
    unfold asgs at e
    split at e
    · rename_i G1 _
      rw [List.length_cons, List.length_cons, asgs_len ps ds G1 G' e]
    · cases e
  | [], _ :: _, _, _, e => by cases e
  | _ :: _, [], _, _, e => by cases e
end
end
def sAsg (p : Pat) (m : Me) : Ms := fun G h => (m G h).toS G fun d h1 => match asg p d G with
  | some G1 => .next G1 h1
  | none => .stuck
theorem s_asg {X : Cx} {W : WX} {pos : Pos} {e tg : Expr} {m : Me} (p : Pat) (he : PE X e (TM X W m)) (hg : PG X tg (gP X.K p)) (hs : swapsWithSole [tg] e pos.line X.env = pure false := by rfl) (hw : swappedStores [tg] e X.env = pure none := by rfl)
    (h1 : (assignEach [tg] X.env).map (·.2) = [assign tg X.env] := by rfl) : PS X (.Assign [tg] e pos) (TSS X W (sAsg p m)) := by
  refine (ps_asg he hg hs hw h1).wk fun D σ H ⟨w, G, h, g, r, o⟩ => ⟨w, G, h, g, r, OutS.bindE (m := m) g o fun d h1 v w1 H1 l r1 x o1 => ?_⟩
  split at o1
  · rename_i G1 e1
    exact asg_rep r1 p d v σ G G1 _ x (g.mono l) e1 fun σ' g' _ => o1 σ' w1 H1 (Le.refl _) g' r1
  · exact o1.elim

/-! ### what is walked -/
/-- the source still holds these items -/
def Still (src : Option Nat) (all : List D) (h : AH) : Prop := match src with
  | none => True
  | some n => h[n]? = some (.lst all)
abbrev Im := Env → AH → Res (List D × Option Nat)
structure Walks (K : PySem.W.Frag) (J : It) (w : Wd) (all : List D) (src : Option Nat) : Prop where
  goes : ∀ i w' H' h', i < all.length → LeX w w' → RepH K w' H' h' → Still src all h' → J.go i H'
  stops : ∀ w' H' h', LeX w w' → RepH K w' H' h' → Still src all h' → J.stop all.length H'
  yields : ∀ i x w' H' H2 h' d, all[i]? = some d → LeX w w' → RepH K w' H' h' → Still src all h' → J.yld i H' x H2 → ∃ w2, Le w' w2 ∧ RepH K w2 H2 h' ∧ Rv K w2 x d
def OutI (K : PySem.W.Frag) (mg : Str → Option Value) (W : WX) (w : Wd) (σ : L2.St) (R : It → Hp → Prop) : Res (List D × Option Nat) → Prop
  | .ok (all, src) h => ∀ J w' H', Le w w' → RepH K w' H' h → Walks K J w' all src → R J H'
  | .exc c fs h => OutX K mg W w σ c fs h
  | .stuck => False
def tI (X : Cx) (W : WX) (m : Im) : TI := fun σ H R => ∃ w G h, RepG X.K w σ G ∧ RepH X.K w H h ∧ OutI X.K X.mg W w σ R (m G h)
theorem _root_.L2.PI.wk {X : Cx} {tg e : Expr} {t t' : TI} (h : PI X tg e t) (k : ∀ σ H R, t' σ H R → t σ H R) : PI X tg e t' := ⟨fun pins s σ H R I q => h.run pins s σ H R I (k σ H R q)⟩
def iSeq (m : Me) : Im := fun G h => (m G h).bind fun d h1 => match d with
  | .tup ds => .ok (ds, none) h1
  | .lst ds => .ok (ds, none) h1
  | .rol ds => .ok (ds, none) h1
  | .loc n => match h1[n]? with
    | some (.lst ds) => .ok (ds, some n) h1
    | _ => .stuck
  | _ => .stuck
section
variable {X : Cx} {W : WX} {tg e : Expr} {m : Me} {K : PySem.W.Frag}
theorem OutI.bindE {mg : Str → Option Value} {w : Wd} {σ : L2.St} {G : Env} {h : AH} {R : VK} {Q : It → Hp → Prop} {k : D → AH → Res (List D × Option Nat)} (o : OutI K mg W w σ Q ((m G h).bind k))
    (hq : ∀ d h1 v w1 H1, m G h = .ok d h1 → Le w w1 → RepH K w1 H1 h1 → Rv K w1 v d → OutI K mg W w1 σ Q (k d h1) → R v H1) : OutE K mg W w σ R (m G h) := by
  cases e : m G h with
  | ok d h1 =>
    rw [e] at o
    refine fun v w1 H1 l r x => hq d h1 v w1 H1 e l r x ?_
    have o : OutI K mg W w σ Q (k d h1) := o
    cases z : k d h1 with
    | ok a h2 =>
      rw [z] at o
      exact fun J w2 H2 l2 r2 x2 => o J w2 H2 (l.trans l2) r2 x2
    | exc c fs h2 => rw [z] at o; exact OutX.mono l o
    | stuck => rw [z] at o; exact o
  | exc c fs h1 =>
    rw [e] at o
    exact o
  | stuck =>
    rw [e] at o
    exact o
theorem Walks.tup {a : Addr} {xs : List V} {w : Wd} {ds : List D} (h1 : SqT K w.S a xs) (h2 : Ra K w xs ds) : Walks K (Itt K a) w ds none := by
  refine ⟨fun i w' H' h' hi l r _ => ?_, fun w' H' h' l r _ => ?_, fun i x w' H' H2 h' d hd l r _ y => ?_⟩
  · obtain ⟨v, hv, _⟩ := h2.get (i := i) (d := ds[i]) (List.getElem?_eq_getElem hi)
    exact ⟨xs, v, r.ex.t (l.ex.t h1), hv⟩
  · exact ⟨xs, r.ex.t (l.ex.t h1), by rw [h2.length]; exact Nat.le_refl _⟩
  · obtain ⟨rfl, hy⟩ := y
    obtain ⟨v, hv, rv⟩ := h2.get hd
    have := hy xs (r.ex.t (l.ex.t h1))
    rw [hv] at this
    cases this
    exact ⟨w', Le.refl _, r, Rv_monoX l rv⟩
theorem Walks.lst {a : Addr} {xs : List V} {w : Wd} {ds : List D} (h1 : SqL K w.S a xs) (h2 : Ra K w xs ds) : Walks K (Itl K a) w ds none := by
  refine ⟨fun i w' H' h' hi l r _ => ?_, fun w' H' h' l r _ => ?_, fun i x w' H' H2 h' d hd l r _ y => ?_⟩
  · obtain ⟨v, hv, _⟩ := h2.get (i := i) (d := ds[i]) (List.getElem?_eq_getElem hi)
    exact ⟨xs, v, r.ex.l (l.ex.l h1), hv⟩
  · exact ⟨xs, r.ex.l (l.ex.l h1), by rw [h2.length]; exact Nat.le_refl _⟩
  · obtain ⟨rfl, hy⟩ := y
    obtain ⟨v, hv, rv⟩ := h2.get hd
    have := hy xs (r.ex.l (l.ex.l h1))
    rw [hv] at this
    cases this
    exact ⟨w', Le.refl _, r, Rv_monoX l rv⟩
theorem Walks.loc {w : Wd} {ds : List D} {n : Nat} (hn : n < w.N) : Walks K (Itl K (w.mu n)) w ds (some n) := by
  have key : ∀ {w' : Wd} {H' : Hp} {h' : AH}, LeX w w' → RepH K w' H' h' → Still (some n) ds h' → ∃ xs, SqL K H' (w.mu n) xs ∧ Ra K w' xs ds := by
    intro w' H' h' l r s
    obtain ⟨_, xs, e, ra⟩ := r.cell n _ s
    rw [l.mu n hn] at e
    exact ⟨xs, .inl (.inl e), ra⟩
  refine ⟨fun i w' H' h' hi l r s => ?_, fun w' H' h' l r s => ?_, fun i x w' H' H2 h' d hd l r s y => ?_⟩
  · obtain ⟨xs, q, h2⟩ := key l r s
    obtain ⟨v, hv, _⟩ := h2.get (i := i) (d := ds[i]) (List.getElem?_eq_getElem hi)
    exact ⟨xs, v, q, hv⟩
  · obtain ⟨xs, q, h2⟩ := key l r s
    exact ⟨xs, q, by rw [h2.length]; exact Nat.le_refl _⟩
  · obtain ⟨rfl, hy⟩ := y
    obtain ⟨xs, q, h2⟩ := key l r s
    obtain ⟨v, hv, rv⟩ := h2.get hd
    have := hy xs q
    rw [hv] at this
    cases this
    exact ⟨w', Le.refl _, r, rv⟩
theorem i_seq (he : PE X e (TM X W m)) : PI X tg e (tI X W (iSeq m)) := by
  refine ⟨fun pins s σ H R I ⟨w, G, h, g, r, o⟩ => ?_⟩
  by_cases ht : ∃ ds h1, m G h = .ok (.tup ds) h1
  · obtain ⟨ds, h1, e1⟩ := ht
    refine (pi_tup he).run pins s σ H R I ⟨w, G, h, g, r, OutI.bindE (m := m) o fun d h2 v w1 H1 em l r1 x o1 => ?_⟩
    rw [e1] at em
    cases em
    cases x with
    | @tup a xs _ q1 q2 => exact ⟨a, rfl, ⟨xs, r1.ex.t q1⟩, o1 _ w1 H1 (Le.refl _) r1 (Walks.tup q1 q2)⟩
  · refine (pi_list he).run pins s σ H R I ⟨w, G, h, g, r, OutI.bindE (m := m) o fun d h2 v w1 H1 em l r1 x o1 => ?_⟩
    cases x with
    | tup q1 q2 => exact absurd ⟨_, _, em⟩ ht
    | @lst a xs ds q1 q2 => exact ⟨a, rfl, ⟨xs, .inl (r1.ex.rd q1)⟩, o1 _ w1 H1 (Le.refl _) r1 (Walks.lst (.inl q1) q2)⟩
    | @rol a xs ds q1 q2 => exact ⟨a, rfl, ⟨xs, r1.ex.l q1⟩, o1 _ w1 H1 (Le.refl _) r1 (Walks.lst q1 q2)⟩
    | @loc n hn =>
      have o1 : OutI X.K X.mg W w1 σ R (match h2[n]? with
        | some (.lst ds) => .ok (ds, some n) h2
        | _ => .stuck) := o1
      split at o1
      · rename_i ds e'
        obtain ⟨_, xs, e2, ra⟩ := r1.cell _ _ e'
        exact ⟨_, rfl, ⟨xs, .inl (.inl e2)⟩, o1 _ w1 H1 (Le.refl _) r1 (Walks.loc hn)⟩
      · exact o1.elim
    | _ => exact o1.elim
def rangeD (lo : Int) (n : Nat) : List D := (List.range n).map fun i : Nat => D.int (lo + (i : Int))
theorem rangeD_length (lo : Int) (n : Nat) : (rangeD lo n).length = n := by simp [rangeD]
theorem rangeD_get {lo : Int} {n i : Nat} {d : D} (h : (rangeD lo n)[i]? = some d) : d = .int (lo + (i : Int)) := by
  unfold rangeD at h
  rw [List.getElem?_map] at h
  cases q : (List.range n)[i]? with
  | none => rw [q] at h; cases h
  | some j =>
    rw [q] at h
    cases h
    have := List.getElem?_eq_some_iff.mp q
    obtain ⟨h1, h2⟩ := this
    simp at h2
    subst h2
    rfl
theorem Walks.rng {w : Wd} {lo : Int} {n : Nat} : Walks K (Itr lo n) w (rangeD lo n) none := by
  refine ⟨fun i w' H' h' hi l r _ => ?_, fun w' H' h' l r _ => ?_, fun i x w' H' H2 h' d hd l r _ y => ?_⟩
  · rw [rangeD_length] at hi
    exact hi
  · rw [rangeD_length]
    exact Nat.le_refl n
  · obtain ⟨rfl, rfl⟩ := y
    rw [rangeD_get hd]
    exact ⟨w', Le.refl _, r, .int _⟩
/-- bounds of a range (told by a flag that never computes) -/
def okR (j : Int) : Prop := -1000000 ≤ j ∧ j ≤ 1000000
noncomputable instance (j : Int) : Decidable (okR j) := Classical.propDecidable _
def okR2 (i j : Int) : Prop := -1000000 ≤ i ∧ i ≤ 1000000 ∧ j ≤ 1000000 ∧ -1000000 ≤ j
noncomputable instance (i j : Int) : Decidable (okR2 i j) := Classical.propDecidable _
noncomputable def iRange1 (as : MeL) : Im := fun G h => (as G h).bind fun xs h1 => match xs with
  | [.int j] => if okR j then .ok (rangeD 0 j.toNat, none) h1 else .stuck
  | _ => .stuck
noncomputable def iRange2 (as : MeL) : Im := fun G h => (as G h).bind fun xs h1 => match xs with
  | [.int i, .int j] => if okR2 i j then .ok (rangeD i (j - i).toNat, none) h1 else .stuck
  | _ => .stuck
theorem OutI.bindA {mg : Str → Option Value} {w : Wd} {σ : L2.St} {G : Env} {h : AH} {as : MeL} {R : List V → Hp → Prop} {Q : It → Hp → Prop} {k : List D → AH → Res (List D × Option Nat)} (o : OutI K mg W w σ Q ((as G h).bind k))
    (hq : ∀ d h1 v w1 H1, as G h = .ok d h1 → Le w w1 → RepH K w1 H1 h1 → Ra K w1 v d → OutI K mg W w1 σ Q (k d h1) → R v H1) : OutA K mg W w σ R (as G h) := by
  cases e : as G h with
  | ok d h1 =>
    rw [e] at o
    refine fun v w1 H1 l r x => hq d h1 v w1 H1 e l r x ?_
    have o : OutI K mg W w σ Q (k d h1) := o
    cases z : k d h1 with
    | ok a h2 =>
      rw [z] at o
      exact fun J w2 H2 l2 r2 x2 => o J w2 H2 (l.trans l2) r2 x2
    | exc c fs h2 => rw [z] at o; exact OutX.mono l o
    | stuck => rw [z] at o; exact o
  | exc c fs h1 =>
    rw [e] at o
    exact o
  | stuck =>
    rw [e] at o
    exact o
variable {a b : Expr} {as : MeL} {p pos : Pos}
theorem i_range1 (hm : X.mg "range" = none) (ha : PA X [a] (TAr X W as)) (hg : Gl X "range" := by rfl) (hs : starEach [a] X.env = [(false, eval a X.env)] := by rfl) : PI X tg (.Call (.Name "range" p) [a] [] pos) (tI X W (iRange1 as)) := by
  refine (pi_range1 hg hm ha hs).wk fun σ H R ⟨w, G, h, g, r, o⟩ => ⟨w, G, h, g, r, OutI.bindA (as := as) o fun d h2 v w1 H1 em l r1 x o1 => ?_⟩
  split at o1
  · rename_i j
    split at o1
    · rename_i c
      have c : -1000000 ≤ j ∧ j ≤ 1000000 := c
      obtain ⟨v, rfl, rv⟩ := ra_one x
      cases rv
      exact ⟨j, rfl, by omega, by omega, o1 _ w1 H1 (Le.refl _) r1 Walks.rng⟩
    · exact o1.elim
  · exact o1.elim
theorem i_range2 (hm : X.mg "range" = none) (ha : PA X [a, b] (TAr X W as)) (hg : Gl X "range" := by rfl) (hs : starEach [a, b] X.env = [(false, eval a X.env), (false, eval b X.env)] := by rfl) (hs2 : starEach [b] X.env = [(false, eval b X.env)] := by rfl) : PI X tg (.Call (.Name "range" p) [a, b] [] pos) (tI X W (iRange2 as)) := by
  refine (pi_range2 hg hm ha hs hs2).wk fun σ H R ⟨w, G, h, g, r, o⟩ => ⟨w, G, h, g, r, OutI.bindA (as := as) o fun d h2 v w1 H1 em l r1 x o1 => ?_⟩
  split at o1
  · rename_i i j
    split at o1
    · rename_i c
      have c : -1000000 ≤ i ∧ i ≤ 1000000 ∧ j ≤ 1000000 ∧ -1000000 ≤ j := c
      obtain ⟨v, v2, rfl, rv, rv2⟩ := ra_two x
      cases rv
      cases rv2
      exact ⟨i, j, rfl, ⟨by omega, by omega, by omega, by omega⟩, o1 _ w1 H1 (Le.refl _) r1 Walks.rng⟩
    · exact o1.elim
  · exact o1.elim
/-! zip, enumerate -/
theorem Walks.zip {K : PySem.W.Frag} {w : Wd} {J : It} {as bs : List D} {xs ys : List V} (h1 : Ra K w xs as) (h2 : Ra K w ys bs)
    (hw : ∀ w' H' h', LeX w w' → RepH K w' H' h' → ∃ G : Hp → Prop, G H' ∧ Walk J (min xs.length ys.length) G (YPair (fun i => xs[i]?) (fun i => ys[i]?))) : Walks K J w ((as.zip bs).map fun p => D.tup [p.1, p.2]) none := by
  have l1 := h1.length
  have l2 := h2.length
  have hl : ((as.zip bs).map fun p => D.tup [p.1, p.2]).length = min xs.length ys.length := by
    rw [List.length_map, List.length_zip, l1, l2]
  refine ⟨fun i w' H' h' hi l r _ => ?_, fun w' H' h' l r _ => ?_, fun i x w' H' H2 h' d hd l r _ y => ?_⟩
  · obtain ⟨P, p, wk⟩ := hw w' H' h' l r
    rw [hl] at hi
    exact wk.goes i H' hi p
  · obtain ⟨P, p, wk⟩ := hw w' H' h' l r
    rw [hl]
    exact wk.stops H' p
  · obtain ⟨P, p, wk⟩ := hw w' H' h' l r
    have hi : i < min xs.length ys.length := by
      rw [← hl]
      exact (List.getElem?_eq_some_iff.mp hd).1
    obtain ⟨T, u, v, rfl, hT, rfl, e1, e2⟩ := wk.yields i H' x H2 hi p y
    rw [List.getElem?_map] at hd
    cases q : (as.zip bs)[i]? with
    | none => rw [q] at hd; cases hd
    | some pr =>
      rw [q] at hd
      cases hd
      obtain ⟨q1, q2⟩ := List.getElem?_zip_eq_some.mp q
      obtain ⟨u', g1, ru⟩ := h1.get q1
      obtain ⟨v', g2, rv⟩ := h2.get q2
      have e1 : xs[i]? = some u := e1
      have e2 : ys[i]? = some v := e2
      rw [e1] at g1
      rw [e2] at g2
      cases g1
      cases g2
      exact ⟨w'.add T _, r.le_add hT, r.add hT, rv_tup r hT (.cons (Rv_monoX l ru) (.cons (Rv_monoX l rv) .nil))⟩
end
end AB
/-! AB: loops, comprehensions, list methods, defs and their calls. -/
namespace AB
open PySem PySem.Spec PyProof.Rows L2

/-! ### for -/
open Classical in
noncomputable def forGo (p : Pat) (body : Ms) (src : Option Nat) (all : List D) : List D → Env → AH → SR
  | [], G, h => if Still src all h then .next G h else .stuck
  | d :: r, G, h => if Still src all h then
      match asg p d G with
      | some G1 => match body G1 h with
        | .next G2 h2 => forGo p body src all r G2 h2
        | .cont G2 h2 => forGo p body src all r G2 h2
        | .brk G2 h2 => .next G2 h2
        | .ret x h2 => .ret x h2
        | .exc c fs G2 h2 => .exc c fs G2 h2
        | .stuck => .stuck
      | none => .stuck
    else .stuck
noncomputable def sFor (p : Pat) (it : Im) (body : Ms) : Ms := fun G h => (it G h).toS G fun a h1 => forGo p body a.2 a.1 a.1 G h1
theorem OutS.bindI {K : PySem.W.Frag} {mg : Str → Option Value} {W : WX} {w : Wd} {σ : L2.St} {G : Env} {h : AH} {D : Ends} {m : Im} {R : It → Hp → Prop} {k : List AB.D × Option Nat → AH → SR} (g : RepG K w σ G) (o : OutS K mg W D w ((m G h).toS G k))
    (hq : ∀ all src h1 J w1 H1, Le w w1 → RepH K w1 H1 h1 → Walks K J w1 all src → OutS K mg W D w1 (k (all, src) h1) → R J H1) : OutI K mg W w σ R (m G h) := by
  cases e : m G h with
  | ok d h1 =>
    rw [e] at o
    exact fun J w1 H1 l r x => hq d.1 d.2 h1 J w1 H1 l r x (OutS.mono l o)
  | exc c fs h1 =>
    rw [e] at o
    exact fun cls dd w1 H1 e l r x => o cls dd σ w1 H1 e l (g.mono l) r x
  | stuck =>
    rw [e] at o
    exact o
section
variable {X : Cx} {W : WX} {pos : Pos} {tg iter : Expr} {body : List Stmt} {p : Pat} {im : Im} {mb : Ms}
theorem s_for (hp : PassesOwn (model X.prog X.w) X.A X.env X.xe) (hi : PI X tg iter (tI X W im)) (hg : PG X tg (gP X.K p)) (hb : PSs X body (TSS X W mb)) (hc : X.calm = true := by rfl) (hs : ∀ x, foldedSetIterable iter X.env x = pure x := by intro _; rfl) :
    PS X (.For tg iter body [] pos) (TSS X W (sFor p im mb)) := by
  refine (ps_for hp hc hi hg hb hs).wk fun D σ H ⟨w, G, h, g, r, o⟩ => ⟨w, G, h, g, r, OutS.bindI (m := im) g o fun all src h1 J w1 H1 l r1 wk o1 => ?_⟩
  refine ⟨fun i m σ' H' => m = all.length - i ∧ i ≤ all.length ∧ ∃ w' G' h', Le w1 w' ∧ RepG X.K w' σ' G' ∧ RepH X.K w' H' h' ∧ OutS X.K X.mg W D w' (forGo p mb src all (all.drop i) G' h'),
    ⟨all.length, by simp, Nat.zero_le _, w1, G, h1, Le.refl _, g.mono l, r1, o1⟩, ?_⟩
  rintro i m σ' H' ⟨rfl, hi2, w', G', h', l', g', r', o'⟩
  by_cases hlt : i < all.length
  · have ed : all.drop i = all[i] :: all.drop (i + 1) := List.drop_eq_getElem_cons hlt
    rw [ed] at o'
    unfold forGo at o'
    split at o'
    · rename_i still
      refine .inr ⟨wk.goes i w' H' h' hlt l'.x r' still, fun σ2 H2 => ∃ w' G' h', Le w1 w' ∧ RepG X.K w' σ2 G' ∧ RepH X.K w' H2 h' ∧ OutS X.K X.mg W D w' (forGo p mb src all (all.drop (i + 1)) G' h'),
        fun σ2 H2 hN => ⟨all.length - (i + 1), by omega, rfl, hlt, hN⟩, fun x H2 hy => ?_⟩
      obtain ⟨w2, l2, r2, rv⟩ := wk.yields i x w' H' H2 h' all[i] (List.getElem?_eq_getElem hlt) l'.x r' still hy
      split at o'
      · rename_i G1 e1
        refine asg_rep r2 p all[i] x σ' G' G1 _ rv (g'.mono l2) e1 fun σ3 g3 _ => ?_
        refine ⟨w2, G1, h', g3, r2, ?_⟩
        have o2 := OutS.mono l2 o'
        cases eb : mb G1 h' with
        | next G2 h2 =>
          rw [eb] at o2
          exact fun σ4 w4 H4 l4 g4 r4 => ⟨w4, G2, h2, l'.trans (l2.trans l4), g4, r4, OutS.mono l4 o2⟩
        | cont G2 h2 =>
          rw [eb] at o2
          exact fun σ4 w4 H4 l4 g4 r4 => ⟨w4, G2, h2, l'.trans (l2.trans l4), g4, r4, OutS.mono l4 o2⟩
        | brk G2 h2 =>
          rw [eb] at o2
          exact o2
        | ret d h2 =>
          rw [eb] at o2
          exact o2
        | exc c fs G2 h2 =>
          rw [eb] at o2
          exact o2
        | stuck =>
          rw [eb] at o2
          exact o2
      · exact o'.elim
    · exact o'.elim
  · have e : i = all.length := by omega
    subst e
    rw [List.drop_length] at o'
    unfold forGo at o'
    split at o'
    · rename_i still
      exact .inl ⟨wk.stops w' H' h' l'.x r' still, o' σ' w' H' (Le.refl _) g' r'⟩
    · exact o'.elim
end

/-! ### while -/
def whileGo (t : MeT) (body : Ms) : Nat → Env → AH → SR
  | 0, _, _ => .stuck
  | n + 1, G, h => (t G h).toS G fun b h1 => if b = true then
      match body G h1 with
      | .next G2 h2 => whileGo t body n G2 h2
      | .cont G2 h2 => whileGo t body n G2 h2
      | .brk G2 h2 => .next G2 h2
      | .ret x h2 => .ret x h2
      | .exc c fs G2 h2 => .exc c fs G2 h2
      | .stuck => .stuck
    else .next G h1
open Classical in
noncomputable def sWhile (t : MeT) (body : Ms) : Ms := fun G h => if hx : ∃ n, whileGo t body n G h ≠ .stuck then whileGo t body (Classical.choose hx) G h else .stuck
theorem OutS.bindT' {K : PySem.W.Frag} {mg : Str → Option Value} {W : WX} {w : Wd} {σ : L2.St} {G : Env} {h : AH} {m : MeT} {R : Bool → Hp → Prop} {D : Ends} {k : Bool → AH → SR} (g : RepG K w σ G) (o : OutS K mg W D w ((m G h).toS G k))
    (hq : ∀ b h1 w1 H1, Le w w1 → RepH K w1 H1 h1 → OutS K mg W D w1 (k b h1) → R b H1) : OutT K mg W w σ R (m G h) := OutS.bindT g o hq
section
variable {X : Cx} {W : WX} {pos : Pos} {c : Expr} {body : List Stmt} {t : MeT} {mb : Ms}
theorem s_while (hp : PassesOwn (model X.prog X.w) X.A X.env X.xe) (hc : PT X c (TTT X W t)) (hb : PSs X body (TSS X W mb)) : PS X (.While c body [] pos) (TSS X W (sWhile t mb)) := by
  refine (ps_while hp hc hb).wk fun D σ H ⟨w, G, h, g, r, o⟩ => ?_
  unfold sWhile at o
  split at o
  · rename_i hx
    generalize Classical.choose hx = n0 at o
    refine ⟨fun m σ' H' => ∃ w' G' h', RepG X.K w' σ' G' ∧ RepH X.K w' H' h' ∧ OutS X.K X.mg W D w' (whileGo t mb m G' h'), ⟨n0, w, G, h, g, r, o⟩, ?_⟩
    rintro m σ' H' ⟨w', G', h', g', r', o'⟩
    cases m with
    | zero => exact o'.elim
    | succ m =>
      unfold whileGo at o'
      refine ⟨w', G', h', g', r', OutS.bindT (m := t) g' o' fun b h1 w1 H1 l r1 o1 => ?_⟩
      cases b with
      | true =>
        refine iteT ⟨fun σ2 H2 => ∃ w' G' h', RepG X.K w' σ2 G' ∧ RepH X.K w' H2 h' ∧ OutS X.K X.mg W D w' (whileGo t mb m G' h'), fun σ2 H2 hN => ⟨m, Nat.lt_succ_self _, hN⟩, ⟨w1, G', h1, g'.mono l, r1, ?_⟩⟩
        have o1 : OutS X.K X.mg W D w1 (match mb G' h1 with
          | .next G2 h2 => whileGo t mb m G2 h2
          | .cont G2 h2 => whileGo t mb m G2 h2
          | .brk G2 h2 => .next G2 h2
          | .ret x h2 => .ret x h2
          | .exc c fs G2 h2 => .exc c fs G2 h2
          | .stuck => .stuck) := o1
        cases eb : mb G' h1 with
        | next G2 h2 =>
          rw [eb] at o1
          exact fun σ4 w4 H4 l4 g4 r4 => ⟨w4, G2, h2, g4, r4, OutS.mono l4 o1⟩
        | cont G2 h2 =>
          rw [eb] at o1
          exact fun σ4 w4 H4 l4 g4 r4 => ⟨w4, G2, h2, g4, r4, OutS.mono l4 o1⟩
        | brk G2 h2 =>
          rw [eb] at o1
          exact o1
        | ret d h2 =>
          rw [eb] at o1
          exact o1
        | exc c fs G2 h2 =>
          rw [eb] at o1
          exact o1
        | stuck =>
          rw [eb] at o1
          exact o1
      | false => exact iteF (o1 σ' w1 H1 (Le.refl _) (g'.mono l) r1)
  · exact o.elim
end

/-! ### comprehensions -/
def wipeG (G : Env) : List Nat → Env
  | [] => G
  | v :: vs => (wipeG G vs).set v none
theorem wipe_rep {K : PySem.W.Frag} {w : Wd} {σ : L2.St} {G : Env} (g : RepG K w σ G) : ∀ vs : List Nat, RepG K w (wipe σ vs) (wipeG G vs)
  | [] => g
  | v :: vs => by
    have ih := wipe_rep g vs
    refine ⟨by unfold wipe wipeG; rw [List.length_set, List.length_set, ih.1], fun i d e => ?_⟩
    unfold wipeG at e
    by_cases hi : i = v
    · subst hi
      have hl : i < (wipeG G vs).length := by
        have := (List.getElem?_eq_some_iff.mp e).1
        rwa [List.length_set] at this
      rw [List.getElem?_set_self hl] at e
      cases e
    · rw [List.getElem?_set_ne (Ne.symm hi)] at e
      obtain ⟨x, h1, h2⟩ := ih.2 i d e
      refine ⟨x, ?_, h2⟩
      unfold wipe
      rw [List.getElem?_set_ne (Ne.symm hi)]
      exact h1
def tYesM : MeT := fun _ h => .ok true h
/-- in a comprehension nothing is raised -/
def Res.noX {α : Type} (r : Res α) : Res α := match r with
  | .ok a h => .ok a h
  | _ => .stuck
@[simp] theorem Res.noX_ok {α : Type} (a : α) (h : AH) : (Res.ok a h).noX = .ok a h := rfl
@[simp] theorem Res.noX_exc {α : Type} (c : Str) (fs : List (Str × D)) (h : AH) : (Res.exc c fs h : Res α).noX = .stuck := rfl
@[simp] theorem Res.noX_stuck {α : Type} : (Res.stuck : Res α).noX = .stuck := rfl
open Classical in
noncomputable def compGo (p : Pat) (t : MeT) (e : Me) (src : Option Nat) (all : List D) (G : Env) : List D → AH → Res (List D)
  | [], h => if Still src all h then .ok [] h else .stuck
  | d :: r, h => if Still src all h then
      match asg p d G with
      | some G1 => (t G1 h).noX.bind fun b h1 => if b = true then (e G1 h1).noX.bind fun x h2 => (compGo p t e src all G r h2).bind fun xs h3 => .ok (x :: xs) h3 else compGo p t e src all G r h1
      | none => .stuck
    else .stuck
noncomputable def lComp (p : Pat) (vs : List Nat) (it : Im) (t : MeT) (e : Me) : MeL := fun G h => (it G h).bind fun a h1 => if a.1.length ≤ big then compGo p t e a.2 a.1 (wipeG G vs) a.1 h1 else .stuck
theorem OutF.bindI {K : PySem.W.Frag} {mg : Str → Option Value} {W : WX} {w : Wd} {σ : L2.St} {G : Env} {h : AH} {m : Im} {R : It → Hp → Prop} {Q : VK} {k : List D × Option Nat → AH → Res (List D)} (o : OutF K mg W w σ Q ((m G h).bind k))
    (hq : ∀ all src h1 J w1 H1, Le w w1 → RepH K w1 H1 h1 → Walks K J w1 all src → OutF K mg W w1 σ Q (k (all, src) h1) → R J H1) : OutI K mg W w σ R (m G h) := by
  cases e : m G h with
  | ok d h1 =>
    rw [e] at o
    exact fun J w1 H1 l r x => hq d.1 d.2 h1 J w1 H1 l r x (OutF.mono l o)
  | exc c fs h1 =>
    rw [e] at o
    exact o
  | stuck =>
    rw [e] at o
    exact o
/-- no wish: nothing is raised -/
abbrev W0 : WX := fun _ _ _ _ => False
/-- the world in which the list at p, told apart, must stay as it is -/
def Wd.hold (w : Wd) (p : Addr) (u : HO) : Wd := ⟨w.S, upd w.F p u, w.mu, w.N, w.LK⟩
def Wd.with (w : Wd) (F : Hp) : Wd := ⟨w.S, F, w.mu, w.N, w.LK⟩
theorem RepH.hold {K : PySem.W.Frag} {w : Wd} {H : Hp} {h : AH} {p : Addr} {u : HO} (r : RepH K w H h) (ap : Apart w p) : RepH K (w.hold p u) (upd H p u) h := by
  refine ⟨fun a x e => ?_, r.len, r.inj, fun n o' e => ?_, fun a x e => ?_, fun a x e => ?_⟩
  · have e : w.S a = some x := e
    have q : a ≠ p := by
      intro z
      rw [z, ap.s] at e
      cases e
    rw [upd_ne q]
    exact r.ex _ _ e
  · obtain ⟨a, b⟩ := r.cell n o' e
    have hn : n < w.N := by
      rw [r.len]
      exact (List.getElem?_eq_some_iff.mp e).1
    refine ⟨a, ?_⟩
    have b2 : RepO K w (upd H p u) (w.mu n) o' := b.mono (Le.refl _) (upd_ne (ap.m n hn))
    cases o' with
    | lst ds => exact b2
    | ins C fs => exact b2
    | dct kvs => exact b2
    | lck kvs => exact b2
    | hld ks => exact b2
  · have e : upd w.F p u a = some x := e
    by_cases q : a = p
    · rw [q, upd_same] at e
      rw [q, upd_same]
      exact e
    · rw [upd_ne q] at e
      rw [upd_ne q]
      exact r.exF _ _ e
  · have e : upd w.F p u a = some x := e
    by_cases q : a = p
    · rw [q]
      exact ⟨ap.s, ap.m⟩
    · rw [upd_ne q] at e
      exact r.dis a x e
/-- the held list goes free again -/
theorem RepH.free {K : PySem.W.Frag} {w : Wd} {H : Hp} {h : AH} {F : Hp} {p : Addr} {u : HO} (r : RepH K w H h) (e : w.F = upd F p u) (hp : F p = none) : RepH K (w.with F) H h ∧ Apart (w.with F) p := by
  have sub : ∀ a x, F a = some x → w.F a = some x := fun a x q => by
    have z : a ≠ p := fun z => by
      rw [z, hp] at q
      cases q
    rw [e, upd_ne z]
    exact q
  have d := r.dis p u (by rw [e, upd_same])
  refine ⟨⟨r.ex, r.len, r.inj, fun n o' q => ?_, fun a x q => r.exF _ _ (sub a x q), fun a x q => r.dis a x (sub a x q)⟩, d.1, d.2, hp⟩
  obtain ⟨a, b⟩ := r.cell n o' q
  refine ⟨a, ?_⟩
  cases o' with
  | lst ds => exact b
  | ins C fs => exact b
  | dct kvs => exact b
  | lck kvs => exact b
  | hld ks => exact b
/-- a list goes on in its place -/
theorem RepH.regrow {K : PySem.W.Frag} {w : Wd} {H : Hp} {h : AH} {F : Hp} {p : Addr} {u u' : HO} (r : RepH K w H h) (e : w.F = upd F p u) (hp : F p = none) : RepH K (w.with (upd F p u')) (upd H p u') h := by
  obtain ⟨r1, ap⟩ := r.free e hp
  exact r1.hold ap
section
variable {X : Cx} {W : WX} {pos : Pos} {tg iter elt : Expr} {ifs : List Expr} {scope : Scope} {own : List (Str × Nat)} {p : Pat} {im : Im} {mt : MeT} {me : Me}
theorem noXT {K : PySem.W.Frag} {mg : Str → Option Value} {w : Wd} {σ : L2.St} {Q : Bool → Hp → Prop} {r : Res Bool} (o : OutT K mg W0 w σ Q r.noX) : OutT K mg W0 w σ Q r := by
  cases r with
  | ok a h => exact o
  | exc c fs h => exact o.elim
  | stuck => exact o
theorem noXE {K : PySem.W.Frag} {mg : Str → Option Value} {w : Wd} {σ : L2.St} {Q : VK} {r : Res D} (o : OutE K mg W0 w σ Q r.noX) : OutE K mg W0 w σ Q r := by
  cases r with
  | ok a h => exact o
  | exc c fs h => exact o.elim
  | stuck => exact o
theorem lc_read (p : Pat) (hsl : ∀ i ∈ p.slots, i ∈ own.map (·.2)) {σ : L2.St} {H : Hp} {Q : VK} (t : TF X W (lComp p (own.map (·.2)) im mt me) σ H Q) : tLc (tI X W im) (gP X.K p) (TTT X W0 mt) (TM X W0 me) (own.map (·.2)) σ H Q := by
  obtain ⟨w, G, h, g, r, o⟩ := t
  refine ⟨w, G, h, g, r, OutF.bindI (m := im) o fun all src h1 J w1 H1 l r1 wk o1 => ?_⟩
  intro Dd hD
  have o1 : OutF X.K X.mg W w1 σ Q (if all.length ≤ big then compGo p mt me src all (wipeG G (own.map (·.2))) all h1 else .stuck) := o1
  split at o1
  · rename_i hbig
    have g1 : RepG X.K w1 (wipe σ (own.map (·.2))) (wipeG G (own.map (·.2))) := wipe_rep (g.mono l) _
    generalize hvs : own.map (·.2) = vs at *
    have apD : Apart w1 Dd := ⟨r1.ex.free hD, fun n hn => r1.ne hn hD, r1.exF.free hD⟩
    refine ⟨fun i m H' => m = all.length - i ∧ i ≤ all.length ∧ ∃ w' h' xs ds, w'.F = upd w1.F Dd (.lst xs) ∧ LeX w1 w' ∧ RepH X.K w' H' h' ∧ Ra X.K w' xs ds ∧ ds.length ≤ i ∧
      OutF X.K X.mg W (w'.with w1.F) σ Q ((compGo p mt me src all (wipeG G vs) (all.drop i) h').bind fun ys h2 => .ok (ds ++ ys) h2),
      ⟨all.length, by simp, Nat.zero_le _, w1.hold Dd (.lst []), h1, [], [], rfl, ⟨Ext.refl _, Nat.le_refl _, fun _ _ => rfl, rfl⟩, r1.hold apD, .nil, Nat.le_refl _, ?_⟩, ?_⟩
    · have e : ∀ r : Res (List D), (r.bind fun ys h2 => .ok ([] ++ ys) h2) = r := fun r => by cases r <;> rfl
      rw [List.drop_zero, e]
      exact o1
    · rintro i m H' ⟨rfl, hi2, w', h', xs, ds, eF, lx, r', ra, hds, o'⟩
      obtain ⟨rf, apf⟩ := r'.free eF apD.f
      have lf : LeX w1 (w'.with w1.F) := ⟨lx.ex, lx.n, lx.mu, lx.lk⟩
      have hD' : H' Dd = some (.lst xs) := r'.exF _ _ (by rw [eF, upd_same])
      by_cases hlt : i < all.length
      · have ed : all.drop i = all[i] :: all.drop (i + 1) := List.drop_eq_getElem_cons hlt
        rw [ed] at o'
        unfold compGo at o'
        split at o'
        · rename_i still
          refine .inr ⟨wk.goes i w' H' h' hlt lx r' still, fun H2 => ∃ w' h' xs ds, w'.F = upd w1.F Dd (.lst xs) ∧ LeX w1 w' ∧ RepH X.K w' H2 h' ∧ Ra X.K w' xs ds ∧ ds.length ≤ i + 1 ∧
            OutF X.K X.mg W (w'.with w1.F) σ Q ((compGo p mt me src all (wipeG G vs) (all.drop (i + 1)) h').bind fun ys h2 => .ok (ds ++ ys) h2),
            fun H2 hN => ⟨all.length - (i + 1), by omega, rfl, hlt, hN⟩, fun x H2 hy => ?_⟩
          obtain ⟨w2, l2, r2, rv⟩ := wk.yields i x w' H' H2 h' all[i] (List.getElem?_eq_getElem hlt) lx r' still hy
          split at o'
          · rename_i G1 e1
            refine asg_rep r2 p all[i] x (wipe σ vs) _ G1 _ rv (g1.monoX (lx.trans l2.x)) e1 fun σ3 g3 hw => ⟨(hw vs hsl).trans (wipe_wipe fun _ hi => hi), w2, G1, h', g3, r2, ?_⟩
            cases em : mt G1 h' with
            | exc c fs h2 => rw [em] at o'; exact o'.elim
            | stuck => rw [em] at o'; exact o'.elim
            | ok b h2 =>
              rw [em] at o'
              intro w3 H3 l3 r3
              have o' : OutF X.K X.mg W (w'.with w1.F) σ Q ((if b = true then (me G1 h2).noX.bind fun x h2 => (compGo p mt me src all (wipeG G vs) (all.drop (i + 1)) h2).bind fun xs h3 => .ok (x :: xs) h3 else compGo p mt me src all (wipeG G vs) (all.drop (i + 1)) h2).bind fun ys h2 => .ok (ds ++ ys) h2) := o'
              have F3 : w3.F = upd w1.F Dd (.lst xs) := by rw [l3.f, l2.f, eF]
              cases b with
              | false =>
                rw [if_neg (by decide)] at o'
                refine iteF ⟨w3, h2, xs, ds, F3, lx.trans (l2.x.trans l3.x), r3, Ra_mono (l2.trans l3) ra, by omega, OutF.mono ?_ o'⟩
                exact ⟨(l2.trans l3).ex, (l2.trans l3).n, (l2.trans l3).mu, rfl, (l2.trans l3).lk⟩
              | true =>
                rw [if_pos rfl] at o'
                refine iteT ⟨w3, G1, h2, g3.mono l3, r3, ?_⟩
                cases ee : me G1 h2 with
                | exc c fs h3 => rw [ee] at o'; exact o'.elim
                | stuck => rw [ee] at o'; exact o'.elim
                | ok y h3 =>
                  rw [ee] at o'
                  intro v w4 H4 l4 r4 rv4
                  have F4 : w4.F = upd w1.F Dd (.lst xs) := by rw [l4.f, F3]
                  have lxs := ra.length
                  refine ⟨xs, r4.exF _ _ (by rw [F4, upd_same]), big_lt (by omega), w4.with (upd w1.F Dd (.lst (xs ++ [v]))), h3, xs ++ [v], ds ++ [y], rfl, ?_, r4.regrow F4 apD.f, ?_, ?_, ?_⟩
                  · have l := lx.trans (l2.x.trans (l3.x.trans l4.x))
                    exact ⟨l.ex, l.n, l.mu, l.lk⟩
                  · have ra4 : Ra X.K w4 xs ds := Ra_mono (l2.trans (l3.trans l4)) ra
                    exact ra4.append (.cons rv4 .nil)
                  · rw [List.length_append]
                    exact Nat.succ_le_succ hds
                  · have eq : ∀ r : Res (List D), ((r.bind fun zs h3 => .ok (y :: zs) h3).bind fun ys h2 => .ok (ds ++ ys) h2) = r.bind fun ys h2 => .ok ((ds ++ [y]) ++ ys) h2 := fun r => by
                      cases r with
                      | ok a h =>
                        show Res.ok (ds ++ (y :: a)) h = Res.ok ((ds ++ [y]) ++ a) h
                        rw [List.append_assoc]
                        rfl
                      | exc c fs h => rfl
                      | stuck => rfl
                    have o2 : OutF X.K X.mg W (w'.with w1.F) σ Q (((compGo p mt me src all (wipeG G vs) (all.drop (i + 1)) h3).bind fun zs h3 => .ok (y :: zs) h3).bind fun ys h2 => .ok (ds ++ ys) h2) := o'
                    rw [eq] at o2
                    refine OutF.mono ?_ o2
                    have l := l2.trans (l3.trans l4)
                    exact ⟨l.ex, l.n, l.mu, rfl, l.lk⟩
          · exact o'.elim
        · exact o'.elim
      · have e : i = all.length := by omega
        subst e
        rw [List.drop_length] at o'
        unfold compGo at o'
        split at o'
        · rename_i still
          refine .inl ⟨wk.stops w' H' h' lx r' still, ?_⟩
          have o2 : OutF X.K X.mg W (w'.with w1.F) σ Q (.ok (ds ++ []) h') := o'
          rw [List.append_nil] at o2
          exact o2 Dd xs (w'.with w1.F) H' (Le.refl _) rf apf hD' ra
        · exact o'.elim
  · exact o1.elim
theorem f_lc (p : Pat) (hN : X.N.Nodup) (hi : PI X tg iter (tI X W im)) (ok : BlkOk X.N X.env.scope scope own)
    (hg : ∀ (s : Shared) (H : Hp) (C : Addr) (cl : List (Str × Addr)) (fp : List Addr), PG (X.blk s H scope (compEnvC scope cl C X.env) fp) tg (gP X.K p)) (ht : ∀ (s : Shared) (H : Hp) (C : Addr) (cl : List (Str × Addr)) (fp : List Addr), PTs (X.blk s H scope (compEnvC scope cl C X.env) fp) ifs (TTT X W0 mt))
    (he : ∀ (s : Shared) (H : Hp) (C : Addr) (cl : List (Str × Addr)) (fp : List Addr), PE (X.blk s H scope (compEnvC scope cl C X.env) fp) elt (TM X W0 me)) (hsl : ∀ i ∈ p.slots, i ∈ own.map (·.2)) (hc : X.calm = true := by rfl) (hs : ∀ x, foldedSetIterable iter X.env x = pure x := by intro _; rfl) :
    PE X (.ListComp elt [⟨tg, iter, ifs, 0⟩] scope pos) (TF X W (lComp p (own.map (·.2)) im mt me)) :=
  (pe_lc hc hN hi ok hg ht he hs).wk fun _ _ _ t => lc_read p hsl t
/-- name = [..] on one line, the name a local of its own -/
theorem set_read {m : Me} {i : Nat} {D : Ends} {σ : L2.St} {H : Hp} (t : TSS X W (sSet i m) D σ H) : TM X W m σ H fun x H1 => gName i x σ H1 D.nx := by
  obtain ⟨w, G, h, g, r, o⟩ := t
  exact ⟨w, G, h, g, r, OutS.bindE (m := m) g o fun d h1 v w1 H1 l r1 x o1 => o1 _ w1 H1 (Le.refl _) ((g.mono l).set i x) r1⟩
theorem s_setLc (i : Nat) {y : Str} {py spos : Pos} {m : Me} (p : Pat) (hm : ∀ (σ : L2.St) (H : Hp) (Q : VK), TM X W m σ H Q → TF X W (lComp p (own.map (·.2)) im mt me) σ H Q) (hN : X.N.Nodup) (hi : PI X tg iter (tI X W im)) (ok : BlkOk X.N X.env.scope scope own)
    (hg : ∀ (s : Shared) (H : Hp) (C : Addr) (cl : List (Str × Addr)) (fp : List Addr), PG (X.blk s H scope (compEnvC scope cl C X.env) fp) tg (gP X.K p)) (ht : ∀ (s : Shared) (H : Hp) (C : Addr) (cl : List (Str × Addr)) (fp : List Addr), PTs (X.blk s H scope (compEnvC scope cl C X.env) fp) ifs (TTT X W0 mt))
    (he : ∀ (s : Shared) (H : Hp) (C : Addr) (cl : List (Str × Addr)) (fp : List Addr), PE (X.blk s H scope (compEnvC scope cl C X.env) fp) elt (TM X W0 me)) (hsl : ∀ i ∈ p.slots, i ∈ own.map (·.2)) (hy : X.N[i]? = some y := by rfl) (hyl : X.env.scope.names.lookup y = some .local := by rfl)
    (hk : X.env.scope.kind = .function := by rfl) (hl : (py.line == pos.line) = true := by rfl) (ha : (scope.names.any fun (n, k) => n == y && (k == .local || k == .cell)) = false := by rfl) (hc : X.calm = true := by rfl) (hs : ∀ x, foldedSetIterable iter X.env x = pure x := by intro _; rfl) :
    PS X (.Assign [.Name y py] (.ListComp elt [⟨tg, iter, ifs, 0⟩] scope pos) spos) (TSS X W (sSet i m)) :=
  (ps_setLc hc hN hy hyl (sw_true hk hyl hl ha) hi ok hg ht he hs).wk fun D σ H t => lc_read p hsl (hm _ _ _ (set_read t))
end
end AB
/-! AB: defs, their calls; list methods; raise. -/
namespace AB
open PySem PySem.Spec PyProof.Rows L2

mutual
/-- no object from n on is named -/
def D.under (n : Nat) : D → Bool
  | .tup ds => underL n ds
  | .lst ds => underL n ds
  | .rol ds => underL n ds
  | .loc m => decide (m < n)
  | _ => true
def underL (n : Nat) : List D → Bool
  | [] => true
  | d :: ds => d.under n && underL n ds
end
def AO.under (n : Nat) : AO → Bool
  | .lst ds => underL n ds
  | .ins _ fs => underL n (fs.map (·.2))
  | .dct kvs => underL n (kvs.map (·.2))
  | .lck kvs => underL n (kvs.map (·.2))
  | .hld _ => true
section
variable {K : PySem.W.Frag} {S : Hp} {mu : Nat → Addr} {N n : Nat}
mutual
theorem RepV.lower : ∀ (d : D) (v : V), RepV K S mu N v d → d.under n = true → RepV K S mu n v d
  | .non, _, h, _ => by cases h; exact .non
  | .bl _, _, h, _ => by cases h; exact .bl _
  | .int _, _, h, _ => by cases h; exact .int _
  | .str _, _, h, _ => by cases h; exact .str _
  | .tup ds, _, h, b => by
    cases h with
    | tup x y => exact .tup x (RepAll.lower ds _ y (by unfold D.under at b; exact b))
  | .lst ds, _, h, b => by
    cases h with
    | lst x y => exact .lst x (RepAll.lower ds _ y (by unfold D.under at b; exact b))
  | .rol ds, _, h, b => by
    cases h with
    | rol x y => exact .rol x (RepAll.lower ds _ y (by unfold D.under at b; exact b))
  | .loc m, _, h, b => by
    cases h with
    | loc x => exact .loc (of_decide_eq_true (by unfold D.under at b; exact b))
  | .con _, _, h, _ => by cases h; exact .con
theorem RepAll.lower : ∀ (ds : List D) (vs : List V), RepAll K S mu N vs ds → underL n ds = true → RepAll K S mu n vs ds
  | [], _, h, _ => by cases h; exact .nil
  | d :: ds, _, h, b => by
    cases h with
    | cons x y =>
      unfold underL at b
      rw [Bool.and_eq_true] at b
      exact .cons (RepV.lower d _ x b.1) (RepAll.lower ds _ y b.2)
end
mutual
theorem RepV.is_under : ∀ (d : D) (v : V), RepV K S mu N v d → d.under N = true
  | .non, _, _ => by unfold D.under; rfl
  | .bl _, _, _ => by unfold D.under; rfl
  | .int _, _, _ => by unfold D.under; rfl
  | .str _, _, _ => by unfold D.under; rfl
  | .tup ds, _, h => by
    cases h with
    | tup x y => unfold D.under; exact RepAll.is_under ds _ y
  | .lst ds, _, h => by
    cases h with
    | lst x y => unfold D.under; exact RepAll.is_under ds _ y
  | .rol ds, _, h => by
    cases h with
    | rol x y => unfold D.under; exact RepAll.is_under ds _ y
  | .loc m, _, h => by
    cases h with
    | loc x => unfold D.under; exact decide_eq_true x
  | .con _, _, _ => by unfold D.under; rfl
theorem RepAll.is_under : ∀ (ds : List D) (vs : List V), RepAll K S mu N vs ds → underL N ds = true
  | [], _, _ => by unfold underL; rfl
  | d :: ds, _, h => by
    cases h with
    | cons x y =>
      unfold underL
      rw [RepV.is_under d _ x, RepAll.is_under ds _ y]
      rfl
end
end
/-- the objects ahead of n hold nothing from n on: they stand as they stood, or this is seen -/
def OkCells (n : Nat) (h0 h1 : AH) : Prop := ∀ m o, m < n → h1[m]? = some o → h0[m]? = some o ∨ o.under n = true
def Wd.cut (w : Wd) (n : Nat) : Wd := ⟨w.S, w.F, w.mu, n, w.LK⟩
theorem RepO.under {K : PySem.W.Frag} {w : Wd} {H : Hp} {a : Addr} {o : AO} (r : RepO K w H a o) : o.under w.N = true := by
  cases o with
  | lst ds =>
    obtain ⟨xs, _, ra⟩ := r
    exact RepAll.is_under ds _ ra
  | ins C fs =>
    obtain ⟨_, dx, fv, _, _, _, ra, _⟩ := r
    exact RepAll.is_under _ _ ra
  | dct kvs =>
    obtain ⟨_, _, _, ra⟩ := r
    exact RepAll.is_under _ _ ra
  | lck kvs =>
    obtain ⟨_, _, _, _, _, ra⟩ := r
    exact RepAll.is_under _ _ ra
  | hld ks => rfl
theorem RepO.lower {K : PySem.W.Frag} {w : Wd} {H : Hp} {a : Addr} {o : AO} {n : Nat} (r : RepO K w H a o) (b : o.under n = true) : RepO K (w.cut n) H a o := by
  cases o with
  | lst ds =>
    obtain ⟨xs, e, ra⟩ := r
    exact ⟨xs, e, RepAll.lower ds _ ra b⟩
  | ins C fs =>
    obtain ⟨Ca, dx, fv, ec, e1, e2, ra, e3⟩ := r
    exact ⟨Ca, dx, fv, ec, e1, e2, RepAll.lower _ _ ra b, e3⟩
  | dct kvs =>
    obtain ⟨kv, e1, e2, ra⟩ := r
    exact ⟨kv, e1, e2, RepAll.lower _ _ ra b⟩
  | lck kvs =>
    obtain ⟨o, kv, e1, e0, e2, ra⟩ := r
    exact ⟨o, kv, e1, e0, e2, RepAll.lower _ _ ra b⟩
  | hld ks => exact r
/-- a def's own objects are forgotten -/
theorem RepH.cut {K : PySem.W.Frag} {w w1 : Wd} {H H1 : Hp} {h0 h1 : AH} (r0 : RepH K w H h0) (l : Le w w1) (r1 : RepH K w1 H1 h1) (ok : OkCells w.N h0 h1) : RepH K (w1.cut w.N) H1 (h1.take w.N) ∧ Le w (w1.cut w.N) := by
  have hl : w.N ≤ h1.length := by rw [← r1.len]; exact l.n
  refine ⟨⟨r1.ex, ?_, fun m n hm hn e => r1.inj m n (Nat.lt_of_lt_of_le hm l.n) (Nat.lt_of_lt_of_le hn l.n) e, fun m o e => ?_, r1.exF, fun a u e => ⟨(r1.dis a u e).1, fun n hn => (r1.dis a u e).2 n (Nat.lt_of_lt_of_le hn l.n)⟩⟩, l.ex, Nat.le_refl _, l.mu, l.f, l.lk⟩
  · show w.N = _
    rw [List.length_take]
    omega
  · have hm : m < w.N := by
      have := (List.getElem?_eq_some_iff.mp e).1
      rw [List.length_take] at this
      omega
    rw [List.getElem?_take, if_pos hm] at e
    obtain ⟨a, b⟩ := r1.cell m o e
    refine ⟨a, b.lower ?_⟩
    rcases ok m o hm e with q | q
    · obtain ⟨_, c⟩ := r0.cell m o q
      exact c.under
    · exact q
abbrev Fn := List D → AH → Res D
abbrev FnL := List D → AH → Res (List D)
open Classical in
noncomputable def finD (n : Nat) (h0 : AH) (d : D) (h1 : AH) : Res D :=
  if h1.length = n then .ok d h1 else if d.under n = true ∧ OkCells n h0 h1 then .ok d (h1.take n) else .stuck
open Classical in
noncomputable def finX {α : Type} (n : Nat) (h0 : AH) (c : Str) (fs : List (Str × D)) (h1 : AH) : Res α :=
  if h1.length = n then .exc c fs h1 else if underL n (fs.map (·.2)) = true ∧ OkCells n h0 h1 then .exc c fs (h1.take n) else .stuck
open Classical in
noncomputable def finL (n : Nat) (h0 : AH) (d : D) (h1 : AH) : Res (List D) := match d with
  | .loc k => match h1[k]? with
    | some (.lst ds) => if n ≤ k ∧ underL n ds = true ∧ OkCells n h0 h1 then .ok ds (h1.take n) else .stuck
    | _ => .stuck
  | _ => .stuck
/-- a def of n parameters and N slots -/
noncomputable def mDef (n N : Nat) (body : Ms) : Fn := fun ds h => if ds.length = n then
    match body (ds.map some ++ List.replicate (N - n) none) h with
    | .next _ h1 => finD h.length h .non h1
    | .ret d h1 => finD h.length h d h1
    | .exc c fs _ h1 => finX h.length h c fs h1
    | _ => .stuck
  else .stuck
/-- .. that hands back a new list -/
noncomputable def mDefL (n N : Nat) (body : Ms) : FnL := fun ds h => if ds.length = n then
    match body (ds.map some ++ List.replicate (N - n) none) h with
    | .ret d h1 => finL h.length h d h1
    | .exc c fs _ h1 => finX h.length h c fs h1
    | _ => .stuck
  else .stuck
def spM (K : PySem.W.Frag) (mg : Str → Option Value) (m : Fn) : Sp := fun vs H Q E => ∃ w ds h, Ra K w vs ds ∧ RepH K w H h ∧ OutE K mg (fun c dd _ H => E c dd H) w [] Q (m ds h)
def spL (K : PySem.W.Frag) (mg : Str → Option Value) (m : FnL) : Sp := fun vs H Q E => ∃ w ds h, Ra K w vs ds ∧ RepH K w H h ∧ OutF K mg (fun c dd _ H => E c dd H) w [] Q (m ds h)
theorem start_rep {K : PySem.W.Frag} {w : Wd} {N : List Str} {vs : List V} {ds : List D} (ra : Ra K w vs ds) : RepG K w (L2.start N vs) (ds.map some ++ List.replicate (N.length - ds.length) none) := by
  have hl := ra.length
  refine ⟨by simp [L2.start, hl], fun i d e => ?_⟩
  by_cases hi : i < ds.length
  · rw [List.getElem?_append_left (by simpa using hi), List.getElem?_map] at e
    have e2 : ds[i]? = some d := by
      cases q : ds[i]? with
      | none => rw [q] at e; cases e
      | some x =>
        rw [q] at e
        cases e
        rfl
    obtain ⟨v, h1, h2⟩ := ra.get e2
    refine ⟨v, ?_, h2⟩
    unfold L2.start
    rw [List.getElem?_append_left (by simp; omega), List.getElem?_map, h1]
    rfl
  · rw [List.getElem?_append_right (by simp; omega)] at e
    have := List.mem_of_getElem? e
    simp at this
section
variable {P : Program} {w : World} {K : PySem.W.Frag} {mg : Str → Option Value} {base : Heap}
theorem finX_out {α : Type} {W : WX} {w w1 : Wd} {σ σ1 : L2.St} {H : Hp} {G1 : Env} {h0 h1 : AH} {c : Str} {fs : List (Str × D)} (r0 : RepH K w H h0) (o : OutX K mg W w σ c fs h1) : True := trivial
/-- the end of a def that raises -/
theorem out_finX {E : XK} {w : Wd} {H : Hp} {h0 h1 : AH} {G1 : Env} {c : Str} {fs : List (Str × D)} {D : Ends} (r0 : RepH K w H h0)
    (o : (h1.length = w.N → OutX K mg (fun c dd _ H => E c dd H) w [] c fs h1) ∧ (h1.length ≠ w.N → underL w.N (fs.map (·.2)) = true ∧ OkCells w.N h0 h1 ∧ OutX K mg (fun c dd _ H => E c dd H) w [] c fs (h1.take w.N))) :
    OutS K mg (fun c dd _ H => E c dd H) D w (.exc c fs G1 h1) := by
  intro cls dd σ1 w1 H1 e l g r x
  by_cases q : h1.length = w.N
  · exact o.1 q cls dd w1 H1 e l r x
  · obtain ⟨hb, hc, ox⟩ := o.2 q
    obtain ⟨r2, l2⟩ := RepH.cut r0 l r hc
    refine ox cls dd (w1.cut w.N) H1 e l2 r2 ?_
    cases fs with
    | nil => exact x
    | cons f fs =>
      obtain ⟨p, fv, e1, e2, e3, ra⟩ := x
      exact ⟨p, fv, e1, e2, e3, RepAll.lower _ _ ra hb⟩
theorem sp_len {m : Ms} {n N : Nat} {vs : List V} {H : Hp} {Q : VK} {E : XK} (h : spM K mg (mDef n N m) vs H Q E) : vs.length = n := by
  obtain ⟨w, ds, h, ra, r, o⟩ := h
  unfold mDef at o
  split at o
  · rename_i e
    rw [ra.length]
    exact e
  · exact o.elim
theorem sp_start {m : Ms} {n : Nat} {N : List Str} {vs : List V} {H : Hp} {Q : VK} {E : XK} (h : spM K mg (mDef n N.length m) vs H Q E) : tS K mg (fun c dd _ H => E c dd H) m { nx := fun _ H' => Q .non H', rt := Q } (L2.start N vs) H := by
  obtain ⟨w, ds, h, ra, r, o⟩ := h
  unfold mDef at o
  split at o
  · rename_i e
    refine ⟨w, _, h, start_rep ra, r, ?_⟩
    rw [e]
    have fin : ∀ (d : D) (h1 : AH), OutE K mg (fun c dd _ H => E c dd H) w [] Q (finD h.length h d h1) → ∀ v w1 H1, Le w w1 → RepH K w1 H1 h1 → Rv K w1 v d → Q v H1 := by
      intro d h1 o v w1 H1 l r1 rv
      unfold finD at o
      split at o
      · exact o v w1 H1 l r1 rv
      · split at o
        · rename_i c
          rw [← r.len] at o c
          obtain ⟨r2, l2⟩ := RepH.cut r l r1 c.2
          exact o v (w1.cut w.N) H1 l2 r2 (RepV.lower d v rv c.1)
        · exact o.elim
    cases em : m (ds.map some ++ List.replicate (N.length - n) none) h with
    | next G1 h1 =>
      rw [em] at o
      exact fun σ' w1 H1 l g r1 => fin .non h1 o .non w1 H1 l r1 .non
    | ret d h1 =>
      rw [em] at o
      exact fun v w1 H1 l r1 rv => fin d h1 o v w1 H1 l r1 rv
    | brk G1 h1 => rw [em] at o; exact o.elim
    | cont G1 h1 => rw [em] at o; exact o.elim
    | stuck => rw [em] at o; exact o.elim
    | exc c fs G1 h1 =>
      rw [em] at o
      refine out_finX r ?_
      have o : OutE K mg (fun c dd _ H => E c dd H) w [] Q (finX h.length h c fs h1) := o
      unfold finX at o
      rw [← r.len] at o
      split at o
      · rename_i q
        exact ⟨fun _ => o, fun z => absurd q z⟩
      · rename_i q
        split at o
        · rename_i cc
          exact ⟨fun z => absurd z q, fun _ => ⟨cc.1, cc.2, o⟩⟩
        · exact o.elim
  · exact o.elim
theorem fn_ok {x qual : Str} {st : Stmt} {f : Addr} {fd : FuncData} {N ps : List Str} {k : Nat} (F : Fun K x qual st f fd) (S : FnScope N ps (defScope st)) (m : Ms)
    (hb : ∀ (cdv : Value) (A : Around) (outer : List PySem.Env) (s : Shared) (H : Hp) (E : XK), Room k (A.deeper (envOfC qual (defScope st) s.heap.objs.size f cdv)) →
      PSs (cxOf (L2.CX P w) P w K mg base N qual (defScope st) f cdv A outer s H E) (defBody st) (tS K mg (fun c dd _ H => E c dd H) m)) :
    FnOk P w K mg base (L2.CX P w) (k + 1) f fd ps (spM K mg (mDef ps.length N.length m)) :=
  F.okX S (fun vs H Q E h => sp_len h) fun cdv A outer s H vs Q E hr h => ⟨_, hb cdv A outer s H E hr, sp_start h⟩
open Classical in
theorem fn_okL {x qual : Str} {st : Stmt} {f : Addr} {fd : FuncData} {N ps : List Str} {k : Nat} (F : Fun K x qual st f fd) (S : FnScope N ps (defScope st)) (m : Ms)
    (hb : ∀ (cdv : Value) (A : Around) (outer : List PySem.Env) (s : Shared) (H : Hp) (E : XK), Room k (A.deeper (envOfC qual (defScope st) s.heap.objs.size f cdv)) →
      PSs (cxOf (L2.CX P w) P w K mg base N qual (defScope st) f cdv A outer s H E) (defBody st) (tS K mg (fun c dd _ H => E c dd H) m)) :
    FnOk P w K mg base (L2.CX P w) (k + 1) f fd ps (spL K mg (mDefL ps.length N.length m)) := by
  refine F.okX S (fun vs H Q E h => ?_) fun cdv A outer s H vs Q E hr h => ⟨_, hb cdv A outer s H E hr, ?_⟩
  · obtain ⟨w, ds, h, ra, r, o⟩ := h
    unfold mDefL at o
    split at o
    · rename_i e
      rw [ra.length]
      exact e
    · exact o.elim
  · obtain ⟨w, ds, h, ra, r, o⟩ := h
    unfold mDefL at o
    split at o
    · rename_i e
      refine ⟨w, _, h, start_rep ra, r, ?_⟩
      rw [e]
      cases em : m (ds.map some ++ List.replicate (N.length - ps.length) none) h with
      | next G1 h1 => rw [em] at o; exact o.elim
      | ret d h1 =>
        rw [em] at o
        intro v w1 H1 l r1 rv
        have o : OutF K mg (fun c dd _ H => E c dd H) w [] Q (finL h.length h d h1) := o
        cases rv with
        | @loc k _ =>
          have o : OutF K mg (fun c dd _ H => E c dd H) w [] Q (match h1[k]? with
            | some (.lst ds) => if h.length ≤ k ∧ underL h.length ds = true ∧ OkCells h.length h h1 then .ok ds (h1.take h.length) else .stuck
            | _ => .stuck) := o
          split at o
          · rename_i es eh
            split at o
            · rename_i c
              rw [← r.len] at o c
              obtain ⟨r2, l2⟩ := RepH.cut r l r1 c.2.2
              obtain ⟨a, xs, e1, ra1⟩ := r1.cell k _ eh
              have hk : k < w1.N := by
                rw [r1.len]
                exact (List.getElem?_eq_some_iff.mp eh).1
              refine o (w1.mu k) xs (w1.cut w.N) H1 l2 r2 ⟨a, fun n hn z => ?_, ?_⟩ e1 (RepAll.lower es xs ra1 c.2.1)
              · have hn : n < w.N := hn
                have := r1.inj n k (Nat.lt_of_lt_of_le hn l.n) hk z
                omega
              · cases q : w1.F (w1.mu k) with
                | none => exact q
                | some u => exact absurd rfl ((r1.dis _ u q).2 k hk)
            · exact o.elim
          · exact o.elim
        | _ => exact o.elim
      | brk G1 h1 => rw [em] at o; exact o.elim
      | cont G1 h1 => rw [em] at o; exact o.elim
      | stuck => rw [em] at o; exact o.elim
      | exc c fs G1 h1 =>
        rw [em] at o
        refine out_finX r ?_
        have o : OutF K mg (fun c dd _ H => E c dd H) w [] Q (finX h.length h c fs h1) := o
        unfold finX at o
        rw [← r.len] at o
        split at o
        · rename_i q
          exact ⟨fun _ => o, fun z => absurd q z⟩
        · rename_i q
          split at o
          · rename_i cc
            exact ⟨fun z => absurd z q, fun _ => ⟨cc.1, cc.2, o⟩⟩
          · exact o.elim
    · exact o.elim
end

/-! ### calls -/
section
variable {X : Cx} {W : WX} {pos p : Pos} {e : Expr} {es : List Expr} {as : MeL} {x : Str} {k k' : Nat} {f : Addr} {fd : FuncData} {ps : List Str} {m : Fn} {ml : FnL} {ma mb : Me}
theorem e_call (F : FnOk X.prog X.w X.K X.mg X.base (L2.CX X.prog X.w) k f fd ps (spM X.K X.mg m)) (hr : Room k' X.A) (hk' : k ≤ k') (tk : Takes X W) (hm : X.mg x = some (.ref f)) (hk : PySem.W.keepIn X.K (.ref f) = true) (hb : Binds X.K fd ps [])
    (ha : PA X (e :: es) (TAr X W as)) (hg : Gl X x := by rfl) (hdb : (x == ("__debug__" : Str)) = false := by decide) (he : starEach (e :: es) X.env = (false, eval e X.env) :: starEach es X.env := by rfl) (hpl : (backTo pos (starEach es X.env)).any (·.1) = false := by rfl) :
    PE X (.Call (.Name x p) (e :: es) [] pos) (TM X W (mN m as)) := by
  refine (pe_callS F (hr.mono hk') hg hm hk hb (fun σ => passAt tk σ) ha hdb he hpl).wk fun σ H Q ⟨w, G, h, g, r, o⟩ => ⟨w, G, h, g, r, o.bindA fun ds h1 vs w1 H1 l r1 x o1 => ⟨w1, ds, h1, x, r1, ?_⟩⟩
  cases em : m ds h1 with
  | ok d h2 => rw [em] at o1; exact o1
  | exc c fs h2 => rw [em] at o1; exact o1
  | stuck => rw [em] at o1; exact o1
theorem f_call (F : FnOk X.prog X.w X.K X.mg X.base (L2.CX X.prog X.w) k f fd ps (spL X.K X.mg ml)) (hr : Room k' X.A) (hk' : k ≤ k') (tk : Takes X W) (hm : X.mg x = some (.ref f)) (hk : PySem.W.keepIn X.K (.ref f) = true) (hb : Binds X.K fd ps [])
    (ha : PA X (e :: es) (TAr X W as)) (hg : Gl X x := by rfl) (hdb : (x == ("__debug__" : Str)) = false := by decide) (he : starEach (e :: es) X.env = (false, eval e X.env) :: starEach es X.env := by rfl) (hpl : (backTo pos (starEach es X.env)).any (·.1) = false := by rfl) :
    PE X (.Call (.Name x p) (e :: es) [] pos) (TF X W (lN ml as)) := by
  refine (pe_callS F (hr.mono hk') hg hm hk hb (fun σ => passAt tk σ) ha hdb he hpl).wk fun σ H Q ⟨w, G, h, g, r, o⟩ => ⟨w, G, h, g, r, OutF.bindA (m := as) o fun ds h1 vs w1 H1 l r1 x o1 => ⟨w1, ds, h1, x, r1, ?_⟩⟩
  cases em : ml ds h1 with
  | ok d h2 => rw [em] at o1; exact o1
  | exc c fs h2 => rw [em] at o1; exact o1
  | stuck => rw [em] at o1; exact o1

/-! ### the machine's lists, changed -/
/-- o.m(e, ..) of a list -/
def mBM (f : D → List D → AH → Res D) (o : Me) (as : MeL) : Me := fun G h => (o G h).bind fun d h1 => match vL h1 d with
  | some _ => (as G h1).bind fun xs h2 => f d xs h2
  | none => .stuck
def FolM (X : Cx) (W : WX) (f : D → List D → AH → Res D) (r : V → List V → Hp → VK → Prop) : Prop := ∀ (w : Wd) (h : AH) (H : Hp) (σ : L2.St) (Q : VK) (v : V) (d : D) (vs : List V) (ds : List D),
  RepH X.K w H h → Rv X.K w v d → Ra X.K w vs ds → OutE X.K X.mg W w σ Q (f d ds h) → r v vs H Q
variable {o : Expr} {name : Str} {apos cpos : Pos} {bid : String} {r : V → List V → Hp → VK → Prop} {fm : D → List D → AH → Res D}
theorem tyV_L {w : Wd} {H : Hp} {h : AH} {v : V} {d : D} {ds : List D} (rh : RepH X.K w H h) (rv : Rv X.K w v d) (e : vL h d = some ds) : tyV X.K "list" v H := by
  obtain ⟨a, xs, rfl, sq, _⟩ := vL_rep rh rv e
  exact .inl ⟨rfl, xs, sq⟩
theorem e_bm (slot : Slot "list" name bid) (hty : typeOf (.builtin bid) = pure (.type "method_descriptor")) (hm : MtR X bid r) (hf : FolM X W fm r) (ho : PE X o (TM X W ma)) (ha : PA X (e :: es) (TAr X W as))
    (hbase : attributeBase o name X.env (eval o X.env) = eval o X.env := by rfl)
    (hfew : ((backTo cpos (starEach (e :: es) X.env)).all (fun x => !x.1) && (backToKw cpos (keywordEach [] X.env)).all (fun x => x.1.isSome)
      && decide ((e :: es).length + ([] : List Keyword).length + (if ([] : List Keyword).isEmpty then 0 else 1) < 30)) = true := by rfl)
    (hline : (apos.endLine == cpos.line) = true := by rfl) (hs : starEach (e :: es) X.env = (false, eval e X.env) :: starEach es X.env := by rfl) (hplain : (backTo cpos (starEach es X.env)).any (·.1) = false := by rfl) :
    PE X (.Call (.Attribute o name apos) (e :: es) [] cpos) (TM X W (mBM fm ma as)) := by
  refine (pe_bm PySem.F.plainAttrs_list slot hty hm ho ha hbase hfew hline hs hplain).wk fun σ H Q ⟨w, G, h, g, r, o⟩ => ⟨w, G, h, g, r, o.bindE fun d h1 v w1 H1 l r1 x o1 => ?_⟩
  split at o1
  · rename_i ds0 e0
    exact ⟨tyV_L r1 x e0, w1, G, h1, g.mono l, r1, OutE.bindA (m := as) o1 fun ds h2 vs w2 H2 l2 r2 xs o2 => hf w2 h2 H2 σ Q v d vs ds r2 (Rv_mono l2 x) xs o2⟩
  · exact o1.elim
def fApp (d : D) (xs : List D) (h : AH) : Res D := match d, xs with
  | .loc n, [y] => match h[n]? with
    | some (.lst ds) => if ds.length < big then .ok .non (h.set n (.lst (ds ++ [y]))) else .stuck
    | _ => .stuck
  | _, _ => .stuck
def fExt (d : D) (xs : List D) (h : AH) : Res D := match d, xs with
  | .loc n, [y] => match h[n]? with
    | some (.lst ds) => match vR h y with
      | some es => if ds.length + es.length ≤ big then .ok .non (h.set n (.lst (ds ++ es))) else .stuck
      | none => .stuck
    | _ => .stuck
  | _, _ => .stuck
/-- the object at n has a new content -/
theorem out_set {w : Wd} {σ : L2.St} {H : Hp} {Q : VK} {d : D} {h : AH} {v : V} {n : Nat} {xs : List V} {ds : List D} (hn : n < w.N) (o : OutE X.K X.mg W w σ Q (.ok d (h.set n (.lst ds)))) (r : RepH X.K w H h) (rv : Rv X.K w v d) (ra : Ra X.K w xs ds) : Q v (upd H (w.mu n) (.lst xs)) :=
  o v w _ (Le.refl _) (r.set hn ⟨xs, upd_same, ra⟩) rv
theorem fol_app : FolM X W fApp rAppend := by
  intro w h H σ Q v d vs ds rh rv ra o
  unfold fApp at o
  split at o
  · rename_i n y
    split at o
    · rename_i es e
      split at o
      · rename_i c
        cases rv with
        | loc hn =>
          obtain ⟨u, rfl, ru⟩ := ra_one ra
          obtain ⟨_, xs, e1, rx⟩ := rh.cell n _ e
          exact ⟨w.mu n, xs, u, rfl, rfl, e1, big_lt (by rw [rx.length]; exact c), out_set hn o rh .non (rx.append (.cons ru .nil))⟩
      · exact o.elim
    · exact o.elim
  · exact o.elim
def rExt3 : V → List V → Hp → VK → Prop := fun x vs H Q => ∃ l b xs zs, x = .ref l ∧ vs = [.ref b] ∧ H l = some (.lst xs) ∧ Rd H b (.lst zs) ∧ xs.length + zs.length ≤ sizeLine ∧ Q .non (upd H l (.lst (xs ++ zs)))
theorem e_app (ho : PE X o (TM X W ma)) (ha : PA X [e] (TAr X W as))
    (hbase : attributeBase o "append" X.env (eval o X.env) = eval o X.env := by rfl)
    (hfew : ((backTo cpos (starEach [e] X.env)).all (fun x => !x.1) && (backToKw cpos (keywordEach [] X.env)).all (fun x => x.1.isSome)
      && decide (([e] : List Expr).length + ([] : List Keyword).length + (if ([] : List Keyword).isEmpty then 0 else 1) < 30)) = true := by rfl)
    (hline : (apos.endLine == cpos.line) = true := by rfl) (hs : starEach [e] X.env = (false, eval e X.env) :: starEach [] X.env := by rfl) (hplain : (backTo cpos (starEach [] X.env)).any (·.1) = false := by rfl) :
    PE X (.Call (.Attribute o "append" apos) [e] [] cpos) (TM X W (mBM fApp ma as)) :=
  e_bm PySem.F.slot_list_append PySem.F.type_list_append mt_append fol_app ho ha hbase hfew hline hs hplain
/-! o[i] = v of a list -/
def sSub (o i v : Me) : Ms := fun G h => (v G h).toS G fun x h1 => (o G h1).toS G fun d h2 => (i G h2).toS G fun j h3 => match d, j with
  | .loc n, .int k => match h3[n]? with
    | some (.lst ds) => match ixN ds.length k with
      | some m => .next G (h3.set n (.lst (ds.set m x)))
      | none => .stuck
    | _ => .stuck
  | _, _ => .stuck
theorem s_sub {i : Expr} {mv mo mi : Me} {tpos : Pos} {ev : Expr} (hv : PE X ev (TM X W mv)) (ho : PE X o (TM X W mo)) (hi : PE X i (TM X W mi))
    (hs : swapsWithSole [.Subscript o i tpos] ev pos.line X.env = pure false := by rfl) (hw : swappedStores [.Subscript o i tpos] ev X.env = pure none := by rfl)
    (h1 : (assignEach [.Subscript o i tpos] X.env).map (·.2) = [assign (.Subscript o i tpos) X.env] := by rfl)
    (ha : ∀ v, assign (.Subscript o i tpos) X.env v = (do
      let ov ← holding [v] (eval o X.env)
      let iv ← holding [v, ov] (eval i X.env)
      standAt tpos
      holding [v, ov, iv] (setItem ov iv v)
      release [v, ov, iv] []) := by intro _; rfl) : PS X (.Assign [.Subscript o i tpos] ev pos) (TSS X W (sSub mo mi mv)) := by
  refine (ps_asg hv (pg_sub ho hi set_list ha) hs hw h1).wk fun D σ H ⟨w, G, h, g, r, o⟩ => ⟨w, G, h, g, r, OutS.bindE (m := mv) g o fun x h1 v w1 H1 l1 r1 rx o1 => ?_⟩
  have g1 := g.mono l1
  refine ⟨w1, G, h1, g1, r1, OutS.bindE (m := mo) g1 o1 fun d h2 v2 w2 H2 l2 r2 rd o2 => ?_⟩
  have g2 := g1.mono l2
  refine ⟨w2, G, h2, g2, r2, OutS.bindE (m := mi) g2 o2 fun j h3 v3 w3 H3 l3 r3 rj o3 => ?_⟩
  split at o3
  · rename_i n k
    split at o3
    · rename_i ds e
      split at o3
      · rename_i m em
        cases rj
        cases rd with
        | loc hn =>
          obtain ⟨_, xs, e1, rxs⟩ := r3.cell n _ e
          have hn3 : n < w3.N := Nat.lt_of_lt_of_le hn l3.n
          have emu : w3.mu n = w2.mu n := l3.mu n hn
          rw [← emu]
          refine ⟨w3.mu n, xs, k, m, rfl, rfl, e1, by rw [rxs.length]; exact em, ?_⟩
          exact o3 σ w3 _ (Le.refl _) (g2.mono l3) (r3.set hn3 ⟨xs.set m v, upd_same, RepAll.set (Rv_mono (l2.trans l3) rx) m rxs⟩)
      · exact o3.elim
    · exact o3.elim
  · exact o3.elim
/-! raise C() of an own class -/
def sRaise (c : Str) : Ms := fun G h => .exc c [] G h
end
end AB
/-! AB: order over data, sorted. -/
namespace AB
open PySem PySem.Spec PyProof.Rows L2

/-! ### sorted of tuples, empty ones among them -/
section
variable {prog : Program} {w : World} {A : Around} {E : Value → Shared → Prop} {s : Shared}
/-- the first item of a tuple, or none -/
theorem first_of {v : Value} {xs : List PyData} {as : List Addr} (r : Reads s.heap v (.tuple xs) as) : ∃ f : Option Value, (f = none ↔ xs = []) ∧ ∀ (M : Model) (E : Value → Shared → Prop) (Q : Option Value → Shared → Prop), Q f s → wpAny M A (firstOfTuple' v) Q E s := by
  cases r with
  | @tuple a o its n _ _ ho hc hd hr =>
    refine ⟨its[0]?, ?_, fun M E Q hq => ?_⟩
    · have hl := SeqAt.ReadsAll.length _ _ _ hr
      rw [Array.getElem?_eq_none_iff]
      constructor
      · intro h
        have : its.size = 0 := by omega
        have e : xs.length = 0 := by rw [← hl]; simpa using this
        exact List.eq_nil_of_length_eq_zero e
      · intro h
        subst h
        have : its.toList.length = 0 := by simpa using hl
        simp at this
        simp [this]
    · rw [PySem.W.kas_first_eq]
      refine wpAny_bind (PySem.W.Looks.here (show PySem.W.Looks M s.heap (typeOf (.ref a)) o.cls from (PySem.W.Looks.ld ho).andThen .now) ?_)
      rw [hc, if_neg (by first | decide | simp)]
      exact wpAny_bind (listItems_at ho hd (wpAny_pure hq))
theorem firsts_of : ∀ {vs : List Value} {ds : List PyData}, PySem.W.EachIs (fun v d => ∃ as, Reads s.heap v d as) vs ds → (∀ d ∈ ds, ∃ xs, d = .tuple xs) →
    ∃ fs : List (Option Value), ((∃ f ∈ fs, f = none) ↔ ∃ d ∈ ds, d = .tuple []) ∧ ∀ (M : Model) (E : Value → Shared → Prop) (Q : List (Option Value) → Shared → Prop), Q fs s → wpAny M A (vs.mapM firstOfTuple') Q E s
  | _, _, .nil, _ => ⟨[], by simp, fun M E Q hq => by rw [List.mapM_nil]; exact wpAny_pure hq⟩
  | _, _, .cons (a := v) (as := vs) (b := d) (bs := ds) ⟨as, r⟩ t, ht => by
    obtain ⟨fs, h1, h2⟩ := firsts_of t fun d hd => ht d (List.mem_cons_of_mem _ hd)
    obtain ⟨xs, rfl⟩ := ht d List.mem_cons_self
    obtain ⟨f, g1, g2⟩ := first_of (A := A) r
    refine ⟨f :: fs, ?_, fun M E Q hq => ?_⟩
    · constructor
      · rintro ⟨x, hx, e⟩
        rcases List.mem_cons.mp hx with rfl | hx
        · exact ⟨_, List.mem_cons_self, by rw [g1.mp e]⟩
        · obtain ⟨d, hd, e⟩ := h1.mp ⟨x, hx, e⟩
          exact ⟨d, List.mem_cons_of_mem _ hd, e⟩
      · rintro ⟨d, hd, e⟩
        rcases List.mem_cons.mp hd with rfl | hd
        · injection e with e
          exact ⟨f, List.mem_cons_self, g1.mpr e⟩
        · obtain ⟨x, hx, e⟩ := h1.mpr ⟨d, hd, e⟩
          exact ⟨x, List.mem_cons_of_mem _ hx, e⟩
    · rw [List.mapM_cons]
      exact wpAny_bind (g2 M E _ (wpAny_bind (h2 M E (fun bs s' => wpAny M A (pure (f :: bs)) Q E s') (wpAny_pure hq))))
theorem kind_empt {vs : List Value} {ds : List PyData} (e : PySem.W.EachIs (fun v d => ∃ as, Reads s.heap v d as) vs ds) (ht : ∀ d ∈ ds, ∃ xs, d = .tuple xs) (hn : ∃ d ∈ ds, d = .tuple []) :
    ∃ kd : SortKind, (kd = general' ∨ kd = oneType') ∧ ∀ (M : Model) (E : Value → Shared → Prop) {Q : SortKind → Shared → Prop}, Q kd s → wpAny M A (keyKind' vs.toArray) Q E s := by
  obtain ⟨fs, h1, h2⟩ := firsts_of (A := A) e ht
  have hall : (fs.toArray.all fun x => x.isSome) = false := by
    obtain ⟨f, hf, rfl⟩ := h1.mpr hn
    rw [List.all_toArray, List.all_eq_false]
    exact ⟨none, hf, by simp⟩
  by_cases h0 : ((fs.toArray[0]?.bind id).isSome) = true
  · refine ⟨general', .inl rfl, fun M E Q hq => ?_⟩
    rw [PyProof.Rows.kat_kind_eq, List.mapM_toArray, map_eq_pure_bind]
    refine wpAny_bind (wpAny_bind (h2 M E _ (wpAny_pure ?_)))
    rw [if_neg (by rw [hall]; decide), if_pos h0]
    exact wpAny_pure hq
  · have hv : vs ≠ [] := by
      intro z
      subst z
      cases e
      obtain ⟨d, hd, _⟩ := hn
      cases hd
    refine ⟨oneType', .inr rfl, fun M E Q hq => ?_⟩
    rw [PyProof.Rows.kat_kind_eq, List.mapM_toArray, map_eq_pure_bind]
    refine wpAny_bind (wpAny_bind (h2 M E _ (wpAny_pure ?_)))
    rw [if_neg (by rw [hall]; decide), if_neg h0]
    rw [oneTypeOnly'_eq, List.mapM_toArray, map_eq_pure_bind]
    refine wpAny_bind (wpAny_bind (wpAny_bind (PySem.W.kas_mapM (r := Value.type "tuple") _ (fun v hv Q' hq => ?_) (wpAny_pure ?_))))
    · obtain ⟨d, hd, as, r⟩ := e.left v hv
      obtain ⟨xs, rfl⟩ := ht d hd
      exact (PySem.W.looks_reads (M := M) r).here hq
    · cases vs with
      | nil => exact absurd rfl hv
      | cons v vs =>
        have hall2 : ((List.map (fun _ => Value.type "tuple") (v :: vs)).toArray.all fun x => x == Value.type "tuple") = true := by
          simp only [List.all_toArray, List.all_map, List.all_eq_true]
          intro _ _
          exact beq_self_eq_true _
        have h00 : (List.map (fun _ => Value.type "tuple") (v :: vs)).toArray[0]? = some (Value.type "tuple") := by simp
        rw [h00]
        simp only [hall2, if_true]
        exact wpAny_pure (wpAny_pure hq)
theorem call_tuple_lt {Q : Value → Shared → Prop} {l b : Addr} {items items2 : Array Value} {e r : Nat → Bool} (hl : s.heap.IsTuple l items) (hb : s.heap.IsTuple b items2)
    (he : ∀ j (h1 : j < items.size) (h2 : j < items2.size), SeqAt.EqAt A.in1 s items[j] items2[j] (e j)) (hr : ∀ j (h1 : j < items.size) (h2 : j < items2.size), e j = false → SeqAt.RcLt A.in1 s items[j] items2[j] (r j))
    (h : Q (.bool (SeqAt.firstLt e r (decide (items.size < items2.size)) (List.range (min items.size items2.size)))) s) : wpAny (model prog w) A (call (.builtin "tuple.__lt__") [.ref l, .ref b]) Q E s := by
  obtain ⟨⟨cls, dd, data, sl⟩, ho, hc, n, hd⟩ := id hl
  obtain ⟨⟨cls2, dd2, data2, sl2⟩, ho2, hc2, n2, hd2⟩ := id hb
  simp only at hc hd hc2 hd2
  subst hc hd hc2 hd2
  exact call_meets PySem.F.slot_tuple_lt ⟨_, ho, rfl⟩ PySem.F.entry_tuple_lt (PySem.F.args_tuple_lt_2 _ _) (SeqAt.tuple_ltAt l b items items2 n n2 dd dd2 sl sl2 e r) ⟨ho, ho2, he, hr, h⟩
theorem oneLt_tup {f : Bool} {xs ys : List PyData} {a b : Value} {as bs : List Addr} {Q : Bool → Shared → Prop} (ra : Reads s.heap a (.tuple xs) as) (rb : Reads s.heap b (.tuple ys) bs) (h : PySem.W.alike (.tuple xs) (.tuple ys) = true)
    (hu : A.units + min (PyData.tuple xs).depth (PyData.tuple ys).depth < cLine) (hq : Q (PySem.W.dataLt (.tuple xs) (.tuple ys)) s) : wpAny (model prog w) A (oneLt' f a b) Q E s := by
  cases f with
  | false => exact PySem.W.oneLt_alike (fun z => nomatch z) ra rb h (fun z => nomatch z) hu hq
  | true =>
    have hal : PySem.W.alikeAll xs ys = true := by simpa [PySem.W.alike] using h
    cases ra with
    | @tuple l o vs n _ as₁ h1 h2 h3 h4 =>
      cases rb with
      | @tuple l' o' vs' n' _ bs₁ k1 k2 k3 k4 =>
        have n1 : vs.size = xs.length := by simpa using SeqAt.ReadsAll.length _ _ _ h4
        have n2 : vs'.size = ys.length := by simpa using SeqAt.ReadsAll.length _ _ _ k4
        rw [PySem.W.dataLt_tuple, ← PySem.W.firstLt_toks xs ys hal, ← n1, ← n2] at hq
        rw [oneLt'_eq]
        simp only [if_true]
        refine wpAny_bind (wpAny_cRoomFor (by have := hu; omega) ?_)
        refine wpAny_bind (wpAny_callSpecialIfBound?_slot (T := "tuple") ⟨_, h1, h2⟩ PySem.F.slot_tuple_lt (call_tuple_lt (e := SeqAt.pairEq xs ys) (r := fun j => PySem.W.dataLt (xs.getD j .none) (ys.getD j .none)) ⟨_, h1, h2, _, h3⟩ ⟨_, k1, k2, _, k3⟩ (fun j j1 j2 => ?_) (fun j j1 j2 hj => ?_) ?_))
        · have := PySem.W.eqAt_alikeAll xs ys A.in1 s vs.toList vs'.toList _ _ h4 k4 hal (SeqAt.room_in hu) j (by simpa using j1) (by simpa using j2)
          simpa using this
        · have := PySem.W.rcLt_alikeAll xs ys A.in1 s vs.toList vs'.toList _ _ h4 k4 hal (SeqAt.room_in hu) j (by simpa using j1) (by simpa using j2) hj
          simpa using this
        · exact wpAny_truthy_bool hq
theorem keyLt'_general (x y : Value) : keyLt' general' x y = oneLt' false x y := rfl
theorem sorts_empt {vs : List Value} {ds : List PyData} (e : PySem.W.EachIs (fun v d => ∃ as, Reads s.heap v d as) vs ds) (hal : PySem.W.AllAlike ds) (ht : ∀ d ∈ ds, ∃ xs, d = .tuple xs) (hn : ∃ d ∈ ds, d = .tuple []) (hu : ∀ d, d ∈ ds → A.units + d.depth < cLine) :
    PySem.W.SortsAt prog w A s (PySem.W.dataKind s.heap ds) vs := by
  have room : ∀ {d d' : PyData}, d ∈ ds → A.units + min d.depth d'.depth < cLine := fun {d d'} hd => Nat.lt_of_le_of_lt (Nat.add_le_add_left (Nat.min_le_left _ _) _) (hu d hd)
  refine ⟨fun v hv => ?_, ?_⟩
  · obtain ⟨d, hd, as, r⟩ := e.left v hv
    exact ⟨_, PySem.W.dataKind_some hal hd r⟩
  · obtain ⟨kd, hk, hkk⟩ := kind_empt (A := A) e ht hn
    refine ⟨kd, ?_, fun _ E Q hq => hkk _ E hq⟩
    intro E x y a b Q ha hb hq
    obtain ⟨d, as, hd, ra, rfl⟩ := PySem.W.dataKind_inv ha
    obtain ⟨d', as', hd', rb, rfl⟩ := PySem.W.dataKind_inv hb
    obtain ⟨xs, rfl⟩ := ht d hd
    obtain ⟨ys, rfl⟩ := ht d' hd'
    have hq : Q (PySem.W.dataLt (.tuple xs) (.tuple ys)) s := hq
    rcases hk with rfl | rfl
    · rw [keyLt'_general]
      exact oneLt_tup ra rb (hal _ hd _ hd') (room hd) hq
    · rw [keyLt'_oneType]
      exact oneLt_tup ra rb (hal _ hd _ hd') (room hd) hq
end
end AB
/-! AB: sorted, order, index, extend, walks of pairs. -/
namespace AB
open PySem PySem.Spec PyProof.Rows L2

/-! ### sorted of a list -/
def alikeB (ps : List PyData) : Bool := ps.all fun a => ps.all fun b => PySem.W.alike a b
def isTupP : PyData → Bool
  | .tuple _ => true
  | _ => false
def isNonP : PyData → Bool
  | .none => true
  | _ => false
def sortB (ps : List PyData) : Bool := alikeB ps && (ps.all isTupP || ps.all fun d => !isTupP d && !isNonP d) && ps.all SeqAt.shaped && decide (ps.length ≤ big)
def leP (a b : PyData) : Bool := !PySem.W.dataLt b a
theorem alikeB_all {ps : List PyData} (h : alikeB ps = true) : PySem.W.AllAlike ps := by
  unfold alikeB at h
  rw [List.all_eq_true] at h
  intro d hd d' hd'
  have := h d hd
  rw [List.all_eq_true] at this
  exact this d' hd'
def rSortD (K : PySem.W.Frag) : List V → Hp → VK → Prop := fun xs H Q => ∃ (a : Addr) (zs : List (V × PyData)), xs = [.ref a] ∧ SqL K H a (zs.map (·.1)) ∧ (∀ z ∈ zs, Dp K H z.1 z.2) ∧ sortB (zs.map (·.2)) = true ∧
  ∀ l, H l = none → Q (.ref l) (upd H l (.lst ((zs.mergeSort fun a b => leP a.2 b.2).map (·.1))))
theorem each_of {R : Value → β → Prop} {f : β → V} (hR : ∀ u z, RelV (f z) u → R u z) : ∀ {zs : List β} {us : List Value}, Vals (zs.map f) us → PySem.W.EachIs R us zs
  | [], _, h => by cases h; exact .nil
  | z :: zs, _, h => by
    cases h with
    | cons r t => exact .cons (hR _ _ r) (each_of hR t)
theorem vals_of {R : Value → β → Prop} {f : β → V} (hR : ∀ u z, R u z → RelV (f z) u) : ∀ {zs : List β} {us : List Value}, PySem.W.EachIs R us zs → Vals (zs.map f) us
  | _, _, .nil => .nil
  | _, _, .cons r t => .cons (hR _ _ r) (vals_of hR t)
section
variable {X : Cx}
theorem dataLe_leP (k : β → PyData) : PySem.W.dataLe false k = fun a b => leP (k a) (k b) := rfl
theorem each_and {R S : Value → β → Prop} : ∀ {us : List Value} {zs : List β}, PySem.W.EachIs R us zs → (∀ z ∈ zs, ∀ u, R u z → S u z) → PySem.W.EachIs S us zs
  | _, _, .nil, _ => .nil
  | _, _, .cons r t, h => .cons (h _ List.mem_cons_self _ r) (each_and t fun z hz u => h z (List.mem_cons_of_mem _ hz) u)
theorem cr_sortedD (hu : X.A.units + 67 < cLine) : CallR X (.builtin "sorted") (rSortD X.K) := by
  intro pins s σ H vs us Q I r h
  obtain ⟨a, zs, rfl, hs, hd, hsb, q⟩ := h
  obtain ⟨its, rv, hl, hz⟩ := I.list hs
  rw [Vals.ref1 r]
  unfold sortB at hsb
  rw [Bool.and_eq_true, Bool.and_eq_true, Bool.and_eq_true] at hsb
  obtain ⟨⟨⟨hal, hk⟩, hsh⟩, hbig⟩ := hsb
  have hal := alikeB_all hal
  rw [List.all_eq_true] at hsh
  have e1 : PySem.W.EachIs (fun u (z : V × PyData) => RelV z.1 u) its zs := each_of (f := fun z : V × PyData => z.1) (fun u z h => h) rv
  have er : PySem.W.EachIs (fun u (z : V × PyData) => ∃ as, Reads s.heap u z.2 as) its zs := each_and e1 fun z hz u r => Dp.reads I z.2 z.1 u (hd z hz) r
  have hdep : ∀ z ∈ zs, z.2.depth ≤ 64 := fun z hz => SeqAt.depth_of_shaped (hsh _ (List.mem_map_of_mem hz))
  have hL : its.length ≤ sizeLine := by
    rw [← rv.length]
    exact hz
  have fin : ∀ out : List Value, out.length = its.length → PySem.W.EachIs (fun u (z : V × PyData) => RelV z.1 u) out (zs.mergeSort (PySem.W.dataLe false fun z : V × PyData => z.2)) →
      EP X pins σ Q (.ref (s.heap.objs.size + 1)) { s with heap := sortedAll s.heap its (List.toArray out) } := by
    intro out ho eo
    obtain ⟨ep, he'⟩ := PyProof.Rows.sortedAll_at s.heap its out.toArray
    have vo := vals_of (f := fun z : V × PyData => z.1) (fun u z h => h) eo
    rw [dataLe_leP] at vo
    have hlen : ((zs.mergeSort fun a b => leP a.2 b.2).map (·.1)).length ≤ sizeLine := by
      rw [vo.length, ho]
      exact hL
    exact ⟨.ref _, upd H (s.heap.objs.size + 1) (.lst ((zs.mergeSort fun a b => leP a.2 b.2).map (·.1))), I.laid (t' := s.toks) (fun _ _ => PyProof.Rows.sortedAll_old) (Nat.le_succ _) ⟨hlen, out, ep, vo, he'⟩, rfl, q _ (I.hok.fresh (Nat.le_succ _))⟩
  have er' : PySem.W.EachIs (fun v (b : V × PyData) => ∃ as, Reads (PySem.W.sortingHeap (PySem.W.copyHeap s.heap its) (s.heap.objs.size + 1) its) v b.2 as) its zs := er.mono fun _ _ ⟨as, r⟩ => ⟨as, PyProof.Rows.Reads.keeps (fun _ _ => PySem.W.sorting_copy_old) r⟩
  have em := PySem.W.each_map (R := fun v d => ∃ as, Reads (PySem.W.sortingHeap (PySem.W.copyHeap s.heap its) (s.heap.objs.size + 1) its) v d as) (fun z : V × PyData => z.2) er'
  have room : ∀ d ∈ zs.map (·.2), X.A.in1.in1.units + d.depth < cLine := by
    intro d hd'
    obtain ⟨z, hz, rfl⟩ := List.mem_map.mp hd'
    have := hdep z hz
    show X.A.units + 1 + 1 + z.2.depth < cLine
    omega
  have S : PySem.W.SortsAt X.prog X.w X.A.in1.in1 { s with heap := PySem.W.sortingHeap (PySem.W.copyHeap s.heap its) (s.heap.objs.size + 1) its } (PySem.W.dataKind (PySem.W.sortingHeap (PySem.W.copyHeap s.heap its) (s.heap.objs.size + 1) its) (zs.map (·.2))) its := by
    rw [Bool.or_eq_true] at hk
    rcases hk with hk | hk
    · rw [List.all_eq_true] at hk
      have ht : ∀ d ∈ zs.map (·.2), ∃ xs, d = .tuple xs := fun d hd => by
        have := hk d hd
        cases d with
        | tuple xs => exact ⟨xs, rfl⟩
        | _ => cases this
      by_cases hn : ∃ d ∈ zs.map (·.2), d = .tuple []
      · exact sorts_empt (s := { s with heap := PySem.W.sortingHeap (PySem.W.copyHeap s.heap its) (s.heap.objs.size + 1) its }) em hal ht hn room
      · refine PySem.W.SortsAt.data (s := { s with heap := PySem.W.sortingHeap (PySem.W.copyHeap s.heap its) (s.heap.objs.size + 1) its }) em hal (.inl fun d hd => ?_) room
        obtain ⟨xs, rfl⟩ := ht d hd
        cases xs with
        | nil => exact absurd ⟨_, hd, rfl⟩ hn
        | cons x r => exact ⟨x, r, rfl⟩
    · rw [List.all_eq_true] at hk
      refine PySem.W.SortsAt.data (s := { s with heap := PySem.W.sortingHeap (PySem.W.copyHeap s.heap its) (s.heap.objs.size + 1) its }) em hal (.inr fun d hd => ?_) room
      have := hk d hd
      constructor
      · rintro rfl
        exact absurd this (by decide)
      · rintro xs rfl
        exact absurd this (by simp [isTupP])
  exact PySem.W.sorted_vals hl.isList S hL (fin _ (by rw [PySem.W.sortVals_length false rfl]) (PySem.W.sortVals_data false e1 er' hal))
end
/-- the items of a list, sorted -/
def sortD (ds : List D) (ps : List PyData) : List D := ((ds.zip ps).mergeSort fun a b => leP a.2 b.2).map (·.1)
def fSorted (xs : List D) (h : AH) : Res (List D) := match xs with
  | [d] => match vL h d with
    | some ds => match toPs ds with
      | some ps => if sortB ps = true then .ok (sortD ds ps) h else .stuck
      | none => .stuck
    | none => .stuck
  | _ => .stuck
theorem toPs_len : ∀ {ds : List D} {ps : List PyData}, toPs ds = some ps → ps.length = ds.length
  | [], ps, e => by cases e; rfl
  | d :: ds, ps, e => by
    unfold toPs at e
    split at e
    · rename_i p qs e1 e2
      cases e
      rw [List.length_cons, List.length_cons, toPs_len e2]
    · cases e
theorem ra_mem {K : PySem.W.Frag} {w : Wd} {T : List (V × D × PyData)} (h : ∀ t ∈ T, Rv K w t.1 t.2.1) : Ra K w (T.map (·.1)) (T.map (·.2.1)) := by
  induction T with
  | nil => exact .nil
  | cons t T ih => exact .cons (h t List.mem_cons_self) (ih fun x hx => h x (List.mem_cons_of_mem _ hx))
theorem trip {K : PySem.W.Frag} {w : Wd} {H : Hp} (ex : Ext w.S H) : ∀ {vs : List V} {ds : List D} {ps : List PyData}, Ra K w vs ds → toPs ds = some ps → ∃ T : List (V × D × PyData), vs = T.map (·.1) ∧ ds = T.map (·.2.1) ∧ ps = T.map (·.2.2) ∧ ∀ t ∈ T, Rv K w t.1 t.2.1 ∧ Dp K H t.1 t.2.2
  | _, _, ps, .nil, e => by
    cases e
    exact ⟨[], rfl, rfl, rfl, fun t h => nomatch h⟩
  | _, _, ps, .cons (v := v) (vs := vs) (d := d) (ds := ds) a b, e => by
    unfold toPs at e
    split at e
    · rename_i p qs e1 e2
      cases e
      obtain ⟨T, rfl, rfl, rfl, hT⟩ := trip ex b e2
      refine ⟨(v, d, p) :: T, rfl, rfl, rfl, fun t ht => ?_⟩
      rcases List.mem_cons.mp ht with rfl | ht
      · exact ⟨a, toP_rep ex d v p a e1⟩
      · exact hT t ht
    · cases e
section
variable {X : Cx} {W : WX} {pos p : Pos} {e : Expr} {es : List Expr} {as : MeL} {ma mb : Me}
theorem fol_sorted : FolF X W fSorted (rSortD X.K) := by
  intro w h H σ Q vs ds rh ra o
  unfold fSorted at o
  split at o
  · rename_i d
    obtain ⟨v, rfl, rv⟩ := ra_one ra
    split at o
    · rename_i es ev
      split at o
      · rename_i ps ep
        split at o
        · rename_i c
          obtain ⟨a, xs, rfl, sq, ra2⟩ := vL_rep rh rv ev
          obtain ⟨T, rfl, rfl, rfl, hT⟩ := trip rh.ex ra2 ep
          refine ⟨a, T.map fun t => (t.1, t.2.2), rfl, by rw [List.map_map]; exact sq, fun z hz => ?_, by rw [List.map_map]; exact c, fun l hl => ?_⟩
          · obtain ⟨t, ht, rfl⟩ := List.mem_map.mp hz
            exact (hT t ht).2
          · refine out_new o rh hl ?_
            have e1 : ((T.map fun t => (t.1, t.2.2)).mergeSort fun a b => leP a.2 b.2).map (·.1) = (T.mergeSort fun a b => leP a.2.2 b.2.2).map (·.1) := by
              rw [← List.map_mergeSort (r := fun a b => leP a.2.2 b.2.2) (f := fun t : V × D × PyData => (t.1, t.2.2)) (fun _ _ _ _ => rfl), List.map_map]
              rfl
            have e2 : sortD (T.map (·.2.1)) (T.map (·.2.2)) = (T.mergeSort fun a b => leP a.2.2 b.2.2).map (·.2.1) := by
              unfold sortD
              have ez : (T.map (·.2.1)).zip (T.map (·.2.2)) = T.map fun t => (t.2.1, t.2.2) := by
                rw [List.zip_map']
              rw [ez, ← List.map_mergeSort (r := fun a b => leP a.2.2 b.2.2) (f := fun t : V × D × PyData => (t.2.1, t.2.2)) (fun _ _ _ _ => rfl), List.map_map]
              rfl
            rw [e1, e2]
            refine ra_mem fun t ht => (hT t ?_).1
            exact (List.mergeSort_perm T _).mem_iff.mp ht
        · exact o.elim
      · exact o.elim
    · exact o.elim
  · exact o.elim
theorem f_sorted (hu : X.A.units + 67 < cLine) (hm : X.mg "sorted" = none) (ha : PA X [e] (TAr X W as)) (hg : Gl X "sorted" := by rfl) (he : starEach [e] X.env = (false, eval e X.env) :: starEach [] X.env := by rfl) : PE X (.Call (.Name "sorted" p) [e] [] pos) (TF X W (lN fSorted as)) :=
  f_blt (cr_sortedD hu) fol_sorted hm ha hg (by decide +kernel) (by decide) (by decide) he rfl
/-! ### < of data -/
def lrD (h : AH) (x y : D) : Option (PyData × PyData) := match okP h x, okP h y with
  | some p, some q => if PySem.W.alike p q = true ∧ isNonP p = false then some (p, q) else none
  | _, _ => none
def fLtD (x y : D) (h : AH) : Res D := match lrD h x y with
  | some (p, q) => .ok (.bl (PySem.W.dataLt p q)) h
  | none => .stuck
def fGtD (x y : D) (h : AH) : Res D := match lrD h x y with
  | some (p, q) => .ok (.bl (PySem.W.dataLt q p)) h
  | none => .stuck
def fLeD (x y : D) (h : AH) : Res D := match lrD h x y with
  | some (p, q) => .ok (.bl (!PySem.W.dataLt q p)) h
  | none => .stuck
def fGeD (x y : D) (h : AH) : Res D := match lrD h x y with
  | some (p, q) => .ok (.bl (!PySem.W.dataLt p q)) h
  | none => .stuck
def rLtD (K : PySem.W.Frag) (f : PyData → PyData → Bool) : R2 := fun x y H Q => ∃ d e, Dp K H x d ∧ Dp K H y e ∧ PySem.W.alike d e = true ∧ d ≠ .none ∧ d.depth ≤ 64 ∧ Q (.bl (f d e)) H
theorem room_min {A : Around} {d e : PyData} (h : d.depth ≤ 64) (hu : A.units + 65 < cLine) : A.units + min d.depth e.depth < cLine := by
  have := Nat.min_le_left d.depth e.depth
  omega
theorem op_ltD (hu : X.A.units + 65 < cLine) : OpR X (compareOp .Lt) (rLtD X.K fun d e => PySem.W.dataLt d e) := by
  intro pins s σ H x y v u Q I rx ry h
  obtain ⟨d, e, hd, he, ha, hn, hdep, q⟩ := h
  obtain ⟨as, r1⟩ := Dp.reads I d x v hd rx
  obtain ⟨bs, r2⟩ := Dp.reads I e y u he ry
  exact PySem.W.lt_data r1 r2 ha hn (room_min hdep hu) ⟨.bl _, H, I, rfl, q⟩
theorem op_gtD (hu : X.A.units + 65 < cLine) : OpR X (compareOp .Gt) (rLtD X.K fun d e => PySem.W.dataLt e d) := by
  intro pins s σ H x y v u Q I rx ry h
  obtain ⟨d, e, hd, he, ha, hn, hdep, q⟩ := h
  obtain ⟨as, r1⟩ := Dp.reads I d x v hd rx
  obtain ⟨bs, r2⟩ := Dp.reads I e y u he ry
  exact PySem.W.gt_data r1 r2 ha hn (room_min hdep hu) ⟨.bl _, H, I, rfl, q⟩
theorem op_leD (hu : X.A.units + 65 < cLine) : OpR X (compareOp .LtE) (rLtD X.K fun d e => !PySem.W.dataLt e d) := by
  intro pins s σ H x y v u Q I rx ry h
  obtain ⟨d, e, hd, he, ha, hn, hdep, q⟩ := h
  obtain ⟨as, r1⟩ := Dp.reads I d x v hd rx
  obtain ⟨bs, r2⟩ := Dp.reads I e y u he ry
  exact PySem.W.le_data r1 r2 ha hn (room_min hdep hu) ⟨.bl _, H, I, rfl, q⟩
theorem op_geD (hu : X.A.units + 65 < cLine) : OpR X (compareOp .GtE) (rLtD X.K fun d e => !PySem.W.dataLt d e) := by
  intro pins s σ H x y v u Q I rx ry h
  obtain ⟨d, e, hd, he, ha, hn, hdep, q⟩ := h
  obtain ⟨as, r1⟩ := Dp.reads I d x v hd rx
  obtain ⟨bs, r2⟩ := Dp.reads I e y u he ry
  exact PySem.W.ge_data r1 r2 ha hn (room_min hdep hu) ⟨.bl _, H, I, rfl, q⟩
theorem fol_ltD {f : PyData → PyData → Bool} {g : D → D → AH → Res D} (hg : ∀ x y h, g x y h = match lrD h x y with
  | some (p, q) => .ok (.bl (f p q)) h
  | none => .stuck) : Fol2 X W g (rLtD X.K f) := by
  intro w h H σ Q v1 v2 d1 d2 rh r1 r2 o
  rw [hg] at o
  split at o
  · rename_i p q e
    unfold lrD at e
    split at e
    · rename_i p' q' e1 e2
      split at e
      · rename_i c
        cases e
        obtain ⟨a1, a2⟩ := okP_some e1
        obtain ⟨b1, b2⟩ := okP_some e2
        exact ⟨_, _, toPh_rep rh r1 a1, toPh_rep rh r2 b1, c.1, fun z => by rw [z] at c; exact absurd c.2 (by decide), SeqAt.depth_of_shaped a2, out_ok o rh (.bl _)⟩
      · cases e
    · cases e
  · exact o.elim
end
end AB
/-! AB: enumerate of lists and tuples. -/
namespace AB
open PySem PySem.Spec PyProof.Rows L2
open Sem (wp)

set_option maxHeartbeats 4000000 in
theorem meets_enumerate_new1 {v : Value} {o : Obj} {H : Heap → Prop} (B : Begins v o H) :
    Meets (Builtin.«enumerate.__new__» ⟨[.type "enumerate", v], []⟩) (fun _ R s => H s.heap ∧
      R (.ok (.ret (.ref (s.heap.push o).objs.size))) { s with heap := (s.heap.push o).push { cls := .type "enumerate", data := .fields #[.none, .bool false, .ref s.heap.objs.size, rawInt 0, .none, .none] } }) :=
  .of_wp fun prog w A R s h => by
    obtain ⟨hp, g, d, tk, os⟩ := s; obtain ⟨h1, h⟩ := h
    have hsub := sub_enumerate
    have q1 : ∀ {A' : Around} {E : Value → Shared → Prop} {Q : Value → Shared → Prop}, Q (.ref hp.objs.size) ⟨hp.push o, g, d, tk, os⟩ → wpAny (model prog w) A' (pyIter v) Q E ⟨hp, g, d, tk, os⟩ :=
      fun q => B.iter prog w _ _ ⟨hp, g, d, tk, os⟩ _ h1 q
    wp_walk using q1
    refine wpAny_stack_any fun st => wpAny_pure ?_
    split
    · rename_i c _ _ _ _ _
      cases (c == Value.type "enumerate")
      · wp_walk using q1
        exact ⟨_, rfl, h⟩
      · wp_walk using q1
        exact ⟨_, rfl, h⟩
    · wp_walk using q1
      exact ⟨_, rfl, h⟩
section
variable {prog : Program} {w : World} {A : Around} {E : Value → Shared → Prop} {s : Shared}
theorem enum_begins1 {v : Value} {o : Obj} {H : Heap → Prop} {Q : Value → Shared → Prop} (B : Begins v o H) (h1 : H s.heap)
    (h : ∀ h', IsEnum h' (s.heap.objs.size + 1) s.heap.objs.size 0 .none → h'.get? s.heap.objs.size = some o → h'.objs.size = s.heap.objs.size + 2 →
      (∀ b o, s.heap.get? b = some o → h'.get? b = some o) → Q (.ref (s.heap.objs.size + 1)) { s with heap := h' }) :
    wpAny (model prog w) A (call (.type "enumerate") [v]) Q E s := by
  refine callType_new F.called_enumerate (by decide) (F.typeCall_enumerate_1 _) (F.newCall_enumerate_1 _) (fun obj => F.args_object_init_2 obj _) F.entry_enumerate_new
    (meets_enumerate_new1 B) ⟨h1, ?_⟩
  have hz : (s.heap.push o).objs.size = s.heap.objs.size + 1 := Heap.size_push ..
  show _ ∧ _
  rw [hz]
  have he : IsEnum ((s.heap.push o).push { cls := .type "enumerate", data := .fields #[.none, .bool false, .ref s.heap.objs.size, rawInt 0, .none, .none] }) (s.heap.objs.size + 1) s.heap.objs.size 0 .none := by
    have := Heap.get?_push_size (s.heap.push o) (o := { cls := .type "enumerate", data := .fields #[.none, .bool false, .ref s.heap.objs.size, rawInt 0, .none, .none] }) rfl
    rw [hz] at this; exact this
  refine ⟨⟨_, he, rfl⟩, h _ he (Heap.get?_push_of_some _ (Heap.get?_push_size _ B.free)) (by rw [Heap.size_push, hz]) fun b o x => Heap.get?_push_of_some _ (Heap.get?_push_of_some _ x)⟩
end

/-- the tuple at a as it stands at each turn, each item in a new pair -/
def IteT (K : PySem.W.Frag) (a : Addr) : It :=
  ⟨fun i H => ∃ (xs : List V) (x : V), SqT K H a xs ∧ xs[i]? = some x, fun i H v H' => ∃ T x, v = .ref T ∧ H T = none ∧ H' = upd H T (.tup [.int (i : Nat), x]) ∧ ∀ xs, SqT K H a xs → xs[i]? = some x, fun i H => ∃ xs : List V, SqT K H a xs ∧ xs.length ≤ i⟩
theorem turn_enumT {P : Program} {w : World} {K : PySem.W.Frag} {elts : List Expr} {kk : Nat} {tpos : Pos} (a e it : Addr) :
    Turn P w K (.Tuple elts kk tpos) (IteT K a) [e, it] e (fun i h => (∃ old, IsEnum h e it ((i : Nat) : Int) old) ∧ h.IsTupleIter it a i ∧ e ≠ it ∧ a ≠ it ∧ a ≠ e) where
  mem := by simp
  obj := fun i h st b hb => by
    obtain ⟨⟨old, he⟩, ⟨o, ho, hc, hd⟩, _⟩ := st
    have e' : b = e ∨ b = it := by simpa using hb
    rcases e' with z | z
    · rw [z]; exact ⟨_, he, fun v q => nomatch q⟩
    · rw [z]; exact ⟨o, ho, fun v q => by rw [hd] at q; cases q⟩
  keep := fun i h h' st k => let ⟨⟨old, he⟩, hi, hne⟩ := st; ⟨⟨old, k e (by simp) _ he⟩, hi.at fun o q => k it (by simp) o q, hne⟩
  item := by
    intro X hP hw hK hc i pins s σ H E I hf st hg
    subst hP hw hK
    obtain ⟨⟨old, he⟩, hit, hne, hai, hae⟩ := st
    obtain ⟨xs, x, hq, hx⟩ := hg
    obtain ⟨its, rv, p, hz⟩ := I.tuple hq
    obtain ⟨u, hu, ru⟩ := rv.get hx
    have hel : e < s.heap.objs.size := Heap.lt_size he
    have hil : it < s.heap.objs.size := by obtain ⟨_, q, _⟩ := hit; exact Heap.lt_size q
    have hlt : i < its.toArray.size := by
      rw [List.size_toArray]
      exact (List.getElem?_eq_some_iff.mp hu).1
    refine wpAny_pyNext_enum_itemD (Draws.tuple (A := X.A.in1) (I.ok.hd hc) it a hai its.toArray) he ⟨hit, p⟩ hlt hne (by simp [hne, Ne.symm hae]) fun y h' tk hy ho hst hT hsz hk => ?_
    have ey : y = u := by
      have hy : its.toArray[i]? = some y := hy
      have hu' : its.toArray[i]? = some u := by simpa using hu
      rw [hu'] at hy
      exact (Option.some.inj hy).symm
    subst ey
    refine ⟨_, rfl, wpAny_letOwnedTupleGo_enum (s := { s with heap := h', toks := tk + 1 }) ho fun h'' he' sb => ?_⟩
    have hT2 : h''.get? s.heap.objs.size = some { cls := .type "tuple", data := .seq #[.int i tk, y] } := (sb.2 _ (Nat.ne_of_gt hel)).trans hT
    have new : ObjOk X.prog X.w (upd H s.heap.objs.size (.tup [.int (i : Nat), x])) h'' s.heap.objs.size (.tup [.int (i : Nat), x]) :=
      ⟨by show 2 ≤ sizeLine; decide, [.int i tk, y], .cons ⟨_, rfl⟩ (.cons ru .nil), ⟨_, hT2, rfl, _, rfl⟩⟩
    have I1 : Inv X pins σ (upd H s.heap.objs.size (.tup [.int (i : Nat), x])) { s with heap := h'', toks := tk + 1 } :=
      I.turnedNew (ch := [e, it]) (fun b ob hb q => (sb.2 b (fun z => hb (by simp [z]))).trans (hk b ob (fun z => hb (by simp [z])) (fun z => hb (by simp [z])) q)) hf (Nat.le_refl _) new
    refine ⟨.ref s.heap.objs.size, _, I1, rfl, ⟨_, x, rfl, I.hok.fresh (Nat.le_refl _), rfl, fun ys hy => by rw [I.tuple_inj hy hq]; exact hx⟩, ⟨⟨y, ?_⟩, hst.1.at fun o q => (sb.2 it (Ne.symm hne)).trans q, hne, hai, hae⟩, fun b hb => ?_⟩
    · have e1 : ((i + 1 : Nat) : Int) = (i : Int) + 1 := by omega
      rw [e1]; exact he'
    · have hb' : b < s.heap.objs.size := by
        have e' : b = e ∨ b = it := by simpa using hb
        rcases e' with z | z
        · rw [z]; exact hel
        · rw [z]; exact hil
      rw [upd_ne (Nat.ne_of_lt hb')]
      exact (hf b hb).1
  done := by
    intro X hP hw hK hc i pins s σ H E I hf st hg
    subst hP hw hK
    obtain ⟨⟨old, he⟩, hit, hne, hai, hae⟩ := st
    obtain ⟨xs, hq, hx⟩ := hg
    obtain ⟨its, rv, p, hz⟩ := I.tuple hq
    obtain ⟨f0, f1, f2, f3, f4, f5⟩ := hf it (by simp)
    have hl := rv.length
    have hsize : its.toArray.size ≤ i := by rw [List.size_toArray]; omega
    obtain ⟨T, hT⟩ : ∃ T : Array Value, T.size = i ∧ True := ⟨Array.replicate i .none, by simp, trivial⟩
    unfold pyNext
    have hTy : s.TypeIs (.ref e) "enumerate" := ⟨_, he, rfl⟩
    refine wpAny_bind (wpAny_attempt (wpAny_callSpecial?_slot (name := Str.ofString "__next__") hTy F.slot_enumerate_next
      (wpAny_call_entry F.slot_enumerate_next hTy F.entry_enumerate_next ?_ (F.args_enumerate_next_1 _))))
    show wpAny _ _ (field (.ref e) 2 >>= _) _ _ _
    refine wpAny_bind (wpAny_field he rfl (x := .ref it) rfl ?_)
    refine wpAny_bind (wpAny_nextOf_tuple_end (A := X.A.in1) (I.ok.hd hc) hit p (by simpa using hsize) fun h' x he' hx' => ?_)
    obtain ⟨o, ho, hc'⟩ := hx'
    refine wpAny_bind (wpAny_isInstance (T := "StopIteration") (b := true) ⟨o, ho, hc'⟩ isSubtype_stop ?_)
    exact wpAny_pure ⟨rfl, I.turned (t' := s.toks) (fun b o hb q => he' b o hb q) f0 f1 f3 f4 f5⟩
  self := fun A i s Q E st h => let ⟨⟨_, he⟩, _⟩ := st; wpAny_pyIter_enum he h
def iEnumA (K : PySem.W.Frag) (ta : TA) : TI := fun σ H R => ta σ H fun vs H1 => ∃ a xs, vs = [.ref a] ∧ ((SqL K H1 a xs ∧ R (Ite K a) H1) ∨ (SqT K H1 a xs ∧ R (IteT K a) H1))
theorem pi_enumA {X : Cx} {e : Expr} {ta : TA} {p pos tpos : Pos} {elts : List Expr} {kk : Nat} (hg : Gl X "enumerate") (hm : X.mg "enumerate" = none) (ha : PA X [e] ta) (hs : starEach [e] X.env = [(false, eval e X.env)] := by rfl) :
    PI X (.Tuple elts kk tpos) (.Call (.Name "enumerate" p) [e] [] pos) (iEnumA X.K ta) := by
  refine ⟨fun pins s σ H R I h => ?_⟩
  refine Call_ (ld_blt I hg hm boot_enumerate (PyProof.Rows.callWith_type1 (thn (ha.run pos pins s σ H _ I h) fun us s1 ⟨vs, H1, I1, r1, q1⟩ => ?_) hs rfl))
  obtain ⟨a, xs, ex, q1⟩ := q1
  subst ex
  cases r1 with
  | cons r rr =>
    cases rr
    cases r
    have fresh2 : ∀ b, b ∈ [s1.heap.objs.size + 1, s1.heap.objs.size] → FpOk X pins H1 b := fun b hb => by
      have e' : b = s1.heap.objs.size + 1 ∨ b = s1.heap.objs.size := by simpa using hb
      have hle : s1.heap.objs.size ≤ b := by
        rcases e' with z | z
        · rw [z]; exact Nat.le_add_right _ _
        · rw [z]; exact Nat.le_refl _
      exact I1.fpOk hle (I1.hok.fresh hle)
    rcases q1 with ⟨hq, q⟩ | ⟨hq, q⟩
    · obtain ⟨its, rv, p', hz⟩ := I1.list hq
      refine call_enumerate_list p'.isList fun h' he hit hsz hk => wpAny_pyIter_enum he ?_
      have I2 : Inv X pins σ H1 { s1 with heap := h' } := I1.kept (t' := s1.toks) hk
      exact ⟨s1.heap.objs.size + 1, [s1.heap.objs.size + 1, s1.heap.objs.size], _, _, H1, rfl, I2, turn_enum a (s1.heap.objs.size + 1) s1.heap.objs.size, ⟨⟨.none, he⟩, hit, Nat.succ_ne_self _⟩, fresh2, q⟩
    · obtain ⟨its, rv, p', hz⟩ := I1.tuple hq
      have hal : a < s1.heap.objs.size := by
        obtain ⟨o, ho, _⟩ := p'
        exact Heap.lt_size ho
      refine enum_begins1 (begins_tuple a its.toArray) p' fun h' he hit hsz hk => wpAny_pyIter_enum he ?_
      have I2 : Inv X pins σ H1 { s1 with heap := h' } := I1.kept (t' := s1.toks) hk
      exact ⟨s1.heap.objs.size + 1, [s1.heap.objs.size + 1, s1.heap.objs.size], _, _, H1, rfl, I2, turn_enumT a (s1.heap.objs.size + 1) s1.heap.objs.size, ⟨⟨.none, he⟩, ⟨_, hit, rfl, rfl⟩, Nat.succ_ne_self _, Nat.ne_of_lt hal, Nat.ne_of_lt (Nat.lt_succ_of_lt hal)⟩, fresh2, q⟩
end AB
/-! AB: walks of pairs, ranges down, extend. -/
namespace AB
open PySem PySem.Spec PyProof.Rows L2

section
variable {X : Cx} {W : WX} {tg e e2 a b c : Expr} {as : MeL} {p pos tpos : Pos} {elts : List Expr} {kk : Nat} {K : PySem.W.Frag}
def pairsD (as bs : List D) : List D := (as.zip bs).map fun p => D.tup [p.1, p.2]
def enumD (ds : List D) : List D := pairsD (rangeD 0 ds.length) ds
/-- lists that are not changed -/
def vI : D → Option (List D)
  | .lst ds => some ds
  | .rol ds => some ds
  | _ => none
theorem vI_rep {w : Wd} {v : V} {d : D} {ds : List D} (rv : Rv K w v d) (e : vI d = some ds) : ∃ a xs, v = .ref a ∧ SqL K w.S a xs ∧ Ra K w xs ds := by
  cases rv with
  | lst a b => cases e; exact ⟨_, _, rfl, .inl a, b⟩
  | rol a b => cases e; exact ⟨_, _, rfl, a, b⟩
  | _ => cases e
def iZip (as : MeL) : Im := fun G h => (as G h).bind fun xs h1 => match xs with
  | [.tup ds, .tup es] => .ok (pairsD ds es, none) h1
  | [d, e] => match vI d, vI e with
    | some ds, some es => .ok (pairsD ds es, none) h1
    | _, _ => .stuck
  | _ => .stuck
theorem walk_zipT {a b : Addr} {xs ys : List V} : Walk (RZ.ItzT K a b) (min xs.length ys.length) (fun H => SqT K H a xs ∧ SqT K H b ys) (YPair (fun i => xs[i]?) (fun i => ys[i]?)) := by
  refine ⟨fun i _ hi q => ?_, fun _ q => ⟨xs, ys, q.1, q.2, by omega⟩, fun i H v H' _ q y => ?_⟩
  · have h1 : i < xs.length := by omega
    have h2 : i < ys.length := by omega
    exact ⟨xs, ys, xs[i], ys[i], q.1, q.2, by simp [h1], by simp [h2]⟩
  · obtain ⟨T, x, z, h1, h2, h3, h4, h5⟩ := y
    exact ⟨T, x, z, h1, h2, h3, h4 xs q.1, h5 ys q.2⟩
theorem i_zip (hm : X.mg "zip" = none) (ha : PA X [e, e2] (TAr X W as)) (hg : Gl X "zip" := by rfl)
    (hs : starEach [e, e2] X.env = (false, eval e X.env) :: starEach [e2] X.env := by rfl) (hpl : (backTo pos (starEach [e2] X.env)).any (·.1) = false := by rfl) :
    PI X (.Tuple elts kk tpos) (.Call (.Name "zip" p) [e, e2] [] pos) (tI X W (iZip as)) := by
  refine (RZ.pi_zipA hg hm ha hs hpl).wk fun σ H R ⟨w, G, h, g, r, o⟩ => ⟨w, G, h, g, r, OutI.bindA (as := as) o fun d h2 v w1 H1 em l r1 x o1 => ?_⟩
  split at o1
  · rename_i ds es
    obtain ⟨v, v2, rfl, rv, rv2⟩ := ra_two x
    cases rv with
    | @tup p1 xs _ a1 b1 =>
      cases rv2 with
      | @tup p2 ys _ a2 b2 =>
        exact ⟨p1, p2, xs, ys, rfl, .inr ⟨r1.ex.t a1, r1.ex.t a2, o1 _ w1 H1 (Le.refl _) r1 (Walks.zip b1 b2 fun w' H' h' l r => ⟨_, ⟨r.ex.t (l.ex.t a1), r.ex.t (l.ex.t a2)⟩, walk_zipT⟩)⟩⟩
  · split at o1
    · rename_i ds es e1 e2
      obtain ⟨v, v2, rfl, rv, rv2⟩ := ra_two x
      obtain ⟨p1, xs, rfl, a1, b1⟩ := vI_rep rv e1
      obtain ⟨p2, ys, rfl, a2, b2⟩ := vI_rep rv2 e2
      exact ⟨p1, p2, xs, ys, rfl, .inl ⟨r1.ex.l a1, r1.ex.l a2, o1 _ w1 H1 (Le.refl _) r1 (Walks.zip b1 b2 fun w' H' h' l r => ⟨_, ⟨r.ex.l (l.ex.l a1), r.ex.l (l.ex.l a2)⟩, walk_zip rfl⟩)⟩⟩
    · exact o1.elim
  · exact o1.elim
/-! enumerate -/
def iEnum (as : MeL) : Im := fun G h => (as G h).bind fun xs h1 => match xs with
  | [.tup ds] => .ok (enumD ds, none) h1
  | [d] => match vI d with
    | some ds => .ok (enumD ds, none) h1
    | none => .stuck
  | _ => .stuck
theorem walk_enumT {a : Addr} {xs : List V} : Walk (IteT K a) xs.length (fun H => SqT K H a xs) (YPair (fun i => some (.int (i : Nat))) (fun i => xs[i]?)) := by
  refine ⟨fun i _ hi q => ⟨xs, xs[i], q, by simp [hi]⟩, fun _ q => ⟨xs, q, Nat.le_refl _⟩, fun i H v H' _ q y => ?_⟩
  obtain ⟨T, x, h1, h2, h3, h4⟩ := y
  exact ⟨T, .int (i : Nat), x, h1, h2, h3, rfl, h4 xs q⟩
/-- the numbers of a range as values -/
def rangeV (n : Nat) : List V := (List.range n).map fun i : Nat => V.int (i : Int)
theorem rangeV_rep {w : Wd} : ∀ (ns : List Nat), Ra K w (ns.map fun i : Nat => V.int (i : Int)) (ns.map fun i : Nat => D.int (0 + (i : Int)))
  | [] => .nil
  | n :: ns => .cons (by show RepV K w.S w.mu w.N (V.int (n : Int)) (D.int (0 + (n : Int))); rw [Int.zero_add]; exact .int _) (rangeV_rep ns)
theorem rangeV_get {n i : Nat} (h : i < n) : (rangeV n)[i]? = some (V.int (i : Int)) := by
  unfold rangeV
  rw [List.getElem?_map, List.getElem?_range h]
  rfl
theorem Walks.enum {w : Wd} {J : It} {ds : List D} {xs : List V} (h1 : Ra K w xs ds)
    (hw : ∀ w' H' h', LeX w w' → RepH K w' H' h' → ∃ G : Hp → Prop, G H' ∧ Walk J xs.length G (YPair (fun i => some (.int (i : Nat))) (fun i => xs[i]?))) : Walks K J w (enumD ds) none := by
  have l1 := h1.length
  have hl : (rangeV ds.length).length = xs.length := by unfold rangeV; simp [l1]
  refine Walks.zip (rangeV_rep (List.range ds.length)) h1 fun w' H' h' l r => ?_
  obtain ⟨G, g, wk⟩ := hw w' H' h' l r
  refine ⟨G, g, ?_⟩
  have e : min (List.map (fun i : Nat => V.int (i : Int)) (List.range ds.length)).length xs.length = xs.length := by
    simp [l1]
  rw [e]
  refine wk.mono (fun _ q => q) fun i H x H' hi _ y => ?_
  obtain ⟨T, x, z, q1, q2, q3, q4, q5⟩ := y
  refine ⟨T, x, z, q1, q2, q3, ?_, q5⟩
  have q4 : some (V.int (i : Int)) = some x := q4
  rw [← q4]
  exact rangeV_get (by omega)
theorem i_enum (hm : X.mg "enumerate" = none) (ha : PA X [e] (TAr X W as)) (hg : Gl X "enumerate" := by rfl)
    (hs : starEach [e] X.env = [(false, eval e X.env)] := by rfl) :
    PI X (.Tuple elts kk tpos) (.Call (.Name "enumerate" p) [e] [] pos) (tI X W (iEnum as)) := by
  refine (pi_enumA hg hm ha hs).wk fun σ H R ⟨w, G, h, g, r, o⟩ => ⟨w, G, h, g, r, OutI.bindA (as := as) o fun d h2 v w1 H1 em l r1 x o1 => ?_⟩
  split at o1
  · obtain ⟨v, rfl, rv⟩ := ra_one x
    cases rv with
    | @tup p1 xs _ a1 b1 =>
      exact ⟨p1, xs, rfl, .inr ⟨r1.ex.t a1, o1 _ w1 H1 (Le.refl _) r1 (Walks.enum b1 fun w' H' h' l r => ⟨_, r.ex.t (l.ex.t a1), walk_enumT⟩)⟩⟩
  · split at o1
    · rename_i ds e1
      obtain ⟨v, rfl, rv⟩ := ra_one x
      obtain ⟨p1, xs, rfl, a1, b1⟩ := vI_rep rv e1
      exact ⟨p1, xs, rfl, .inl ⟨r1.ex.l a1, o1 _ w1 H1 (Le.refl _) r1 (Walks.enum b1 fun w' H' h' l r => ⟨_, r.ex.l (l.ex.l a1), walk_enum⟩)⟩⟩
    · exact o1.elim
  · exact o1.elim
/-! range(i, j, -1) -/
def downD (lo : Int) (n : Nat) : List D := (List.range n).map fun i : Nat => D.int (lo + (i : Int) * (-1))
theorem Walks.down {w : Wd} {lo : Int} {n : Nat} : Walks K (Itc lo (-1) n) w (downD lo n) none := by
  have hl : (downD lo n).length = n := by simp [downD]
  refine ⟨fun i w' H' h' hi l r _ => ?_, fun w' H' h' l r _ => ?_, fun i x w' H' H2 h' d hd l r _ y => ?_⟩
  · rw [hl] at hi
    exact hi
  · rw [hl]
    exact Nat.le_refl n
  · obtain ⟨rfl, rfl⟩ := y
    have hi : i < n := by
      rw [← hl]
      exact (List.getElem?_eq_some_iff.mp hd).1
    unfold downD at hd
    rw [List.getElem?_map, List.getElem?_range hi] at hd
    cases hd
    exact ⟨w', Le.refl _, r, .int _⟩
noncomputable def iDown (as : MeL) : Im := fun G h => (as G h).bind fun xs h1 => match xs with
  | [.int i, .int j, .int k] => if k = -1 ∧ okR2 i j then .ok (downD i (i - j).toNat, none) h1 else .stuck
  | _ => .stuck
theorem ra_three {w : Wd} {vs : List V} {d d2 d3 : D} (r : Ra K w vs [d, d2, d3]) : ∃ v v2 v3, vs = [v, v2, v3] ∧ Rv K w v d ∧ Rv K w v2 d2 ∧ Rv K w v3 d3 := by
  cases r with
  | cons a b =>
    cases b with
    | cons c d => cases d with
      | cons e f => cases f; exact ⟨_, _, _, rfl, a, c, e⟩
theorem i_down (hm : X.mg "range" = none) (ha : PA X [a, b, c] (TAr X W as)) (hg : Gl X "range" := by rfl)
    (hs : starEach [a, b, c] X.env = (false, eval a X.env) :: starEach [b, c] X.env := by rfl) (hpl : (backTo pos (starEach [b, c] X.env)).any (·.1) = false := by rfl) : PI X tg (.Call (.Name "range" p) [a, b, c] [] pos) (tI X W (iDown as)) := by
  refine (pi_range3 hg hm ha hs hpl).wk fun σ H R ⟨w, G, h, g, r, o⟩ => ⟨w, G, h, g, r, OutI.bindA (as := as) o fun d h2 v w1 H1 em l r1 x o1 => ?_⟩
  split at o1
  · rename_i i j k
    split at o1
    · rename_i cc
      obtain ⟨rfl, cc⟩ := cc
      have cc : -1000000 ≤ i ∧ i ≤ 1000000 ∧ j ≤ 1000000 ∧ -1000000 ≤ j := cc
      obtain ⟨v, v2, v3, rfl, rv, rv2, rv3⟩ := ra_three x
      cases rv
      cases rv2
      cases rv3
      exact ⟨i, j, -1, _, rfl, RgC.neg (by omega) (by omega) (by omega) (by omega), o1 _ w1 H1 (Le.refl _) r1 Walks.down⟩
    · exact o1.elim
  · exact o1.elim
/-! l.extend(xs), xs a list -/
variable {o : Expr} {ma : Me} {apos cpos : Pos}
theorem mt_extendR : MtM X "list.extend" rExt3 := by
  intro pins s σ H x vs v us Q I rx rv h
  obtain ⟨l, b, xs, zs, rfl, rfl, hH, hB, hz, q⟩ := h
  cases rx
  obtain ⟨u, rfl, ru⟩ := rv.one
  cases ru
  obtain ⟨z, its, n, r, hl, e⟩ := I.lstM hH
  obtain ⟨z2, its2, n2, r2, e2⟩ := hB.ok I.hok
  have hl2 := r2.length
  have hsz : its.toArray.size + its2.toArray.size ≤ sizeLine := by rw [List.size_toArray, List.size_toArray]; omega
  have hlong : ¬ (!its.toArray.isEmpty && Builtin.List.listTooLong (its.toArray.size + its2.toArray.size)) = true := by
    rw [notLongL hsz, Bool.and_false]
    exact Bool.false_ne_true
  refine call_meets F.slot_list_extend ⟨_, e, rfl⟩ F.entry_list_extend (F.args_list_extend_2 _ _)
    (AutoSeq1.list_extend_list_list_0 l its.toArray n b its2.toArray n2 hlong (by rw [List.size_toArray]; omega) (by omega)) ⟨e, e2, ?_⟩
  refine ⟨.non, _, I.lset (its' := its ++ its2) hH e (by simp) (r.append r2) ?_, rfl, q⟩
  rw [List.length_append]
  omega
theorem fol_ext : FolM X W fExt rExt3 := by
  intro w h H σ Q v d vs ds rh rv ra o
  unfold fExt at o
  split at o
  · rename_i n y
    split at o
    · rename_i es e
      split at o
      · rename_i fs e3
        split at o
        · rename_i c
          cases rv with
          | loc hn =>
            obtain ⟨u, rfl, ru⟩ := ra_one ra
            obtain ⟨_, xs, e1, rx⟩ := rh.cell n _ e
            obtain ⟨b, zs, rfl, hB, rz⟩ := vR_rep rh ru e3
            exact ⟨w.mu n, b, xs, zs, rfl, rfl, e1, hB, big_le (by rw [rx.length, rz.length]; exact c), out_set hn o rh .non (rx.append rz)⟩
        · exact o.elim
      · exact o.elim
    · exact o.elim
  · exact o.elim
theorem e_ext (ho : PE X o (TM X W ma)) (ha : PA X [e] (TAr X W as))
    (hbase : attributeBase o "extend" X.env (eval o X.env) = eval o X.env := by rfl)
    (hfew : ((backTo cpos (starEach [e] X.env)).all (fun x => !x.1) && (backToKw cpos (keywordEach [] X.env)).all (fun x => x.1.isSome)
      && decide (([e] : List Expr).length + ([] : List Keyword).length + (if ([] : List Keyword).isEmpty then 0 else 1) < 30)) = true := by rfl)
    (hline : (apos.endLine == cpos.line) = true := by rfl) (hs : starEach [e] X.env = (false, eval e X.env) :: starEach [] X.env := by rfl) (hplain : (backTo cpos (starEach [] X.env)).any (·.1) = false := by rfl) :
    PE X (.Call (.Attribute o "extend" apos) [e] [] cpos) (TM X W (mBM fExt ma as)) :=
  e_bm PySem.F.slot_list_extend PySem.F.type_list_extend mt_extendR fol_ext ho ha hbase hfew hline hs hplain
end
end AB
/-! AB: what the printed texts use. -/
namespace AB
open PySem PySem.Spec PyProof.Rows L2

/-- the def x keeps its mirror's promise -/
structure Has (P : Program) (w : World) (K : PySem.W.Frag) (mg : Str → Option Value) (base : Heap) (x : Str) (k : Nat) (ps : List Str) (sp : Sp) : Prop where
  ex : ∃ f fd, mg x = some (.ref f) ∧ PySem.W.keepIn K (.ref f) = true ∧ Binds K fd ps [] ∧ FnOk P w K mg base (L2.CX P w) k f fd ps sp
theorem hu65 {k : Nat} {A : Around} (hr : Room k A) : A.units + 65 < cLine := by
  have := hr.un
  omega
theorem hu64 {k : Nat} {A : Around} (hr : Room k A) : A.units + 64 < cLine := by
  have := hr.un
  omega
theorem hu67 {k : Nat} {A : Around} (hr : Room k A) : A.units + 67 < cLine := by
  have := hr.un
  omega
section
variable {X : Cx} {W : WX} {pos p : Pos} {e : Expr} {es : List Expr} {as : MeL} {x : Str} {k k' : Nat} {ps : List Str} {m : Fn} {ml : FnL}
theorem e_callH (F : Has X.prog X.w X.K X.mg X.base x k ps (spM X.K X.mg m)) (hr : Room k' X.A) (tk : Takes X W)
    (ha : PA X (e :: es) (TAr X W as)) (hk' : k ≤ k' := by first | decide | omega) (hg : Gl X x := by rfl) (hdb : (x == ("__debug__" : Str)) = false := by decide) (he : starEach (e :: es) X.env = (false, eval e X.env) :: starEach es X.env := by rfl) (hpl : (backTo pos (starEach es X.env)).any (·.1) = false := by rfl) :
    PE X (.Call (.Name x p) (e :: es) [] pos) (TM X W (mN m as)) := by
  obtain ⟨f, fd, h1, h2, h3, h4⟩ := F.ex
  exact e_call h4 hr hk' tk h1 h2 h3 ha hg hdb he hpl
theorem f_callH (F : Has X.prog X.w X.K X.mg X.base x k ps (spL X.K X.mg ml)) (hr : Room k' X.A) (tk : Takes X W)
    (ha : PA X (e :: es) (TAr X W as)) (hk' : k ≤ k' := by first | decide | omega) (hg : Gl X x := by rfl) (hdb : (x == ("__debug__" : Str)) = false := by decide) (he : starEach (e :: es) X.env = (false, eval e X.env) :: starEach es X.env := by rfl) (hpl : (backTo pos (starEach es X.env)).any (·.1) = false := by rfl) :
    PE X (.Call (.Name x p) (e :: es) [] pos) (TF X W (lN ml as)) := by
  obtain ⟨f, fd, h1, h2, h3, h4⟩ := F.ex
  exact f_call h4 hr hk' tk h1 h2 h3 ha hg hdb he hpl
theorem e_globI {i : Int} (hm : ∃ t : Tok, X.mg x = some (.int i t)) (hg : Gl X x := by rfl) (hd : (x == ("__debug__" : Str)) = false := by decide) : PE X (.Name x pos) (TM X W (mC (.int i))) := by
  obtain ⟨t, hm⟩ := hm
  exact e_glob (v := .int i) hm ⟨t, rfl⟩ (fun _ => .int i) hg hd
/-! < of ints, else of data -/
def isII (x y : D) : Option (Int × Int) := match x, y with
  | .int i, .int j => some (i, j)
  | _, _ => none
def oII (f : Int → Int → Bool) (g : D → D → AH → Res D) (x y : D) (h : AH) : Res D := match isII x y with
  | some (i, j) => .ok (.bl (f i j)) h
  | none => g x y h
def cLt : D → D → AH → Res D := oII (fun i j => decide (i < j)) fLtD
def cLe : D → D → AH → Res D := oII (fun i j => decide (i ≤ j)) fLeD
def cGt : D → D → AH → Res D := oII (fun i j => decide (j < i)) fGtD
def cGe : D → D → AH → Res D := oII (fun i j => decide (j ≤ i)) fGeD
def rII (K : PySem.W.Frag) (f : Int → Int → Bool) (g : PyData → PyData → Bool) : R2 := fun x y H Q => rI0 (fun i j => .bl (f i j)) x y H Q ∨ rLtD K g x y H Q
theorem fol_ii {f : Int → Int → Bool} {g : PyData → PyData → Bool} {gg : D → D → AH → Res D} (hg : Fol2 X W gg (rLtD X.K g)) : Fol2 X W (oII f gg) (rII X.K f g) := by
  intro w h H σ Q v1 v2 d1 d2 rh r1 r2 o
  unfold oII at o
  split at o
  · rename_i i j e
    have : d1 = .int i ∧ d2 = .int j := by
      cases d1 <;> cases d2 <;> first | (cases e; exact ⟨rfl, rfl⟩) | cases e
    obtain ⟨rfl, rfl⟩ := this
    cases r1
    cases r2
    exact .inl ⟨i, j, rfl, rfl, out_ok o rh (.bl _)⟩
  · exact .inr (hg w h H σ Q v1 v2 d1 d2 rh r1 r2 o)
theorem op_cLt (hu : X.A.units + 65 < cLine) : OpR X (compareOp .Lt) (rII X.K (fun i j => decide (i < j)) fun d e => PySem.W.dataLt d e) := OpR.or op_lt (op_ltD hu)
theorem op_cLe (hu : X.A.units + 65 < cLine) : OpR X (compareOp .LtE) (rII X.K (fun i j => decide (i ≤ j)) fun d e => !PySem.W.dataLt e d) := OpR.or op_le (op_leD hu)
theorem op_cGt (hu : X.A.units + 65 < cLine) : OpR X (compareOp .Gt) (rII X.K (fun i j => decide (j < i)) fun d e => PySem.W.dataLt e d) := OpR.or op_gt (op_gtD hu)
theorem op_cGe (hu : X.A.units + 65 < cLine) : OpR X (compareOp .GtE) (rII X.K (fun i j => decide (j ≤ i)) fun d e => !PySem.W.dataLt d e) := OpR.or op_ge (op_geD hu)
theorem fol_cLt : Fol2 X W cLt (rII X.K (fun i j => decide (i < j)) fun d e => PySem.W.dataLt d e) := fol_ii (fol_ltD fun _ _ _ => rfl)
theorem fol_cLe : Fol2 X W cLe (rII X.K (fun i j => decide (i ≤ j)) fun d e => !PySem.W.dataLt e d) := fol_ii (fol_ltD (f := fun d e => !PySem.W.dataLt e d) fun _ _ _ => rfl)
theorem fol_cGt : Fol2 X W cGt (rII X.K (fun i j => decide (j < i)) fun d e => PySem.W.dataLt e d) := fol_ii (fol_ltD (f := fun d e => PySem.W.dataLt e d) fun _ _ _ => rfl)
theorem fol_cGe : Fol2 X W cGe (rII X.K (fun i j => decide (j ≤ i)) fun d e => !PySem.W.dataLt d e) := fol_ii (fol_ltD (f := fun d e => !PySem.W.dataLt d e) fun _ _ _ => rfl)
end
section
variable {X : Cx} {x : Str} {pos : Pos} {i kk : Nat} {e : Expr} {es : List Expr} {p : Pat} {ps : List Pat}
theorem pg_nmP (hN : X.N.Nodup) (hi : X.N[i]? = some x) (hx : Loc X.env.scope x := by first | exact Or.inl rfl | exact Or.inr rfl) (hf : X.fn x = true ∨ X.env.scope.names.lookup x = some .local := by first | exact .inl rfl | exact .inr rfl) : PG X (.Name x pos) (gP X.K (.nm i)) := by
  unfold gP
  exact pg_name hN hi hx hf
theorem pgs_nilP : PGs X [] (gPs X.K []) := by
  unfold gPs
  exact pgs_nil
theorem pgs_consP (h1 : PG X e (gP X.K p)) (h2 : PGs X es (gPs X.K ps)) (hs : (assignEach (e :: es) X.env).map (·.2) = assign e X.env :: (assignEach es X.env).map (·.2) := by rfl) : PGs X (e :: es) (gPs X.K (p :: ps)) := by
  unfold gPs
  exact pgs_cons h1 h2 hs
theorem pg_tpP (hc : X.calm = true) (h : PGs X es (gPs X.K ps)) (hn : (assignEach es X.env).length = ps.length := by rfl) (hst : (assignEach es X.env).findIdx? (·.1) = none := by rfl) : PG X (.Tuple es kk pos) (gP X.K (.tp ps)) := by
  unfold gP
  exact pg_tup hc h hn hst
end
theorem p_yes {X : Cx} {W : WX} : PTs X [] (TTT X W tYesM) := ⟨fun pins s σ H Q I ⟨w, G, h, g, r, o⟩ => pts_nil.run pins s σ H Q I (o w H (Le.refl _) r)⟩
theorem ints_rep {K : PySem.W.Frag} {w : Wd} : ∀ (ns : List Int), Ra K w (ns.map V.int) (ns.map D.int)
  | [] => .nil
  | n :: ns => .cons (.int n) (ints_rep ns)
/-- the end: the mirror of law, from the script -/
def spLaw (K : PySem.W.Frag) : Sp := fun vs H Q _ => ∃ (a : Addr) (ns : List Int), vs = [.ref a] ∧ SqL K H a (ns.map V.int) ∧ ns.length ≤ 63 ∧ ∀ H', Q (.bl true) H'
theorem sp_law {K : PySem.W.Frag} {mg : Str → Option Value} {m : Fn} (ht : ∀ ns : List Int, ns.length ≤ 63 → ∃ h, m [.rol (ns.map D.int)] [] = .ok (.bl true) h) {vs : List V} {H : Hp} {Q : VK} {E : XK} (h : spLaw K vs H Q E) : spM K mg m vs H Q E := by
  obtain ⟨a, ns, rfl, hS, hl, hQ⟩ := h
  obtain ⟨h, e⟩ := ht ns hl
  refine ⟨⟨H, fun _ => none, fun _ => 0, 0, fun _ => none⟩, [.rol (ns.map D.int)], [], .cons (.rol hS (ints_rep ns)) .nil, ⟨Ext.refl _, rfl, fun m n hm _ _ => absurd hm (Nat.not_lt_zero _), fun n o e => (by simp at e), fun _ _ e => (by cases e), fun _ _ e => (by cases e)⟩, ?_⟩
  rw [e]
  intro v w' H' l r x
  cases x
  exact hQ H'
end AB
/-! AB: repr in the law's own def, which knows that nothing is guarded. -/
namespace AB
open PySem PySem.Spec PyProof.Rows L2

section
variable {X : Cx} {W : WX} {pos p : Pos} {e : Expr} {as : MeL}
def isSeqP : PyData → Bool
  | .tuple _ => true
  | .list _ => true
  | _ => false
def fRepr (xs : List D) (h : AH) : Res D := match xs with
  | [d] => match toPh h d with
    | some p => if isSeqP p = true ∧ p.showable = true ∧ p.hasDict = false ∧ p.depth ≤ 60 ∧ p.shown.length ≤ big then .ok (.str p.shown) h else .stuck
    | none => .stuck
  | _ => .stuck
def rReprD (K : PySem.W.Frag) : List V → Hp → VK → Prop := fun xs H Q => ∃ x d, xs = [x] ∧ Dp K H x d ∧ isSeqP d = true ∧ d.showable = true ∧ d.hasDict = false ∧ d.depth ≤ 60 ∧ d.shown.length ≤ sizeLine ∧ Q (.str d.shown) H
theorem cr_repr (hg : X.A.guards = some []) (hu : X.A.units + 65 < cLine) : CallR X (.builtin "repr") (rReprD X.K) := by
  intro pins s σ H xs us Q I r h
  obtain ⟨x, d, rfl, hd, hs, h1, h2, h3, h4, q⟩ := h
  obtain ⟨u, rfl, ru⟩ := r.one
  obtain ⟨as, rd⟩ := Dp.reads I d x u hd ru
  have hr : ∃ a, u = .ref a := by
    cases hd with
    | tup _ _ => cases ru; exact ⟨_, rfl⟩
    | lst _ _ => cases ru; exact ⟨_, rfl⟩
    | _ => cases hs
  obtain ⟨a, rfl⟩ := hr
  exact repr_of_reads' rd h1 (fun z => by rw [h2] at z; cases z) hg (by omega) (fun _ _ e => e) (fun h' u tk hk => ⟨.str d.shown, H, I.kept hk, ⟨u, rfl⟩, q⟩) h4
theorem fol_repr : FolN X W fRepr (rReprD X.K) := by
  intro w h H σ Q vs ds rh ra o
  unfold fRepr at o
  split at o
  · obtain ⟨v, rfl, rv⟩ := ra_one ra
    split at o
    · rename_i pd e
      split at o
      · rename_i c
        obtain ⟨c1, c2, c3, c4, c5⟩ := c
        exact ⟨v, pd, rfl, toPh_rep rh rv e, c1, c2, c3, c4, big_le c5, out_ok o rh (.str _)⟩
      · exact o.elim
    · exact o.elim
  · exact o.elim
theorem e_repr (gd : X.A.guards = some []) (hu : X.A.units + 65 < cLine) (hm : X.mg "repr" = none) (ha : PA X [e] (TAr X W as)) (hg : Gl X "repr" := by rfl) (he : starEach [e] X.env = (false, eval e X.env) :: starEach [] X.env := by rfl) :
    PE X (.Call (.Name "repr" p) [e] [] pos) (TM X W (mN fRepr as)) :=
  e_blt (cr_repr gd hu) fol_repr hm ha hg (by decide +kernel) (by decide) (by decide) he rfl
end
/-! != of texts -/
def fNeS (x y : D) (h : AH) : Res D := match x, y with
  | .str i, .str j => .ok (.bl (i != j)) h
  | _, _ => .stuck
theorem op_neS {X : Cx} : OpR X (compareOp .NotEq) (fun x y H Q => ∃ i j, x = .str i ∧ y = .str j ∧ Q (.bl (i != j)) H) := by
  intro pins s σ H x y v u Q I rx ry h
  obtain ⟨i, j, rfl, rfl, q⟩ := h
  obtain ⟨t, rfl⟩ := rx
  obtain ⟨t', rfl⟩ := ry
  exact PyProof.Rows.ne_str ⟨.bl _, H, I, rfl, q⟩
theorem fol_neS {X : Cx} {W : WX} : Fol2 X W fNeS (fun x y H Q => ∃ i j, x = .str i ∧ y = .str j ∧ Q (.bl (i != j)) H) := by
  intro w h H σ Q v1 v2 d1 d2 rh r1 r2 o
  unfold fNeS at o
  split at o
  · cases r1
    cases r2
    exact ⟨_, _, rfl, rfl, out_ok o rh (.bl _)⟩
  · exact o.elim
@[simp] theorem v_neS {h : AH} (x : Str) : fNeS (.str x) (.str x) h = .ok (.bl false) h := by
  show Res.ok (D.bl (x != x)) h = _
  simp
/-- the law's def, called as the claim calls it -/
def LawAt (P : Program) (w : World) (K : PySem.W.Frag) (mg : Str → Option Value) (base : Heap) (CX : CXT) (f : Addr) (fd : FuncData) (ps : List Str) (sp : Sp) : Prop :=
  ∀ (s : Shared) (H : Hp) (args : Args) (us : List Value) (vs : List V) (Q : VK) (E : XK), Env0 P w K mg base callerA [] s H → BindsTo s fd args (ps.zip us) → Vals vs us → sp vs H Q E →
    codeAny (model P w) callerA (.call (.ref f) args) (CR CX [] P w H s Q E) s
/-- .. by its body -/
theorem law_of {CX : CXT} {P : Program} {w : World} {K : PySem.W.Frag} {mg : Str → Option Value} {base : Heap} {k : Nat} {f : Addr} {x qual : Str} {st : Stmt} {fd : FuncData} {N ps : List Str} {sp : Sp}
    (F : Fun K x qual st f fd) (S : FnScope N ps (defScope st)) (hr : Room (k + 1) callerA)
    (len : ∀ vs H Q E, sp vs H Q E → vs.length = ps.length)
    (hbody : ∀ (cdv : Value) (s : Shared) (H : Hp) (vs : List V) (Q : VK) (E : XK), Room k (callerA.deeper (envOfC qual (defScope st) s.heap.objs.size f cdv)) → sp vs H Q E →
      ∃ t, PSs (cxOf CX P w K mg base N qual (defScope st) f cdv callerA [] s H E) (defBody st) t ∧ t { nx := fun _ H' => Q .non H', rt := Q } (L2.start N vs) H) :
    LawAt P w K mg base CX f fd ps sp := by
  obtain ⟨oc, od, kV, doc, pm, an, cdv, ct, osl, rfl, lk, hcd⟩ := F.ex
  intro s H args us vs Q E e0 hb r hsp
  have hl := len _ _ _ _ hsp
  have keepB : ∀ b o, base.get? b = some o → s.heap.get? b = some o := fun b o e => (e0.bs b o e).1
  have KX : K.In s.heap := e0.mod.kin.keeps keepB
  have lim : s.heap.NoLimit := e0.mod.nolimit.keeps keepB
  have kinds : ∀ y ∈ ps.zip us, (defScope st).names.lookup y.1 = some .local ∨ ((defScope st).names.lookup y.1 = some .cell ∧ ((cellsFrom (s.heap.objs.size + 1) (defScope st).names []).lookup y.1).isSome = true) := by
    rintro ⟨n, v⟩ hy
    exact (S.par n (List.of_mem_zip hy).1).imp id fun q => ⟨q, PySem.W.cellsFrom_some _ _ _ (.inl q)⟩
  refine codeAny_call_function hr.depth (KX _ _ lk) rfl S.co S.gen rfl (PySem.W.codeRec_of KX hcd) (hb _ _ _ _ (wpAny_newFunctionEnv_cells S.kind kinds fun env he s1 x => ?_))
  subst he
  refine ⟨lim.keeps x.toInCall.keep, codeAny_func ?_⟩
  obtain ⟨t, ht, hq⟩ := hbody cdv s H vs Q E (hr.deeper _) hsp
  refine wpAny_mono (ht.run [] s1 (L2.start N vs) H _ (inv_start S hr.hd e0 hl r x) hq) (fun fl s' hs => ?_) fun e s' hs => hs
  cases fl with
  | ret u =>
    obtain ⟨v, σ', H', J, rv, q⟩ := hs
    exact ⟨v, H', J.os, J.bare, J.base, J.hok, rv, q⟩
  | next =>
    obtain ⟨σ', H', J, q⟩ := hs
    exact ⟨.non, H', J.os, J.bare, J.base, J.hok, rfl, q⟩
  | brk => obtain ⟨_, _, _, q⟩ := hs; exact q.elim
  | cont => obtain ⟨_, _, _, q⟩ := hs; exact q.elim

/-- the script as the only thing that is tracked, or one of the module's own objects -/
theorem law_callC {P : Program} {w : World} {K : PySem.W.Frag} {mg mb : Str → Option Value} {CX : CXT} {fa a : Addr} {fd : FuncData} {x : Str} {sp : Sp} {s₁ : Shared} {vs : List Value} {ns : List Int}
    (KX : K.In s₁.heap) (hns : s₁.heap.Ns mainGlobals mg) (hb : s₁.heap.Ns builtinsNs mb) (hbb : ∀ x : Str, x ≠ "__name__" → mb x = bootBuiltins x) (hlim : s₁.heap.NoLimit) (hg : s₁.gens = #[])
    (ha : s₁.heap.get? a = some { cls := .type "list", data := .seq vs.toArray }) (hi : IntsAre vs ns) (hl : ns.length ≤ sizeLine)
    (F : ∀ base : Heap, K.In base → base.Ns mainGlobals mg → LawAt P w K mg base CX fa fd [x] sp) (hbind : ∀ (s : Shared) (u : Value), BindsTo s fd ⟨[u], []⟩ [(x, u)])
    (hsp : ∀ H : Hp, Only H → SqL K H a (ns.map V.int) → sp [.ref a] H (fun v _ => v = .bl true) fun _ _ _ => False)
    (hCX : ∀ H e s', CX [] H s₁ (fun _ _ _ => False) e s' → False) :
    codeAny (model P w) callerA (.call (.ref fa) ⟨[.ref a], []⟩) (fun r s' => r = .ok (.ret (.bool true)) ∧ OldK s₁.heap s'.heap ∧ s'.os = s₁.os ∧ AllBare s'.gens) s₁ := by
  have rv := vals_ints hi
  have lenV := hi.length
  have core : ∀ H : Hp, Only H → SqL K H a (ns.map V.int) → HOk P w H s₁.heap → (∀ b, H b ≠ none → b = a) → (H a ≠ none → K.lookup a = none) →
      codeAny (model P w) callerA (.call (.ref fa) ⟨[.ref a], []⟩) (fun r s' => r = .ok (.ret (.bool true)) ∧ OldK s₁.heap s'.heap ∧ s'.os = s₁.os ∧ AllBare s'.gens) s₁ := by
    intro H hO hS hok hA hK
    have none_of : ∀ {b : Addr}, b ≠ a → H b = none := fun {b} hb => by
      cases q : H b with
      | none => rfl
      | some u => exact absurd (hA b (by rw [q]; simp)) hb
    have dict_none : ∀ {b : Addr} {o : Obj} {es : Array DictEntry} {ep : Nat}, s₁.heap.get? b = some o → o.data = .dict es ep → H b = none := fun {b o es ep} e d => none_of fun z => by
      subst z
      rw [ha] at e
      cases e
      have d' : Data.seq vs.toArray _ = Data.dict es ep := d
      cases d'
    have ns_hid : ∀ {b : Addr} {m : Str → Option Value}, s₁.heap.Ns b m → (hidT s₁.heap H).Ns b m := fun {b m} ⟨o, es, ep, e, d, r⟩ => ⟨o, es, ep, hidT_get e (dict_none e d), d, r⟩
    have hKb : K.In (hidT s₁.heap H) := fun b o e => hidT_get (KX b o e) (by
      cases q : H b with
      | none => rfl
      | some u =>
        have z := hA b (by rw [q]; simp)
        subst z
        rw [hK (by rw [q]; simp)] at e
        cases e)
    have hM : Mod K mg (hidT s₁.heap H) := ⟨hKb, ns_hid hns, ⟨mb, ns_hid hb, hbb⟩, let ⟨mc, h1, h2⟩ := hlim; ⟨mc, ns_hid h1, h2⟩⟩
    have e0 : Env0 P w K mg (hidT s₁.heap H) callerA [] s₁ H := ⟨rfl, hM, fun b o e => of_hidT e, Nat.le_of_eq (hidT_size _ _), trivial, fun b hb => absurd (show b ∈ ([] : List Addr) from hb) (by simp), hok, .of_eq hg⟩
    refine codeAny_mono (F _ hKb (ns_hid hns) s₁ H ⟨[.ref a], []⟩ [.ref a] [.ref a] _ _ e0 (hbind s₁ (.ref a)) (.cons rfl .nil) (hsp H hO hS)) fun r s' h => ?_
    cases r with
    | error e => exact (hCX H e s' h).elim
    | ok fl =>
      cases fl with
      | next => exact False.elim h
      | brk => exact False.elim h
      | cont => exact False.elim h
      | ret u =>
        obtain ⟨v, H', os, bare, un, hok', r', q⟩ := h
        have q' : v = .bl true := q
        subst q'
        obtain rfl : u = Value.bool true := r'
        refine ⟨rfl, OldK.of_keep fun b o e => ?_, os, bare⟩
        cases q : H b with
        | none => exact un.keep b o e q (by intro z; exact absurd (show b ∈ ([] : List Addr) from z) (by simp)) (by simp)
        | some u =>
          rcases hO b with z | ⟨ob, xs, z⟩
          · rw [q] at z; cases z
          · obtain ⟨e1, _⟩ := hok b _ z
            obtain ⟨e2, _⟩ := hok' b _ (un.frzs b ob _ z)
            rw [e] at e1
            cases e1
            exact e2
  cases hk : K.lookup a with
  | some o =>
    have e := KX a o hk
    rw [ha] at e
    cases e
    exact core (fun _ => none) (fun _ => .inl rfl) (.inr ⟨_, vs.toArray, _, hk, rfl, rfl, rfl, by rw [List.size_toArray, lenV]; exact hl, by simpa using rv⟩) (fun b u z => by have z' : (none : Option HO) = some u := z; cases z') (fun b z => absurd rfl z) fun z => absurd rfl z
  | none =>
    refine core (fun b => if b = a then some (.frz { cls := .type "list", data := .seq vs.toArray } (.lst (ns.map V.int))) else none) (fun b => ?_) (.inl (.inr ⟨{ cls := .type "list", data := .seq vs.toArray }, if_pos rfl⟩)) (fun b u z => ?_) (fun b z => ?_) fun _ => hk
    · by_cases hb : b = a
      · exact .inr ⟨_, _, if_pos hb⟩
      · exact .inl (if_neg hb)
    · by_cases hb : b = a
      · have z' := (if_pos hb).symm.trans z
        cases z'
        subst hb
        exact ⟨ha, by rw [List.length_map]; exact hl, vs, _, rv, ha⟩
      · have z' := (if_neg hb).symm.trans z
        cases z'
    · by_cases hb : b = a
      · exact hb
      · exact absurd (if_neg hb) z
theorem walk_ofC {l : PySem.W.OpenLaw} {n : Nat} {q : Program} {loose : List Str} {XP : (Str → Option Value) → Heap → Prop} {YP : World → Heap → Prop} {d : DefRec} {K : Params → PySem.W.Frag} {CX : World → CXT} {sp : World → Sp} {x : Str}
    (hn : l.most = some n) (hn2 : n ≤ sizeLine) (hdf : d.params.defaults = [])
    (hY : ∀ (w : World) (h : Heap), YP w h → (K w.params).In h)
    (F : ∀ (w : World) (mg : Str → Option Value) (fa : Addr) (h : Heap), (K w.params).In h → h.Ns mainGlobals mg → mg d.name = some (.ref fa) →
      ∃ fd : FuncData, (∀ (s : Shared) (u : Value), BindsTo s fd ⟨[u], []⟩ [(x, u)]) ∧
        ∀ base : Heap, (K w.params).In base → base.Ns mainGlobals mg → LawAt l.prog w (K w.params) mg base (CX w) fa fd [x] (sp w))
    (hsp : ∀ (w : World) (H : Hp) (a : Addr) (ns : List Int), ns.length ≤ n → Only H → SqL (K w.params) H a (ns.map V.int) → sp w [.ref a] H (fun v _ => v = .bl true) fun _ _ _ => False)
    (hCX : ∀ (w : World) (H : Hp) (s : Shared) (e : Value) (s' : Shared), CX w [] H s (fun _ _ _ => False) e s' → False) :
    PySem.W.WalkO q loose XP YP l.row.toRowW d [] (fun f vs => PySem.call f vs) := by
  refine Att.attach_call hn hdf fun w s₀ s₁ mg mb fa o pm cd doc a vs ns G Y ho hd hcd hmg hobj hints hlen hg => ?_
  have KX := hY w _ Y
  obtain ⟨fd, hb, hF⟩ := F w mg fa _ KX G.T.g hmg
  exact law_callC KX G.T.g G.T.b G.T.builtins G.T.nolimit hg hobj hints (Nat.le_trans hlen hn2) hF hb (fun H hO hS => hsp w H a ns hlen hO hS) fun H e s' => hCX w H s₁ e s'
/-- the law's def by its mirror -/
theorem law_ok {P : Program} {w : World} {K : PySem.W.Frag} {mg : Str → Option Value} {base : Heap} {x qual : Str} {st : Stmt} {f : Addr} {fd : FuncData} {N ps : List Str} {k : Nat} (F : Fun K x qual st f fd) (S : FnScope N ps (defScope st)) (hr : Room (k + 1) callerA) (m : Ms)
    (hb : ∀ (cdv : Value) (s : Shared) (H : Hp) (E : XK), Room k (callerA.deeper (envOfC qual (defScope st) s.heap.objs.size f cdv)) →
      PSs (cxOf (L2.CX P w) P w K mg base N qual (defScope st) f cdv callerA [] s H E) (defBody st) (tS K mg (fun c dd _ H => E c dd H) m)) :
    LawAt P w K mg base (L2.CX P w) f fd ps (spM K mg (mDef ps.length N.length m)) := by
  refine law_of F S hr (fun vs H Q E h => ?_) fun cdv s H vs Q E hr h => ⟨_, hb cdv s H E hr, sp_start h⟩
  exact sp_len h
theorem LawAt.imp {P : Program} {w : World} {K : PySem.W.Frag} {mg : Str → Option Value} {base : Heap} {CX : CXT} {f : Addr} {fd : FuncData} {ps : List Str} {sp sp' : Sp} (F : LawAt P w K mg base CX f fd ps sp) (h : ∀ vs H Q E, sp' vs H Q E → sp vs H Q E) : LawAt P w K mg base CX f fd ps sp' :=
  fun s H args us vs Q E e0 hb r q => F s H args us vs Q E e0 hb r (h vs H Q E q)
theorem cx_false {P : Program} {w : World} {H : Hp} {s : Shared} {e : Value} {s' : Shared} (h : L2.CX P w [] H s (fun _ _ _ => False) e s') : False := by
  obtain ⟨_, _, _, _, _, _, _, _, _, _, _, _, z⟩ := h
  exact z
end AB
/-! AB: how the mirrors go, as rules of simp. -/
namespace AB
open PySem PySem.Spec PyProof.Rows L2

section
variable {G : Env} {h : AH} {i j : Int} {d e : D} {m a b c : Me} {as : MeL} {t u : MeT} {n : Nat}
@[simp] theorem v_mV (i : Nat) : mV i G h = (match G[i]? with | some (some d) => .ok d h | _ => .stuck) := rfl
@[simp] theorem v_mC : mC d G h = .ok d h := rfl
@[simp] theorem v_mOp2 {f : D → D → AH → Res D} : mOp2 f a b G h = (a G h).bind fun x h1 => (b G h1).bind fun y h2 => f x y h2 := rfl
@[simp] theorem v_mOp1 {f : D → AH → Res D} : mOp1 f a G h = (a G h).bind fun x h1 => f x h1 := rfl
@[simp] theorem v_aNil : aNil G h = .ok [] h := rfl
@[simp] theorem v_aCons : aCons a as G h = (a G h).bind fun x h1 => (as G h1).bind fun xs h2 => .ok (x :: xs) h2 := rfl
@[simp] theorem v_mN {f : List D → AH → Res D} : mN f as G h = (as G h).bind fun xs h1 => f xs h1 := rfl
@[simp] theorem v_lN {f : List D → AH → Res (List D)} : lN f as G h = (as G h).bind fun xs h1 => f xs h1 := rfl
@[simp] theorem v_mL : mL as G h = (as G h).bind fun ds h1 => .ok (.lst ds) h1 := rfl
@[simp] theorem v_mNew : mNew as G h = (as G h).bind fun ds h1 => .ok (.loc h1.length) (h1 ++ [.lst ds]) := rfl
@[simp] theorem v_lLst : lLst as G h = (as G h).bind fun xs h1 => if xs.length ≤ big then .ok xs h1 else .stuck := id rfl
@[simp] theorem v_fTup {ds : List D} : fTup ds h = if ds.length ≤ big then .ok (.tup ds) h else .stuck := id rfl
@[simp] theorem v_tOf : tOf m G h = (m G h).bind fun d h1 => match truD h1 d with | some b => .ok b h1 | none => .stuck := rfl
@[simp] theorem v_tBl : tBl m G h = (m G h).bind fun d h1 => match d with | .bl b => .ok b h1 | _ => .stuck := rfl
@[simp] theorem v_tAnd : tAndM t u G h = (t G h).bind fun c h1 => if c = true then u G h1 else .ok false h1 := rfl
@[simp] theorem v_tOr : tOrM t u G h = (t G h).bind fun c h1 => if c = true then .ok true h1 else u G h1 := rfl
@[simp] theorem v_tNot : tNotM t G h = (t G h).bind fun c h1 => .ok (!c) h1 := rfl
@[simp] theorem v_mAnd : mAnd a b G h = (a G h).bind fun d h1 => match truD h1 d with | some true => b G h1 | some false => .ok d h1 | none => .stuck := rfl
@[simp] theorem v_mOr : mOr a b G h = (a G h).bind fun d h1 => match truD h1 d with | some true => .ok d h1 | some false => b G h1 | none => .stuck := rfl
@[simp] theorem v_mNot : mNot a G h = (a G h).bind fun d h1 => match truD h1 d with | some b => .ok (.bl (!b)) h1 | none => .stuck := rfl
@[simp] theorem v_mIf : mIf t a b G h = (t G h).bind fun c h1 => if c = true then a G h1 else b G h1 := rfl
@[simp] theorem v_mChain {f g : D → D → AH → Res D} : mChain f g a b c G h = (a G h).bind fun x h1 => (b G h1).bind fun y h2 => (f x y h2).bind fun z h3 => match z with
  | .bl true => (c G h3).bind fun u h4 => g y u h4
  | .bl false => .ok (.bl false) h3
  | _ => .stuck := rfl
@[simp] theorem v_mIsi (T : Ty) : mIsi T m G h = (m G h).bind fun d h1 => match tyD h1 d with | some t => .ok (.bl (t.sub T)) h1 | none => .stuck := rfl
@[simp] theorem v_oNone : oNone G h = .ok none h := rfl
@[simp] theorem v_oSome : oSome m G h = (m G h).bind fun d h1 => match d with | .int i => .ok (some i) h1 | _ => .stuck := rfl
@[simp] theorem v_yes : tYesM G h = .ok true h := rfl
@[simp] theorem v_sNil : sNil G h = .next G h := rfl
@[simp] theorem v_sSeq {x y : Ms} : sSeq x y G h = (x G h).andThen y := rfl
@[simp] theorem v_sSet (i : Nat) : sSet i m G h = (m G h).toS G fun d h1 => .next (G.set i (some d)) h1 := rfl
@[simp] theorem v_sRet : sRet m G h = (m G h).toS G fun d h1 => .ret d h1 := rfl
@[simp] theorem v_sExpr : sExpr m G h = (m G h).toS G fun _ h1 => .next G h1 := rfl
@[simp] theorem v_sIf {x y : Ms} : sIf t x y G h = (t G h).toS G fun c h1 => if c = true then x G h1 else y G h1 := rfl
@[simp] theorem v_sNever : sNever G h = .stuck := rfl
@[simp] theorem v_sSub : sSub a b m G h = (m G h).toS G fun x h1 => (a G h1).toS G fun d h2 => (b G h2).toS G fun j h3 => match d, j with
  | .loc n, .int k => match h3[n]? with
    | some (.lst ds) => match ixN ds.length k with
      | some m => .next G (h3.set n (.lst (ds.set m x)))
      | none => .stuck
    | _ => .stuck
  | _, _ => .stuck := rfl
@[simp] theorem v_mBM {f : D → List D → AH → Res D} : mBM f m as G h = (m G h).bind fun d h1 => match vL h1 d with | some _ => (as G h1).bind fun xs h2 => f d xs h2 | none => .stuck := rfl
@[simp] theorem v_sFor {p : Pat} {it : Im} {x : Ms} : sFor p it x G h = (it G h).toS G fun a h1 => forGo p x a.2 a.1 a.1 G h1 := rfl
@[simp] theorem v_lComp {p : Pat} {vs : List Nat} {it : Im} : lComp p vs it t m G h = (it G h).bind fun a h1 => if a.1.length ≤ big then compGo p t m a.2 a.1 (wipeG G vs) a.1 h1 else .stuck := id rfl
@[simp] theorem v_iSeq : iSeq m G h = (m G h).bind fun d h1 => match d with
  | .tup ds => .ok (ds, none) h1
  | .lst ds => .ok (ds, none) h1
  | .rol ds => .ok (ds, none) h1
  | .loc n => match h1[n]? with
    | some (.lst ds) => .ok (ds, some n) h1
    | _ => .stuck
  | _ => .stuck := rfl
/-! values -/
@[simp] theorem v_ii : isII (.int i) (.int j) = some (i, j) := rfl
@[simp] theorem v_cLt : cLt (.int i) (.int j) h = .ok (.bl (decide (i < j))) h := rfl
@[simp] theorem v_cLe : cLe (.int i) (.int j) h = .ok (.bl (decide (i ≤ j))) h := rfl
@[simp] theorem v_cGt : cGt (.int i) (.int j) h = .ok (.bl (decide (j < i))) h := rfl
@[simp] theorem v_cGe : cGe (.int i) (.int j) h = .ok (.bl (decide (j ≤ i))) h := rfl
@[simp] theorem v_add : fAdd (.int i) (.int j) h = .ok (.int (i + j)) h := rfl
@[simp] theorem v_sub : fSub (.int i) (.int j) h = .ok (.int (i - j)) h := rfl
@[simp] theorem v_neg : fNeg (.int i) h = .ok (.int (-i)) h := rfl
@[simp] theorem v_mul : fMul (.int i) (.int j) h = if (-(2 ^ 60) ≤ i ∧ i ≤ 2 ^ 60) ∨ (-(2 ^ 60) ≤ j ∧ j ≤ 2 ^ 60) then .ok (.int (i * j)) h else .stuck := id rfl
@[simp] theorem v_mod : fMod (.int i) (.int j) h = if 0 < j then .ok (.int (i % j)) h else .stuck := id rfl
@[simp] theorem v_div : fDiv (.int i) (.int j) h = if 0 < j ∧ j ≤ 2 ^ 60 then .ok (.int (i / j)) h else .stuck := id rfl
@[simp] theorem v_pow : fPow (.int i) (.int j) h = if 0 ≤ j ∧ j ≤ 1000 ∧ 0 ≤ i ∧ i ≤ 1000 then .ok (.int (i ^ j.toNat)) h else .stuck := id rfl
@[simp] theorem v_int : fInt [.int i] h = .ok (.int i) h := rfl
@[simp] theorem v_intB {b : Bool} : fInt [.bl b] h = .ok (.int (if b then 1 else 0)) h := rfl
@[simp] theorem v_abs : fAbs [.int i] h = .ok (.int (if i < 0 then -i else i)) h := rfl
theorem okP_int : okP h (.int i) = some (.int i) := rfl
theorem okP_bl {b : Bool} : okP h (.bl b) = some (.bool b) := rfl
theorem okP_non : okP h .non = some .none := rfl
@[simp] theorem v_eq : fEq (.int i) (.int j) h = .ok (.bl (decide (i = j))) h := by
  show Res.ok (D.bl (PyData.eqv (.int i) (.int j))) h = _
  simp only [PyData.eqv]
  rfl
@[simp] theorem v_ne : fNe (.int i) (.int j) h = .ok (.bl (!decide (i = j))) h := by
  show Res.ok (D.bl (!PyData.eqv (.int i) (.int j))) h = _
  simp only [PyData.eqv]
  rfl
@[simp] theorem v_eqB {b c : Bool} : fEq (.bl b) (.bl c) h = .ok (.bl (decide (b = c))) h := by
  show Res.ok (D.bl (PyData.eqv (.bool b) (.bool c))) h = _
  simp only [PyData.eqv]
  cases b <;> cases c <;> rfl
@[simp] theorem v_isB {b c : Bool} : fIsB (.bl b) (.bl c) h = .ok (.bl (decide (b = c))) h := rfl
@[simp] theorem v_notB {b c : Bool} : fNotB (.bl b) (.bl c) h = .ok (.bl (!decide (b = c))) h := rfl
@[simp] theorem v_truB {b : Bool} : truD h (.bl b) = some b := rfl
@[simp] theorem v_truI : truD h (.int i) = some (i != 0) := rfl
@[simp] theorem v_vSt {ds : List D} : vS h (.tup ds) = some ds := rfl
@[simp] theorem v_vSl {ds : List D} : vS h (.lst ds) = some ds := rfl
@[simp] theorem v_vSr {ds : List D} : vS h (.rol ds) = some ds := rfl
@[simp] theorem v_vSo : vS h (.loc n) = (match h[n]? with | some (.lst ds) => some ds | _ => none) := rfl
@[simp] theorem v_vLl {ds : List D} : vL h (.lst ds) = some ds := rfl
@[simp] theorem v_vLr {ds : List D} : vL h (.rol ds) = some ds := rfl
@[simp] theorem v_vLo : vL h (.loc n) = (match h[n]? with | some (.lst ds) => some ds | _ => none) := rfl
@[simp] theorem v_ix : fIx d (.int i) h = (match vS h d with | some ds => (match atI ds i with | some d => .ok d h | none => .stuck) | none => .stuck) := rfl
@[simp] theorem v_len (hd : ∀ x, d ≠ .str x) : fLen [d] h = (match vS h d with | some ds => .ok (.int ds.length) h | none => .stuck) := by
  cases d with
  | str x => exact absurd rfl (hd x)
  | _ => rfl
@[simp] theorem v_tuple : fTuple [d] h = (match vS h d with | some ds => .ok (.tup ds) h | none => .stuck) := rfl
@[simp] theorem v_list : lList [d] h = (match vS h d with | some ds => .ok ds h | none => .stuck) := rfl
@[simp] theorem v_app : fApp (.loc n) [d] h = (match h[n]? with | some (.lst ds) => if ds.length < big then .ok .non (h.set n (.lst (ds ++ [d]))) else .stuck | _ => .stuck) := id rfl
@[simp] theorem v_tyI : tyD h (.int i) = some .int := rfl
@[simp] theorem v_tyB {b : Bool} : tyD h (.bl b) = some .bl := rfl
@[simp] theorem v_tyT {ds : List D} : tyD h (.tup ds) = some .tup := rfl
@[simp] theorem v_tyN : tyD h .non = some .non := rfl
@[simp] theorem v_range1 : iRange1 as G h = (as G h).bind fun xs h1 => match xs with
  | [.int j] => if okR j then .ok (rangeD 0 j.toNat, none) h1 else .stuck
  | _ => .stuck := rfl
@[simp] theorem v_range2 : iRange2 as G h = (as G h).bind fun xs h1 => match xs with
  | [.int i, .int j] => if okR2 i j then .ok (rangeD i (j - i).toNat, none) h1 else .stuck
  | _ => .stuck := rfl
@[simp] theorem v_down : iDown as G h = (as G h).bind fun xs h1 => match xs with
  | [.int i, .int j, .int k] => if k = -1 ∧ okR2 i j then .ok (downD i (i - j).toNat, none) h1 else .stuck
  | _ => .stuck := rfl
end
theorem big_eq : big = 1000000 := rfl
/-- an index within -/
theorem atI_nat {α : Type} {xs : List α} {i : Int} {x : α} (h0 : 0 ≤ i) (hx : xs[i.toNat]? = some x) : atI xs i = some x := by
  have hl := (List.getElem?_eq_some_iff.mp hx).1
  unfold atI ixN
  rw [if_pos h0, if_pos (by omega)]
  exact hx
theorem atI_map {α β : Type} (f : α → β) (xs : List α) (i : Int) : atI (xs.map f) i = (atI xs i).map f := by
  unfold atI
  rw [List.length_map]
  cases ixN xs.length i with
  | none => rfl
  | some j => simp
theorem atI_some {α : Type} {xs : List α} {i : Int} (h0 : 0 ≤ i) (h1 : i < xs.length) : ∃ x, atI xs i = some x ∧ x ∈ xs := by
  have hl : i.toNat < xs.length := by omega
  exact ⟨xs[i.toNat], atI_nat h0 (List.getElem?_eq_getElem hl), List.getElem_mem hl⟩
section
variable {α : Type} {x0 x1 x2 x3 x4 : α} {xs : List α}
@[simp] theorem atI_0 : atI (x0 :: xs) 0 = some x0 := atI_nat (Int.le_refl _) rfl
@[simp] theorem atI_1 : atI (x0 :: x1 :: xs) 1 = some x1 := atI_nat (by decide) rfl
@[simp] theorem atI_2 : atI (x0 :: x1 :: x2 :: xs) 2 = some x2 := atI_nat (by decide) rfl
@[simp] theorem atI_3 : atI (x0 :: x1 :: x2 :: x3 :: xs) 3 = some x3 := atI_nat (by decide) rfl
@[simp] theorem atI_4 : atI (x0 :: x1 :: x2 :: x3 :: x4 :: xs) 4 = some x4 := atI_nat (by decide) rfl
end
/-- the last -/
theorem atI_last {α : Type} {xs : List α} : atI xs (-1) = xs.getLast? := by
  unfold atI ixN
  rw [if_neg (by decide)]
  cases xs with
  | nil => rfl
  | cons x r =>
    have h : -((x :: r).length : Int) ≤ -1 := by
      rw [List.length_cons]
      omega
    rw [if_pos h]
    have e : (-1 + (((x :: r).length : Nat) : Int)).toNat = (x :: r).length - 1 := by
      rw [List.length_cons]
      omega
    show (x :: r)[(-1 + (((x :: r).length : Nat) : Int)).toNat]? = _
    rw [e, List.getLast?_eq_getElem?]
end AB
/-! AB: loops and comprehensions whose source stays; in, all, any, max; what defs hand back. -/
namespace AB
open PySem PySem.Spec PyProof.Rows L2

section
variable {α : Type} {p : Pat} {t : MeT} {e : Me} {body : Ms} {all0 : List D} {G0 : Env} {h : AH}
theorem comp_ok (enc : α → D) (q : α → Bool) (f : α → D) : ∀ (xs : List α), (∀ x ∈ xs, ∃ G1, asg p (enc x) G0 = some G1 ∧ t G1 h = .ok (q x) h ∧ (q x = true → e G1 h = .ok (f x) h)) →
    compGo p t e none all0 G0 (xs.map enc) h = .ok ((xs.filter q).map f) h
  | [], _ => by simp [compGo, Still]
  | x :: xs, hx => by
    obtain ⟨G1, e1, e2, e3⟩ := hx x List.mem_cons_self
    have ih := comp_ok enc q f xs fun y hy => hx y (List.mem_cons_of_mem _ hy)
    rw [List.map_cons]
    unfold compGo
    rw [if_pos (by trivial), e1]
    simp only [e2, Res.noX_ok, Res.bind_ok]
    cases hq : q x with
    | true =>
      rw [if_pos rfl, e3 hq, List.filter_cons_of_pos hq]
      simp only [Res.noX_ok, Res.bind_ok, ih, List.map_cons]
    | false =>
      rw [if_neg (by simp), ih, List.filter_cons_of_neg (by simp [hq])]
/-- every element, with no test -/
theorem comp_all (enc : α → D) (f : α → D) (xs : List α) (hx : ∀ x ∈ xs, ∃ G1, asg p (enc x) G0 = some G1 ∧ e G1 h = .ok (f x) h) : compGo p tYesM e none all0 G0 (xs.map enc) h = .ok (xs.map f) h := by
  have := comp_ok (p := p) (t := tYesM) (e := e) (all0 := all0) (G0 := G0) (h := h) enc (fun _ => true) f xs fun x hm => by
    obtain ⟨G1, e1, e2⟩ := hx x hm
    exact ⟨G1, e1, rfl, fun _ => e2⟩
  rw [this, List.filter_eq_self.mpr fun _ _ => rfl]
/-- with a heap that goes on: what is taken is a sublist -/
theorem comp_inv {I : AH → Prop} (enc : α → D) (f : α → D) : ∀ (xs : List α), (∀ x ∈ xs, ∀ h, I h → ∃ G1 b h1, asg p (enc x) G0 = some G1 ∧ t G1 h = .ok b h1 ∧ I h1 ∧ (b = true → ∃ h2, e G1 h1 = .ok (f x) h2 ∧ I h2)) →
    ∀ h, I h → ∃ (ys : List α) (h' : AH), compGo p t e none all0 G0 (xs.map enc) h = .ok (ys.map f) h' ∧ I h' ∧ ys.Sublist xs
  | [], _, h, hI => ⟨[], h, by simp [compGo, Still], hI, .slnil⟩
  | x :: xs, hx, h, hI => by
    obtain ⟨G1, b, h1, e1, e2, hI1, e3⟩ := hx x List.mem_cons_self h hI
    rw [List.map_cons]
    unfold compGo
    rw [if_pos (by trivial), e1]
    simp only [e2, Res.noX_ok, Res.bind_ok]
    cases b with
    | true =>
      obtain ⟨h2, e4, hI2⟩ := e3 rfl
      obtain ⟨ys, h', e5, hI', sl⟩ := comp_inv enc f xs (fun y hy => hx y (List.mem_cons_of_mem _ hy)) h2 hI2
      refine ⟨x :: ys, h', ?_, hI', sl.cons₂ x⟩
      rw [if_pos rfl, e4]
      simp only [Res.noX_ok, Res.bind_ok, e5, List.map_cons]
    | false =>
      obtain ⟨ys, h', e5, hI', sl⟩ := comp_inv enc f xs (fun y hy => hx y (List.mem_cons_of_mem _ hy)) h1 hI1
      refine ⟨ys, h', ?_, hI', sl.cons x⟩
      rw [if_neg (by simp), e5]
/-- a loop that goes on -/
theorem for_inv (I : Env → AH → Prop) (enc : α → D) : ∀ (xs : List α), (∀ x ∈ xs, ∀ G h, I G h → ∃ G1 G2 h2, asg p (enc x) G = some G1 ∧ body G1 h = .next G2 h2 ∧ I G2 h2) →
    ∀ G h, I G h → ∃ G' h', forGo p body none all0 (xs.map enc) G h = .next G' h' ∧ I G' h'
  | [], _, G, h, hI => ⟨G, h, by simp [forGo, Still], hI⟩
  | x :: xs, hx, G, h, hI => by
    obtain ⟨G1, G2, h2, e1, e2, hI2⟩ := hx x List.mem_cons_self G h hI
    obtain ⟨G', h', e3, hI'⟩ := for_inv I enc xs (fun y hy => hx y (List.mem_cons_of_mem _ hy)) G2 h2 hI2
    refine ⟨G', h', ?_, hI'⟩
    rw [List.map_cons]
    unfold forGo
    rw [if_pos (by trivial), e1]
    simp only [e2, e3]
/-- a loop with a count of its turns -/
theorem for_invN (I : Nat → Env → AH → Prop) (enc : Nat → D) (n : Nat) : ∀ (k j : Nat), k + j = n → (∀ i, i < n → ∀ G h, I i G h → ∃ G1 G2 h2, asg p (enc i) G = some G1 ∧ body G1 h = .next G2 h2 ∧ I (i + 1) G2 h2) →
    ∀ G h, I k G h → ∃ G' h', forGo p body none all0 ((List.range' k j).map enc) G h = .next G' h' ∧ I n G' h'
  | k, 0, hk, _, G, h, hI => ⟨G, h, by simp [forGo, Still], by
    have : k = n := by omega
    rw [← this]
    exact hI⟩
  | k, j + 1, hk, hx, G, h, hI => by
    obtain ⟨G1, G2, h2, e1, e2, hI2⟩ := hx k (by omega) G h hI
    obtain ⟨G', h', e3, hI'⟩ := for_invN I enc n (k + 1) j (by omega) hx G2 h2 hI2
    refine ⟨G', h', ?_, hI'⟩
    rw [List.range'_succ, List.map_cons]
    unfold forGo
    rw [if_pos (by trivial), e1]
    simp only [e2, e3]
/-- a loop that ends at the first one found -/
theorem for_find (I : Env → Prop) (enc : α → D) (q : α → Bool) (r : α → D) : ∀ (xs : List α), (∀ x ∈ xs, ∀ G, I G → ∃ G1, asg p (enc x) G = some G1 ∧ (q x = true → body G1 h = .ret (r x) h) ∧ (q x = false → ∃ G2, body G1 h = .next G2 h ∧ I G2)) →
    ∀ G, I G → (∀ x, xs.find? q = some x → forGo p body none all0 (xs.map enc) G h = .ret (r x) h) ∧ (xs.find? q = none → ∃ G', forGo p body none all0 (xs.map enc) G h = .next G' h ∧ I G')
  | [], _, G, hI => ⟨fun x hx => by simp at hx, fun _ => ⟨G, by simp [forGo, Still], hI⟩⟩
  | x :: xs, hx, G, hI => by
    obtain ⟨G1, e1, e2, e3⟩ := hx x List.mem_cons_self G hI
    cases hq : q x with
    | true =>
      refine ⟨fun y hy => ?_, fun hn => ?_⟩
      · rw [List.find?_cons_of_pos hq] at hy
        cases hy
        rw [List.map_cons]
        unfold forGo
        rw [if_pos (by trivial), e1]
        simp only [e2 hq]
      · rw [List.find?_cons_of_pos hq] at hn
        cases hn
    | false =>
      obtain ⟨G2, e4, hI2⟩ := e3 hq
      obtain ⟨i1, i2⟩ := for_find I enc q r xs (fun y hy => hx y (List.mem_cons_of_mem _ hy)) G2 hI2
      have hf : (x :: xs).find? q = xs.find? q := List.find?_cons_of_neg (by simp [hq])
      have hgo : forGo p body none all0 ((x :: xs).map enc) G h = forGo p body none all0 (xs.map enc) G2 h := by
        rw [List.map_cons]
        conv => lhs; unfold forGo
        rw [if_pos (by trivial), e1]
        simp only [e4]
      rw [hf, hgo]
      exact ⟨i1, i2⟩
end
/-! lists of ints as data -/
theorem toPs_ints : ∀ ns : List Int, toPs (ns.map D.int) = some (ns.map PyData.int)
  | [] => rfl
  | n :: ns => by
    show (match toP (D.int n), toPs (ns.map D.int) with | some p, some ps => some (p :: ps) | _, _ => none) = _
    rw [toPs_ints ns]
    rfl
theorem lay_ints : ∀ ns : List Int, PyData.canLayAll0 (ns.map PyData.int) = true
  | [] => by simp [PyData.canLayAll0]
  | n :: ns => by simp [PyData.canLayAll0, PyData.canLay0, lay_ints ns]
theorem dep_ints : ∀ ns : List Int, PyData.depthAll (ns.map PyData.int) = 0
  | [] => by simp [PyData.depthAll]
  | n :: ns => by simp [PyData.depthAll, PyData.depth, dep_ints ns]
theorem shaped_ints (ns : List Int) : SeqAt.shaped (.tuple (ns.map PyData.int)) = true := by
  simp [SeqAt.shaped, PyData.canLay0, PyData.depth, lay_ints, dep_ints]
theorem okP_ints {h : AH} (ns : List Int) : okP h (.tup (ns.map D.int)) = some (.tuple (ns.map PyData.int)) := by
  unfold okP
  have e : toPh h (.tup (ns.map D.int)) = some (.tuple (ns.map PyData.int)) := by
    show (toPs (ns.map D.int)).map PyData.tuple = _
    rw [toPs_ints]
    rfl
  rw [e]
  simp only [shaped_ints, if_true]
theorem any_ints (k : Int) (ns : List Int) : ((ns.map PyData.int).any fun z => PyData.eqv z (.int k)) = decide (k ∈ ns) := by
  induction ns with
  | nil => rfl
  | cons n ns ih =>
    rw [List.map_cons, List.any_cons, ih]
    simp only [PyData.eqv, List.mem_cons]
    by_cases h : n = k
    · subst h
      simp
    · have h2 : ¬ k = n := fun e => h e.symm
      simp [h, h2]
@[simp] theorem v_inT {h : AH} (k : Int) (ns : List Int) : fIn (.int k) (.tup (ns.map D.int)) h = .ok (.bl (decide (k ∈ ns))) h := by
  unfold fIn inD
  rw [okP_int, okP_ints]
  simp only [any_ints]
/-! lists of flags -/
theorem bls_map {α : Type} (f : α → Bool) : ∀ xs : List α, blsOf (xs.map fun x => D.bl (f x)) = some (xs.map f)
  | [] => rfl
  | x :: xs => by
    show (blsOf (xs.map fun x => D.bl (f x))).map (f x :: ·) = _
    rw [bls_map f xs]
    rfl
@[simp] theorem v_all {α : Type} {h : AH} (f : α → Bool) (xs : List α) : fAll [.lst (xs.map fun x => D.bl (f x))] h = .ok (.bl (xs.all f)) h := by
  have e : lBls [.lst (xs.map fun x => D.bl (f x))] h = some (xs.map f) := bls_map f xs
  unfold fAll
  rw [e]
  simp [List.all_map, Function.comp_def]
@[simp] theorem v_any {α : Type} {h : AH} (f : α → Bool) (xs : List α) : fAny [.lst (xs.map fun x => D.bl (f x))] h = .ok (.bl (xs.any f)) h := by
  have e : lBls [.lst (xs.map fun x => D.bl (f x))] h = some (xs.map f) := bls_map f xs
  unfold fAny
  rw [e]
  simp [List.any_map, Function.comp_def]
theorem ints_map : ∀ ns : List Int, intsOf (ns.map D.int) = some ns
  | [] => rfl
  | n :: ns => by
    show (intsOf (ns.map D.int)).map (n :: ·) = _
    rw [ints_map ns]
    rfl
theorem v_max {h : AH} (n : Int) (ns : List Int) : fMax [.lst (D.int n :: ns.map D.int)] h = .ok (.int (maxI (n :: ns))) h := by
  have e : lInts [.lst (D.int n :: ns.map D.int)] h = some (n :: ns) := ints_map (n :: ns)
  unfold fMax
  rw [e]
@[simp] theorem v_addL {h : AH} (xs ys : List D) : fAdd (.lst xs) (.lst ys) h = if xs.length + ys.length ≤ big then .ok (.lst (xs ++ ys)) h else .stuck := id rfl
@[simp] theorem v_addT {h : AH} (xs ys : List D) : fAdd (.tup xs) (.tup ys) h = if xs.length + ys.length ≤ big then .ok (.tup (xs ++ ys)) h else .stuck := id rfl
@[simp] theorem v_enum {h : AH} {G : Env} {as : MeL} : iEnum as G h = (as G h).bind fun xs h1 => match xs with
  | [.tup ds] => .ok (enumD ds, none) h1
  | [d] => match vI d with
    | some ds => .ok (enumD ds, none) h1
    | none => .stuck
  | _ => .stuck := rfl
@[simp] theorem v_zip {h : AH} {G : Env} {as : MeL} : iZip as G h = (as G h).bind fun xs h1 => match xs with
  | [.tup ds, .tup es] => .ok (pairsD ds es, none) h1
  | [d, e] => match vI d, vI e with
    | some ds, some es => .ok (pairsD ds es, none) h1
    | _, _ => .stuck
  | _ => .stuck := rfl
@[simp] theorem v_mSlT {h : AH} {G : Env} {m : Me} {lo hi : MeO} : mSl m lo hi G h = (m G h).bind fun x h1 => (lo G h1).bind fun l h2 => (hi G h2).bind fun u h3 => match x with
  | .tup ds => .ok (.tup (cutD ds l u)) h3
  | d => match vL h3 d with
    | some ds => .ok (.lst (cutD ds l u)) h3
    | none => .stuck := rfl
@[simp] theorem v_sAsg {h : AH} {G : Env} {p : Pat} {m : Me} : sAsg p m G h = (m G h).toS G fun d h1 => match asg p d G with
  | some G1 => .next G1 h1
  | none => .stuck := rfl
theorem enumD_eq (ds : List D) : enumD ds = (List.range ds.length).map fun i : Nat => D.tup [.int (i : Int), ds.getD i .non] := by
  unfold enumD pairsD rangeD
  apply List.ext_getElem?
  intro i
  by_cases hi : i < ds.length
  · simp [List.getElem?_zip_eq_some, hi, List.getD_eq_getElem?_getD]
  · simp [hi]
theorem rangeD_eq (n : Nat) : rangeD 0 n = (List.range n).map fun i : Nat => D.int (i : Int) := by
  unfold rangeD
  simp
theorem rangeD_from (a n : Nat) : rangeD (a : Int) n = (List.range' a n).map fun i : Nat => D.int (i : Int) := by
  unfold rangeD
  rw [List.range'_eq_map_range, List.map_map]
  apply List.map_congr_left
  intro i _
  simp
theorem enumD_len (ds : List D) : (enumD ds).length = ds.length := by rw [enumD_eq]; simp
/-! what defs hand back -/
theorem okCells_app (h t : AH) : OkCells h.length h (h ++ t) := fun m o hm e => .inl (by rwa [List.getElem?_append_left hm] at e)
theorem finD_app (h t : AH) (d : D) (hd : d.under h.length = true) : finD h.length h d (h ++ t) = .ok d h := by
  unfold finD
  by_cases q : (h ++ t).length = h.length
  · have : t = [] := by
      rw [List.length_append] at q
      exact List.eq_nil_of_length_eq_zero (by omega)
    subst this
    simp
  · rw [if_neg q, if_pos ⟨hd, okCells_app h t⟩, List.take_left']
    rfl
@[simp] theorem finD_same (h : AH) (d : D) : finD h.length h d h = .ok d h := by
  unfold finD
  rw [if_pos rfl]
theorem finL_new (h : AH) (ds : List D) (hd : underL h.length ds = true) : finL h.length h (.loc h.length) (h ++ [.lst ds]) = .ok ds h := by
  unfold finL
  have e : (h ++ [AO.lst ds])[h.length]? = some (.lst ds) := by
    rw [List.getElem?_append_right (Nat.le_refl _), Nat.sub_self]
    rfl
  simp only [e]
  rw [if_pos ⟨Nat.le_refl _, hd, okCells_app h _⟩, List.take_left']
  rfl
theorem under_ints (n : Nat) (ns : List Int) : underL n (ns.map D.int) = true := by
  induction ns with
  | nil => simp [underL]
  | cons k ns ih => simp [underL, ih, D.under]
theorem under_intF {α : Type} (n : Nat) (f : α → Int) (xs : List α) : underL n (xs.map fun x => D.int (f x)) = true := by
  induction xs with
  | nil => simp [underL]
  | cons k ns ih => simp [underL, ih, D.under]
theorem cut_from1 {α : Type} (f : α → D) (xs : List α) : cutD (xs.map f) (some 1) none = (xs.drop 1).map f := by
  unfold cutD
  have e : HT.sIx (xs.map f).length 0 (some 1) = min 1 (xs.map f).length := HT.sIx_nat _ _ 1
  have e2 : HT.sIx (xs.map f).length (xs.map f).length none = (xs.map f).length := rfl
  rw [e, e2]
  cases xs with
  | nil => rfl
  | cons x r =>
    have e3 : min 1 ((x :: r).map f).length = 1 := by
      rw [List.length_map, List.length_cons]
      omega
    rw [e3, List.take_of_length_le (by rw [List.length_drop]; exact Nat.le_refl _), List.map_drop]
theorem cut_to {α : Type} (f : α → D) (xs : List α) (n : Nat) : cutD (xs.map f) none (some (n : Int)) = (xs.take n).map f := by
  unfold cutD
  have e : HT.sIx (xs.map f).length (xs.map f).length (some (n : Int)) = min n (xs.map f).length := HT.sIx_nat _ _ n
  have e2 : HT.sIx (xs.map f).length 0 none = 0 := rfl
  rw [e, e2]
  simp [List.map_take]
theorem pairsD_map {α β : Type} (f : α → D) (g : β → D) (xs : List α) (ys : List β) : pairsD (xs.map f) (ys.map g) = (xs.zip ys).map fun p => D.tup [f p.1, g p.2] := by
  unfold pairsD
  rw [List.zip_map, List.map_map]
  rfl
end AB
/-! AB: x += e of ints; defs that leave their objects; raise of an own error. -/
namespace AB
open PySem PySem.Spec PyProof.Rows L2

/-! ### x += e, x -= e -/
def sAug (f : Int → Int → Int) (i : Nat) (m : Me) : Ms := fun G h => match G[i]? with
  | some (some (.int k)) => (m G h).toS G fun y h1 => match y with
    | .int j => .next (G.set i (some (.int (f k j)))) h1
    | _ => .stuck
  | _ => .stuck
section
variable {X : Cx} {W : WX} {x : Str} {e : Expr} {m : Me} {op : Operator} {pos pos' : Pos} {f : Int → Int → Int}
theorem s_aug (i : Nat) (ho : PIp X op (ipI f)) (he : PE X e (TM X W m)) (hN : X.N.Nodup) (hi : X.N[i]? = some x := by rfl) (hx : Loc X.env.scope x := by first | exact Or.inl rfl | exact Or.inr rfl)
    (hf : X.fn x = true ∨ X.env.scope.names.lookup x = some .local := by first | exact .inl rfl | exact .inr rfl) : PS X (.AugAssign (.Name x pos') op e pos) (TSS X W (sAug f i m)) := by
  refine (ps_aug hN hi hx he ho hf).wk fun D σ H ⟨w, G, h, g, r, o⟩ => ?_
  unfold sAug at o
  split at o
  · rename_i k ek
    obtain ⟨v, e1, rv⟩ := g.2 i _ ek
    cases rv
    refine ⟨.int k, e1, w, G, h, g, r, OutS.bindE (m := m) g o fun d h1 v w1 H1 l r1 x o1 => ?_⟩
    split at o1
    · cases x
      exact ⟨_, _, rfl, rfl, o1 _ w1 H1 (Le.refl _) ((g.mono l).set i (.int _)) r1⟩
    · exact o1.elim
  · exact o.elim
end
@[simp] theorem v_sAug {f : Int → Int → Int} {i : Nat} {m : Me} {G : Env} {h : AH} : sAug f i m G h = (match G[i]? with
  | some (some (.int k)) => (m G h).toS G fun y h1 => match y with
    | .int j => .next (G.set i (some (.int (f k j)))) h1
    | _ => .stuck
  | _ => .stuck) := rfl
/-! ### a def whose objects stay -/
def mDefK (n N : Nat) (body : Ms) : Fn := fun ds h => if ds.length = n then
    match body (ds.map some ++ List.replicate (N - n) none) h with
    | .next _ h1 => .ok .non h1
    | .ret d h1 => .ok d h1
    | .exc c fs _ h1 => .exc c fs h1
    | _ => .stuck
  else .stuck
section
variable {P : Program} {w : World} {K : PySem.W.Frag} {mg : Str → Option Value} {base : Heap}
theorem fn_okK {x qual : Str} {st : Stmt} {f : Addr} {fd : FuncData} {N ps : List Str} {k : Nat} (F : Fun K x qual st f fd) (S : FnScope N ps (defScope st)) (m : Ms)
    (hb : ∀ (cdv : Value) (A : Around) (outer : List PySem.Env) (s : Shared) (H : Hp) (E : XK), Room k (A.deeper (envOfC qual (defScope st) s.heap.objs.size f cdv)) →
      PSs (cxOf (L2.CX P w) P w K mg base N qual (defScope st) f cdv A outer s H E) (defBody st) (tS K mg (fun c dd _ H => E c dd H) m)) :
    FnOk P w K mg base (L2.CX P w) (k + 1) f fd ps (spM K mg (mDefK ps.length N.length m)) := by
  refine F.okX S (fun vs H Q E h => ?_) fun cdv A outer s H vs Q E hr h => ⟨_, hb cdv A outer s H E hr, ?_⟩
  · obtain ⟨w, ds, h, ra, r, o⟩ := h
    unfold mDefK at o
    split at o
    · rename_i e
      rw [ra.length]
      exact e
    · exact o.elim
  · obtain ⟨w, ds, h, ra, r, o⟩ := h
    unfold mDefK at o
    split at o
    · rename_i e
      refine ⟨w, _, h, start_rep ra, r, ?_⟩
      rw [e]
      cases em : m (ds.map some ++ List.replicate (N.length - ps.length) none) h with
      | next G1 h1 =>
        rw [em] at o
        exact fun σ' w1 H1 l g r1 => o .non w1 H1 l r1 .non
      | ret d h1 =>
        rw [em] at o
        exact fun v w1 H1 l r1 rv => o v w1 H1 l r1 rv
      | brk G1 h1 => rw [em] at o; exact o.elim
      | cont G1 h1 => rw [em] at o; exact o.elim
      | stuck => rw [em] at o; exact o.elim
      | exc c fs G1 h1 =>
        rw [em] at o
        exact fun cls dd σ' w1 H1 e l g r1 x => o cls dd w1 H1 e l r1 x
    · exact o.elim
end
/-! ### raise C(), C an own class over ValueError without an own __init__ -/
structure ExcK (K : PySem.W.Frag) (mg : Str → Option Value) (x : Str) : Prop where
  ex : ∃ (C : Addr) (bmB : List Value), mg x = some (.ref C) ∧ ExcBaseFacts "ValueError" "ValueError.__new__" "ValueError.__init__" bmB ∧ PySem.W.excIn K C bmB "ValueError.__new__" = true ∧ PySem.W.keepIn K (.ref C) = true ∧
    PySem.W.subIn K (.ref C) (.type "BaseException") = some true ∧ PySem.W.typeIn K (.ref C) = some (.type "type")
section
variable {X : Cx} {W : WX} {x : Str} {p pos pos' : Pos}
theorem pmk_own0 {C : Addr} {bmB : List Value} {B newId initId : String} (F : ExcBaseFacts B newId initId bmB) (q : PySem.W.excIn X.K C bmB newId = true) (gC : X.mg x = some (.ref C))
    (kC : PySem.W.keepIn X.K (.ref C) = true) (r : Raises X (.ref C)) (hg : Gl X x) (hdb : (x == ("__debug__" : Str)) = false := by decide) :
    PMk X (.Call (.Name x p) [] [] pos) (fun σ H Q => Q (.ref C) none H) := by
  intro pins s σ H Q I h
  refine wpAny_Call_Name_kw (ld_glob I hg gC ?_ hdb)
  refine PySem.W.callWith_K0 I.kIn kC ?_
  show wpAny _ _ (call (.ref C) []) _ _ _
  obtain ⟨bm, N, nm, qn, bs, hdct, sn, sub, ab, col, dd, k0, k1, k2, k3, k5, mN, hC, hN, hni, T⟩ := exc_obj I.kIn q
  refine wpAny_call_exc_subT F T hC hN hni (fun h' e hm => ?_) (Nat.zero_le _)
  exact mk_of I hm r h (I.hok.gone hm.new)
theorem s_raise0 (E : ExcK X.K X.mg x) (tk : Takes X W) (hc : X.calm = true := by rfl) (hg : Gl X x := by rfl) (hdb : (x == ("__debug__" : Str)) = false := by decide) : PS X (.Raise (some (.Call (.Name x p) [] [] pos)) none pos') (TSS X W (sRaise x)) := by
  obtain ⟨C, bmB, h1, h2, h3, h4, h5, h6⟩ := E.ex
  refine (L2.ps_raise hc tk (pmk_own0 h2 h3 h1 h4 (raises_own h5 h6) hg hdb)).wk fun D σ H ⟨w, G, h, g, r, o⟩ => ?_
  have o : ∀ cls dd σ' w' H', X.mg x = some cls → Le w w' → RepG X.K w' σ' G → RepH X.K w' H' h → RepX X.K w' H' dd [] → W cls dd σ' H' := o
  exact o (.ref C) none σ w H h1 (Le.refl _) g r rfl
end
theorem spM_stuck {K : PySem.W.Frag} {mg : Str → Option Value} {vs : List V} {H : Hp} {Q : VK} {E : XK} (h : spM K mg (fun _ _ => .stuck) vs H Q E) : False := by
  obtain ⟨w, ds, h, ra, r, o⟩ := h
  exact o
end AB
/-! AB: t * k of tuples. -/
namespace AB
open PySem PySem.Spec PyProof.Rows L2
open Sem (wp)
open AutoSeq1 (wpAny_loadPart')
theorem tuple_mul1 (l : Addr) (items : Array Value) (n : Nat) (dd : Option Addr) (sl : Array (Option Value)) (u : Tok) :
    Meets (Builtin.«tuple.__mul__» ⟨[.ref l, .int 1 u], []⟩) (fun _ R s => s.heap.get? l = some { cls := .type "tuple", dict := dd, data := .seq items n, slots := sl } ∧ R (.ok (.ret (Value.ref l))) s) :=
  .of_wp fun prog w A R s h => by
    obtain ⟨hp, g, d, tk, os⟩ := s
    obtain ⟨hl, h⟩ := h
    have f1 := AutoSeq1.idx_int
    have c0 : (decide ((1 : Int) < -(2 ^ 63)) || decide ((1 : Int) ≥ 2 ^ 63)) = false := by decide
    have c1 : (items.isEmpty || (1 : Int) == 1) = true := by simp
    wp_walk using wpAny_loadPart' hl
    exact ⟨_, rfl, h⟩
def rRepT1 (K : PySem.W.Frag) : R2 := fun x y H Q => ∃ l xs, x = .ref l ∧ y = .int 1 ∧ SqT K H l xs ∧ Q (.ref l) H
section
variable {X : Cx} {W : WX}
theorem op_repT1 : OpR X (binaryOp .Mult) (rRepT1 X.K) := by
  intro pins s σ H x y v u Q I rx ry h
  obtain ⟨l, xs, rfl, rfl, hT, q⟩ := h
  cases rx
  obtain ⟨t, rfl⟩ := ry
  obtain ⟨its, r, ⟨⟨cls, dd, data, sl⟩, ho, hc, n, hd⟩, hs⟩ := I.tuple hT
  simp only at hc hd
  subst hc hd
  exact wpAny_binaryOp_repeat_ref (T := "tuple") (U := "int") (by decide) ⟨_, ho, rfl⟩ (fun s' => typeIs_int s' 1 t) noFill_tuple_mul F.fills_int_mul F.slot_int_rmul repeat_tuple F.slot_int_index.lookup
    (call_meets F.slot_int_rmul (typeIs_int s 1 t) F.entry_int_rmul (F.args_int_rmul_2 _ _) (int_rmul_tuple 1 t l its.toArray n dd sl)
      ⟨ho, rfl, ⟨_, ho, rfl⟩, call_meets F.slot_tuple_mul ⟨_, ho, rfl⟩ F.entry_tuple_mul (F.args_tuple_mul_2 _ _) (tuple_mul1 l its.toArray n dd sl t) ⟨ho, ⟨.ref l, H, I, rfl, q⟩⟩⟩)
def fMulA (x y : D) (h : AH) : Res D := match x, y with
  | .tup xs, .int k => if k = 1 then .ok (.tup xs) h else if 2 ≤ k ∧ k ≤ 1000 ∧ 1 ≤ xs.length ∧ xs.length ≤ 1000 then .ok (.tup (List.replicate k.toNat xs).flatten) h else .stuck
  | x, y => fMul x y h
def rMulA (K : PySem.W.Frag) : R2 := fun x y H Q => rI CMul (fun i j => .int (i * j)) x y H Q ∨ (rRepT1 K x y H Q ∨ rRepT K x y H Q)
theorem op_mulA : OpR X (binaryOp .Mult) (rMulA X.K) := OpR.or op_mul (OpR.or op_repT1 op_repT)
theorem ra_rep {K : PySem.W.Frag} {w : Wd} {vs : List V} {ds : List D} (h : Ra K w vs ds) : ∀ k : Nat, Ra K w (List.replicate k vs).flatten (List.replicate k ds).flatten
  | 0 => .nil
  | k + 1 => by
    rw [List.replicate_succ, List.replicate_succ, List.flatten_cons, List.flatten_cons]
    exact h.append (ra_rep h k)
theorem fol_mulA : Fol2 X W fMulA (rMulA X.K) := by
  intro w h H σ Q v1 v2 d1 d2 rh r1 r2 o
  unfold fMulA at o
  split at o
  · rename_i xs k
    cases r2
    cases r1 with
    | @tup a vs _ h1 h2 =>
      split at o
      · rename_i e
        subst e
        exact .inr (.inl ⟨a, vs, rfl, rfl, rh.ex.t h1, out_ok o rh (.tup h1 h2)⟩)
      · split at o
        · rename_i c
          have hl := h2.length
          refine .inr (.inr ⟨a, k, vs, rfl, rfl, rh.ex.t h1, fun z => ?_, c.1, c.2.1, by omega, fun p hp => out_add o rh hp (rv_tup rh hp (ra_rep h2 _))⟩)
          rw [z] at hl
          simp at hl
          omega
        · exact o.elim
  · exact .inl (fol_mul w h H σ Q v1 v2 _ _ rh r1 r2 o)
end
end AB
/-! AB: comprehensions and loops that change the heap. -/
namespace AB
open PySem PySem.Spec PyProof.Rows L2
section
variable {α : Type} {p : Pat} {t : MeT} {e : Me} {body : Ms} {all0 : List D} {G0 : Env} {h : AH}
/-- every element, made by a step that changes the heap -/
theorem comp_gen {I : AH → Prop} {R : α → D → Prop} (enc : α → D) : ∀ (xs : List α), (∀ x ∈ xs, ∀ h, I h → ∃ G1 d h1, asg p (enc x) G0 = some G1 ∧ e G1 h = .ok d h1 ∧ I h1 ∧ R x d) →
    ∀ h, I h → ∃ (zs : List (α × D)) (h' : AH), compGo p tYesM e none all0 G0 (xs.map enc) h = .ok (zs.map (·.2)) h' ∧ I h' ∧ zs.map (·.1) = xs ∧ ∀ z ∈ zs, R z.1 z.2
  | [], _, h, hI => ⟨[], h, by simp [compGo, Still], hI, rfl, by simp⟩
  | x :: xs, hx, h, hI => by
    obtain ⟨G1, d, h1, e1, e2, hI1, hr⟩ := hx x List.mem_cons_self h hI
    obtain ⟨zs, h', e3, hI', e4, hz⟩ := comp_gen (R := R) enc xs (fun y hy => hx y (List.mem_cons_of_mem _ hy)) h1 hI1
    refine ⟨(x, d) :: zs, h', ?_, hI', by rw [List.map_cons, e4], fun z hz' => ?_⟩
    · rw [List.map_cons]
      unfold compGo
      rw [if_pos (by trivial), e1]
      simp only [v_yes, Res.noX_ok, Res.bind_ok, if_true, e2, e3, List.map_cons]
    · rcases List.mem_cons.mp hz' with rfl | hz'
      · exact hr
      · exact hz z hz'
/-- a loop that knows what is behind it -/
theorem for_pre (I : List α → Env → AH → Prop) (enc : α → D) (xs : List α) : ∀ (todo done : List α), done ++ todo = xs →
    (∀ done x rest, done ++ x :: rest = xs → ∀ G h, I done G h → ∃ G1 G2 h2, asg p (enc x) G = some G1 ∧ body G1 h = .next G2 h2 ∧ I (done ++ [x]) G2 h2) →
    ∀ G h, I done G h → ∃ G' h', forGo p body none all0 (todo.map enc) G h = .next G' h' ∧ I xs G' h'
  | [], done, e, _, G, h, hI => by
    rw [List.append_nil] at e
    subst e
    exact ⟨G, h, by simp [forGo, Still], hI⟩
  | x :: r, done, e, hx, G, h, hI => by
    obtain ⟨G1, G2, h2, e1, e2, hI2⟩ := hx done x r e G h hI
    obtain ⟨G', h', e3, hI'⟩ := for_pre I enc xs r (done ++ [x]) (by rw [List.append_assoc]; exact e) hx G2 h2 hI2
    refine ⟨G', h', ?_, hI'⟩
    rw [List.map_cons]
    unfold forGo
    rw [if_pos (by trivial), e1]
    simp only [e2, e3]
end
/-! while: any fuel that is enough -/
section
variable {t : MeT} {b : Ms}
theorem whileGo_mono : ∀ (n : Nat) (G : Env) (h : AH), whileGo t b n G h ≠ .stuck → whileGo t b (n + 1) G h = whileGo t b n G h
  | 0, _, _, hn => absurd rfl hn
  | n + 1, G, h, hn => by
    have e1 : whileGo t b (n + 1) G h = (t G h).toS G fun c h1 => if c = true then
      match b G h1 with
      | .next G2 h2 => whileGo t b n G2 h2
      | .cont G2 h2 => whileGo t b n G2 h2
      | .brk G2 h2 => .next G2 h2
      | .ret x h2 => .ret x h2
      | .exc c fs G2 h2 => .exc c fs G2 h2
      | .stuck => .stuck
    else .next G h1 := rfl
    have e2 : whileGo t b (n + 1 + 1) G h = (t G h).toS G fun c h1 => if c = true then
      match b G h1 with
      | .next G2 h2 => whileGo t b (n + 1) G2 h2
      | .cont G2 h2 => whileGo t b (n + 1) G2 h2
      | .brk G2 h2 => .next G2 h2
      | .ret x h2 => .ret x h2
      | .exc c fs G2 h2 => .exc c fs G2 h2
      | .stuck => .stuck
    else .next G h1 := rfl
    rw [e1] at hn
    rw [e2, e1]
    cases ec : t G h with
    | exc c fs h1 => rfl
    | stuck => rfl
    | ok c h1 =>
      rw [ec] at hn
      simp only [Res.toS_ok] at hn ⊢
      cases c with
      | false => rfl
      | true =>
        simp only [if_true] at hn ⊢
        cases eb : b G h1 with
        | next G2 h2 =>
          rw [eb] at hn
          exact whileGo_mono n G2 h2 hn
        | cont G2 h2 =>
          rw [eb] at hn
          exact whileGo_mono n G2 h2 hn
        | brk G2 h2 => rfl
        | ret x h2 => rfl
        | exc c fs G2 h2 => rfl
        | stuck => rfl
theorem whileGo_le {n m : Nat} {G : Env} {h : AH} (hn : whileGo t b n G h ≠ .stuck) (hm : n ≤ m) : whileGo t b m G h = whileGo t b n G h := by
  obtain ⟨d, rfl⟩ : ∃ d, m = n + d := ⟨m - n, by omega⟩
  induction d with
  | zero => rfl
  | succ d ih =>
    have ih := ih (by omega)
    rw [← Nat.add_assoc, whileGo_mono (n + d) G h (by rw [ih]; exact hn), ih]
theorem while_ok {n : Nat} {G : Env} {h : AH} {r : SR} (e : whileGo t b n G h = r) (hr : r ≠ .stuck) : sWhile t b G h = r := by
  have hn : whileGo t b n G h ≠ .stuck := by rw [e]; exact hr
  unfold sWhile
  rw [dif_pos ⟨n, hn⟩]
  have hc := Classical.choose_spec (⟨n, hn⟩ : ∃ n, whileGo t b n G h ≠ .stuck)
  generalize Classical.choose (⟨n, hn⟩ : ∃ n, whileGo t b n G h ≠ .stuck) = m at hc
  rcases Nat.le_total n m with q | q
  · rw [whileGo_le hn q, e]
  · rw [← whileGo_le hc q, e]
end
/-! loops over an object that stays meanwhile -/
section
variable {α : Type} {p : Pat} {t : MeT} {e : Me} {body : Ms} {all0 : List D} {G0 : Env} {src : Option Nat}
theorem for_preS (I : List α → Env → AH → Prop) (hs : ∀ done G h, I done G h → Still src all0 h) (enc : α → D) (xs : List α) : ∀ (todo done : List α), done ++ todo = xs →
    (∀ done x rest, done ++ x :: rest = xs → ∀ G h, I done G h → ∃ G1 G2 h2, asg p (enc x) G = some G1 ∧ body G1 h = .next G2 h2 ∧ I (done ++ [x]) G2 h2) →
    ∀ G h, I done G h → ∃ G' h', forGo p body src all0 (todo.map enc) G h = .next G' h' ∧ I xs G' h'
  | [], done, e, _, G, h, hI => by
    rw [List.append_nil] at e
    subst e
    refine ⟨G, h, ?_, hI⟩
    rw [List.map_nil]
    unfold forGo
    rw [if_pos (hs _ G h hI)]
  | x :: r, done, e, hx, G, h, hI => by
    obtain ⟨G1, G2, h2, e1, e2, hI2⟩ := hx done x r e G h hI
    obtain ⟨G', h', e3, hI'⟩ := for_preS I hs enc xs r (done ++ [x]) (by rw [List.append_assoc]; exact e) hx G2 h2 hI2
    refine ⟨G', h', ?_, hI'⟩
    rw [List.map_cons]
    unfold forGo
    rw [if_pos (hs _ G h hI), e1]
    simp only [e2, e3]
theorem comp_okS {h : AH} (hs : Still src all0 h) (enc : α → D) (q : α → Bool) (f : α → D) : ∀ (xs : List α), (∀ x ∈ xs, ∃ G1, asg p (enc x) G0 = some G1 ∧ t G1 h = .ok (q x) h ∧ (q x = true → e G1 h = .ok (f x) h)) →
    compGo p t e src all0 G0 (xs.map enc) h = .ok ((xs.filter q).map f) h
  | [], _ => by
    rw [List.map_nil]
    unfold compGo
    rw [if_pos hs]
    rfl
  | x :: xs, hx => by
    obtain ⟨G1, e1, e2, e3⟩ := hx x List.mem_cons_self
    have ih := comp_okS hs enc q f xs fun y hy => hx y (List.mem_cons_of_mem _ hy)
    rw [List.map_cons]
    unfold compGo
    rw [if_pos hs, e1]
    simp only [e2, Res.noX_ok, Res.bind_ok]
    cases hq : q x with
    | true =>
      rw [if_pos rfl, e3 hq, List.filter_cons_of_pos hq]
      simp only [Res.noX_ok, Res.bind_ok, ih, List.map_cons]
    | false =>
      rw [if_neg (by simp), ih, List.filter_cons_of_neg (by simp [hq])]
end
end AB
/-! AB: classes: making, attributes, methods. -/
namespace AB
open PySem PySem.Spec PyProof.Rows L2

section
variable {K : PySem.W.Frag} {w : Wd} {H : Hp} {h : AH}
theorem RepH.fresh (r : RepH K w H h) {p : Addr} (u : HO) (hp : H p = none) : RepH K w (upd H p u) h ∧ Apart w p := by
  refine ⟨⟨fun a x e => ?_, r.len, r.inj, fun n o' e => ?_, fun a x e => by rw [upd_ne (ne_of_none (r.exF _ _ e) hp)]; exact r.exF _ _ e, r.dis⟩, r.ex.free hp, fun n hn => r.ne hn hp, r.exF.free hp⟩
  · have e2 := r.ex _ _ e
    rw [upd_ne (ne_of_none e2 hp)]
    exact e2
  · obtain ⟨a, b⟩ := r.cell n o' e
    have hn : n < w.N := by
      rw [r.len]
      exact (List.getElem?_eq_some_iff.mp e).1
    exact ⟨a, b.mono (Le.refl _) (upd_ne (r.ne hn hp))⟩
theorem RepH.newO (r : RepH K w H h) {p : Addr} {u : HO} {o : AO} (hp : H p = none) (ro : RepO K (w.push p) (upd H p u) p o) : RepH K (w.push p) (upd H p u) (h ++ [o]) :=
  let ⟨r1, ap⟩ := r.fresh u hp
  r1.push ap ro
/-- a machine's object as a value -/
theorem rv_loc {n : Nat} {v : V} (rv : Rv K w v (.loc n)) : v = .ref (w.mu n) ∧ n < w.N := by
  cases rv with
  | loc hn => exact ⟨rfl, hn⟩
theorem rv_new (p : Addr) : Rv K (w.push p) (.ref p) (.loc w.N) := by
  have h : Rv K (w.push p) (.ref ((w.push p).mu w.N)) (.loc w.N) := .loc (Nat.lt_succ_self _)
  rw [w.push_mu p] at h
  exact h
end

/-! ### rows of named things -/
def putD (f : Str) (d : D) : List (Str × D) → List (Str × D)
  | [] => [(f, d)]
  | (g, x) :: r => if g = f then (g, d) :: r else (g, x) :: putD f d r
section
variable {K : PySem.W.Frag} {G : Hp} {mu : Nat → Addr} {N : Nat}
theorem rep_lookup (f : Str) : ∀ {fv : List (Str × V)} {fs : List (Str × D)}, fv.map (·.1) = fs.map (·.1) → RepAll K G mu N (fv.map (·.2)) (fs.map (·.2)) →
    (∀ d, fs.lookup f = some d → ∃ v, fv.lookup f = some v ∧ RepV K G mu N v d) ∧ (fs.lookup f = none → fv.lookup f = none)
  | [], [], _, _ => ⟨fun d e => (by cases e), fun _ => rfl⟩
  | [], _ :: _, e, _ => by cases e
  | _ :: _, [], e, _ => by cases e
  | (g, v) :: fv, (g', d) :: fs, e, r => by
    rw [List.map_cons, List.map_cons] at e r
    cases r with
    | cons r1 r2 =>
      obtain ⟨e1, e2⟩ := List.cons.inj e
      have e1 : g = g' := e1
      subst e1
      obtain ⟨i1, i2⟩ := rep_lookup f e2 r2
      refine ⟨fun x q => ?_, fun q => ?_⟩
      · rw [List.lookup_cons] at q ⊢
        cases c : f == g with
        | true =>
          rw [c] at q
          cases q
          exact ⟨v, rfl, r1⟩
        | false =>
          rw [c] at q
          exact i1 x q
      · rw [List.lookup_cons] at q ⊢
        cases c : f == g with
        | true => rw [c] at q; cases q
        | false =>
          rw [c] at q
          exact i2 q
theorem rep_put (f : Str) {v : V} {d : D} (rv : RepV K G mu N v d) : ∀ {fv : List (Str × V)} {fs : List (Str × D)}, fv.map (·.1) = fs.map (·.1) → RepAll K G mu N (fv.map (·.2)) (fs.map (·.2)) →
    (putF f v fv).map (·.1) = (putD f d fs).map (·.1) ∧ RepAll K G mu N ((putF f v fv).map (·.2)) ((putD f d fs).map (·.2))
  | [], [], _, _ => ⟨rfl, .cons rv .nil⟩
  | [], _ :: _, e, _ => by cases e
  | _ :: _, [], e, _ => by cases e
  | (g, x) :: fv, (g', y) :: fs, e, r => by
    rw [List.map_cons, List.map_cons] at e r
    cases r with
    | cons r1 r2 =>
      obtain ⟨e1, e2⟩ := List.cons.inj e
      have e1 : g = g' := e1
      subst e1
      obtain ⟨i1, i2⟩ := rep_put f rv e2 r2
      unfold putF putD
      by_cases c : g = f
      · rw [if_pos c, if_pos c]
        exact ⟨by rw [List.map_cons, List.map_cons, e2], .cons rv r2⟩
      · rw [if_neg c, if_neg c]
        exact ⟨by rw [List.map_cons, List.map_cons, i1], .cons r1 i2⟩
end

/-! ### attributes -/
structure FldOk (K : PySem.W.Frag) (C f : Str) : Prop where
  get : ∀ Ca, PySem.W.nsIn K mainGlobals C = some (some (.ref Ca)) → Cls K Ca ∧ NoAttr K Ca f
/-- the class by its place -/
theorem fldOk {K : PySem.W.Frag} {C f : Str} {Ca : Addr} (e : PySem.W.nsIn K mainGlobals C = some (some (.ref Ca))) (c : Cls K Ca) (n : NoAttr K Ca f) : FldOk K C f := ⟨fun Cb e2 => by
  rw [e] at e2
  cases e2
  exact ⟨c, n⟩⟩
def AllC (p : Str → Prop) : List Str → Prop
  | [] => True
  | C :: cs => p C ∧ AllC p cs
theorem AllC.mem {p : Str → Prop} : ∀ {cs : List Str}, AllC p cs → ∀ C ∈ cs, p C
  | _ :: _, ⟨h1, h2⟩, C, hc => by
    rcases List.mem_cons.mp hc with rfl | hc
    · exact h1
    · exact AllC.mem h2 C hc
theorem AllC.n {p : Str → Prop} : AllC p [] := trivial
theorem AllC.c {p : Str → Prop} {C : Str} {cs : List Str} (h : p C) (t : AllC p cs) : AllC p (C :: cs) := ⟨h, t⟩
/-- o.f -/
def mFld (cs : List Str) (f : Str) (o : Me) : Me := fun G h => (o G h).bind fun d h1 => match d with
  | .loc n => match h1[n]? with
    | some (.ins C fs) => if C ∈ cs then match fs.lookup f with
      | some x => .ok x h1
      | none => .stuck
      else .stuck
    | _ => .stuck
  | _ => .stuck
/-- o.f = v -/
def sFldM (cs : List Str) (f : Str) (o v : Me) : Ms := fun G h => (v G h).toS G fun x h1 => (o G h1).toS G fun d h2 => match d with
  | .loc n => match h2[n]? with
    | some (.ins C fs) => if C ∈ cs ∧ fs.length < 1000 then .next G (h2.set n (.ins C (putD f x fs))) else .stuck
    | _ => .stuck
  | _ => .stuck
/-- o.f += e, of ints -/
def sFldA (g : Int → Int → Int) (cs : List Str) (f : Str) (o v : Me) : Ms := fun G h => (o G h).toS G fun d h1 => match d with
  | .loc n => match h1[n]? with
    | some (.ins C fs) => if C ∈ cs then match fs.lookup f with
      | some (.int i) => (v G h1).toS G fun y h2 => match y, h2[n]? with
        | .int j, some (.ins C2 fs2) => if C2 = C ∧ fs2.length < 1000 then .next G (h2.set n (.ins C (putD f (.int (g i j)) fs2))) else .stuck
        | _, _ => .stuck
      | _ => .stuck
      else .stuck
    | _ => .stuck
  | _ => .stuck
section
variable {X : Cx} {W : WX} {o e value : Expr} {f : Str} {pos pos' tpos : Pos} {m mo mv : Me} {cs : List Str}
theorem e_fld (cs : List Str) (he : PE X e (TM X W m)) (hc : AllC (fun C => FldOk X.K C f) cs) (hb : attributeBase e f X.env (eval e X.env) = eval e X.env := by rfl) : PE X (.Attribute e f pos) (TM X W (mFld cs f m)) := by
  refine (pe_fld he hb).wk fun σ H Q ⟨w, G, h, g, r, o⟩ => ⟨w, G, h, g, r, o.bindE fun d h1 v w1 H1 l r1 x o1 => ?_⟩
  split at o1
  · rename_i n
    obtain ⟨rfl, hn⟩ := rv_loc x
    split at o1
    · rename_i C fs ec
      split at o1
      · rename_i hC
        split at o1
        · rename_i y ey
          obtain ⟨_, Ca, dx, fv, e1, e2, e3, ra, _⟩ := r1.cell n _ ec
          obtain ⟨c1, c2⟩ := (hc.mem C hC).get Ca e1
          obtain ⟨u, eu, ru⟩ := (rep_lookup f e3 ra).1 y ey
          exact ⟨_, Ca, dx, fv, u, rfl, e2, c1, c2, eu, o1 u w1 H1 (Le.refl _) r1 ru⟩
        · exact o1.elim
      · exact o1.elim
    · exact o1.elim
  · exact o1.elim
theorem set_ins {w : Wd} {H : Hp} {h : AH} {n : Nat} {C : Str} {fs : List (Str × D)} {Ca dx : Addr} {fv : List (Str × V)} (f : Str) {v : V} {d : D} (r : RepH X.K w H h) (hn : n < w.N) (e1 : PySem.W.nsIn X.K mainGlobals C = some (some (.ref Ca)))
    (e3 : fv.map (·.1) = fs.map (·.1)) (ra : RepAll X.K w.S w.mu w.N (fv.map (·.2)) (fs.map (·.2))) (es : w.S dx = some (.own (w.mu n))) (rv : Rv X.K w v d) :
    RepH X.K w (upd H (w.mu n) (.ins Ca dx (putF f v fv))) (h.set n (.ins C (putD f d fs))) := by
  obtain ⟨q1, q2⟩ := rep_put f rv e3 ra
  exact r.set hn ⟨Ca, dx, putF f v fv, e1, upd_same, q1, q2, es⟩
theorem fv_len {fv : List (Str × V)} {fs : List (Str × D)} (e : fv.map (·.1) = fs.map (·.1)) : fv.length = fs.length := by
  have := congrArg List.length e
  simpa using this
theorem s_fld (cs : List Str) (ho : PE X o (TM X W mo)) (hv : PE X value (TM X W mv)) (hc : AllC (fun C => FldOk X.K C f) cs) (hs : swapsWith value (some (.Attribute o f pos')) pos.line X.env = pure false := by rfl) :
    PS X (.Assign [.Attribute o f pos'] value pos) (TSS X W (sFldM cs f mo mv)) := by
  refine (ps_fld ho hv hs).wk fun D σ H ⟨w, G, h, g, r, o⟩ => ⟨w, G, h, g, r, OutS.bindE (m := mv) g o fun x h1 v w1 H1 l1 r1 rx o1 => ?_⟩
  have g1 := g.mono l1
  refine ⟨w1, G, h1, g1, r1, OutS.bindE (m := mo) g1 o1 fun d h2 v2 w2 H2 l2 r2 rd o2 => ?_⟩
  split at o2
  · rename_i n
    obtain ⟨rfl, hn⟩ := rv_loc rd
    split at o2
    · rename_i C fs ec
      split at o2
      · rename_i hC
        obtain ⟨_, Ca, dx, fv, e1, e2, e3, ra, es⟩ := r2.cell n _ ec
        obtain ⟨c1, c2⟩ := (hc.mem C hC.1).get Ca e1
        exact ⟨_, Ca, dx, fv, rfl, e2, c1, c2, by rw [fv_len e3]; exact hC.2, o2 σ w2 _ (Le.refl _) (g1.mono l2) (set_ins f r2 hn e1 e3 ra es (Rv_mono l2 rx))⟩
      · exact o2.elim
    · exact o2.elim
  · exact o2.elim
theorem s_fldA {op : Operator} {gg : Int → Int → Int} (cs : List Str) (hop : InOp X op (fun x y H Q => ∃ i j, x = .int i ∧ y = .int j ∧ Q (.int (gg i j)) H)) (ho : PE X o (TM X W mo)) (hv : PE X value (TM X W mv)) (hc : AllC (fun C => FldOk X.K C f) cs) :
    PS X (.AugAssign (.Attribute o f tpos) op value pos) (TSS X W (sFldA gg cs f mo mv)) := by
  refine (ps_fldaug ho hv hop).wk fun D σ H ⟨w, G, h, g, r, o⟩ => ⟨w, G, h, g, r, OutS.bindE (m := mo) g o fun d h1 v1 w1 H1 l1 r1 rd o1 => ?_⟩
  have g1 := g.mono l1
  split at o1
  · rename_i n
    obtain ⟨rfl, hn⟩ := rv_loc rd
    split at o1
    · rename_i C fs ec
      split at o1
      · rename_i hC
        split at o1
        · rename_i i ei
          obtain ⟨_, Ca, dx, fv, e1, e2, e3, ra, es⟩ := r1.cell n _ ec
          obtain ⟨u, eu, ru⟩ := (rep_lookup f e3 ra).1 _ ei
          cases ru
          obtain ⟨c1, c2⟩ := (hc.mem C hC).get Ca e1
          refine ⟨_, Ca, dx, fv, .int i, rfl, e2, c1, c2, eu, w1, G, h1, g1, r1, OutS.bindE (m := mv) g1 o1 fun y h2 v2 w2 H2 l2 r2 ry o2 => ?_⟩
          split at o2
          · rename_i j C2 fs2 ec2
            split at o2
            · rename_i hh
              obtain ⟨hh1, hh3⟩ := hh
              subst hh1
              cases ry
              obtain ⟨_, Cb, dx2, fv2, e1', e2', e3', ra', es'⟩ := r2.cell n _ ec2
              have emu : w2.mu n = w1.mu n := l2.mu n hn
              have eC : Cb = Ca := by
                rw [e1] at e1'
                cases e1'
                rfl
              subst eC
              have hn2 : n < w2.N := Nat.lt_of_lt_of_le hn l2.n
              refine ⟨i, _, rfl, rfl, dx2, fv2, by rw [← emu]; exact e2', by rw [fv_len e3']; exact hh3, ?_⟩
              rw [← emu]
              exact o2 σ w2 _ (Le.refl _) (g1.mono l2) (set_ins f r2 hn2 e1' e3' ra' es' (.int _))
            · exact o2.elim
          · exact o2.elim
        · exact o1.elim
      · exact o1.elim
    · exact o1.elim
  · exact o1.elim
end
end AB
/-! AB: calls of methods, making of instances. -/
namespace AB
open PySem PySem.Spec PyProof.Rows L2

structure MthOk (P : Program) (w : World) (K : PySem.W.Frag) (mg : Str → Option Value) (base : Heap) (C m : Str) (k : Nat) (ps : List Str) (sp : Sp) : Prop where
  get : ∀ Ca, PySem.W.nsIn K mainGlobals C = some (some (.ref Ca)) → Cls K Ca ∧ ∃ f fd, Meth K Ca m f ∧ Binds K fd ps [] ∧ FnOk P w K mg base (L2.CX P w) k f fd ps sp
theorem mthOk {P : Program} {w : World} {K : PySem.W.Frag} {mg : Str → Option Value} {base : Heap} {C m : Str} {k : Nat} {ps : List Str} {sp : Sp} {Ca f : Addr} {fd : FuncData} (e : PySem.W.nsIn K mainGlobals C = some (some (.ref Ca))) (c : Cls K Ca)
    (hm : Meth K Ca m f) (hb : Binds K fd ps []) (F : FnOk P w K mg base (L2.CX P w) k f fd ps sp) : MthOk P w K mg base C m k ps sp := ⟨fun Cb e2 => by
  rw [e] at e2
  cases e2
  exact ⟨c, f, fd, hm, hb, F⟩⟩
structure MakOk (P : Program) (w : World) (K : PySem.W.Frag) (mg : Str → Option Value) (base : Heap) (C : Str) (k : Nat) (ps : List Str) (sp : Sp) : Prop where
  ex : ∃ Ca f fd, PySem.W.nsIn K mainGlobals C = some (some (.ref Ca)) ∧ mg C = some (.ref Ca) ∧ Mk K Ca f ∧ Binds K fd ps [] ∧ FnOk P w K mg base (L2.CX P w) k f fd ps sp
def TbOk (X : Cx) (k' : Nat) (m : Str) (tb : List (Str × Fn)) : Prop := ∀ C fn, tb.lookup C = some fn → ∃ k ps, k ≤ k' ∧ MthOk X.prog X.w X.K X.mg X.base C m k ps (spM X.K X.mg fn)
theorem tb_nil {X : Cx} {k' : Nat} {m : Str} : TbOk X k' m [] := fun C fn e => by cases e
theorem tb_cons {X : Cx} {k k' : Nat} {m C : Str} {ps : List Str} {fn : Fn} {tb : List (Str × Fn)} (h : MthOk X.prog X.w X.K X.mg X.base C m k ps (spM X.K X.mg fn)) (t : TbOk X k' m tb) (hk : k ≤ k' := by first | decide | omega) : TbOk X k' m ((C, fn) :: tb) := fun C2 fn2 e => by
  rw [List.lookup_cons] at e
  cases c : C2 == C with
  | true =>
    rw [c] at e
    cases e
    have : C2 = C := by simpa using c
    subst this
    exact ⟨k, ps, hk, h⟩
  | false =>
    rw [c] at e
    exact t C2 fn2 e
/-- o.m(..) -/
def mMeth (tb : List (Str × Fn)) (m : Str) (o : Me) (as : MeL) : Me := fun G h => (o G h).bind fun d h1 => match d with
  | .loc n => match h1[n]? with
    | some (.ins C fs) => match tb.lookup C with
      | some fn => match fs.lookup m with
        | none => (as G h1).bind fun xs h2 => fn (.loc n :: xs) h2
        | some _ => .stuck
      | none => .stuck
    | _ => .stuck
  | _ => .stuck
/-- C(..) -/
def mMake (C : Str) (fn : Fn) (as : MeL) : Me := fun G h => (as G h).bind fun xs h1 => (fn (.loc h1.length :: xs) (h1 ++ [.ins C []])).bind fun v h2 => match v with
  | .non => .ok (.loc h1.length) h2
  | _ => .stuck
/-- a method's call, the class and the method seen when the object is there -/
def tMethT (X : Cx) (W : WX) (m : Str) (k' : Nat) (ta : TE) (t : TA) : TE := fun σ H Q => ta σ H fun x H1 => ∃ a C dx fs k f fd ps sp, x = .ref a ∧ H1 a = some (.ins C dx fs) ∧ fs.lookup m = none ∧ Cls X.K C ∧ Meth X.K C m f ∧ Binds X.K fd ps [] ∧ k ≤ k' ∧
  FnOk X.prog X.w X.K X.mg X.base (L2.CX X.prog X.w) k f fd ps sp ∧ t σ H1 fun vs H2 => sp (x :: vs) H2 Q (WE W σ)
section
variable {X : Cx} {W : WX} {m : Str} {k' : Nat} {o e : Expr} {es : List Expr} {ta : TE} {t : TA} {apos pos : Pos} {pl : Sem Bool} {mo : Me} {as : MeL} {tb : List (Str × Fn)}
theorem pe_methT (he : PE X o ta) (hr : Room k' X.A) (tk : Takes X W) (ha : PA X (e :: es) t)
    (hst : starEach (e :: es) X.env = (false, eval e X.env) :: starEach es X.env := by rfl) (hpl : (backTo pos (starEach es X.env)).any (·.1) = false := by rfl)
    (ht : eval (.Call (.Attribute o m apos) (e :: es) [] pos) X.env = (do
      let ov ← eval o X.env
      standAt apos.atName
      let (f, first) ← holding [ov] (getMethod ov m pl)
      callWith pos f first (backTo pos (starEach (e :: es) X.env)) (backToKw pos (keywordEach [] X.env))) := by rfl) :
    PE X (.Call (.Attribute o m apos) (e :: es) [] pos) (tMethT X W m k' ta t) := by
  refine ⟨fun pins s σ H Q I h => ?_⟩
  refine PySem.W.methodCall_KW (pl := pl) (thn (he.run pins s σ H _ I h) fun u s1 ⟨x, H1, I1, rx, a, C, dx, fs, k, f, fd, ps, sp, ex, ea, l, c, hm, hb, hk, F, q⟩ => ?_) ht
  subst ex
  obtain rfl : u = Value.ref a := rx
  refine getmeth_ok I1 ea c hm l ?_
  refine PySem.W.callWith_K (first := [.ref a]) (h₀ := X.base) I.ok.mod.kin hm.kp (thn (ha.run pos pins s1 σ H1 _ I1 q) fun us s2 ⟨vs, H2, I2, r, q2⟩ => ⟨I2.kIn, ?_⟩) hst hpl
  exact run_fnS (us := .ref a :: us) (vs := .ref a :: vs) (E := WE W) F (hr.mono hk) hb (passAt tk σ) I2 (.cons rfl r) q2
theorem pe_methT0 (he : PE X o ta) (hr : Room k' X.A) (tk : Takes X W)
    (ht : eval (.Call (.Attribute o m apos) [] [] pos) X.env = (do
      let ov ← eval o X.env
      standAt apos.atName
      let (f, first) ← holding [ov] (getMethod ov m pl)
      callWith pos f first (backTo pos (starEach [] X.env)) (backToKw pos (keywordEach [] X.env))) := by rfl) :
    PE X (.Call (.Attribute o m apos) [] [] pos) (tMethT X W m k' ta tNil) := by
  refine ⟨fun pins s σ H Q I h => ?_⟩
  refine PySem.W.methodCall_KW (pl := pl) (thn (he.run pins s σ H _ I h) fun u s1 ⟨x, H1, I1, rx, a, C, dx, fs, k, f, fd, ps, sp, ex, ea, l, c, hm, hb, hk, F, q⟩ => ?_) ht
  subst ex
  obtain rfl : u = Value.ref a := rx
  refine getmeth_ok I1 ea c hm l ?_
  exact PySem.W.callWith_K0 (first := [.ref a]) I1.kIn hm.kp (run_fnS (us := [.ref a]) (vs := [.ref a]) (E := WE W) F (hr.mono hk) hb (passAt tk σ) I1 (.cons rfl .nil) q)
theorem meth_read (hT : TbOk X k' m tb) {σ : L2.St} {H : Hp} {Q : VK} (t : TM X W (mMeth tb m mo as) σ H Q) : tMethT X W m k' (TM X W mo) (TAr X W as) σ H Q := by
  obtain ⟨w, G, h, g, r, o⟩ := t
  refine ⟨w, G, h, g, r, o.bindE fun d h1 v w1 H1 l r1 x o1 => ?_⟩
  split at o1
  · rename_i n
    obtain ⟨rfl, hn⟩ := rv_loc x
    split at o1
    · rename_i C fs ec
      split at o1
      · rename_i fn ef
        split at o1
        · rename_i el
          obtain ⟨_, Ca, dx, fv, e1, e2, e3, ra, _⟩ := r1.cell n _ ec
          obtain ⟨k, ps, hk, M⟩ := hT C fn ef
          obtain ⟨c, f, fd, hm, hb, F⟩ := M.get Ca e1
          refine ⟨_, Ca, dx, fv, k, f, fd, ps, _, rfl, e2, (rep_lookup m e3 ra).2 el, c, hm, hb, hk, F, w1, G, h1, g.mono l, r1, o1.bindA fun ds h2 vs w2 H2 l2 r2 rs o2 => ⟨w2, .loc n :: ds, h2, .cons (Rv_mono l2 x) rs, r2, ?_⟩⟩
          cases em : fn (.loc n :: ds) h2 with
          | ok d h3 => rw [em] at o2; exact o2
          | exc c fs h3 => rw [em] at o2; exact o2
          | stuck => rw [em] at o2; exact o2
        · exact o1.elim
      · exact o1.elim
    · exact o1.elim
  · exact o1.elim
theorem e_meth (hT : TbOk X k' m tb) (hr : Room k' X.A) (tk : Takes X W) (he : PE X o (TM X W mo)) (ha : PA X (e :: es) (TAr X W as))
    (hst : starEach (e :: es) X.env = (false, eval e X.env) :: starEach es X.env := by rfl) (hpl : (backTo pos (starEach es X.env)).any (·.1) = false := by rfl)
    (ht : eval (.Call (.Attribute o m apos) (e :: es) [] pos) X.env = (do
      let ov ← eval o X.env
      standAt apos.atName
      let (f, first) ← holding [ov] (getMethod ov m pl)
      callWith pos f first (backTo pos (starEach (e :: es) X.env)) (backToKw pos (keywordEach [] X.env))) := by rfl) :
    PE X (.Call (.Attribute o m apos) (e :: es) [] pos) (TM X W (mMeth tb m mo as)) := (pe_methT he hr tk ha hst hpl ht).wk fun σ H Q t => meth_read hT t
theorem e_meth0 (hT : TbOk X k' m tb) (hr : Room k' X.A) (tk : Takes X W) (he : PE X o (TM X W mo))
    (ht : eval (.Call (.Attribute o m apos) [] [] pos) X.env = (do
      let ov ← eval o X.env
      standAt apos.atName
      let (f, first) ← holding [ov] (getMethod ov m pl)
      callWith pos f first (backTo pos (starEach [] X.env)) (backToKw pos (keywordEach [] X.env))) := by rfl) :
    PE X (.Call (.Attribute o m apos) [] [] pos) (TM X W (mMeth tb m mo aNil)) := (pe_methT0 he hr tk ht).wk fun σ H Q t => by
  obtain ⟨w, G, h, g, r, o⟩ := meth_read (as := aNil) hT t
  refine ⟨w, G, h, g, r, ?_⟩
  cases em : mo G h with
  | ok d h1 =>
    rw [em] at o
    intro v w' H' l r' x
    obtain ⟨a, C, dx, fs, k, f, fd, ps, sp, q1, q2, q3, q4, q5, q6, q7, q8, q9⟩ := o v w' H' l r' x
    refine ⟨a, C, dx, fs, k, f, fd, ps, sp, q1, q2, q3, q4, q5, q6, q7, q8, ?_⟩
    obtain ⟨w3, G3, h3, g3, r3, o3⟩ := q9
    exact o3 [] w3 H' (Le.refl _) r3 .nil
  | exc c fs h1 => rw [em] at o; exact o
  | stuck => rw [em] at o; exact o
end
/-! ### making -/
def tMakeT (C : Addr) (W : WX) (sp : Sp) (t : TA) : TE := fun σ H Q => t σ H fun vs H1 => ∀ x dx, H1 x = none → H1 dx = none → dx ≠ x →
  sp (.ref x :: vs) (upd (upd H1 dx (.own x)) x (.ins C dx [])) (fun v H2 => v = .non ∧ Q (.ref x) H2) (WE W σ)
section
variable {X : Cx} {W : WX} {x : Str} {k k' : Nat} {f C : Addr} {fd : FuncData} {ps : List Str} {sp : Sp} {e : Expr} {es : List Expr} {t : TA} {p pos : Pos} {as : MeL} {fn : Fn}
theorem run_makeS {pins : List (Addr × Obj)} {σ : L2.St} {H : Hp} {s : Shared} {Q : VK} {us : List Value} {vs : List V} {E : XK} (M : Mk X.K C f) (F : FnOk X.prog X.w X.K X.mg X.base (L2.CX X.prog X.w) k f fd ps sp) (hr : Room (k + 1) X.A) (hb : Binds X.K fd ps [])
    (hx : PassesAt (L2.CX X.prog X.w) X σ E) (I : Inv X pins σ H s) (r : Vals vs us)
    (hx2 : ∀ (pins : List (Addr × Obj)) (H : Hp) (s : Shared) (e : Value) (s' : Shared), Inv X pins σ H s → L2.CX X.prog X.w X.stack H s E e s' → X.xe e s')
    (h : ∀ x dx, H x = none → H dx = none → dx ≠ x → sp (.ref x :: vs) (upd (upd H dx (.own x)) x (.ins C dx [])) (fun v H2 => v = .non ∧ Q (.ref x) H2) E) :
    wpAny (model X.prog X.w) X.A (call (.ref C) us) (EP X pins σ Q) X.xe s := by
  have hq := h (s.heap.objs.size + 1) s.heap.objs.size (I.hok.fresh (Nat.le_succ _)) (I.hok.fresh (Nat.le_refl _)) (Nat.ne_of_lt (Nat.lt_succ_self _))
  have I2 := Inv.made (C := C) I
  have r2 : Vals (V.ref (s.heap.objs.size + 1) :: vs) (Value.ref (s.heap.objs.size + 1) :: us) := .cons rfl r
  have hl : (Value.ref (s.heap.objs.size + 1) :: us).length = ps.length := by
    have e := r2.length
    rw [F.len _ _ _ _ hq] at e
    exact e.symm
  have b := hb (s := { s with heap := (s.heap.push PySem.W.emptyDict).push (PySem.W.instObj C s.heap.objs.size) }) (Value.ref (s.heap.objs.size + 1) :: us) I2.kIn (by rw [List.append_nil]; exact hl)
  rw [List.append_nil] at b
  refine wpAny_call (make_map (f := f) I.kIn M.makes M.init (beq_iff_eq.mp M.fn) (codeAny_mono (F.run _ X.stack _ _ ⟨Value.ref (s.heap.objs.size + 1) :: us, []⟩ (Value.ref (s.heap.objs.size + 1) :: us) _ _ E (hr.make C us [])
    (I2.env0.make C us []) b r2 hq) fun r s' hq' => ?_))
  cases r with
  | error e => exact hx2 pins _ _ e s' I2 hq'
  | ok fl =>
    cases fl with
    | ret u =>
      obtain ⟨v, H', I3, rv, ev, q3⟩ := I2.after hq'
      subst ev
      exact ⟨rv, ⟨V.ref (s.heap.objs.size + 1), H', I3, rfl, q3⟩⟩
    | next => exact False.elim hq'
    | brk => exact False.elim hq'
    | cont => exact False.elim hq'
theorem pe_makeT (M : Mk X.K C f) (F : FnOk X.prog X.w X.K X.mg X.base (L2.CX X.prog X.w) k f fd ps sp) (hr : Room (k + 1) X.A) (tk : Takes X W) (hm : X.mg x = some (.ref C)) (hb : Binds X.K fd ps [])
    (ha : PA X (e :: es) t) (hg : Gl X x := by rfl) (hdb : (x == ("__debug__" : Str)) = false := by decide) (he : starEach (e :: es) X.env = (false, eval e X.env) :: starEach es X.env := by rfl) (hpl : (backTo pos (starEach es X.env)).any (·.1) = false := by rfl) :
    PE X (.Call (.Name x p) (e :: es) [] pos) (tMakeT C W sp t) := by
  refine ⟨fun pins s σ H Q I h => ?_⟩
  refine wpAny_Call_Name_kw (ld_glob I hg hm ?_ hdb)
  refine PySem.W.callWith_K (h₀ := X.base) I.ok.mod.kin M.kp (thn (ha.run pos pins s σ H _ I h) fun us s1 ⟨vs, H1, I1, r, q⟩ => ⟨I1.kIn, ?_⟩) he hpl
  exact run_makeS M F hr hb (passAt tk σ) I1 r (passAt tk σ) q
theorem e_make {C0 : Str} (M : MakOk X.prog X.w X.K X.mg X.base C0 k ps (spM X.K X.mg fn)) (hr : Room k' X.A) (tk : Takes X W) (ha : PA X (e :: es) (TAr X W as)) (hk : k + 1 ≤ k' := by first | decide | omega)
    (hg : Gl X C0 := by rfl) (hdb : (C0 == ("__debug__" : Str)) = false := by decide) (he : starEach (e :: es) X.env = (false, eval e X.env) :: starEach es X.env := by rfl) (hpl : (backTo pos (starEach es X.env)).any (·.1) = false := by rfl) :
    PE X (.Call (.Name C0 p) (e :: es) [] pos) (TM X W (mMake C0 fn as)) := by
  obtain ⟨Ca, f, fd, hn, hm, MM, hb, F⟩ := M.ex
  refine (pe_makeT MM F (hr.mono hk) tk hm hb ha hg hdb he hpl).wk fun σ H Q ⟨w, G, h, g, r, o⟩ => ⟨w, G, h, g, r, o.bindA fun ds h1 vs w1 H1 l r1 rs o1 => fun x dx nx ndx nex => ?_⟩
  have rA := r1.add (o := .own x) ndx
  have lA := r1.le_add (o := HO.own x) ndx
  have nx2 : upd H1 dx (.own x) x = none := by
    rw [upd_ne (Ne.symm nex)]
    exact nx
  have rB := rA.newO (u := .ins Ca dx []) (o := .ins C0 []) nx2 ⟨Ca, dx, [], hn, upd_same, rfl, .nil, upd_same⟩
  have lB : Le w1 ((w1.add dx (.own x)).push x) := lA.trans (Wd.le_push _ _)
  have hN : (w1.add dx (.own x)).N = h1.length := r1.len
  have rx := rv_new (K := X.K) (w := w1.add dx (.own x)) x
  rw [hN] at rx
  refine ⟨_, .loc h1.length :: ds, h1 ++ [.ins C0 []], .cons rx (Ra_mono lB rs), rB, ?_⟩
  cases em : fn (.loc h1.length :: ds) (h1 ++ [.ins C0 []]) with
  | ok d h3 =>
    rw [em] at o1
    intro v w4 H4 l4 r4 x4
    cases d with
    | non =>
      cases x4
      refine ⟨rfl, o1 _ w4 H4 (lB.trans l4) r4 (Rv_mono l4 rx)⟩
    | _ => exact o1.elim
  | exc c fs h3 =>
    rw [em] at o1
    intro cls dd w4 H4 e4 l4 r4 x4
    exact o1 cls dd w4 H4 e4 (lB.trans l4) r4 x4
  | stuck => rw [em] at o1; exact o1.elim
end
end AB
/-! AB: dicts whose keys are ints and texts, as objects of the machine. -/
namespace AB
open PySem PySem.Spec PyProof.Rows L2

abbrev KD := List (L2.Key × D)
def keyD : L2.Key → D
  | .inl i => .int i
  | .inr x => .str x
def toKey : D → Option L2.Key
  | .int i => some (.inl i)
  | .str x => some (.inr x)
  | _ => none
def valD (kvs : KD) (k : L2.Key) : Option D := (kvs.find? fun kv => decide (kv.1 = k)).map (·.2)
def putKD (kvs : KD) (k : L2.Key) (d : D) : KD := if (kvs.any fun kv => decide (kv.1 = k)) = true then kvs.map (fun kv => if kv.1 = k then (kv.1, d) else kv) else kvs ++ [(k, d)]
def dropKD (kvs : KD) (k : L2.Key) : KD := kvs.filter fun kv => decide (kv.1 ≠ k)
section
variable {K : PySem.W.Frag} {G : Hp} {mu : Nat → Addr} {N : Nat}
theorem toKey_rep {v : V} {d : D} {k : L2.Key} (r : RepV K G mu N v d) (e : toKey d = some k) : v = kV k := by
  cases r <;> first | (cases e; rfl) | cases e
theorem keyD_rep (k : L2.Key) : RepV K G mu N (kV k) (keyD k) := by
  cases k with
  | inl i => exact .int i
  | inr x => exact .str x
theorem rep_val (k : L2.Key) : ∀ {kv : List (L2.Key × V)} {kvs : KD}, kv.map (·.1) = kvs.map (·.1) → RepAll K G mu N (kv.map (·.2)) (kvs.map (·.2)) →
    (∀ d, valD kvs k = some d → ∃ v, valV kv k = some v ∧ RepV K G mu N v d) ∧ (valD kvs k = none → valV kv k = none)
  | [], [], _, _ => ⟨fun d e => (by cases e), fun _ => rfl⟩
  | [], _ :: _, e, _ => by cases e
  | _ :: _, [], e, _ => by cases e
  | (g, v) :: fv, (g', d) :: fs, e, r => by
    rw [List.map_cons, List.map_cons] at e r
    cases r with
    | cons r1 r2 =>
      obtain ⟨e1, e2⟩ := List.cons.inj e
      have e1 : g = g' := e1
      subst e1
      obtain ⟨i1, i2⟩ := rep_val k e2 r2
      by_cases c : g = k
      · have q1 : valV ((g, v) :: fv) k = some v := valV_pos c
        have q2 : valD ((g, d) :: fs) k = some d := by simp [valD, List.find?_cons, c]
        rw [q1, q2]
        exact ⟨fun x q => by cases q; exact ⟨v, rfl, r1⟩, fun q => by cases q⟩
      · have q1 : valV ((g, v) :: fv) k = valV fv k := valV_neg c
        have q2 : valD ((g, d) :: fs) k = valD fs k := by simp [valD, List.find?_cons, c]
        rw [q1, q2]
        exact ⟨i1, i2⟩
theorem any_keys (k : L2.Key) : ∀ {kv : List (L2.Key × V)} {kvs : KD}, kv.map (·.1) = kvs.map (·.1) → (kv.any fun x => decide (x.1 = k)) = (kvs.any fun x => decide (x.1 = k))
  | [], [], _ => rfl
  | [], _ :: _, e => by cases e
  | _ :: _, [], e => by cases e
  | (g, v) :: fv, (g', d) :: fs, e => by
    rw [List.map_cons, List.map_cons] at e
    obtain ⟨e1, e2⟩ := List.cons.inj e
    have e1 : g = g' := e1
    subst e1
    rw [List.any_cons, List.any_cons, any_keys k e2]
theorem rep_mapK (k : L2.Key) {v : V} {d : D} (rv : RepV K G mu N v d) : ∀ {kv : List (L2.Key × V)} {kvs : KD}, kv.map (·.1) = kvs.map (·.1) → RepAll K G mu N (kv.map (·.2)) (kvs.map (·.2)) →
    (kv.map fun x => if x.1 = k then (x.1, v) else x).map (·.1) = (kvs.map fun x => if x.1 = k then (x.1, d) else x).map (·.1) ∧ RepAll K G mu N ((kv.map fun x => if x.1 = k then (x.1, v) else x).map (·.2)) ((kvs.map fun x => if x.1 = k then (x.1, d) else x).map (·.2))
  | [], [], _, _ => ⟨rfl, .nil⟩
  | [], _ :: _, e, _ => by cases e
  | _ :: _, [], e, _ => by cases e
  | (g, x) :: fv, (g', y) :: fs, e, r => by
    rw [List.map_cons, List.map_cons] at e r
    cases r with
    | cons r1 r2 =>
      obtain ⟨e1, e2⟩ := List.cons.inj e
      have e1 : g = g' := e1
      subst e1
      obtain ⟨i1, i2⟩ := rep_mapK k rv e2 r2
      rw [List.map_cons, List.map_cons, List.map_cons, List.map_cons, List.map_cons, List.map_cons]
      by_cases c : g = k
      · rw [if_pos c, if_pos c]
        exact ⟨by rw [i1], .cons rv i2⟩
      · rw [if_neg c, if_neg c]
        exact ⟨by rw [i1], .cons r1 i2⟩
theorem rep_putK (k : L2.Key) {v : V} {d : D} (rv : RepV K G mu N v d) {kv : List (L2.Key × V)} {kvs : KD} (e : kv.map (·.1) = kvs.map (·.1)) (r : RepAll K G mu N (kv.map (·.2)) (kvs.map (·.2))) :
    (putK kv k v).map (·.1) = (putKD kvs k d).map (·.1) ∧ RepAll K G mu N ((putK kv k v).map (·.2)) ((putKD kvs k d).map (·.2)) := by
  unfold putK putKD
  rw [any_keys k e]
  by_cases c : (kvs.any fun x => decide (x.1 = k)) = true
  · rw [if_pos c, if_pos c]
    exact rep_mapK k rv e r
  · rw [if_neg c, if_neg c]
    refine ⟨by rw [List.map_append, List.map_append, e]; rfl, ?_⟩
    rw [List.map_append, List.map_append]
    exact r.append (.cons rv .nil)
theorem rep_dropK (k : L2.Key) : ∀ {kv : List (L2.Key × V)} {kvs : KD}, kv.map (·.1) = kvs.map (·.1) → RepAll K G mu N (kv.map (·.2)) (kvs.map (·.2)) →
    (dropK kv k).map (·.1) = (dropKD kvs k).map (·.1) ∧ RepAll K G mu N ((dropK kv k).map (·.2)) ((dropKD kvs k).map (·.2))
  | [], [], _, _ => ⟨rfl, .nil⟩
  | [], _ :: _, e, _ => by cases e
  | _ :: _, [], e, _ => by cases e
  | (g, x) :: fv, (g', y) :: fs, e, r => by
    rw [List.map_cons, List.map_cons] at e r
    cases r with
    | cons r1 r2 =>
      obtain ⟨e1, e2⟩ := List.cons.inj e
      have e1 : g = g' := e1
      subst e1
      obtain ⟨i1, i2⟩ := rep_dropK k e2 r2
      unfold dropK dropKD at i1 i2 ⊢
      by_cases c : g = k
      · simp only [List.filter_cons, c, ne_eq, not_true_eq_false, decide_false, Bool.false_eq_true, if_false]
        exact ⟨i1, i2⟩
      · simp only [List.filter_cons, c, ne_eq, not_false_eq_true, decide_true, if_true, List.map_cons]
        exact ⟨by rw [i1], .cons r1 i2⟩
end
/-- the dict at n, locked or not -/
def dctAt (h : AH) (n : Nat) : Option KD := match h[n]? with
  | some (.dct kvs) => some kvs
  | some (.lck kvs) => some kvs
  | _ => none
theorem dct_rd {K : PySem.W.Frag} {w : Wd} {H : Hp} {h : AH} {n : Nat} {kvs : KD} (r : RepH K w H h) (e : dctAt h n = some kvs) : ∃ kv, Rd H (w.mu n) (.dK kv) ∧ kv.map (·.1) = kvs.map (·.1) ∧ Ra K w (kv.map (·.2)) (kvs.map (·.2)) := by
  unfold dctAt at e
  split at e
  · rename_i ks ek
    cases e
    obtain ⟨_, kv, e1, e2, ra⟩ := r.cell n _ ek
    exact ⟨kv, .inl e1, e2, ra⟩
  · rename_i ks ek
    cases e
    obtain ⟨_, o, kv, e1, _, e2, ra⟩ := r.cell n _ ek
    exact ⟨kv, .inr ⟨o, e1⟩, e2, ra⟩
  · cases e
/-- d[k] -/
def fDGet (x y : D) (h : AH) : Res D := match x with
  | .loc n => match dctAt h n, toKey y with
    | some kvs, some k => match valD kvs k with
      | some d => .ok d h
      | none => .stuck
    | _, _ => .stuck
  | _ => .stuck
/-- k in d -/
def fDIn (x y : D) (h : AH) : Res D := match y with
  | .loc n => match dctAt h n, toKey x with
    | some kvs, some k => .ok (.bl (valD kvs k).isSome) h
    | _, _ => .stuck
  | _ => .stuck
def fDNotIn (x y : D) (h : AH) : Res D := match y with
  | .loc n => match dctAt h n, toKey x with
    | some kvs, some k => .ok (.bl (!(valD kvs k).isSome)) h
    | _, _ => .stuck
  | _ => .stuck
/-- {} -/
def mDNew : Me := fun _ h => .ok (.loc h.length) (h ++ [.dct []])
/-- d[k] = v -/
def sDPutM (o k v : Me) : Ms := fun G h => (v G h).toS G fun x h1 => (o G h1).toS G fun d h2 => (k G h2).toS G fun j h3 => match d with
  | .loc n => match h3[n]?, toKey j with
    | some (.dct kvs), some q => if kvs.length < big then .next G (h3.set n (.dct (putKD kvs q x))) else .stuck
    | _, _ => .stuck
  | _ => .stuck
/-- d.get(k), d.get(k, x) -/
def mDGet1 (o k : Me) : Me := fun G h => (o G h).bind fun d h1 => match d with
  | .loc n => match dctAt h1 n with
    | some _ => (k G h1).bind fun j h2 => match dctAt h2 n, toKey j with
      | some kvs, some q => .ok ((valD kvs q).getD .non) h2
      | _, _ => .stuck
    | none => .stuck
  | _ => .stuck
def mDGet2 (o k x : Me) : Me := fun G h => (o G h).bind fun d h1 => match d with
  | .loc n => match dctAt h1 n with
    | some _ => (k G h1).bind fun j h2 => (x G h2).bind fun z h3 => match dctAt h3 n, toKey j with
      | some kvs, some q => .ok ((valD kvs q).getD z) h3
      | _, _ => .stuck
    | none => .stuck
  | _ => .stuck
/-- d.setdefault(k, x) -/
def mDSetd (o k x : Me) : Me := fun G h => (o G h).bind fun d h1 => match d with
  | .loc n => match dctAt h1 n with
    | some _ => (k G h1).bind fun j h2 => (x G h2).bind fun z h3 => match h3[n]?, toKey j with
      | some (.dct kvs), some q => if kvs.length < big then (match valD kvs q with
        | some y => .ok y h3
        | none => .ok z (h3.set n (.dct (putKD kvs q z)))) else .stuck
      | _, _ => .stuck
    | none => .stuck
  | _ => .stuck
/-- d.pop(k) -/
def mDPop1 (o k : Me) : Me := fun G h => (o G h).bind fun d h1 => match d with
  | .loc n => match dctAt h1 n with
    | some _ => (k G h1).bind fun j h2 => match h2[n]?, toKey j with
      | some (.dct kvs), some q => (match valD kvs q with
        | some y => .ok y (h2.set n (.dct (dropKD kvs q)))
        | none => .stuck)
      | _, _ => .stuck
    | none => .stuck
  | _ => .stuck
section
variable {X : Cx} {W : WX} {o i e f value : Expr} {pos pos' tpos apos cpos : Pos} {mo mk mv mx : Me}
theorem dget_of {w : Wd} {H : Hp} {h : AH} {n : Nat} {kvs : KD} {y : V} {d : D} {k : L2.Key} (r : RepH X.K w H h) (e : dctAt h n = some kvs) (ry : Rv X.K w y d) (ek : toKey d = some k) :
    ∃ ov, DGet H (w.mu n) y ov ∧ (∀ x, valD kvs k = some x → ∃ v, ov = some v ∧ Rv X.K w v x) ∧ (valD kvs k = none → ov = none) := by
  obtain ⟨kv, e1, e2, ra⟩ := dct_rd r e
  have ey := toKey_rep ry ek
  subst ey
  exact ⟨valV kv k, .inl ⟨kv, k, e1, rfl, rfl⟩, (rep_val k e2 ra).1, (rep_val k e2 ra).2⟩
theorem isD_of {w : Wd} {H : Hp} {h : AH} {n : Nat} {kvs : KD} (r : RepH X.K w H h) (e : dctAt h n = some kvs) : IsD H (w.mu n) := by
  obtain ⟨kv, e1, _⟩ := dct_rd r e
  exact .inl ⟨kv, e1⟩
theorem isSome_of {kvs : KD} {k : L2.Key} {ov : Option V} {w : Wd} (h1 : ∀ x, valD kvs k = some x → ∃ v, ov = some v ∧ Rv X.K w v x) (h2 : valD kvs k = none → ov = none) : ov.isSome = (valD kvs k).isSome := by
  cases e : valD kvs k with
  | none => rw [h2 e]; rfl
  | some x =>
    obtain ⟨v, ev, _⟩ := h1 x e
    rw [ev]
    rfl
theorem e_dget (hu : X.A.units + 1 < cLine) (ho : PE X o (TM X W mo)) (hi : PE X i (TM X W mk)) (hs : NoSl i := by exact fun _ _ => rfl) : PE X (.Subscript o i pos) (TM X W (mOp2 fDGet mo mk)) := by
  refine (pe_dget hu ho hi hs).wk fun σ H Q ⟨w, G, h, g, r, o⟩ => ⟨w, G, h, g, r, o.bindE fun x h1 v1 w1 H1 l1 r1 rx o1 => ⟨w1, G, h1, g.mono l1, r1, o1.bindE fun y h2 v2 w2 H2 l2 r2 ry o2 => ?_⟩⟩
  unfold fDGet at o2
  split at o2
  · rename_i n
    obtain ⟨rfl, hn⟩ := rv_loc rx
    split at o2
    · rename_i kvs k e1 e2
      split at o2
      · rename_i d ed
        obtain ⟨ov, g1, g2, _⟩ := dget_of r2 e1 ry e2
        obtain ⟨v, ev, rv⟩ := g2 d ed
        subst ev
        refine ⟨_, v, rfl, ?_, o2 v w2 H2 (Le.refl _) r2 rv⟩
        rw [← l2.mu n hn]
        exact g1
      · exact o2.elim
    · exact o2.elim
  · exact o2.elim
def rDIn (b : Bool) : R2 := fun x y H Q => ∃ a o, y = .ref a ∧ DGet H a x o ∧ Q (.bl (if b then o.isSome else !o.isSome)) H
theorem op_dIn (hu : X.A.units + 1 < cLine) : OpR X (compareOp .In) (rDIn true) := by
  rintro pins s σ H x y u v Q I rx ry ⟨a, o, rfl, g, q⟩
  obtain rfl : v = Value.ref a := ry
  exact d_in hu I g rx fun s3 I3 => ⟨.bl o.isSome, H, I3, rfl, q⟩
theorem op_dNotIn (hu : X.A.units + 1 < cLine) : OpR X (compareOp .NotIn) (rDIn false) := by
  rintro pins s σ H x y u v Q I rx ry ⟨a, o, rfl, g, q⟩
  obtain rfl : v = Value.ref a := ry
  exact d_notIn hu I g rx fun s3 I3 => ⟨.bl (!o.isSome), H, I3, rfl, q⟩
theorem fol_dIn : Fol2 X W fDIn (rDIn true) := by
  intro w h H σ Q v1 v2 d1 d2 rh r1 r2 o
  unfold fDIn at o
  split at o
  · rename_i n
    obtain ⟨rfl, hn⟩ := rv_loc r2
    split at o
    · rename_i kvs k e1 e2
      obtain ⟨ov, g1, g2, g3⟩ := dget_of rh e1 r1 e2
      refine ⟨_, ov, rfl, g1, ?_⟩
      have q := isSome_of g2 g3
      rw [if_pos rfl, q]
      exact o _ w H (Le.refl _) rh (.bl _)
    · exact o.elim
  · exact o.elim
theorem fol_dNotIn : Fol2 X W fDNotIn (rDIn false) := by
  intro w h H σ Q v1 v2 d1 d2 rh r1 r2 o
  unfold fDNotIn at o
  split at o
  · rename_i n
    obtain ⟨rfl, hn⟩ := rv_loc r2
    split at o
    · rename_i kvs k e1 e2
      obtain ⟨ov, g1, g2, g3⟩ := dget_of rh e1 r1 e2
      refine ⟨_, ov, rfl, g1, ?_⟩
      have q := isSome_of g2 g3
      rw [if_neg (by decide), q]
      exact o _ w H (Le.refl _) rh (.bl _)
    · exact o.elim
  · exact o.elim
theorem e_dnew : PE X (.Dict [] [] pos) (TM X W mDNew) := by
  refine pe_dnewK.wk fun σ H Q ⟨w, G, h, g, r, o⟩ => fun p hp => ?_
  have r1 := r.newO (u := .dK []) (o := .dct []) hp ⟨[], upd_same, rfl, .nil⟩
  have rx := rv_new (K := X.K) (w := w) p
  rw [r.len] at rx
  exact o (.ref p) (w.push p) _ (w.le_push p) r1 rx
theorem set_dct {w : Wd} {H : Hp} {h : AH} {n : Nat} {kvs : KD} {kv : List (L2.Key × V)} (r : RepH X.K w H h) (hn : n < w.N) (e2 : kv.map (·.1) = kvs.map (·.1)) (ra : Ra X.K w (kv.map (·.2)) (kvs.map (·.2))) :
    RepH X.K w (upd H (w.mu n) (.dK kv)) (h.set n (.dct kvs)) := r.set hn ⟨kv, upd_same, e2, ra⟩
theorem kv_len {kv : List (L2.Key × V)} {kvs : KD} (e : kv.map (·.1) = kvs.map (·.1)) : kv.length = kvs.length := by
  have := congrArg List.length e
  simpa using this
theorem s_dput (hu : X.A.units + 1 < cLine) (ho : PE X o (TM X W mo)) (hi : PE X i (TM X W mk)) (hv : PE X value (TM X W mv)) (hs : swapsWith value (some (.Subscript o i pos')) pos.line X.env = pure false := by rfl) :
    PS X (.Assign [.Subscript o i pos'] value pos) (TSS X W (sDPutM mo mk mv)) := by
  refine (ps_dput hu ho hi hv hs).wk fun D σ H ⟨w, G, h, g, r, o⟩ => ⟨w, G, h, g, r, OutS.bindE (m := mv) g o fun x h1 v w1 H1 l1 r1 rx o1 => ?_⟩
  have g1 := g.mono l1
  refine ⟨w1, G, h1, g1, r1, OutS.bindE (m := mo) g1 o1 fun d h2 v2 w2 H2 l2 r2 rd o2 => ?_⟩
  have g2 := g1.mono l2
  refine ⟨w2, G, h2, g2, r2, OutS.bindE (m := mk) g2 o2 fun j h3 v3 w3 H3 l3 r3 rj o3 => ?_⟩
  split at o3
  · rename_i n
    obtain ⟨rfl, hn⟩ := rv_loc rd
    split at o3
    · rename_i kvs q e1 e2
      split at o3
      · rename_i hl
        obtain ⟨_, kv, f1, f2, ra⟩ := r3.cell n _ e1
        have ey := toKey_rep rj e2
        subst ey
        have emu : w3.mu n = w2.mu n := l3.mu n hn
        have hn3 : n < w3.N := Nat.lt_of_lt_of_le hn l3.n
        obtain ⟨p1, p2⟩ := rep_putK q (Rv_mono (l2.trans l3) rx) f2 ra
        refine ⟨_, upd H3 (w3.mu n) (.dK (putK kv q v)), rfl, .inl ⟨kv, q, ?_, rfl, big_lt (by rw [kv_len f2]; exact hl), ?_⟩, ?_⟩
        · rw [← emu]; exact f1
        · rw [emu]
        · exact o3 σ w3 _ (Le.refl _) (g2.mono l3) (set_dct r3 hn3 p1 p2)
      · exact o3.elim
    · exact o3.elim
  · exact o3.elim
theorem e_dget1 (hu : X.A.units + 1 < cLine) (ho : PE X o (TM X W mo)) (he : PE X e (TM X W mk)) (m : M1 X o "get" apos e cpos := by exact ⟨rfl, rfl, rfl, rfl⟩) : PE X (.Call (.Attribute o "get" apos) [e] [] cpos) (TM X W (mDGet1 mo mk)) := by
  refine (pe_dget1 hu ho he m).wk fun σ H Q ⟨w, G, h, g, r, o⟩ => ⟨w, G, h, g, r, o.bindE fun x h1 v1 w1 H1 l1 r1 rx o1 => ?_⟩
  split at o1
  · rename_i n
    obtain ⟨rfl, hn⟩ := rv_loc rx
    split at o1
    · rename_i ks ek
      refine ⟨_, rfl, isD_of r1 ek, w1, G, h1, g.mono l1, r1, o1.bindE fun y h2 v2 w2 H2 l2 r2 ry o2 => ?_⟩
      split at o2
      · rename_i kvs q e1 e2
        obtain ⟨ov, g1, g2, g3⟩ := dget_of r2 e1 ry e2
        refine ⟨ov, by rw [← l2.mu n hn]; exact g1, o2 _ w2 H2 (Le.refl _) r2 ?_⟩
        cases ev : valD kvs q with
        | none => rw [g3 ev]; exact .non
        | some d =>
          obtain ⟨v, e3, rv⟩ := g2 d ev
          rw [e3]
          exact rv
      · exact o2.elim
    · exact o1.elim
  · exact o1.elim
theorem e_dget2 (hu : X.A.units + 1 < cLine) (ho : PE X o (TM X W mo)) (he : PE X e (TM X W mk)) (hf : PE X f (TM X W mx)) (m : M2 X o "get" apos e f cpos := by exact ⟨rfl, rfl, rfl, rfl⟩) : PE X (.Call (.Attribute o "get" apos) [e, f] [] cpos) (TM X W (mDGet2 mo mk mx)) := by
  refine (pe_dget2 hu ho he hf m).wk fun σ H Q ⟨w, G, h, g, r, o⟩ => ⟨w, G, h, g, r, o.bindE fun x h1 v1 w1 H1 l1 r1 rx o1 => ?_⟩
  split at o1
  · rename_i n
    obtain ⟨rfl, hn⟩ := rv_loc rx
    split at o1
    · rename_i ks ek
      refine ⟨_, rfl, isD_of r1 ek, w1, G, h1, g.mono l1, r1, o1.bindE fun y h2 v2 w2 H2 l2 r2 ry o2 => ?_⟩
      refine ⟨w2, G, h2, (g.mono l1).mono l2, r2, o2.bindE fun z h3 v3 w3 H3 l3 r3 rz o3 => ?_⟩
      split at o3
      · rename_i kvs q e1 e2
        obtain ⟨ov, g1, g2, g3⟩ := dget_of r3 e1 (Rv_mono l3 ry) e2
        refine ⟨ov, by rw [← (l2.trans l3).mu n hn]; exact g1, o3 _ w3 H3 (Le.refl _) r3 ?_⟩
        cases ev : valD kvs q with
        | none => rw [g3 ev]; exact rz
        | some d =>
          obtain ⟨v, e3, rv⟩ := g2 d ev
          rw [e3]
          exact rv
      · exact o3.elim
    · exact o1.elim
  · exact o1.elim
theorem e_dsetd (ho : PE X o (TM X W mo)) (he : PE X e (TM X W mk)) (hf : PE X f (TM X W mx)) (m : M2 X o "setdefault" apos e f cpos := by exact ⟨rfl, rfl, rfl, rfl⟩) : PE X (.Call (.Attribute o "setdefault" apos) [e, f] [] cpos) (TM X W (mDSetd mo mk mx)) := by
  refine (pe_dsetd ho he hf m).wk fun σ H Q ⟨w, G, h, g, r, o⟩ => ⟨w, G, h, g, r, o.bindE fun x h1 v1 w1 H1 l1 r1 rx o1 => ?_⟩
  split at o1
  · rename_i n
    obtain ⟨rfl, hn⟩ := rv_loc rx
    split at o1
    · rename_i ks ek
      refine ⟨_, rfl, isD_of r1 ek, w1, G, h1, g.mono l1, r1, o1.bindE fun y h2 v2 w2 H2 l2 r2 ry o2 => ?_⟩
      refine ⟨w2, G, h2, (g.mono l1).mono l2, r2, o2.bindE fun z h3 v3 w3 H3 l3 r3 rz o3 => ?_⟩
      split at o3
      · rename_i kvs q e1 e2
        split at o3
        · rename_i hl
          obtain ⟨_, kv, f1, f2, ra⟩ := r3.cell n _ e1
          have ey := toKey_rep (Rv_mono l3 ry) e2
          subst ey
          have emu : w3.mu n = w1.mu n := (l2.trans l3).mu n hn
          have hn3 : n < w3.N := Nat.lt_of_lt_of_le hn (l2.trans l3).n
          refine ⟨kv, q, by rw [← emu]; exact f1, rfl, big_lt (by rw [kv_len f2]; exact hl), fun v hv => ?_, fun hv => ?_⟩
          · cases ev : valD kvs q with
            | none =>
              rw [(rep_val q f2 ra).2 ev] at hv
              cases hv
            | some d =>
              rw [ev] at o3
              obtain ⟨u, e3, ru⟩ := (rep_val q f2 ra).1 d ev
              rw [e3] at hv
              cases hv
              exact o3 _ w3 H3 (Le.refl _) r3 ru
          · cases ev : valD kvs q with
            | some d =>
              obtain ⟨u, e3, ru⟩ := (rep_val q f2 ra).1 d ev
              rw [e3] at hv
              cases hv
            | none =>
              rw [ev] at o3
              obtain ⟨p1, p2⟩ := rep_putK q rz f2 ra
              rw [← emu]
              exact o3 _ w3 _ (Le.refl _) (set_dct r3 hn3 p1 p2) rz
        · exact o3.elim
      · exact o3.elim
    · exact o1.elim
  · exact o1.elim
theorem e_dpop1 (ho : PE X o (TM X W mo)) (he : PE X e (TM X W mk)) (m : M1 X o "pop" apos e cpos := by exact ⟨rfl, rfl, rfl, rfl⟩) : PE X (.Call (.Attribute o "pop" apos) [e] [] cpos) (TM X W (mDPop1 mo mk)) := by
  refine (pe_dpop1 ho he m).wk fun σ H Q ⟨w, G, h, g, r, o⟩ => ⟨w, G, h, g, r, o.bindE fun x h1 v1 w1 H1 l1 r1 rx o1 => ?_⟩
  split at o1
  · rename_i n
    obtain ⟨rfl, hn⟩ := rv_loc rx
    split at o1
    · rename_i ks ek
      refine ⟨_, rfl, isD_of r1 ek, w1, G, h1, g.mono l1, r1, o1.bindE fun y h2 v2 w2 H2 l2 r2 ry o2 => ?_⟩
      split at o2
      · rename_i kvs q e1 e2
        split at o2
        · rename_i d ed
          obtain ⟨_, kv, f1, f2, ra⟩ := r2.cell n _ e1
          have ey := toKey_rep ry e2
          subst ey
          obtain ⟨v, e3, rv⟩ := (rep_val q f2 ra).1 d ed
          obtain ⟨p1, p2⟩ := rep_dropK q f2 ra
          have hn2 : n < w2.N := Nat.lt_of_lt_of_le hn l2.n
          refine ⟨kv, q, v, by rw [← l2.mu n hn]; exact f1, rfl, e3, ?_⟩
          rw [← l2.mu n hn]
          exact o2 _ w2 _ (Le.refl _) (set_dct r2 hn2 p1 p2) rv
        · exact o2.elim
      · exact o2.elim
    · exact o1.elim
  · exact o1.elim
end
end AB
/-! AB: loops over dicts, which are locked meanwhile. -/
namespace AB
open PySem PySem.Spec PyProof.Rows L2

def pickI (kv : L2.Key × D) : D := .tup [keyD kv.1, kv.2]
def pickK (kv : L2.Key × D) : D := keyD kv.1
def pickV (kv : L2.Key × D) : D := kv.2
open Classical in
noncomputable def forGoD (p : Pat) (body : Ms) (pick : L2.Key × D → D) (n : Nat) (kvs : KD) : KD → Env → AH → SR
  | [], G, h => if h[n]? = some (.lck kvs) then .next G (h.set n (.dct kvs)) else .stuck
  | x :: r, G, h => if h[n]? = some (.lck kvs) then
      match asg p (pick x) G with
      | some G1 => match body G1 h with
        | .next G2 h2 => forGoD p body pick n kvs r G2 h2
        | .cont G2 h2 => forGoD p body pick n kvs r G2 h2
        | .brk G2 h2 => if h2[n]? = some (.lck kvs) then .next G2 (h2.set n (.dct kvs)) else .stuck
        | .ret d h2 => if h2[n]? = some (.lck kvs) then .ret d (h2.set n (.dct kvs)) else .stuck
        | _ => .stuck
      | none => .stuck
    else .stuck
open Classical in
/-- for .. in d.items() (keys, values): d is a plain thing, a name or an attribute -/
noncomputable def sForD (pick : L2.Key × D → D) (p : Pat) (o : Me) (body : Ms) : Ms := fun G h => match o G h with
  | .ok (.loc n) h1 => if h1 = h then (match h[n]? with
    | some (.dct kvs) => if o G (h.set n (.lck kvs)) = .ok (.loc n) (h.set n (.lck kvs)) then forGoD p body pick n kvs kvs G (h.set n (.lck kvs)) else .stuck
    | _ => .stuck) else .stuck
  | _ => .stuck
/-- other locks -/
def Wd.lkd (w : Wd) (L : Hp) : Wd := ⟨w.S, w.F, w.mu, w.N, L⟩
section
variable {K : PySem.W.Frag} {w : Wd} {H : Hp} {h : AH}
theorem RepH.relk (r : RepH K w H h) {n : Nat} {u : HO} {o : AO} {L : Hp} (hn : n < w.N) (hL : ∀ a, a ≠ w.mu n → L a = w.LK a) (ro : RepO K (w.lkd L) (upd H (w.mu n) u) (w.mu n) o) : RepH K (w.lkd L) (upd H (w.mu n) u) (h.set n o) := by
  refine ⟨fun a x e => ?_, by rw [List.length_set]; exact r.len, r.inj, fun m o' e => ?_, fun a x e => by rw [upd_ne (fun z => (r.dis a x e).2 n hn z.symm)]; exact r.exF _ _ e, r.dis⟩
  · have hl : n < h.length := by rw [← r.len]; exact hn
    obtain ⟨z, _⟩ := r.cell n h[n] (List.getElem?_eq_getElem hl)
    have q : a ≠ w.mu n := by
      intro y
      have e : w.S a = some x := e
      rw [y, z] at e
      cases e
    rw [upd_ne q]
    exact r.ex _ _ e
  · by_cases hm : m = n
    · subst hm
      have hl : m < h.length := by rw [← r.len]; exact hn
      obtain ⟨z, _⟩ := r.cell m h[m] (List.getElem?_eq_getElem hl)
      rw [List.getElem?_set_self hl] at e
      cases e
      exact ⟨z, ro⟩
    · rw [List.getElem?_set_ne (Ne.symm hm)] at e
      obtain ⟨a, b⟩ := r.cell m o' e
      have hl : m < w.N := by rw [r.len]; exact (List.getElem?_eq_some_iff.mp e).1
      have hne : w.mu m ≠ w.mu n := fun z => hm (r.inj m n hl hn z)
      refine ⟨a, ?_⟩
      have b2 : RepO K w (upd H (w.mu n) u) (w.mu m) o' := b.mono (Le.refl w) (upd_ne hne)
      show RepO K (w.lkd L) (upd H (w.mu n) u) (w.mu m) o'
      cases o' with
      | lst ds => exact b2
      | ins C fs => exact b2
      | dct kvs => exact b2
      | lck kvs =>
        obtain ⟨o, kv, e1, e0, e2, ra⟩ := b2
        exact ⟨o, kv, e1, (hL _ hne).trans e0, e2, ra⟩
      | hld ks => exact b2
end
section
variable {X : Cx} {W : WX} {tg iter e : Expr} {body : List Stmt} {pos apos cpos : Pos} {p : Pat} {mo : Me} {mb : Ms} {pick : L2.Key × D → D}
/-- what is walked of the locked dict at a -/
structure WalksD (K : PySem.W.Frag) (J : Addr → Obj → List (L2.Key × V) → It) (pick : L2.Key × D → D) : Prop where
  go : ∀ d o kvs i H, H d = some (.frz o (.dK kvs)) → i < kvs.length → (J d o kvs).go i H
  stop : ∀ d o kvs i H, H d = some (.frz o (.dK kvs)) → kvs.length ≤ i → (J d o kvs).stop i H
  yld : ∀ (w : Wd) (h : AH) d o kvs (ks : KD) i H x H2 kd, RepH K w H h → (J d o kvs).yld i H x H2 → kvs.map (·.1) = ks.map (·.1) → Ra K w (kvs.map (·.2)) (ks.map (·.2)) → ks[i]? = some kd →
    ∃ w2, Le w w2 ∧ RepH K w2 H2 h ∧ Rv K w2 x (pick kd)
theorem at_both {K : PySem.W.Frag} {w : Wd} {kvs : List (L2.Key × V)} {ks : KD} {i : Nat} {kd : L2.Key × D} {k : L2.Key} {v : V} (e : kvs.map (·.1) = ks.map (·.1)) (ra : Ra K w (kvs.map (·.2)) (ks.map (·.2))) (h1 : ks[i]? = some kd) (h2 : kvs[i]? = some (k, v)) :
    k = kd.1 ∧ Rv K w v kd.2 := by
  have q1 : (kvs.map (·.1))[i]? = some k := by rw [List.getElem?_map, h2]; rfl
  rw [e, List.getElem?_map, h1] at q1
  have q2 : (ks.map (·.2))[i]? = some kd.2 := by rw [List.getElem?_map, h1]; rfl
  obtain ⟨u, e1, ru⟩ := ra.get q2
  rw [List.getElem?_map, h2] at e1
  cases q1
  cases e1
  exact ⟨rfl, ru⟩
theorem walks_items {K : PySem.W.Frag} : WalksD K Iti pickI := by
  refine ⟨fun d o kvs i H h1 h2 => ⟨h1, h2⟩, fun d o kvs i H h1 h2 => ⟨h1, h2⟩, ?_⟩
  rintro w h d o kvs ks i H x H2 kd r ⟨T, k, v, e1, rfl, e2, rfl⟩ e ra ek
  obtain ⟨rfl, rv⟩ := at_both e ra ek e1
  refine ⟨w.add T (.tup [kV kd.1, v]), r.le_add e2, r.add e2, .tup (.inl (.inl upd_same)) (.cons (Rv_mono (r.le_add e2) (keyD_rep kd.1)) (.cons (Rv_mono (r.le_add e2) rv) .nil))⟩
theorem walks_keys {K : PySem.W.Frag} : WalksD K Itk pickK := by
  refine ⟨fun d o kvs i H h1 h2 => ⟨h1, h2⟩, fun d o kvs i H h1 h2 => ⟨h1, h2⟩, ?_⟩
  rintro w h d o kvs ks i H x H2 kd r ⟨rfl, k, v, e1, rfl⟩ e ra ek
  obtain ⟨rfl, rv⟩ := at_both e ra ek e1
  exact ⟨w, Le.refl _, r, keyD_rep kd.1⟩
theorem walks_vals {K : PySem.W.Frag} : WalksD K Itd pickV := by
  refine ⟨fun d o kvs i H h1 h2 => ⟨h1, h2⟩, fun d o kvs i H h1 h2 => ⟨h1, h2⟩, ?_⟩
  rintro w h d o kvs ks i H x H2 kd r ⟨rfl, k, e1⟩ e ra ek
  obtain ⟨rfl, rv⟩ := at_both e ra ek e1
  exact ⟨w, Le.refl _, r, rv⟩
theorem s_forD {J : Addr → Obj → List (L2.Key × V) → It} (wk : WalksD X.K J pick) {ti : TI} (hti : ∀ σ H (R : It → Hp → Prop), (TM X W mo σ H fun x H1 => ∃ d o kvs, x = .ref d ∧ H1 d = some (.frz o (.dK kvs)) ∧ R (J d o kvs) H1) → ti σ H R)
    (hp : PassesOwn (model X.prog X.w) X.A X.env X.xe) (hi : PI X tg iter ti) (hg : PG X tg (gP X.K p)) (hb : PSs X body (TSS X W mb)) (hc : X.calm = true := by rfl) (hs : ∀ x, foldedSetIterable iter X.env x = pure x := by intro _; rfl) :
    PS X (.For tg iter body [] pos) (TSS X W (sForD pick p mo mb)) := by
  refine (ps_lock (ps_for hp hc hi hg hb hs)).wk fun D σ H ⟨w, G, h, g, r, o⟩ => ?_
  unfold sForD at o
  split at o
  · rename_i n h1 eo
    split at o
    · rename_i eh
      subst eh
      split at o
      · rename_i kvs ec
        split at o
        · rename_i eo2
          have hn : n < w.N := by rw [r.len]; exact (List.getElem?_eq_some_iff.mp ec).1
          obtain ⟨sN, kv, e1, e2, ra⟩ := r.cell n _ ec
          refine ⟨w.mu n, .dK kv, e1, trivial, fun od => ?_⟩
          obtain ⟨wL, hwL⟩ : ∃ wL, wL = w.lkd (upd w.LK (w.mu n) (.frz od (.dK kv))) := ⟨_, rfl⟩
          have rL : RepH X.K wL (upd H (w.mu n) (.frz od (.dK kv))) (h1.set n (.lck kvs)) := by
            rw [hwL]
            exact r.relk hn (fun a ha => upd_ne ha) ⟨od, kv, upd_same, upd_same, e2, ra⟩
          have gL : RepG X.K wL σ G := by rw [hwL]; exact g
          have hnL : n < wL.N := by rw [hwL]; exact hn
          have muL : wL.mu n = w.mu n := by rw [hwL]; rfl
          have lkL : wL.LK = upd w.LK (w.mu n) (.frz od (.dK kv)) := by rw [hwL]; rfl
          -- the locked dict later
          have back : ∀ w' H' h', Le wL w' → RepH X.K w' H' h' → h'[n]? = some (.lck kvs) → w'.mu n = w.mu n ∧ H' (w.mu n) = some (.frz od (.dK kv)) ∧ Ra X.K w' (kv.map (·.2)) (kvs.map (·.2)) := by
            intro w' H' h' l' r' e'
            obtain ⟨_, o', kv', f1, f0, f2, ra'⟩ := r'.cell n _ e'
            have em : w'.mu n = w.mu n := (l'.mu n hnL).trans muL
            rw [em, l'.lk, lkL, upd_same] at f0
            cases f0
            rw [em] at f1
            exact ⟨em, f1, ra'⟩
          -- the unlocked state
          have un : ∀ w' H' h', Le wL w' → RepH X.K w' H' h' → h'[n]? = some (.lck kvs) → Le w (w'.lkd w.LK) ∧ RepH X.K (w'.lkd w.LK) (upd H' (w.mu n) (.dK kv)) (h'.set n (.dct kvs)) := by
            intro w' H' h' l' r' e'
            obtain ⟨em, f1, ra'⟩ := back w' H' h' l' r' e'
            have hn' : n < w'.N := Nat.lt_of_lt_of_le hnL l'.n
            refine ⟨⟨?_, ?_, ?_, ?_, rfl⟩, ?_⟩
            · have := l'.ex; rw [hwL] at this; exact this
            · have := l'.n; rw [hwL] at this; exact this
            · have := l'.mu; rw [hwL] at this; exact this
            · have := l'.f; rw [hwL] at this; exact this
            · rw [← em]
              exact r'.relk hn' (fun a ha => by
                rw [l'.lk, lkL, upd_ne]
                rw [← em]
                exact ha) ⟨kv, upd_same, e2, ra'⟩
          have endN : ∀ {G2 : Env} {h2 : AH} {w2 : Wd} {σ2 : L2.St} {H2 : Hp}, h2[n]? = some (.lck kvs) → OutS X.K X.mg W D w (.next G2 (h2.set n (.dct kvs))) → Le wL w2 → RepG X.K w2 σ2 G2 → RepH X.K w2 H2 h2 →
              H2 (w.mu n) = some (.frz od (.dK kv)) ∧ D.nx σ2 (upd H2 (w.mu n) (.dK kv)) := by
            intro G2 h2 w2 σ2 H2 e' o' l' g' r'
            obtain ⟨u1, u2⟩ := un w2 H2 h2 l' r' e'
            exact ⟨(back w2 H2 h2 l' r' e').2.1, o' σ2 _ _ u1 g' u2⟩
          refine hti _ _ _ ⟨wL, G, _, gL, rL, ?_⟩
          rw [eo2]
          intro v w1 H1 l1 r1 rv
          obtain ⟨rfl, hn1⟩ := rv_loc rv
          have hlc : (h1.set n (.lck kvs))[n]? = some (.lck kvs) := by
            rw [List.getElem?_set_self (by rw [← r.len]; exact hn)]
          obtain ⟨em1, f1, ra1⟩ := back w1 H1 _ l1 r1 hlc
          have hlen : kv.length = kvs.length := kv_len e2
          refine ⟨w1.mu n, od, kv, rfl, by rw [em1]; exact f1, ?_⟩
          rw [em1]
          refine ⟨fun i m σ' H' => m = kvs.length - i ∧ i ≤ kvs.length ∧ ∃ w' G' h', Le wL w' ∧ RepG X.K w' σ' G' ∧ RepH X.K w' H' h' ∧ OutS X.K X.mg W D w (forGoD p mb pick n kvs (kvs.drop i) G' h'),
            ⟨kvs.length, by simp, Nat.zero_le _, w1, G, _, l1, gL.mono l1, r1, by simpa using o⟩, ?_⟩
          rintro i m σ' H' ⟨rfl, hi2, w', G', h', l', g', r', o'⟩
          by_cases hlt : i < kvs.length
          · have ed : kvs.drop i = kvs[i] :: kvs.drop (i + 1) := List.drop_eq_getElem_cons hlt
            rw [ed] at o'
            unfold forGoD at o'
            split at o'
            · rename_i still
              obtain ⟨em', f', ra'⟩ := back w' H' h' l' r' still
              refine .inr ⟨wk.go _ _ _ i H' f' (by omega), fun σ2 H2 => ∃ w' G' h', Le wL w' ∧ RepG X.K w' σ2 G' ∧ RepH X.K w' H2 h' ∧ OutS X.K X.mg W D w (forGoD p mb pick n kvs (kvs.drop (i + 1)) G' h'),
                fun σ2 H2 hN => ⟨kvs.length - (i + 1), by omega, rfl, hlt, hN⟩, fun x H2 hy => ?_⟩
              obtain ⟨w2, l2, r2, rv2⟩ := wk.yld w' h' _ _ _ kvs i H' x H2 kvs[i] r' hy e2 ra' (List.getElem?_eq_getElem hlt)
              split at o'
              · rename_i G1 ea
                refine asg_rep r2 p (pick kvs[i]) x σ' G' G1 _ rv2 (g'.mono l2) ea fun σ3 g3 _ => ?_
                refine ⟨w2, G1, h', g3, r2, ?_⟩
                cases eb : mb G1 h' with
                | next G2 h2 =>
                  rw [eb] at o'
                  exact fun σ4 w4 H4 l4 g4 r4 => ⟨w4, G2, h2, l'.trans (l2.trans l4), g4, r4, o'⟩
                | cont G2 h2 =>
                  rw [eb] at o'
                  exact fun σ4 w4 H4 l4 g4 r4 => ⟨w4, G2, h2, l'.trans (l2.trans l4), g4, r4, o'⟩
                | brk G2 h2 =>
                  rw [eb] at o'
                  simp only at o'
                  split at o'
                  · rename_i e'
                    exact fun σ4 w4 H4 l4 g4 r4 => endN e' o' (l'.trans (l2.trans l4)) g4 r4
                  · exact o'.elim
                | ret d h2 =>
                  rw [eb] at o'
                  simp only at o'
                  split at o'
                  · rename_i e'
                    intro v4 w4 H4 l4 r4 x4
                    have l5 := l'.trans (l2.trans l4)
                    obtain ⟨u1, u2⟩ := un w4 H4 h2 l5 r4 e'
                    exact ⟨(back w4 H4 h2 l5 r4 e').2.1, o' v4 (w4.lkd w.LK) _ u1 u2 x4⟩
                  · exact o'.elim
                | exc c fs G2 h2 => rw [eb] at o'; exact o'.elim
                | stuck => rw [eb] at o'; exact o'.elim
              · exact o'.elim
            · exact o'.elim
          · have e : i = kvs.length := by omega
            subst e
            rw [List.drop_length] at o'
            unfold forGoD at o'
            split at o'
            · rename_i still
              obtain ⟨em', f', ra'⟩ := back w' H' h' l' r' still
              exact .inl ⟨wk.stop _ _ _ _ H' f' (by omega), endN still o' l' g' r'⟩
            · exact o'.elim
        · exact o.elim
      · exact o.elim
    · exact o.elim
  · exact o.elim
theorem s_forItems {elts : List Expr} {kk : Nat} {tpos : Pos} (hp : PassesOwn (model X.prog X.w) X.A X.env X.xe) (he : PE X e (TM X W mo)) (hg : PG X (.Tuple elts kk tpos) (gP X.K p)) (hb : PSs X body (TSS X W mb)) (hc : X.calm = true := by rfl)
    (hbase : attributeBase e "items" X.env (eval e X.env) = eval e X.env := by rfl) (hline : (apos.endLine == cpos.line) = true := by rfl)
    (hs : ∀ x, foldedSetIterable (.Call (.Attribute e "items" apos) [] [] cpos) X.env x = pure x := by intro _; rfl) :
    PS X (.For (.Tuple elts kk tpos) (.Call (.Attribute e "items" apos) [] [] cpos) body [] pos) (TSS X W (sForD pickI p mo mb)) :=
  s_forD walks_items (fun σ H R t => t) hp (pi_items he hbase hline) hg hb hc hs
theorem s_forKeys (hp : PassesOwn (model X.prog X.w) X.A X.env X.xe) (he : PE X e (TM X W mo)) (hg : PG X tg (gP X.K p)) (hb : PSs X body (TSS X W mb)) (hc : X.calm = true := by rfl)
    (hs : ∀ x, foldedSetIterable e X.env x = pure x := by intro _; rfl) :
    PS X (.For tg e body [] pos) (TSS X W (sForD pickK p mo mb)) :=
  s_forD walks_keys (fun σ H R ⟨w, G, h, g, r, o⟩ => ⟨w, G, h, g, r, by
    cases em : mo G h with
    | ok d h1 =>
      rw [em] at o
      intro v w' H' l r' x
      obtain ⟨dd, oo, kvs, q1, q2, q3⟩ := o v w' H' l r' x
      exact ⟨dd, oo, q1, .inl ⟨kvs, q2, q3⟩⟩
    | exc c fs h1 => rw [em] at o; exact o
    | stuck => rw [em] at o; exact o⟩) hp (pi_keys he) hg hb hc hs
theorem s_forVals (hp : PassesOwn (model X.prog X.w) X.A X.env X.xe) (he : PE X e (TM X W mo)) (hg : PG X tg (gP X.K p)) (hb : PSs X body (TSS X W mb)) (hc : X.calm = true := by rfl)
    (hbase : attributeBase e "values" X.env (eval e X.env) = eval e X.env := by rfl) (hline : (apos.endLine == cpos.line) = true := by rfl)
    (hs : ∀ x, foldedSetIterable (.Call (.Attribute e "values" apos) [] [] cpos) X.env x = pure x := by intro _; rfl) :
    PS X (.For tg (.Call (.Attribute e "values" apos) [] [] cpos) body [] pos) (TSS X W (sForD pickV p mo mb)) :=
  s_forD walks_vals (fun σ H R t => t) hp (pi_values he hbase hline) hg hb hc hs
end
theorem hu1 {k : Nat} {A : Around} (hr : Room k A) : A.units + 1 < cLine := by
  have := hr.un
  omega
end AB
/-! AB: try .. except C as e. -/
namespace AB
open PySem PySem.Spec PyProof.Rows L2

/-- slot i goes -/
def wipeS (i : Nat) : SR → SR
  | .next G h => .next (G.set i none) h
  | .ret d h => .ret d h
  | .brk G h => .brk (G.set i none) h
  | .cont G h => .cont (G.set i none) h
  | _ => .stuck
@[simp] theorem wipeS_next (i : Nat) (G : Env) (h : AH) : wipeS i (.next G h) = .next (G.set i none) h := rfl
@[simp] theorem wipeS_ret (i : Nat) (d : D) (h : AH) : wipeS i (.ret d h) = .ret d h := rfl
@[simp] theorem wipeS_brk (i : Nat) (G : Env) (h : AH) : wipeS i (.brk G h) = .brk (G.set i none) h := rfl
@[simp] theorem wipeS_cont (i : Nat) (G : Env) (h : AH) : wipeS i (.cont G h) = .cont (G.set i none) h := rfl
/-- a suite, by the error's address; it does not tell which -/
abbrev Su := Addr → Ms
structure Par (i : Nat) (m : Su) : Prop where
  eq : ∀ (a : Addr) (G : Env) (h : AH), i < G.length → wipeS i (m a (G.set i (some (.con a))) h) = wipeS i (m 0 (G.set i (some (.con 0))) h)
def tryK (i : Nat) (tb : List (Str × Option Su)) (G : Env) (h : AH) (c : Str) (fs : List (Str × D)) : SR := match tb.lookup c, fs with
  | some (some m), [] => if i < G.length then wipeS i (m 0 (G.set i (some (.con 0))) h) else .stuck
  | some none, _ => .exc c fs G h
  | _, _ => .stuck
/-- try: body / except C as e (slot i): by the class of what comes, a suite or nothing -/
def sTry (i : Nat) (tb : List (Str × Option Su)) (body : Ms) : Ms := fun G h => match body G h with
  | .exc c fs G1 h1 => tryK i tb G1 h1 c fs
  | r => r
def WF : WX := fun _ _ _ _ => False
section
variable {K : PySem.W.Frag} {mg : Str → Option Value} {W : WX} {w : Wd} {i : Nat}
theorem RepG.wipe {σ : L2.St} {G : Env} (g : RepG K w σ G) (x : Option V) : RepG K w (σ.set i x) (G.set i none) :=
  ⟨by rw [List.length_set, List.length_set, g.1], fun j d e => by
    by_cases hj : j = i
    · subst hj
      by_cases hl : j < G.length
      · rw [List.getElem?_set_self hl] at e
        cases e
      · rw [List.getElem?_eq_none (by rw [List.length_set]; omega)] at e
        cases e
    · rw [List.getElem?_set_ne (Ne.symm hj)] at e
      obtain ⟨v, h1, h2⟩ := g.2 j d e
      exact ⟨v, by rw [List.getElem?_set_ne (Ne.symm hj)]; exact h1, h2⟩⟩
theorem out_wipe {D : Ends} {r : SR} (o : OutS K mg W D w (wipeS i r)) : OutS K mg WF { nx := fun σ' H' => D.nx (σ'.set i none) H', rt := D.rt, bk := fun σ' H' => D.bk (σ'.set i none) H', ct := fun σ' H' => D.ct (σ'.set i none) H' } w r := by
  cases r with
  | next G h => exact fun σ' w2 H' l2 g r => o (σ'.set i none) w2 H' l2 (g.wipe _) r
  | ret d h => exact o
  | brk G h => exact fun σ' w2 H' l2 g r => o (σ'.set i none) w2 H' l2 (g.wipe _) r
  | cont G h => exact fun σ' w2 H' l2 g r => o (σ'.set i none) w2 H' l2 (g.wipe _) r
  | exc c fs G h => exact o.elim
  | stuck => exact o.elim
end
/-- the suite of a class: its class, its derivation -/
structure SuOk (X : Cx) (i : Nat) (suite : List Stmt) (c : Str) (m : Su) : Prop where
  par : Par i m
  go : ∀ D0, X.mg c = some (.ref D0) → ∀ (a : Addr) (oe : Obj) (pn : List (Addr × Obj)), Zc (.ref D0) none oe → (∃ vs, oe.data = .fields vs) → PSs (X.suite a ((a, oe) :: pn)) suite (tS X.K X.mg WF (m a))
/-- the class c of an error: known, and whether the clause takes it -/
structure TkOk (K : PySem.W.Frag) (mg : Str → Option Value) (cl : Value) (c : Str) (b : Bool) : Prop where
  ex : ∃ D0, mg c = some (.ref D0) ∧ PySem.W.exmOne K (.ref D0) cl = some b
def TyOk (X : Cx) (i : Nat) (cl : Value) (suite : List Stmt) (tb : List (Str × Option Su)) : Prop :=
  ∀ c om, tb.lookup c = some om → TkOk X.K X.mg cl c om.isSome ∧ ∀ m, om = some m → SuOk X i suite c m
section
variable {X : Cx} {W : WX} {i : Nat} {cl : Value} {suite : List Stmt} {tb : List (Str × Option Su)} {c : Str}
theorem ty_nil : TyOk X i cl suite [] := fun c om e => by cases e
theorem ty_cons {om : Option Su} (h : TkOk X.K X.mg cl c om.isSome) (s : ∀ m, om = some m → SuOk X i suite c m) (t : TyOk X i cl suite tb) : TyOk X i cl suite ((c, om) :: tb) := fun c2 om2 e => by
  rw [List.lookup_cons] at e
  cases q : c2 == c with
  | true =>
    rw [q] at e
    cases e
    have : c2 = c := by simpa using q
    subst this
    exact ⟨h, s⟩
  | false =>
    rw [q] at e
    exact t c2 om2 e
theorem ty_some {m : Su} (h : TkOk X.K X.mg cl c true) (s : SuOk X i suite c m) (t : TyOk X i cl suite tb) : TyOk X i cl suite ((c, some m) :: tb) := ty_cons h (fun m2 e => by cases e; exact s) t
theorem ty_none (h : TkOk X.K X.mg cl c false) (t : TyOk X i cl suite tb) : TyOk X i cl suite ((c, none) :: tb) := ty_cons h (fun m2 e => by cases e) t
variable {x n : Str} {body : List Stmt} {b₀ : Stmt} {np pos pos' : Pos} {mb : Ms}
theorem s_tryAs (i : Nat) (hs : X.stack = X.env :: X.outer) (hf : X.env.frame = some X.env.locals) (hN : X.N.Nodup) (hi : X.N[i]? = some n) (hln : X.env.kindOf n = some .local) (hc : Names X x cl) (tk : Takes X W)
    (hb : ∀ (W : WX) (pn : List (Addr × Obj)) (xe : Value → Shared → Prop), Takes (X.tr pn xe) W → PassesOwn (model X.prog X.w) X.A X.env xe → PSs (X.tr pn xe) body (tS X.K X.mg W mb))
    (ht : TyOk X i cl (b₀ :: suite) tb) :
    PS X (.Try body [.ExceptHandler (some (.Name x np)) (some n) (b₀ :: suite) pos'] [] [] pos) (TSS X W (sTry i tb mb)) := by
  refine (ps_try_as (tb := fun W => tS X.K X.mg W mb) (ts := fun a cls d => fun D σ H => ∃ c m D0, tb.lookup c = some (some m) ∧ X.mg c = some (.ref D0) ∧ cls = .ref D0 ∧ d = none ∧ tS X.K X.mg WF (m a) D σ H)
    hs hf hN hi hln hc tk hb fun a oe cls d pn z f => ⟨fun pins s σ H D I q => ?_⟩).wk fun D σ H ⟨w, G, h, g, r, o⟩ => ⟨w, G, h, g, r, ?_⟩
  · obtain ⟨c, m, D0, e1, e2, rfl, rfl, q⟩ := q
    exact (((ht c _ e1).2 m rfl).go D0 e2 a oe pn z f).run pins s σ H D I q
  · have o : OutS X.K X.mg W D w (match mb G h with
      | .exc c fs G1 h1 => tryK i tb G1 h1 c fs
      | r => r) := o
    cases em : mb G h with
    | next G1 h1 => rw [em] at o; exact o
    | ret d h1 => rw [em] at o; exact o
    | brk G1 h1 => rw [em] at o; exact o
    | cont G1 h1 => rw [em] at o; exact o
    | stuck => rw [em] at o; exact o.elim
    | exc c fs G1 h1 =>
      rw [em] at o
      have o : OutS X.K X.mg W D w (tryK i tb G1 h1 c fs) := o
      intro cls dd σ' w' H' ec l g' r' x'
      cases et : tb.lookup c with
      | none => unfold tryK at o; rw [et] at o; exact o.elim
      | some om =>
        obtain ⟨⟨D0, hm, he⟩⟩ := (ht c _ et).1
        rw [hm] at ec
        cases ec
        cases om with
        | none =>
          have o : OutS X.K X.mg W D w (.exc c fs G1 h1) := by
            unfold tryK at o
            rw [et] at o
            exact o
          exact ⟨false, he, (fun z => by cases z), fun _ => o _ dd σ' w' H' hm l g' r' x'⟩
        | some m =>
          have sk := (ht c _ et).2 m rfl
          cases fs with
          | cons _ _ => unfold tryK at o; rw [et] at o; exact o.elim
          | nil =>
            refine ⟨true, he, fun _ a ha => ⟨c, m, D0, et, hm, rfl, x', w', G1.set i (some (.con a)), h1, g'.set i .con, r', ?_⟩, fun z => by cases z⟩
            have o : OutS X.K X.mg W D w (if i < G1.length then wipeS i (m 0 (G1.set i (some (.con 0))) h1) else .stuck) := by
              unfold tryK at o
              rw [et] at o
              exact o
            split at o
            · rename_i hl
              rw [← sk.par.eq a G1 h1 hl] at o
              exact out_wipe (OutS.mono l o)
            · exact o.elim
end
/-- what the clause 'except x' says of the class c -/
structure CatK (K : PySem.W.Frag) (mg : Str → Option Value) (x c : Str) (b : Bool) : Prop where
  ex : ∀ cl, mg x = some cl → TkOk K mg cl c b
theorem s_try {X : Cx} {W : WX} {suite : List Stmt} {tb : List (Str × Option Su)} {x n : Str} {body : List Stmt} {b₀ : Stmt} {np pos pos' : Pos} {mb : Ms} (i : Nat) (hN : X.N.Nodup) (hx : ∃ cl, X.mg x = some cl) (tk : Takes X W)
    (hb : ∀ (W : WX) (pn : List (Addr × Obj)) (xe : Value → Shared → Prop), Takes (X.tr pn xe) W → PassesOwn (model X.prog X.w) X.A X.env xe → PSs (X.tr pn xe) body (tS X.K X.mg W mb))
    (ht : ∀ cl, X.mg x = some cl → TyOk X i cl (b₀ :: suite) tb) (hs : X.stack = X.env :: X.outer := by rfl) (hf : X.env.frame = some X.env.locals := by rfl) (hi : X.N[i]? = some n := by rfl) (hln : X.env.kindOf n = some .local := by rfl) (hg : Gl X x := by rfl) (hd : (x == ("__debug__" : Str)) = false := by decide) :
    PS X (.Try body [.ExceptHandler (some (.Name x np)) (some n) (b₀ :: suite) pos'] [] [] pos) (TSS X W (sTry i tb mb)) := by
  obtain ⟨cl, hx⟩ := hx
  exact s_tryAs i hs hf hN hi hln ⟨hg, hd, .inl hx⟩ tk hb (ht cl hx)
/-! ### isinstance(e, C) in the suite -/
def mIsE (i : Nat) (a : Addr) (b : Bool) : Me := fun G h => match G[i]? with
  | some (some (.con a')) => if a' = a then .ok (.bl b) h else .stuck
  | _ => .stuck
/-- the class x, and whether the class D0 is under it -/
structure IsOk (K : PySem.W.Frag) (mg : Str → Option Value) (c x : Str) (b : Bool) : Prop where
  ex : ∀ D0, mg c = some (.ref D0) → ExcC K D0 ∧ ∃ Ca, mg x = some (.ref Ca) ∧ PySem.W.kitOne K (.ref D0) (.ref Ca) = some b
structure IsOkB (K : PySem.W.Frag) (mg : Str → Option Value) (c : Str) (x : String) (b : Bool) : Prop where
  ex : ∀ D0, mg c = some (.ref D0) → ExcC K D0 ∧ PySem.W.kitOne K (.ref D0) (.type x) = some b
theorem v_mIsE {i : Nat} {a : Addr} {b : Bool} {G : Env} {h : AH} (e : G[i]? = some (some (.con a))) : mIsE i a b G h = .ok (.bl b) h := by
  unfold mIsE
  rw [e]
  exact if_pos rfl
theorem set_swap {α : Type} {G : List (Option α)} {i k : Nat} {u : α} (h : k ≠ i) : (G.set k (some u)).set i none = (G.set i none).set k (some u) := List.set_comm _ _ h
section
variable {X : Cx} {W : WX} {a D0 : Addr} {oe : Obj} {pn : List (Addr × Obj)} {c x n : Str} {b : Bool} {p p1 p2 pos : Pos}
theorem e_isE (i : Nat) (K0 : IsOk X.K X.mg c x b) (hD : X.mg c = some (.ref D0)) (hz : Zc (.ref D0) none oe) (hf : ∃ vs, oe.data = .fields vs) (hN : X.N[i]? = some n) (hi : X.mg "isinstance" = none)
    (hv : Vis X.env.scope n := by first | exact Or.inl rfl | exact Or.inr (Or.inl rfl) | exact Or.inr (Or.inr rfl)) (hd : (n == ("__debug__" : Str)) = false := by decide) (hcd : (n == ("__classdict__" : Str)) = false := by decide)
    (hgx : Gl X x := by rfl) (hdx : (x == ("__debug__" : Str)) = false := by decide) (hg : Gl X "isinstance" := by rfl)
    (h1 : starEach [.Name n p1, .Name x p2] X.env = (false, eval (.Name n p1) X.env) :: starEach [.Name x p2] X.env := by rfl) (h2 : starEach [.Name x p2] X.env = (false, eval (.Name x p2) X.env) :: starEach [] X.env := by rfl)
    (hpl : (backTo pos (starEach [.Name x p2] X.env)).any (·.1) = false := by rfl) :
    PE (X.suite a ((a, oe) :: pn)) (.Call (.Name "isinstance" p) [.Name n p1, .Name x p2] [] pos) (TM (X.suite a ((a, oe) :: pn)) W (mIsE i a b)) := by
  obtain ⟨C, Ca, hx, hk⟩ := K0.ex D0 hD
  refine (pe_callB (X := X.suite a ((a, oe) :: pn)) (call_isE C hz hf) hg hi (by decide +kernel) (pa_cons (pe_var (X := X.suite a ((a, oe) :: pn)) hN hv hd hcd) (pa_cons (pe_glob (X := X.suite a ((a, oe) :: pn)) (v := .ref Ca) hgx hx rfl hdx) pa_nil h2) h1) (by decide) (by decide) h1 hpl).wk fun σ H Q ⟨w, G, h, g, r, o⟩ => ?_
  unfold mIsE at o
  split at o
  · rename_i a' e
    split at o
    · rename_i ea
      subst ea
      obtain ⟨v, e2, rv⟩ := g.2 i _ e
      cases rv
      exact ⟨_, e2, .ref Ca, .ref Ca, b, rfl, fun u e => e, hk, out_ok o r (.bl b)⟩
    · exact o.elim
  · exact o.elim
theorem e_isEB (i : Nat) {x' : String} (K0 : IsOkB X.K X.mg c x' b) (hD : X.mg c = some (.ref D0)) (hz : Zc (.ref D0) none oe) (hf : ∃ vs, oe.data = .fields vs) (hN : X.N[i]? = some n) (hi : X.mg "isinstance" = none) (hx : X.mg x = none)
    (hbx : bootBuiltins x = some (.type x') := by decide +kernel) (hnx : x ≠ "__name__" := by decide)
    (hv : Vis X.env.scope n := by first | exact Or.inl rfl | exact Or.inr (Or.inl rfl) | exact Or.inr (Or.inr rfl)) (hd : (n == ("__debug__" : Str)) = false := by decide) (hcd : (n == ("__classdict__" : Str)) = false := by decide)
    (hgx : Gl X x := by rfl) (hdx : (x == ("__debug__" : Str)) = false := by decide) (hg : Gl X "isinstance" := by rfl)
    (h1 : starEach [.Name n p1, .Name x p2] X.env = (false, eval (.Name n p1) X.env) :: starEach [.Name x p2] X.env := by rfl) (h2 : starEach [.Name x p2] X.env = (false, eval (.Name x p2) X.env) :: starEach [] X.env := by rfl)
    (hpl : (backTo pos (starEach [.Name x p2] X.env)).any (·.1) = false := by rfl) :
    PE (X.suite a ((a, oe) :: pn)) (.Call (.Name "isinstance" p) [.Name n p1, .Name x p2] [] pos) (TM (X.suite a ((a, oe) :: pn)) W (mIsE i a b)) := by
  obtain ⟨C, hk⟩ := K0.ex D0 hD
  refine (pe_callB (X := X.suite a ((a, oe) :: pn)) (call_isE C hz hf) hg hi (by decide +kernel) (pa_cons (pe_var (X := X.suite a ((a, oe) :: pn)) hN hv hd hcd) (pa_cons (pe_bltn (X := X.suite a ((a, oe) :: pn)) (v := .ty x') hgx hx hbx rfl hnx hdx) pa_nil h2) h1) (by decide) (by decide) h1 hpl).wk fun σ H Q ⟨w, G, h, g, r, o⟩ => ?_
  unfold mIsE at o
  split at o
  · rename_i a' e
    split at o
    · rename_i ea
      subst ea
      obtain ⟨v, e2, rv⟩ := g.2 i _ e
      cases rv
      exact ⟨_, e2, .ty x', .type x', b, rfl, fun u e => e, hk, out_ok o r (.bl b)⟩
    · exact o.elim
  · exact o.elim
end
end AB
/-! AB: comprehensions over the keys of a dict, which is locked meanwhile. -/
namespace AB
open PySem PySem.Spec PyProof.Rows L2

open Classical in
noncomputable def compGoD (p : Pat) (t : MeT) (e : Me) (n : Nat) (kvs : KD) (G : Env) : KD → AH → Res (List D)
  | [], h => if h[n]? = some (.lck kvs) then .ok [] h else .stuck
  | x :: r, h => if h[n]? = some (.lck kvs) then
      match asg p (pickK x) G with
      | some G1 => (t G1 h).noX.bind fun b h1 => if b = true then (e G1 h1).noX.bind fun x h2 => (compGoD p t e n kvs G r h2).bind fun xs h3 => .ok (x :: xs) h3 else compGoD p t e n kvs G r h1
      | none => .stuck
    else .stuck
open Classical in
/-- [.. for key in d if ..]: d is a plain thing, a name or an attribute -/
noncomputable def lCompD (p : Pat) (vs : List Nat) (o : Me) (t : MeT) (e : Me) : MeL := fun G h => match o G h with
  | .ok (.loc n) h1 => if h1 = h then (match h[n]? with
    | some (.dct kvs) => if o G (h.set n (.lck kvs)) = .ok (.loc n) (h.set n (.lck kvs)) then (if kvs.length ≤ big then
        (compGoD p t e n kvs (wipeG G vs) kvs (h.set n (.lck kvs))).bind fun ys h2 => .ok ys (h2.set n (.dct kvs)) else .stuck) else .stuck
    | _ => .stuck) else .stuck
  | _ => .stuck
section
variable {X : Cx} {W : WX} {pos : Pos} {tg iter elt : Expr} {ifs : List Expr} {scope : Scope} {own : List (Str × Nat)} {p : Pat} {mo : Me} {mt : MeT} {me : Me}
theorem lcd_read (p : Pat) {vs : List Nat} (hsl : ∀ i ∈ p.slots, i ∈ vs) {σ : L2.St} {H : Hp} {Q : VK} (t : TF X W (lCompD p vs mo mt me) σ H Q) : tLockE (tLc (iKeys (TM X W mo)) (gP X.K p) (TTT X W0 mt) (TM X W0 me) vs) σ H Q := by
  obtain ⟨w, G, h, g, r, o⟩ := t
  unfold lCompD at o
  split at o
  · rename_i n h1 eo
    split at o
    · rename_i eh
      subst eh
      split at o
      · rename_i kvs ec
        split at o
        · rename_i eo2
          split at o
          · rename_i hbig
            have hn : n < w.N := by rw [r.len]; exact (List.getElem?_eq_some_iff.mp ec).1
            obtain ⟨sN, kv, e1, e2, ra⟩ := r.cell n _ ec
            refine ⟨w.mu n, .dK kv, e1, trivial, fun od => ?_⟩
            obtain ⟨wL, hwL⟩ : ∃ wL, wL = w.lkd (upd w.LK (w.mu n) (.frz od (.dK kv))) := ⟨_, rfl⟩
            have rL : RepH X.K wL (upd H (w.mu n) (.frz od (.dK kv))) (h1.set n (.lck kvs)) := by
              rw [hwL]
              exact r.relk hn (fun a ha => upd_ne ha) ⟨od, kv, upd_same, upd_same, e2, ra⟩
            have gL : RepG X.K wL σ G := by rw [hwL]; exact g
            have hnL : n < wL.N := by rw [hwL]; exact hn
            have muL : wL.mu n = w.mu n := by rw [hwL]; rfl
            have lkL : wL.LK = upd w.LK (w.mu n) (.frz od (.dK kv)) := by rw [hwL]; rfl
            have back : ∀ w' H' h', LeX wL w' → RepH X.K w' H' h' → h'[n]? = some (.lck kvs) → w'.mu n = w.mu n ∧ H' (w.mu n) = some (.frz od (.dK kv)) ∧ Ra X.K w' (kv.map (·.2)) (kvs.map (·.2)) := by
              intro w' H' h' l' r' e'
              obtain ⟨_, o', kv', f1, f0, f2, ra'⟩ := r'.cell n _ e'
              have em : w'.mu n = w.mu n := (l'.mu n hnL).trans muL
              rw [em, l'.lk, lkL, upd_same] at f0
              cases f0
              rw [em] at f1
              exact ⟨em, f1, ra'⟩
            have un : ∀ w' H' h', Le wL w' → RepH X.K w' H' h' → h'[n]? = some (.lck kvs) → Le w (w'.lkd w.LK) ∧ RepH X.K (w'.lkd w.LK) (upd H' (w.mu n) (.dK kv)) (h'.set n (.dct kvs)) := by
              intro w' H' h' l' r' e'
              obtain ⟨em, f1, ra'⟩ := back w' H' h' l'.x r' e'
              have hn' : n < w'.N := Nat.lt_of_lt_of_le hnL l'.n
              refine ⟨⟨?_, ?_, ?_, ?_, rfl⟩, ?_⟩
              · have := l'.ex; rw [hwL] at this; exact this
              · have := l'.n; rw [hwL] at this; exact this
              · have := l'.mu; rw [hwL] at this; exact this
              · have := l'.f; rw [hwL] at this; exact this
              · rw [← em]
                exact r'.relk hn' (fun a ha => by
                  rw [l'.lk, lkL, upd_ne]
                  rw [← em]
                  exact ha) ⟨kv, upd_same, e2, ra'⟩
            refine ⟨wL, G, _, gL, rL, ?_⟩
            rw [eo2]
            intro v w1 H1 l1 r1 rv
            obtain ⟨rfl, hn1⟩ := rv_loc rv
            have hlc : (h1.set n (.lck kvs))[n]? = some (.lck kvs) := by
              rw [List.getElem?_set_self (by rw [← r.len]; exact hn)]
            obtain ⟨em1, f1, ra1⟩ := back w1 H1 _ l1.x r1 hlc
            have hlen : kv.length = kvs.length := kv_len e2
            refine ⟨w1.mu n, od, rfl, .inl ⟨kv, by rw [em1]; exact f1, ?_⟩⟩
            rw [em1]
            intro Dd hD
            have g1 : RepG X.K w1 (wipe σ vs) (wipeG G vs) := wipe_rep (gL.mono l1) _
            have apD : Apart w1 Dd := ⟨r1.ex.free hD, fun m hm => r1.ne hm hD, r1.exF.free hD⟩
            refine ⟨fun i m H' => m = kvs.length - i ∧ i ≤ kvs.length ∧ ∃ w' h' xs ds, w'.F = upd w1.F Dd (.lst xs) ∧ LeX w1 w' ∧ RepH X.K w' H' h' ∧ Ra X.K w' xs ds ∧ ds.length ≤ i ∧
              OutF X.K X.mg W w σ Q ((compGoD p mt me n kvs (wipeG G vs) (kvs.drop i) h').bind fun ys h2 => .ok (ds ++ ys) (h2.set n (.dct kvs))),
              ⟨kvs.length, by simp, Nat.zero_le _, w1.hold Dd (.lst []), _, [], [], rfl, ⟨Ext.refl _, Nat.le_refl _, fun _ _ => rfl, rfl⟩, r1.hold apD, .nil, Nat.le_refl _, ?_⟩, ?_⟩
            · have e : ∀ r : Res (List D), (r.bind fun ys h2 => .ok ([] ++ ys) (h2.set n (.dct kvs))) = r.bind fun ys h2 => .ok ys (h2.set n (.dct kvs)) := fun r => by cases r <;> rfl
              rw [List.drop_zero, e]
              exact o
            · rintro i m H' ⟨rfl, hi2, w', h', xs, ds, eF, lx, r', ra', hds, o'⟩
              obtain ⟨rf, apf⟩ := r'.free eF apD.f
              have lf : Le wL (w'.with w1.F) := ⟨(l1.x.trans lx).ex, (l1.x.trans lx).n, (l1.x.trans lx).mu, l1.f, (l1.x.trans lx).lk⟩
              have hD' : H' Dd = some (.lst xs) := r'.exF _ _ (by rw [eF, upd_same])
              by_cases hlt : i < kvs.length
              · have ed : kvs.drop i = kvs[i] :: kvs.drop (i + 1) := List.drop_eq_getElem_cons hlt
                rw [ed] at o'
                unfold compGoD at o'
                split at o'
                · rename_i still
                  obtain ⟨em', f', raK⟩ := back w' H' h' (l1.x.trans lx) r' still
                  refine .inr ⟨(walks_keys (K := X.K)).go _ _ _ i H' f' (by omega), fun H2 => ∃ w' h' xs ds, w'.F = upd w1.F Dd (.lst xs) ∧ LeX w1 w' ∧ RepH X.K w' H2 h' ∧ Ra X.K w' xs ds ∧ ds.length ≤ i + 1 ∧
                    OutF X.K X.mg W w σ Q ((compGoD p mt me n kvs (wipeG G vs) (kvs.drop (i + 1)) h').bind fun ys h2 => .ok (ds ++ ys) (h2.set n (.dct kvs))),
                    fun H2 hN => ⟨kvs.length - (i + 1), by omega, rfl, hlt, hN⟩, fun x H2 hy => ?_⟩
                  obtain ⟨w2, l2, r2, rv⟩ := (walks_keys (K := X.K)).yld w' h' _ _ _ kvs i H' x H2 kvs[i] r' hy e2 raK (List.getElem?_eq_getElem hlt)
                  split at o'
                  · rename_i G1 ea
                    refine asg_rep r2 p (pickK kvs[i]) x (wipe σ vs) _ G1 _ rv (g1.monoX (lx.trans l2.x)) ea fun σ3 g3 hw => ⟨(hw vs hsl).trans (wipe_wipe fun _ hi => hi), w2, G1, h', g3, r2, ?_⟩
                    cases em : mt G1 h' with
                    | exc c fs h2 => rw [em] at o'; exact o'.elim
                    | stuck => rw [em] at o'; exact o'.elim
                    | ok b h2 =>
                      rw [em] at o'
                      intro w3 H3 l3 r3
                      have o' : OutF X.K X.mg W w σ Q ((if b = true then (me G1 h2).noX.bind fun x h2 => (compGoD p mt me n kvs (wipeG G vs) (kvs.drop (i + 1)) h2).bind fun xs h3 => .ok (x :: xs) h3 else compGoD p mt me n kvs (wipeG G vs) (kvs.drop (i + 1)) h2).bind fun ys h2 => .ok (ds ++ ys) (h2.set n (.dct kvs))) := o'
                      have F3 : w3.F = upd w1.F Dd (.lst xs) := by rw [l3.f, l2.f, eF]
                      cases b with
                      | false =>
                        rw [if_neg (by decide)] at o'
                        exact iteF ⟨w3, h2, xs, ds, F3, lx.trans (l2.x.trans l3.x), r3, Ra_mono (l2.trans l3) ra', by omega, o'⟩
                      | true =>
                        rw [if_pos rfl] at o'
                        refine iteT ⟨w3, G1, h2, g3.mono l3, r3, ?_⟩
                        cases ee : me G1 h2 with
                        | exc c fs h3 => rw [ee] at o'; exact o'.elim
                        | stuck => rw [ee] at o'; exact o'.elim
                        | ok y h3 =>
                          rw [ee] at o'
                          intro v w4 H4 l4 r4 rv4
                          have F4 : w4.F = upd w1.F Dd (.lst xs) := by rw [l4.f, F3]
                          have lxs := ra'.length
                          refine ⟨xs, r4.exF _ _ (by rw [F4, upd_same]), big_lt (by omega), w4.with (upd w1.F Dd (.lst (xs ++ [v]))), h3, xs ++ [v], ds ++ [y], rfl, ?_, r4.regrow F4 apD.f, ?_, ?_, ?_⟩
                          · have l := lx.trans (l2.x.trans (l3.x.trans l4.x))
                            exact ⟨l.ex, l.n, l.mu, l.lk⟩
                          · have ra4 : Ra X.K w4 xs ds := Ra_mono (l2.trans (l3.trans l4)) ra'
                            exact ra4.append (.cons rv4 .nil)
                          · rw [List.length_append]
                            exact Nat.succ_le_succ hds
                          · have eq : ∀ r : Res (List D), ((r.bind fun zs h3 => .ok (y :: zs) h3).bind fun ys h2 => .ok (ds ++ ys) (h2.set n (.dct kvs))) = r.bind fun ys h2 => .ok ((ds ++ [y]) ++ ys) (h2.set n (.dct kvs)) := fun r => by
                              cases r with
                              | ok a h =>
                                show Res.ok (ds ++ (y :: a)) _ = Res.ok ((ds ++ [y]) ++ a) _
                                rw [List.append_assoc]
                                rfl
                              | exc c fs h => rfl
                              | stuck => rfl
                            have o2 : OutF X.K X.mg W w σ Q (((compGoD p mt me n kvs (wipeG G vs) (kvs.drop (i + 1)) h3).bind fun zs h3 => .ok (y :: zs) h3).bind fun ys h2 => .ok (ds ++ ys) (h2.set n (.dct kvs))) := o'
                            rw [eq] at o2
                            exact o2
                  · exact o'.elim
                · exact o'.elim
              · have e : i = kvs.length := by omega
                subst e
                rw [List.drop_length] at o'
                unfold compGoD at o'
                split at o'
                · rename_i still
                  obtain ⟨em', f', raK⟩ := back w' H' h' (l1.x.trans lx) r' still
                  have o2 : OutF X.K X.mg W w σ Q (.ok (ds ++ []) (h'.set n (.dct kvs))) := o'
                  rw [List.append_nil] at o2
                  obtain ⟨u1, u2⟩ := un (w'.with w1.F) H' h' lf rf still
                  refine .inl ⟨(walks_keys (K := X.K)).stop _ _ _ _ H' f' (by omega), f', o2 Dd xs _ _ u1 u2 ⟨apf.s, apf.m, apf.f⟩ ?_ ra'⟩
                  rw [upd_ne]
                  · exact hD'
                  · intro z
                    exact apf.m n (Nat.lt_of_lt_of_le hnL lf.n) (by rw [z]; exact em')
                · exact o'.elim
          · exact o.elim
        · exact o.elim
      · exact o.elim
    · exact o.elim
  · exact o.elim
theorem f_lcD (p : Pat) (hN : X.N.Nodup) (he0 : PE X iter (TM X W mo)) (ok : BlkOk X.N X.env.scope scope own)
    (hg : ∀ (s : Shared) (H : Hp) (C : Addr) (cl : List (Str × Addr)) (fp : List Addr), PG (X.blk s H scope (compEnvC scope cl C X.env) fp) tg (gP X.K p)) (ht : ∀ (s : Shared) (H : Hp) (C : Addr) (cl : List (Str × Addr)) (fp : List Addr), PTs (X.blk s H scope (compEnvC scope cl C X.env) fp) ifs (TTT X W0 mt))
    (he : ∀ (s : Shared) (H : Hp) (C : Addr) (cl : List (Str × Addr)) (fp : List Addr), PE (X.blk s H scope (compEnvC scope cl C X.env) fp) elt (TM X W0 me)) (hsl : ∀ i ∈ p.slots, i ∈ own.map (·.2)) (hc : X.calm = true := by rfl) (hs : ∀ x, foldedSetIterable iter X.env x = pure x := by intro _; rfl) :
    PE X (.ListComp elt [⟨tg, iter, ifs, 0⟩] scope pos) (TF X W (lCompD p (own.map (·.2)) mo mt me)) :=
  (pe_lock (pe_lc hc hN (pi_keys he0) ok hg ht he hs)).wk fun _ _ _ t => lcd_read p hsl t
end
end AB
/-! AB: dicts: len, {k: v}, {k: v for ..}; isinstance of instances. -/
namespace AB
open PySem PySem.Spec PyProof.Rows L2

/-! ### len(d) -/
def fLenD (xs : List D) (h : AH) : Res D := match xs with
  | [.loc n] => match dctAt h n with
    | some kvs => .ok (.int kvs.length) h
    | none => .stuck
  | _ => .stuck
def rLenD : List V → Hp → VK → Prop := fun xs H Q => ∃ a kvs, xs = [.ref a] ∧ Rd H a (.dK kvs) ∧ Q (.int kvs.length) H
section
variable {X : Cx} {W : WX} {e : Expr} {as : MeL} {p pos : Pos}
theorem call_lenD : CallR X (.builtin "len") rLenD := by
  intro pins s σ H xs us Q I r h
  obtain ⟨a, kvs, rfl, e, q⟩ := h
  obtain ⟨u, rfl, rx⟩ := vals1 r
  obtain rfl : u = Value.ref a := rx
  exact d_len I e fun t s' I' => ⟨.int kvs.length, H, I', ⟨t, rfl⟩, q⟩
theorem fol_lenD : FolN X W fLenD rLenD := by
  intro w h H σ Q vs ds rh ra o
  unfold fLenD at o
  split at o
  · rename_i n
    obtain ⟨v, rfl, rv⟩ := ra_one ra
    obtain ⟨rfl, hn⟩ := rv_loc rv
    split at o
    · rename_i kvs e
      obtain ⟨kv, h1, h2, _⟩ := dct_rd rh e
      refine ⟨_, kv, rfl, h1, ?_⟩
      have := kv_len h2
      rw [this]
      exact out_ok o rh (.int _)
    · exact o.elim
  · exact o.elim
theorem e_lenD (hm : X.mg "len" = none) (ha : PA X [e] (TAr X W as)) (hg : Gl X "len" := by rfl) (he : starEach [e] X.env = (false, eval e X.env) :: starEach [] X.env := by rfl) : PE X (.Call (.Name "len" p) [e] [] pos) (TM X W (mN fLenD as)) :=
  e_blt call_lenD fol_lenD hm ha hg PySem.boot_len (by decide) (by decide) he rfl
end
/-! ### {k: v} -/
def mDisp1 (k v : Me) : Me := fun G h => (k G h).noX.bind fun j h1 => (v G h1).noX.bind fun x h2 => match toKey j with
  | some kk => .ok (.loc h2.length) (h2 ++ [.dct [(kk, x)]])
  | none => .stuck
section
variable {X : Cx} {W : WX} {k v : Expr} {mk mv : Me} {pos : Pos}
/-- the held dict becomes an object of the machine's -/
theorem RepH.newD {K : PySem.W.Frag} {w w2 : Wd} {H : Hp} {h : AH} {p : Addr} {u : HO} {kv : List (L2.Key × V)} {kvs : KD} (r : RepH K w2 H h) (F2 : w2.F = upd w.F p u) (hp : w.F p = none) (e : kv.map (·.1) = kvs.map (·.1)) (ra : Ra K w2 (kv.map (·.2)) (kvs.map (·.2))) :
    RepH K ((w2.with w.F).push p) (upd H p (.dK kv)) (h ++ [.dct kvs]) ∧ Rv K ((w2.with w.F).push p) (.ref p) (.loc h.length) := by
  obtain ⟨rf, apf⟩ := (r.regrow (u' := .dK kv) F2 hp).free rfl hp
  have ra2 : Ra K ((w2.with w.F).push p) (kv.map (·.2)) (kvs.map (·.2)) := Ra_mono (Wd.le_push _ p) (w := w2.with w.F) ra
  have rn := rf.push (o := .dct kvs) apf ⟨kv, upd_same, e, ra2⟩
  have rx := rv_new (K := K) (w := w2.with w.F) p
  have hN : (w2.with w.F).N = h.length := r.len
  rw [hN] at rx
  exact ⟨rn, rx⟩
theorem e_disp1 (hk : PE X k (TM X W mk)) (hv : PE X v (TM X W mv)) : PE X (.Dict [some k] [v] pos) (TM X W (mDisp1 mk mv)) := by
  refine (pe_disp (pps_cons hk hv pps_nil) rfl rfl (by simp) (by simp)).wk fun σ H Q ⟨w, G, h, g, r, o⟩ => ?_
  intro p hp
  have ap : Apart w p := ⟨r.ex.free hp, fun n hn => r.ne hn hp, r.exF.free hp⟩
  refine ⟨w.hold p (.dK []), G, h, g, r.hold ap, ?_⟩
  unfold mDisp1 at o
  cases em : mk G h with
  | exc c fs h1 => rw [em] at o; exact o.elim
  | stuck => rw [em] at o; exact o.elim
  | ok j h1 =>
    rw [em] at o
    intro v1 w1 H1 l1 r1 rv1
    have g1 : RepG X.K w1 σ G := RepG.mono l1 (w := w.hold p (.dK [])) g
    refine ⟨w1, G, h1, g1, r1, ?_⟩
    have o : OutE X.K X.mg W w σ Q ((mv G h1).noX.bind fun x h2 => match toKey j with
      | some kk => .ok (.loc h2.length) (h2 ++ [.dct [(kk, x)]])
      | none => .stuck) := o
    cases ev : mv G h1 with
    | exc c fs h2 => rw [ev] at o; exact o.elim
    | stuck => rw [ev] at o; exact o.elim
    | ok x h2 =>
      rw [ev] at o
      have o : OutE X.K X.mg W w σ Q (match toKey j with
        | some kk => .ok (.loc h2.length) (h2 ++ [.dct [(kk, x)]])
        | none => .stuck) := o
      intro v2 w2 H2 l2 r2 rv2
      have F2 : w2.F = upd w.F p (.dK []) := l2.f.trans l1.f
      split at o
      · rename_i kk ek
        have e1 := toKey_rep rv1 ek
        subst e1
        refine ⟨r2.exF _ _ (by rw [F2, upd_same]), [(kk, v2)], rfl, by simp, ?_⟩
        obtain ⟨n1, n2⟩ := r2.newD (kv := [(kk, v2)]) (kvs := [(kk, x)]) F2 ap.f rfl (.cons rv2 .nil)
        have l : Le (w.hold p (.dK [])) w2 := l1.trans l2
        exact o (.ref p) _ _ ((show Le w (w2.with w.F) from ⟨l.ex, l.n, l.mu, rfl, l.lk⟩).trans (Wd.le_push _ p)) n1 n2
      · exact o.elim
end
/-! ### {k: v for .. in .. if ..} -/
open Classical in
noncomputable def dcompGo (p : Pat) (t : MeT) (ek ev : Me) (src : Option Nat) (all : List D) (G : Env) : List D → KD → AH → Res KD
  | [], kvs, h => if Still src all h then .ok kvs h else .stuck
  | d :: r, kvs, h => if Still src all h then
      match asg p d G with
      | some G1 => (t G1 h).noX.bind fun b h1 => if b = true then (ek G1 h1).noX.bind fun j h2 => (ev G1 h2).noX.bind fun x h3 => match toKey j with
          | some kk => dcompGo p t ek ev src all G r (putKD kvs kk x) h3
          | none => .stuck
        else dcompGo p t ek ev src all G r kvs h1
      | none => .stuck
    else .stuck
noncomputable def mDComp (p : Pat) (vs : List Nat) (it : Im) (t : MeT) (ek ev : Me) : Me := fun G h => (it G h).bind fun a h1 => if a.1.length ≤ big then
  (dcompGo p t ek ev a.2 a.1 (wipeG G vs) a.1 [] h1).bind fun kvs h2 => .ok (D.loc h2.length) (h2 ++ [AO.dct kvs]) else .stuck
theorem OutE.bindI {K : PySem.W.Frag} {mg : Str → Option Value} {W : WX} {w : Wd} {σ : L2.St} {G : Env} {h : AH} {m : Im} {R : It → Hp → Prop} {Q : VK} {k : List D × Option Nat → AH → Res D} (o : OutE K mg W w σ Q ((m G h).bind k))
    (hq : ∀ all src h1 J w1 H1, Le w w1 → RepH K w1 H1 h1 → Walks K J w1 all src → OutE K mg W w1 σ Q (k (all, src) h1) → R J H1) : OutI K mg W w σ R (m G h) := by
  cases e : m G h with
  | ok d h1 =>
    rw [e] at o
    exact fun J w1 H1 l r x => hq d.1 d.2 h1 J w1 H1 l r x (OutE.mono l o)
  | exc c fs h1 =>
    rw [e] at o
    exact o
  | stuck =>
    rw [e] at o
    exact o
theorem putKD_len (kvs : KD) (k : L2.Key) (d : D) : (putKD kvs k d).length ≤ kvs.length + 1 := by
  unfold putKD
  split
  · rw [List.length_map]; omega
  · rw [List.length_append]; exact Nat.le_refl _
section
variable {X : Cx} {W : WX} {pos : Pos} {tg iter kx vx : Expr} {ifs : List Expr} {scope : Scope} {own : List (Str × Nat)} {p : Pat} {im : Im} {mt : MeT} {mk mv : Me}
theorem dc_read (p : Pat) {vs : List Nat} (hsl : ∀ i ∈ p.slots, i ∈ vs) {σ : L2.St} {H : Hp} {Q : VK} (t : TM X W (mDComp p vs im mt mk mv) σ H Q) : tDc (tI X W im) (gP X.K p) (TTT X W0 mt) (TM X W0 mk) (TM X W0 mv) vs σ H Q := by
  obtain ⟨w, G, h, g, r, o⟩ := t
  refine ⟨w, G, h, g, r, OutE.bindI (m := im) o fun all src h1 J w1 H1 l r1 wk o1 => ?_⟩
  intro Dd hD
  have o1 : OutE X.K X.mg W w1 σ Q (if all.length ≤ big then (dcompGo p mt mk mv src all (wipeG G vs) all [] h1).bind fun kvs h2 => .ok (D.loc h2.length) (h2 ++ [AO.dct kvs]) else .stuck) := o1
  split at o1
  · rename_i hbig
    have g1 : RepG X.K w1 (wipe σ vs) (wipeG G vs) := wipe_rep (g.mono l) _
    have apD : Apart w1 Dd := ⟨r1.ex.free hD, fun n hn => r1.ne hn hD, r1.exF.free hD⟩
    refine ⟨fun i m H' => m = all.length - i ∧ i ≤ all.length ∧ ∃ w' h' kv kvs, w'.F = upd w1.F Dd (.dK kv) ∧ LeX w1 w' ∧ RepH X.K w' H' h' ∧ kv.map (·.1) = kvs.map (·.1) ∧ Ra X.K w' (kv.map (·.2)) (kvs.map (·.2)) ∧ kvs.length ≤ i ∧
      OutE X.K X.mg W w1 σ Q ((dcompGo p mt mk mv src all (wipeG G vs) (all.drop i) kvs h').bind fun kvs h2 => .ok (D.loc h2.length) (h2 ++ [AO.dct kvs])),
      ⟨all.length, by simp, Nat.zero_le _, w1.hold Dd (.dK []), h1, [], [], rfl, ⟨Ext.refl _, Nat.le_refl _, fun _ _ => rfl, rfl⟩, r1.hold apD, rfl, .nil, Nat.le_refl _, by rw [List.drop_zero]; exact o1⟩, ?_⟩
    rintro i m H' ⟨rfl, hi2, w', h', kv, kvs, eF, lx, r', ek, ra, hds, o'⟩
    obtain ⟨rf, apf⟩ := r'.free eF apD.f
    have lf : Le w1 (w'.with w1.F) := ⟨lx.ex, lx.n, lx.mu, rfl, lx.lk⟩
    by_cases hlt : i < all.length
    · have ed : all.drop i = all[i] :: all.drop (i + 1) := List.drop_eq_getElem_cons hlt
      rw [ed] at o'
      unfold dcompGo at o'
      split at o'
      · rename_i still
        refine .inr ⟨wk.goes i w' H' h' hlt lx r' still, fun H2 => ∃ w' h' kv kvs, w'.F = upd w1.F Dd (.dK kv) ∧ LeX w1 w' ∧ RepH X.K w' H2 h' ∧ kv.map (·.1) = kvs.map (·.1) ∧ Ra X.K w' (kv.map (·.2)) (kvs.map (·.2)) ∧ kvs.length ≤ i + 1 ∧
          OutE X.K X.mg W w1 σ Q ((dcompGo p mt mk mv src all (wipeG G vs) (all.drop (i + 1)) kvs h').bind fun kvs h2 => .ok (D.loc h2.length) (h2 ++ [AO.dct kvs])),
          fun H2 hN => ⟨all.length - (i + 1), by omega, rfl, hlt, hN⟩, fun x H2 hy => ?_⟩
        obtain ⟨w2, l2, r2, rv⟩ := wk.yields i x w' H' H2 h' all[i] (List.getElem?_eq_getElem hlt) lx r' still hy
        split at o'
        · rename_i G1 e1
          refine asg_rep r2 p all[i] x (wipe σ vs) _ G1 _ rv (g1.monoX (lx.trans l2.x)) e1 fun σ3 g3 hw => ⟨(hw vs hsl).trans (wipe_wipe fun _ hi => hi), w2, G1, h', g3, r2, ?_⟩
          cases em : mt G1 h' with
          | exc c fs h2 => rw [em] at o'; exact o'.elim
          | stuck => rw [em] at o'; exact o'.elim
          | ok b h2 =>
            rw [em] at o'
            intro w3 H3 l3 r3
            have o' : OutE X.K X.mg W w1 σ Q ((if b = true then (mk G1 h2).noX.bind fun j h2 => (mv G1 h2).noX.bind fun x h3 => match toKey j with
                | some kk => dcompGo p mt mk mv src all (wipeG G vs) (all.drop (i + 1)) (putKD kvs kk x) h3
                | none => .stuck
              else dcompGo p mt mk mv src all (wipeG G vs) (all.drop (i + 1)) kvs h2).bind fun kvs h2 => .ok (D.loc h2.length) (h2 ++ [AO.dct kvs])) := o'
            have F3 : w3.F = upd w1.F Dd (.dK kv) := by rw [l3.f, l2.f, eF]
            cases b with
            | false =>
              rw [if_neg (by decide)] at o'
              exact iteF ⟨w3, h2, kv, kvs, F3, lx.trans (l2.x.trans l3.x), r3, ek, Ra_mono (l2.trans l3) ra, by omega, o'⟩
            | true =>
              rw [if_pos rfl] at o'
              refine iteT ⟨w3, G1, h2, g3.mono l3, r3, ?_⟩
              cases ee : mk G1 h2 with
              | exc c fs h3 => rw [ee] at o'; exact o'.elim
              | stuck => rw [ee] at o'; exact o'.elim
              | ok j h3 =>
                rw [ee] at o'
                intro v4 w4 H4 l4 r4 rv4
                refine ⟨w4, G1, h3, (g3.mono l3).mono l4, r4, ?_⟩
                have o' : OutE X.K X.mg W w1 σ Q (((mv G1 h3).noX.bind fun x h3 => match toKey j with
                  | some kk => dcompGo p mt mk mv src all (wipeG G vs) (all.drop (i + 1)) (putKD kvs kk x) h3
                  | none => .stuck).bind fun kvs h2 => .ok (D.loc h2.length) (h2 ++ [AO.dct kvs])) := o'
                cases ef : mv G1 h3 with
                | exc c fs h4 => rw [ef] at o'; exact o'.elim
                | stuck => rw [ef] at o'; exact o'.elim
                | ok y h4 =>
                  rw [ef] at o'
                  have o' : OutE X.K X.mg W w1 σ Q ((match toKey j with
                    | some kk => dcompGo p mt mk mv src all (wipeG G vs) (all.drop (i + 1)) (putKD kvs kk y) h4
                    | none => .stuck).bind fun kvs h2 => .ok (D.loc h2.length) (h2 ++ [AO.dct kvs])) := o'
                  intro v5 w5 H5 l5 r5 rv5
                  split at o'
                  · rename_i kk ekk
                    have e1 := toKey_rep rv4 ekk
                    have F5 : w5.F = upd w1.F Dd (.dK kv) := by rw [l5.f, l4.f, F3]
                    have hl := kv_len ek
                    have ra5 : Ra X.K w5 (kv.map (·.2)) (kvs.map (·.2)) := Ra_mono (l2.trans (l3.trans (l4.trans l5))) ra
                    obtain ⟨p1, p2⟩ := rep_putK kk rv5 ek ra5
                    have l := lx.trans (l2.x.trans (l3.x.trans (l4.x.trans l5.x)))
                    have hz := putKD_len kvs kk y
                    exact ⟨kv, kk, e1, r5.exF _ _ (by rw [F5, upd_same]), big_lt (by omega), w5.with (upd w1.F Dd (.dK (putK kv kk v5))), h4, putK kv kk v5, putKD kvs kk y, rfl, ⟨l.ex, l.n, l.mu, l.lk⟩, r5.regrow F5 apD.f, p1, p2, by omega, o'⟩
                  · exact o'.elim
        · exact o'.elim
      · exact o'.elim
    · have e : i = all.length := by omega
      subst e
      rw [List.drop_length] at o'
      unfold dcompGo at o'
      split at o'
      · rename_i still
        refine .inl ⟨wk.stops w' H' h' lx r' still, ?_⟩
        have o2 : OutE X.K X.mg W w1 σ Q (.ok (.loc h'.length) (h' ++ [AO.dct kvs])) := o'
        have hself : upd H' Dd (.dK kv) = H' := by
          funext b
          unfold upd
          split
          · rename_i eb
            rw [eb]
            exact (r'.exF _ _ (by rw [eF, upd_same])).symm
          · rfl
        obtain ⟨n1, n2⟩ := r'.newD eF apD.f ek ra
        rw [hself] at n1
        exact o2 (.ref Dd) _ _ (lf.trans (Wd.le_push _ Dd)) n1 n2
      · exact o'.elim
  · exact o1.elim
theorem e_dc (p : Pat) (hN : X.N.Nodup) (hi : PI X tg iter (tI X W im)) (ok : BlkOk X.N X.env.scope scope own)
    (hg : ∀ (s : Shared) (H : Hp) (C : Addr) (cl : List (Str × Addr)) (fp : List Addr), PG (X.blk s H scope (compEnvC scope cl C X.env) fp) tg (gP X.K p)) (ht : ∀ (s : Shared) (H : Hp) (C : Addr) (cl : List (Str × Addr)) (fp : List Addr), PTs (X.blk s H scope (compEnvC scope cl C X.env) fp) ifs (TTT X W0 mt))
    (hk : ∀ (s : Shared) (H : Hp) (C : Addr) (cl : List (Str × Addr)) (fp : List Addr), PE (X.blk s H scope (compEnvC scope cl C X.env) fp) kx (TM X W0 mk))
    (he : ∀ (s : Shared) (H : Hp) (C : Addr) (cl : List (Str × Addr)) (fp : List Addr), PE (X.blk s H scope (compEnvC scope cl C X.env) fp) vx (TM X W0 mv)) (hsl : ∀ i ∈ p.slots, i ∈ own.map (·.2)) (hc : X.calm = true := by rfl) (hs : ∀ x, foldedSetIterable iter X.env x = pure x := by intro _; rfl) :
    PE X (.DictComp kx vx [⟨tg, iter, ifs, 0⟩] scope pos) (TM X W (mDComp p (own.map (·.2)) im mt mk mv)) :=
  (pe_dc hc hN hi ok hg ht hk he hs).wk fun _ _ _ t => dc_read p hsl t
end
/-! ### isinstance(x, T) where x may be an instance of the classes cs (none of which is under T) -/
structure NotTy (K : PySem.W.Frag) (C : Str) (T : String) : Prop where
  ex : ∀ Ca, PySem.W.nsIn K mainGlobals C = some (some (.ref Ca)) → Cls K Ca ∧ PySem.W.findIn K (.ref Ca) "__class__" = some (some (.builtin "object.__class__")) ∧ PySem.W.specialIn K (.builtin "object.__class__") "__get__" = some (some (.builtin "getset_descriptor.__get__")) ∧
    PySem.W.takesIn K (.builtin "object.__class__") = some true ∧ PySem.W.mroIn K Ca (.type "object") = some true ∧ PySem.W.kitOne K (.ref Ca) (.type T) = some false
def tyDC (cs : List Str) (h : AH) (T : Ty) (d : D) : Option Bool := match d with
  | .loc n => match h[n]? with
    | some (.dct _) => some (Ty.dct.sub T)
    | some (.lst _) => some (Ty.lst.sub T)
    | some (.ins C _) => if C ∈ cs then some false else none
    | _ => none
  | d => (tyD h d).map fun t => t.sub T
def mIsiC (cs : List Str) (T : Ty) (m : Me) : Me := fun G h => (m G h).bind fun d h1 => match tyDC cs h1 T d with
  | some b => .ok (.bl b) h1
  | none => .stuck
section
variable {X : Cx} {W : WX} {e : Expr} {ma : Me} {p pos : Pos} {T : Ty}
theorem e_isiC (cs : List Str) (T : Ty) {t : Str} {pt : Pos} (hi : X.mg "isinstance" = none) (ht : X.mg t = none) (he : PE X e (TM X W ma)) (hC : AllC (fun C => NotTy X.K C T.name) cs) (hgt : Gl X t := by rfl) (hbt : bootBuiltins t = some (.type T.name) := by decide +kernel) (hg : Gl X "isinstance" := by rfl)
    (hn : t ≠ "__name__" := by decide) (hd : (t == ("__debug__" : Str)) = false := by decide)
    (h1 : starEach [e, .Name t pt] X.env = (false, eval e X.env) :: starEach [.Name t pt] X.env := by rfl) (h2 : starEach [.Name t pt] X.env = (false, eval (.Name t pt) X.env) :: starEach [] X.env := by rfl) (hpl : (backTo pos (starEach [.Name t pt] X.env)).any (·.1) = false := by rfl) :
    PE X (.Call (.Name "isinstance" p) [e, .Name t pt] [] pos) (TM X W (mIsiC cs T ma)) := by
  refine (pe_callB call_isi hg hi (by decide +kernel) (pa_cons he (pa_cons (pe_bltn (v := .ty T.name) hgt ht hbt rfl hn hd) pa_nil h2) h1) (by decide) (by decide) h1 hpl).wk fun σ H Q ⟨w, G, h, g, r, o⟩ => ⟨w, G, h, g, r, o.bindE fun d h1 v w1 H1 l r1 x o1 => ?_⟩
  split at o1
  · rename_i b eb
    have old : ∀ t, tyD h1 d = some t → b = t.sub T → ∃ (x : V) (c : V) (t : Value) (u : Value) (b : Bool), [v, .ty T.name] = [x, c] ∧ ClsV c u ∧ TyX X.K H1 x t ∧ PySem.W.kitOne X.K t u = some b ∧ Q (.bl b) H1 := fun t e q => by
      subst q
      exact ⟨v, .ty T.name, .type t.name, .type T.name, t.sub T, rfl, .ty _, tyD_rep r1 x e, kit_ty (kit_tag t T), out_ok o1 r1 (.bl _)⟩
    unfold tyDC at eb
    split at eb
    · rename_i n
      obtain ⟨rfl, hn⟩ := rv_loc x
      split at eb
      · rename_i kvs ec
        cases eb
        obtain ⟨_, kv, f1, f2, f3⟩ := r1.cell n _ ec
        exact ⟨_, .ty T.name, .type Ty.dct.name, .type T.name, _, rfl, .ty _, .base (.dK f1), kit_ty (kit_tag Ty.dct T), out_ok o1 r1 (.bl _)⟩
      · rename_i ds ec
        cases eb
        refine old .lst ?_ rfl
        show (match h1[n]? with
          | some (.lst _) => some Ty.lst
          | _ => none) = some Ty.lst
        rw [ec]
      · rename_i C fs ec
        split at eb
        · rename_i hc
          cases eb
          obtain ⟨_, Ca, dx, fv, f0, f1, f2, f3, _⟩ := r1.cell n _ ec
          obtain ⟨q1, q2, q3, q4, q5, q6⟩ := (AllC.mem hC C hc).ex Ca f0
          exact ⟨_, .ty T.name, .ref Ca, .type T.name, false, rfl, .ty _, .base (.ins f1 q1 q2 q3 q4 q5), q6, out_ok o1 r1 (.bl _)⟩
        · cases eb
      · cases eb
    · cases et : tyD h1 d with
      | none => rw [et] at eb; cases eb
      | some t =>
        rw [et] at eb
        cases eb
        exact old t et rfl
  · exact o1.elim
end
/-! ### facts of classes, by what the kit reads off the text -/
theorem kit_clsR {K : PySem.W.Frag} {C : Addr} {t : Value} {b : Bool} (hd : PySem.W.hasDictIn K C = true) (ht : PySem.W.typeIn K (.ref C) = some (.type "type")) (h4 : PySem.W.subIn K t (.ref C) = some b) : PySem.W.kitCls K t (.ref C) = some b := by
  obtain ⟨cd, hc, _⟩ := PySem.W.any_some hd
  have e2 : ((PySem.W.clsIn K C).isSome && PySem.W.typeIn K (.ref C) == some (.type "type")) = true := by rw [hc, ht] <;> rfl
  show (if ((PySem.W.clsIn K C).isSome && PySem.W.typeIn K (.ref C) == some (.type "type")) = true then PySem.W.subIn K t (.ref C) else none) = some b
  rw [if_pos e2]
  exact h4
theorem kit_oneT {K : PySem.W.Frag} {C : Addr} {t : Value} (hd : PySem.W.hasDictIn K C = true) (ht : PySem.W.typeIn K (.ref C) = some (.type "type")) (h4 : PySem.W.subIn K t (.ref C) = some true) : PySem.W.kitOne K t (.ref C) = some true := by
  unfold PySem.W.kitOne
  split
  · rfl
  · exact kit_clsR hd ht h4
theorem kit_oneF {K : PySem.W.Frag} {C : Addr} {t : Value} (ne : (t == .ref C) = false) (hd : PySem.W.hasDictIn K C = true) (ht : PySem.W.typeIn K (.ref C) = some (.type "type")) (h4 : PySem.W.subIn K t (.ref C) = some false) : PySem.W.kitOne K t (.ref C) = some false := by
  unfold PySem.W.kitOne
  rw [ne]
  exact kit_clsR hd ht h4
theorem kit_oneTy {K : PySem.W.Frag} {C : Addr} {T : String} {b : Bool} (h4 : PySem.W.subIn K (.ref C) (.type T) = some b) (hm : PySem.W.kitMeta T = true := by decide +kernel) : PySem.W.kitOne K (.ref C) (.type T) = some b := by
  have e : PySem.W.kitOne K (.ref C) (.type T) = (if PySem.W.kitMeta T = true then PySem.W.subIn K (.ref C) (.type T) else none) := rfl
  rw [e, if_pos hm]
  exact h4
/-! ### sorted(d), the keys of d ints -/
def intKeys : KD → Option (List Int)
  | [] => some []
  | (.inl i, _) :: r => (intKeys r).map fun is => i :: is
  | _ :: _ => none
theorem intKeys_map : ∀ {kvs : KD} {is : List Int}, intKeys kvs = some is → kvs.map (·.1) = is.map Sum.inl
  | [], is, e => by cases e; rfl
  | (.inl i, d) :: r, is, e => by
    unfold intKeys at e
    cases q : intKeys r with
    | none => rw [q] at e; cases e
    | some js =>
      rw [q] at e
      cases e
      rw [List.map_cons, List.map_cons, intKeys_map q]
  | (.inr _, _) :: _, is, e => by cases e
def sortI (is : List Int) : List Int := is.mergeSort fun a b => decide (a ≤ b)
theorem sorted_uniq : ∀ {a b : List Int}, a.Perm b → a.Pairwise (· ≤ ·) → b.Pairwise (· ≤ ·) → a = b
  | [], b, p, _, _ => (List.nil_perm.mp p).symm
  | x :: a, [], p, _, _ => absurd (List.perm_nil.mp p) (by simp)
  | x :: a, y :: b, p, g1, g2 => by
    obtain ⟨x1, h1⟩ := List.pairwise_cons.mp g1
    obtain ⟨y1, h2⟩ := List.pairwise_cons.mp g2
    have hx : x = y := by
      rcases List.mem_cons.mp (p.mem_iff.mp List.mem_cons_self) with q | q
      · exact q
      · rcases List.mem_cons.mp (p.mem_iff.mpr List.mem_cons_self) with z | z
        · exact z.symm
        · have := y1 x q
          have := x1 y z
          omega
    subst hx
    exact congrArg (x :: ·) (sorted_uniq (List.Perm.cons_inv p) h1 h2)
theorem sortI_sorted (is : List Int) : (sortI is).Pairwise (· ≤ ·) := by
  have := List.pairwise_mergeSort (le := fun a b : Int => decide (a ≤ b)) (fun a b c h1 h2 => by simp at *; omega) (fun a b => by simp; omega) is
  exact this.imp fun h => by simpa using h
def fSortK (xs : List D) (h : AH) : Res (List D) := match xs with
  | [.loc n] => match dctAt h n with
    | some kvs => match intKeys kvs with
      | some is => if is.length < 64 then .ok ((sortI is).map .int) h else .stuck
      | none => .stuck
    | none => .stuck
  | _ => .stuck
def rSortK : List V → Hp → VK → Prop := fun xs H Q => ∃ (a : Addr) (kvs : List (L2.Key × V)) (ks : List Int), xs = [.ref a] ∧ Rd H a (.dK kvs) ∧ kvs.map (·.1) = ks.map Sum.inl ∧ ks.length < 64 ∧
    ∀ (ys : List Int) (p : Addr), ys.Perm ks → ys.Pairwise (· ≤ ·) → H p = none → Q (.ref p) (upd H p (.lst (ys.map V.int)))
section
variable {X : Cx} {W : WX} {pos p : Pos} {e : Expr} {as : MeL}
theorem fol_sortK : FolF X W fSortK rSortK := by
  intro w h H σ Q vs ds rh ra o
  unfold fSortK at o
  split at o
  · rename_i n
    obtain ⟨v, rfl, rv⟩ := ra_one ra
    obtain ⟨rfl, hn⟩ := rv_loc rv
    split at o
    · rename_i kvs e
      split at o
      · rename_i is ei
        split at o
        · rename_i hl
          obtain ⟨kv, h1, h2, _⟩ := dct_rd rh e
          refine ⟨_, kv, is, rfl, h1, h2.trans (intKeys_map ei), hl, fun ys p py hy hp => ?_⟩
          have ey : ys = sortI is := sorted_uniq (py.trans (List.mergeSort_perm is _).symm) hy (sortI_sorted is)
          subst ey
          exact out_new o rh hp (ints_rep _)
        · exact o.elim
      · exact o.elim
    · exact o.elim
  · exact o.elim
theorem f_sortK (hm : X.mg "sorted" = none) (ha : PA X [e] (TAr X W as)) (hc : X.calm = true := by rfl) (hg : Gl X "sorted" := by rfl) (he : starEach [e] X.env = (false, eval e X.env) :: starEach [] X.env := by rfl) : PE X (.Call (.Name "sorted" p) [e] [] pos) (TF X W (lN fSortK as)) :=
  f_blt (call_sortedDI hc) fol_sortK hm ha hg (by decide +kernel) (by decide) (by decide) he rfl
end
end AB
/-! AB: rules of simp for objects, dicts, try. -/
namespace AB
open PySem PySem.Spec PyProof.Rows L2
section
variable {G : Env} {h : AH} {m a b c : Me} {as : MeL} {n : Nat} {x y : D} {f C : Str} {cs : List Str} {tb : List (Str × Fn)}
@[simp] theorem v_mFld : mFld cs f m G h = (m G h).bind fun d h1 => match d with
  | .loc n => match h1[n]? with
    | some (.ins C fs) => if C ∈ cs then match fs.lookup f with
      | some x => .ok x h1
      | none => .stuck
      else .stuck
    | _ => .stuck
  | _ => .stuck := id rfl
@[simp] theorem v_sFld : sFldM cs f a b G h = (b G h).toS G fun x h1 => (a G h1).toS G fun d h2 => match d with
  | .loc n => match h2[n]? with
    | some (.ins C fs) => if C ∈ cs ∧ fs.length < 1000 then .next G (h2.set n (.ins C (putD f x fs))) else .stuck
    | _ => .stuck
  | _ => .stuck := id rfl
@[simp] theorem v_sFldA {g : Int → Int → Int} : sFldA g cs f a b G h = (a G h).toS G fun d h1 => match d with
  | .loc n => match h1[n]? with
    | some (.ins C fs) => if C ∈ cs then match fs.lookup f with
      | some (.int i) => (b G h1).toS G fun y h2 => match y, h2[n]? with
        | .int j, some (.ins C2 fs2) => if C2 = C ∧ fs2.length < 1000 then .next G (h2.set n (.ins C (putD f (.int (g i j)) fs2))) else .stuck
        | _, _ => .stuck
      | _ => .stuck
      else .stuck
    | _ => .stuck
  | _ => .stuck := id rfl
@[simp] theorem v_mMeth : mMeth tb f m as G h = (m G h).bind fun d h1 => match d with
  | .loc n => match h1[n]? with
    | some (.ins C fs) => match tb.lookup C with
      | some fn => match fs.lookup f with
        | none => (as G h1).bind fun xs h2 => fn (.loc n :: xs) h2
        | some _ => .stuck
      | none => .stuck
    | _ => .stuck
  | _ => .stuck := rfl
@[simp] theorem v_mMake {fn : Fn} : mMake C fn as G h = (as G h).bind fun xs h1 => (fn (.loc h1.length :: xs) (h1 ++ [.ins C []])).bind fun v h2 => match v with
  | .non => .ok (.loc h1.length) h2
  | _ => .stuck := rfl
@[simp] theorem v_mDNew : mDNew G h = .ok (.loc h.length) (h ++ [.dct []]) := rfl
@[simp] theorem v_keyI (i : Int) : toKey (.int i) = some (.inl i) := rfl
@[simp] theorem v_mIsiC (T : Ty) : mIsiC cs T m G h = (m G h).bind fun d h1 => match tyDC cs h1 T d with | some b => .ok (.bl b) h1 | none => .stuck := rfl
@[simp] theorem v_dcI {T : Ty} {i : Int} : tyDC cs h T (.int i) = some (Ty.int.sub T) := rfl
@[simp] theorem v_dcB {T : Ty} {i : Bool} : tyDC cs h T (.bl i) = some (Ty.bl.sub T) := rfl
@[simp] theorem v_dcN {T : Ty} : tyDC cs h T .non = some (Ty.non.sub T) := rfl
@[simp] theorem v_dcS {T : Ty} {i : Str} : tyDC cs h T (.str i) = some (Ty.str.sub T) := rfl
@[simp] theorem v_dcT {T : Ty} {i : List D} : tyDC cs h T (.tup i) = some (Ty.tup.sub T) := rfl
@[simp] theorem v_dcL {T : Ty} {i : List D} : tyDC cs h T (.lst i) = some (Ty.lst.sub T) := rfl
theorem v_dcO {T : Ty} : tyDC cs h T (.loc n) = (match h[n]? with
    | some (.dct _) => some (Ty.dct.sub T)
    | some (.lst _) => some (Ty.lst.sub T)
    | some (.ins C _) => if C ∈ cs then some false else none
    | _ => none) := rfl
@[simp] theorem v_lenD : fLenD [.loc n] h = (match dctAt h n with
    | some kvs => .ok (.int kvs.length) h
    | none => .stuck) := rfl
theorem dct_at {kvs : KD} (e : h[n]? = some (.dct kvs)) : dctAt h n = some kvs := by
  unfold dctAt
  rw [e]
theorem lck_at {kvs : KD} (e : h[n]? = some (.lck kvs)) : dctAt h n = some kvs := by
  unfold dctAt
  rw [e]
theorem lookup_self {α : Type} {f : Str} {d : α} {r : List (Str × α)} : List.lookup f ((f, d) :: r) = some d := by
  rw [List.lookup_cons]
  have : (f == f) = true := by simp
  rw [this]
theorem set_same {α : Type} : ∀ {l : List α} {n : Nat} {a : α}, l[n]? = some a → l.set n a = l
  | [], n, a, e => by simp at e
  | x :: l, 0, a, e => by
    simp at e
    subst e
    rfl
  | x :: l, n + 1, a, e => by
    rw [List.getElem?_cons_succ] at e
    rw [List.set_cons_succ, set_same e]
theorem lt_of_get {α : Type} {l : List α} {n : Nat} {a : α} (e : l[n]? = some a) : n < l.length := (List.getElem?_eq_some_iff.mp e).1
theorem g_app {α : Type} {l t : List α} {n : Nat} {a : α} (e : l[n]? = some a) : (l ++ t)[n]? = some a := by
  rw [List.getElem?_append_left (lt_of_get e)]
  exact e
theorem g_set {α : Type} {l : List α} {n m : Nat} {a b : α} (e : l[n]? = some a) (hn : m ≠ n) : (l.set m b)[n]? = some a := by
  rw [List.getElem?_set_ne hn]
  exact e
theorem g_new {α : Type} {l : List α} {a : α} : (l ++ [a])[l.length]? = some a := by simp
theorem s_app {α : Type} {l t : List α} {n : Nat} {a : α} (h : n < l.length) : (l ++ t).set n a = l.set n a ++ t := List.set_append_left _ _ h
theorem s_new {α : Type} {l : List α} {a b : α} : (l ++ [a]).set l.length b = l ++ [b] := by simp
/-- a comprehension over an empty dict -/
theorem lcD_nil {p : Pat} {vs : List Nat} {t : MeT} {e : Me} (e1 : a G h = .ok (.loc n) h) (ec : h[n]? = some (.dct [])) (e2 : a G (h.set n (.lck [])) = .ok (.loc n) (h.set n (.lck []))) : lCompD p vs a t e G h = .ok [] h := by
  unfold lCompD
  rw [e1]
  simp only [if_true]
  rw [ec]
  simp only
  rw [if_pos e2, if_pos (by simp)]
  unfold compGoD
  have hl := lt_of_get ec
  rw [if_pos (by rw [List.getElem?_set_self hl])]
  simp only [Res.bind_ok, List.set_set]
  rw [set_same ec]
/-- a loop over an empty dict -/
theorem forD_nil {p : Pat} {o : Me} {body : Ms} {pick : L2.Key × D → D} (e : o G h = .ok (.loc n) h) (ec : h[n]? = some (.dct [])) (e2 : o G (h.set n (.lck [])) = .ok (.loc n) (h.set n (.lck []))) :
    sForD pick p o body G h = .next G h := by
  unfold sForD
  rw [e]
  simp only [if_true]
  rw [ec]
  simp only
  rw [if_pos e2]
  unfold forGoD
  have hl := lt_of_get ec
  rw [if_pos (by rw [List.getElem?_set_self hl]), List.set_set, set_same ec]
theorem while_no {t : MeT} {b : Ms} {h1 : AH} (e : t G h = .ok false h1) : sWhile t b G h = .next G h1 := by
  refine while_ok (n := 1) ?_ (by simp)
  unfold whileGo
  rw [e]
  rfl
theorem dcomp_nil {p : Pat} {vs : List Nat} {it : Im} {t : MeT} {ek ev : Me} {h1 : AH} (e : it G h = .ok ([], none) h1) : mDComp p vs it t ek ev G h = .ok (.loc h1.length) (h1 ++ [.dct []]) := by
  unfold mDComp
  rw [e]
  simp only [Res.bind_ok, List.length_nil, Nat.zero_le, if_true]
  unfold dcompGo
  rw [if_pos (show Still none [] h1 from trivial)]
  rfl
theorem sTry_ok {i : Nat} {tbl : List (Str × Option Su)} {b : Ms} {G1 : Env} {h1 : AH} (e : b G h = .next G1 h1) : sTry i tbl b G h = .next G1 h1 := by
  unfold sTry
  rw [e]
theorem sTry_exc {i : Nat} {tbl : List (Str × Option Su)} {b : Ms} {G1 : Env} {h1 : AH} {c0 : Str} {fs : List (Str × D)} (e : b G h = .exc c0 fs G1 h1) : sTry i tbl b G h = tryK i tbl G1 h1 c0 fs := by
  unfold sTry
  rw [e]
end
end AB
/-! AB: dicts whose keys are None and tuples of ints. -/
namespace AB
open PySem PySem.Spec PyProof.Rows L2 HD

def intsD : List D → Option (List Int)
  | [] => some []
  | .int i :: r => (intsD r).map fun is => i :: is
  | _ :: _ => none
def toHk : D → Option Hk
  | .non => some none
  | .tup ds => (intsD ds).map some
  | _ => none
def hkD : Hk → D
  | none => .non
  | some ks => .tup (ks.map .int)
open Classical in
noncomputable def putHk (ks : List Hk) (k : Hk) : List Hk := if k ∈ ks then ks else ks ++ [k]
section
variable {K : PySem.W.Frag} {w : Wd} {H : Hp} {h : AH}
theorem intsD_rep {G : Hp} {mu : Nat → Addr} {N : Nat} : ∀ {ds : List D} {is : List Int} {vs : List V}, intsD ds = some is → RepAll K G mu N vs ds → vs = is.map V.int
  | [], is, vs, e, r => by
    cases e
    cases r
    rfl
  | d :: ds, is, vs, e, r => by
    cases d with
    | int i =>
      unfold intsD at e
      cases q : intsD ds with
      | none => rw [q] at e; cases e
      | some js =>
        rw [q] at e
        cases e
        cases r with
        | cons a b =>
          cases a
          rw [intsD_rep q b]
          rfl
    | _ => cases e
/-- the value of a key -/
theorem toHk_rep (ex : Ext w.S H) {y : V} {d : D} {k : Hk} (rv : Rv K w y d) (e : toHk d = some k) : ∃ a, KeyAt K H y k a ∧ ∀ ks, k = some ks → SqT K w.S a (ks.map V.int) := by
  cases rv with
  | non =>
    cases e
    exact ⟨0, rfl, fun ks z => by cases z⟩
  | @tup a xs ds q1 q2 =>
    have e : (intsD ds).map some = some k := e
    cases q : intsD ds with
    | none => rw [q] at e; cases e
    | some is =>
      rw [q] at e
      cases e
      have ev := intsD_rep q q2
      subst ev
      exact ⟨a, ⟨rfl, ex.t q1⟩, fun ks z => by cases z; exact q1⟩
  | _ => cases e
theorem keysIn_ext (ex : Ext w.S H) {rows : Row Hk} (k : KeysIn K w.S rows) : KeysIn K H rows := fun x hx ks e => ex.t (k x hx ks e)
theorem atKey_isSome {rows : Row Hk} {k : Hk} : (atKey rows k).isSome = true ↔ k ∈ rows.map (·.1) := by
  unfold atKey
  rw [Option.isSome_map, List.find?_isSome]
  constructor
  · rintro ⟨x, hx, e⟩
    exact List.mem_map.mpr ⟨x, hx, of_decide_eq_true e⟩
  · intro hm
    obtain ⟨x, hx, e⟩ := List.mem_map.mp hm
    exact ⟨x, hx, decide_eq_true e⟩
theorem keys_stored (rows : Row Hk) (k : Hk) (a : Addr) (v : Value) : (storedH rows k a v).map (·.1) = putHk (rows.map (·.1)) k := by
  unfold storedH putHk
  by_cases c : (atKey rows k).isSome = true
  · rw [if_pos c, if_pos (atKey_isSome.mp c), keys_map_putAt]
  · rw [if_neg c, if_neg (fun z => c (atKey_isSome.mpr z)), List.map_append]
    rfl
theorem keysIn_stored {G : Hp} {rows : Row Hk} {k : Hk} {a : Addr} {v : Value} (hk : KeysIn K G rows) (hn : ∀ ks, k = some ks → SqT K G a (ks.map V.int)) : KeysIn K G (storedH rows k a v) := by
  intro x hx ks e
  unfold storedH at hx
  split at hx
  · obtain ⟨y, hy, rfl⟩ := List.mem_map.mp hx
    unfold putAt at e ⊢
    split at e
    · rw [if_pos (by assumption)]
      exact hk y hy ks e
    · rw [if_neg (by assumption)]
      exact hk y hy ks e
  · rcases List.mem_append.mp hx with hx | hx
    · exact hk x hx ks e
    · have z := List.mem_singleton.mp hx
      subst z
      exact hn ks e
end
/-! ### {k: v}, d[k] = v, list(d) -/
def mHDisp (k v : Me) : Me := fun G h => (k G h).noX.bind fun j h1 => (v G h1).noX.bind fun _ h2 => match toHk j with
  | some kk => .ok (.loc h2.length) (h2 ++ [.hld [kk]])
  | none => .stuck
noncomputable def sHPut (o k v : Me) : Ms := fun G h => (v G h).toS G fun _ h1 => (o G h1).toS G fun d h2 => (k G h2).toS G fun j h3 => match d with
  | .loc n => match h3[n]?, toHk j with
    | some (.hld ks), some kk => if ks.length < big then .next G (h3.set n (.hld (putHk ks kk))) else .stuck
    | _, _ => .stuck
  | _ => .stuck
def fHList (xs : List D) (h : AH) : Res (List D) := match xs with
  | [.loc n] => match h[n]? with
    | some (.hld ks) => .ok (ks.map hkD) h
    | _ => .stuck
  | _ => .stuck
section
variable {X : Cx} {W : WX} {o i e value k v : Expr} {pos pos' tpos apos cpos p : Pos} {mo mk mv : Me} {as : MeL}
theorem e_hdisp (hu : X.A.units + 1 < cLine) (hk : PE X k (TM X W mk)) (hv : PE X v (TM X W mv)) : PE X (.Dict [some k] [v] pos) (TM X W (mHDisp mk mv)) := by
  refine (pe_hdisp hu hk hv).wk fun σ H Q ⟨w, G, h, g, r, o⟩ => ?_
  intro p hp
  have ap : Apart w p := ⟨r.ex.free hp, fun n hn => r.ne hn hp, r.exF.free hp⟩
  refine ⟨w.hold p (hld p []), G, h, g, r.hold ap, ?_⟩
  unfold mHDisp at o
  cases em : mk G h with
  | exc c fs h1 => rw [em] at o; exact o.elim
  | stuck => rw [em] at o; exact o.elim
  | ok j h1 =>
    rw [em] at o
    intro v1 w1 H1 l1 r1 rv1
    have g1 : RepG X.K w1 σ G := RepG.mono l1 (w := w.hold p (hld p [])) g
    refine ⟨w1, G, h1, g1, r1, ?_⟩
    have o : OutE X.K X.mg W w σ Q ((mv G h1).noX.bind fun _ h2 => match toHk j with
      | some kk => .ok (.loc h2.length) (h2 ++ [.hld [kk]])
      | none => .stuck) := o
    cases ev : mv G h1 with
    | exc c fs h2 => rw [ev] at o; exact o.elim
    | stuck => rw [ev] at o; exact o.elim
    | ok x h2 =>
      rw [ev] at o
      have o : OutE X.K X.mg W w σ Q (match toHk j with
        | some kk => .ok (.loc h2.length) (h2 ++ [.hld [kk]])
        | none => .stuck) := o
      intro v2 w2 H2 l2 r2 rv2
      have F2 : w2.F = upd w.F p (hld p []) := l2.f.trans l1.f
      split at o
      · rename_i kk ek
        obtain ⟨a, ka, ks⟩ := toHk_rep r2.ex (Rv_mono l2 rv1) ek
        refine ⟨r2.exF _ _ (by rw [F2, upd_same]), kk, a, ka, fun rr hr => ?_⟩
        obtain ⟨rf, apf⟩ := (r2.regrow (u' := hld p [(kk, a, rr)]) F2 ap.f).free rfl ap.f
        have rn := rf.push (o := .hld [kk]) apf ⟨[(kk, a, rr)], upd_same, rfl, fun x hx => by
          have z := List.mem_singleton.mp hx
          subst z
          exact ks⟩
        have rx := rv_new (K := X.K) (w := w2.with w.F) p
        have hN : (w2.with w.F).N = h2.length := r2.len
        rw [hN] at rx
        have l : Le (w.hold p (hld p [])) w2 := l1.trans l2
        exact o (.ref p) _ _ ((show Le w (w2.with w.F) from ⟨l.ex, l.n, l.mu, rfl, l.lk⟩).trans (Wd.le_push _ p)) rn rx
      · exact o.elim
def rHSet (K : PySem.W.Frag) : TSet := fun x y v H Q => ∃ d rows k a, x = .ref d ∧ H d = some (hld d rows) ∧ KeysIn K H rows ∧ KeyAt K H y k a ∧ rows.length < sizeLine ∧ ∀ r, RelV v r → Q (upd H d (hld d (storedH rows k a r)))
theorem set_held (hu : X.A.units + 1 < cLine) : PSet X (rHSet X.K) := by
  intro pins s σ H o i v ov iv u Q I ro ri rv h
  obtain ⟨d, rows, k, a, rfl, e, hk, hy, hl, q⟩ := h
  obtain rfl : ov = Value.ref d := ro
  exact h_put hu I e hk hy ri hl fun s' I' => ⟨_, I', q u rv⟩
theorem s_hput (hu : X.A.units + 1 < cLine) {i : Expr} {tpos : Pos} {ev : Expr} {mi : Me} (ho : PE X o (TM X W mo)) (hi : PE X i (TM X W mi)) (hv : PE X ev (TM X W mv))
    (hs : swapsWithSole [.Subscript o i tpos] ev pos.line X.env = pure false := by rfl) (hw : swappedStores [.Subscript o i tpos] ev X.env = pure none := by rfl)
    (h1 : (assignEach [.Subscript o i tpos] X.env).map (·.2) = [assign (.Subscript o i tpos) X.env] := by rfl)
    (ha : ∀ v, assign (.Subscript o i tpos) X.env v = (do
      let ov ← holding [v] (eval o X.env)
      let iv ← holding [v, ov] (eval i X.env)
      standAt tpos
      holding [v, ov, iv] (setItem ov iv v)
      release [v, ov, iv] []) := by intro _; rfl) : PS X (.Assign [.Subscript o i tpos] ev pos) (TSS X W (sHPut mo mi mv)) := by
  refine (ps_asg hv (pg_sub ho hi (set_held hu) ha) hs hw h1).wk fun D σ H ⟨w, G, h, g, r, o⟩ => ⟨w, G, h, g, r, OutS.bindE (m := mv) g o fun x h1 v w1 H1 l1 r1 rx o1 => ?_⟩
  have g1 := g.mono l1
  refine ⟨w1, G, h1, g1, r1, OutS.bindE (m := mo) g1 o1 fun d h2 v2 w2 H2 l2 r2 rd o2 => ?_⟩
  have g2 := g1.mono l2
  refine ⟨w2, G, h2, g2, r2, OutS.bindE (m := mi) g2 o2 fun j h3 v3 w3 H3 l3 r3 rj o3 => ?_⟩
  split at o3
  · rename_i n
    obtain ⟨rfl, hn⟩ := rv_loc rd
    split at o3
    · rename_i ks kk e1 e2
      split at o3
      · rename_i hl
        obtain ⟨_, rows, f1, f2, f3⟩ := r3.cell n _ e1
        obtain ⟨a, ka, kn⟩ := toHk_rep r3.ex rj e2
        have emu : w3.mu n = w2.mu n := l3.mu n hn
        have hn3 : n < w3.N := Nat.lt_of_lt_of_le hn l3.n
        have hlen : rows.length = ks.length := by rw [← f2, List.length_map]
        rw [← emu]
        refine ⟨w3.mu n, rows, kk, a, rfl, f1, keysIn_ext r3.ex f3, ka, big_lt (by rw [hlen]; exact hl), fun rr hr => ?_⟩
        exact o3 σ w3 _ (Le.refl _) (g2.mono l3) (r3.set hn3 ⟨_, upd_same, by rw [keys_stored, f2], keysIn_stored f3 kn⟩)
      · exact o3.elim
    · exact o3.elim
  · exact o3.elim
/-- list(d) -/
def rHListK (K : PySem.W.Frag) : List V → Hp → VK → Prop := fun xs H Q => ∃ d rows, xs = [V.ref d] ∧ H d = some (hld d rows) ∧ KeysIn K H rows ∧ ∀ p, H p = none → Q (.ref p) (upd H p (.lst (rows.map keyV)))
theorem keys_ra {K : PySem.W.Frag} {w : Wd} : ∀ {rows : Row Hk} {ks : List Hk}, rows.map (·.1) = ks → KeysIn K w.S rows → Ra K w (rows.map keyV) (ks.map hkD)
  | [], ks, e, _ => by
    subst e
    exact .nil
  | (k, a, v) :: rows, ks, e, hk => by
    subst e
    have ih := keys_ra (rows := rows) rfl fun x hx => hk x (List.mem_cons_of_mem _ hx)
    refine .cons ?_ ih
    cases k with
    | none => exact .non
    | some is => exact .tup (hk _ List.mem_cons_self is rfl) (ints_rep is)
theorem fol_hlist : FolF X W fHList rHList := by
  intro w h H σ Q vs ds rh ra o
  unfold fHList at o
  split at o
  · rename_i n
    obtain ⟨v, rfl, rv⟩ := ra_one ra
    obtain ⟨rfl, hn⟩ := rv_loc rv
    split at o
    · rename_i ks e
      obtain ⟨_, rows, f1, f2, f3⟩ := rh.cell n _ e
      exact ⟨_, rows, rfl, f1, fun p hp => out_new o rh hp (keys_ra f2 f3)⟩
    · exact o.elim
  · exact o.elim
theorem f_hlist (hm : X.mg "list" = none) (ha : PA X [e] (TAr X W as)) (hc : X.calm = true := by rfl) (hg : Gl X "list" := by rfl) (he : starEach [e] X.env = (false, eval e X.env) :: starEach [] X.env := by rfl) : PE X (.Call (.Name "list" p) [e] [] pos) (TF X W (lN fHList as)) :=
  f_typ (call_hlist hc) fol_hlist hm ha hg (by decide +kernel) (by decide) (by decide) he rfl
end
end AB
/-! AB: loops whose source must stay by a condition of its own; enumerate over a list of the machine's. -/
namespace AB
open PySem PySem.Spec PyProof.Rows L2 HD

abbrev ImP := Env → AH → Res (List D × (AH → Prop))
structure WalksP (K : PySem.W.Frag) (J : It) (w : Wd) (all : List D) (Cn : AH → Prop) : Prop where
  goes : ∀ i w' H' h', i < all.length → LeX w w' → RepH K w' H' h' → Cn h' → J.go i H'
  stops : ∀ w' H' h', LeX w w' → RepH K w' H' h' → Cn h' → J.stop all.length H'
  yields : ∀ i x w' H' H2 h' d, all[i]? = some d → LeX w w' → RepH K w' H' h' → Cn h' → J.yld i H' x H2 → ∃ w2, Le w' w2 ∧ RepH K w2 H2 h' ∧ Rv K w2 x d
def OutIP (K : PySem.W.Frag) (mg : Str → Option Value) (W : WX) (w : Wd) (σ : L2.St) (R : It → Hp → Prop) : Res (List D × (AH → Prop)) → Prop
  | .ok (all, Cn) h => ∀ J w' H', Le w w' → RepH K w' H' h → WalksP K J w' all Cn → R J H'
  | .exc c fs h => OutX K mg W w σ c fs h
  | .stuck => False
theorem OutIP.mono {K : PySem.W.Frag} {mg : Str → Option Value} {W : WX} {w w' : Wd} {σ : L2.St} {R : It → Hp → Prop} {r : Res (List D × (AH → Prop))} (l : Le w w') (o : OutIP K mg W w σ R r) : OutIP K mg W w' σ R r := by
  cases r with
  | ok a h => exact fun J w2 H' l2 r x => o J w2 H' (l.trans l2) r x
  | exc c fs h => exact OutX.mono l o
  | stuck => exact o
def tIP (X : Cx) (W : WX) (m : ImP) : TI := fun σ H R => ∃ w G h, RepG X.K w σ G ∧ RepH X.K w H h ∧ OutIP X.K X.mg W w σ R (m G h)
open Classical in
noncomputable def forGoP (p : Pat) (body : Ms) (Cn : AH → Prop) : List D → Env → AH → SR
  | [], G, h => if Cn h then .next G h else .stuck
  | d :: r, G, h => if Cn h then
      match asg p d G with
      | some G1 => match body G1 h with
        | .next G2 h2 => forGoP p body Cn r G2 h2
        | .cont G2 h2 => forGoP p body Cn r G2 h2
        | .brk G2 h2 => .next G2 h2
        | .ret x h2 => .ret x h2
        | .exc c fs G2 h2 => .exc c fs G2 h2
        | .stuck => .stuck
      | none => .stuck
    else .stuck
noncomputable def sForP (p : Pat) (it : ImP) (body : Ms) : Ms := fun G h => (it G h).toS G fun a h1 => forGoP p body a.2 a.1 G h1
theorem OutS.bindIP {K : PySem.W.Frag} {mg : Str → Option Value} {W : WX} {w : Wd} {σ : L2.St} {G : Env} {h : AH} {D : Ends} {m : ImP} {R : It → Hp → Prop} {k : List AB.D × (AH → Prop) → AH → SR} (g : RepG K w σ G) (o : OutS K mg W D w ((m G h).toS G k))
    (hq : ∀ all Cn h1 J w1 H1, Le w w1 → RepH K w1 H1 h1 → WalksP K J w1 all Cn → OutS K mg W D w1 (k (all, Cn) h1) → R J H1) : OutIP K mg W w σ R (m G h) := by
  cases e : m G h with
  | ok d h1 =>
    rw [e] at o
    exact fun J w1 H1 l r x => hq d.1 d.2 h1 J w1 H1 l r x (OutS.mono l o)
  | exc c fs h1 =>
    rw [e] at o
    exact fun cls dd w1 H1 e l r x => o cls dd σ w1 H1 e l (g.mono l) r x
  | stuck =>
    rw [e] at o
    exact o
section
variable {X : Cx} {W : WX} {pos : Pos} {tg iter : Expr} {body : List Stmt} {p : Pat} {im : ImP} {mb : Ms}
theorem s_forP (hp : PassesOwn (model X.prog X.w) X.A X.env X.xe) (hi : PI X tg iter (tIP X W im)) (hg : PG X tg (gP X.K p)) (hb : PSs X body (TSS X W mb)) (hc : X.calm = true := by rfl) (hs : ∀ x, foldedSetIterable iter X.env x = pure x := by intro _; rfl) :
    PS X (.For tg iter body [] pos) (TSS X W (sForP p im mb)) := by
  refine (ps_for hp hc hi hg hb hs).wk fun D σ H ⟨w, G, h, g, r, o⟩ => ⟨w, G, h, g, r, OutS.bindIP (m := im) g o fun all Cn h1 J w1 H1 l r1 wk o1 => ?_⟩
  refine ⟨fun i m σ' H' => m = all.length - i ∧ i ≤ all.length ∧ ∃ w' G' h', Le w1 w' ∧ RepG X.K w' σ' G' ∧ RepH X.K w' H' h' ∧ OutS X.K X.mg W D w' (forGoP p mb Cn (all.drop i) G' h'),
    ⟨all.length, by simp, Nat.zero_le _, w1, G, h1, Le.refl _, g.mono l, r1, o1⟩, ?_⟩
  rintro i m σ' H' ⟨rfl, hi2, w', G', h', l', g', r', o'⟩
  by_cases hlt : i < all.length
  · have ed : all.drop i = all[i] :: all.drop (i + 1) := List.drop_eq_getElem_cons hlt
    rw [ed] at o'
    unfold forGoP at o'
    split at o'
    · rename_i still
      refine .inr ⟨wk.goes i w' H' h' hlt l'.x r' still, fun σ2 H2 => ∃ w' G' h', Le w1 w' ∧ RepG X.K w' σ2 G' ∧ RepH X.K w' H2 h' ∧ OutS X.K X.mg W D w' (forGoP p mb Cn (all.drop (i + 1)) G' h'),
        fun σ2 H2 hN => ⟨all.length - (i + 1), by omega, rfl, hlt, hN⟩, fun x H2 hy => ?_⟩
      obtain ⟨w2, l2, r2, rv⟩ := wk.yields i x w' H' H2 h' all[i] (List.getElem?_eq_getElem hlt) l'.x r' still hy
      split at o'
      · rename_i G1 e1
        refine asg_rep r2 p all[i] x σ' G' G1 _ rv (g'.mono l2) e1 fun σ3 g3 _ => ?_
        refine ⟨w2, G1, h', g3, r2, ?_⟩
        have o2 := OutS.mono l2 o'
        cases eb : mb G1 h' with
        | next G2 h2 =>
          rw [eb] at o2
          exact fun σ4 w4 H4 l4 g4 r4 => ⟨w4, G2, h2, l'.trans (l2.trans l4), g4, r4, OutS.mono l4 o2⟩
        | cont G2 h2 =>
          rw [eb] at o2
          exact fun σ4 w4 H4 l4 g4 r4 => ⟨w4, G2, h2, l'.trans (l2.trans l4), g4, r4, OutS.mono l4 o2⟩
        | brk G2 h2 => rw [eb] at o2; exact o2
        | ret d h2 => rw [eb] at o2; exact o2
        | exc c fs G2 h2 => rw [eb] at o2; exact o2
        | stuck => rw [eb] at o2; exact o2
      · exact o'.elim
    · exact o'.elim
  · have e : i = all.length := by omega
    subst e
    rw [List.drop_length] at o'
    unfold forGoP at o'
    split at o'
    · rename_i still
      exact .inl ⟨wk.stops w' H' h' l'.x r' still, o' σ' w' H' (Le.refl _) g' r'⟩
    · exact o'.elim
end
/-! ### enumerate(o), o a list of the machine's, which stays as it is meanwhile -/
def iEnumL (as : MeL) : ImP := fun G h => (as G h).bind fun xs h1 => match xs with
  | [.loc n] => match h1[n]? with
    | some (.lst ds) => .ok (enumD ds, fun h => h[n]? = some (.lst ds)) h1
    | _ => .stuck
  | _ => .stuck
theorem OutIP.bindA {K : PySem.W.Frag} {mg : Str → Option Value} {W : WX} {w : Wd} {σ : L2.St} {G : Env} {h : AH} {m : MeL} {R : List V → Hp → Prop} {Q : It → Hp → Prop} {k : List D → AH → Res (List D × (AH → Prop))} (o : OutIP K mg W w σ Q ((m G h).bind k))
    (hq : ∀ ds h1 vs w1 H1, Le w w1 → RepH K w1 H1 h1 → Ra K w1 vs ds → OutIP K mg W w1 σ Q (k ds h1) → R vs H1) : OutA K mg W w σ R (m G h) := by
  cases e : m G h with
  | ok d h1 =>
    rw [e] at o
    exact fun v w1 H1 l r x => hq d h1 v w1 H1 l r x (OutIP.mono l o)
  | exc c fs h1 =>
    rw [e] at o
    exact o
  | stuck =>
    rw [e] at o
    exact o
theorem enumD_get {ds : List D} {i : Nat} {d : D} (e : (enumD ds)[i]? = some d) : ∃ y, ds[i]? = some y ∧ d = .tup [.int (i : Int), y] := by
  rw [enumD_eq, List.getElem?_map] at e
  by_cases hi : i < ds.length
  · rw [List.getElem?_range hi] at e
    cases e
    refine ⟨ds[i], List.getElem?_eq_getElem hi, ?_⟩
    show D.tup [D.int (i : Int), ds.getD i D.non] = _
    rw [List.getD_eq_getElem?_getD, List.getElem?_eq_getElem hi]
    rfl
  · rw [List.getElem?_eq_none (by simp; omega)] at e
    cases e
theorem WalksP.enumL {K : PySem.W.Frag} {w : Wd} {ds : List D} {n : Nat} (hn : n < w.N) : WalksP K (Ite K (w.mu n)) w (enumD ds) (fun h => h[n]? = some (.lst ds)) := by
  have key : ∀ {w' : Wd} {H' : Hp} {h' : AH}, LeX w w' → RepH K w' H' h' → h'[n]? = some (.lst ds) → ∃ xs, SqL K H' (w.mu n) xs ∧ Ra K w' xs ds := by
    intro w' H' h' l r s
    obtain ⟨_, xs, e, ra⟩ := r.cell n _ s
    rw [l.mu n hn] at e
    exact ⟨xs, .inl (.inl e), ra⟩
  refine ⟨fun i w' H' h' hi l r s => ?_, fun w' H' h' l r s => ?_, fun i x w' H' H2 h' d hd l r s y => ?_⟩
  · obtain ⟨xs, q, h2⟩ := key l r s
    rw [enumD_len] at hi
    obtain ⟨v, hv, _⟩ := h2.get (i := i) (d := ds[i]) (List.getElem?_eq_getElem hi)
    exact ⟨xs, v, q, hv⟩
  · obtain ⟨xs, q, h2⟩ := key l r s
    exact ⟨xs, q, by rw [enumD_len, h2.length]; exact Nat.le_refl _⟩
  · obtain ⟨xs, q, h2⟩ := key l r s
    obtain ⟨T, z, rfl, hT, rfl, hz⟩ := y
    obtain ⟨e, he, rfl⟩ := enumD_get hd
    obtain ⟨v, hv, rv⟩ := h2.get he
    have e3 := hz xs q
    rw [hv] at e3
    have e4 : v = z := Option.some.inj e3
    rw [e4] at rv
    exact ⟨w'.add T (.tup [.int (i : Int), z]), r.le_add hT, r.add hT, rv_tup r hT (.cons (.int _) (.cons rv .nil))⟩
section
variable {X : Cx} {W : WX} {e : Expr} {as : MeL} {p pos tpos : Pos} {elts : List Expr} {kk : Nat}
theorem i_enumL (hm : X.mg "enumerate" = none) (ha : PA X [e] (TAr X W as)) (hg : Gl X "enumerate" := by rfl) (hs : starEach [e] X.env = [(false, eval e X.env)] := by rfl) :
    PI X (.Tuple elts kk tpos) (.Call (.Name "enumerate" p) [e] [] pos) (tIP X W (iEnumL as)) := by
  refine (pi_enum hg hm ha hs).wk fun σ H R ⟨w, G, h, g, r, o⟩ => ⟨w, G, h, g, r, OutIP.bindA (m := as) o fun ds h1 vs w1 H1 l r1 x o1 => ?_⟩
  split at o1
  · rename_i n
    obtain ⟨v, rfl, rv⟩ := ra_one x
    obtain ⟨rfl, hn⟩ := rv_loc rv
    split at o1
    · rename_i es ee
      obtain ⟨_, xs, e2, ra⟩ := r1.cell n _ ee
      exact ⟨_, xs, rfl, .inl (.inl e2), o1 _ w1 H1 (Le.refl _) r1 (WalksP.enumL hn)⟩
    · exact o1.elim
  · exact o1.elim
end
/-- a loop that knows what is behind it -/
theorem for_preP {α : Type} {p : Pat} {body : Ms} {Cn : AH → Prop} (I : List α → Env → AH → Prop) (hs : ∀ done G h, I done G h → Cn h) (enc : α → D) (xs : List α) : ∀ (todo done : List α), done ++ todo = xs →
    (∀ done x rest, done ++ x :: rest = xs → ∀ G h, I done G h → ∃ G1 G2 h2, asg p (enc x) G = some G1 ∧ body G1 h = .next G2 h2 ∧ I (done ++ [x]) G2 h2) →
    ∀ G h, I done G h → ∃ G' h', forGoP p body Cn (todo.map enc) G h = .next G' h' ∧ I xs G' h'
  | [], done, e, _, G, h, hI => by
    rw [List.append_nil] at e
    subst e
    refine ⟨G, h, ?_, hI⟩
    rw [List.map_nil]
    unfold forGoP
    rw [if_pos (hs _ G h hI)]
  | x :: r, done, e, hx, G, h, hI => by
    obtain ⟨G1, G2, h2, e1, e2, hI2⟩ := hx done x r e G h hI
    obtain ⟨G', h', e3, hI'⟩ := for_preP I hs enc xs r (done ++ [x]) (by rw [List.append_assoc]; exact e) hx G2 h2 hI2
    refine ⟨G', h', ?_, hI'⟩
    rw [List.map_cons]
    unfold forGoP
    rw [if_pos (hs _ G h hI), e1]
    simp only [e2, e3]
end AB
/-! AB: sorted(set(xs)) of a list of ints. -/
namespace AB
open PySem PySem.Spec PyProof.Rows L2 HSetL

/-! ### plain: a strictly rising list of the members -/
def insU (x : Int) : List Int → List Int
  | [] => [x]
  | y :: r => if x < y then x :: y :: r else if x = y then y :: r else y :: insU x r
def upSet (is : List Int) : List Int := is.foldr insU []
theorem insU_mem {x k : Int} : ∀ {l : List Int}, k ∈ insU x l ↔ k = x ∨ k ∈ l
  | [] => by simp [insU]
  | y :: r => by
    unfold insU
    split
    · simp
    · split
      · rename_i e
        subst e
        simp
      · rw [List.mem_cons, insU_mem (l := r), List.mem_cons]
        constructor <;> rintro (h | h | h) <;> simp [h]
theorem insU_up {x : Int} : ∀ {l : List Int}, l.Pairwise (· < ·) → (insU x l).Pairwise (· < ·)
  | [], _ => List.pairwise_singleton _ _
  | y :: r, h => by
    obtain ⟨h1, h2⟩ := List.pairwise_cons.mp h
    unfold insU
    split
    · rename_i c
      refine List.pairwise_cons.mpr ⟨fun z hz => ?_, h⟩
      rcases List.mem_cons.mp hz with q | q
      · rw [q]; exact c
      · exact Int.lt_trans c (h1 z q)
    · split
      · exact h
      · refine List.pairwise_cons.mpr ⟨fun z hz => ?_, insU_up h2⟩
        rcases insU_mem.mp hz with q | q
        · rw [q]; omega
        · exact h1 z q
theorem upSet_mem {k : Int} : ∀ {l : List Int}, k ∈ upSet l ↔ k ∈ l
  | [] => by simp [upSet]
  | y :: r => by
    show k ∈ insU y (upSet r) ↔ _
    rw [insU_mem, upSet_mem (l := r), List.mem_cons]
theorem upSet_up : ∀ (l : List Int), (upSet l).Pairwise (· < ·)
  | [] => List.Pairwise.nil
  | y :: r => insU_up (upSet_up r)
theorem up_uniq : ∀ {a b : List Int}, a.Pairwise (· < ·) → b.Pairwise (· < ·) → (∀ k, k ∈ a ↔ k ∈ b) → a = b
  | [], [], _, _, _ => rfl
  | [], y :: b, _, _, h => absurd ((h y).mpr List.mem_cons_self) (by simp)
  | x :: a, [], _, _, h => absurd ((h x).mp List.mem_cons_self) (by simp)
  | x :: a, y :: b, g1, g2, h => by
    obtain ⟨x1, h1⟩ := List.pairwise_cons.mp g1
    obtain ⟨y1, h2⟩ := List.pairwise_cons.mp g2
    have hx : x = y := by
      rcases List.mem_cons.mp ((h x).mp List.mem_cons_self) with q | q
      · exact q
      · rcases List.mem_cons.mp ((h y).mpr List.mem_cons_self) with z | z
        · exact z.symm
        · have := y1 x q
          have := x1 y z
          omega
    subst hx
    refine congrArg (x :: ·) (up_uniq h1 h2 fun k => ⟨fun hk => ?_, fun hk => ?_⟩)
    · rcases List.mem_cons.mp ((h k).mp (List.mem_cons_of_mem _ hk)) with q | q
      · have := x1 k hk
        omega
      · exact q
    · rcases List.mem_cons.mp ((h k).mpr (List.mem_cons_of_mem _ hk)) with q | q
      · have := y1 k hk
        omega
      · exact q
theorem upSet_is {a l : List Int} (h1 : a.Pairwise (· < ·)) (h2 : ∀ k, k ∈ a ↔ k ∈ l) : a = upSet l := up_uniq h1 (upSet_up l) fun k => (h2 k).trans upSet_mem.symm
/-! ### the calls -/
def rSetL (K : PySem.W.Frag) (w : World) : List V → Hp → VK → Prop := fun xs H Q => ∃ (a : Addr) (ns : List Int), xs = [V.ref a] ∧ SqL K H a (ns.map V.int) ∧ ns.length < 64 ∧
  ∀ (p : Addr) (c : Nat), c ≤ ns.length → H p = none → Q (.ref p) (upd H p (SetO w p (fun j => decide (j ∈ ns)) c))
theorem cr_setL {X : Cx} (hc : X.calm = true) : CallR X (.type "set") (rSetL X.K X.w) := by
  intro pins s σ H xs us Q I r h
  obtain ⟨a, ns, rfl, hq, hl, q⟩ := h
  rw [Vals.ref1 r]
  obtain ⟨its, rv, pl, hz⟩ := I.list hq
  refine call_set_lstI ns (I.ok.hd hc) pl.isList (ints_of_vals rv) (by unfold scanBound; omega) fun s2 f => ?_
  obtain ⟨h', tk, c, rfl, R, hle, k⟩ := f
  have hlt : s.heap.objs.size < h'.objs.size := R.lt
  exact ⟨.ref _, _, I.laid (t' := tk) (fun b u e => k b u e) (Nat.le_refl _) (setO_new R), rfl, q _ c hle (I.hok.fresh (Nat.le_refl _))⟩
def rSortSet (K : PySem.W.Frag) (w : World) : List V → Hp → VK → Prop := fun xs H Q => rSetL K w xs H fun v H1 => rSortedSet w [v] H1 Q
def fSortSet (xs : List D) (h : AH) : Res (List D) := match xs with
  | [d] => match vL h d with
    | some ds => match intsD ds with
      | some is => if is.length < 64 then .ok ((upSet is).map .int) h else .stuck
      | none => .stuck
    | none => .stuck
  | _ => .stuck
section
variable {X : Cx} {W : WX} {pos pos2 p p2 : Pos} {e : Expr} {as : MeL}
theorem fol_sortSet : FolF X W fSortSet (rSortSet X.K X.w) := by
  intro w h H σ Q vs ds rh ra o
  unfold fSortSet at o
  split at o
  · rename_i d
    obtain ⟨v, rfl, rv⟩ := ra_one ra
    split at o
    · rename_i es ev
      split at o
      · rename_i is ei
        split at o
        · rename_i hl
          obtain ⟨a, xs, rfl, sq, ra2⟩ := vL_rep rh rv ev
          have ex := intsD_rep ei ra2
          subst ex
          refine ⟨a, is, rfl, sq, hl, fun q c hc hq => ⟨q, _, c, rfl, upd_same, by omega, fun ns p hu hm hn hp => ?_⟩⟩
          have en : ns = upSet is := upSet_is hu fun k => (hm k).trans decide_eq_true_iff
          subst en
          exact out_new o (rh.fresh _ hq).1 hp (ints_rep _)
        · exact o.elim
      · exact o.elim
    · exact o.elim
  · exact o.elim
theorem f_sortSet (hm : X.mg "sorted" = none) (hm2 : X.mg "set" = none) (ha : PA X [e] (TAr X W as)) (hc : X.calm = true := by rfl) (hg : Gl X "sorted" := by rfl) (hg2 : Gl X "set" := by rfl)
    (he2 : starEach [e] X.env = (false, eval e X.env) :: starEach [] X.env := by rfl)
    (he : starEach [.Call (.Name "set" p2) [e] [] pos2] X.env = (false, eval (.Call (.Name "set" p2) [e] [] pos2) X.env) :: starEach [] X.env := by rfl) :
    PE X (.Call (.Name "sorted" p) [.Call (.Name "set" p2) [e] [] pos2] [] pos) (TF X W (lN fSortSet as)) :=
  (pe_callB (cr_sortedSet hc) hg hm (by decide +kernel) (pa_cons (pe_callTy (cr_setL hc) hg2 hm2 (by decide +kernel) ha (by decide) (by decide) he2 rfl) pa_nil he) (by decide) (by decide) he rfl).wk
    fun σ H Q t => show tCB (rSortSet X.K X.w) (TAr X W as) σ H Q from cbF fol_sortSet t
end
/-! ### xs * k, xs a list of the machine's own -/
def fMulLs (x y : D) (h : AH) : Res D := match x, y with
  | .loc n, .int k => match h[n]? with
    | some (.lst ds) => if 0 ≤ k ∧ k ≤ 1000 ∧ ds.length ≤ 1000 then .ok (.lst (List.replicate k.toNat ds).flatten) h else .stuck
    | _ => .stuck
  | _, _ => .stuck
section
variable {X : Cx} {W : WX}
theorem len_flat {α : Type} (xs : List α) : ∀ k : Nat, (List.replicate k xs).flatten.length = k * xs.length
  | 0 => by simp
  | k + 1 => by
    rw [List.replicate_succ, List.flatten_cons, List.length_append, len_flat xs k, Nat.succ_mul]
    omega
theorem fol_mulLs : Fol2 X W fMulLs rRep := by
  intro w h H σ Q v1 v2 d1 d2 rh r1 r2 o
  unfold fMulLs at o
  split at o
  · rename_i n k
    obtain ⟨rfl, hn⟩ := rv_loc r1
    cases r2
    split at o
    · rename_i ds e
      split at o
      · rename_i c
        obtain ⟨_, xs, e2, ra⟩ := rh.cell n _ e
        have hl := ra.length
        refine ⟨_, k, xs, rfl, rfl, e2, by omega, by omega, ?_, fun p hp => out_add o rh hp (rv_lst rh hp (ra_rep ra _))⟩
        have h1 : xs.length * k.toNat ≤ 1000 * 1000 := Nat.mul_le_mul (by omega) (by omega)
        rw [sizeLine_eq]
        omega
      · exact o.elim
    · exact o.elim
  · exact o.elim
end
end AB
/-! AB: xs.count(text) of a list of texts. -/
namespace AB
open PySem PySem.Spec PyProof.Rows L2
def rCntS (K : PySem.W.Frag) : V → List V → Hp → VK → Prop := fun x xs H Q => ∃ (p : Addr) (ns : List Str) (k : Str), x = .ref p ∧ xs = [.str k] ∧ SqL K H p (ns.map V.str) ∧ Q (.int (ns.count k : Nat)) H
theorem cnt_str {k : Str} : ∀ {us : List Value} {ns : List Str}, StrsAre us ns → us.countP (PyProof.Rows.isStrOf k) = ns.count k
  | _, _, .nil => rfl
  | _, _, .cons n t h => by
    have ih := cnt_str (k := k) h
    rw [List.countP_cons, List.count_cons, ih] <;> rfl
section
variable {X : Cx} {W : WX}
theorem mt_scount : MtR X "list.count" (rCntS X.K) := by
  intro pins s σ H x xs v us Q I rx rxs h
  obtain ⟨p, ns, k, rfl, rfl, hs, q⟩ := h
  cases rx
  obtain ⟨u, rfl, ru⟩ := rxs.one
  obtain ⟨t, rfl⟩ := ru
  obtain ⟨its, rv, ⟨⟨cls, dd, data, sl⟩, n, ho, hc, hdn, hd⟩, hlen⟩ := I.list hs
  simp only at hc hd
  subst hc hd
  have hi := strs_of_vals rv
  refine call_meets PySem.F.slot_list_count ⟨_, ho, rfl⟩ PySem.F.entry_list_count (PySem.F.args_list_count_2 _ _)
    (SeqAt.list_countAt p its.toArray n dd sl (.str k t) (PyProof.Rows.isStrOf k)) ⟨ho, fun y hy => (PyProof.Rows.eq_isStrOf k t hi y (by simpa using hy)).at _ _, ?_⟩
  have ec : its.toArray.toList.countP (PyProof.Rows.isStrOf k) = ns.count k := cnt_str hi
  refine ⟨.int (ns.count k : Nat), H, I.tok _, ⟨s.toks, ?_⟩, q⟩
  show Value.int ((its.toArray.toList.countP (PyProof.Rows.isStrOf k) : Nat) : Int) s.toks = Value.int ((ns.count k : Nat) : Int) s.toks
  rw [ec]
def strsD : List D → Option (List Str)
  | [] => some []
  | .str i :: r => (strsD r).map fun is => i :: is
  | _ :: _ => none
theorem strsD_rep {K : PySem.W.Frag} {G : Hp} {mu : Nat → Addr} {N : Nat} : ∀ {ds : List D} {is : List Str} {vs : List V}, strsD ds = some is → RepAll K G mu N vs ds → vs = is.map V.str
  | [], is, vs, e, r => by
    cases e
    cases r
    rfl
  | d :: ds, is, vs, e, r => by
    cases d with
    | str i =>
      unfold strsD at e
      cases q : strsD ds with
      | none => rw [q] at e; cases e
      | some js =>
        rw [q] at e
        cases e
        cases r with
        | cons a b =>
          cases a
          rw [strsD_rep q b]
          rfl
    | _ => cases e
def fCntS (d : D) (xs : List D) (h : AH) : Res D := match xs with
  | [.str k] => match vL h d with
    | some ds => match strsD ds with
      | some ns => .ok (.int (ns.count k : Nat)) h
      | none => .stuck
    | none => .stuck
  | _ => .stuck
theorem fol_cntS : FolM X W fCntS (rCntS X.K) := by
  intro w h H σ Q v d vs ds rh rv ra o
  unfold fCntS at o
  split at o
  · rename_i k
    obtain ⟨u, rfl, ru⟩ := ra_one ra
    cases ru
    split at o
    · rename_i es ev
      split at o
      · rename_i ns en
        obtain ⟨a, xs, rfl, sq, ra2⟩ := vL_rep rh rv ev
        have ex := strsD_rep en ra2
        subst ex
        exact ⟨a, ns, k, rfl, rfl, sq, o _ w H (Le.refl _) rh (.int _)⟩
      · exact o.elim
    · exact o.elim
  · exact o.elim
variable {o e : Expr} {apos cpos : Pos} {ma : Me} {as : MeL}
theorem e_cntS (ho : PE X o (TM X W ma)) (ha : PA X [e] (TAr X W as))
    (hbase : attributeBase o "count" X.env (eval o X.env) = eval o X.env := by rfl)
    (hfew : ((backTo cpos (starEach [e] X.env)).all (fun x => !x.1) && (backToKw cpos (keywordEach [] X.env)).all (fun x => x.1.isSome)
      && decide (([e] : List Expr).length + ([] : List Keyword).length + (if ([] : List Keyword).isEmpty then 0 else 1) < 30)) = true := by rfl)
    (hline : (apos.endLine == cpos.line) = true := by rfl) (hs : starEach [e] X.env = (false, eval e X.env) :: starEach [] X.env := by rfl) (hplain : (backTo cpos (starEach [] X.env)).any (·.1) = false := by rfl) :
    PE X (.Call (.Attribute o "count" apos) [e] [] cpos) (TM X W (mBM fCntS ma as)) :=
  e_bm PySem.F.slot_list_count PySem.F.type_list_count mt_scount fol_cntS ho ha hbase hfew hline hs hplain
end
end AB
namespace My
open PySem AB
/-- _law_hand(script): slots 0=script 1=cells 2=cell -/
noncomputable def b__law_hand : Ms :=
  (sSeq (sSet 1 (mL (lComp (.nm 2) [2] (iSeq (mSl (mV 0) oNone (oSome (mC (.int 63))))) tYesM (mN fAbs (aCons (mN fInt (aCons (mV 2) aNil)) aNil))))) (sSeq (sRet (mNew (lLst (aCons (mV 1) (aCons (mC (.int 0)) (aCons (mC (.int 0)) (aCons (mOp2 fAdd (mC (.int 1)) (mN fLen (aCons (mV 1) aNil))) (aCons (mC (.int 0)) aNil)))))))) sNil))
noncomputable def m__law_hand : FnL := mDefL 1 3 b__law_hand
/-- _law_draw(hand, many): slots 0=hand 1=many 2=cell 3=digit 4=number -/
noncomputable def b__law_draw : Ms :=
  (sSeq (sIf (tAndM (tBl (mOp2 fEq (mOp2 fIx (mV 0) (mC (.int 2))) (mC (.int 0)))) (tBl (mOp2 cLt (mOp2 fIx (mV 0) (mC (.int 1))) (mN fLen (aCons (mOp2 fIx (mV 0) (mC (.int 0))) aNil))))) (sSeq (sSet 2 (mOp2 fIx (mOp2 fIx (mV 0) (mC (.int 0))) (mOp2 fIx (mV 0) (mC (.int 1))))) (sSeq (sSub (mV 0) (mC (.int 1)) (mOp2 fAdd (mOp2 fIx (mV 0) (mC (.int 1))) (mC (.int 1)))) (sSeq (sSub (mV 0) (mC (.int 3)) (mOp2 fMod (mN fInt (aCons (mOp2 fAdd (mOp2 fAdd (mOp2 fMul (mOp2 fIx (mV 0) (mC (.int 3))) (mC (.int 69621))) (mV 2)) (mC (.int 11))) aNil)) (mC (.int 2147483629)))) (sSeq (sIf (tBl (mOp2 cGe (mV 2) (mOp2 fPow (mC (.int 10)) (mC (.int 18))))) (sSeq (sSub (mV 0) (mC (.int 2)) (mV 2)) sNil) sNil) sNil)))) sNil) (sSeq (sIf (tBl (mOp2 cGt (mOp2 fIx (mV 0) (mC (.int 2))) (mC (.int 0)))) (sSeq (sSet 3 (mOp2 fMod (mN fInt (aCons (mOp2 fIx (mV 0) (mC (.int 2))) aNil)) (mV 1))) (sSeq (sSub (mV 0) (mC (.int 2)) (mOp2 fDiv (mOp2 fIx (mV 0) (mC (.int 2))) (mV 1))) (sSeq (sRet (mV 3)) sNil))) sNil) (sSeq (sSub (mV 0) (mC (.int 4)) (mOp2 fAdd (mOp2 fIx (mV 0) (mC (.int 4))) (mC (.int 1)))) (sSeq (sSet 4 (mOp2 fMod (mN fInt (aCons (mOp2 fMul (mN fInt (aCons (mOp2 fAdd (mOp2 fIx (mV 0) (mC (.int 3))) (mOp2 fMul (mC (.int 7919)) (mOp2 fIx (mV 0) (mC (.int 4))))) aNil)) (mC (.int 48271))) aNil)) (mC (.int 2147483647)))) (sSeq (sSet 4 (mOp2 fMod (mN fInt (aCons (mOp2 fMul (mV 4) (mOp2 fAdd (mOp2 fDiv (mV 4) (mC (.int 1009))) (mC (.int 69621)))) aNil)) (mC (.int 2147483647)))) (sSeq (sSet 4 (mOp2 fMod (mN fInt (aCons (mOp2 fMul (mV 4) (mOp2 fAdd (mOp2 fDiv (mV 4) (mC (.int 2003))) (mC (.int 40692)))) aNil)) (mC (.int 2147483399)))) (sSeq (sRet (mOp2 fMod (mN fInt (aCons (mOp2 fDiv (mV 4) (mC (.int 16))) aNil)) (mV 1))) sNil)))))))
noncomputable def m__law_draw : Fn := mDef 2 5 b__law_draw
/-- Plan_keep(self, state, steps): slots 0=self 1=state 2=steps -/
noncomputable def b_Plan_keep : Ms :=
  (sSeq (sFldM ["Plan"] "kept_state" (mV 0) (mV 1)) (sSeq (sFldM ["Plan"] "kept_steps" (mV 0) (mV 2)) sNil))
noncomputable def m_Plan_keep : Fn := mDefK 3 3 b_Plan_keep
/-- is_integer(thing): slots 0=thing -/
noncomputable def b_is_integer : Ms :=
  (sSeq (sRet (mAnd (mIsi .int (mV 0)) (mNot (mIsi .bl (mV 0))))) sNil)
noncomputable def m_is_integer : Fn := mDef 1 1 b_is_integer
/-- is_deed_step(thing): slots 0=thing -/
noncomputable def b_is_deed_step : Ms :=
  (sSeq (sRet (mAnd (mIsi .tup (mV 0)) (mAnd (mOp2 fEq (mN fLen (aCons (mV 0) aNil)) (mC (.int 1))) (mAnd (mIsi .str (mOp2 fIx (mV 0) (mC (.int 0)))) (mOp2 fIn (mOp2 fIx (mV 0) (mC (.int 0))) (mN fTup (aCons (mC (.str "begin")) (aCons (mC (.str "done")) aNil)))))))) sNil)
noncomputable def m_is_deed_step : Fn := mDef 1 1 b_is_deed_step
/-- _law_behind(state, steps): slots 0=state 1=steps 2=settled 3=waiting 4=step 5=sector 6=value -/
noncomputable def b__law_behind : Ms :=
  (sSeq (sSet 2 (mNew (lN lList (aCons (mV 0) aNil)))) (sSeq (sSet 3 (mNew (lLst aNil))) (sSeq (sFor (.nm 4) (iSeq (mV 1)) (sSeq (sIf (tBl (mOp2 fEq (mOp2 fIx (mV 4) (mC (.int 0))) (mC (.str "write")))) (sSeq (sExpr (mBM fApp (mV 3) (aCons (mN fTup (aCons (mOp2 fIx (mV 4) (mC (.int 1))) (aCons (mOp2 fIx (mV 4) (mC (.int 2))) aNil))) aNil))) sNil) sNil) (sSeq (sIf (tBl (mOp2 fEq (mOp2 fIx (mV 4) (mC (.int 0))) (mC (.str "barrier")))) (sSeq (sFor (.tp [(.nm 5), (.nm 6)]) (iSeq (mV 3)) (sSeq (sSub (mV 2) (mV 5) (mV 6)) sNil)) (sSeq (sSet 3 (mNew (lLst aNil))) sNil)) sNil) sNil))) (sSeq (sRet (mN fTup (aCons (mN fTuple (aCons (mV 2) aNil)) (aCons (mV 3) aNil)))) sNil))))
noncomputable def m__law_behind : Fn := mDefK 2 7 b__law_behind
/-- Disk_tell(self): slots 0=self -/
noncomputable def b_Disk_tell : Ms :=
  (sSeq (sIf (tBl (mOp2 fNotN (mFld ["Disk"] "watcher" (mV 0)) (mC .non))) sNever sNil) sNil)
noncomputable def m_Disk_tell : Fn := mDefK 1 1 b_Disk_tell
/-- Disk_waiting(self): slots 0=self -/
noncomputable def b_Disk_waiting : Ms :=
  (sSeq (sRet (mN fTuple (aCons (mL (lN fSortK (aCons (mFld ["Disk"] "writes" (mV 0)) aNil))) aNil))) sNil)
noncomputable def m_Disk_waiting : Fn := mDef 1 1 b_Disk_waiting
/-- _law_lots(settled, waiting, tears): slots 0=settled 1=waiting 2=tears 3=found 4=sector 5=things 6=place 7=value 8=values 9=thing -/
noncomputable def b__law_lots : Ms :=
  (sSeq (sSet 3 (mNew (lLst aNil))) (sSeq (sFor (.nm 4) (iRange1 (aCons (mN fLen (aCons (mV 0) aNil)) aNil)) (sSeq (sSet 5 (mNew (lLst (aCons (mOp2 fIx (mV 0) (mV 4)) aNil)))) (sSeq (sFor (.tp [(.nm 6), (.nm 7)]) (iSeq (mV 1)) (sSeq (sIf (tBl (mOp2 fEq (mV 6) (mV 4))) (sSeq (sIf (tBl (mOp2 fNotIn (mV 7) (mV 5))) (sSeq (sExpr (mBM fApp (mV 5) (aCons (mV 7) aNil))) sNil) sNil) (sSeq (sIf (tAndM (tOf (mV 2)) (tBl (mOp2 fNotIn (mC .non) (mV 5)))) (sSeq (sExpr (mBM fApp (mV 5) (aCons (mC .non) aNil))) sNil) sNil) sNil)) sNil) sNil)) (sSeq (sSet 8 (mL (lN fSorted (aCons (mL (lComp (.nm 9) [9] (iSeq (mV 5)) (tBl (mOp2 fNotN (mV 9) (mC .non))) (mV 9))) aNil)))) (sSeq (sExpr (mBM fApp (mV 3) (aCons (mN fTuple (aCons (mOp2 fAdd (mOp2 fMulLs (mNew (lLst (aCons (mC .non) aNil))) (mN fInt (aCons (mOp2 fIn (mC .non) (mV 5)) aNil))) (mV 8)) aNil)) aNil))) sNil))))) (sSeq (sRet (mN fTuple (aCons (mV 3) aNil))) sNil)))
noncomputable def m__law_lots : Fn := mDef 3 10 b__law_lots
/-- bounds_of(steps): slots 0=steps 1=words 2=step -/
noncomputable def b_bounds_of : Ms :=
  (sSeq (sSet 1 (mL (lComp (.nm 2) [2] (iSeq (mV 0)) tYesM (mOp2 fIx (mV 2) (mC (.int 0)))))) (sSeq (sRet (mN fTup (aCons (mBM fCntS (mV 1) (aCons (mC (.str "done")) aNil)) (aCons (mBM fCntS (mV 1) (aCons (mC (.str "begin")) aNil)) aNil)))) sNil))
noncomputable def m_bounds_of : Fn := mDef 1 3 b_bounds_of
/-- _law_bounds(steps): slots 0=steps 1=words 2=step -/
noncomputable def b__law_bounds : Ms :=
  (sSeq (sSet 1 (mL (lComp (.nm 2) [2] (iSeq (mV 0)) tYesM (mOp2 fIx (mV 2) (mC (.int 0)))))) (sSeq (sRet (mN fTup (aCons (mBM fCntS (mV 1) (aCons (mC (.str "done")) aNil)) (aCons (mBM fCntS (mV 1) (aCons (mC (.str "begin")) aNil)) aNil)))) sNil))
noncomputable def m__law_bounds : Fn := mDef 1 3 b__law_bounds
/-- Disk_settled(self): slots 0=self -/
noncomputable def b_Disk_settled : Ms :=
  (sSeq (sRet (mN fTuple (aCons (mFld ["Disk"] "kept" (mV 0)) aNil))) sNil)
noncomputable def m_Disk_settled : Fn := mDef 1 1 b_Disk_settled
/-- Disk_now(self): slots 0=self 1=found 2=sector 3=values -/
noncomputable def b_Disk_now : Ms :=
  (sSeq (sSet 1 (mNew (lN lList (aCons (mFld ["Disk"] "kept" (mV 0)) aNil)))) (sSeq (sForD pickI (.tp [(.nm 2), (.nm 3)]) (mFld ["Disk"] "writes" (mV 0)) (sSeq (sSub (mV 1) (mV 2) (mOp2 fIx (mV 3) (mOp1 fNeg (mC (.int 1))))) sNil)) (sSeq (sRet (mN fTuple (aCons (mV 1) aNil))) sNil)))
noncomputable def m_Disk_now : Fn := mDef 1 4 b_Disk_now
/-- check_flag(thing): slots 0=thing -/
noncomputable def b_check_flag : Ms :=
  (sSeq (sIf (tNotM (tOf (mIsi .bl (mV 0)))) (sSeq sNever sNil) sNil) sNil)
noncomputable def m_check_flag : Fn := mDef 1 1 b_check_flag
/-- in_order(things): slots 0=things 1=values 2=thing -/
noncomputable def b_in_order : Ms :=
  (sSeq (sSet 1 (mL (lN fSorted (aCons (mL (lComp (.nm 2) [2] (iSeq (mV 0)) (tBl (mOp2 fNotN (mV 2) (mC .non))) (mV 2))) aNil)))) (sSeq (sIf (tBl (mOp2 cLt (mN fLen (aCons (mV 1) aNil)) (mN fLen (aCons (mV 0) aNil)))) (sSeq (sRet (mOp2 fAdd (mN fTup (aCons (mC .non) aNil)) (mN fTuple (aCons (mV 1) aNil)))) sNil) sNil) (sSeq (sRet (mN fTuple (aCons (mV 1) aNil))) sNil)))
noncomputable def m_in_order : Fn := mDef 1 3 b_in_order
/-- _law_value(hand): slots 0=hand 1=k -/
noncomputable def b__law_value : Ms :=
  (sSeq (sRet (mN fTuple (aCons (mL (lComp (.nm 1) [1] (iRange1 (aCons (mOp2 fIx (mL (lLst (aCons (mC (.int 1)) (aCons (mC (.int 1)) (aCons (mC (.int 2)) (aCons (mC (.int 0)) aNil)))))) (mN m__law_draw (aCons (mV 0) (aCons (mC (.int 4)) aNil)))) aNil)) tYesM (mN m__law_draw (aCons (mV 0) (aCons (mC (.int 3)) aNil))))) aNil))) sNil)
noncomputable def m__law_value : Fn := mDef 1 2 b__law_value
/-- _law_any(hand, things): slots 0=hand 1=things -/
noncomputable def b__law_any : Ms :=
  (sSeq (sRet (mOp2 fIx (mV 1) (mN m__law_draw (aCons (mV 0) (aCons (mN fLen (aCons (mV 1) aNil)) aNil))))) sNil)
noncomputable def m__law_any : Fn := mDef 2 2 b__law_any
/-- is_between(thing, least, most): slots 0=thing 1=least 2=most -/
noncomputable def b_is_between : Ms :=
  (sSeq (sRet (mAnd (mN m_is_integer (aCons (mV 0) aNil)) (mChain cLe cLe (mV 1) (mV 0) (mV 2)))) sNil)
noncomputable def m_is_between : Fn := mDef 3 3 b_is_between
/-- Disk_barrier(self): slots 0=self 1=sector 2=values -/
noncomputable def b_Disk_barrier : Ms :=
  (sSeq (sForD pickI (.tp [(.nm 1), (.nm 2)]) (mFld ["Disk"] "writes" (mV 0)) (sSeq (sSub (mFld ["Disk"] "kept" (mV 0)) (mV 1) (mOp2 fIx (mV 2) (mOp1 fNeg (mC (.int 1))))) sNil)) (sSeq (sFldM ["Disk"] "writes" (mV 0) mDNew) (sSeq (sExpr (mMeth [("Disk", m_Disk_tell)] "tell" (mV 0) aNil)) sNil)))
noncomputable def m_Disk_barrier : Fn := mDefK 1 3 b_Disk_barrier
/-- lots_from(settled, waiting, tears): slots 0=settled 1=waiting 2=tears 3=found 4=sector 5=item 6=things 7=value -/
noncomputable def b_lots_from : Ms :=
  (sSeq (sSet 3 (mNew (lLst aNil))) (sSeq (sForP (.tp [(.nm 4), (.nm 5)]) (iEnumL (aCons (mV 0) aNil)) (sSeq (sSet 6 (mHDisp (mV 5) (mC (.bl true)))) (sSeq (sFor (.nm 7) (iSeq (mDGet2 (mV 1) (mV 4) (mNew (lLst aNil)))) (sSeq (sHPut (mV 6) (mV 7) (mC (.bl true))) sNil)) (sSeq (sIf (tAndM (tOf (mV 2)) (tBl (mOp2 fDIn (mV 4) (mV 1)))) (sSeq (sHPut (mV 6) (mC .non) (mC (.bl true))) sNil) sNil) (sSeq (sExpr (mBM fApp (mV 3) (aCons (mN m_in_order (aCons (mL (lN fHList (aCons (mV 6) aNil))) aNil)) aNil))) sNil))))) (sSeq (sRet (mN fTuple (aCons (mV 3) aNil))) sNil)))
noncomputable def m_lots_from : Fn := mDef 3 8 b_lots_from
/-- _law_pool(hand): slots 0=hand 1=found 2=k 3=value -/
noncomputable def b__law_pool : Ms :=
  (sSeq (sSet 1 (mNew (lLst aNil))) (sSeq (sFor (.nm 2) (iRange1 (aCons (mC (.int 3)) aNil)) (sSeq (sSet 3 (mN m__law_value (aCons (mV 0) aNil))) (sSeq (sIf (tBl (mOp2 fNotIn (mV 3) (mV 1))) (sSeq (sExpr (mBM fApp (mV 1) (aCons (mV 3) aNil))) sNil) sNil) sNil))) (sSeq (sRet (mV 1)) sNil)))
noncomputable def m__law_pool : FnL := mDefL 1 4 b__law_pool
/-- _law_steps(hand, pool, sectors, many): slots 0=hand 1=pool 2=sectors 3=many 4=found 5=under 6=k 7=way -/
noncomputable def b__law_steps : Ms :=
  (sSeq (sSet 4 (mNew (lLst aNil))) (sSeq (sSet 5 (mC (.int 0))) (sSeq (sFor (.nm 6) (iRange1 (aCons (mV 3) aNil)) (sSeq (sSet 7 (mN m__law_draw (aCons (mV 0) (aCons (mC (.int 8)) aNil)))) (sSeq (sIf (tBl (mOp2 cLt (mV 7) (mC (.int 4)))) (sSeq (sExpr (mBM fApp (mV 4) (aCons (mN fTup (aCons (mC (.str "write")) (aCons (mN m__law_draw (aCons (mV 0) (aCons (mV 2) aNil))) (aCons (mN m__law_any (aCons (mV 0) (aCons (mV 1) aNil))) aNil)))) aNil))) sNil) (sSeq (sIf (tBl (mOp2 cLt (mV 7) (mC (.int 6)))) (sSeq (sExpr (mBM fApp (mV 4) (aCons (mN fTup (aCons (mC (.str "barrier")) aNil)) aNil))) sNil) (sSeq (sIf (tOrM (tBl (mOp2 fEq (mV 7) (mC (.int 6)))) (tBl (mOp2 fEq (mV 5) (mC (.int 0))))) (sSeq (sExpr (mBM fApp (mV 4) (aCons (mN fTup (aCons (mC (.str "begin")) aNil)) aNil))) (sSeq (sSet 5 (mOp2 fAdd (mV 5) (mC (.int 1)))) sNil)) (sSeq (sExpr (mBM fApp (mV 4) (aCons (mN fTup (aCons (mC (.str "done")) aNil)) aNil))) (sSeq (sSet 5 (mOp2 fSub (mV 5) (mC (.int 1)))) sNil))) sNil)) sNil)) sNil))) (sSeq (sRet (mN fTuple (aCons (mV 4) aNil))) sNil))))
noncomputable def m__law_steps : Fn := mDef 4 8 b__law_steps
/-- is_value(thing): slots 0=thing 1=item -/
noncomputable def b_is_value : Ms :=
  (sSeq (sIf (tOrM (tNotM (tOf (mIsi .tup (mV 0)))) (tBl (mOp2 cGt (mN fLen (aCons (mV 0) aNil)) (mC (.int 32))))) (sSeq (sRet (mC (.bl false))) sNil) sNil) (sSeq (sRet (mN fAll (aCons (mL (lComp (.nm 1) [1] (iSeq (mV 0)) tYesM (mN m_is_between (aCons (mV 1) (aCons (mC (.int 0)) (aCons (mC (.int 1000000000000)) aNil)))))) aNil))) sNil))
noncomputable def m_is_value : Fn := mDef 1 2 b_is_value
/-- is_index(thing, many): slots 0=thing 1=many -/
noncomputable def b_is_index : Ms :=
  (sSeq (sRet (mN m_is_between (aCons (mV 0) (aCons (mC (.int 0)) (aCons (mOp2 fSub (mV 1) (mC (.int 1))) aNil))))) sNil)
noncomputable def m_is_index : Fn := mDef 2 2 b_is_index
/-- Disk_lots(self, tears): slots 0=self 1=tears -/
noncomputable def b_Disk_lots : Ms :=
  (sSeq (sExpr (mN m_check_flag (aCons (mV 1) aNil))) (sSeq (sRet (mN m_lots_from (aCons (mFld ["Disk"] "kept" (mV 0)) (aCons (mFld ["Disk"] "writes" (mV 0)) (aCons (mV 1) aNil))))) sNil))
noncomputable def m_Disk_lots : Fn := mDef 2 2 b_Disk_lots
/-- is_held(thing): slots 0=thing -/
noncomputable def b_is_held : Ms :=
  (sSeq (sRet (mOr (mOp2 fIsN (mV 0) (mC .non)) (mN m_is_value (aCons (mV 0) aNil)))) sNil)
noncomputable def m_is_held : Fn := mDef 1 1 b_is_held
/-- is_disk_step(thing, sectors): slots 0=thing 1=sectors -/
noncomputable def b_is_disk_step : Ms :=
  (sSeq (sIf (tOrM (tNotM (tOf (mIsi .tup (mV 0)))) (tOrM (tBl (mOp2 fEq (mN fLen (aCons (mV 0) aNil)) (mC (.int 0)))) (tNotM (tOf (mIsi .str (mOp2 fIx (mV 0) (mC (.int 0)))))))) (sSeq (sRet (mC (.bl false))) sNil) sNil) (sSeq (sIf (tBl (mOp2 fEq (mOp2 fIx (mV 0) (mC (.int 0))) (mC (.str "barrier")))) (sSeq (sRet (mOp2 fEq (mN fLen (aCons (mV 0) aNil)) (mC (.int 1)))) sNil) sNil) (sSeq (sRet (mAnd (mOp2 fEq (mOp2 fIx (mV 0) (mC (.int 0))) (mC (.str "write"))) (mAnd (mOp2 fEq (mN fLen (aCons (mV 0) aNil)) (mC (.int 3))) (mAnd (mN m_is_index (aCons (mOp2 fIx (mV 0) (mC (.int 1))) (aCons (mV 1) aNil))) (mN m_is_value (aCons (mOp2 fIx (mV 0) (mC (.int 2))) aNil)))))) sNil)))
noncomputable def m_is_disk_step : Fn := mDef 2 2 b_is_disk_step
/-- check_moment(plan, thing): slots 0=plan 1=thing -/
noncomputable def b_check_moment : Ms :=
  (sSeq (sIf (tNotM (tOf (mN m_is_index (aCons (mV 1) (aCons (mOp2 fAdd (mN fLen (aCons (mFld ["Plan"] "kept_steps" (mV 0)) aNil)) (mC (.int 1))) aNil))))) (sSeq sNever sNil) sNil) sNil)
noncomputable def m_check_moment : Fn := mDef 2 2 b_check_moment
/-- Disk_write(self, sector, value): slots 0=self 1=sector 2=value -/
noncomputable def b_Disk_write : Ms :=
  (sSeq (sIf (tNotM (tOf (mN m_is_index (aCons (mV 1) (aCons (mN fLen (aCons (mFld ["Disk"] "kept" (mV 0)) aNil)) aNil))))) (sSeq sNever sNil) sNil) (sSeq (sIf (tNotM (tOf (mN m_is_value (aCons (mV 2) aNil)))) (sSeq sNever sNil) sNil) (sSeq (sExpr (mBM fApp (mDSetd (mFld ["Disk"] "writes" (mV 0)) (mV 1) (mNew (lLst aNil))) (aCons (mV 2) aNil))) (sSeq (sExpr (mMeth [("Disk", m_Disk_tell)] "tell" (mV 0) aNil)) sNil))))
noncomputable def m_Disk_write : Fn := mDefK 3 3 b_Disk_write
/-- is_state(thing): slots 0=thing 1=item -/
noncomputable def b_is_state : Ms :=
  (sSeq (sRet (mAnd (mIsi .tup (mV 0)) (mAnd (mChain cLe cLe (mC (.int 1)) (mN fLen (aCons (mV 0) aNil)) (mC (.int 64))) (mN fAll (aCons (mL (lComp (.nm 1) [1] (iSeq (mV 0)) tYesM (mN m_is_held (aCons (mV 1) aNil)))) aNil))))) sNil)
noncomputable def m_is_state : Fn := mDef 1 2 b_is_state
/-- do_step(disk, step): slots 0=disk 1=step -/
noncomputable def b_do_step : Ms :=
  (sSeq (sIf (tBl (mOp2 fEq (mOp2 fIx (mV 1) (mC (.int 0))) (mC (.str "write")))) (sSeq (sExpr (mMeth [("Disk", m_Disk_write)] "write" (mV 0) (aCons (mOp2 fIx (mV 1) (mC (.int 1))) (aCons (mOp2 fIx (mV 1) (mC (.int 2))) aNil)))) sNil) (sSeq (sIf (tBl (mOp2 fEq (mOp2 fIx (mV 1) (mC (.int 0))) (mC (.str "barrier")))) (sSeq (sExpr (mMeth [("Disk", m_Disk_barrier)] "barrier" (mV 0) aNil)) sNil) sNil) sNil)) sNil)
noncomputable def m_do_step : Fn := mDefK 2 2 b_do_step
/-- bounds_at(plan, moment): slots 0=plan 1=moment -/
noncomputable def b_bounds_at : Ms :=
  (sSeq (sExpr (mN m_check_moment (aCons (mV 0) (aCons (mV 1) aNil)))) (sSeq (sRet (mN m_bounds_of (aCons (mSl (mFld ["Plan"] "kept_steps" (mV 0)) oNone (oSome (mV 1))) aNil))) sNil))
noncomputable def m_bounds_at : Fn := mDef 2 2 b_bounds_at
/-- Plan___init__(self, state, steps): slots 0=self 1=state 2=steps 3=under_way 4=index 5=step -/
noncomputable def b_Plan___init__ : Ms :=
  (sSeq (sIf (tOrM (tNotM (tOf (mN m_is_state (aCons (mV 1) aNil)))) (tBl (mOp2 fIn (mC .non) (mV 1)))) (sSeq sNever sNil) sNil) (sSeq (sIf (tOrM (tNotM (tOf (mIsi .tup (mV 2)))) (tBl (mOp2 cGt (mN fLen (aCons (mV 2) aNil)) (mC (.int 200))))) (sSeq sNever sNil) sNil) (sSeq (sSet 3 (mC (.int 0))) (sSeq (sFor (.tp [(.nm 4), (.nm 5)]) (iEnum (aCons (mV 2) aNil)) (sSeq (sIf (tAndM (tNotM (tOf (mN m_is_disk_step (aCons (mV 5) (aCons (mN fLen (aCons (mV 1) aNil)) aNil))))) (tNotM (tOf (mN m_is_deed_step (aCons (mV 5) aNil))))) (sSeq sNever sNil) sNil) (sSeq (sAug (fun i j => i + j) 3 (mOp2 fSub (mN fInt (aCons (mOp2 fEq (mOp2 fIx (mV 5) (mC (.int 0))) (mC (.str "begin"))) aNil)) (mN fInt (aCons (mOp2 fEq (mOp2 fIx (mV 5) (mC (.int 0))) (mC (.str "done"))) aNil)))) (sSeq (sIf (tBl (mOp2 cLt (mV 3) (mC (.int 0)))) (sSeq sNever sNil) sNil) sNil)))) (sSeq (sExpr (mMeth [("Plan", m_Plan_keep)] "keep" (mV 0) (aCons (mV 1) (aCons (mV 2) aNil)))) sNil)))))
noncomputable def m_Plan___init__ : Fn := mDefK 3 6 b_Plan___init__
/-- check_state(thing): slots 0=thing -/
noncomputable def b_check_state : Ms :=
  (sSeq (sIf (tNotM (tOf (mN m_is_state (aCons (mV 0) aNil)))) (sSeq sNever sNil) sNil) sNil)
noncomputable def m_check_state : Fn := mDef 1 1 b_check_state
/-- Disk___init__(self, state): slots 0=self 1=state -/
noncomputable def b_Disk___init__ : Ms :=
  (sSeq (sExpr (mN m_check_state (aCons (mV 1) aNil))) (sSeq (sFldM ["Disk"] "kept" (mV 0) (mNew (lN lList (aCons (mV 1) aNil)))) (sSeq (sFldM ["Disk"] "writes" (mV 0) mDNew) (sSeq (sFldM ["Disk"] "watcher" (mV 0) (mC .non)) sNil))))
noncomputable def m_Disk___init__ : Fn := mDefK 2 2 b_Disk___init__
/-- disk_of(plan, moment): slots 0=plan 1=moment 2=disk 3=step -/
noncomputable def b_disk_of : Ms :=
  (sSeq (sSet 2 (mMake "Disk" m_Disk___init__ (aCons (mFld ["Plan"] "kept_state" (mV 0)) aNil))) (sSeq (sFor (.nm 3) (iSeq (mSl (mFld ["Plan"] "kept_steps" (mV 0)) oNone (oSome (mV 1)))) (sSeq (sExpr (mN m_do_step (aCons (mV 2) (aCons (mV 3) aNil)))) sNil)) (sSeq (sRet (mV 2)) sNil)))
noncomputable def m_disk_of : Fn := mDefK 2 4 b_disk_of
/-- disk_at(plan, moment): slots 0=plan 1=moment -/
noncomputable def b_disk_at : Ms :=
  (sSeq (sExpr (mN m_check_moment (aCons (mV 0) (aCons (mV 1) aNil)))) (sSeq (sRet (mN m_disk_of (aCons (mV 0) (aCons (mV 1) aNil)))) sNil))
noncomputable def m_disk_at : Fn := mDefK 2 2 b_disk_at
/-- lots_at(plan, moment, tears): slots 0=plan 1=moment 2=tears -/
noncomputable def b_lots_at : Ms :=
  (sSeq (sExpr (mN m_check_moment (aCons (mV 0) (aCons (mV 1) aNil)))) (sSeq (sExpr (mN m_check_flag (aCons (mV 2) aNil))) (sSeq (sRet (mMeth [("Disk", m_Disk_lots)] "lots" (mN m_disk_of (aCons (mV 0) (aCons (mV 1) aNil))) (aCons (mV 2) aNil))) sNil)))
noncomputable def m_lots_at : Fn := mDef 3 3 b_lots_at
/-- law(script): slots 0=script 1=hand 2=turn 3=sectors 4=pool 5=state 6=steps 7=plan 8=moment 9=settled 10=waiting 11=now 12=sector 13=value 14=disk 15=tears 16=due 17=k -/
noncomputable def b_law : Ms :=
  (sSeq (sSet 1 (mNew (lN m__law_hand (aCons (mV 0) aNil)))) (sSeq (sFor (.nm 2) (iRange1 (aCons (mC (.int 2)) aNil)) (sSeq (sSet 3 (mOp2 fAdd (mC (.int 1)) (mN m__law_draw (aCons (mV 1) (aCons (mC (.int 4)) aNil))))) (sSeq (sSet 4 (mL (lN m__law_pool (aCons (mV 1) aNil)))) (sSeq (sSet 5 (mN fTuple (aCons (mL (lComp (.nm 17) [17] (iRange1 (aCons (mV 3) aNil)) tYesM (mN m__law_any (aCons (mV 1) (aCons (mV 4) aNil))))) aNil))) (sSeq (sSet 6 (mN m__law_steps (aCons (mV 1) (aCons (mV 4) (aCons (mV 3) (aCons (mN m__law_draw (aCons (mV 1) (aCons (mC (.int 15)) aNil))) aNil)))))) (sSeq (sSet 7 (mMake "Plan" m_Plan___init__ (aCons (mV 5) (aCons (mV 6) aNil)))) (sSeq (sFor (.nm 8) (iRange1 (aCons (mOp2 fAdd (mN fLen (aCons (mV 6) aNil)) (mC (.int 1))) aNil)) (sSeq (sAsg (.tp [(.nm 9), (.nm 10)]) (mN m__law_behind (aCons (mV 5) (aCons (mSl (mV 6) oNone (oSome (mV 8))) aNil)))) (sSeq (sSet 11 (mNew (lN lList (aCons (mV 9) aNil)))) (sSeq (sFor (.tp [(.nm 12), (.nm 13)]) (iSeq (mV 10)) (sSeq (sSub (mV 11) (mV 12) (mV 13)) sNil)) (sSeq (sSet 14 (mN m_disk_at (aCons (mV 7) (aCons (mV 8) aNil)))) (sSeq (sIf (tOrM (tBl (mOp2 fNe (mMeth [("Disk", m_Disk_settled)] "settled" (mV 14) aNil) (mV 9))) (tBl (mOp2 fNe (mMeth [("Disk", m_Disk_now)] "now" (mV 14) aNil) (mN fTuple (aCons (mV 11) aNil))))) (sSeq (sRet (mC (.bl false))) sNil) sNil) (sSeq (sIf (tBl (mOp2 fNe (mMeth [("Disk", m_Disk_waiting)] "waiting" (mV 14) aNil) (mN fTuple (aCons (mL (lN fSortSet (aCons (mL (lComp (.tp [(.nm 12), (.nm 13)]) [12, 13] (iSeq (mV 10)) tYesM (mV 12))) aNil))) aNil)))) (sSeq (sRet (mC (.bl false))) sNil) sNil) (sSeq (sFor (.nm 15) (iSeq (mL (lLst (aCons (mC (.bl false)) (aCons (mC (.bl true)) aNil))))) (sSeq (sSet 16 (mN m__law_lots (aCons (mV 9) (aCons (mV 10) (aCons (mV 15) aNil))))) (sSeq (sIf (tOrM (tBl (mOp2 fNe (mN m_lots_at (aCons (mV 7) (aCons (mV 8) (aCons (mV 15) aNil)))) (mV 16))) (tBl (mOp2 fNe (mMeth [("Disk", m_Disk_lots)] "lots" (mV 14) (aCons (mV 15) aNil)) (mV 16)))) (sSeq (sRet (mC (.bl false))) sNil) sNil) sNil))) (sSeq (sIf (tBl (mOp2 fNe (mN m_bounds_at (aCons (mV 7) (aCons (mV 8) aNil))) (mN m__law_bounds (aCons (mSl (mV 6) oNone (oSome (mV 8))) aNil)))) (sSeq (sRet (mC (.bl false))) sNil) sNil) (sSeq (sExpr (mMeth [("Disk", m_Disk_write)] "write" (mV 14) (aCons (mC (.int 0)) (aCons (mN fTup (aCons (mC (.int 8)) aNil)) aNil)))) (sSeq (sExpr (mMeth [("Disk", m_Disk_barrier)] "barrier" (mV 14) aNil)) (sSeq (sIf (tBl (mOp2 fNe (mMeth [("Disk", m_Disk_settled)] "settled" (mN m_disk_at (aCons (mV 7) (aCons (mV 8) aNil))) aNil) (mV 9))) (sSeq (sRet (mC (.bl false))) sNil) sNil) sNil)))))))))))) sNil))))))) (sSeq (sRet (mC (.bl true))) sNil)))
noncomputable def m_law : Fn := mDef 1 18 b_law
end My
namespace My
open PySem AB L2
def hand (cs : List Int) (a b s t : Int) : AO := .lst [.lst (cs.map .int), .int a, .int b, .int s, .int t]
def IsP (cs : List Int) (o : AO) : Prop := ∃ a b s t, o = hand cs a b s t ∧ 0 ≤ a ∧ a ≤ cs.length ∧ 0 ≤ b
theorem mod_lo (k : Int) (hk : 0 < k) (x : Int) : -1152921504606846976 ≤ x % k := by
  have := Int.emod_nonneg x (show k ≠ 0 by omega)
  omega
theorem mod_hi (k : Int) (hk : 0 < k) (hk2 : k ≤ 2147483647) (x : Int) : x % k ≤ 1152921504606846976 := by
  have := Int.emod_lt_of_pos x hk
  omega
theorem draw_ok {cs : List Int} (hc : ∀ c ∈ cs, 0 ≤ c) {P : AO} (hP : IsP cs P) {many : Int} (h1 : 1 ≤ many) (h2 : many ≤ 1000000001) (tl : AH) :
    ∃ r P', m__law_draw [.loc 0, .int many] (P :: tl) = .ok (.int r) (P' :: tl) ∧ IsP cs P' ∧ 0 ≤ r ∧ r < many := by
  have hm : 0 < many := by omega
  have hm60 : many ≤ 1152921504606846976 := by omega
  have mm : ∀ x : Int, 0 ≤ x % many ∧ x % many < many := fun x => ⟨Int.emod_nonneg x (by omega), Int.emod_lt_of_pos x hm⟩
  have l1 := mod_lo 2147483647 (by decide)
  have l2 := mod_lo 2147483399 (by decide)
  have u1 := mod_hi 2147483647 (by decide) (by decide)
  have u2 := mod_hi 2147483399 (by decide) (by decide)
  obtain ⟨a, b, s, t, rfl, ha, ha2, hb⟩ := hP
  by_cases c1 : b = 0 ∧ a < cs.length
  · obtain ⟨rfl, c1⟩ := c1
    obtain ⟨c, hcx, hcm⟩ := atI_some ha c1
    have hc0 := hc c hcm
    by_cases c2 : 1000000000000000000 ≤ c
    · have c3 : 0 < c := by omega
      simp [m__law_draw, mDef, b__law_draw, hand, ixN, c1, atI_map, hcx, c2, c3, hm, hm60, finD]
      exact ⟨_, _, ⟨rfl, rfl⟩, ⟨_, _, _, _, rfl, by omega, by omega, Int.ediv_nonneg hc0 (by omega)⟩, mm _⟩
    · simp [m__law_draw, mDef, b__law_draw, hand, ixN, c1, atI_map, hcx, c2, hm, hm60, finD, l1, l2, u1, u2]
      exact ⟨_, _, ⟨rfl, rfl⟩, ⟨_, _, _, _, rfl, by omega, by omega, by omega⟩, mm _⟩
  · by_cases c2 : 0 < b
    · have c3 : ¬ b = 0 := by omega
      simp [m__law_draw, mDef, b__law_draw, hand, ixN, c3, c2, hm, hm60, finD]
      exact ⟨_, _, ⟨rfl, rfl⟩, ⟨_, _, _, _, rfl, by omega, by omega, Int.ediv_nonneg hb (by omega)⟩, mm _⟩
    · have c3 : b = 0 := by omega
      subst c3
      have c4 : ¬ a < cs.length := fun z => c1 ⟨rfl, z⟩
      simp [m__law_draw, mDef, b__law_draw, hand, ixN, c4, hm, hm60, finD, l1, l2, u1, u2]
      exact ⟨_, _, ⟨rfl, rfl⟩, ⟨_, _, _, _, rfl, by omega, by omega, by omega⟩, mm _⟩
def absI (i : Int) : Int := if i < 0 then -i else i
theorem absI_nn (i : Int) : 0 ≤ absI i := by
  unfold absI
  split <;> omega
theorem hand_ok (ns : List Int) (hl : ns.length ≤ 63) : ∃ cs : List Int, (∀ c ∈ cs, 0 ≤ c) ∧ ∃ s, m__law_hand [.rol (ns.map .int)] [] = .ok [.lst (cs.map .int), .int 0, .int 0, .int s, .int 0] [] := by
  refine ⟨ns.map absI, fun c hc => ?_, 1 + ns.length, ?_⟩
  · obtain ⟨i, _, rfl⟩ := List.mem_map.mp hc
    exact absI_nn i
  have hc : ∀ (all0 : List D) (b : Option D), compGo (.nm 2) tYesM (mN fAbs (aCons (mN fInt (aCons (mV 2) aNil)) aNil)) none all0 [some (.rol (ns.map .int)), b, none] (ns.map .int) [] = .ok (ns.map fun i => .int (absI i)) [] := by
    intro all0 b
    exact comp_all _ _ _ fun i hi => ⟨[some (.rol (ns.map .int)), b, some (.int i)], rfl, by simp [absI]⟩
  have e1 : cutD (ns.map D.int) none (some 63) = ns.map .int := by
    have := cut_to D.int ns 63
    rw [List.take_of_length_le hl] at this
    exact this
  have l1 : ns.length ≤ big := by rw [big_eq]; omega
  have l2 : (5 : Nat) ≤ big := by decide
  have e2 : underL 0 [D.lst (ns.map fun i => D.int (absI i)), D.int 0, D.int 0, D.int (1 + ns.length), D.int 0] = true := by
    simp [underL, D.under, under_intF]
  have e3 := finL_new [] [D.lst (ns.map fun i => D.int (absI i)), D.int 0, D.int 0, D.int (1 + ns.length), D.int 0] e2
  have e4 : (ns.map absI).map D.int = ns.map fun i => D.int (absI i) := by rw [List.map_map]; rfl
  rw [e4]
  simp [m__law_hand, mDefL, b__law_hand, wipeG, e1, hc, l1, l2]
  simpa using e3
theorem any_ok {cs : List Int} (hc : ∀ c ∈ cs, 0 ≤ c) {P : AO} (hP : IsP cs P) (ds : List D) (h1 : 1 ≤ ds.length) (h2 : ds.length ≤ 1000000) (tl : AH) :
    ∃ x P', m__law_any [.loc 0, .lst ds] (P :: tl) = .ok x (P' :: tl) ∧ IsP cs P' ∧ x ∈ ds := by
  obtain ⟨r, P', e, hP', r0, r1⟩ := draw_ok hc hP (many := ds.length) (by omega) (by omega) tl
  obtain ⟨x, hx, hm⟩ := atI_some r0 r1
  refine ⟨x, P', ?_, hP', hm⟩
  have fin : ∀ x : D, finD (tl.length + 1) (P :: tl) x (P' :: tl) = .ok x (P' :: tl) := fun x => by
    unfold finD
    rw [if_pos (by simp)]
  simp [m__law_any, mDef, b__law_any, e, hx, fin]
end My
namespace My
open PySem AB L2
/-- a value, or what is held: none for a torn one -/
abbrev Val := List Int
def vD (v : Val) : D := .tup (v.map .int)
def hvD : Option Val → D
  | none => .non
  | some v => vD v
structure VOk (v : Val) : Prop where
  bd : ∀ k ∈ v, 0 ≤ k ∧ k ≤ 1000000000000
  len : v.length ≤ 32
theorem ints_of (zs : List (Nat × D)) (h : ∀ z ∈ zs, ∃ k : Int, z.2 = .int k ∧ 0 ≤ k ∧ k < 3) : ∃ v : Val, zs.map (·.2) = v.map D.int ∧ (∀ k ∈ v, 0 ≤ k ∧ k < 3) ∧ v.length = zs.length := by
  induction zs with
  | nil => exact ⟨[], rfl, by simp, rfl⟩
  | cons z zs ih =>
    obtain ⟨v, e, hv, hl⟩ := ih fun y hy => h y (List.mem_cons_of_mem _ hy)
    obtain ⟨k, ek, k0, k1⟩ := h z List.mem_cons_self
    refine ⟨k :: v, by simp [ek, e], fun j hj => ?_, by simp [hl]⟩
    rcases List.mem_cons.mp hj with rfl | hj
    · exact ⟨k0, k1⟩
    · exact hv j hj
theorem value_ok {cs : List Int} (hc : ∀ c ∈ cs, 0 ≤ c) {P : AO} (hP : IsP cs P) (tl : AH) :
    ∃ v P', m__law_value [.loc 0] (P :: tl) = .ok (vD v) (P' :: tl) ∧ IsP cs P' ∧ VOk v := by
  obtain ⟨r, P1, e1, hP1, r0, r1⟩ := draw_ok hc hP (many := 4) (by omega) (by omega) tl
  obtain ⟨n, hn, hn2⟩ : ∃ n : Nat, atI [D.int 1, D.int 1, D.int 2, D.int 0] r = some (.int n) ∧ n ≤ 2 := by
    have : r = 0 ∨ r = 1 ∨ r = 2 ∨ r = 3 := by omega
    rcases this with rfl | rfl | rfl | rfl
    · exact ⟨1, rfl, by omega⟩
    · exact ⟨1, rfl, by omega⟩
    · exact ⟨2, rfl, by omega⟩
    · exact ⟨0, rfl, by omega⟩
  obtain ⟨zs, h', e2, ⟨P2, hP2, rfl⟩, e3, hz⟩ := comp_gen (p := .nm 1) (e := mN m__law_draw (aCons (mV 0) (aCons (mC (.int 3)) aNil))) (all0 := (List.range n).map fun i : Nat => D.int (i : Int)) (G0 := [some (.loc 0), none]) (I := fun h => ∃ P', IsP cs P' ∧ h = P' :: tl)
    (R := fun (_ : Nat) d => ∃ k : Int, d = .int k ∧ 0 ≤ k ∧ k < 3) (fun i : Nat => D.int (i : Int)) (List.range n)
    (by
      rintro i hi h ⟨P', hP', rfl⟩
      obtain ⟨k, P2, e, hP2, k0, k1⟩ := draw_ok hc hP' (many := 3) (by omega) (by omega) tl
      exact ⟨[some (.loc 0), some (.int i)], .int k, P2 :: tl, rfl, by simp [e], ⟨P2, hP2, rfl⟩, k, rfl, k0, k1⟩)
    (P1 :: tl) ⟨P1, hP1, rfl⟩
  obtain ⟨v, ev, hv, hl⟩ := ints_of zs hz
  have lz : zs.length = n := by
    have := congrArg List.length e3
    simpa using this
  have er : rangeD 0 n = (List.range n).map fun i : Nat => D.int (i : Int) := rangeD_eq n
  have c1 : okR (n : Int) := ⟨by omega, by omega⟩
  have c4 : n ≤ big := by rw [big_eq]; omega
  have b4 : (4 : Nat) ≤ big := by decide
  have fin : ∀ x : D, finD (tl.length + 1) (P :: tl) x (P2 :: tl) = .ok x (P2 :: tl) := fun x => by
    unfold finD
    rw [if_pos (by simp)]
  rw [ev] at e2
  refine ⟨v, P2, ?_, hP2, ⟨fun k hk => by have := hv k hk; omega, by omega⟩⟩
  simp [m__law_value, mDef, b__law_value, e1, hn, c1, er, c4, b4, wipeG, e2, fin, vD]
end My
namespace My
open PySem AB L2
/-! values as data -/
def vP (v : Val) : PyData := .tuple (v.map .int)
def hvP : Option Val → PyData
  | none => .none
  | some v => vP v
theorem toP_v (v : Val) : toP (vD v) = some (vP v) := by
  show (toPs (v.map D.int)).map PyData.tuple = _
  rw [toPs_ints]
  rfl
theorem toP_hv (o : Option Val) : toP (hvD o) = some (hvP o) := by
  cases o with
  | none => rfl
  | some v => exact toP_v v
theorem lay_v (v : Val) : PyData.canLay0 (vP v) = true := by simp [vP, PyData.canLay0, lay_ints]
theorem dep_v (v : Val) : PyData.depth (vP v) = 1 := by simp [vP, PyData.depth, dep_ints]
theorem eqv_ints : ∀ a b : List Int, PyData.eqvAll (a.map PyData.int) (b.map PyData.int) = decide (a = b)
  | [], [] => by simp [PyData.eqvAll]
  | [], y :: b => by simp [PyData.eqvAll]
  | x :: a, [] => by simp [PyData.eqvAll]
  | x :: a, y :: b => by
    simp only [List.map_cons, PyData.eqvAll, PyData.eqv, eqv_ints a b]
    by_cases h : x = y
    · subst h
      simp
    · simp [h]
theorem eqv_v (a b : Val) : PyData.eqv (vP a) (vP b) = decide (a = b) := by
  simp only [vP, PyData.eqv]
  exact eqv_ints a b
theorem eqv_hv (a b : Option Val) : PyData.eqv (hvP a) (hvP b) = decide (a = b) := by
  cases a with
  | none =>
    cases b with
    | none => simp [hvP, PyData.eqv]
    | some b => simp [hvP, vP, PyData.eqv]
  | some a =>
    cases b with
    | none => simp [hvP, vP, PyData.eqv]
    | some b =>
      show PyData.eqv (vP a) (vP b) = _
      rw [eqv_v]
      simp
theorem lay_hv (o : Option Val) : PyData.canLay0 (hvP o) = true := by
  cases o with
  | none => simp [hvP, PyData.canLay0]
  | some v => exact lay_v v
theorem dep_hv (o : Option Val) : PyData.depth (hvP o) ≤ 1 := by
  cases o with
  | none => simp [hvP, PyData.depth]
  | some v => exact Nat.le_of_eq (dep_v v)
theorem toPs_hv : ∀ os : List (Option Val), toPs (os.map hvD) = some (os.map hvP)
  | [] => rfl
  | o :: os => by
    show (match toP (hvD o), toPs (os.map hvD) with | some p, some ps => some (p :: ps) | _, _ => none) = _
    rw [toP_hv, toPs_hv os]
    rfl
theorem lay_hvs : ∀ os : List (Option Val), PyData.canLayAll0 (os.map hvP) = true
  | [] => by simp [PyData.canLayAll0]
  | o :: os => by simp [PyData.canLayAll0, lay_hv o, lay_hvs os]
theorem dep_hvs : ∀ os : List (Option Val), PyData.depthAll (os.map hvP) ≤ 2
  | [] => by simp [PyData.depthAll]
  | o :: os => by
    have h1 := dep_hv o
    have h2 := dep_hvs os
    simp only [List.map_cons, PyData.depthAll]
    omega
theorem any_hv (o : Option Val) (os : List (Option Val)) : ((os.map hvP).any fun z => PyData.eqv z (hvP o)) = decide (o ∈ os) := by
  induction os with
  | nil => rfl
  | cons x os ih =>
    rw [List.map_cons, List.any_cons, ih, eqv_hv]
    by_cases h : x = o
    · subst h
      simp
    · have h2 : ¬ o = x := fun e => h e.symm
      simp [h, h2]
theorem okP_hv {h : AH} (o : Option Val) : okP h (hvD o) = some (hvP o) := by
  unfold okP
  have e : toPh h (hvD o) = some (hvP o) := by
    have := toP_hv o
    cases o <;> exact this
  rw [e]
  have : SeqAt.shaped (hvP o) = true := by
    have := dep_hv o
    simp [SeqAt.shaped, lay_hv]
    omega
  simp [this]
theorem shaped_hvs (os : List (Option Val)) : SeqAt.shaped (.list (os.map hvP)) = true := by
  have := dep_hvs os
  simp [SeqAt.shaped, PyData.canLay0, PyData.depth, lay_hvs]
  omega
theorem okP_hvO {h : AH} {n : Nat} {os : List (Option Val)} (hn : h[n]? = some (.lst (os.map hvD))) : okP h (.loc n) = some (.list (os.map hvP)) := by
  unfold okP
  have e : toPh h (.loc n) = some (.list (os.map hvP)) := by
    show (match h[n]? with | some (.lst ds) => (toPs ds).map PyData.list | _ => none) = _
    rw [hn]
    show (toPs (os.map hvD)).map PyData.list = _
    rw [toPs_hv]
    rfl
  rw [e]
  simp [shaped_hvs]
theorem notin_hvO {h : AH} {n : Nat} {os : List (Option Val)} (hn : h[n]? = some (.lst (os.map hvD))) (o : Option Val) : fNotIn (hvD o) (.loc n) h = .ok (.bl (!decide (o ∈ os))) h := by
  unfold fNotIn inD
  rw [okP_hv, okP_hvO hn]
  simp only [any_hv]
theorem eq_hv {h : AH} (a b : Option Val) : fEq (hvD a) (hvD b) h = .ok (.bl (decide (a = b))) h := by
  unfold fEq
  rw [okP_hv, okP_hv]
  simp only [eqv_hv]
end My
namespace My
open PySem AB L2
theorem under_P {cs : List Int} {P : AO} (h : IsP cs P) (n : Nat) : P.under n = true := by
  obtain ⟨a, b, s, t, rfl, _⟩ := h
  simp [hand, AO.under, underL, D.under, under_ints]
theorem under_vs (n : Nat) (L : List Val) : underL n (L.map vD) = true := by
  induction L with
  | nil => simp [underL]
  | cons v L ih => simp [underL, ih, vD, D.under, under_ints]
/-- the objects of a def are forgotten: the hand has gone on -/
theorem okCells_hand {cs : List Int} {P P2 : AO} (hP2 : IsP cs P2) (tl t : AH) : OkCells (tl.length + 1) (P :: tl) (P2 :: (tl ++ t)) := by
  intro m o hm e
  cases m with
  | zero =>
    simp at e
    subst e
    exact .inr (under_P hP2 _)
  | succ m =>
    refine .inl ?_
    have hm : m < tl.length := by omega
    rw [List.getElem?_cons_succ] at e ⊢
    rwa [List.getElem?_append_left hm] at e
theorem finD_hand {cs : List Int} {P P2 : AO} (hP2 : IsP cs P2) (tl t : AH) (d : D) (hd : d.under (tl.length + 1) = true) : finD (tl.length + 1) (P :: tl) d (P2 :: (tl ++ t)) = .ok d (P2 :: tl) := by
  unfold finD
  by_cases q : (P2 :: (tl ++ t)).length = tl.length + 1
  · have : t = [] := by
      simp at q
      exact q
    subst this
    simp
  · rw [if_neg q, if_pos ⟨hd, okCells_hand hP2 tl t⟩]
    simp
theorem finL_hand {cs : List Int} {P P2 : AO} (hP2 : IsP cs P2) (tl : AH) (ds : List D) (hd : underL (tl.length + 1) ds = true) : finL (tl.length + 1) (P :: tl) (.loc (tl.length + 1)) (P2 :: (tl ++ [.lst ds])) = .ok ds (P2 :: tl) := by
  unfold finL
  have e : (P2 :: (tl ++ [AO.lst ds]))[tl.length + 1]? = some (.lst ds) := by simp
  simp only [e]
  rw [if_pos ⟨Nat.le_refl _, hd, okCells_hand hP2 tl _⟩]
  simp
theorem vD_hv (v : Val) : vD v = hvD (some v) := rfl
theorem pool_ok {cs : List Int} (hc : ∀ c ∈ cs, 0 ≤ c) {P : AO} (hP : IsP cs P) (tl : AH) :
    ∃ (L : List Val) (P' : AO), m__law_pool [.loc 0] (P :: tl) = .ok (L.map vD) (P' :: tl) ∧ IsP cs P' ∧ (∀ v ∈ L, VOk v) ∧ L.Nodup ∧ 1 ≤ L.length ∧ L.length ≤ 3 := by
  have hget : ∀ (P : AO) (o : AO), (P :: (tl ++ [o]))[tl.length + 1]? = some o := fun P o => by simp
  have hset : ∀ (P : AO) (o o' : AO), (P :: (tl ++ [o])).set (tl.length + 1) o' = P :: (tl ++ [o']) := fun P o o' => by simp
  obtain ⟨G', h', e1, k2, k3, P', L, rfl, rfl, hP', hL, hnd, hl1, hl3⟩ := for_invN (p := .nm 2) (body := (sSeq (sSet 3 (mN m__law_value (aCons (mV 0) aNil))) (sSeq (sIf (tBl (mOp2 fNotIn (mV 3) (mV 1))) (sSeq (sExpr (mBM fApp (mV 1) (aCons (mV 3) aNil))) sNil) sNil) sNil))) (all0 := (List.range' 0 3).map fun i : Nat => D.int (i : Int))
    (fun j G h => ∃ k2 k3 P L, G = [some (.loc 0), some (.loc (tl.length + 1)), k2, k3] ∧ h = P :: (tl ++ [.lst ((L : List Val).map vD)]) ∧ IsP cs P ∧ (∀ v ∈ L, VOk v) ∧ L.Nodup ∧ (1 ≤ j → 1 ≤ L.length) ∧ L.length ≤ j)
    (fun i : Nat => D.int (i : Int)) 3 0 3 rfl
    (by
      rintro i hi G h ⟨k2, k3, P, L, rfl, rfl, hP, hL, hnd, hl1, hl3⟩
      obtain ⟨v, P1, ev, hP1, hv⟩ := value_ok hc hP (tl ++ [.lst (L.map vD)])
      have en := notin_hvO (h := P1 :: (tl ++ [.lst (L.map vD)])) (n := tl.length + 1) (os := L.map some) (by rw [List.map_map]; exact hget _ _) (some v)
      have em : decide (some v ∈ L.map some) = decide (v ∈ L) := by simp
      rw [em] at en
      have en : fNotIn (vD v) (.loc (tl.length + 1)) (P1 :: (tl ++ [.lst (L.map vD)])) = .ok (.bl (!decide (v ∈ L))) (P1 :: (tl ++ [.lst (L.map vD)])) := en
      have lb : L.length < big := by rw [big_eq]; omega
      by_cases q : v ∈ L
      · refine ⟨_, [some (.loc 0), some (.loc (tl.length + 1)), some (.int i), some (vD v)], P1 :: (tl ++ [.lst (L.map vD)]), rfl, ?_, _, _, P1, L, rfl, rfl, hP1, hL, hnd, fun _ => List.length_pos_of_mem q, by omega⟩
        simp [ev, en, q]
      · refine ⟨_, [some (.loc 0), some (.loc (tl.length + 1)), some (.int i), some (vD v)], P1 :: (tl ++ [.lst ((L ++ [v]).map vD)]), rfl, ?_, _, _, P1, L ++ [v], rfl, rfl, hP1, ?_, ?_, fun _ => by simp, by simp; omega⟩
        · simp [ev, en, q, hget, hset, lb]
        · intro u hu
          rcases List.mem_append.mp hu with hu | hu
          · exact hL u hu
          · rw [List.mem_singleton.mp hu]
            exact hv
        · rw [List.nodup_append]
          refine ⟨hnd, by simp, ?_⟩
          intro a ha b hb
          rw [List.mem_singleton.mp hb]
          intro z
          subst z
          exact q ha)
    [some (.loc 0), some (.loc (tl.length + 1)), none, none] (P :: (tl ++ [.lst []])) ⟨none, none, P, [], rfl, rfl, hP, by simp, by simp, by omega, by simp⟩
  refine ⟨L, P', ?_, hP', hL, hnd, hl1 (by omega), hl3⟩
  have er : rangeD 0 3 = (List.range' 0 3).map fun i : Nat => D.int (i : Int) := rangeD_eq 3
  have c1 : okR (3 : Int) := ⟨by decide, by decide⟩
  have b0 : (0 : Nat) ≤ big := by decide
  have fin := finL_hand hP' tl (L.map vD) (under_vs _ L) (P := P)
  simp [m__law_pool, mDefL, b__law_pool, c1, er, b0, e1, fin]
end My
namespace My
open PySem AB L2
@[simp] theorem is_integer_ok {h : AH} (i : Int) : m_is_integer [.int i] h = .ok (.bl true) h := by
  simp [m_is_integer, mDef, b_is_integer, Ty.sub]
@[simp] theorem is_between_ok {h : AH} (i a b : Int) : m_is_between [.int i, .int a, .int b] h = .ok (.bl (decide (a ≤ i) && decide (i ≤ b))) h := by
  by_cases c : a ≤ i
  · simp [m_is_between, mDef, b_is_between, c]
  · simp [m_is_between, mDef, b_is_between, c]
theorem is_value_ok {h : AH} {v : Val} (w : VOk v) : m_is_value [vD v] h = .ok (.bl true) h := by
  have h1 : ∀ (all0 : List D), compGo (.nm 1) tYesM (mN m_is_between (aCons (mV 1) (aCons (mC (.int 0)) (aCons (mC (.int 1000000000000)) aNil)))) none all0 [some (vD v), none] (v.map .int) h = .ok (v.map fun _ => .bl true) h :=
    fun all0 => comp_all _ _ _ fun k hk => ⟨[some (vD v), some (.int k)], rfl, by simp [w.bd k hk]⟩
  have l1 : v.length ≤ big := by rw [big_eq]; have := w.len; omega
  have l2 : ¬ (32 : Int) < v.length := by have := w.len; omega
  have e : vD v = .tup (v.map .int) := rfl
  rw [e] at h1 ⊢
  simp [m_is_value, mDef, b_is_value, wipeG, Ty.sub, l1, l2, h1]
/-- what is held is right -/
def HOkV : Option Val → Prop
  | none => True
  | some v => VOk v
theorem is_held_ok {h : AH} {o : Option Val} (w : HOkV o) : m_is_held [hvD o] h = .ok (.bl true) h := by
  cases o with
  | none => simp [m_is_held, mDef, b_is_held, hvD, fIsN]
  | some v =>
    have := is_value_ok (h := h) (v := v) w
    have e : hvD (some v) = .tup (v.map .int) := rfl
    have e2 : vD v = .tup (v.map .int) := rfl
    rw [e2] at this
    rw [e]
    simp [m_is_held, mDef, b_is_held, fIsN, this]
theorem is_state_ok {h : AH} {st : List (Option Val)} (h1 : 1 ≤ st.length) (h2 : st.length ≤ 64) (w : ∀ o ∈ st, HOkV o) : m_is_state [.tup (st.map hvD)] h = .ok (.bl true) h := by
  have hc : ∀ (all0 : List D), compGo (.nm 1) tYesM (mN m_is_held (aCons (mV 1) aNil)) none all0 [some (.tup (st.map hvD)), none] (st.map hvD) h = .ok (st.map fun _ => .bl true) h :=
    fun all0 => comp_all _ _ _ fun o ho => ⟨[some (.tup (st.map hvD)), some (hvD o)], rfl, by simp [is_held_ok (w o ho)]⟩
  have l1 : st.length ≤ big := by rw [big_eq]; omega
  have l2 : (1 : Int) ≤ st.length := by omega
  have l3 : (st.length : Int) ≤ 64 := by omega
  simp [m_is_state, mDef, b_is_state, wipeG, Ty.sub, l1, l2, l3, hc]
theorem check_state_ok {h : AH} {st : List (Option Val)} (h1 : 1 ≤ st.length) (h2 : st.length ≤ 64) (w : ∀ o ∈ st, HOkV o) : m_check_state [.tup (st.map hvD)] h = .ok .non h := by
  simp [m_check_state, mDef, b_check_state, is_state_ok h1 h2 w]
end My
namespace My
open PySem AB L2
theorem alike_ints : ∀ a b : List Int, PySem.W.alikeAll (a.map PyData.int) (b.map PyData.int) = true
  | [], _ => by simp [PySem.W.alikeAll]
  | _ :: _, [] => by simp [PySem.W.alikeAll]
  | x :: a, y :: b => by simp [PySem.W.alikeAll, PySem.W.alike, alike_ints a b]
theorem alike_v (u v : Val) : PySem.W.alike (vP u) (vP v) = true := by
  simp [vP, PySem.W.alike, alike_ints]
theorem under_hv (n : Nat) (o : Option Val) : (hvD o).under n = true := by
  cases o <;> simp [hvD, vD, D.under, under_ints]
theorem toP_tup {ds : List D} {ps : List PyData} (h : toPs ds = some ps) : toP (.tup ds) = some (.tuple ps) := by
  show (toPs ds).map PyData.tuple = _
  rw [h]
  rfl
theorem toPs_cons {d : D} {ds : List D} {p : PyData} {ps : List PyData} (h1 : toP d = some p) (h2 : toPs ds = some ps) : toPs (d :: ds) = some (p :: ps) := by
  show (match toP d, toPs ds with | some p, some ps => some (p :: ps) | _, _ => none) = _
  rw [h1, h2]
theorem okP_hvT {h : AH} (os : List (Option Val)) : okP h (.tup (os.map hvD)) = some (.tuple (os.map hvP)) := by
  unfold okP
  have e : toPh h (.tup (os.map hvD)) = some (.tuple (os.map hvP)) := toP_tup (toPs_hv os)
  rw [e]
  have := dep_hvs os
  have e3 : SeqAt.shaped (.tuple (os.map hvP)) = true := by
    simp [SeqAt.shaped, PyData.canLay0, PyData.depth, lay_hvs]
    omega
  simp [e3]
theorem ne_hvT {h : AH} (os : List (Option Val)) : fNe (.tup (os.map hvD)) (.tup (os.map hvD)) h = .ok (.bl false) h := by
  unfold fNe
  rw [okP_hvT]
  have := PySem.SeqAt.eqv_refl (.tuple (os.map hvP)) (by simp [PyData.canLay0, lay_hvs])
  simp [this]
@[simp] theorem is_index_ok {h : AH} (i n : Int) : m_is_index [.int i, .int n] h = .ok (.bl (decide (0 ≤ i) && decide (i ≤ n - 1))) h := by
  simp [m_is_index, mDef, b_is_index]
theorem lt_v (u v : Val) : PySem.W.dataLt (vP u) (vP v) = decide (u < v) := (PySem.W.dataLt_tuple _ _).trans (PySem.W.dataLt_ints u v)
theorem leP_v (u v : Val) : leP (vP u) (vP v) = decide (u ≤ v) := by
  unfold leP
  rw [lt_v]
  have : (u ≤ v) ↔ ¬ v < u := by
    rw [List.not_lt]
  by_cases q : v < u
  · simp [q, this]
  · simp [q, this]
theorem toPs_vs : ∀ L : List Val, toPs (L.map vD) = some (L.map vP)
  | [] => rfl
  | v :: L => by
    show (match toP (vD v), toPs (L.map vD) with | some p, some ps => some (p :: ps) | _, _ => none) = _
    rw [toP_v, toPs_vs L]
    rfl
def vle (u v : Val) : Bool := decide (u ≤ v)
theorem sortD_v (L : List Val) : sortD (L.map vD) (L.map vP) = (L.mergeSort vle).map vD := by
  unfold sortD
  have e : (L.map vD).zip (L.map vP) = L.map fun v => (vD v, vP v) := by
    rw [List.zip_map']
  rw [e]
  have e2 := (List.map_mergeSort (r := vle) (s := fun a b : D × PyData => leP a.2 b.2) (f := fun v => (vD v, vP v)) (l := L) (by
    intro a _ b _
    show vle a b = leP (vP a) (vP b)
    rw [leP_v]
    rfl)).symm
  rw [e2, List.map_map]
  rfl
theorem sortB_v (L : List Val) (hl : L.length ≤ 1000) : sortB (L.map vP) = true := by
  unfold sortB
  have h1 : alikeB (L.map vP) = true := by
    unfold alikeB
    rw [List.all_eq_true]
    intro a ha
    rw [List.all_eq_true]
    intro b hb
    obtain ⟨u, _, rfl⟩ := List.mem_map.mp ha
    obtain ⟨v, _, rfl⟩ := List.mem_map.mp hb
    exact alike_v u v
  have h2 : (L.map vP).all isTupP = true := by
    rw [List.all_eq_true]
    intro a ha
    obtain ⟨u, _, rfl⟩ := List.mem_map.mp ha
    rfl
  have h3 : (L.map vP).all SeqAt.shaped = true := by
    rw [List.all_eq_true]
    intro a ha
    obtain ⟨u, _, rfl⟩ := List.mem_map.mp ha
    simp [SeqAt.shaped, lay_v, dep_v]
  have h4 : (L.map vP).length ≤ big := by rw [List.length_map, big_eq]; omega
  simp only [h1, h2, h3, Bool.true_or, Bool.true_and, Bool.and_true, decide_eq_true_eq, Bool.and_self, Bool.true_and]
  exact h4
theorem vle_trans (a b c : Val) (h1 : vle a b = true) (h2 : vle b c = true) : vle a c = true := by
  unfold vle at *
  rw [decide_eq_true_eq] at *
  exact List.le_trans h1 h2
theorem vle_total (a b : Val) : (vle a b || vle b a) = true := by
  unfold vle
  rw [Bool.or_eq_true, decide_eq_true_eq, decide_eq_true_eq]
  exact List.le_total a b
/-- the values in their order -/
def srt (L : List Val) : List Val := L.mergeSort vle
theorem srt_mem {L : List Val} {v : Val} : v ∈ srt L ↔ v ∈ L := (List.mergeSort_perm L vle).mem_iff
theorem srt_len (L : List Val) : (srt L).length = L.length := (List.mergeSort_perm L vle).length_eq
theorem sorted_ok {h : AH} {L : List Val} (hl : L.length ≤ 1000) : fSorted [.lst (L.map vD)] h = .ok ((srt L).map vD) h := by
  show (match toPs (L.map vD) with | some ps => if sortB ps = true then Res.ok (sortD (L.map vD) ps) h else .stuck | none => .stuck) = _
  rw [toPs_vs]
  show (if sortB (L.map vP) = true then Res.ok (sortD (L.map vD) (L.map vP)) h else .stuck) = _
  rw [if_pos (sortB_v L hl), sortD_v]
  rfl
theorem cut_from {α : Type} (f : α → D) (xs : List α) (n : Nat) : cutD (xs.map f) (some (n : Int)) none = (xs.drop n).map f := by
  unfold cutD
  have e : HT.sIx (xs.map f).length 0 (some (n : Int)) = min n (xs.map f).length := HT.sIx_nat _ _ n
  have e2 : HT.sIx (xs.map f).length (xs.map f).length none = (xs.map f).length := rfl
  rw [e, e2, List.length_map]
  rcases Nat.le_total n xs.length with q | q
  · rw [Nat.min_eq_left q, List.take_of_length_le (by simp), List.map_drop]
  · rw [Nat.min_eq_right q, List.drop_eq_nil_of_le (by simp), List.drop_eq_nil_of_le q]
    simp
theorem eq_hvL {h : AH} (os : List (Option Val)) : fEq (.lst (os.map hvD)) (.lst []) h = .ok (.bl os.isEmpty) h := by
  have e1 : okP h (.lst (os.map hvD)) = some (.list (os.map hvP)) := by
    unfold okP
    have e : toPh h (.lst (os.map hvD)) = some (.list (os.map hvP)) := by
      show (toPs (os.map hvD)).map PyData.list = _
      rw [toPs_hv]
      rfl
    rw [e]
    simp [shaped_hvs]
  have e2 : okP h (.lst []) = some (.list []) := by
    have : okP h (.lst (([] : List (Option Val)).map hvD)) = some (.list (([] : List (Option Val)).map hvP)) := by
      unfold okP
      have e : toPh h (.lst []) = some (.list []) := rfl
      simp only [List.map_nil]
      rw [e]
      have := shaped_hvs []
      simp only [List.map_nil] at this
      simp [this]
    exact this
  unfold fEq
  rw [e1, e2]
  cases os with
  | nil => simp [PyData.eqv, PyData.eqvAll]
  | cons o os => simp [PyData.eqv, PyData.eqvAll]
end My
/-! rules of simp for objects and dicts -/
namespace AB
open PySem PySem.Spec PyProof.Rows L2
section
variable {G : Env} {h : AH} {m a b c : Me} {as : MeL} {n : Nat} {x y : D} {f C : Str} {cs : List Str} {tb : List (Str × Fn)}
@[simp] theorem v_mDSetd : mDSetd a b c G h = (a G h).bind fun d h1 => match d with
  | .loc n => match dctAt h1 n with
    | some _ => (b G h1).bind fun j h2 => (c G h2).bind fun z h3 => match h3[n]?, toKey j with
      | some (.dct kvs), some q => if kvs.length < big then (match valD kvs q with
        | some y => .ok y h3
        | none => .ok z (h3.set n (.dct (putKD kvs q z)))) else .stuck
      | _, _ => .stuck
    | none => .stuck
  | _ => .stuck := id rfl
end
/-- a loop over a dict that knows what is behind it -/
theorem forD_pre {α : Type} {p : Pat} {body : Ms} {pick : L2.Key × D → D} {n : Nat} {kvs : KD} (I : List α → Env → AH → Prop) (hs : ∀ done G h, I done G h → h[n]? = some (.lck kvs)) (enc : α → L2.Key × D) (xs : List α) : ∀ (todo done : List α), done ++ todo = xs →
    (∀ done x rest, done ++ x :: rest = xs → ∀ G h, I done G h → ∃ G1 G2 h2, asg p (pick (enc x)) G = some G1 ∧ body G1 h = .next G2 h2 ∧ I (done ++ [x]) G2 h2) →
    ∀ G h, I done G h → ∃ G' h', forGoD p body pick n kvs (todo.map enc) G h = .next G' (h'.set n (.dct kvs)) ∧ I xs G' h'
  | [], done, e, _, G, h, hI => by
    rw [List.append_nil] at e
    subst e
    refine ⟨G, h, ?_, hI⟩
    rw [List.map_nil]
    unfold forGoD
    rw [if_pos (hs _ G h hI)]
  | x :: r, done, e, hx, G, h, hI => by
    obtain ⟨G1, G2, h2, e1, e2, hI2⟩ := hx done x r e G h hI
    obtain ⟨G', h', e3, hI'⟩ := forD_pre I hs enc xs r (done ++ [x]) (by rw [List.append_assoc]; exact e) hx G2 h2 hI2
    refine ⟨G', h', ?_, hI'⟩
    rw [List.map_cons]
    unfold forGoD
    rw [if_pos (hs _ G h hI), e1]
    simp only [e2, e3]
theorem sForD_ok {p : Pat} {o : Me} {body : Ms} {pick : L2.Key × D → D} {G : Env} {h : AH} {n : Nat} {kvs : KD} (e : o G h = .ok (.loc n) h) (ec : h[n]? = some (.dct kvs)) (e2 : o G (h.set n (.lck kvs)) = .ok (.loc n) (h.set n (.lck kvs))) :
    sForD pick p o body G h = forGoD p body pick n kvs kvs G (h.set n (.lck kvs)) := by
  unfold sForD
  rw [e]
  simp only [if_true]
  rw [ec]
  simp only
  rw [if_pos e2]
end AB
namespace My
open PySem AB L2
theorem st_wk : ¬ (("writes" : Str) = "kept") := by decide +kernel
theorem st_kw : ¬ (("kept" : Str) = "writes") := by decide +kernel
theorem st_ak : ¬ (("watcher" : Str) = "kept") := by decide +kernel
theorem st_ka : ¬ (("kept" : Str) = "watcher") := by decide +kernel
theorem st_aw : ¬ (("watcher" : Str) = "writes") := by decide +kernel
theorem st_wa : ¬ (("writes" : Str) = "watcher") := by decide +kernel
/-- a disk's attributes -/
def diskF (k w : Nat) : List (Str × D) := [("kept", .loc k), ("writes", .loc w), ("watcher", .non)]
theorem lookup_ne {f g : Str} {d : D} {r : List (Str × D)} (h : ¬ f = g) : ((g, d) :: r).lookup f = r.lookup f := by
  rw [List.lookup_cons]
  have : (f == g) = false := by simpa using h
  rw [this]
theorem lookup_eq {f : Str} {d : D} {r : List (Str × D)} : ((f, d) :: r).lookup f = some d := by
  rw [List.lookup_cons]
  have : (f == f) = true := by simp
  rw [this]
@[simp] theorem df_kept {k w : Nat} : (diskF k w).lookup ("kept" : Str) = some (.loc k) := lookup_eq
@[simp] theorem df_writes {k w : Nat} : (diskF k w).lookup ("writes" : Str) = some (.loc w) := by
  unfold diskF
  rw [lookup_ne st_wk, lookup_eq]
@[simp] theorem df_watcher {k w : Nat} : (diskF k w).lookup ("watcher" : Str) = some .non := by
  unfold diskF
  rw [lookup_ne st_ak, lookup_ne st_aw, lookup_eq]
theorem df_none {k w : Nat} {m : Str} (h1 : ¬ m = "kept") (h2 : ¬ m = "writes") (h3 : ¬ m = "watcher") : (diskF k w).lookup m = none := by
  unfold diskF
  rw [lookup_ne h1, lookup_ne h2, lookup_ne h3]
  rfl
@[simp] theorem df_tell {k w : Nat} : (diskF k w).lookup ("tell" : Str) = none := df_none (by decide +kernel) (by decide +kernel) (by decide +kernel)
@[simp] theorem df_write {k w : Nat} : (diskF k w).lookup ("write" : Str) = none := df_none (by decide +kernel) (by decide +kernel) (by decide +kernel)
@[simp] theorem df_barrier {k w : Nat} : (diskF k w).lookup ("barrier" : Str) = none := df_none (by decide +kernel) (by decide +kernel) (by decide +kernel)
@[simp] theorem df_now {k w : Nat} : (diskF k w).lookup ("now" : Str) = none := df_none (by decide +kernel) (by decide +kernel) (by decide +kernel)
@[simp] theorem df_len {k w : Nat} : (diskF k w).length = 3 := rfl
@[simp] theorem df_putW {k w x : Nat} : putD "writes" (.loc x) (diskF k w) = diskF k x := by
  unfold diskF
  show (if ("kept" : Str) = "writes" then _ else (("kept" : Str), D.loc k) :: (if ("writes" : Str) = "writes" then (("writes" : Str), D.loc x) :: [(("watcher" : Str), D.non)] else _)) = _
  rw [if_neg st_kw, if_pos rfl]
theorem df_new (k w : Nat) : putD "watcher" .non (putD "writes" (.loc w) (putD "kept" (.loc k) [])) = diskF k w := by
  have e1 : putD "kept" (.loc k) [] = [(("kept" : Str), D.loc k)] := rfl
  have e2 : putD "writes" (.loc w) [(("kept" : Str), D.loc k)] = [(("kept" : Str), D.loc k), ("writes", .loc w)] := by
    show (if ("kept" : Str) = "writes" then _ else (("kept" : Str), D.loc k) :: [(("writes" : Str), D.loc w)]) = _
    rw [if_neg st_kw]
  rw [e1, e2]
  show (if ("kept" : Str) = "watcher" then _ else (("kept" : Str), D.loc k) :: (if ("writes" : Str) = "watcher" then _ else (("writes" : Str), D.loc w) :: [(("watcher" : Str), D.non)])) = _
  rw [if_neg st_ka, if_neg st_wa]
  rfl
/-- what waits for a sector: the sector, the list's place, the values -/
structure WEnt where
  s : Nat
  l : Nat
  vs : List Val
def wKD (e : WEnt) : L2.Key × D := (.inl (e.s : Int), .loc e.l)
structure DskAt (h : AH) (b nD nK nW : Nat) (K : List (Option Val)) (ws : List WEnt) : Prop where
  ins : h[nD]? = some (.ins "Disk" (diskF nK nW))
  kept : h[nK]? = some (.lst (K.map hvD))
  wr : h[nW]? = some (.dct (ws.map wKD))
  cells : ∀ e ∈ ws, h[e.l]? = some (.lst (e.vs.map vD))
  keys : (ws.map (·.s)).Nodup
  locs : (ws.map (·.l)).Nodup
  nk : ∀ e ∈ ws, e.l ≠ nK
  ne : ∀ e ∈ ws, e.vs ≠ []
  lt : ∀ e ∈ ws, e.s < K.length
  lo : b ≤ nD ∧ b ≤ nK ∧ b ≤ nW ∧ ∀ e ∈ ws, b ≤ e.l
/-- the state as if all was written -/
def cur (K : List (Option Val)) (ws : List WEnt) : List (Option Val) := (List.range K.length).map fun i => match ws.find? fun e => decide (e.s = i) with
  | some e => e.vs.getLast?
  | none => K.getD i none
theorem cur_len (K : List (Option Val)) (ws : List WEnt) : (cur K ws).length = K.length := by simp [cur]
theorem cur_nil (K : List (Option Val)) : cur K [] = K := by
  unfold cur
  apply List.ext_getElem?
  intro i
  by_cases hi : i < K.length
  · simp [hi, List.getD_eq_getElem?_getD]
  · simp [hi]
theorem cur_get {K : List (Option Val)} {ws : List WEnt} {i : Nat} (hi : i < K.length) : (cur K ws)[i]? = some (match ws.find? fun e => decide (e.s = i) with
  | some e => e.vs.getLast?
  | none => K.getD i none) := by
  unfold cur
  rw [List.getElem?_map, List.getElem?_range hi]
  rfl
theorem find_snoc {ws : List WEnt} {e : WEnt} {i : Nat} : (ws ++ [e]).find? (fun e => decide (e.s = i)) = (match ws.find? fun e => decide (e.s = i) with | some x => some x | none => if e.s = i then some e else none) := by
  rw [List.find?_append]
  cases ws.find? fun e => decide (e.s = i) with
  | some x => rfl
  | none => by_cases q : e.s = i <;> simp [q]
theorem find_none {ws : List WEnt} {i : Nat} (h : i ∉ ws.map (·.s)) : ws.find? (fun e => decide (e.s = i)) = none := by
  rw [List.find?_eq_none]
  intro e he q
  exact h (List.mem_map.mpr ⟨e, he, of_decide_eq_true q⟩)
theorem cur_snoc {K : List (Option Val)} {ws : List WEnt} {e : WEnt} (hn : e.s ∉ ws.map (·.s)) (hl : e.s < K.length) : cur K (ws ++ [e]) = (cur K ws).set e.s e.vs.getLast? := by
  apply List.ext_getElem?
  intro i
  by_cases hi : i < K.length
  · rw [cur_get hi, find_snoc]
    by_cases q : e.s = i
    · subst q
      rw [List.getElem?_set_self (by rw [cur_len]; exact hl), find_none hn]
      simp
    · rw [List.getElem?_set_ne q, cur_get hi]
      cases ws.find? fun e => decide (e.s = i) with
      | some x => rfl
      | none => simp [q]
  · rw [List.getElem?_eq_none (by rw [cur_len]; omega), List.getElem?_eq_none (by rw [List.length_set, cur_len]; omega)]
end My
namespace My
open PySem AB L2
theorem set_same {α : Type} : ∀ {l : List α} {n : Nat} {a : α}, l[n]? = some a → l.set n a = l
  | [], n, a, e => by simp at e
  | x :: l, 0, a, e => by
    simp at e
    subst e
    rfl
  | x :: l, n + 1, a, e => by
    rw [List.getElem?_cons_succ] at e
    rw [List.set_cons_succ, set_same e]
theorem ixN_nat {n s : Nat} (h : s < n) : ixN n (s : Int) = some s := by
  unfold ixN
  rw [if_pos (by omega), if_pos (by omega)]
  simp
theorem lt_of_get {α : Type} {l : List α} {n : Nat} {a : α} (e : l[n]? = some a) : n < l.length := (List.getElem?_eq_some_iff.mp e).1
section
variable {h : AH} {b nD nK nW : Nat} {K : List (Option Val)} {ws : List WEnt}
theorem DskAt.dw (d : DskAt h b nD nK nW K ws) : nD ≠ nW := by
  rintro rfl
  have := d.ins
  rw [d.wr] at this
  cases this
theorem DskAt.dk (d : DskAt h b nD nK nW K ws) : nD ≠ nK := by
  rintro rfl
  have := d.ins
  rw [d.kept] at this
  cases this
theorem DskAt.kw (d : DskAt h b nD nK nW K ws) : nK ≠ nW := by
  rintro rfl
  have := d.kept
  rw [d.wr] at this
  cases this
theorem DskAt.ld (d : DskAt h b nD nK nW K ws) {e : WEnt} (he : e ∈ ws) : e.l ≠ nD := by
  intro z
  have := d.cells e he
  rw [z, d.ins] at this
  cases this
theorem DskAt.lw (d : DskAt h b nD nK nW K ws) {e : WEnt} (he : e ∈ ws) : e.l ≠ nW := by
  intro z
  have := d.cells e he
  rw [z, d.wr] at this
  cases this
theorem lookup_eq' {β : Type} {f : Str} {d : β} {r : List (Str × β)} : List.lookup f ((f, d) :: r) = some d := by
  rw [List.lookup_cons]
  have : (f == f) = true := by simp
  rw [this]
theorem tell_ok (e : h[nD]? = some (.ins "Disk" (diskF nK nW))) : m_Disk_tell [.loc nD] h = .ok .non h := by
  simp [m_Disk_tell, mDefK, b_Disk_tell, e, fNotN]
theorem last_hv {vs : List Val} (hv : vs ≠ []) : atI (vs.map vD) (-1) = some (hvD vs.getLast?) := by
  rw [AB.atI_last, List.getLast?_map]
  cases q : vs.getLast? with
  | none =>
    rw [List.getLast?_eq_none_iff] at q
    exact absurd q hv
  | some v => rfl
theorem now_ok (d : DskAt h b nD nK nW K ws) (hw : ws.length ≤ 1000) (hK : K.length ≤ 1000) : m_Disk_now [.loc nD] h = .ok (.tup ((cur K ws).map hvD)) h := by
  have lD := lt_of_get d.ins
  have lW := lt_of_get d.wr
  have lK := lt_of_get d.kept
  have g1 : ∀ (x : AO) (m : Nat), m < h.length → (h ++ [x])[m]? = h[m]? := fun x m hm => List.getElem?_append_left hm
  have g2 : ∀ (x y : AO) (m : Nat), m < h.length → m ≠ nW → ((h ++ [x]).set nW y)[m]? = h[m]? := fun x y m hm hn => by
    rw [List.getElem?_set_ne (Ne.symm hn), g1 x m hm]
  have g3 : ∀ (x y : AO), ((h ++ [x]).set nW y)[h.length]? = some x := fun x y => by
    rw [List.getElem?_set_ne (by omega)]
    simp
  have g4 : ∀ (x y : AO), ((h ++ [x]).set nW y)[nW]? = some y := fun x y => by
    rw [List.getElem?_set_self (by simp; omega)]
  have s1 : ∀ (x y z : AO), ((h ++ [x]).set nW y).set h.length z = (h ++ [z]).set nW y := fun x y z => by
    rw [List.set_comm _ _ (by omega)]
    simp
  have eo : ∀ G (x : AO), (mFld ["Disk"] "writes" (mV 0)) (some (.loc nD) :: G) (h ++ [x]) = .ok (.loc nW) (h ++ [x]) := fun G x => by
    simp [g1 x nD lD, d.ins]
  have eo2 : ∀ G (x y : AO), (mFld ["Disk"] "writes" (mV 0)) (some (.loc nD) :: G) ((h ++ [x]).set nW y) = .ok (.loc nW) ((h ++ [x]).set nW y) := fun G x y => by
    simp [g2 x y nD lD d.dw, d.ins]
  obtain ⟨G', h', e1, a2, a3, rfl, rfl⟩ := forD_pre (p := .tp [(.nm 2), (.nm 3)]) (body := sSeq (sSub (mV 1) (mV 2) (mOp2 fIx (mV 3) (mOp1 fNeg (mC (.int 1))))) sNil) (pick := pickI) (n := nW) (kvs := ws.map wKD)
    (fun done G hh => ∃ a2 a3, G = [some (.loc nD), some (.loc h.length), a2, a3] ∧ hh = (h ++ [AO.lst ((cur K done).map hvD)]).set nW (.lck (ws.map wKD)))
    (by rintro done G hh ⟨a2, a3, rfl, rfl⟩; exact g4 _ _) wKD ws ws [] rfl
    (by
      rintro done e rest ed G hh ⟨a2, a3, rfl, rfl⟩
      have he : e ∈ ws := by rw [← ed]; simp
      have hn : e.s ∉ done.map (·.s) := by
        have := d.keys
        rw [← ed, List.map_append, List.nodup_append] at this
        intro z
        exact this.2.2 _ z e.s (by simp) rfl
      have hlt := d.lt e he
      have hc : e.s < (cur K done).length := by rw [cur_len]; exact hlt
      have ec := d.cells e he
      have lE := lt_of_get ec
      refine ⟨[some (.loc nD), some (.loc h.length), some (.int e.s), some (.loc e.l)], [some (.loc nD), some (.loc h.length), some (.int e.s), some (.loc e.l)], (h ++ [AO.lst ((cur K (done ++ [e])).map hvD)]).set nW (.lck (ws.map wKD)), rfl, ?_, _, _, rfl, rfl⟩
      have x1 := last_hv (d.ne e he)
      have x2 : ixN ((cur K done).map hvD).length (e.s : Int) = some e.s := ixN_nat (by rw [List.length_map]; exact hc)
      rw [cur_snoc hn hlt, List.map_set]
      rw [List.length_map] at x2
      simp only [v_sSeq, v_sSub, v_mOp2, v_mV, v_mOp1, v_mC, v_neg, v_ix, Res.bind_ok, Res.toS_ok, List.getElem?_cons_succ, List.getElem?_cons_zero, v_vSo, SR.andThen_next, v_sNil, g2 _ _ e.l lE (d.lw he), ec, x1, g3, s1, x2, List.length_map])
    [some (.loc nD), some (.loc h.length), none, none] ((h ++ [AO.lst (K.map hvD)]).set nW (.lck (ws.map wKD))) ⟨none, none, rfl, by rw [cur_nil]⟩
  have e2 : ((h ++ [AO.lst ((cur K ws).map hvD)]).set nW (.lck (ws.map wKD))).set nW (.dct (ws.map wKD)) = h ++ [.lst ((cur K ws).map hvD)] := by
    rw [List.set_set]
    exact set_same (by rw [g1 _ nW lW]; exact d.wr)
  rw [e2] at e1
  have e3 : sForD pickI (.tp [(.nm 2), (.nm 3)]) (mFld ["Disk"] "writes" (mV 0)) (sSeq (sSub (mV 1) (mV 2) (mOp2 fIx (mV 3) (mOp1 fNeg (mC (.int 1))))) sNil) [some (.loc nD), some (.loc h.length), none, none] (h ++ [AO.lst (K.map hvD)]) = .next [some (.loc nD), some (.loc h.length), a2, a3] (h ++ [AO.lst ((cur K ws).map hvD)]) := by
    rw [sForD_ok (eo _ _) (by rw [g1 _ nW lW]; exact d.wr) (eo2 _ _ _)]
    exact e1
  have e4 : (mNew (lN lList (aCons (mFld ["Disk"] "kept" (mV 0)) aNil))) [some (.loc nD), none, none, none] h = .ok (.loc h.length) (h ++ [AO.lst (K.map hvD)]) := by
    simp [d.ins, d.kept]
  have g5 : ∀ x : AO, (h ++ [x])[h.length]? = some x := fun x => by simp
  have un : (D.tup ((cur K ws).map hvD)).under h.length = true := by
    simp only [D.under]
    have : ∀ os : List (Option Val), underL h.length (os.map hvD) = true := fun os => by
      induction os with
      | nil => simp [underL]
      | cons o os ih => simp [underL, ih, under_hv]
    exact this _
  have fin := finD_app h [.lst ((cur K ws).map hvD)] (.tup ((cur K ws).map hvD)) un
  have eb : b_Disk_now [some (.loc nD), none, none, none] h = .ret (.tup ((cur K ws).map hvD)) (h ++ [AO.lst ((cur K ws).map hvD)]) := by
    have eq : b_Disk_now = (sSeq (sSet 1 (mNew (lN lList (aCons (mFld ["Disk"] "kept" (mV 0)) aNil)))) (sSeq (sForD pickI (.tp [(.nm 2), (.nm 3)]) (mFld ["Disk"] "writes" (mV 0)) (sSeq (sSub (mV 1) (mV 2) (mOp2 fIx (mV 3) (mOp1 fNeg (mC (.int 1))))) sNil)) (sSeq (sRet (mN fTuple (aCons (mV 1) aNil))) sNil))) := rfl
    rw [eq]
    simp only [v_sSeq, v_sSet, e4, Res.toS_ok, List.set_cons_succ, List.set_cons_zero, SR.andThen_next, e3, v_sRet, v_mN, v_aCons, v_aNil, v_mV, List.getElem?_cons_succ, List.getElem?_cons_zero, Res.bind_ok, v_tuple, v_vSo, g5, SR.andThen_ret]
  simp [m_Disk_now, mDef, eb, fin]
end
end My
namespace My
open PySem AB L2
theorem inj_nodup {α β : Type} {f : α → β} : ∀ {l : List α}, (l.map f).Nodup → ∀ {x y : α}, x ∈ l → y ∈ l → f x = f y → x = y
  | [], _, x, y, hx, _, _ => by cases hx
  | a :: l, h, x, y, hx, hy, e => by
    rw [List.map_cons, List.nodup_cons] at h
    rcases List.mem_cons.mp hx with rfl | hx
    · rcases List.mem_cons.mp hy with rfl | hy
      · rfl
      · exact absurd (List.mem_map.mpr ⟨y, hy, e.symm⟩) h.1
    · rcases List.mem_cons.mp hy with hy | hy
      · rw [hy] at e
        exact absurd (List.mem_map.mpr ⟨x, hx, e⟩) h.1
      · exact inj_nodup h.2 hx hy e
section
variable {h : AH} {b nD nK nW : Nat} {K : List (Option Val)} {ws : List WEnt}
theorem g_app (h l : AH) (i : Nat) : (h ++ l)[h.length + i]? = l[i]? := by
  rw [List.getElem?_append_right (by omega)]
  congr 1
  omega
theorem g_app0 (h l : AH) : (h ++ l)[h.length]? = l[0]? := g_app h l 0
theorem s_app (h l : AH) (i : Nat) (x : AO) : (h ++ l).set (h.length + i) x = h ++ l.set i x := by
  rw [List.set_append_right _ _ (by omega)]
  congr 2
  omega
theorem s_app0 (h l : AH) (x : AO) : (h ++ l).set h.length x = h ++ l.set 0 x := s_app h l 0 x
theorem init_ok (h1 : 1 ≤ K.length) (h2 : K.length ≤ 64) (hK : ∀ o ∈ K, HOkV o) (h : AH) :
    m_Disk___init__ [.loc h.length, .tup (K.map hvD)] (h ++ [.ins "Disk" []]) = .ok .non (h ++ [.ins "Disk" (diskF (h.length + 1) (h.length + 2)), .lst (K.map hvD), .dct []]) := by
  have hc := check_state_ok (h := h ++ [.ins "Disk" []]) h1 h2 hK
  have e1 : ((h ++ [AO.ins "Disk" []]) ++ [AO.lst (K.map hvD)]) = h ++ [AO.ins "Disk" [], .lst (K.map hvD)] := by simp
  have e2 : ∀ x y : AO, ((h ++ [x, y]) ++ [AO.dct []]) = h ++ [x, y, .dct []] := fun x y => by simp
  have l1 : List.length (h ++ [AO.ins "Disk" []]) = h.length + 1 := by simp
  have l2 : ∀ x y : AO, List.length (h ++ [x, y]) = h.length + 2 := fun x y => by simp
  have p1 : putD "kept" (.loc (h.length + 1)) [] = [(("kept" : Str), D.loc (h.length + 1))] := rfl
  have p2 : (putD "kept" (.loc (h.length + 1)) []).length = 1 := rfl
  have p3 : (putD "writes" (.loc (h.length + 2)) (putD "kept" (.loc (h.length + 1)) [])).length = 2 := by
    have : putD "writes" (.loc (h.length + 2)) [(("kept" : Str), D.loc (h.length + 1))] = [(("kept" : Str), D.loc (h.length + 1)), ("writes", .loc (h.length + 2))] := by
      show (if ("kept" : Str) = "writes" then _ else (("kept" : Str), D.loc (h.length + 1)) :: [(("writes" : Str), D.loc (h.length + 2))]) = _
      rw [if_neg st_kw]
    rw [p1, this]
    rfl
  have n0 : ("Disk" : Str) ∈ [("Disk" : Str)] := List.mem_singleton.mpr rfl
  have z1 : (0 : Nat) < 1000 := by decide
  have z2 : (1 : Nat) < 1000 := by decide
  have z3 : (2 : Nat) < 1000 := by decide
  have dn := df_new (h.length + 1) (h.length + 2)
  simp only [m_Disk___init__, mDefK, b_Disk___init__, List.length_cons, List.length_nil, Nat.zero_add, Nat.reduceAdd, if_true, List.map_cons, List.map_nil, Nat.sub_self, List.replicate_zero, List.append_nil, v_sSeq, v_sExpr, v_mN, v_aCons, v_aNil, v_mV, List.getElem?_cons_succ, List.getElem?_cons_zero, Res.bind_ok, hc, Res.toS_ok, SR.andThen_next,
    v_sFld, v_mNew, v_lN, v_list, v_vSt, e1, l1, g_app0, n0, true_and, z1, z2, z3, s_app0, List.set_cons_zero, v_mDNew, e2, l2, p2, p3, v_mC, dn, v_sNil]
theorem make_ok (h1 : 1 ≤ K.length) (h2 : K.length ≤ 64) (h : AH) : DskAt (h ++ [.ins "Disk" (diskF (h.length + 1) (h.length + 2)), .lst (K.map hvD), .dct []]) h.length h.length (h.length + 1) (h.length + 2) K [] := by
  refine ⟨by rw [g_app0]; rfl, by rw [g_app]; rfl, by rw [g_app]; rfl, by simp, by simp, by simp, by simp, by simp, by simp, Nat.le_refl _, by omega, by omega, by simp⟩
/-- few things wait -/
def Bd (ws : List WEnt) (m : Nat) : Prop := ws.length ≤ m ∧ ∀ e ∈ ws, e.vs.length ≤ m
theorem valD_w (ws : List WEnt) (s : Nat) : valD (ws.map wKD) (.inl (s : Int)) = (ws.find? fun e => decide (e.s = s)).map fun e => D.loc e.l := by
  induction ws with
  | nil => rfl
  | cons e ws ih =>
    unfold valD at ih ⊢
    rw [List.map_cons, List.find?_cons, List.find?_cons]
    by_cases q : e.s = s
    · have : decide ((wKD e).1 = Sum.inl (s : Int)) = true := by simp [wKD, q]
      rw [this]
      simp [q, wKD]
    · have : decide ((wKD e).1 = Sum.inl (s : Int)) = false := by
        have q2 : ¬ (e.s : Int) = (s : Int) := by omega
        simp [wKD, q2]
      rw [this]
      simp only [q, decide_false]
      exact ih
theorem putKD_w (ws : List WEnt) (s l : Nat) (hn : ws.find? (fun e => decide (e.s = s)) = none) : putKD (ws.map wKD) (.inl (s : Int)) (.loc l) = ws.map wKD ++ [(.inl (s : Int), .loc l)] := by
  unfold putKD
  have : ((ws.map wKD).any fun kv => decide (kv.1 = Sum.inl (s : Int))) = false := by
    rw [List.any_eq_false]
    intro kv hk
    obtain ⟨e, he, rfl⟩ := List.mem_map.mp hk
    have := List.find?_eq_none.mp hn e he
    have q : ¬ e.s = s := by simpa using this
    have q2 : ¬ (e.s : Int) = (s : Int) := by omega
    simp [wKD, q2]
  rw [this]
  simp
theorem tellM_ok {G : AB.Env} {hh : AH} (e : hh[nD]? = some (.ins "Disk" (diskF nK nW))) : (mMeth [("Disk", m_Disk_tell)] "tell" (mV 0) aNil) (some (.loc nD) :: G) hh = .ok .non hh := by
  have ht := tell_ok e
  have e0 : List.lookup ("Disk" : Str) [(("Disk" : Str), m_Disk_tell)] = some m_Disk_tell := lookup_eq'
  simp only [v_mMeth, v_mV, List.getElem?_cons_zero, Res.bind_ok, e, e0, df_tell, v_aNil, ht]
theorem keptM_ok {G : AB.Env} {hh : AH} (e : hh[nD]? = some (.ins "Disk" (diskF nK nW))) : (mFld ["Disk"] "kept" (mV 0)) (some (.loc nD) :: G) hh = .ok (.loc nK) hh := by
  have n0 : ("Disk" : Str) ∈ [("Disk" : Str)] := List.mem_singleton.mpr rfl
  simp only [v_mFld, v_mV, List.getElem?_cons_zero, Res.bind_ok, e, n0, if_true, df_kept]
theorem writesM_ok {G : AB.Env} {hh : AH} (e : hh[nD]? = some (.ins "Disk" (diskF nK nW))) : (mFld ["Disk"] "writes" (mV 0)) (some (.loc nD) :: G) hh = .ok (.loc nW) hh := by
  have n0 : ("Disk" : Str) ∈ [("Disk" : Str)] := List.mem_singleton.mpr rfl
  simp only [v_mFld, v_mV, List.getElem?_cons_zero, Res.bind_ok, e, n0, if_true, df_writes]
theorem write_of {s : Nat} {v : Val} {h' : AH} (d : DskAt h b nD nK nW K ws) (hs : s < K.length) (hv : VOk v) (c3 : (mBM fApp (mDSetd (mFld ["Disk"] "writes" (mV 0)) (mV 1) (mNew (lLst aNil))) (aCons (mV 2) aNil)) [some (.loc nD), some (.int s), some (vD v)] h = .ok .non h') (gI : h'[nD]? = some (.ins "Disk" (diskF nK nW))) :
    m_Disk_write [.loc nD, .int s, vD v] h = .ok .non h' := by
  have c1 : (tNotM (tOf (mN m_is_index (aCons (mV 1) (aCons (mN fLen (aCons (mFld ["Disk"] "kept" (mV 0)) aNil)) aNil))))) [some (.loc nD), some (.int s), some (vD v)] h = .ok false h := by
    have : (decide ((0 : Int) ≤ (s : Int)) && decide ((s : Int) ≤ (K.length : Int) - 1)) = true := by simp; omega
    simp only [v_tNot, v_tOf, v_mN, v_aCons, v_aNil, v_mV, List.getElem?_cons_succ, List.getElem?_cons_zero, Res.bind_ok, keptM_ok d.ins]
    have hl : fLen [D.loc nK] h = .ok (.int K.length) h := by simp [d.kept]
    simp only [hl, Res.bind_ok, is_index_ok, this, v_truB, Bool.not_true]
  have c2 : (tNotM (tOf (mN m_is_value (aCons (mV 2) aNil)))) [some (.loc nD), some (.int s), some (vD v)] h = .ok false h := by
    simp only [v_tNot, v_tOf, v_mN, v_aCons, v_aNil, v_mV, List.getElem?_cons_succ, List.getElem?_cons_zero, Res.bind_ok, is_value_ok hv, v_truB, Bool.not_true]
  have c4 := tellM_ok (G := [some (.int s), some (vD v)]) gI
  have eb : b_Disk_write [some (.loc nD), some (.int s), some (vD v)] h = .next [some (.loc nD), some (.int s), some (vD v)] h' := by
    have eq : b_Disk_write = (sSeq (sIf (tNotM (tOf (mN m_is_index (aCons (mV 1) (aCons (mN fLen (aCons (mFld ["Disk"] "kept" (mV 0)) aNil)) aNil))))) (sSeq sNever sNil) sNil) (sSeq (sIf (tNotM (tOf (mN m_is_value (aCons (mV 2) aNil)))) (sSeq sNever sNil) sNil) (sSeq (sExpr (mBM fApp (mDSetd (mFld ["Disk"] "writes" (mV 0)) (mV 1) (mNew (lLst aNil))) (aCons (mV 2) aNil))) (sSeq (sExpr (mMeth [("Disk", m_Disk_tell)] "tell" (mV 0) aNil)) sNil)))) := rfl
    rw [eq]
    simp only [v_sSeq, v_sIf, c1, c2, Res.toS_ok, Bool.false_eq_true, if_false, v_sNil, SR.andThen_next, v_sExpr, c3, c4]
  simp [m_Disk_write, mDefK, eb]
def addW (ws : List WEnt) (s : Nat) (v : Val) (l : Nat) : List WEnt := match ws.find? fun e => decide (e.s = s) with
  | some _ => ws.map fun x => if x.s = s then ⟨x.s, x.l, x.vs ++ [v]⟩ else x
  | none => ws ++ [⟨s, l, [v]⟩]
theorem write_ok (d : DskAt h b nD nK nW K ws) {m : Nat} (hb : Bd ws m) (hm : m ≤ 10000) {s : Nat} (hs : s < K.length) {v : Val} (hv : VOk v) :
    ∃ h' ws', (ws' = addW ws s v h.length ∧ h.length ≤ h'.length ∧ ∀ m, m < h.length → m ≠ nW → (∀ e ∈ ws, e.l ≠ m) → h'[m]? = h[m]?) ∧ m_Disk_write [.loc nD, .int s, vD v] h = .ok .non h' ∧ DskAt h' b nD nK nW K ws' ∧ cur K ws' = (cur K ws).set s (some v) ∧ h'.take b = h.take b ∧ Bd ws' (m + 1) := by
  have lD := lt_of_get d.ins
  have lW := lt_of_get d.wr
  have lK := lt_of_get d.kept
  obtain ⟨b1, b2, b3, b4⟩ := d.lo
  have g1 : ∀ (x : AO) (m : Nat), m < h.length → (h ++ [x])[m]? = h[m]? := fun x m hm => List.getElem?_append_left hm
  have lb : (ws.map wKD).length < big := by rw [List.length_map, big_eq]; have := hb.1; omega
  have b0 : (0 : Nat) ≤ big := by decide
  have dW0 : dctAt h nW = some (ws.map wKD) := by
    unfold dctAt
    rw [d.wr]
  have e1 := writesM_ok (G := [some (.int s), some (vD v)]) d.ins
  have gW : (h ++ [AO.lst []])[nW]? = some (.dct (ws.map wKD)) := by rw [g1 _ _ lW]; exact d.wr
  cases hf : ws.find? (fun e => decide (e.s = s)) with
  | some e =>
    have he : e ∈ ws := List.mem_of_find?_eq_some hf
    have hes : e.s = s := by simpa using List.find?_some hf
    have lE := lt_of_get (d.cells e he)
    have hval2 : valD (ws.map wKD) (.inl (s : Int)) = some (.loc e.l) := by rw [valD_w, hf]; rfl
    have gE : (h ++ [AO.lst []])[e.l]? = some (.lst (e.vs.map vD)) := by rw [g1 _ _ lE]; exact d.cells e he
    have lv : (e.vs.map vD).length < big := by rw [List.length_map, big_eq]; have := hb.2 e he; omega
    obtain ⟨h', hh'⟩ : ∃ h', h' = (h ++ [AO.lst []]).set e.l (.lst (e.vs.map vD ++ [vD v])) := ⟨_, rfl⟩
    have gs : ∀ m, m < h.length → m ≠ e.l → h'[m]? = h[m]? := fun m hm hn => by
      rw [hh', List.getElem?_set_ne (Ne.symm hn), g1 _ _ hm]
    have gI : h'[nD]? = some (.ins "Disk" (diskF nK nW)) := by rw [gs nD lD (Ne.symm (d.ld he))]; exact d.ins
    have un : ∀ x ∈ ws, x.s = s → x = e := fun x hx q => inj_nodup d.keys hx he (by rw [q, hes])
    have c3 : (mBM fApp (mDSetd (mFld ["Disk"] "writes" (mV 0)) (mV 1) (mNew (lLst aNil))) (aCons (mV 2) aNil)) [some (.loc nD), some (.int s), some (vD v)] h = .ok .non h' := by
      simp only [v_mBM, v_mDSetd, e1, Res.bind_ok, dW0, v_mV, List.getElem?_cons_succ, List.getElem?_cons_zero, v_mNew, v_lLst, v_aNil, List.length_nil, b0, if_true, gW, v_keyI, lb, hval2, v_vLo, gE, v_aCons, v_app, lv, hh']
    refine ⟨h', ws.map fun x => if x.s = s then ⟨x.s, x.l, x.vs ++ [v]⟩ else x, ⟨by unfold addW; rw [hf], by rw [hh']; simp, fun m hm _ hn => gs m hm (Ne.symm (hn e he))⟩, write_of d hs hv c3 gI, ⟨gI, ?_, ?_, ?_, ?_, ?_, ?_, ?_, ?_, b1, b2, b3, ?_⟩, ?_, ?_, by rw [List.length_map]; have := hb.1; omega, ?_⟩
    · rw [gs nK lK (Ne.symm (d.nk e he))]; exact d.kept
    · rw [gs nW lW (Ne.symm (d.lw he)), d.wr, List.map_map]
      congr 2
      apply List.map_congr_left
      intro x _
      show wKD x = wKD (if x.s = s then ⟨x.s, x.l, x.vs ++ [v]⟩ else x)
      by_cases q : x.s = s
      · rw [if_pos q]; rfl
      · rw [if_neg q]
    · intro y hy
      obtain ⟨x, hx, rfl⟩ := List.mem_map.mp hy
      by_cases q : x.s = s
      · have := un x hx q
        subst this
        rw [if_pos q]
        show h'[x.l]? = some (.lst ((x.vs ++ [v]).map vD))
        rw [hh', List.getElem?_set_self (by simp; omega), List.map_append]
        rfl
      · rw [if_neg q]
        have hl : x.l ≠ e.l := fun z => q (by rw [inj_nodup d.locs hx he z, hes])
        rw [gs x.l (lt_of_get (d.cells x hx)) hl]
        exact d.cells x hx
    · have : (ws.map fun x => if x.s = s then (⟨x.s, x.l, x.vs ++ [v]⟩ : WEnt) else x).map (·.s) = ws.map (·.s) := by
        rw [List.map_map]
        apply List.map_congr_left
        intro x _
        show (if x.s = s then (⟨x.s, x.l, x.vs ++ [v]⟩ : WEnt) else x).s = x.s
        by_cases q : x.s = s
        · rw [if_pos q]
        · rw [if_neg q]
      rw [this]
      exact d.keys
    · have : (ws.map fun x => if x.s = s then (⟨x.s, x.l, x.vs ++ [v]⟩ : WEnt) else x).map (·.l) = ws.map (·.l) := by
        rw [List.map_map]
        apply List.map_congr_left
        intro x _
        show (if x.s = s then (⟨x.s, x.l, x.vs ++ [v]⟩ : WEnt) else x).l = x.l
        by_cases q : x.s = s
        · rw [if_pos q]
        · rw [if_neg q]
      rw [this]
      exact d.locs
    · intro y hy
      obtain ⟨x, hx, rfl⟩ := List.mem_map.mp hy
      by_cases q : x.s = s
      · rw [if_pos q]; exact d.nk x hx
      · rw [if_neg q]; exact d.nk x hx
    · intro y hy
      obtain ⟨x, hx, rfl⟩ := List.mem_map.mp hy
      by_cases q : x.s = s
      · rw [if_pos q]; simp
      · rw [if_neg q]; exact d.ne x hx
    · intro y hy
      obtain ⟨x, hx, rfl⟩ := List.mem_map.mp hy
      by_cases q : x.s = s
      · rw [if_pos q]; exact d.lt x hx
      · rw [if_neg q]; exact d.lt x hx
    · intro y hy
      obtain ⟨x, hx, rfl⟩ := List.mem_map.mp hy
      by_cases q : x.s = s
      · rw [if_pos q]; exact b4 x hx
      · rw [if_neg q]; exact b4 x hx
    · apply List.ext_getElem?
      intro i
      by_cases hi : i < K.length
      · rw [cur_get hi, List.find?_map]
        have ec : ((fun e : WEnt => decide (e.s = i)) ∘ fun x : WEnt => if x.s = s then (⟨x.s, x.l, x.vs ++ [v]⟩ : WEnt) else x) = fun e : WEnt => decide (e.s = i) := by
          funext x
          show decide ((if x.s = s then (⟨x.s, x.l, x.vs ++ [v]⟩ : WEnt) else x).s = i) = decide (x.s = i)
          by_cases q : x.s = s
          · rw [if_pos q]
          · rw [if_neg q]
        rw [ec]
        by_cases q : s = i
        · subst q
          rw [List.getElem?_set_self (by rw [cur_len]; exact hs), hf]
          simp [hes]
        · rw [List.getElem?_set_ne q, cur_get hi]
          cases hf2 : ws.find? fun e => decide (e.s = i) with
          | none => rfl
          | some x =>
            have hxs : x.s = i := by simpa using List.find?_some hf2
            have : ¬ x.s = s := fun z => q (by omega)
            simp [this]
      · rw [List.getElem?_eq_none (by rw [cur_len]; omega), List.getElem?_eq_none (by rw [List.length_set, cur_len]; omega)]
    · rw [hh', List.take_set_of_le (b4 e he), List.take_append_of_le_length (by omega)]
    · intro y hy
      obtain ⟨x, hx, rfl⟩ := List.mem_map.mp hy
      by_cases q : x.s = s
      · rw [if_pos q]
        show (x.vs ++ [v]).length ≤ m + 1
        have := hb.2 x hx
        simp
        omega
      · rw [if_neg q]
        have := hb.2 x hx
        omega
  | none =>
    have hn : s ∉ ws.map (·.s) := by
      intro z
      obtain ⟨e, he, q⟩ := List.mem_map.mp z
      have := List.find?_eq_none.mp hf e he
      simp at this
      exact this q
    have hval2 : valD (ws.map wKD) (.inl (s : Int)) = none := by rw [valD_w, hf]; rfl
    have hput := putKD_w ws s h.length hf
    obtain ⟨h1, hh1⟩ : ∃ h1, h1 = (h ++ [AO.lst []]).set nW (.dct (ws.map wKD ++ [(.inl (s : Int), .loc h.length)])) := ⟨_, rfl⟩
    obtain ⟨h', hh'⟩ : ∃ h', h' = h1.set h.length (.lst [vD v]) := ⟨_, rfl⟩
    have g2 : h1[h.length]? = some (.lst []) := by
      rw [hh1, List.getElem?_set_ne (by omega), g_app0]
      rfl
    have gs : ∀ m, m < h.length → m ≠ nW → h'[m]? = h[m]? := fun m hm hn => by
      rw [hh', List.getElem?_set_ne (by omega), hh1, List.getElem?_set_ne (Ne.symm hn), g1 _ _ hm]
    have gI : h'[nD]? = some (.ins "Disk" (diskF nK nW)) := by rw [gs nD lD d.dw]; exact d.ins
    have b01 : (0 : Nat) < big := by decide
    have c3 : (mBM fApp (mDSetd (mFld ["Disk"] "writes" (mV 0)) (mV 1) (mNew (lLst aNil))) (aCons (mV 2) aNil)) [some (.loc nD), some (.int s), some (vD v)] h = .ok .non h' := by
      simp only [v_mBM, v_mDSetd, e1, Res.bind_ok, dW0, v_mV, List.getElem?_cons_succ, List.getElem?_cons_zero, v_mNew, v_lLst, v_aNil, List.length_nil, b0, if_true, gW, v_keyI, lb, hval2, hput, ← hh1, v_vLo, g2, v_aCons, v_app, b01, List.nil_append, hh']
    have ln : List.length h1 = h.length + 1 := by rw [hh1]; simp
    refine ⟨h', ws ++ [⟨s, h.length, [v]⟩], ⟨by unfold addW; rw [hf], by rw [hh']; simp [ln], fun m hm hn _ => gs m hm hn⟩, write_of d hs hv c3 gI, ⟨gI, ?_, ?_, ?_, ?_, ?_, ?_, ?_, ?_, b1, b2, b3, ?_⟩, ?_, ?_, by simp; have := hb.1; omega, ?_⟩
    · rw [gs nK lK d.kw]; exact d.kept
    · rw [hh', List.getElem?_set_ne (by omega), hh1, List.getElem?_set_self (by simp; omega), List.map_append]
      rfl
    · intro y hy
      rcases List.mem_append.mp hy with hy | hy
      · rw [gs y.l (lt_of_get (d.cells y hy)) (d.lw hy)]; exact d.cells y hy
      · rw [List.mem_singleton.mp hy]
        show h'[h.length]? = some (.lst [vD v])
        rw [hh', List.getElem?_set_self (by omega)]
    · rw [List.map_append, List.nodup_append]
      refine ⟨d.keys, by simp, ?_⟩
      intro a ha c hc
      simp at hc
      subst hc
      exact fun z => hn (by rw [← z]; exact ha)
    · rw [List.map_append, List.nodup_append]
      refine ⟨d.locs, by simp, ?_⟩
      intro a ha c hc
      simp at hc
      subst hc
      obtain ⟨x, hx, rfl⟩ := List.mem_map.mp ha
      have := lt_of_get (d.cells x hx)
      omega
    · intro y hy
      rcases List.mem_append.mp hy with hy | hy
      · exact d.nk y hy
      · rw [List.mem_singleton.mp hy]
        show h.length ≠ nK
        omega
    · intro y hy
      rcases List.mem_append.mp hy with hy | hy
      · exact d.ne y hy
      · rw [List.mem_singleton.mp hy]
        simp
    · intro y hy
      rcases List.mem_append.mp hy with hy | hy
      · exact d.lt y hy
      · rw [List.mem_singleton.mp hy]
        exact hs
    · intro y hy
      rcases List.mem_append.mp hy with hy | hy
      · exact b4 y hy
      · rw [List.mem_singleton.mp hy]
        show b ≤ h.length
        omega
    · rw [cur_snoc hn hs]
      rfl
    · rw [hh', List.take_set_of_le (by omega), hh1, List.take_set_of_le (by omega), List.take_append_of_le_length (by omega)]
    · intro y hy
      rcases List.mem_append.mp hy with hy | hy
      · have := hb.2 y hy; omega
      · rw [List.mem_singleton.mp hy]
        simp
end
end My
namespace My
open PySem AB L2
section
variable {h : AH} {b nD nK nW : Nat} {K : List (Option Val)} {ws : List WEnt}
theorem barrier_ok (d : DskAt h b nD nK nW K ws) :
    ∃ h' nW', (nW' = h.length ∧ h.length < h'.length ∧ ∀ m, m < h.length → m ≠ nD → m ≠ nK → h'[m]? = h[m]?) ∧ m_Disk_barrier [.loc nD] h = .ok .non h' ∧ DskAt h' b nD nK nW' (cur K ws) [] ∧ h'.take b = h.take b := by
  have lD := lt_of_get d.ins
  have lW := lt_of_get d.wr
  have lK := lt_of_get d.kept
  obtain ⟨b1, b2, b3, b4⟩ := d.lo
  have g2 : ∀ (x y : AO) (m : Nat), m ≠ nK → m ≠ nW → ((h.set nK x).set nW y)[m]? = h[m]? := fun x y m hm hn => by
    rw [List.getElem?_set_ne (Ne.symm hn), List.getElem?_set_ne (Ne.symm hm)]
  have g3 : ∀ (x y : AO), ((h.set nK x).set nW y)[nK]? = some x := fun x y => by
    rw [List.getElem?_set_ne (Ne.symm d.kw), List.getElem?_set_self lK]
  have g4 : ∀ (x y : AO), ((h.set nK x).set nW y)[nW]? = some y := fun x y => by
    rw [List.getElem?_set_self (by rw [List.length_set]; exact lW)]
  have s1 : ∀ (x y z : AO), ((h.set nK x).set nW y).set nK z = (h.set nK z).set nW y := fun x y z => by
    rw [List.set_comm _ _ (Ne.symm d.kw), List.set_set]
  have gD : ∀ (x y : AO), ((h.set nK x).set nW y)[nD]? = some (.ins "Disk" (diskF nK nW)) := fun x y => by rw [g2 x y nD d.dk d.dw]; exact d.ins
  obtain ⟨G', h', e1, a2, a3, rfl, rfl⟩ := forD_pre (p := .tp [(.nm 1), (.nm 2)]) (body := sSeq (sSub (mFld ["Disk"] "kept" (mV 0)) (mV 1) (mOp2 fIx (mV 2) (mOp1 fNeg (mC (.int 1))))) sNil) (pick := pickI) (n := nW) (kvs := ws.map wKD)
    (fun done G hh => ∃ a1 a2, G = [some (.loc nD), a1, a2] ∧ hh = (h.set nK (.lst ((cur K done).map hvD))).set nW (.lck (ws.map wKD)))
    (by rintro done G hh ⟨a2, a3, rfl, rfl⟩; exact g4 _ _) wKD ws ws [] rfl
    (by
      rintro done e rest ed G hh ⟨a2, a3, rfl, rfl⟩
      have he : e ∈ ws := by rw [← ed]; simp
      have hn : e.s ∉ done.map (·.s) := by
        have := d.keys
        rw [← ed, List.map_append, List.nodup_append] at this
        intro z
        exact this.2.2 _ z e.s (by simp) rfl
      have hlt := d.lt e he
      have hc : e.s < (cur K done).length := by rw [cur_len]; exact hlt
      have ec := d.cells e he
      refine ⟨[some (.loc nD), some (.int e.s), some (.loc e.l)], [some (.loc nD), some (.int e.s), some (.loc e.l)], (h.set nK (.lst ((cur K (done ++ [e])).map hvD))).set nW (.lck (ws.map wKD)), rfl, ?_, _, _, rfl, rfl⟩
      have x1 := last_hv (d.ne e he)
      have x2 : ixN (cur K done).length (e.s : Int) = some e.s := ixN_nat hc
      have x3 := keptM_ok (G := [some (.int e.s), some (.loc e.l)]) (gD (.lst ((cur K done).map hvD)) (.lck (ws.map wKD)))
      rw [cur_snoc hn hlt, List.map_set]
      simp only [v_sSeq, v_sSub, v_mOp2, v_mV, v_mOp1, v_mC, v_neg, v_ix, Res.bind_ok, Res.toS_ok, List.getElem?_cons_succ, List.getElem?_cons_zero, v_vSo, SR.andThen_next, v_sNil, g2 _ _ e.l (d.nk e he) (d.lw he), ec, x1, x3, g3, s1, x2, List.length_map])
    [some (.loc nD), none, none] ((h.set nK (.lst (K.map hvD))).set nW (.lck (ws.map wKD))) ⟨none, none, rfl, by rw [cur_nil]⟩
  have e2 : h.set nK (.lst (K.map hvD)) = h := set_same d.kept
  have e3 : ((h.set nK (AO.lst ((cur K ws).map hvD))).set nW (.lck (ws.map wKD))).set nW (.dct (ws.map wKD)) = h.set nK (.lst ((cur K ws).map hvD)) := by
    rw [List.set_set]
    exact set_same (by rw [List.getElem?_set_ne d.kw]; exact d.wr)
  rw [e2, e3] at e1
  obtain ⟨h1, hh1⟩ : ∃ h1, h1 = h.set nK (.lst ((cur K ws).map hvD)) := ⟨_, rfl⟩
  have l1 : h1.length = h.length := by rw [hh1, List.length_set]
  have gI1 : h1[nD]? = some (.ins "Disk" (diskF nK nW)) := by rw [hh1, List.getElem?_set_ne (Ne.symm d.dk)]; exact d.ins
  obtain ⟨h2, hh2⟩ : ∃ h2, h2 = (h1 ++ [AO.dct []]).set nD (.ins "Disk" (diskF nK h.length)) := ⟨_, rfl⟩
  have gI2 : h2[nD]? = some (.ins "Disk" (diskF nK h.length)) := by rw [hh2, List.getElem?_set_self (by simp; omega)]
  have c1 : sForD pickI (.tp [(.nm 1), (.nm 2)]) (mFld ["Disk"] "writes" (mV 0)) (sSeq (sSub (mFld ["Disk"] "kept" (mV 0)) (mV 1) (mOp2 fIx (mV 2) (mOp1 fNeg (mC (.int 1))))) sNil) [some (.loc nD), none, none] h = .next [some (.loc nD), a2, a3] h1 := by
    rw [sForD_ok (writesM_ok d.ins) d.wr (writesM_ok (by rw [List.getElem?_set_ne (Ne.symm d.dw)]; exact d.ins))]
    rw [hh1]
    exact e1
  have c2 : sFldM ["Disk"] "writes" (mV 0) mDNew [some (.loc nD), a2, a3] h1 = .next [some (.loc nD), a2, a3] h2 := by
    have n0 : ("Disk" : Str) ∈ [("Disk" : Str)] := List.mem_singleton.mpr rfl
    have z3 : (3 : Nat) < 1000 := by decide
    have g0 : (h1 ++ [AO.dct []])[nD]? = some (.ins "Disk" (diskF nK nW)) := by rw [List.getElem?_append_left (by omega)]; exact gI1
    simp only [v_sFld, v_mDNew, Res.toS_ok, v_mV, List.getElem?_cons_zero, g0, n0, df_len, z3, and_self, if_true, l1, df_putW, hh2]
  have c3 := tellM_ok (G := [a2, a3]) gI2
  refine ⟨h2, h.length, ⟨rfl, by rw [hh2]; simp [l1], fun m hm q1 q2 => by rw [hh2, List.getElem?_set_ne (Ne.symm q1), List.getElem?_append_left (by omega), hh1, List.getElem?_set_ne (Ne.symm q2)]⟩, ?_, ⟨gI2, ?_, ?_, by simp, by simp, by simp, by simp, by simp, by simp, b1, b2, by omega, by simp⟩, ?_⟩
  · have eb : b_Disk_barrier [some (.loc nD), none, none] h = .next [some (.loc nD), a2, a3] h2 := by
      have eq : b_Disk_barrier = (sSeq (sForD pickI (.tp [(.nm 1), (.nm 2)]) (mFld ["Disk"] "writes" (mV 0)) (sSeq (sSub (mFld ["Disk"] "kept" (mV 0)) (mV 1) (mOp2 fIx (mV 2) (mOp1 fNeg (mC (.int 1))))) sNil)) (sSeq (sFldM ["Disk"] "writes" (mV 0) mDNew) (sSeq (sExpr (mMeth [("Disk", m_Disk_tell)] "tell" (mV 0) aNil)) sNil))) := rfl
      rw [eq]
      simp only [v_sSeq, c1, SR.andThen_next, c2, v_sExpr, c3, Res.toS_ok, v_sNil]
    simp [m_Disk_barrier, mDefK, eb]
  · rw [hh2, List.getElem?_set_ne d.dk, List.getElem?_append_left (by omega), hh1, List.getElem?_set_self lK]
  · rw [hh2, List.getElem?_set_ne (by omega), ← l1, g_app0]
    rfl
  · rw [hh2, List.take_set_of_le b1, List.take_append_of_le_length (by omega), hh1, List.take_set_of_le b2]
/-- a disk with this state, as if all was written -/
structure Dsk (h : AH) (b nD : Nat) (c : List (Option Val)) (m : Nat) : Prop where
  ex : ∃ nK nW K ws, DskAt h b nD nK nW K ws ∧ cur K ws = c ∧ Bd ws m
theorem makeM_ok {G : AB.Env} {i : Nat} (hi : G[i]? = some (some (.tup (K.map hvD)))) (h1 : 1 ≤ K.length) (h2 : K.length ≤ 64) (hK : ∀ o ∈ K, HOkV o) (h : AH) :
    ∃ t, (mMake "Disk" m_Disk___init__ (aCons (mV i) aNil)) G h = .ok (.loc h.length) (h ++ t) ∧ Dsk (h ++ t) h.length h.length K 0 := by
  refine ⟨_, ?_, ⟨_, _, K, [], make_ok h1 h2 h, cur_nil _, by simp, by simp⟩⟩
  simp only [v_mMake, v_aCons, v_aNil, v_mV, hi, Res.bind_ok, init_ok h1 h2 hK]
theorem nowM_ok {G : AB.Env} {c : List (Option Val)} {m : Nat} (dd : Dsk h b nD c m) (hm : m ≤ 1000) (hc : c.length ≤ 1000) {i : Nat} (hi : G[i]? = some (some (.loc nD))) : (mMeth [("Disk", m_Disk_now)] "now" (mV i) aNil) G h = .ok (.tup (c.map hvD)) h := by
  obtain ⟨nK, nW, K, ws, d, rfl, hb⟩ := dd.ex
  have e0 : List.lookup ("Disk" : Str) [(("Disk" : Str), m_Disk_now)] = some m_Disk_now := lookup_eq'
  rw [cur_len] at hc
  simp only [v_mMeth, v_mV, hi, Res.bind_ok, d.ins, e0, df_now, v_aNil, now_ok d (Nat.le_trans hb.1 hm) hc]
end
end My
/-! in_order -/
namespace My
open PySem AB L2
def vsOf (L : List (Option Val)) : List Val := L.filterMap id
def ordV (L : List (Option Val)) : List (Option Val) := (if (vsOf L).length < L.length then [none] else []) ++ (srt (vsOf L)).map some
theorem vsOf_map (L : List (Option Val)) : (L.filter (·.isSome)).map hvD = (vsOf L).map vD := by
  induction L with
  | nil => rfl
  | cons o L ih => cases o with
    | none => simpa [vsOf] using ih
    | some v =>
      have e : vsOf (some v :: L) = v :: vsOf L := rfl
      rw [e, List.filter_cons_of_pos (by rfl), List.map_cons, List.map_cons, ih]
      rfl
theorem vsOf_le (L : List (Option Val)) : (vsOf L).length ≤ L.length := List.length_filterMap_le _ _
theorem notN_hv {h : AH} (o : Option Val) : fNotN (hvD o) .non h = .ok (.bl o.isSome) h := by cases o <;> rfl
noncomputable def valsM (i j : Nat) : Me := mL (lN fSorted (aCons (mL (lComp (.nm j) [j] (iSeq (mV i)) (tBl (mOp2 fNotN (mV j) (mC .non))) (mV j))) aNil))
theorem comp_vals {h : AH} {src : Option Nat} {all0 : List D} (hs : Still src all0 h) {G : AB.Env} {j : Nat} (hj : j < G.length) (L : List (Option Val)) :
    compGo (.nm j) (tBl (mOp2 fNotN (mV j) (mC .non))) (mV j) src all0 G (L.map hvD) h = .ok ((vsOf L).map vD) h := by
  rw [comp_okS hs hvD (·.isSome) hvD L (fun o _ => ⟨G.set j (some (hvD o)), ?_, ?_, fun _ => ?_⟩), vsOf_map]
  · rfl
  · have e : (G.set j (some (hvD o)))[j]? = some (some (hvD o)) := List.getElem?_set_self hj
    simp only [v_tBl, v_mOp2, v_mV, e, v_mC, Res.bind_ok, notN_hv]
  · have e : (G.set j (some (hvD o)))[j]? = some (some (hvD o)) := List.getElem?_set_self hj
    simp only [v_mV, e]
theorem in_order_ok {h : AH} (L : List (Option Val)) (hl : L.length ≤ 1000) : m_in_order [.lst (L.map hvD)] h = .ok (.tup ((ordV L).map hvD)) h := by
  have lv := vsOf_le L
  have e1 : (mL (lN fSorted (aCons (mL (lComp (.nm 2) [2] (iSeq (mV 0)) (tBl (mOp2 fNotN (mV 2) (mC .non))) (mV 2))) aNil))) [some (.lst (L.map hvD)), none, none] h = .ok (.lst ((srt (vsOf L)).map vD)) h := by
    have c := comp_vals (h := h) (src := none) (all0 := L.map hvD) (by trivial) (G := [some (.lst (L.map hvD)), none, none]) (j := 2) (by simp) L
    have hb : (L.map hvD).length ≤ big := by rw [List.length_map, big_eq]; omega
    have i1 : (iSeq (mV 0)) [some (.lst (L.map hvD)), none, none] h = .ok (L.map hvD, none) h := by simp
    have w : wipeG [some (.lst (L.map hvD)), none, none] [2] = [some (.lst (L.map hvD)), none, none] := rfl
    simp only [v_mL, v_lN, v_aCons, v_lComp, i1, Res.bind_ok, hb, if_true, w, c, v_aNil]
    rw [sorted_ok (by omega)]
    rfl
  have eq : b_in_order = (sSeq (sSet 1 (mL (lN fSorted (aCons (mL (lComp (.nm 2) [2] (iSeq (mV 0)) (tBl (mOp2 fNotN (mV 2) (mC .non))) (mV 2))) aNil)))) (sSeq (sIf (tBl (mOp2 cLt (mN fLen (aCons (mV 1) aNil)) (mN fLen (aCons (mV 0) aNil)))) (sSeq (sRet (mOp2 fAdd (mN fTup (aCons (mC .non) aNil)) (mN fTuple (aCons (mV 1) aNil)))) sNil) sNil) (sSeq (sRet (mN fTuple (aCons (mV 1) aNil))) sNil))) := rfl
  have ev : ∀ vs : List Val, vs.map vD = (vs.map some).map hvD := fun vs => by rw [List.map_map]; rfl
  by_cases c : (vsOf L).length < L.length
  · have ed : decide (((vsOf L).length : Int) < (L.length : Int)) = true := by simp; omega
    have eb : b_in_order [some (.lst (L.map hvD)), none, none] h = .ret (.tup ((ordV L).map hvD)) h := by
      rw [eq]
      simp only [v_sSeq, v_sSet, e1, Res.toS_ok, List.set_cons_succ, List.set_cons_zero, SR.andThen_next]
      unfold ordV
      rw [if_pos c]
      have b1 : (1 : Nat) ≤ big := by decide
      have b2 : 1 + (vsOf L).length ≤ big := by rw [big_eq]; omega
      simp [srt_len, c, ev, hvD, b1, b2]
    simp [m_in_order, mDef, eb]
  · have eb : b_in_order [some (.lst (L.map hvD)), none, none] h = .ret (.tup ((ordV L).map hvD)) h := by
      rw [eq]
      simp only [v_sSeq, v_sSet, e1, Res.toS_ok, List.set_cons_succ, List.set_cons_zero, SR.andThen_next]
      unfold ordV
      rw [if_neg c]
      simp [srt_len, c, ev]
    simp [m_in_order, mDef, eb]
end My
/-! the order asks for the members alone -/
namespace My
open PySem AB L2
theorem perm_of_mem {α : Type} [DecidableEq α] {a b : List α} (h1 : a.Nodup) (h2 : b.Nodup) (h : ∀ x, x ∈ a ↔ x ∈ b) : a.Perm b := (List.perm_ext_iff_of_nodup h1 h2).mpr h
theorem vle_anti (a b : Val) (h1 : vle a b = true) (h2 : vle b a = true) : a = b := by
  unfold vle at h1 h2
  exact List.le_antisymm (of_decide_eq_true h1) (of_decide_eq_true h2)
theorem sorted_eq : ∀ {a b : List Val}, a.Perm b → a.Pairwise (fun u v => vle u v = true) → b.Pairwise (fun u v => vle u v = true) → a = b
  | [], b, p, _, _ => (List.nil_perm.mp p).symm
  | x :: a, [], p, _, _ => absurd (List.perm_nil.mp p) (by simp)
  | x :: a, y :: b, p, g1, g2 => by
    obtain ⟨x1, h1⟩ := List.pairwise_cons.mp g1
    obtain ⟨y1, h2⟩ := List.pairwise_cons.mp g2
    have hx : x = y := by
      rcases List.mem_cons.mp (p.mem_iff.mp List.mem_cons_self) with q | q
      · exact q
      · rcases List.mem_cons.mp (p.mem_iff.mpr List.mem_cons_self) with z | z
        · exact z.symm
        · exact vle_anti x y (x1 y z) (y1 x q)
    subst hx
    exact congrArg (x :: ·) (sorted_eq (List.Perm.cons_inv p) h1 h2)
theorem srt_perm {a b : List Val} (p : a.Perm b) : srt a = srt b :=
  sorted_eq (((List.mergeSort_perm a vle).trans p).trans (List.mergeSort_perm b vle).symm) (List.pairwise_mergeSort (le := vle) vle_trans vle_total a) (List.pairwise_mergeSort (le := vle) vle_trans vle_total b)
theorem ordV_perm {a b : List (Option Val)} (p : a.Perm b) : ordV a = ordV b := by
  unfold ordV
  have q : (vsOf a).Perm (vsOf b) := p.filterMap id
  rw [q.length_eq, p.length_eq, srt_perm q]
theorem ordV_mem {a b : List (Option Val)} (h1 : a.Nodup) (h2 : b.Nodup) (h : ∀ x, x ∈ a ↔ x ∈ b) : ordV a = ordV b := ordV_perm (perm_of_mem h1 h2 h)
theorem putHk_mem {ks : List (Option Val)} {k x : Option Val} : x ∈ putHk ks k ↔ x ∈ ks ∨ x = k := by
  unfold putHk
  split
  · rename_i c
    constructor
    · exact .inl
    · rintro (h | rfl)
      · exact h
      · exact c
  · simp
theorem putHk_nodup {ks : List (Option Val)} {k : Option Val} (h : ks.Nodup) : (putHk ks k).Nodup := by
  unfold putHk
  split
  · exact h
  · rename_i c
    rw [List.nodup_append]
    refine ⟨h, by simp, fun a ha b hb => ?_⟩
    rw [List.mem_singleton.mp hb]
    rintro rfl
    exact c ha
theorem putHk_len (ks : List (Option Val)) (k : Option Val) : (putHk ks k).length ≤ ks.length + 1 := by
  unfold putHk
  split
  · omega
  · simp
/-- the keys that a sector's dict holds -/
noncomputable def keysOf (o : Option Val) (vs : List Val) (n : Bool) : List (Option Val) :=
  let base := vs.foldl (fun ks v => putHk ks (some v)) [o]
  if n then putHk base none else base
theorem fold_mem (vs : List Val) : ∀ (ks : List (Option Val)) (x : Option Val), x ∈ vs.foldl (fun ks v => putHk ks (some v)) ks ↔ x ∈ ks ∨ x ∈ vs.map some := by
  induction vs with
  | nil => intro ks x; simp
  | cons v vs ih =>
    intro ks x
    rw [List.foldl_cons, ih, putHk_mem, List.map_cons, List.mem_cons, or_assoc]
theorem fold_nodup (vs : List Val) : ∀ (ks : List (Option Val)), ks.Nodup → (vs.foldl (fun ks v => putHk ks (some v)) ks).Nodup := by
  induction vs with
  | nil => intro ks h; exact h
  | cons v vs ih => intro ks h; exact ih _ (putHk_nodup h)
theorem fold_len (vs : List Val) : ∀ (ks : List (Option Val)), (vs.foldl (fun ks v => putHk ks (some v)) ks).length ≤ ks.length + vs.length := by
  induction vs with
  | nil => intro ks; simp
  | cons v vs ih =>
    intro ks
    have := ih (putHk ks (some v))
    have := putHk_len ks (some v)
    rw [List.foldl_cons, List.length_cons]
    omega
theorem keysOf_mem {o : Option Val} {vs : List Val} {n : Bool} {x : Option Val} : x ∈ keysOf o vs n ↔ x = o ∨ x ∈ vs.map some ∨ (n = true ∧ x = none) := by
  unfold keysOf
  cases n with
  | true => simp only [if_true, putHk_mem, fold_mem, List.mem_singleton, true_and, or_assoc]
  | false => simp only [Bool.false_eq_true, if_false, fold_mem, List.mem_singleton, false_and, or_false]
theorem keysOf_nodup (o : Option Val) (vs : List Val) (n : Bool) : (keysOf o vs n).Nodup := by
  unfold keysOf
  have h := fold_nodup vs [o] (by simp)
  cases n with
  | true => exact putHk_nodup h
  | false => exact h
theorem keysOf_len (o : Option Val) (vs : List Val) (n : Bool) : (keysOf o vs n).length ≤ vs.length + 2 := by
  have h := fold_len vs [o]
  have e1 : [o].length = 1 := rfl
  rw [e1] at h
  cases n with
  | true => exact Nat.le_trans (putHk_len _ none) (Nat.le_trans (Nat.succ_le_succ h) (by omega))
  | false => exact Nat.le_trans h (by omega)
end My
/-! the keys of a sector's dict -/
namespace My
open PySem AB L2
theorem intsD_ints : ∀ v : List Int, intsD (v.map D.int) = some v
  | [] => rfl
  | k :: v => by
    show (intsD (v.map D.int)).map (fun is => k :: is) = _
    rw [intsD_ints v]
    rfl
theorem toHk_hv (o : Option Val) : toHk (hvD o) = some o := by
  cases o with
  | none => rfl
  | some v =>
    show (intsD (v.map D.int)).map some = _
    rw [intsD_ints v]
    rfl
theorem hkD_hv (o : Option Val) : hkD o = hvD o := by cases o <;> rfl
theorem set_mid (hh tl : AH) (x y : AO) : (hh ++ x :: tl).set hh.length y = hh ++ y :: tl := s_app0 hh (x :: tl) y
theorem get_mid (hh tl : AH) (x : AO) : (hh ++ x :: tl)[hh.length]? = some x := g_app0 hh (x :: tl)
theorem put_ok {G : AB.Env} {hh tl : AH} {ks : List (Option Val)} {k : Option Val} {i : Nat} {mk : Me} (hl : ks.length < big) (hi : G[i]? = some (some (.loc hh.length))) (hm : mk G (hh ++ .hld ks :: tl) = .ok (hvD k) (hh ++ .hld ks :: tl)) :
    sHPut (mV i) mk (mC (.bl true)) G (hh ++ .hld ks :: tl) = .next G (hh ++ .hld (putHk ks k) :: tl) := by
  unfold sHPut
  simp only [v_mC, Res.toS_ok, v_mV, hi, hm, get_mid, toHk_hv, hl, if_true, set_mid]
theorem disp_ok {G : AB.Env} {hh : AH} {o : Option Val} {i : Nat} (hi : G[i]? = some (some (hvD o))) : (mHDisp (mV i) (mC (.bl true))) G hh = .ok (.loc hh.length) (hh ++ [.hld [o]]) := by
  unfold mHDisp
  simp only [v_mV, hi, Res.noX_ok, Res.bind_ok, v_mC, toHk_hv]
/-- the loop over the values that wait -/
theorem puts_ok {hh tl : AH} {src : Option Nat} {vs : List Val} (hs : ∀ ks : List (Option Val), Still src (vs.map vD) (hh ++ .hld ks :: tl)) (hl : vs.length ≤ 10000) {o : Option Val} {g0 g1 g2 g3 g4 g5 g7 : Option D} :
    ∃ g7', forGo (.nm 7) (sSeq (sHPut (mV 6) (mV 7) (mC (.bl true))) sNil) src (vs.map vD) (vs.map vD) [g0, g1, g2, g3, g4, g5, some (.loc hh.length), g7] (hh ++ .hld [o] :: tl) =
      .next [g0, g1, g2, g3, g4, g5, some (.loc hh.length), g7'] (hh ++ .hld (vs.foldl (fun ks v => putHk ks (some v)) [o]) :: tl) := by
  obtain ⟨G', h', e, g7', rfl, rfl⟩ := for_preS (p := .nm 7) (body := sSeq (sHPut (mV 6) (mV 7) (mC (.bl true))) sNil) (all0 := vs.map vD) (src := src)
    (fun done G h => ∃ g7', G = [g0, g1, g2, g3, g4, g5, some (.loc hh.length), g7'] ∧ h = hh ++ .hld (done.foldl (fun ks v => putHk ks (some v)) [o]) :: tl)
    (by rintro done G h ⟨_, _, rfl⟩; exact hs _) vD vs vs [] rfl
    (by
      rintro done v rest ed G h ⟨g7', rfl, rfl⟩
      refine ⟨[g0, g1, g2, g3, g4, g5, some (.loc hh.length), some (vD v)], [g0, g1, g2, g3, g4, g5, some (.loc hh.length), some (vD v)], hh ++ .hld ((done ++ [v]).foldl (fun ks v => putHk ks (some v)) [o]) :: tl, rfl, ?_, _, rfl, rfl⟩
      have h1 := fold_len done [o]
      have h2 : done.length ≤ vs.length := by rw [← ed, List.length_append]; omega
      have e1 : [o].length = 1 := rfl
      rw [e1] at h1
      have hlb : (done.foldl (fun ks v => putHk ks (some v)) [o]).length < big := Nat.lt_of_le_of_lt h1 (by rw [big_eq]; omega)
      have p := put_ok (G := [g0, g1, g2, g3, g4, g5, some (.loc hh.length), some (vD v)]) (tl := tl) (i := 6) (mk := mV 7) (k := some v) hlb rfl rfl
      rw [List.foldl_append]
      simp only [v_sSeq, p, SR.andThen_next, v_sNil]
      rfl)
    [g0, g1, g2, g3, g4, g5, some (.loc hh.length), g7] _ ⟨g7, rfl, rfl⟩
  exact ⟨g7', e⟩
theorem hlist_ok {hh tl : AH} {ks : List (Option Val)} : fHList [.loc hh.length] (hh ++ .hld ks :: tl) = .ok (ks.map hvD) (hh ++ .hld ks :: tl) := by
  unfold fHList
  have e : ks.map hkD = ks.map hvD := List.map_congr_left fun o _ => hkD_hv o
  simp only [get_mid]
  rw [e]
end My
/-! one sector's lot -/
namespace My
open PySem AB L2
def vsAt (ws : List WEnt) (i : Nat) : List Val := match ws.find? fun e => decide (e.s = i) with
  | some e => e.vs
  | none => []
def hasW (ws : List WEnt) (i : Nat) : Bool := (ws.find? fun e => decide (e.s = i)).isSome
noncomputable def lotOf (K : List (Option Val)) (ws : List WEnt) (tr : Bool) (i : Nat) : List (Option Val) := ordV (keysOf (K.getD i none) (vsAt ws i) (tr && hasW ws i))
noncomputable def lotD (K : List (Option Val)) (ws : List WEnt) (tr : Bool) (i : Nat) : D := .tup ((lotOf K ws tr i).map hvD)
noncomputable def getM : Im := iSeq (mDGet2 (mV 1) (mV 4) (mNew (lLst aNil)))
noncomputable def putsM : Ms := sSeq (sHPut (mV 6) (mV 7) (mC (.bl true))) sNil
noncomputable def noneM : Ms := sIf (tAndM (tOf (mV 2)) (tBl (mOp2 fDIn (mV 4) (mV 1)))) (sSeq (sHPut (mV 6) (mC .non) (mC (.bl true))) sNil) sNil
noncomputable def appM : Ms := sExpr (mBM fApp (mV 3) (aCons (mN m_in_order (aCons (mL (lN fHList (aCons (mV 6) aNil))) aNil)) aNil))
noncomputable def lotM : Ms := sSeq (sSet 6 (mHDisp (mV 5) (mC (.bl true)))) (sSeq (sFor (.nm 7) getM putsM) (sSeq noneM (sSeq appM sNil)))
theorem get_ok {hh tl : AH} {ws : List WEnt} {nW i : Nat} {g0 g2 g3 g5 g6 g7 : Option D} (gW : hh[nW]? = some (.dct (ws.map wKD))) (gC : ∀ e ∈ ws, hh[e.l]? = some (.lst (e.vs.map vD))) :
    ∃ src, getM [g0, some (.loc nW), g2, g3, some (.int i), g5, g6, g7] hh = .ok ((vsAt ws i).map vD, src) (hh ++ [.lst []]) ∧ ∃ n, src = some n ∧ ((hh ++ [AO.lst []])[n]? = some (.lst ((vsAt ws i).map vD)) ∧ (n < hh.length ∧ (∃ e ∈ ws, n = e.l) ∨ n = hh.length)) := by
  have b0 : (0 : Nat) ≤ big := by decide
  have d0 : dctAt hh nW = some (ws.map wKD) := by unfold dctAt; rw [gW]
  have g1 : (hh ++ [AO.lst []])[nW]? = some (.dct (ws.map wKD)) := by rw [List.getElem?_append_left (lt_of_get gW)]; exact gW
  have d1 : dctAt (hh ++ [AO.lst []]) nW = some (ws.map wKD) := by unfold dctAt; rw [g1]
  have gN : (hh ++ [AO.lst []])[hh.length]? = some (.lst []) := g_app0 hh [.lst []]
  have ev := valD_w ws i
  unfold getM vsAt
  cases hf : ws.find? (fun e => decide (e.s = i)) with
  | some e =>
    have he : e ∈ ws := List.mem_of_find?_eq_some hf
    have ge : (hh ++ [AO.lst []])[e.l]? = some (.lst (e.vs.map vD)) := by rw [List.getElem?_append_left (lt_of_get (gC e he))]; exact gC e he
    rw [hf] at ev
    refine ⟨some e.l, ?_, e.l, rfl, ge, .inl ⟨lt_of_get (gC e he), e, he, rfl⟩⟩
    rw [v_iSeq]
    unfold mDGet2
    simp only [v_mV, List.getElem?_cons_succ, List.getElem?_cons_zero, Res.bind_ok, d0, v_mNew, v_lLst, v_aNil, List.length_nil, b0, if_true, d1, v_keyI, ev, Option.map_some, Option.getD_some, ge]
  | none =>
    rw [hf] at ev
    refine ⟨some hh.length, ?_, hh.length, rfl, gN, .inr rfl⟩
    rw [v_iSeq]
    unfold mDGet2
    simp only [v_mV, List.getElem?_cons_succ, List.getElem?_cons_zero, Res.bind_ok, d0, v_mNew, v_lLst, v_aNil, List.length_nil, b0, if_true, d1, v_keyI, ev, Option.map_none, Option.getD_none, gN, List.map_nil]
end My
/-! one sector's lot, whole -/
namespace My
open PySem AB L2
theorem set_left (hh tl : AH) (n : Nat) (x : AO) (hn : n < hh.length) : (hh ++ tl).set n x = hh.set n x ++ tl := by
  rw [List.set_append]
  simp [hn]
theorem vsAt_le {ws : List WEnt} {m : Nat} (hb : Bd ws m) (i : Nat) : (vsAt ws i).length ≤ m := by
  unfold vsAt
  split
  · rename_i e hf
    exact hb.2 e (List.mem_of_find?_eq_some hf)
  · exact Nat.zero_le _
theorem lot_ok {hh : AH} {K : List (Option Val)} {ws : List WEnt} {nW i F : Nat} {tr : Bool} {fs : List D} {g0 g6 g7 : Option D} (gW : hh[nW]? = some (.dct (ws.map wKD))) (gC : ∀ e ∈ ws, hh[e.l]? = some (.lst (e.vs.map vD))) (gF : hh[F]? = some (.lst fs)) (hF : fs.length < big) (hb : Bd ws 900) :
    ∃ t g7', lotM [g0, some (.loc nW), some (.bl tr), some (.loc F), some (.int i), some (hvD (K.getD i none)), g6, g7] hh =
      .next [g0, some (.loc nW), some (.bl tr), some (.loc F), some (.int i), some (hvD (K.getD i none)), some (.loc hh.length), g7'] (hh.set F (.lst (fs ++ [lotD K ws tr i])) ++ t) := by
  have hv := vsAt_le hb i
  have lF := lt_of_get gF
  have lW := lt_of_get gW
  obtain ⟨o, ho⟩ : ∃ o, o = K.getD i none := ⟨_, rfl⟩
  rw [← ho]
  have c1 := disp_ok (G := [g0, some (.loc nW), some (.bl tr), some (.loc F), some (.int i), some (hvD o), g6, g7]) (hh := hh) (i := 5) (o := o) rfl
  have gA : ∀ (x : AO) (m : Nat), m < hh.length → (hh ++ [x])[m]? = hh[m]? := fun x m hm => List.getElem?_append_left hm
  have gB : ∀ (t : AH) (m : Nat), m < hh.length → (hh ++ t)[m]? = hh[m]? := fun t m hm => List.getElem?_append_left hm
  obtain ⟨src, c2, n, rfl, gn, hn⟩ := get_ok (hh := hh ++ [.hld [o]]) (tl := []) (i := i) (g0 := g0) (g2 := some (.bl tr)) (g3 := some (.loc F)) (g5 := some (hvD o)) (g6 := some (.loc hh.length)) (g7 := g7)
    (by rw [gA _ _ lW]; exact gW) (fun e he => by rw [gA _ _ (lt_of_get (gC e he))]; exact gC e he)
  have ea : ∀ x y : AO, (hh ++ [x]) ++ [y] = hh ++ x :: [y] := fun x y => by simp
  rw [ea] at c2 gn
  have hs : ∀ ks : List (Option Val), Still (some n) ((vsAt ws i).map vD) (hh ++ .hld ks :: [.lst []]) := by
    intro ks
    show (hh ++ AO.hld ks :: [.lst []])[n]? = _
    rcases hn with ⟨_, e, he, rfl⟩ | rfl
    · have le := lt_of_get (gC e he)
      rw [gB _ _ le] at gn ⊢
      exact gn
    · have z : (hh ++ [AO.hld [o]]).length = hh.length + 1 := by simp
      rw [z] at gn ⊢
      have e1 : ∀ x : AO, (hh ++ x :: [AO.lst []])[hh.length + 1]? = some (.lst []) := fun x => g_app hh (x :: [.lst []]) 1
      rw [e1] at gn ⊢
      exact gn
  obtain ⟨g7', c3⟩ := puts_ok (hh := hh) (tl := [.lst []]) (src := some n) (vs := vsAt ws i) hs (by omega) (o := o) (g0 := g0) (g1 := some (.loc nW)) (g2 := some (.bl tr)) (g3 := some (.loc F)) (g4 := some (.int i)) (g5 := some (hvD o)) (g7 := g7)
  obtain ⟨base, hbase⟩ : ∃ base, base = (vsAt ws i).foldl (fun ks v => putHk ks (some v)) [o] := ⟨_, rfl⟩
  rw [← hbase] at c3
  have lb : base.length < big := by
    have h1 := fold_len (vsAt ws i) [o]
    rw [← hbase] at h1
    have e1 : [o].length = 1 := rfl
    rw [e1] at h1
    exact Nat.lt_of_le_of_lt h1 (by rw [big_eq]; omega)
  have c4 : noneM [g0, some (.loc nW), some (.bl tr), some (.loc F), some (.int i), some (hvD o), some (.loc hh.length), g7'] (hh ++ .hld base :: [.lst []]) =
      .next [g0, some (.loc nW), some (.bl tr), some (.loc F), some (.int i), some (hvD o), some (.loc hh.length), g7'] (hh ++ .hld (keysOf o (vsAt ws i) (tr && hasW ws i)) :: [.lst []]) := by
    have d1 : dctAt (hh ++ .hld base :: [.lst []]) nW = some (ws.map wKD) := by unfold dctAt; rw [gB _ _ lW, gW]
    have ein : fDIn (.int i) (.loc nW) (hh ++ .hld base :: [.lst []]) = .ok (.bl (hasW ws i)) (hh ++ .hld base :: [.lst []]) := by
      unfold fDIn hasW
      simp only [d1, v_keyI, valD_w, Option.isSome_map]
    have p := put_ok (G := [g0, some (.loc nW), some (.bl tr), some (.loc F), some (.int i), some (hvD o), some (.loc hh.length), g7']) (hh := hh) (tl := [.lst []]) (ks := base) (k := none) (i := 6) (mk := mC .non) lb rfl rfl
    unfold noneM keysOf
    rw [← hbase]
    cases tr with
    | false => simp only [v_sIf, v_tAnd, v_tOf, v_mV, List.getElem?_cons_succ, List.getElem?_cons_zero, Res.bind_ok, v_truB, Bool.false_eq_true, if_false, Res.toS_ok, v_sNil, Bool.false_and]
    | true =>
      cases hw : hasW ws i with
      | false => simp only [v_sIf, v_tAnd, v_tOf, v_tBl, v_mOp2, v_mV, List.getElem?_cons_succ, List.getElem?_cons_zero, Res.bind_ok, v_truB, if_true, ein, hw, Bool.false_eq_true, if_false, Res.toS_ok, v_sNil, Bool.and_false]
      | true => simp only [v_sIf, v_tAnd, v_tOf, v_tBl, v_mOp2, v_mV, List.getElem?_cons_succ, List.getElem?_cons_zero, Res.bind_ok, v_truB, if_true, ein, hw, Res.toS_ok, v_sNil, Bool.and_true, v_sSeq, p, SR.andThen_next]
  have kl : (keysOf o (vsAt ws i) (tr && hasW ws i)).length ≤ 1000 := Nat.le_trans (keysOf_len _ _ _) (by omega)
  have c5 : appM [g0, some (.loc nW), some (.bl tr), some (.loc F), some (.int i), some (hvD o), some (.loc hh.length), g7'] (hh ++ .hld (keysOf o (vsAt ws i) (tr && hasW ws i)) :: [.lst []]) =
      .next [g0, some (.loc nW), some (.bl tr), some (.loc F), some (.int i), some (hvD o), some (.loc hh.length), g7'] (hh.set F (.lst (fs ++ [lotD K ws tr i])) ++ (.hld (keysOf o (vsAt ws i) (tr && hasW ws i)) :: [.lst []])) := by
    have gF2 : (hh ++ AO.hld (keysOf o (vsAt ws i) (tr && hasW ws i)) :: [.lst []])[F]? = some (.lst fs) := by rw [gB _ _ lF]; exact gF
    have el : lotD K ws tr i = .tup ((ordV (keysOf o (vsAt ws i) (tr && hasW ws i))).map hvD) := by unfold lotD lotOf; rw [← ho]
    unfold appM
    simp only [v_sExpr, v_mBM, v_mV, List.getElem?_cons_succ, List.getElem?_cons_zero, Res.bind_ok, v_vLo, gF2, v_aCons, v_aNil, v_mN, v_mL, v_lN, hlist_ok, in_order_ok _ kl, v_app, hF, if_true, Res.toS_ok, set_left _ _ _ _ lF, el]
  refine ⟨.hld (keysOf o (vsAt ws i) (tr && hasW ws i)) :: [.lst []], g7', ?_⟩
  unfold lotM
  have c3' : forGo (.nm 7) putsM (some n) ((vsAt ws i).map vD) ((vsAt ws i).map vD) [g0, some (.loc nW), some (.bl tr), some (.loc F), some (.int i), some (hvD o), some (.loc hh.length), g7] (hh ++ .hld [o] :: [.lst []]) = _ := c3
  simp only [v_sSeq, v_sSet, c1, Res.toS_ok, List.set_cons_succ, List.set_cons_zero, SR.andThen_next, v_sFor, c2, c3', c4, c5, v_sNil]
end My
/-! lots_from -/
namespace My
open PySem AB L2
def encK (K : List (Option Val)) (i : Nat) : D := .tup [.int (i : Int), hvD (K.getD i none)]
theorem enum_K (K : List (Option Val)) : enumD (K.map hvD) = (List.range K.length).map (encK K) := by
  rw [enumD_eq, List.length_map]
  refine List.map_congr_left fun i hi => ?_
  have hi := List.mem_range.mp hi
  show D.tup [D.int (i : Int), (K.map hvD).getD i D.non] = _
  unfold encK
  rw [List.getD_eq_getElem?_getD, List.getD_eq_getElem?_getD, List.getElem?_map, List.getElem?_eq_getElem hi]
  rfl
theorem under_hvs (n : Nat) (os : List (Option Val)) : underL n (os.map hvD) = true := by
  induction os with
  | nil => simp [underL]
  | cons o os ih => simp [underL, ih, under_hv]
theorem under_lots (n : Nat) (K : List (Option Val)) (ws : List WEnt) (tr : Bool) (is : List Nat) : underL n (is.map (lotD K ws tr)) = true := by
  induction is with
  | nil => simp [underL]
  | cons i is ih =>
    have e : (lotD K ws tr i).under n = true := by
      unfold lotD
      simp only [D.under]
      exact under_hvs _ _
    simp [underL, ih, e]
section
variable {h : AH} {b nD nK nW : Nat} {K : List (Option Val)} {ws : List WEnt}
noncomputable def lotsD (K : List (Option Val)) (ws : List WEnt) (tr : Bool) : D := .tup ((List.range K.length).map (lotD K ws tr))
theorem lots_from_ok (d : DskAt h b nD nK nW K ws) (hb : Bd ws 900) (hK : K.length ≤ 1000) (tr : Bool) : m_lots_from [.loc nK, .loc nW, .bl tr] h = .ok (lotsD K ws tr) h := by
  have lW := lt_of_get d.wr
  have lK := lt_of_get d.kept
  have gA : ∀ (t : AH) (m : Nat), m < h.length → (h ++ t)[m]? = h[m]? := fun t m hm => List.getElem?_append_left hm
  obtain ⟨G', h', e1, g4, g5, g6, g7, t, rfl, rfl⟩ := for_preP (p := .tp [(.nm 4), (.nm 5)]) (body := lotM) (Cn := fun hh => hh[nK]? = some (.lst (K.map hvD)))
    (fun done G hh => ∃ g4 g5 g6 g7 t, G = [some (.loc nK), some (.loc nW), some (.bl tr), some (.loc h.length), g4, g5, g6, g7] ∧ hh = h ++ AO.lst (done.map (lotD K ws tr)) :: t)
    (by rintro done G hh ⟨_, _, _, _, t, _, rfl⟩; show (h ++ _)[nK]? = _; rw [gA _ _ lK]; exact d.kept) (encK K) (List.range K.length) (List.range K.length) [] rfl
    (by
      rintro done i rest ed G hh ⟨g4, g5, g6, g7, t, rfl, rfl⟩
      have hl : done.length < 1000 := by
        have := congrArg List.length ed
        rw [List.length_append, List.length_cons, List.length_range] at this
        omega
      obtain ⟨t', g7', e⟩ := lot_ok (hh := h ++ AO.lst (done.map (lotD K ws tr)) :: t) (K := K) (ws := ws) (nW := nW) (i := i) (F := h.length) (tr := tr) (fs := done.map (lotD K ws tr)) (g0 := some (.loc nK)) (g6 := g6) (g7 := g7)
        (by rw [gA _ _ lW]; exact d.wr) (fun e he => by rw [gA _ _ (lt_of_get (d.cells e he))]; exact d.cells e he) (get_mid _ _ _) (by rw [List.length_map, big_eq]; omega) hb
      refine ⟨_, _, _, rfl, e, _, _, _, _, t ++ t', rfl, ?_⟩
      rw [set_mid, List.map_append]
      simp)
    [some (.loc nK), some (.loc nW), some (.bl tr), some (.loc h.length), none, none, none, none] (h ++ AO.lst [] :: []) ⟨none, none, none, none, [], rfl, rfl⟩
  have b0 : (0 : Nat) ≤ big := by decide
  have gK : (h ++ AO.lst [] :: [])[nK]? = some (.lst (K.map hvD)) := by rw [gA _ _ lK]; exact d.kept
  have c1 : sForP (.tp [(.nm 4), (.nm 5)]) (iEnumL (aCons (mV 0) aNil)) lotM [some (.loc nK), some (.loc nW), some (.bl tr), some (.loc h.length), none, none, none, none] (h ++ AO.lst [] :: []) =
      .next [some (.loc nK), some (.loc nW), some (.bl tr), some (.loc h.length), g4, g5, g6, g7] (h ++ AO.lst ((List.range K.length).map (lotD K ws tr)) :: t) := by
    unfold sForP iEnumL
    simp only [v_aCons, v_aNil, v_mV, List.getElem?_cons_zero, Res.bind_ok, gK, Res.toS_ok, enum_K]
    exact e1
  have un : (lotsD K ws tr).under h.length = true := by
    unfold lotsD
    simp only [D.under]
    exact under_lots _ _ _ _ _
  have fin := finD_app h (AO.lst ((List.range K.length).map (lotD K ws tr)) :: t) (lotsD K ws tr) un
  have eb : b_lots_from [some (.loc nK), some (.loc nW), some (.bl tr), none, none, none, none, none] h = .ret (lotsD K ws tr) (h ++ AO.lst ((List.range K.length).map (lotD K ws tr)) :: t) := by
    have eq : b_lots_from = sSeq (sSet 3 (mNew (lLst aNil))) (sSeq (sForP (.tp [(.nm 4), (.nm 5)]) (iEnumL (aCons (mV 0) aNil)) lotM) (sSeq (sRet (mN fTuple (aCons (mV 3) aNil))) sNil)) := rfl
    rw [eq]
    simp only [v_sSeq, v_sSet, v_mNew, v_lLst, v_aNil, Res.bind_ok, List.length_nil, b0, if_true, Res.toS_ok, List.set_cons_succ, List.set_cons_zero, SR.andThen_next, c1, v_sRet, v_mN, v_aCons, v_mV, List.getElem?_cons_succ, List.getElem?_cons_zero, v_tuple, v_vSo, get_mid, SR.andThen_ret]
    rfl
  simp [m_lots_from, mDef, eb, fin]
end
end My
/-! the law's own lots, plain -/
namespace My
open PySem AB L2
noncomputable def stepT (tr : Bool) (i : Nat) (ks : List (Option Val)) (p : Nat × Val) : List (Option Val) :=
  if p.1 = i then (if tr = true then putHk (putHk ks (some p.2)) none else putHk ks (some p.2)) else ks
noncomputable def thingsOf (o : Option Val) (W : List (Nat × Val)) (i : Nat) (tr : Bool) : List (Option Val) := W.foldl (stepT tr i) [o]
theorem stepT_mem {tr : Bool} {i : Nat} {ks : List (Option Val)} {p : Nat × Val} {x : Option Val} : x ∈ stepT tr i ks p ↔ x ∈ ks ∨ (p.1 = i ∧ (x = some p.2 ∨ (tr = true ∧ x = none))) := by
  unfold stepT
  by_cases c : p.1 = i
  · rw [if_pos c]
    cases tr with
    | true => simp only [if_true, putHk_mem, c, true_and, or_assoc]
    | false => simp only [Bool.false_eq_true, if_false, putHk_mem, c, true_and, false_and, or_false]
  · rw [if_neg c]
    simp [c]
theorem stepT_nodup {tr : Bool} {i : Nat} {ks : List (Option Val)} {p : Nat × Val} (h : ks.Nodup) : (stepT tr i ks p).Nodup := by
  unfold stepT
  split
  · split
    · exact putHk_nodup (putHk_nodup h)
    · exact putHk_nodup h
  · exact h
theorem stepT_len {tr : Bool} {i : Nat} {ks : List (Option Val)} {p : Nat × Val} : (stepT tr i ks p).length ≤ ks.length + 2 := by
  unfold stepT
  split
  · split
    · exact Nat.le_trans (putHk_len _ _) (Nat.succ_le_succ (putHk_len _ _))
    · exact Nat.le_trans (putHk_len _ _) (Nat.le_succ _)
  · exact Nat.le_add_right _ _
theorem foldT_mem (tr : Bool) (i : Nat) : ∀ (W : List (Nat × Val)) (ks : List (Option Val)) (x : Option Val), x ∈ W.foldl (stepT tr i) ks ↔ x ∈ ks ∨ ∃ p ∈ W, p.1 = i ∧ (x = some p.2 ∨ (tr = true ∧ x = none))
  | [], ks, x => by simp
  | p :: W, ks, x => by
    rw [List.foldl_cons, foldT_mem tr i W, stepT_mem, or_assoc]
    constructor
    · rintro (h | h | ⟨q, hq, h⟩)
      · exact .inl h
      · exact .inr ⟨p, List.mem_cons_self, h⟩
      · exact .inr ⟨q, List.mem_cons_of_mem _ hq, h⟩
    · rintro (h | ⟨q, hq, h⟩)
      · exact .inl h
      · rcases List.mem_cons.mp hq with rfl | hq
        · exact .inr (.inl h)
        · exact .inr (.inr ⟨q, hq, h⟩)
theorem foldT_nodup (tr : Bool) (i : Nat) : ∀ (W : List (Nat × Val)) (ks : List (Option Val)), ks.Nodup → (W.foldl (stepT tr i) ks).Nodup
  | [], ks, h => h
  | p :: W, ks, h => foldT_nodup tr i W _ (stepT_nodup h)
theorem foldT_len (tr : Bool) (i : Nat) : ∀ (W : List (Nat × Val)) (ks : List (Option Val)), (W.foldl (stepT tr i) ks).length ≤ ks.length + 2 * W.length
  | [], ks => by simp
  | p :: W, ks => by
    have h1 := foldT_len tr i W (stepT tr i ks p)
    have h2 := stepT_len (tr := tr) (i := i) (ks := ks) (p := p)
    rw [List.foldl_cons, List.length_cons]
    omega
/-- the books of the disk and the law's list of what waits -/
structure RelW (ws : List WEnt) (W : List (Nat × Val)) : Prop where
  at' : ∀ i, vsAt ws i = (W.filter fun p => decide (p.1 = i)).map (·.2)
  has : ∀ i, hasW ws i = true ↔ ∃ p ∈ W, p.1 = i
theorem lots_same {ws : List WEnt} {W : List (Nat × Val)} (r : RelW ws W) (o : Option Val) (i : Nat) (tr : Bool) : ordV (keysOf o (vsAt ws i) (tr && hasW ws i)) = ordV (thingsOf o W i tr) := by
  refine ordV_mem (keysOf_nodup _ _ _) (foldT_nodup tr i W [o] (by simp)) fun x => ?_
  unfold thingsOf
  rw [keysOf_mem, foldT_mem, r.at' i, List.mem_singleton, List.map_map, Bool.and_eq_true, r.has i]
  refine or_congr Iff.rfl ?_
  constructor
  · rintro (h | ⟨⟨ht, p, hp, hi⟩, rfl⟩)
    · obtain ⟨p, hp, rfl⟩ := List.mem_map.mp h
      obtain ⟨hp, hi⟩ := List.mem_filter.mp hp
      exact ⟨p, hp, of_decide_eq_true hi, .inl rfl⟩
    · exact ⟨p, hp, hi, .inr ⟨ht, rfl⟩⟩
  · rintro ⟨p, hp, hi, rfl | ⟨ht, rfl⟩⟩
    · exact .inl (List.mem_map.mpr ⟨p, List.mem_filter.mpr ⟨hp, decide_eq_true hi⟩, rfl⟩)
    · exact .inr ⟨⟨ht, p, hp, hi⟩, rfl⟩
theorem vsOf_lt (L : List (Option Val)) : (vsOf L).length < L.length ↔ none ∈ L := by
  induction L with
  | nil => simp [vsOf]
  | cons o L ih =>
    have h := vsOf_le L
    cases o with
    | none =>
      have e : vsOf (none :: L) = vsOf L := rfl
      rw [e, List.length_cons]
      constructor
      · intro _; exact List.mem_cons_self
      · intro _; omega
    | some v =>
      have e : vsOf (some v :: L) = v :: vsOf L := rfl
      rw [e, List.length_cons, List.length_cons, List.mem_cons]
      constructor
      · intro z; exact .inr (ih.mp (by omega))
      · rintro (z | z)
        · cases z
        · have := ih.mpr z; omega
theorem ordV_eq (L : List (Option Val)) : ordV L = (if none ∈ L then [none] else []) ++ (srt (vsOf L)).map some := by
  unfold ordV
  by_cases c : none ∈ L
  · rw [if_pos c, if_pos ((vsOf_lt L).mpr c)]
  · rw [if_neg c, if_neg fun z => c ((vsOf_lt L).mp z)]
end My
/-! the law's own lots: one thing that waits -/
namespace My
open PySem AB L2
def pD (p : Nat × Val) : D := .tup [.int (p.1 : Int), vD p.2]
theorem app_ok {G : AB.Env} {hh tl : AH} {ks : List (Option Val)} {k : Option Val} {i : Nat} {mk : Me} (hl : ks.length < 1000) (hi : G[i]? = some (some (.loc hh.length))) (hm : mk G (hh ++ AO.lst (ks.map hvD) :: tl) = .ok (hvD k) (hh ++ AO.lst (ks.map hvD) :: tl)) :
    sExpr (mBM fApp (mV i) (aCons mk aNil)) G (hh ++ AO.lst (ks.map hvD) :: tl) = .next G (hh ++ AO.lst ((ks ++ [k]).map hvD) :: tl) := by
  have hb : (ks.map hvD).length < big := by rw [List.length_map, big_eq]; omega
  simp only [v_sExpr, v_mBM, v_mV, hi, Res.bind_ok, v_vLo, get_mid, v_aCons, v_aNil, hm, v_app, hb, if_true, Res.toS_ok, set_mid, List.map_append, List.map_cons, List.map_nil]
theorem notin_ok {G : AB.Env} {hh tl : AH} {ks : List (Option Val)} {k : Option Val} {i : Nat} {mk : Me} (hi : G[i]? = some (some (.loc hh.length))) (hm : mk G (hh ++ AO.lst (ks.map hvD) :: tl) = .ok (hvD k) (hh ++ AO.lst (ks.map hvD) :: tl)) :
    (tBl (mOp2 fNotIn mk (mV i))) G (hh ++ AO.lst (ks.map hvD) :: tl) = .ok (!decide (k ∈ ks)) (hh ++ AO.lst (ks.map hvD) :: tl) := by
  have e := notin_hvO (h := hh ++ AO.lst (ks.map hvD) :: tl) (n := hh.length) (os := ks) (get_mid _ _ _) k
  simp only [v_tBl, v_mOp2, hm, Res.bind_ok, v_mV, hi, e]
noncomputable def addB (mk : Me) : Ms := sIf (tBl (mOp2 fNotIn mk (mV 5))) (sSeq (sExpr (mBM fApp (mV 5) (aCons mk aNil))) sNil) sNil
theorem addB_ok {G : AB.Env} {hh tl : AH} {ks : List (Option Val)} {k : Option Val} {mk : Me} (hl : ks.length < 1000) (hi : G[5]? = some (some (.loc hh.length))) (hm : ∀ h, mk G h = .ok (hvD k) h) :
    addB mk G (hh ++ AO.lst (ks.map hvD) :: tl) = .next G (hh ++ AO.lst ((putHk ks k).map hvD) :: tl) := by
  have e1 := notin_ok (ks := ks) (tl := tl) hi (hm _)
  have e2 := app_ok (ks := ks) (tl := tl) hl hi (hm _)
  unfold addB putHk
  by_cases c : k ∈ ks
  · rw [if_pos c]
    simp only [v_sIf, e1, c, decide_true, Bool.not_true, Res.toS_ok, Bool.false_eq_true, if_false, v_sNil]
  · rw [if_neg c]
    simp only [v_sIf, e1, c, decide_false, Bool.not_false, Res.toS_ok, if_true, v_sSeq, e2, SR.andThen_next, v_sNil]
noncomputable def addN : Ms := sIf (tAndM (tOf (mV 2)) (tBl (mOp2 fNotIn (mC .non) (mV 5)))) (sSeq (sExpr (mBM fApp (mV 5) (aCons (mC .non) aNil))) sNil) sNil
theorem addN_ok {G : AB.Env} {hh tl : AH} {ks : List (Option Val)} {tr : Bool} (hl : ks.length < 1000) (hi : G[5]? = some (some (.loc hh.length))) (h2 : G[2]? = some (some (.bl tr))) :
    addN G (hh ++ AO.lst (ks.map hvD) :: tl) = .next G (hh ++ AO.lst ((if tr = true then putHk ks none else ks).map hvD) :: tl) := by
  have e1 := notin_ok (ks := ks) (tl := tl) (k := none) (mk := mC .non) hi rfl
  have e2 := app_ok (ks := ks) (tl := tl) (k := none) (mk := mC .non) hl hi rfl
  unfold addN
  cases tr with
  | false => simp only [v_sIf, v_tAnd, v_tOf, v_mV, h2, Res.bind_ok, v_truB, Bool.false_eq_true, if_false, Res.toS_ok, v_sNil]
  | true =>
    simp only [v_sIf, v_tAnd, v_tOf, v_mV, h2, Res.bind_ok, v_truB, if_true, e1]
    unfold putHk
    by_cases c : none ∈ ks
    · rw [if_pos c]
      simp only [c, decide_true, Bool.not_true, Res.toS_ok, Bool.false_eq_true, if_false, v_sNil]
    · rw [if_neg c]
      simp only [c, decide_false, Bool.not_false, Res.toS_ok, if_true, v_sSeq, e2, SR.andThen_next, v_sNil]
noncomputable def waitB : Ms := sSeq (sIf (tBl (mOp2 fEq (mV 6) (mV 4))) (sSeq (addB (mV 7)) (sSeq addN sNil)) sNil) sNil
theorem waitB_ok {hh tl : AH} {ks : List (Option Val)} {tr : Bool} {i : Nat} {p : Nat × Val} {g0 g1 g3 g8 g9 : Option D} (hl : ks.length < 900) :
    waitB [g0, g1, some (.bl tr), g3, some (.int (i : Int)), some (.loc hh.length), some (.int (p.1 : Int)), some (vD p.2), g8, g9] (hh ++ AO.lst (ks.map hvD) :: tl) =
      .next [g0, g1, some (.bl tr), g3, some (.int (i : Int)), some (.loc hh.length), some (.int (p.1 : Int)), some (vD p.2), g8, g9] (hh ++ AO.lst ((stepT tr i ks p).map hvD) :: tl) := by
  have l2 := putHk_len ks (some p.2)
  have e1 := addB_ok (G := [g0, g1, some (.bl tr), g3, some (.int (i : Int)), some (.loc hh.length), some (.int (p.1 : Int)), some (vD p.2), g8, g9]) (hh := hh) (tl := tl) (ks := ks) (k := some p.2) (mk := mV 7) (by omega) rfl (fun _ => rfl)
  have e2 := addN_ok (G := [g0, g1, some (.bl tr), g3, some (.int (i : Int)), some (.loc hh.length), some (.int (p.1 : Int)), some (vD p.2), g8, g9]) (hh := hh) (tl := tl) (ks := putHk ks (some p.2)) (tr := tr) (Nat.lt_of_le_of_lt l2 (by omega)) rfl rfl
  unfold waitB stepT
  by_cases c : p.1 = i
  · rw [if_pos c]
    have ec : decide ((p.1 : Int) = (i : Int)) = true := by simp [c]
    simp only [v_sSeq, v_sIf, v_tBl, v_mOp2, v_mV, List.getElem?_cons_succ, List.getElem?_cons_zero, Res.bind_ok, AB.v_eq, ec, Res.toS_ok, if_true, e1, SR.andThen_next, e2, v_sNil]
  · rw [if_neg c]
    have ec : decide ((p.1 : Int) = (i : Int)) = false := decide_eq_false fun z => c (Int.ofNat.inj z)
    simp only [v_sSeq, v_sIf, v_tBl, v_mOp2, v_mV, List.getElem?_cons_succ, List.getElem?_cons_zero, Res.bind_ok, AB.v_eq, ec, Res.toS_ok, Bool.false_eq_true, if_false, SR.andThen_next, v_sNil]
end My
/-! the law's own lots: one sector -/
namespace My
open PySem AB L2
theorem in_hvO {h : AH} {n : Nat} {os : List (Option Val)} (hn : h[n]? = some (.lst (os.map hvD))) (o : Option Val) : fIn (hvD o) (.loc n) h = .ok (.bl (decide (o ∈ os))) h := by
  unfold fIn inD
  rw [okP_hv, okP_hvO hn]
  simp only [any_hv]
theorem atI_hv {S : List (Option Val)} {i : Nat} (hi : i < S.length) : atI (S.map hvD) (i : Int) = some (hvD (S.getD i none)) := by
  refine atI_nat (Int.natCast_nonneg i) ?_
  rw [Int.toNat_natCast, List.getElem?_map, List.getElem?_eq_getElem hi, List.getD_eq_getElem?_getD, List.getElem?_eq_getElem hi]
  rfl
/-- the law's list of what waits: a list that stays, or an object -/
def WAt (h : AH) (wd : D) (W : List (Nat × Val)) : Prop := wd = .lst (W.map pD) ∨ ∃ n, wd = .loc n ∧ h[n]? = some (.lst (W.map pD))
def wsrc : D → Option Nat
  | .loc n => some n
  | _ => none
theorem WAt.still {h : AH} {wd : D} {W : List (Nat × Val)} (r : WAt h wd W) (t : AH) : Still (wsrc wd) (W.map pD) (h ++ t) := by
  rcases r with rfl | ⟨n, rfl, e⟩
  · trivial
  · show (h ++ t)[n]? = _
    rw [List.getElem?_append_left (lt_of_get e)]
    exact e
theorem WAt.app {h : AH} {wd : D} {W : List (Nat × Val)} (r : WAt h wd W) (t : AH) : WAt (h ++ t) wd W := by
  rcases r with rfl | ⟨n, rfl, e⟩
  · exact .inl rfl
  · exact .inr ⟨n, rfl, by rw [List.getElem?_append_left (lt_of_get e)]; exact e⟩
theorem WAt.seq {h : AH} {wd : D} {W : List (Nat × Val)} (r : WAt h wd W) {G : AB.Env} {i : Nat} (hi : G[i]? = some (some wd)) : (iSeq (mV i)) G h = .ok (W.map pD, wsrc wd) h := by
  rw [v_iSeq]
  rcases r with rfl | ⟨n, rfl, e⟩
  · simp only [v_mV, hi, Res.bind_ok]
    rfl
  · simp only [v_mV, hi, Res.bind_ok, e]
    rfl
theorem waits_ok {hh tl : AH} {o : Option Val} {tr : Bool} {i : Nat} {W : List (Nat × Val)} {wd : D} (hw : WAt hh wd W) (hl : W.length ≤ 400) {g0 g1 g3 g6 g7 g8 g9 : Option D} :
    ∃ g6' g7', forGo (.tp [(.nm 6), (.nm 7)]) waitB (wsrc wd) (W.map pD) (W.map pD) [g0, g1, some (.bl tr), g3, some (.int (i : Int)), some (.loc hh.length), g6, g7, g8, g9] (hh ++ AO.lst ([o].map hvD) :: tl) =
      .next [g0, g1, some (.bl tr), g3, some (.int (i : Int)), some (.loc hh.length), g6', g7', g8, g9] (hh ++ AO.lst ((thingsOf o W i tr).map hvD) :: tl) := by
  obtain ⟨G', h', e, g6', g7', rfl, rfl⟩ := for_preS (p := .tp [(.nm 6), (.nm 7)]) (body := waitB) (all0 := W.map pD) (src := wsrc wd)
    (fun done G h => ∃ g6' g7', G = [g0, g1, some (.bl tr), g3, some (.int (i : Int)), some (.loc hh.length), g6', g7', g8, g9] ∧ h = hh ++ AO.lst ((done.foldl (stepT tr i) [o]).map hvD) :: tl)
    (by rintro done G h ⟨_, _, _, rfl⟩; exact hw.still _) pD W W [] rfl
    (by
      rintro done p rest ed G h ⟨g6', g7', rfl, rfl⟩
      have h1 := foldT_len tr i done [o]
      have h2 : done.length ≤ W.length := by rw [← ed, List.length_append]; omega
      have e1 : [o].length = 1 := rfl
      rw [e1] at h1
      have st := waitB_ok (hh := hh) (tl := tl) (ks := done.foldl (stepT tr i) [o]) (tr := tr) (i := i) (p := p) (g0 := g0) (g1 := g1) (g3 := g3) (g8 := g8) (g9 := g9) (Nat.lt_of_le_of_lt h1 (by omega))
      refine ⟨_, _, _, rfl, st, _, _, rfl, ?_⟩
      rw [List.foldl_append]
      rfl)
    [g0, g1, some (.bl tr), g3, some (.int (i : Int)), some (.loc hh.length), g6, g7, g8, g9] _ ⟨g6, g7, rfl, rfl⟩
  exact ⟨g6', g7', e⟩
noncomputable def sortM : Ms := sSet 8 (mL (lN fSorted (aCons (mL (lComp (.nm 9) [9] (iSeq (mV 5)) (tBl (mOp2 fNotN (mV 9) (mC .non))) (mV 9))) aNil)))
noncomputable def lawAppM : Ms := sExpr (mBM fApp (mV 3) (aCons (mN fTuple (aCons (mOp2 fAdd (mOp2 fMulLs (mNew (lLst (aCons (mC .non) aNil))) (mN fInt (aCons (mOp2 fIn (mC .non) (mV 5)) aNil))) (mV 8)) aNil)) aNil))
noncomputable def lawLotM : Ms := sSeq (sSet 5 (mNew (lLst (aCons (mOp2 fIx (mV 0) (mV 4)) aNil)))) (sSeq (sFor (.tp [(.nm 6), (.nm 7)]) (iSeq (mV 1)) waitB) (sSeq sortM (sSeq lawAppM sNil)))
theorem sortM_ok {hh tl : AH} {ks : List (Option Val)} {g0 g1 g2 g3 g4 g6 g7 g8 g9 : Option D} (hl : ks.length ≤ 1000) :
    sortM [g0, g1, g2, g3, g4, some (.loc hh.length), g6, g7, g8, g9] (hh ++ AO.lst (ks.map hvD) :: tl) =
      .next [g0, g1, g2, g3, g4, some (.loc hh.length), g6, g7, some (.lst ((srt (vsOf ks)).map vD)), g9] (hh ++ AO.lst (ks.map hvD) :: tl) := by
  have lv := vsOf_le ks
  have c := comp_vals (h := hh ++ AO.lst (ks.map hvD) :: tl) (src := some hh.length) (all0 := ks.map hvD) (get_mid _ _ _) (G := [g0, g1, g2, g3, g4, some (.loc hh.length), g6, g7, g8, none]) (j := 9) (by simp) ks
  have hb : (ks.map hvD).length ≤ big := by rw [List.length_map, big_eq]; omega
  have i1 : (iSeq (mV 5)) [g0, g1, g2, g3, g4, some (.loc hh.length), g6, g7, g8, g9] (hh ++ AO.lst (ks.map hvD) :: tl) = .ok (ks.map hvD, some hh.length) (hh ++ AO.lst (ks.map hvD) :: tl) := by
    simp only [v_iSeq, v_mV, List.getElem?_cons_succ, List.getElem?_cons_zero, Res.bind_ok, get_mid]
  have w : wipeG [g0, g1, g2, g3, g4, some (.loc hh.length), g6, g7, g8, g9] [9] = [g0, g1, g2, g3, g4, some (.loc hh.length), g6, g7, g8, none] := rfl
  unfold sortM
  simp only [v_sSet, v_mL, v_lN, v_aCons, v_lComp, i1, Res.bind_ok, hb, if_true, w, c, v_aNil, sorted_ok (show (vsOf ks).length ≤ 1000 by omega), Res.toS_ok, List.set_cons_succ, List.set_cons_zero]
theorem lawAppM_ok {hh tl : AH} {ks : List (Option Val)} {F : Nat} {fs : List D} {g0 g1 g2 g4 g6 g7 g9 : Option D} (gF : hh[F]? = some (.lst fs)) (hF : fs.length < big) (hl : ks.length ≤ 1000) :
    ∃ t, lawAppM [g0, g1, g2, some (.loc F), g4, some (.loc hh.length), g6, g7, some (.lst ((srt (vsOf ks)).map vD)), g9] (hh ++ AO.lst (ks.map hvD) :: tl) =
      .next [g0, g1, g2, some (.loc F), g4, some (.loc hh.length), g6, g7, some (.lst ((srt (vsOf ks)).map vD)), g9] (hh.set F (.lst (fs ++ [.tup ((ordV ks).map hvD)])) ++ t) := by
  have lv := vsOf_le ks
  have lF := lt_of_get gF
  obtain ⟨h1, hh1⟩ : ∃ h1, h1 = (hh ++ AO.lst (ks.map hvD) :: tl) ++ [AO.lst [.non]] := ⟨_, rfl⟩
  have b1 : (1 : Nat) ≤ big := by decide
  have g5 : h1[hh.length]? = some (.lst (ks.map hvD)) := by
    rw [hh1, List.append_assoc]
    exact get_mid _ _ _
  have gN : h1[(hh ++ AO.lst (ks.map hvD) :: tl).length]? = some (.lst [.non]) := by rw [hh1]; exact g_app0 _ [.lst [.non]]
  have gF1 : (hh ++ AO.lst (ks.map hvD) :: tl)[F]? = some (.lst fs) := by rw [List.getElem?_append_left lF]; exact gF
  have gF2 : h1[F]? = some (.lst fs) := by rw [hh1, List.append_assoc, List.getElem?_append_left lF]; exact gF
  have ei := in_hvO (h := h1) (n := hh.length) (os := ks) g5 none
  have ei2 : fIn .non (.loc hh.length) h1 = .ok (.bl (decide (none ∈ ks))) h1 := ei
  have em : fMulLs (.loc (hh ++ AO.lst (ks.map hvD) :: tl).length) (.int (if decide (none ∈ ks) = true then 1 else 0)) h1 = .ok (.lst (if none ∈ ks then [.non] else [])) h1 := by
    unfold fMulLs
    by_cases c : none ∈ ks
    · simp only [c, decide_true, if_true, gN]
      rfl
    · simp only [c, decide_false, if_false, gN, Bool.false_eq_true]
      rfl
  have ea : fAdd (.lst (if none ∈ ks then [.non] else [])) (.lst ((srt (vsOf ks)).map vD)) h1 = .ok (.lst ((ordV ks).map hvD)) h1 := by
    have e2 : (ordV ks).map hvD = (if none ∈ ks then [D.non] else []) ++ (srt (vsOf ks)).map vD := by
      rw [ordV_eq, List.map_append, List.map_map]
      by_cases c : none ∈ ks
      · rw [if_pos c, if_pos c]; rfl
      · rw [if_neg c, if_neg c]; rfl
    have ln : (if none ∈ ks then [D.non] else []).length + ((srt (vsOf ks)).map vD).length ≤ big := by
      have : (if none ∈ ks then [D.non] else []).length ≤ 1 := by
        by_cases c : none ∈ ks
        · rw [if_pos c]; exact Nat.le_refl _
        · rw [if_neg c]; exact Nat.zero_le _
      rw [List.length_map, srt_len, big_eq]
      omega
    unfold fAdd
    simp only [vR, ln, if_true, e2]
  refine ⟨(AO.lst (ks.map hvD) :: tl) ++ [AO.lst [.non]], ?_⟩
  unfold lawAppM
  have es : h1.set F (.lst (fs ++ [.tup ((ordV ks).map hvD)])) = hh.set F (.lst (fs ++ [.tup ((ordV ks).map hvD)])) ++ ((AO.lst (ks.map hvD) :: tl) ++ [AO.lst [.non]]) := by
    rw [hh1, List.append_assoc, set_left _ _ _ _ lF]
  have ef : fInt [.bl (decide (none ∈ ks))] h1 = .ok (.int (if decide (none ∈ ks) = true then 1 else 0)) h1 := rfl
  simp only [v_sExpr, v_mBM, v_mV, List.getElem?_cons_succ, List.getElem?_cons_zero, Res.bind_ok, v_vLo, gF1, v_aCons, v_aNil, v_mN, v_mOp2, v_mNew, v_lLst, v_mC, List.length_cons, List.length_nil, Nat.zero_add, b1, if_true, ← hh1, ei2, ef, em, ea, v_tuple, v_vSl, v_app, gF2, hF, Res.toS_ok, es]
end My
/-! the law's own lots, whole -/
namespace My
open PySem AB L2
noncomputable def lawLotD (S : List (Option Val)) (W : List (Nat × Val)) (tr : Bool) (i : Nat) : D := .tup ((ordV (thingsOf (S.getD i none) W i tr)).map hvD)
theorem lawLot_ok {hh : AH} {S : List (Option Val)} {W : List (Nat × Val)} {tr : Bool} {i F : Nat} {fs : List D} {g5 g6 g7 g8 g9 : Option D} {wd : D} (hw : WAt hh wd W) (hi : i < S.length) (hW : W.length ≤ 400) (gF : hh[F]? = some (.lst fs)) (hF : fs.length < big) :
    ∃ t a5 a6 a7 a8, lawLotM [some (.tup (S.map hvD)), some wd, some (.bl tr), some (.loc F), some (.int (i : Int)), g5, g6, g7, g8, g9] hh =
      .next [some (.tup (S.map hvD)), some wd, some (.bl tr), some (.loc F), some (.int (i : Int)), a5, a6, a7, a8, g9] (hh.set F (.lst (fs ++ [lawLotD S W tr i])) ++ t) := by
  have b1 : (1 : Nat) ≤ big := by decide
  have c1 : (mNew (lLst (aCons (mOp2 fIx (mV 0) (mV 4)) aNil))) [some (.tup (S.map hvD)), some wd, some (.bl tr), some (.loc F), some (.int (i : Int)), g5, g6, g7, g8, g9] hh = .ok (.loc hh.length) (hh ++ AO.lst ([S.getD i none].map hvD) :: []) := by
    simp only [v_mNew, v_lLst, v_aCons, v_mOp2, v_mV, List.getElem?_cons_succ, List.getElem?_cons_zero, Res.bind_ok, v_ix, v_vSt, atI_hv hi, v_aNil, List.length_cons, List.length_nil, Nat.zero_add, b1, if_true, List.map_cons, List.map_nil]
  obtain ⟨a6, a7, c2⟩ := waits_ok (hh := hh) (tl := []) (o := S.getD i none) (tr := tr) (i := i) (W := W) (hw := hw) (hl := hW) (g0 := some (.tup (S.map hvD))) (g1 := some wd) (g3 := some (.loc F)) (g6 := g6) (g7 := g7) (g8 := g8) (g9 := g9)
  have kl : (thingsOf (S.getD i none) W i tr).length ≤ 1000 := by
    have h1 := foldT_len tr i W [S.getD i none]
    have e1 : [S.getD i none].length = 1 := rfl
    rw [e1] at h1
    exact Nat.le_trans h1 (by omega)
  have c3 := sortM_ok (hh := hh) (tl := []) (ks := thingsOf (S.getD i none) W i tr) (g0 := some (.tup (S.map hvD))) (g1 := some wd) (g2 := some (.bl tr)) (g3 := some (.loc F)) (g4 := some (.int (i : Int))) (g6 := a6) (g7 := a7) (g8 := g8) (g9 := g9) kl
  obtain ⟨t, c4⟩ := lawAppM_ok (hh := hh) (tl := []) (ks := thingsOf (S.getD i none) W i tr) (F := F) (g0 := some (.tup (S.map hvD))) (g1 := some wd) (g2 := some (.bl tr)) (g4 := some (.int (i : Int))) (g6 := a6) (g7 := a7) (g9 := g9) gF hF kl
  refine ⟨t, some (.loc hh.length), a6, a7, some (.lst ((srt (vsOf (thingsOf (S.getD i none) W i tr))).map vD)), ?_⟩
  have i1 : ∀ (g5 : Option D) (t : AH), (iSeq (mV 1)) [some (.tup (S.map hvD)), some wd, some (.bl tr), some (.loc F), some (.int (i : Int)), g5, g6, g7, g8, g9] (hh ++ t) = .ok (W.map pD, wsrc wd) (hh ++ t) := fun _ t => (hw.app t).seq rfl
  unfold lawLotM
  simp only [v_sSeq, v_sSet, c1, Res.toS_ok, List.set_cons_succ, List.set_cons_zero, SR.andThen_next, v_sFor, i1, c2, c3, c4, v_sNil]
  rfl
noncomputable def lawLotsD (S : List (Option Val)) (W : List (Nat × Val)) (tr : Bool) : D := .tup ((List.range S.length).map (lawLotD S W tr))
theorem under_lawLots (n : Nat) (S : List (Option Val)) (W : List (Nat × Val)) (tr : Bool) (is : List Nat) : underL n (is.map (lawLotD S W tr)) = true := by
  induction is with
  | nil => simp [underL]
  | cons i is ih =>
    have e : (lawLotD S W tr i).under n = true := by
      unfold lawLotD
      simp only [D.under]
      exact under_hvs _ _
    simp [underL, ih, e]
theorem law_lots_ok {h : AH} {S : List (Option Val)} {W : List (Nat × Val)} {wd : D} (hw : WAt h wd W) (tr : Bool) (hS : S.length ≤ 1000) (hW : W.length ≤ 400) : m__law_lots [.tup (S.map hvD), wd, .bl tr] h = .ok (lawLotsD S W tr) h := by
  obtain ⟨G', h', e1, a5, a6, a7, a8, a4, t, rfl, rfl⟩ := for_preS (p := .nm 4) (body := lawLotM) (all0 := (List.range S.length).map fun i : Nat => D.int (i : Int)) (src := none)
    (fun done G hh => ∃ a5 a6 a7 a8 a4 t, G = [some (.tup (S.map hvD)), some wd, some (.bl tr), some (.loc h.length), a4, a5, a6, a7, a8, none] ∧ hh = h ++ AO.lst (done.map (lawLotD S W tr)) :: t)
    (fun _ _ _ _ => trivial) (fun i : Nat => D.int (i : Int)) (List.range S.length) (List.range S.length) [] rfl
    (by
      rintro done i rest ed G hh ⟨a5, a6, a7, a8, a4, t, rfl, rfl⟩
      have hlen := congrArg List.length ed
      rw [List.length_append, List.length_cons, List.length_range] at hlen
      have hi : i < S.length := List.mem_range.mp (by rw [← ed]; simp)
      obtain ⟨t', b5, b6, b7, b8, e⟩ := lawLot_ok (hh := h ++ AO.lst (done.map (lawLotD S W tr)) :: t) (S := S) (W := W) (tr := tr) (i := i) (F := h.length) (fs := done.map (lawLotD S W tr)) (g5 := a5) (g6 := a6) (g7 := a7) (g8 := a8) (g9 := none) (hw.app _) hi hW (get_mid _ _ _) (by rw [List.length_map, big_eq]; omega)
      refine ⟨_, _, _, rfl, e, _, _, _, _, _, t ++ t', rfl, ?_⟩
      rw [set_mid, List.map_append]
      simp)
    [some (.tup (S.map hvD)), some wd, some (.bl tr), some (.loc h.length), none, none, none, none, none, none] (h ++ AO.lst [] :: []) ⟨none, none, none, none, none, [], rfl, rfl⟩
  have b0 : (0 : Nat) ≤ big := by decide
  have i1 : ∀ (G : AB.Env) (h : AH), (iRange1 (aCons (mN fLen (aCons (mV 0) aNil)) aNil)) (some (.tup (S.map hvD)) :: G) h = .ok ((List.range S.length).map fun i : Nat => D.int (i : Int), none) h := fun G h => by
    have hr : okR (S.length : Int) := ⟨by omega, by omega⟩
    simp [hr, rangeD_eq]
  have un : (lawLotsD S W tr).under h.length = true := by
    unfold lawLotsD
    simp only [D.under]
    exact under_lawLots _ _ _ _ _
  have fin := finD_app h (AO.lst ((List.range S.length).map (lawLotD S W tr)) :: t) (lawLotsD S W tr) un
  have eb : b__law_lots [some (.tup (S.map hvD)), some wd, some (.bl tr), none, none, none, none, none, none, none] h = .ret (lawLotsD S W tr) (h ++ AO.lst ((List.range S.length).map (lawLotD S W tr)) :: t) := by
    have eq : b__law_lots = sSeq (sSet 3 (mNew (lLst aNil))) (sSeq (sFor (.nm 4) (iRange1 (aCons (mN fLen (aCons (mV 0) aNil)) aNil)) lawLotM) (sSeq (sRet (mN fTuple (aCons (mV 3) aNil))) sNil)) := rfl
    rw [eq]
    simp only [v_sSeq, v_sSet, v_mNew, v_lLst, v_aNil, Res.bind_ok, List.length_nil, b0, if_true, Res.toS_ok, List.set_cons_succ, List.set_cons_zero, SR.andThen_next, v_sFor, i1, e1, v_sRet, v_mN, v_aCons, v_mV, List.getElem?_cons_succ, List.getElem?_cons_zero, v_tuple, v_vSo, get_mid, SR.andThen_ret]
    rfl
  simp [m__law_lots, mDef, eb, fin]
theorem lots_D {K : List (Option Val)} {ws : List WEnt} {W : List (Nat × Val)} (r : RelW ws W) (tr : Bool) : lotsD K ws tr = lawLotsD K W tr := by
  unfold lotsD lawLotsD
  refine congrArg D.tup (List.map_congr_left fun i _ => ?_)
  unfold lotD lawLotD lotOf
  rw [lots_same r]
end My
/-! the disk's books and the law's list of what waits, plain -/
namespace My
open PySem AB L2
theorem rel_nil : RelW [] [] := ⟨fun _ => rfl, fun i => by simp [hasW]⟩
theorem find_put {ws : List WEnt} {s i : Nat} {v : Val} : (ws.map fun x => if x.s = s then (⟨x.s, x.l, x.vs ++ [v]⟩ : WEnt) else x).find? (fun e => decide (e.s = i)) = (ws.find? fun e => decide (e.s = i)).map fun x => if x.s = s then (⟨x.s, x.l, x.vs ++ [v]⟩ : WEnt) else x := by
  rw [List.find?_map]
  have ec : ((fun e : WEnt => decide (e.s = i)) ∘ fun x : WEnt => if x.s = s then (⟨x.s, x.l, x.vs ++ [v]⟩ : WEnt) else x) = fun e : WEnt => decide (e.s = i) := by
    funext x
    show decide ((if x.s = s then (⟨x.s, x.l, x.vs ++ [v]⟩ : WEnt) else x).s = i) = decide (x.s = i)
    by_cases q : x.s = s
    · rw [if_pos q]
    · rw [if_neg q]
  rw [ec]
theorem vsAt_add (ws : List WEnt) (s : Nat) (v : Val) (l i : Nat) : vsAt (addW ws s v l) i = if s = i then vsAt ws i ++ [v] else vsAt ws i := by
  unfold addW
  cases hf : ws.find? (fun e => decide (e.s = s)) with
  | some e =>
    have hes : e.s = s := by simpa using List.find?_some hf
    unfold vsAt
    simp only [find_put]
    by_cases q : s = i
    · subst q
      simp [hf, hes]
    · cases hf2 : ws.find? fun e => decide (e.s = i) with
      | none => simp [q]
      | some x =>
        have hxs : x.s = i := by simpa using List.find?_some hf2
        have : ¬ x.s = s := fun z => q (by omega)
        simp [this, q]
  | none =>
    unfold vsAt
    simp only [find_snoc]
    by_cases q : s = i
    · subst q
      simp [hf]
    · cases hf2 : ws.find? fun e => decide (e.s = i) with
      | none => simp [q]
      | some x => simp [q]
theorem hasW_add (ws : List WEnt) (s : Nat) (v : Val) (l i : Nat) : hasW (addW ws s v l) i = true ↔ hasW ws i = true ∨ s = i := by
  unfold addW
  cases hf : ws.find? (fun e => decide (e.s = s)) with
  | some e =>
    unfold hasW
    simp only [find_put, Option.isSome_map]
    constructor
    · exact .inl
    · rintro (h | rfl)
      · exact h
      · rw [hf]; rfl
  | none =>
    unfold hasW
    simp only [find_snoc]
    cases hf2 : ws.find? fun e => decide (e.s = i) with
    | none => by_cases q : s = i <;> simp [q]
    | some x => simp
theorem rel_add {ws : List WEnt} {W : List (Nat × Val)} (r : RelW ws W) (s : Nat) (v : Val) (l : Nat) : RelW (addW ws s v l) (W ++ [(s, v)]) := by
  refine ⟨fun i => ?_, fun i => ?_⟩
  · rw [vsAt_add, r.at' i, List.filter_append, List.map_append]
    by_cases q : s = i
    · simp [q]
    · simp [q]
  · rw [hasW_add, r.has i]
    constructor
    · rintro (⟨p, hp, h⟩ | h)
      · exact ⟨p, List.mem_append_left _ hp, h⟩
      · exact ⟨(s, v), by simp, h⟩
    · rintro ⟨p, hp, h⟩
      rcases List.mem_append.mp hp with hp | hp
      · exact .inl ⟨p, hp, h⟩
      · rw [List.mem_singleton.mp hp] at h
        exact .inr h
def putW (c : List (Option Val)) (W : List (Nat × Val)) : List (Option Val) := W.foldl (fun c p => c.set p.1 (some p.2)) c
theorem putW_len (W : List (Nat × Val)) : ∀ c, (putW c W).length = c.length := by
  induction W with
  | nil => intro c; rfl
  | cons p W ih =>
    intro c
    show (putW (c.set p.1 (some p.2)) W).length = _
    rw [ih, List.length_set]
theorem putW_get (W : List (Nat × Val)) (i : Nat) : ∀ c : List (Option Val), i < c.length → (putW c W)[i]? = some (match ((W.filter fun p => decide (p.1 = i)).map (·.2)).getLast? with | some v => some v | none => c.getD i none) := by
  induction W with
  | nil =>
    intro c hi
    show c[i]? = _
    rw [List.getElem?_eq_getElem hi]
    simp [List.getD_eq_getElem?_getD, hi]
  | cons p W ih =>
    intro c hi
    show (putW (c.set p.1 (some p.2)) W)[i]? = _
    rw [ih _ (by rw [List.length_set]; exact hi)]
    by_cases q : p.1 = i
    · subst q
      have e1 : (c.set p.1 (some p.2)).getD p.1 none = some p.2 := by
        rw [List.getD_eq_getElem?_getD, List.getElem?_set_self hi]
        rfl
      rw [e1, List.filter_cons_of_pos (by simp), List.map_cons, List.getLast?_cons]
      cases ((W.filter fun x => decide (x.1 = p.1)).map (·.2)).getLast? with
      | none => rfl
      | some v => rfl
    · have e1 : (c.set p.1 (some p.2)).getD i none = c.getD i none := by
        rw [List.getD_eq_getElem?_getD, List.getElem?_set_ne q, List.getD_eq_getElem?_getD]
      rw [e1, List.filter_cons_of_neg (by simp [q])]
theorem cur_put {K : List (Option Val)} {ws : List WEnt} {W : List (Nat × Val)} (r : RelW ws W) (hne : ∀ e ∈ ws, e.vs ≠ []) : cur K ws = putW K W := by
  apply List.ext_getElem?
  intro i
  by_cases hi : i < K.length
  · rw [cur_get hi, putW_get _ _ _ hi, ← r.at' i]
    unfold vsAt
    cases hf : ws.find? fun e => decide (e.s = i) with
    | none => rfl
    | some e =>
      have he : e ∈ ws := List.mem_of_find?_eq_some hf
      show some e.vs.getLast? = some (match e.vs.getLast? with | some v => some v | none => K.getD i none)
      cases q : e.vs.getLast? with
      | none => exact absurd (List.getLast?_eq_none_iff.mp q) (hne e he)
      | some v => rfl
  · rw [List.getElem?_eq_none (by rw [cur_len]; omega), List.getElem?_eq_none (by rw [putW_len]; omega)]
/-- the sectors that wait, in their order -/
theorem waiting_eq {ws : List WEnt} {W : List (Nat × Val)} (r : RelW ws W) (hk : (ws.map (·.s)).Nodup) : sortI (ws.map fun e => (e.s : Int)) = upSet (W.map fun p => (p.1 : Int)) := by
  refine upSet_is ?_ fun k => ?_
  · have h1 := sortI_sorted (ws.map fun e => (e.s : Int))
    have pm : (sortI (ws.map fun e => (e.s : Int))).Perm (ws.map fun e => (e.s : Int)) := List.mergeSort_perm _ _
    have nd : (sortI (ws.map fun e => (e.s : Int))).Nodup := by
      refine pm.nodup_iff.mpr ?_
      have e : (ws.map fun e => (e.s : Int)) = (ws.map (·.s)).map fun n : Nat => (n : Int) := by rw [List.map_map]; rfl
      rw [e]
      exact List.Pairwise.map _ (fun a b h z => h (Int.ofNat.inj z)) hk
    refine (h1.and nd).imp fun h => ?_
    have h1 := h.1
    have h2 := h.2
    omega
  · have pm : (sortI (ws.map fun e => (e.s : Int))).Perm (ws.map fun e => (e.s : Int)) := List.mergeSort_perm _ _
    rw [pm.mem_iff]
    constructor
    · intro h
      obtain ⟨e, he, rfl⟩ := List.mem_map.mp h
      have : hasW ws e.s = true := by
        unfold hasW
        rw [List.find?_isSome]
        exact ⟨e, he, by simp⟩
      obtain ⟨p, hp, hi⟩ := (r.has e.s).mp this
      exact List.mem_map.mpr ⟨p, hp, by rw [hi]⟩
    · intro h
      obtain ⟨p, hp, rfl⟩ := List.mem_map.mp h
      have := (r.has p.1).mpr ⟨p, hp, rfl⟩
      unfold hasW at this
      rw [List.find?_isSome] at this
      obtain ⟨e, he, q⟩ := this
      exact List.mem_map.mpr ⟨e, he, by rw [of_decide_eq_true q]⟩
end My
/-! what the disk says of itself -/
namespace My
open PySem AB L2
section
variable {h : AH} {b nD nK nW : Nat} {K : List (Option Val)} {ws : List WEnt}
theorem intKeys_w (ws : List WEnt) : intKeys (ws.map wKD) = some (ws.map fun e => (e.s : Int)) := by
  induction ws with
  | nil => rfl
  | cons e ws ih =>
    show (intKeys (ws.map wKD)).map (fun is => (e.s : Int) :: is) = _
    rw [ih]
    rfl
theorem under_ints (n : Nat) (is : List Int) : underL n (is.map D.int) = true := by
  induction is with
  | nil => simp [underL]
  | cons i is ih => simp [underL, ih, D.under]
theorem waiting_ok (d : DskAt h b nD nK nW K ws) (hw : ws.length < 64) : m_Disk_waiting [.loc nD] h = .ok (.tup ((sortI (ws.map fun e => (e.s : Int))).map .int)) h := by
  have e0 := writesM_ok (G := []) d.ins
  have d0 : dctAt h nW = some (ws.map wKD) := by unfold dctAt; rw [d.wr]
  have e1 : fSortK [.loc nW] h = .ok ((sortI (ws.map fun e => (e.s : Int))).map .int) h := by
    have hl : (ws.map fun e => (e.s : Int)).length < 64 := by rw [List.length_map]; exact hw
    unfold fSortK
    simp only [d0, intKeys_w, hl, if_true]
  have eb : b_Disk_waiting [some (.loc nD)] h = .ret (.tup ((sortI (ws.map fun e => (e.s : Int))).map .int)) h := by
    have eq : b_Disk_waiting = (sSeq (sRet (mN fTuple (aCons (mL (lN fSortK (aCons (mFld ["Disk"] "writes" (mV 0)) aNil))) aNil))) sNil) := rfl
    rw [eq]
    simp only [v_sSeq, v_sRet, v_mN, v_aCons, v_mL, v_lN, e0, v_aNil, Res.bind_ok, e1, v_tuple, v_vSl, Res.toS_ok, SR.andThen_ret]
  simp [m_Disk_waiting, mDef, eb]
theorem settled_ok (d : DskAt h b nD nK nW K ws) : m_Disk_settled [.loc nD] h = .ok (.tup (K.map hvD)) h := by
  have e0 := keptM_ok (G := []) d.ins
  have eb : b_Disk_settled [some (.loc nD)] h = .ret (.tup (K.map hvD)) h := by
    have eq : b_Disk_settled = (sSeq (sRet (mN fTuple (aCons (mFld ["Disk"] "kept" (mV 0)) aNil))) sNil) := rfl
    rw [eq]
    simp only [v_sSeq, v_sRet, v_mN, v_aCons, e0, v_aNil, Res.bind_ok, v_tuple, v_vSo, d.kept, Res.toS_ok, SR.andThen_ret]
  simp [m_Disk_settled, mDef, eb]
theorem check_flag_ok (tr : Bool) (h : AH) : m_check_flag [.bl tr] h = .ok .non h := by
  simp [m_check_flag, mDef, b_check_flag, Ty.sub]
theorem lots_ok (d : DskAt h b nD nK nW K ws) (hb : Bd ws 900) (hK : K.length ≤ 1000) (tr : Bool) : m_Disk_lots [.loc nD, .bl tr] h = .ok (lotsD K ws tr) h := by
  have e0 := keptM_ok (G := [some (.bl tr)]) d.ins
  have e1 := writesM_ok (G := [some (.bl tr)]) d.ins
  have eb : b_Disk_lots [some (.loc nD), some (.bl tr)] h = .ret (lotsD K ws tr) h := by
    have eq : b_Disk_lots = (sSeq (sExpr (mN m_check_flag (aCons (mV 1) aNil))) (sSeq (sRet (mN m_lots_from (aCons (mFld ["Disk"] "kept" (mV 0)) (aCons (mFld ["Disk"] "writes" (mV 0)) (aCons (mV 1) aNil))))) sNil)) := rfl
    rw [eq]
    simp only [v_sSeq, v_sExpr, v_mN, v_aCons, v_mV, List.getElem?_cons_succ, List.getElem?_cons_zero, v_aNil, Res.bind_ok, check_flag_ok, Res.toS_ok, SR.andThen_next, v_sRet, e0, e1, lots_from_ok d hb hK tr, SR.andThen_ret]
  simp [m_Disk_lots, mDef, eb]
end
end My
/-! steps of plans; what they do, plain -/
namespace My
open PySem AB L2
inductive Stp where
  | wr (s : Nat) (v : Val)
  | bar
  | beg
  | don
def Stp.nm : Stp → Str
  | .wr _ _ => "write"
  | .bar => "barrier"
  | .beg => "begin"
  | .don => "done"
def stD : Stp → D
  | .wr s v => .tup [.str "write", .int (s : Int), vD v]
  | .bar => .tup [.str "barrier"]
  | .beg => .tup [.str "begin"]
  | .don => .tup [.str "done"]
def StpOk (n : Nat) : Stp → Prop
  | .wr s v => s < n ∧ VOk v
  | _ => True
def Stp.lift : Stp → Int
  | .beg => 1
  | .don => -1
  | _ => 0
def und (xs : List Stp) : Int := xs.foldl (fun u x => u + x.lift) 0
theorem und_snoc (xs : List Stp) (x : Stp) : und (xs ++ [x]) = und xs + x.lift := by
  unfold und
  rw [List.foldl_append]
  rfl
def PreOk (xs : List Stp) : Prop := ∀ k, 0 ≤ und (xs.take k)
theorem pre_snoc {xs : List Stp} {x : Stp} (h : PreOk xs) (h2 : 0 ≤ und (xs ++ [x])) : PreOk (xs ++ [x]) := by
  intro k
  by_cases q : k ≤ xs.length
  · rw [List.take_append_of_le_length q]
    exact h k
  · rw [List.take_of_length_le (by simp; omega)]
    exact h2
/-- a state and what waits, behind a step -/
def run1 (S : List (Option Val) × List (Nat × Val)) : Stp → List (Option Val) × List (Nat × Val)
  | .wr s v => (S.1, S.2 ++ [(s, v)])
  | .bar => (putW S.1 S.2, [])
  | _ => S
def runs (K : List (Option Val)) (xs : List Stp) : List (Option Val) × List (Nat × Val) := xs.foldl run1 (K, [])
theorem runs_snoc (K : List (Option Val)) (xs : List Stp) (x : Stp) : runs K (xs ++ [x]) = run1 (runs K xs) x := by
  unfold runs
  rw [List.foldl_append]
  rfl
theorem putW_snoc (c : List (Option Val)) (W : List (Nat × Val)) (p : Nat × Val) : putW c (W ++ [p]) = (putW c W).set p.1 (some p.2) := by
  unfold putW
  rw [List.foldl_append]
  rfl
theorem run1_len (S : List (Option Val) × List (Nat × Val)) (x : Stp) : (run1 S x).1.length = S.1.length ∧ (run1 S x).2.length ≤ S.2.length + 1 := by
  cases x with
  | wr s v => exact ⟨rfl, by simp [run1]⟩
  | bar => exact ⟨putW_len _ _, by simp [run1]⟩
  | beg => exact ⟨rfl, by simp [run1]⟩
  | don => exact ⟨rfl, by simp [run1]⟩
theorem runs_len (K : List (Option Val)) (xs : List Stp) : (runs K xs).1.length = K.length ∧ (runs K xs).2.length ≤ xs.length := by
  have key : ∀ (xs : List Stp) (S : List (Option Val) × List (Nat × Val)), (xs.foldl run1 S).1.length = S.1.length ∧ (xs.foldl run1 S).2.length ≤ S.2.length + xs.length := by
    intro xs
    induction xs with
    | nil => intro S; exact ⟨rfl, by simp⟩
    | cons x xs ih =>
      intro S
      obtain ⟨h1, h2⟩ := ih (run1 S x)
      obtain ⟨h3, h4⟩ := run1_len S x
      rw [List.foldl_cons, List.length_cons]
      omega
  have := key xs (K, [])
  refine ⟨this.1, ?_⟩
  have h2 := this.2
  simp at h2
  exact h2
theorem putW_mem {o : Option Val} : ∀ (W : List (Nat × Val)) (K : List (Option Val)), o ∈ putW K W → o ∈ K ∨ ∃ p ∈ W, o = some p.2
  | [], K, h => .inl h
  | p :: W, K, h => by
    have h : o ∈ putW (K.set p.1 (some p.2)) W := h
    rcases putW_mem W _ h with h | ⟨q, hq, e⟩
    · rcases List.mem_or_eq_of_mem_set h with h | h
      · exact .inl h
      · exact .inr ⟨p, List.mem_cons_self, h⟩
    · exact .inr ⟨q, List.mem_cons_of_mem _ hq, e⟩
/-- what is kept stays right -/
structure RunOk (n : Nat) (S : List (Option Val) × List (Nat × Val)) : Prop where
  len : S.1.length = n
  hk : ∀ o ∈ S.1, HOkV o
  wv : ∀ p ∈ S.2, p.1 < n ∧ VOk p.2
theorem RunOk.step {n : Nat} {S : List (Option Val) × List (Nat × Val)} (r : RunOk n S) {x : Stp} (hx : StpOk n x) : RunOk n (run1 S x) := by
  cases x with
  | wr s v =>
    refine ⟨r.len, r.hk, fun p hp => ?_⟩
    rcases List.mem_append.mp hp with hp | hp
    · exact r.wv p hp
    · rw [List.mem_singleton.mp hp]; exact hx
  | bar =>
    refine ⟨by show (putW S.1 S.2).length = n; rw [putW_len, r.len], fun o ho => ?_, by simp [run1]⟩
    rcases putW_mem _ _ ho with h | ⟨p, hp, rfl⟩
    · exact r.hk o h
    · exact (r.wv p hp).2
  | beg => exact r
  | don => exact r
theorem runs_ok {n : Nat} {K : List (Option Val)} (hl : K.length = n) (hK : ∀ o ∈ K, HOkV o) : ∀ (xs : List Stp), (∀ x ∈ xs, StpOk n x) → RunOk n (runs K xs) := by
  have key : ∀ (xs : List Stp) (S : List (Option Val) × List (Nat × Val)), RunOk n S → (∀ x ∈ xs, StpOk n x) → RunOk n (xs.foldl run1 S) := by
    intro xs
    induction xs with
    | nil => intro S h _; exact h
    | cons x xs ih => intro S h hx; exact ih _ (h.step (hx x List.mem_cons_self)) fun y hy => hx y (List.mem_cons_of_mem _ hy)
  exact fun xs h => key xs _ ⟨hl, hK, by simp⟩ h
/-! words -/
theorem okP_str {h : AH} {x : Str} (hx : SeqAt.shaped (.str x) = true) : okP h (.str x) = some (.str x) := by
  unfold okP
  have e : toPh h (.str x) = some (.str x) := rfl
  rw [e]
  simp [hx]
theorem eq_str {h : AH} {x y : Str} (hx : SeqAt.shaped (.str x) = true) (hy : SeqAt.shaped (.str y) = true) : fEq (.str x) (.str y) h = .ok (.bl (x == y)) h := by
  unfold fEq
  rw [okP_str hx, okP_str hy]
  simp [PyData.eqv]
theorem nm_wr (s : Nat) (v : Val) : (Stp.wr s v).nm = Stp.nm (.wr 0 []) := rfl
theorem sh_nm (x : Stp) : SeqAt.shaped (.str x.nm) = true := by
  cases x with
  | wr s v => rw [nm_wr]; decide +kernel
  | bar => decide +kernel
  | beg => decide +kernel
  | don => decide +kernel
theorem eq_nm {h : AH} (x y : Stp) : fEq (.str x.nm) (.str y.nm) h = .ok (.bl (x.nm == y.nm)) h := eq_str (sh_nm x) (sh_nm y)
theorem stD_hd (x : Stp) : ∃ r, stD x = .tup (.str x.nm :: r) := by cases x <;> exact ⟨_, rfl⟩
theorem stD_0 {h : AH} (x : Stp) : fIx (stD x) (.int 0) h = .ok (.str x.nm) h := by
  obtain ⟨r, e⟩ := stD_hd x
  rw [e]
  simp
def isW : Stp → Bool
  | .wr _ _ => true
  | _ => false
def isBar : Stp → Bool
  | .bar => true
  | _ => false
def isBeg : Stp → Bool
  | .beg => true
  | _ => false
def isDon : Stp → Bool
  | .don => true
  | _ => false
theorem is_w {h : AH} (x : Stp) : fEq (.str x.nm) (.str "write") h = .ok (.bl (isW x)) h := by
  have := eq_nm (h := h) x (.wr 0 [])
  have e : (x.nm == Stp.nm (.wr 0 [])) = isW x := by
    cases x with
    | wr s v => rw [nm_wr]; show _ = isW (.wr 0 []); decide +kernel
    | bar => decide +kernel
    | beg => decide +kernel
    | don => decide +kernel
  rw [e] at this
  exact this
theorem is_bar {h : AH} (x : Stp) : fEq (.str x.nm) (.str "barrier") h = .ok (.bl (isBar x)) h := by
  have := eq_nm (h := h) x .bar
  have e : (x.nm == Stp.nm .bar) = isBar x := by
    cases x with
    | wr s v => rw [nm_wr]; show _ = isBar (.wr 0 []); decide +kernel
    | bar => decide +kernel
    | beg => decide +kernel
    | don => decide +kernel
  rw [e] at this
  exact this
theorem is_beg {h : AH} (x : Stp) : fEq (.str x.nm) (.str "begin") h = .ok (.bl (isBeg x)) h := by
  have := eq_nm (h := h) x .beg
  have e : (x.nm == Stp.nm .beg) = isBeg x := by
    cases x with
    | wr s v => rw [nm_wr]; show _ = isBeg (.wr 0 []); decide +kernel
    | bar => decide +kernel
    | beg => decide +kernel
    | don => decide +kernel
  rw [e] at this
  exact this
theorem is_don {h : AH} (x : Stp) : fEq (.str x.nm) (.str "done") h = .ok (.bl (isDon x)) h := by
  have := eq_nm (h := h) x .don
  have e : (x.nm == Stp.nm .don) = isDon x := by
    cases x with
    | wr s v => rw [nm_wr]; show _ = isDon (.wr 0 []); decide +kernel
    | bar => decide +kernel
    | beg => decide +kernel
    | don => decide +kernel
  rw [e] at this
  exact this
end My
/-! drawn steps; the law's own doing of them -/
namespace My
open PySem AB L2
theorem under_stD (n : Nat) (x : Stp) : (stD x).under n = true := by
  cases x with
  | wr s v => simp [stD, D.under, underL, vD, under_ints]
  | bar => simp [stD, D.under, underL]
  | beg => simp [stD, D.under, underL]
  | don => simp [stD, D.under, underL]
theorem under_stDs (n : Nat) (xs : List Stp) : underL n (xs.map stD) = true := by
  induction xs with
  | nil => simp [underL]
  | cons x xs ih => simp [underL, ih, under_stD]
section
variable {cs : List Int} {P : AO} {tl : AH} {n many : Nat} {L : List Val}
noncomputable def stA : Ms := sSet 7 (mN m__law_draw (aCons (mV 0) (aCons (mC (.int 8)) aNil)))
noncomputable def stW : Ms := sExpr (mBM fApp (mV 4) (aCons (mN fTup (aCons (mC (.str "write")) (aCons (mN m__law_draw (aCons (mV 0) (aCons (mV 2) aNil))) (aCons (mN m__law_any (aCons (mV 0) (aCons (mV 1) aNil))) aNil)))) aNil))
noncomputable def stO (x : Str) : Ms := sExpr (mBM fApp (mV 4) (aCons (mN fTup (aCons (mC (.str x)) aNil)) aNil))
noncomputable def stB : Ms := sSeq stA (sSeq (sIf (tBl (mOp2 cLt (mV 7) (mC (.int 4)))) (sSeq stW sNil) (sSeq (sIf (tBl (mOp2 cLt (mV 7) (mC (.int 6)))) (sSeq (stO "barrier") sNil) (sSeq (sIf (tOrM (tBl (mOp2 fEq (mV 7) (mC (.int 6)))) (tBl (mOp2 fEq (mV 5) (mC (.int 0))))) (sSeq (stO "begin") (sSeq (sSet 5 (mOp2 fAdd (mV 5) (mC (.int 1)))) sNil)) (sSeq (stO "done") (sSeq (sSet 5 (mOp2 fSub (mV 5) (mC (.int 1)))) sNil))) sNil)) sNil)) sNil)
theorem stO_ok {w : Str} {x : Stp} (e : stD x = .tup [.str w]) {xs : List Stp} (hl : xs.length ≤ 1000) {g1 g2 g3 g5 g6 g7 : Option D} (P : AO) :
    stO w [some (.loc 0), g1, g2, g3, some (.loc (tl.length + 1)), g5, g6, g7] (P :: (tl ++ [.lst (xs.map stD)])) = .next [some (.loc 0), g1, g2, g3, some (.loc (tl.length + 1)), g5, g6, g7] (P :: (tl ++ [.lst ((xs ++ [x]).map stD)])) := by
  have hget : ∀ (o : AO), (P :: (tl ++ [o]))[tl.length + 1]? = some o := fun o => by simp
  have hset : ∀ (o o' : AO), (P :: (tl ++ [o])).set (tl.length + 1) o' = P :: (tl ++ [o']) := fun o o' => by simp
  have lb : (xs.map stD).length < big := by rw [List.length_map, big_eq]; omega
  have b1 : (1 : Nat) ≤ big := by decide
  have em : (xs ++ [x]).map stD = xs.map stD ++ [.tup [.str w]] := by rw [List.map_append, ← e]; rfl
  unfold stO
  simp only [v_sExpr, v_mBM, v_mV, List.getElem?_cons_succ, List.getElem?_cons_zero, Res.bind_ok, v_vLo, hget, v_aCons, v_aNil, v_mN, v_mC, v_fTup, List.length_cons, List.length_nil, Nat.zero_add, b1, if_true, v_app, lb, hset, Res.toS_ok, em]
theorem stW_ok (hc : ∀ c ∈ cs, 0 ≤ c) (hP : IsP cs P) (n1 : 1 ≤ n) (n2 : n ≤ 64) (hL : ∀ v ∈ L, VOk v) (l1 : 1 ≤ L.length) (l2 : L.length ≤ 3) {xs : List Stp} (hl : xs.length ≤ 1000) {g3 g5 g6 g7 : Option D} :
    ∃ x P', StpOk n x ∧ isW x = true ∧ stW [some (.loc 0), some (.lst (L.map vD)), some (.int n), g3, some (.loc (tl.length + 1)), g5, g6, g7] (P :: (tl ++ [.lst (xs.map stD)])) = .next [some (.loc 0), some (.lst (L.map vD)), some (.int n), g3, some (.loc (tl.length + 1)), g5, g6, g7] (P' :: (tl ++ [.lst ((xs ++ [x]).map stD)])) ∧ IsP cs P' := by
  obtain ⟨s, P1, e1, hP1, s0, s1⟩ := draw_ok hc hP (many := n) (by omega) (by omega) (tl ++ [.lst (xs.map stD)])
  obtain ⟨x, P2, e2, hP2, hx⟩ := any_ok hc hP1 (L.map vD) (by rw [List.length_map]; exact l1) (by rw [List.length_map]; omega) (tl ++ [.lst (xs.map stD)])
  obtain ⟨v, hv, rfl⟩ := List.mem_map.mp hx
  obtain ⟨s, rfl⟩ : ∃ k : Nat, s = (k : Int) := ⟨s.toNat, by omega⟩
  refine ⟨.wr s v, P2, ⟨by omega, hL v hv⟩, rfl, ?_, hP2⟩
  have hget : ∀ (P : AO) (o : AO), (P :: (tl ++ [o]))[tl.length + 1]? = some o := fun P o => by simp
  have hset : ∀ (P o o' : AO), (P :: (tl ++ [o])).set (tl.length + 1) o' = P :: (tl ++ [o']) := fun P o o' => by simp
  have lb : (xs.map stD).length < big := by rw [List.length_map, big_eq]; omega
  have b3 : (3 : Nat) ≤ big := by decide
  have em : (xs ++ [Stp.wr s v]).map stD = xs.map stD ++ [.tup [.str "write", .int (s : Int), vD v]] := by rw [List.map_append]; rfl
  unfold stW
  simp only [v_sExpr, v_mBM, v_mV, List.getElem?_cons_succ, List.getElem?_cons_zero, Res.bind_ok, v_vLo, hget, v_aCons, v_aNil, v_mN, v_mC, e1, e2, v_fTup, List.length_cons, List.length_nil, Nat.zero_add, Nat.reduceAdd, b3, if_true, v_app, lb, hset, Res.toS_ok, em]
theorem steps_ok (hc : ∀ c ∈ cs, 0 ≤ c) (hP : IsP cs P) (tl : AH) (n1 : 1 ≤ n) (n2 : n ≤ 64) (hL : ∀ v ∈ L, VOk v) (l1 : 1 ≤ L.length) (l2 : L.length ≤ 3) (hm : many ≤ 200) :
    ∃ (xs : List Stp) (P' : AO), m__law_steps [.loc 0, .lst (L.map vD), .int n, .int many] (P :: tl) = .ok (.tup (xs.map stD)) (P' :: tl) ∧ IsP cs P' ∧ xs.length = many ∧ (∀ x ∈ xs, StpOk n x) ∧ PreOk xs := by
  obtain ⟨G', h', e1, g6, g7, P', xs, rfl, rfl, hP', hl, hx, hp, hu⟩ := for_invN (p := .nm 6) (body := stB) (all0 := (List.range' 0 many).map fun i : Nat => D.int (i : Int))
    (fun j G h => ∃ g6 g7 P xs, G = [some (.loc 0), some (.lst (L.map vD)), some (.int n), some (.int many), some (.loc (tl.length + 1)), some (.int (und xs)), g6, g7] ∧ h = P :: (tl ++ [.lst (xs.map stD)]) ∧ IsP cs P ∧ xs.length = j ∧ (∀ x ∈ xs, StpOk n x) ∧ PreOk xs ∧ 0 ≤ und xs)
    (fun i : Nat => D.int (i : Int)) many 0 many (by omega)
    (by
      rintro i hi G h ⟨g6, g7, P, xs, rfl, rfl, hP, hl, hx, hp, hu⟩
      obtain ⟨kd, P1, e0, hP1, k0, k1⟩ := draw_ok hc hP (many := 8) (by omega) (by omega) (tl ++ [.lst (xs.map stD)])
      have c0 : stA [some (.loc 0), some (.lst (L.map vD)), some (.int n), some (.int many), some (.loc (tl.length + 1)), some (.int (und xs)), some (.int (i : Int)), g7] (P :: (tl ++ [.lst (xs.map stD)])) =
          .next [some (.loc 0), some (.lst (L.map vD)), some (.int n), some (.int many), some (.loc (tl.length + 1)), some (.int (und xs)), some (.int (i : Int)), some (.int kd)] (P1 :: (tl ++ [.lst (xs.map stD)])) := by
        unfold stA
        simp only [v_sSet, v_mN, v_aCons, v_aNil, v_mV, v_mC, List.getElem?_cons_succ, List.getElem?_cons_zero, Res.bind_ok, e0, Res.toS_ok, List.set_cons_succ, List.set_cons_zero]
      have ext : ∀ x : Stp, StpOk n x → ∀ y ∈ xs ++ [x], StpOk n y := fun x h y hy => by
        rcases List.mem_append.mp hy with hy | hy
        · exact hx y hy
        · rw [List.mem_singleton.mp hy]; exact h
      by_cases q4 : kd < 4
      · obtain ⟨x, P2, hxo, hxw, c1, hP2⟩ := stW_ok (tl := tl) hc hP1 n1 n2 hL l1 l2 (xs := xs) (by omega) (g3 := some (.int many)) (g5 := some (.int (und xs))) (g6 := some (.int (i : Int))) (g7 := some (.int kd))
        have eu : und (xs ++ [x]) = und xs := by
          rw [und_snoc]
          cases x with
          | wr s v => simp [Stp.lift]
          | bar => simp [Stp.lift]
          | beg => cases hxw
          | don => cases hxw
        refine ⟨[some (.loc 0), some (.lst (L.map vD)), some (.int n), some (.int many), some (.loc (tl.length + 1)), some (.int (und xs)), some (.int (i : Int)), g7], [some (.loc 0), some (.lst (L.map vD)), some (.int n), some (.int many), some (.loc (tl.length + 1)), some (.int (und xs)), some (.int (i : Int)), some (.int kd)], P2 :: (tl ++ [.lst ((xs ++ [x]).map stD)]), rfl, ?_, some (.int (i : Int)), some (.int kd), P2, xs ++ [x], by rw [eu], rfl, hP2, by simp [hl], ext x hxo, pre_snoc hp (by rw [eu]; exact hu), by rw [eu]; exact hu⟩
        unfold stB
        simp only [v_sSeq, c0, SR.andThen_next, v_sIf, v_tBl, v_mOp2, v_mV, v_mC, List.getElem?_cons_succ, List.getElem?_cons_zero, Res.bind_ok, v_cLt, q4, decide_true, Res.toS_ok, if_true, c1, v_sNil]
      · by_cases q6 : kd < 6
        · have c1 := stO_ok (tl := tl) (w := "barrier") (x := .bar) rfl (xs := xs) (by omega) (g1 := some (.lst (L.map vD))) (g2 := some (.int n)) (g3 := some (.int many)) (g5 := some (.int (und xs))) (g6 := some (.int (i : Int))) (g7 := some (.int kd)) P1
          have eu : und (xs ++ [.bar]) = und xs := by rw [und_snoc]; simp [Stp.lift]
          refine ⟨[some (.loc 0), some (.lst (L.map vD)), some (.int n), some (.int many), some (.loc (tl.length + 1)), some (.int (und xs)), some (.int (i : Int)), g7], [some (.loc 0), some (.lst (L.map vD)), some (.int n), some (.int many), some (.loc (tl.length + 1)), some (.int (und xs)), some (.int (i : Int)), some (.int kd)], P1 :: (tl ++ [.lst ((xs ++ [Stp.bar]).map stD)]), rfl, ?_, some (.int (i : Int)), some (.int kd), P1, xs ++ [Stp.bar], by rw [eu], rfl, hP1, by simp [hl], ext .bar trivial, pre_snoc hp (by rw [eu]; exact hu), by rw [eu]; exact hu⟩
          unfold stB
          simp only [v_sSeq, c0, SR.andThen_next, v_sIf, v_tBl, v_mOp2, v_mV, v_mC, List.getElem?_cons_succ, List.getElem?_cons_zero, Res.bind_ok, v_cLt, q4, q6, decide_true, decide_false, Bool.false_eq_true, if_false, Res.toS_ok, if_true, c1, v_sNil]
        · have cO : tOrM (tBl (mOp2 fEq (mV 7) (mC (.int 6)))) (tBl (mOp2 fEq (mV 5) (mC (.int 0)))) [some (.loc 0), some (.lst (L.map vD)), some (.int n), some (.int many), some (.loc (tl.length + 1)), some (.int (und xs)), some (.int (i : Int)), some (.int kd)] (P1 :: (tl ++ [.lst (xs.map stD)])) = .ok (decide (kd = 6) || decide (und xs = 0)) (P1 :: (tl ++ [.lst (xs.map stD)])) := by
            by_cases z : kd = 6
            · simp only [v_tOr, v_tBl, v_mOp2, v_mV, v_mC, List.getElem?_cons_succ, List.getElem?_cons_zero, Res.bind_ok, v_eq, z, decide_true, if_true, Bool.true_or]
            · simp only [v_tOr, v_tBl, v_mOp2, v_mV, v_mC, List.getElem?_cons_succ, List.getElem?_cons_zero, Res.bind_ok, v_eq, z, decide_false, Bool.false_eq_true, if_false, Bool.false_or]
          by_cases qO : (decide (kd = 6) || decide (und xs = 0)) = true
          · have c1 := stO_ok (tl := tl) (w := "begin") (x := .beg) rfl (xs := xs) (by omega) (g1 := some (.lst (L.map vD))) (g2 := some (.int n)) (g3 := some (.int many)) (g5 := some (.int (und xs))) (g6 := some (.int (i : Int))) (g7 := some (.int kd)) P1
            have eu : und (xs ++ [.beg]) = und xs + 1 := by rw [und_snoc]; simp [Stp.lift]
            refine ⟨[some (.loc 0), some (.lst (L.map vD)), some (.int n), some (.int many), some (.loc (tl.length + 1)), some (.int (und xs)), some (.int (i : Int)), g7], [some (.loc 0), some (.lst (L.map vD)), some (.int n), some (.int many), some (.loc (tl.length + 1)), some (.int (und xs + 1)), some (.int (i : Int)), some (.int kd)], P1 :: (tl ++ [.lst ((xs ++ [Stp.beg]).map stD)]), rfl, ?_, some (.int (i : Int)), some (.int kd), P1, xs ++ [Stp.beg], by rw [eu], rfl, hP1, by simp [hl], ext .beg trivial, pre_snoc hp (by rw [eu]; omega), by rw [eu]; omega⟩
            unfold stB
            simp only [v_sSeq, c0, SR.andThen_next, v_sIf, cO, qO, v_tBl, v_mOp2, v_mV, v_mC, List.getElem?_cons_succ, List.getElem?_cons_zero, Res.bind_ok, v_cLt, q4, q6, decide_true, decide_false, Bool.false_eq_true, if_false, Res.toS_ok, if_true, c1, v_sSet, v_add, List.set_cons_succ, List.set_cons_zero, v_sNil]
          · have qf : (decide (kd = 6) || decide (und xs = 0)) = false := by simpa using qO
            have c1 := stO_ok (tl := tl) (w := "done") (x := .don) rfl (xs := xs) (by omega) (g1 := some (.lst (L.map vD))) (g2 := some (.int n)) (g3 := some (.int many)) (g5 := some (.int (und xs))) (g6 := some (.int (i : Int))) (g7 := some (.int kd)) P1
            have eu : und (xs ++ [.don]) = und xs - 1 := by rw [und_snoc]; simp [Stp.lift]; omega
            have hu1 : 0 ≤ und xs - 1 := by
              simp at qf
              omega
            refine ⟨[some (.loc 0), some (.lst (L.map vD)), some (.int n), some (.int many), some (.loc (tl.length + 1)), some (.int (und xs)), some (.int (i : Int)), g7], [some (.loc 0), some (.lst (L.map vD)), some (.int n), some (.int many), some (.loc (tl.length + 1)), some (.int (und xs - 1)), some (.int (i : Int)), some (.int kd)], P1 :: (tl ++ [.lst ((xs ++ [Stp.don]).map stD)]), rfl, ?_, some (.int (i : Int)), some (.int kd), P1, xs ++ [Stp.don], by rw [eu], rfl, hP1, by simp [hl], ext .don trivial, pre_snoc hp (by rw [eu]; omega), by rw [eu]; omega⟩
            unfold stB
            simp only [v_sSeq, c0, SR.andThen_next, v_sIf, cO, qf, v_tBl, v_mOp2, v_mV, v_mC, List.getElem?_cons_succ, List.getElem?_cons_zero, Res.bind_ok, v_cLt, q4, q6, decide_true, decide_false, Bool.false_eq_true, if_false, Res.toS_ok, if_true, c1, v_sSet, v_sub, List.set_cons_succ, List.set_cons_zero, v_sNil])
    [some (.loc 0), some (.lst (L.map vD)), some (.int n), some (.int many), some (.loc (tl.length + 1)), some (.int 0), none, none] (P :: (tl ++ [.lst []])) ⟨none, none, P, [], rfl, rfl, hP, rfl, by simp, fun k => by simp [und], by simp [und]⟩
  refine ⟨xs, P', ?_, hP', hl, hx, hp⟩
  have er : rangeD 0 many = (List.range' 0 many).map fun i : Nat => D.int (i : Int) := by rw [← List.range_eq_range']; exact rangeD_eq many
  have c1 : okR (many : Int) := ⟨by omega, by omega⟩
  have b0 : (0 : Nat) ≤ big := by decide
  have ei : ∀ h, (iRange1 (aCons (mV 3) aNil)) [some (.loc 0), some (.lst (L.map vD)), some (.int n), some (.int many), some (.loc (tl.length + 1)), some (.int 0), none, none] h = .ok ((List.range' 0 many).map fun i : Nat => D.int (i : Int), none) h := fun h => by
    rw [v_range1]
    simp only [v_aCons, v_aNil, v_mV, List.getElem?_cons_succ, List.getElem?_cons_zero, Res.bind_ok, c1, if_true]
    show Res.ok (rangeD 0 (many : Int).toNat, none) _ = _
    rw [Int.toNat_natCast, er]
  have fin := finD_hand hP' tl [.lst (xs.map stD)] (.tup (xs.map stD)) (by simp only [D.under]; exact under_stDs _ _) (P := P)
  have hget : (P' :: (tl ++ [AO.lst (xs.map stD)]))[tl.length + 1]? = some (.lst (xs.map stD)) := by simp
  have eb : b__law_steps [some (.loc 0), some (.lst (L.map vD)), some (.int n), some (.int many), none, none, none, none] (P :: tl) = .ret (.tup (xs.map stD)) (P' :: (tl ++ [.lst (xs.map stD)])) := by
    have eq : b__law_steps = sSeq (sSet 4 (mNew (lLst aNil))) (sSeq (sSet 5 (mC (.int 0))) (sSeq (sFor (.nm 6) (iRange1 (aCons (mV 3) aNil)) stB) (sSeq (sRet (mN fTuple (aCons (mV 4) aNil))) sNil))) := rfl
    rw [eq]
    have ec : (P :: tl) ++ [AO.lst []] = P :: (tl ++ [.lst []]) := rfl
    simp only [v_sSeq, v_sSet, v_mNew, v_lLst, v_aNil, Res.bind_ok, List.length_nil, b0, if_true, List.length_cons, ec, v_mC, Res.toS_ok, List.set_cons_succ, List.set_cons_zero, SR.andThen_next, v_sFor, ei, e1, v_sRet, v_mN, v_aCons, v_mV, List.getElem?_cons_succ, v_tuple, v_vSo, SR.andThen_ret]
    simp
  simp [m__law_steps, mDef, eb, fin]
end
end My
/-! the law's own doing of steps -/
namespace My
open PySem AB L2
theorem get_tail {h t : AH} {a : AO} {n : Nat} (hn : h.length < n) : (h ++ a :: t)[n]? = t[n - h.length - 1]? := by
  rw [List.getElem?_append_right (by omega)]
  obtain ⟨k, hk⟩ : ∃ k, n - h.length = k + 1 := ⟨n - h.length - 1, by omega⟩
  rw [hk, List.getElem?_cons_succ]
  rfl
theorem set_tail {h t : AH} {a x : AO} {n : Nat} (hn : h.length < n) : (h ++ a :: t).set n x = h ++ a :: t.set (n - h.length - 1) x := by
  rw [List.set_append_right _ _ (by omega)]
  obtain ⟨k, hk⟩ : ∃ k, n - h.length = k + 1 := ⟨n - h.length - 1, by omega⟩
  rw [hk, List.set_cons_succ]
  rfl
noncomputable def bhW : Ms := sIf (tBl (mOp2 fEq (mOp2 fIx (mV 4) (mC (.int 0))) (mC (.str "write")))) (sSeq (sExpr (mBM fApp (mV 3) (aCons (mN fTup (aCons (mOp2 fIx (mV 4) (mC (.int 1))) (aCons (mOp2 fIx (mV 4) (mC (.int 2))) aNil))) aNil))) sNil) sNil
noncomputable def bhF : Ms := sFor (.tp [(.nm 5), (.nm 6)]) (iSeq (mV 3)) (sSeq (sSub (mV 2) (mV 5) (mV 6)) sNil)
noncomputable def bhB : Ms := sIf (tBl (mOp2 fEq (mOp2 fIx (mV 4) (mC (.int 0))) (mC (.str "barrier")))) (sSeq bhF (sSeq (sSet 3 (mNew (lLst aNil))) sNil)) sNil
section
variable {n : Nat} {h t : AH} {S : List (Option Val) × List (Nat × Val)} {nW : Nat} {x : Stp} {g0 g1 g5 g6 : Option D}
theorem tst_w {G : AB.Env} {hh : AH} {i : Nat} (hi : G[i]? = some (some (stD x))) : (tBl (mOp2 fEq (mOp2 fIx (mV i) (mC (.int 0))) (mC (.str "write")))) G hh = .ok (isW x) hh := by
  simp only [v_tBl, v_mOp2, v_mV, v_mC, hi, Res.bind_ok, stD_0, is_w]
theorem tst_bar {G : AB.Env} {hh : AH} {i : Nat} (hi : G[i]? = some (some (stD x))) : (tBl (mOp2 fEq (mOp2 fIx (mV i) (mC (.int 0))) (mC (.str "barrier")))) G hh = .ok (isBar x) hh := by
  simp only [v_tBl, v_mOp2, v_mV, v_mC, hi, Res.bind_ok, stD_0, is_bar]
theorem bh_ok (hx : StpOk n x) (r : RunOk n S) (hl : S.2.length ≤ 1000) (hW : h.length < nW) (gW : (h ++ AO.lst (S.1.map hvD) :: t)[nW]? = some (.lst (S.2.map pD))) :
    ∃ nW' t' g5' g6', sSeq bhW (sSeq bhB sNil) [g0, g1, some (.loc h.length), some (.loc nW), some (stD x), g5, g6] (h ++ AO.lst (S.1.map hvD) :: t) =
      .next [g0, g1, some (.loc h.length), some (.loc nW'), some (stD x), g5', g6'] (h ++ AO.lst ((run1 S x).1.map hvD) :: t') ∧ h.length < nW' ∧ (h ++ AO.lst ((run1 S x).1.map hvD) :: t')[nW']? = some (.lst ((run1 S x).2.map pD)) := by
  have e1 := fun hh => tst_w (x := x) (G := [g0, g1, some (.loc h.length), some (.loc nW), some (stD x), g5, g6]) (hh := hh) (i := 4) rfl
  have e2 := fun hh => tst_bar (x := x) (G := [g0, g1, some (.loc h.length), some (.loc nW), some (stD x), g5, g6]) (hh := hh) (i := 4) rfl
  by_cases qw : isW x = true
  · cases x with
    | wr s v =>
      have b2 : (2 : Nat) ≤ big := by decide
      have lb : (S.2.map pD).length < big := by rw [List.length_map, big_eq]; omega
      have i1 : ∀ hh, fIx (stD (.wr s v)) (.int 1) hh = .ok (.int (s : Int)) hh := fun hh => by simp [stD]
      have i2 : ∀ hh, fIx (stD (.wr s v)) (.int 2) hh = .ok (vD v) hh := fun hh => by simp [stD]
      have em : (S.2 ++ [(s, v)]).map pD = S.2.map pD ++ [.tup [.int (s : Int), vD v]] := by rw [List.map_append]; rfl
      refine ⟨nW, t.set (nW - h.length - 1) (.lst ((S.2 ++ [(s, v)]).map pD)), g5, g6, ?_, hW, ?_⟩
      · unfold bhW bhB
        simp only [v_sSeq, v_sIf, e1, e2, isW, isBar, Res.toS_ok, if_true, Bool.false_eq_true, if_false, v_sNil, SR.andThen_next, v_sExpr, v_mBM, v_mV, List.getElem?_cons_succ, List.getElem?_cons_zero, Res.bind_ok, v_vLo, gW, v_aCons, v_aNil, v_mN, v_mOp2, v_mC, i1, i2, v_fTup, List.length_cons, List.length_nil, Nat.zero_add, Nat.reduceAdd, b2, v_app, lb, set_tail hW, em]
        rfl
      · show (h ++ AO.lst (S.1.map hvD) :: t.set (nW - h.length - 1) (.lst ((S.2 ++ [(s, v)]).map pD)))[nW]? = some (.lst ((S.2 ++ [(s, v)]).map pD))
        rw [get_tail hW] at gW ⊢
        rw [List.getElem?_set_self (lt_of_get gW)]
    | bar => cases qw
    | beg => cases qw
    | don => cases qw
  · have qf : isW x = false := by simpa using qw
    by_cases qb : isBar x = true
    · have hxb : x = .bar := by cases x <;> first | rfl | cases qb
      subst hxb
      have b0 : (0 : Nat) ≤ big := by decide
      obtain ⟨G', h', c, g5', g6', rfl, rfl⟩ := for_preS (p := .tp [(.nm 5), (.nm 6)]) (body := sSeq (sSub (mV 2) (mV 5) (mV 6)) sNil) (all0 := S.2.map pD) (src := some nW)
        (fun done G hh => ∃ g5' g6', G = [g0, g1, some (.loc h.length), some (.loc nW), some (stD .bar), g5', g6'] ∧ hh = h ++ AO.lst ((putW S.1 done).map hvD) :: t)
        (by
          rintro done G hh ⟨_, _, _, rfl⟩
          show (h ++ AO.lst ((putW S.1 done).map hvD) :: t)[nW]? = _
          rw [get_tail hW] at gW ⊢
          exact gW) pD S.2 S.2 [] rfl
        (by
          rintro done p rest ed G hh ⟨g5', g6', rfl, rfl⟩
          have hp : p.1 < ((putW S.1 done).map hvD).length := by
            rw [List.length_map, putW_len, r.len]
            exact (r.wv p (by rw [← ed]; simp)).1
          have x2 := ixN_nat hp
          refine ⟨_, [g0, g1, some (.loc h.length), some (.loc nW), some (stD .bar), some (.int (p.1 : Int)), some (vD p.2)], h ++ AO.lst ((putW S.1 (done ++ [p])).map hvD) :: t, rfl, ?_, _, _, rfl, rfl⟩
          rw [putW_snoc, List.map_set]
          simp only [v_sSeq, v_sSub, v_mV, List.set_cons_succ, List.set_cons_zero, List.getElem?_cons_succ, List.getElem?_cons_zero, Res.toS_ok, get_mid, x2, set_mid, SR.andThen_next, v_sNil]
          rfl)
        [g0, g1, some (.loc h.length), some (.loc nW), some (stD .bar), g5, g6] (h ++ AO.lst (S.1.map hvD) :: t) ⟨g5, g6, rfl, rfl⟩
      have i1 : (iSeq (mV 3)) [g0, g1, some (.loc h.length), some (.loc nW), some (stD .bar), g5, g6] (h ++ AO.lst (S.1.map hvD) :: t) = .ok (S.2.map pD, some nW) (h ++ AO.lst (S.1.map hvD) :: t) := by
        rw [v_iSeq]
        simp only [v_mV, List.getElem?_cons_succ, List.getElem?_cons_zero, Res.bind_ok, gW]
      refine ⟨(h ++ AO.lst ((putW S.1 S.2).map hvD) :: t).length, t ++ [.lst []], g5', g6', ?_, by simp, ?_⟩
      · have ea : ∀ a : AO, (h ++ a :: t) ++ [AO.lst []] = h ++ a :: (t ++ [AO.lst []]) := fun a => by simp
        unfold bhW bhB bhF
        simp only [v_sSeq, v_sIf, e1, e2, isW, isBar, Res.toS_ok, if_true, Bool.false_eq_true, if_false, v_sNil, SR.andThen_next, v_sFor, i1, c, v_sSet, v_mNew, v_lLst, v_aNil, List.length_nil, b0, Res.bind_ok, List.set_cons_succ, List.set_cons_zero, ea]
        rfl
      · show (h ++ AO.lst ((putW S.1 S.2).map hvD) :: (t ++ [AO.lst []]))[(h ++ AO.lst ((putW S.1 S.2).map hvD) :: t).length]? = some (.lst [])
        have ea : h ++ AO.lst ((putW S.1 S.2).map hvD) :: (t ++ [AO.lst []]) = (h ++ AO.lst ((putW S.1 S.2).map hvD) :: t) ++ [AO.lst []] := by simp
        rw [ea, g_app0]
        rfl
    · have qbf : isBar x = false := by simpa using qb
      have er : run1 S x = S := by cases x <;> first | rfl | (exact absurd rfl qw) | (exact absurd rfl qb)
      refine ⟨nW, t, g5, g6, ?_, hW, by rw [er]; exact gW⟩
      rw [er]
      unfold bhW bhB
      simp only [v_sSeq, v_sIf, e1, e2, qf, qbf, Res.toS_ok, Bool.false_eq_true, if_false, v_sNil, SR.andThen_next]
theorem behind_ok {K : List (Option Val)} {xs : List Stp} (hl : K.length = n) (hK : ∀ o ∈ K, HOkV o) (hx : ∀ x ∈ xs, StpOk n x) (h2 : xs.length ≤ 900) (h : AH) :
    ∃ nW t, m__law_behind [.tup (K.map hvD), .tup (xs.map stD)] h = .ok (.tup [.tup ((runs K xs).1.map hvD), .loc nW]) (h ++ t) ∧ (h ++ t)[nW]? = some (.lst ((runs K xs).2.map pD)) ∧ h.length ≤ nW := by
  obtain ⟨G', h', c, nW, t, g4, g5, g6, rfl, rfl, hW, gW⟩ := for_pre (p := .nm 4) (body := sSeq bhW (sSeq bhB sNil)) (all0 := xs.map stD)
    (fun done G hh => ∃ nW t g4 g5 g6, G = [some (.tup (K.map hvD)), some (.tup (xs.map stD)), some (.loc h.length), some (.loc nW), g4, g5, g6] ∧ hh = h ++ AO.lst ((runs K done).1.map hvD) :: t ∧ h.length < nW ∧ hh[nW]? = some (.lst ((runs K done).2.map pD)))
    stD xs xs [] rfl
    (by
      rintro done x rest ed G hh ⟨nW, t, g4, g5, g6, rfl, rfl, hW, gW⟩
      have hd : ∀ y ∈ done, StpOk n y := fun y hy => hx y (by rw [← ed]; exact List.mem_append_left _ hy)
      have hxx : StpOk n x := hx x (by rw [← ed]; simp)
      have hlen : done.length ≤ 900 := by
        have := congrArg List.length ed
        rw [List.length_append] at this
        omega
      have rl := (runs_len K done).2
      obtain ⟨nW', t', g5', g6', e, hW', gW'⟩ := bh_ok (t := t) (g0 := some (.tup (K.map hvD))) (g1 := some (.tup (xs.map stD))) (g5 := g5) (g6 := g6) hxx (runs_ok hl hK done hd) (by omega) hW gW
      rw [← runs_snoc] at e gW'
      exact ⟨[some (.tup (K.map hvD)), some (.tup (xs.map stD)), some (.loc h.length), some (.loc nW), some (stD x), g5, g6], _, _, rfl, e, nW', t', _, g5', g6', rfl, rfl, hW', gW'⟩)
    [some (.tup (K.map hvD)), some (.tup (xs.map stD)), some (.loc h.length), some (.loc (h.length + 1)), none, none, none] (h ++ AO.lst (K.map hvD) :: [AO.lst []]) ⟨_, _, _, _, _, rfl, rfl, by omega, by rw [get_tail (by omega)]; simp; rfl⟩
  refine ⟨nW, AO.lst ((runs K xs).1.map hvD) :: t, ?_, gW, by omega⟩
  have b0 : (0 : Nat) ≤ big := by decide
  have b2 : (2 : Nat) ≤ big := by decide
  have ea : ∀ a : AO, (h ++ a :: []) ++ [AO.lst []] = h ++ a :: [AO.lst []] := fun a => by simp
  have ll : ∀ a : AO, (h ++ a :: []).length = h.length + 1 := fun a => by simp
  have i1 : ∀ (g2 g3 g4 g5 g6 : Option D) (hh : AH), (iSeq (mV 1)) [some (.tup (K.map hvD)), some (.tup (xs.map stD)), g2, g3, g4, g5, g6] hh = .ok (xs.map stD, none) hh := fun _ _ _ _ _ _ => rfl
  have c1 : (mNew (lN lList (aCons (mV 0) aNil))) [some (.tup (K.map hvD)), some (.tup (xs.map stD)), none, none, none, none, none] h = .ok (.loc h.length) (h ++ AO.lst (K.map hvD) :: []) := by
    simp only [v_mNew, v_lN, v_aCons, v_mV, List.getElem?_cons_zero, Res.bind_ok, v_aNil, v_list, v_vSt]
  have eb : b__law_behind [some (.tup (K.map hvD)), some (.tup (xs.map stD)), none, none, none, none, none] h = .ret (.tup [.tup ((runs K xs).1.map hvD), .loc nW]) (h ++ AO.lst ((runs K xs).1.map hvD) :: t) := by
    have eq : b__law_behind = sSeq (sSet 2 (mNew (lN lList (aCons (mV 0) aNil)))) (sSeq (sSet 3 (mNew (lLst aNil))) (sSeq (sFor (.nm 4) (iSeq (mV 1)) (sSeq bhW (sSeq bhB sNil))) (sSeq (sRet (mN fTup (aCons (mN fTuple (aCons (mV 2) aNil)) (aCons (mV 3) aNil)))) sNil))) := rfl
    rw [eq]
    simp only [v_sSeq, v_sSet, c1, Res.toS_ok, List.set_cons_succ, List.set_cons_zero, SR.andThen_next, v_mNew, v_lLst, v_aNil, Res.bind_ok, List.length_nil, b0, if_true, ll, ea, v_sFor, i1, c, v_sRet, v_mN, v_aCons, v_mV, List.getElem?_cons_succ, List.getElem?_cons_zero, v_tuple, v_vSo, get_mid, v_fTup, List.length_cons, Nat.zero_add, Nat.reduceAdd, b2, SR.andThen_ret]
  simp [m__law_behind, mDefK, eb]
end
end My
/-! plans -/
namespace My
open PySem AB L2
@[simp] theorem v_tyS {h : AH} {x : Str} : tyD h (.str x) = some .str := rfl
theorem q_bb {h : AH} : fEq (.str "barrier") (.str "barrier") h = .ok (.bl true) h := is_bar .bar
theorem q_wb {h : AH} : fEq (.str "write") (.str "barrier") h = .ok (.bl false) h := is_bar (.wr 0 [])
theorem q_gb {h : AH} : fEq (.str "begin") (.str "barrier") h = .ok (.bl false) h := is_bar .beg
theorem q_db {h : AH} : fEq (.str "done") (.str "barrier") h = .ok (.bl false) h := is_bar .don
theorem q_ww {h : AH} : fEq (.str "write") (.str "write") h = .ok (.bl true) h := is_w (.wr 0 [])
theorem q_gw {h : AH} : fEq (.str "begin") (.str "write") h = .ok (.bl false) h := is_w .beg
theorem q_dw {h : AH} : fEq (.str "done") (.str "write") h = .ok (.bl false) h := is_w .don
theorem is_disk_step_ok {h : AH} {n : Nat} {x : Stp} (w : StpOk n x) : m_is_disk_step [stD x, .int n] h = .ok (.bl (isW x || isBar x)) h := by
  cases x with
  | bar => simp [m_is_disk_step, mDef, b_is_disk_step, stD, Ty.sub, q_bb, isW, isBar]
  | beg => simp [m_is_disk_step, mDef, b_is_disk_step, stD, Ty.sub, q_gb, q_gw, isW, isBar]
  | don => simp [m_is_disk_step, mDef, b_is_disk_step, stD, Ty.sub, q_db, q_dw, isW, isBar]
  | wr s v =>
    obtain ⟨h1, h2⟩ := w
    have e1 : (s : Int) ≤ (n : Int) - 1 := by omega
    simp [m_is_disk_step, mDef, b_is_disk_step, stD, Ty.sub, q_wb, q_ww, e1, is_value_ok h2, isW]
theorem in_deeds {h : AH} (x : Stp) : fIn (.str x.nm) (.tup [.str "begin", .str "done"]) h = .ok (.bl (isBeg x || isDon x)) h := by
  have e1 : okP h (.tup [.str "begin", .str "done"]) = some (.tuple [.str "begin", .str "done"]) := by
    unfold okP
    have e : toPh h (.tup [.str "begin", .str "done"]) = some (.tuple [.str "begin", .str "done"]) := rfl
    rw [e]
    have : SeqAt.shaped (.tuple [.str "begin", .str "done"]) = true := by decide +kernel
    simp [this]
  unfold fIn inD
  rw [okP_str (sh_nm x), e1]
  have e2 : ([PyData.str "begin", PyData.str "done"].any fun z => PyData.eqv z (.str x.nm)) = (isBeg x || isDon x) := by
    cases x with
    | wr s v => rw [nm_wr]; show _ = (isBeg (.wr 0 []) || isDon (.wr 0 [])); decide +kernel
    | bar => decide +kernel
    | beg => decide +kernel
    | don => decide +kernel
  simp only [e2]
theorem is_deed_ok {h : AH} {x : Stp} (hx : (isBeg x || isDon x) = true) : m_is_deed_step [stD x] h = .ok (.bl true) h := by
  have e := in_deeds (h := h) x
  have b2 : (2 : Nat) ≤ big := by decide
  cases x with
  | bar => cases hx
  | wr s v => cases hx
  | beg =>
    have e : fIn (.str "begin") (.tup [.str "begin", .str "done"]) h = .ok (.bl true) h := e
    simp [m_is_deed_step, mDef, b_is_deed_step, stD, Ty.sub, e, b2]
  | don =>
    have e : fIn (.str "done") (.tup [.str "begin", .str "done"]) h = .ok (.bl true) h := e
    simp [m_is_deed_step, mDef, b_is_deed_step, stD, Ty.sub, e, b2]
/-! the object -/
theorem st_ts : ¬ (("kept_steps" : Str) = "kept_state") := by decide +kernel
theorem st_st : ¬ (("kept_state" : Str) = "kept_steps") := by decide +kernel
def planF (K : List (Option Val)) (xs : List Stp) : List (Str × D) := [("kept_state", .tup (K.map hvD)), ("kept_steps", .tup (xs.map stD))]
@[simp] theorem pf_state {K : List (Option Val)} {xs : List Stp} : (planF K xs).lookup ("kept_state" : Str) = some (.tup (K.map hvD)) := lookup_eq
@[simp] theorem pf_steps {K : List (Option Val)} {xs : List Stp} : (planF K xs).lookup ("kept_steps" : Str) = some (.tup (xs.map stD)) := by
  unfold planF
  rw [lookup_ne st_ts, lookup_eq]
theorem pf_new (K : List (Option Val)) (xs : List Stp) : putD "kept_steps" (.tup (xs.map stD)) (putD "kept_state" (.tup (K.map hvD)) []) = planF K xs := by
  have e1 : putD "kept_state" (.tup (K.map hvD)) [] = [(("kept_state" : Str), D.tup (K.map hvD))] := rfl
  rw [e1]
  show (if ("kept_state" : Str) = "kept_steps" then _ else (("kept_state" : Str), D.tup (K.map hvD)) :: [(("kept_steps" : Str), D.tup (xs.map stD))]) = _
  rw [if_neg st_st]
  rfl
theorem lookup_one {β : Type} {f : Str} {d : β} {r : List (Str × β)} : List.lookup f ((f, d) :: r) = some d := by
  rw [List.lookup_cons]
  have : (f == f) = true := by simp
  rw [this]
def encS (xs : List Stp) (i : Nat) : D := .tup [.int (i : Int), stD (xs.getD i .bar)]
theorem enum_S (xs : List Stp) : enumD (xs.map stD) = (List.range' 0 xs.length).map (encS xs) := by
  rw [enumD_eq, List.length_map, ← List.range_eq_range']
  refine List.map_congr_left fun i hi => ?_
  have hi := List.mem_range.mp hi
  show D.tup [D.int (i : Int), (xs.map stD).getD i D.non] = _
  unfold encS
  rw [List.getD_eq_getElem?_getD, List.getD_eq_getElem?_getD, List.getElem?_map, List.getElem?_eq_getElem hi]
  rfl
theorem und_take {xs : List Stp} {i : Nat} (hi : i < xs.length) : und (xs.take (i + 1)) = und (xs.take i) + (xs.getD i .bar).lift := by
  have e : xs.take (i + 1) = xs.take i ++ [xs[i]] := by
    rw [List.take_succ, List.getElem?_eq_getElem hi]
    rfl
  rw [e, und_snoc, List.getD_eq_getElem?_getD, List.getElem?_eq_getElem hi]
  rfl
theorem lift_eq (x : Stp) : (if isBeg x = true then (1 : Int) else 0) - (if isDon x = true then (1 : Int) else 0) = x.lift := by cases x <;> rfl
theorem in_hvT {h : AH} (o : Option Val) (L : List (Option Val)) : fIn (hvD o) (.tup (L.map hvD)) h = .ok (.bl (decide (o ∈ L))) h := by
  unfold fIn inD
  rw [okP_hv, okP_hvT]
  simp only [any_hv]
noncomputable def pI1 : Ms := sIf (tOrM (tNotM (tOf (mN m_is_state (aCons (mV 1) aNil)))) (tBl (mOp2 fIn (mC .non) (mV 1)))) (sSeq sNever sNil) sNil
noncomputable def pI2 : Ms := sIf (tOrM (tNotM (tOf (mIsi .tup (mV 2)))) (tBl (mOp2 cGt (mN fLen (aCons (mV 2) aNil)) (mC (.int 200))))) (sSeq sNever sNil) sNil
noncomputable def pL1 : Ms := sIf (tAndM (tNotM (tOf (mN m_is_disk_step (aCons (mV 5) (aCons (mN fLen (aCons (mV 1) aNil)) aNil))))) (tNotM (tOf (mN m_is_deed_step (aCons (mV 5) aNil))))) (sSeq sNever sNil) sNil
noncomputable def pL2 : Ms := sAug (fun i j => i + j) 3 (mOp2 fSub (mN fInt (aCons (mOp2 fEq (mOp2 fIx (mV 5) (mC (.int 0))) (mC (.str "begin"))) aNil)) (mN fInt (aCons (mOp2 fEq (mOp2 fIx (mV 5) (mC (.int 0))) (mC (.str "done"))) aNil)))
noncomputable def pL3 : Ms := sIf (tBl (mOp2 cLt (mV 3) (mC (.int 0)))) (sSeq sNever sNil) sNil
noncomputable def pLp : Ms := sFor (.tp [(.nm 4), (.nm 5)]) (iEnum (aCons (mV 2) aNil)) (sSeq pL1 (sSeq pL2 (sSeq pL3 sNil)))
noncomputable def pKp : Ms := sExpr (mMeth [("Plan", m_Plan_keep)] "keep" (mV 0) (aCons (mV 1) (aCons (mV 2) aNil)))
section
variable {n : Nat} {K : List (Option Val)} {xs : List Stp}
structure PlanOk (n : Nat) (K : List (Option Val)) (xs : List Stp) : Prop where
  n1 : 1 ≤ n
  n2 : n ≤ 64
  len : K.length = n
  hk : ∀ o ∈ K, HOkV o
  nn : none ∉ K
  few : xs.length ≤ 200
  st : ∀ x ∈ xs, StpOk n x
  pre : PreOk xs
theorem pLp_ok (p : PlanOk n K xs) (h : AH) {g0 g4 g5 : Option D} :
    ∃ u4 u5, pLp [g0, some (.tup (K.map hvD)), some (.tup (xs.map stD)), some (.int 0), g4, g5] h = .next [g0, some (.tup (K.map hvD)), some (.tup (xs.map stD)), some (.int (und xs)), u4, u5] h := by
  obtain ⟨G', h', c, u4, u5, rfl, eh'⟩ := for_invN (p := .tp [(.nm 4), (.nm 5)]) (body := sSeq pL1 (sSeq pL2 (sSeq pL3 sNil))) (all0 := (List.range' 0 xs.length).map (encS xs))
    (fun j G hh => ∃ u4 u5, G = [g0, some (.tup (K.map hvD)), some (.tup (xs.map stD)), some (.int (und (xs.take j))), u4, u5] ∧ hh = h)
    (encS xs) xs.length 0 xs.length (by omega)
    (by
      rintro i hi G hh ⟨u4, u5, rfl, rfl⟩
      obtain ⟨x, ex⟩ : ∃ x, x = xs.getD i .bar := ⟨_, rfl⟩
      have hx : StpOk n x := by
        rw [ex, List.getD_eq_getElem?_getD, List.getElem?_eq_getElem hi]
        exact p.st _ (List.getElem_mem hi)
      have eu := und_take hi
      rw [← ex] at eu
      have c1 : pL1 [g0, some (.tup (K.map hvD)), some (.tup (xs.map stD)), some (.int (und (xs.take i))), some (.int (i : Int)), some (stD x)] hh = .next [g0, some (.tup (K.map hvD)), some (.tup (xs.map stD)), some (.int (und (xs.take i))), some (.int (i : Int)), some (stD x)] hh := by
        have hl : fLen [D.tup (K.map hvD)] hh = .ok (.int (n : Int)) hh := by simp [p.len]
        unfold pL1
        by_cases q : (isW x || isBar x) = true
        · simp only [v_sIf, v_tAnd, v_tNot, v_tOf, v_mN, v_aCons, v_aNil, v_mV, List.getElem?_cons_succ, List.getElem?_cons_zero, Res.bind_ok, hl, is_disk_step_ok hx, q, v_truB, Bool.not_true, Bool.false_eq_true, if_false, Res.toS_ok, v_sNil]
        · have qf : (isW x || isBar x) = false := by simpa using q
          have q2 : (isBeg x || isDon x) = true := by cases x <;> first | rfl | (exact absurd rfl q)
          simp only [v_sIf, v_tAnd, v_tNot, v_tOf, v_mN, v_aCons, v_aNil, v_mV, List.getElem?_cons_succ, List.getElem?_cons_zero, Res.bind_ok, hl, is_disk_step_ok hx, qf, v_truB, Bool.not_false, if_true, is_deed_ok q2, Bool.not_true, Bool.false_eq_true, if_false, Res.toS_ok, v_sNil]
      have c2 : pL2 [g0, some (.tup (K.map hvD)), some (.tup (xs.map stD)), some (.int (und (xs.take i))), some (.int (i : Int)), some (stD x)] hh = .next [g0, some (.tup (K.map hvD)), some (.tup (xs.map stD)), some (.int (und (xs.take (i + 1)))), some (.int (i : Int)), some (stD x)] hh := by
        unfold pL2
        simp only [v_sAug, List.getElem?_cons_succ, List.getElem?_cons_zero, v_mOp2, v_mN, v_aCons, v_aNil, v_mV, v_mC, Res.bind_ok, stD_0, is_beg, is_don, v_intB, v_sub, Res.toS_ok, lift_eq, ← eu, List.set_cons_succ, List.set_cons_zero]
      have c3 : pL3 [g0, some (.tup (K.map hvD)), some (.tup (xs.map stD)), some (.int (und (xs.take (i + 1)))), some (.int (i : Int)), some (stD x)] hh = .next [g0, some (.tup (K.map hvD)), some (.tup (xs.map stD)), some (.int (und (xs.take (i + 1)))), some (.int (i : Int)), some (stD x)] hh := by
        have := p.pre (i + 1)
        have ef : decide (und (xs.take (i + 1)) < 0) = false := decide_eq_false (by omega)
        unfold pL3
        simp only [v_sIf, v_tBl, v_mOp2, v_mV, v_mC, List.getElem?_cons_succ, List.getElem?_cons_zero, Res.bind_ok, v_cLt, ef, Res.toS_ok, Bool.false_eq_true, if_false, v_sNil]
      refine ⟨[g0, some (.tup (K.map hvD)), some (.tup (xs.map stD)), some (.int (und (xs.take i))), some (.int (i : Int)), some (stD x)], _, _, ?_, ?_, some (.int (i : Int)), some (stD x), rfl, rfl⟩
      · unfold encS
        rw [← ex]
        rfl
      · simp only [v_sSeq, c1, SR.andThen_next, c2, c3, v_sNil])
    [g0, some (.tup (K.map hvD)), some (.tup (xs.map stD)), some (.int 0), g4, g5] h ⟨g4, g5, rfl, rfl⟩
  rw [List.take_length, eh'] at c
  refine ⟨u4, u5, ?_⟩
  have i1 : (iEnum (aCons (mV 2) aNil)) [g0, some (.tup (K.map hvD)), some (.tup (xs.map stD)), some (.int 0), g4, g5] h = .ok ((List.range' 0 xs.length).map (encS xs), none) h := by
    rw [v_enum]
    simp only [v_aCons, v_aNil, v_mV, List.getElem?_cons_succ, List.getElem?_cons_zero, Res.bind_ok, enum_S]
  unfold pLp
  simp only [v_sFor, i1, Res.toS_ok, c]
theorem keepM_ok {h : AH} {nP : Nat} (e : h[nP]? = some (.ins "Plan" [])) {g3 g4 g5 : Option D} :
    pKp [some (.loc nP), some (.tup (K.map hvD)), some (.tup (xs.map stD)), g3, g4, g5] h = .next [some (.loc nP), some (.tup (K.map hvD)), some (.tup (xs.map stD)), g3, g4, g5] (h.set nP (.ins "Plan" (planF K xs))) := by
  have n0 : ("Plan" : Str) ∈ [("Plan" : Str)] := List.mem_singleton.mpr rfl
  have z1 : (0 : Nat) < 1000 := by decide
  have z2 : (putD "kept_state" (.tup (K.map hvD)) []).length < 1000 := by show (1 : Nat) < 1000; decide
  have lp := lt_of_get e
  have e0 : List.lookup ("Plan" : Str) [(("Plan" : Str), m_Plan_keep)] = some m_Plan_keep := lookup_one
  have ek : List.lookup ("keep" : Str) ([] : List (Str × D)) = none := rfl
  have g1 : ∀ x : AO, (h.set nP x)[nP]? = some x := fun x => List.getElem?_set_self lp
  have ec : m_Plan_keep [.loc nP, .tup (K.map hvD), .tup (xs.map stD)] h = .ok .non (h.set nP (.ins "Plan" (planF K xs))) := by
    simp only [m_Plan_keep, mDefK, b_Plan_keep, List.length_cons, List.length_nil, Nat.zero_add, Nat.reduceAdd, if_true, List.map_cons, List.map_nil, Nat.sub_self, List.replicate_zero, List.append_nil, v_sSeq, v_sFld, v_mV, List.getElem?_cons_succ, List.getElem?_cons_zero, Res.toS_ok, e, n0, List.length_nil, z1, and_self, g1, z2, SR.andThen_next, List.set_set, pf_new, v_sNil]
  unfold pKp
  simp only [v_sExpr, v_mMeth, v_mV, List.getElem?_cons_zero, List.getElem?_cons_succ, Res.bind_ok, e, e0, ek, v_aCons, v_aNil, ec, Res.toS_ok]
theorem plan_ok (p : PlanOk n K xs) {G : AB.Env} {i j : Nat} (hi : G[i]? = some (some (.tup (K.map hvD)))) (hj : G[j]? = some (some (.tup (xs.map stD)))) (h : AH) :
    (mMake "Plan" m_Plan___init__ (aCons (mV i) (aCons (mV j) aNil))) G h = .ok (.loc h.length) (h ++ [.ins "Plan" (planF K xs)]) := by
  obtain ⟨h0, eh0⟩ : ∃ h0, h0 = h ++ [AO.ins "Plan" []] := ⟨_, rfl⟩
  have gP : h0[h.length]? = some (.ins "Plan" []) := by rw [eh0, g_app0]; rfl
  have c1 : pI1 [some (.loc h.length), some (.tup (K.map hvD)), some (.tup (xs.map stD)), none, none, none] h0 = .next [some (.loc h.length), some (.tup (K.map hvD)), some (.tup (xs.map stD)), none, none, none] h0 := by
    have es := is_state_ok (h := h0) (st := K) (by rw [p.len]; exact p.n1) (by rw [p.len]; exact p.n2) p.hk
    have en := in_hvT (h := h0) none K
    rw [decide_eq_false p.nn] at en
    have en : fIn .non (.tup (K.map hvD)) h0 = .ok (.bl false) h0 := en
    unfold pI1
    simp only [v_sIf, v_tOr, v_tNot, v_tOf, v_tBl, v_mOp2, v_mN, v_aCons, v_aNil, v_mV, v_mC, List.getElem?_cons_succ, List.getElem?_cons_zero, Res.bind_ok, es, v_truB, Bool.not_true, Bool.false_eq_true, if_false, en, Res.toS_ok, v_sNil]
  have c2 : pI2 [some (.loc h.length), some (.tup (K.map hvD)), some (.tup (xs.map stD)), none, none, none] h0 = .next [some (.loc h.length), some (.tup (K.map hvD)), some (.tup (xs.map stD)), none, none, none] h0 := by
    have l2 : ¬ (200 : Int) < xs.length := by have := p.few; omega
    unfold pI2
    simp [Ty.sub, l2]
  obtain ⟨u4, u5, c3⟩ := pLp_ok p h0 (g0 := some (.loc h.length)) (g4 := none) (g5 := none)
  have c4 := keepM_ok (K := K) (xs := xs) gP (g3 := some (.int (und xs))) (g4 := u4) (g5 := u5)
  have es : h0.set h.length (.ins "Plan" (planF K xs)) = h ++ [.ins "Plan" (planF K xs)] := by rw [eh0, s_app0]; rfl
  rw [es] at c4
  have eb : b_Plan___init__ [some (.loc h.length), some (.tup (K.map hvD)), some (.tup (xs.map stD)), none, none, none] h0 = .next [some (.loc h.length), some (.tup (K.map hvD)), some (.tup (xs.map stD)), some (.int (und xs)), u4, u5] (h ++ [.ins "Plan" (planF K xs)]) := by
    have eq : b_Plan___init__ = sSeq pI1 (sSeq pI2 (sSeq (sSet 3 (mC (.int 0))) (sSeq pLp (sSeq pKp sNil)))) := rfl
    rw [eq]
    simp only [v_sSeq, c1, SR.andThen_next, c2, v_sSet, v_mC, Res.toS_ok, List.set_cons_succ, List.set_cons_zero, c3, c4, v_sNil]
  have em : m_Plan___init__ [.loc h.length, .tup (K.map hvD), .tup (xs.map stD)] h0 = .ok .non (h ++ [.ins "Plan" (planF K xs)]) := by
    simp [m_Plan___init__, mDefK, eb]
  rw [eh0] at em
  simp only [v_mMake, v_aCons, v_aNil, v_mV, hi, hj, Res.bind_ok, em]
end
end My
/-! disks of plans -/
namespace My
open PySem AB L2
theorem df_settled {k w : Nat} : (diskF k w).lookup ("settled" : Str) = none := df_none (by decide +kernel) (by decide +kernel) (by decide +kernel)
theorem df_waiting {k w : Nat} : (diskF k w).lookup ("waiting" : Str) = none := df_none (by decide +kernel) (by decide +kernel) (by decide +kernel)
theorem df_lots {k w : Nat} : (diskF k w).lookup ("lots" : Str) = none := df_none (by decide +kernel) (by decide +kernel) (by decide +kernel)
theorem DskAt.app {h : AH} {b nD nK nW : Nat} {K : List (Option Val)} {ws : List WEnt} (d : DskAt h b nD nK nW K ws) (t : AH) : DskAt (h ++ t) b nD nK nW K ws := by
  have g : ∀ {m : Nat} {x : AO}, h[m]? = some x → (h ++ t)[m]? = some x := fun {m x} e => by rw [List.getElem?_append_left (lt_of_get e)]; exact e
  exact ⟨g d.ins, g d.kept, g d.wr, fun e he => g (d.cells e he), d.keys, d.locs, d.nk, d.ne, d.lt, d.lo⟩
section
variable {h : AH} {b nD nK nW : Nat} {K : List (Option Val)} {ws : List WEnt} {G : AB.Env} {i : Nat}
theorem nowI_ok (d : DskAt h b nD nK nW K ws) (hw : ws.length ≤ 1000) (hK : K.length ≤ 1000) (hi : G[i]? = some (some (.loc nD))) : (mMeth [("Disk", m_Disk_now)] "now" (mV i) aNil) G h = .ok (.tup ((cur K ws).map hvD)) h := by
  have e0 : List.lookup ("Disk" : Str) [(("Disk" : Str), m_Disk_now)] = some m_Disk_now := lookup_eq'
  simp only [v_mMeth, v_mV, hi, Res.bind_ok, d.ins, e0, df_now, v_aNil, now_ok d hw hK]
theorem settledI_ok (d : DskAt h b nD nK nW K ws) (hi : G[i]? = some (some (.loc nD))) : (mMeth [("Disk", m_Disk_settled)] "settled" (mV i) aNil) G h = .ok (.tup (K.map hvD)) h := by
  have e0 : List.lookup ("Disk" : Str) [(("Disk" : Str), m_Disk_settled)] = some m_Disk_settled := lookup_eq'
  simp only [v_mMeth, v_mV, hi, Res.bind_ok, d.ins, e0, df_settled, v_aNil, settled_ok d]
theorem waitingI_ok (d : DskAt h b nD nK nW K ws) (hw : ws.length < 64) (hi : G[i]? = some (some (.loc nD))) : (mMeth [("Disk", m_Disk_waiting)] "waiting" (mV i) aNil) G h = .ok (.tup ((sortI (ws.map fun e => (e.s : Int))).map .int)) h := by
  have e0 : List.lookup ("Disk" : Str) [(("Disk" : Str), m_Disk_waiting)] = some m_Disk_waiting := lookup_eq'
  simp only [v_mMeth, v_mV, hi, Res.bind_ok, d.ins, e0, df_waiting, v_aNil, waiting_ok d hw]
theorem lotsI_ok (d : DskAt h b nD nK nW K ws) (hb : Bd ws 900) (hK : K.length ≤ 1000) (tr : Bool) {j : Nat} (hi : G[i]? = some (some (.loc nD))) (hj : G[j]? = some (some (.bl tr))) : (mMeth [("Disk", m_Disk_lots)] "lots" (mV i) (aCons (mV j) aNil)) G h = .ok (lotsD K ws tr) h := by
  have e0 : List.lookup ("Disk" : Str) [(("Disk" : Str), m_Disk_lots)] = some m_Disk_lots := lookup_eq'
  simp only [v_mMeth, v_mV, hi, Res.bind_ok, d.ins, e0, df_lots, v_aCons, hj, v_aNil, lots_ok d hb hK tr]
end
/-- a disk by its books and the law's -/
structure DB (h : AH) (b nD : Nat) (S : List (Option Val) × List (Nat × Val)) (m : Nat) : Prop where
  ex : ∃ nK nW ws, DskAt h b nD nK nW S.1 ws ∧ RelW ws S.2 ∧ Bd ws m
theorem DB.app {h : AH} {b nD m : Nat} {S : List (Option Val) × List (Nat × Val)} (d : DB h b nD S m) (t : AH) : DB (h ++ t) b nD S m := by
  obtain ⟨nK, nW, ws, d, r, hb⟩ := d.ex
  exact ⟨nK, nW, ws, d.app t, r, hb⟩
section
variable {h : AH} {b nD m n : Nat} {S : List (Option Val) × List (Nat × Val)} {x : Stp}
theorem write_db (d : DB h b nD S m) (hm : m ≤ 10000) {s : Nat} {v : Val} (hs : s < S.1.length) (hv : VOk v) :
    ∃ h', m_Disk_write [.loc nD, .int s, vD v] h = .ok .non h' ∧ DB h' b nD (run1 S (.wr s v)) (m + 1) ∧ h'.take b = h.take b := by
  obtain ⟨nK, nW, ws, d, r, hb⟩ := d.ex
  obtain ⟨h', ws', ⟨ews, _, _⟩, ew, dk, _, htk, hb'⟩ := write_ok d hb hm hs hv
  exact ⟨h', ew, ⟨nK, nW, ws', dk, by rw [ews]; exact rel_add r s v _, hb'⟩, htk⟩
theorem barrier_db (d : DB h b nD S m) : ∃ h', m_Disk_barrier [.loc nD] h = .ok .non h' ∧ DB h' b nD (run1 S .bar) (m + 1) ∧ h'.take b = h.take b := by
  obtain ⟨nK, nW, ws, d, r, hb⟩ := d.ex
  obtain ⟨h', nW', _, eb, dk, htk⟩ := barrier_ok d
  rw [cur_put r d.ne] at dk
  exact ⟨h', eb, ⟨nK, nW', [], dk, rel_nil, by simp, by simp⟩, htk⟩
theorem DB.ins (d : DB h b nD S m) : ∃ nK nW, h[nD]? = some (.ins "Disk" (diskF nK nW)) := by
  obtain ⟨nK, nW, ws, d, r, hb⟩ := d.ex
  exact ⟨nK, nW, d.ins⟩
theorem do_step_ok (d : DB h b nD S m) (hm : m ≤ 10000) (hl : S.1.length = n) (hx : StpOk n x) :
    ∃ h', m_do_step [.loc nD, stD x] h = .ok .non h' ∧ DB h' b nD (run1 S x) (m + 1) ∧ h'.take b = h.take b := by
  obtain ⟨nK, nW, ei⟩ := d.ins
  have up : DB h b nD S (m + 1) := by
    obtain ⟨nK, nW, ws, d, r, hb⟩ := d.ex
    exact ⟨nK, nW, ws, d, r, Nat.le_succ_of_le hb.1, fun e he => Nat.le_succ_of_le (hb.2 e he)⟩
  cases x with
  | bar =>
    obtain ⟨h', eb, d', ht⟩ := barrier_db d
    refine ⟨h', ?_, d', ht⟩
    have e0 : List.lookup ("Disk" : Str) [(("Disk" : Str), m_Disk_barrier)] = some m_Disk_barrier := lookup_eq'
    have c1 : (mMeth [("Disk", m_Disk_barrier)] "barrier" (mV 0) aNil) [some (.loc nD), some (stD .bar)] h = .ok .non h' := by
      simp only [v_mMeth, v_mV, List.getElem?_cons_zero, Res.bind_ok, ei, e0, df_barrier, v_aNil, eb]
    have es : stD .bar = .tup [.str "barrier"] := rfl
    have ebw : ∀ h, fEq (.str "barrier") (.str "write") h = .ok (.bl false) h := fun h => is_w .bar
    rw [es] at c1 ⊢
    simp [m_do_step, mDefK, b_do_step, ebw, q_bb, c1, -v_mMeth]
  | wr s v =>
    obtain ⟨h', eb, d', ht⟩ := write_db d hm (by rw [hl]; exact hx.1) hx.2
    refine ⟨h', ?_, d', ht⟩
    have e0 : List.lookup ("Disk" : Str) [(("Disk" : Str), m_Disk_write)] = some m_Disk_write := lookup_eq'
    have c1 : (mMeth [("Disk", m_Disk_write)] "write" (mV 0) (aCons (mOp2 fIx (mV 1) (mC (.int 1))) (aCons (mOp2 fIx (mV 1) (mC (.int 2))) aNil))) [some (.loc nD), some (stD (.wr s v))] h = .ok .non h' := by
      simp only [v_mMeth, v_mV, List.getElem?_cons_zero, List.getElem?_cons_succ, Res.bind_ok, ei, e0, df_write, v_aNil, v_aCons, v_mOp2, v_mC, v_ix, stD, v_vSt, atI_1, atI_2, eb]
    have es : stD (.wr s v) = .tup [.str "write", .int s, vD v] := rfl
    rw [es] at c1 ⊢
    simp [m_do_step, mDefK, b_do_step, q_ww, c1, -v_mMeth]
  | beg =>
    refine ⟨h, ?_, up, rfl⟩
    simp [m_do_step, mDefK, b_do_step, stD, q_gw, q_gb]
  | don =>
    refine ⟨h, ?_, up, rfl⟩
    simp [m_do_step, mDefK, b_do_step, stD, q_dw, q_db]
end
section
variable {h : AH} {n nP m : Nat} {K : List (Option Val)} {xs : List Stp}
theorem stateM_ok {G : AB.Env} {i : Nat} (hi : G[i]? = some (some (.loc nP))) (gP : h[nP]? = some (.ins "Plan" (planF K xs))) : (mFld ["Plan"] "kept_state" (mV i)) G h = .ok (.tup (K.map hvD)) h := by
  have n0 : ("Plan" : Str) ∈ [("Plan" : Str)] := List.mem_singleton.mpr rfl
  simp only [v_mFld, v_mV, hi, Res.bind_ok, gP, n0, if_true, pf_state]
theorem stepsM_ok {G : AB.Env} {i : Nat} (hi : G[i]? = some (some (.loc nP))) (gP : h[nP]? = some (.ins "Plan" (planF K xs))) : (mFld ["Plan"] "kept_steps" (mV i)) G h = .ok (.tup (xs.map stD)) h := by
  have n0 : ("Plan" : Str) ∈ [("Plan" : Str)] := List.mem_singleton.mpr rfl
  simp only [v_mFld, v_mV, hi, Res.bind_ok, gP, n0, if_true, pf_steps]
theorem sliceM_ok {G : AB.Env} {i j : Nat} (hi : G[i]? = some (some (.loc nP))) (hj : G[j]? = some (some (.int (m : Int)))) (gP : h[nP]? = some (.ins "Plan" (planF K xs))) : (mSl (mFld ["Plan"] "kept_steps" (mV i)) oNone (oSome (mV j))) G h = .ok (.tup ((xs.take m).map stD)) h := by
  simp only [v_mSlT, stepsM_ok hi gP, Res.bind_ok, v_oNone, v_oSome, v_mV, hj, cut_to]
theorem check_moment_ok (gP : h[nP]? = some (.ins "Plan" (planF K xs))) (hm : m ≤ xs.length) : m_check_moment [.loc nP, .int m] h = .ok .non h := by
  have e1 : (decide ((0 : Int) ≤ (m : Int)) && decide ((m : Int) ≤ (xs.length : Int) + 1 - 1)) = true := by simp; omega
  have hl : fLen [D.tup (xs.map stD)] h = .ok (.int xs.length) h := by simp
  have ec : (tNotM (tOf (mN m_is_index (aCons (mV 1) (aCons (mOp2 fAdd (mN fLen (aCons (mFld ["Plan"] "kept_steps" (mV 0)) aNil)) (mC (.int 1))) aNil))))) [some (.loc nP), some (.int m)] h = .ok false h := by
    simp only [v_tNot, v_tOf, v_mN, v_aCons, v_aNil, v_mOp2, v_mV, v_mC, List.getElem?_cons_succ, List.getElem?_cons_zero, Res.bind_ok, stepsM_ok (G := [some (.loc nP), some (.int m)]) (i := 0) rfl gP, hl, v_add, is_index_ok, e1, v_truB, Bool.not_true]
  have eb : b_check_moment [some (.loc nP), some (.int m)] h = .next [some (.loc nP), some (.int m)] h := by
    unfold b_check_moment
    simp only [v_sSeq, v_sIf, ec, Res.toS_ok, Bool.false_eq_true, if_false, v_sNil, SR.andThen_next]
  simp [m_check_moment, mDef, eb, finD]
theorem disk_of_ok (p : PlanOk n K xs) (gP : h[nP]? = some (.ins "Plan" (planF K xs))) (hm : m ≤ xs.length) :
    ∃ t, m_disk_of [.loc nP, .int m] h = .ok (.loc h.length) (h ++ t) ∧ DB (h ++ t) h.length h.length (runs K (xs.take m)) xs.length := by
  obtain ⟨h0, eh0⟩ : ∃ h0, h0 = h ++ [AO.ins "Disk" (diskF (h.length + 1) (h.length + 2)), .lst (K.map hvD), .dct []] := ⟨_, rfl⟩
  have d0 : DB h0 h.length h.length (K, []) 0 := by
    rw [eh0]
    exact ⟨_, _, [], make_ok (by rw [p.len]; exact p.n1) (by rw [p.len]; exact p.n2) h, rel_nil, by simp, by simp⟩
  have gP0 : h0[nP]? = some (.ins "Plan" (planF K xs)) := by rw [eh0, List.getElem?_append_left (lt_of_get gP)]; exact gP
  obtain ⟨G', h', c, g3, rfl, d', ht⟩ := for_pre (p := .nm 3) (body := sSeq (sExpr (mN m_do_step (aCons (mV 2) (aCons (mV 3) aNil)))) sNil) (all0 := (xs.take m).map stD)
    (fun done G hh => ∃ g3, G = [some (.loc nP), some (.int m), some (.loc h.length), g3] ∧ DB hh h.length h.length (runs K done) done.length ∧ hh.take h.length = h)
    stD (xs.take m) (xs.take m) [] rfl
    (by
      rintro done x rest ed G hh ⟨g3, rfl, d, ht⟩
      have hx : StpOk n x := p.st x (List.mem_of_mem_take (by rw [← ed]; simp : x ∈ xs.take m))
      have hlen : done.length ≤ 200 := by
        have := congrArg List.length ed
        rw [List.length_append, List.length_take] at this
        have := p.few
        omega
      obtain ⟨hh', e, d2, ht2⟩ := do_step_ok d (by omega) (by rw [(runs_len K done).1, p.len]) hx
      rw [← runs_snoc] at d2
      refine ⟨[some (.loc nP), some (.int m), some (.loc h.length), some (stD x)], _, hh', rfl, ?_, some (stD x), rfl, ?_, by rw [ht2, ht]⟩
      · simp only [v_sSeq, v_sExpr, v_mN, v_aCons, v_aNil, v_mV, List.getElem?_cons_succ, List.getElem?_cons_zero, Res.bind_ok, e, Res.toS_ok, SR.andThen_next, v_sNil]
      · rw [List.length_append]
        exact d2)
    [some (.loc nP), some (.int m), some (.loc h.length), none] h0 ⟨none, rfl, d0, by rw [eh0]; simp⟩
  have eh' : h' = h ++ h'.drop h.length := by
    conv => lhs; rw [← List.take_append_drop h.length h', ht]
  obtain ⟨t, et⟩ : ∃ t, t = h'.drop h.length := ⟨_, rfl⟩
  rw [← et] at eh'
  refine ⟨t, ?_, ?_⟩
  · have c1 : (mMake "Disk" m_Disk___init__ (aCons (mFld ["Plan"] "kept_state" (mV 0)) aNil)) [some (.loc nP), some (.int m), none, none] h = .ok (.loc h.length) h0 := by
      simp only [v_mMake, v_aCons, v_aNil, stateM_ok (G := [some (.loc nP), some (.int m), none, none]) (i := 0) rfl gP, Res.bind_ok, init_ok (by rw [p.len]; exact p.n1) (by rw [p.len]; exact p.n2) p.hk, eh0]
    have i1 : (iSeq (mSl (mFld ["Plan"] "kept_steps" (mV 0)) oNone (oSome (mV 1)))) [some (.loc nP), some (.int m), some (.loc h.length), none] h0 = .ok ((xs.take m).map stD, none) h0 := by
      rw [v_iSeq, sliceM_ok (i := 0) (j := 1) rfl rfl gP0]
      rfl
    have eb : b_disk_of [some (.loc nP), some (.int m), none, none] h = .ret (.loc h.length) (h ++ t) := by
      have eq : b_disk_of = sSeq (sSet 2 (mMake "Disk" m_Disk___init__ (aCons (mFld ["Plan"] "kept_state" (mV 0)) aNil))) (sSeq (sFor (.nm 3) (iSeq (mSl (mFld ["Plan"] "kept_steps" (mV 0)) oNone (oSome (mV 1)))) (sSeq (sExpr (mN m_do_step (aCons (mV 2) (aCons (mV 3) aNil)))) sNil)) (sSeq (sRet (mV 2)) sNil)) := rfl
      rw [eq, ← eh']
      simp only [v_sSeq, v_sSet, c1, Res.toS_ok, List.set_cons_succ, List.set_cons_zero, SR.andThen_next, v_sFor, i1, c, v_sRet, v_mV, List.getElem?_cons_succ, List.getElem?_cons_zero, SR.andThen_ret]
    simp [m_disk_of, mDefK, eb]
  · rw [← eh']
    obtain ⟨nK, nW, ws, d, r, hb⟩ := d'.ex
    have hl : (xs.take m).length ≤ xs.length := by rw [List.length_take]; omega
    exact ⟨nK, nW, ws, d, r, Nat.le_trans hb.1 hl, fun e he => Nat.le_trans (hb.2 e he) hl⟩
theorem disk_at_ok (p : PlanOk n K xs) (gP : h[nP]? = some (.ins "Plan" (planF K xs))) (hm : m ≤ xs.length) :
    ∃ t, m_disk_at [.loc nP, .int m] h = .ok (.loc h.length) (h ++ t) ∧ DB (h ++ t) h.length h.length (runs K (xs.take m)) xs.length := by
  obtain ⟨t, e, d⟩ := disk_of_ok p gP hm
  refine ⟨t, ?_, d⟩
  have eb : b_disk_at [some (.loc nP), some (.int m)] h = .ret (.loc h.length) (h ++ t) := by
    unfold b_disk_at
    simp only [v_sSeq, v_sExpr, v_mN, v_aCons, v_aNil, v_mV, List.getElem?_cons_succ, List.getElem?_cons_zero, Res.bind_ok, check_moment_ok gP hm, Res.toS_ok, SR.andThen_next, v_sRet, e, SR.andThen_ret]
  simp [m_disk_at, mDefK, eb]
theorem under_lotsD (k : Nat) (K : List (Option Val)) (ws : List WEnt) (tr : Bool) : (lotsD K ws tr).under k = true := by
  unfold lotsD
  simp only [D.under]
  exact under_lots _ _ _ _ _
theorem lots_at_ok (p : PlanOk n K xs) (gP : h[nP]? = some (.ins "Plan" (planF K xs))) (hm : m ≤ xs.length) (tr : Bool) :
    m_lots_at [.loc nP, .int m, .bl tr] h = .ok (lawLotsD (runs K (xs.take m)).1 (runs K (xs.take m)).2 tr) h := by
  obtain ⟨t, e, d⟩ := disk_of_ok p gP hm
  obtain ⟨nK, nW, ws, d, r, hb⟩ := d.ex
  have rl := (runs_len K (xs.take m)).1
  have few := p.few
  have hb9 : Bd ws 900 := ⟨Nat.le_trans hb.1 (by omega), fun e he => Nat.le_trans (hb.2 e he) (by omega)⟩
  have e0 : List.lookup ("Disk" : Str) [(("Disk" : Str), m_Disk_lots)] = some m_Disk_lots := lookup_eq'
  have el := lots_ok d hb9 (by rw [rl, p.len]; have := p.n2; omega) tr
  have fin := finD_app h t (lotsD (runs K (xs.take m)).1 ws tr) (under_lotsD _ _ _ _)
  have eb : b_lots_at [some (.loc nP), some (.int m), some (.bl tr)] h = .ret (lotsD (runs K (xs.take m)).1 ws tr) (h ++ t) := by
    unfold b_lots_at
    simp only [v_sSeq, v_sExpr, v_mN, v_aCons, v_aNil, v_mV, List.getElem?_cons_succ, List.getElem?_cons_zero, Res.bind_ok, check_moment_ok gP hm, check_flag_ok, Res.toS_ok, SR.andThen_next, v_sRet, v_mMeth, e, d.ins, e0, df_lots, el, SR.andThen_ret]
  rw [← lots_D r]
  simp [m_lots_at, mDef, eb, fin]
/-! counts -/
def bnD (xs : List Stp) : D := .tup ([(((xs.map Stp.nm).count ("done" : Str) : Nat) : Int), (((xs.map Stp.nm).count ("begin" : Str) : Nat) : Int)].map .int)
theorem strs_nm : ∀ xs : List Stp, strsD (xs.map fun x => D.str x.nm) = some (xs.map Stp.nm)
  | [] => rfl
  | x :: xs => by
    show (strsD (xs.map fun x => D.str x.nm)).map (fun is => x.nm :: is) = _
    rw [strs_nm xs]
    rfl
theorem words_ok (h : AH) {xs : List Stp} (hl : xs.length ≤ 1000) {g1 g2 : Option D} : (mL (lComp (.nm 2) [2] (iSeq (mV 0)) tYesM (mOp2 fIx (mV 2) (mC (.int 0))))) [some (.tup (xs.map stD)), g1, g2] h = .ok (.lst (xs.map fun x => D.str x.nm)) h := by
  have hc : ∀ all0, compGo (.nm 2) tYesM (mOp2 fIx (mV 2) (mC (.int 0))) none all0 [some (.tup (xs.map stD)), g1, none] (xs.map stD) h = .ok (xs.map fun x => D.str x.nm) h :=
    fun all0 => comp_all _ _ _ fun x _ => ⟨[some (.tup (xs.map stD)), g1, some (stD x)], rfl, by simp only [v_mOp2, v_mV, v_mC, List.getElem?_cons_succ, List.getElem?_cons_zero, Res.bind_ok, stD_0]⟩
  have i1 : (iSeq (mV 0)) [some (.tup (xs.map stD)), g1, g2] h = .ok (xs.map stD, none) h := rfl
  have w : wipeG [some (.tup (xs.map stD)), g1, g2] [2] = [some (.tup (xs.map stD)), g1, none] := rfl
  have lb : (xs.map stD).length ≤ big := by rw [List.length_map, big_eq]; omega
  simp only [v_mL, v_lComp, i1, Res.bind_ok, lb, if_true, w, hc]
theorem cnt_ok (h : AH) (xs : List Stp) (w : Str) {g0 g2 : Option D} : (mBM fCntS (mV 1) (aCons (mC (.str w)) aNil)) [g0, some (.lst (xs.map fun x => D.str x.nm)), g2] h = .ok (.int ((xs.map Stp.nm).count w : Nat)) h := by
  have e1 : ∀ h, fCntS (.lst (xs.map fun x => D.str x.nm)) [.str w] h = .ok (.int ((xs.map Stp.nm).count w : Nat)) h := fun h => by
    unfold fCntS
    simp only [v_vLl, strs_nm]
  simp only [v_mBM, v_mV, List.getElem?_cons_succ, List.getElem?_cons_zero, Res.bind_ok, v_vLl, v_aCons, v_aNil, v_mC, e1]
theorem bounds_of_ok (h : AH) {xs : List Stp} (hl : xs.length ≤ 1000) : m_bounds_of [.tup (xs.map stD)] h = .ok (bnD xs) h := by
  have b2 : (2 : Nat) ≤ big := by decide
  have eb : b_bounds_of [some (.tup (xs.map stD)), none, none] h = .ret (bnD xs) h := by
    unfold b_bounds_of
    simp only [v_sSeq, v_sSet, words_ok h hl, Res.toS_ok, List.set_cons_succ, List.set_cons_zero, SR.andThen_next, v_sRet, v_mN, v_aCons, v_aNil, cnt_ok, Res.bind_ok, v_fTup, List.length_cons, List.length_nil, Nat.zero_add, Nat.reduceAdd, b2, if_true, SR.andThen_ret, bnD, List.map_cons, List.map_nil]
  simp [m_bounds_of, mDef, eb, finD]
theorem law_bounds_ok (h : AH) {xs : List Stp} (hl : xs.length ≤ 1000) : m__law_bounds [.tup (xs.map stD)] h = .ok (bnD xs) h := by
  have b2 : (2 : Nat) ≤ big := by decide
  have eb : b__law_bounds [some (.tup (xs.map stD)), none, none] h = .ret (bnD xs) h := by
    unfold b__law_bounds
    simp only [v_sSeq, v_sSet, words_ok h hl, Res.toS_ok, List.set_cons_succ, List.set_cons_zero, SR.andThen_next, v_sRet, v_mN, v_aCons, v_aNil, cnt_ok, Res.bind_ok, v_fTup, List.length_cons, List.length_nil, Nat.zero_add, Nat.reduceAdd, b2, if_true, SR.andThen_ret, bnD, List.map_cons, List.map_nil]
  simp [m__law_bounds, mDef, eb, finD]
theorem bounds_at_ok (p : PlanOk n K xs) (gP : h[nP]? = some (.ins "Plan" (planF K xs))) (hm : m ≤ xs.length) : m_bounds_at [.loc nP, .int m] h = .ok (bnD (xs.take m)) h := by
  have hl : (xs.take m).length ≤ 1000 := by rw [List.length_take]; have := p.few; omega
  have eb : b_bounds_at [some (.loc nP), some (.int m)] h = .ret (bnD (xs.take m)) h := by
    unfold b_bounds_at
    simp only [v_sSeq, v_sExpr, v_mN, v_aCons, v_aNil, v_mV, List.getElem?_cons_succ, List.getElem?_cons_zero, Res.bind_ok, check_moment_ok gP hm, Res.toS_ok, SR.andThen_next, v_sRet, sliceM_ok (G := [some (.loc nP), some (.int m)]) (i := 0) (j := 1) rfl rfl gP, bounds_of_ok h hl, SR.andThen_ret]
  simp [m_bounds_at, mDef, eb, finD]
end
end My
/-! a moment of the law -/
namespace My
open PySem AB L2
theorem ne_v {h : AH} (v : Val) : fNe (.tup (v.map .int)) (.tup (v.map .int)) h = .ok (.bl false) h := by
  have e := okP_hv (h := h) (some v)
  have e : okP h (.tup (v.map .int)) = some (hvP (some v)) := e
  unfold fNe
  rw [e]
  simp [eqv_hv]
def lD (L : List (Option Val)) : D := .tup (L.map hvD)
def lP (L : List (Option Val)) : PyData := .tuple (L.map hvP)
theorem toP_l (L : List (Option Val)) : toP (lD L) = some (lP L) := toP_tup (toPs_hv L)
theorem toPs_l : ∀ Ls : List (List (Option Val)), toPs (Ls.map lD) = some (Ls.map lP)
  | [] => rfl
  | L :: Ls => toPs_cons (toP_l L) (toPs_l Ls)
theorem lay_l (L : List (Option Val)) : PyData.canLay0 (lP L) = true := by simp [lP, PyData.canLay0, lay_hvs]
theorem lay_ls : ∀ Ls : List (List (Option Val)), PyData.canLayAll0 (Ls.map lP) = true
  | [] => rfl
  | L :: Ls => by simp [PyData.canLayAll0, lay_l, lay_ls Ls]
theorem dep_l (L : List (Option Val)) : PyData.depth (lP L) ≤ 3 := by
  have := dep_hvs L
  simp [lP, PyData.depth]
  omega
theorem dep_ls : ∀ Ls : List (List (Option Val)), PyData.depthAll (Ls.map lP) ≤ 3
  | [] => by simp [PyData.depthAll]
  | L :: Ls => by
    have h1 := dep_l L
    have h2 := dep_ls Ls
    simp [PyData.depthAll]
    omega
theorem okP_ls {h : AH} (Ls : List (List (Option Val))) : okP h (.tup (Ls.map lD)) = some (.tuple (Ls.map lP)) := by
  unfold okP
  have e : toPh h (.tup (Ls.map lD)) = some (.tuple (Ls.map lP)) := toP_tup (toPs_l Ls)
  rw [e]
  have := dep_ls Ls
  have e3 : SeqAt.shaped (.tuple (Ls.map lP)) = true := by
    simp [SeqAt.shaped, PyData.canLay0, PyData.depth, lay_ls]
    omega
  simp [e3]
theorem ne_ls {h : AH} (Ls : List (List (Option Val))) : fNe (.tup (Ls.map lD)) (.tup (Ls.map lD)) h = .ok (.bl false) h := by
  unfold fNe
  rw [okP_ls]
  have := PySem.SeqAt.eqv_refl (.tuple (Ls.map lP)) (by simp [PyData.canLay0, lay_ls])
  simp [this]
theorem lawLotsD_L (S : List (Option Val)) (W : List (Nat × Val)) (tr : Bool) : ∃ Ls : List (List (Option Val)), lawLotsD S W tr = .tup (Ls.map lD) := by
  refine ⟨(List.range S.length).map fun i => ordV (thingsOf (S.getD i none) W i tr), ?_⟩
  unfold lawLotsD
  rw [List.map_map]
  rfl
theorem ne_lots {h : AH} (S : List (Option Val)) (W : List (Nat × Val)) (tr : Bool) : fNe (lawLotsD S W tr) (lawLotsD S W tr) h = .ok (.bl false) h := by
  obtain ⟨Ls, e⟩ := lawLotsD_L S W tr
  rw [e]
  exact ne_ls Ls
theorem due_ok {h : AH} {W : List (Nat × Val)} (hW : W.length < 64) : fSortSet [.lst (W.map fun p => D.int (p.1 : Int))] h = .ok ((upSet (W.map fun p => (p.1 : Int))).map .int) h := by
  have e : (W.map fun p => D.int (p.1 : Int)) = (W.map fun p => (p.1 : Int)).map D.int := by rw [List.map_map]; rfl
  have hl : (W.map fun p => (p.1 : Int)).length < 64 := by rw [List.length_map]; exact hW
  unfold fSortSet
  rw [e]
  simp only [vL, intsD_ints, hl, if_true]
noncomputable def m1 : Ms := sAsg (.tp [(.nm 9), (.nm 10)]) (mN m__law_behind (aCons (mV 5) (aCons (mSl (mV 6) oNone (oSome (mV 8))) aNil)))
noncomputable def m2 : Ms := sSet 11 (mNew (lN lList (aCons (mV 9) aNil)))
noncomputable def m3 : Ms := sFor (.tp [(.nm 12), (.nm 13)]) (iSeq (mV 10)) (sSeq (sSub (mV 11) (mV 12) (mV 13)) sNil)
noncomputable def m4 : Ms := sSet 14 (mN m_disk_at (aCons (mV 7) (aCons (mV 8) aNil)))
noncomputable def m5 : Ms := sIf (tOrM (tBl (mOp2 fNe (mMeth [("Disk", m_Disk_settled)] "settled" (mV 14) aNil) (mV 9))) (tBl (mOp2 fNe (mMeth [("Disk", m_Disk_now)] "now" (mV 14) aNil) (mN fTuple (aCons (mV 11) aNil))))) (sSeq (sRet (mC (.bl false))) sNil) sNil
noncomputable def m6 : Ms := sIf (tBl (mOp2 fNe (mMeth [("Disk", m_Disk_waiting)] "waiting" (mV 14) aNil) (mN fTuple (aCons (mL (lN fSortSet (aCons (mL (lComp (.tp [(.nm 12), (.nm 13)]) [12, 13] (iSeq (mV 10)) tYesM (mV 12))) aNil))) aNil)))) (sSeq (sRet (mC (.bl false))) sNil) sNil
noncomputable def m7a : Ms := sSet 16 (mN m__law_lots (aCons (mV 9) (aCons (mV 10) (aCons (mV 15) aNil))))
noncomputable def m7b : Ms := sIf (tOrM (tBl (mOp2 fNe (mN m_lots_at (aCons (mV 7) (aCons (mV 8) (aCons (mV 15) aNil)))) (mV 16))) (tBl (mOp2 fNe (mMeth [("Disk", m_Disk_lots)] "lots" (mV 14) (aCons (mV 15) aNil)) (mV 16)))) (sSeq (sRet (mC (.bl false))) sNil) sNil
noncomputable def m7 : Ms := sFor (.nm 15) (iSeq (mL (lLst (aCons (mC (.bl false)) (aCons (mC (.bl true)) aNil))))) (sSeq m7a (sSeq m7b sNil))
noncomputable def m8 : Ms := sIf (tBl (mOp2 fNe (mN m_bounds_at (aCons (mV 7) (aCons (mV 8) aNil))) (mN m__law_bounds (aCons (mSl (mV 6) oNone (oSome (mV 8))) aNil)))) (sSeq (sRet (mC (.bl false))) sNil) sNil
noncomputable def m9 : Ms := sExpr (mMeth [("Disk", m_Disk_write)] "write" (mV 14) (aCons (mC (.int 0)) (aCons (mN fTup (aCons (mC (.int 8)) aNil)) aNil)))
noncomputable def m10 : Ms := sExpr (mMeth [("Disk", m_Disk_barrier)] "barrier" (mV 14) aNil)
noncomputable def m11 : Ms := sIf (tBl (mOp2 fNe (mMeth [("Disk", m_Disk_settled)] "settled" (mN m_disk_at (aCons (mV 7) (aCons (mV 8) aNil))) aNil) (mV 9))) (sSeq (sRet (mC (.bl false))) sNil) sNil
noncomputable def momB : Ms := sSeq m1 (sSeq m2 (sSeq m3 (sSeq m4 (sSeq m5 (sSeq m6 (sSeq m7 (sSeq m8 (sSeq m9 (sSeq m10 (sSeq m11 sNil))))))))))
theorem ext_of {h h' : AH} (e : h'.take h.length = h) : ∃ t, h' = h ++ t := ⟨h'.drop h.length, by conv => lhs; rw [← List.take_append_drop h.length h', e]⟩
section
variable {n nP m : Nat} {h : AH} {K : List (Option Val)} {xs : List Stp} {g0 g1 g2 g3 g4 g9 g10 g11 g12 g13 g14 g15 g16 g17 : Option D}
theorem mom_ok (p : PlanOk n K xs) (few : xs.length ≤ 40) (gP : h[nP]? = some (.ins "Plan" (planF K xs))) (hm : m ≤ xs.length) :
    ∃ u9 u10 u11 u12 u13 u14 u15 u16 t, momB [g0, g1, g2, g3, g4, some (.tup (K.map hvD)), some (.tup (xs.map stD)), some (.loc nP), some (.int m), g9, g10, g11, g12, g13, g14, g15, g16, g17] h =
      .next [g0, g1, g2, g3, g4, some (.tup (K.map hvD)), some (.tup (xs.map stD)), some (.loc nP), some (.int m), u9, u10, u11, u12, u13, u14, u15, u16, g17] (h ++ t) := by
  obtain ⟨ys, ey⟩ : ∃ ys, ys = xs.take m := ⟨_, rfl⟩
  have yl : ys.length ≤ xs.length := by rw [ey, List.length_take]; omega
  have yst : ∀ x ∈ ys, StpOk n x := fun x hx => p.st x (List.mem_of_mem_take (by rw [← ey]; exact hx))
  obtain ⟨nW, t1, e1, gW, _⟩ := behind_ok p.len p.hk yst (by omega) h
  obtain ⟨S, eS⟩ : ∃ S, S = runs K ys := ⟨_, rfl⟩
  have rok : RunOk n S := by rw [eS]; exact runs_ok p.len p.hk ys yst
  have Wl : S.2.length ≤ 40 := by rw [eS]; have := (runs_len K ys).2; omega
  rw [← eS] at e1 gW
  obtain ⟨h1, eh1⟩ : ∃ h1, h1 = h ++ t1 := ⟨_, rfl⟩
  rw [← eh1] at e1 gW
  have n2 := p.n2
  have hw1 : WAt h1 (.loc nW) S.2 := .inr ⟨nW, rfl, gW⟩
  -- now
  obtain ⟨h2, eh2⟩ : ∃ h2, h2 = h1 ++ AO.lst ((putW S.1 S.2).map hvD) :: [] := ⟨_, rfl⟩
  have hw2 : WAt h2 (.loc nW) S.2 := by rw [eh2]; exact hw1.app _
  have gN2 : h2[h1.length]? = some (.lst ((putW S.1 S.2).map hvD)) := by rw [eh2]; exact get_mid _ _ _
  have gP1 : h1[nP]? = some (.ins "Plan" (planF K xs)) := by rw [eh1, List.getElem?_append_left (lt_of_get gP)]; exact gP
  have gP2 : h2[nP]? = some (.ins "Plan" (planF K xs)) := by rw [eh2, List.getElem?_append_left (lt_of_get gP1)]; exact gP1
  obtain ⟨t3, e4, db⟩ := disk_at_ok (m := m) p gP2 hm
  rw [← ey, ← eS] at db
  obtain ⟨h3, eh3⟩ : ∃ h3, h3 = h2 ++ t3 := ⟨_, rfl⟩
  rw [← eh3] at e4 db
  have gP3 : h3[nP]? = some (.ins "Plan" (planF K xs)) := by rw [eh3, List.getElem?_append_left (lt_of_get gP2)]; exact gP2
  have gN3 : h3[h1.length]? = some (.lst ((putW S.1 S.2).map hvD)) := by rw [eh3, List.getElem?_append_left (lt_of_get gN2)]; exact gN2
  have hw3 : WAt h3 (.loc nW) S.2 := by rw [eh3]; exact hw2.app _
  obtain ⟨nK, nWd, ws, d, r, hb⟩ := db.ex
  have hb9 : Bd ws 900 := ⟨Nat.le_trans hb.1 (by omega), fun e he => Nat.le_trans (hb.2 e he) (by omega)⟩
  have wsl : ws.length < 64 := by have := hb.1; omega
  -- write, barrier
  have v8 : VOk [8] := ⟨by simp, by simp⟩
  obtain ⟨h4, e9, db4, ht4⟩ := write_db db (by omega) (s := 0) (v := [8]) (by rw [rok.len]; exact p.n1) v8
  obtain ⟨h5, e10, db5, ht5⟩ := barrier_db db4
  have ht : h5.take h2.length = h2 := by rw [ht5, ht4, eh3]; simp
  obtain ⟨t5, et5⟩ := ext_of ht
  have gP5 : h5[nP]? = some (.ins "Plan" (planF K xs)) := by rw [et5, List.getElem?_append_left (lt_of_get gP2)]; exact gP2
  obtain ⟨t6, e11, db6⟩ := disk_at_ok (m := m) p gP5 hm
  rw [← ey, ← eS] at db6
  obtain ⟨nK6, nW6, ws6, d6, r6, hb6⟩ := db6.ex
  -- the rows
  have c1 : m1 [g0, g1, g2, g3, g4, some (.tup (K.map hvD)), some (.tup (xs.map stD)), some (.loc nP), some (.int m), g9, g10, g11, g12, g13, g14, g15, g16, g17] h =
      .next [g0, g1, g2, g3, g4, some (.tup (K.map hvD)), some (.tup (xs.map stD)), some (.loc nP), some (.int m), some (.tup (S.1.map hvD)), some (.loc nW), g11, g12, g13, g14, g15, g16, g17] h1 := by
    unfold m1
    simp only [v_sAsg, v_mN, v_aCons, v_aNil, v_mSlT, v_oNone, v_oSome, v_mV, List.getElem?_cons_succ, List.getElem?_cons_zero, Res.bind_ok, cut_to, ← ey, e1, Res.toS_ok]
    rfl
  have c2 : m2 [g0, g1, g2, g3, g4, some (.tup (K.map hvD)), some (.tup (xs.map stD)), some (.loc nP), some (.int m), some (.tup (S.1.map hvD)), some (.loc nW), g11, g12, g13, g14, g15, g16, g17] h1 =
      .next [g0, g1, g2, g3, g4, some (.tup (K.map hvD)), some (.tup (xs.map stD)), some (.loc nP), some (.int m), some (.tup (S.1.map hvD)), some (.loc nW), some (.loc h1.length), g12, g13, g14, g15, g16, g17] (h1 ++ AO.lst (S.1.map hvD) :: []) := by
    unfold m2
    simp only [v_sSet, v_mNew, v_lN, v_aCons, v_mV, List.getElem?_cons_succ, List.getElem?_cons_zero, Res.bind_ok, v_aNil, v_list, v_vSt, Res.toS_ok, List.set_cons_succ, List.set_cons_zero]
  obtain ⟨u12, u13, c3⟩ : ∃ u12 u13, m3 [g0, g1, g2, g3, g4, some (.tup (K.map hvD)), some (.tup (xs.map stD)), some (.loc nP), some (.int m), some (.tup (S.1.map hvD)), some (.loc nW), some (.loc h1.length), g12, g13, g14, g15, g16, g17] (h1 ++ AO.lst (S.1.map hvD) :: []) =
      .next [g0, g1, g2, g3, g4, some (.tup (K.map hvD)), some (.tup (xs.map stD)), some (.loc nP), some (.int m), some (.tup (S.1.map hvD)), some (.loc nW), some (.loc h1.length), u12, u13, g14, g15, g16, g17] h2 := by
    obtain ⟨G', h', e, u12, u13, rfl, rfl⟩ := for_preS (p := .tp [(.nm 12), (.nm 13)]) (body := sSeq (sSub (mV 11) (mV 12) (mV 13)) sNil) (all0 := S.2.map pD) (src := some nW)
      (fun done G hh => ∃ u12 u13, G = [g0, g1, g2, g3, g4, some (.tup (K.map hvD)), some (.tup (xs.map stD)), some (.loc nP), some (.int m), some (.tup (S.1.map hvD)), some (.loc nW), some (.loc h1.length), u12, u13, g14, g15, g16, g17] ∧ hh = h1 ++ AO.lst ((putW S.1 done).map hvD) :: [])
      (by rintro done G hh ⟨_, _, _, rfl⟩; exact hw1.still _) pD S.2 S.2 [] rfl
      (by
        rintro done q rest ed G hh ⟨u12, u13, rfl, rfl⟩
        have hp : q.1 < ((putW S.1 done).map hvD).length := by
          rw [List.length_map, putW_len, rok.len]
          exact (rok.wv q (by rw [← ed]; simp)).1
        have x2 := ixN_nat hp
        refine ⟨_, [g0, g1, g2, g3, g4, some (.tup (K.map hvD)), some (.tup (xs.map stD)), some (.loc nP), some (.int m), some (.tup (S.1.map hvD)), some (.loc nW), some (.loc h1.length), some (.int (q.1 : Int)), some (vD q.2), g14, g15, g16, g17], h1 ++ AO.lst ((putW S.1 (done ++ [q])).map hvD) :: [], rfl, ?_, _, _, rfl, rfl⟩
        rw [putW_snoc, List.map_set]
        simp only [v_sSeq, v_sSub, v_mV, List.set_cons_succ, List.set_cons_zero, List.getElem?_cons_succ, List.getElem?_cons_zero, Res.toS_ok, get_mid, x2, set_mid, SR.andThen_next, v_sNil]
        rfl)
      [g0, g1, g2, g3, g4, some (.tup (K.map hvD)), some (.tup (xs.map stD)), some (.loc nP), some (.int m), some (.tup (S.1.map hvD)), some (.loc nW), some (.loc h1.length), g12, g13, g14, g15, g16, g17] (h1 ++ AO.lst (S.1.map hvD) :: []) ⟨g12, g13, rfl, rfl⟩
    refine ⟨u12, u13, ?_⟩
    have i1 := (hw1.app [AO.lst (S.1.map hvD)]).seq (G := [g0, g1, g2, g3, g4, some (.tup (K.map hvD)), some (.tup (xs.map stD)), some (.loc nP), some (.int m), some (.tup (S.1.map hvD)), some (.loc nW), some (.loc h1.length), g12, g13, g14, g15, g16, g17]) (i := 10) rfl
    have i1 : (iSeq (mV 10)) [g0, g1, g2, g3, g4, some (.tup (K.map hvD)), some (.tup (xs.map stD)), some (.loc nP), some (.int m), some (.tup (S.1.map hvD)), some (.loc nW), some (.loc h1.length), g12, g13, g14, g15, g16, g17] (h1 ++ AO.lst (S.1.map hvD) :: []) = .ok (S.2.map pD, some nW) (h1 ++ AO.lst (S.1.map hvD) :: []) := i1
    unfold m3
    simp only [v_sFor, i1, Res.toS_ok]
    rw [e, eh2]
  have c4 : m4 [g0, g1, g2, g3, g4, some (.tup (K.map hvD)), some (.tup (xs.map stD)), some (.loc nP), some (.int m), some (.tup (S.1.map hvD)), some (.loc nW), some (.loc h1.length), u12, u13, g14, g15, g16, g17] h2 =
      .next [g0, g1, g2, g3, g4, some (.tup (K.map hvD)), some (.tup (xs.map stD)), some (.loc nP), some (.int m), some (.tup (S.1.map hvD)), some (.loc nW), some (.loc h1.length), u12, u13, some (.loc h2.length), g15, g16, g17] h3 := by
    unfold m4
    simp only [v_sSet, v_mN, v_aCons, v_mV, List.getElem?_cons_succ, List.getElem?_cons_zero, Res.bind_ok, v_aNil, e4, Res.toS_ok, List.set_cons_succ, List.set_cons_zero]
  have c5 : m5 [g0, g1, g2, g3, g4, some (.tup (K.map hvD)), some (.tup (xs.map stD)), some (.loc nP), some (.int m), some (.tup (S.1.map hvD)), some (.loc nW), some (.loc h1.length), u12, u13, some (.loc h2.length), g15, g16, g17] h3 =
      .next [g0, g1, g2, g3, g4, some (.tup (K.map hvD)), some (.tup (xs.map stD)), some (.loc nP), some (.int m), some (.tup (S.1.map hvD)), some (.loc nW), some (.loc h1.length), u12, u13, some (.loc h2.length), g15, g16, g17] h3 := by
    have x1 := settledI_ok (G := [g0, g1, g2, g3, g4, some (.tup (K.map hvD)), some (.tup (xs.map stD)), some (.loc nP), some (.int m), some (.tup (S.1.map hvD)), some (.loc nW), some (.loc h1.length), u12, u13, some (.loc h2.length), g15, g16, g17]) (i := 14) d rfl
    have x2 := nowI_ok (G := [g0, g1, g2, g3, g4, some (.tup (K.map hvD)), some (.tup (xs.map stD)), some (.loc nP), some (.int m), some (.tup (S.1.map hvD)), some (.loc nW), some (.loc h1.length), u12, u13, some (.loc h2.length), g15, g16, g17]) (i := 14) d (by omega) (by rw [rok.len]; omega) rfl
    rw [cur_put r d.ne] at x2
    unfold m5
    simp only [v_sIf, v_tOr, v_tBl, v_mOp2, x1, x2, Res.bind_ok, v_mN, v_aCons, v_mV, List.getElem?_cons_succ, List.getElem?_cons_zero, v_aNil, v_tuple, v_vSo, gN3, ne_hvT, Bool.false_eq_true, if_false, Res.toS_ok, v_sNil]
  have c6 : m6 [g0, g1, g2, g3, g4, some (.tup (K.map hvD)), some (.tup (xs.map stD)), some (.loc nP), some (.int m), some (.tup (S.1.map hvD)), some (.loc nW), some (.loc h1.length), u12, u13, some (.loc h2.length), g15, g16, g17] h3 =
      .next [g0, g1, g2, g3, g4, some (.tup (K.map hvD)), some (.tup (xs.map stD)), some (.loc nP), some (.int m), some (.tup (S.1.map hvD)), some (.loc nW), some (.loc h1.length), u12, u13, some (.loc h2.length), g15, g16, g17] h3 := by
    have x1 := waitingI_ok (G := [g0, g1, g2, g3, g4, some (.tup (K.map hvD)), some (.tup (xs.map stD)), some (.loc nP), some (.int m), some (.tup (S.1.map hvD)), some (.loc nW), some (.loc h1.length), u12, u13, some (.loc h2.length), g15, g16, g17]) (i := 14) d wsl rfl
    rw [waiting_eq r d.keys] at x1
    have w : wipeG [g0, g1, g2, g3, g4, some (.tup (K.map hvD)), some (.tup (xs.map stD)), some (.loc nP), some (.int m), some (.tup (S.1.map hvD)), some (.loc nW), some (.loc h1.length), u12, u13, some (.loc h2.length), g15, g16, g17] [12, 13] = [g0, g1, g2, g3, g4, some (.tup (K.map hvD)), some (.tup (xs.map stD)), some (.loc nP), some (.int m), some (.tup (S.1.map hvD)), some (.loc nW), some (.loc h1.length), none, none, some (.loc h2.length), g15, g16, g17] := rfl
    have i1 := hw3.seq (G := [g0, g1, g2, g3, g4, some (.tup (K.map hvD)), some (.tup (xs.map stD)), some (.loc nP), some (.int m), some (.tup (S.1.map hvD)), some (.loc nW), some (.loc h1.length), u12, u13, some (.loc h2.length), g15, g16, g17]) (i := 10) rfl
    have lb : (S.2.map pD).length ≤ big := by rw [List.length_map, big_eq]; omega
    have hcmp := comp_okS (p := .tp [(.nm 12), (.nm 13)]) (t := tYesM) (e := mV 12) (all0 := S.2.map pD) (src := wsrc (.loc nW)) (h := h3) (G0 := [g0, g1, g2, g3, g4, some (.tup (K.map hvD)), some (.tup (xs.map stD)), some (.loc nP), some (.int m), some (.tup (S.1.map hvD)), some (.loc nW), some (.loc h1.length), none, none, some (.loc h2.length), g15, g16, g17])
      (by have := hw3.still []; rw [List.append_nil] at this; exact this) pD (fun _ => true) (fun q => D.int (q.1 : Int)) S.2 (fun q hq => ⟨[g0, g1, g2, g3, g4, some (.tup (K.map hvD)), some (.tup (xs.map stD)), some (.loc nP), some (.int m), some (.tup (S.1.map hvD)), some (.loc nW), some (.loc h1.length), some (.int (q.1 : Int)), some (vD q.2), some (.loc h2.length), g15, g16, g17], rfl, rfl, fun _ => rfl⟩)
    rw [List.filter_eq_self.mpr fun _ _ => rfl] at hcmp
    have ne := ne_v (h := h3) (upSet (S.2.map fun q => (q.1 : Int)))
    unfold m6
    simp only [v_sIf, v_tBl, v_mOp2, x1, Res.bind_ok, v_mN, v_aCons, v_mL, v_lN, v_lComp, i1, lb, if_true, w, hcmp, v_aNil, due_ok (show S.2.length < 64 by omega), v_tuple, v_vSl, ne, Res.toS_ok, Bool.false_eq_true, if_false, v_sNil]
  have hL : ∀ tr, m_lots_at [.loc nP, .int m, .bl tr] h3 = .ok (lawLotsD S.1 S.2 tr) h3 := fun tr => by
    have := lots_at_ok (m := m) p gP3 hm tr
    rw [← ey, ← eS] at this
    exact this
  obtain ⟨u15, u16, c7⟩ : ∃ u15 u16, m7 [g0, g1, g2, g3, g4, some (.tup (K.map hvD)), some (.tup (xs.map stD)), some (.loc nP), some (.int m), some (.tup (S.1.map hvD)), some (.loc nW), some (.loc h1.length), u12, u13, some (.loc h2.length), g15, g16, g17] h3 =
      .next [g0, g1, g2, g3, g4, some (.tup (K.map hvD)), some (.tup (xs.map stD)), some (.loc nP), some (.int m), some (.tup (S.1.map hvD)), some (.loc nW), some (.loc h1.length), u12, u13, some (.loc h2.length), u15, u16, g17] h3 := by
    obtain ⟨G', h', c, u15, u16, rfl, eh'⟩ := for_inv (p := .nm 15) (body := sSeq m7a (sSeq m7b sNil)) (all0 := [false, true].map D.bl)
      (fun G hh => ∃ u15 u16, G = [g0, g1, g2, g3, g4, some (.tup (K.map hvD)), some (.tup (xs.map stD)), some (.loc nP), some (.int m), some (.tup (S.1.map hvD)), some (.loc nW), some (.loc h1.length), u12, u13, some (.loc h2.length), u15, u16, g17] ∧ hh = h3)
      D.bl [false, true]
      (by
        rintro tr _ G hh ⟨u15, u16, rfl, rfl⟩
        have x1 := law_lots_ok hw3 tr (show S.1.length ≤ 1000 by rw [rok.len]; omega) (by omega)
        have x2 := lotsI_ok (G := [g0, g1, g2, g3, g4, some (.tup (K.map hvD)), some (.tup (xs.map stD)), some (.loc nP), some (.int m), some (.tup (S.1.map hvD)), some (.loc nW), some (.loc h1.length), u12, u13, some (.loc h2.length), some (.bl tr), some (lawLotsD S.1 S.2 tr), g17]) (i := 14) (j := 15) d hb9 (by rw [rok.len]; omega) tr rfl rfl
        rw [lots_D r] at x2
        refine ⟨[g0, g1, g2, g3, g4, some (.tup (K.map hvD)), some (.tup (xs.map stD)), some (.loc nP), some (.int m), some (.tup (S.1.map hvD)), some (.loc nW), some (.loc h1.length), u12, u13, some (.loc h2.length), some (.bl tr), u16, g17], _, hh, rfl, ?_, some (.bl tr), some (lawLotsD S.1 S.2 tr), rfl, rfl⟩
        unfold m7a m7b
        simp only [v_sSeq, v_sSet, v_mN, v_aCons, v_aNil, v_mV, List.getElem?_cons_succ, List.getElem?_cons_zero, Res.bind_ok, x1, Res.toS_ok, List.set_cons_succ, List.set_cons_zero, SR.andThen_next, v_sIf, v_tOr, v_tBl, v_mOp2, hL, ne_lots, Bool.false_eq_true, if_false, x2, v_sNil])
      [g0, g1, g2, g3, g4, some (.tup (K.map hvD)), some (.tup (xs.map stD)), some (.loc nP), some (.int m), some (.tup (S.1.map hvD)), some (.loc nW), some (.loc h1.length), u12, u13, some (.loc h2.length), g15, g16, g17] h3 ⟨g15, g16, rfl, rfl⟩
    refine ⟨u15, u16, ?_⟩
    have i1 : ∀ G : AB.Env, (iSeq (mL (lLst (aCons (mC (.bl false)) (aCons (mC (.bl true)) aNil))))) G h3 = .ok ([false, true].map D.bl, none) h3 := fun G => by
      have b2 : (2 : Nat) ≤ big := by decide
      simp [b2]
    rw [eh'] at c
    unfold m7
    simp only [v_sFor, i1, Res.toS_ok, c]
  have c8 : m8 [g0, g1, g2, g3, g4, some (.tup (K.map hvD)), some (.tup (xs.map stD)), some (.loc nP), some (.int m), some (.tup (S.1.map hvD)), some (.loc nW), some (.loc h1.length), u12, u13, some (.loc h2.length), u15, u16, g17] h3 =
      .next [g0, g1, g2, g3, g4, some (.tup (K.map hvD)), some (.tup (xs.map stD)), some (.loc nP), some (.int m), some (.tup (S.1.map hvD)), some (.loc nW), some (.loc h1.length), u12, u13, some (.loc h2.length), u15, u16, g17] h3 := by
    have x1 := bounds_at_ok (m := m) p gP3 hm
    rw [← ey] at x1
    have x2 := law_bounds_ok h3 (xs := ys) (by omega)
    have ne : fNe (bnD ys) (bnD ys) h3 = .ok (.bl false) h3 := ne_v _
    unfold m8
    simp only [v_sIf, v_tBl, v_mOp2, v_mN, v_aCons, v_aNil, v_mSlT, v_oNone, v_oSome, v_mV, List.getElem?_cons_succ, List.getElem?_cons_zero, Res.bind_ok, x1, cut_to, ← ey, x2, ne, Res.toS_ok, Bool.false_eq_true, if_false, v_sNil]
  obtain ⟨kI, wI, gI3⟩ := db.ins
  obtain ⟨kI4, wI4, gI4⟩ := db4.ins
  have c9 : m9 [g0, g1, g2, g3, g4, some (.tup (K.map hvD)), some (.tup (xs.map stD)), some (.loc nP), some (.int m), some (.tup (S.1.map hvD)), some (.loc nW), some (.loc h1.length), u12, u13, some (.loc h2.length), u15, u16, g17] h3 =
      .next [g0, g1, g2, g3, g4, some (.tup (K.map hvD)), some (.tup (xs.map stD)), some (.loc nP), some (.int m), some (.tup (S.1.map hvD)), some (.loc nW), some (.loc h1.length), u12, u13, some (.loc h2.length), u15, u16, g17] h4 := by
    have e0 : List.lookup ("Disk" : Str) [(("Disk" : Str), m_Disk_write)] = some m_Disk_write := lookup_eq'
    have b1 : (1 : Nat) ≤ big := by decide
    have e9 : m_Disk_write [.loc h2.length, .int 0, .tup [.int 8]] h3 = .ok .non h4 := e9
    unfold m9
    simp only [v_sExpr, v_mMeth, v_mV, v_mC, v_mN, v_fTup, List.length_cons, List.length_nil, Nat.zero_add, b1, if_true, List.getElem?_cons_succ, List.getElem?_cons_zero, Res.bind_ok, gI3, e0, df_write, v_aCons, v_aNil, e9, Res.toS_ok]
  have c10 : m10 [g0, g1, g2, g3, g4, some (.tup (K.map hvD)), some (.tup (xs.map stD)), some (.loc nP), some (.int m), some (.tup (S.1.map hvD)), some (.loc nW), some (.loc h1.length), u12, u13, some (.loc h2.length), u15, u16, g17] h4 =
      .next [g0, g1, g2, g3, g4, some (.tup (K.map hvD)), some (.tup (xs.map stD)), some (.loc nP), some (.int m), some (.tup (S.1.map hvD)), some (.loc nW), some (.loc h1.length), u12, u13, some (.loc h2.length), u15, u16, g17] h5 := by
    have e0 : List.lookup ("Disk" : Str) [(("Disk" : Str), m_Disk_barrier)] = some m_Disk_barrier := lookup_eq'
    unfold m10
    simp only [v_sExpr, v_mMeth, v_mV, List.getElem?_cons_succ, List.getElem?_cons_zero, Res.bind_ok, gI4, e0, df_barrier, v_aNil, e10, Res.toS_ok]
  have c11 : m11 [g0, g1, g2, g3, g4, some (.tup (K.map hvD)), some (.tup (xs.map stD)), some (.loc nP), some (.int m), some (.tup (S.1.map hvD)), some (.loc nW), some (.loc h1.length), u12, u13, some (.loc h2.length), u15, u16, g17] h5 =
      .next [g0, g1, g2, g3, g4, some (.tup (K.map hvD)), some (.tup (xs.map stD)), some (.loc nP), some (.int m), some (.tup (S.1.map hvD)), some (.loc nW), some (.loc h1.length), u12, u13, some (.loc h2.length), u15, u16, g17] (h5 ++ t6) := by
    have e0 : List.lookup ("Disk" : Str) [(("Disk" : Str), m_Disk_settled)] = some m_Disk_settled := lookup_eq'
    unfold m11
    simp only [v_sIf, v_tBl, v_mOp2, v_mMeth, v_mN, v_aCons, v_aNil, v_mV, List.getElem?_cons_succ, List.getElem?_cons_zero, Res.bind_ok, e11, d6.ins, e0, df_settled, settled_ok d6, ne_hvT, Res.toS_ok, Bool.false_eq_true, if_false, v_sNil]
  refine ⟨some (.tup (S.1.map hvD)), some (.loc nW), some (.loc h1.length), u12, u13, some (.loc h2.length), u15, u16, t1 ++ (AO.lst ((putW S.1 S.2).map hvD) :: [] ++ (t5 ++ t6)), ?_⟩
  have eF : h5 ++ t6 = h ++ (t1 ++ (AO.lst ((putW S.1 S.2).map hvD) :: [] ++ (t5 ++ t6))) := by rw [et5, eh2, eh1]; simp
  unfold momB
  rw [← eF]
  simp only [v_sSeq, c1, SR.andThen_next, c2, c3, c4, c5, c6, c7, c8, c9, c10, c11, v_sNil]
end
end My
/-! a turn of the law; the law -/
namespace My
open PySem AB L2
section
variable {cs : List Int} {P : AO} {tl : AH} {g0 g2 g3 g4 g5 g6 g7 g8 g9 g10 g11 g12 g13 g14 g15 g16 g17 : Option D}
theorem vals_of (zs : List (Nat × D)) (h : ∀ z ∈ zs, ∃ v : Val, z.2 = vD v ∧ VOk v) : ∃ K : List (Option Val), zs.map (·.2) = K.map hvD ∧ (∀ o ∈ K, HOkV o) ∧ none ∉ K ∧ K.length = zs.length := by
  induction zs with
  | nil => exact ⟨[], rfl, by simp, by simp, rfl⟩
  | cons z zs ih =>
    obtain ⟨K, e, hK, hn, hl⟩ := ih fun y hy => h y (List.mem_cons_of_mem _ hy)
    obtain ⟨v, ev, hv⟩ := h z List.mem_cons_self
    refine ⟨some v :: K, by simp [ev, e, hvD], fun j hj => ?_, by simp [hn], by simp [hl]⟩
    rcases List.mem_cons.mp hj with rfl | hj
    · exact hv
    · exact hK j hj
noncomputable def t3 : Ms := sSet 3 (mOp2 fAdd (mC (.int 1)) (mN m__law_draw (aCons (mV 1) (aCons (mC (.int 4)) aNil))))
noncomputable def t4 : Ms := sSet 4 (mL (lN m__law_pool (aCons (mV 1) aNil)))
noncomputable def t5e : Me := mN m__law_any (aCons (mV 1) (aCons (mV 4) aNil))
noncomputable def t5 : Ms := sSet 5 (mN fTuple (aCons (mL (lComp (.nm 17) [17] (iRange1 (aCons (mV 3) aNil)) tYesM t5e)) aNil))
noncomputable def t6 : Ms := sSet 6 (mN m__law_steps (aCons (mV 1) (aCons (mV 4) (aCons (mV 3) (aCons (mN m__law_draw (aCons (mV 1) (aCons (mC (.int 15)) aNil))) aNil)))))
noncomputable def t7 : Ms := sSet 7 (mMake "Plan" m_Plan___init__ (aCons (mV 5) (aCons (mV 6) aNil)))
noncomputable def t8i : Im := iRange1 (aCons (mOp2 fAdd (mN fLen (aCons (mV 6) aNil)) (mC (.int 1))) aNil)
noncomputable def t8 : Ms := sFor (.nm 8) t8i momB
noncomputable def tB : Ms := sSeq t3 (sSeq t4 (sSeq t5 (sSeq t6 (sSeq t7 (sSeq t8 sNil)))))
theorem t5_ok (hc : ∀ c ∈ cs, 0 ≤ c) (hP : IsP cs P) (tl : AH) {L : List Val} (hL : ∀ v ∈ L, VOk v) (l1 : 1 ≤ L.length) (l2 : L.length ≤ 3) {n : Nat} (n2 : n ≤ 64) :
    ∃ (K : List (Option Val)) (P' : AO), t5 [g0, some (.loc 0), g2, some (.int n), some (.lst (L.map vD)), g5, g6, g7, g8, g9, g10, g11, g12, g13, g14, g15, g16, g17] (P :: tl) = .next [g0, some (.loc 0), g2, some (.int n), some (.lst (L.map vD)), some (.tup (K.map hvD)), g6, g7, g8, g9, g10, g11, g12, g13, g14, g15, g16, g17] (P' :: tl) ∧ IsP cs P' ∧ K.length = n ∧ (∀ o ∈ K, HOkV o) ∧ none ∉ K := by
  obtain ⟨zs, h', e2, ⟨P2, hP2, rfl⟩, e3, hz⟩ := comp_gen (p := .nm 17) (e := t5e) (all0 := (List.range n).map fun i : Nat => D.int (i : Int)) (G0 := [g0, some (.loc 0), g2, some (.int n), some (.lst (L.map vD)), g5, g6, g7, g8, g9, g10, g11, g12, g13, g14, g15, g16, none]) (I := fun h => ∃ P', IsP cs P' ∧ h = P' :: tl)
    (R := fun (_ : Nat) d => ∃ v : Val, d = vD v ∧ VOk v) (fun i : Nat => D.int (i : Int)) (List.range n)
    (by
      rintro i hi h ⟨P', hP', rfl⟩
      obtain ⟨x, P2, e, hP2, hx⟩ := any_ok hc hP' (L.map vD) (by rw [List.length_map]; exact l1) (by rw [List.length_map]; omega) tl
      obtain ⟨v, hv, rfl⟩ := List.mem_map.mp hx
      refine ⟨[g0, some (.loc 0), g2, some (.int n), some (.lst (L.map vD)), g5, g6, g7, g8, g9, g10, g11, g12, g13, g14, g15, g16, some (.int i)], vD v, P2 :: tl, rfl, ?_, ⟨P2, hP2, rfl⟩, v, rfl, hL v hv⟩
      unfold t5e
      simp only [v_mN, v_aCons, v_aNil, v_mV, List.getElem?_cons_succ, List.getElem?_cons_zero, Res.bind_ok, e])
    (P :: tl) ⟨P, hP, rfl⟩
  obtain ⟨K, eK, hK, hn, lK⟩ := vals_of zs hz
  have lz : zs.length = n := by
    have := congrArg List.length e3
    simpa using this
  rw [eK] at e2
  refine ⟨K, P2, ?_, hP2, by omega, hK, hn⟩
  have er : rangeD 0 n = (List.range n).map fun i : Nat => D.int (i : Int) := rangeD_eq n
  have c1 : okR (n : Int) := ⟨by omega, by omega⟩
  have ln : ((List.range n).map fun i : Nat => D.int (i : Int)).length ≤ big := by rw [List.length_map, List.length_range, big_eq]; omega
  have w : wipeG [g0, some (.loc 0), g2, some (.int n), some (.lst (L.map vD)), g5, g6, g7, g8, g9, g10, g11, g12, g13, g14, g15, g16, g17] [17] = [g0, some (.loc 0), g2, some (.int n), some (.lst (L.map vD)), g5, g6, g7, g8, g9, g10, g11, g12, g13, g14, g15, g16, none] := rfl
  have ei : (iRange1 (aCons (mV 3) aNil)) [g0, some (.loc 0), g2, some (.int n), some (.lst (L.map vD)), g5, g6, g7, g8, g9, g10, g11, g12, g13, g14, g15, g16, g17] (P :: tl) = .ok ((List.range n).map fun i : Nat => D.int (i : Int), none) (P :: tl) := by
    rw [v_range1]
    simp only [v_aCons, v_aNil, v_mV, List.getElem?_cons_succ, List.getElem?_cons_zero, Res.bind_ok, c1, if_true]
    show Res.ok (rangeD 0 (n : Int).toNat, none) _ = _
    rw [Int.toNat_natCast, er]
  unfold t5
  simp only [v_sSet, v_mN, v_aCons, v_aNil, v_mL, v_lComp, ei, Res.bind_ok, ln, if_true, w, e2, v_tuple, v_vSl, Res.toS_ok, List.set_cons_succ, List.set_cons_zero]
theorem turn_ok (hc : ∀ c ∈ cs, 0 ≤ c) (hP : IsP cs P) :
    ∃ g3' g4' g5' g6' g7' g8' g9' g10' g11' g12' g13' g14' g15' g16' P' tl', tB [g0, some (.loc 0), g2, g3, g4, g5, g6, g7, g8, g9, g10, g11, g12, g13, g14, g15, g16, g17] (P :: tl) = .next [g0, some (.loc 0), g2, g3', g4', g5', g6', g7', g8', g9', g10', g11', g12', g13', g14', g15', g16', g17] (P' :: tl') ∧ IsP cs P' := by
  obtain ⟨a, P1, e1, hP1, a0, a1⟩ := draw_ok hc hP (many := 4) (by omega) (by omega) tl
  obtain ⟨k, rfl⟩ : ∃ k : Nat, a = (k : Int) := ⟨a.toNat, by omega⟩
  obtain ⟨n, en⟩ : ∃ n, n = 1 + k := ⟨_, rfl⟩
  have n1 : 1 ≤ n := by omega
  have n2 : n ≤ 4 := by omega
  have c3 : t3 [g0, some (.loc 0), g2, g3, g4, g5, g6, g7, g8, g9, g10, g11, g12, g13, g14, g15, g16, g17] (P :: tl) = .next [g0, some (.loc 0), g2, some (.int n), g4, g5, g6, g7, g8, g9, g10, g11, g12, g13, g14, g15, g16, g17] (P1 :: tl) := by
    have : (1 : Int) + (k : Int) = (n : Int) := by omega
    unfold t3
    simp only [v_sSet, v_mOp2, v_mN, v_aCons, v_aNil, v_mV, v_mC, List.getElem?_cons_succ, List.getElem?_cons_zero, Res.bind_ok, e1, v_add, this, Res.toS_ok, List.set_cons_succ, List.set_cons_zero]
  obtain ⟨L, P2, e2, hP2, hL, _, l1, l2⟩ := pool_ok hc hP1 tl
  have c4 : t4 [g0, some (.loc 0), g2, some (.int n), g4, g5, g6, g7, g8, g9, g10, g11, g12, g13, g14, g15, g16, g17] (P1 :: tl) = .next [g0, some (.loc 0), g2, some (.int n), some (.lst (L.map vD)), g5, g6, g7, g8, g9, g10, g11, g12, g13, g14, g15, g16, g17] (P2 :: tl) := by
    unfold t4
    simp only [v_sSet, v_mL, v_lN, v_aCons, v_aNil, v_mV, List.getElem?_cons_succ, List.getElem?_cons_zero, Res.bind_ok, e2, Res.toS_ok, List.set_cons_succ, List.set_cons_zero]
  obtain ⟨K, P3, c5, hP3, lK, hK, nK⟩ := t5_ok (g0 := g0) (g2 := g2) (g5 := g5) (g6 := g6) (g7 := g7) (g8 := g8) (g9 := g9) (g10 := g10) (g11 := g11) (g12 := g12) (g13 := g13) (g14 := g14) (g15 := g15) (g16 := g16) (g17 := g17) hc hP2 tl hL l1 l2 (by omega : n ≤ 64)
  obtain ⟨b, P4, e4, hP4, b0, b1⟩ := draw_ok hc hP3 (many := 15) (by omega) (by omega) tl
  obtain ⟨many, rfl⟩ : ∃ k : Nat, b = (k : Int) := ⟨b.toNat, by omega⟩
  obtain ⟨xs, P5, e5, hP5, lx, hx, pre⟩ := steps_ok (n := n) (many := many) hc hP4 tl n1 (by omega) hL l1 l2 (by omega)
  have c6 : t6 [g0, some (.loc 0), g2, some (.int n), some (.lst (L.map vD)), some (.tup (K.map hvD)), g6, g7, g8, g9, g10, g11, g12, g13, g14, g15, g16, g17] (P3 :: tl) = .next [g0, some (.loc 0), g2, some (.int n), some (.lst (L.map vD)), some (.tup (K.map hvD)), some (.tup (xs.map stD)), g7, g8, g9, g10, g11, g12, g13, g14, g15, g16, g17] (P5 :: tl) := by
    unfold t6
    simp only [v_sSet, v_mN, v_aCons, v_aNil, v_mV, v_mC, List.getElem?_cons_succ, List.getElem?_cons_zero, Res.bind_ok, e4, e5, Res.toS_ok, List.set_cons_succ, List.set_cons_zero]
  have p : PlanOk n K xs := ⟨n1, by omega, lK, hK, nK, by omega, hx, pre⟩
  obtain ⟨h7, eh7⟩ : ∃ h7, h7 = (P5 :: tl) ++ [AO.ins "Plan" (planF K xs)] := ⟨_, rfl⟩
  have gP : h7[(P5 :: tl).length]? = some (.ins "Plan" (planF K xs)) := by rw [eh7, g_app0]; rfl
  have c7 : t7 [g0, some (.loc 0), g2, some (.int n), some (.lst (L.map vD)), some (.tup (K.map hvD)), some (.tup (xs.map stD)), g7, g8, g9, g10, g11, g12, g13, g14, g15, g16, g17] (P5 :: tl) = .next [g0, some (.loc 0), g2, some (.int n), some (.lst (L.map vD)), some (.tup (K.map hvD)), some (.tup (xs.map stD)), some (.loc (P5 :: tl).length), g8, g9, g10, g11, g12, g13, g14, g15, g16, g17] h7 := by
    have := plan_ok p (G := [g0, some (.loc 0), g2, some (.int n), some (.lst (L.map vD)), some (.tup (K.map hvD)), some (.tup (xs.map stD)), g7, g8, g9, g10, g11, g12, g13, g14, g15, g16, g17]) (i := 5) (j := 6) rfl rfl (P5 :: tl)
    rw [← eh7] at this
    unfold t7
    simp only [v_sSet, this, Res.toS_ok, List.set_cons_succ, List.set_cons_zero]
  obtain ⟨G', h', c8, u8, u9, u10, u11, u12, u13, u14, u15, u16, t, rfl, rfl⟩ := for_inv (p := .nm 8) (body := momB) (all0 := (List.range (xs.length + 1)).map fun i : Nat => D.int (i : Int))
    (fun G h => ∃ u8 u9 u10 u11 u12 u13 u14 u15 u16 t, G = [g0, some (.loc 0), g2, some (.int n), some (.lst (L.map vD)), some (.tup (K.map hvD)), some (.tup (xs.map stD)), some (.loc (P5 :: tl).length), u8, u9, u10, u11, u12, u13, u14, u15, u16, g17] ∧ h = h7 ++ t)
    (fun i : Nat => D.int (i : Int)) (List.range (xs.length + 1))
    (by
      rintro m hm G h ⟨u8, u9, u10, u11, u12, u13, u14, u15, u16, t, rfl, rfl⟩
      have hm := List.mem_range.mp hm
      obtain ⟨v9, v10, v11, v12, v13, v14, v15, v16, t2, e⟩ := mom_ok (m := m) (g0 := g0) (g1 := some (.loc 0)) (g2 := g2) (g3 := some (.int n)) (g4 := some (.lst (L.map vD))) (g9 := u9) (g10 := u10) (g11 := u11) (g12 := u12) (g13 := u13) (g14 := u14) (g15 := u15) (g16 := u16) (g17 := g17) p (by omega)
        (h := h7 ++ t) (nP := (P5 :: tl).length) (by rw [List.getElem?_append_left (lt_of_get gP)]; exact gP) (by omega)
      rw [List.append_assoc] at e
      exact ⟨[g0, some (.loc 0), g2, some (.int n), some (.lst (L.map vD)), some (.tup (K.map hvD)), some (.tup (xs.map stD)), some (.loc (P5 :: tl).length), some (.int m), u9, u10, u11, u12, u13, u14, u15, u16, g17], _, _, rfl, e, some (.int m), v9, v10, v11, v12, v13, v14, v15, v16, t ++ t2, rfl, rfl⟩)
    [g0, some (.loc 0), g2, some (.int n), some (.lst (L.map vD)), some (.tup (K.map hvD)), some (.tup (xs.map stD)), some (.loc (P5 :: tl).length), g8, g9, g10, g11, g12, g13, g14, g15, g16, g17] h7 ⟨g8, g9, g10, g11, g12, g13, g14, g15, g16, [], rfl, by simp⟩
  have ei : t8i [g0, some (.loc 0), g2, some (.int n), some (.lst (L.map vD)), some (.tup (K.map hvD)), some (.tup (xs.map stD)), some (.loc (P5 :: tl).length), g8, g9, g10, g11, g12, g13, g14, g15, g16, g17] h7 = .ok ((List.range (xs.length + 1)).map fun i : Nat => D.int (i : Int), none) h7 := by
    have c1 : okR ((xs.length : Int) + 1) := ⟨by omega, by omega⟩
    have er : rangeD 0 (xs.length + 1) = (List.range (xs.length + 1)).map fun i : Nat => D.int (i : Int) := rangeD_eq _
    have hl : fLen [D.tup (xs.map stD)] h7 = .ok (.int xs.length) h7 := by simp
    unfold t8i
    rw [v_range1]
    simp only [v_aCons, v_aNil, v_mOp2, v_mN, v_mV, v_mC, List.getElem?_cons_succ, List.getElem?_cons_zero, Res.bind_ok, hl, v_add, c1, if_true]
    have : ((xs.length : Int) + 1).toNat = xs.length + 1 := by omega
    rw [this, er]
  have c8' : t8 [g0, some (.loc 0), g2, some (.int n), some (.lst (L.map vD)), some (.tup (K.map hvD)), some (.tup (xs.map stD)), some (.loc (P5 :: tl).length), g8, g9, g10, g11, g12, g13, g14, g15, g16, g17] h7 = .next [g0, some (.loc 0), g2, some (.int n), some (.lst (L.map vD)), some (.tup (K.map hvD)), some (.tup (xs.map stD)), some (.loc (P5 :: tl).length), u8, u9, u10, u11, u12, u13, u14, u15, u16, g17] (h7 ++ t) := by
    unfold t8
    simp only [v_sFor, ei, Res.toS_ok, c8]
  refine ⟨some (.int n), some (.lst (L.map vD)), some (.tup (K.map hvD)), some (.tup (xs.map stD)), some (.loc (P5 :: tl).length), u8, u9, u10, u11, u12, u13, u14, u15, u16, P5, tl ++ [AO.ins "Plan" (planF K xs)] ++ t, ?_, hP5⟩
  have eF : P5 :: (tl ++ [AO.ins "Plan" (planF K xs)] ++ t) = h7 ++ t := by rw [eh7]; rfl
  rw [eF]
  unfold tB
  simp only [v_sSeq, c3, SR.andThen_next, c4, c5, c6, c7, c8', v_sNil]
end
theorem law_true : ∀ ns : List Int, ns.length ≤ 63 → ∃ h, m_law [.rol (ns.map D.int)] [] = .ok (.bl true) h := by
  intro ns hns
  obtain ⟨cs, hc, s, ep⟩ := hand_ok ns hns
  have hP : IsP cs (.lst [.lst (cs.map .int), .int 0, .int 0, .int s, .int 0]) := ⟨0, 0, s, 0, rfl, by omega, by omega, by omega⟩
  have er : rangeD 0 2 = (List.range 2).map fun i : Nat => D.int (i : Int) := rangeD_eq 2
  have c1 : okR (2 : Int) := ⟨by decide, by decide⟩
  obtain ⟨G', h', e5, P', tl, ⟨x2, x3, x4, x5, x6, x7, x8, x9, x10, x11, x12, x13, x14, x15, x16, rfl⟩, rfl, hP'⟩ := for_inv (p := .nm 2) (body := tB) (all0 := (List.range 2).map fun i : Nat => D.int (i : Int))
    (fun G h => ∃ P tl, (∃ x2 x3 x4 x5 x6 x7 x8 x9 x10 x11 x12 x13 x14 x15 x16, G = [some (.rol (ns.map .int)), some (.loc 0), x2, x3, x4, x5, x6, x7, x8, x9, x10, x11, x12, x13, x14, x15, x16, none]) ∧ h = P :: tl ∧ IsP cs P)
    (fun i : Nat => D.int (i : Int)) (List.range 2)
    (by
      rintro i hi G h ⟨P, tl, ⟨x2, x3, x4, x5, x6, x7, x8, x9, x10, x11, x12, x13, x14, x15, x16, rfl⟩, rfl, hP⟩
      obtain ⟨y3, y4, y5, y6, y7, y8, y9, y10, y11, y12, y13, y14, y15, y16, P', tl', e, hP'⟩ := turn_ok (tl := tl) (g0 := some (.rol (ns.map .int))) (g2 := some (.int i)) (g3 := x3) (g4 := x4) (g5 := x5) (g6 := x6) (g7 := x7) (g8 := x8) (g9 := x9) (g10 := x10) (g11 := x11) (g12 := x12) (g13 := x13) (g14 := x14) (g15 := x15) (g16 := x16) (g17 := none) hc hP
      exact ⟨_, _, _, rfl, e, P', tl', ⟨some (.int i), y3, y4, y5, y6, y7, y8, y9, y10, y11, y12, y13, y14, y15, y16, rfl⟩, rfl, hP'⟩)
    [some (.rol (ns.map .int)), some (.loc 0), none, none, none, none, none, none, none, none, none, none, none, none, none, none, none, none] [.lst [.lst (cs.map .int), .int 0, .int 0, .int s, .int 0]] ⟨_, [], ⟨none, none, none, none, none, none, none, none, none, none, none, none, none, none, none, rfl⟩, rfl, hP⟩
  have ei : iRange1 (aCons (mC (.int 2)) aNil) [some (.rol (ns.map .int)), some (.loc 0), none, none, none, none, none, none, none, none, none, none, none, none, none, none, none, none] [.lst [.lst (cs.map .int), .int 0, .int 0, .int s, .int 0]] = .ok ((List.range 2).map fun i : Nat => D.int (i : Int), none) [.lst [.lst (cs.map .int), .int 0, .int 0, .int s, .int 0]] := by
    rw [v_range1]
    simp only [v_aCons, v_aNil, v_mC, Res.bind_ok, c1, if_true]
    show Res.ok (rangeD 0 2, none) _ = _
    rw [er]
  have e1 : (mNew (lN m__law_hand (aCons (mV 0) aNil))) [some (.rol (ns.map .int)), none, none, none, none, none, none, none, none, none, none, none, none, none, none, none, none, none] [] = .ok (.loc 0) [.lst [.lst (cs.map .int), .int 0, .int 0, .int s, .int 0]] := by
    simp only [v_mNew, v_lN, v_aCons, v_aNil, v_mV, List.getElem?_cons_zero, Res.bind_ok, ep]
    rfl
  have eb : b_law = sSeq (sSet 1 (mNew (lN m__law_hand (aCons (mV 0) aNil)))) (sSeq (sFor (.nm 2) (iRange1 (aCons (mC (.int 2)) aNil)) tB) (sSeq (sRet (mC (.bl true))) sNil)) := rfl
  have ebody : b_law [some (.rol (ns.map .int)), none, none, none, none, none, none, none, none, none, none, none, none, none, none, none, none, none] [] = .ret (.bl true) (P' :: tl) := by
    rw [eb]
    simp only [v_sSeq, v_sSet, e1, Res.toS_ok, SR.andThen_next, List.set_cons_succ, List.set_cons_zero, v_sFor, ei, e5, v_sRet, v_mC, SR.andThen_ret]
  have fin : finD 0 [] (D.bl true) (P' :: tl) = .ok (.bl true) [] := finD_app [] (P' :: tl) _ rfl
  refine ⟨[], ?_⟩
  have em : m_law [.rol (ns.map D.int)] [] = (match b_law [some (.rol (ns.map .int)), none, none, none, none, none, none, none, none, none, none, none, none, none, none, none, none, none] [] with
    | .next _ h1 => finD 0 [] .non h1
    | .ret d h1 => finD 0 [] d h1
    | .exc c fs _ h1 => finX 0 [] c fs h1
    | _ => .stuck) := by
    unfold m_law mDef
    rw [if_pos (show [D.rol (List.map D.int ns)].length = 1 from rfl)]
    rfl
  rw [em, ebody]
  exact fin
end My
namespace My
open PySem PySem.Spec PyProof.Rows L2 AB
def topS (i : Nat) : Stmt := PySem.Challenge.pw_tornsectors_k14_whole_what_crashes_leave.main.body.getD i (.Pass ⟨0, 0, 0, 0⟩)
structure Txt (K : PySem.W.Frag) (mg : Str → Option Value) : Prop where
  b_abs : mg "abs" = none
  b_all : mg "all" = none
  b_bool : mg "bool" = none
  b_enumerate : mg "enumerate" = none
  b_int : mg "int" = none
  b_isinstance : mg "isinstance" = none
  b_len : mg "len" = none
  b_list : mg "list" = none
  b_range : mg "range" = none
  b_set : mg "set" = none
  b_sorted : mg "sorted" = none
  b_str : mg "str" = none
  b_tuple : mg "tuple" = none
  g_MOST_ITEM : ∃ t : Tok, mg "MOST_ITEM" = some (.int 1000000000000 t)
  g_MOST_ITEMS : ∃ t : Tok, mg "MOST_ITEMS" = some (.int 32 t)
  g_MOST_SECTORS : ∃ t : Tok, mg "MOST_SECTORS" = some (.int 64 t)
  g_MOST_STEPS : ∃ t : Tok, mg "MOST_STEPS" = some (.int 200 t)
  f_Disk_kept : FldOk K "Disk" "kept"
  f_Disk_watcher : FldOk K "Disk" "watcher"
  f_Disk_writes : FldOk K "Disk" "writes"
  f_Plan_kept_state : FldOk K "Plan" "kept_state"
  f_Plan_kept_steps : FldOk K "Plan" "kept_steps"
section
variable {P : Program} {w : World} {K : PySem.W.Frag} {mg : Str → Option Value} {base : Heap}
theorem sc__law_hand : FnScope ["script", "cells", "cell"] ["script"] (defScope (topS 42)) := ⟨rfl, rfl, rfl, by decide +kernel, rfl, by decide +kernel, by decide +kernel⟩
theorem ok__law_hand {f : Addr} {fd : FuncData} (F : Fun K "_law_hand" "_law_hand" (topS 42) f fd) (T : Txt K mg)  : FnOk P w K mg base (L2.CX P w) 1 f fd ["script"] (spL K mg m__law_hand) :=
  fn_okL F sc__law_hand b__law_hand fun cdv A outer s H E hr =>
    (s_seq (s_setLc (own := [("cell", 2)]) 1 (.nm 2) (fun _ _ _ => L_read)  sc__law_hand.nd (i_seq (e_sl (e_var 0) o_none (o_some e_int))) (blkOk_by (by rfl)) (fun _ _ _ _ _ => (pg_nmP (i := 2) sc__law_hand.nd rfl)) (fun _ _ _ _ _ => p_yes) (fun _ _ _ _ _ => (e_abs T.b_abs (a_cons (e_int1 T.b_int (a_cons (e_var 2) a_nil)) a_nil))) (by decide)) (s_seq (s_ret (e_new (f_lst (a_cons (e_var 1) (a_cons e_int (a_cons e_int (a_cons (e_bin op_add3 fol_add e_int (e_len T.b_len (a_cons (e_var 1) a_nil))) (a_cons e_int a_nil)))))))) s_nil))
theorem sc__law_draw : FnScope ["hand", "many", "cell", "digit", "number"] ["hand", "many"] (defScope (topS 43)) := ⟨rfl, rfl, rfl, by decide +kernel, rfl, by decide +kernel, by decide +kernel⟩
theorem ok__law_draw {f : Addr} {fd : FuncData} (F : Fun K "_law_draw" "_law_draw" (topS 43) f fd) (T : Txt K mg)  : FnOk P w K mg base (L2.CX P w) 1 f fd ["hand", "many"] (spM K mg m__law_draw) :=
  fn_ok F sc__law_draw b__law_draw fun cdv A outer s H E hr =>
    (s_seq (s_if (w_and (t_cmp (op_eqD (hu64 hr)) fol_eq (e_ix (e_var 0) e_int) e_int) (w_one .And (t_cmp (op_cLt (hu65 hr)) fol_cLt (e_ix (e_var 0) e_int) (e_len T.b_len (a_cons (e_ix (e_var 0) e_int) a_nil))))).pt (s_seq (s_set 2 (e_ix (e_ix (e_var 0) e_int) (e_ix (e_var 0) e_int)) sc__law_draw.nd) (s_seq (s_sub (e_bin op_add3 fol_add (e_ix (e_var 0) e_int) e_int) (e_var 0) e_int) (s_seq (s_sub (e_bin op_mod fol_mod (e_int1 T.b_int (a_cons (e_bin op_add3 fol_add (e_bin op_add3 fol_add (e_bin op_mul fol_mul (e_ix (e_var 0) e_int) e_int) (e_var 2)) e_int) a_nil)) e_int) (e_var 0) e_int) (s_seq (s_if (t_cmp (op_cGe (hu65 hr)) fol_cGe (e_var 2) (e_bin op_pow fol_pow e_int e_int)) (s_seq (s_sub (e_var 2) (e_var 0) e_int) s_nil) s_nil) s_nil)))) s_nil) (s_seq (s_if (t_cmp (op_cGt (hu65 hr)) fol_cGt (e_ix (e_var 0) e_int) e_int) (s_seq (s_set 3 (e_bin op_mod fol_mod (e_int1 T.b_int (a_cons (e_ix (e_var 0) e_int) a_nil)) (e_var 1)) sc__law_draw.nd) (s_seq (s_sub (e_bin op_fdivW fol_div (e_ix (e_var 0) e_int) (e_var 1)) (e_var 0) e_int) (s_seq (s_ret (e_var 3)) s_nil))) s_nil) (s_seq (s_sub (e_bin op_add3 fol_add (e_ix (e_var 0) e_int) e_int) (e_var 0) e_int) (s_seq (s_set 4 (e_bin op_mod fol_mod (e_int1 T.b_int (a_cons (e_bin op_mul fol_mul (e_int1 T.b_int (a_cons (e_bin op_add3 fol_add (e_ix (e_var 0) e_int) (e_bin op_mul fol_mul e_int (e_ix (e_var 0) e_int))) a_nil)) e_int) a_nil)) e_int) sc__law_draw.nd) (s_seq (s_set 4 (e_bin op_mod fol_mod (e_int1 T.b_int (a_cons (e_bin op_mul fol_mul (e_var 4) (e_bin op_add3 fol_add (e_bin op_fdivW fol_div (e_var 4) e_int) e_int)) a_nil)) e_int) sc__law_draw.nd) (s_seq (s_set 4 (e_bin op_mod fol_mod (e_int1 T.b_int (a_cons (e_bin op_mul fol_mul (e_var 4) (e_bin op_add3 fol_add (e_bin op_fdivW fol_div (e_var 4) e_int) e_int)) a_nil)) e_int) sc__law_draw.nd) (s_seq (s_ret (e_bin op_mod fol_mod (e_int1 T.b_int (a_cons (e_bin op_fdivW fol_div (e_var 4) e_int) a_nil)) (e_var 1))) s_nil)))))))
theorem sc_Plan_keep : FnScope ["self", "state", "steps"] ["self", "state", "steps"] (defScope (inClass (topS 33) 1)) := ⟨rfl, rfl, rfl, by decide +kernel, rfl, by decide +kernel, by decide +kernel⟩
theorem ok_Plan_keep {f : Addr} {fd : FuncData} (F : Fun K "keep" "Plan.keep" (inClass (topS 33) 1) f fd) (T : Txt K mg)  : FnOk P w K mg base (L2.CX P w) 1 f fd ["self", "state", "steps"] (spM K mg m_Plan_keep) :=
  fn_okK F sc_Plan_keep b_Plan_keep fun cdv A outer s H E hr =>
    (s_seq (s_fld ["Plan"] (e_var 0) (e_var 1) (AllC.c T.f_Plan_kept_state AllC.n)) (s_seq (s_fld ["Plan"] (e_var 0) (e_var 2) (AllC.c T.f_Plan_kept_steps AllC.n)) s_nil))
theorem sc_is_integer : FnScope ["thing"] ["thing"] (defScope (topS 13)) := ⟨rfl, rfl, rfl, by decide +kernel, rfl, by decide +kernel, by decide +kernel⟩
theorem ok_is_integer {f : Addr} {fd : FuncData} (F : Fun K "is_integer" "is_integer" (topS 13) f fd) (T : Txt K mg)  : FnOk P w K mg base (L2.CX P w) 1 f fd ["thing"] (spM K mg m_is_integer) :=
  fn_ok F sc_is_integer b_is_integer fun cdv A outer s H E hr =>
    (s_seq (s_ret (e_and (e_isi .int T.b_isinstance T.b_int (e_var 0)) (e_one (e_not (e_isi .bl T.b_isinstance T.b_bool (e_var 0)))))) s_nil)
theorem sc_is_deed_step : FnScope ["thing"] ["thing"] (defScope (topS 32)) := ⟨rfl, rfl, rfl, by decide +kernel, rfl, by decide +kernel, by decide +kernel⟩
theorem ok_is_deed_step {f : Addr} {fd : FuncData} (F : Fun K "is_deed_step" "is_deed_step" (topS 32) f fd) (T : Txt K mg)  : FnOk P w K mg base (L2.CX P w) 1 f fd ["thing"] (spM K mg m_is_deed_step) :=
  fn_ok F sc_is_deed_step b_is_deed_step fun cdv A outer s H E hr =>
    (s_seq (s_ret (e_and (e_isi .tup T.b_isinstance T.b_tuple (e_var 0)) (e_and (e_cmp (op_eqD (hu64 hr)) fol_eq (e_len T.b_len (a_cons (e_var 0) a_nil)) e_int) (e_and (e_isi .str T.b_isinstance T.b_str (e_ix (e_var 0) e_int)) (e_one (e_cmp (op_inA (hu65 hr)) fol_in (e_ix (e_var 0) e_int) (e_tup (a_cons e_str (a_cons e_str a_nil))))))))) s_nil)
theorem sc__law_behind : FnScope ["state", "steps", "settled", "waiting", "step", "sector", "value"] ["state", "steps"] (defScope (topS 49)) := ⟨rfl, rfl, rfl, by decide +kernel, rfl, by decide +kernel, by decide +kernel⟩
theorem ok__law_behind {f : Addr} {fd : FuncData} (F : Fun K "_law_behind" "_law_behind" (topS 49) f fd) (T : Txt K mg)  : FnOk P w K mg base (L2.CX P w) 1 f fd ["state", "steps"] (spM K mg m__law_behind) :=
  fn_okK F sc__law_behind b__law_behind fun cdv A outer s H E hr =>
    (s_seq (s_set 2 (e_new (f_list T.b_list (a_cons (e_var 0) a_nil))) sc__law_behind.nd) (s_seq (s_set 3 (e_new (f_lst a_nil)) sc__law_behind.nd) (s_seq (s_for (p := (.nm 4)) (passes_of rfl) (i_seq (e_var 1)) (pg_nmP (i := 4) sc__law_behind.nd rfl) (s_seq (s_if (t_cmp (op_eqD (hu64 hr)) fol_eq (e_ix (e_var 4) e_int) e_str) (s_seq (s_expr (e_app (e_var 3) (a_cons (e_tup (a_cons (e_ix (e_var 4) e_int) (a_cons (e_ix (e_var 4) e_int) a_nil))) a_nil))) s_nil) s_nil) (s_seq (s_if (t_cmp (op_eqD (hu64 hr)) fol_eq (e_ix (e_var 4) e_int) e_str) (s_seq (s_for (p := (.tp [(.nm 5), (.nm 6)])) (passes_of rfl) (i_seq (e_var 3)) (pg_tpP rfl (pgs_consP (pg_nmP (i := 5) sc__law_behind.nd rfl) (pgs_consP (pg_nmP (i := 6) sc__law_behind.nd rfl) pgs_nilP))) (s_seq (s_sub (e_var 6) (e_var 2) (e_var 5)) s_nil)) (s_seq (s_set 3 (e_new (f_lst a_nil)) sc__law_behind.nd) s_nil)) s_nil) s_nil))) (s_seq (s_ret (e_tup (a_cons (e_tuple T.b_tuple (a_cons (e_var 2) a_nil)) (a_cons (e_var 3) a_nil)))) s_nil))))
theorem sc_Disk_tell : FnScope ["self"] ["self"] (defScope (inClass (topS 27) 3)) := ⟨rfl, rfl, rfl, by decide +kernel, rfl, by decide +kernel, by decide +kernel⟩
theorem ok_Disk_tell {f : Addr} {fd : FuncData} (F : Fun K "tell" "Disk.tell" (inClass (topS 27) 3) f fd) (T : Txt K mg)  : FnOk P w K mg base (L2.CX P w) 1 f fd ["self"] (spM K mg m_Disk_tell) :=
  fn_okK F sc_Disk_tell b_Disk_tell fun cdv A outer s H E hr =>
    (s_seq (s_if (t_cmp op_notN fol_notN (e_fld ["Disk"] (e_var 0) (AllC.c T.f_Disk_watcher AllC.n)) e_non) ss_never s_nil) s_nil)
theorem sc_Disk_waiting : FnScope ["self"] ["self"] (defScope (inClass (topS 27) 6)) := ⟨rfl, rfl, rfl, by decide +kernel, rfl, by decide +kernel, by decide +kernel⟩
theorem ok_Disk_waiting {f : Addr} {fd : FuncData} (F : Fun K "waiting" "Disk.waiting" (inClass (topS 27) 6) f fd) (T : Txt K mg)  : FnOk P w K mg base (L2.CX P w) 1 f fd ["self"] (spM K mg m_Disk_waiting) :=
  fn_ok F sc_Disk_waiting b_Disk_waiting fun cdv A outer s H E hr =>
    (s_seq (s_ret (e_tuple T.b_tuple (a_cons (e_L (f_sortK T.b_sorted (a_cons (e_fld ["Disk"] (e_var 0) (AllC.c T.f_Disk_writes AllC.n)) a_nil))) a_nil))) s_nil)
theorem sc__law_lots : FnScope ["settled", "waiting", "tears", "found", "sector", "things", "place", "value", "values", "thing"] ["settled", "waiting", "tears"] (defScope (topS 48)) := ⟨rfl, rfl, rfl, by decide +kernel, rfl, by decide +kernel, by decide +kernel⟩
theorem ok__law_lots {f : Addr} {fd : FuncData} (F : Fun K "_law_lots" "_law_lots" (topS 48) f fd) (T : Txt K mg)  : FnOk P w K mg base (L2.CX P w) 1 f fd ["settled", "waiting", "tears"] (spM K mg m__law_lots) :=
  fn_ok F sc__law_lots b__law_lots fun cdv A outer s H E hr =>
    (s_seq (s_set 3 (e_new (f_lst a_nil)) sc__law_lots.nd) (s_seq (s_for (p := (.nm 4)) (passes_of rfl) (i_range1 T.b_range (a_cons (e_len T.b_len (a_cons (e_var 0) a_nil)) a_nil)) (pg_nmP (i := 4) sc__law_lots.nd rfl) (s_seq (s_set 5 (e_new (f_lst (a_cons (e_ix (e_var 0) (e_var 4)) a_nil))) sc__law_lots.nd) (s_seq (s_for (p := (.tp [(.nm 6), (.nm 7)])) (passes_of rfl) (i_seq (e_var 1)) (pg_tpP rfl (pgs_consP (pg_nmP (i := 6) sc__law_lots.nd rfl) (pgs_consP (pg_nmP (i := 7) sc__law_lots.nd rfl) pgs_nilP))) (s_seq (s_if (t_cmp (op_eqD (hu64 hr)) fol_eq (e_var 6) (e_var 4)) (s_seq (s_if (t_cmp (op_notInA (hu65 hr)) fol_notIn (e_var 7) (e_var 5)) (s_seq (s_expr (e_app (e_var 5) (a_cons (e_var 7) a_nil))) s_nil) s_nil) (s_seq (s_if (w_and (t_tru (e_var 2)) (w_one .And (t_cmp (op_notInA (hu65 hr)) fol_notIn e_non (e_var 5)))).pt (s_seq (s_expr (e_app (e_var 5) (a_cons e_non a_nil))) s_nil) s_nil) s_nil)) s_nil) s_nil)) (s_seq (s_set 8 (e_L (f_sorted (hu67 hr) T.b_sorted (a_cons (e_L (f_lc (own := [("thing", 9)]) (.nm 9) sc__law_lots.nd (i_seq (e_var 5)) (blkOk_by (by rfl)) (fun _ _ _ _ _ => (pg_nmP (i := 9) sc__law_lots.nd rfl)) (fun _ _ _ _ _ => (pts_one (t_cmp op_notN fol_notN (e_var 9) e_non))) (fun _ _ _ _ _ => (e_var 9)) (by decide))) a_nil))) sc__law_lots.nd) (s_seq (s_expr (e_app (e_var 3) (a_cons (e_tuple T.b_tuple (a_cons (e_bin op_add3 fol_add (e_bin op_rep fol_mulLs (e_new (f_lst (a_cons e_non a_nil))) (e_int1 T.b_int (a_cons (e_cmp (op_inA (hu65 hr)) fol_in e_non (e_var 5)) a_nil))) (e_var 8)) a_nil)) a_nil))) s_nil))))) (s_seq (s_ret (e_tuple T.b_tuple (a_cons (e_var 3) a_nil))) s_nil)))
theorem sc_bounds_of : FnScope ["steps", "words", "step"] ["steps"] (defScope (topS 39)) := ⟨rfl, rfl, rfl, by decide +kernel, rfl, by decide +kernel, by decide +kernel⟩
theorem ok_bounds_of {f : Addr} {fd : FuncData} (F : Fun K "bounds_of" "bounds_of" (topS 39) f fd) (T : Txt K mg)  : FnOk P w K mg base (L2.CX P w) 1 f fd ["steps"] (spM K mg m_bounds_of) :=
  fn_ok F sc_bounds_of b_bounds_of fun cdv A outer s H E hr =>
    (s_seq (s_setLc (own := [("step", 2)]) 1 (.nm 2) (fun _ _ _ => L_read)  sc_bounds_of.nd (i_seq (e_var 0)) (blkOk_by (by rfl)) (fun _ _ _ _ _ => (pg_nmP (i := 2) sc_bounds_of.nd rfl)) (fun _ _ _ _ _ => p_yes) (fun _ _ _ _ _ => (e_ix (e_var 2) e_int)) (by decide)) (s_seq (s_ret (e_tup (a_cons (e_cntS (e_var 1) (a_cons e_str a_nil)) (a_cons (e_cntS (e_var 1) (a_cons e_str a_nil)) a_nil)))) s_nil))
theorem sc__law_bounds : FnScope ["steps", "words", "step"] ["steps"] (defScope (topS 50)) := ⟨rfl, rfl, rfl, by decide +kernel, rfl, by decide +kernel, by decide +kernel⟩
theorem ok__law_bounds {f : Addr} {fd : FuncData} (F : Fun K "_law_bounds" "_law_bounds" (topS 50) f fd) (T : Txt K mg)  : FnOk P w K mg base (L2.CX P w) 1 f fd ["steps"] (spM K mg m__law_bounds) :=
  fn_ok F sc__law_bounds b__law_bounds fun cdv A outer s H E hr =>
    (s_seq (s_setLc (own := [("step", 2)]) 1 (.nm 2) (fun _ _ _ => L_read)  sc__law_bounds.nd (i_seq (e_var 0)) (blkOk_by (by rfl)) (fun _ _ _ _ _ => (pg_nmP (i := 2) sc__law_bounds.nd rfl)) (fun _ _ _ _ _ => p_yes) (fun _ _ _ _ _ => (e_ix (e_var 2) e_int)) (by decide)) (s_seq (s_ret (e_tup (a_cons (e_cntS (e_var 1) (a_cons e_str a_nil)) (a_cons (e_cntS (e_var 1) (a_cons e_str a_nil)) a_nil)))) s_nil))
theorem sc_Disk_settled : FnScope ["self"] ["self"] (defScope (inClass (topS 27) 5)) := ⟨rfl, rfl, rfl, by decide +kernel, rfl, by decide +kernel, by decide +kernel⟩
theorem ok_Disk_settled {f : Addr} {fd : FuncData} (F : Fun K "settled" "Disk.settled" (inClass (topS 27) 5) f fd) (T : Txt K mg)  : FnOk P w K mg base (L2.CX P w) 1 f fd ["self"] (spM K mg m_Disk_settled) :=
  fn_ok F sc_Disk_settled b_Disk_settled fun cdv A outer s H E hr =>
    (s_seq (s_ret (e_tuple T.b_tuple (a_cons (e_fld ["Disk"] (e_var 0) (AllC.c T.f_Disk_kept AllC.n)) a_nil))) s_nil)
theorem sc_Disk_now : FnScope ["self", "found", "sector", "values"] ["self"] (defScope (inClass (topS 27) 4)) := ⟨rfl, rfl, rfl, by decide +kernel, rfl, by decide +kernel, by decide +kernel⟩
theorem ok_Disk_now {f : Addr} {fd : FuncData} (F : Fun K "now" "Disk.now" (inClass (topS 27) 4) f fd) (T : Txt K mg)  : FnOk P w K mg base (L2.CX P w) 1 f fd ["self"] (spM K mg m_Disk_now) :=
  fn_ok F sc_Disk_now b_Disk_now fun cdv A outer s H E hr =>
    (s_seq (s_set 1 (e_new (f_list T.b_list (a_cons (e_fld ["Disk"] (e_var 0) (AllC.c T.f_Disk_kept AllC.n)) a_nil))) sc_Disk_now.nd) (s_seq (s_forItems (p := (.tp [(.nm 2), (.nm 3)])) (passes_of rfl) (e_fld ["Disk"] (e_var 0) (AllC.c T.f_Disk_writes AllC.n)) (pg_tpP rfl (pgs_consP (pg_nmP (i := 2) sc_Disk_now.nd rfl) (pgs_consP (pg_nmP (i := 3) sc_Disk_now.nd rfl) pgs_nilP))) (s_seq (s_sub (e_ix (e_var 3) (e_un un_neg fol_neg e_int)) (e_var 1) (e_var 2)) s_nil)) (s_seq (s_ret (e_tuple T.b_tuple (a_cons (e_var 1) a_nil))) s_nil)))
theorem sc_check_flag : FnScope ["thing"] ["thing"] (defScope (topS 16)) := ⟨rfl, rfl, rfl, by decide +kernel, rfl, by decide +kernel, by decide +kernel⟩
theorem ok_check_flag {f : Addr} {fd : FuncData} (F : Fun K "check_flag" "check_flag" (topS 16) f fd) (T : Txt K mg)  : FnOk P w K mg base (L2.CX P w) 1 f fd ["thing"] (spM K mg m_check_flag) :=
  fn_ok F sc_check_flag b_check_flag fun cdv A outer s H E hr =>
    (s_seq (s_if (t_not (t_tru (e_isi .bl T.b_isinstance T.b_bool (e_var 0)))) (s_seq s_never s_nil) s_nil) s_nil)
theorem sc_in_order : FnScope ["things", "values", "thing"] ["things"] (defScope (topS 19)) := ⟨rfl, rfl, rfl, by decide +kernel, rfl, by decide +kernel, by decide +kernel⟩
theorem ok_in_order {f : Addr} {fd : FuncData} (F : Fun K "in_order" "in_order" (topS 19) f fd) (T : Txt K mg)  : FnOk P w K mg base (L2.CX P w) 1 f fd ["things"] (spM K mg m_in_order) :=
  fn_ok F sc_in_order b_in_order fun cdv A outer s H E hr =>
    (s_seq (s_set 1 (e_L (f_sorted (hu67 hr) T.b_sorted (a_cons (e_L (f_lc (own := [("thing", 2)]) (.nm 2) sc_in_order.nd (i_seq (e_var 0)) (blkOk_by (by rfl)) (fun _ _ _ _ _ => (pg_nmP (i := 2) sc_in_order.nd rfl)) (fun _ _ _ _ _ => (pts_one (t_cmp op_notN fol_notN (e_var 2) e_non))) (fun _ _ _ _ _ => (e_var 2)) (by decide))) a_nil))) sc_in_order.nd) (s_seq (s_if (t_cmp (op_cLt (hu65 hr)) fol_cLt (e_len T.b_len (a_cons (e_var 1) a_nil)) (e_len T.b_len (a_cons (e_var 0) a_nil))) (s_seq (s_ret (e_bin op_add3 fol_add (e_tup (a_cons e_non a_nil)) (e_tuple T.b_tuple (a_cons (e_var 1) a_nil)))) s_nil) s_nil) (s_seq (s_ret (e_tuple T.b_tuple (a_cons (e_var 1) a_nil))) s_nil)))
theorem sc__law_value : FnScope ["hand", "k"] ["hand"] (defScope (topS 44)) := ⟨rfl, rfl, rfl, by decide +kernel, rfl, by decide +kernel, by decide +kernel⟩
theorem ok__law_value {f : Addr} {fd : FuncData} (F : Fun K "_law_value" "_law_value" (topS 44) f fd) (T : Txt K mg) (c__law_draw : Has P w K mg base "_law_draw" 1 ["hand", "many"] (spM K mg m__law_draw)) : FnOk P w K mg base (L2.CX P w) 2 f fd ["hand"] (spM K mg m__law_value) :=
  fn_ok F sc__law_value b__law_value fun cdv A outer s H E hr =>
    (s_seq (s_ret (e_tuple T.b_tuple (a_cons (e_L (f_lc (own := [("k", 1)]) (.nm 1) sc__law_value.nd (i_range1 T.b_range (a_cons (e_ix (e_L (f_lst (a_cons e_int (a_cons e_int (a_cons e_int (a_cons e_int a_nil)))))) (e_callH c__law_draw hr (takes_of rfl rfl rfl rfl) (a_cons (e_var 0) (a_cons e_int a_nil)))) a_nil)) (blkOk_by (by rfl)) (fun _ _ _ _ _ => (pg_nmP (i := 1) sc__law_value.nd rfl)) (fun _ _ _ _ _ => p_yes) (fun _ _ _ _ _ => (e_callH c__law_draw hr takes0 (a_cons (e_var 0) (a_cons e_int a_nil)))) (by decide))) a_nil))) s_nil)
theorem sc__law_any : FnScope ["hand", "things"] ["hand", "things"] (defScope (topS 46)) := ⟨rfl, rfl, rfl, by decide +kernel, rfl, by decide +kernel, by decide +kernel⟩
theorem ok__law_any {f : Addr} {fd : FuncData} (F : Fun K "_law_any" "_law_any" (topS 46) f fd) (T : Txt K mg) (c__law_draw : Has P w K mg base "_law_draw" 1 ["hand", "many"] (spM K mg m__law_draw)) : FnOk P w K mg base (L2.CX P w) 2 f fd ["hand", "things"] (spM K mg m__law_any) :=
  fn_ok F sc__law_any b__law_any fun cdv A outer s H E hr =>
    (s_seq (s_ret (e_ix (e_var 1) (e_callH c__law_draw hr (takes_of rfl rfl rfl rfl) (a_cons (e_var 0) (a_cons (e_len T.b_len (a_cons (e_var 1) a_nil)) a_nil))))) s_nil)
theorem sc_is_between : FnScope ["thing", "least", "most"] ["thing", "least", "most"] (defScope (topS 14)) := ⟨rfl, rfl, rfl, by decide +kernel, rfl, by decide +kernel, by decide +kernel⟩
theorem ok_is_between {f : Addr} {fd : FuncData} (F : Fun K "is_between" "is_between" (topS 14) f fd) (T : Txt K mg) (c_is_integer : Has P w K mg base "is_integer" 1 ["thing"] (spM K mg m_is_integer)) : FnOk P w K mg base (L2.CX P w) 2 f fd ["thing", "least", "most"] (spM K mg m_is_between) :=
  fn_ok F sc_is_between b_is_between fun cdv A outer s H E hr =>
    (s_seq (s_ret (e_and (e_callH c_is_integer hr (takes_of rfl rfl rfl rfl) (a_cons (e_var 0) a_nil)) (e_one (e_chain (op_cLe (hu65 hr)) (op_cLe (hu65 hr)) fol_cLe fol_cLe (e_var 1) (e_var 0) (e_var 2))))) s_nil)
theorem sc_Disk_barrier : FnScope ["self", "sector", "values"] ["self"] (defScope (inClass (topS 27) 2)) := ⟨rfl, rfl, rfl, by decide +kernel, rfl, by decide +kernel, by decide +kernel⟩
theorem ok_Disk_barrier {f : Addr} {fd : FuncData} (F : Fun K "barrier" "Disk.barrier" (inClass (topS 27) 2) f fd) (T : Txt K mg) (c_Disk_tell : MthOk P w K mg base "Disk" "tell" 1 ["self"] (spM K mg m_Disk_tell)) : FnOk P w K mg base (L2.CX P w) 2 f fd ["self"] (spM K mg m_Disk_barrier) :=
  fn_okK F sc_Disk_barrier b_Disk_barrier fun cdv A outer s H E hr =>
    (s_seq (s_forItems (p := (.tp [(.nm 1), (.nm 2)])) (passes_of rfl) (e_fld ["Disk"] (e_var 0) (AllC.c T.f_Disk_writes AllC.n)) (pg_tpP rfl (pgs_consP (pg_nmP (i := 1) sc_Disk_barrier.nd rfl) (pgs_consP (pg_nmP (i := 2) sc_Disk_barrier.nd rfl) pgs_nilP))) (s_seq (s_sub (e_ix (e_var 2) (e_un un_neg fol_neg e_int)) (e_fld ["Disk"] (e_var 0) (AllC.c T.f_Disk_kept AllC.n)) (e_var 1)) s_nil)) (s_seq (s_fld ["Disk"] (e_var 0) e_dnew (AllC.c T.f_Disk_writes AllC.n)) (s_seq (s_expr (e_meth0 (m := "tell") (tb_cons c_Disk_tell tb_nil) hr (takes_of rfl rfl rfl rfl) (e_var 0))) s_nil)))
theorem sc_lots_from : FnScope ["settled", "waiting", "tears", "found", "sector", "item", "things", "value"] ["settled", "waiting", "tears"] (defScope (topS 26)) := ⟨rfl, rfl, rfl, by decide +kernel, rfl, by decide +kernel, by decide +kernel⟩
theorem ok_lots_from {f : Addr} {fd : FuncData} (F : Fun K "lots_from" "lots_from" (topS 26) f fd) (T : Txt K mg) (c_in_order : Has P w K mg base "in_order" 1 ["things"] (spM K mg m_in_order)) : FnOk P w K mg base (L2.CX P w) 2 f fd ["settled", "waiting", "tears"] (spM K mg m_lots_from) :=
  fn_ok F sc_lots_from b_lots_from fun cdv A outer s H E hr =>
    (s_seq (s_set 3 (e_new (f_lst a_nil)) sc_lots_from.nd) (s_seq (s_forP (p := (.tp [(.nm 4), (.nm 5)])) (passes_of rfl) (i_enumL T.b_enumerate (a_cons (e_var 0) a_nil)) (pg_tpP rfl (pgs_consP (pg_nmP (i := 4) sc_lots_from.nd rfl) (pgs_consP (pg_nmP (i := 5) sc_lots_from.nd rfl) pgs_nilP))) (s_seq (s_set 6 (e_hdisp (hu1 hr) (e_var 5) e_bl) sc_lots_from.nd) (s_seq (s_for (p := (.nm 7)) (passes_of rfl) (i_seq (e_dget2 (hu1 hr) (e_var 1) (e_var 4) (e_new (f_lst a_nil)))) (pg_nmP (i := 7) sc_lots_from.nd rfl) (s_seq (s_hput (hu1 hr) (e_var 6) (e_var 7) e_bl) s_nil)) (s_seq (s_if (w_and (t_tru (e_var 2)) (w_one .And (t_cmp (op_dIn (hu1 hr)) fol_dIn (e_var 4) (e_var 1)))).pt (s_seq (s_hput (hu1 hr) (e_var 6) e_non e_bl) s_nil) s_nil) (s_seq (s_expr (e_app (e_var 3) (a_cons (e_callH c_in_order hr (takes_of rfl rfl rfl rfl) (a_cons (e_L (f_hlist T.b_list (a_cons (e_var 6) a_nil))) a_nil)) a_nil))) s_nil))))) (s_seq (s_ret (e_tuple T.b_tuple (a_cons (e_var 3) a_nil))) s_nil)))
theorem sc__law_pool : FnScope ["hand", "found", "k", "value"] ["hand"] (defScope (topS 45)) := ⟨rfl, rfl, rfl, by decide +kernel, rfl, by decide +kernel, by decide +kernel⟩
theorem ok__law_pool {f : Addr} {fd : FuncData} (F : Fun K "_law_pool" "_law_pool" (topS 45) f fd) (T : Txt K mg) (c__law_value : Has P w K mg base "_law_value" 2 ["hand"] (spM K mg m__law_value)) : FnOk P w K mg base (L2.CX P w) 3 f fd ["hand"] (spL K mg m__law_pool) :=
  fn_okL F sc__law_pool b__law_pool fun cdv A outer s H E hr =>
    (s_seq (s_set 1 (e_new (f_lst a_nil)) sc__law_pool.nd) (s_seq (s_for (p := (.nm 2)) (passes_of rfl) (i_range1 T.b_range (a_cons e_int a_nil)) (pg_nmP (i := 2) sc__law_pool.nd rfl) (s_seq (s_set 3 (e_callH c__law_value hr (takes_of rfl rfl rfl rfl) (a_cons (e_var 0) a_nil)) sc__law_pool.nd) (s_seq (s_if (t_cmp (op_notInA (hu65 hr)) fol_notIn (e_var 3) (e_var 1)) (s_seq (s_expr (e_app (e_var 1) (a_cons (e_var 3) a_nil))) s_nil) s_nil) s_nil))) (s_seq (s_ret (e_var 1)) s_nil)))
theorem sc__law_steps : FnScope ["hand", "pool", "sectors", "many", "found", "under", "k", "way"] ["hand", "pool", "sectors", "many"] (defScope (topS 47)) := ⟨rfl, rfl, rfl, by decide +kernel, rfl, by decide +kernel, by decide +kernel⟩
theorem ok__law_steps {f : Addr} {fd : FuncData} (F : Fun K "_law_steps" "_law_steps" (topS 47) f fd) (T : Txt K mg) (c__law_draw : Has P w K mg base "_law_draw" 1 ["hand", "many"] (spM K mg m__law_draw)) (c__law_any : Has P w K mg base "_law_any" 2 ["hand", "things"] (spM K mg m__law_any)) : FnOk P w K mg base (L2.CX P w) 3 f fd ["hand", "pool", "sectors", "many"] (spM K mg m__law_steps) :=
  fn_ok F sc__law_steps b__law_steps fun cdv A outer s H E hr =>
    (s_seq (s_set 4 (e_new (f_lst a_nil)) sc__law_steps.nd) (s_seq (s_set 5 e_int sc__law_steps.nd) (s_seq (s_for (p := (.nm 6)) (passes_of rfl) (i_range1 T.b_range (a_cons (e_var 3) a_nil)) (pg_nmP (i := 6) sc__law_steps.nd rfl) (s_seq (s_set 7 (e_callH c__law_draw hr (takes_of rfl rfl rfl rfl) (a_cons (e_var 0) (a_cons e_int a_nil))) sc__law_steps.nd) (s_seq (s_if (t_cmp (op_cLt (hu65 hr)) fol_cLt (e_var 7) e_int) (s_seq (s_expr (e_app (e_var 4) (a_cons (e_tup (a_cons e_str (a_cons (e_callH c__law_draw hr (takes_of rfl rfl rfl rfl) (a_cons (e_var 0) (a_cons (e_var 2) a_nil))) (a_cons (e_callH c__law_any hr (takes_of rfl rfl rfl rfl) (a_cons (e_var 0) (a_cons (e_var 1) a_nil))) a_nil)))) a_nil))) s_nil) (s_seq (s_if (t_cmp (op_cLt (hu65 hr)) fol_cLt (e_var 7) e_int) (s_seq (s_expr (e_app (e_var 4) (a_cons (e_tup (a_cons e_str a_nil)) a_nil))) s_nil) (s_seq (s_if (w_or (t_cmp (op_eqD (hu64 hr)) fol_eq (e_var 7) e_int) (w_one .Or (t_cmp (op_eqD (hu64 hr)) fol_eq (e_var 5) e_int))).pt (s_seq (s_expr (e_app (e_var 4) (a_cons (e_tup (a_cons e_str a_nil)) a_nil))) (s_seq (s_set 5 (e_bin op_add3 fol_add (e_var 5) e_int) sc__law_steps.nd) s_nil)) (s_seq (s_expr (e_app (e_var 4) (a_cons (e_tup (a_cons e_str a_nil)) a_nil))) (s_seq (s_set 5 (e_bin op_sub fol_sub (e_var 5) e_int) sc__law_steps.nd) s_nil))) s_nil)) s_nil)) s_nil))) (s_seq (s_ret (e_tuple T.b_tuple (a_cons (e_var 4) a_nil))) s_nil))))
theorem sc_is_value : FnScope ["thing", "item"] ["thing"] (defScope (topS 17)) := ⟨rfl, rfl, rfl, by decide +kernel, rfl, by decide +kernel, by decide +kernel⟩
theorem ok_is_value {f : Addr} {fd : FuncData} (F : Fun K "is_value" "is_value" (topS 17) f fd) (T : Txt K mg) (c_is_between : Has P w K mg base "is_between" 2 ["thing", "least", "most"] (spM K mg m_is_between)) : FnOk P w K mg base (L2.CX P w) 3 f fd ["thing"] (spM K mg m_is_value) :=
  fn_ok F sc_is_value b_is_value fun cdv A outer s H E hr =>
    (s_seq (s_if (w_or (t_not (t_tru (e_isi .tup T.b_isinstance T.b_tuple (e_var 0)))) (w_one .Or (t_cmp (op_cGt (hu65 hr)) fol_cGt (e_len T.b_len (a_cons (e_var 0) a_nil)) (e_globI T.g_MOST_ITEMS)))).pt (s_seq (s_ret e_bl) s_nil) s_nil) (s_seq (s_ret (e_all T.b_all (a_cons (e_L (f_lc (own := [("item", 1)]) (.nm 1) sc_is_value.nd (i_seq (e_var 0)) (blkOk_by (by rfl)) (fun _ _ _ _ _ => (pg_nmP (i := 1) sc_is_value.nd rfl)) (fun _ _ _ _ _ => p_yes) (fun _ _ _ _ _ => (e_callH c_is_between hr takes0 (a_cons (e_var 1) (a_cons e_int (a_cons (e_globI T.g_MOST_ITEM) a_nil))))) (by decide))) a_nil))) s_nil))
theorem sc_is_index : FnScope ["thing", "many"] ["thing", "many"] (defScope (topS 15)) := ⟨rfl, rfl, rfl, by decide +kernel, rfl, by decide +kernel, by decide +kernel⟩
theorem ok_is_index {f : Addr} {fd : FuncData} (F : Fun K "is_index" "is_index" (topS 15) f fd) (T : Txt K mg) (c_is_between : Has P w K mg base "is_between" 2 ["thing", "least", "most"] (spM K mg m_is_between)) : FnOk P w K mg base (L2.CX P w) 3 f fd ["thing", "many"] (spM K mg m_is_index) :=
  fn_ok F sc_is_index b_is_index fun cdv A outer s H E hr =>
    (s_seq (s_ret (e_callH c_is_between hr (takes_of rfl rfl rfl rfl) (a_cons (e_var 0) (a_cons e_int (a_cons (e_bin op_sub fol_sub (e_var 1) e_int) a_nil))))) s_nil)
theorem sc_Disk_lots : FnScope ["self", "tears"] ["self", "tears"] (defScope (inClass (topS 27) 7)) := ⟨rfl, rfl, rfl, by decide +kernel, rfl, by decide +kernel, by decide +kernel⟩
theorem ok_Disk_lots {f : Addr} {fd : FuncData} (F : Fun K "lots" "Disk.lots" (inClass (topS 27) 7) f fd) (T : Txt K mg) (c_check_flag : Has P w K mg base "check_flag" 1 ["thing"] (spM K mg m_check_flag)) (c_lots_from : Has P w K mg base "lots_from" 2 ["settled", "waiting", "tears"] (spM K mg m_lots_from)) : FnOk P w K mg base (L2.CX P w) 3 f fd ["self", "tears"] (spM K mg m_Disk_lots) :=
  fn_ok F sc_Disk_lots b_Disk_lots fun cdv A outer s H E hr =>
    (s_seq (s_expr (e_callH c_check_flag hr (takes_of rfl rfl rfl rfl) (a_cons (e_var 1) a_nil))) (s_seq (s_ret (e_callH c_lots_from hr (takes_of rfl rfl rfl rfl) (a_cons (e_fld ["Disk"] (e_var 0) (AllC.c T.f_Disk_kept AllC.n)) (a_cons (e_fld ["Disk"] (e_var 0) (AllC.c T.f_Disk_writes AllC.n)) (a_cons (e_var 1) a_nil))))) s_nil))
theorem sc_is_held : FnScope ["thing"] ["thing"] (defScope (topS 18)) := ⟨rfl, rfl, rfl, by decide +kernel, rfl, by decide +kernel, by decide +kernel⟩
theorem ok_is_held {f : Addr} {fd : FuncData} (F : Fun K "is_held" "is_held" (topS 18) f fd) (T : Txt K mg) (c_is_value : Has P w K mg base "is_value" 3 ["thing"] (spM K mg m_is_value)) : FnOk P w K mg base (L2.CX P w) 4 f fd ["thing"] (spM K mg m_is_held) :=
  fn_ok F sc_is_held b_is_held fun cdv A outer s H E hr =>
    (s_seq (s_ret (e_or (e_cmp op_isN fol_isN (e_var 0) e_non) (e_one (e_callH c_is_value hr (takes_of rfl rfl rfl rfl) (a_cons (e_var 0) a_nil))))) s_nil)
theorem sc_is_disk_step : FnScope ["thing", "sectors"] ["thing", "sectors"] (defScope (topS 29)) := ⟨rfl, rfl, rfl, by decide +kernel, rfl, by decide +kernel, by decide +kernel⟩
theorem ok_is_disk_step {f : Addr} {fd : FuncData} (F : Fun K "is_disk_step" "is_disk_step" (topS 29) f fd) (T : Txt K mg) (c_is_index : Has P w K mg base "is_index" 3 ["thing", "many"] (spM K mg m_is_index)) (c_is_value : Has P w K mg base "is_value" 3 ["thing"] (spM K mg m_is_value)) : FnOk P w K mg base (L2.CX P w) 4 f fd ["thing", "sectors"] (spM K mg m_is_disk_step) :=
  fn_ok F sc_is_disk_step b_is_disk_step fun cdv A outer s H E hr =>
    (s_seq (s_if (w_or (t_not (t_tru (e_isi .tup T.b_isinstance T.b_tuple (e_var 0)))) (w_or (t_cmp (op_eqD (hu64 hr)) fol_eq (e_len T.b_len (a_cons (e_var 0) a_nil)) e_int) (w_one .Or (t_not (t_tru (e_isi .str T.b_isinstance T.b_str (e_ix (e_var 0) e_int))))))).pt (s_seq (s_ret e_bl) s_nil) s_nil) (s_seq (s_if (t_cmp (op_eqD (hu64 hr)) fol_eq (e_ix (e_var 0) e_int) e_str) (s_seq (s_ret (e_cmp (op_eqD (hu64 hr)) fol_eq (e_len T.b_len (a_cons (e_var 0) a_nil)) e_int)) s_nil) s_nil) (s_seq (s_ret (e_and (e_cmp (op_eqD (hu64 hr)) fol_eq (e_ix (e_var 0) e_int) e_str) (e_and (e_cmp (op_eqD (hu64 hr)) fol_eq (e_len T.b_len (a_cons (e_var 0) a_nil)) e_int) (e_and (e_callH c_is_index hr (takes_of rfl rfl rfl rfl) (a_cons (e_ix (e_var 0) e_int) (a_cons (e_var 1) a_nil))) (e_one (e_callH c_is_value hr (takes_of rfl rfl rfl rfl) (a_cons (e_ix (e_var 0) e_int) a_nil))))))) s_nil)))
theorem sc_check_moment : FnScope ["plan", "thing"] ["plan", "thing"] (defScope (topS 35)) := ⟨rfl, rfl, rfl, by decide +kernel, rfl, by decide +kernel, by decide +kernel⟩
theorem ok_check_moment {f : Addr} {fd : FuncData} (F : Fun K "check_moment" "check_moment" (topS 35) f fd) (T : Txt K mg) (c_is_index : Has P w K mg base "is_index" 3 ["thing", "many"] (spM K mg m_is_index)) : FnOk P w K mg base (L2.CX P w) 4 f fd ["plan", "thing"] (spM K mg m_check_moment) :=
  fn_ok F sc_check_moment b_check_moment fun cdv A outer s H E hr =>
    (s_seq (s_if (t_not (t_tru (e_callH c_is_index hr (takes_of rfl rfl rfl rfl) (a_cons (e_var 1) (a_cons (e_bin op_add3 fol_add (e_len T.b_len (a_cons (e_fld ["Plan"] (e_var 0) (AllC.c T.f_Plan_kept_steps AllC.n)) a_nil)) e_int) a_nil))))) (s_seq s_never s_nil) s_nil) s_nil)
theorem sc_Disk_write : FnScope ["self", "sector", "value"] ["self", "sector", "value"] (defScope (inClass (topS 27) 1)) := ⟨rfl, rfl, rfl, by decide +kernel, rfl, by decide +kernel, by decide +kernel⟩
theorem ok_Disk_write {f : Addr} {fd : FuncData} (F : Fun K "write" "Disk.write" (inClass (topS 27) 1) f fd) (T : Txt K mg) (c_Disk_tell : MthOk P w K mg base "Disk" "tell" 1 ["self"] (spM K mg m_Disk_tell)) (c_is_index : Has P w K mg base "is_index" 3 ["thing", "many"] (spM K mg m_is_index)) (c_is_value : Has P w K mg base "is_value" 3 ["thing"] (spM K mg m_is_value)) : FnOk P w K mg base (L2.CX P w) 4 f fd ["self", "sector", "value"] (spM K mg m_Disk_write) :=
  fn_okK F sc_Disk_write b_Disk_write fun cdv A outer s H E hr =>
    (s_seq (s_if (t_not (t_tru (e_callH c_is_index hr (takes_of rfl rfl rfl rfl) (a_cons (e_var 1) (a_cons (e_len T.b_len (a_cons (e_fld ["Disk"] (e_var 0) (AllC.c T.f_Disk_kept AllC.n)) a_nil)) a_nil))))) (s_seq s_never s_nil) s_nil) (s_seq (s_if (t_not (t_tru (e_callH c_is_value hr (takes_of rfl rfl rfl rfl) (a_cons (e_var 2) a_nil)))) (s_seq s_never s_nil) s_nil) (s_seq (s_expr (e_app (e_dsetd (e_fld ["Disk"] (e_var 0) (AllC.c T.f_Disk_writes AllC.n)) (e_var 1) (e_new (f_lst a_nil))) (a_cons (e_var 2) a_nil))) (s_seq (s_expr (e_meth0 (m := "tell") (tb_cons c_Disk_tell tb_nil) hr (takes_of rfl rfl rfl rfl) (e_var 0))) s_nil))))
theorem sc_is_state : FnScope ["thing", "item"] ["thing"] (defScope (topS 20)) := ⟨rfl, rfl, rfl, by decide +kernel, rfl, by decide +kernel, by decide +kernel⟩
theorem ok_is_state {f : Addr} {fd : FuncData} (F : Fun K "is_state" "is_state" (topS 20) f fd) (T : Txt K mg) (c_is_held : Has P w K mg base "is_held" 4 ["thing"] (spM K mg m_is_held)) : FnOk P w K mg base (L2.CX P w) 5 f fd ["thing"] (spM K mg m_is_state) :=
  fn_ok F sc_is_state b_is_state fun cdv A outer s H E hr =>
    (s_seq (s_ret (e_and (e_isi .tup T.b_isinstance T.b_tuple (e_var 0)) (e_and (e_chain (op_cLe (hu65 hr)) (op_cLe (hu65 hr)) fol_cLe fol_cLe e_int (e_len T.b_len (a_cons (e_var 0) a_nil)) (e_globI T.g_MOST_SECTORS)) (e_one (e_all T.b_all (a_cons (e_L (f_lc (own := [("item", 1)]) (.nm 1) sc_is_state.nd (i_seq (e_var 0)) (blkOk_by (by rfl)) (fun _ _ _ _ _ => (pg_nmP (i := 1) sc_is_state.nd rfl)) (fun _ _ _ _ _ => p_yes) (fun _ _ _ _ _ => (e_callH c_is_held hr takes0 (a_cons (e_var 1) a_nil))) (by decide))) a_nil)))))) s_nil)
theorem sc_do_step : FnScope ["disk", "step"] ["disk", "step"] (defScope (topS 34)) := ⟨rfl, rfl, rfl, by decide +kernel, rfl, by decide +kernel, by decide +kernel⟩
theorem ok_do_step {f : Addr} {fd : FuncData} (F : Fun K "do_step" "do_step" (topS 34) f fd) (T : Txt K mg) (c_Disk_write : MthOk P w K mg base "Disk" "write" 4 ["self", "sector", "value"] (spM K mg m_Disk_write)) (c_Disk_barrier : MthOk P w K mg base "Disk" "barrier" 2 ["self"] (spM K mg m_Disk_barrier)) : FnOk P w K mg base (L2.CX P w) 5 f fd ["disk", "step"] (spM K mg m_do_step) :=
  fn_okK F sc_do_step b_do_step fun cdv A outer s H E hr =>
    (s_seq (s_if (t_cmp (op_eqD (hu64 hr)) fol_eq (e_ix (e_var 1) e_int) e_str) (s_seq (s_expr (e_meth (m := "write") (tb_cons c_Disk_write tb_nil) hr (takes_of rfl rfl rfl rfl) (e_var 0) (a_cons (e_ix (e_var 1) e_int) (a_cons (e_ix (e_var 1) e_int) a_nil)))) s_nil) (s_seq (s_if (t_cmp (op_eqD (hu64 hr)) fol_eq (e_ix (e_var 1) e_int) e_str) (s_seq (s_expr (e_meth0 (m := "barrier") (tb_cons c_Disk_barrier tb_nil) hr (takes_of rfl rfl rfl rfl) (e_var 0))) s_nil) s_nil) s_nil)) s_nil)
theorem sc_bounds_at : FnScope ["plan", "moment"] ["plan", "moment"] (defScope (topS 40)) := ⟨rfl, rfl, rfl, by decide +kernel, rfl, by decide +kernel, by decide +kernel⟩
theorem ok_bounds_at {f : Addr} {fd : FuncData} (F : Fun K "bounds_at" "bounds_at" (topS 40) f fd) (T : Txt K mg) (c_check_moment : Has P w K mg base "check_moment" 4 ["plan", "thing"] (spM K mg m_check_moment)) (c_bounds_of : Has P w K mg base "bounds_of" 1 ["steps"] (spM K mg m_bounds_of)) : FnOk P w K mg base (L2.CX P w) 5 f fd ["plan", "moment"] (spM K mg m_bounds_at) :=
  fn_ok F sc_bounds_at b_bounds_at fun cdv A outer s H E hr =>
    (s_seq (s_expr (e_callH c_check_moment hr (takes_of rfl rfl rfl rfl) (a_cons (e_var 0) (a_cons (e_var 1) a_nil)))) (s_seq (s_ret (e_callH c_bounds_of hr (takes_of rfl rfl rfl rfl) (a_cons (e_sl (e_fld ["Plan"] (e_var 0) (AllC.c T.f_Plan_kept_steps AllC.n)) o_none (o_some (e_var 1))) a_nil))) s_nil))
theorem sc_Plan___init__ : FnScope ["self", "state", "steps", "under_way", "index", "step"] ["self", "state", "steps"] (defScope (inClass (topS 33) 0)) := ⟨rfl, rfl, rfl, by decide +kernel, rfl, by decide +kernel, by decide +kernel⟩
theorem ok_Plan___init__ {f : Addr} {fd : FuncData} (F : Fun K "__init__" "Plan.__init__" (inClass (topS 33) 0) f fd) (T : Txt K mg) (c_Plan_keep : MthOk P w K mg base "Plan" "keep" 1 ["self", "state", "steps"] (spM K mg m_Plan_keep)) (c_is_state : Has P w K mg base "is_state" 5 ["thing"] (spM K mg m_is_state)) (c_is_disk_step : Has P w K mg base "is_disk_step" 4 ["thing", "sectors"] (spM K mg m_is_disk_step)) (c_is_deed_step : Has P w K mg base "is_deed_step" 1 ["thing"] (spM K mg m_is_deed_step)) : FnOk P w K mg base (L2.CX P w) 6 f fd ["self", "state", "steps"] (spM K mg m_Plan___init__) :=
  fn_okK F sc_Plan___init__ b_Plan___init__ fun cdv A outer s H E hr =>
    (s_seq (s_if (w_or (t_not (t_tru (e_callH c_is_state hr (takes_of rfl rfl rfl rfl) (a_cons (e_var 1) a_nil)))) (w_one .Or (t_cmp (op_inA (hu65 hr)) fol_in e_non (e_var 1)))).pt (s_seq s_never s_nil) s_nil) (s_seq (s_if (w_or (t_not (t_tru (e_isi .tup T.b_isinstance T.b_tuple (e_var 2)))) (w_one .Or (t_cmp (op_cGt (hu65 hr)) fol_cGt (e_len T.b_len (a_cons (e_var 2) a_nil)) (e_globI T.g_MOST_STEPS)))).pt (s_seq s_never s_nil) s_nil) (s_seq (s_set 3 e_int sc_Plan___init__.nd) (s_seq (s_for (p := (.tp [(.nm 4), (.nm 5)])) (passes_of rfl) (i_enum T.b_enumerate (a_cons (e_var 2) a_nil)) (pg_tpP rfl (pgs_consP (pg_nmP (i := 4) sc_Plan___init__.nd rfl) (pgs_consP (pg_nmP (i := 5) sc_Plan___init__.nd rfl) pgs_nilP))) (s_seq (s_if (w_and (t_not (t_tru (e_callH c_is_disk_step hr (takes_of rfl rfl rfl rfl) (a_cons (e_var 5) (a_cons (e_len T.b_len (a_cons (e_var 1) a_nil)) a_nil))))) (w_one .And (t_not (t_tru (e_callH c_is_deed_step hr (takes_of rfl rfl rfl rfl) (a_cons (e_var 5) a_nil)))))).pt (s_seq s_never s_nil) s_nil) (s_seq (s_aug 3 ip_add (e_bin op_sub fol_sub (e_int1 T.b_int (a_cons (e_cmp (op_eqD (hu64 hr)) fol_eq (e_ix (e_var 5) e_int) e_str) a_nil)) (e_int1 T.b_int (a_cons (e_cmp (op_eqD (hu64 hr)) fol_eq (e_ix (e_var 5) e_int) e_str) a_nil))) sc_Plan___init__.nd) (s_seq (s_if (t_cmp (op_cLt (hu65 hr)) fol_cLt (e_var 3) e_int) (s_seq s_never s_nil) s_nil) s_nil)))) (s_seq (s_expr (e_meth (m := "keep") (tb_cons c_Plan_keep tb_nil) hr (takes_of rfl rfl rfl rfl) (e_var 0) (a_cons (e_var 1) (a_cons (e_var 2) a_nil)))) s_nil)))))
theorem sc_check_state : FnScope ["thing"] ["thing"] (defScope (topS 21)) := ⟨rfl, rfl, rfl, by decide +kernel, rfl, by decide +kernel, by decide +kernel⟩
theorem ok_check_state {f : Addr} {fd : FuncData} (F : Fun K "check_state" "check_state" (topS 21) f fd) (T : Txt K mg) (c_is_state : Has P w K mg base "is_state" 5 ["thing"] (spM K mg m_is_state)) : FnOk P w K mg base (L2.CX P w) 6 f fd ["thing"] (spM K mg m_check_state) :=
  fn_ok F sc_check_state b_check_state fun cdv A outer s H E hr =>
    (s_seq (s_if (t_not (t_tru (e_callH c_is_state hr (takes_of rfl rfl rfl rfl) (a_cons (e_var 0) a_nil)))) (s_seq s_never s_nil) s_nil) s_nil)
theorem sc_Disk___init__ : FnScope ["self", "state"] ["self", "state"] (defScope (inClass (topS 27) 0)) := ⟨rfl, rfl, rfl, by decide +kernel, rfl, by decide +kernel, by decide +kernel⟩
theorem ok_Disk___init__ {f : Addr} {fd : FuncData} (F : Fun K "__init__" "Disk.__init__" (inClass (topS 27) 0) f fd) (T : Txt K mg) (c_check_state : Has P w K mg base "check_state" 6 ["thing"] (spM K mg m_check_state)) : FnOk P w K mg base (L2.CX P w) 7 f fd ["self", "state"] (spM K mg m_Disk___init__) :=
  fn_okK F sc_Disk___init__ b_Disk___init__ fun cdv A outer s H E hr =>
    (s_seq (s_expr (e_callH c_check_state hr (takes_of rfl rfl rfl rfl) (a_cons (e_var 1) a_nil))) (s_seq (s_fld ["Disk"] (e_var 0) (e_new (f_list T.b_list (a_cons (e_var 1) a_nil))) (AllC.c T.f_Disk_kept AllC.n)) (s_seq (s_fld ["Disk"] (e_var 0) e_dnew (AllC.c T.f_Disk_writes AllC.n)) (s_seq (s_fld ["Disk"] (e_var 0) e_non (AllC.c T.f_Disk_watcher AllC.n)) s_nil))))
theorem sc_disk_of : FnScope ["plan", "moment", "disk", "step"] ["plan", "moment"] (defScope (topS 36)) := ⟨rfl, rfl, rfl, by decide +kernel, rfl, by decide +kernel, by decide +kernel⟩
theorem ok_disk_of {f : Addr} {fd : FuncData} (F : Fun K "disk_of" "disk_of" (topS 36) f fd) (T : Txt K mg) (k_Disk : MakOk P w K mg base "Disk" 7 ["self", "state"] (spM K mg m_Disk___init__)) (c_do_step : Has P w K mg base "do_step" 5 ["disk", "step"] (spM K mg m_do_step)) : FnOk P w K mg base (L2.CX P w) 9 f fd ["plan", "moment"] (spM K mg m_disk_of) :=
  fn_okK F sc_disk_of b_disk_of fun cdv A outer s H E hr =>
    (s_seq (s_set 2 (e_make k_Disk hr (takes_of rfl rfl rfl rfl) (a_cons (e_fld ["Plan"] (e_var 0) (AllC.c T.f_Plan_kept_state AllC.n)) a_nil)) sc_disk_of.nd) (s_seq (s_for (p := (.nm 3)) (passes_of rfl) (i_seq (e_sl (e_fld ["Plan"] (e_var 0) (AllC.c T.f_Plan_kept_steps AllC.n)) o_none (o_some (e_var 1)))) (pg_nmP (i := 3) sc_disk_of.nd rfl) (s_seq (s_expr (e_callH c_do_step hr (takes_of rfl rfl rfl rfl) (a_cons (e_var 2) (a_cons (e_var 3) a_nil)))) s_nil)) (s_seq (s_ret (e_var 2)) s_nil)))
theorem sc_disk_at : FnScope ["plan", "moment"] ["plan", "moment"] (defScope (topS 37)) := ⟨rfl, rfl, rfl, by decide +kernel, rfl, by decide +kernel, by decide +kernel⟩
theorem ok_disk_at {f : Addr} {fd : FuncData} (F : Fun K "disk_at" "disk_at" (topS 37) f fd) (T : Txt K mg) (c_check_moment : Has P w K mg base "check_moment" 4 ["plan", "thing"] (spM K mg m_check_moment)) (c_disk_of : Has P w K mg base "disk_of" 9 ["plan", "moment"] (spM K mg m_disk_of)) : FnOk P w K mg base (L2.CX P w) 10 f fd ["plan", "moment"] (spM K mg m_disk_at) :=
  fn_okK F sc_disk_at b_disk_at fun cdv A outer s H E hr =>
    (s_seq (s_expr (e_callH c_check_moment hr (takes_of rfl rfl rfl rfl) (a_cons (e_var 0) (a_cons (e_var 1) a_nil)))) (s_seq (s_ret (e_callH c_disk_of hr (takes_of rfl rfl rfl rfl) (a_cons (e_var 0) (a_cons (e_var 1) a_nil)))) s_nil))
theorem sc_lots_at : FnScope ["plan", "moment", "tears"] ["plan", "moment", "tears"] (defScope (topS 38)) := ⟨rfl, rfl, rfl, by decide +kernel, rfl, by decide +kernel, by decide +kernel⟩
theorem ok_lots_at {f : Addr} {fd : FuncData} (F : Fun K "lots_at" "lots_at" (topS 38) f fd) (T : Txt K mg) (c_check_moment : Has P w K mg base "check_moment" 4 ["plan", "thing"] (spM K mg m_check_moment)) (c_check_flag : Has P w K mg base "check_flag" 1 ["thing"] (spM K mg m_check_flag)) (c_Disk_lots : MthOk P w K mg base "Disk" "lots" 3 ["self", "tears"] (spM K mg m_Disk_lots)) (c_disk_of : Has P w K mg base "disk_of" 9 ["plan", "moment"] (spM K mg m_disk_of)) : FnOk P w K mg base (L2.CX P w) 10 f fd ["plan", "moment", "tears"] (spM K mg m_lots_at) :=
  fn_ok F sc_lots_at b_lots_at fun cdv A outer s H E hr =>
    (s_seq (s_expr (e_callH c_check_moment hr (takes_of rfl rfl rfl rfl) (a_cons (e_var 0) (a_cons (e_var 1) a_nil)))) (s_seq (s_expr (e_callH c_check_flag hr (takes_of rfl rfl rfl rfl) (a_cons (e_var 2) a_nil))) (s_seq (s_ret (e_meth (m := "lots") (tb_cons c_Disk_lots tb_nil) hr (takes_of rfl rfl rfl rfl) (e_callH c_disk_of hr (takes_of rfl rfl rfl rfl) (a_cons (e_var 0) (a_cons (e_var 1) a_nil))) (a_cons (e_var 2) a_nil))) s_nil)))
theorem sc_law : FnScope ["script", "hand", "turn", "sectors", "pool", "state", "steps", "plan", "moment", "settled", "waiting", "now", "sector", "value", "disk", "tears", "due", "k"] ["script"] (defScope (topS 51)) := ⟨rfl, rfl, rfl, by decide +kernel, rfl, by decide +kernel, by decide +kernel⟩
theorem ok_law {f : Addr} {fd : FuncData} (F : Fun K "law" "law" (topS 51) f fd) (T : Txt K mg) (c__law_hand : Has P w K mg base "_law_hand" 1 ["script"] (spL K mg m__law_hand)) (c__law_pool : Has P w K mg base "_law_pool" 3 ["hand"] (spL K mg m__law_pool)) (c__law_steps : Has P w K mg base "_law_steps" 3 ["hand", "pool", "sectors", "many"] (spM K mg m__law_steps)) (k_Plan : MakOk P w K mg base "Plan" 6 ["self", "state", "steps"] (spM K mg m_Plan___init__)) (c__law_draw : Has P w K mg base "_law_draw" 1 ["hand", "many"] (spM K mg m__law_draw)) (c__law_behind : Has P w K mg base "_law_behind" 1 ["state", "steps"] (spM K mg m__law_behind)) (c_disk_at : Has P w K mg base "disk_at" 10 ["plan", "moment"] (spM K mg m_disk_at)) (c_Disk_write : MthOk P w K mg base "Disk" "write" 4 ["self", "sector", "value"] (spM K mg m_Disk_write)) (c_Disk_barrier : MthOk P w K mg base "Disk" "barrier" 2 ["self"] (spM K mg m_Disk_barrier)) (c__law_any : Has P w K mg base "_law_any" 2 ["hand", "things"] (spM K mg m__law_any)) (c_Disk_waiting : MthOk P w K mg base "Disk" "waiting" 1 ["self"] (spM K mg m_Disk_waiting)) (c__law_lots : Has P w K mg base "_law_lots" 1 ["settled", "waiting", "tears"] (spM K mg m__law_lots)) (c_bounds_at : Has P w K mg base "bounds_at" 5 ["plan", "moment"] (spM K mg m_bounds_at)) (c__law_bounds : Has P w K mg base "_law_bounds" 1 ["steps"] (spM K mg m__law_bounds)) (c_Disk_settled : MthOk P w K mg base "Disk" "settled" 1 ["self"] (spM K mg m_Disk_settled)) (c_Disk_now : MthOk P w K mg base "Disk" "now" 1 ["self"] (spM K mg m_Disk_now)) (c_lots_at : Has P w K mg base "lots_at" 10 ["plan", "moment", "tears"] (spM K mg m_lots_at)) (c_Disk_lots : MthOk P w K mg base "Disk" "lots" 3 ["self", "tears"] (spM K mg m_Disk_lots)) : FnOk P w K mg base (L2.CX P w) 11 f fd ["script"] (spM K mg m_law) :=
  fn_ok F sc_law b_law fun cdv A outer s H E hr =>
    (s_seq (s_set 1 (e_new (f_callH c__law_hand hr (takes_of rfl rfl rfl rfl) (a_cons (e_var 0) a_nil))) sc_law.nd) (s_seq (s_for (p := (.nm 2)) (passes_of rfl) (i_range1 T.b_range (a_cons e_int a_nil)) (pg_nmP (i := 2) sc_law.nd rfl) (s_seq (s_set 3 (e_bin op_add3 fol_add e_int (e_callH c__law_draw hr (takes_of rfl rfl rfl rfl) (a_cons (e_var 1) (a_cons e_int a_nil)))) sc_law.nd) (s_seq (s_set 4 (e_L (f_callH c__law_pool hr (takes_of rfl rfl rfl rfl) (a_cons (e_var 1) a_nil))) sc_law.nd) (s_seq (s_set 5 (e_tuple T.b_tuple (a_cons (e_L (f_lc (own := [("k", 17)]) (.nm 17) sc_law.nd (i_range1 T.b_range (a_cons (e_var 3) a_nil)) (blkOk_by (by rfl)) (fun _ _ _ _ _ => (pg_nmP (i := 17) sc_law.nd rfl)) (fun _ _ _ _ _ => p_yes) (fun _ _ _ _ _ => (e_callH c__law_any hr takes0 (a_cons (e_var 1) (a_cons (e_var 4) a_nil)))) (by decide))) a_nil)) sc_law.nd) (s_seq (s_set 6 (e_callH c__law_steps hr (takes_of rfl rfl rfl rfl) (a_cons (e_var 1) (a_cons (e_var 4) (a_cons (e_var 3) (a_cons (e_callH c__law_draw hr (takes_of rfl rfl rfl rfl) (a_cons (e_var 1) (a_cons e_int a_nil))) a_nil))))) sc_law.nd) (s_seq (s_set 7 (e_make k_Plan hr (takes_of rfl rfl rfl rfl) (a_cons (e_var 5) (a_cons (e_var 6) a_nil))) sc_law.nd) (s_seq (s_for (p := (.nm 8)) (passes_of rfl) (i_range1 T.b_range (a_cons (e_bin op_add3 fol_add (e_len T.b_len (a_cons (e_var 6) a_nil)) e_int) a_nil)) (pg_nmP (i := 8) sc_law.nd rfl) (s_seq (s_asg (.tp [(.nm 9), (.nm 10)]) (e_callH c__law_behind hr (takes_of rfl rfl rfl rfl) (a_cons (e_var 5) (a_cons (e_sl (e_var 6) o_none (o_some (e_var 8))) a_nil))) (pg_tpP rfl (pgs_consP (pg_nmP (i := 9) sc_law.nd rfl) (pgs_consP (pg_nmP (i := 10) sc_law.nd rfl) pgs_nilP)))) (s_seq (s_set 11 (e_new (f_list T.b_list (a_cons (e_var 9) a_nil))) sc_law.nd) (s_seq (s_for (p := (.tp [(.nm 12), (.nm 13)])) (passes_of rfl) (i_seq (e_var 10)) (pg_tpP rfl (pgs_consP (pg_nmP (i := 12) sc_law.nd rfl) (pgs_consP (pg_nmP (i := 13) sc_law.nd rfl) pgs_nilP))) (s_seq (s_sub (e_var 13) (e_var 11) (e_var 12)) s_nil)) (s_seq (s_set 14 (e_callH c_disk_at hr (takes_of rfl rfl rfl rfl) (a_cons (e_var 7) (a_cons (e_var 8) a_nil))) sc_law.nd) (s_seq (s_if (w_or (t_cmp (op_neD (hu64 hr)) fol_ne (e_meth0 (m := "settled") (tb_cons c_Disk_settled tb_nil) hr (takes_of rfl rfl rfl rfl) (e_var 14)) (e_var 9)) (w_one .Or (t_cmp (op_neD (hu64 hr)) fol_ne (e_meth0 (m := "now") (tb_cons c_Disk_now tb_nil) hr (takes_of rfl rfl rfl rfl) (e_var 14)) (e_tuple T.b_tuple (a_cons (e_var 11) a_nil))))).pt (s_seq (s_ret e_bl) s_nil) s_nil) (s_seq (s_if (t_cmp (op_neD (hu64 hr)) fol_ne (e_meth0 (m := "waiting") (tb_cons c_Disk_waiting tb_nil) hr (takes_of rfl rfl rfl rfl) (e_var 14)) (e_tuple T.b_tuple (a_cons (e_L (f_sortSet T.b_sorted T.b_set (a_cons (e_L (f_lc (own := [("sector", 12), ("value", 13)]) (.tp [(.nm 12), (.nm 13)]) sc_law.nd (i_seq (e_var 10)) (blkOk_by (by rfl)) (fun _ _ _ _ _ => (pg_tpP rfl (pgs_consP (pg_nmP (i := 12) sc_law.nd rfl) (pgs_consP (pg_nmP (i := 13) sc_law.nd rfl) pgs_nilP)))) (fun _ _ _ _ _ => p_yes) (fun _ _ _ _ _ => (e_var 12)) (by decide))) a_nil))) a_nil))) (s_seq (s_ret e_bl) s_nil) s_nil) (s_seq (s_for (p := (.nm 15)) (passes_of rfl) (i_seq (e_L (f_lst (a_cons e_bl (a_cons e_bl a_nil))))) (pg_nmP (i := 15) sc_law.nd rfl) (s_seq (s_set 16 (e_callH c__law_lots hr (takes_of rfl rfl rfl rfl) (a_cons (e_var 9) (a_cons (e_var 10) (a_cons (e_var 15) a_nil)))) sc_law.nd) (s_seq (s_if (w_or (t_cmp (op_neD (hu64 hr)) fol_ne (e_callH c_lots_at hr (takes_of rfl rfl rfl rfl) (a_cons (e_var 7) (a_cons (e_var 8) (a_cons (e_var 15) a_nil)))) (e_var 16)) (w_one .Or (t_cmp (op_neD (hu64 hr)) fol_ne (e_meth (m := "lots") (tb_cons c_Disk_lots tb_nil) hr (takes_of rfl rfl rfl rfl) (e_var 14) (a_cons (e_var 15) a_nil)) (e_var 16)))).pt (s_seq (s_ret e_bl) s_nil) s_nil) s_nil))) (s_seq (s_if (t_cmp (op_neD (hu64 hr)) fol_ne (e_callH c_bounds_at hr (takes_of rfl rfl rfl rfl) (a_cons (e_var 7) (a_cons (e_var 8) a_nil))) (e_callH c__law_bounds hr (takes_of rfl rfl rfl rfl) (a_cons (e_sl (e_var 6) o_none (o_some (e_var 8))) a_nil))) (s_seq (s_ret e_bl) s_nil) s_nil) (s_seq (s_expr (e_meth (m := "write") (tb_cons c_Disk_write tb_nil) hr (takes_of rfl rfl rfl rfl) (e_var 14) (a_cons e_int (a_cons (e_tup (a_cons e_int a_nil)) a_nil)))) (s_seq (s_expr (e_meth0 (m := "barrier") (tb_cons c_Disk_barrier tb_nil) hr (takes_of rfl rfl rfl rfl) (e_var 14))) (s_seq (s_if (t_cmp (op_neD (hu64 hr)) fol_ne (e_meth0 (m := "settled") (tb_cons c_Disk_settled tb_nil) hr (takes_of rfl rfl rfl rfl) (e_callH c_disk_at hr (takes_of rfl rfl rfl rfl) (a_cons (e_var 7) (a_cons (e_var 8) a_nil)))) (e_var 9)) (s_seq (s_ret e_bl) s_nil) s_nil) s_nil)))))))))))) s_nil))))))) (s_seq (s_ret e_bl) s_nil)))
end
end My
namespace My
open PySem PySem.Spec PyProof.Rows L2 AB
theorem all_mk {l : PySem.W.OpenLaw} {w : World} {K : PySem.W.Frag} {h : Heap} {mg : Str → Option Value} {fa : Addr} (X : K.In h) (G : h.Ns mainGlobals mg) (hfa : mg "law" = some (.ref fa))
    (ht : ∀ ns : List Int, ns.length ≤ 63 → ∃ h, m_law [.rol (ns.map D.int)] [] = .ok (.bl true) h)
    {f0 : Addr} {od0 an0 : Option Addr} {sl0 : Array (Option Value)} {oc0 kV0 dc0 pm0 cd0 ct0 : Value}
    {f1 : Addr} {od1 an1 : Option Addr} {sl1 : Array (Option Value)} {oc1 kV1 dc1 pm1 cd1 ct1 : Value}
    {f2 : Addr} {od2 an2 : Option Addr} {sl2 : Array (Option Value)} {oc2 kV2 dc2 pm2 cd2 ct2 : Value}
    {f3 : Addr} {od3 an3 : Option Addr} {sl3 : Array (Option Value)} {oc3 kV3 dc3 pm3 cd3 ct3 : Value}
    {f4 : Addr} {od4 an4 : Option Addr} {sl4 : Array (Option Value)} {oc4 kV4 dc4 pm4 cd4 ct4 : Value}
    {f5 : Addr} {od5 an5 : Option Addr} {sl5 : Array (Option Value)} {oc5 kV5 dc5 pm5 cd5 ct5 : Value}
    {f6 : Addr} {od6 an6 : Option Addr} {sl6 : Array (Option Value)} {oc6 kV6 dc6 pm6 cd6 ct6 : Value}
    {f7 : Addr} {od7 an7 : Option Addr} {sl7 : Array (Option Value)} {oc7 kV7 dc7 pm7 cd7 ct7 : Value}
    {f8 : Addr} {od8 an8 : Option Addr} {sl8 : Array (Option Value)} {oc8 kV8 dc8 pm8 cd8 ct8 : Value}
    {f9 : Addr} {od9 an9 : Option Addr} {sl9 : Array (Option Value)} {oc9 kV9 dc9 pm9 cd9 ct9 : Value}
    {f10 : Addr} {od10 an10 : Option Addr} {sl10 : Array (Option Value)} {oc10 kV10 dc10 pm10 cd10 ct10 : Value}
    {f11 : Addr} {od11 an11 : Option Addr} {sl11 : Array (Option Value)} {oc11 kV11 dc11 pm11 cd11 ct11 : Value}
    {f12 : Addr} {od12 an12 : Option Addr} {sl12 : Array (Option Value)} {oc12 kV12 dc12 pm12 cd12 ct12 : Value}
    {f13 : Addr} {od13 an13 : Option Addr} {sl13 : Array (Option Value)} {oc13 kV13 dc13 pm13 cd13 ct13 : Value}
    {f14 : Addr} {od14 an14 : Option Addr} {sl14 : Array (Option Value)} {oc14 kV14 dc14 pm14 cd14 ct14 : Value}
    {f15 : Addr} {od15 an15 : Option Addr} {sl15 : Array (Option Value)} {oc15 kV15 dc15 pm15 cd15 ct15 : Value}
    {f16 : Addr} {od16 an16 : Option Addr} {sl16 : Array (Option Value)} {oc16 kV16 dc16 pm16 cd16 ct16 : Value}
    {f17 : Addr} {od17 an17 : Option Addr} {sl17 : Array (Option Value)} {oc17 kV17 dc17 pm17 cd17 ct17 : Value}
    {f18 : Addr} {od18 an18 : Option Addr} {sl18 : Array (Option Value)} {oc18 kV18 dc18 pm18 cd18 ct18 : Value}
    {f19 : Addr} {od19 an19 : Option Addr} {sl19 : Array (Option Value)} {oc19 kV19 dc19 pm19 cd19 ct19 : Value}
    {f20 : Addr} {od20 an20 : Option Addr} {sl20 : Array (Option Value)} {oc20 kV20 dc20 pm20 cd20 ct20 : Value}
    {f21 : Addr} {od21 an21 : Option Addr} {sl21 : Array (Option Value)} {oc21 kV21 dc21 pm21 cd21 ct21 : Value}
    {f22 : Addr} {od22 an22 : Option Addr} {sl22 : Array (Option Value)} {oc22 kV22 dc22 pm22 cd22 ct22 : Value}
    {f23 : Addr} {od23 an23 : Option Addr} {sl23 : Array (Option Value)} {oc23 kV23 dc23 pm23 cd23 ct23 : Value}
    {f24 : Addr} {od24 an24 : Option Addr} {sl24 : Array (Option Value)} {oc24 kV24 dc24 pm24 cd24 ct24 : Value}
    {f25 : Addr} {od25 an25 : Option Addr} {sl25 : Array (Option Value)} {oc25 kV25 dc25 pm25 cd25 ct25 : Value}
    {f26 : Addr} {od26 an26 : Option Addr} {sl26 : Array (Option Value)} {oc26 kV26 dc26 pm26 cd26 ct26 : Value}
    {f27 : Addr} {od27 an27 : Option Addr} {sl27 : Array (Option Value)} {oc27 kV27 dc27 pm27 cd27 ct27 : Value}
    {f28 : Addr} {od28 an28 : Option Addr} {sl28 : Array (Option Value)} {oc28 kV28 dc28 pm28 cd28 ct28 : Value}
    {f29 : Addr} {od29 an29 : Option Addr} {sl29 : Array (Option Value)} {oc29 kV29 dc29 pm29 cd29 ct29 : Value}
    {f30 : Addr} {od30 an30 : Option Addr} {sl30 : Array (Option Value)} {oc30 kV30 dc30 pm30 cd30 ct30 : Value}
    {f31 : Addr} {od31 an31 : Option Addr} {sl31 : Array (Option Value)} {oc31 kV31 dc31 pm31 cd31 ct31 : Value}
    {f32 : Addr} {od32 an32 : Option Addr} {sl32 : Array (Option Value)} {oc32 kV32 dc32 pm32 cd32 ct32 : Value}
    {f33 : Addr} {od33 an33 : Option Addr} {sl33 : Array (Option Value)} {oc33 kV33 dc33 pm33 cd33 ct33 : Value}
    {f34 : Addr} {od34 an34 : Option Addr} {sl34 : Array (Option Value)} {oc34 kV34 dc34 pm34 cd34 ct34 : Value}
    {f35 : Addr} {od35 an35 : Option Addr} {sl35 : Array (Option Value)} {oc35 kV35 dc35 pm35 cd35 ct35 : Value}
    {f36 : Addr} {od36 an36 : Option Addr} {sl36 : Array (Option Value)} {oc36 kV36 dc36 pm36 cd36 ct36 : Value}
    {f37 : Addr} {od37 an37 : Option Addr} {sl37 : Array (Option Value)} {oc37 kV37 dc37 pm37 cd37 ct37 : Value}
    {f38 : Addr} {od38 an38 : Option Addr} {sl38 : Array (Option Value)} {oc38 kV38 dc38 pm38 cd38 ct38 : Value}
    {t0 : Tok}
    {t1 : Tok}
    {t2 : Tok}
    {t3 : Tok}
    {D0 : Addr}
    {D1 : Addr}
    (oa0 : PySem.W.nsIn K mainGlobals "Disk" = some (some (.ref D0))) (pg0 : PySem.W.plainGet K D0 Str.empty = true) (hd0 : PySem.W.hasDictIn K D0 = true) (po0 : PySem.W.plainOver K D0 = true) (sa0 : PySem.W.findIn K (.ref D0) "__setattr__" = some (some (.builtin "object.__setattr__")))
    (mk0 : PySem.W.makesIn K D0 = true) (kc0 : PySem.W.keepIn K (.ref D0) = true)
    (oa1 : PySem.W.nsIn K mainGlobals "Plan" = some (some (.ref D1))) (pg1 : PySem.W.plainGet K D1 Str.empty = true) (hd1 : PySem.W.hasDictIn K D1 = true) (po1 : PySem.W.plainOver K D1 = true) (sa1 : PySem.W.findIn K (.ref D1) "__setattr__" = some (some (.builtin "object.__setattr__")))
    (mk1 : PySem.W.makesIn K D1 = true) (kc1 : PySem.W.keepIn K (.ref D1) = true)
    (nf0 : PySem.W.findIn K (.ref D0) "kept" = some none)
    (nf1 : PySem.W.findIn K (.ref D0) "watcher" = some none)
    (nf2 : PySem.W.findIn K (.ref D0) "writes" = some none)
    (nf3 : PySem.W.findIn K (.ref D1) "kept_state" = some none)
    (nf4 : PySem.W.findIn K (.ref D1) "kept_steps" = some none)
    (a0 : PySem.W.nsIn K mainGlobals "_law_hand" = some (some (.ref f0)))
    (l0 : K.lookup f0 = some ⟨oc0, od0, .func (PySem.W.fnOf "_law_hand" "_law_hand" (defArgs (topS 42)) (defBody (topS 42)) (defScope (topS 42)) .none kV0 dc0 pm0 an0 cd0 ct0), sl0⟩) (c0 : PySem.W.codeIn K cd0 "_law_hand" = true) (k0 : PySem.W.keepIn K (.ref f0) = true)
    (a1 : PySem.W.nsIn K mainGlobals "_law_draw" = some (some (.ref f1)))
    (l1 : K.lookup f1 = some ⟨oc1, od1, .func (PySem.W.fnOf "_law_draw" "_law_draw" (defArgs (topS 43)) (defBody (topS 43)) (defScope (topS 43)) .none kV1 dc1 pm1 an1 cd1 ct1), sl1⟩) (c1 : PySem.W.codeIn K cd1 "_law_draw" = true) (k1 : PySem.W.keepIn K (.ref f1) = true)
    (m16 : PySem.W.findIn K (.ref D1) "keep" = some (some (.ref f2)))
    (l2 : K.lookup f2 = some ⟨oc2, od2, .func (PySem.W.fnOf "keep" "Plan.keep" (defArgs (inClass (topS 33) 1)) (defBody (inClass (topS 33) 1)) (defScope (inClass (topS 33) 1)) .none kV2 dc2 pm2 an2 cd2 ct2), sl2⟩) (c2 : PySem.W.codeIn K cd2 "Plan.keep" = true) (k2 : PySem.W.keepIn K (.ref f2) = true)
    (i2 : PySem.W.isFn K (.ref f2) = true)
    (a3 : PySem.W.nsIn K mainGlobals "is_integer" = some (some (.ref f3)))
    (l3 : K.lookup f3 = some ⟨oc3, od3, .func (PySem.W.fnOf "is_integer" "is_integer" (defArgs (topS 13)) (defBody (topS 13)) (defScope (topS 13)) .none kV3 dc3 pm3 an3 cd3 ct3), sl3⟩) (c3 : PySem.W.codeIn K cd3 "is_integer" = true) (k3 : PySem.W.keepIn K (.ref f3) = true)
    (a4 : PySem.W.nsIn K mainGlobals "is_deed_step" = some (some (.ref f4)))
    (l4 : K.lookup f4 = some ⟨oc4, od4, .func (PySem.W.fnOf "is_deed_step" "is_deed_step" (defArgs (topS 32)) (defBody (topS 32)) (defScope (topS 32)) .none kV4 dc4 pm4 an4 cd4 ct4), sl4⟩) (c4 : PySem.W.codeIn K cd4 "is_deed_step" = true) (k4 : PySem.W.keepIn K (.ref f4) = true)
    (a5 : PySem.W.nsIn K mainGlobals "_law_behind" = some (some (.ref f5)))
    (l5 : K.lookup f5 = some ⟨oc5, od5, .func (PySem.W.fnOf "_law_behind" "_law_behind" (defArgs (topS 49)) (defBody (topS 49)) (defScope (topS 49)) .none kV5 dc5 pm5 an5 cd5 ct5), sl5⟩) (c5 : PySem.W.codeIn K cd5 "_law_behind" = true) (k5 : PySem.W.keepIn K (.ref f5) = true)
    (m2 : PySem.W.findIn K (.ref D0) "tell" = some (some (.ref f6)))
    (l6 : K.lookup f6 = some ⟨oc6, od6, .func (PySem.W.fnOf "tell" "Disk.tell" (defArgs (inClass (topS 27) 3)) (defBody (inClass (topS 27) 3)) (defScope (inClass (topS 27) 3)) .none kV6 dc6 pm6 an6 cd6 ct6), sl6⟩) (c6 : PySem.W.codeIn K cd6 "Disk.tell" = true) (k6 : PySem.W.keepIn K (.ref f6) = true)
    (i6 : PySem.W.isFn K (.ref f6) = true)
    (m31 : PySem.W.findIn K (.ref D0) "waiting" = some (some (.ref f7)))
    (l7 : K.lookup f7 = some ⟨oc7, od7, .func (PySem.W.fnOf "waiting" "Disk.waiting" (defArgs (inClass (topS 27) 6)) (defBody (inClass (topS 27) 6)) (defScope (inClass (topS 27) 6)) .none kV7 dc7 pm7 an7 cd7 ct7), sl7⟩) (c7 : PySem.W.codeIn K cd7 "Disk.waiting" = true) (k7 : PySem.W.keepIn K (.ref f7) = true)
    (i7 : PySem.W.isFn K (.ref f7) = true)
    (a8 : PySem.W.nsIn K mainGlobals "_law_lots" = some (some (.ref f8)))
    (l8 : K.lookup f8 = some ⟨oc8, od8, .func (PySem.W.fnOf "_law_lots" "_law_lots" (defArgs (topS 48)) (defBody (topS 48)) (defScope (topS 48)) .none kV8 dc8 pm8 an8 cd8 ct8), sl8⟩) (c8 : PySem.W.codeIn K cd8 "_law_lots" = true) (k8 : PySem.W.keepIn K (.ref f8) = true)
    (a9 : PySem.W.nsIn K mainGlobals "bounds_of" = some (some (.ref f9)))
    (l9 : K.lookup f9 = some ⟨oc9, od9, .func (PySem.W.fnOf "bounds_of" "bounds_of" (defArgs (topS 39)) (defBody (topS 39)) (defScope (topS 39)) .none kV9 dc9 pm9 an9 cd9 ct9), sl9⟩) (c9 : PySem.W.codeIn K cd9 "bounds_of" = true) (k9 : PySem.W.keepIn K (.ref f9) = true)
    (a10 : PySem.W.nsIn K mainGlobals "_law_bounds" = some (some (.ref f10)))
    (l10 : K.lookup f10 = some ⟨oc10, od10, .func (PySem.W.fnOf "_law_bounds" "_law_bounds" (defArgs (topS 50)) (defBody (topS 50)) (defScope (topS 50)) .none kV10 dc10 pm10 an10 cd10 ct10), sl10⟩) (c10 : PySem.W.codeIn K cd10 "_law_bounds" = true) (k10 : PySem.W.keepIn K (.ref f10) = true)
    (m35 : PySem.W.findIn K (.ref D0) "settled" = some (some (.ref f11)))
    (l11 : K.lookup f11 = some ⟨oc11, od11, .func (PySem.W.fnOf "settled" "Disk.settled" (defArgs (inClass (topS 27) 5)) (defBody (inClass (topS 27) 5)) (defScope (inClass (topS 27) 5)) .none kV11 dc11 pm11 an11 cd11 ct11), sl11⟩) (c11 : PySem.W.codeIn K cd11 "Disk.settled" = true) (k11 : PySem.W.keepIn K (.ref f11) = true)
    (i11 : PySem.W.isFn K (.ref f11) = true)
    (m36 : PySem.W.findIn K (.ref D0) "now" = some (some (.ref f12)))
    (l12 : K.lookup f12 = some ⟨oc12, od12, .func (PySem.W.fnOf "now" "Disk.now" (defArgs (inClass (topS 27) 4)) (defBody (inClass (topS 27) 4)) (defScope (inClass (topS 27) 4)) .none kV12 dc12 pm12 an12 cd12 ct12), sl12⟩) (c12 : PySem.W.codeIn K cd12 "Disk.now" = true) (k12 : PySem.W.keepIn K (.ref f12) = true)
    (i12 : PySem.W.isFn K (.ref f12) = true)
    (a13 : PySem.W.nsIn K mainGlobals "check_flag" = some (some (.ref f13)))
    (l13 : K.lookup f13 = some ⟨oc13, od13, .func (PySem.W.fnOf "check_flag" "check_flag" (defArgs (topS 16)) (defBody (topS 16)) (defScope (topS 16)) .none kV13 dc13 pm13 an13 cd13 ct13), sl13⟩) (c13 : PySem.W.codeIn K cd13 "check_flag" = true) (k13 : PySem.W.keepIn K (.ref f13) = true)
    (a14 : PySem.W.nsIn K mainGlobals "in_order" = some (some (.ref f14)))
    (l14 : K.lookup f14 = some ⟨oc14, od14, .func (PySem.W.fnOf "in_order" "in_order" (defArgs (topS 19)) (defBody (topS 19)) (defScope (topS 19)) .none kV14 dc14 pm14 an14 cd14 ct14), sl14⟩) (c14 : PySem.W.codeIn K cd14 "in_order" = true) (k14 : PySem.W.keepIn K (.ref f14) = true)
    (a15 : PySem.W.nsIn K mainGlobals "_law_value" = some (some (.ref f15)))
    (l15 : K.lookup f15 = some ⟨oc15, od15, .func (PySem.W.fnOf "_law_value" "_law_value" (defArgs (topS 44)) (defBody (topS 44)) (defScope (topS 44)) .none kV15 dc15 pm15 an15 cd15 ct15), sl15⟩) (c15 : PySem.W.codeIn K cd15 "_law_value" = true) (k15 : PySem.W.keepIn K (.ref f15) = true)
    (a16 : PySem.W.nsIn K mainGlobals "_law_any" = some (some (.ref f16)))
    (l16 : K.lookup f16 = some ⟨oc16, od16, .func (PySem.W.fnOf "_law_any" "_law_any" (defArgs (topS 46)) (defBody (topS 46)) (defScope (topS 46)) .none kV16 dc16 pm16 an16 cd16 ct16), sl16⟩) (c16 : PySem.W.codeIn K cd16 "_law_any" = true) (k16 : PySem.W.keepIn K (.ref f16) = true)
    (a17 : PySem.W.nsIn K mainGlobals "is_between" = some (some (.ref f17)))
    (l17 : K.lookup f17 = some ⟨oc17, od17, .func (PySem.W.fnOf "is_between" "is_between" (defArgs (topS 14)) (defBody (topS 14)) (defScope (topS 14)) .none kV17 dc17 pm17 an17 cd17 ct17), sl17⟩) (c17 : PySem.W.codeIn K cd17 "is_between" = true) (k17 : PySem.W.keepIn K (.ref f17) = true)
    (m13 : PySem.W.findIn K (.ref D0) "barrier" = some (some (.ref f18)))
    (l18 : K.lookup f18 = some ⟨oc18, od18, .func (PySem.W.fnOf "barrier" "Disk.barrier" (defArgs (inClass (topS 27) 2)) (defBody (inClass (topS 27) 2)) (defScope (inClass (topS 27) 2)) .none kV18 dc18 pm18 an18 cd18 ct18), sl18⟩) (c18 : PySem.W.codeIn K cd18 "Disk.barrier" = true) (k18 : PySem.W.keepIn K (.ref f18) = true)
    (i18 : PySem.W.isFn K (.ref f18) = true)
    (a19 : PySem.W.nsIn K mainGlobals "lots_from" = some (some (.ref f19)))
    (l19 : K.lookup f19 = some ⟨oc19, od19, .func (PySem.W.fnOf "lots_from" "lots_from" (defArgs (topS 26)) (defBody (topS 26)) (defScope (topS 26)) .none kV19 dc19 pm19 an19 cd19 ct19), sl19⟩) (c19 : PySem.W.codeIn K cd19 "lots_from" = true) (k19 : PySem.W.keepIn K (.ref f19) = true)
    (a20 : PySem.W.nsIn K mainGlobals "_law_pool" = some (some (.ref f20)))
    (l20 : K.lookup f20 = some ⟨oc20, od20, .func (PySem.W.fnOf "_law_pool" "_law_pool" (defArgs (topS 45)) (defBody (topS 45)) (defScope (topS 45)) .none kV20 dc20 pm20 an20 cd20 ct20), sl20⟩) (c20 : PySem.W.codeIn K cd20 "_law_pool" = true) (k20 : PySem.W.keepIn K (.ref f20) = true)
    (a21 : PySem.W.nsIn K mainGlobals "_law_steps" = some (some (.ref f21)))
    (l21 : K.lookup f21 = some ⟨oc21, od21, .func (PySem.W.fnOf "_law_steps" "_law_steps" (defArgs (topS 47)) (defBody (topS 47)) (defScope (topS 47)) .none kV21 dc21 pm21 an21 cd21 ct21), sl21⟩) (c21 : PySem.W.codeIn K cd21 "_law_steps" = true) (k21 : PySem.W.keepIn K (.ref f21) = true)
    (a22 : PySem.W.nsIn K mainGlobals "is_value" = some (some (.ref f22)))
    (l22 : K.lookup f22 = some ⟨oc22, od22, .func (PySem.W.fnOf "is_value" "is_value" (defArgs (topS 17)) (defBody (topS 17)) (defScope (topS 17)) .none kV22 dc22 pm22 an22 cd22 ct22), sl22⟩) (c22 : PySem.W.codeIn K cd22 "is_value" = true) (k22 : PySem.W.keepIn K (.ref f22) = true)
    (a23 : PySem.W.nsIn K mainGlobals "is_index" = some (some (.ref f23)))
    (l23 : K.lookup f23 = some ⟨oc23, od23, .func (PySem.W.fnOf "is_index" "is_index" (defArgs (topS 15)) (defBody (topS 15)) (defScope (topS 15)) .none kV23 dc23 pm23 an23 cd23 ct23), sl23⟩) (c23 : PySem.W.codeIn K cd23 "is_index" = true) (k23 : PySem.W.keepIn K (.ref f23) = true)
    (m24 : PySem.W.findIn K (.ref D0) "lots" = some (some (.ref f24)))
    (l24 : K.lookup f24 = some ⟨oc24, od24, .func (PySem.W.fnOf "lots" "Disk.lots" (defArgs (inClass (topS 27) 7)) (defBody (inClass (topS 27) 7)) (defScope (inClass (topS 27) 7)) .none kV24 dc24 pm24 an24 cd24 ct24), sl24⟩) (c24 : PySem.W.codeIn K cd24 "Disk.lots" = true) (k24 : PySem.W.keepIn K (.ref f24) = true)
    (i24 : PySem.W.isFn K (.ref f24) = true)
    (a25 : PySem.W.nsIn K mainGlobals "is_held" = some (some (.ref f25)))
    (l25 : K.lookup f25 = some ⟨oc25, od25, .func (PySem.W.fnOf "is_held" "is_held" (defArgs (topS 18)) (defBody (topS 18)) (defScope (topS 18)) .none kV25 dc25 pm25 an25 cd25 ct25), sl25⟩) (c25 : PySem.W.codeIn K cd25 "is_held" = true) (k25 : PySem.W.keepIn K (.ref f25) = true)
    (a26 : PySem.W.nsIn K mainGlobals "is_disk_step" = some (some (.ref f26)))
    (l26 : K.lookup f26 = some ⟨oc26, od26, .func (PySem.W.fnOf "is_disk_step" "is_disk_step" (defArgs (topS 29)) (defBody (topS 29)) (defScope (topS 29)) .none kV26 dc26 pm26 an26 cd26 ct26), sl26⟩) (c26 : PySem.W.codeIn K cd26 "is_disk_step" = true) (k26 : PySem.W.keepIn K (.ref f26) = true)
    (a27 : PySem.W.nsIn K mainGlobals "check_moment" = some (some (.ref f27)))
    (l27 : K.lookup f27 = some ⟨oc27, od27, .func (PySem.W.fnOf "check_moment" "check_moment" (defArgs (topS 35)) (defBody (topS 35)) (defScope (topS 35)) .none kV27 dc27 pm27 an27 cd27 ct27), sl27⟩) (c27 : PySem.W.codeIn K cd27 "check_moment" = true) (k27 : PySem.W.keepIn K (.ref f27) = true)
    (m12 : PySem.W.findIn K (.ref D0) "write" = some (some (.ref f28)))
    (l28 : K.lookup f28 = some ⟨oc28, od28, .func (PySem.W.fnOf "write" "Disk.write" (defArgs (inClass (topS 27) 1)) (defBody (inClass (topS 27) 1)) (defScope (inClass (topS 27) 1)) .none kV28 dc28 pm28 an28 cd28 ct28), sl28⟩) (c28 : PySem.W.codeIn K cd28 "Disk.write" = true) (k28 : PySem.W.keepIn K (.ref f28) = true)
    (i28 : PySem.W.isFn K (.ref f28) = true)
    (a29 : PySem.W.nsIn K mainGlobals "is_state" = some (some (.ref f29)))
    (l29 : K.lookup f29 = some ⟨oc29, od29, .func (PySem.W.fnOf "is_state" "is_state" (defArgs (topS 20)) (defBody (topS 20)) (defScope (topS 20)) .none kV29 dc29 pm29 an29 cd29 ct29), sl29⟩) (c29 : PySem.W.codeIn K cd29 "is_state" = true) (k29 : PySem.W.keepIn K (.ref f29) = true)
    (a30 : PySem.W.nsIn K mainGlobals "do_step" = some (some (.ref f30)))
    (l30 : K.lookup f30 = some ⟨oc30, od30, .func (PySem.W.fnOf "do_step" "do_step" (defArgs (topS 34)) (defBody (topS 34)) (defScope (topS 34)) .none kV30 dc30 pm30 an30 cd30 ct30), sl30⟩) (c30 : PySem.W.codeIn K cd30 "do_step" = true) (k30 : PySem.W.keepIn K (.ref f30) = true)
    (a31 : PySem.W.nsIn K mainGlobals "bounds_at" = some (some (.ref f31)))
    (l31 : K.lookup f31 = some ⟨oc31, od31, .func (PySem.W.fnOf "bounds_at" "bounds_at" (defArgs (topS 40)) (defBody (topS 40)) (defScope (topS 40)) .none kV31 dc31 pm31 an31 cd31 ct31), sl31⟩) (c31 : PySem.W.codeIn K cd31 "bounds_at" = true) (k31 : PySem.W.keepIn K (.ref f31) = true)
    (m28 : PySem.W.findIn K (.ref D1) "__init__" = some (some (.ref f32)))
    (l32 : K.lookup f32 = some ⟨oc32, od32, .func (PySem.W.fnOf "__init__" "Plan.__init__" (defArgs (inClass (topS 33) 0)) (defBody (inClass (topS 33) 0)) (defScope (inClass (topS 33) 0)) .none kV32 dc32 pm32 an32 cd32 ct32), sl32⟩) (c32 : PySem.W.codeIn K cd32 "Plan.__init__" = true) (k32 : PySem.W.keepIn K (.ref f32) = true)
    (i32 : PySem.W.isFn K (.ref f32) = true)
    (a33 : PySem.W.nsIn K mainGlobals "check_state" = some (some (.ref f33)))
    (l33 : K.lookup f33 = some ⟨oc33, od33, .func (PySem.W.fnOf "check_state" "check_state" (defArgs (topS 21)) (defBody (topS 21)) (defScope (topS 21)) .none kV33 dc33 pm33 an33 cd33 ct33), sl33⟩) (c33 : PySem.W.codeIn K cd33 "check_state" = true) (k33 : PySem.W.keepIn K (.ref f33) = true)
    (m21 : PySem.W.findIn K (.ref D0) "__init__" = some (some (.ref f34)))
    (l34 : K.lookup f34 = some ⟨oc34, od34, .func (PySem.W.fnOf "__init__" "Disk.__init__" (defArgs (inClass (topS 27) 0)) (defBody (inClass (topS 27) 0)) (defScope (inClass (topS 27) 0)) .none kV34 dc34 pm34 an34 cd34 ct34), sl34⟩) (c34 : PySem.W.codeIn K cd34 "Disk.__init__" = true) (k34 : PySem.W.keepIn K (.ref f34) = true)
    (i34 : PySem.W.isFn K (.ref f34) = true)
    (a35 : PySem.W.nsIn K mainGlobals "disk_of" = some (some (.ref f35)))
    (l35 : K.lookup f35 = some ⟨oc35, od35, .func (PySem.W.fnOf "disk_of" "disk_of" (defArgs (topS 36)) (defBody (topS 36)) (defScope (topS 36)) .none kV35 dc35 pm35 an35 cd35 ct35), sl35⟩) (c35 : PySem.W.codeIn K cd35 "disk_of" = true) (k35 : PySem.W.keepIn K (.ref f35) = true)
    (a36 : PySem.W.nsIn K mainGlobals "disk_at" = some (some (.ref f36)))
    (l36 : K.lookup f36 = some ⟨oc36, od36, .func (PySem.W.fnOf "disk_at" "disk_at" (defArgs (topS 37)) (defBody (topS 37)) (defScope (topS 37)) .none kV36 dc36 pm36 an36 cd36 ct36), sl36⟩) (c36 : PySem.W.codeIn K cd36 "disk_at" = true) (k36 : PySem.W.keepIn K (.ref f36) = true)
    (a37 : PySem.W.nsIn K mainGlobals "lots_at" = some (some (.ref f37)))
    (l37 : K.lookup f37 = some ⟨oc37, od37, .func (PySem.W.fnOf "lots_at" "lots_at" (defArgs (topS 38)) (defBody (topS 38)) (defScope (topS 38)) .none kV37 dc37 pm37 an37 cd37 ct37), sl37⟩) (c37 : PySem.W.codeIn K cd37 "lots_at" = true) (k37 : PySem.W.keepIn K (.ref f37) = true)
    (a38 : PySem.W.nsIn K mainGlobals "law" = some (some (.ref f38)))
    (l38 : K.lookup f38 = some ⟨oc38, od38, .func (PySem.W.fnOf "law" "law" (defArgs (topS 51)) (defBody (topS 51)) (defScope (topS 51)) .none kV38 dc38 pm38 an38 cd38 ct38), sl38⟩) (c38 : PySem.W.codeIn K cd38 "law" = true) (k38 : PySem.W.keepIn K (.ref f38) = true)
    (z0 : PySem.W.nsIn K mainGlobals "abs" = some none)
    (z1 : PySem.W.nsIn K mainGlobals "all" = some none)
    (z2 : PySem.W.nsIn K mainGlobals "bool" = some none)
    (z3 : PySem.W.nsIn K mainGlobals "enumerate" = some none)
    (z4 : PySem.W.nsIn K mainGlobals "int" = some none)
    (z5 : PySem.W.nsIn K mainGlobals "isinstance" = some none)
    (z6 : PySem.W.nsIn K mainGlobals "len" = some none)
    (z7 : PySem.W.nsIn K mainGlobals "list" = some none)
    (z8 : PySem.W.nsIn K mainGlobals "range" = some none)
    (z9 : PySem.W.nsIn K mainGlobals "set" = some none)
    (z10 : PySem.W.nsIn K mainGlobals "sorted" = some none)
    (z11 : PySem.W.nsIn K mainGlobals "str" = some none)
    (z12 : PySem.W.nsIn K mainGlobals "tuple" = some none)
    (y0 : PySem.W.nsIn K mainGlobals "MOST_ITEM" = some (some (.int 1000000000000 t0)))
    (y1 : PySem.W.nsIn K mainGlobals "MOST_ITEMS" = some (some (.int 32 t1)))
    (y2 : PySem.W.nsIn K mainGlobals "MOST_SECTORS" = some (some (.int 64 t2)))
    (y3 : PySem.W.nsIn K mainGlobals "MOST_STEPS" = some (some (.int 200 t3)))
    : ∃ fd : FuncData, (∀ (s : Shared) (v : Value), BindsTo s fd ⟨[v], []⟩ [("script", v)]) ∧ ∀ base : Heap, K.In base → base.Ns mainGlobals mg → FnOk l.prog w K mg base (L2.CX l.prog w) 11 fa fd ["script"] (spLaw K) := by
  have e := hfa.symm.trans (PySem.W.mg_of X G a38)
  cases e
  have cl0 : Cls K D0 := ⟨pg0, hd0, po0, sa0⟩
  have cl1 : Cls K D1 := ⟨pg1, hd1, po1, sa1⟩
  have T : Txt K mg := ⟨PySem.W.mg_none_of X G z0, PySem.W.mg_none_of X G z1, PySem.W.mg_none_of X G z2, PySem.W.mg_none_of X G z3, PySem.W.mg_none_of X G z4, PySem.W.mg_none_of X G z5, PySem.W.mg_none_of X G z6, PySem.W.mg_none_of X G z7, PySem.W.mg_none_of X G z8, PySem.W.mg_none_of X G z9, PySem.W.mg_none_of X G z10, PySem.W.mg_none_of X G z11, PySem.W.mg_none_of X G z12, ⟨_, PySem.W.mg_of X G y0⟩, ⟨_, PySem.W.mg_of X G y1⟩, ⟨_, PySem.W.mg_of X G y2⟩, ⟨_, PySem.W.mg_of X G y3⟩, fldOk oa0 cl0 nf0, fldOk oa0 cl0 nf1, fldOk oa0 cl0 nf2, fldOk oa1 cl1 nf3, fldOk oa1 cl1 nf4⟩
  have F0 := fun_mk (st := (topS 42)) l0 c0 k0
  have F1 := fun_mk (st := (topS 43)) l1 c1 k1
  have F2 := fun_mk (st := (inClass (topS 33) 1)) l2 c2 k2
  have F3 := fun_mk (st := (topS 13)) l3 c3 k3
  have F4 := fun_mk (st := (topS 32)) l4 c4 k4
  have F5 := fun_mk (st := (topS 49)) l5 c5 k5
  have F6 := fun_mk (st := (inClass (topS 27) 3)) l6 c6 k6
  have F7 := fun_mk (st := (inClass (topS 27) 6)) l7 c7 k7
  have F8 := fun_mk (st := (topS 48)) l8 c8 k8
  have F9 := fun_mk (st := (topS 39)) l9 c9 k9
  have F10 := fun_mk (st := (topS 50)) l10 c10 k10
  have F11 := fun_mk (st := (inClass (topS 27) 5)) l11 c11 k11
  have F12 := fun_mk (st := (inClass (topS 27) 4)) l12 c12 k12
  have F13 := fun_mk (st := (topS 16)) l13 c13 k13
  have F14 := fun_mk (st := (topS 19)) l14 c14 k14
  have F15 := fun_mk (st := (topS 44)) l15 c15 k15
  have F16 := fun_mk (st := (topS 46)) l16 c16 k16
  have F17 := fun_mk (st := (topS 14)) l17 c17 k17
  have F18 := fun_mk (st := (inClass (topS 27) 2)) l18 c18 k18
  have F19 := fun_mk (st := (topS 26)) l19 c19 k19
  have F20 := fun_mk (st := (topS 45)) l20 c20 k20
  have F21 := fun_mk (st := (topS 47)) l21 c21 k21
  have F22 := fun_mk (st := (topS 17)) l22 c22 k22
  have F23 := fun_mk (st := (topS 15)) l23 c23 k23
  have F24 := fun_mk (st := (inClass (topS 27) 7)) l24 c24 k24
  have F25 := fun_mk (st := (topS 18)) l25 c25 k25
  have F26 := fun_mk (st := (topS 29)) l26 c26 k26
  have F27 := fun_mk (st := (topS 35)) l27 c27 k27
  have F28 := fun_mk (st := (inClass (topS 27) 1)) l28 c28 k28
  have F29 := fun_mk (st := (topS 20)) l29 c29 k29
  have F30 := fun_mk (st := (topS 34)) l30 c30 k30
  have F31 := fun_mk (st := (topS 40)) l31 c31 k31
  have F32 := fun_mk (st := (inClass (topS 33) 0)) l32 c32 k32
  have F33 := fun_mk (st := (topS 21)) l33 c33 k33
  have F34 := fun_mk (st := (inClass (topS 27) 0)) l34 c34 k34
  have F35 := fun_mk (st := (topS 36)) l35 c35 k35
  have F36 := fun_mk (st := (topS 37)) l36 c36 k36
  have F37 := fun_mk (st := (topS 38)) l37 c37 k37
  have F38 := fun_mk (st := (topS 51)) l38 c38 k38
  refine ⟨PySem.W.fnOf "law" "law" (defArgs (topS 51)) (defBody (topS 51)) (defScope (topS 51)) .none kV38 dc38 pm38 an38 cd38 ct38, fun s v => .of_eq rfl, fun base _ _ => ?_⟩
  have c__law_hand : Has l.prog w K mg base "_law_hand" 1 ["script"] (spL K mg m__law_hand) := ⟨⟨f0, _, PySem.W.mg_of X G a0, k0, F0.binds (ps := ["script"]) fun _ _ _ _ _ _ us hl => match us, hl with | [_], _ => rfl, ok__law_hand F0 T ⟩⟩
  have c__law_draw : Has l.prog w K mg base "_law_draw" 1 ["hand", "many"] (spM K mg m__law_draw) := ⟨⟨f1, _, PySem.W.mg_of X G a1, k1, F1.binds (ps := ["hand", "many"]) fun _ _ _ _ _ _ us hl => match us, hl with | [_, _], _ => rfl, ok__law_draw F1 T ⟩⟩
  have o_Plan_keep := ok_Plan_keep (P := l.prog) (w := w) (base := base) F2 T 
  have b_Plan_keep : Binds K _ ["self", "state", "steps"] [] := F2.binds (ps := ["self", "state", "steps"]) fun _ _ _ _ _ _ us hl => match us, hl with | [_, _, _], _ => rfl
  have c_Plan_keep : MthOk l.prog w K mg base "Plan" "keep" 1 ["self", "state", "steps"] (spM K mg m_Plan_keep) := mthOk oa1 cl1 ⟨m16, i2, k2⟩ b_Plan_keep o_Plan_keep
  have c_is_integer : Has l.prog w K mg base "is_integer" 1 ["thing"] (spM K mg m_is_integer) := ⟨⟨f3, _, PySem.W.mg_of X G a3, k3, F3.binds (ps := ["thing"]) fun _ _ _ _ _ _ us hl => match us, hl with | [_], _ => rfl, ok_is_integer F3 T ⟩⟩
  have c_is_deed_step : Has l.prog w K mg base "is_deed_step" 1 ["thing"] (spM K mg m_is_deed_step) := ⟨⟨f4, _, PySem.W.mg_of X G a4, k4, F4.binds (ps := ["thing"]) fun _ _ _ _ _ _ us hl => match us, hl with | [_], _ => rfl, ok_is_deed_step F4 T ⟩⟩
  have c__law_behind : Has l.prog w K mg base "_law_behind" 1 ["state", "steps"] (spM K mg m__law_behind) := ⟨⟨f5, _, PySem.W.mg_of X G a5, k5, F5.binds (ps := ["state", "steps"]) fun _ _ _ _ _ _ us hl => match us, hl with | [_, _], _ => rfl, ok__law_behind F5 T ⟩⟩
  have o_Disk_tell := ok_Disk_tell (P := l.prog) (w := w) (base := base) F6 T 
  have b_Disk_tell : Binds K _ ["self"] [] := F6.binds (ps := ["self"]) fun _ _ _ _ _ _ us hl => match us, hl with | [_], _ => rfl
  have c_Disk_tell : MthOk l.prog w K mg base "Disk" "tell" 1 ["self"] (spM K mg m_Disk_tell) := mthOk oa0 cl0 ⟨m2, i6, k6⟩ b_Disk_tell o_Disk_tell
  have o_Disk_waiting := ok_Disk_waiting (P := l.prog) (w := w) (base := base) F7 T 
  have b_Disk_waiting : Binds K _ ["self"] [] := F7.binds (ps := ["self"]) fun _ _ _ _ _ _ us hl => match us, hl with | [_], _ => rfl
  have c_Disk_waiting : MthOk l.prog w K mg base "Disk" "waiting" 1 ["self"] (spM K mg m_Disk_waiting) := mthOk oa0 cl0 ⟨m31, i7, k7⟩ b_Disk_waiting o_Disk_waiting
  have c__law_lots : Has l.prog w K mg base "_law_lots" 1 ["settled", "waiting", "tears"] (spM K mg m__law_lots) := ⟨⟨f8, _, PySem.W.mg_of X G a8, k8, F8.binds (ps := ["settled", "waiting", "tears"]) fun _ _ _ _ _ _ us hl => match us, hl with | [_, _, _], _ => rfl, ok__law_lots F8 T ⟩⟩
  have c_bounds_of : Has l.prog w K mg base "bounds_of" 1 ["steps"] (spM K mg m_bounds_of) := ⟨⟨f9, _, PySem.W.mg_of X G a9, k9, F9.binds (ps := ["steps"]) fun _ _ _ _ _ _ us hl => match us, hl with | [_], _ => rfl, ok_bounds_of F9 T ⟩⟩
  have c__law_bounds : Has l.prog w K mg base "_law_bounds" 1 ["steps"] (spM K mg m__law_bounds) := ⟨⟨f10, _, PySem.W.mg_of X G a10, k10, F10.binds (ps := ["steps"]) fun _ _ _ _ _ _ us hl => match us, hl with | [_], _ => rfl, ok__law_bounds F10 T ⟩⟩
  have o_Disk_settled := ok_Disk_settled (P := l.prog) (w := w) (base := base) F11 T 
  have b_Disk_settled : Binds K _ ["self"] [] := F11.binds (ps := ["self"]) fun _ _ _ _ _ _ us hl => match us, hl with | [_], _ => rfl
  have c_Disk_settled : MthOk l.prog w K mg base "Disk" "settled" 1 ["self"] (spM K mg m_Disk_settled) := mthOk oa0 cl0 ⟨m35, i11, k11⟩ b_Disk_settled o_Disk_settled
  have o_Disk_now := ok_Disk_now (P := l.prog) (w := w) (base := base) F12 T 
  have b_Disk_now : Binds K _ ["self"] [] := F12.binds (ps := ["self"]) fun _ _ _ _ _ _ us hl => match us, hl with | [_], _ => rfl
  have c_Disk_now : MthOk l.prog w K mg base "Disk" "now" 1 ["self"] (spM K mg m_Disk_now) := mthOk oa0 cl0 ⟨m36, i12, k12⟩ b_Disk_now o_Disk_now
  have c_check_flag : Has l.prog w K mg base "check_flag" 1 ["thing"] (spM K mg m_check_flag) := ⟨⟨f13, _, PySem.W.mg_of X G a13, k13, F13.binds (ps := ["thing"]) fun _ _ _ _ _ _ us hl => match us, hl with | [_], _ => rfl, ok_check_flag F13 T ⟩⟩
  have c_in_order : Has l.prog w K mg base "in_order" 1 ["things"] (spM K mg m_in_order) := ⟨⟨f14, _, PySem.W.mg_of X G a14, k14, F14.binds (ps := ["things"]) fun _ _ _ _ _ _ us hl => match us, hl with | [_], _ => rfl, ok_in_order F14 T ⟩⟩
  have c__law_value : Has l.prog w K mg base "_law_value" 2 ["hand"] (spM K mg m__law_value) := ⟨⟨f15, _, PySem.W.mg_of X G a15, k15, F15.binds (ps := ["hand"]) fun _ _ _ _ _ _ us hl => match us, hl with | [_], _ => rfl, ok__law_value F15 T c__law_draw⟩⟩
  have c__law_any : Has l.prog w K mg base "_law_any" 2 ["hand", "things"] (spM K mg m__law_any) := ⟨⟨f16, _, PySem.W.mg_of X G a16, k16, F16.binds (ps := ["hand", "things"]) fun _ _ _ _ _ _ us hl => match us, hl with | [_, _], _ => rfl, ok__law_any F16 T c__law_draw⟩⟩
  have c_is_between : Has l.prog w K mg base "is_between" 2 ["thing", "least", "most"] (spM K mg m_is_between) := ⟨⟨f17, _, PySem.W.mg_of X G a17, k17, F17.binds (ps := ["thing", "least", "most"]) fun _ _ _ _ _ _ us hl => match us, hl with | [_, _, _], _ => rfl, ok_is_between F17 T c_is_integer⟩⟩
  have o_Disk_barrier := ok_Disk_barrier (P := l.prog) (w := w) (base := base) F18 T c_Disk_tell
  have b_Disk_barrier : Binds K _ ["self"] [] := F18.binds (ps := ["self"]) fun _ _ _ _ _ _ us hl => match us, hl with | [_], _ => rfl
  have c_Disk_barrier : MthOk l.prog w K mg base "Disk" "barrier" 2 ["self"] (spM K mg m_Disk_barrier) := mthOk oa0 cl0 ⟨m13, i18, k18⟩ b_Disk_barrier o_Disk_barrier
  have c_lots_from : Has l.prog w K mg base "lots_from" 2 ["settled", "waiting", "tears"] (spM K mg m_lots_from) := ⟨⟨f19, _, PySem.W.mg_of X G a19, k19, F19.binds (ps := ["settled", "waiting", "tears"]) fun _ _ _ _ _ _ us hl => match us, hl with | [_, _, _], _ => rfl, ok_lots_from F19 T c_in_order⟩⟩
  have c__law_pool : Has l.prog w K mg base "_law_pool" 3 ["hand"] (spL K mg m__law_pool) := ⟨⟨f20, _, PySem.W.mg_of X G a20, k20, F20.binds (ps := ["hand"]) fun _ _ _ _ _ _ us hl => match us, hl with | [_], _ => rfl, ok__law_pool F20 T c__law_value⟩⟩
  have c__law_steps : Has l.prog w K mg base "_law_steps" 3 ["hand", "pool", "sectors", "many"] (spM K mg m__law_steps) := ⟨⟨f21, _, PySem.W.mg_of X G a21, k21, F21.binds (ps := ["hand", "pool", "sectors", "many"]) fun _ _ _ _ _ _ us hl => match us, hl with | [_, _, _, _], _ => rfl, ok__law_steps F21 T c__law_draw c__law_any⟩⟩
  have c_is_value : Has l.prog w K mg base "is_value" 3 ["thing"] (spM K mg m_is_value) := ⟨⟨f22, _, PySem.W.mg_of X G a22, k22, F22.binds (ps := ["thing"]) fun _ _ _ _ _ _ us hl => match us, hl with | [_], _ => rfl, ok_is_value F22 T c_is_between⟩⟩
  have c_is_index : Has l.prog w K mg base "is_index" 3 ["thing", "many"] (spM K mg m_is_index) := ⟨⟨f23, _, PySem.W.mg_of X G a23, k23, F23.binds (ps := ["thing", "many"]) fun _ _ _ _ _ _ us hl => match us, hl with | [_, _], _ => rfl, ok_is_index F23 T c_is_between⟩⟩
  have o_Disk_lots := ok_Disk_lots (P := l.prog) (w := w) (base := base) F24 T c_check_flag c_lots_from
  have b_Disk_lots : Binds K _ ["self", "tears"] [] := F24.binds (ps := ["self", "tears"]) fun _ _ _ _ _ _ us hl => match us, hl with | [_, _], _ => rfl
  have c_Disk_lots : MthOk l.prog w K mg base "Disk" "lots" 3 ["self", "tears"] (spM K mg m_Disk_lots) := mthOk oa0 cl0 ⟨m24, i24, k24⟩ b_Disk_lots o_Disk_lots
  have c_is_held : Has l.prog w K mg base "is_held" 4 ["thing"] (spM K mg m_is_held) := ⟨⟨f25, _, PySem.W.mg_of X G a25, k25, F25.binds (ps := ["thing"]) fun _ _ _ _ _ _ us hl => match us, hl with | [_], _ => rfl, ok_is_held F25 T c_is_value⟩⟩
  have c_is_disk_step : Has l.prog w K mg base "is_disk_step" 4 ["thing", "sectors"] (spM K mg m_is_disk_step) := ⟨⟨f26, _, PySem.W.mg_of X G a26, k26, F26.binds (ps := ["thing", "sectors"]) fun _ _ _ _ _ _ us hl => match us, hl with | [_, _], _ => rfl, ok_is_disk_step F26 T c_is_index c_is_value⟩⟩
  have c_check_moment : Has l.prog w K mg base "check_moment" 4 ["plan", "thing"] (spM K mg m_check_moment) := ⟨⟨f27, _, PySem.W.mg_of X G a27, k27, F27.binds (ps := ["plan", "thing"]) fun _ _ _ _ _ _ us hl => match us, hl with | [_, _], _ => rfl, ok_check_moment F27 T c_is_index⟩⟩
  have o_Disk_write := ok_Disk_write (P := l.prog) (w := w) (base := base) F28 T c_Disk_tell c_is_index c_is_value
  have b_Disk_write : Binds K _ ["self", "sector", "value"] [] := F28.binds (ps := ["self", "sector", "value"]) fun _ _ _ _ _ _ us hl => match us, hl with | [_, _, _], _ => rfl
  have c_Disk_write : MthOk l.prog w K mg base "Disk" "write" 4 ["self", "sector", "value"] (spM K mg m_Disk_write) := mthOk oa0 cl0 ⟨m12, i28, k28⟩ b_Disk_write o_Disk_write
  have c_is_state : Has l.prog w K mg base "is_state" 5 ["thing"] (spM K mg m_is_state) := ⟨⟨f29, _, PySem.W.mg_of X G a29, k29, F29.binds (ps := ["thing"]) fun _ _ _ _ _ _ us hl => match us, hl with | [_], _ => rfl, ok_is_state F29 T c_is_held⟩⟩
  have c_do_step : Has l.prog w K mg base "do_step" 5 ["disk", "step"] (spM K mg m_do_step) := ⟨⟨f30, _, PySem.W.mg_of X G a30, k30, F30.binds (ps := ["disk", "step"]) fun _ _ _ _ _ _ us hl => match us, hl with | [_, _], _ => rfl, ok_do_step F30 T c_Disk_write c_Disk_barrier⟩⟩
  have c_bounds_at : Has l.prog w K mg base "bounds_at" 5 ["plan", "moment"] (spM K mg m_bounds_at) := ⟨⟨f31, _, PySem.W.mg_of X G a31, k31, F31.binds (ps := ["plan", "moment"]) fun _ _ _ _ _ _ us hl => match us, hl with | [_, _], _ => rfl, ok_bounds_at F31 T c_check_moment c_bounds_of⟩⟩
  have o_Plan___init__ := ok_Plan___init__ (P := l.prog) (w := w) (base := base) F32 T c_Plan_keep c_is_state c_is_disk_step c_is_deed_step
  have b_Plan___init__ : Binds K _ ["self", "state", "steps"] [] := F32.binds (ps := ["self", "state", "steps"]) fun _ _ _ _ _ _ us hl => match us, hl with | [_, _, _], _ => rfl
  have k_Plan : MakOk l.prog w K mg base "Plan" 6 ["self", "state", "steps"] (spM K mg m_Plan___init__) := ⟨⟨D1, f32, _, oa1, PySem.W.mg_of X G oa1, ⟨mk1, m28, i32, kc1⟩, b_Plan___init__, o_Plan___init__⟩⟩
  have c_check_state : Has l.prog w K mg base "check_state" 6 ["thing"] (spM K mg m_check_state) := ⟨⟨f33, _, PySem.W.mg_of X G a33, k33, F33.binds (ps := ["thing"]) fun _ _ _ _ _ _ us hl => match us, hl with | [_], _ => rfl, ok_check_state F33 T c_is_state⟩⟩
  have o_Disk___init__ := ok_Disk___init__ (P := l.prog) (w := w) (base := base) F34 T c_check_state
  have b_Disk___init__ : Binds K _ ["self", "state"] [] := F34.binds (ps := ["self", "state"]) fun _ _ _ _ _ _ us hl => match us, hl with | [_, _], _ => rfl
  have k_Disk : MakOk l.prog w K mg base "Disk" 7 ["self", "state"] (spM K mg m_Disk___init__) := ⟨⟨D0, f34, _, oa0, PySem.W.mg_of X G oa0, ⟨mk0, m21, i34, kc0⟩, b_Disk___init__, o_Disk___init__⟩⟩
  have c_disk_of : Has l.prog w K mg base "disk_of" 9 ["plan", "moment"] (spM K mg m_disk_of) := ⟨⟨f35, _, PySem.W.mg_of X G a35, k35, F35.binds (ps := ["plan", "moment"]) fun _ _ _ _ _ _ us hl => match us, hl with | [_, _], _ => rfl, ok_disk_of F35 T k_Disk c_do_step⟩⟩
  have c_disk_at : Has l.prog w K mg base "disk_at" 10 ["plan", "moment"] (spM K mg m_disk_at) := ⟨⟨f36, _, PySem.W.mg_of X G a36, k36, F36.binds (ps := ["plan", "moment"]) fun _ _ _ _ _ _ us hl => match us, hl with | [_, _], _ => rfl, ok_disk_at F36 T c_check_moment c_disk_of⟩⟩
  have c_lots_at : Has l.prog w K mg base "lots_at" 10 ["plan", "moment", "tears"] (spM K mg m_lots_at) := ⟨⟨f37, _, PySem.W.mg_of X G a37, k37, F37.binds (ps := ["plan", "moment", "tears"]) fun _ _ _ _ _ _ us hl => match us, hl with | [_, _, _], _ => rfl, ok_lots_at F37 T c_check_moment c_check_flag c_Disk_lots c_disk_of⟩⟩
  exact (ok_law F38 T c__law_hand c__law_pool c__law_steps k_Plan c__law_draw c__law_behind c_disk_at c_Disk_write c_Disk_barrier c__law_any c_Disk_waiting c__law_lots c_bounds_at c__law_bounds c_Disk_settled c_Disk_now c_lots_at c_Disk_lots).imp fun vs H Q E h => sp_law ht h
end My
open PySem PySem.W PyProof.Rows
set_option maxHeartbeats 0 in
theorem PySem.Challenge.cw_tornsectors_k14_whole_what_crashes_leave_holds : PySem.Challenge.rw_tornsectors_k14_whole_what_crashes_leave.Holds := by
  w_on; o_law; k_head; (case hw => w_witness2)
  k_fill
  refine L2.walk_of (k := 11) (l := PySem.Challenge.rw_tornsectors_k14_whole_what_crashes_leave) (n := 63) (x := "script") (CX := fun w => L2.CX PySem.Challenge.rw_tornsectors_k14_whole_what_crashes_leave.prog w) (sp := fun w => AB.spLaw _) rfl (by decide) rfl ⟨rfl, by decide, by decide⟩ (fun w h Y => PySem.W.kIn_of Y) ?F (fun _ _ a ns hl _ hS => ⟨a, ns, rfl, hS, hl, fun _ => rfl⟩) (fun _ _ _ _ _ h => AB.cx_false h)
  case F =>
    intro w mg fa h KX G hmg
    refine' My.all_mk KX G hmg My.law_true ?oa0 ?pg0 ?hd0 ?po0 ?sa0 ?mk0 ?kc0 ?oa1 ?pg1 ?hd1 ?po1 ?sa1 ?mk1 ?kc1 ?nf0 ?nf1 ?nf2 ?nf3 ?nf4 ?a0 ?l0 ?c0 ?k0 ?a1 ?l1 ?c1 ?k1 ?m16 ?i2 ?l2 ?c2 ?k2 ?a3 ?l3 ?c3 ?k3 ?a4 ?l4 ?c4 ?k4 ?a5 ?l5 ?c5 ?k5 ?m2 ?i6 ?l6 ?c6 ?k6 ?m31 ?i7 ?l7 ?c7 ?k7 ?a8 ?l8 ?c8 ?k8 ?a9 ?l9 ?c9 ?k9 ?a10 ?l10 ?c10 ?k10 ?m35 ?i11 ?l11 ?c11 ?k11 ?m36 ?i12 ?l12 ?c12 ?k12 ?a13 ?l13 ?c13 ?k13 ?a14 ?l14 ?c14 ?k14 ?a15 ?l15 ?c15 ?k15 ?a16 ?l16 ?c16 ?k16 ?a17 ?l17 ?c17 ?k17 ?m13 ?i18 ?l18 ?c18 ?k18 ?a19 ?l19 ?c19 ?k19 ?a20 ?l20 ?c20 ?k20 ?a21 ?l21 ?c21 ?k21 ?a22 ?l22 ?c22 ?k22 ?a23 ?l23 ?c23 ?k23 ?m24 ?i24 ?l24 ?c24 ?k24 ?a25 ?l25 ?c25 ?k25 ?a26 ?l26 ?c26 ?k26 ?a27 ?l27 ?c27 ?k27 ?m12 ?i28 ?l28 ?c28 ?k28 ?a29 ?l29 ?c29 ?k29 ?a30 ?l30 ?c30 ?k30 ?a31 ?l31 ?c31 ?k31 ?m28 ?i32 ?l32 ?c32 ?k32 ?a33 ?l33 ?c33 ?k33 ?m21 ?i34 ?l34 ?c34 ?k34 ?a35 ?l35 ?c35 ?k35 ?a36 ?l36 ?c36 ?k36 ?a37 ?l37 ?c37 ?k37 ?a38 ?l38 ?c38 ?k38 ?z0 ?z1 ?z2 ?z3 ?z4 ?z5 ?z6 ?z7 ?z8 ?z9 ?z10 ?z11 ?z12 ?y0 ?y1 ?y2 ?y3
    (case oa0 => k_is); (case pg0 => k_is); (case hd0 => k_is); (case po0 => k_is); (case sa0 => k_is); (case mk0 => k_is); (case kc0 => k_is); (case oa1 => k_is); (case pg1 => k_is); (case hd1 => k_is); (case po1 => k_is); (case sa1 => k_is); (case mk1 => k_is); (case kc1 => k_is); (case nf0 => k_is); (case nf1 => k_is); (case nf2 => k_is); (case nf3 => k_is); (case nf4 => k_is); (case a0 => k_is); (case l0 => k_is); (case c0 => k_is); (case k0 => k_is); (case a1 => k_is); (case l1 => k_is); (case c1 => k_is); (case k1 => k_is); (case m16 => k_is); (case i2 => k_is); (case l2 => k_is); (case c2 => k_is); (case k2 => k_is); (case a3 => k_is); (case l3 => k_is); (case c3 => k_is); (case k3 => k_is); (case a4 => k_is); (case l4 => k_is); (case c4 => k_is); (case k4 => k_is); (case a5 => k_is); (case l5 => k_is); (case c5 => k_is); (case k5 => k_is); (case m2 => k_is); (case i6 => k_is); (case l6 => k_is); (case c6 => k_is); (case k6 => k_is); (case m31 => k_is); (case i7 => k_is); (case l7 => k_is); (case c7 => k_is); (case k7 => k_is); (case a8 => k_is); (case l8 => k_is); (case c8 => k_is); (case k8 => k_is); (case a9 => k_is); (case l9 => k_is); (case c9 => k_is); (case k9 => k_is); (case a10 => k_is); (case l10 => k_is); (case c10 => k_is); (case k10 => k_is); (case m35 => k_is); (case i11 => k_is); (case l11 => k_is); (case c11 => k_is); (case k11 => k_is); (case m36 => k_is); (case i12 => k_is); (case l12 => k_is); (case c12 => k_is); (case k12 => k_is); (case a13 => k_is); (case l13 => k_is); (case c13 => k_is); (case k13 => k_is); (case a14 => k_is); (case l14 => k_is); (case c14 => k_is); (case k14 => k_is); (case a15 => k_is); (case l15 => k_is); (case c15 => k_is); (case k15 => k_is); (case a16 => k_is); (case l16 => k_is); (case c16 => k_is); (case k16 => k_is); (case a17 => k_is); (case l17 => k_is); (case c17 => k_is); (case k17 => k_is); (case m13 => k_is); (case i18 => k_is); (case l18 => k_is); (case c18 => k_is); (case k18 => k_is); (case a19 => k_is); (case l19 => k_is); (case c19 => k_is); (case k19 => k_is); (case a20 => k_is); (case l20 => k_is); (case c20 => k_is); (case k20 => k_is); (case a21 => k_is); (case l21 => k_is); (case c21 => k_is); (case k21 => k_is); (case a22 => k_is); (case l22 => k_is); (case c22 => k_is); (case k22 => k_is); (case a23 => k_is); (case l23 => k_is); (case c23 => k_is); (case k23 => k_is); (case m24 => k_is); (case i24 => k_is); (case l24 => k_is); (case c24 => k_is); (case k24 => k_is); (case a25 => k_is); (case l25 => k_is); (case c25 => k_is); (case k25 => k_is); (case a26 => k_is); (case l26 => k_is); (case c26 => k_is); (case k26 => k_is); (case a27 => k_is); (case l27 => k_is); (case c27 => k_is); (case k27 => k_is); (case m12 => k_is); (case i28 => k_is); (case l28 => k_is); (case c28 => k_is); (case k28 => k_is); (case a29 => k_is); (case l29 => k_is); (case c29 => k_is); (case k29 => k_is); (case a30 => k_is); (case l30 => k_is); (case c30 => k_is); (case k30 => k_is); (case a31 => k_is); (case l31 => k_is); (case c31 => k_is); (case k31 => k_is); (case m28 => k_is); (case i32 => k_is); (case l32 => k_is); (case c32 => k_is); (case k32 => k_is); (case a33 => k_is); (case l33 => k_is); (case c33 => k_is); (case k33 => k_is); (case m21 => k_is); (case i34 => k_is); (case l34 => k_is); (case c34 => k_is); (case k34 => k_is); (case a35 => k_is); (case l35 => k_is); (case c35 => k_is); (case k35 => k_is); (case a36 => k_is); (case l36 => k_is); (case c36 => k_is); (case k36 => k_is); (case a37 => k_is); (case l37 => k_is); (case c37 => k_is); (case k37 => k_is); (case a38 => k_is); (case l38 => k_is); (case c38 => k_is); (case k38 => k_is); (case z0 => k_is); (case z1 => k_is); (case z2 => k_is); (case z3 => k_is); (case z4 => k_is); (case z5 => k_is); (case z6 => k_is); (case z7 => k_is); (case z8 => k_is); (case z9 => k_is); (case z10 => k_is); (case z11 => k_is); (case z12 => k_is); (case y0 => k_is); (case y1 => k_is); (case y2 => k_is); (case y3 => k_is)
