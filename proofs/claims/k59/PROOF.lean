import PyProof.Rows.All
import Wide.All
import OpenK.AllK
import Wide.FinOn
import HandS.ForMost
import HandS.ForExc
import HandS.Walk
import HandS.Flow
import HandS.Style
import HandS.Wide
import HandS.TupAny
import HandS.TupLe
import HandS.TupMul
import HandS.Deep
import HandS.IsInst
import HandS.Zip
import HandS.SortInts
import HandS.Conv
import KE.SortData
import KE.DataCmp
import KE.DataMinMax
import KE.KIndexOf
import PyProof.SeqIndex
import KE.GoesEnum
import HandS.Iter
import PyProof.P3Eq
import HandS.Small
import HandS.ExcOwn
import HandS.RaiseMore
import HandS.Dict
import HandS.SetKeys
import KE.DatumOrd
import PySem.Challenge.RW_tornsectors_k59_whole_mended_states
set_option Elab.async false
set_option linter.all false
set_option maxRecDepth 100000
set_option maxHeartbeats 4000000
/-! AB: an abstract machine over data, and how the hand layer's judgements follow it. -/
namespace AB
open PySem PySem.Spec PyProof.Rows L2

inductive D where
  | non | bl (b : Bool) | int (i : Int) | str (x : Str) | tup (ds : List D) | lst (ds : List D) | rol (ds : List D) | loc (n : Nat) | con (a : Addr)
inductive AO where
  | lst (ds : List D)
  | ins (C : Str) (fs : List (Str × D))
  | dct (kvs : List (L2.Key × D))
  /-- a dict while a loop walks it -/
  | lck (kvs : List (L2.Key × D))
abbrev AH := List AO
abbrev Env := List (Option D)

/-- what stands for ever (S), what must stay as it is now (F), where the machine's objects lie (mu), how many they are (N) -/
structure Wd where
  S : Hp
  F : Hp
  mu : Nat → Addr
  N : Nat
  LK : Hp

mutual
inductive RepV (K : PySem.W.Frag) (G : Hp) (mu : Nat → Addr) (N : Nat) : V → D → Prop
  | non : RepV K G mu N .non .non
  | bl (b : Bool) : RepV K G mu N (.bl b) (.bl b)
  | int (i : Int) : RepV K G mu N (.int i) (.int i)
  | str (x : Str) : RepV K G mu N (.str x) (.str x)
  | tup {a : Addr} {xs : List V} {ds : List D} : SqT K G a xs → RepAll K G mu N xs ds → RepV K G mu N (.ref a) (.tup ds)
  | lst {a : Addr} {xs : List V} {ds : List D} : Rd G a (.lst xs) → RepAll K G mu N xs ds → RepV K G mu N (.ref a) (.lst ds)
  | rol {a : Addr} {xs : List V} {ds : List D} : SqL K G a xs → RepAll K G mu N xs ds → RepV K G mu N (.ref a) (.rol ds)
  | loc {n : Nat} : n < N → RepV K G mu N (.ref (mu n)) (.loc n)
  | con {a : Addr} : RepV K G mu N (.ref a) (.con a)
inductive RepAll (K : PySem.W.Frag) (G : Hp) (mu : Nat → Addr) (N : Nat) : List V → List D → Prop
  | nil : RepAll K G mu N [] []
  | cons {v : V} {vs : List V} {d : D} {ds : List D} : RepV K G mu N v d → RepAll K G mu N vs ds → RepAll K G mu N (v :: vs) (d :: ds)
end

section
variable {K : PySem.W.Frag} {G G' H H' : Hp} {mu mu' : Nat → Addr} {N N' : Nat}
def Ext (H H' : Hp) : Prop := ∀ a o, H a = some o → H' a = some o
theorem Ext.refl (H : Hp) : Ext H H := fun _ _ h => h
theorem Ext.trans {H H1 H2 : Hp} (a : Ext H H1) (b : Ext H1 H2) : Ext H H2 := fun x o h => b x o (a x o h)
theorem Ext.new {H : Hp} {p : Addr} {o : HO} (h : H p = none) : Ext H (upd H p o) := fun a u e => by
  rw [upd_ne (ne_of_none e h)]
  exact e
theorem Ext.rd {a : Addr} {u : HO} (e : Ext H H') (h : Rd H a u) : Rd H' a u := by
  rcases h with h | ⟨o, h⟩
  · exact .inl (e a _ h)
  · exact .inr ⟨o, e a _ h⟩
theorem Ext.l {a : Addr} {xs : List V} (e : Ext H H') (h : SqL K H a xs) : SqL K H' a xs := by
  rcases h with h | h
  · exact .inl (e.rd h)
  · exact .inr h
theorem Ext.t {a : Addr} {xs : List V} (e : Ext H H') (h : SqT K H a xs) : SqT K H' a xs := by
  rcases h with h | h
  · exact .inl (e.rd h)
  · exact .inr h
theorem Ext.free {p : Addr} (e : Ext H H') (h : H' p = none) : H p = none := by
  cases h1 : H p with
  | none => rfl
  | some o =>
    rw [e p o h1] at h
    cases h

mutual
theorem RepV.mono (e : Ext G G') (hN : N ≤ N') (hm : ∀ n, n < N → mu' n = mu n) : ∀ (d : D) (v : V), RepV K G mu N v d → RepV K G' mu' N' v d
  | .non, _, h => by cases h; exact .non
  | .bl _, _, h => by cases h; exact .bl _
  | .int _, _, h => by cases h; exact .int _
  | .str _, _, h => by cases h; exact .str _
  | .tup ds, _, h => by
    cases h with
    | tup a b => exact .tup (e.t a) (RepAll.mono e hN hm ds _ b)
  | .lst ds, _, h => by
    cases h with
    | lst a b => exact .lst (e.rd a) (RepAll.mono e hN hm ds _ b)
  | .rol ds, _, h => by
    cases h with
    | rol a b => exact .rol (e.l a) (RepAll.mono e hN hm ds _ b)
  | .loc n, _, h => by
    cases h with
    | loc a =>
      rw [← hm n a]
      exact .loc (Nat.lt_of_lt_of_le a hN)
  | .con _, _, h => by cases h; exact .con
theorem RepAll.mono (e : Ext G G') (hN : N ≤ N') (hm : ∀ n, n < N → mu' n = mu n) : ∀ (ds : List D) (vs : List V), RepAll K G mu N vs ds → RepAll K G' mu' N' vs ds
  | [], _, h => by cases h; exact .nil
  | d :: ds, _, h => by
    cases h with
    | cons a b => exact .cons (RepV.mono e hN hm d _ a) (RepAll.mono e hN hm ds _ b)
end
theorem RepAll.length : ∀ {vs : List V} {ds : List D}, RepAll K G mu N vs ds → vs.length = ds.length
  | _, _, .nil => rfl
  | _, _, .cons _ b => by rw [List.length_cons, List.length_cons, RepAll.length b]
theorem RepAll.append : ∀ {vs ws : List V} {ds es : List D}, RepAll K G mu N vs ds → RepAll K G mu N ws es → RepAll K G mu N (vs ++ ws) (ds ++ es)
  | _, _, _, _, .nil, h => h
  | _, _, _, _, .cons a b, h => .cons a (RepAll.append b h)
theorem RepAll.get : ∀ {vs : List V} {ds : List D} {i : Nat} {d : D}, RepAll K G mu N vs ds → ds[i]? = some d → ∃ v, vs[i]? = some v ∧ RepV K G mu N v d
  | _, _, _, _, .nil, e => by simp at e
  | _, _, 0, _, .cons a _, e => by
    simp at e
    subst e
    exact ⟨_, rfl, a⟩
  | _, _, i + 1, d, .cons _ b, e => by
    obtain ⟨v, h1, h2⟩ := RepAll.get (i := i) (d := d) b (by simpa using e)
    exact ⟨v, by simpa using h1, h2⟩
theorem RepAll.get' : ∀ {vs : List V} {ds : List D} {i : Nat} {v : V}, RepAll K G mu N vs ds → vs[i]? = some v → ∃ d, ds[i]? = some d ∧ RepV K G mu N v d
  | _, _, _, _, .nil, e => by simp at e
  | _, _, 0, _, .cons a _, e => by
    simp at e
    subst e
    exact ⟨_, rfl, a⟩
  | _, _, i + 1, d, .cons _ b, e => by
    obtain ⟨v, h1, h2⟩ := RepAll.get' (i := i) (v := d) b (by simpa using e)
    exact ⟨v, by simpa using h1, h2⟩
theorem RepAll.drop : ∀ {vs : List V} {ds : List D} (n : Nat), RepAll K G mu N vs ds → RepAll K G mu N (vs.drop n) (ds.drop n)
  | _, _, 0, h => h
  | _, _, _ + 1, .nil => .nil
  | _, _, n + 1, .cons _ b => RepAll.drop n b
theorem RepAll.take : ∀ {vs : List V} {ds : List D} (n : Nat), RepAll K G mu N vs ds → RepAll K G mu N (vs.take n) (ds.take n)
  | _, _, 0, _ => .nil
  | _, _, _ + 1, .nil => .nil
  | _, _, n + 1, .cons a b => .cons a (RepAll.take n b)
theorem RepAll.set {v : V} {d : D} (r : RepV K G mu N v d) : ∀ {vs : List V} {ds : List D} (n : Nat), RepAll K G mu N vs ds → RepAll K G mu N (vs.set n v) (ds.set n d)
  | _, _, _, .nil => .nil
  | _, _, 0, .cons _ b => .cons r b
  | _, _, n + 1, .cons a b => .cons a (RepAll.set r n b)
theorem RepAll.reverse : ∀ {vs : List V} {ds : List D}, RepAll K G mu N vs ds → RepAll K G mu N vs.reverse ds.reverse
  | _, _, .nil => .nil
  | _, _, .cons a b => by
    rw [List.reverse_cons, List.reverse_cons]
    exact (RepAll.reverse b).append (.cons a .nil)
theorem RepAll.eraseIdx : ∀ {vs : List V} {ds : List D} (n : Nat), RepAll K G mu N vs ds → RepAll K G mu N (vs.eraseIdx n) (ds.eraseIdx n)
  | _, _, _, .nil => .nil
  | _, _, 0, .cons _ b => b
  | _, _, n + 1, .cons a b => .cons a (RepAll.eraseIdx n b)
end

/-- what stands at a machine's object -/
def RepO (K : PySem.W.Frag) (w : Wd) (H : Hp) (a : Addr) : AO → Prop
  | .lst ds => ∃ xs, H a = some (.lst xs) ∧ RepAll K w.S w.mu w.N xs ds
  | .ins C fs => ∃ Ca dx fv, PySem.W.nsIn K mainGlobals C = some (some (.ref Ca)) ∧ H a = some (.ins Ca dx fv) ∧ fv.map (·.1) = fs.map (·.1) ∧ RepAll K w.S w.mu w.N (fv.map (·.2)) (fs.map (·.2)) ∧ w.S dx = some (.own a)
  | .dct kvs => ∃ kv, H a = some (.dK kv) ∧ kv.map (·.1) = kvs.map (·.1) ∧ RepAll K w.S w.mu w.N (kv.map (·.2)) (kvs.map (·.2))
  | .lck kvs => ∃ o kv, H a = some (.frz o (.dK kv)) ∧ w.LK a = some (.frz o (.dK kv)) ∧ kv.map (·.1) = kvs.map (·.1) ∧ RepAll K w.S w.mu w.N (kv.map (·.2)) (kvs.map (·.2))
structure RepH (K : PySem.W.Frag) (w : Wd) (H : Hp) (h : AH) : Prop where
  ex : Ext w.S H
  len : w.N = h.length
  inj : ∀ m n, m < w.N → n < w.N → w.mu m = w.mu n → m = n
  cell : ∀ n o, h[n]? = some o → w.S (w.mu n) = none ∧ RepO K w H (w.mu n) o
  exF : Ext w.F H
  dis : ∀ a u, w.F a = some u → w.S a = none ∧ ∀ n, n < w.N → w.mu n ≠ a
structure Le (w w' : Wd) : Prop where
  ex : Ext w.S w'.S
  n : w.N ≤ w'.N
  mu : ∀ n, n < w.N → w'.mu n = w.mu n
  f : w'.F = w.F
  lk : w'.LK = w.LK
/-- .. whatever must stay -/
structure LeX (w w' : Wd) : Prop where
  ex : Ext w.S w'.S
  n : w.N ≤ w'.N
  mu : ∀ n, n < w.N → w'.mu n = w.mu n
  lk : w'.LK = w.LK
theorem Le.x {w w' : Wd} (l : Le w w') : LeX w w' := ⟨l.ex, l.n, l.mu, l.lk⟩
theorem LeX.trans {a b c : Wd} (x : LeX a b) (y : LeX b c) : LeX a c :=
  ⟨x.ex.trans y.ex, Nat.le_trans x.n y.n, fun n hn => (y.mu n (Nat.lt_of_lt_of_le hn x.n)).trans (x.mu n hn), y.lk.trans x.lk⟩
theorem Le.refl (w : Wd) : Le w w := ⟨Ext.refl _, Nat.le_refl _, fun _ _ => rfl, rfl, rfl⟩
theorem Le.trans {a b c : Wd} (x : Le a b) (y : Le b c) : Le a c :=
  ⟨x.ex.trans y.ex, Nat.le_trans x.n y.n, fun n hn => (y.mu n (Nat.lt_of_lt_of_le hn x.n)).trans (x.mu n hn), y.f.trans x.f, y.lk.trans x.lk⟩
abbrev Rv (K : PySem.W.Frag) (w : Wd) : V → D → Prop := RepV K w.S w.mu w.N
abbrev Ra (K : PySem.W.Frag) (w : Wd) : List V → List D → Prop := RepAll K w.S w.mu w.N
theorem Rv_monoX {K : PySem.W.Frag} {w w' : Wd} {v : V} {d : D} (l : LeX w w') (h : Rv K w v d) : Rv K w' v d := RepV.mono l.ex l.n l.mu d v h
theorem Ra_monoX {K : PySem.W.Frag} {w w' : Wd} {v : List V} {d : List D} (l : LeX w w') (h : Ra K w v d) : Ra K w' v d := RepAll.mono l.ex l.n l.mu d v h
theorem Rv_mono {K : PySem.W.Frag} {w w' : Wd} {v : V} {d : D} (l : Le w w') (h : Rv K w v d) : Rv K w' v d := RepV.mono l.ex l.n l.mu d v h
theorem Ra_mono {K : PySem.W.Frag} {w w' : Wd} {v : List V} {d : List D} (l : Le w w') (h : Ra K w v d) : Ra K w' v d := RepAll.mono l.ex l.n l.mu d v h

section
variable {K : PySem.W.Frag} {w : Wd} {H : Hp} {h : AH}
theorem RepO.some {a : Addr} {o : AO} (r : RepO K w H a o) : ∃ u, H a = some u := by
  cases o with
  | lst ds => obtain ⟨xs, e, _⟩ := r; exact ⟨_, e⟩
  | ins C fs => obtain ⟨Ca, dx, fv, _, e, _⟩ := r; exact ⟨_, e⟩
  | dct kvs => obtain ⟨kv, e, _⟩ := r; exact ⟨_, e⟩
  | lck kvs => obtain ⟨o, kv, e, _⟩ := r; exact ⟨_, e⟩
theorem RepH.taken (r : RepH K w H h) {n : Nat} (hn : n < w.N) : ∃ u, H (w.mu n) = some u := by
  have hl : n < h.length := by rw [← r.len]; exact hn
  obtain ⟨_, c⟩ := r.cell n h[n] (List.getElem?_eq_getElem hl)
  exact c.some
theorem RepH.ne (r : RepH K w H h) {n : Nat} {p : Addr} (hn : n < w.N) (hp : H p = none) : w.mu n ≠ p := by
  obtain ⟨u, e⟩ := r.taken hn
  intro z
  rw [z, hp] at e
  cases e
theorem RepO.mono {w' : Wd} {H' : Hp} {a : Addr} {o : AO} (l : Le w w') (e : H' a = H a) (r : RepO K w H a o) : RepO K w' H' a o := by
  cases o with
  | lst ds =>
    obtain ⟨xs, e1, r⟩ := r
    exact ⟨xs, e.trans e1, Ra_mono l r⟩
  | ins C fs =>
    obtain ⟨Ca, dx, fv, ec, e1, e2, r, e3⟩ := r
    exact ⟨Ca, dx, fv, ec, e.trans e1, e2, Ra_mono l r, l.ex _ _ e3⟩
  | dct kvs =>
    obtain ⟨kv, e1, e2, r⟩ := r
    exact ⟨kv, e.trans e1, e2, Ra_mono l r⟩
  | lck kvs =>
    obtain ⟨o, kv, e1, e0, e2, r⟩ := r
    exact ⟨o, kv, e.trans e1, by rw [l.lk]; exact e0, e2, Ra_mono l r⟩
/-- a new thing that never changes -/
def Wd.add (w : Wd) (p : Addr) (o : HO) : Wd := ⟨upd w.S p o, w.F, w.mu, w.N, w.LK⟩
theorem RepH.le_add (r : RepH K w H h) {p : Addr} {o : HO} (hp : H p = none) : Le w (w.add p o) :=
  ⟨Ext.new (r.ex.free hp), Nat.le_refl _, fun _ _ => rfl, rfl, rfl⟩
theorem RepH.add (r : RepH K w H h) {p : Addr} {o : HO} (hp : H p = none) : RepH K (w.add p o) (upd H p o) h := by
  have hF : ∀ a u, w.F a = some u → a ≠ p := fun a u e => ne_of_none (r.exF _ _ e) hp
  refine ⟨fun a u e => ?_, r.len, r.inj, fun n o' e => ?_, fun a u e => by rw [upd_ne (hF a u e)]; exact r.exF _ _ e, fun a u e => ⟨by
    show upd w.S p o a = none
    rw [upd_ne (hF a u e)]
    exact (r.dis a u e).1, (r.dis a u e).2⟩⟩
  · have e : upd w.S p o a = some u := e
    by_cases ha : a = p
    · subst ha
      rw [upd_same] at e ⊢
      exact e
    · rw [upd_ne ha] at e ⊢
      exact r.ex _ _ e
  · obtain ⟨a, b⟩ := r.cell n o' e
    have hn : n < w.N := by
      rw [r.len]
      exact (List.getElem?_eq_some_iff.mp e).1
    have q := r.ne hn hp
    refine ⟨?_, b.mono (r.le_add hp) (upd_ne q)⟩
    show upd w.S p o (w.mu n) = none
    rw [upd_ne q]
    exact a
/-- a new object of the machine's -/
def Wd.push (w : Wd) (p : Addr) : Wd := ⟨w.S, w.F, fun n => if n = w.N then p else w.mu n, w.N + 1, w.LK⟩
theorem Wd.le_push (w : Wd) (p : Addr) : Le w (w.push p) :=
  ⟨Ext.refl _, Nat.le_succ _, fun n hn => if_neg (Nat.ne_of_lt hn), rfl, rfl⟩
theorem Wd.push_mu (w : Wd) (p : Addr) : (w.push p).mu w.N = p := if_pos rfl
/-- p stands in H, is none of the known ones -/
structure Apart (w : Wd) (p : Addr) : Prop where
  s : w.S p = none
  m : ∀ n, n < w.N → w.mu n ≠ p
  f : w.F p = none
theorem RepH.push (r : RepH K w H h) {p : Addr} {o : AO} (ap : Apart w p) (ro : RepO K (w.push p) H p o) : RepH K (w.push p) H (h ++ [o]) := by
  refine ⟨r.ex, ?_, fun m n hm hn e => ?_, fun n o' e => ?_, r.exF, fun a u e => ⟨(r.dis a u e).1, fun n hn z => ?_⟩⟩
  rotate_left 3
  · have hn : n < w.N + 1 := hn
    have z : (if n = w.N then p else w.mu n) = a := z
    have e : w.F a = some u := e
    by_cases q : n = w.N
    · rw [if_pos q] at z
      rw [← z, ap.f] at e
      cases e
    · rw [if_neg q] at z
      exact (r.dis a u e).2 n (by omega) z
  · show w.N + 1 = _
    rw [r.len, List.length_append]
    rfl
  · have hm : m < w.N + 1 := hm
    have hn : n < w.N + 1 := hn
    have e : (if m = w.N then p else w.mu m) = (if n = w.N then p else w.mu n) := e
    by_cases m1 : m = w.N
    · by_cases n1 : n = w.N
      · rw [m1, n1]
      · rw [if_pos m1, if_neg n1] at e
        exact absurd e.symm (ap.m n (by omega))
    · by_cases n1 : n = w.N
      · rw [if_neg m1, if_pos n1] at e
        exact absurd e (ap.m m (by omega))
      · rw [if_neg m1, if_neg n1] at e
        exact r.inj m n (by omega) (by omega) e
  · by_cases hn : n < h.length
    · rw [List.getElem?_append_left hn] at e
      obtain ⟨a, b⟩ := r.cell n o' e
      have q : (w.push p).mu n = w.mu n := (w.le_push p).mu n (by rw [r.len]; exact hn)
      rw [q]
      exact ⟨a, b.mono (w.le_push p) rfl⟩
    · have hl := (List.getElem?_eq_some_iff.mp e).1
      rw [List.length_append] at hl
      have en : n = h.length := by
        simp at hl
        omega
      subst en
      rw [List.getElem?_append_right (Nat.le_refl _)] at e
      simp at e
      subst e
      rw [← r.len, w.push_mu]
      exact ⟨ap.s, ro⟩
theorem RepH.set (r : RepH K w H h) {n : Nat} {u : HO} {o : AO} (hn : n < w.N) (ro : RepO K w (upd H (w.mu n) u) (w.mu n) o) : RepH K w (upd H (w.mu n) u) (h.set n o) := by
  refine ⟨fun a x e => ?_, by rw [r.len, List.length_set], r.inj, fun m o' e => ?_, fun a x e => by rw [upd_ne (fun z => (r.dis a x e).2 n hn z.symm)]; exact r.exF _ _ e, r.dis⟩
  · have hl : n < h.length := by rw [← r.len]; exact hn
    obtain ⟨z, _⟩ := r.cell n h[n] (List.getElem?_eq_getElem hl)
    have q : a ≠ w.mu n := by
      intro y
      rw [y, z] at e
      cases e
    rw [upd_ne q]
    exact r.ex _ _ e
  · by_cases hm : m = n
    · subst hm
      have hl : m < h.length := by rw [← r.len]; exact hn
      obtain ⟨z, _⟩ := r.cell m h[m] (List.getElem?_eq_getElem hl)
      rw [List.getElem?_set_self hl] at e
      cases e
      exact ⟨z, ro⟩
    · rw [List.getElem?_set_ne (Ne.symm hm)] at e
      obtain ⟨a, b⟩ := r.cell m o' e
      have hl : m < w.N := by rw [r.len]; exact (List.getElem?_eq_some_iff.mp e).1
      refine ⟨a, b.mono (Le.refl w) (upd_ne fun z => hm (r.inj m n hl hn z))⟩
end

/-! ### results -/
inductive Res (α : Type) where
  | ok (a : α) (h : AH)
  | exc (c : Str) (fs : List (Str × D)) (h : AH)
  | stuck
def Res.bind {α β : Type} (r : Res α) (k : α → AH → Res β) : Res β :=
  match r with
  | .ok a h => k a h
  | .exc c fs h => .exc c fs h
  | .stuck => .stuck
@[simp] theorem Res.bind_ok {α β : Type} (a : α) (h : AH) (k : α → AH → Res β) : (Res.ok a h).bind k = k a h := rfl
@[simp] theorem Res.bind_stuck {α β : Type} (k : α → AH → Res β) : (Res.stuck : Res α).bind k = .stuck := rfl
@[simp] theorem Res.bind_exc {α β : Type} (c : Str) (fs : List (Str × D)) (h : AH) (k : α → AH → Res β) : (Res.exc c fs h : Res α).bind k = .exc c fs h := rfl
abbrev Me := Env → AH → Res D
abbrev MeL := Env → AH → Res (List D)
abbrev MeT := Env → AH → Res Bool

/-- the slots -/
def RepG (K : PySem.W.Frag) (w : Wd) (σ : L2.St) (G : Env) : Prop := σ.length = G.length ∧ ∀ (i : Nat) (d : D), G[i]? = some (some d) → ∃ v, σ[i]? = some (some v) ∧ Rv K w v d
theorem RepG.mono {K : PySem.W.Frag} {w w' : Wd} {σ : L2.St} {G : Env} (l : Le w w') (r : RepG K w σ G) : RepG K w' σ G :=
  ⟨r.1, fun i d e => by
    obtain ⟨v, h1, h2⟩ := r.2 i d e
    exact ⟨v, h1, Rv_mono l h2⟩⟩
theorem RepG.monoX {K : PySem.W.Frag} {w w' : Wd} {σ : L2.St} {G : Env} (l : LeX w w') (r : RepG K w σ G) : RepG K w' σ G :=
  ⟨r.1, fun i d e => by
    obtain ⟨v, h1, h2⟩ := r.2 i d e
    exact ⟨v, h1, Rv_monoX l h2⟩⟩
theorem RepG.set {K : PySem.W.Frag} {w : Wd} {σ : L2.St} {G : Env} {v : V} {d : D} (r : RepG K w σ G) (i : Nat) (rv : Rv K w v d) : RepG K w (σ.set i (some v)) (G.set i (some d)) := by
  refine ⟨by rw [List.length_set, List.length_set, r.1], fun j e h => ?_⟩
  by_cases hj : j = i
  · subst hj
    have hl : j < G.length := by
      have := (List.getElem?_eq_some_iff.mp h).1
      rwa [List.length_set] at this
    rw [List.getElem?_set_self hl] at h
    cases h
    exact ⟨v, List.getElem?_set_self (by rw [r.1]; exact hl), rv⟩
  · rw [List.getElem?_set_ne (Ne.symm hj)] at h
    obtain ⟨x, h1, h2⟩ := r.2 j e h
    exact ⟨x, by rw [List.getElem?_set_ne (Ne.symm hj)]; exact h1, h2⟩

/-- the wish of what is raised: its class and own dict, the slots, the heap -/
abbrev WX := Value → Option Addr → L2.St → Hp → Prop
/-- what an error carries -/
def RepX (K : PySem.W.Frag) (w : Wd) (H : Hp) (dd : Option Addr) : List (Str × D) → Prop
  | [] => True
  | fs => ∃ p fv, dd = some p ∧ H p = some (.xd fv) ∧ fv.map (·.1) = fs.map (·.1) ∧ RepAll K w.S w.mu w.N (fv.map (·.2)) (fs.map (·.2))

section
variable (K : PySem.W.Frag) (mg : Str → Option Value) (W : WX)
def OutX (w : Wd) (σ : L2.St) (c : Str) (fs : List (Str × D)) (h : AH) : Prop :=
  ∀ cls dd w' H', mg c = some cls → Le w w' → RepH K w' H' h → RepX K w' H' dd fs → W cls dd σ H'
def OutE (w : Wd) (σ : L2.St) (Q : VK) : Res D → Prop
  | .ok d h => ∀ v w' H', Le w w' → RepH K w' H' h → Rv K w' v d → Q v H'
  | .exc c fs h => OutX K mg W w σ c fs h
  | .stuck => False
/-- a new list, known to nobody -/
def OutF (w : Wd) (σ : L2.St) (Q : VK) : Res (List D) → Prop
  | .ok ds h => ∀ p xs w' H', Le w w' → RepH K w' H' h → Apart w' p → H' p = some (.lst xs) → Ra K w' xs ds → Q (.ref p) H'
  | .exc c fs h => OutX K mg W w σ c fs h
  | .stuck => False
def OutA (w : Wd) (σ : L2.St) (Q : List V → Hp → Prop) : Res (List D) → Prop
  | .ok ds h => ∀ vs w' H', Le w w' → RepH K w' H' h → Ra K w' vs ds → Q vs H'
  | .exc c fs h => OutX K mg W w σ c fs h
  | .stuck => False
def OutT (w : Wd) (σ : L2.St) (Q : Bool → Hp → Prop) : Res Bool → Prop
  | .ok b h => ∀ w' H', Le w w' → RepH K w' H' h → Q b H'
  | .exc c fs h => OutX K mg W w σ c fs h
  | .stuck => False
def tM (m : Me) : TE := fun σ H Q => ∃ w G h, RepG K w σ G ∧ RepH K w H h ∧ OutE K mg W w σ Q (m G h)
def tF (m : MeL) : TE := fun σ H Q => ∃ w G h, RepG K w σ G ∧ RepH K w H h ∧ OutF K mg W w σ Q (m G h)
def tAr (m : MeL) : TA := fun σ H Q => ∃ w G h, RepG K w σ G ∧ RepH K w H h ∧ OutA K mg W w σ Q (m G h)
def tT (m : MeT) : TT := fun σ H Q => ∃ w G h, RepG K w σ G ∧ RepH K w H h ∧ OutT K mg W w σ Q (m G h)
end

section
variable {K : PySem.W.Frag} {mg : Str → Option Value} {W : WX} {w w' : Wd} {σ : L2.St} {H : Hp} {G : Env} {h : AH}
theorem OutX.mono {c : Str} {fs : List (Str × D)} (l : Le w w') (o : OutX K mg W w σ c fs h) : OutX K mg W w' σ c fs h :=
  fun cls dd w2 H' e l2 r x => o cls dd w2 H' e (l.trans l2) r x
theorem OutE.mono {Q : VK} {r : Res D} (l : Le w w') (o : OutE K mg W w σ Q r) : OutE K mg W w' σ Q r := by
  cases r with
  | ok d h => exact fun v w2 H' l2 r x => o v w2 H' (l.trans l2) r x
  | exc c fs h => exact OutX.mono l o
  | stuck => exact o
theorem OutF.mono {Q : VK} {r : Res (List D)} (l : Le w w') (o : OutF K mg W w σ Q r) : OutF K mg W w' σ Q r := by
  cases r with
  | ok d h => exact fun p xs w2 H' l2 r x => o p xs w2 H' (l.trans l2) r x
  | exc c fs h => exact OutX.mono l o
  | stuck => exact o
theorem OutA.mono {Q : List V → Hp → Prop} {r : Res (List D)} (l : Le w w') (o : OutA K mg W w σ Q r) : OutA K mg W w' σ Q r := by
  cases r with
  | ok d h => exact fun v w2 H' l2 r x => o v w2 H' (l.trans l2) r x
  | exc c fs h => exact OutX.mono l o
  | stuck => exact o
theorem OutT.mono {Q : Bool → Hp → Prop} {r : Res Bool} (l : Le w w') (o : OutT K mg W w σ Q r) : OutT K mg W w' σ Q r := by
  cases r with
  | ok d h => exact fun w2 H' l2 r => o w2 H' (l.trans l2) r
  | exc c fs h => exact OutX.mono l o
  | stuck => exact o
/-- a part's reading, then what is made of it -/
theorem runE {m : Me} {Q : VK} (g : RepG K w σ G) (r : RepH K w H h)
    (k : OutE K mg W w σ Q (m G h)) : tM K mg W m σ H Q := ⟨w, G, h, g, r, k⟩
theorem OutE.bindE {m : Me} {R : VK} {Q : VK} {k : D → AH → Res D} (o : OutE K mg W w σ Q ((m G h).bind k))
    (hq : ∀ d h1 v w1 H1, Le w w1 → RepH K w1 H1 h1 → Rv K w1 v d → OutE K mg W w1 σ Q (k d h1) → R v H1) : OutE K mg W w σ R (m G h) := by
  cases e : m G h with
  | ok d h1 =>
    rw [e] at o
    exact fun v w1 H1 l r x => hq d h1 v w1 H1 l r x (OutE.mono l o)
  | exc c fs h1 =>
    rw [e] at o
    exact o
  | stuck =>
    rw [e] at o
    exact o
theorem OutF.bindE {m : Me} {R : VK} {Q : VK} {k : D → AH → Res (List D)} (o : OutF K mg W w σ Q ((m G h).bind k))
    (hq : ∀ d h1 v w1 H1, Le w w1 → RepH K w1 H1 h1 → Rv K w1 v d → OutF K mg W w1 σ Q (k d h1) → R v H1) : OutE K mg W w σ R (m G h) := by
  cases e : m G h with
  | ok d h1 =>
    rw [e] at o
    exact fun v w1 H1 l r x => hq d h1 v w1 H1 l r x (OutF.mono l o)
  | exc c fs h1 =>
    rw [e] at o
    exact o
  | stuck =>
    rw [e] at o
    exact o
theorem OutA.bindE {m : Me} {R : VK} {Q : List V → Hp → Prop} {k : D → AH → Res (List D)} (o : OutA K mg W w σ Q ((m G h).bind k))
    (hq : ∀ d h1 v w1 H1, Le w w1 → RepH K w1 H1 h1 → Rv K w1 v d → OutA K mg W w1 σ Q (k d h1) → R v H1) : OutE K mg W w σ R (m G h) := by
  cases e : m G h with
  | ok d h1 =>
    rw [e] at o
    exact fun v w1 H1 l r x => hq d h1 v w1 H1 l r x (OutA.mono l o)
  | exc c fs h1 =>
    rw [e] at o
    exact o
  | stuck =>
    rw [e] at o
    exact o
theorem OutT.bindE {m : Me} {R : VK} {Q : Bool → Hp → Prop} {k : D → AH → Res Bool} (o : OutT K mg W w σ Q ((m G h).bind k))
    (hq : ∀ d h1 v w1 H1, Le w w1 → RepH K w1 H1 h1 → Rv K w1 v d → OutT K mg W w1 σ Q (k d h1) → R v H1) : OutE K mg W w σ R (m G h) := by
  cases e : m G h with
  | ok d h1 =>
    rw [e] at o
    exact fun v w1 H1 l r x => hq d h1 v w1 H1 l r x (OutT.mono l o)
  | exc c fs h1 =>
    rw [e] at o
    exact o
  | stuck =>
    rw [e] at o
    exact o
theorem OutE.bindA {m : MeL} {R : List V → Hp → Prop} {Q : VK} {k : List D → AH → Res D} (o : OutE K mg W w σ Q ((m G h).bind k))
    (hq : ∀ ds h1 vs w1 H1, Le w w1 → RepH K w1 H1 h1 → Ra K w1 vs ds → OutE K mg W w1 σ Q (k ds h1) → R vs H1) : OutA K mg W w σ R (m G h) := by
  cases e : m G h with
  | ok d h1 =>
    rw [e] at o
    exact fun v w1 H1 l r x => hq d h1 v w1 H1 l r x (OutE.mono l o)
  | exc c fs h1 =>
    rw [e] at o
    exact o
  | stuck =>
    rw [e] at o
    exact o
theorem OutF.bindA {m : MeL} {R : List V → Hp → Prop} {Q : VK} {k : List D → AH → Res (List D)} (o : OutF K mg W w σ Q ((m G h).bind k))
    (hq : ∀ ds h1 vs w1 H1, Le w w1 → RepH K w1 H1 h1 → Ra K w1 vs ds → OutF K mg W w1 σ Q (k ds h1) → R vs H1) : OutA K mg W w σ R (m G h) := by
  cases e : m G h with
  | ok d h1 =>
    rw [e] at o
    exact fun v w1 H1 l r x => hq d h1 v w1 H1 l r x (OutF.mono l o)
  | exc c fs h1 =>
    rw [e] at o
    exact o
  | stuck =>
    rw [e] at o
    exact o
theorem OutA.bindA {m : MeL} {R : List V → Hp → Prop} {Q : List V → Hp → Prop} {k : List D → AH → Res (List D)} (o : OutA K mg W w σ Q ((m G h).bind k))
    (hq : ∀ ds h1 vs w1 H1, Le w w1 → RepH K w1 H1 h1 → Ra K w1 vs ds → OutA K mg W w1 σ Q (k ds h1) → R vs H1) : OutA K mg W w σ R (m G h) := by
  cases e : m G h with
  | ok d h1 =>
    rw [e] at o
    exact fun v w1 H1 l r x => hq d h1 v w1 H1 l r x (OutA.mono l o)
  | exc c fs h1 =>
    rw [e] at o
    exact o
  | stuck =>
    rw [e] at o
    exact o
theorem OutE.bindT {m : MeT} {R : Bool → Hp → Prop} {Q : VK} {k : Bool → AH → Res D} (o : OutE K mg W w σ Q ((m G h).bind k))
    (hq : ∀ b h1 w1 H1, Le w w1 → RepH K w1 H1 h1 → OutE K mg W w1 σ Q (k b h1) → R b H1) : OutT K mg W w σ R (m G h) := by
  cases e : m G h with
  | ok d h1 =>
    rw [e] at o
    exact fun w1 H1 l r => hq d h1 w1 H1 l r (OutE.mono l o)
  | exc c fs h1 =>
    rw [e] at o
    exact o
  | stuck =>
    rw [e] at o
    exact o
theorem OutT.bindT {m : MeT} {R : Bool → Hp → Prop} {Q : Bool → Hp → Prop} {k : Bool → AH → Res Bool} (o : OutT K mg W w σ Q ((m G h).bind k))
    (hq : ∀ b h1 w1 H1, Le w w1 → RepH K w1 H1 h1 → OutT K mg W w1 σ Q (k b h1) → R b H1) : OutT K mg W w σ R (m G h) := by
  cases e : m G h with
  | ok d h1 =>
    rw [e] at o
    exact fun w1 H1 l r => hq d h1 w1 H1 l r (OutT.mono l o)
  | exc c fs h1 =>
    rw [e] at o
    exact o
  | stuck =>
    rw [e] at o
    exact o
theorem OutE.bindF {m : MeL} {R : VK} {Q : VK} {k : List D → AH → Res D} (o : OutE K mg W w σ Q ((m G h).bind k))
    (hq : ∀ ds h1 p xs w1 H1, Le w w1 → RepH K w1 H1 h1 → Apart w1 p → H1 p = some (.lst xs) → Ra K w1 xs ds → OutE K mg W w1 σ Q (k ds h1) → R (.ref p) H1) : OutF K mg W w σ R (m G h) := by
  cases e : m G h with
  | ok d h1 =>
    rw [e] at o
    exact fun p xs w1 H1 l r a b x => hq d h1 p xs w1 H1 l r a b x (OutE.mono l o)
  | exc c fs h1 =>
    rw [e] at o
    exact o
  | stuck =>
    rw [e] at o
    exact o
end
end AB
/-! AB: expressions. -/
namespace AB
open PySem PySem.Spec PyProof.Rows L2

theorem _root_.L2.PE.wk {X : Cx} {e : Expr} {t t' : TE} (h : PE X e t) (k : ∀ σ H Q, t' σ H Q → t σ H Q) : PE X e t' := ⟨fun pins s σ H Q I q => h.run pins s σ H Q I (k σ H Q q)⟩
theorem _root_.L2.PT.wk {X : Cx} {e : Expr} {t t' : TT} (h : PT X e t) (k : ∀ σ H Q, t' σ H Q → t σ H Q) : PT X e t' := ⟨fun pins s σ H Q I q => h.run pins s σ H Q I (k σ H Q q)⟩
theorem _root_.L2.PW.wk {X : Cx} {e : Expr} {t t' : TT} (h : PW X e t) (k : ∀ σ H Q, t' σ H Q → t σ H Q) : PW X e t' := ⟨fun wh pins s σ H Q I q => h.run wh pins s σ H Q I (k σ H Q q)⟩
theorem _root_.L2.PA.wk {X : Cx} {e : List Expr} {t t' : TA} (h : PA X e t) (k : ∀ σ H Q, t' σ H Q → t σ H Q) : PA X e t' := ⟨fun pos pins s σ H Q I q => h.run pos pins s σ H Q I (k σ H Q q)⟩

/-- the size that a display, a sum, a slice may have here -/
def big : Nat := 1000000
theorem big_le {n : Nat} (h : n ≤ big) : n ≤ sizeLine := Nat.le_trans h (by decide)
theorem big_lt {n : Nat} (h : n < big) : n < sizeLine := Nat.lt_of_lt_of_le h (by decide)

/-! ### the combinators -/
def mV (i : Nat) : Me := fun G h => match G[i]? with
  | some (some d) => .ok d h
  | _ => .stuck
def mC (d : D) : Me := fun _ h => .ok d h
def mOp2 (f : D → D → AH → Res D) (a b : Me) : Me := fun G h => (a G h).bind fun x h1 => (b G h1).bind fun y h2 => f x y h2
def mOp1 (f : D → AH → Res D) (a : Me) : Me := fun G h => (a G h).bind fun x h1 => f x h1
def aNil : MeL := fun _ h => .ok [] h
def aCons (a : Me) (as : MeL) : MeL := fun G h => (a G h).bind fun x h1 => (as G h1).bind fun xs h2 => .ok (x :: xs) h2
def mN (f : List D → AH → Res D) (as : MeL) : Me := fun G h => (as G h).bind fun xs h1 => f xs h1
def fTup (ds : List D) (h : AH) : Res D := if ds.length ≤ big then .ok (.tup ds) h else .stuck
def lLst (as : MeL) : MeL := fun G h => (as G h).bind fun xs h1 => if xs.length ≤ big then .ok xs h1 else .stuck
/-- a new list, as a thing that is not changed any more -/
def mL (l : MeL) : Me := fun G h => (l G h).bind fun ds h1 => .ok (.lst ds) h1
/-- a new list, as an object of the machine's -/
def mNew (l : MeL) : Me := fun G h => (l G h).bind fun ds h1 => .ok (.loc h1.length) (h1 ++ [.lst ds])
/-- the items of a list, of a list or tuple -/
def vL (h : AH) : D → Option (List D)
  | .lst ds => some ds
  | .rol ds => some ds
  | .loc n => match h[n]? with
    | some (.lst ds) => some ds
    | _ => none
  | _ => none
/-- .. of a list that stands in the heap by itself -/
def vR (h : AH) : D → Option (List D)
  | .lst ds => some ds
  | .loc n => match h[n]? with
    | some (.lst ds) => some ds
    | _ => none
  | _ => none
def vS (h : AH) : D → Option (List D)
  | .tup ds => some ds
  | d => vL h d

section
variable {K : PySem.W.Frag} {w : Wd} {H : Hp} {h : AH} {v : V} {d : D} {ds : List D}
theorem vL_rep (r : RepH K w H h) (rv : Rv K w v d) (e : vL h d = some ds) : ∃ a xs, v = .ref a ∧ SqL K H a xs ∧ Ra K w xs ds := by
  cases rv with
  | lst a b =>
    cases e
    exact ⟨_, _, rfl, .inl (r.ex.rd a), b⟩
  | rol a b =>
    cases e
    exact ⟨_, _, rfl, r.ex.l a, b⟩
  | @loc n hn =>
    have e : (match h[n]? with
      | some (.lst ds) => some ds
      | _ => none) = some ds := e
    split at e
    · rename_i ds' e'
      cases e
      obtain ⟨_, xs, e2, ra⟩ := r.cell _ _ e'
      exact ⟨_, xs, rfl, .inl (.inl e2), ra⟩
    · cases e
  | _ => cases e
theorem vR_rep (r : RepH K w H h) (rv : Rv K w v d) (e : vR h d = some ds) : ∃ a xs, v = .ref a ∧ Rd H a (.lst xs) ∧ Ra K w xs ds := by
  cases rv with
  | lst a b =>
    cases e
    exact ⟨_, _, rfl, r.ex.rd a, b⟩
  | @loc n hn =>
    have e : (match h[n]? with
      | some (.lst ds) => some ds
      | _ => none) = some ds := e
    split at e
    · rename_i ds' e'
      cases e
      obtain ⟨_, xs, e2, ra⟩ := r.cell _ _ e'
      exact ⟨_, xs, rfl, .inl e2, ra⟩
    · cases e
  | _ => cases e
theorem vS_rep (r : RepH K w H h) (rv : Rv K w v d) (e : vS h d = some ds) : ∃ a xs, v = .ref a ∧ (SqL K H a xs ∨ SqT K H a xs) ∧ Ra K w xs ds := by
  by_cases ht : ∃ es, d = .tup es
  · obtain ⟨es, rfl⟩ := ht
    cases rv with
    | tup a b =>
      cases e
      exact ⟨_, _, rfl, .inr (r.ex.t a), b⟩
  · have e : vL h d = some ds := by
      cases d with
      | tup es => exact absurd ⟨es, rfl⟩ ht
      | _ => exact e
    obtain ⟨a, xs, h1, h2, h3⟩ := vL_rep r rv e
    exact ⟨a, xs, h1, .inl h2, h3⟩
end

section
variable {X : Cx} {W : WX} {pos : Pos}
abbrev TM (X : Cx) (W : WX) (m : Me) : TE := tM X.K X.mg W m
abbrev TF (X : Cx) (W : WX) (m : MeL) : TE := tF X.K X.mg W m
abbrev TAr (X : Cx) (W : WX) (m : MeL) : TA := tAr X.K X.mg W m
abbrev TTT (X : Cx) (W : WX) (m : MeT) : TT := tT X.K X.mg W m
/-- a step's outcome, done -/
theorem out_ok {K : PySem.W.Frag} {mg : Str → Option Value} {w : Wd} {σ : L2.St} {H : Hp} {Q : VK} {d : D} {h : AH} {v : V} (o : OutE K mg W w σ Q (.ok d h)) (r : RepH K w H h) (rv : Rv K w v d) : Q v H := o v w H (Le.refl _) r rv
/-- .. with a new thing that never changes -/
theorem out_add {K : PySem.W.Frag} {mg : Str → Option Value} {w : Wd} {σ : L2.St} {H : Hp} {Q : VK} {d : D} {h : AH} {p : Addr} {u : HO} (o : OutE K mg W w σ Q (.ok d h)) (r : RepH K w H h) (hp : H p = none) (rv : Rv K (w.add p u) (.ref p) d) : Q (.ref p) (upd H p u) :=
  o (.ref p) (w.add p u) (upd H p u) (r.le_add hp) (r.add hp) rv
theorem rv_tup {K : PySem.W.Frag} {w : Wd} {H : Hp} {h : AH} {p : Addr} {xs : List V} {ds : List D} (r : RepH K w H h) (hp : H p = none) (ra : Ra K w xs ds) : Rv K (w.add p (.tup xs)) (.ref p) (.tup ds) :=
  .tup (.inl (.inl upd_same)) (Ra_mono (r.le_add hp) ra)
theorem rv_lst {K : PySem.W.Frag} {w : Wd} {H : Hp} {h : AH} {p : Addr} {xs : List V} {ds : List D} (r : RepH K w H h) (hp : H p = none) (ra : Ra K w xs ds) : Rv K (w.add p (.lst xs)) (.ref p) (.lst ds) :=
  .lst (.inl upd_same) (Ra_mono (r.le_add hp) ra)
/-- a new list that nobody knows yet -/
theorem out_new {K : PySem.W.Frag} {mg : Str → Option Value} {w : Wd} {σ : L2.St} {H : Hp} {Q : VK} {ds : List D} {h : AH} {p : Addr} {xs : List V} (o : OutF K mg W w σ Q (.ok ds h)) (r : RepH K w H h) (hp : H p = none) (ra : Ra K w xs ds) : Q (.ref p) (upd H p (.lst xs)) := by
  refine o p xs w (upd H p (.lst xs)) (Le.refl _) ⟨fun a u e => ?_, r.len, r.inj, fun n o' e => ?_, fun a u e => by rw [upd_ne (ne_of_none (r.exF _ _ e) hp)]; exact r.exF _ _ e, r.dis⟩ ⟨r.ex.free hp, fun n hn => r.ne hn hp, r.exF.free hp⟩ upd_same ra
  · have e2 := r.ex _ _ e
    rw [upd_ne (ne_of_none e2 hp)]
    exact e2
  · obtain ⟨a, b⟩ := r.cell n o' e
    have hn : n < w.N := by
      rw [r.len]
      exact (List.getElem?_eq_some_iff.mp e).1
    exact ⟨a, b.mono (Le.refl _) (upd_ne (r.ne hn hp))⟩
/-- a list that stands apart, from now on never changed -/
theorem RepH.keep {K : PySem.W.Frag} {w : Wd} {H : Hp} {h : AH} {p : Addr} {u : HO} (r : RepH K w H h) (ap : Apart w p) (e : H p = some u) : RepH K (w.add p u) H h ∧ Le w (w.add p u) := by
  have l : Le w (w.add p u) := ⟨Ext.new ap.s, Nat.le_refl _, fun _ _ => rfl, rfl, rfl⟩
  refine ⟨⟨fun a x q => ?_, r.len, r.inj, fun n o' q => ?_, r.exF, fun a x q => ⟨by
    show upd w.S p u a = none
    have z : a ≠ p := fun z => by
      have q : w.F a = some x := q
      rw [z, ap.f] at q
      cases q
    rw [upd_ne z]
    exact (r.dis a x q).1, (r.dis a x q).2⟩⟩, l⟩
  · have q : upd w.S p u a = some x := q
    by_cases ha : a = p
    · subst ha
      rw [upd_same] at q
      rw [e, q]
    · rw [upd_ne ha] at q
      exact r.ex _ _ q
  · obtain ⟨a, b⟩ := r.cell n o' q
    have hn : n < w.N := by
      rw [r.len]
      exact (List.getElem?_eq_some_iff.mp q).1
    refine ⟨?_, b.mono l rfl⟩
    show upd w.S p u (w.mu n) = none
    rw [upd_ne (ap.m n hn)]
    exact a

/-! ### names, constants -/
theorem e_var (i : Nat) {x : Str} (hN : X.N[i]? = some x := by rfl) (hv : Vis X.env.scope x := by first | exact Or.inl rfl | exact Or.inr (Or.inl rfl) | exact Or.inr (Or.inr rfl)) (hd : (x == ("__debug__" : Str)) = false := by decide)
    (hcd : (x == ("__classdict__" : Str)) = false := by decide) : PE X (.Name x pos) (TM X W (mV i)) := by
  refine (pe_var hN hv hd hcd).wk fun σ H Q ⟨w, G, h, g, r, o⟩ => ?_
  unfold mV at o
  split at o
  · rename_i d e
    obtain ⟨v, e2, rv⟩ := g.2 i d e
    exact ⟨v, e2, out_ok o r rv⟩
  · exact o.elim
def StRep (K : PySem.W.Frag) (v : V) (d : D) : Prop := ∀ (w : Wd), Rv K w v d
theorem e_const {e : Expr} {v : V} {d : D} (h : PE X e (tC v)) (s : StRep X.K v d) : PE X e (TM X W (mC d)) :=
  h.wk fun σ H Q ⟨w, G, h, g, r, o⟩ => out_ok o r (s w)
theorem e_int {i : Int} {j : Nat} : PE X (.Constant (.int i) j pos) (TM X W (mC (.int i))) := e_const pe_int fun _ => .int i
theorem e_bl {b : Bool} {j : Nat} : PE X (.Constant (.bool b) j pos) (TM X W (mC (.bl b))) := e_const pe_bl fun _ => .bl b
theorem e_non {j : Nat} : PE X (.Constant .none j pos) (TM X W (mC .non)) := e_const pe_non fun _ => .non
theorem e_str {x : Str} {j : Nat} : PE X (.Constant (.str x) j pos) (TM X W (mC (.str x))) := e_const pe_str fun _ => .str x
theorem e_glob {x : Str} {v : V} {u : Value} {d : D} (hm : X.mg x = some u) (rv : RelV v u) (s : StRep X.K v d) (hg : Gl X x := by rfl) (hd : (x == ("__debug__" : Str)) = false := by decide) : PE X (.Name x pos) (TM X W (mC d)) :=
  e_const (pe_glob hg hm rv hd) s

/-! ### operators -/
def Fol2 (X : Cx) (W : WX) (f : D → D → AH → Res D) (r : R2) : Prop := ∀ (w : Wd) (h : AH) (H : Hp) (σ : L2.St) (Q : VK) (v1 v2 : V) (d1 d2 : D),
  RepH X.K w H h → Rv X.K w v1 d1 → Rv X.K w v2 d2 → OutE X.K X.mg W w σ Q (f d1 d2 h) → r v1 v2 H Q
def Fol1 (X : Cx) (W : WX) (f : D → AH → Res D) (r : V → Hp → VK → Prop) : Prop := ∀ (w : Wd) (h : AH) (H : Hp) (σ : L2.St) (Q : VK) (v1 : V) (d1 : D),
  RepH X.K w H h → Rv X.K w v1 d1 → OutE X.K X.mg W w σ Q (f d1 h) → r v1 H Q
def FolN (X : Cx) (W : WX) (f : List D → AH → Res D) (r : List V → Hp → VK → Prop) : Prop := ∀ (w : Wd) (h : AH) (H : Hp) (σ : L2.St) (Q : VK) (vs : List V) (ds : List D),
  RepH X.K w H h → Ra X.K w vs ds → OutE X.K X.mg W w σ Q (f ds h) → r vs H Q
def FolF (X : Cx) (W : WX) (f : List D → AH → Res (List D)) (r : List V → Hp → VK → Prop) : Prop := ∀ (w : Wd) (h : AH) (H : Hp) (σ : L2.St) (Q : VK) (vs : List V) (ds : List D),
  RepH X.K w H h → Ra X.K w vs ds → OutF X.K X.mg W w σ Q (f ds h) → r vs H Q
variable {a b : Expr} {ma mb : Me}
theorem op2 {f : D → D → AH → Res D} {r : R2} (hf : Fol2 X W f r) {σ : L2.St} {H : Hp} {Q : VK} (t : TM X W (mOp2 f ma mb) σ H Q) : tOp r (TM X W ma) (TM X W mb) σ H Q := by
  obtain ⟨w, G, h, g, rh, o⟩ := t
  refine ⟨w, G, h, g, rh, o.bindE fun d h1 v w1 H1 l r1 x o1 => ⟨w1, G, h1, g.mono l, r1, o1.bindE fun d2 h2 v2 w2 H2 l2 r2 x2 o2 => ?_⟩⟩
  exact hf w2 h2 H2 σ Q v v2 d d2 r2 (Rv_mono l2 x) x2 o2
theorem e_bin {f : D → D → AH → Res D} {r : R2} {op : Operator} (ho : OpR X (binaryOp op) r) (hf : Fol2 X W f r) (ha : PE X a (TM X W ma)) (hb : PE X b (TM X W mb)) : PE X (.BinOp a op b pos) (TM X W (mOp2 f ma mb)) :=
  (pe_op ho ha hb).wk fun _ _ _ t => op2 hf t
theorem e_cmp {f : D → D → AH → Res D} {r : R2} {op : CmpOp} (ho : OpR X (compareOp op) r) (hf : Fol2 X W f r) (ha : PE X a (TM X W ma)) (hb : PE X b (TM X W mb)) (hm : behindInMarks op b = false := by rfl) : PE X (.Compare a [op] [b] pos) (TM X W (mOp2 f ma mb)) :=
  (pe_cmpR ho ha hb hm).wk fun _ _ _ t => op2 hf t
theorem e_un {f : D → AH → Res D} {r : V → Hp → VK → Prop} {op : UnaryOp} (ho : UnR X (unaryOp op) r) (hf : Fol1 X W f r) (ha : PE X a (TM X W ma)) : PE X (.UnaryOp op a pos) (TM X W (mOp1 f ma)) := by
  refine (pe_un ho ha).wk fun σ H Q ⟨w, G, h, g, rh, o⟩ => ⟨w, G, h, g, rh, o.bindE fun d h1 v w1 H1 l r1 x o1 => ?_⟩
  exact hf w1 h1 H1 σ Q v d r1 x o1
/-! ints -/
def fAdd (x y : D) (h : AH) : Res D := match x, y with
  | .int i, .int j => .ok (.int (i + j)) h
  | .str i, .str j => if i.length + j.length ≤ big then .ok (.str (i ++ j)) h else .stuck
  | .tup xs, .tup ys => if xs.length + ys.length ≤ big then .ok (.tup (xs ++ ys)) h else .stuck
  | x, y => match vR h x, vR h y with
    | some xs, some ys => if xs.length + ys.length ≤ big then .ok (.lst (xs ++ ys)) h else .stuck
    | _, _ => .stuck
def fSub (x y : D) (h : AH) : Res D := match x, y with
  | .int i, .int j => .ok (.int (i - j)) h
  | _, _ => .stuck
/-- a factor within 2 ^ 60 -/
def fMul (x y : D) (h : AH) : Res D := match x, y with
  | .int i, .int j => if (-(2 ^ 60) ≤ i ∧ i ≤ 2 ^ 60) ∨ (-(2 ^ 60) ≤ j ∧ j ≤ 2 ^ 60) then .ok (.int (i * j)) h else .stuck
  | _, _ => .stuck
def fMod (x y : D) (h : AH) : Res D := match x, y with
  | .int i, .int j => if 0 < j then .ok (.int (i % j)) h else .stuck
  | _, _ => .stuck
def fDiv (x y : D) (h : AH) : Res D := match x, y with
  | .int i, .int j => if 0 < j ∧ j ≤ 2 ^ 60 then .ok (.int (i / j)) h else .stuck
  | _, _ => .stuck
def fPow (x y : D) (h : AH) : Res D := match x, y with
  | .int i, .int j => if 0 ≤ j ∧ j ≤ 1000 ∧ 0 ≤ i ∧ i ≤ 1000 then .ok (.int (i ^ j.toNat)) h else .stuck
  | _, _ => .stuck
def fNeg (x : D) (h : AH) : Res D := match x with
  | .int i => .ok (.int (-i)) h
  | _ => .stuck
def fLt (x y : D) (h : AH) : Res D := match x, y with
  | .int i, .int j => .ok (.bl (decide (i < j))) h
  | _, _ => .stuck
def fLe (x y : D) (h : AH) : Res D := match x, y with
  | .int i, .int j => .ok (.bl (decide (i ≤ j))) h
  | _, _ => .stuck
def fGt (x y : D) (h : AH) : Res D := match x, y with
  | .int i, .int j => .ok (.bl (decide (j < i))) h
  | _, _ => .stuck
def fGe (x y : D) (h : AH) : Res D := match x, y with
  | .int i, .int j => .ok (.bl (decide (j ≤ i))) h
  | _, _ => .stuck
def fIsN (x y : D) (h : AH) : Res D := match x, y with
  | .non, .non => .ok (.bl true) h
  | _, .non => .ok (.bl false) h
  | _, _ => .stuck
def fNotN (x y : D) (h : AH) : Res D := match x, y with
  | .non, .non => .ok (.bl false) h
  | _, .non => .ok (.bl true) h
  | _, _ => .stuck
theorem rv_int {w : Wd} {v : V} {i : Int} (r : Rv X.K w v (.int i)) : v = .int i := by cases r; rfl
theorem fol_int {g : Int → Int → V} {f : D → D → AH → Res D} {e : Int → Int → D} (hs : ∀ i j w, Rv X.K w (g i j) (e i j)) (hf : ∀ x y h, (∃ i j, x = .int i ∧ y = .int j ∧ f x y h = .ok (e i j) h) ∨ f x y h = .stuck) : Fol2 X W f (rI0 g) := by
  intro w h H σ Q v1 v2 d1 d2 rh r1 r2 o
  rcases hf d1 d2 h with ⟨i, j, rfl, rfl, z⟩ | z
  · rw [z] at o
    cases r1
    cases r2
    exact ⟨i, j, rfl, rfl, out_ok o rh (hs i j w)⟩
  · rw [z] at o
    exact o.elim
theorem two_cases {α : Type} {f : D → D → AH → Res D} {e : Int → Int → D} (h1 : ∀ i j h, f (.int i) (.int j) h = .ok (e i j) h) (h2 : ∀ x y h, (∀ i j, ¬ (x = .int i ∧ y = .int j)) → f x y h = .stuck) : ∀ x y h, (∃ i j, x = .int i ∧ y = .int j ∧ f x y h = .ok (e i j) h) ∨ f x y h = .stuck := by
  intro x y h
  by_cases z : ∃ i j, x = .int i ∧ y = .int j
  · obtain ⟨i, j, rfl, rfl⟩ := z
    exact .inl ⟨i, j, rfl, rfl, h1 i j h⟩
  · exact .inr (h2 x y h fun i j q => z ⟨i, j, q⟩)
theorem fol_lt : Fol2 X W fLt (rI0 fun i j => .bl (decide (i < j))) := fol_int (e := fun i j => .bl (decide (i < j))) (fun _ _ _ => .bl _) fun x y h => by
  cases x <;> cases y <;> first | exact .inr rfl | exact .inl ⟨_, _, rfl, rfl, rfl⟩
theorem fol_le : Fol2 X W fLe (rI0 fun i j => .bl (decide (i ≤ j))) := fol_int (e := fun i j => .bl (decide (i ≤ j))) (fun _ _ _ => .bl _) fun x y h => by
  cases x <;> cases y <;> first | exact .inr rfl | exact .inl ⟨_, _, rfl, rfl, rfl⟩
theorem fol_gt : Fol2 X W fGt (rI0 fun i j => .bl (decide (j < i))) := fol_int (e := fun i j => .bl (decide (j < i))) (fun _ _ _ => .bl _) fun x y h => by
  cases x <;> cases y <;> first | exact .inr rfl | exact .inl ⟨_, _, rfl, rfl, rfl⟩
theorem fol_ge : Fol2 X W fGe (rI0 fun i j => .bl (decide (j ≤ i))) := fol_int (e := fun i j => .bl (decide (j ≤ i))) (fun _ _ _ => .bl _) fun x y h => by
  cases x <;> cases y <;> first | exact .inr rfl | exact .inl ⟨_, _, rfl, rfl, rfl⟩
theorem fol_sub : Fol2 X W fSub (rI0 fun i j => .int (i - j)) := fol_int (e := fun i j => .int (i - j)) (fun _ _ _ => .int _) fun x y h => by
  cases x <;> cases y <;> first | exact .inr rfl | exact .inl ⟨_, _, rfl, rfl, rfl⟩
theorem fol_intC {C : Int → Int → Prop} {g : Int → Int → V} {f : D → D → AH → Res D} {e : Int → Int → D} (hs : ∀ i j w, Rv X.K w (g i j) (e i j)) (hf : ∀ x y h, (∃ i j, x = .int i ∧ y = .int j ∧ C i j ∧ f x y h = .ok (e i j) h) ∨ f x y h = .stuck) : Fol2 X W f (rI C g) := by
  intro w h H σ Q v1 v2 d1 d2 rh r1 r2 o
  rcases hf d1 d2 h with ⟨i, j, rfl, rfl, c, z⟩ | z
  · rw [z] at o
    cases r1
    cases r2
    exact ⟨i, j, rfl, rfl, c, out_ok o rh (hs i j w)⟩
  · rw [z] at o
    exact o.elim
theorem fol_mul : Fol2 X W fMul (rI CMul fun i j => .int (i * j)) := fol_intC (e := fun i j => .int (i * j)) (fun _ _ _ => .int _) fun x y h => by
  cases x with
  | int i =>
    cases y with
    | int j =>
      show (∃ i' j', _) ∨ (if _ then _ else _) = _
      by_cases c : (-(2 ^ 60) ≤ i ∧ i ≤ 2 ^ 60) ∨ (-(2 ^ 60) ≤ j ∧ j ≤ 2 ^ 60)
      · refine .inl ⟨i, j, rfl, rfl, ?_, if_pos c⟩
        rcases c with c | c
        · exact .inl ⟨by omega, by omega⟩
        · exact .inr ⟨by omega, by omega⟩
      · exact .inr (if_neg c)
    | _ => exact .inr rfl
  | _ => exact .inr rfl
theorem fol_mod : Fol2 X W fMod (rI (fun _ j => 0 < j) fun i j => .int (i % j)) := fol_intC (e := fun i j => .int (i % j)) (fun _ _ _ => .int _) fun x y h => by
  cases x with
  | int i =>
    cases y with
    | int j =>
      show (∃ i' j', _) ∨ (if _ then _ else _) = _
      by_cases c : 0 < j
      · exact .inl ⟨i, j, rfl, rfl, c, if_pos c⟩
      · exact .inr (if_neg c)
    | _ => exact .inr rfl
  | _ => exact .inr rfl
theorem fol_div : Fol2 X W fDiv (rI CDivW fun i j => .int (i / j)) := fol_intC (e := fun i j => .int (i / j)) (fun _ _ _ => .int _) fun x y h => by
  cases x with
  | int i =>
    cases y with
    | int j =>
      show (∃ i' j', _) ∨ (if _ then _ else _) = _
      by_cases c : 0 < j ∧ j ≤ 2 ^ 60
      · exact .inl ⟨i, j, rfl, rfl, wide_div (b := 61) c.1 (by omega) (by decide) (by decide), if_pos c⟩
      · exact .inr (if_neg c)
    | _ => exact .inr rfl
  | _ => exact .inr rfl
theorem fol_pow : Fol2 X W fPow (rI CPow fun i j => .int (i ^ j.toNat)) := fol_intC (e := fun i j => .int (i ^ j.toNat)) (fun _ _ _ => .int _) fun x y h => by
  cases x with
  | int i =>
    cases y with
    | int j =>
      show (∃ i' j', _) ∨ (if _ then _ else _) = _
      by_cases c : 0 ≤ j ∧ j ≤ 1000 ∧ 0 ≤ i ∧ i ≤ 1000
      · exact .inl ⟨i, j, rfl, rfl, ⟨by omega, by omega, by omega⟩, if_pos c⟩
      · exact .inr (if_neg c)
    | _ => exact .inr rfl
  | _ => exact .inr rfl
theorem fol_neg : Fol1 X W fNeg (rU fun i => .int (-i)) := by
  intro w h H σ Q v1 d1 rh r1 o
  cases r1 with
  | int i => exact ⟨i, rfl, out_ok o rh (.int _)⟩
  | _ => exact o.elim
/-- two lists -/
def rCatR : R2 := fun x y H Q => ∃ l b xs zs, x = .ref l ∧ y = .ref b ∧ Rd H l (.lst xs) ∧ Rd H b (.lst zs) ∧ xs.length + zs.length ≤ sizeLine ∧ ∀ p, H p = none → Q (.ref p) (upd H p (.lst (xs ++ zs)))
theorem op_catR : OpR X (binaryOp .Add) rCatR := by
  intro pins s σ H x y v u Q I rx ry h
  obtain ⟨l, b, xs, zs, rfl, rfl, hH, hB, hz, q⟩ := h
  cases rx
  cases ry
  obtain ⟨z, its, n, r, e⟩ := hH.ok I.hok
  obtain ⟨z2, its2, n2, r2, e2⟩ := hB.ok I.hok
  have hl := r.length
  have hl2 := r2.length
  refine PySem.P.add_list e e2 ?_ (by rw [List.size_toArray, List.size_toArray]; omega)
  have ea : its.toArray ++ its2.toArray = (its ++ its2).toArray := by simp
  rw [ea]
  exact ⟨.ref _, _, I.lnew (t' := s.toks) (r.append r2) (by rw [List.length_append]; omega), rfl, q _ I.fresh⟩
def rAdd3 (K : PySem.W.Frag) : R2 := fun x y H Q => (rI0 (fun i j => .int (i + j)) x y H Q) ∨ ((∃ i j, x = .str i ∧ y = .str j ∧ i.length + j.length ≤ sizeLine ∧ Q (.str (i ++ j)) H) ∨ (rCatA K x y H Q ∨ rCatR x y H Q))
theorem op_add3 : OpR X (binaryOp .Add) (rAdd3 X.K) := OpR.or op_add (OpR.or op_add_str (OpR.or op_catA op_catR))
theorem fol_add : Fol2 X W fAdd (rAdd3 X.K) := by
  intro w h H σ Q v1 v2 d1 d2 rh r1 r2 o
  have lists : OutE X.K X.mg W w σ Q (match vR h d1, vR h d2 with
    | some xs, some ys => if xs.length + ys.length ≤ big then .ok (.lst (xs ++ ys)) h else .stuck
    | _, _ => .stuck) → rAdd3 X.K v1 v2 H Q := by
    intro o
    split at o
    · rename_i xs ys e1 e2
      split at o
      · rename_i c
        obtain ⟨a, us, rfl, h1, h2⟩ := vR_rep rh r1 e1
        obtain ⟨b, ws, rfl, g1, g2⟩ := vR_rep rh r2 e2
        have lx := h2.length
        have ly := g2.length
        exact .inr (.inr (.inr ⟨a, b, us, ws, rfl, rfl, h1, g1, big_le (by omega), fun p hp => out_add o rh hp (rv_lst rh hp (h2.append g2))⟩))
      · exact o.elim
    · exact o.elim
  unfold fAdd at o
  split at o
  · cases r1
    cases r2
    exact .inl ⟨_, _, rfl, rfl, out_ok o rh (.int _)⟩
  · split at o
    · rename_i c
      cases r1
      cases r2
      exact .inr (.inl ⟨_, _, rfl, rfl, big_le c, out_ok o rh (.str _)⟩)
    · exact o.elim
  · split at o
    · rename_i c
      cases r1 with
      | @tup p xs ds h1 h2 =>
        cases r2 with
        | @tup q ys es g1 g2 =>
          have lx := h2.length
          have ly := g2.length
          refine .inr (.inr (.inl ⟨p, q, xs, ys, rfl, rfl, rh.ex.t h1, rh.ex.t g1, big_le (by omega), fun ex => ?_, fun _ ey => ?_, fun _ _ z hz => ?_⟩))
          · subst ex
            cases h2
            exact out_ok o rh (.tup g1 g2)
          · subst ey
            cases g2
            rw [List.append_nil] at o
            exact out_ok o rh (.tup h1 h2)
          · exact out_add o rh hz (rv_tup rh hz (h2.append g2))
    · exact o.elim
  · exact lists o
theorem fol_isN : Fol2 X W fIsN (fun x y H Q => y = .non ∧ Q (.bl (decide (x = .non))) H) := by
  intro w h H σ Q v1 v2 d1 d2 rh r1 r2 o
  cases r2 with
  | non =>
    refine ⟨rfl, ?_⟩
    cases r1 <;> exact out_ok o rh (.bl _)
  | _ => cases r1 <;> exact o.elim
theorem fol_notN : Fol2 X W fNotN (fun x y H Q => y = .non ∧ Q (.bl (!decide (x = .non))) H) := by
  intro w h H σ Q v1 v2 d1 d2 rh r1 r2 o
  cases r2 with
  | non =>
    refine ⟨rfl, ?_⟩
    cases r1 <;> exact out_ok o rh (.bl _)
  | _ => cases r1 <;> exact o.elim
def fIsB (x y : D) (h : AH) : Res D := match x, y with
  | .bl i, .bl j => .ok (.bl (decide (i = j))) h
  | _, _ => .stuck
def fNotB (x y : D) (h : AH) : Res D := match x, y with
  | .bl i, .bl j => .ok (.bl (!decide (i = j))) h
  | _, _ => .stuck
theorem fol_isB : Fol2 X W fIsB rIsB := by
  intro w h H σ Q v1 v2 d1 d2 rh r1 r2 o
  cases r1 with
  | bl i =>
    cases r2 with
    | bl j => exact ⟨i, j, rfl, rfl, out_ok o rh (.bl _)⟩
    | _ => exact o.elim
  | _ => exact o.elim
theorem fol_notB : Fol2 X W fNotB rNotB := by
  intro w h H σ Q v1 v2 d1 d2 rh r1 r2 o
  cases r1 with
  | bl i =>
    cases r2 with
    | bl j => exact ⟨i, j, rfl, rfl, out_ok o rh (.bl _)⟩
    | _ => exact o.elim
  | _ => exact o.elim

/-! ### argument lists, displays -/
variable {es : List Expr} {e : Expr} {as : MeL}
theorem a_nil : PA X [] (TAr X W aNil) := pa_nil.wk fun σ H Q ⟨w, G, h, g, r, o⟩ => o [] w H (Le.refl _) r .nil
theorem a_cons (he : PE X e (TM X W ma)) (ha : PA X es (TAr X W as)) (hs : starEach (e :: es) X.env = (false, eval e X.env) :: starEach es X.env := by rfl) : PA X (e :: es) (TAr X W (aCons ma as)) :=
  (pa_cons he ha hs).wk fun σ H Q ⟨w, G, h, g, r, o⟩ => ⟨w, G, h, g, r, o.bindE fun d h1 v w1 H1 l r1 x o1 => ⟨w1, G, h1, g.mono l, r1, o1.bindA fun ds h2 vs w2 H2 l2 r2 xs o2 => o2 _ w2 H2 (Le.refl _) r2 (.cons (Rv_mono l2 x) xs)⟩⟩
theorem e_tup {x1} (ha : PA X es (TAr X W as)) : PE X (.Tuple es x1 pos) (TM X W (mN fTup as)) := by
  refine (pe_tup ha).wk fun σ H Q ⟨w, G, h, g, r, o⟩ => ⟨w, G, h, g, r, o.bindA fun ds h1 vs w1 H1 l r1 x o1 => ?_⟩
  unfold fTup at o1
  split at o1
  · rename_i c
    exact ⟨big_le (by rw [x.length]; exact c), fun p hp => out_add o1 r1 hp (rv_tup r1 hp x)⟩
  · exact o1.elim
theorem f_lst {x1} (ha : PA X es (TAr X W as)) : PE X (.List es x1) (TF X W (lLst as)) := by
  refine (pe_lst ha).wk fun σ H Q ⟨w, G, h, g, r, o⟩ => ⟨w, G, h, g, r, o.bindA fun ds h1 vs w1 H1 l r1 x o1 => ?_⟩
  split at o1
  · rename_i c
    exact ⟨big_le (by rw [x.length]; exact c), fun p hp => out_new o1 r1 hp x⟩
  · exact o1.elim
/-- a new list, never changed from now on; a new list as an object -/
theorem L_read {l : MeL} {σ : L2.St} {H : Hp} {Q : VK} (t : TM X W (mL l) σ H Q) : TF X W l σ H Q := by
  obtain ⟨w, G, h, g, r, o⟩ := t
  refine ⟨w, G, h, g, r, OutE.bindF (m := l) o fun ds h1 p xs w1 H1 l r1 ap hp x o1 => ?_⟩
  obtain ⟨r2, l2⟩ := r1.keep ap hp
  exact o1 _ _ H1 l2 r2 (.lst (.inl upd_same) (Ra_mono l2 x))
theorem e_L {l : MeL} (he : PE X e (TF X W l)) : PE X e (TM X W (mL l)) := he.wk fun _ _ _ t => L_read t
theorem new_read {l : MeL} {σ : L2.St} {H : Hp} {Q : VK} (t : TM X W (mNew l) σ H Q) : TF X W l σ H Q := by
  obtain ⟨w, G, h, g, r, o⟩ := t
  refine ⟨w, G, h, g, r, OutE.bindF (m := l) o fun ds h1 p xs w1 H1 l r1 ap hp x o1 => ?_⟩
  refine o1 _ (w1.push p) H1 (w1.le_push p) (r1.push ap ⟨xs, hp, Ra_mono (w1.le_push p) x⟩) ?_
  have e1 : h1.length = w1.N := r1.len.symm
  rw [e1]
  have e2 : (w1.push p).mu w1.N = p := w1.push_mu p
  have q : Rv X.K (w1.push p) (.ref ((w1.push p).mu w1.N)) (.loc w1.N) := .loc (Nat.lt_succ_self _)
  rw [e2] at q
  exact q
theorem e_new {l : MeL} (he : PE X e (TF X W l)) : PE X e (TM X W (mNew l)) := he.wk fun _ _ _ t => new_read t
end
end AB
/-! AB: calls, truth, equality, subscripts. -/
namespace AB
open PySem PySem.Spec PyProof.Rows L2

/-! ### data of the library's -/
mutual
def toP : D → Option PyData
  | .non => some .none
  | .bl b => some (.bool b)
  | .int i => some (.int i)
  | .str x => some (.str x)
  | .tup ds => (toPs ds).map .tuple
  | .lst ds => (toPs ds).map .list
  | .rol _ => none
  | .loc _ => none
  | .con _ => none
def toPs : List D → Option (List PyData)
  | [] => some []
  | d :: ds => match toP d, toPs ds with
    | some p, some ps => some (p :: ps)
    | _, _ => none
end
/-- a list of the machine's, read as it stands -/
def toPh (h : AH) (d : D) : Option PyData := match d with
  | .loc n => match h[n]? with
    | some (.lst ds) => (toPs ds).map .list
    | _ => none
  | d => toP d
section
variable {K : PySem.W.Frag} {w : Wd} {H : Hp} {h : AH}
mutual
theorem toP_rep (ex : Ext w.S H) : ∀ (d : D) (v : V) (p : PyData), Rv K w v d → toP d = some p → Dp K H v p
  | .non, _, _, r, e => by cases r; cases e; exact .non
  | .bl _, _, _, r, e => by cases r; cases e; exact .bl _
  | .int _, _, _, r, e => by cases r; cases e; exact .int _
  | .str _, _, _, r, e => by cases r; cases e; exact .str _
  | .tup ds, _, p, r, e => by
    cases r with
    | tup a b =>
      unfold toP at e
      cases q : toPs ds with
      | none => rw [q] at e; cases e
      | some ps =>
        rw [q] at e
        cases e
        exact .tup (ex.t a) (toPs_rep ex ds _ ps b q)
  | .lst ds, _, p, r, e => by
    cases r with
    | lst a b =>
      unfold toP at e
      cases q : toPs ds with
      | none => rw [q] at e; cases e
      | some ps =>
        rw [q] at e
        cases e
        exact .lst (.inl (ex.rd a)) (toPs_rep ex ds _ ps b q)
  | .rol _, _, _, _, e => by cases e
  | .loc _, _, _, _, e => by cases e
  | .con _, _, _, _, e => by cases e
theorem toPs_rep (ex : Ext w.S H) : ∀ (ds : List D) (vs : List V) (ps : List PyData), Ra K w vs ds → toPs ds = some ps → DpAll K H vs ps
  | [], _, _, r, e => by cases r; cases e; exact .nil
  | d :: ds, _, ps, r, e => by
    cases r with
    | cons a b =>
      unfold toPs at e
      cases q1 : toP d with
      | none => rw [q1] at e; cases e
      | some p =>
        cases q2 : toPs ds with
        | none => rw [q1, q2] at e; cases e
        | some qs =>
          rw [q1, q2] at e
          cases e
          exact .cons (toP_rep ex d _ p a q1) (toPs_rep ex ds _ qs b q2)
end
theorem toPh_rep (r : RepH K w H h) {v : V} {d : D} {p : PyData} (rv : Rv K w v d) (e : toPh h d = some p) : Dp K H v p := by
  cases rv with
  | @loc n hn =>
    have e : (match h[n]? with
      | some (.lst ds) => (toPs ds).map .list
      | _ => none) = some p := e
    split at e
    · rename_i ds e'
      obtain ⟨_, xs, e2, ra⟩ := r.cell _ _ e'
      cases q : toPs ds with
      | none => rw [q] at e; cases e
      | some ps =>
        rw [q] at e
        cases e
        exact .lst (.inl (.inl e2)) (toPs_rep r.ex ds _ ps ra q)
    · cases e
  | non => exact toP_rep r.ex _ _ p .non e
  | bl b => exact toP_rep r.ex _ _ p (.bl b) e
  | int b => exact toP_rep r.ex _ _ p (.int b) e
  | str b => exact toP_rep r.ex _ _ p (.str b) e
  | tup a b => exact toP_rep r.ex _ _ p (.tup a b) e
  | lst a b => exact toP_rep r.ex _ _ p (.lst a b) e
  | con => cases e
  | rol => cases e
end
/-- both read, of a shape that the library compares -/
def okP (h : AH) (d : D) : Option PyData := match toPh h d with
  | some p => if SeqAt.shaped p = true then some p else none
  | none => none
theorem okP_some {h : AH} {d : D} {p : PyData} (e : okP h d = some p) : toPh h d = some p ∧ SeqAt.shaped p = true := by
  unfold okP at e
  split at e
  · split at e
    · cases e
      exact ⟨by assumption, by assumption⟩
    · cases e
  · cases e
def fEq (x y : D) (h : AH) : Res D := match okP h x, okP h y with
  | some p, some q => .ok (.bl (PyData.eqv p q)) h
  | _, _ => .stuck
def fNe (x y : D) (h : AH) : Res D := match okP h x, okP h y with
  | some p, some q => .ok (.bl (!PyData.eqv p q)) h
  | _, _ => .stuck
/-- x in a list or tuple -/
def inD (h : AH) (x y : D) : Option Bool := match okP h x, okP h y with
  | some p, some (.list qs) => some (qs.any fun z => PyData.eqv z p)
  | some p, some (.tuple qs) => some (qs.any fun z => PyData.eqv z p)
  | _, _ => none
def fIn (x y : D) (h : AH) : Res D := match inD h x y with
  | some b => .ok (.bl b) h
  | none => .stuck
def fNotIn (x y : D) (h : AH) : Res D := match inD h x y with
  | some b => .ok (.bl (!b)) h
  | none => .stuck
section
variable {X : Cx} {W : WX}
theorem fol_eq : Fol2 X W fEq (rEqD X.K) := by
  intro w h H σ Q v1 v2 d1 d2 rh r1 r2 o
  unfold fEq at o
  split at o
  · rename_i p q e1 e2
    obtain ⟨a1, a2⟩ := okP_some e1
    obtain ⟨b1, b2⟩ := okP_some e2
    exact ⟨p, q, toPh_rep rh r1 a1, toPh_rep rh r2 b1, a2, b2, out_ok o rh (.bl _)⟩
  · exact o.elim
theorem fol_ne : Fol2 X W fNe (rNeD X.K) := by
  intro w h H σ Q v1 v2 d1 d2 rh r1 r2 o
  unfold fNe at o
  split at o
  · rename_i p q e1 e2
    obtain ⟨a1, a2⟩ := okP_some e1
    obtain ⟨b1, b2⟩ := okP_some e2
    exact ⟨p, q, toPh_rep rh r1 a1, toPh_rep rh r2 b1, a2, b2, out_ok o rh (.bl _)⟩
  · exact o.elim
/-- x in y, x not in y: a list or a tuple -/
def rInA (K : PySem.W.Frag) (neg : Bool) : R2 := fun x y H Q => ∃ d ds, Dp K H x d ∧ (Dp K H y (.list ds) ∨ Dp K H y (.tuple ds)) ∧ SeqAt.shaped d = true ∧ SeqAt.shaped (.list ds) = true ∧ Q (.bl (if neg then !(ds.any fun z => PyData.eqv z d) else ds.any fun z => PyData.eqv z d)) H
theorem op_inA (hu : X.A.units + 65 < cLine) : OpR X (compareOp .In) (rInA X.K false) := by
  intro pins s σ H x y v u Q I rx ry h
  obtain ⟨d, ds, hd, he, sd, se, q⟩ := h
  obtain ⟨as, r1⟩ := Dp.reads I d x v hd rx
  rcases he with he | he
  · obtain ⟨bs, r2⟩ := Dp.reads I (.list ds) y u he ry
    exact SeqAt.in_list_reads r2 r1 (SeqAt.canLay_of_shaped se) (SeqAt.canLay_of_shaped sd) (room_in_shaped sd hu) ⟨.bl _, H, I, rfl, q⟩
  · obtain ⟨bs, r2⟩ := Dp.reads I (.tuple ds) y u he ry
    exact SeqAt.in_tuple_reads r2 r1 (SeqAt.canLay_of_shaped se) (SeqAt.canLay_of_shaped sd) (room_in_shaped sd hu) ⟨.bl _, H, I, rfl, q⟩
theorem op_notInA (hu : X.A.units + 65 < cLine) : OpR X (compareOp .NotIn) (rInA X.K true) := by
  intro pins s σ H x y v u Q I rx ry h
  obtain ⟨d, ds, hd, he, sd, se, q⟩ := h
  obtain ⟨as, r1⟩ := Dp.reads I d x v hd rx
  rcases he with he | he
  · obtain ⟨bs, r2⟩ := Dp.reads I (.list ds) y u he ry
    exact SeqAt.notIn_list_reads r2 r1 (SeqAt.canLay_of_shaped se) (SeqAt.canLay_of_shaped sd) (room_in_shaped sd hu) ⟨.bl _, H, I, rfl, q⟩
  · obtain ⟨bs, r2⟩ := Dp.reads I (.tuple ds) y u he ry
    exact SeqAt.notIn_tuple_reads r2 r1 (SeqAt.canLay_of_shaped se) (SeqAt.canLay_of_shaped sd) (room_in_shaped sd hu) ⟨.bl _, H, I, rfl, q⟩
theorem inD_rep {K : PySem.W.Frag} {w : Wd} {H : Hp} {h : AH} {v1 v2 : V} {d1 d2 : D} {b : Bool} (rh : RepH K w H h) (r1 : Rv K w v1 d1) (r2 : Rv K w v2 d2) (e : inD h d1 d2 = some b) :
    ∃ d ds, Dp K H v1 d ∧ (Dp K H v2 (.list ds) ∨ Dp K H v2 (.tuple ds)) ∧ SeqAt.shaped d = true ∧ SeqAt.shaped (.list ds) = true ∧ b = ds.any fun z => PyData.eqv z d := by
  unfold inD at e
  split at e
  · rename_i p qs e1 e2
    obtain ⟨a1, a2⟩ := okP_some e1
    obtain ⟨b1, b2⟩ := okP_some e2
    cases e
    exact ⟨p, qs, toPh_rep rh r1 a1, .inl (toPh_rep rh r2 b1), a2, b2, rfl⟩
  · rename_i p qs e1 e2
    obtain ⟨a1, a2⟩ := okP_some e1
    obtain ⟨b1, b2⟩ := okP_some e2
    cases e
    exact ⟨p, qs, toPh_rep rh r1 a1, .inr (toPh_rep rh r2 b1), a2, b2, rfl⟩
  · cases e
theorem fol_in : Fol2 X W fIn (rInA X.K false) := by
  intro w h H σ Q v1 v2 d1 d2 rh r1 r2 o
  unfold fIn at o
  split at o
  · rename_i b e
    obtain ⟨d, ds, q1, q2, q3, q4, rfl⟩ := inD_rep rh r1 r2 e
    exact ⟨d, ds, q1, q2, q3, q4, out_ok o rh (.bl _)⟩
  · exact o.elim
theorem fol_notIn : Fol2 X W fNotIn (rInA X.K true) := by
  intro w h H σ Q v1 v2 d1 d2 rh r1 r2 o
  unfold fNotIn at o
  split at o
  · rename_i b e
    obtain ⟨d, ds, q1, q2, q3, q4, rfl⟩ := inD_rep rh r1 r2 e
    exact ⟨d, ds, q1, q2, q3, q4, out_ok o rh (.bl _)⟩
  · exact o.elim
end

/-! ### truth, tests -/
def truD (h : AH) : D → Option Bool
  | .non => some false
  | .bl b => some b
  | .int i => some (i != 0)
  | d => (vS h d).map fun ds => !ds.isEmpty
def tOf (m : Me) : MeT := fun G h => (m G h).bind fun d h1 => match truD h1 d with
  | some b => .ok b h1
  | none => .stuck
/-- a bool's own -/
def tBl (m : Me) : MeT := fun G h => (m G h).bind fun d h1 => match d with
  | .bl b => .ok b h1
  | _ => .stuck
def tAndM (a b : MeT) : MeT := fun G h => (a G h).bind fun c h1 => if c = true then b G h1 else .ok false h1
def tOrM (a b : MeT) : MeT := fun G h => (a G h).bind fun c h1 => if c = true then .ok true h1 else b G h1
def tNotM (a : MeT) : MeT := fun G h => (a G h).bind fun c h1 => .ok (!c) h1
def mAnd (a b : Me) : Me := fun G h => (a G h).bind fun d h1 => match truD h1 d with
  | some true => b G h1
  | some false => .ok d h1
  | none => .stuck
def mOr (a b : Me) : Me := fun G h => (a G h).bind fun d h1 => match truD h1 d with
  | some true => .ok d h1
  | some false => b G h1
  | none => .stuck
def mNot (a : Me) : Me := fun G h => (a G h).bind fun d h1 => match truD h1 d with
  | some b => .ok (.bl (!b)) h1
  | none => .stuck
def mIf (c : MeT) (a b : Me) : Me := fun G h => (c G h).bind fun t h1 => if t = true then a G h1 else b G h1
theorem truD_rep {K : PySem.W.Frag} {w : Wd} {H : Hp} {h : AH} {v : V} {d : D} {b : Bool} (rh : RepH K w H h) (rv : Rv K w v d) (e : truD h d = some b) : TruV K v H b := by
  have seq : ∀ {ds : List D}, vS h d = some ds → b = (!ds.isEmpty) → TruV K v H b := by
    intro ds q hb
    obtain ⟨a, xs, rfl, sq, ra⟩ := vS_rep rh rv q
    have eb : b = !xs.isEmpty := by
      rw [hb]
      cases ra <;> rfl
    rcases sq with sq | sq
    · exact .inl ⟨xs, sq, eb⟩
    · exact .inr (.inl ⟨xs, sq, eb⟩)
  cases d with
  | non => cases rv; cases e; rfl
  | bl c => cases rv; cases e; rfl
  | int c => cases rv; cases e; rfl
  | str c => cases e
  | con c => cases e
  | tup ds => cases e; exact seq rfl rfl
  | lst ds => cases e; exact seq rfl rfl
  | rol ds => cases e; exact seq rfl rfl
  | loc n =>
    have e : (vS h (.loc n)).map (fun ds : List D => !ds.isEmpty) = some b := e
    cases q : vS h (.loc n) with
    | none => rw [q] at e; cases e
    | some ds =>
      rw [q] at e
      cases e
      exact seq q rfl
section
variable {X : Cx} {W : WX} {pos : Pos} {a b c : Expr} {rest : List Expr} {ma mb : Me} {ta tb tc : MeT}
theorem t_tru (ha : PE X a (TM X W ma)) (he : ∀ whole, isTrue a X.env whole = (do let v ← whole; standAt a.pos; holding [v] (truthy v)) := by intro _; rfl) : PT X a (TTT X W (tOf ma)) := by
  refine (pt_truth ha he).wk fun σ H Q ⟨w, G, h, g, r, o⟩ => ⟨w, G, h, g, r, o.bindE fun d h1 v w1 H1 l r1 x o1 => ?_⟩
  split at o1
  · rename_i k e
    exact ⟨k, truD_rep r1 x e, o1 w1 H1 (Le.refl _) r1⟩
  · exact o1.elim
/-- a comparison -/
theorem t_cmp {f : D → D → AH → Res D} {r : R2} {op : CmpOp} (ho : OpR X (compareOp op) r) (hf : Fol2 X W f r) (ha : PE X a (TM X W ma)) (hb : PE X b (TM X W mb)) (hm : behindInMarks op b = false := by rfl) : PT X (.Compare a [op] [b] pos) (TTT X W (tBl (mOp2 f ma mb))) := by
  refine (pt_cmpR ho ha hb hm).wk fun σ H Q ⟨w, G, h, g, r, o⟩ => ?_
  refine op2 hf ⟨w, G, h, g, r, o.bindE fun d h1 v w1 H1 l r1 x o1 => ?_⟩
  split at o1
  · cases x
    exact ⟨_, rfl, o1 w1 H1 (Le.refl _) r1⟩
  · exact o1.elim
theorem t_not (ha : PT X a (TTT X W ta)) : PT X (.UnaryOp .Not a pos) (TTT X W (tNotM ta)) :=
  (pt_not ha).wk fun σ H Q ⟨w, G, h, g, r, o⟩ => ⟨w, G, h, g, r, o.bindT fun b h1 w1 H1 l r1 o1 => o1 w1 H1 (Le.refl _) r1⟩
theorem w_one (op : BoolOp) (ha : PT X a (TTT X W ta)) : PW X (.BoolOp op [a] pos) (TTT X W ta) := by
  cases op
  · exact pw_and1 ha
  · exact pw_or1 ha
theorem w_and (ha : PT X a (TTT X W ta)) (hb : PW X (.BoolOp .And (b :: rest) pos) (TTT X W tb)) : PW X (.BoolOp .And (a :: b :: rest) pos) (TTT X W (tAndM ta tb)) := by
  refine (pw_and ha hb).wk fun σ H Q ⟨w, G, h, g, r, o⟩ => ⟨w, G, h, g, r, o.bindT fun c h1 w1 H1 l r1 o1 => ?_⟩
  cases c with
  | true => exact ⟨w1, G, h1, g.mono l, r1, o1⟩
  | false => exact o1 w1 H1 (Le.refl _) r1
theorem w_or (ha : PT X a (TTT X W ta)) (hb : PW X (.BoolOp .Or (b :: rest) pos) (TTT X W tb)) : PW X (.BoolOp .Or (a :: b :: rest) pos) (TTT X W (tOrM ta tb)) := by
  refine (pw_or ha hb).wk fun σ H Q ⟨w, G, h, g, r, o⟩ => ⟨w, G, h, g, r, o.bindT fun c h1 w1 H1 l r1 o1 => ?_⟩
  cases c with
  | true => exact o1 w1 H1 (Le.refl _) r1
  | false => exact ⟨w1, G, h1, g.mono l, r1, o1⟩
theorem e_one {op : BoolOp} (ha : PE X a (TM X W ma)) : PE X (.BoolOp op [a] pos) (TM X W ma) := pe_one ha
theorem e_and (ha : PE X a (TM X W ma)) (hb : PE X (.BoolOp .And (b :: rest) pos) (TM X W mb)) : PE X (.BoolOp .And (a :: b :: rest) pos) (TM X W (mAnd ma mb)) := by
  refine (pe_andT ha hb).wk fun σ H Q ⟨w, G, h, g, r, o⟩ => ⟨w, G, h, g, r, o.bindE fun d h1 v w1 H1 l r1 x o1 => ?_⟩
  split at o1
  · rename_i e
    exact ⟨true, truD_rep r1 x e, iteT ⟨w1, G, h1, g.mono l, r1, o1⟩⟩
  · rename_i e
    exact ⟨false, truD_rep r1 x e, iteF (out_ok o1 r1 x)⟩
  · exact o1.elim
theorem e_or (ha : PE X a (TM X W ma)) (hb : PE X (.BoolOp .Or (b :: rest) pos) (TM X W mb)) : PE X (.BoolOp .Or (a :: b :: rest) pos) (TM X W (mOr ma mb)) := by
  refine (pe_orT ha hb).wk fun σ H Q ⟨w, G, h, g, r, o⟩ => ⟨w, G, h, g, r, o.bindE fun d h1 v w1 H1 l r1 x o1 => ?_⟩
  split at o1
  · rename_i e
    exact ⟨true, truD_rep r1 x e, iteT (out_ok o1 r1 x)⟩
  · rename_i e
    exact ⟨false, truD_rep r1 x e, iteF ⟨w1, G, h1, g.mono l, r1, o1⟩⟩
  · exact o1.elim
theorem e_not (ha : PE X a (TM X W ma)) : PE X (.UnaryOp .Not a pos) (TM X W (mNot ma)) := by
  refine (pe_notT ha).wk fun σ H Q ⟨w, G, h, g, r, o⟩ => ⟨w, G, h, g, r, o.bindE fun d h1 v w1 H1 l r1 x o1 => ?_⟩
  split at o1
  · rename_i b e
    exact ⟨b, truD_rep r1 x e, out_ok o1 r1 (.bl _)⟩
  · exact o1.elim
theorem e_if (hc : PT X c (TTT X W tc)) (ha : PE X a (TM X W ma)) (hb : PE X b (TM X W mb)) : PE X (.IfExp c a b pos) (TM X W (mIf tc ma mb)) := by
  refine (pe_ifExp hc ha hb).wk fun σ H Q ⟨w, G, h, g, r, o⟩ => ⟨w, G, h, g, r, o.bindT fun t h1 w1 H1 l r1 o1 => ?_⟩
  cases t with
  | true => exact ⟨w1, G, h1, g.mono l, r1, o1⟩
  | false => exact ⟨w1, G, h1, g.mono l, r1, o1⟩
/-- least <= x <= most -/
def mChain (f g : D → D → AH → Res D) (a b c : Me) : Me := fun G h => (a G h).bind fun x h1 => (b G h1).bind fun y h2 => (f x y h2).bind fun z h3 => match z with
  | .bl true => (c G h3).bind fun u h4 => g y u h4
  | .bl false => .ok (.bl false) h3
  | _ => .stuck
theorem OutE.bindR {K : PySem.W.Frag} {mg : Str → Option Value} {w : Wd} {σ : L2.St} {R Q : VK} {k : D → AH → Res D} {m : Res D} (o : OutE K mg W w σ Q (m.bind k))
    (hq : ∀ d h1 v w1 H1, Le w w1 → RepH K w1 H1 h1 → Rv K w1 v d → OutE K mg W w1 σ Q (k d h1) → R v H1) : OutE K mg W w σ R m := by
  cases m with
  | ok d h1 => exact fun v w1 H1 l r x => hq d h1 v w1 H1 l r x (OutE.mono l o)
  | exc c fs h1 => exact o
  | stuck => exact o
theorem e_chain {f f' : D → D → AH → Res D} {r r' : R2} {op op' : CmpOp} {mc : Me} (ho : OpR X (compareOp op) r) (ho' : OpR X (compareOp op') r') (hf : Fol2 X W f r) (hf' : Fol2 X W f' r')
    (ha : PE X a (TM X W ma)) (hb : PE X b (TM X W mb)) (hc : PE X c (TM X W mc)) (hm : lastMarks [op, op'] [b, c] = false := by with_unfolding_all rfl) : PE X (.Compare a [op, op'] [b, c] pos) (TM X W (mChain f f' ma mb mc)) := by
  refine (pe_chain ho ho' ha hb hc hm).wk fun σ H Q ⟨w, G, h, g, rh, o⟩ => ?_
  refine ⟨w, G, h, g, rh, o.bindE fun d h1 v w1 H1 l r1 x o1 => ⟨w1, G, h1, g.mono l, r1, o1.bindE fun d2 h2 v2 w2 H2 l2 r2 x2 o2 => ?_⟩⟩
  refine hf w2 h2 H2 σ _ v v2 d d2 r2 (Rv_mono l2 x) x2 (o2.bindR fun d3 h3 v3 w3 H3 l3 r3 x3 o3 => ?_)
  split at o3
  · cases x3
    exact ⟨true, rfl, iteT ⟨w3, G, h3, g.mono (l.trans (l2.trans l3)), r3, o3.bindE fun d4 h4 v4 w4 H4 l4 r4 x4 o4 => hf' w4 h4 H4 σ Q v2 v4 d2 d4 r4 (Rv_mono (l3.trans l4) x2) x4 o4⟩⟩
  · cases x3
    exact ⟨false, rfl, iteF (out_ok o3 r3 (.bl false))⟩
  · exact o3.elim
theorem t_chain {f f' : D → D → AH → Res D} {r r' : R2} {op op' : CmpOp} {mc : Me} (ho : OpR X (compareOp op) r) (ho' : OpR X (compareOp op') r') (hf : Fol2 X W f r) (hf' : Fol2 X W f' r')
    (ha : PE X a (TM X W ma)) (hb : PE X b (TM X W mb)) (hc : PE X c (TM X W mc)) (hm : lastMarks [op, op'] [b, c] = false := by with_unfolding_all rfl) : PT X (.Compare a [op, op'] [b, c] pos) (TTT X W (tBl (mChain f f' ma mb mc))) := by
  refine (pt_chain ho ho' ha hb hc hm).wk fun σ H Q ⟨w, G, h, g, rh, o⟩ => ?_
  have o : OutT X.K X.mg W w σ Q ((mChain f f' ma mb mc G h).bind _) := o
  have o2 : OutE X.K X.mg W w σ (fun x H1 => ∃ k, x = .bl k ∧ Q k H1) (mChain f f' ma mb mc G h) := o.bindE fun d h1 v w1 H1 l r1 x o1 => by
    split at o1
    · cases x
      exact ⟨_, rfl, o1 w1 H1 (Le.refl _) r1⟩
    · exact o1.elim
  refine ⟨w, G, h, g, rh, o2.bindE fun d h1 v w1 H1 l r1 x o1 => ⟨w1, G, h1, g.mono l, r1, o1.bindE fun d2 h2 v2 w2 H2 l2 r2 x2 o2 => ?_⟩⟩
  refine hf w2 h2 H2 σ _ v v2 d d2 r2 (Rv_mono l2 x) x2 (o2.bindR fun d3 h3 v3 w3 H3 l3 r3 x3 o3 => ?_)
  split at o3
  · cases x3
    exact ⟨true, rfl, iteT ⟨w3, G, h3, g.mono (l.trans (l2.trans l3)), r3, o3.bindE fun d4 h4 v4 w4 H4 l4 r4 x4 o4 => hf' w4 h4 H4 σ _ v2 v4 d2 d4 r4 (Rv_mono (l3.trans l4) x2) x4 o4⟩⟩
  · cases x3
    exact ⟨false, rfl, iteF (out_ok o3 r3 (.bl false))⟩
  · exact o3.elim
end
end AB
/-! AB: built-in calls, subscripts, slices, calls of defs. -/
namespace AB
open PySem PySem.Spec PyProof.Rows L2

/-! ### calls by values -/
section
variable {X : Cx} {W : WX} {pos p : Pos} {e : Expr} {es : List Expr} {as : MeL} {x : Str} {bid T : String} {ma mb : Me}
theorem cb {f : List D → AH → Res D} {r : List V → Hp → VK → Prop} (hf : FolN X W f r) {σ : L2.St} {H : Hp} {Q : VK} (t : TM X W (mN f as) σ H Q) : tCB r (TAr X W as) σ H Q := by
  obtain ⟨w, G, h, g, rh, o⟩ := t
  exact ⟨w, G, h, g, rh, o.bindA fun ds h1 vs w1 H1 l r1 x o1 => hf w1 h1 H1 σ Q vs ds r1 x o1⟩
def lN (f : List D → AH → Res (List D)) (as : MeL) : MeL := fun G h => (as G h).bind fun xs h1 => f xs h1
theorem cbF {f : List D → AH → Res (List D)} {r : List V → Hp → VK → Prop} (hf : FolF X W f r) {σ : L2.St} {H : Hp} {Q : VK} (t : TF X W (lN f as) σ H Q) : tCB r (TAr X W as) σ H Q := by
  obtain ⟨w, G, h, g, rh, o⟩ := t
  exact ⟨w, G, h, g, rh, OutF.bindA (m := as) o fun ds h1 vs w1 H1 l r1 x o1 => hf w1 h1 H1 σ Q vs ds r1 x o1⟩
theorem e_blt {f : List D → AH → Res D} {r : List V → Hp → VK → Prop} (hc : CallR X (.builtin bid) r) (hf : FolN X W f r) (hm : X.mg x = none) (ha : PA X (e :: es) (TAr X W as)) (hg : Gl X x := by rfl) (hv : bootBuiltins x = some (.builtin bid) := by decide +kernel) (hn : x ≠ "__name__" := by decide) (hdb : (x == ("__debug__" : Str)) = false := by decide)
    (he : starEach (e :: es) X.env = (false, eval e X.env) :: starEach es X.env := by rfl) (hpl : (backTo pos (starEach es X.env)).any (·.1) = false := by rfl) : PE X (.Call (.Name x p) (e :: es) [] pos) (TM X W (mN f as)) :=
  (pe_callB hc hg hm hv ha hn hdb he hpl).wk fun _ _ _ t => cb hf t
theorem e_typ {f : List D → AH → Res D} {r : List V → Hp → VK → Prop} (hc : CallR X (.type T) r) (hf : FolN X W f r) (hm : X.mg x = none) (ha : PA X (e :: es) (TAr X W as)) (hg : Gl X x := by rfl) (hv : bootBuiltins x = some (.type T) := by decide +kernel) (hn : x ≠ "__name__" := by decide) (hdb : (x == ("__debug__" : Str)) = false := by decide)
    (he : starEach (e :: es) X.env = (false, eval e X.env) :: starEach es X.env := by rfl) (hpl : (backTo pos (starEach es X.env)).any (·.1) = false := by rfl) : PE X (.Call (.Name x p) (e :: es) [] pos) (TM X W (mN f as)) :=
  (pe_callTy hc hg hm hv ha hn hdb he hpl).wk fun _ _ _ t => cb hf t
theorem f_blt {f : List D → AH → Res (List D)} {r : List V → Hp → VK → Prop} (hc : CallR X (.builtin bid) r) (hf : FolF X W f r) (hm : X.mg x = none) (ha : PA X (e :: es) (TAr X W as)) (hg : Gl X x := by rfl) (hv : bootBuiltins x = some (.builtin bid) := by decide +kernel) (hn : x ≠ "__name__" := by decide) (hdb : (x == ("__debug__" : Str)) = false := by decide)
    (he : starEach (e :: es) X.env = (false, eval e X.env) :: starEach es X.env := by rfl) (hpl : (backTo pos (starEach es X.env)).any (·.1) = false := by rfl) : PE X (.Call (.Name x p) (e :: es) [] pos) (TF X W (lN f as)) :=
  (pe_callB hc hg hm hv ha hn hdb he hpl).wk fun _ _ _ t => cbF hf t
theorem f_typ {f : List D → AH → Res (List D)} {r : List V → Hp → VK → Prop} (hc : CallR X (.type T) r) (hf : FolF X W f r) (hm : X.mg x = none) (ha : PA X (e :: es) (TAr X W as)) (hg : Gl X x := by rfl) (hv : bootBuiltins x = some (.type T) := by decide +kernel) (hn : x ≠ "__name__" := by decide) (hdb : (x == ("__debug__" : Str)) = false := by decide)
    (he : starEach (e :: es) X.env = (false, eval e X.env) :: starEach es X.env := by rfl) (hpl : (backTo pos (starEach es X.env)).any (·.1) = false := by rfl) : PE X (.Call (.Name x p) (e :: es) [] pos) (TF X W (lN f as)) :=
  (pe_callTy hc hg hm hv ha hn hdb he hpl).wk fun _ _ _ t => cbF hf t
theorem ra_one {w : Wd} {vs : List V} {d : D} (r : Ra X.K w vs [d]) : ∃ v, vs = [v] ∧ Rv X.K w v d := by
  cases r with
  | cons a b => cases b; exact ⟨_, rfl, a⟩
theorem ra_two {w : Wd} {vs : List V} {d d2 : D} (r : Ra X.K w vs [d, d2]) : ∃ v v2, vs = [v, v2] ∧ Rv X.K w v d ∧ Rv X.K w v2 d2 := by
  cases r with
  | cons a b =>
    cases b with
    | cons c d => cases d; exact ⟨_, _, rfl, a, c⟩
/-! len -/
def fLen (xs : List D) (h : AH) : Res D := match xs with
  | [.str x] => if x.length ≤ big then .ok (.int x.length) h else .stuck
  | [d] => match vS h d with
    | some ds => .ok (.int ds.length) h
    | none => .stuck
  | _ => .stuck
theorem fol_len : FolN X W fLen (fun xs H Q => ∃ x n, xs = [x] ∧ LenV X.K x H n ∧ Q (.int n) H) := by
  intro w h H σ Q vs ds rh ra o
  unfold fLen at o
  split at o
  · obtain ⟨v, rfl, rv⟩ := ra_one ra
    split at o
    · rename_i c
      cases rv
      exact ⟨_, _, rfl, ⟨big_le c, rfl⟩, out_ok o rh (.int _)⟩
    · exact o.elim
  · obtain ⟨v, rfl, rv⟩ := ra_one ra
    split at o
    · rename_i es e
      obtain ⟨a, xs, rfl, sq, ra2⟩ := vS_rep rh rv e
      refine ⟨_, xs.length, rfl, ?_, ?_⟩
      · rcases sq with sq | sq
        · exact .inl ⟨xs, sq, rfl⟩
        · exact .inr ⟨xs, sq, rfl⟩
      · rw [ra2.length]
        exact out_ok o rh (.int _)
    · exact o.elim
  · exact o.elim
theorem e_len (hm : X.mg "len" = none) (ha : PA X [e] (TAr X W as)) (hg : Gl X "len" := by rfl) (he : starEach [e] X.env = (false, eval e X.env) :: starEach [] X.env := by rfl) : PE X (.Call (.Name "len" p) [e] [] pos) (TM X W (mN fLen as)) :=
  e_blt call_len fol_len hm ha hg PySem.boot_len (by decide) (by decide) he rfl
/-! tuple(x), list(x), int(x), abs(x) -/
def fTuple (xs : List D) (h : AH) : Res D := match xs with
  | [d] => match vS h d with
    | some ds => .ok (.tup ds) h
    | none => .stuck
  | _ => .stuck
theorem fol_tuple : FolN X W fTuple (fun xs H Q => ∃ p ys, xs = [.ref p] ∧ ((SqL X.K H p ys ∧ ∀ l, H l = none → Q (.ref l) (upd H l (.tup ys))) ∨ (SqT X.K H p ys ∧ Q (.ref p) H))) := by
  intro w h H σ Q vs ds rh ra o
  unfold fTuple at o
  split at o
  · rename_i d
    obtain ⟨v, rfl, rv⟩ := ra_one ra
    split at o
    · rename_i es e
      by_cases ht : ∃ ts, d = .tup ts
      · obtain ⟨ts, rfl⟩ := ht
        cases e
        cases rv with
        | tup a b => exact ⟨_, _, rfl, .inr ⟨rh.ex.t a, out_ok o rh (.tup a b)⟩⟩
      · have e : vL h d = some es := by
          cases d with
          | tup es => exact absurd ⟨es, rfl⟩ ht
          | _ => exact e
        obtain ⟨a, xs, rfl, sq, ra2⟩ := vL_rep rh rv e
        exact ⟨a, xs, rfl, .inl ⟨sq, fun l hl => out_add o rh hl (rv_tup rh hl ra2)⟩⟩
    · exact o.elim
  · exact o.elim
theorem e_tuple (hm : X.mg "tuple" = none) (ha : PA X [e] (TAr X W as)) (hg : Gl X "tuple" := by rfl) (he : starEach [e] X.env = (false, eval e X.env) :: starEach [] X.env := by rfl) : PE X (.Call (.Name "tuple" p) [e] [] pos) (TM X W (mN fTuple as)) :=
  e_typ call_tuple_of fol_tuple hm ha hg (by decide +kernel) (by decide) (by decide) he rfl
def lList (xs : List D) (h : AH) : Res (List D) := match xs with
  | [d] => match vS h d with
    | some ds => .ok ds h
    | none => .stuck
  | _ => .stuck
theorem fol_list : FolF X W lList (fun xs H Q => ∃ p ys, xs = [.ref p] ∧ (SqL X.K H p ys ∨ SqT X.K H p ys) ∧ ∀ l, H l = none → Q (.ref l) (upd H l (.lst ys))) := by
  intro w h H σ Q vs ds rh ra o
  unfold lList at o
  split at o
  · obtain ⟨v, rfl, rv⟩ := ra_one ra
    split at o
    · rename_i es e
      obtain ⟨a, xs, rfl, sq, ra2⟩ := vS_rep rh rv e
      exact ⟨a, xs, rfl, sq, fun l hl => out_new o rh hl ra2⟩
    · exact o.elim
  · exact o.elim
theorem f_list (hm : X.mg "list" = none) (ha : PA X [e] (TAr X W as)) (hg : Gl X "list" := by rfl) (he : starEach [e] X.env = (false, eval e X.env) :: starEach [] X.env := by rfl) : PE X (.Call (.Name "list" p) [e] [] pos) (TF X W (lN lList as)) :=
  f_typ call_list_of fol_list hm ha hg (by decide +kernel) (by decide) (by decide) he rfl
def fInt (xs : List D) (h : AH) : Res D := match xs with
  | [.int i] => .ok (.int i) h
  | [.bl b] => .ok (.int (if b then 1 else 0)) h
  | _ => .stuck
theorem fol_int1 : FolN X W fInt (fun xs H Q => (∃ i, xs = [.int i] ∧ Q (.int i) H) ∨ ∃ k, xs = [.bl k] ∧ Q (.int (if k then 1 else 0)) H) := by
  intro w h H σ Q vs ds rh ra o
  unfold fInt at o
  split at o
  · obtain ⟨v, rfl, rv⟩ := ra_one ra
    cases rv
    exact .inl ⟨_, rfl, out_ok o rh (.int _)⟩
  · obtain ⟨v, rfl, rv⟩ := ra_one ra
    cases rv
    exact .inr ⟨_, rfl, out_ok o rh (.int _)⟩
  · exact o.elim
theorem e_int1 (hm : X.mg "int" = none) (ha : PA X [e] (TAr X W as)) (hg : Gl X "int" := by rfl) (he : starEach [e] X.env = (false, eval e X.env) :: starEach [] X.env := by rfl) : PE X (.Call (.Name "int" p) [e] [] pos) (TM X W (mN fInt as)) :=
  e_typ call_int1 fol_int1 hm ha hg (by decide +kernel) (by decide) (by decide) he rfl
def fAbs (xs : List D) (h : AH) : Res D := match xs with
  | [.int i] => .ok (.int (if i < 0 then -i else i)) h
  | _ => .stuck
theorem fol_abs : FolN X W fAbs (fun xs H Q => ∃ i, xs = [.int i] ∧ Q (.int (if i < 0 then -i else i)) H) := by
  intro w h H σ Q vs ds rh ra o
  unfold fAbs at o
  split at o
  · obtain ⟨v, rfl, rv⟩ := ra_one ra
    cases rv
    exact ⟨_, rfl, out_ok o rh (.int _)⟩
  · exact o.elim
theorem e_abs (hm : X.mg "abs" = none) (ha : PA X [e] (TAr X W as)) (hg : Gl X "abs" := by rfl) (he : starEach [e] X.env = (false, eval e X.env) :: starEach [] X.env := by rfl) : PE X (.Call (.Name "abs" p) [e] [] pos) (TM X W (mN fAbs as)) :=
  e_blt call_abs fol_abs hm ha hg (by decide +kernel) (by decide) (by decide) he rfl
/-! all, any, sum, max, min, sorted of ints -/
def blsOf : List D → Option (List Bool)
  | [] => some []
  | .bl b :: ds => (blsOf ds).map (b :: ·)
  | _ :: _ => none
def intsOf : List D → Option (List Int)
  | [] => some []
  | .int b :: ds => (intsOf ds).map (b :: ·)
  | _ :: _ => none
theorem blsOf_rep {w : Wd} : ∀ {ds : List D} {xs : List V} {bs : List Bool}, Ra X.K w xs ds → blsOf ds = some bs → xs = bs.map V.bl
  | [], _, _, r, e => by cases r; cases e; rfl
  | .bl b :: ds, _, bs, r, e => by
    cases r with
    | cons a t =>
      cases a
      unfold blsOf at e
      cases q : blsOf ds with
      | none => rw [q] at e; cases e
      | some cs =>
        rw [q] at e
        cases e
        rw [blsOf_rep t q] <;> rfl
  | .non :: _, _, _, _, e => by cases e
  | .int _ :: _, _, _, _, e => by cases e
  | .str _ :: _, _, _, _, e => by cases e
  | .tup _ :: _, _, _, _, e => by cases e
  | .lst _ :: _, _, _, _, e => by cases e
  | .rol _ :: _, _, _, _, e => by cases e
  | .loc _ :: _, _, _, _, e => by cases e
  | .con _ :: _, _, _, _, e => by cases e
theorem intsOf_rep {w : Wd} : ∀ {ds : List D} {xs : List V} {bs : List Int}, Ra X.K w xs ds → intsOf ds = some bs → xs = bs.map V.int
  | [], _, _, r, e => by cases r; cases e; rfl
  | .int b :: ds, _, bs, r, e => by
    cases r with
    | cons a t =>
      cases a
      unfold intsOf at e
      cases q : intsOf ds with
      | none => rw [q] at e; cases e
      | some cs =>
        rw [q] at e
        cases e
        rw [intsOf_rep t q] <;> rfl
  | .non :: _, _, _, _, e => by cases e
  | .bl _ :: _, _, _, _, e => by cases e
  | .str _ :: _, _, _, _, e => by cases e
  | .tup _ :: _, _, _, _, e => by cases e
  | .lst _ :: _, _, _, _, e => by cases e
  | .rol _ :: _, _, _, _, e => by cases e
  | .loc _ :: _, _, _, _, e => by cases e
  | .con _ :: _, _, _, _, e => by cases e
def lBls (xs : List D) (h : AH) : Option (List Bool) := match xs with
  | [d] => (vL h d).bind blsOf
  | _ => none
def lInts (xs : List D) (h : AH) : Option (List Int) := match xs with
  | [d] => (vL h d).bind intsOf
  | _ => none
theorem lBls_rep {w : Wd} {h : AH} {H : Hp} {vs : List V} {ds : List D} {bs : List Bool} (rh : RepH X.K w H h) (ra : Ra X.K w vs ds) (e : lBls ds h = some bs) : ∃ a, vs = [.ref a] ∧ SqL X.K H a (bs.map V.bl) := by
  unfold lBls at e
  split at e
  · rename_i d
    obtain ⟨v, rfl, rv⟩ := ra_one ra
    cases q : vL h d with
    | none => rw [q] at e; cases e
    | some es =>
      rw [q] at e
      obtain ⟨a, xs, rfl, sq, ra2⟩ := vL_rep rh rv q
      have z := blsOf_rep ra2 e
      subst z
      exact ⟨a, rfl, sq⟩
  · cases e
theorem lInts_rep {w : Wd} {h : AH} {H : Hp} {vs : List V} {ds : List D} {bs : List Int} (rh : RepH X.K w H h) (ra : Ra X.K w vs ds) (e : lInts ds h = some bs) : ∃ a, vs = [.ref a] ∧ SqL X.K H a (bs.map V.int) := by
  unfold lInts at e
  split at e
  · rename_i d
    obtain ⟨v, rfl, rv⟩ := ra_one ra
    cases q : vL h d with
    | none => rw [q] at e; cases e
    | some es =>
      rw [q] at e
      obtain ⟨a, xs, rfl, sq, ra2⟩ := vL_rep rh rv q
      have z := intsOf_rep ra2 e
      subst z
      exact ⟨a, rfl, sq⟩
  · cases e
def fAll (xs : List D) (h : AH) : Res D := match lBls xs h with
  | some bs => .ok (.bl (bs.all id)) h
  | none => .stuck
def fAny (xs : List D) (h : AH) : Res D := match lBls xs h with
  | some bs => .ok (.bl (bs.any id)) h
  | none => .stuck
def fSum (xs : List D) (h : AH) : Res D := match lInts xs h with
  | some bs => .ok (.int bs.sum) h
  | none => .stuck
def maxI : List Int → Int
  | [] => 0
  | [x] => x
  | x :: y :: r => max x (maxI (y :: r))
def minI : List Int → Int
  | [] => 0
  | [x] => x
  | x :: y :: r => min x (minI (y :: r))
theorem maxI_ge : ∀ {ns : List Int} {y : Int}, y ∈ ns → y ≤ maxI ns
  | [x], y, h => by simp at h; subst h; exact Int.le_refl _
  | x :: z :: r, y, h => by
    rcases List.mem_cons.mp h with h | h
    · subst h
      exact Int.le_max_left _ _
    · exact Int.le_trans (maxI_ge h) (Int.le_max_right _ _)
theorem maxI_mem : ∀ {ns : List Int}, ns ≠ [] → maxI ns ∈ ns
  | [x], _ => by simp [maxI]
  | x :: z :: r, _ => by
    have := maxI_mem (ns := z :: r) (by simp)
    unfold maxI
    by_cases q : x ≤ maxI (z :: r)
    · rw [Int.max_eq_right q]
      exact List.mem_cons_of_mem _ this
    · rw [Int.max_eq_left (by omega)]
      exact List.mem_cons_self
theorem minI_le : ∀ {ns : List Int} {y : Int}, y ∈ ns → minI ns ≤ y
  | [x], y, h => by simp at h; subst h; exact Int.le_refl _
  | x :: z :: r, y, h => by
    rcases List.mem_cons.mp h with h | h
    · subst h
      exact Int.min_le_left _ _
    · exact Int.le_trans (Int.min_le_right _ _) (minI_le h)
theorem minI_mem : ∀ {ns : List Int}, ns ≠ [] → minI ns ∈ ns
  | [x], _ => by simp [minI]
  | x :: z :: r, _ => by
    have := minI_mem (ns := z :: r) (by simp)
    unfold minI
    by_cases q : x ≤ minI (z :: r)
    · rw [Int.min_eq_left q]
      exact List.mem_cons_self
    · rw [Int.min_eq_right (by omega)]
      exact List.mem_cons_of_mem _ this
def fMax (xs : List D) (h : AH) : Res D := match xs with
  | [.int i, .int j] => .ok (.int (if j > i then j else i)) h
  | _ => match lInts xs h with
    | some [] => .stuck
    | some ns => .ok (.int (maxI ns)) h
    | none => .stuck
def fMin (xs : List D) (h : AH) : Res D := match xs with
  | [.int i, .int j] => .ok (.int (if j < i then j else i)) h
  | _ => match lInts xs h with
    | some [] => .stuck
    | some ns => .ok (.int (minI ns)) h
    | none => .stuck
theorem fol_all : FolN X W fAll (rAll X.K) := by
  intro w h H σ Q vs ds rh ra o
  unfold fAll at o
  split at o
  · rename_i bs e
    obtain ⟨a, rfl, sq⟩ := lBls_rep rh ra e
    exact ⟨a, bs, rfl, sq, out_ok o rh (.bl _)⟩
  · exact o.elim
theorem fol_any : FolN X W fAny (rAny X.K) := by
  intro w h H σ Q vs ds rh ra o
  unfold fAny at o
  split at o
  · rename_i bs e
    obtain ⟨a, rfl, sq⟩ := lBls_rep rh ra e
    exact ⟨a, bs, rfl, sq, out_ok o rh (.bl _)⟩
  · exact o.elim
theorem fol_sum : FolN X W fSum (rSum X.K) := by
  intro w h H σ Q vs ds rh ra o
  unfold fSum at o
  split at o
  · rename_i bs e
    obtain ⟨a, rfl, sq⟩ := lInts_rep rh ra e
    exact ⟨a, bs, rfl, sq, out_ok o rh (.int _)⟩
  · exact o.elim
def rMaxB (K : PySem.W.Frag) : List V → Hp → VK → Prop := fun xs H Q => (∃ i j, xs = [.int i, .int j] ∧ Q (.int (if j > i then j else i)) H) ∨ rMax K xs H Q
def rMinB (K : PySem.W.Frag) : List V → Hp → VK → Prop := fun xs H Q => (∃ i j, xs = [.int i, .int j] ∧ Q (.int (if j < i then j else i)) H) ∨ rMin K xs H Q
theorem fol_max : FolN X W fMax (rMaxB X.K) := by
  intro w h H σ Q vs ds rh ra o
  unfold fMax at o
  split at o
  · obtain ⟨v, v2, rfl, r1, r2⟩ := ra_two ra
    cases r1
    cases r2
    exact .inl ⟨_, _, rfl, out_ok o rh (.int _)⟩
  · split at o
    · exact o.elim
    · rename_i bs hne e
      obtain ⟨a, rfl, sq⟩ := lInts_rep rh ra e
      have hb : bs ≠ [] := fun z => hne (by rw [← z] <;> rfl)
      refine .inr ⟨a, bs, rfl, sq, List.length_pos_iff.mpr hb, fun m hm hle => ?_⟩
      have : m = maxI bs := Int.le_antisymm (maxI_ge hm) (hle _ (maxI_mem hb))
      rw [this]
      exact out_ok o rh (.int _)
    · exact o.elim
theorem fol_min : FolN X W fMin (rMinB X.K) := by
  intro w h H σ Q vs ds rh ra o
  unfold fMin at o
  split at o
  · obtain ⟨v, v2, rfl, r1, r2⟩ := ra_two ra
    cases r1
    cases r2
    exact .inl ⟨_, _, rfl, out_ok o rh (.int _)⟩
  · split at o
    · exact o.elim
    · rename_i bs hne e
      obtain ⟨a, rfl, sq⟩ := lInts_rep rh ra e
      have hb : bs ≠ [] := fun z => hne (by rw [← z] <;> rfl)
      refine .inr ⟨a, bs, rfl, sq, List.length_pos_iff.mpr hb, fun m hm hle => ?_⟩
      have : m = minI bs := Int.le_antisymm (hle _ (minI_mem hb)) (minI_le hm)
      rw [this]
      exact out_ok o rh (.int _)
    · exact o.elim
theorem e_all (hm : X.mg "all" = none) (ha : PA X [e] (TAr X W as)) (hg : Gl X "all" := by rfl) (hc : X.calm = true := by rfl) (he : starEach [e] X.env = (false, eval e X.env) :: starEach [] X.env := by rfl) : PE X (.Call (.Name "all" p) [e] [] pos) (TM X W (mN fAll as)) :=
  e_blt (cr_all hc) fol_all hm ha hg (by decide +kernel) (by decide) (by decide) he rfl
theorem e_any (hm : X.mg "any" = none) (ha : PA X [e] (TAr X W as)) (hg : Gl X "any" := by rfl) (hc : X.calm = true := by rfl) (he : starEach [e] X.env = (false, eval e X.env) :: starEach [] X.env := by rfl) : PE X (.Call (.Name "any" p) [e] [] pos) (TM X W (mN fAny as)) :=
  e_blt (cr_any hc) fol_any hm ha hg (by decide +kernel) (by decide) (by decide) he rfl
theorem e_sum (hm : X.mg "sum" = none) (ha : PA X [e] (TAr X W as)) (hg : Gl X "sum" := by rfl) (hc : X.calm = true := by rfl) (he : starEach [e] X.env = (false, eval e X.env) :: starEach [] X.env := by rfl) : PE X (.Call (.Name "sum" p) [e] [] pos) (TM X W (mN fSum as)) :=
  e_blt (cr_sum hc) fol_sum hm ha hg (by decide +kernel) (by decide) (by decide) he rfl
theorem e_max (hm : X.mg "max" = none) (ha : PA X (e :: es) (TAr X W as)) (hg : Gl X "max" := by rfl) (hc : X.calm = true := by rfl) (he : starEach (e :: es) X.env = (false, eval e X.env) :: starEach es X.env := by rfl) (hpl : (backTo pos (starEach es X.env)).any (·.1) = false := by rfl) : PE X (.Call (.Name "max" p) (e :: es) [] pos) (TM X W (mN fMax as)) :=
  e_blt (CallR.or (call_max2 hc) (cr_max hc)) fol_max hm ha hg (by decide +kernel) (by decide) (by decide) he hpl
theorem e_min (hm : X.mg "min" = none) (ha : PA X (e :: es) (TAr X W as)) (hg : Gl X "min" := by rfl) (hc : X.calm = true := by rfl) (he : starEach (e :: es) X.env = (false, eval e X.env) :: starEach es X.env := by rfl) (hpl : (backTo pos (starEach es X.env)).any (·.1) = false := by rfl) : PE X (.Call (.Name "min" p) (e :: es) [] pos) (TM X W (mN fMin as)) :=
  e_blt (CallR.or (call_min2 hc) (cr_min hc)) fol_min hm ha hg (by decide +kernel) (by decide) (by decide) he hpl

/-! ### isinstance of a built-in class -/
inductive Ty where
  | non | bl | int | str | tup | lst | dct
def Ty.name : Ty → String
  | .non => "NoneType"
  | .bl => "bool"
  | .int => "int"
  | .str => "str"
  | .tup => "tuple"
  | .lst => "list"
  | .dct => "dict"
def Ty.sub : Ty → Ty → Bool
  | .non, .non => true
  | .bl, .bl => true
  | .bl, .int => true
  | .int, .int => true
  | .str, .str => true
  | .tup, .tup => true
  | .lst, .lst => true
  | .dct, .dct => true
  | _, _ => false
theorem kit_tag : ∀ a b : Ty, kitB a.name b.name = some (a.sub b) := by
  intro a b
  cases a <;> cases b <;> decide +kernel
def tyD (h : AH) : D → Option Ty
  | .non => some .non
  | .bl _ => some .bl
  | .int _ => some .int
  | .str _ => some .str
  | .tup _ => some .tup
  | .lst _ => some .lst
  | .rol _ => some .lst
  | .loc n => match h[n]? with
    | some (.lst _) => some .lst
    | _ => none
  | .con _ => none
theorem tyT {K : PySem.W.Frag} {H : Hp} {a : Addr} {xs : List V} (s : SqT K H a xs) : TyX K H (.ref a) (.type "tuple") := by
  rcases s with (s | ⟨o, s⟩) | ⟨o, its, n, hk, hc, _⟩
  · exact .base (.tup s)
  · exact .fTuple s
  · exact .kTuple hk hc
theorem tyL {K : PySem.W.Frag} {H : Hp} {a : Addr} {xs : List V} (s : SqL K H a xs) : TyX K H (.ref a) (.type "list") := by
  rcases s with (s | ⟨o, s⟩) | ⟨o, its, n, hk, hc, _⟩
  · exact .base (.lst s)
  · exact .base (.frz s)
  · exact .kList hk hc
theorem tyD_rep {K : PySem.W.Frag} {w : Wd} {H : Hp} {h : AH} {v : V} {d : D} {t : Ty} (rh : RepH K w H h) (rv : Rv K w v d) (e : tyD h d = some t) : TyX K H v (.type t.name) := by
  cases d with
  | non => cases rv; cases e; exact .base .non
  | bl b => cases rv; cases e; exact .base (.bl b)
  | int b => cases rv; cases e; exact .base (.int b)
  | str b => cases rv; cases e; exact .base (.str b)
  | tup ds =>
    cases rv with
    | tup a b => cases e; exact tyT (rh.ex.t a)
  | lst ds =>
    cases rv with
    | lst a b => cases e; exact tyL (.inl (rh.ex.rd a))
  | rol ds =>
    cases rv with
    | rol a b => cases e; exact tyL (rh.ex.l a)
  | con a => cases e
  | loc n =>
    cases rv with
    | loc hn =>
      have e : (match h[n]? with
        | some (.lst _) => some Ty.lst
        | _ => none) = some t := e
      split at e
      · rename_i ds e'
        obtain ⟨_, xs, e2, ra⟩ := rh.cell _ _ e'
        cases e
        exact .base (.lst e2)
      · cases e
def mIsi (T : Ty) (m : Me) : Me := fun G h => (m G h).bind fun d h1 => match tyD h1 d with
  | some t => .ok (.bl (t.sub T)) h1
  | none => .stuck
theorem e_isi (T : Ty) {t : Str} {pt : Pos} (hi : X.mg "isinstance" = none) (ht : X.mg t = none) (he : PE X e (TM X W ma)) (hgt : Gl X t := by rfl) (hbt : bootBuiltins t = some (.type T.name) := by decide +kernel) (hg : Gl X "isinstance" := by rfl)
    (hn : t ≠ "__name__" := by decide) (hd : (t == ("__debug__" : Str)) = false := by decide)
    (h1 : starEach [e, .Name t pt] X.env = (false, eval e X.env) :: starEach [.Name t pt] X.env := by rfl) (h2 : starEach [.Name t pt] X.env = (false, eval (.Name t pt) X.env) :: starEach [] X.env := by rfl) (hpl : (backTo pos (starEach [.Name t pt] X.env)).any (·.1) = false := by rfl) :
    PE X (.Call (.Name "isinstance" p) [e, .Name t pt] [] pos) (TM X W (mIsi T ma)) := by
  refine (pe_callB call_isi hg hi (by decide +kernel) (pa_cons he (pa_cons (pe_bltn (v := .ty T.name) hgt ht hbt rfl hn hd) pa_nil h2) h1) (by decide) (by decide) h1 hpl).wk fun σ H Q ⟨w, G, h, g, r, o⟩ => ⟨w, G, h, g, r, o.bindE fun d h1 v w1 H1 l r1 x o1 => ?_⟩
  split at o1
  · rename_i t e
    exact ⟨v, .ty T.name, .type t.name, .type T.name, t.sub T, rfl, .ty _, tyD_rep r1 x e, kit_ty (kit_tag t T), out_ok o1 r1 (.bl _)⟩
  · exact o1.elim

/-! ### subscripts, slices -/
theorem atI_rep {w : Wd} {xs : List V} {ds : List D} {i : Int} {d : D} (ra : Ra X.K w xs ds) (e : atI ds i = some d) : ∃ v, atI xs i = some v ∧ Rv X.K w v d := by
  unfold atI at e ⊢
  rw [ra.length]
  cases q : ixN ds.length i with
  | none => rw [q] at e; cases e
  | some j =>
    rw [q] at e
    obtain ⟨v, h1, h2⟩ := ra.get (i := j) (d := d) e
    exact ⟨v, h1, h2⟩
def fIx (x i : D) (h : AH) : Res D := match i with
  | .int k => match vS h x with
    | some ds => match atI ds k with
      | some d => .ok d h
      | none => .stuck
    | none => .stuck
  | _ => .stuck
theorem fol_ix : Fol2 X W fIx (rIx X.K) := by
  intro w h H σ Q v1 v2 d1 d2 rh r1 r2 o
  unfold fIx at o
  split at o
  · rename_i k
    split at o
    · rename_i ds e
      split at o
      · rename_i d e2
        cases r2
        obtain ⟨a, xs, rfl, sq, ra⟩ := vS_rep rh r1 e
        obtain ⟨v, e3, rv⟩ := atI_rep ra e2
        rcases sq with sq | sq
        · exact .inl ⟨a, xs, k, v, rfl, rfl, sq, e3, out_ok o rh rv⟩
        · exact .inr (.inl ⟨a, xs, k, v, rfl, rfl, sq, e3, out_ok o rh rv⟩)
      · exact o.elim
    · exact o.elim
  · exact o.elim
variable {a b : Expr}
theorem e_ix (ha : PE X a (TM X W ma)) (hb : PE X b (TM X W mb)) (hs : PlainIx b := by exact fun _ _ => rfl) : PE X (.Subscript a b pos) (TM X W (mOp2 fIx ma mb)) :=
  (pe_ix ix_seq ha hb hs).wk fun _ _ _ t => op2 fol_ix t
abbrev MeO := Env → AH → Res (Option Int)
def oNone : MeO := fun _ h => .ok none h
def oSome (m : Me) : MeO := fun G h => (m G h).bind fun d h1 => match d with
  | .int i => .ok (some i) h1
  | _ => .stuck
def OutO (K : PySem.W.Frag) (mg : Str → Option Value) (W : WX) (w : Wd) (σ : L2.St) (Q : Option Int → Hp → Prop) : Res (Option Int) → Prop
  | .ok b h => ∀ w' H', Le w w' → RepH K w' H' h → Q b H'
  | .exc c fs h => OutX K mg W w σ c fs h
  | .stuck => False
def tO (X : Cx) (W : WX) (m : MeO) : TO := fun σ H Q => ∃ w G h, RepG X.K w σ G ∧ RepH X.K w H h ∧ OutO X.K X.mg W w σ Q (m G h)
theorem _root_.L2.PO.wk {X : Cx} {e : Option Expr} {t t' : TO} (h : PO X e t) (k : ∀ σ H Q, t' σ H Q → t σ H Q) : PO X e t' := ⟨fun pins s σ H Q I q => h.run pins s σ H Q I (k σ H Q q)⟩
theorem o_none : PO X none (tO X W oNone) := po_none.wk fun σ H Q ⟨w, G, h, g, r, o⟩ => o w H (Le.refl _) r
theorem o_some (he : PE X e (TM X W ma)) : PO X (some e) (tO X W (oSome ma)) := by
  refine (po_some he).wk fun σ H Q ⟨w, G, h, g, r, o⟩ => ⟨w, G, h, g, r, ?_⟩
  have o : OutO X.K X.mg W w σ Q ((ma G h).bind _) := o
  cases e : ma G h with
  | ok d h1 =>
    rw [e] at o
    intro v w1 H1 l r1 x
    cases d with
    | int i =>
      cases x
      exact ⟨_, rfl, o w1 H1 l r1⟩
    | _ => exact o.elim
  | exc c fs h1 =>
    rw [e] at o
    exact o
  | stuck =>
    rw [e] at o
    exact o
theorem OutE.bindO {K : PySem.W.Frag} {mg : Str → Option Value} {w : Wd} {σ : L2.St} {G : Env} {h : AH} {m : MeO} {R : Option Int → Hp → Prop} {Q : VK} {k : Option Int → AH → Res D} (o : OutE K mg W w σ Q ((m G h).bind k))
    (hq : ∀ b h1 w1 H1, Le w w1 → RepH K w1 H1 h1 → OutE K mg W w1 σ Q (k b h1) → R b H1) : OutO K mg W w σ R (m G h) := by
  cases e : m G h with
  | ok d h1 =>
    rw [e] at o
    exact fun w1 H1 l r => hq d h1 w1 H1 l r (OutE.mono l o)
  | exc c fs h1 =>
    rw [e] at o
    exact o
  | stuck =>
    rw [e] at o
    exact o
theorem OutF.bindO {K : PySem.W.Frag} {mg : Str → Option Value} {w : Wd} {σ : L2.St} {G : Env} {h : AH} {m : MeO} {R : Option Int → Hp → Prop} {Q : VK} {k : Option Int → AH → Res (List D)} (o : OutF K mg W w σ Q ((m G h).bind k))
    (hq : ∀ b h1 w1 H1, Le w w1 → RepH K w1 H1 h1 → OutF K mg W w1 σ Q (k b h1) → R b H1) : OutO K mg W w σ R (m G h) := by
  cases e : m G h with
  | ok d h1 =>
    rw [e] at o
    exact fun w1 H1 l r => hq d h1 w1 H1 l r (OutF.mono l o)
  | exc c fs h1 =>
    rw [e] at o
    exact o
  | stuck =>
    rw [e] at o
    exact o
def cutD (ds : List D) (lo hi : Option Int) : List D := (ds.drop (HT.sIx ds.length 0 lo)).take (HT.sIx ds.length ds.length hi - HT.sIx ds.length 0 lo)
theorem cut_rep {w : Wd} {xs : List V} {ds : List D} (ra : Ra X.K w xs ds) (lo hi : Option Int) : Ra X.K w (cutV xs lo hi) (cutD ds lo hi) := by
  unfold cutV cutD
  rw [ra.length]
  exact (ra.drop _).take _
/-- a[lo:hi] of a tuple, of a list that is not changed -/
def mSl (m : Me) (lo hi : MeO) : Me := fun G h => (m G h).bind fun x h1 => (lo G h1).bind fun l h2 => (hi G h2).bind fun u h3 => match x with
  | .tup ds => .ok (.tup (cutD ds l u)) h3
  | d => match vL h3 d with
    | some ds => .ok (.lst (cutD ds l u)) h3
    | none => .stuck
theorem cut_whole {ds : List D} {lo hi : Option Int} (h : HT.sIx ds.length 0 lo = 0 ∧ HT.sIx ds.length ds.length hi = ds.length) : cutD ds lo hi = ds := by
  unfold cutD
  rw [h.1, h.2]
  simp
theorem e_sl {lo hi : Option Expr} {ml mh : MeO} {p2 : Pos} (he : PE X e (TM X W ma)) (hl : PO X lo (tO X W ml)) (hu : PO X hi (tO X W mh)) : PE X (.Subscript e (.Slice lo hi none p2) pos) (TM X W (mSl ma ml mh)) := by
  refine (pe_slice (SlR.or sl_list sl_tupA) he hl hu).wk fun σ H Q ⟨w, G, h, g, r, o⟩ => ⟨w, G, h, g, r, o.bindE fun d h1 v w1 H1 l1 r1 x o1 => ⟨w1, G, h1, g.mono l1, r1, o1.bindO fun l h2 w2 H2 l2 r2 o2 => ⟨w2, G, h2, g.mono (l1.trans l2), r2, o2.bindO fun u h3 w3 H3 l3 r3 o3 => ?_⟩⟩⟩
  have x3 := Rv_mono (l2.trans l3) x
  split at o3
  · cases x3 with
    | @tup a xs ds h1 h2 =>
      refine .inr ⟨a, xs, rfl, r3.ex.t h1, fun hw => ?_, fun _ p hp => out_add o3 r3 hp (rv_tup r3 hp (cut_rep h2 l u))⟩
      rw [h2.length] at hw
      rw [cut_whole hw] at o3
      exact out_ok o3 r3 (.tup h1 h2)
  · split at o3
    · rename_i ds e
      obtain ⟨a, xs, rfl, sq, ra⟩ := vL_rep r3 x3 e
      exact .inl ⟨a, xs, rfl, sq, fun p hp => out_add o3 r3 hp (rv_lst r3 hp (cut_rep ra l u))⟩
    · exact o3.elim
/-- .. of a list, a new list -/
def lSl (m : Me) (lo hi : MeO) : MeL := fun G h => (m G h).bind fun x h1 => (lo G h1).bind fun l h2 => (hi G h2).bind fun u h3 => match vL h3 x with
  | some ds => .ok (cutD ds l u) h3
  | none => .stuck
theorem f_sl {lo hi : Option Expr} {ml mh : MeO} {p2 : Pos} (he : PE X e (TM X W ma)) (hl : PO X lo (tO X W ml)) (hu : PO X hi (tO X W mh)) : PE X (.Subscript e (.Slice lo hi none p2) pos) (TF X W (lSl ma ml mh)) := by
  refine (pe_slice sl_list he hl hu).wk fun σ H Q ⟨w, G, h, g, r, o⟩ => ⟨w, G, h, g, r, OutF.bindE (m := ma) o fun d h1 v w1 H1 l1 r1 x o1 => ⟨w1, G, h1, g.mono l1, r1, o1.bindO fun l h2 w2 H2 l2 r2 o2 => ⟨w2, G, h2, g.mono (l1.trans l2), r2, o2.bindO fun u h3 w3 H3 l3 r3 o3 => ?_⟩⟩⟩
  have x3 := Rv_mono (l2.trans l3) x
  split at o3
  · rename_i ds e
    obtain ⟨a, xs, rfl, sq, ra⟩ := vL_rep r3 x3 e
    exact ⟨a, xs, rfl, sq, fun p hp => out_new o3 r3 hp (cut_rep ra l u)⟩
  · exact o3.elim
/-- xs[::-1] of a list -/
def lRev (m : Me) : MeL := fun G h => (m G h).bind fun x h1 => match vL h1 x with
  | some ds => .ok ds.reverse h1
  | none => .stuck
theorem f_rev {k : Nat} {p1 p2 p3 : Pos} (he : PE X e (TM X W ma)) : PE X (.Subscript e (.Slice none none (some (.UnaryOp .USub (.Constant (.int 1) k p1) p2)) p3) pos) (TF X W (lRev ma)) := by
  refine (pe_revL he).wk fun σ H Q ⟨w, G, h, g, r, o⟩ => ⟨w, G, h, g, r, OutF.bindE (m := ma) o fun d h1 v w1 H1 l1 r1 x o1 => ?_⟩
  split at o1
  · rename_i ds e
    obtain ⟨a, xs, rfl, sq, ra⟩ := vL_rep r1 x e
    exact ⟨a, xs, rfl, sq, fun p hp => out_new o1 r1 hp ra.reverse⟩
  · exact o1.elim

end
end AB
/-! AB: statements, loops, comprehensions, defs. -/
namespace AB
open PySem PySem.Spec PyProof.Rows L2

inductive SR where
  | next (G : Env) (h : AH)
  | ret (d : D) (h : AH)
  | brk (G : Env) (h : AH)
  | cont (G : Env) (h : AH)
  | exc (c : Str) (fs : List (Str × D)) (G : Env) (h : AH)
  | stuck
abbrev Ms := Env → AH → SR
def Res.toS {α : Type} (r : Res α) (G : Env) (k : α → AH → SR) : SR :=
  match r with
  | .ok a h => k a h
  | .exc c fs h => .exc c fs G h
  | .stuck => .stuck
@[simp] theorem Res.toS_ok {α : Type} (a : α) (h : AH) (G : Env) (k : α → AH → SR) : (Res.ok a h).toS G k = k a h := rfl
@[simp] theorem Res.toS_exc {α : Type} (c : Str) (fs : List (Str × D)) (h : AH) (G : Env) (k : α → AH → SR) : (Res.exc c fs h : Res α).toS G k = .exc c fs G h := rfl
@[simp] theorem Res.toS_stuck {α : Type} (G : Env) (k : α → AH → SR) : (Res.stuck : Res α).toS G k = .stuck := rfl
def SR.andThen (r : SR) (k : Env → AH → SR) : SR :=
  match r with
  | .next G h => k G h
  | .ret d h => .ret d h
  | .brk G h => .brk G h
  | .cont G h => .cont G h
  | .exc c fs G h => .exc c fs G h
  | .stuck => .stuck
@[simp] theorem SR.andThen_next (G : Env) (h : AH) (k : Env → AH → SR) : (SR.next G h).andThen k = k G h := rfl
@[simp] theorem SR.andThen_ret (d : D) (h : AH) (k : Env → AH → SR) : (SR.ret d h).andThen k = .ret d h := rfl
@[simp] theorem SR.andThen_brk (G : Env) (h : AH) (k : Env → AH → SR) : (SR.brk G h).andThen k = .brk G h := rfl
@[simp] theorem SR.andThen_cont (G : Env) (h : AH) (k : Env → AH → SR) : (SR.cont G h).andThen k = .cont G h := rfl
@[simp] theorem SR.andThen_exc (c : Str) (fs : List (Str × D)) (G : Env) (h : AH) (k : Env → AH → SR) : (SR.exc c fs G h).andThen k = .exc c fs G h := rfl
@[simp] theorem SR.andThen_stuck (k : Env → AH → SR) : SR.stuck.andThen k = .stuck := rfl

section
variable (K : PySem.W.Frag) (mg : Str → Option Value) (W : WX)
def OutS (D : Ends) (w : Wd) : SR → Prop
  | .next G h => ∀ σ' w' H', Le w w' → RepG K w' σ' G → RepH K w' H' h → D.nx σ' H'
  | .ret d h => ∀ v w' H', Le w w' → RepH K w' H' h → Rv K w' v d → D.rt v H'
  | .brk G h => ∀ σ' w' H', Le w w' → RepG K w' σ' G → RepH K w' H' h → D.bk σ' H'
  | .cont G h => ∀ σ' w' H', Le w w' → RepG K w' σ' G → RepH K w' H' h → D.ct σ' H'
  | .exc c fs G h => ∀ cls dd σ' w' H', mg c = some cls → Le w w' → RepG K w' σ' G → RepH K w' H' h → RepX K w' H' dd fs → W cls dd σ' H'
  | .stuck => False
def tS (m : Ms) : TS := fun D σ H => ∃ w G h, RepG K w σ G ∧ RepH K w H h ∧ OutS K mg W D w (m G h)
end
section
variable {K : PySem.W.Frag} {mg : Str → Option Value} {W : WX} {w w' : Wd} {σ : L2.St} {H : Hp} {G : Env} {h : AH}
theorem OutS.mono {D : Ends} {r : SR} (l : Le w w') (o : OutS K mg W D w r) : OutS K mg W D w' r := by
  cases r with
  | next G h => exact fun σ' w2 H' l2 g r => o σ' w2 H' (l.trans l2) g r
  | ret d h => exact fun v w2 H' l2 r x => o v w2 H' (l.trans l2) r x
  | brk G h => exact fun σ' w2 H' l2 g r => o σ' w2 H' (l.trans l2) g r
  | cont G h => exact fun σ' w2 H' l2 g r => o σ' w2 H' (l.trans l2) g r
  | exc c fs G h => exact fun cls dd σ' w2 H' e l2 g r x => o cls dd σ' w2 H' e (l.trans l2) g r x
  | stuck => exact o
theorem OutS.bindE {m : Me} {R : VK} {D : Ends} {k : AB.D → AH → SR} (g : RepG K w σ G) (o : OutS K mg W D w ((m G h).toS G k))
    (hq : ∀ d h1 v w1 H1, Le w w1 → RepH K w1 H1 h1 → Rv K w1 v d → OutS K mg W D w1 (k d h1) → R v H1) : OutE K mg W w σ R (m G h) := by
  cases e : m G h with
  | ok d h1 =>
    rw [e] at o
    exact fun v w1 H1 l r x => hq d h1 v w1 H1 l r x (OutS.mono l o)
  | exc c fs h1 =>
    rw [e] at o
    exact fun cls dd w1 H1 e l r x => o cls dd σ w1 H1 e l (g.mono l) r x
  | stuck =>
    rw [e] at o
    exact o
theorem OutS.bindT {m : MeT} {R : Bool → Hp → Prop} {D : Ends} {k : Bool → AH → SR} (g : RepG K w σ G) (o : OutS K mg W D w ((m G h).toS G k))
    (hq : ∀ b h1 w1 H1, Le w w1 → RepH K w1 H1 h1 → OutS K mg W D w1 (k b h1) → R b H1) : OutT K mg W w σ R (m G h) := by
  cases e : m G h with
  | ok d h1 =>
    rw [e] at o
    exact fun w1 H1 l r => hq d h1 w1 H1 l r (OutS.mono l o)
  | exc c fs h1 =>
    rw [e] at o
    exact fun cls dd w1 H1 e l r x => o cls dd σ w1 H1 e l (g.mono l) r x
  | stuck =>
    rw [e] at o
    exact o
end
abbrev TSS (X : Cx) (W : WX) (m : Ms) : TS := tS X.K X.mg W m
theorem _root_.L2.PS.wk {X : Cx} {e : Stmt} {t t' : TS} (h : PS X e t) (k : ∀ D σ H, t' D σ H → t D σ H) : PS X e t' := ⟨fun pins s σ H D I q => h.run pins s σ H D I (k D σ H q)⟩
theorem _root_.L2.PSs.wk {X : Cx} {e : List Stmt} {t t' : TS} (h : PSs X e t) (k : ∀ D σ H, t' D σ H → t D σ H) : PSs X e t' := ⟨fun pins s σ H D I q => h.run pins s σ H D I (k D σ H q)⟩

/-! ### the combinators -/
def sNil : Ms := fun G h => .next G h
def sSeq (a b : Ms) : Ms := fun G h => (a G h).andThen b
def sSet (i : Nat) (m : Me) : Ms := fun G h => (m G h).toS G fun d h1 => .next (G.set i (some d)) h1
def sRet (m : Me) : Ms := fun G h => (m G h).toS G fun d h1 => .ret d h1
def sExpr (m : Me) : Ms := fun G h => (m G h).toS G fun _ h1 => .next G h1
def sIf (c : MeT) (a b : Ms) : Ms := fun G h => (c G h).toS G fun t h1 => if t = true then a G h1 else b G h1
def sNever : Ms := fun _ _ => .stuck
def sBrk : Ms := fun G h => .brk G h
def sCont : Ms := fun G h => .cont G h
section
variable {X : Cx} {W : WX} {pos : Pos} {st : Stmt} {rest : List Stmt} {e c : Expr} {a b : Ms} {m : Me} {tc : MeT} {sa sb : List Stmt}
theorem s_nil : PSs X [] (TSS X W sNil) := pss_nil.wk fun D σ H ⟨w, G, h, g, r, o⟩ => o σ w H (Le.refl _) g r
theorem s_seq (h1 : PS X st (TSS X W a)) (h2 : PSs X rest (TSS X W b)) : PSs X (st :: rest) (TSS X W (sSeq a b)) := by
  refine (pss_cons h1 h2).wk fun D σ H ⟨w, G, h, g, r, o⟩ => ⟨w, G, h, g, r, ?_⟩
  have o : OutS X.K X.mg W D w ((a G h).andThen b) := o
  cases e : a G h with
  | next G1 h1 =>
    rw [e] at o
    exact fun σ' w1 H1 l g1 r1 => ⟨w1, G1, h1, g1, r1, OutS.mono l o⟩
  | ret d h1 => rw [e] at o; exact o
  | brk G1 h1 => rw [e] at o; exact o
  | cont G1 h1 => rw [e] at o; exact o
  | exc c fs G1 h1 => rw [e] at o; exact o
  | stuck => rw [e] at o; exact o
theorem s_one (h1 : PS X st (TSS X W a)) : PSs X [st] (TSS X W (sSeq a sNil)) := s_seq h1 s_nil
theorem s_ret (he : PE X e (TM X W m)) : PS X (.Return (some e) pos) (TSS X W (sRet m)) :=
  (ps_ret he).wk fun D σ H ⟨w, G, h, g, r, o⟩ => ⟨w, G, h, g, r, OutS.bindE (m := m) g o fun d h1 v w1 H1 l r1 x o1 => o1 v w1 H1 (Le.refl _) r1 x⟩
theorem s_retN : PS X (.Return none pos) (TSS X W (sRet (mC .non))) := by
  refine ps_retN.wk fun D σ H ⟨w, G, h, g, r, o⟩ => ?_
  have o : ∀ v w' H', Le w w' → RepH X.K w' H' h → Rv X.K w' v .non → D.rt v H' := o
  exact o .non w H (Le.refl _) r .non
theorem s_set (i : Nat) {x : Str} {pos' : Pos} (he : PE X e (TM X W m)) (hN : X.N.Nodup) (hi : X.N[i]? = some x := by rfl) (hx : Loc X.env.scope x := by first | exact Or.inl rfl | exact Or.inr rfl)
    (hs : swapsWithSole [.Name x pos'] e pos.line X.env = pure false := by rfl) (hw : swappedStores [.Name x pos'] e X.env = pure none := by rfl) (hf : X.fn x = true ∨ X.env.scope.names.lookup x = some .local := by first | exact .inl rfl | exact .inr rfl) : PS X (.Assign [.Name x pos'] e pos) (TSS X W (sSet i m)) :=
  (ps_asg he (pg_name hN hi hx hf) hs hw).wk fun D σ H ⟨w, G, h, g, r, o⟩ => ⟨w, G, h, g, r, OutS.bindE (m := m) g o fun d h1 v w1 H1 l r1 x o1 => o1 _ w1 H1 (Le.refl _) ((g.mono l).set i x) r1⟩
theorem s_expr (he : PE X e (TM X W m)) (hs : swapsWith e none pos.line X.env = pure false := by rfl) : PS X (.Expr e pos) (TSS X W (sExpr m)) :=
  (ps_expr he hs).wk fun D σ H ⟨w, G, h, g, r, o⟩ => ⟨w, G, h, g, r, OutS.bindE (m := m) g o fun d h1 v w1 H1 l r1 x o1 => o1 σ w1 H1 (Le.refl _) (g.mono l) r1⟩
theorem s_if (hc : PT X c (TTT X W tc)) (ha : PSs X sa (TSS X W a)) (hb : PSs X sb (TSS X W b)) : PS X (.If c sa sb pos) (TSS X W (sIf tc a b)) := by
  refine (ps_if hc ha hb).wk fun D σ H ⟨w, G, h, g, r, o⟩ => ⟨w, G, h, g, r, OutS.bindT (m := tc) g o fun t h1 w1 H1 l r1 o1 => ?_⟩
  cases t with
  | true => exact ⟨w1, G, h1, g.mono l, r1, o1⟩
  | false => exact ⟨w1, G, h1, g.mono l, r1, o1⟩
theorem s_pass : PS X (.Pass pos) (TSS X W sNil) := ps_pass.wk fun D σ H ⟨w, G, h, g, r, o⟩ => o σ w H (Le.refl _) g r
theorem s_never : PS X st (TSS X W sNever) := ps_never.wk fun D σ H ⟨w, G, h, g, r, o⟩ => o.elim
theorem ss_never : PSs X rest (TSS X W sNever) := pss_never.wk fun D σ H ⟨w, G, h, g, r, o⟩ => o.elim
theorem s_brk : PS X (.Break pos) (TSS X W sBrk) := ps_break.wk fun D σ H ⟨w, G, h, g, r, o⟩ => o σ w H (Le.refl _) g r
theorem s_cont : PS X (.Continue pos) (TSS X W sCont) := ps_continue.wk fun D σ H ⟨w, G, h, g, r, o⟩ => o σ w H (Le.refl _) g r
end

/-! ### targets -/
inductive Pat where
  | nm (i : Nat)
  | tp (ps : List Pat)
mutual
def asg : Pat → D → Env → Option Env
  | .nm i, d, G => some (G.set i (some d))
  | .tp ps, d, G => match d with
    | .tup ds => asgs ps ds G
    | _ => none
def asgs : List Pat → List D → Env → Option Env
  | [], [], G => some G
  | p :: ps, d :: ds, G => match asg p d G with
    | some G1 => asgs ps ds G1
    | none => none
  | _, _, _ => none
end
mutual
def gP (K : PySem.W.Frag) : Pat → TG
  | .nm i => gName i
  | .tp ps => gTup K ps.length (gPs K ps)
def gPs (K : PySem.W.Frag) : List Pat → TGs
  | [] => gNil
  | p :: ps => gCons (gP K p) (gPs K ps)
end
mutual
def Pat.slots : Pat → List Nat
  | .nm i => [i]
  | .tp ps => slotsL ps
def slotsL : List Pat → List Nat
  | [] => []
  | p :: ps => p.slots ++ slotsL ps
end
theorem wipe_set {σ : L2.St} {i : Nat} {v : Option V} : ∀ {vs : List Nat}, i ∈ vs → wipe (σ.set i v) vs = wipe σ vs
  | j :: vs, h => by
    unfold wipe
    by_cases e : i = j
    · subst e
      by_cases q : i ∈ vs
      · rw [wipe_set q]
      · have key : ∀ (us : List Nat), (wipe (σ.set i v) us).set i none = (wipe σ us).set i none := by
          intro us
          induction us with
          | nil =>
            show (σ.set i v).set i none = σ.set i none
            rw [List.set_set]
          | cons u us ih =>
            unfold wipe
            by_cases eu : u = i
            · subst eu
              rw [List.set_set, List.set_set]
              exact ih
            · rw [List.set_comm _ _ eu, List.set_comm _ _ eu, ih]
        exact key vs
    · have q : i ∈ vs := by
        rcases List.mem_cons.mp h with h | h
        · exact absurd h e
        · exact h
      rw [wipe_set q]
theorem wipe_wipe {σ : L2.St} {vs : List Nat} : ∀ {us : List Nat}, (∀ i ∈ us, i ∈ vs) → wipe (wipe σ us) vs = wipe σ vs
  | [], _ => rfl
  | u :: us, h => by
    have e : wipe σ (u :: us) = (wipe σ us).set u none := rfl
    rw [e, wipe_set (h u List.mem_cons_self), wipe_wipe fun i hi => h i (List.mem_cons_of_mem _ hi)]
section
variable {K : PySem.W.Frag} {w : Wd} {H : Hp} {h : AH}
mutual
theorem asg_rep (r : RepH K w H h) : ∀ (p : Pat) (d : D) (v : V) (σ : L2.St) (G G' : Env) (Q : L2.St → Hp → Prop), Rv K w v d → RepG K w σ G → asg p d G = some G' →
    (∀ σ', RepG K w σ' G' → (∀ vs : List Nat, (∀ i ∈ p.slots, i ∈ vs) → wipe σ' vs = wipe σ vs) → Q σ' H) → gP K p v σ H Q
  | .nm i, d, v, σ, G, G', Q, rv, g, e, q => by
    unfold asg at e
    cases e
    unfold gP
    exact q _ (g.set i rv) fun vs hv => wipe_set (hv i (by unfold Pat.slots; simp))
  | .tp ps, d, v, σ, G, G', Q, rv, g, e, q => by
    unfold asg at e
    split at e
    · rename_i ds
      cases rv with
      | @tup a xs _ h1 h2 =>
        unfold gP
        have hl : ds.length = ps.length := asgs_len ps ds G G' e
        refine ⟨a, xs, rfl, r.ex.t h1, by rw [h2.length]; exact hl, ?_⟩
        exact asgs_rep r ps ds xs σ G G' Q h2 g e fun σ' g' hw => q σ' g' fun vs hv => hw vs (by unfold Pat.slots at hv; exact hv)
    · cases e
theorem asgs_rep (r : RepH K w H h) : ∀ (ps : List Pat) (ds : List D) (vs : List V) (σ : L2.St) (G G' : Env) (Q : L2.St → Hp → Prop), Ra K w vs ds → RepG K w σ G → asgs ps ds G = some G' →
    (∀ σ', RepG K w σ' G' → (∀ us : List Nat, (∀ i ∈ slotsL ps, i ∈ us) → wipe σ' us = wipe σ us) → Q σ' H) → gPs K ps vs σ H Q
  | [], [], _, σ, G, G', Q, ra, g, e, q => by
    cases ra
    unfold asgs at e
    cases e
    unfold gPs
    exact ⟨rfl, q σ g fun us _ => rfl⟩
  | p :: ps, d :: ds, _, σ, G, G', Q, ra, g, e, q => by
    cases ra with
    | @cons v vs _ _ a b =>
      unfold asgs at e
      split at e
      · rename_i G1 e1
        unfold gPs
        refine ⟨v, vs, rfl, asg_rep r p d v σ G G1 _ a g e1 fun σ1 g1 w1 => ?_⟩
        refine asgs_rep r ps ds vs σ1 G1 G' Q b g1 e fun σ2 g2 w2 => q σ2 g2 fun us hu => ?_
        unfold slotsL at hu
        rw [w2 us fun i hi => hu i (List.mem_append_right _ hi), w1 us fun i hi => hu i (List.mem_append_left _ hi)]
      · cases e
  | [], _ :: _, _, _, _, _, _, _, _, e, _ => by cases e
  | _ :: _, [], _, _, _, _, _, _, _, e, _ => by cases e
theorem asgs_len : ∀ (ps : List Pat) (ds : List D) (G G' : Env), asgs ps ds G = some G' → ds.length = ps.length
  | [], [], _, _, _ => rfl
  | p :: ps, d :: ds, G, G', e => by
    unfold asgs at e
    split at e
    · rename_i G1 _
      rw [List.length_cons, List.length_cons, asgs_len ps ds G1 G' e]
    · cases e
  | [], _ :: _, _, _, e => by cases e
  | _ :: _, [], _, _, e => by cases e
end
end
def sAsg (p : Pat) (m : Me) : Ms := fun G h => (m G h).toS G fun d h1 => match asg p d G with
  | some G1 => .next G1 h1
  | none => .stuck
theorem s_asg {X : Cx} {W : WX} {pos : Pos} {e tg : Expr} {m : Me} (p : Pat) (he : PE X e (TM X W m)) (hg : PG X tg (gP X.K p)) (hs : swapsWithSole [tg] e pos.line X.env = pure false := by rfl) (hw : swappedStores [tg] e X.env = pure none := by rfl)
    (h1 : (assignEach [tg] X.env).map (·.2) = [assign tg X.env] := by rfl) : PS X (.Assign [tg] e pos) (TSS X W (sAsg p m)) := by
  refine (ps_asg he hg hs hw h1).wk fun D σ H ⟨w, G, h, g, r, o⟩ => ⟨w, G, h, g, r, OutS.bindE (m := m) g o fun d h1 v w1 H1 l r1 x o1 => ?_⟩
  split at o1
  · rename_i G1 e1
    exact asg_rep r1 p d v σ G G1 _ x (g.mono l) e1 fun σ' g' _ => o1 σ' w1 H1 (Le.refl _) g' r1
  · exact o1.elim

/-! ### what is walked -/
/-- the source still holds these items -/
def Still (src : Option Nat) (all : List D) (h : AH) : Prop := match src with
  | none => True
  | some n => h[n]? = some (.lst all)
abbrev Im := Env → AH → Res (List D × Option Nat)
structure Walks (K : PySem.W.Frag) (J : It) (w : Wd) (all : List D) (src : Option Nat) : Prop where
  goes : ∀ i w' H' h', i < all.length → LeX w w' → RepH K w' H' h' → Still src all h' → J.go i H'
  stops : ∀ w' H' h', LeX w w' → RepH K w' H' h' → Still src all h' → J.stop all.length H'
  yields : ∀ i x w' H' H2 h' d, all[i]? = some d → LeX w w' → RepH K w' H' h' → Still src all h' → J.yld i H' x H2 → ∃ w2, Le w' w2 ∧ RepH K w2 H2 h' ∧ Rv K w2 x d
def OutI (K : PySem.W.Frag) (mg : Str → Option Value) (W : WX) (w : Wd) (σ : L2.St) (R : It → Hp → Prop) : Res (List D × Option Nat) → Prop
  | .ok (all, src) h => ∀ J w' H', Le w w' → RepH K w' H' h → Walks K J w' all src → R J H'
  | .exc c fs h => OutX K mg W w σ c fs h
  | .stuck => False
def tI (X : Cx) (W : WX) (m : Im) : TI := fun σ H R => ∃ w G h, RepG X.K w σ G ∧ RepH X.K w H h ∧ OutI X.K X.mg W w σ R (m G h)
theorem _root_.L2.PI.wk {X : Cx} {tg e : Expr} {t t' : TI} (h : PI X tg e t) (k : ∀ σ H R, t' σ H R → t σ H R) : PI X tg e t' := ⟨fun pins s σ H R I q => h.run pins s σ H R I (k σ H R q)⟩
def iSeq (m : Me) : Im := fun G h => (m G h).bind fun d h1 => match d with
  | .tup ds => .ok (ds, none) h1
  | .lst ds => .ok (ds, none) h1
  | .rol ds => .ok (ds, none) h1
  | .loc n => match h1[n]? with
    | some (.lst ds) => .ok (ds, some n) h1
    | _ => .stuck
  | _ => .stuck
section
variable {X : Cx} {W : WX} {tg e : Expr} {m : Me} {K : PySem.W.Frag}
theorem OutI.bindE {mg : Str → Option Value} {w : Wd} {σ : L2.St} {G : Env} {h : AH} {R : VK} {Q : It → Hp → Prop} {k : D → AH → Res (List D × Option Nat)} (o : OutI K mg W w σ Q ((m G h).bind k))
    (hq : ∀ d h1 v w1 H1, m G h = .ok d h1 → Le w w1 → RepH K w1 H1 h1 → Rv K w1 v d → OutI K mg W w1 σ Q (k d h1) → R v H1) : OutE K mg W w σ R (m G h) := by
  cases e : m G h with
  | ok d h1 =>
    rw [e] at o
    refine fun v w1 H1 l r x => hq d h1 v w1 H1 e l r x ?_
    have o : OutI K mg W w σ Q (k d h1) := o
    cases z : k d h1 with
    | ok a h2 =>
      rw [z] at o
      exact fun J w2 H2 l2 r2 x2 => o J w2 H2 (l.trans l2) r2 x2
    | exc c fs h2 => rw [z] at o; exact OutX.mono l o
    | stuck => rw [z] at o; exact o
  | exc c fs h1 =>
    rw [e] at o
    exact o
  | stuck =>
    rw [e] at o
    exact o
theorem Walks.tup {a : Addr} {xs : List V} {w : Wd} {ds : List D} (h1 : SqT K w.S a xs) (h2 : Ra K w xs ds) : Walks K (Itt K a) w ds none := by
  refine ⟨fun i w' H' h' hi l r _ => ?_, fun w' H' h' l r _ => ?_, fun i x w' H' H2 h' d hd l r _ y => ?_⟩
  · obtain ⟨v, hv, _⟩ := h2.get (i := i) (d := ds[i]) (List.getElem?_eq_getElem hi)
    exact ⟨xs, v, r.ex.t (l.ex.t h1), hv⟩
  · exact ⟨xs, r.ex.t (l.ex.t h1), by rw [h2.length]; exact Nat.le_refl _⟩
  · obtain ⟨rfl, hy⟩ := y
    obtain ⟨v, hv, rv⟩ := h2.get hd
    have := hy xs (r.ex.t (l.ex.t h1))
    rw [hv] at this
    cases this
    exact ⟨w', Le.refl _, r, Rv_monoX l rv⟩
theorem Walks.lst {a : Addr} {xs : List V} {w : Wd} {ds : List D} (h1 : SqL K w.S a xs) (h2 : Ra K w xs ds) : Walks K (Itl K a) w ds none := by
  refine ⟨fun i w' H' h' hi l r _ => ?_, fun w' H' h' l r _ => ?_, fun i x w' H' H2 h' d hd l r _ y => ?_⟩
  · obtain ⟨v, hv, _⟩ := h2.get (i := i) (d := ds[i]) (List.getElem?_eq_getElem hi)
    exact ⟨xs, v, r.ex.l (l.ex.l h1), hv⟩
  · exact ⟨xs, r.ex.l (l.ex.l h1), by rw [h2.length]; exact Nat.le_refl _⟩
  · obtain ⟨rfl, hy⟩ := y
    obtain ⟨v, hv, rv⟩ := h2.get hd
    have := hy xs (r.ex.l (l.ex.l h1))
    rw [hv] at this
    cases this
    exact ⟨w', Le.refl _, r, Rv_monoX l rv⟩
theorem Walks.loc {w : Wd} {ds : List D} {n : Nat} (hn : n < w.N) : Walks K (Itl K (w.mu n)) w ds (some n) := by
  have key : ∀ {w' : Wd} {H' : Hp} {h' : AH}, LeX w w' → RepH K w' H' h' → Still (some n) ds h' → ∃ xs, SqL K H' (w.mu n) xs ∧ Ra K w' xs ds := by
    intro w' H' h' l r s
    obtain ⟨_, xs, e, ra⟩ := r.cell n _ s
    rw [l.mu n hn] at e
    exact ⟨xs, .inl (.inl e), ra⟩
  refine ⟨fun i w' H' h' hi l r s => ?_, fun w' H' h' l r s => ?_, fun i x w' H' H2 h' d hd l r s y => ?_⟩
  · obtain ⟨xs, q, h2⟩ := key l r s
    obtain ⟨v, hv, _⟩ := h2.get (i := i) (d := ds[i]) (List.getElem?_eq_getElem hi)
    exact ⟨xs, v, q, hv⟩
  · obtain ⟨xs, q, h2⟩ := key l r s
    exact ⟨xs, q, by rw [h2.length]; exact Nat.le_refl _⟩
  · obtain ⟨rfl, hy⟩ := y
    obtain ⟨xs, q, h2⟩ := key l r s
    obtain ⟨v, hv, rv⟩ := h2.get hd
    have := hy xs q
    rw [hv] at this
    cases this
    exact ⟨w', Le.refl _, r, rv⟩
theorem i_seq (he : PE X e (TM X W m)) : PI X tg e (tI X W (iSeq m)) := by
  refine ⟨fun pins s σ H R I ⟨w, G, h, g, r, o⟩ => ?_⟩
  by_cases ht : ∃ ds h1, m G h = .ok (.tup ds) h1
  · obtain ⟨ds, h1, e1⟩ := ht
    refine (pi_tup he).run pins s σ H R I ⟨w, G, h, g, r, OutI.bindE (m := m) o fun d h2 v w1 H1 em l r1 x o1 => ?_⟩
    rw [e1] at em
    cases em
    cases x with
    | @tup a xs _ q1 q2 => exact ⟨a, rfl, ⟨xs, r1.ex.t q1⟩, o1 _ w1 H1 (Le.refl _) r1 (Walks.tup q1 q2)⟩
  · refine (pi_list he).run pins s σ H R I ⟨w, G, h, g, r, OutI.bindE (m := m) o fun d h2 v w1 H1 em l r1 x o1 => ?_⟩
    cases x with
    | tup q1 q2 => exact absurd ⟨_, _, em⟩ ht
    | @lst a xs ds q1 q2 => exact ⟨a, rfl, ⟨xs, .inl (r1.ex.rd q1)⟩, o1 _ w1 H1 (Le.refl _) r1 (Walks.lst (.inl q1) q2)⟩
    | @rol a xs ds q1 q2 => exact ⟨a, rfl, ⟨xs, r1.ex.l q1⟩, o1 _ w1 H1 (Le.refl _) r1 (Walks.lst q1 q2)⟩
    | @loc n hn =>
      have o1 : OutI X.K X.mg W w1 σ R (match h2[n]? with
        | some (.lst ds) => .ok (ds, some n) h2
        | _ => .stuck) := o1
      split at o1
      · rename_i ds e'
        obtain ⟨_, xs, e2, ra⟩ := r1.cell _ _ e'
        exact ⟨_, rfl, ⟨xs, .inl (.inl e2)⟩, o1 _ w1 H1 (Le.refl _) r1 (Walks.loc hn)⟩
      · exact o1.elim
    | _ => exact o1.elim
def rangeD (lo : Int) (n : Nat) : List D := (List.range n).map fun i : Nat => D.int (lo + (i : Int))
theorem rangeD_length (lo : Int) (n : Nat) : (rangeD lo n).length = n := by simp [rangeD]
theorem rangeD_get {lo : Int} {n i : Nat} {d : D} (h : (rangeD lo n)[i]? = some d) : d = .int (lo + (i : Int)) := by
  unfold rangeD at h
  rw [List.getElem?_map] at h
  cases q : (List.range n)[i]? with
  | none => rw [q] at h; cases h
  | some j =>
    rw [q] at h
    cases h
    have := List.getElem?_eq_some_iff.mp q
    obtain ⟨h1, h2⟩ := this
    simp at h2
    subst h2
    rfl
theorem Walks.rng {w : Wd} {lo : Int} {n : Nat} : Walks K (Itr lo n) w (rangeD lo n) none := by
  refine ⟨fun i w' H' h' hi l r _ => ?_, fun w' H' h' l r _ => ?_, fun i x w' H' H2 h' d hd l r _ y => ?_⟩
  · rw [rangeD_length] at hi
    exact hi
  · rw [rangeD_length]
    exact Nat.le_refl n
  · obtain ⟨rfl, rfl⟩ := y
    rw [rangeD_get hd]
    exact ⟨w', Le.refl _, r, .int _⟩
/-- bounds of a range (told by a flag that never computes) -/
def okR (j : Int) : Prop := -1000000 ≤ j ∧ j ≤ 1000000
noncomputable instance (j : Int) : Decidable (okR j) := Classical.propDecidable _
def okR2 (i j : Int) : Prop := -1000000 ≤ i ∧ i ≤ 1000000 ∧ j ≤ 1000000 ∧ -1000000 ≤ j
noncomputable instance (i j : Int) : Decidable (okR2 i j) := Classical.propDecidable _
noncomputable def iRange1 (as : MeL) : Im := fun G h => (as G h).bind fun xs h1 => match xs with
  | [.int j] => if okR j then .ok (rangeD 0 j.toNat, none) h1 else .stuck
  | _ => .stuck
noncomputable def iRange2 (as : MeL) : Im := fun G h => (as G h).bind fun xs h1 => match xs with
  | [.int i, .int j] => if okR2 i j then .ok (rangeD i (j - i).toNat, none) h1 else .stuck
  | _ => .stuck
theorem OutI.bindA {mg : Str → Option Value} {w : Wd} {σ : L2.St} {G : Env} {h : AH} {as : MeL} {R : List V → Hp → Prop} {Q : It → Hp → Prop} {k : List D → AH → Res (List D × Option Nat)} (o : OutI K mg W w σ Q ((as G h).bind k))
    (hq : ∀ d h1 v w1 H1, as G h = .ok d h1 → Le w w1 → RepH K w1 H1 h1 → Ra K w1 v d → OutI K mg W w1 σ Q (k d h1) → R v H1) : OutA K mg W w σ R (as G h) := by
  cases e : as G h with
  | ok d h1 =>
    rw [e] at o
    refine fun v w1 H1 l r x => hq d h1 v w1 H1 e l r x ?_
    have o : OutI K mg W w σ Q (k d h1) := o
    cases z : k d h1 with
    | ok a h2 =>
      rw [z] at o
      exact fun J w2 H2 l2 r2 x2 => o J w2 H2 (l.trans l2) r2 x2
    | exc c fs h2 => rw [z] at o; exact OutX.mono l o
    | stuck => rw [z] at o; exact o
  | exc c fs h1 =>
    rw [e] at o
    exact o
  | stuck =>
    rw [e] at o
    exact o
variable {a b : Expr} {as : MeL} {p pos : Pos}
theorem i_range1 (hm : X.mg "range" = none) (ha : PA X [a] (TAr X W as)) (hg : Gl X "range" := by rfl) (hs : starEach [a] X.env = [(false, eval a X.env)] := by rfl) : PI X tg (.Call (.Name "range" p) [a] [] pos) (tI X W (iRange1 as)) := by
  refine (pi_range1 hg hm ha hs).wk fun σ H R ⟨w, G, h, g, r, o⟩ => ⟨w, G, h, g, r, OutI.bindA (as := as) o fun d h2 v w1 H1 em l r1 x o1 => ?_⟩
  split at o1
  · rename_i j
    split at o1
    · rename_i c
      have c : -1000000 ≤ j ∧ j ≤ 1000000 := c
      obtain ⟨v, rfl, rv⟩ := ra_one x
      cases rv
      exact ⟨j, rfl, by omega, by omega, o1 _ w1 H1 (Le.refl _) r1 Walks.rng⟩
    · exact o1.elim
  · exact o1.elim
theorem i_range2 (hm : X.mg "range" = none) (ha : PA X [a, b] (TAr X W as)) (hg : Gl X "range" := by rfl) (hs : starEach [a, b] X.env = [(false, eval a X.env), (false, eval b X.env)] := by rfl) (hs2 : starEach [b] X.env = [(false, eval b X.env)] := by rfl) : PI X tg (.Call (.Name "range" p) [a, b] [] pos) (tI X W (iRange2 as)) := by
  refine (pi_range2 hg hm ha hs hs2).wk fun σ H R ⟨w, G, h, g, r, o⟩ => ⟨w, G, h, g, r, OutI.bindA (as := as) o fun d h2 v w1 H1 em l r1 x o1 => ?_⟩
  split at o1
  · rename_i i j
    split at o1
    · rename_i c
      have c : -1000000 ≤ i ∧ i ≤ 1000000 ∧ j ≤ 1000000 ∧ -1000000 ≤ j := c
      obtain ⟨v, v2, rfl, rv, rv2⟩ := ra_two x
      cases rv
      cases rv2
      exact ⟨i, j, rfl, ⟨by omega, by omega, by omega, by omega⟩, o1 _ w1 H1 (Le.refl _) r1 Walks.rng⟩
    · exact o1.elim
  · exact o1.elim
/-! zip, enumerate -/
theorem Walks.zip {K : PySem.W.Frag} {w : Wd} {J : It} {as bs : List D} {xs ys : List V} (h1 : Ra K w xs as) (h2 : Ra K w ys bs)
    (hw : ∀ w' H' h', LeX w w' → RepH K w' H' h' → ∃ G : Hp → Prop, G H' ∧ Walk J (min xs.length ys.length) G (YPair (fun i => xs[i]?) (fun i => ys[i]?))) : Walks K J w ((as.zip bs).map fun p => D.tup [p.1, p.2]) none := by
  have l1 := h1.length
  have l2 := h2.length
  have hl : ((as.zip bs).map fun p => D.tup [p.1, p.2]).length = min xs.length ys.length := by
    rw [List.length_map, List.length_zip, l1, l2]
  refine ⟨fun i w' H' h' hi l r _ => ?_, fun w' H' h' l r _ => ?_, fun i x w' H' H2 h' d hd l r _ y => ?_⟩
  · obtain ⟨P, p, wk⟩ := hw w' H' h' l r
    rw [hl] at hi
    exact wk.goes i H' hi p
  · obtain ⟨P, p, wk⟩ := hw w' H' h' l r
    rw [hl]
    exact wk.stops H' p
  · obtain ⟨P, p, wk⟩ := hw w' H' h' l r
    have hi : i < min xs.length ys.length := by
      rw [← hl]
      exact (List.getElem?_eq_some_iff.mp hd).1
    obtain ⟨T, u, v, rfl, hT, rfl, e1, e2⟩ := wk.yields i H' x H2 hi p y
    rw [List.getElem?_map] at hd
    cases q : (as.zip bs)[i]? with
    | none => rw [q] at hd; cases hd
    | some pr =>
      rw [q] at hd
      cases hd
      obtain ⟨q1, q2⟩ := List.getElem?_zip_eq_some.mp q
      obtain ⟨u', g1, ru⟩ := h1.get q1
      obtain ⟨v', g2, rv⟩ := h2.get q2
      have e1 : xs[i]? = some u := e1
      have e2 : ys[i]? = some v := e2
      rw [e1] at g1
      rw [e2] at g2
      cases g1
      cases g2
      exact ⟨w'.add T _, r.le_add hT, r.add hT, rv_tup r hT (.cons (Rv_monoX l ru) (.cons (Rv_monoX l rv) .nil))⟩
end
end AB
/-! AB: loops, comprehensions, list methods, defs and their calls. -/
namespace AB
open PySem PySem.Spec PyProof.Rows L2

/-! ### for -/
open Classical in
noncomputable def forGo (p : Pat) (body : Ms) (src : Option Nat) (all : List D) : List D → Env → AH → SR
  | [], G, h => if Still src all h then .next G h else .stuck
  | d :: r, G, h => if Still src all h then
      match asg p d G with
      | some G1 => match body G1 h with
        | .next G2 h2 => forGo p body src all r G2 h2
        | .cont G2 h2 => forGo p body src all r G2 h2
        | .brk G2 h2 => .next G2 h2
        | .ret x h2 => .ret x h2
        | .exc c fs G2 h2 => .exc c fs G2 h2
        | .stuck => .stuck
      | none => .stuck
    else .stuck
noncomputable def sFor (p : Pat) (it : Im) (body : Ms) : Ms := fun G h => (it G h).toS G fun a h1 => forGo p body a.2 a.1 a.1 G h1
theorem OutS.bindI {K : PySem.W.Frag} {mg : Str → Option Value} {W : WX} {w : Wd} {σ : L2.St} {G : Env} {h : AH} {D : Ends} {m : Im} {R : It → Hp → Prop} {k : List AB.D × Option Nat → AH → SR} (g : RepG K w σ G) (o : OutS K mg W D w ((m G h).toS G k))
    (hq : ∀ all src h1 J w1 H1, Le w w1 → RepH K w1 H1 h1 → Walks K J w1 all src → OutS K mg W D w1 (k (all, src) h1) → R J H1) : OutI K mg W w σ R (m G h) := by
  cases e : m G h with
  | ok d h1 =>
    rw [e] at o
    exact fun J w1 H1 l r x => hq d.1 d.2 h1 J w1 H1 l r x (OutS.mono l o)
  | exc c fs h1 =>
    rw [e] at o
    exact fun cls dd w1 H1 e l r x => o cls dd σ w1 H1 e l (g.mono l) r x
  | stuck =>
    rw [e] at o
    exact o
section
variable {X : Cx} {W : WX} {pos : Pos} {tg iter : Expr} {body : List Stmt} {p : Pat} {im : Im} {mb : Ms}
theorem s_for (hp : PassesOwn (model X.prog X.w) X.A X.env X.xe) (hi : PI X tg iter (tI X W im)) (hg : PG X tg (gP X.K p)) (hb : PSs X body (TSS X W mb)) (hc : X.calm = true := by rfl) (hs : ∀ x, foldedSetIterable iter X.env x = pure x := by intro _; rfl) :
    PS X (.For tg iter body [] pos) (TSS X W (sFor p im mb)) := by
  refine (ps_for hp hc hi hg hb hs).wk fun D σ H ⟨w, G, h, g, r, o⟩ => ⟨w, G, h, g, r, OutS.bindI (m := im) g o fun all src h1 J w1 H1 l r1 wk o1 => ?_⟩
  refine ⟨fun i m σ' H' => m = all.length - i ∧ i ≤ all.length ∧ ∃ w' G' h', Le w1 w' ∧ RepG X.K w' σ' G' ∧ RepH X.K w' H' h' ∧ OutS X.K X.mg W D w' (forGo p mb src all (all.drop i) G' h'),
    ⟨all.length, by simp, Nat.zero_le _, w1, G, h1, Le.refl _, g.mono l, r1, o1⟩, ?_⟩
  rintro i m σ' H' ⟨rfl, hi2, w', G', h', l', g', r', o'⟩
  by_cases hlt : i < all.length
  · have ed : all.drop i = all[i] :: all.drop (i + 1) := List.drop_eq_getElem_cons hlt
    rw [ed] at o'
    unfold forGo at o'
    split at o'
    · rename_i still
      refine .inr ⟨wk.goes i w' H' h' hlt l'.x r' still, fun σ2 H2 => ∃ w' G' h', Le w1 w' ∧ RepG X.K w' σ2 G' ∧ RepH X.K w' H2 h' ∧ OutS X.K X.mg W D w' (forGo p mb src all (all.drop (i + 1)) G' h'),
        fun σ2 H2 hN => ⟨all.length - (i + 1), by omega, rfl, hlt, hN⟩, fun x H2 hy => ?_⟩
      obtain ⟨w2, l2, r2, rv⟩ := wk.yields i x w' H' H2 h' all[i] (List.getElem?_eq_getElem hlt) l'.x r' still hy
      split at o'
      · rename_i G1 e1
        refine asg_rep r2 p all[i] x σ' G' G1 _ rv (g'.mono l2) e1 fun σ3 g3 _ => ?_
        refine ⟨w2, G1, h', g3, r2, ?_⟩
        have o2 := OutS.mono l2 o'
        cases eb : mb G1 h' with
        | next G2 h2 =>
          rw [eb] at o2
          exact fun σ4 w4 H4 l4 g4 r4 => ⟨w4, G2, h2, l'.trans (l2.trans l4), g4, r4, OutS.mono l4 o2⟩
        | cont G2 h2 =>
          rw [eb] at o2
          exact fun σ4 w4 H4 l4 g4 r4 => ⟨w4, G2, h2, l'.trans (l2.trans l4), g4, r4, OutS.mono l4 o2⟩
        | brk G2 h2 =>
          rw [eb] at o2
          exact o2
        | ret d h2 =>
          rw [eb] at o2
          exact o2
        | exc c fs G2 h2 =>
          rw [eb] at o2
          exact o2
        | stuck =>
          rw [eb] at o2
          exact o2
      · exact o'.elim
    · exact o'.elim
  · have e : i = all.length := by omega
    subst e
    rw [List.drop_length] at o'
    unfold forGo at o'
    split at o'
    · rename_i still
      exact .inl ⟨wk.stops w' H' h' l'.x r' still, o' σ' w' H' (Le.refl _) g' r'⟩
    · exact o'.elim
end

/-! ### while -/
def whileGo (t : MeT) (body : Ms) : Nat → Env → AH → SR
  | 0, _, _ => .stuck
  | n + 1, G, h => (t G h).toS G fun b h1 => if b = true then
      match body G h1 with
      | .next G2 h2 => whileGo t body n G2 h2
      | .cont G2 h2 => whileGo t body n G2 h2
      | .brk G2 h2 => .next G2 h2
      | .ret x h2 => .ret x h2
      | .exc c fs G2 h2 => .exc c fs G2 h2
      | .stuck => .stuck
    else .next G h1
open Classical in
noncomputable def sWhile (t : MeT) (body : Ms) : Ms := fun G h => if hx : ∃ n, whileGo t body n G h ≠ .stuck then whileGo t body (Classical.choose hx) G h else .stuck
theorem OutS.bindT' {K : PySem.W.Frag} {mg : Str → Option Value} {W : WX} {w : Wd} {σ : L2.St} {G : Env} {h : AH} {m : MeT} {R : Bool → Hp → Prop} {D : Ends} {k : Bool → AH → SR} (g : RepG K w σ G) (o : OutS K mg W D w ((m G h).toS G k))
    (hq : ∀ b h1 w1 H1, Le w w1 → RepH K w1 H1 h1 → OutS K mg W D w1 (k b h1) → R b H1) : OutT K mg W w σ R (m G h) := OutS.bindT g o hq
section
variable {X : Cx} {W : WX} {pos : Pos} {c : Expr} {body : List Stmt} {t : MeT} {mb : Ms}
theorem s_while (hp : PassesOwn (model X.prog X.w) X.A X.env X.xe) (hc : PT X c (TTT X W t)) (hb : PSs X body (TSS X W mb)) : PS X (.While c body [] pos) (TSS X W (sWhile t mb)) := by
  refine (ps_while hp hc hb).wk fun D σ H ⟨w, G, h, g, r, o⟩ => ?_
  unfold sWhile at o
  split at o
  · rename_i hx
    generalize Classical.choose hx = n0 at o
    refine ⟨fun m σ' H' => ∃ w' G' h', RepG X.K w' σ' G' ∧ RepH X.K w' H' h' ∧ OutS X.K X.mg W D w' (whileGo t mb m G' h'), ⟨n0, w, G, h, g, r, o⟩, ?_⟩
    rintro m σ' H' ⟨w', G', h', g', r', o'⟩
    cases m with
    | zero => exact o'.elim
    | succ m =>
      unfold whileGo at o'
      refine ⟨w', G', h', g', r', OutS.bindT (m := t) g' o' fun b h1 w1 H1 l r1 o1 => ?_⟩
      cases b with
      | true =>
        refine iteT ⟨fun σ2 H2 => ∃ w' G' h', RepG X.K w' σ2 G' ∧ RepH X.K w' H2 h' ∧ OutS X.K X.mg W D w' (whileGo t mb m G' h'), fun σ2 H2 hN => ⟨m, Nat.lt_succ_self _, hN⟩, ⟨w1, G', h1, g'.mono l, r1, ?_⟩⟩
        have o1 : OutS X.K X.mg W D w1 (match mb G' h1 with
          | .next G2 h2 => whileGo t mb m G2 h2
          | .cont G2 h2 => whileGo t mb m G2 h2
          | .brk G2 h2 => .next G2 h2
          | .ret x h2 => .ret x h2
          | .exc c fs G2 h2 => .exc c fs G2 h2
          | .stuck => .stuck) := o1
        cases eb : mb G' h1 with
        | next G2 h2 =>
          rw [eb] at o1
          exact fun σ4 w4 H4 l4 g4 r4 => ⟨w4, G2, h2, g4, r4, OutS.mono l4 o1⟩
        | cont G2 h2 =>
          rw [eb] at o1
          exact fun σ4 w4 H4 l4 g4 r4 => ⟨w4, G2, h2, g4, r4, OutS.mono l4 o1⟩
        | brk G2 h2 =>
          rw [eb] at o1
          exact o1
        | ret d h2 =>
          rw [eb] at o1
          exact o1
        | exc c fs G2 h2 =>
          rw [eb] at o1
          exact o1
        | stuck =>
          rw [eb] at o1
          exact o1
      | false => exact iteF (o1 σ' w1 H1 (Le.refl _) (g'.mono l) r1)
  · exact o.elim
end

/-! ### comprehensions -/
def wipeG (G : Env) : List Nat → Env
  | [] => G
  | v :: vs => (wipeG G vs).set v none
theorem wipe_rep {K : PySem.W.Frag} {w : Wd} {σ : L2.St} {G : Env} (g : RepG K w σ G) : ∀ vs : List Nat, RepG K w (wipe σ vs) (wipeG G vs)
  | [] => g
  | v :: vs => by
    have ih := wipe_rep g vs
    refine ⟨by unfold wipe wipeG; rw [List.length_set, List.length_set, ih.1], fun i d e => ?_⟩
    unfold wipeG at e
    by_cases hi : i = v
    · subst hi
      have hl : i < (wipeG G vs).length := by
        have := (List.getElem?_eq_some_iff.mp e).1
        rwa [List.length_set] at this
      rw [List.getElem?_set_self hl] at e
      cases e
    · rw [List.getElem?_set_ne (Ne.symm hi)] at e
      obtain ⟨x, h1, h2⟩ := ih.2 i d e
      refine ⟨x, ?_, h2⟩
      unfold wipe
      rw [List.getElem?_set_ne (Ne.symm hi)]
      exact h1
def tYesM : MeT := fun _ h => .ok true h
/-- in a comprehension nothing is raised -/
def Res.noX {α : Type} (r : Res α) : Res α := match r with
  | .ok a h => .ok a h
  | _ => .stuck
@[simp] theorem Res.noX_ok {α : Type} (a : α) (h : AH) : (Res.ok a h).noX = .ok a h := rfl
@[simp] theorem Res.noX_exc {α : Type} (c : Str) (fs : List (Str × D)) (h : AH) : (Res.exc c fs h : Res α).noX = .stuck := rfl
@[simp] theorem Res.noX_stuck {α : Type} : (Res.stuck : Res α).noX = .stuck := rfl
open Classical in
noncomputable def compGo (p : Pat) (t : MeT) (e : Me) (src : Option Nat) (all : List D) (G : Env) : List D → AH → Res (List D)
  | [], h => if Still src all h then .ok [] h else .stuck
  | d :: r, h => if Still src all h then
      match asg p d G with
      | some G1 => (t G1 h).noX.bind fun b h1 => if b = true then (e G1 h1).noX.bind fun x h2 => (compGo p t e src all G r h2).bind fun xs h3 => .ok (x :: xs) h3 else compGo p t e src all G r h1
      | none => .stuck
    else .stuck
noncomputable def lComp (p : Pat) (vs : List Nat) (it : Im) (t : MeT) (e : Me) : MeL := fun G h => (it G h).bind fun a h1 => if a.1.length ≤ big then compGo p t e a.2 a.1 (wipeG G vs) a.1 h1 else .stuck
theorem OutF.bindI {K : PySem.W.Frag} {mg : Str → Option Value} {W : WX} {w : Wd} {σ : L2.St} {G : Env} {h : AH} {m : Im} {R : It → Hp → Prop} {Q : VK} {k : List D × Option Nat → AH → Res (List D)} (o : OutF K mg W w σ Q ((m G h).bind k))
    (hq : ∀ all src h1 J w1 H1, Le w w1 → RepH K w1 H1 h1 → Walks K J w1 all src → OutF K mg W w1 σ Q (k (all, src) h1) → R J H1) : OutI K mg W w σ R (m G h) := by
  cases e : m G h with
  | ok d h1 =>
    rw [e] at o
    exact fun J w1 H1 l r x => hq d.1 d.2 h1 J w1 H1 l r x (OutF.mono l o)
  | exc c fs h1 =>
    rw [e] at o
    exact o
  | stuck =>
    rw [e] at o
    exact o
/-- no wish: nothing is raised -/
abbrev W0 : WX := fun _ _ _ _ => False
/-- the world in which the list at p, told apart, must stay as it is -/
def Wd.hold (w : Wd) (p : Addr) (u : HO) : Wd := ⟨w.S, upd w.F p u, w.mu, w.N, w.LK⟩
def Wd.with (w : Wd) (F : Hp) : Wd := ⟨w.S, F, w.mu, w.N, w.LK⟩
theorem RepH.hold {K : PySem.W.Frag} {w : Wd} {H : Hp} {h : AH} {p : Addr} {u : HO} (r : RepH K w H h) (ap : Apart w p) : RepH K (w.hold p u) (upd H p u) h := by
  refine ⟨fun a x e => ?_, r.len, r.inj, fun n o' e => ?_, fun a x e => ?_, fun a x e => ?_⟩
  · have e : w.S a = some x := e
    have q : a ≠ p := by
      intro z
      rw [z, ap.s] at e
      cases e
    rw [upd_ne q]
    exact r.ex _ _ e
  · obtain ⟨a, b⟩ := r.cell n o' e
    have hn : n < w.N := by
      rw [r.len]
      exact (List.getElem?_eq_some_iff.mp e).1
    refine ⟨a, ?_⟩
    have b2 : RepO K w (upd H p u) (w.mu n) o' := b.mono (Le.refl _) (upd_ne (ap.m n hn))
    cases o' with
    | lst ds => exact b2
    | ins C fs => exact b2
    | dct kvs => exact b2
    | lck kvs => exact b2
  · have e : upd w.F p u a = some x := e
    by_cases q : a = p
    · rw [q, upd_same] at e
      rw [q, upd_same]
      exact e
    · rw [upd_ne q] at e
      rw [upd_ne q]
      exact r.exF _ _ e
  · have e : upd w.F p u a = some x := e
    by_cases q : a = p
    · rw [q]
      exact ⟨ap.s, ap.m⟩
    · rw [upd_ne q] at e
      exact r.dis a x e
/-- the held list goes free again -/
theorem RepH.free {K : PySem.W.Frag} {w : Wd} {H : Hp} {h : AH} {F : Hp} {p : Addr} {u : HO} (r : RepH K w H h) (e : w.F = upd F p u) (hp : F p = none) : RepH K (w.with F) H h ∧ Apart (w.with F) p := by
  have sub : ∀ a x, F a = some x → w.F a = some x := fun a x q => by
    have z : a ≠ p := fun z => by
      rw [z, hp] at q
      cases q
    rw [e, upd_ne z]
    exact q
  have d := r.dis p u (by rw [e, upd_same])
  refine ⟨⟨r.ex, r.len, r.inj, fun n o' q => ?_, fun a x q => r.exF _ _ (sub a x q), fun a x q => r.dis a x (sub a x q)⟩, d.1, d.2, hp⟩
  obtain ⟨a, b⟩ := r.cell n o' q
  refine ⟨a, ?_⟩
  cases o' with
  | lst ds => exact b
  | ins C fs => exact b
  | dct kvs => exact b
  | lck kvs => exact b
/-- a list goes on in its place -/
theorem RepH.regrow {K : PySem.W.Frag} {w : Wd} {H : Hp} {h : AH} {F : Hp} {p : Addr} {u u' : HO} (r : RepH K w H h) (e : w.F = upd F p u) (hp : F p = none) : RepH K (w.with (upd F p u')) (upd H p u') h := by
  obtain ⟨r1, ap⟩ := r.free e hp
  exact r1.hold ap
section
variable {X : Cx} {W : WX} {pos : Pos} {tg iter elt : Expr} {ifs : List Expr} {scope : Scope} {own : List (Str × Nat)} {p : Pat} {im : Im} {mt : MeT} {me : Me}
theorem noXT {K : PySem.W.Frag} {mg : Str → Option Value} {w : Wd} {σ : L2.St} {Q : Bool → Hp → Prop} {r : Res Bool} (o : OutT K mg W0 w σ Q r.noX) : OutT K mg W0 w σ Q r := by
  cases r with
  | ok a h => exact o
  | exc c fs h => exact o.elim
  | stuck => exact o
theorem noXE {K : PySem.W.Frag} {mg : Str → Option Value} {w : Wd} {σ : L2.St} {Q : VK} {r : Res D} (o : OutE K mg W0 w σ Q r.noX) : OutE K mg W0 w σ Q r := by
  cases r with
  | ok a h => exact o
  | exc c fs h => exact o.elim
  | stuck => exact o
theorem lc_read (p : Pat) (hsl : ∀ i ∈ p.slots, i ∈ own.map (·.2)) {σ : L2.St} {H : Hp} {Q : VK} (t : TF X W (lComp p (own.map (·.2)) im mt me) σ H Q) : tLc (tI X W im) (gP X.K p) (TTT X W0 mt) (TM X W0 me) (own.map (·.2)) σ H Q := by
  obtain ⟨w, G, h, g, r, o⟩ := t
  refine ⟨w, G, h, g, r, OutF.bindI (m := im) o fun all src h1 J w1 H1 l r1 wk o1 => ?_⟩
  intro Dd hD
  have o1 : OutF X.K X.mg W w1 σ Q (if all.length ≤ big then compGo p mt me src all (wipeG G (own.map (·.2))) all h1 else .stuck) := o1
  split at o1
  · rename_i hbig
    have g1 : RepG X.K w1 (wipe σ (own.map (·.2))) (wipeG G (own.map (·.2))) := wipe_rep (g.mono l) _
    generalize hvs : own.map (·.2) = vs at *
    have apD : Apart w1 Dd := ⟨r1.ex.free hD, fun n hn => r1.ne hn hD, r1.exF.free hD⟩
    refine ⟨fun i m H' => m = all.length - i ∧ i ≤ all.length ∧ ∃ w' h' xs ds, w'.F = upd w1.F Dd (.lst xs) ∧ LeX w1 w' ∧ RepH X.K w' H' h' ∧ Ra X.K w' xs ds ∧ ds.length ≤ i ∧
      OutF X.K X.mg W (w'.with w1.F) σ Q ((compGo p mt me src all (wipeG G vs) (all.drop i) h').bind fun ys h2 => .ok (ds ++ ys) h2),
      ⟨all.length, by simp, Nat.zero_le _, w1.hold Dd (.lst []), h1, [], [], rfl, ⟨Ext.refl _, Nat.le_refl _, fun _ _ => rfl, rfl⟩, r1.hold apD, .nil, Nat.le_refl _, ?_⟩, ?_⟩
    · have e : ∀ r : Res (List D), (r.bind fun ys h2 => .ok ([] ++ ys) h2) = r := fun r => by cases r <;> rfl
      rw [List.drop_zero, e]
      exact o1
    · rintro i m H' ⟨rfl, hi2, w', h', xs, ds, eF, lx, r', ra, hds, o'⟩
      obtain ⟨rf, apf⟩ := r'.free eF apD.f
      have lf : LeX w1 (w'.with w1.F) := ⟨lx.ex, lx.n, lx.mu, lx.lk⟩
      have hD' : H' Dd = some (.lst xs) := r'.exF _ _ (by rw [eF, upd_same])
      by_cases hlt : i < all.length
      · have ed : all.drop i = all[i] :: all.drop (i + 1) := List.drop_eq_getElem_cons hlt
        rw [ed] at o'
        unfold compGo at o'
        split at o'
        · rename_i still
          refine .inr ⟨wk.goes i w' H' h' hlt lx r' still, fun H2 => ∃ w' h' xs ds, w'.F = upd w1.F Dd (.lst xs) ∧ LeX w1 w' ∧ RepH X.K w' H2 h' ∧ Ra X.K w' xs ds ∧ ds.length ≤ i + 1 ∧
            OutF X.K X.mg W (w'.with w1.F) σ Q ((compGo p mt me src all (wipeG G vs) (all.drop (i + 1)) h').bind fun ys h2 => .ok (ds ++ ys) h2),
            fun H2 hN => ⟨all.length - (i + 1), by omega, rfl, hlt, hN⟩, fun x H2 hy => ?_⟩
          obtain ⟨w2, l2, r2, rv⟩ := wk.yields i x w' H' H2 h' all[i] (List.getElem?_eq_getElem hlt) lx r' still hy
          split at o'
          · rename_i G1 e1
            refine asg_rep r2 p all[i] x (wipe σ vs) _ G1 _ rv (g1.monoX (lx.trans l2.x)) e1 fun σ3 g3 hw => ⟨(hw vs hsl).trans (wipe_wipe fun _ hi => hi), w2, G1, h', g3, r2, ?_⟩
            cases em : mt G1 h' with
            | exc c fs h2 => rw [em] at o'; exact o'.elim
            | stuck => rw [em] at o'; exact o'.elim
            | ok b h2 =>
              rw [em] at o'
              intro w3 H3 l3 r3
              have o' : OutF X.K X.mg W (w'.with w1.F) σ Q ((if b = true then (me G1 h2).noX.bind fun x h2 => (compGo p mt me src all (wipeG G vs) (all.drop (i + 1)) h2).bind fun xs h3 => .ok (x :: xs) h3 else compGo p mt me src all (wipeG G vs) (all.drop (i + 1)) h2).bind fun ys h2 => .ok (ds ++ ys) h2) := o'
              have F3 : w3.F = upd w1.F Dd (.lst xs) := by rw [l3.f, l2.f, eF]
              cases b with
              | false =>
                rw [if_neg (by decide)] at o'
                refine iteF ⟨w3, h2, xs, ds, F3, lx.trans (l2.x.trans l3.x), r3, Ra_mono (l2.trans l3) ra, by omega, OutF.mono ?_ o'⟩
                exact ⟨(l2.trans l3).ex, (l2.trans l3).n, (l2.trans l3).mu, rfl, (l2.trans l3).lk⟩
              | true =>
                rw [if_pos rfl] at o'
                refine iteT ⟨w3, G1, h2, g3.mono l3, r3, ?_⟩
                cases ee : me G1 h2 with
                | exc c fs h3 => rw [ee] at o'; exact o'.elim
                | stuck => rw [ee] at o'; exact o'.elim
                | ok y h3 =>
                  rw [ee] at o'
                  intro v w4 H4 l4 r4 rv4
                  have F4 : w4.F = upd w1.F Dd (.lst xs) := by rw [l4.f, F3]
                  have lxs := ra.length
                  refine ⟨xs, r4.exF _ _ (by rw [F4, upd_same]), big_lt (by omega), w4.with (upd w1.F Dd (.lst (xs ++ [v]))), h3, xs ++ [v], ds ++ [y], rfl, ?_, r4.regrow F4 apD.f, ?_, ?_, ?_⟩
                  · have l := lx.trans (l2.x.trans (l3.x.trans l4.x))
                    exact ⟨l.ex, l.n, l.mu, l.lk⟩
                  · have ra4 : Ra X.K w4 xs ds := Ra_mono (l2.trans (l3.trans l4)) ra
                    exact ra4.append (.cons rv4 .nil)
                  · rw [List.length_append]
                    exact Nat.succ_le_succ hds
                  · have eq : ∀ r : Res (List D), ((r.bind fun zs h3 => .ok (y :: zs) h3).bind fun ys h2 => .ok (ds ++ ys) h2) = r.bind fun ys h2 => .ok ((ds ++ [y]) ++ ys) h2 := fun r => by
                      cases r with
                      | ok a h =>
                        show Res.ok (ds ++ (y :: a)) h = Res.ok ((ds ++ [y]) ++ a) h
                        rw [List.append_assoc]
                        rfl
                      | exc c fs h => rfl
                      | stuck => rfl
                    have o2 : OutF X.K X.mg W (w'.with w1.F) σ Q (((compGo p mt me src all (wipeG G vs) (all.drop (i + 1)) h3).bind fun zs h3 => .ok (y :: zs) h3).bind fun ys h2 => .ok (ds ++ ys) h2) := o'
                    rw [eq] at o2
                    refine OutF.mono ?_ o2
                    have l := l2.trans (l3.trans l4)
                    exact ⟨l.ex, l.n, l.mu, rfl, l.lk⟩
          · exact o'.elim
        · exact o'.elim
      · have e : i = all.length := by omega
        subst e
        rw [List.drop_length] at o'
        unfold compGo at o'
        split at o'
        · rename_i still
          refine .inl ⟨wk.stops w' H' h' lx r' still, ?_⟩
          have o2 : OutF X.K X.mg W (w'.with w1.F) σ Q (.ok (ds ++ []) h') := o'
          rw [List.append_nil] at o2
          exact o2 Dd xs (w'.with w1.F) H' (Le.refl _) rf apf hD' ra
        · exact o'.elim
  · exact o1.elim
theorem f_lc (p : Pat) (hN : X.N.Nodup) (hi : PI X tg iter (tI X W im)) (ok : BlkOk X.N X.env.scope scope own)
    (hg : ∀ (s : Shared) (H : Hp) (C : Addr) (cl : List (Str × Addr)) (fp : List Addr), PG (X.blk s H scope (compEnvC scope cl C X.env) fp) tg (gP X.K p)) (ht : ∀ (s : Shared) (H : Hp) (C : Addr) (cl : List (Str × Addr)) (fp : List Addr), PTs (X.blk s H scope (compEnvC scope cl C X.env) fp) ifs (TTT X W0 mt))
    (he : ∀ (s : Shared) (H : Hp) (C : Addr) (cl : List (Str × Addr)) (fp : List Addr), PE (X.blk s H scope (compEnvC scope cl C X.env) fp) elt (TM X W0 me)) (hsl : ∀ i ∈ p.slots, i ∈ own.map (·.2)) (hc : X.calm = true := by rfl) (hs : ∀ x, foldedSetIterable iter X.env x = pure x := by intro _; rfl) :
    PE X (.ListComp elt [⟨tg, iter, ifs, 0⟩] scope pos) (TF X W (lComp p (own.map (·.2)) im mt me)) :=
  (pe_lc hc hN hi ok hg ht he hs).wk fun _ _ _ t => lc_read p hsl t
/-- name = [..] on one line, the name a local of its own -/
theorem set_read {m : Me} {i : Nat} {D : Ends} {σ : L2.St} {H : Hp} (t : TSS X W (sSet i m) D σ H) : TM X W m σ H fun x H1 => gName i x σ H1 D.nx := by
  obtain ⟨w, G, h, g, r, o⟩ := t
  exact ⟨w, G, h, g, r, OutS.bindE (m := m) g o fun d h1 v w1 H1 l r1 x o1 => o1 _ w1 H1 (Le.refl _) ((g.mono l).set i x) r1⟩
theorem s_setLc (i : Nat) {y : Str} {py spos : Pos} {m : Me} (p : Pat) (hm : ∀ (σ : L2.St) (H : Hp) (Q : VK), TM X W m σ H Q → TF X W (lComp p (own.map (·.2)) im mt me) σ H Q) (hN : X.N.Nodup) (hi : PI X tg iter (tI X W im)) (ok : BlkOk X.N X.env.scope scope own)
    (hg : ∀ (s : Shared) (H : Hp) (C : Addr) (cl : List (Str × Addr)) (fp : List Addr), PG (X.blk s H scope (compEnvC scope cl C X.env) fp) tg (gP X.K p)) (ht : ∀ (s : Shared) (H : Hp) (C : Addr) (cl : List (Str × Addr)) (fp : List Addr), PTs (X.blk s H scope (compEnvC scope cl C X.env) fp) ifs (TTT X W0 mt))
    (he : ∀ (s : Shared) (H : Hp) (C : Addr) (cl : List (Str × Addr)) (fp : List Addr), PE (X.blk s H scope (compEnvC scope cl C X.env) fp) elt (TM X W0 me)) (hsl : ∀ i ∈ p.slots, i ∈ own.map (·.2)) (hy : X.N[i]? = some y := by rfl) (hyl : X.env.scope.names.lookup y = some .local := by rfl)
    (hk : X.env.scope.kind = .function := by rfl) (hl : (py.line == pos.line) = true := by rfl) (ha : (scope.names.any fun (n, k) => n == y && (k == .local || k == .cell)) = false := by rfl) (hc : X.calm = true := by rfl) (hs : ∀ x, foldedSetIterable iter X.env x = pure x := by intro _; rfl) :
    PS X (.Assign [.Name y py] (.ListComp elt [⟨tg, iter, ifs, 0⟩] scope pos) spos) (TSS X W (sSet i m)) :=
  (ps_setLc hc hN hy hyl (sw_true hk hyl hl ha) hi ok hg ht he hs).wk fun D σ H t => lc_read p hsl (hm _ _ _ (set_read t))
end
end AB
/-! AB: defs, their calls; list methods; raise. -/
namespace AB
open PySem PySem.Spec PyProof.Rows L2

mutual
/-- no object from n on is named -/
def D.under (n : Nat) : D → Bool
  | .tup ds => underL n ds
  | .lst ds => underL n ds
  | .rol ds => underL n ds
  | .loc m => decide (m < n)
  | _ => true
def underL (n : Nat) : List D → Bool
  | [] => true
  | d :: ds => d.under n && underL n ds
end
def AO.under (n : Nat) : AO → Bool
  | .lst ds => underL n ds
  | .ins _ fs => underL n (fs.map (·.2))
  | .dct kvs => underL n (kvs.map (·.2))
  | .lck kvs => underL n (kvs.map (·.2))
section
variable {K : PySem.W.Frag} {S : Hp} {mu : Nat → Addr} {N n : Nat}
mutual
theorem RepV.lower : ∀ (d : D) (v : V), RepV K S mu N v d → d.under n = true → RepV K S mu n v d
  | .non, _, h, _ => by cases h; exact .non
  | .bl _, _, h, _ => by cases h; exact .bl _
  | .int _, _, h, _ => by cases h; exact .int _
  | .str _, _, h, _ => by cases h; exact .str _
  | .tup ds, _, h, b => by
    cases h with
    | tup x y => exact .tup x (RepAll.lower ds _ y (by unfold D.under at b; exact b))
  | .lst ds, _, h, b => by
    cases h with
    | lst x y => exact .lst x (RepAll.lower ds _ y (by unfold D.under at b; exact b))
  | .rol ds, _, h, b => by
    cases h with
    | rol x y => exact .rol x (RepAll.lower ds _ y (by unfold D.under at b; exact b))
  | .loc m, _, h, b => by
    cases h with
    | loc x => exact .loc (of_decide_eq_true (by unfold D.under at b; exact b))
  | .con _, _, h, _ => by cases h; exact .con
theorem RepAll.lower : ∀ (ds : List D) (vs : List V), RepAll K S mu N vs ds → underL n ds = true → RepAll K S mu n vs ds
  | [], _, h, _ => by cases h; exact .nil
  | d :: ds, _, h, b => by
    cases h with
    | cons x y =>
      unfold underL at b
      rw [Bool.and_eq_true] at b
      exact .cons (RepV.lower d _ x b.1) (RepAll.lower ds _ y b.2)
end
mutual
theorem RepV.is_under : ∀ (d : D) (v : V), RepV K S mu N v d → d.under N = true
  | .non, _, _ => by unfold D.under; rfl
  | .bl _, _, _ => by unfold D.under; rfl
  | .int _, _, _ => by unfold D.under; rfl
  | .str _, _, _ => by unfold D.under; rfl
  | .tup ds, _, h => by
    cases h with
    | tup x y => unfold D.under; exact RepAll.is_under ds _ y
  | .lst ds, _, h => by
    cases h with
    | lst x y => unfold D.under; exact RepAll.is_under ds _ y
  | .rol ds, _, h => by
    cases h with
    | rol x y => unfold D.under; exact RepAll.is_under ds _ y
  | .loc m, _, h => by
    cases h with
    | loc x => unfold D.under; exact decide_eq_true x
  | .con _, _, _ => by unfold D.under; rfl
theorem RepAll.is_under : ∀ (ds : List D) (vs : List V), RepAll K S mu N vs ds → underL N ds = true
  | [], _, _ => by unfold underL; rfl
  | d :: ds, _, h => by
    cases h with
    | cons x y =>
      unfold underL
      rw [RepV.is_under d _ x, RepAll.is_under ds _ y]
      rfl
end
end
/-- the objects ahead of n hold nothing from n on: they stand as they stood, or this is seen -/
def OkCells (n : Nat) (h0 h1 : AH) : Prop := ∀ m o, m < n → h1[m]? = some o → h0[m]? = some o ∨ o.under n = true
def Wd.cut (w : Wd) (n : Nat) : Wd := ⟨w.S, w.F, w.mu, n, w.LK⟩
theorem RepO.under {K : PySem.W.Frag} {w : Wd} {H : Hp} {a : Addr} {o : AO} (r : RepO K w H a o) : o.under w.N = true := by
  cases o with
  | lst ds =>
    obtain ⟨xs, _, ra⟩ := r
    exact RepAll.is_under ds _ ra
  | ins C fs =>
    obtain ⟨_, dx, fv, _, _, _, ra, _⟩ := r
    exact RepAll.is_under _ _ ra
  | dct kvs =>
    obtain ⟨_, _, _, ra⟩ := r
    exact RepAll.is_under _ _ ra
  | lck kvs =>
    obtain ⟨_, _, _, _, _, ra⟩ := r
    exact RepAll.is_under _ _ ra
theorem RepO.lower {K : PySem.W.Frag} {w : Wd} {H : Hp} {a : Addr} {o : AO} {n : Nat} (r : RepO K w H a o) (b : o.under n = true) : RepO K (w.cut n) H a o := by
  cases o with
  | lst ds =>
    obtain ⟨xs, e, ra⟩ := r
    exact ⟨xs, e, RepAll.lower ds _ ra b⟩
  | ins C fs =>
    obtain ⟨Ca, dx, fv, ec, e1, e2, ra, e3⟩ := r
    exact ⟨Ca, dx, fv, ec, e1, e2, RepAll.lower _ _ ra b, e3⟩
  | dct kvs =>
    obtain ⟨kv, e1, e2, ra⟩ := r
    exact ⟨kv, e1, e2, RepAll.lower _ _ ra b⟩
  | lck kvs =>
    obtain ⟨o, kv, e1, e0, e2, ra⟩ := r
    exact ⟨o, kv, e1, e0, e2, RepAll.lower _ _ ra b⟩
/-- a def's own objects are forgotten -/
theorem RepH.cut {K : PySem.W.Frag} {w w1 : Wd} {H H1 : Hp} {h0 h1 : AH} (r0 : RepH K w H h0) (l : Le w w1) (r1 : RepH K w1 H1 h1) (ok : OkCells w.N h0 h1) : RepH K (w1.cut w.N) H1 (h1.take w.N) ∧ Le w (w1.cut w.N) := by
  have hl : w.N ≤ h1.length := by rw [← r1.len]; exact l.n
  refine ⟨⟨r1.ex, ?_, fun m n hm hn e => r1.inj m n (Nat.lt_of_lt_of_le hm l.n) (Nat.lt_of_lt_of_le hn l.n) e, fun m o e => ?_, r1.exF, fun a u e => ⟨(r1.dis a u e).1, fun n hn => (r1.dis a u e).2 n (Nat.lt_of_lt_of_le hn l.n)⟩⟩, l.ex, Nat.le_refl _, l.mu, l.f, l.lk⟩
  · show w.N = _
    rw [List.length_take]
    omega
  · have hm : m < w.N := by
      have := (List.getElem?_eq_some_iff.mp e).1
      rw [List.length_take] at this
      omega
    rw [List.getElem?_take, if_pos hm] at e
    obtain ⟨a, b⟩ := r1.cell m o e
    refine ⟨a, b.lower ?_⟩
    rcases ok m o hm e with q | q
    · obtain ⟨_, c⟩ := r0.cell m o q
      exact c.under
    · exact q
abbrev Fn := List D → AH → Res D
abbrev FnL := List D → AH → Res (List D)
open Classical in
noncomputable def finD (n : Nat) (h0 : AH) (d : D) (h1 : AH) : Res D :=
  if h1.length = n then .ok d h1 else if d.under n = true ∧ OkCells n h0 h1 then .ok d (h1.take n) else .stuck
open Classical in
noncomputable def finX {α : Type} (n : Nat) (h0 : AH) (c : Str) (fs : List (Str × D)) (h1 : AH) : Res α :=
  if h1.length = n then .exc c fs h1 else if underL n (fs.map (·.2)) = true ∧ OkCells n h0 h1 then .exc c fs (h1.take n) else .stuck
open Classical in
noncomputable def finL (n : Nat) (h0 : AH) (d : D) (h1 : AH) : Res (List D) := match d with
  | .loc k => match h1[k]? with
    | some (.lst ds) => if n ≤ k ∧ underL n ds = true ∧ OkCells n h0 h1 then .ok ds (h1.take n) else .stuck
    | _ => .stuck
  | _ => .stuck
/-- a def of n parameters and N slots -/
noncomputable def mDef (n N : Nat) (body : Ms) : Fn := fun ds h => if ds.length = n then
    match body (ds.map some ++ List.replicate (N - n) none) h with
    | .next _ h1 => finD h.length h .non h1
    | .ret d h1 => finD h.length h d h1
    | .exc c fs _ h1 => finX h.length h c fs h1
    | _ => .stuck
  else .stuck
/-- .. that hands back a new list -/
noncomputable def mDefL (n N : Nat) (body : Ms) : FnL := fun ds h => if ds.length = n then
    match body (ds.map some ++ List.replicate (N - n) none) h with
    | .ret d h1 => finL h.length h d h1
    | .exc c fs _ h1 => finX h.length h c fs h1
    | _ => .stuck
  else .stuck
def spM (K : PySem.W.Frag) (mg : Str → Option Value) (m : Fn) : Sp := fun vs H Q E => ∃ w ds h, Ra K w vs ds ∧ RepH K w H h ∧ OutE K mg (fun c dd _ H => E c dd H) w [] Q (m ds h)
def spL (K : PySem.W.Frag) (mg : Str → Option Value) (m : FnL) : Sp := fun vs H Q E => ∃ w ds h, Ra K w vs ds ∧ RepH K w H h ∧ OutF K mg (fun c dd _ H => E c dd H) w [] Q (m ds h)
theorem start_rep {K : PySem.W.Frag} {w : Wd} {N : List Str} {vs : List V} {ds : List D} (ra : Ra K w vs ds) : RepG K w (L2.start N vs) (ds.map some ++ List.replicate (N.length - ds.length) none) := by
  have hl := ra.length
  refine ⟨by simp [L2.start, hl], fun i d e => ?_⟩
  by_cases hi : i < ds.length
  · rw [List.getElem?_append_left (by simpa using hi), List.getElem?_map] at e
    have e2 : ds[i]? = some d := by
      cases q : ds[i]? with
      | none => rw [q] at e; cases e
      | some x =>
        rw [q] at e
        cases e
        rfl
    obtain ⟨v, h1, h2⟩ := ra.get e2
    refine ⟨v, ?_, h2⟩
    unfold L2.start
    rw [List.getElem?_append_left (by simp; omega), List.getElem?_map, h1]
    rfl
  · rw [List.getElem?_append_right (by simp; omega)] at e
    have := List.mem_of_getElem? e
    simp at this
section
variable {P : Program} {w : World} {K : PySem.W.Frag} {mg : Str → Option Value} {base : Heap}
theorem finX_out {α : Type} {W : WX} {w w1 : Wd} {σ σ1 : L2.St} {H : Hp} {G1 : Env} {h0 h1 : AH} {c : Str} {fs : List (Str × D)} (r0 : RepH K w H h0) (o : OutX K mg W w σ c fs h1) : True := trivial
/-- the end of a def that raises -/
theorem out_finX {E : XK} {w : Wd} {H : Hp} {h0 h1 : AH} {G1 : Env} {c : Str} {fs : List (Str × D)} {D : Ends} (r0 : RepH K w H h0)
    (o : (h1.length = w.N → OutX K mg (fun c dd _ H => E c dd H) w [] c fs h1) ∧ (h1.length ≠ w.N → underL w.N (fs.map (·.2)) = true ∧ OkCells w.N h0 h1 ∧ OutX K mg (fun c dd _ H => E c dd H) w [] c fs (h1.take w.N))) :
    OutS K mg (fun c dd _ H => E c dd H) D w (.exc c fs G1 h1) := by
  intro cls dd σ1 w1 H1 e l g r x
  by_cases q : h1.length = w.N
  · exact o.1 q cls dd w1 H1 e l r x
  · obtain ⟨hb, hc, ox⟩ := o.2 q
    obtain ⟨r2, l2⟩ := RepH.cut r0 l r hc
    refine ox cls dd (w1.cut w.N) H1 e l2 r2 ?_
    cases fs with
    | nil => exact trivial
    | cons f fs =>
      obtain ⟨p, fv, e1, e2, e3, ra⟩ := x
      exact ⟨p, fv, e1, e2, e3, RepAll.lower _ _ ra hb⟩
theorem sp_len {m : Ms} {n N : Nat} {vs : List V} {H : Hp} {Q : VK} {E : XK} (h : spM K mg (mDef n N m) vs H Q E) : vs.length = n := by
  obtain ⟨w, ds, h, ra, r, o⟩ := h
  unfold mDef at o
  split at o
  · rename_i e
    rw [ra.length]
    exact e
  · exact o.elim
theorem sp_start {m : Ms} {n : Nat} {N : List Str} {vs : List V} {H : Hp} {Q : VK} {E : XK} (h : spM K mg (mDef n N.length m) vs H Q E) : tS K mg (fun c dd _ H => E c dd H) m { nx := fun _ H' => Q .non H', rt := Q } (L2.start N vs) H := by
  obtain ⟨w, ds, h, ra, r, o⟩ := h
  unfold mDef at o
  split at o
  · rename_i e
    refine ⟨w, _, h, start_rep ra, r, ?_⟩
    rw [e]
    have fin : ∀ (d : D) (h1 : AH), OutE K mg (fun c dd _ H => E c dd H) w [] Q (finD h.length h d h1) → ∀ v w1 H1, Le w w1 → RepH K w1 H1 h1 → Rv K w1 v d → Q v H1 := by
      intro d h1 o v w1 H1 l r1 rv
      unfold finD at o
      split at o
      · exact o v w1 H1 l r1 rv
      · split at o
        · rename_i c
          rw [← r.len] at o c
          obtain ⟨r2, l2⟩ := RepH.cut r l r1 c.2
          exact o v (w1.cut w.N) H1 l2 r2 (RepV.lower d v rv c.1)
        · exact o.elim
    cases em : m (ds.map some ++ List.replicate (N.length - n) none) h with
    | next G1 h1 =>
      rw [em] at o
      exact fun σ' w1 H1 l g r1 => fin .non h1 o .non w1 H1 l r1 .non
    | ret d h1 =>
      rw [em] at o
      exact fun v w1 H1 l r1 rv => fin d h1 o v w1 H1 l r1 rv
    | brk G1 h1 => rw [em] at o; exact o.elim
    | cont G1 h1 => rw [em] at o; exact o.elim
    | stuck => rw [em] at o; exact o.elim
    | exc c fs G1 h1 =>
      rw [em] at o
      refine out_finX r ?_
      have o : OutE K mg (fun c dd _ H => E c dd H) w [] Q (finX h.length h c fs h1) := o
      unfold finX at o
      rw [← r.len] at o
      split at o
      · rename_i q
        exact ⟨fun _ => o, fun z => absurd q z⟩
      · rename_i q
        split at o
        · rename_i cc
          exact ⟨fun z => absurd z q, fun _ => ⟨cc.1, cc.2, o⟩⟩
        · exact o.elim
  · exact o.elim
theorem fn_ok {x qual : Str} {st : Stmt} {f : Addr} {fd : FuncData} {N ps : List Str} {k : Nat} (F : Fun K x qual st f fd) (S : FnScope N ps (defScope st)) (m : Ms)
    (hb : ∀ (cdv : Value) (A : Around) (outer : List PySem.Env) (s : Shared) (H : Hp) (E : XK), Room k (A.deeper (envOfC qual (defScope st) s.heap.objs.size f cdv)) →
      PSs (cxOf (L2.CX P w) P w K mg base N qual (defScope st) f cdv A outer s H E) (defBody st) (tS K mg (fun c dd _ H => E c dd H) m)) :
    FnOk P w K mg base (L2.CX P w) (k + 1) f fd ps (spM K mg (mDef ps.length N.length m)) :=
  F.okX S (fun vs H Q E h => sp_len h) fun cdv A outer s H vs Q E hr h => ⟨_, hb cdv A outer s H E hr, sp_start h⟩
open Classical in
theorem fn_okL {x qual : Str} {st : Stmt} {f : Addr} {fd : FuncData} {N ps : List Str} {k : Nat} (F : Fun K x qual st f fd) (S : FnScope N ps (defScope st)) (m : Ms)
    (hb : ∀ (cdv : Value) (A : Around) (outer : List PySem.Env) (s : Shared) (H : Hp) (E : XK), Room k (A.deeper (envOfC qual (defScope st) s.heap.objs.size f cdv)) →
      PSs (cxOf (L2.CX P w) P w K mg base N qual (defScope st) f cdv A outer s H E) (defBody st) (tS K mg (fun c dd _ H => E c dd H) m)) :
    FnOk P w K mg base (L2.CX P w) (k + 1) f fd ps (spL K mg (mDefL ps.length N.length m)) := by
  refine F.okX S (fun vs H Q E h => ?_) fun cdv A outer s H vs Q E hr h => ⟨_, hb cdv A outer s H E hr, ?_⟩
  · obtain ⟨w, ds, h, ra, r, o⟩ := h
    unfold mDefL at o
    split at o
    · rename_i e
      rw [ra.length]
      exact e
    · exact o.elim
  · obtain ⟨w, ds, h, ra, r, o⟩ := h
    unfold mDefL at o
    split at o
    · rename_i e
      refine ⟨w, _, h, start_rep ra, r, ?_⟩
      rw [e]
      cases em : m (ds.map some ++ List.replicate (N.length - ps.length) none) h with
      | next G1 h1 => rw [em] at o; exact o.elim
      | ret d h1 =>
        rw [em] at o
        intro v w1 H1 l r1 rv
        have o : OutF K mg (fun c dd _ H => E c dd H) w [] Q (finL h.length h d h1) := o
        cases rv with
        | @loc k _ =>
          have o : OutF K mg (fun c dd _ H => E c dd H) w [] Q (match h1[k]? with
            | some (.lst ds) => if h.length ≤ k ∧ underL h.length ds = true ∧ OkCells h.length h h1 then .ok ds (h1.take h.length) else .stuck
            | _ => .stuck) := o
          split at o
          · rename_i es eh
            split at o
            · rename_i c
              rw [← r.len] at o c
              obtain ⟨r2, l2⟩ := RepH.cut r l r1 c.2.2
              obtain ⟨a, xs, e1, ra1⟩ := r1.cell k _ eh
              have hk : k < w1.N := by
                rw [r1.len]
                exact (List.getElem?_eq_some_iff.mp eh).1
              refine o (w1.mu k) xs (w1.cut w.N) H1 l2 r2 ⟨a, fun n hn z => ?_, ?_⟩ e1 (RepAll.lower es xs ra1 c.2.1)
              · have hn : n < w.N := hn
                have := r1.inj n k (Nat.lt_of_lt_of_le hn l.n) hk z
                omega
              · cases q : w1.F (w1.mu k) with
                | none => exact q
                | some u => exact absurd rfl ((r1.dis _ u q).2 k hk)
            · exact o.elim
          · exact o.elim
        | _ => exact o.elim
      | brk G1 h1 => rw [em] at o; exact o.elim
      | cont G1 h1 => rw [em] at o; exact o.elim
      | stuck => rw [em] at o; exact o.elim
      | exc c fs G1 h1 =>
        rw [em] at o
        refine out_finX r ?_
        have o : OutF K mg (fun c dd _ H => E c dd H) w [] Q (finX h.length h c fs h1) := o
        unfold finX at o
        rw [← r.len] at o
        split at o
        · rename_i q
          exact ⟨fun _ => o, fun z => absurd q z⟩
        · rename_i q
          split at o
          · rename_i cc
            exact ⟨fun z => absurd z q, fun _ => ⟨cc.1, cc.2, o⟩⟩
          · exact o.elim
    · exact o.elim
end

/-! ### calls -/
section
variable {X : Cx} {W : WX} {pos p : Pos} {e : Expr} {es : List Expr} {as : MeL} {x : Str} {k k' : Nat} {f : Addr} {fd : FuncData} {ps : List Str} {m : Fn} {ml : FnL} {ma mb : Me}
theorem e_call (F : FnOk X.prog X.w X.K X.mg X.base (L2.CX X.prog X.w) k f fd ps (spM X.K X.mg m)) (hr : Room k' X.A) (hk' : k ≤ k') (tk : Takes X W) (hm : X.mg x = some (.ref f)) (hk : PySem.W.keepIn X.K (.ref f) = true) (hb : Binds X.K fd ps [])
    (ha : PA X (e :: es) (TAr X W as)) (hg : Gl X x := by rfl) (hdb : (x == ("__debug__" : Str)) = false := by decide) (he : starEach (e :: es) X.env = (false, eval e X.env) :: starEach es X.env := by rfl) (hpl : (backTo pos (starEach es X.env)).any (·.1) = false := by rfl) :
    PE X (.Call (.Name x p) (e :: es) [] pos) (TM X W (mN m as)) := by
  refine (pe_callS F (hr.mono hk') hg hm hk hb (fun σ => passAt tk σ) ha hdb he hpl).wk fun σ H Q ⟨w, G, h, g, r, o⟩ => ⟨w, G, h, g, r, o.bindA fun ds h1 vs w1 H1 l r1 x o1 => ⟨w1, ds, h1, x, r1, ?_⟩⟩
  cases em : m ds h1 with
  | ok d h2 => rw [em] at o1; exact o1
  | exc c fs h2 => rw [em] at o1; exact o1
  | stuck => rw [em] at o1; exact o1
theorem f_call (F : FnOk X.prog X.w X.K X.mg X.base (L2.CX X.prog X.w) k f fd ps (spL X.K X.mg ml)) (hr : Room k' X.A) (hk' : k ≤ k') (tk : Takes X W) (hm : X.mg x = some (.ref f)) (hk : PySem.W.keepIn X.K (.ref f) = true) (hb : Binds X.K fd ps [])
    (ha : PA X (e :: es) (TAr X W as)) (hg : Gl X x := by rfl) (hdb : (x == ("__debug__" : Str)) = false := by decide) (he : starEach (e :: es) X.env = (false, eval e X.env) :: starEach es X.env := by rfl) (hpl : (backTo pos (starEach es X.env)).any (·.1) = false := by rfl) :
    PE X (.Call (.Name x p) (e :: es) [] pos) (TF X W (lN ml as)) := by
  refine (pe_callS F (hr.mono hk') hg hm hk hb (fun σ => passAt tk σ) ha hdb he hpl).wk fun σ H Q ⟨w, G, h, g, r, o⟩ => ⟨w, G, h, g, r, OutF.bindA (m := as) o fun ds h1 vs w1 H1 l r1 x o1 => ⟨w1, ds, h1, x, r1, ?_⟩⟩
  cases em : ml ds h1 with
  | ok d h2 => rw [em] at o1; exact o1
  | exc c fs h2 => rw [em] at o1; exact o1
  | stuck => rw [em] at o1; exact o1

/-! ### the machine's lists, changed -/
/-- o.m(e, ..) of a list -/
def mBM (f : D → List D → AH → Res D) (o : Me) (as : MeL) : Me := fun G h => (o G h).bind fun d h1 => match vL h1 d with
  | some _ => (as G h1).bind fun xs h2 => f d xs h2
  | none => .stuck
def FolM (X : Cx) (W : WX) (f : D → List D → AH → Res D) (r : V → List V → Hp → VK → Prop) : Prop := ∀ (w : Wd) (h : AH) (H : Hp) (σ : L2.St) (Q : VK) (v : V) (d : D) (vs : List V) (ds : List D),
  RepH X.K w H h → Rv X.K w v d → Ra X.K w vs ds → OutE X.K X.mg W w σ Q (f d ds h) → r v vs H Q
variable {o : Expr} {name : Str} {apos cpos : Pos} {bid : String} {r : V → List V → Hp → VK → Prop} {fm : D → List D → AH → Res D}
theorem tyV_L {w : Wd} {H : Hp} {h : AH} {v : V} {d : D} {ds : List D} (rh : RepH X.K w H h) (rv : Rv X.K w v d) (e : vL h d = some ds) : tyV X.K "list" v H := by
  obtain ⟨a, xs, rfl, sq, _⟩ := vL_rep rh rv e
  exact .inl ⟨rfl, xs, sq⟩
theorem e_bm (slot : Slot "list" name bid) (hty : typeOf (.builtin bid) = pure (.type "method_descriptor")) (hm : MtR X bid r) (hf : FolM X W fm r) (ho : PE X o (TM X W ma)) (ha : PA X (e :: es) (TAr X W as))
    (hbase : attributeBase o name X.env (eval o X.env) = eval o X.env := by rfl)
    (hfew : ((backTo cpos (starEach (e :: es) X.env)).all (fun x => !x.1) && (backToKw cpos (keywordEach [] X.env)).all (fun x => x.1.isSome)
      && decide ((e :: es).length + ([] : List Keyword).length + (if ([] : List Keyword).isEmpty then 0 else 1) < 30)) = true := by rfl)
    (hline : (apos.endLine == cpos.line) = true := by rfl) (hs : starEach (e :: es) X.env = (false, eval e X.env) :: starEach es X.env := by rfl) (hplain : (backTo cpos (starEach es X.env)).any (·.1) = false := by rfl) :
    PE X (.Call (.Attribute o name apos) (e :: es) [] cpos) (TM X W (mBM fm ma as)) := by
  refine (pe_bm PySem.F.plainAttrs_list slot hty hm ho ha hbase hfew hline hs hplain).wk fun σ H Q ⟨w, G, h, g, r, o⟩ => ⟨w, G, h, g, r, o.bindE fun d h1 v w1 H1 l r1 x o1 => ?_⟩
  split at o1
  · rename_i ds0 e0
    exact ⟨tyV_L r1 x e0, w1, G, h1, g.mono l, r1, OutE.bindA (m := as) o1 fun ds h2 vs w2 H2 l2 r2 xs o2 => hf w2 h2 H2 σ Q v d vs ds r2 (Rv_mono l2 x) xs o2⟩
  · exact o1.elim
def fApp (d : D) (xs : List D) (h : AH) : Res D := match d, xs with
  | .loc n, [y] => match h[n]? with
    | some (.lst ds) => if ds.length < big then .ok .non (h.set n (.lst (ds ++ [y]))) else .stuck
    | _ => .stuck
  | _, _ => .stuck
def fExt (d : D) (xs : List D) (h : AH) : Res D := match d, xs with
  | .loc n, [y] => match h[n]? with
    | some (.lst ds) => match vR h y with
      | some es => if ds.length + es.length ≤ big then .ok .non (h.set n (.lst (ds ++ es))) else .stuck
      | none => .stuck
    | _ => .stuck
  | _, _ => .stuck
/-- the object at n has a new content -/
theorem out_set {w : Wd} {σ : L2.St} {H : Hp} {Q : VK} {d : D} {h : AH} {v : V} {n : Nat} {xs : List V} {ds : List D} (hn : n < w.N) (o : OutE X.K X.mg W w σ Q (.ok d (h.set n (.lst ds)))) (r : RepH X.K w H h) (rv : Rv X.K w v d) (ra : Ra X.K w xs ds) : Q v (upd H (w.mu n) (.lst xs)) :=
  o v w _ (Le.refl _) (r.set hn ⟨xs, upd_same, ra⟩) rv
theorem fol_app : FolM X W fApp rAppend := by
  intro w h H σ Q v d vs ds rh rv ra o
  unfold fApp at o
  split at o
  · rename_i n y
    split at o
    · rename_i es e
      split at o
      · rename_i c
        cases rv with
        | loc hn =>
          obtain ⟨u, rfl, ru⟩ := ra_one ra
          obtain ⟨_, xs, e1, rx⟩ := rh.cell n _ e
          exact ⟨w.mu n, xs, u, rfl, rfl, e1, big_lt (by rw [rx.length]; exact c), out_set hn o rh .non (rx.append (.cons ru .nil))⟩
      · exact o.elim
    · exact o.elim
  · exact o.elim
def rExt3 : V → List V → Hp → VK → Prop := fun x vs H Q => ∃ l b xs zs, x = .ref l ∧ vs = [.ref b] ∧ H l = some (.lst xs) ∧ Rd H b (.lst zs) ∧ xs.length + zs.length ≤ sizeLine ∧ Q .non (upd H l (.lst (xs ++ zs)))
theorem e_app (ho : PE X o (TM X W ma)) (ha : PA X [e] (TAr X W as))
    (hbase : attributeBase o "append" X.env (eval o X.env) = eval o X.env := by rfl)
    (hfew : ((backTo cpos (starEach [e] X.env)).all (fun x => !x.1) && (backToKw cpos (keywordEach [] X.env)).all (fun x => x.1.isSome)
      && decide (([e] : List Expr).length + ([] : List Keyword).length + (if ([] : List Keyword).isEmpty then 0 else 1) < 30)) = true := by rfl)
    (hline : (apos.endLine == cpos.line) = true := by rfl) (hs : starEach [e] X.env = (false, eval e X.env) :: starEach [] X.env := by rfl) (hplain : (backTo cpos (starEach [] X.env)).any (·.1) = false := by rfl) :
    PE X (.Call (.Attribute o "append" apos) [e] [] cpos) (TM X W (mBM fApp ma as)) :=
  e_bm PySem.F.slot_list_append PySem.F.type_list_append mt_append fol_app ho ha hbase hfew hline hs hplain
/-! o[i] = v of a list -/
def sSub (o i v : Me) : Ms := fun G h => (v G h).toS G fun x h1 => (o G h1).toS G fun d h2 => (i G h2).toS G fun j h3 => match d, j with
  | .loc n, .int k => match h3[n]? with
    | some (.lst ds) => match ixN ds.length k with
      | some m => .next G (h3.set n (.lst (ds.set m x)))
      | none => .stuck
    | _ => .stuck
  | _, _ => .stuck
theorem s_sub {i : Expr} {mv mo mi : Me} {tpos : Pos} {ev : Expr} (hv : PE X ev (TM X W mv)) (ho : PE X o (TM X W mo)) (hi : PE X i (TM X W mi))
    (hs : swapsWithSole [.Subscript o i tpos] ev pos.line X.env = pure false := by rfl) (hw : swappedStores [.Subscript o i tpos] ev X.env = pure none := by rfl)
    (h1 : (assignEach [.Subscript o i tpos] X.env).map (·.2) = [assign (.Subscript o i tpos) X.env] := by rfl)
    (ha : ∀ v, assign (.Subscript o i tpos) X.env v = (do
      let ov ← holding [v] (eval o X.env)
      let iv ← holding [v, ov] (eval i X.env)
      standAt tpos
      holding [v, ov, iv] (setItem ov iv v)
      release [v, ov, iv] []) := by intro _; rfl) : PS X (.Assign [.Subscript o i tpos] ev pos) (TSS X W (sSub mo mi mv)) := by
  refine (ps_asg hv (pg_sub ho hi set_list ha) hs hw h1).wk fun D σ H ⟨w, G, h, g, r, o⟩ => ⟨w, G, h, g, r, OutS.bindE (m := mv) g o fun x h1 v w1 H1 l1 r1 rx o1 => ?_⟩
  have g1 := g.mono l1
  refine ⟨w1, G, h1, g1, r1, OutS.bindE (m := mo) g1 o1 fun d h2 v2 w2 H2 l2 r2 rd o2 => ?_⟩
  have g2 := g1.mono l2
  refine ⟨w2, G, h2, g2, r2, OutS.bindE (m := mi) g2 o2 fun j h3 v3 w3 H3 l3 r3 rj o3 => ?_⟩
  split at o3
  · rename_i n k
    split at o3
    · rename_i ds e
      split at o3
      · rename_i m em
        cases rj
        cases rd with
        | loc hn =>
          obtain ⟨_, xs, e1, rxs⟩ := r3.cell n _ e
          have hn3 : n < w3.N := Nat.lt_of_lt_of_le hn l3.n
          have emu : w3.mu n = w2.mu n := l3.mu n hn
          rw [← emu]
          refine ⟨w3.mu n, xs, k, m, rfl, rfl, e1, by rw [rxs.length]; exact em, ?_⟩
          exact o3 σ w3 _ (Le.refl _) (g2.mono l3) (r3.set hn3 ⟨xs.set m v, upd_same, RepAll.set (Rv_mono (l2.trans l3) rx) m rxs⟩)
      · exact o3.elim
    · exact o3.elim
  · exact o3.elim
/-! raise C() of an own class -/
def sRaise (c : Str) : Ms := fun G h => .exc c [] G h
end
end AB
/-! AB: order over data, sorted. -/
namespace AB
open PySem PySem.Spec PyProof.Rows L2

/-! ### sorted of tuples, empty ones among them -/
section
variable {prog : Program} {w : World} {A : Around} {E : Value → Shared → Prop} {s : Shared}
/-- the first item of a tuple, or none -/
theorem first_of {v : Value} {xs : List PyData} {as : List Addr} (r : Reads s.heap v (.tuple xs) as) : ∃ f : Option Value, (f = none ↔ xs = []) ∧ ∀ (M : Model) (E : Value → Shared → Prop) (Q : Option Value → Shared → Prop), Q f s → wpAny M A (firstOfTuple' v) Q E s := by
  cases r with
  | @tuple a o its n _ _ ho hc hd hr =>
    refine ⟨its[0]?, ?_, fun M E Q hq => ?_⟩
    · have hl := SeqAt.ReadsAll.length _ _ _ hr
      rw [Array.getElem?_eq_none_iff]
      constructor
      · intro h
        have : its.size = 0 := by omega
        have e : xs.length = 0 := by rw [← hl]; simpa using this
        exact List.eq_nil_of_length_eq_zero e
      · intro h
        subst h
        have : its.toList.length = 0 := by simpa using hl
        simp at this
        simp [this]
    · rw [PySem.W.kas_first_eq]
      refine wpAny_bind (PySem.W.Looks.here (show PySem.W.Looks M s.heap (typeOf (.ref a)) o.cls from (PySem.W.Looks.ld ho).andThen .now) ?_)
      rw [hc, if_neg (by first | decide | simp)]
      exact wpAny_bind (listItems_at ho hd (wpAny_pure hq))
theorem firsts_of : ∀ {vs : List Value} {ds : List PyData}, PySem.W.EachIs (fun v d => ∃ as, Reads s.heap v d as) vs ds → (∀ d ∈ ds, ∃ xs, d = .tuple xs) →
    ∃ fs : List (Option Value), ((∃ f ∈ fs, f = none) ↔ ∃ d ∈ ds, d = .tuple []) ∧ ∀ (M : Model) (E : Value → Shared → Prop) (Q : List (Option Value) → Shared → Prop), Q fs s → wpAny M A (vs.mapM firstOfTuple') Q E s
  | _, _, .nil, _ => ⟨[], by simp, fun M E Q hq => by rw [List.mapM_nil]; exact wpAny_pure hq⟩
  | _, _, .cons (a := v) (as := vs) (b := d) (bs := ds) ⟨as, r⟩ t, ht => by
    obtain ⟨fs, h1, h2⟩ := firsts_of t fun d hd => ht d (List.mem_cons_of_mem _ hd)
    obtain ⟨xs, rfl⟩ := ht d List.mem_cons_self
    obtain ⟨f, g1, g2⟩ := first_of (A := A) r
    refine ⟨f :: fs, ?_, fun M E Q hq => ?_⟩
    · constructor
      · rintro ⟨x, hx, e⟩
        rcases List.mem_cons.mp hx with rfl | hx
        · exact ⟨_, List.mem_cons_self, by rw [g1.mp e]⟩
        · obtain ⟨d, hd, e⟩ := h1.mp ⟨x, hx, e⟩
          exact ⟨d, List.mem_cons_of_mem _ hd, e⟩
      · rintro ⟨d, hd, e⟩
        rcases List.mem_cons.mp hd with rfl | hd
        · injection e with e
          exact ⟨f, List.mem_cons_self, g1.mpr e⟩
        · obtain ⟨x, hx, e⟩ := h1.mpr ⟨d, hd, e⟩
          exact ⟨x, List.mem_cons_of_mem _ hx, e⟩
    · rw [List.mapM_cons]
      exact wpAny_bind (g2 M E _ (wpAny_bind (h2 M E (fun bs s' => wpAny M A (pure (f :: bs)) Q E s') (wpAny_pure hq))))
theorem kind_empt {vs : List Value} {ds : List PyData} (e : PySem.W.EachIs (fun v d => ∃ as, Reads s.heap v d as) vs ds) (ht : ∀ d ∈ ds, ∃ xs, d = .tuple xs) (hn : ∃ d ∈ ds, d = .tuple []) :
    ∃ kd : SortKind, (kd = general' ∨ kd = oneType') ∧ ∀ (M : Model) (E : Value → Shared → Prop) {Q : SortKind → Shared → Prop}, Q kd s → wpAny M A (keyKind' vs.toArray) Q E s := by
  obtain ⟨fs, h1, h2⟩ := firsts_of (A := A) e ht
  have hall : (fs.toArray.all fun x => x.isSome) = false := by
    obtain ⟨f, hf, rfl⟩ := h1.mpr hn
    rw [List.all_toArray, List.all_eq_false]
    exact ⟨none, hf, by simp⟩
  by_cases h0 : ((fs.toArray[0]?.bind id).isSome) = true
  · refine ⟨general', .inl rfl, fun M E Q hq => ?_⟩
    rw [PyProof.Rows.kat_kind_eq, List.mapM_toArray, map_eq_pure_bind]
    refine wpAny_bind (wpAny_bind (h2 M E _ (wpAny_pure ?_)))
    rw [if_neg (by rw [hall]; decide), if_pos h0]
    exact wpAny_pure hq
  · have hv : vs ≠ [] := by
      intro z
      subst z
      cases e
      obtain ⟨d, hd, _⟩ := hn
      cases hd
    refine ⟨oneType', .inr rfl, fun M E Q hq => ?_⟩
    rw [PyProof.Rows.kat_kind_eq, List.mapM_toArray, map_eq_pure_bind]
    refine wpAny_bind (wpAny_bind (h2 M E _ (wpAny_pure ?_)))
    rw [if_neg (by rw [hall]; decide), if_neg h0]
    rw [oneTypeOnly'_eq, List.mapM_toArray, map_eq_pure_bind]
    refine wpAny_bind (wpAny_bind (wpAny_bind (PySem.W.kas_mapM (r := Value.type "tuple") _ (fun v hv Q' hq => ?_) (wpAny_pure ?_))))
    · obtain ⟨d, hd, as, r⟩ := e.left v hv
      obtain ⟨xs, rfl⟩ := ht d hd
      exact (PySem.W.looks_reads (M := M) r).here hq
    · cases vs with
      | nil => exact absurd rfl hv
      | cons v vs =>
        have hall2 : ((List.map (fun _ => Value.type "tuple") (v :: vs)).toArray.all fun x => x == Value.type "tuple") = true := by
          simp only [List.all_toArray, List.all_map, List.all_eq_true]
          intro _ _
          exact beq_self_eq_true _
        have h00 : (List.map (fun _ => Value.type "tuple") (v :: vs)).toArray[0]? = some (Value.type "tuple") := by simp
        rw [h00]
        simp only [hall2, if_true]
        exact wpAny_pure (wpAny_pure hq)
theorem call_tuple_lt {Q : Value → Shared → Prop} {l b : Addr} {items items2 : Array Value} {e r : Nat → Bool} (hl : s.heap.IsTuple l items) (hb : s.heap.IsTuple b items2)
    (he : ∀ j (h1 : j < items.size) (h2 : j < items2.size), SeqAt.EqAt A.in1 s items[j] items2[j] (e j)) (hr : ∀ j (h1 : j < items.size) (h2 : j < items2.size), e j = false → SeqAt.RcLt A.in1 s items[j] items2[j] (r j))
    (h : Q (.bool (SeqAt.firstLt e r (decide (items.size < items2.size)) (List.range (min items.size items2.size)))) s) : wpAny (model prog w) A (call (.builtin "tuple.__lt__") [.ref l, .ref b]) Q E s := by
  obtain ⟨⟨cls, dd, data, sl⟩, ho, hc, n, hd⟩ := id hl
  obtain ⟨⟨cls2, dd2, data2, sl2⟩, ho2, hc2, n2, hd2⟩ := id hb
  simp only at hc hd hc2 hd2
  subst hc hd hc2 hd2
  exact call_meets PySem.F.slot_tuple_lt ⟨_, ho, rfl⟩ PySem.F.entry_tuple_lt (PySem.F.args_tuple_lt_2 _ _) (SeqAt.tuple_ltAt l b items items2 n n2 dd dd2 sl sl2 e r) ⟨ho, ho2, he, hr, h⟩
theorem oneLt_tup {f : Bool} {xs ys : List PyData} {a b : Value} {as bs : List Addr} {Q : Bool → Shared → Prop} (ra : Reads s.heap a (.tuple xs) as) (rb : Reads s.heap b (.tuple ys) bs) (h : PySem.W.alike (.tuple xs) (.tuple ys) = true)
    (hu : A.units + min (PyData.tuple xs).depth (PyData.tuple ys).depth < cLine) (hq : Q (PySem.W.dataLt (.tuple xs) (.tuple ys)) s) : wpAny (model prog w) A (oneLt' f a b) Q E s := by
  cases f with
  | false => exact PySem.W.oneLt_alike (fun z => nomatch z) ra rb h (fun z => nomatch z) hu hq
  | true =>
    have hal : PySem.W.alikeAll xs ys = true := by simpa [PySem.W.alike] using h
    cases ra with
    | @tuple l o vs n _ as₁ h1 h2 h3 h4 =>
      cases rb with
      | @tuple l' o' vs' n' _ bs₁ k1 k2 k3 k4 =>
        have n1 : vs.size = xs.length := by simpa using SeqAt.ReadsAll.length _ _ _ h4
        have n2 : vs'.size = ys.length := by simpa using SeqAt.ReadsAll.length _ _ _ k4
        rw [PySem.W.dataLt_tuple, ← PySem.W.firstLt_toks xs ys hal, ← n1, ← n2] at hq
        rw [oneLt'_eq]
        simp only [if_true]
        refine wpAny_bind (wpAny_cRoomFor (by have := hu; omega) ?_)
        refine wpAny_bind (wpAny_callSpecialIfBound?_slot (T := "tuple") ⟨_, h1, h2⟩ PySem.F.slot_tuple_lt (call_tuple_lt (e := SeqAt.pairEq xs ys) (r := fun j => PySem.W.dataLt (xs.getD j .none) (ys.getD j .none)) ⟨_, h1, h2, _, h3⟩ ⟨_, k1, k2, _, k3⟩ (fun j j1 j2 => ?_) (fun j j1 j2 hj => ?_) ?_))
        · have := PySem.W.eqAt_alikeAll xs ys A.in1 s vs.toList vs'.toList _ _ h4 k4 hal (SeqAt.room_in hu) j (by simpa using j1) (by simpa using j2)
          simpa using this
        · have := PySem.W.rcLt_alikeAll xs ys A.in1 s vs.toList vs'.toList _ _ h4 k4 hal (SeqAt.room_in hu) j (by simpa using j1) (by simpa using j2) hj
          simpa using this
        · exact wpAny_truthy_bool hq
theorem keyLt'_general (x y : Value) : keyLt' general' x y = oneLt' false x y := rfl
theorem sorts_empt {vs : List Value} {ds : List PyData} (e : PySem.W.EachIs (fun v d => ∃ as, Reads s.heap v d as) vs ds) (hal : PySem.W.AllAlike ds) (ht : ∀ d ∈ ds, ∃ xs, d = .tuple xs) (hn : ∃ d ∈ ds, d = .tuple []) (hu : ∀ d, d ∈ ds → A.units + d.depth < cLine) :
    PySem.W.SortsAt prog w A s (PySem.W.dataKind s.heap ds) vs := by
  have room : ∀ {d d' : PyData}, d ∈ ds → A.units + min d.depth d'.depth < cLine := fun {d d'} hd => Nat.lt_of_le_of_lt (Nat.add_le_add_left (Nat.min_le_left _ _) _) (hu d hd)
  refine ⟨fun v hv => ?_, ?_⟩
  · obtain ⟨d, hd, as, r⟩ := e.left v hv
    exact ⟨_, PySem.W.dataKind_some hal hd r⟩
  · obtain ⟨kd, hk, hkk⟩ := kind_empt (A := A) e ht hn
    refine ⟨kd, ?_, fun _ E Q hq => hkk _ E hq⟩
    intro E x y a b Q ha hb hq
    obtain ⟨d, as, hd, ra, rfl⟩ := PySem.W.dataKind_inv ha
    obtain ⟨d', as', hd', rb, rfl⟩ := PySem.W.dataKind_inv hb
    obtain ⟨xs, rfl⟩ := ht d hd
    obtain ⟨ys, rfl⟩ := ht d' hd'
    have hq : Q (PySem.W.dataLt (.tuple xs) (.tuple ys)) s := hq
    rcases hk with rfl | rfl
    · rw [keyLt'_general]
      exact oneLt_tup ra rb (hal _ hd _ hd') (room hd) hq
    · rw [keyLt'_oneType]
      exact oneLt_tup ra rb (hal _ hd _ hd') (room hd) hq
end
end AB
/-! AB: sorted, order, index, extend, walks of pairs. -/
namespace AB
open PySem PySem.Spec PyProof.Rows L2

/-! ### sorted of a list -/
def alikeB (ps : List PyData) : Bool := ps.all fun a => ps.all fun b => PySem.W.alike a b
def isTupP : PyData → Bool
  | .tuple _ => true
  | _ => false
def isNonP : PyData → Bool
  | .none => true
  | _ => false
def sortB (ps : List PyData) : Bool := alikeB ps && (ps.all isTupP || ps.all fun d => !isTupP d && !isNonP d) && ps.all SeqAt.shaped && decide (ps.length ≤ big)
def leP (a b : PyData) : Bool := !PySem.W.dataLt b a
theorem alikeB_all {ps : List PyData} (h : alikeB ps = true) : PySem.W.AllAlike ps := by
  unfold alikeB at h
  rw [List.all_eq_true] at h
  intro d hd d' hd'
  have := h d hd
  rw [List.all_eq_true] at this
  exact this d' hd'
def rSortD (K : PySem.W.Frag) : List V → Hp → VK → Prop := fun xs H Q => ∃ (a : Addr) (zs : List (V × PyData)), xs = [.ref a] ∧ SqL K H a (zs.map (·.1)) ∧ (∀ z ∈ zs, Dp K H z.1 z.2) ∧ sortB (zs.map (·.2)) = true ∧
  ∀ l, H l = none → Q (.ref l) (upd H l (.lst ((zs.mergeSort fun a b => leP a.2 b.2).map (·.1))))
theorem each_of {R : Value → β → Prop} {f : β → V} (hR : ∀ u z, RelV (f z) u → R u z) : ∀ {zs : List β} {us : List Value}, Vals (zs.map f) us → PySem.W.EachIs R us zs
  | [], _, h => by cases h; exact .nil
  | z :: zs, _, h => by
    cases h with
    | cons r t => exact .cons (hR _ _ r) (each_of hR t)
theorem vals_of {R : Value → β → Prop} {f : β → V} (hR : ∀ u z, R u z → RelV (f z) u) : ∀ {zs : List β} {us : List Value}, PySem.W.EachIs R us zs → Vals (zs.map f) us
  | _, _, .nil => .nil
  | _, _, .cons r t => .cons (hR _ _ r) (vals_of hR t)
section
variable {X : Cx}
theorem dataLe_leP (k : β → PyData) : PySem.W.dataLe false k = fun a b => leP (k a) (k b) := rfl
theorem each_and {R S : Value → β → Prop} : ∀ {us : List Value} {zs : List β}, PySem.W.EachIs R us zs → (∀ z ∈ zs, ∀ u, R u z → S u z) → PySem.W.EachIs S us zs
  | _, _, .nil, _ => .nil
  | _, _, .cons r t, h => .cons (h _ List.mem_cons_self _ r) (each_and t fun z hz u => h z (List.mem_cons_of_mem _ hz) u)
theorem cr_sortedD (hu : X.A.units + 67 < cLine) : CallR X (.builtin "sorted") (rSortD X.K) := by
  intro pins s σ H vs us Q I r h
  obtain ⟨a, zs, rfl, hs, hd, hsb, q⟩ := h
  obtain ⟨its, rv, hl, hz⟩ := I.list hs
  rw [Vals.ref1 r]
  unfold sortB at hsb
  rw [Bool.and_eq_true, Bool.and_eq_true, Bool.and_eq_true] at hsb
  obtain ⟨⟨⟨hal, hk⟩, hsh⟩, hbig⟩ := hsb
  have hal := alikeB_all hal
  rw [List.all_eq_true] at hsh
  have e1 : PySem.W.EachIs (fun u (z : V × PyData) => RelV z.1 u) its zs := each_of (f := fun z : V × PyData => z.1) (fun u z h => h) rv
  have er : PySem.W.EachIs (fun u (z : V × PyData) => ∃ as, Reads s.heap u z.2 as) its zs := each_and e1 fun z hz u r => Dp.reads I z.2 z.1 u (hd z hz) r
  have hdep : ∀ z ∈ zs, z.2.depth ≤ 64 := fun z hz => SeqAt.depth_of_shaped (hsh _ (List.mem_map_of_mem hz))
  have hL : its.length ≤ sizeLine := by
    rw [← rv.length]
    exact hz
  have fin : ∀ out : List Value, out.length = its.length → PySem.W.EachIs (fun u (z : V × PyData) => RelV z.1 u) out (zs.mergeSort (PySem.W.dataLe false fun z : V × PyData => z.2)) →
      EP X pins σ Q (.ref (s.heap.objs.size + 1)) { s with heap := sortedAll s.heap its (List.toArray out) } := by
    intro out ho eo
    obtain ⟨ep, he'⟩ := PyProof.Rows.sortedAll_at s.heap its out.toArray
    have vo := vals_of (f := fun z : V × PyData => z.1) (fun u z h => h) eo
    rw [dataLe_leP] at vo
    have hlen : ((zs.mergeSort fun a b => leP a.2 b.2).map (·.1)).length ≤ sizeLine := by
      rw [vo.length, ho]
      exact hL
    exact ⟨.ref _, upd H (s.heap.objs.size + 1) (.lst ((zs.mergeSort fun a b => leP a.2 b.2).map (·.1))), I.laid (t' := s.toks) (fun _ _ => PyProof.Rows.sortedAll_old) (Nat.le_succ _) ⟨hlen, out, ep, vo, he'⟩, rfl, q _ (I.hok.fresh (Nat.le_succ _))⟩
  have er' : PySem.W.EachIs (fun v (b : V × PyData) => ∃ as, Reads (PySem.W.sortingHeap (PySem.W.copyHeap s.heap its) (s.heap.objs.size + 1) its) v b.2 as) its zs := er.mono fun _ _ ⟨as, r⟩ => ⟨as, PyProof.Rows.Reads.keeps (fun _ _ => PySem.W.sorting_copy_old) r⟩
  have em := PySem.W.each_map (R := fun v d => ∃ as, Reads (PySem.W.sortingHeap (PySem.W.copyHeap s.heap its) (s.heap.objs.size + 1) its) v d as) (fun z : V × PyData => z.2) er'
  have room : ∀ d ∈ zs.map (·.2), X.A.in1.in1.units + d.depth < cLine := by
    intro d hd'
    obtain ⟨z, hz, rfl⟩ := List.mem_map.mp hd'
    have := hdep z hz
    show X.A.units + 1 + 1 + z.2.depth < cLine
    omega
  have S : PySem.W.SortsAt X.prog X.w X.A.in1.in1 { s with heap := PySem.W.sortingHeap (PySem.W.copyHeap s.heap its) (s.heap.objs.size + 1) its } (PySem.W.dataKind (PySem.W.sortingHeap (PySem.W.copyHeap s.heap its) (s.heap.objs.size + 1) its) (zs.map (·.2))) its := by
    rw [Bool.or_eq_true] at hk
    rcases hk with hk | hk
    · rw [List.all_eq_true] at hk
      have ht : ∀ d ∈ zs.map (·.2), ∃ xs, d = .tuple xs := fun d hd => by
        have := hk d hd
        cases d with
        | tuple xs => exact ⟨xs, rfl⟩
        | _ => cases this
      by_cases hn : ∃ d ∈ zs.map (·.2), d = .tuple []
      · exact sorts_empt (s := { s with heap := PySem.W.sortingHeap (PySem.W.copyHeap s.heap its) (s.heap.objs.size + 1) its }) em hal ht hn room
      · refine PySem.W.SortsAt.data (s := { s with heap := PySem.W.sortingHeap (PySem.W.copyHeap s.heap its) (s.heap.objs.size + 1) its }) em hal (.inl fun d hd => ?_) room
        obtain ⟨xs, rfl⟩ := ht d hd
        cases xs with
        | nil => exact absurd ⟨_, hd, rfl⟩ hn
        | cons x r => exact ⟨x, r, rfl⟩
    · rw [List.all_eq_true] at hk
      refine PySem.W.SortsAt.data (s := { s with heap := PySem.W.sortingHeap (PySem.W.copyHeap s.heap its) (s.heap.objs.size + 1) its }) em hal (.inr fun d hd => ?_) room
      have := hk d hd
      constructor
      · rintro rfl
        exact absurd this (by decide)
      · rintro xs rfl
        exact absurd this (by simp [isTupP])
  exact PySem.W.sorted_vals hl.isList S hL (fin _ (by rw [PySem.W.sortVals_length false rfl]) (PySem.W.sortVals_data false e1 er' hal))
end
/-- the items of a list, sorted -/
def sortD (ds : List D) (ps : List PyData) : List D := ((ds.zip ps).mergeSort fun a b => leP a.2 b.2).map (·.1)
def fSorted (xs : List D) (h : AH) : Res (List D) := match xs with
  | [d] => match vL h d with
    | some ds => match toPs ds with
      | some ps => if sortB ps = true then .ok (sortD ds ps) h else .stuck
      | none => .stuck
    | none => .stuck
  | _ => .stuck
theorem toPs_len : ∀ {ds : List D} {ps : List PyData}, toPs ds = some ps → ps.length = ds.length
  | [], ps, e => by cases e; rfl
  | d :: ds, ps, e => by
    unfold toPs at e
    split at e
    · rename_i p qs e1 e2
      cases e
      rw [List.length_cons, List.length_cons, toPs_len e2]
    · cases e
theorem ra_mem {K : PySem.W.Frag} {w : Wd} {T : List (V × D × PyData)} (h : ∀ t ∈ T, Rv K w t.1 t.2.1) : Ra K w (T.map (·.1)) (T.map (·.2.1)) := by
  induction T with
  | nil => exact .nil
  | cons t T ih => exact .cons (h t List.mem_cons_self) (ih fun x hx => h x (List.mem_cons_of_mem _ hx))
theorem trip {K : PySem.W.Frag} {w : Wd} {H : Hp} (ex : Ext w.S H) : ∀ {vs : List V} {ds : List D} {ps : List PyData}, Ra K w vs ds → toPs ds = some ps → ∃ T : List (V × D × PyData), vs = T.map (·.1) ∧ ds = T.map (·.2.1) ∧ ps = T.map (·.2.2) ∧ ∀ t ∈ T, Rv K w t.1 t.2.1 ∧ Dp K H t.1 t.2.2
  | _, _, ps, .nil, e => by
    cases e
    exact ⟨[], rfl, rfl, rfl, fun t h => nomatch h⟩
  | _, _, ps, .cons (v := v) (vs := vs) (d := d) (ds := ds) a b, e => by
    unfold toPs at e
    split at e
    · rename_i p qs e1 e2
      cases e
      obtain ⟨T, rfl, rfl, rfl, hT⟩ := trip ex b e2
      refine ⟨(v, d, p) :: T, rfl, rfl, rfl, fun t ht => ?_⟩
      rcases List.mem_cons.mp ht with rfl | ht
      · exact ⟨a, toP_rep ex d v p a e1⟩
      · exact hT t ht
    · cases e
section
variable {X : Cx} {W : WX} {pos p : Pos} {e : Expr} {es : List Expr} {as : MeL} {ma mb : Me}
theorem fol_sorted : FolF X W fSorted (rSortD X.K) := by
  intro w h H σ Q vs ds rh ra o
  unfold fSorted at o
  split at o
  · rename_i d
    obtain ⟨v, rfl, rv⟩ := ra_one ra
    split at o
    · rename_i es ev
      split at o
      · rename_i ps ep
        split at o
        · rename_i c
          obtain ⟨a, xs, rfl, sq, ra2⟩ := vL_rep rh rv ev
          obtain ⟨T, rfl, rfl, rfl, hT⟩ := trip rh.ex ra2 ep
          refine ⟨a, T.map fun t => (t.1, t.2.2), rfl, by rw [List.map_map]; exact sq, fun z hz => ?_, by rw [List.map_map]; exact c, fun l hl => ?_⟩
          · obtain ⟨t, ht, rfl⟩ := List.mem_map.mp hz
            exact (hT t ht).2
          · refine out_new o rh hl ?_
            have e1 : ((T.map fun t => (t.1, t.2.2)).mergeSort fun a b => leP a.2 b.2).map (·.1) = (T.mergeSort fun a b => leP a.2.2 b.2.2).map (·.1) := by
              rw [← List.map_mergeSort (r := fun a b => leP a.2.2 b.2.2) (f := fun t : V × D × PyData => (t.1, t.2.2)) (fun _ _ _ _ => rfl), List.map_map]
              rfl
            have e2 : sortD (T.map (·.2.1)) (T.map (·.2.2)) = (T.mergeSort fun a b => leP a.2.2 b.2.2).map (·.2.1) := by
              unfold sortD
              have ez : (T.map (·.2.1)).zip (T.map (·.2.2)) = T.map fun t => (t.2.1, t.2.2) := by
                rw [List.zip_map']
              rw [ez, ← List.map_mergeSort (r := fun a b => leP a.2.2 b.2.2) (f := fun t : V × D × PyData => (t.2.1, t.2.2)) (fun _ _ _ _ => rfl), List.map_map]
              rfl
            rw [e1, e2]
            refine ra_mem fun t ht => (hT t ?_).1
            exact (List.mergeSort_perm T _).mem_iff.mp ht
        · exact o.elim
      · exact o.elim
    · exact o.elim
  · exact o.elim
theorem f_sorted (hu : X.A.units + 67 < cLine) (hm : X.mg "sorted" = none) (ha : PA X [e] (TAr X W as)) (hg : Gl X "sorted" := by rfl) (he : starEach [e] X.env = (false, eval e X.env) :: starEach [] X.env := by rfl) : PE X (.Call (.Name "sorted" p) [e] [] pos) (TF X W (lN fSorted as)) :=
  f_blt (cr_sortedD hu) fol_sorted hm ha hg (by decide +kernel) (by decide) (by decide) he rfl
/-! ### < of data -/
def lrD (h : AH) (x y : D) : Option (PyData × PyData) := match okP h x, okP h y with
  | some p, some q => if PySem.W.alike p q = true ∧ isNonP p = false then some (p, q) else none
  | _, _ => none
def fLtD (x y : D) (h : AH) : Res D := match lrD h x y with
  | some (p, q) => .ok (.bl (PySem.W.dataLt p q)) h
  | none => .stuck
def fGtD (x y : D) (h : AH) : Res D := match lrD h x y with
  | some (p, q) => .ok (.bl (PySem.W.dataLt q p)) h
  | none => .stuck
def fLeD (x y : D) (h : AH) : Res D := match lrD h x y with
  | some (p, q) => .ok (.bl (!PySem.W.dataLt q p)) h
  | none => .stuck
def fGeD (x y : D) (h : AH) : Res D := match lrD h x y with
  | some (p, q) => .ok (.bl (!PySem.W.dataLt p q)) h
  | none => .stuck
def rLtD (K : PySem.W.Frag) (f : PyData → PyData → Bool) : R2 := fun x y H Q => ∃ d e, Dp K H x d ∧ Dp K H y e ∧ PySem.W.alike d e = true ∧ d ≠ .none ∧ d.depth ≤ 64 ∧ Q (.bl (f d e)) H
theorem room_min {A : Around} {d e : PyData} (h : d.depth ≤ 64) (hu : A.units + 65 < cLine) : A.units + min d.depth e.depth < cLine := by
  have := Nat.min_le_left d.depth e.depth
  omega
theorem op_ltD (hu : X.A.units + 65 < cLine) : OpR X (compareOp .Lt) (rLtD X.K fun d e => PySem.W.dataLt d e) := by
  intro pins s σ H x y v u Q I rx ry h
  obtain ⟨d, e, hd, he, ha, hn, hdep, q⟩ := h
  obtain ⟨as, r1⟩ := Dp.reads I d x v hd rx
  obtain ⟨bs, r2⟩ := Dp.reads I e y u he ry
  exact PySem.W.lt_data r1 r2 ha hn (room_min hdep hu) ⟨.bl _, H, I, rfl, q⟩
theorem op_gtD (hu : X.A.units + 65 < cLine) : OpR X (compareOp .Gt) (rLtD X.K fun d e => PySem.W.dataLt e d) := by
  intro pins s σ H x y v u Q I rx ry h
  obtain ⟨d, e, hd, he, ha, hn, hdep, q⟩ := h
  obtain ⟨as, r1⟩ := Dp.reads I d x v hd rx
  obtain ⟨bs, r2⟩ := Dp.reads I e y u he ry
  exact PySem.W.gt_data r1 r2 ha hn (room_min hdep hu) ⟨.bl _, H, I, rfl, q⟩
theorem op_leD (hu : X.A.units + 65 < cLine) : OpR X (compareOp .LtE) (rLtD X.K fun d e => !PySem.W.dataLt e d) := by
  intro pins s σ H x y v u Q I rx ry h
  obtain ⟨d, e, hd, he, ha, hn, hdep, q⟩ := h
  obtain ⟨as, r1⟩ := Dp.reads I d x v hd rx
  obtain ⟨bs, r2⟩ := Dp.reads I e y u he ry
  exact PySem.W.le_data r1 r2 ha hn (room_min hdep hu) ⟨.bl _, H, I, rfl, q⟩
theorem op_geD (hu : X.A.units + 65 < cLine) : OpR X (compareOp .GtE) (rLtD X.K fun d e => !PySem.W.dataLt d e) := by
  intro pins s σ H x y v u Q I rx ry h
  obtain ⟨d, e, hd, he, ha, hn, hdep, q⟩ := h
  obtain ⟨as, r1⟩ := Dp.reads I d x v hd rx
  obtain ⟨bs, r2⟩ := Dp.reads I e y u he ry
  exact PySem.W.ge_data r1 r2 ha hn (room_min hdep hu) ⟨.bl _, H, I, rfl, q⟩
theorem fol_ltD {f : PyData → PyData → Bool} {g : D → D → AH → Res D} (hg : ∀ x y h, g x y h = match lrD h x y with
  | some (p, q) => .ok (.bl (f p q)) h
  | none => .stuck) : Fol2 X W g (rLtD X.K f) := by
  intro w h H σ Q v1 v2 d1 d2 rh r1 r2 o
  rw [hg] at o
  split at o
  · rename_i p q e
    unfold lrD at e
    split at e
    · rename_i p' q' e1 e2
      split at e
      · rename_i c
        cases e
        obtain ⟨a1, a2⟩ := okP_some e1
        obtain ⟨b1, b2⟩ := okP_some e2
        exact ⟨_, _, toPh_rep rh r1 a1, toPh_rep rh r2 b1, c.1, fun z => by rw [z] at c; exact absurd c.2 (by decide), SeqAt.depth_of_shaped a2, out_ok o rh (.bl _)⟩
      · cases e
    · cases e
  · exact o.elim
end
end AB
/-! AB: enumerate of lists and tuples. -/
namespace AB
open PySem PySem.Spec PyProof.Rows L2
open Sem (wp)

set_option maxHeartbeats 4000000 in
theorem meets_enumerate_new1 {v : Value} {o : Obj} {H : Heap → Prop} (B : Begins v o H) :
    Meets (Builtin.«enumerate.__new__» ⟨[.type "enumerate", v], []⟩) (fun _ R s => H s.heap ∧
      R (.ok (.ret (.ref (s.heap.push o).objs.size))) { s with heap := (s.heap.push o).push { cls := .type "enumerate", data := .fields #[.none, .bool false, .ref s.heap.objs.size, rawInt 0, .none, .none] } }) :=
  .of_wp fun prog w A R s h => by
    obtain ⟨hp, g, d, tk, os⟩ := s; obtain ⟨h1, h⟩ := h
    have hsub := sub_enumerate
    have q1 : ∀ {A' : Around} {E : Value → Shared → Prop} {Q : Value → Shared → Prop}, Q (.ref hp.objs.size) ⟨hp.push o, g, d, tk, os⟩ → wpAny (model prog w) A' (pyIter v) Q E ⟨hp, g, d, tk, os⟩ :=
      fun q => B.iter prog w _ _ ⟨hp, g, d, tk, os⟩ _ h1 q
    wp_walk using q1
    refine wpAny_stack_any fun st => wpAny_pure ?_
    split
    · rename_i c _ _ _ _ _
      cases (c == Value.type "enumerate")
      · wp_walk using q1
        exact ⟨_, rfl, h⟩
      · wp_walk using q1
        exact ⟨_, rfl, h⟩
    · wp_walk using q1
      exact ⟨_, rfl, h⟩
section
variable {prog : Program} {w : World} {A : Around} {E : Value → Shared → Prop} {s : Shared}
theorem enum_begins1 {v : Value} {o : Obj} {H : Heap → Prop} {Q : Value → Shared → Prop} (B : Begins v o H) (h1 : H s.heap)
    (h : ∀ h', IsEnum h' (s.heap.objs.size + 1) s.heap.objs.size 0 .none → h'.get? s.heap.objs.size = some o → h'.objs.size = s.heap.objs.size + 2 →
      (∀ b o, s.heap.get? b = some o → h'.get? b = some o) → Q (.ref (s.heap.objs.size + 1)) { s with heap := h' }) :
    wpAny (model prog w) A (call (.type "enumerate") [v]) Q E s := by
  refine callType_new F.called_enumerate (by decide) (F.typeCall_enumerate_1 _) (F.newCall_enumerate_1 _) (fun obj => F.args_object_init_2 obj _) F.entry_enumerate_new
    (meets_enumerate_new1 B) ⟨h1, ?_⟩
  have hz : (s.heap.push o).objs.size = s.heap.objs.size + 1 := Heap.size_push ..
  show _ ∧ _
  rw [hz]
  have he : IsEnum ((s.heap.push o).push { cls := .type "enumerate", data := .fields #[.none, .bool false, .ref s.heap.objs.size, rawInt 0, .none, .none] }) (s.heap.objs.size + 1) s.heap.objs.size 0 .none := by
    have := Heap.get?_push_size (s.heap.push o) (o := { cls := .type "enumerate", data := .fields #[.none, .bool false, .ref s.heap.objs.size, rawInt 0, .none, .none] }) rfl
    rw [hz] at this; exact this
  refine ⟨⟨_, he, rfl⟩, h _ he (Heap.get?_push_of_some _ (Heap.get?_push_size _ B.free)) (by rw [Heap.size_push, hz]) fun b o x => Heap.get?_push_of_some _ (Heap.get?_push_of_some _ x)⟩
end

/-- the tuple at a as it stands at each turn, each item in a new pair -/
def IteT (K : PySem.W.Frag) (a : Addr) : It :=
  ⟨fun i H => ∃ (xs : List V) (x : V), SqT K H a xs ∧ xs[i]? = some x, fun i H v H' => ∃ T x, v = .ref T ∧ H T = none ∧ H' = upd H T (.tup [.int (i : Nat), x]) ∧ ∀ xs, SqT K H a xs → xs[i]? = some x, fun i H => ∃ xs : List V, SqT K H a xs ∧ xs.length ≤ i⟩
theorem turn_enumT {P : Program} {w : World} {K : PySem.W.Frag} {elts : List Expr} {kk : Nat} {tpos : Pos} (a e it : Addr) :
    Turn P w K (.Tuple elts kk tpos) (IteT K a) [e, it] e (fun i h => (∃ old, IsEnum h e it ((i : Nat) : Int) old) ∧ h.IsTupleIter it a i ∧ e ≠ it ∧ a ≠ it ∧ a ≠ e) where
  mem := by simp
  obj := fun i h st b hb => by
    obtain ⟨⟨old, he⟩, ⟨o, ho, hc, hd⟩, _⟩ := st
    have e' : b = e ∨ b = it := by simpa using hb
    rcases e' with z | z
    · rw [z]; exact ⟨_, he, fun v q => nomatch q⟩
    · rw [z]; exact ⟨o, ho, fun v q => by rw [hd] at q; cases q⟩
  keep := fun i h h' st k => let ⟨⟨old, he⟩, hi, hne⟩ := st; ⟨⟨old, k e (by simp) _ he⟩, hi.at fun o q => k it (by simp) o q, hne⟩
  item := by
    intro X hP hw hK hc i pins s σ H E I hf st hg
    subst hP hw hK
    obtain ⟨⟨old, he⟩, hit, hne, hai, hae⟩ := st
    obtain ⟨xs, x, hq, hx⟩ := hg
    obtain ⟨its, rv, p, hz⟩ := I.tuple hq
    obtain ⟨u, hu, ru⟩ := rv.get hx
    have hel : e < s.heap.objs.size := Heap.lt_size he
    have hil : it < s.heap.objs.size := by obtain ⟨_, q, _⟩ := hit; exact Heap.lt_size q
    have hlt : i < its.toArray.size := by
      rw [List.size_toArray]
      exact (List.getElem?_eq_some_iff.mp hu).1
    refine wpAny_pyNext_enum_itemD (Draws.tuple (A := X.A.in1) (I.ok.hd hc) it a hai its.toArray) he ⟨hit, p⟩ hlt hne (by simp [hne, Ne.symm hae]) fun y h' tk hy ho hst hT hsz hk => ?_
    have ey : y = u := by
      have hy : its.toArray[i]? = some y := hy
      have hu' : its.toArray[i]? = some u := by simpa using hu
      rw [hu'] at hy
      exact (Option.some.inj hy).symm
    subst ey
    refine ⟨_, rfl, wpAny_letOwnedTupleGo_enum (s := { s with heap := h', toks := tk + 1 }) ho fun h'' he' sb => ?_⟩
    have hT2 : h''.get? s.heap.objs.size = some { cls := .type "tuple", data := .seq #[.int i tk, y] } := (sb.2 _ (Nat.ne_of_gt hel)).trans hT
    have new : ObjOk X.prog X.w (upd H s.heap.objs.size (.tup [.int (i : Nat), x])) h'' s.heap.objs.size (.tup [.int (i : Nat), x]) :=
      ⟨by show 2 ≤ sizeLine; decide, [.int i tk, y], .cons ⟨_, rfl⟩ (.cons ru .nil), ⟨_, hT2, rfl, _, rfl⟩⟩
    have I1 : Inv X pins σ (upd H s.heap.objs.size (.tup [.int (i : Nat), x])) { s with heap := h'', toks := tk + 1 } :=
      I.turnedNew (ch := [e, it]) (fun b ob hb q => (sb.2 b (fun z => hb (by simp [z]))).trans (hk b ob (fun z => hb (by simp [z])) (fun z => hb (by simp [z])) q)) hf (Nat.le_refl _) new
    refine ⟨.ref s.heap.objs.size, _, I1, rfl, ⟨_, x, rfl, I.hok.fresh (Nat.le_refl _), rfl, fun ys hy => by rw [I.tuple_inj hy hq]; exact hx⟩, ⟨⟨y, ?_⟩, hst.1.at fun o q => (sb.2 it (Ne.symm hne)).trans q, hne, hai, hae⟩, fun b hb => ?_⟩
    · have e1 : ((i + 1 : Nat) : Int) = (i : Int) + 1 := by omega
      rw [e1]; exact he'
    · have hb' : b < s.heap.objs.size := by
        have e' : b = e ∨ b = it := by simpa using hb
        rcases e' with z | z
        · rw [z]; exact hel
        · rw [z]; exact hil
      rw [upd_ne (Nat.ne_of_lt hb')]
      exact (hf b hb).1
  done := by
    intro X hP hw hK hc i pins s σ H E I hf st hg
    subst hP hw hK
    obtain ⟨⟨old, he⟩, hit, hne, hai, hae⟩ := st
    obtain ⟨xs, hq, hx⟩ := hg
    obtain ⟨its, rv, p, hz⟩ := I.tuple hq
    obtain ⟨f0, f1, f2, f3, f4, f5⟩ := hf it (by simp)
    have hl := rv.length
    have hsize : its.toArray.size ≤ i := by rw [List.size_toArray]; omega
    obtain ⟨T, hT⟩ : ∃ T : Array Value, T.size = i ∧ True := ⟨Array.replicate i .none, by simp, trivial⟩
    unfold pyNext
    have hTy : s.TypeIs (.ref e) "enumerate" := ⟨_, he, rfl⟩
    refine wpAny_bind (wpAny_attempt (wpAny_callSpecial?_slot (name := Str.ofString "__next__") hTy F.slot_enumerate_next
      (wpAny_call_entry F.slot_enumerate_next hTy F.entry_enumerate_next ?_ (F.args_enumerate_next_1 _))))
    show wpAny _ _ (field (.ref e) 2 >>= _) _ _ _
    refine wpAny_bind (wpAny_field he rfl (x := .ref it) rfl ?_)
    refine wpAny_bind (wpAny_nextOf_tuple_end (A := X.A.in1) (I.ok.hd hc) hit p (by simpa using hsize) fun h' x he' hx' => ?_)
    obtain ⟨o, ho, hc'⟩ := hx'
    refine wpAny_bind (wpAny_isInstance (T := "StopIteration") (b := true) ⟨o, ho, hc'⟩ isSubtype_stop ?_)
    exact wpAny_pure ⟨rfl, I.turned (t' := s.toks) (fun b o hb q => he' b o hb q) f0 f1 f3 f4 f5⟩
  self := fun A i s Q E st h => let ⟨⟨_, he⟩, _⟩ := st; wpAny_pyIter_enum he h
def iEnumA (K : PySem.W.Frag) (ta : TA) : TI := fun σ H R => ta σ H fun vs H1 => ∃ a xs, vs = [.ref a] ∧ ((SqL K H1 a xs ∧ R (Ite K a) H1) ∨ (SqT K H1 a xs ∧ R (IteT K a) H1))
theorem pi_enumA {X : Cx} {e : Expr} {ta : TA} {p pos tpos : Pos} {elts : List Expr} {kk : Nat} (hg : Gl X "enumerate") (hm : X.mg "enumerate" = none) (ha : PA X [e] ta) (hs : starEach [e] X.env = [(false, eval e X.env)] := by rfl) :
    PI X (.Tuple elts kk tpos) (.Call (.Name "enumerate" p) [e] [] pos) (iEnumA X.K ta) := by
  refine ⟨fun pins s σ H R I h => ?_⟩
  refine Call_ (ld_blt I hg hm boot_enumerate (PyProof.Rows.callWith_type1 (thn (ha.run pos pins s σ H _ I h) fun us s1 ⟨vs, H1, I1, r1, q1⟩ => ?_) hs rfl))
  obtain ⟨a, xs, ex, q1⟩ := q1
  subst ex
  cases r1 with
  | cons r rr =>
    cases rr
    cases r
    have fresh2 : ∀ b, b ∈ [s1.heap.objs.size + 1, s1.heap.objs.size] → FpOk X pins H1 b := fun b hb => by
      have e' : b = s1.heap.objs.size + 1 ∨ b = s1.heap.objs.size := by simpa using hb
      have hle : s1.heap.objs.size ≤ b := by
        rcases e' with z | z
        · rw [z]; exact Nat.le_add_right _ _
        · rw [z]; exact Nat.le_refl _
      exact I1.fpOk hle (I1.hok.fresh hle)
    rcases q1 with ⟨hq, q⟩ | ⟨hq, q⟩
    · obtain ⟨its, rv, p', hz⟩ := I1.list hq
      refine call_enumerate_list p'.isList fun h' he hit hsz hk => wpAny_pyIter_enum he ?_
      have I2 : Inv X pins σ H1 { s1 with heap := h' } := I1.kept (t' := s1.toks) hk
      exact ⟨s1.heap.objs.size + 1, [s1.heap.objs.size + 1, s1.heap.objs.size], _, _, H1, rfl, I2, turn_enum a (s1.heap.objs.size + 1) s1.heap.objs.size, ⟨⟨.none, he⟩, hit, Nat.succ_ne_self _⟩, fresh2, q⟩
    · obtain ⟨its, rv, p', hz⟩ := I1.tuple hq
      have hal : a < s1.heap.objs.size := by
        obtain ⟨o, ho, _⟩ := p'
        exact Heap.lt_size ho
      refine enum_begins1 (begins_tuple a its.toArray) p' fun h' he hit hsz hk => wpAny_pyIter_enum he ?_
      have I2 : Inv X pins σ H1 { s1 with heap := h' } := I1.kept (t' := s1.toks) hk
      exact ⟨s1.heap.objs.size + 1, [s1.heap.objs.size + 1, s1.heap.objs.size], _, _, H1, rfl, I2, turn_enumT a (s1.heap.objs.size + 1) s1.heap.objs.size, ⟨⟨.none, he⟩, ⟨_, hit, rfl, rfl⟩, Nat.succ_ne_self _, Nat.ne_of_lt hal, Nat.ne_of_lt (Nat.lt_succ_of_lt hal)⟩, fresh2, q⟩
end AB
/-! AB: walks of pairs, ranges down, extend. -/
namespace AB
open PySem PySem.Spec PyProof.Rows L2

section
variable {X : Cx} {W : WX} {tg e e2 a b c : Expr} {as : MeL} {p pos tpos : Pos} {elts : List Expr} {kk : Nat} {K : PySem.W.Frag}
def pairsD (as bs : List D) : List D := (as.zip bs).map fun p => D.tup [p.1, p.2]
def enumD (ds : List D) : List D := pairsD (rangeD 0 ds.length) ds
/-- lists that are not changed -/
def vI : D → Option (List D)
  | .lst ds => some ds
  | .rol ds => some ds
  | _ => none
theorem vI_rep {w : Wd} {v : V} {d : D} {ds : List D} (rv : Rv K w v d) (e : vI d = some ds) : ∃ a xs, v = .ref a ∧ SqL K w.S a xs ∧ Ra K w xs ds := by
  cases rv with
  | lst a b => cases e; exact ⟨_, _, rfl, .inl a, b⟩
  | rol a b => cases e; exact ⟨_, _, rfl, a, b⟩
  | _ => cases e
def iZip (as : MeL) : Im := fun G h => (as G h).bind fun xs h1 => match xs with
  | [.tup ds, .tup es] => .ok (pairsD ds es, none) h1
  | [d, e] => match vI d, vI e with
    | some ds, some es => .ok (pairsD ds es, none) h1
    | _, _ => .stuck
  | _ => .stuck
theorem walk_zipT {a b : Addr} {xs ys : List V} : Walk (RZ.ItzT K a b) (min xs.length ys.length) (fun H => SqT K H a xs ∧ SqT K H b ys) (YPair (fun i => xs[i]?) (fun i => ys[i]?)) := by
  refine ⟨fun i _ hi q => ?_, fun _ q => ⟨xs, ys, q.1, q.2, by omega⟩, fun i H v H' _ q y => ?_⟩
  · have h1 : i < xs.length := by omega
    have h2 : i < ys.length := by omega
    exact ⟨xs, ys, xs[i], ys[i], q.1, q.2, by simp [h1], by simp [h2]⟩
  · obtain ⟨T, x, z, h1, h2, h3, h4, h5⟩ := y
    exact ⟨T, x, z, h1, h2, h3, h4 xs q.1, h5 ys q.2⟩
theorem i_zip (hm : X.mg "zip" = none) (ha : PA X [e, e2] (TAr X W as)) (hg : Gl X "zip" := by rfl)
    (hs : starEach [e, e2] X.env = (false, eval e X.env) :: starEach [e2] X.env := by rfl) (hpl : (backTo pos (starEach [e2] X.env)).any (·.1) = false := by rfl) :
    PI X (.Tuple elts kk tpos) (.Call (.Name "zip" p) [e, e2] [] pos) (tI X W (iZip as)) := by
  refine (RZ.pi_zipA hg hm ha hs hpl).wk fun σ H R ⟨w, G, h, g, r, o⟩ => ⟨w, G, h, g, r, OutI.bindA (as := as) o fun d h2 v w1 H1 em l r1 x o1 => ?_⟩
  split at o1
  · rename_i ds es
    obtain ⟨v, v2, rfl, rv, rv2⟩ := ra_two x
    cases rv with
    | @tup p1 xs _ a1 b1 =>
      cases rv2 with
      | @tup p2 ys _ a2 b2 =>
        exact ⟨p1, p2, xs, ys, rfl, .inr ⟨r1.ex.t a1, r1.ex.t a2, o1 _ w1 H1 (Le.refl _) r1 (Walks.zip b1 b2 fun w' H' h' l r => ⟨_, ⟨r.ex.t (l.ex.t a1), r.ex.t (l.ex.t a2)⟩, walk_zipT⟩)⟩⟩
  · split at o1
    · rename_i ds es e1 e2
      obtain ⟨v, v2, rfl, rv, rv2⟩ := ra_two x
      obtain ⟨p1, xs, rfl, a1, b1⟩ := vI_rep rv e1
      obtain ⟨p2, ys, rfl, a2, b2⟩ := vI_rep rv2 e2
      exact ⟨p1, p2, xs, ys, rfl, .inl ⟨r1.ex.l a1, r1.ex.l a2, o1 _ w1 H1 (Le.refl _) r1 (Walks.zip b1 b2 fun w' H' h' l r => ⟨_, ⟨r.ex.l (l.ex.l a1), r.ex.l (l.ex.l a2)⟩, walk_zip rfl⟩)⟩⟩
    · exact o1.elim
  · exact o1.elim
/-! enumerate -/
def iEnum (as : MeL) : Im := fun G h => (as G h).bind fun xs h1 => match xs with
  | [.tup ds] => .ok (enumD ds, none) h1
  | [d] => match vI d with
    | some ds => .ok (enumD ds, none) h1
    | none => .stuck
  | _ => .stuck
theorem walk_enumT {a : Addr} {xs : List V} : Walk (IteT K a) xs.length (fun H => SqT K H a xs) (YPair (fun i => some (.int (i : Nat))) (fun i => xs[i]?)) := by
  refine ⟨fun i _ hi q => ⟨xs, xs[i], q, by simp [hi]⟩, fun _ q => ⟨xs, q, Nat.le_refl _⟩, fun i H v H' _ q y => ?_⟩
  obtain ⟨T, x, h1, h2, h3, h4⟩ := y
  exact ⟨T, .int (i : Nat), x, h1, h2, h3, rfl, h4 xs q⟩
/-- the numbers of a range as values -/
def rangeV (n : Nat) : List V := (List.range n).map fun i : Nat => V.int (i : Int)
theorem rangeV_rep {w : Wd} : ∀ (ns : List Nat), Ra K w (ns.map fun i : Nat => V.int (i : Int)) (ns.map fun i : Nat => D.int (0 + (i : Int)))
  | [] => .nil
  | n :: ns => .cons (by show RepV K w.S w.mu w.N (V.int (n : Int)) (D.int (0 + (n : Int))); rw [Int.zero_add]; exact .int _) (rangeV_rep ns)
theorem rangeV_get {n i : Nat} (h : i < n) : (rangeV n)[i]? = some (V.int (i : Int)) := by
  unfold rangeV
  rw [List.getElem?_map, List.getElem?_range h]
  rfl
theorem Walks.enum {w : Wd} {J : It} {ds : List D} {xs : List V} (h1 : Ra K w xs ds)
    (hw : ∀ w' H' h', LeX w w' → RepH K w' H' h' → ∃ G : Hp → Prop, G H' ∧ Walk J xs.length G (YPair (fun i => some (.int (i : Nat))) (fun i => xs[i]?))) : Walks K J w (enumD ds) none := by
  have l1 := h1.length
  have hl : (rangeV ds.length).length = xs.length := by unfold rangeV; simp [l1]
  refine Walks.zip (rangeV_rep (List.range ds.length)) h1 fun w' H' h' l r => ?_
  obtain ⟨G, g, wk⟩ := hw w' H' h' l r
  refine ⟨G, g, ?_⟩
  have e : min (List.map (fun i : Nat => V.int (i : Int)) (List.range ds.length)).length xs.length = xs.length := by
    simp [l1]
  rw [e]
  refine wk.mono (fun _ q => q) fun i H x H' hi _ y => ?_
  obtain ⟨T, x, z, q1, q2, q3, q4, q5⟩ := y
  refine ⟨T, x, z, q1, q2, q3, ?_, q5⟩
  have q4 : some (V.int (i : Int)) = some x := q4
  rw [← q4]
  exact rangeV_get (by omega)
theorem i_enum (hm : X.mg "enumerate" = none) (ha : PA X [e] (TAr X W as)) (hg : Gl X "enumerate" := by rfl)
    (hs : starEach [e] X.env = [(false, eval e X.env)] := by rfl) :
    PI X (.Tuple elts kk tpos) (.Call (.Name "enumerate" p) [e] [] pos) (tI X W (iEnum as)) := by
  refine (pi_enumA hg hm ha hs).wk fun σ H R ⟨w, G, h, g, r, o⟩ => ⟨w, G, h, g, r, OutI.bindA (as := as) o fun d h2 v w1 H1 em l r1 x o1 => ?_⟩
  split at o1
  · obtain ⟨v, rfl, rv⟩ := ra_one x
    cases rv with
    | @tup p1 xs _ a1 b1 =>
      exact ⟨p1, xs, rfl, .inr ⟨r1.ex.t a1, o1 _ w1 H1 (Le.refl _) r1 (Walks.enum b1 fun w' H' h' l r => ⟨_, r.ex.t (l.ex.t a1), walk_enumT⟩)⟩⟩
  · split at o1
    · rename_i ds e1
      obtain ⟨v, rfl, rv⟩ := ra_one x
      obtain ⟨p1, xs, rfl, a1, b1⟩ := vI_rep rv e1
      exact ⟨p1, xs, rfl, .inl ⟨r1.ex.l a1, o1 _ w1 H1 (Le.refl _) r1 (Walks.enum b1 fun w' H' h' l r => ⟨_, r.ex.l (l.ex.l a1), walk_enum⟩)⟩⟩
    · exact o1.elim
  · exact o1.elim
/-! range(i, j, -1) -/
def downD (lo : Int) (n : Nat) : List D := (List.range n).map fun i : Nat => D.int (lo + (i : Int) * (-1))
theorem Walks.down {w : Wd} {lo : Int} {n : Nat} : Walks K (Itc lo (-1) n) w (downD lo n) none := by
  have hl : (downD lo n).length = n := by simp [downD]
  refine ⟨fun i w' H' h' hi l r _ => ?_, fun w' H' h' l r _ => ?_, fun i x w' H' H2 h' d hd l r _ y => ?_⟩
  · rw [hl] at hi
    exact hi
  · rw [hl]
    exact Nat.le_refl n
  · obtain ⟨rfl, rfl⟩ := y
    have hi : i < n := by
      rw [← hl]
      exact (List.getElem?_eq_some_iff.mp hd).1
    unfold downD at hd
    rw [List.getElem?_map, List.getElem?_range hi] at hd
    cases hd
    exact ⟨w', Le.refl _, r, .int _⟩
noncomputable def iDown (as : MeL) : Im := fun G h => (as G h).bind fun xs h1 => match xs with
  | [.int i, .int j, .int k] => if k = -1 ∧ okR2 i j then .ok (downD i (i - j).toNat, none) h1 else .stuck
  | _ => .stuck
theorem ra_three {w : Wd} {vs : List V} {d d2 d3 : D} (r : Ra K w vs [d, d2, d3]) : ∃ v v2 v3, vs = [v, v2, v3] ∧ Rv K w v d ∧ Rv K w v2 d2 ∧ Rv K w v3 d3 := by
  cases r with
  | cons a b =>
    cases b with
    | cons c d => cases d with
      | cons e f => cases f; exact ⟨_, _, _, rfl, a, c, e⟩
theorem i_down (hm : X.mg "range" = none) (ha : PA X [a, b, c] (TAr X W as)) (hg : Gl X "range" := by rfl)
    (hs : starEach [a, b, c] X.env = (false, eval a X.env) :: starEach [b, c] X.env := by rfl) (hpl : (backTo pos (starEach [b, c] X.env)).any (·.1) = false := by rfl) : PI X tg (.Call (.Name "range" p) [a, b, c] [] pos) (tI X W (iDown as)) := by
  refine (pi_range3 hg hm ha hs hpl).wk fun σ H R ⟨w, G, h, g, r, o⟩ => ⟨w, G, h, g, r, OutI.bindA (as := as) o fun d h2 v w1 H1 em l r1 x o1 => ?_⟩
  split at o1
  · rename_i i j k
    split at o1
    · rename_i cc
      obtain ⟨rfl, cc⟩ := cc
      have cc : -1000000 ≤ i ∧ i ≤ 1000000 ∧ j ≤ 1000000 ∧ -1000000 ≤ j := cc
      obtain ⟨v, v2, v3, rfl, rv, rv2, rv3⟩ := ra_three x
      cases rv
      cases rv2
      cases rv3
      exact ⟨i, j, -1, _, rfl, RgC.neg (by omega) (by omega) (by omega) (by omega), o1 _ w1 H1 (Le.refl _) r1 Walks.down⟩
    · exact o1.elim
  · exact o1.elim
/-! l.extend(xs), xs a list -/
variable {o : Expr} {ma : Me} {apos cpos : Pos}
theorem mt_extendR : MtM X "list.extend" rExt3 := by
  intro pins s σ H x vs v us Q I rx rv h
  obtain ⟨l, b, xs, zs, rfl, rfl, hH, hB, hz, q⟩ := h
  cases rx
  obtain ⟨u, rfl, ru⟩ := rv.one
  cases ru
  obtain ⟨z, its, n, r, hl, e⟩ := I.lstM hH
  obtain ⟨z2, its2, n2, r2, e2⟩ := hB.ok I.hok
  have hl2 := r2.length
  have hsz : its.toArray.size + its2.toArray.size ≤ sizeLine := by rw [List.size_toArray, List.size_toArray]; omega
  have hlong : ¬ (!its.toArray.isEmpty && Builtin.List.listTooLong (its.toArray.size + its2.toArray.size)) = true := by
    rw [notLongL hsz, Bool.and_false]
    exact Bool.false_ne_true
  refine call_meets F.slot_list_extend ⟨_, e, rfl⟩ F.entry_list_extend (F.args_list_extend_2 _ _)
    (AutoSeq1.list_extend_list_list_0 l its.toArray n b its2.toArray n2 hlong (by rw [List.size_toArray]; omega) (by omega)) ⟨e, e2, ?_⟩
  refine ⟨.non, _, I.lset (its' := its ++ its2) hH e (by simp) (r.append r2) ?_, rfl, q⟩
  rw [List.length_append]
  omega
theorem fol_ext : FolM X W fExt rExt3 := by
  intro w h H σ Q v d vs ds rh rv ra o
  unfold fExt at o
  split at o
  · rename_i n y
    split at o
    · rename_i es e
      split at o
      · rename_i fs e3
        split at o
        · rename_i c
          cases rv with
          | loc hn =>
            obtain ⟨u, rfl, ru⟩ := ra_one ra
            obtain ⟨_, xs, e1, rx⟩ := rh.cell n _ e
            obtain ⟨b, zs, rfl, hB, rz⟩ := vR_rep rh ru e3
            exact ⟨w.mu n, b, xs, zs, rfl, rfl, e1, hB, big_le (by rw [rx.length, rz.length]; exact c), out_set hn o rh .non (rx.append rz)⟩
        · exact o.elim
      · exact o.elim
    · exact o.elim
  · exact o.elim
theorem e_ext (ho : PE X o (TM X W ma)) (ha : PA X [e] (TAr X W as))
    (hbase : attributeBase o "extend" X.env (eval o X.env) = eval o X.env := by rfl)
    (hfew : ((backTo cpos (starEach [e] X.env)).all (fun x => !x.1) && (backToKw cpos (keywordEach [] X.env)).all (fun x => x.1.isSome)
      && decide (([e] : List Expr).length + ([] : List Keyword).length + (if ([] : List Keyword).isEmpty then 0 else 1) < 30)) = true := by rfl)
    (hline : (apos.endLine == cpos.line) = true := by rfl) (hs : starEach [e] X.env = (false, eval e X.env) :: starEach [] X.env := by rfl) (hplain : (backTo cpos (starEach [] X.env)).any (·.1) = false := by rfl) :
    PE X (.Call (.Attribute o "extend" apos) [e] [] cpos) (TM X W (mBM fExt ma as)) :=
  e_bm PySem.F.slot_list_extend PySem.F.type_list_extend mt_extendR fol_ext ho ha hbase hfew hline hs hplain
end
end AB
/-! AB: what the printed texts use. -/
namespace AB
open PySem PySem.Spec PyProof.Rows L2

/-- the def x keeps its mirror's promise -/
structure Has (P : Program) (w : World) (K : PySem.W.Frag) (mg : Str → Option Value) (base : Heap) (x : Str) (k : Nat) (ps : List Str) (sp : Sp) : Prop where
  ex : ∃ f fd, mg x = some (.ref f) ∧ PySem.W.keepIn K (.ref f) = true ∧ Binds K fd ps [] ∧ FnOk P w K mg base (L2.CX P w) k f fd ps sp
theorem hu65 {k : Nat} {A : Around} (hr : Room k A) : A.units + 65 < cLine := by
  have := hr.un
  omega
theorem hu64 {k : Nat} {A : Around} (hr : Room k A) : A.units + 64 < cLine := by
  have := hr.un
  omega
theorem hu67 {k : Nat} {A : Around} (hr : Room k A) : A.units + 67 < cLine := by
  have := hr.un
  omega
section
variable {X : Cx} {W : WX} {pos p : Pos} {e : Expr} {es : List Expr} {as : MeL} {x : Str} {k k' : Nat} {ps : List Str} {m : Fn} {ml : FnL}
theorem e_callH (F : Has X.prog X.w X.K X.mg X.base x k ps (spM X.K X.mg m)) (hr : Room k' X.A) (tk : Takes X W)
    (ha : PA X (e :: es) (TAr X W as)) (hk' : k ≤ k' := by first | decide | omega) (hg : Gl X x := by rfl) (hdb : (x == ("__debug__" : Str)) = false := by decide) (he : starEach (e :: es) X.env = (false, eval e X.env) :: starEach es X.env := by rfl) (hpl : (backTo pos (starEach es X.env)).any (·.1) = false := by rfl) :
    PE X (.Call (.Name x p) (e :: es) [] pos) (TM X W (mN m as)) := by
  obtain ⟨f, fd, h1, h2, h3, h4⟩ := F.ex
  exact e_call h4 hr hk' tk h1 h2 h3 ha hg hdb he hpl
theorem f_callH (F : Has X.prog X.w X.K X.mg X.base x k ps (spL X.K X.mg ml)) (hr : Room k' X.A) (tk : Takes X W)
    (ha : PA X (e :: es) (TAr X W as)) (hk' : k ≤ k' := by first | decide | omega) (hg : Gl X x := by rfl) (hdb : (x == ("__debug__" : Str)) = false := by decide) (he : starEach (e :: es) X.env = (false, eval e X.env) :: starEach es X.env := by rfl) (hpl : (backTo pos (starEach es X.env)).any (·.1) = false := by rfl) :
    PE X (.Call (.Name x p) (e :: es) [] pos) (TF X W (lN ml as)) := by
  obtain ⟨f, fd, h1, h2, h3, h4⟩ := F.ex
  exact f_call h4 hr hk' tk h1 h2 h3 ha hg hdb he hpl
theorem e_globI {i : Int} (hm : ∃ t : Tok, X.mg x = some (.int i t)) (hg : Gl X x := by rfl) (hd : (x == ("__debug__" : Str)) = false := by decide) : PE X (.Name x pos) (TM X W (mC (.int i))) := by
  obtain ⟨t, hm⟩ := hm
  exact e_glob (v := .int i) hm ⟨t, rfl⟩ (fun _ => .int i) hg hd
/-! < of ints, else of data -/
def isII (x y : D) : Option (Int × Int) := match x, y with
  | .int i, .int j => some (i, j)
  | _, _ => none
def oII (f : Int → Int → Bool) (g : D → D → AH → Res D) (x y : D) (h : AH) : Res D := match isII x y with
  | some (i, j) => .ok (.bl (f i j)) h
  | none => g x y h
def cLt : D → D → AH → Res D := oII (fun i j => decide (i < j)) fLtD
def cLe : D → D → AH → Res D := oII (fun i j => decide (i ≤ j)) fLeD
def cGt : D → D → AH → Res D := oII (fun i j => decide (j < i)) fGtD
def cGe : D → D → AH → Res D := oII (fun i j => decide (j ≤ i)) fGeD
def rII (K : PySem.W.Frag) (f : Int → Int → Bool) (g : PyData → PyData → Bool) : R2 := fun x y H Q => rI0 (fun i j => .bl (f i j)) x y H Q ∨ rLtD K g x y H Q
theorem fol_ii {f : Int → Int → Bool} {g : PyData → PyData → Bool} {gg : D → D → AH → Res D} (hg : Fol2 X W gg (rLtD X.K g)) : Fol2 X W (oII f gg) (rII X.K f g) := by
  intro w h H σ Q v1 v2 d1 d2 rh r1 r2 o
  unfold oII at o
  split at o
  · rename_i i j e
    have : d1 = .int i ∧ d2 = .int j := by
      cases d1 <;> cases d2 <;> first | (cases e; exact ⟨rfl, rfl⟩) | cases e
    obtain ⟨rfl, rfl⟩ := this
    cases r1
    cases r2
    exact .inl ⟨i, j, rfl, rfl, out_ok o rh (.bl _)⟩
  · exact .inr (hg w h H σ Q v1 v2 d1 d2 rh r1 r2 o)
theorem op_cLt (hu : X.A.units + 65 < cLine) : OpR X (compareOp .Lt) (rII X.K (fun i j => decide (i < j)) fun d e => PySem.W.dataLt d e) := OpR.or op_lt (op_ltD hu)
theorem op_cLe (hu : X.A.units + 65 < cLine) : OpR X (compareOp .LtE) (rII X.K (fun i j => decide (i ≤ j)) fun d e => !PySem.W.dataLt e d) := OpR.or op_le (op_leD hu)
theorem op_cGt (hu : X.A.units + 65 < cLine) : OpR X (compareOp .Gt) (rII X.K (fun i j => decide (j < i)) fun d e => PySem.W.dataLt e d) := OpR.or op_gt (op_gtD hu)
theorem op_cGe (hu : X.A.units + 65 < cLine) : OpR X (compareOp .GtE) (rII X.K (fun i j => decide (j ≤ i)) fun d e => !PySem.W.dataLt d e) := OpR.or op_ge (op_geD hu)
theorem fol_cLt : Fol2 X W cLt (rII X.K (fun i j => decide (i < j)) fun d e => PySem.W.dataLt d e) := fol_ii (fol_ltD fun _ _ _ => rfl)
theorem fol_cLe : Fol2 X W cLe (rII X.K (fun i j => decide (i ≤ j)) fun d e => !PySem.W.dataLt e d) := fol_ii (fol_ltD (f := fun d e => !PySem.W.dataLt e d) fun _ _ _ => rfl)
theorem fol_cGt : Fol2 X W cGt (rII X.K (fun i j => decide (j < i)) fun d e => PySem.W.dataLt e d) := fol_ii (fol_ltD (f := fun d e => PySem.W.dataLt e d) fun _ _ _ => rfl)
theorem fol_cGe : Fol2 X W cGe (rII X.K (fun i j => decide (j ≤ i)) fun d e => !PySem.W.dataLt d e) := fol_ii (fol_ltD (f := fun d e => !PySem.W.dataLt d e) fun _ _ _ => rfl)
end
section
variable {X : Cx} {x : Str} {pos : Pos} {i kk : Nat} {e : Expr} {es : List Expr} {p : Pat} {ps : List Pat}
theorem pg_nmP (hN : X.N.Nodup) (hi : X.N[i]? = some x) (hx : Loc X.env.scope x := by first | exact Or.inl rfl | exact Or.inr rfl) (hf : X.fn x = true ∨ X.env.scope.names.lookup x = some .local := by first | exact .inl rfl | exact .inr rfl) : PG X (.Name x pos) (gP X.K (.nm i)) := by
  unfold gP
  exact pg_name hN hi hx hf
theorem pgs_nilP : PGs X [] (gPs X.K []) := by
  unfold gPs
  exact pgs_nil
theorem pgs_consP (h1 : PG X e (gP X.K p)) (h2 : PGs X es (gPs X.K ps)) (hs : (assignEach (e :: es) X.env).map (·.2) = assign e X.env :: (assignEach es X.env).map (·.2) := by rfl) : PGs X (e :: es) (gPs X.K (p :: ps)) := by
  unfold gPs
  exact pgs_cons h1 h2 hs
theorem pg_tpP (hc : X.calm = true) (h : PGs X es (gPs X.K ps)) (hn : (assignEach es X.env).length = ps.length := by rfl) (hst : (assignEach es X.env).findIdx? (·.1) = none := by rfl) : PG X (.Tuple es kk pos) (gP X.K (.tp ps)) := by
  unfold gP
  exact pg_tup hc h hn hst
end
theorem p_yes {X : Cx} {W : WX} : PTs X [] (TTT X W tYesM) := ⟨fun pins s σ H Q I ⟨w, G, h, g, r, o⟩ => pts_nil.run pins s σ H Q I (o w H (Le.refl _) r)⟩
theorem ints_rep {K : PySem.W.Frag} {w : Wd} : ∀ (ns : List Int), Ra K w (ns.map V.int) (ns.map D.int)
  | [] => .nil
  | n :: ns => .cons (.int n) (ints_rep ns)
/-- the end: the mirror of law, from the script -/
def spLaw (K : PySem.W.Frag) : Sp := fun vs H Q _ => ∃ (a : Addr) (ns : List Int), vs = [.ref a] ∧ SqL K H a (ns.map V.int) ∧ ns.length ≤ 63 ∧ ∀ H', Q (.bl true) H'
theorem sp_law {K : PySem.W.Frag} {mg : Str → Option Value} {m : Fn} (ht : ∀ ns : List Int, ns.length ≤ 63 → ∃ h, m [.rol (ns.map D.int)] [] = .ok (.bl true) h) {vs : List V} {H : Hp} {Q : VK} {E : XK} (h : spLaw K vs H Q E) : spM K mg m vs H Q E := by
  obtain ⟨a, ns, rfl, hS, hl, hQ⟩ := h
  obtain ⟨h, e⟩ := ht ns hl
  refine ⟨⟨H, fun _ => none, fun _ => 0, 0, fun _ => none⟩, [.rol (ns.map D.int)], [], .cons (.rol hS (ints_rep ns)) .nil, ⟨Ext.refl _, rfl, fun m n hm _ _ => absurd hm (Nat.not_lt_zero _), fun n o e => (by simp at e), fun _ _ e => (by cases e), fun _ _ e => (by cases e)⟩, ?_⟩
  rw [e]
  intro v w' H' l r x
  cases x
  exact hQ H'
end AB
/-! AB: repr in the law's own def, which knows that nothing is guarded. -/
namespace AB
open PySem PySem.Spec PyProof.Rows L2

section
variable {X : Cx} {W : WX} {pos p : Pos} {e : Expr} {as : MeL}
def isSeqP : PyData → Bool
  | .tuple _ => true
  | .list _ => true
  | _ => false
def fRepr (xs : List D) (h : AH) : Res D := match xs with
  | [d] => match toPh h d with
    | some p => if isSeqP p = true ∧ p.showable = true ∧ p.hasDict = false ∧ p.depth ≤ 60 ∧ p.shown.length ≤ big then .ok (.str p.shown) h else .stuck
    | none => .stuck
  | _ => .stuck
def rReprD (K : PySem.W.Frag) : List V → Hp → VK → Prop := fun xs H Q => ∃ x d, xs = [x] ∧ Dp K H x d ∧ isSeqP d = true ∧ d.showable = true ∧ d.hasDict = false ∧ d.depth ≤ 60 ∧ d.shown.length ≤ sizeLine ∧ Q (.str d.shown) H
theorem cr_repr (hg : X.A.guards = some []) (hu : X.A.units + 65 < cLine) : CallR X (.builtin "repr") (rReprD X.K) := by
  intro pins s σ H xs us Q I r h
  obtain ⟨x, d, rfl, hd, hs, h1, h2, h3, h4, q⟩ := h
  obtain ⟨u, rfl, ru⟩ := r.one
  obtain ⟨as, rd⟩ := Dp.reads I d x u hd ru
  have hr : ∃ a, u = .ref a := by
    cases hd with
    | tup _ _ => cases ru; exact ⟨_, rfl⟩
    | lst _ _ => cases ru; exact ⟨_, rfl⟩
    | _ => cases hs
  obtain ⟨a, rfl⟩ := hr
  exact repr_of_reads' rd h1 (fun z => by rw [h2] at z; cases z) hg (by omega) (fun _ _ e => e) (fun h' u tk hk => ⟨.str d.shown, H, I.kept hk, ⟨u, rfl⟩, q⟩) h4
theorem fol_repr : FolN X W fRepr (rReprD X.K) := by
  intro w h H σ Q vs ds rh ra o
  unfold fRepr at o
  split at o
  · obtain ⟨v, rfl, rv⟩ := ra_one ra
    split at o
    · rename_i pd e
      split at o
      · rename_i c
        obtain ⟨c1, c2, c3, c4, c5⟩ := c
        exact ⟨v, pd, rfl, toPh_rep rh rv e, c1, c2, c3, c4, big_le c5, out_ok o rh (.str _)⟩
      · exact o.elim
    · exact o.elim
  · exact o.elim
theorem e_repr (gd : X.A.guards = some []) (hu : X.A.units + 65 < cLine) (hm : X.mg "repr" = none) (ha : PA X [e] (TAr X W as)) (hg : Gl X "repr" := by rfl) (he : starEach [e] X.env = (false, eval e X.env) :: starEach [] X.env := by rfl) :
    PE X (.Call (.Name "repr" p) [e] [] pos) (TM X W (mN fRepr as)) :=
  e_blt (cr_repr gd hu) fol_repr hm ha hg (by decide +kernel) (by decide) (by decide) he rfl
end
/-! != of texts -/
def fNeS (x y : D) (h : AH) : Res D := match x, y with
  | .str i, .str j => .ok (.bl (i != j)) h
  | _, _ => .stuck
theorem op_neS {X : Cx} : OpR X (compareOp .NotEq) (fun x y H Q => ∃ i j, x = .str i ∧ y = .str j ∧ Q (.bl (i != j)) H) := by
  intro pins s σ H x y v u Q I rx ry h
  obtain ⟨i, j, rfl, rfl, q⟩ := h
  obtain ⟨t, rfl⟩ := rx
  obtain ⟨t', rfl⟩ := ry
  exact PyProof.Rows.ne_str ⟨.bl _, H, I, rfl, q⟩
theorem fol_neS {X : Cx} {W : WX} : Fol2 X W fNeS (fun x y H Q => ∃ i j, x = .str i ∧ y = .str j ∧ Q (.bl (i != j)) H) := by
  intro w h H σ Q v1 v2 d1 d2 rh r1 r2 o
  unfold fNeS at o
  split at o
  · cases r1
    cases r2
    exact ⟨_, _, rfl, rfl, out_ok o rh (.bl _)⟩
  · exact o.elim
@[simp] theorem v_neS {h : AH} (x : Str) : fNeS (.str x) (.str x) h = .ok (.bl false) h := by
  show Res.ok (D.bl (x != x)) h = _
  simp
/-- the law's def, called as the claim calls it -/
def LawAt (P : Program) (w : World) (K : PySem.W.Frag) (mg : Str → Option Value) (base : Heap) (CX : CXT) (f : Addr) (fd : FuncData) (ps : List Str) (sp : Sp) : Prop :=
  ∀ (s : Shared) (H : Hp) (args : Args) (us : List Value) (vs : List V) (Q : VK) (E : XK), Env0 P w K mg base callerA [] s H → BindsTo s fd args (ps.zip us) → Vals vs us → sp vs H Q E →
    codeAny (model P w) callerA (.call (.ref f) args) (CR CX [] P w H s Q E) s
/-- .. by its body -/
theorem law_of {CX : CXT} {P : Program} {w : World} {K : PySem.W.Frag} {mg : Str → Option Value} {base : Heap} {k : Nat} {f : Addr} {x qual : Str} {st : Stmt} {fd : FuncData} {N ps : List Str} {sp : Sp}
    (F : Fun K x qual st f fd) (S : FnScope N ps (defScope st)) (hr : Room (k + 1) callerA)
    (len : ∀ vs H Q E, sp vs H Q E → vs.length = ps.length)
    (hbody : ∀ (cdv : Value) (s : Shared) (H : Hp) (vs : List V) (Q : VK) (E : XK), Room k (callerA.deeper (envOfC qual (defScope st) s.heap.objs.size f cdv)) → sp vs H Q E →
      ∃ t, PSs (cxOf CX P w K mg base N qual (defScope st) f cdv callerA [] s H E) (defBody st) t ∧ t { nx := fun _ H' => Q .non H', rt := Q } (L2.start N vs) H) :
    LawAt P w K mg base CX f fd ps sp := by
  obtain ⟨oc, od, kV, doc, pm, an, cdv, ct, osl, rfl, lk, hcd⟩ := F.ex
  intro s H args us vs Q E e0 hb r hsp
  have hl := len _ _ _ _ hsp
  have keepB : ∀ b o, base.get? b = some o → s.heap.get? b = some o := fun b o e => (e0.bs b o e).1
  have KX : K.In s.heap := e0.mod.kin.keeps keepB
  have lim : s.heap.NoLimit := e0.mod.nolimit.keeps keepB
  have kinds : ∀ y ∈ ps.zip us, (defScope st).names.lookup y.1 = some .local ∨ ((defScope st).names.lookup y.1 = some .cell ∧ ((cellsFrom (s.heap.objs.size + 1) (defScope st).names []).lookup y.1).isSome = true) := by
    rintro ⟨n, v⟩ hy
    exact (S.par n (List.of_mem_zip hy).1).imp id fun q => ⟨q, PySem.W.cellsFrom_some _ _ _ (.inl q)⟩
  refine codeAny_call_function hr.depth (KX _ _ lk) rfl S.co S.gen rfl (PySem.W.codeRec_of KX hcd) (hb _ _ _ _ (wpAny_newFunctionEnv_cells S.kind kinds fun env he s1 x => ?_))
  subst he
  refine ⟨lim.keeps x.toInCall.keep, codeAny_func ?_⟩
  obtain ⟨t, ht, hq⟩ := hbody cdv s H vs Q E (hr.deeper _) hsp
  refine wpAny_mono (ht.run [] s1 (L2.start N vs) H _ (inv_start S hr.hd e0 hl r x) hq) (fun fl s' hs => ?_) fun e s' hs => hs
  cases fl with
  | ret u =>
    obtain ⟨v, σ', H', J, rv, q⟩ := hs
    exact ⟨v, H', J.os, J.bare, J.base, J.hok, rv, q⟩
  | next =>
    obtain ⟨σ', H', J, q⟩ := hs
    exact ⟨.non, H', J.os, J.bare, J.base, J.hok, rfl, q⟩
  | brk => obtain ⟨_, _, _, q⟩ := hs; exact q.elim
  | cont => obtain ⟨_, _, _, q⟩ := hs; exact q.elim

/-- the script as the only thing that is tracked, or one of the module's own objects -/
theorem law_callC {P : Program} {w : World} {K : PySem.W.Frag} {mg mb : Str → Option Value} {CX : CXT} {fa a : Addr} {fd : FuncData} {x : Str} {sp : Sp} {s₁ : Shared} {vs : List Value} {ns : List Int}
    (KX : K.In s₁.heap) (hns : s₁.heap.Ns mainGlobals mg) (hb : s₁.heap.Ns builtinsNs mb) (hbb : ∀ x : Str, x ≠ "__name__" → mb x = bootBuiltins x) (hlim : s₁.heap.NoLimit) (hg : s₁.gens = #[])
    (ha : s₁.heap.get? a = some { cls := .type "list", data := .seq vs.toArray }) (hi : IntsAre vs ns) (hl : ns.length ≤ sizeLine)
    (F : ∀ base : Heap, K.In base → base.Ns mainGlobals mg → LawAt P w K mg base CX fa fd [x] sp) (hbind : ∀ (s : Shared) (u : Value), BindsTo s fd ⟨[u], []⟩ [(x, u)])
    (hsp : ∀ H : Hp, Only H → SqL K H a (ns.map V.int) → sp [.ref a] H (fun v _ => v = .bl true) fun _ _ _ => False)
    (hCX : ∀ H e s', CX [] H s₁ (fun _ _ _ => False) e s' → False) :
    codeAny (model P w) callerA (.call (.ref fa) ⟨[.ref a], []⟩) (fun r s' => r = .ok (.ret (.bool true)) ∧ OldK s₁.heap s'.heap ∧ s'.os = s₁.os ∧ AllBare s'.gens) s₁ := by
  have rv := vals_ints hi
  have lenV := hi.length
  have core : ∀ H : Hp, Only H → SqL K H a (ns.map V.int) → HOk P w H s₁.heap → (∀ b, H b ≠ none → b = a) → (H a ≠ none → K.lookup a = none) →
      codeAny (model P w) callerA (.call (.ref fa) ⟨[.ref a], []⟩) (fun r s' => r = .ok (.ret (.bool true)) ∧ OldK s₁.heap s'.heap ∧ s'.os = s₁.os ∧ AllBare s'.gens) s₁ := by
    intro H hO hS hok hA hK
    have none_of : ∀ {b : Addr}, b ≠ a → H b = none := fun {b} hb => by
      cases q : H b with
      | none => rfl
      | some u => exact absurd (hA b (by rw [q]; simp)) hb
    have dict_none : ∀ {b : Addr} {o : Obj} {es : Array DictEntry} {ep : Nat}, s₁.heap.get? b = some o → o.data = .dict es ep → H b = none := fun {b o es ep} e d => none_of fun z => by
      subst z
      rw [ha] at e
      cases e
      have d' : Data.seq vs.toArray _ = Data.dict es ep := d
      cases d'
    have ns_hid : ∀ {b : Addr} {m : Str → Option Value}, s₁.heap.Ns b m → (hidT s₁.heap H).Ns b m := fun {b m} ⟨o, es, ep, e, d, r⟩ => ⟨o, es, ep, hidT_get e (dict_none e d), d, r⟩
    have hKb : K.In (hidT s₁.heap H) := fun b o e => hidT_get (KX b o e) (by
      cases q : H b with
      | none => rfl
      | some u =>
        have z := hA b (by rw [q]; simp)
        subst z
        rw [hK (by rw [q]; simp)] at e
        cases e)
    have hM : Mod K mg (hidT s₁.heap H) := ⟨hKb, ns_hid hns, ⟨mb, ns_hid hb, hbb⟩, let ⟨mc, h1, h2⟩ := hlim; ⟨mc, ns_hid h1, h2⟩⟩
    have e0 : Env0 P w K mg (hidT s₁.heap H) callerA [] s₁ H := ⟨rfl, hM, fun b o e => of_hidT e, Nat.le_of_eq (hidT_size _ _), trivial, fun b hb => absurd (show b ∈ ([] : List Addr) from hb) (by simp), hok, .of_eq hg⟩
    refine codeAny_mono (F _ hKb (ns_hid hns) s₁ H ⟨[.ref a], []⟩ [.ref a] [.ref a] _ _ e0 (hbind s₁ (.ref a)) (.cons rfl .nil) (hsp H hO hS)) fun r s' h => ?_
    cases r with
    | error e => exact (hCX H e s' h).elim
    | ok fl =>
      cases fl with
      | next => exact False.elim h
      | brk => exact False.elim h
      | cont => exact False.elim h
      | ret u =>
        obtain ⟨v, H', os, bare, un, hok', r', q⟩ := h
        have q' : v = .bl true := q
        subst q'
        obtain rfl : u = Value.bool true := r'
        refine ⟨rfl, OldK.of_keep fun b o e => ?_, os, bare⟩
        cases q : H b with
        | none => exact un.keep b o e q (by intro z; exact absurd (show b ∈ ([] : List Addr) from z) (by simp)) (by simp)
        | some u =>
          rcases hO b with z | ⟨ob, xs, z⟩
          · rw [q] at z; cases z
          · obtain ⟨e1, _⟩ := hok b _ z
            obtain ⟨e2, _⟩ := hok' b _ (un.frzs b ob _ z)
            rw [e] at e1
            cases e1
            exact e2
  cases hk : K.lookup a with
  | some o =>
    have e := KX a o hk
    rw [ha] at e
    cases e
    exact core (fun _ => none) (fun _ => .inl rfl) (.inr ⟨_, vs.toArray, _, hk, rfl, rfl, rfl, by rw [List.size_toArray, lenV]; exact hl, by simpa using rv⟩) (fun b u z => by have z' : (none : Option HO) = some u := z; cases z') (fun b z => absurd rfl z) fun z => absurd rfl z
  | none =>
    refine core (fun b => if b = a then some (.frz { cls := .type "list", data := .seq vs.toArray } (.lst (ns.map V.int))) else none) (fun b => ?_) (.inl (.inr ⟨{ cls := .type "list", data := .seq vs.toArray }, if_pos rfl⟩)) (fun b u z => ?_) (fun b z => ?_) fun _ => hk
    · by_cases hb : b = a
      · exact .inr ⟨_, _, if_pos hb⟩
      · exact .inl (if_neg hb)
    · by_cases hb : b = a
      · have z' := (if_pos hb).symm.trans z
        cases z'
        subst hb
        exact ⟨ha, by rw [List.length_map]; exact hl, vs, _, rv, ha⟩
      · have z' := (if_neg hb).symm.trans z
        cases z'
    · by_cases hb : b = a
      · exact hb
      · exact absurd (if_neg hb) z
theorem walk_ofC {l : PySem.W.OpenLaw} {n : Nat} {q : Program} {loose : List Str} {XP : (Str → Option Value) → Heap → Prop} {YP : World → Heap → Prop} {d : DefRec} {K : Params → PySem.W.Frag} {CX : World → CXT} {sp : World → Sp} {x : Str}
    (hn : l.most = some n) (hn2 : n ≤ sizeLine) (hdf : d.params.defaults = [])
    (hY : ∀ (w : World) (h : Heap), YP w h → (K w.params).In h)
    (F : ∀ (w : World) (mg : Str → Option Value) (fa : Addr) (h : Heap), (K w.params).In h → h.Ns mainGlobals mg → mg d.name = some (.ref fa) →
      ∃ fd : FuncData, (∀ (s : Shared) (u : Value), BindsTo s fd ⟨[u], []⟩ [(x, u)]) ∧
        ∀ base : Heap, (K w.params).In base → base.Ns mainGlobals mg → LawAt l.prog w (K w.params) mg base (CX w) fa fd [x] (sp w))
    (hsp : ∀ (w : World) (H : Hp) (a : Addr) (ns : List Int), ns.length ≤ n → Only H → SqL (K w.params) H a (ns.map V.int) → sp w [.ref a] H (fun v _ => v = .bl true) fun _ _ _ => False)
    (hCX : ∀ (w : World) (H : Hp) (s : Shared) (e : Value) (s' : Shared), CX w [] H s (fun _ _ _ => False) e s' → False) :
    PySem.W.WalkO q loose XP YP l.row.toRowW d [] (fun f vs => PySem.call f vs) := by
  refine Att.attach_call hn hdf fun w s₀ s₁ mg mb fa o pm cd doc a vs ns G Y ho hd hcd hmg hobj hints hlen hg => ?_
  have KX := hY w _ Y
  obtain ⟨fd, hb, hF⟩ := F w mg fa _ KX G.T.g hmg
  exact law_callC KX G.T.g G.T.b G.T.builtins G.T.nolimit hg hobj hints (Nat.le_trans hlen hn2) hF hb (fun H hO hS => hsp w H a ns hlen hO hS) fun H e s' => hCX w H s₁ e s'
/-- the law's def by its mirror -/
theorem law_ok {P : Program} {w : World} {K : PySem.W.Frag} {mg : Str → Option Value} {base : Heap} {x qual : Str} {st : Stmt} {f : Addr} {fd : FuncData} {N ps : List Str} {k : Nat} (F : Fun K x qual st f fd) (S : FnScope N ps (defScope st)) (hr : Room (k + 1) callerA) (m : Ms)
    (hb : ∀ (cdv : Value) (s : Shared) (H : Hp) (E : XK), Room k (callerA.deeper (envOfC qual (defScope st) s.heap.objs.size f cdv)) →
      PSs (cxOf (L2.CX P w) P w K mg base N qual (defScope st) f cdv callerA [] s H E) (defBody st) (tS K mg (fun c dd _ H => E c dd H) m)) :
    LawAt P w K mg base (L2.CX P w) f fd ps (spM K mg (mDef ps.length N.length m)) := by
  refine law_of F S hr (fun vs H Q E h => ?_) fun cdv s H vs Q E hr h => ⟨_, hb cdv s H E hr, sp_start h⟩
  exact sp_len h
theorem LawAt.imp {P : Program} {w : World} {K : PySem.W.Frag} {mg : Str → Option Value} {base : Heap} {CX : CXT} {f : Addr} {fd : FuncData} {ps : List Str} {sp sp' : Sp} (F : LawAt P w K mg base CX f fd ps sp) (h : ∀ vs H Q E, sp' vs H Q E → sp vs H Q E) : LawAt P w K mg base CX f fd ps sp' :=
  fun s H args us vs Q E e0 hb r q => F s H args us vs Q E e0 hb r (h vs H Q E q)
theorem cx_false {P : Program} {w : World} {H : Hp} {s : Shared} {e : Value} {s' : Shared} (h : L2.CX P w [] H s (fun _ _ _ => False) e s') : False := by
  obtain ⟨_, _, _, _, _, _, _, _, _, _, _, _, z⟩ := h
  exact z
end AB
/-! AB: how the mirrors go, as rules of simp. -/
namespace AB
open PySem PySem.Spec PyProof.Rows L2

section
variable {G : Env} {h : AH} {i j : Int} {d e : D} {m a b c : Me} {as : MeL} {t u : MeT} {n : Nat}
@[simp] theorem v_mV (i : Nat) : mV i G h = (match G[i]? with | some (some d) => .ok d h | _ => .stuck) := rfl
@[simp] theorem v_mC : mC d G h = .ok d h := rfl
@[simp] theorem v_mOp2 {f : D → D → AH → Res D} : mOp2 f a b G h = (a G h).bind fun x h1 => (b G h1).bind fun y h2 => f x y h2 := rfl
@[simp] theorem v_mOp1 {f : D → AH → Res D} : mOp1 f a G h = (a G h).bind fun x h1 => f x h1 := rfl
@[simp] theorem v_aNil : aNil G h = .ok [] h := rfl
@[simp] theorem v_aCons : aCons a as G h = (a G h).bind fun x h1 => (as G h1).bind fun xs h2 => .ok (x :: xs) h2 := rfl
@[simp] theorem v_mN {f : List D → AH → Res D} : mN f as G h = (as G h).bind fun xs h1 => f xs h1 := rfl
@[simp] theorem v_lN {f : List D → AH → Res (List D)} : lN f as G h = (as G h).bind fun xs h1 => f xs h1 := rfl
@[simp] theorem v_mL : mL as G h = (as G h).bind fun ds h1 => .ok (.lst ds) h1 := rfl
@[simp] theorem v_mNew : mNew as G h = (as G h).bind fun ds h1 => .ok (.loc h1.length) (h1 ++ [.lst ds]) := rfl
@[simp] theorem v_lLst : lLst as G h = (as G h).bind fun xs h1 => if xs.length ≤ big then .ok xs h1 else .stuck := id rfl
@[simp] theorem v_fTup {ds : List D} : fTup ds h = if ds.length ≤ big then .ok (.tup ds) h else .stuck := id rfl
@[simp] theorem v_tOf : tOf m G h = (m G h).bind fun d h1 => match truD h1 d with | some b => .ok b h1 | none => .stuck := rfl
@[simp] theorem v_tBl : tBl m G h = (m G h).bind fun d h1 => match d with | .bl b => .ok b h1 | _ => .stuck := rfl
@[simp] theorem v_tAnd : tAndM t u G h = (t G h).bind fun c h1 => if c = true then u G h1 else .ok false h1 := rfl
@[simp] theorem v_tOr : tOrM t u G h = (t G h).bind fun c h1 => if c = true then .ok true h1 else u G h1 := rfl
@[simp] theorem v_tNot : tNotM t G h = (t G h).bind fun c h1 => .ok (!c) h1 := rfl
@[simp] theorem v_mAnd : mAnd a b G h = (a G h).bind fun d h1 => match truD h1 d with | some true => b G h1 | some false => .ok d h1 | none => .stuck := rfl
@[simp] theorem v_mOr : mOr a b G h = (a G h).bind fun d h1 => match truD h1 d with | some true => .ok d h1 | some false => b G h1 | none => .stuck := rfl
@[simp] theorem v_mNot : mNot a G h = (a G h).bind fun d h1 => match truD h1 d with | some b => .ok (.bl (!b)) h1 | none => .stuck := rfl
@[simp] theorem v_mIf : mIf t a b G h = (t G h).bind fun c h1 => if c = true then a G h1 else b G h1 := rfl
@[simp] theorem v_mChain {f g : D → D → AH → Res D} : mChain f g a b c G h = (a G h).bind fun x h1 => (b G h1).bind fun y h2 => (f x y h2).bind fun z h3 => match z with
  | .bl true => (c G h3).bind fun u h4 => g y u h4
  | .bl false => .ok (.bl false) h3
  | _ => .stuck := rfl
@[simp] theorem v_mIsi (T : Ty) : mIsi T m G h = (m G h).bind fun d h1 => match tyD h1 d with | some t => .ok (.bl (t.sub T)) h1 | none => .stuck := rfl
@[simp] theorem v_oNone : oNone G h = .ok none h := rfl
@[simp] theorem v_oSome : oSome m G h = (m G h).bind fun d h1 => match d with | .int i => .ok (some i) h1 | _ => .stuck := rfl
@[simp] theorem v_yes : tYesM G h = .ok true h := rfl
@[simp] theorem v_sNil : sNil G h = .next G h := rfl
@[simp] theorem v_sSeq {x y : Ms} : sSeq x y G h = (x G h).andThen y := rfl
@[simp] theorem v_sSet (i : Nat) : sSet i m G h = (m G h).toS G fun d h1 => .next (G.set i (some d)) h1 := rfl
@[simp] theorem v_sRet : sRet m G h = (m G h).toS G fun d h1 => .ret d h1 := rfl
@[simp] theorem v_sExpr : sExpr m G h = (m G h).toS G fun _ h1 => .next G h1 := rfl
@[simp] theorem v_sIf {x y : Ms} : sIf t x y G h = (t G h).toS G fun c h1 => if c = true then x G h1 else y G h1 := rfl
@[simp] theorem v_sNever : sNever G h = .stuck := rfl
@[simp] theorem v_sSub : sSub a b m G h = (m G h).toS G fun x h1 => (a G h1).toS G fun d h2 => (b G h2).toS G fun j h3 => match d, j with
  | .loc n, .int k => match h3[n]? with
    | some (.lst ds) => match ixN ds.length k with
      | some m => .next G (h3.set n (.lst (ds.set m x)))
      | none => .stuck
    | _ => .stuck
  | _, _ => .stuck := rfl
@[simp] theorem v_mBM {f : D → List D → AH → Res D} : mBM f m as G h = (m G h).bind fun d h1 => match vL h1 d with | some _ => (as G h1).bind fun xs h2 => f d xs h2 | none => .stuck := rfl
@[simp] theorem v_sFor {p : Pat} {it : Im} {x : Ms} : sFor p it x G h = (it G h).toS G fun a h1 => forGo p x a.2 a.1 a.1 G h1 := rfl
@[simp] theorem v_lComp {p : Pat} {vs : List Nat} {it : Im} : lComp p vs it t m G h = (it G h).bind fun a h1 => if a.1.length ≤ big then compGo p t m a.2 a.1 (wipeG G vs) a.1 h1 else .stuck := id rfl
@[simp] theorem v_iSeq : iSeq m G h = (m G h).bind fun d h1 => match d with
  | .tup ds => .ok (ds, none) h1
  | .lst ds => .ok (ds, none) h1
  | .rol ds => .ok (ds, none) h1
  | .loc n => match h1[n]? with
    | some (.lst ds) => .ok (ds, some n) h1
    | _ => .stuck
  | _ => .stuck := rfl
/-! values -/
@[simp] theorem v_ii : isII (.int i) (.int j) = some (i, j) := rfl
@[simp] theorem v_cLt : cLt (.int i) (.int j) h = .ok (.bl (decide (i < j))) h := rfl
@[simp] theorem v_cLe : cLe (.int i) (.int j) h = .ok (.bl (decide (i ≤ j))) h := rfl
@[simp] theorem v_cGt : cGt (.int i) (.int j) h = .ok (.bl (decide (j < i))) h := rfl
@[simp] theorem v_cGe : cGe (.int i) (.int j) h = .ok (.bl (decide (j ≤ i))) h := rfl
@[simp] theorem v_add : fAdd (.int i) (.int j) h = .ok (.int (i + j)) h := rfl
@[simp] theorem v_sub : fSub (.int i) (.int j) h = .ok (.int (i - j)) h := rfl
@[simp] theorem v_neg : fNeg (.int i) h = .ok (.int (-i)) h := rfl
@[simp] theorem v_mul : fMul (.int i) (.int j) h = if (-(2 ^ 60) ≤ i ∧ i ≤ 2 ^ 60) ∨ (-(2 ^ 60) ≤ j ∧ j ≤ 2 ^ 60) then .ok (.int (i * j)) h else .stuck := id rfl
@[simp] theorem v_mod : fMod (.int i) (.int j) h = if 0 < j then .ok (.int (i % j)) h else .stuck := id rfl
@[simp] theorem v_div : fDiv (.int i) (.int j) h = if 0 < j ∧ j ≤ 2 ^ 60 then .ok (.int (i / j)) h else .stuck := id rfl
@[simp] theorem v_pow : fPow (.int i) (.int j) h = if 0 ≤ j ∧ j ≤ 1000 ∧ 0 ≤ i ∧ i ≤ 1000 then .ok (.int (i ^ j.toNat)) h else .stuck := id rfl
@[simp] theorem v_int : fInt [.int i] h = .ok (.int i) h := rfl
@[simp] theorem v_intB {b : Bool} : fInt [.bl b] h = .ok (.int (if b then 1 else 0)) h := rfl
@[simp] theorem v_abs : fAbs [.int i] h = .ok (.int (if i < 0 then -i else i)) h := rfl
theorem okP_int : okP h (.int i) = some (.int i) := rfl
theorem okP_bl {b : Bool} : okP h (.bl b) = some (.bool b) := rfl
theorem okP_non : okP h .non = some .none := rfl
@[simp] theorem v_eq : fEq (.int i) (.int j) h = .ok (.bl (decide (i = j))) h := by
  show Res.ok (D.bl (PyData.eqv (.int i) (.int j))) h = _
  simp only [PyData.eqv]
  rfl
@[simp] theorem v_ne : fNe (.int i) (.int j) h = .ok (.bl (!decide (i = j))) h := by
  show Res.ok (D.bl (!PyData.eqv (.int i) (.int j))) h = _
  simp only [PyData.eqv]
  rfl
@[simp] theorem v_eqB {b c : Bool} : fEq (.bl b) (.bl c) h = .ok (.bl (decide (b = c))) h := by
  show Res.ok (D.bl (PyData.eqv (.bool b) (.bool c))) h = _
  simp only [PyData.eqv]
  cases b <;> cases c <;> rfl
@[simp] theorem v_isB {b c : Bool} : fIsB (.bl b) (.bl c) h = .ok (.bl (decide (b = c))) h := rfl
@[simp] theorem v_notB {b c : Bool} : fNotB (.bl b) (.bl c) h = .ok (.bl (!decide (b = c))) h := rfl
@[simp] theorem v_truB {b : Bool} : truD h (.bl b) = some b := rfl
@[simp] theorem v_truI : truD h (.int i) = some (i != 0) := rfl
@[simp] theorem v_vSt {ds : List D} : vS h (.tup ds) = some ds := rfl
@[simp] theorem v_vSl {ds : List D} : vS h (.lst ds) = some ds := rfl
@[simp] theorem v_vSr {ds : List D} : vS h (.rol ds) = some ds := rfl
@[simp] theorem v_vSo : vS h (.loc n) = (match h[n]? with | some (.lst ds) => some ds | _ => none) := rfl
@[simp] theorem v_vLl {ds : List D} : vL h (.lst ds) = some ds := rfl
@[simp] theorem v_vLr {ds : List D} : vL h (.rol ds) = some ds := rfl
@[simp] theorem v_vLo : vL h (.loc n) = (match h[n]? with | some (.lst ds) => some ds | _ => none) := rfl
@[simp] theorem v_ix : fIx d (.int i) h = (match vS h d with | some ds => (match atI ds i with | some d => .ok d h | none => .stuck) | none => .stuck) := rfl
@[simp] theorem v_len (hd : ∀ x, d ≠ .str x) : fLen [d] h = (match vS h d with | some ds => .ok (.int ds.length) h | none => .stuck) := by
  cases d with
  | str x => exact absurd rfl (hd x)
  | _ => rfl
@[simp] theorem v_tuple : fTuple [d] h = (match vS h d with | some ds => .ok (.tup ds) h | none => .stuck) := rfl
@[simp] theorem v_list : lList [d] h = (match vS h d with | some ds => .ok ds h | none => .stuck) := rfl
@[simp] theorem v_app : fApp (.loc n) [d] h = (match h[n]? with | some (.lst ds) => if ds.length < big then .ok .non (h.set n (.lst (ds ++ [d]))) else .stuck | _ => .stuck) := id rfl
@[simp] theorem v_tyI : tyD h (.int i) = some .int := rfl
@[simp] theorem v_tyB {b : Bool} : tyD h (.bl b) = some .bl := rfl
@[simp] theorem v_tyT {ds : List D} : tyD h (.tup ds) = some .tup := rfl
@[simp] theorem v_tyN : tyD h .non = some .non := rfl
@[simp] theorem v_range1 : iRange1 as G h = (as G h).bind fun xs h1 => match xs with
  | [.int j] => if okR j then .ok (rangeD 0 j.toNat, none) h1 else .stuck
  | _ => .stuck := rfl
@[simp] theorem v_range2 : iRange2 as G h = (as G h).bind fun xs h1 => match xs with
  | [.int i, .int j] => if okR2 i j then .ok (rangeD i (j - i).toNat, none) h1 else .stuck
  | _ => .stuck := rfl
@[simp] theorem v_down : iDown as G h = (as G h).bind fun xs h1 => match xs with
  | [.int i, .int j, .int k] => if k = -1 ∧ okR2 i j then .ok (downD i (i - j).toNat, none) h1 else .stuck
  | _ => .stuck := rfl
end
theorem big_eq : big = 1000000 := rfl
/-- an index within -/
theorem atI_nat {α : Type} {xs : List α} {i : Int} {x : α} (h0 : 0 ≤ i) (hx : xs[i.toNat]? = some x) : atI xs i = some x := by
  have hl := (List.getElem?_eq_some_iff.mp hx).1
  unfold atI ixN
  rw [if_pos h0, if_pos (by omega)]
  exact hx
theorem atI_map {α β : Type} (f : α → β) (xs : List α) (i : Int) : atI (xs.map f) i = (atI xs i).map f := by
  unfold atI
  rw [List.length_map]
  cases ixN xs.length i with
  | none => rfl
  | some j => simp
theorem atI_some {α : Type} {xs : List α} {i : Int} (h0 : 0 ≤ i) (h1 : i < xs.length) : ∃ x, atI xs i = some x ∧ x ∈ xs := by
  have hl : i.toNat < xs.length := by omega
  exact ⟨xs[i.toNat], atI_nat h0 (List.getElem?_eq_getElem hl), List.getElem_mem hl⟩
section
variable {α : Type} {x0 x1 x2 x3 x4 : α} {xs : List α}
@[simp] theorem atI_0 : atI (x0 :: xs) 0 = some x0 := atI_nat (Int.le_refl _) rfl
@[simp] theorem atI_1 : atI (x0 :: x1 :: xs) 1 = some x1 := atI_nat (by decide) rfl
@[simp] theorem atI_2 : atI (x0 :: x1 :: x2 :: xs) 2 = some x2 := atI_nat (by decide) rfl
@[simp] theorem atI_3 : atI (x0 :: x1 :: x2 :: x3 :: xs) 3 = some x3 := atI_nat (by decide) rfl
@[simp] theorem atI_4 : atI (x0 :: x1 :: x2 :: x3 :: x4 :: xs) 4 = some x4 := atI_nat (by decide) rfl
end
/-- the last -/
theorem atI_last {α : Type} {xs : List α} : atI xs (-1) = xs.getLast? := by
  unfold atI ixN
  rw [if_neg (by decide)]
  cases xs with
  | nil => rfl
  | cons x r =>
    have h : -((x :: r).length : Int) ≤ -1 := by
      rw [List.length_cons]
      omega
    rw [if_pos h]
    have e : (-1 + (((x :: r).length : Nat) : Int)).toNat = (x :: r).length - 1 := by
      rw [List.length_cons]
      omega
    show (x :: r)[(-1 + (((x :: r).length : Nat) : Int)).toNat]? = _
    rw [e, List.getLast?_eq_getElem?]
end AB
/-! AB: loops and comprehensions whose source stays; in, all, any, max; what defs hand back. -/
namespace AB
open PySem PySem.Spec PyProof.Rows L2

section
variable {α : Type} {p : Pat} {t : MeT} {e : Me} {body : Ms} {all0 : List D} {G0 : Env} {h : AH}
theorem comp_ok (enc : α → D) (q : α → Bool) (f : α → D) : ∀ (xs : List α), (∀ x ∈ xs, ∃ G1, asg p (enc x) G0 = some G1 ∧ t G1 h = .ok (q x) h ∧ (q x = true → e G1 h = .ok (f x) h)) →
    compGo p t e none all0 G0 (xs.map enc) h = .ok ((xs.filter q).map f) h
  | [], _ => by simp [compGo, Still]
  | x :: xs, hx => by
    obtain ⟨G1, e1, e2, e3⟩ := hx x List.mem_cons_self
    have ih := comp_ok enc q f xs fun y hy => hx y (List.mem_cons_of_mem _ hy)
    rw [List.map_cons]
    unfold compGo
    rw [if_pos (by trivial), e1]
    simp only [e2, Res.noX_ok, Res.bind_ok]
    cases hq : q x with
    | true =>
      rw [if_pos rfl, e3 hq, List.filter_cons_of_pos hq]
      simp only [Res.noX_ok, Res.bind_ok, ih, List.map_cons]
    | false =>
      rw [if_neg (by simp), ih, List.filter_cons_of_neg (by simp [hq])]
/-- every element, with no test -/
theorem comp_all (enc : α → D) (f : α → D) (xs : List α) (hx : ∀ x ∈ xs, ∃ G1, asg p (enc x) G0 = some G1 ∧ e G1 h = .ok (f x) h) : compGo p tYesM e none all0 G0 (xs.map enc) h = .ok (xs.map f) h := by
  have := comp_ok (p := p) (t := tYesM) (e := e) (all0 := all0) (G0 := G0) (h := h) enc (fun _ => true) f xs fun x hm => by
    obtain ⟨G1, e1, e2⟩ := hx x hm
    exact ⟨G1, e1, rfl, fun _ => e2⟩
  rw [this, List.filter_eq_self.mpr fun _ _ => rfl]
/-- with a heap that goes on: what is taken is a sublist -/
theorem comp_inv {I : AH → Prop} (enc : α → D) (f : α → D) : ∀ (xs : List α), (∀ x ∈ xs, ∀ h, I h → ∃ G1 b h1, asg p (enc x) G0 = some G1 ∧ t G1 h = .ok b h1 ∧ I h1 ∧ (b = true → ∃ h2, e G1 h1 = .ok (f x) h2 ∧ I h2)) →
    ∀ h, I h → ∃ (ys : List α) (h' : AH), compGo p t e none all0 G0 (xs.map enc) h = .ok (ys.map f) h' ∧ I h' ∧ ys.Sublist xs
  | [], _, h, hI => ⟨[], h, by simp [compGo, Still], hI, .slnil⟩
  | x :: xs, hx, h, hI => by
    obtain ⟨G1, b, h1, e1, e2, hI1, e3⟩ := hx x List.mem_cons_self h hI
    rw [List.map_cons]
    unfold compGo
    rw [if_pos (by trivial), e1]
    simp only [e2, Res.noX_ok, Res.bind_ok]
    cases b with
    | true =>
      obtain ⟨h2, e4, hI2⟩ := e3 rfl
      obtain ⟨ys, h', e5, hI', sl⟩ := comp_inv enc f xs (fun y hy => hx y (List.mem_cons_of_mem _ hy)) h2 hI2
      refine ⟨x :: ys, h', ?_, hI', sl.cons₂ x⟩
      rw [if_pos rfl, e4]
      simp only [Res.noX_ok, Res.bind_ok, e5, List.map_cons]
    | false =>
      obtain ⟨ys, h', e5, hI', sl⟩ := comp_inv enc f xs (fun y hy => hx y (List.mem_cons_of_mem _ hy)) h1 hI1
      refine ⟨ys, h', ?_, hI', sl.cons x⟩
      rw [if_neg (by simp), e5]
/-- a loop that goes on -/
theorem for_inv (I : Env → AH → Prop) (enc : α → D) : ∀ (xs : List α), (∀ x ∈ xs, ∀ G h, I G h → ∃ G1 G2 h2, asg p (enc x) G = some G1 ∧ body G1 h = .next G2 h2 ∧ I G2 h2) →
    ∀ G h, I G h → ∃ G' h', forGo p body none all0 (xs.map enc) G h = .next G' h' ∧ I G' h'
  | [], _, G, h, hI => ⟨G, h, by simp [forGo, Still], hI⟩
  | x :: xs, hx, G, h, hI => by
    obtain ⟨G1, G2, h2, e1, e2, hI2⟩ := hx x List.mem_cons_self G h hI
    obtain ⟨G', h', e3, hI'⟩ := for_inv I enc xs (fun y hy => hx y (List.mem_cons_of_mem _ hy)) G2 h2 hI2
    refine ⟨G', h', ?_, hI'⟩
    rw [List.map_cons]
    unfold forGo
    rw [if_pos (by trivial), e1]
    simp only [e2, e3]
/-- a loop with a count of its turns -/
theorem for_invN (I : Nat → Env → AH → Prop) (enc : Nat → D) (n : Nat) : ∀ (k j : Nat), k + j = n → (∀ i, i < n → ∀ G h, I i G h → ∃ G1 G2 h2, asg p (enc i) G = some G1 ∧ body G1 h = .next G2 h2 ∧ I (i + 1) G2 h2) →
    ∀ G h, I k G h → ∃ G' h', forGo p body none all0 ((List.range' k j).map enc) G h = .next G' h' ∧ I n G' h'
  | k, 0, hk, _, G, h, hI => ⟨G, h, by simp [forGo, Still], by
    have : k = n := by omega
    rw [← this]
    exact hI⟩
  | k, j + 1, hk, hx, G, h, hI => by
    obtain ⟨G1, G2, h2, e1, e2, hI2⟩ := hx k (by omega) G h hI
    obtain ⟨G', h', e3, hI'⟩ := for_invN I enc n (k + 1) j (by omega) hx G2 h2 hI2
    refine ⟨G', h', ?_, hI'⟩
    rw [List.range'_succ, List.map_cons]
    unfold forGo
    rw [if_pos (by trivial), e1]
    simp only [e2, e3]
/-- a loop that ends at the first one found -/
theorem for_find (I : Env → Prop) (enc : α → D) (q : α → Bool) (r : α → D) : ∀ (xs : List α), (∀ x ∈ xs, ∀ G, I G → ∃ G1, asg p (enc x) G = some G1 ∧ (q x = true → body G1 h = .ret (r x) h) ∧ (q x = false → ∃ G2, body G1 h = .next G2 h ∧ I G2)) →
    ∀ G, I G → (∀ x, xs.find? q = some x → forGo p body none all0 (xs.map enc) G h = .ret (r x) h) ∧ (xs.find? q = none → ∃ G', forGo p body none all0 (xs.map enc) G h = .next G' h ∧ I G')
  | [], _, G, hI => ⟨fun x hx => by simp at hx, fun _ => ⟨G, by simp [forGo, Still], hI⟩⟩
  | x :: xs, hx, G, hI => by
    obtain ⟨G1, e1, e2, e3⟩ := hx x List.mem_cons_self G hI
    cases hq : q x with
    | true =>
      refine ⟨fun y hy => ?_, fun hn => ?_⟩
      · rw [List.find?_cons_of_pos hq] at hy
        cases hy
        rw [List.map_cons]
        unfold forGo
        rw [if_pos (by trivial), e1]
        simp only [e2 hq]
      · rw [List.find?_cons_of_pos hq] at hn
        cases hn
    | false =>
      obtain ⟨G2, e4, hI2⟩ := e3 hq
      obtain ⟨i1, i2⟩ := for_find I enc q r xs (fun y hy => hx y (List.mem_cons_of_mem _ hy)) G2 hI2
      have hf : (x :: xs).find? q = xs.find? q := List.find?_cons_of_neg (by simp [hq])
      have hgo : forGo p body none all0 ((x :: xs).map enc) G h = forGo p body none all0 (xs.map enc) G2 h := by
        rw [List.map_cons]
        conv => lhs; unfold forGo
        rw [if_pos (by trivial), e1]
        simp only [e4]
      rw [hf, hgo]
      exact ⟨i1, i2⟩
end
/-! lists of ints as data -/
theorem toPs_ints : ∀ ns : List Int, toPs (ns.map D.int) = some (ns.map PyData.int)
  | [] => rfl
  | n :: ns => by
    show (match toP (D.int n), toPs (ns.map D.int) with | some p, some ps => some (p :: ps) | _, _ => none) = _
    rw [toPs_ints ns]
    rfl
theorem lay_ints : ∀ ns : List Int, PyData.canLayAll0 (ns.map PyData.int) = true
  | [] => by simp [PyData.canLayAll0]
  | n :: ns => by simp [PyData.canLayAll0, PyData.canLay0, lay_ints ns]
theorem dep_ints : ∀ ns : List Int, PyData.depthAll (ns.map PyData.int) = 0
  | [] => by simp [PyData.depthAll]
  | n :: ns => by simp [PyData.depthAll, PyData.depth, dep_ints ns]
theorem shaped_ints (ns : List Int) : SeqAt.shaped (.tuple (ns.map PyData.int)) = true := by
  simp [SeqAt.shaped, PyData.canLay0, PyData.depth, lay_ints, dep_ints]
theorem okP_ints {h : AH} (ns : List Int) : okP h (.tup (ns.map D.int)) = some (.tuple (ns.map PyData.int)) := by
  unfold okP
  have e : toPh h (.tup (ns.map D.int)) = some (.tuple (ns.map PyData.int)) := by
    show (toPs (ns.map D.int)).map PyData.tuple = _
    rw [toPs_ints]
    rfl
  rw [e]
  simp only [shaped_ints, if_true]
theorem any_ints (k : Int) (ns : List Int) : ((ns.map PyData.int).any fun z => PyData.eqv z (.int k)) = decide (k ∈ ns) := by
  induction ns with
  | nil => rfl
  | cons n ns ih =>
    rw [List.map_cons, List.any_cons, ih]
    simp only [PyData.eqv, List.mem_cons]
    by_cases h : n = k
    · subst h
      simp
    · have h2 : ¬ k = n := fun e => h e.symm
      simp [h, h2]
@[simp] theorem v_inT {h : AH} (k : Int) (ns : List Int) : fIn (.int k) (.tup (ns.map D.int)) h = .ok (.bl (decide (k ∈ ns))) h := by
  unfold fIn inD
  rw [okP_int, okP_ints]
  simp only [any_ints]
/-! lists of flags -/
theorem bls_map {α : Type} (f : α → Bool) : ∀ xs : List α, blsOf (xs.map fun x => D.bl (f x)) = some (xs.map f)
  | [] => rfl
  | x :: xs => by
    show (blsOf (xs.map fun x => D.bl (f x))).map (f x :: ·) = _
    rw [bls_map f xs]
    rfl
@[simp] theorem v_all {α : Type} {h : AH} (f : α → Bool) (xs : List α) : fAll [.lst (xs.map fun x => D.bl (f x))] h = .ok (.bl (xs.all f)) h := by
  have e : lBls [.lst (xs.map fun x => D.bl (f x))] h = some (xs.map f) := bls_map f xs
  unfold fAll
  rw [e]
  simp [List.all_map, Function.comp_def]
@[simp] theorem v_any {α : Type} {h : AH} (f : α → Bool) (xs : List α) : fAny [.lst (xs.map fun x => D.bl (f x))] h = .ok (.bl (xs.any f)) h := by
  have e : lBls [.lst (xs.map fun x => D.bl (f x))] h = some (xs.map f) := bls_map f xs
  unfold fAny
  rw [e]
  simp [List.any_map, Function.comp_def]
theorem ints_map : ∀ ns : List Int, intsOf (ns.map D.int) = some ns
  | [] => rfl
  | n :: ns => by
    show (intsOf (ns.map D.int)).map (n :: ·) = _
    rw [ints_map ns]
    rfl
theorem v_max {h : AH} (n : Int) (ns : List Int) : fMax [.lst (D.int n :: ns.map D.int)] h = .ok (.int (maxI (n :: ns))) h := by
  have e : lInts [.lst (D.int n :: ns.map D.int)] h = some (n :: ns) := ints_map (n :: ns)
  unfold fMax
  rw [e]
@[simp] theorem v_addL {h : AH} (xs ys : List D) : fAdd (.lst xs) (.lst ys) h = if xs.length + ys.length ≤ big then .ok (.lst (xs ++ ys)) h else .stuck := id rfl
@[simp] theorem v_addT {h : AH} (xs ys : List D) : fAdd (.tup xs) (.tup ys) h = if xs.length + ys.length ≤ big then .ok (.tup (xs ++ ys)) h else .stuck := id rfl
@[simp] theorem v_enum {h : AH} {G : Env} {as : MeL} : iEnum as G h = (as G h).bind fun xs h1 => match xs with
  | [.tup ds] => .ok (enumD ds, none) h1
  | [d] => match vI d with
    | some ds => .ok (enumD ds, none) h1
    | none => .stuck
  | _ => .stuck := rfl
@[simp] theorem v_zip {h : AH} {G : Env} {as : MeL} : iZip as G h = (as G h).bind fun xs h1 => match xs with
  | [.tup ds, .tup es] => .ok (pairsD ds es, none) h1
  | [d, e] => match vI d, vI e with
    | some ds, some es => .ok (pairsD ds es, none) h1
    | _, _ => .stuck
  | _ => .stuck := rfl
@[simp] theorem v_mSlT {h : AH} {G : Env} {m : Me} {lo hi : MeO} : mSl m lo hi G h = (m G h).bind fun x h1 => (lo G h1).bind fun l h2 => (hi G h2).bind fun u h3 => match x with
  | .tup ds => .ok (.tup (cutD ds l u)) h3
  | d => match vL h3 d with
    | some ds => .ok (.lst (cutD ds l u)) h3
    | none => .stuck := rfl
@[simp] theorem v_sAsg {h : AH} {G : Env} {p : Pat} {m : Me} : sAsg p m G h = (m G h).toS G fun d h1 => match asg p d G with
  | some G1 => .next G1 h1
  | none => .stuck := rfl
theorem enumD_eq (ds : List D) : enumD ds = (List.range ds.length).map fun i : Nat => D.tup [.int (i : Int), ds.getD i .non] := by
  unfold enumD pairsD rangeD
  apply List.ext_getElem?
  intro i
  by_cases hi : i < ds.length
  · simp [List.getElem?_zip_eq_some, hi, List.getD_eq_getElem?_getD]
  · simp [hi]
theorem rangeD_eq (n : Nat) : rangeD 0 n = (List.range n).map fun i : Nat => D.int (i : Int) := by
  unfold rangeD
  simp
theorem rangeD_from (a n : Nat) : rangeD (a : Int) n = (List.range' a n).map fun i : Nat => D.int (i : Int) := by
  unfold rangeD
  rw [List.range'_eq_map_range, List.map_map]
  apply List.map_congr_left
  intro i _
  simp
theorem enumD_len (ds : List D) : (enumD ds).length = ds.length := by rw [enumD_eq]; simp
/-! what defs hand back -/
theorem okCells_app (h t : AH) : OkCells h.length h (h ++ t) := fun m o hm e => .inl (by rwa [List.getElem?_append_left hm] at e)
theorem finD_app (h t : AH) (d : D) (hd : d.under h.length = true) : finD h.length h d (h ++ t) = .ok d h := by
  unfold finD
  by_cases q : (h ++ t).length = h.length
  · have : t = [] := by
      rw [List.length_append] at q
      exact List.eq_nil_of_length_eq_zero (by omega)
    subst this
    simp
  · rw [if_neg q, if_pos ⟨hd, okCells_app h t⟩, List.take_left']
    rfl
@[simp] theorem finD_same (h : AH) (d : D) : finD h.length h d h = .ok d h := by
  unfold finD
  rw [if_pos rfl]
theorem finL_new (h : AH) (ds : List D) (hd : underL h.length ds = true) : finL h.length h (.loc h.length) (h ++ [.lst ds]) = .ok ds h := by
  unfold finL
  have e : (h ++ [AO.lst ds])[h.length]? = some (.lst ds) := by
    rw [List.getElem?_append_right (Nat.le_refl _), Nat.sub_self]
    rfl
  simp only [e]
  rw [if_pos ⟨Nat.le_refl _, hd, okCells_app h _⟩, List.take_left']
  rfl
theorem under_ints (n : Nat) (ns : List Int) : underL n (ns.map D.int) = true := by
  induction ns with
  | nil => simp [underL]
  | cons k ns ih => simp [underL, ih, D.under]
theorem under_intF {α : Type} (n : Nat) (f : α → Int) (xs : List α) : underL n (xs.map fun x => D.int (f x)) = true := by
  induction xs with
  | nil => simp [underL]
  | cons k ns ih => simp [underL, ih, D.under]
theorem cut_from1 {α : Type} (f : α → D) (xs : List α) : cutD (xs.map f) (some 1) none = (xs.drop 1).map f := by
  unfold cutD
  have e : HT.sIx (xs.map f).length 0 (some 1) = min 1 (xs.map f).length := HT.sIx_nat _ _ 1
  have e2 : HT.sIx (xs.map f).length (xs.map f).length none = (xs.map f).length := rfl
  rw [e, e2]
  cases xs with
  | nil => rfl
  | cons x r =>
    have e3 : min 1 ((x :: r).map f).length = 1 := by
      rw [List.length_map, List.length_cons]
      omega
    rw [e3, List.take_of_length_le (by rw [List.length_drop]; exact Nat.le_refl _), List.map_drop]
theorem cut_to {α : Type} (f : α → D) (xs : List α) (n : Nat) : cutD (xs.map f) none (some (n : Int)) = (xs.take n).map f := by
  unfold cutD
  have e : HT.sIx (xs.map f).length (xs.map f).length (some (n : Int)) = min n (xs.map f).length := HT.sIx_nat _ _ n
  have e2 : HT.sIx (xs.map f).length 0 none = 0 := rfl
  rw [e, e2]
  simp [List.map_take]
theorem pairsD_map {α β : Type} (f : α → D) (g : β → D) (xs : List α) (ys : List β) : pairsD (xs.map f) (ys.map g) = (xs.zip ys).map fun p => D.tup [f p.1, g p.2] := by
  unfold pairsD
  rw [List.zip_map, List.map_map]
  rfl
end AB
/-! AB: x += e of ints; defs that leave their objects; raise of an own error. -/
namespace AB
open PySem PySem.Spec PyProof.Rows L2

/-! ### x += e, x -= e -/
def sAug (f : Int → Int → Int) (i : Nat) (m : Me) : Ms := fun G h => match G[i]? with
  | some (some (.int k)) => (m G h).toS G fun y h1 => match y with
    | .int j => .next (G.set i (some (.int (f k j)))) h1
    | _ => .stuck
  | _ => .stuck
section
variable {X : Cx} {W : WX} {x : Str} {e : Expr} {m : Me} {op : Operator} {pos pos' : Pos} {f : Int → Int → Int}
theorem s_aug (i : Nat) (ho : PIp X op (ipI f)) (he : PE X e (TM X W m)) (hN : X.N.Nodup) (hi : X.N[i]? = some x := by rfl) (hx : Loc X.env.scope x := by first | exact Or.inl rfl | exact Or.inr rfl)
    (hf : X.fn x = true ∨ X.env.scope.names.lookup x = some .local := by first | exact .inl rfl | exact .inr rfl) : PS X (.AugAssign (.Name x pos') op e pos) (TSS X W (sAug f i m)) := by
  refine (ps_aug hN hi hx he ho hf).wk fun D σ H ⟨w, G, h, g, r, o⟩ => ?_
  unfold sAug at o
  split at o
  · rename_i k ek
    obtain ⟨v, e1, rv⟩ := g.2 i _ ek
    cases rv
    refine ⟨.int k, e1, w, G, h, g, r, OutS.bindE (m := m) g o fun d h1 v w1 H1 l r1 x o1 => ?_⟩
    split at o1
    · cases x
      exact ⟨_, _, rfl, rfl, o1 _ w1 H1 (Le.refl _) ((g.mono l).set i (.int _)) r1⟩
    · exact o1.elim
  · exact o.elim
end
@[simp] theorem v_sAug {f : Int → Int → Int} {i : Nat} {m : Me} {G : Env} {h : AH} : sAug f i m G h = (match G[i]? with
  | some (some (.int k)) => (m G h).toS G fun y h1 => match y with
    | .int j => .next (G.set i (some (.int (f k j)))) h1
    | _ => .stuck
  | _ => .stuck) := rfl
/-! ### a def whose objects stay -/
def mDefK (n N : Nat) (body : Ms) : Fn := fun ds h => if ds.length = n then
    match body (ds.map some ++ List.replicate (N - n) none) h with
    | .next _ h1 => .ok .non h1
    | .ret d h1 => .ok d h1
    | .exc c fs _ h1 => .exc c fs h1
    | _ => .stuck
  else .stuck
section
variable {P : Program} {w : World} {K : PySem.W.Frag} {mg : Str → Option Value} {base : Heap}
theorem fn_okK {x qual : Str} {st : Stmt} {f : Addr} {fd : FuncData} {N ps : List Str} {k : Nat} (F : Fun K x qual st f fd) (S : FnScope N ps (defScope st)) (m : Ms)
    (hb : ∀ (cdv : Value) (A : Around) (outer : List PySem.Env) (s : Shared) (H : Hp) (E : XK), Room k (A.deeper (envOfC qual (defScope st) s.heap.objs.size f cdv)) →
      PSs (cxOf (L2.CX P w) P w K mg base N qual (defScope st) f cdv A outer s H E) (defBody st) (tS K mg (fun c dd _ H => E c dd H) m)) :
    FnOk P w K mg base (L2.CX P w) (k + 1) f fd ps (spM K mg (mDefK ps.length N.length m)) := by
  refine F.okX S (fun vs H Q E h => ?_) fun cdv A outer s H vs Q E hr h => ⟨_, hb cdv A outer s H E hr, ?_⟩
  · obtain ⟨w, ds, h, ra, r, o⟩ := h
    unfold mDefK at o
    split at o
    · rename_i e
      rw [ra.length]
      exact e
    · exact o.elim
  · obtain ⟨w, ds, h, ra, r, o⟩ := h
    unfold mDefK at o
    split at o
    · rename_i e
      refine ⟨w, _, h, start_rep ra, r, ?_⟩
      rw [e]
      cases em : m (ds.map some ++ List.replicate (N.length - ps.length) none) h with
      | next G1 h1 =>
        rw [em] at o
        exact fun σ' w1 H1 l g r1 => o .non w1 H1 l r1 .non
      | ret d h1 =>
        rw [em] at o
        exact fun v w1 H1 l r1 rv => o v w1 H1 l r1 rv
      | brk G1 h1 => rw [em] at o; exact o.elim
      | cont G1 h1 => rw [em] at o; exact o.elim
      | stuck => rw [em] at o; exact o.elim
      | exc c fs G1 h1 =>
        rw [em] at o
        exact fun cls dd σ' w1 H1 e l g r1 x => o cls dd w1 H1 e l r1 x
    · exact o.elim
end
/-! ### raise C(), C an own class over ValueError without an own __init__ -/
structure ExcK (K : PySem.W.Frag) (mg : Str → Option Value) (x : Str) : Prop where
  ex : ∃ (C : Addr) (bmB : List Value), mg x = some (.ref C) ∧ ExcBaseFacts "ValueError" "ValueError.__new__" "ValueError.__init__" bmB ∧ PySem.W.excIn K C bmB "ValueError.__new__" = true ∧ PySem.W.keepIn K (.ref C) = true ∧
    PySem.W.subIn K (.ref C) (.type "BaseException") = some true ∧ PySem.W.typeIn K (.ref C) = some (.type "type")
section
variable {X : Cx} {W : WX} {x : Str} {p pos pos' : Pos}
theorem pmk_own0 {C : Addr} {bmB : List Value} {B newId initId : String} (F : ExcBaseFacts B newId initId bmB) (q : PySem.W.excIn X.K C bmB newId = true) (gC : X.mg x = some (.ref C))
    (kC : PySem.W.keepIn X.K (.ref C) = true) (r : Raises X (.ref C)) (hg : Gl X x) (hdb : (x == ("__debug__" : Str)) = false := by decide) :
    PMk X (.Call (.Name x p) [] [] pos) (fun σ H Q => Q (.ref C) none H) := by
  intro pins s σ H Q I h
  refine wpAny_Call_Name_kw (ld_glob I hg gC ?_ hdb)
  refine PySem.W.callWith_K0 I.kIn kC ?_
  show wpAny _ _ (call (.ref C) []) _ _ _
  obtain ⟨bm, N, nm, qn, bs, hdct, sn, sub, ab, col, dd, k0, k1, k2, k3, k5, mN, hC, hN, hni, T⟩ := exc_obj I.kIn q
  refine wpAny_call_exc_subT F T hC hN hni (fun h' e hm => ?_) (Nat.zero_le _)
  exact mk_of I hm r h (I.hok.gone hm.new)
theorem s_raise0 (E : ExcK X.K X.mg x) (tk : Takes X W) (hc : X.calm = true := by rfl) (hg : Gl X x := by rfl) (hdb : (x == ("__debug__" : Str)) = false := by decide) : PS X (.Raise (some (.Call (.Name x p) [] [] pos)) none pos') (TSS X W (sRaise x)) := by
  obtain ⟨C, bmB, h1, h2, h3, h4, h5, h6⟩ := E.ex
  refine (L2.ps_raise hc tk (pmk_own0 h2 h3 h1 h4 (raises_own h5 h6) hg hdb)).wk fun D σ H ⟨w, G, h, g, r, o⟩ => ?_
  have o : ∀ cls dd σ' w' H', X.mg x = some cls → Le w w' → RepG X.K w' σ' G → RepH X.K w' H' h → RepX X.K w' H' dd [] → W cls dd σ' H' := o
  exact o (.ref C) none σ w H h1 (Le.refl _) g r trivial
end
theorem spM_stuck {K : PySem.W.Frag} {mg : Str → Option Value} {vs : List V} {H : Hp} {Q : VK} {E : XK} (h : spM K mg (fun _ _ => .stuck) vs H Q E) : False := by
  obtain ⟨w, ds, h, ra, r, o⟩ := h
  exact o
end AB
/-! AB: t * k of tuples. -/
namespace AB
open PySem PySem.Spec PyProof.Rows L2
open Sem (wp)
open AutoSeq1 (wpAny_loadPart')
theorem tuple_mul1 (l : Addr) (items : Array Value) (n : Nat) (dd : Option Addr) (sl : Array (Option Value)) (u : Tok) :
    Meets (Builtin.«tuple.__mul__» ⟨[.ref l, .int 1 u], []⟩) (fun _ R s => s.heap.get? l = some { cls := .type "tuple", dict := dd, data := .seq items n, slots := sl } ∧ R (.ok (.ret (Value.ref l))) s) :=
  .of_wp fun prog w A R s h => by
    obtain ⟨hp, g, d, tk, os⟩ := s
    obtain ⟨hl, h⟩ := h
    have f1 := AutoSeq1.idx_int
    have c0 : (decide ((1 : Int) < -(2 ^ 63)) || decide ((1 : Int) ≥ 2 ^ 63)) = false := by decide
    have c1 : (items.isEmpty || (1 : Int) == 1) = true := by simp
    wp_walk using wpAny_loadPart' hl
    exact ⟨_, rfl, h⟩
def rRepT1 (K : PySem.W.Frag) : R2 := fun x y H Q => ∃ l xs, x = .ref l ∧ y = .int 1 ∧ SqT K H l xs ∧ Q (.ref l) H
section
variable {X : Cx} {W : WX}
theorem op_repT1 : OpR X (binaryOp .Mult) (rRepT1 X.K) := by
  intro pins s σ H x y v u Q I rx ry h
  obtain ⟨l, xs, rfl, rfl, hT, q⟩ := h
  cases rx
  obtain ⟨t, rfl⟩ := ry
  obtain ⟨its, r, ⟨⟨cls, dd, data, sl⟩, ho, hc, n, hd⟩, hs⟩ := I.tuple hT
  simp only at hc hd
  subst hc hd
  exact wpAny_binaryOp_repeat_ref (T := "tuple") (U := "int") (by decide) ⟨_, ho, rfl⟩ (fun s' => typeIs_int s' 1 t) noFill_tuple_mul F.fills_int_mul F.slot_int_rmul repeat_tuple F.slot_int_index.lookup
    (call_meets F.slot_int_rmul (typeIs_int s 1 t) F.entry_int_rmul (F.args_int_rmul_2 _ _) (int_rmul_tuple 1 t l its.toArray n dd sl)
      ⟨ho, rfl, ⟨_, ho, rfl⟩, call_meets F.slot_tuple_mul ⟨_, ho, rfl⟩ F.entry_tuple_mul (F.args_tuple_mul_2 _ _) (tuple_mul1 l its.toArray n dd sl t) ⟨ho, ⟨.ref l, H, I, rfl, q⟩⟩⟩)
def fMulA (x y : D) (h : AH) : Res D := match x, y with
  | .tup xs, .int k => if k = 1 then .ok (.tup xs) h else if 2 ≤ k ∧ k ≤ 1000 ∧ 1 ≤ xs.length ∧ xs.length ≤ 1000 then .ok (.tup (List.replicate k.toNat xs).flatten) h else .stuck
  | x, y => fMul x y h
def rMulA (K : PySem.W.Frag) : R2 := fun x y H Q => rI CMul (fun i j => .int (i * j)) x y H Q ∨ (rRepT1 K x y H Q ∨ rRepT K x y H Q)
theorem op_mulA : OpR X (binaryOp .Mult) (rMulA X.K) := OpR.or op_mul (OpR.or op_repT1 op_repT)
theorem ra_rep {K : PySem.W.Frag} {w : Wd} {vs : List V} {ds : List D} (h : Ra K w vs ds) : ∀ k : Nat, Ra K w (List.replicate k vs).flatten (List.replicate k ds).flatten
  | 0 => .nil
  | k + 1 => by
    rw [List.replicate_succ, List.replicate_succ, List.flatten_cons, List.flatten_cons]
    exact h.append (ra_rep h k)
theorem fol_mulA : Fol2 X W fMulA (rMulA X.K) := by
  intro w h H σ Q v1 v2 d1 d2 rh r1 r2 o
  unfold fMulA at o
  split at o
  · rename_i xs k
    cases r2
    cases r1 with
    | @tup a vs _ h1 h2 =>
      split at o
      · rename_i e
        subst e
        exact .inr (.inl ⟨a, vs, rfl, rfl, rh.ex.t h1, out_ok o rh (.tup h1 h2)⟩)
      · split at o
        · rename_i c
          have hl := h2.length
          refine .inr (.inr ⟨a, k, vs, rfl, rfl, rh.ex.t h1, fun z => ?_, c.1, c.2.1, by omega, fun p hp => out_add o rh hp (rv_tup rh hp (ra_rep h2 _))⟩)
          rw [z] at hl
          simp at hl
          omega
        · exact o.elim
  · exact .inl (fol_mul w h H σ Q v1 v2 _ _ rh r1 r2 o)
end
end AB
/-! AB: comprehensions and loops that change the heap. -/
namespace AB
open PySem PySem.Spec PyProof.Rows L2
section
variable {α : Type} {p : Pat} {t : MeT} {e : Me} {body : Ms} {all0 : List D} {G0 : Env} {h : AH}
/-- every element, made by a step that changes the heap -/
theorem comp_gen {I : AH → Prop} {R : α → D → Prop} (enc : α → D) : ∀ (xs : List α), (∀ x ∈ xs, ∀ h, I h → ∃ G1 d h1, asg p (enc x) G0 = some G1 ∧ e G1 h = .ok d h1 ∧ I h1 ∧ R x d) →
    ∀ h, I h → ∃ (zs : List (α × D)) (h' : AH), compGo p tYesM e none all0 G0 (xs.map enc) h = .ok (zs.map (·.2)) h' ∧ I h' ∧ zs.map (·.1) = xs ∧ ∀ z ∈ zs, R z.1 z.2
  | [], _, h, hI => ⟨[], h, by simp [compGo, Still], hI, rfl, by simp⟩
  | x :: xs, hx, h, hI => by
    obtain ⟨G1, d, h1, e1, e2, hI1, hr⟩ := hx x List.mem_cons_self h hI
    obtain ⟨zs, h', e3, hI', e4, hz⟩ := comp_gen (R := R) enc xs (fun y hy => hx y (List.mem_cons_of_mem _ hy)) h1 hI1
    refine ⟨(x, d) :: zs, h', ?_, hI', by rw [List.map_cons, e4], fun z hz' => ?_⟩
    · rw [List.map_cons]
      unfold compGo
      rw [if_pos (by trivial), e1]
      simp only [v_yes, Res.noX_ok, Res.bind_ok, if_true, e2, e3, List.map_cons]
    · rcases List.mem_cons.mp hz' with rfl | hz'
      · exact hr
      · exact hz z hz'
/-- a loop that knows what is behind it -/
theorem for_pre (I : List α → Env → AH → Prop) (enc : α → D) (xs : List α) : ∀ (todo done : List α), done ++ todo = xs →
    (∀ done x rest, done ++ x :: rest = xs → ∀ G h, I done G h → ∃ G1 G2 h2, asg p (enc x) G = some G1 ∧ body G1 h = .next G2 h2 ∧ I (done ++ [x]) G2 h2) →
    ∀ G h, I done G h → ∃ G' h', forGo p body none all0 (todo.map enc) G h = .next G' h' ∧ I xs G' h'
  | [], done, e, _, G, h, hI => by
    rw [List.append_nil] at e
    subst e
    exact ⟨G, h, by simp [forGo, Still], hI⟩
  | x :: r, done, e, hx, G, h, hI => by
    obtain ⟨G1, G2, h2, e1, e2, hI2⟩ := hx done x r e G h hI
    obtain ⟨G', h', e3, hI'⟩ := for_pre I enc xs r (done ++ [x]) (by rw [List.append_assoc]; exact e) hx G2 h2 hI2
    refine ⟨G', h', ?_, hI'⟩
    rw [List.map_cons]
    unfold forGo
    rw [if_pos (by trivial), e1]
    simp only [e2, e3]
end
/-! while: any fuel that is enough -/
section
variable {t : MeT} {b : Ms}
theorem whileGo_mono : ∀ (n : Nat) (G : Env) (h : AH), whileGo t b n G h ≠ .stuck → whileGo t b (n + 1) G h = whileGo t b n G h
  | 0, _, _, hn => absurd rfl hn
  | n + 1, G, h, hn => by
    have e1 : whileGo t b (n + 1) G h = (t G h).toS G fun c h1 => if c = true then
      match b G h1 with
      | .next G2 h2 => whileGo t b n G2 h2
      | .cont G2 h2 => whileGo t b n G2 h2
      | .brk G2 h2 => .next G2 h2
      | .ret x h2 => .ret x h2
      | .exc c fs G2 h2 => .exc c fs G2 h2
      | .stuck => .stuck
    else .next G h1 := rfl
    have e2 : whileGo t b (n + 1 + 1) G h = (t G h).toS G fun c h1 => if c = true then
      match b G h1 with
      | .next G2 h2 => whileGo t b (n + 1) G2 h2
      | .cont G2 h2 => whileGo t b (n + 1) G2 h2
      | .brk G2 h2 => .next G2 h2
      | .ret x h2 => .ret x h2
      | .exc c fs G2 h2 => .exc c fs G2 h2
      | .stuck => .stuck
    else .next G h1 := rfl
    rw [e1] at hn
    rw [e2, e1]
    cases ec : t G h with
    | exc c fs h1 => rfl
    | stuck => rfl
    | ok c h1 =>
      rw [ec] at hn
      simp only [Res.toS_ok] at hn ⊢
      cases c with
      | false => rfl
      | true =>
        simp only [if_true] at hn ⊢
        cases eb : b G h1 with
        | next G2 h2 =>
          rw [eb] at hn
          exact whileGo_mono n G2 h2 hn
        | cont G2 h2 =>
          rw [eb] at hn
          exact whileGo_mono n G2 h2 hn
        | brk G2 h2 => rfl
        | ret x h2 => rfl
        | exc c fs G2 h2 => rfl
        | stuck => rfl
theorem whileGo_le {n m : Nat} {G : Env} {h : AH} (hn : whileGo t b n G h ≠ .stuck) (hm : n ≤ m) : whileGo t b m G h = whileGo t b n G h := by
  obtain ⟨d, rfl⟩ : ∃ d, m = n + d := ⟨m - n, by omega⟩
  induction d with
  | zero => rfl
  | succ d ih =>
    have ih := ih (by omega)
    rw [← Nat.add_assoc, whileGo_mono (n + d) G h (by rw [ih]; exact hn), ih]
theorem while_ok {n : Nat} {G : Env} {h : AH} {r : SR} (e : whileGo t b n G h = r) (hr : r ≠ .stuck) : sWhile t b G h = r := by
  have hn : whileGo t b n G h ≠ .stuck := by rw [e]; exact hr
  unfold sWhile
  rw [dif_pos ⟨n, hn⟩]
  have hc := Classical.choose_spec (⟨n, hn⟩ : ∃ n, whileGo t b n G h ≠ .stuck)
  generalize Classical.choose (⟨n, hn⟩ : ∃ n, whileGo t b n G h ≠ .stuck) = m at hc
  rcases Nat.le_total n m with q | q
  · rw [whileGo_le hn q, e]
  · rw [← whileGo_le hc q, e]
end
/-! loops over an object that stays meanwhile -/
section
variable {α : Type} {p : Pat} {t : MeT} {e : Me} {body : Ms} {all0 : List D} {G0 : Env} {src : Option Nat}
theorem for_preS (I : List α → Env → AH → Prop) (hs : ∀ done G h, I done G h → Still src all0 h) (enc : α → D) (xs : List α) : ∀ (todo done : List α), done ++ todo = xs →
    (∀ done x rest, done ++ x :: rest = xs → ∀ G h, I done G h → ∃ G1 G2 h2, asg p (enc x) G = some G1 ∧ body G1 h = .next G2 h2 ∧ I (done ++ [x]) G2 h2) →
    ∀ G h, I done G h → ∃ G' h', forGo p body src all0 (todo.map enc) G h = .next G' h' ∧ I xs G' h'
  | [], done, e, _, G, h, hI => by
    rw [List.append_nil] at e
    subst e
    refine ⟨G, h, ?_, hI⟩
    rw [List.map_nil]
    unfold forGo
    rw [if_pos (hs _ G h hI)]
  | x :: r, done, e, hx, G, h, hI => by
    obtain ⟨G1, G2, h2, e1, e2, hI2⟩ := hx done x r e G h hI
    obtain ⟨G', h', e3, hI'⟩ := for_preS I hs enc xs r (done ++ [x]) (by rw [List.append_assoc]; exact e) hx G2 h2 hI2
    refine ⟨G', h', ?_, hI'⟩
    rw [List.map_cons]
    unfold forGo
    rw [if_pos (hs _ G h hI), e1]
    simp only [e2, e3]
theorem comp_okS {h : AH} (hs : Still src all0 h) (enc : α → D) (q : α → Bool) (f : α → D) : ∀ (xs : List α), (∀ x ∈ xs, ∃ G1, asg p (enc x) G0 = some G1 ∧ t G1 h = .ok (q x) h ∧ (q x = true → e G1 h = .ok (f x) h)) →
    compGo p t e src all0 G0 (xs.map enc) h = .ok ((xs.filter q).map f) h
  | [], _ => by
    rw [List.map_nil]
    unfold compGo
    rw [if_pos hs]
    rfl
  | x :: xs, hx => by
    obtain ⟨G1, e1, e2, e3⟩ := hx x List.mem_cons_self
    have ih := comp_okS hs enc q f xs fun y hy => hx y (List.mem_cons_of_mem _ hy)
    rw [List.map_cons]
    unfold compGo
    rw [if_pos hs, e1]
    simp only [e2, Res.noX_ok, Res.bind_ok]
    cases hq : q x with
    | true =>
      rw [if_pos rfl, e3 hq, List.filter_cons_of_pos hq]
      simp only [Res.noX_ok, Res.bind_ok, ih, List.map_cons]
    | false =>
      rw [if_neg (by simp), ih, List.filter_cons_of_neg (by simp [hq])]
end
end AB
/-! AB: classes: making, attributes, methods. -/
namespace AB
open PySem PySem.Spec PyProof.Rows L2

section
variable {K : PySem.W.Frag} {w : Wd} {H : Hp} {h : AH}
theorem RepH.fresh (r : RepH K w H h) {p : Addr} (u : HO) (hp : H p = none) : RepH K w (upd H p u) h ∧ Apart w p := by
  refine ⟨⟨fun a x e => ?_, r.len, r.inj, fun n o' e => ?_, fun a x e => by rw [upd_ne (ne_of_none (r.exF _ _ e) hp)]; exact r.exF _ _ e, r.dis⟩, r.ex.free hp, fun n hn => r.ne hn hp, r.exF.free hp⟩
  · have e2 := r.ex _ _ e
    rw [upd_ne (ne_of_none e2 hp)]
    exact e2
  · obtain ⟨a, b⟩ := r.cell n o' e
    have hn : n < w.N := by
      rw [r.len]
      exact (List.getElem?_eq_some_iff.mp e).1
    exact ⟨a, b.mono (Le.refl _) (upd_ne (r.ne hn hp))⟩
theorem RepH.newO (r : RepH K w H h) {p : Addr} {u : HO} {o : AO} (hp : H p = none) (ro : RepO K (w.push p) (upd H p u) p o) : RepH K (w.push p) (upd H p u) (h ++ [o]) :=
  let ⟨r1, ap⟩ := r.fresh u hp
  r1.push ap ro
/-- a machine's object as a value -/
theorem rv_loc {n : Nat} {v : V} (rv : Rv K w v (.loc n)) : v = .ref (w.mu n) ∧ n < w.N := by
  cases rv with
  | loc hn => exact ⟨rfl, hn⟩
theorem rv_new (p : Addr) : Rv K (w.push p) (.ref p) (.loc w.N) := by
  have h : Rv K (w.push p) (.ref ((w.push p).mu w.N)) (.loc w.N) := .loc (Nat.lt_succ_self _)
  rw [w.push_mu p] at h
  exact h
end

/-! ### rows of named things -/
def putD (f : Str) (d : D) : List (Str × D) → List (Str × D)
  | [] => [(f, d)]
  | (g, x) :: r => if g = f then (g, d) :: r else (g, x) :: putD f d r
section
variable {K : PySem.W.Frag} {G : Hp} {mu : Nat → Addr} {N : Nat}
theorem rep_lookup (f : Str) : ∀ {fv : List (Str × V)} {fs : List (Str × D)}, fv.map (·.1) = fs.map (·.1) → RepAll K G mu N (fv.map (·.2)) (fs.map (·.2)) →
    (∀ d, fs.lookup f = some d → ∃ v, fv.lookup f = some v ∧ RepV K G mu N v d) ∧ (fs.lookup f = none → fv.lookup f = none)
  | [], [], _, _ => ⟨fun d e => (by cases e), fun _ => rfl⟩
  | [], _ :: _, e, _ => by cases e
  | _ :: _, [], e, _ => by cases e
  | (g, v) :: fv, (g', d) :: fs, e, r => by
    rw [List.map_cons, List.map_cons] at e r
    cases r with
    | cons r1 r2 =>
      obtain ⟨e1, e2⟩ := List.cons.inj e
      have e1 : g = g' := e1
      subst e1
      obtain ⟨i1, i2⟩ := rep_lookup f e2 r2
      refine ⟨fun x q => ?_, fun q => ?_⟩
      · rw [List.lookup_cons] at q ⊢
        cases c : f == g with
        | true =>
          rw [c] at q
          cases q
          exact ⟨v, rfl, r1⟩
        | false =>
          rw [c] at q
          exact i1 x q
      · rw [List.lookup_cons] at q ⊢
        cases c : f == g with
        | true => rw [c] at q; cases q
        | false =>
          rw [c] at q
          exact i2 q
theorem rep_put (f : Str) {v : V} {d : D} (rv : RepV K G mu N v d) : ∀ {fv : List (Str × V)} {fs : List (Str × D)}, fv.map (·.1) = fs.map (·.1) → RepAll K G mu N (fv.map (·.2)) (fs.map (·.2)) →
    (putF f v fv).map (·.1) = (putD f d fs).map (·.1) ∧ RepAll K G mu N ((putF f v fv).map (·.2)) ((putD f d fs).map (·.2))
  | [], [], _, _ => ⟨rfl, .cons rv .nil⟩
  | [], _ :: _, e, _ => by cases e
  | _ :: _, [], e, _ => by cases e
  | (g, x) :: fv, (g', y) :: fs, e, r => by
    rw [List.map_cons, List.map_cons] at e r
    cases r with
    | cons r1 r2 =>
      obtain ⟨e1, e2⟩ := List.cons.inj e
      have e1 : g = g' := e1
      subst e1
      obtain ⟨i1, i2⟩ := rep_put f rv e2 r2
      unfold putF putD
      by_cases c : g = f
      · rw [if_pos c, if_pos c]
        exact ⟨by rw [List.map_cons, List.map_cons, e2], .cons rv r2⟩
      · rw [if_neg c, if_neg c]
        exact ⟨by rw [List.map_cons, List.map_cons, i1], .cons r1 i2⟩
end

/-! ### attributes -/
structure FldOk (K : PySem.W.Frag) (C f : Str) : Prop where
  get : ∀ Ca, PySem.W.nsIn K mainGlobals C = some (some (.ref Ca)) → Cls K Ca ∧ NoAttr K Ca f
/-- the class by its place -/
theorem fldOk {K : PySem.W.Frag} {C f : Str} {Ca : Addr} (e : PySem.W.nsIn K mainGlobals C = some (some (.ref Ca))) (c : Cls K Ca) (n : NoAttr K Ca f) : FldOk K C f := ⟨fun Cb e2 => by
  rw [e] at e2
  cases e2
  exact ⟨c, n⟩⟩
def AllC (p : Str → Prop) : List Str → Prop
  | [] => True
  | C :: cs => p C ∧ AllC p cs
theorem AllC.mem {p : Str → Prop} : ∀ {cs : List Str}, AllC p cs → ∀ C ∈ cs, p C
  | _ :: _, ⟨h1, h2⟩, C, hc => by
    rcases List.mem_cons.mp hc with rfl | hc
    · exact h1
    · exact AllC.mem h2 C hc
theorem AllC.n {p : Str → Prop} : AllC p [] := trivial
theorem AllC.c {p : Str → Prop} {C : Str} {cs : List Str} (h : p C) (t : AllC p cs) : AllC p (C :: cs) := ⟨h, t⟩
/-- o.f -/
def mFld (cs : List Str) (f : Str) (o : Me) : Me := fun G h => (o G h).bind fun d h1 => match d with
  | .loc n => match h1[n]? with
    | some (.ins C fs) => if C ∈ cs then match fs.lookup f with
      | some x => .ok x h1
      | none => .stuck
      else .stuck
    | _ => .stuck
  | _ => .stuck
/-- o.f = v -/
def sFldM (cs : List Str) (f : Str) (o v : Me) : Ms := fun G h => (v G h).toS G fun x h1 => (o G h1).toS G fun d h2 => match d with
  | .loc n => match h2[n]? with
    | some (.ins C fs) => if C ∈ cs ∧ fs.length < 1000 then .next G (h2.set n (.ins C (putD f x fs))) else .stuck
    | _ => .stuck
  | _ => .stuck
/-- o.f += e, of ints -/
def sFldA (g : Int → Int → Int) (cs : List Str) (f : Str) (o v : Me) : Ms := fun G h => (o G h).toS G fun d h1 => match d with
  | .loc n => match h1[n]? with
    | some (.ins C fs) => if C ∈ cs then match fs.lookup f with
      | some (.int i) => (v G h1).toS G fun y h2 => match y, h2[n]? with
        | .int j, some (.ins C2 fs2) => if C2 = C ∧ fs2.length < 1000 then .next G (h2.set n (.ins C (putD f (.int (g i j)) fs2))) else .stuck
        | _, _ => .stuck
      | _ => .stuck
      else .stuck
    | _ => .stuck
  | _ => .stuck
section
variable {X : Cx} {W : WX} {o e value : Expr} {f : Str} {pos pos' tpos : Pos} {m mo mv : Me} {cs : List Str}
theorem e_fld (cs : List Str) (he : PE X e (TM X W m)) (hc : AllC (fun C => FldOk X.K C f) cs) (hb : attributeBase e f X.env (eval e X.env) = eval e X.env := by rfl) : PE X (.Attribute e f pos) (TM X W (mFld cs f m)) := by
  refine (pe_fld he hb).wk fun σ H Q ⟨w, G, h, g, r, o⟩ => ⟨w, G, h, g, r, o.bindE fun d h1 v w1 H1 l r1 x o1 => ?_⟩
  split at o1
  · rename_i n
    obtain ⟨rfl, hn⟩ := rv_loc x
    split at o1
    · rename_i C fs ec
      split at o1
      · rename_i hC
        split at o1
        · rename_i y ey
          obtain ⟨_, Ca, dx, fv, e1, e2, e3, ra, _⟩ := r1.cell n _ ec
          obtain ⟨c1, c2⟩ := (hc.mem C hC).get Ca e1
          obtain ⟨u, eu, ru⟩ := (rep_lookup f e3 ra).1 y ey
          exact ⟨_, Ca, dx, fv, u, rfl, e2, c1, c2, eu, o1 u w1 H1 (Le.refl _) r1 ru⟩
        · exact o1.elim
      · exact o1.elim
    · exact o1.elim
  · exact o1.elim
theorem set_ins {w : Wd} {H : Hp} {h : AH} {n : Nat} {C : Str} {fs : List (Str × D)} {Ca dx : Addr} {fv : List (Str × V)} (f : Str) {v : V} {d : D} (r : RepH X.K w H h) (hn : n < w.N) (e1 : PySem.W.nsIn X.K mainGlobals C = some (some (.ref Ca)))
    (e3 : fv.map (·.1) = fs.map (·.1)) (ra : RepAll X.K w.S w.mu w.N (fv.map (·.2)) (fs.map (·.2))) (es : w.S dx = some (.own (w.mu n))) (rv : Rv X.K w v d) :
    RepH X.K w (upd H (w.mu n) (.ins Ca dx (putF f v fv))) (h.set n (.ins C (putD f d fs))) := by
  obtain ⟨q1, q2⟩ := rep_put f rv e3 ra
  exact r.set hn ⟨Ca, dx, putF f v fv, e1, upd_same, q1, q2, es⟩
theorem fv_len {fv : List (Str × V)} {fs : List (Str × D)} (e : fv.map (·.1) = fs.map (·.1)) : fv.length = fs.length := by
  have := congrArg List.length e
  simpa using this
theorem s_fld (cs : List Str) (ho : PE X o (TM X W mo)) (hv : PE X value (TM X W mv)) (hc : AllC (fun C => FldOk X.K C f) cs) (hs : swapsWith value (some (.Attribute o f pos')) pos.line X.env = pure false := by rfl) :
    PS X (.Assign [.Attribute o f pos'] value pos) (TSS X W (sFldM cs f mo mv)) := by
  refine (ps_fld ho hv hs).wk fun D σ H ⟨w, G, h, g, r, o⟩ => ⟨w, G, h, g, r, OutS.bindE (m := mv) g o fun x h1 v w1 H1 l1 r1 rx o1 => ?_⟩
  have g1 := g.mono l1
  refine ⟨w1, G, h1, g1, r1, OutS.bindE (m := mo) g1 o1 fun d h2 v2 w2 H2 l2 r2 rd o2 => ?_⟩
  split at o2
  · rename_i n
    obtain ⟨rfl, hn⟩ := rv_loc rd
    split at o2
    · rename_i C fs ec
      split at o2
      · rename_i hC
        obtain ⟨_, Ca, dx, fv, e1, e2, e3, ra, es⟩ := r2.cell n _ ec
        obtain ⟨c1, c2⟩ := (hc.mem C hC.1).get Ca e1
        exact ⟨_, Ca, dx, fv, rfl, e2, c1, c2, by rw [fv_len e3]; exact hC.2, o2 σ w2 _ (Le.refl _) (g1.mono l2) (set_ins f r2 hn e1 e3 ra es (Rv_mono l2 rx))⟩
      · exact o2.elim
    · exact o2.elim
  · exact o2.elim
theorem s_fldA {op : Operator} {gg : Int → Int → Int} (cs : List Str) (hop : InOp X op (fun x y H Q => ∃ i j, x = .int i ∧ y = .int j ∧ Q (.int (gg i j)) H)) (ho : PE X o (TM X W mo)) (hv : PE X value (TM X W mv)) (hc : AllC (fun C => FldOk X.K C f) cs) :
    PS X (.AugAssign (.Attribute o f tpos) op value pos) (TSS X W (sFldA gg cs f mo mv)) := by
  refine (ps_fldaug ho hv hop).wk fun D σ H ⟨w, G, h, g, r, o⟩ => ⟨w, G, h, g, r, OutS.bindE (m := mo) g o fun d h1 v1 w1 H1 l1 r1 rd o1 => ?_⟩
  have g1 := g.mono l1
  split at o1
  · rename_i n
    obtain ⟨rfl, hn⟩ := rv_loc rd
    split at o1
    · rename_i C fs ec
      split at o1
      · rename_i hC
        split at o1
        · rename_i i ei
          obtain ⟨_, Ca, dx, fv, e1, e2, e3, ra, es⟩ := r1.cell n _ ec
          obtain ⟨u, eu, ru⟩ := (rep_lookup f e3 ra).1 _ ei
          cases ru
          obtain ⟨c1, c2⟩ := (hc.mem C hC).get Ca e1
          refine ⟨_, Ca, dx, fv, .int i, rfl, e2, c1, c2, eu, w1, G, h1, g1, r1, OutS.bindE (m := mv) g1 o1 fun y h2 v2 w2 H2 l2 r2 ry o2 => ?_⟩
          split at o2
          · rename_i j C2 fs2 ec2
            split at o2
            · rename_i hh
              obtain ⟨hh1, hh3⟩ := hh
              subst hh1
              cases ry
              obtain ⟨_, Cb, dx2, fv2, e1', e2', e3', ra', es'⟩ := r2.cell n _ ec2
              have emu : w2.mu n = w1.mu n := l2.mu n hn
              have eC : Cb = Ca := by
                rw [e1] at e1'
                cases e1'
                rfl
              subst eC
              have hn2 : n < w2.N := Nat.lt_of_lt_of_le hn l2.n
              refine ⟨i, _, rfl, rfl, dx2, fv2, by rw [← emu]; exact e2', by rw [fv_len e3']; exact hh3, ?_⟩
              rw [← emu]
              exact o2 σ w2 _ (Le.refl _) (g1.mono l2) (set_ins f r2 hn2 e1' e3' ra' es' (.int _))
            · exact o2.elim
          · exact o2.elim
        · exact o1.elim
      · exact o1.elim
    · exact o1.elim
  · exact o1.elim
end
end AB
/-! AB: calls of methods, making of instances. -/
namespace AB
open PySem PySem.Spec PyProof.Rows L2

structure MthOk (P : Program) (w : World) (K : PySem.W.Frag) (mg : Str → Option Value) (base : Heap) (C m : Str) (k : Nat) (ps : List Str) (sp : Sp) : Prop where
  get : ∀ Ca, PySem.W.nsIn K mainGlobals C = some (some (.ref Ca)) → Cls K Ca ∧ ∃ f fd, Meth K Ca m f ∧ Binds K fd ps [] ∧ FnOk P w K mg base (L2.CX P w) k f fd ps sp
theorem mthOk {P : Program} {w : World} {K : PySem.W.Frag} {mg : Str → Option Value} {base : Heap} {C m : Str} {k : Nat} {ps : List Str} {sp : Sp} {Ca f : Addr} {fd : FuncData} (e : PySem.W.nsIn K mainGlobals C = some (some (.ref Ca))) (c : Cls K Ca)
    (hm : Meth K Ca m f) (hb : Binds K fd ps []) (F : FnOk P w K mg base (L2.CX P w) k f fd ps sp) : MthOk P w K mg base C m k ps sp := ⟨fun Cb e2 => by
  rw [e] at e2
  cases e2
  exact ⟨c, f, fd, hm, hb, F⟩⟩
structure MakOk (P : Program) (w : World) (K : PySem.W.Frag) (mg : Str → Option Value) (base : Heap) (C : Str) (k : Nat) (ps : List Str) (sp : Sp) : Prop where
  ex : ∃ Ca f fd, PySem.W.nsIn K mainGlobals C = some (some (.ref Ca)) ∧ mg C = some (.ref Ca) ∧ Mk K Ca f ∧ Binds K fd ps [] ∧ FnOk P w K mg base (L2.CX P w) k f fd ps sp
def TbOk (X : Cx) (k' : Nat) (m : Str) (tb : List (Str × Fn)) : Prop := ∀ C fn, tb.lookup C = some fn → ∃ k ps, k ≤ k' ∧ MthOk X.prog X.w X.K X.mg X.base C m k ps (spM X.K X.mg fn)
theorem tb_nil {X : Cx} {k' : Nat} {m : Str} : TbOk X k' m [] := fun C fn e => by cases e
theorem tb_cons {X : Cx} {k k' : Nat} {m C : Str} {ps : List Str} {fn : Fn} {tb : List (Str × Fn)} (h : MthOk X.prog X.w X.K X.mg X.base C m k ps (spM X.K X.mg fn)) (t : TbOk X k' m tb) (hk : k ≤ k' := by first | decide | omega) : TbOk X k' m ((C, fn) :: tb) := fun C2 fn2 e => by
  rw [List.lookup_cons] at e
  cases c : C2 == C with
  | true =>
    rw [c] at e
    cases e
    have : C2 = C := by simpa using c
    subst this
    exact ⟨k, ps, hk, h⟩
  | false =>
    rw [c] at e
    exact t C2 fn2 e
/-- o.m(..) -/
def mMeth (tb : List (Str × Fn)) (m : Str) (o : Me) (as : MeL) : Me := fun G h => (o G h).bind fun d h1 => match d with
  | .loc n => match h1[n]? with
    | some (.ins C fs) => match tb.lookup C with
      | some fn => match fs.lookup m with
        | none => (as G h1).bind fun xs h2 => fn (.loc n :: xs) h2
        | some _ => .stuck
      | none => .stuck
    | _ => .stuck
  | _ => .stuck
/-- C(..) -/
def mMake (C : Str) (fn : Fn) (as : MeL) : Me := fun G h => (as G h).bind fun xs h1 => (fn (.loc h1.length :: xs) (h1 ++ [.ins C []])).bind fun v h2 => match v with
  | .non => .ok (.loc h1.length) h2
  | _ => .stuck
/-- a method's call, the class and the method seen when the object is there -/
def tMethT (X : Cx) (W : WX) (m : Str) (k' : Nat) (ta : TE) (t : TA) : TE := fun σ H Q => ta σ H fun x H1 => ∃ a C dx fs k f fd ps sp, x = .ref a ∧ H1 a = some (.ins C dx fs) ∧ fs.lookup m = none ∧ Cls X.K C ∧ Meth X.K C m f ∧ Binds X.K fd ps [] ∧ k ≤ k' ∧
  FnOk X.prog X.w X.K X.mg X.base (L2.CX X.prog X.w) k f fd ps sp ∧ t σ H1 fun vs H2 => sp (x :: vs) H2 Q (WE W σ)
section
variable {X : Cx} {W : WX} {m : Str} {k' : Nat} {o e : Expr} {es : List Expr} {ta : TE} {t : TA} {apos pos : Pos} {pl : Sem Bool} {mo : Me} {as : MeL} {tb : List (Str × Fn)}
theorem pe_methT (he : PE X o ta) (hr : Room k' X.A) (tk : Takes X W) (ha : PA X (e :: es) t)
    (hst : starEach (e :: es) X.env = (false, eval e X.env) :: starEach es X.env := by rfl) (hpl : (backTo pos (starEach es X.env)).any (·.1) = false := by rfl)
    (ht : eval (.Call (.Attribute o m apos) (e :: es) [] pos) X.env = (do
      let ov ← eval o X.env
      standAt apos.atName
      let (f, first) ← holding [ov] (getMethod ov m pl)
      callWith pos f first (backTo pos (starEach (e :: es) X.env)) (backToKw pos (keywordEach [] X.env))) := by rfl) :
    PE X (.Call (.Attribute o m apos) (e :: es) [] pos) (tMethT X W m k' ta t) := by
  refine ⟨fun pins s σ H Q I h => ?_⟩
  refine PySem.W.methodCall_KW (pl := pl) (thn (he.run pins s σ H _ I h) fun u s1 ⟨x, H1, I1, rx, a, C, dx, fs, k, f, fd, ps, sp, ex, ea, l, c, hm, hb, hk, F, q⟩ => ?_) ht
  subst ex
  obtain rfl : u = Value.ref a := rx
  refine getmeth_ok I1 ea c hm l ?_
  refine PySem.W.callWith_K (first := [.ref a]) (h₀ := X.base) I.ok.mod.kin hm.kp (thn (ha.run pos pins s1 σ H1 _ I1 q) fun us s2 ⟨vs, H2, I2, r, q2⟩ => ⟨I2.kIn, ?_⟩) hst hpl
  exact run_fnS (us := .ref a :: us) (vs := .ref a :: vs) (E := WE W) F (hr.mono hk) hb (passAt tk σ) I2 (.cons rfl r) q2
theorem pe_methT0 (he : PE X o ta) (hr : Room k' X.A) (tk : Takes X W)
    (ht : eval (.Call (.Attribute o m apos) [] [] pos) X.env = (do
      let ov ← eval o X.env
      standAt apos.atName
      let (f, first) ← holding [ov] (getMethod ov m pl)
      callWith pos f first (backTo pos (starEach [] X.env)) (backToKw pos (keywordEach [] X.env))) := by rfl) :
    PE X (.Call (.Attribute o m apos) [] [] pos) (tMethT X W m k' ta tNil) := by
  refine ⟨fun pins s σ H Q I h => ?_⟩
  refine PySem.W.methodCall_KW (pl := pl) (thn (he.run pins s σ H _ I h) fun u s1 ⟨x, H1, I1, rx, a, C, dx, fs, k, f, fd, ps, sp, ex, ea, l, c, hm, hb, hk, F, q⟩ => ?_) ht
  subst ex
  obtain rfl : u = Value.ref a := rx
  refine getmeth_ok I1 ea c hm l ?_
  exact PySem.W.callWith_K0 (first := [.ref a]) I1.kIn hm.kp (run_fnS (us := [.ref a]) (vs := [.ref a]) (E := WE W) F (hr.mono hk) hb (passAt tk σ) I1 (.cons rfl .nil) q)
theorem meth_read (hT : TbOk X k' m tb) {σ : L2.St} {H : Hp} {Q : VK} (t : TM X W (mMeth tb m mo as) σ H Q) : tMethT X W m k' (TM X W mo) (TAr X W as) σ H Q := by
  obtain ⟨w, G, h, g, r, o⟩ := t
  refine ⟨w, G, h, g, r, o.bindE fun d h1 v w1 H1 l r1 x o1 => ?_⟩
  split at o1
  · rename_i n
    obtain ⟨rfl, hn⟩ := rv_loc x
    split at o1
    · rename_i C fs ec
      split at o1
      · rename_i fn ef
        split at o1
        · rename_i el
          obtain ⟨_, Ca, dx, fv, e1, e2, e3, ra, _⟩ := r1.cell n _ ec
          obtain ⟨k, ps, hk, M⟩ := hT C fn ef
          obtain ⟨c, f, fd, hm, hb, F⟩ := M.get Ca e1
          refine ⟨_, Ca, dx, fv, k, f, fd, ps, _, rfl, e2, (rep_lookup m e3 ra).2 el, c, hm, hb, hk, F, w1, G, h1, g.mono l, r1, o1.bindA fun ds h2 vs w2 H2 l2 r2 rs o2 => ⟨w2, .loc n :: ds, h2, .cons (Rv_mono l2 x) rs, r2, ?_⟩⟩
          cases em : fn (.loc n :: ds) h2 with
          | ok d h3 => rw [em] at o2; exact o2
          | exc c fs h3 => rw [em] at o2; exact o2
          | stuck => rw [em] at o2; exact o2
        · exact o1.elim
      · exact o1.elim
    · exact o1.elim
  · exact o1.elim
theorem e_meth (hT : TbOk X k' m tb) (hr : Room k' X.A) (tk : Takes X W) (he : PE X o (TM X W mo)) (ha : PA X (e :: es) (TAr X W as))
    (hst : starEach (e :: es) X.env = (false, eval e X.env) :: starEach es X.env := by rfl) (hpl : (backTo pos (starEach es X.env)).any (·.1) = false := by rfl)
    (ht : eval (.Call (.Attribute o m apos) (e :: es) [] pos) X.env = (do
      let ov ← eval o X.env
      standAt apos.atName
      let (f, first) ← holding [ov] (getMethod ov m pl)
      callWith pos f first (backTo pos (starEach (e :: es) X.env)) (backToKw pos (keywordEach [] X.env))) := by rfl) :
    PE X (.Call (.Attribute o m apos) (e :: es) [] pos) (TM X W (mMeth tb m mo as)) := (pe_methT he hr tk ha hst hpl ht).wk fun σ H Q t => meth_read hT t
theorem e_meth0 (hT : TbOk X k' m tb) (hr : Room k' X.A) (tk : Takes X W) (he : PE X o (TM X W mo))
    (ht : eval (.Call (.Attribute o m apos) [] [] pos) X.env = (do
      let ov ← eval o X.env
      standAt apos.atName
      let (f, first) ← holding [ov] (getMethod ov m pl)
      callWith pos f first (backTo pos (starEach [] X.env)) (backToKw pos (keywordEach [] X.env))) := by rfl) :
    PE X (.Call (.Attribute o m apos) [] [] pos) (TM X W (mMeth tb m mo aNil)) := (pe_methT0 he hr tk ht).wk fun σ H Q t => by
  obtain ⟨w, G, h, g, r, o⟩ := meth_read (as := aNil) hT t
  refine ⟨w, G, h, g, r, ?_⟩
  cases em : mo G h with
  | ok d h1 =>
    rw [em] at o
    intro v w' H' l r' x
    obtain ⟨a, C, dx, fs, k, f, fd, ps, sp, q1, q2, q3, q4, q5, q6, q7, q8, q9⟩ := o v w' H' l r' x
    refine ⟨a, C, dx, fs, k, f, fd, ps, sp, q1, q2, q3, q4, q5, q6, q7, q8, ?_⟩
    obtain ⟨w3, G3, h3, g3, r3, o3⟩ := q9
    exact o3 [] w3 H' (Le.refl _) r3 .nil
  | exc c fs h1 => rw [em] at o; exact o
  | stuck => rw [em] at o; exact o
end
/-! ### making -/
def tMakeT (C : Addr) (W : WX) (sp : Sp) (t : TA) : TE := fun σ H Q => t σ H fun vs H1 => ∀ x dx, H1 x = none → H1 dx = none → dx ≠ x →
  sp (.ref x :: vs) (upd (upd H1 dx (.own x)) x (.ins C dx [])) (fun v H2 => v = .non ∧ Q (.ref x) H2) (WE W σ)
section
variable {X : Cx} {W : WX} {x : Str} {k k' : Nat} {f C : Addr} {fd : FuncData} {ps : List Str} {sp : Sp} {e : Expr} {es : List Expr} {t : TA} {p pos : Pos} {as : MeL} {fn : Fn}
theorem run_makeS {pins : List (Addr × Obj)} {σ : L2.St} {H : Hp} {s : Shared} {Q : VK} {us : List Value} {vs : List V} {E : XK} (M : Mk X.K C f) (F : FnOk X.prog X.w X.K X.mg X.base (L2.CX X.prog X.w) k f fd ps sp) (hr : Room (k + 1) X.A) (hb : Binds X.K fd ps [])
    (hx : PassesAt (L2.CX X.prog X.w) X σ E) (I : Inv X pins σ H s) (r : Vals vs us)
    (hx2 : ∀ (pins : List (Addr × Obj)) (H : Hp) (s : Shared) (e : Value) (s' : Shared), Inv X pins σ H s → L2.CX X.prog X.w X.stack H s E e s' → X.xe e s')
    (h : ∀ x dx, H x = none → H dx = none → dx ≠ x → sp (.ref x :: vs) (upd (upd H dx (.own x)) x (.ins C dx [])) (fun v H2 => v = .non ∧ Q (.ref x) H2) E) :
    wpAny (model X.prog X.w) X.A (call (.ref C) us) (EP X pins σ Q) X.xe s := by
  have hq := h (s.heap.objs.size + 1) s.heap.objs.size (I.hok.fresh (Nat.le_succ _)) (I.hok.fresh (Nat.le_refl _)) (Nat.ne_of_lt (Nat.lt_succ_self _))
  have I2 := Inv.made (C := C) I
  have r2 : Vals (V.ref (s.heap.objs.size + 1) :: vs) (Value.ref (s.heap.objs.size + 1) :: us) := .cons rfl r
  have hl : (Value.ref (s.heap.objs.size + 1) :: us).length = ps.length := by
    have e := r2.length
    rw [F.len _ _ _ _ hq] at e
    exact e.symm
  have b := hb (s := { s with heap := (s.heap.push PySem.W.emptyDict).push (PySem.W.instObj C s.heap.objs.size) }) (Value.ref (s.heap.objs.size + 1) :: us) I2.kIn (by rw [List.append_nil]; exact hl)
  rw [List.append_nil] at b
  refine wpAny_call (make_map (f := f) I.kIn M.makes M.init (beq_iff_eq.mp M.fn) (codeAny_mono (F.run _ X.stack _ _ ⟨Value.ref (s.heap.objs.size + 1) :: us, []⟩ (Value.ref (s.heap.objs.size + 1) :: us) _ _ E (hr.make C us [])
    (I2.env0.make C us []) b r2 hq) fun r s' hq' => ?_))
  cases r with
  | error e => exact hx2 pins _ _ e s' I2 hq'
  | ok fl =>
    cases fl with
    | ret u =>
      obtain ⟨v, H', I3, rv, ev, q3⟩ := I2.after hq'
      subst ev
      exact ⟨rv, ⟨V.ref (s.heap.objs.size + 1), H', I3, rfl, q3⟩⟩
    | next => exact False.elim hq'
    | brk => exact False.elim hq'
    | cont => exact False.elim hq'
theorem pe_makeT (M : Mk X.K C f) (F : FnOk X.prog X.w X.K X.mg X.base (L2.CX X.prog X.w) k f fd ps sp) (hr : Room (k + 1) X.A) (tk : Takes X W) (hm : X.mg x = some (.ref C)) (hb : Binds X.K fd ps [])
    (ha : PA X (e :: es) t) (hg : Gl X x := by rfl) (hdb : (x == ("__debug__" : Str)) = false := by decide) (he : starEach (e :: es) X.env = (false, eval e X.env) :: starEach es X.env := by rfl) (hpl : (backTo pos (starEach es X.env)).any (·.1) = false := by rfl) :
    PE X (.Call (.Name x p) (e :: es) [] pos) (tMakeT C W sp t) := by
  refine ⟨fun pins s σ H Q I h => ?_⟩
  refine wpAny_Call_Name_kw (ld_glob I hg hm ?_ hdb)
  refine PySem.W.callWith_K (h₀ := X.base) I.ok.mod.kin M.kp (thn (ha.run pos pins s σ H _ I h) fun us s1 ⟨vs, H1, I1, r, q⟩ => ⟨I1.kIn, ?_⟩) he hpl
  exact run_makeS M F hr hb (passAt tk σ) I1 r (passAt tk σ) q
theorem e_make {C0 : Str} (M : MakOk X.prog X.w X.K X.mg X.base C0 k ps (spM X.K X.mg fn)) (hr : Room k' X.A) (tk : Takes X W) (ha : PA X (e :: es) (TAr X W as)) (hk : k + 1 ≤ k' := by first | decide | omega)
    (hg : Gl X C0 := by rfl) (hdb : (C0 == ("__debug__" : Str)) = false := by decide) (he : starEach (e :: es) X.env = (false, eval e X.env) :: starEach es X.env := by rfl) (hpl : (backTo pos (starEach es X.env)).any (·.1) = false := by rfl) :
    PE X (.Call (.Name C0 p) (e :: es) [] pos) (TM X W (mMake C0 fn as)) := by
  obtain ⟨Ca, f, fd, hn, hm, MM, hb, F⟩ := M.ex
  refine (pe_makeT MM F (hr.mono hk) tk hm hb ha hg hdb he hpl).wk fun σ H Q ⟨w, G, h, g, r, o⟩ => ⟨w, G, h, g, r, o.bindA fun ds h1 vs w1 H1 l r1 rs o1 => fun x dx nx ndx nex => ?_⟩
  have rA := r1.add (o := .own x) ndx
  have lA := r1.le_add (o := HO.own x) ndx
  have nx2 : upd H1 dx (.own x) x = none := by
    rw [upd_ne (Ne.symm nex)]
    exact nx
  have rB := rA.newO (u := .ins Ca dx []) (o := .ins C0 []) nx2 ⟨Ca, dx, [], hn, upd_same, rfl, .nil, upd_same⟩
  have lB : Le w1 ((w1.add dx (.own x)).push x) := lA.trans (Wd.le_push _ _)
  have hN : (w1.add dx (.own x)).N = h1.length := r1.len
  have rx := rv_new (K := X.K) (w := w1.add dx (.own x)) x
  rw [hN] at rx
  refine ⟨_, .loc h1.length :: ds, h1 ++ [.ins C0 []], .cons rx (Ra_mono lB rs), rB, ?_⟩
  cases em : fn (.loc h1.length :: ds) (h1 ++ [.ins C0 []]) with
  | ok d h3 =>
    rw [em] at o1
    intro v w4 H4 l4 r4 x4
    cases d with
    | non =>
      cases x4
      refine ⟨rfl, o1 _ w4 H4 (lB.trans l4) r4 (Rv_mono l4 rx)⟩
    | _ => exact o1.elim
  | exc c fs h3 =>
    rw [em] at o1
    intro cls dd w4 H4 e4 l4 r4 x4
    exact o1 cls dd w4 H4 e4 (lB.trans l4) r4 x4
  | stuck => rw [em] at o1; exact o1.elim
end
end AB
/-! AB: dicts whose keys are ints and texts, as objects of the machine. -/
namespace AB
open PySem PySem.Spec PyProof.Rows L2

abbrev KD := List (L2.Key × D)
def keyD : L2.Key → D
  | .inl i => .int i
  | .inr x => .str x
def toKey : D → Option L2.Key
  | .int i => some (.inl i)
  | .str x => some (.inr x)
  | _ => none
def valD (kvs : KD) (k : L2.Key) : Option D := (kvs.find? fun kv => decide (kv.1 = k)).map (·.2)
def putKD (kvs : KD) (k : L2.Key) (d : D) : KD := if (kvs.any fun kv => decide (kv.1 = k)) = true then kvs.map (fun kv => if kv.1 = k then (kv.1, d) else kv) else kvs ++ [(k, d)]
def dropKD (kvs : KD) (k : L2.Key) : KD := kvs.filter fun kv => decide (kv.1 ≠ k)
section
variable {K : PySem.W.Frag} {G : Hp} {mu : Nat → Addr} {N : Nat}
theorem toKey_rep {v : V} {d : D} {k : L2.Key} (r : RepV K G mu N v d) (e : toKey d = some k) : v = kV k := by
  cases r <;> first | (cases e; rfl) | cases e
theorem keyD_rep (k : L2.Key) : RepV K G mu N (kV k) (keyD k) := by
  cases k with
  | inl i => exact .int i
  | inr x => exact .str x
theorem rep_val (k : L2.Key) : ∀ {kv : List (L2.Key × V)} {kvs : KD}, kv.map (·.1) = kvs.map (·.1) → RepAll K G mu N (kv.map (·.2)) (kvs.map (·.2)) →
    (∀ d, valD kvs k = some d → ∃ v, valV kv k = some v ∧ RepV K G mu N v d) ∧ (valD kvs k = none → valV kv k = none)
  | [], [], _, _ => ⟨fun d e => (by cases e), fun _ => rfl⟩
  | [], _ :: _, e, _ => by cases e
  | _ :: _, [], e, _ => by cases e
  | (g, v) :: fv, (g', d) :: fs, e, r => by
    rw [List.map_cons, List.map_cons] at e r
    cases r with
    | cons r1 r2 =>
      obtain ⟨e1, e2⟩ := List.cons.inj e
      have e1 : g = g' := e1
      subst e1
      obtain ⟨i1, i2⟩ := rep_val k e2 r2
      by_cases c : g = k
      · have q1 : valV ((g, v) :: fv) k = some v := valV_pos c
        have q2 : valD ((g, d) :: fs) k = some d := by simp [valD, List.find?_cons, c]
        rw [q1, q2]
        exact ⟨fun x q => by cases q; exact ⟨v, rfl, r1⟩, fun q => by cases q⟩
      · have q1 : valV ((g, v) :: fv) k = valV fv k := valV_neg c
        have q2 : valD ((g, d) :: fs) k = valD fs k := by simp [valD, List.find?_cons, c]
        rw [q1, q2]
        exact ⟨i1, i2⟩
theorem any_keys (k : L2.Key) : ∀ {kv : List (L2.Key × V)} {kvs : KD}, kv.map (·.1) = kvs.map (·.1) → (kv.any fun x => decide (x.1 = k)) = (kvs.any fun x => decide (x.1 = k))
  | [], [], _ => rfl
  | [], _ :: _, e => by cases e
  | _ :: _, [], e => by cases e
  | (g, v) :: fv, (g', d) :: fs, e => by
    rw [List.map_cons, List.map_cons] at e
    obtain ⟨e1, e2⟩ := List.cons.inj e
    have e1 : g = g' := e1
    subst e1
    rw [List.any_cons, List.any_cons, any_keys k e2]
theorem rep_mapK (k : L2.Key) {v : V} {d : D} (rv : RepV K G mu N v d) : ∀ {kv : List (L2.Key × V)} {kvs : KD}, kv.map (·.1) = kvs.map (·.1) → RepAll K G mu N (kv.map (·.2)) (kvs.map (·.2)) →
    (kv.map fun x => if x.1 = k then (x.1, v) else x).map (·.1) = (kvs.map fun x => if x.1 = k then (x.1, d) else x).map (·.1) ∧ RepAll K G mu N ((kv.map fun x => if x.1 = k then (x.1, v) else x).map (·.2)) ((kvs.map fun x => if x.1 = k then (x.1, d) else x).map (·.2))
  | [], [], _, _ => ⟨rfl, .nil⟩
  | [], _ :: _, e, _ => by cases e
  | _ :: _, [], e, _ => by cases e
  | (g, x) :: fv, (g', y) :: fs, e, r => by
    rw [List.map_cons, List.map_cons] at e r
    cases r with
    | cons r1 r2 =>
      obtain ⟨e1, e2⟩ := List.cons.inj e
      have e1 : g = g' := e1
      subst e1
      obtain ⟨i1, i2⟩ := rep_mapK k rv e2 r2
      rw [List.map_cons, List.map_cons, List.map_cons, List.map_cons, List.map_cons, List.map_cons]
      by_cases c : g = k
      · rw [if_pos c, if_pos c]
        exact ⟨by rw [i1], .cons rv i2⟩
      · rw [if_neg c, if_neg c]
        exact ⟨by rw [i1], .cons r1 i2⟩
theorem rep_putK (k : L2.Key) {v : V} {d : D} (rv : RepV K G mu N v d) {kv : List (L2.Key × V)} {kvs : KD} (e : kv.map (·.1) = kvs.map (·.1)) (r : RepAll K G mu N (kv.map (·.2)) (kvs.map (·.2))) :
    (putK kv k v).map (·.1) = (putKD kvs k d).map (·.1) ∧ RepAll K G mu N ((putK kv k v).map (·.2)) ((putKD kvs k d).map (·.2)) := by
  unfold putK putKD
  rw [any_keys k e]
  by_cases c : (kvs.any fun x => decide (x.1 = k)) = true
  · rw [if_pos c, if_pos c]
    exact rep_mapK k rv e r
  · rw [if_neg c, if_neg c]
    refine ⟨by rw [List.map_append, List.map_append, e]; rfl, ?_⟩
    rw [List.map_append, List.map_append]
    exact r.append (.cons rv .nil)
theorem rep_dropK (k : L2.Key) : ∀ {kv : List (L2.Key × V)} {kvs : KD}, kv.map (·.1) = kvs.map (·.1) → RepAll K G mu N (kv.map (·.2)) (kvs.map (·.2)) →
    (dropK kv k).map (·.1) = (dropKD kvs k).map (·.1) ∧ RepAll K G mu N ((dropK kv k).map (·.2)) ((dropKD kvs k).map (·.2))
  | [], [], _, _ => ⟨rfl, .nil⟩
  | [], _ :: _, e, _ => by cases e
  | _ :: _, [], e, _ => by cases e
  | (g, x) :: fv, (g', y) :: fs, e, r => by
    rw [List.map_cons, List.map_cons] at e r
    cases r with
    | cons r1 r2 =>
      obtain ⟨e1, e2⟩ := List.cons.inj e
      have e1 : g = g' := e1
      subst e1
      obtain ⟨i1, i2⟩ := rep_dropK k e2 r2
      unfold dropK dropKD at i1 i2 ⊢
      by_cases c : g = k
      · simp only [List.filter_cons, c, ne_eq, not_true_eq_false, decide_false, Bool.false_eq_true, if_false]
        exact ⟨i1, i2⟩
      · simp only [List.filter_cons, c, ne_eq, not_false_eq_true, decide_true, if_true, List.map_cons]
        exact ⟨by rw [i1], .cons r1 i2⟩
end
/-- the dict at n, locked or not -/
def dctAt (h : AH) (n : Nat) : Option KD := match h[n]? with
  | some (.dct kvs) => some kvs
  | some (.lck kvs) => some kvs
  | _ => none
theorem dct_rd {K : PySem.W.Frag} {w : Wd} {H : Hp} {h : AH} {n : Nat} {kvs : KD} (r : RepH K w H h) (e : dctAt h n = some kvs) : ∃ kv, Rd H (w.mu n) (.dK kv) ∧ kv.map (·.1) = kvs.map (·.1) ∧ Ra K w (kv.map (·.2)) (kvs.map (·.2)) := by
  unfold dctAt at e
  split at e
  · rename_i ks ek
    cases e
    obtain ⟨_, kv, e1, e2, ra⟩ := r.cell n _ ek
    exact ⟨kv, .inl e1, e2, ra⟩
  · rename_i ks ek
    cases e
    obtain ⟨_, o, kv, e1, _, e2, ra⟩ := r.cell n _ ek
    exact ⟨kv, .inr ⟨o, e1⟩, e2, ra⟩
  · cases e
/-- d[k] -/
def fDGet (x y : D) (h : AH) : Res D := match x with
  | .loc n => match dctAt h n, toKey y with
    | some kvs, some k => match valD kvs k with
      | some d => .ok d h
      | none => .stuck
    | _, _ => .stuck
  | _ => .stuck
/-- k in d -/
def fDIn (x y : D) (h : AH) : Res D := match y with
  | .loc n => match dctAt h n, toKey x with
    | some kvs, some k => .ok (.bl (valD kvs k).isSome) h
    | _, _ => .stuck
  | _ => .stuck
def fDNotIn (x y : D) (h : AH) : Res D := match y with
  | .loc n => match dctAt h n, toKey x with
    | some kvs, some k => .ok (.bl (!(valD kvs k).isSome)) h
    | _, _ => .stuck
  | _ => .stuck
/-- {} -/
def mDNew : Me := fun _ h => .ok (.loc h.length) (h ++ [.dct []])
/-- d[k] = v -/
def sDPutM (o k v : Me) : Ms := fun G h => (v G h).toS G fun x h1 => (o G h1).toS G fun d h2 => (k G h2).toS G fun j h3 => match d with
  | .loc n => match h3[n]?, toKey j with
    | some (.dct kvs), some q => if kvs.length < big then .next G (h3.set n (.dct (putKD kvs q x))) else .stuck
    | _, _ => .stuck
  | _ => .stuck
/-- d.get(k), d.get(k, x) -/
def mDGet1 (o k : Me) : Me := fun G h => (o G h).bind fun d h1 => match d with
  | .loc n => match dctAt h1 n with
    | some _ => (k G h1).bind fun j h2 => match dctAt h2 n, toKey j with
      | some kvs, some q => .ok ((valD kvs q).getD .non) h2
      | _, _ => .stuck
    | none => .stuck
  | _ => .stuck
def mDGet2 (o k x : Me) : Me := fun G h => (o G h).bind fun d h1 => match d with
  | .loc n => match dctAt h1 n with
    | some _ => (k G h1).bind fun j h2 => (x G h2).bind fun z h3 => match dctAt h3 n, toKey j with
      | some kvs, some q => .ok ((valD kvs q).getD z) h3
      | _, _ => .stuck
    | none => .stuck
  | _ => .stuck
/-- d.setdefault(k, x) -/
def mDSetd (o k x : Me) : Me := fun G h => (o G h).bind fun d h1 => match d with
  | .loc n => match dctAt h1 n with
    | some _ => (k G h1).bind fun j h2 => (x G h2).bind fun z h3 => match h3[n]?, toKey j with
      | some (.dct kvs), some q => if kvs.length < big then (match valD kvs q with
        | some y => .ok y h3
        | none => .ok z (h3.set n (.dct (putKD kvs q z)))) else .stuck
      | _, _ => .stuck
    | none => .stuck
  | _ => .stuck
/-- d.pop(k) -/
def mDPop1 (o k : Me) : Me := fun G h => (o G h).bind fun d h1 => match d with
  | .loc n => match dctAt h1 n with
    | some _ => (k G h1).bind fun j h2 => match h2[n]?, toKey j with
      | some (.dct kvs), some q => (match valD kvs q with
        | some y => .ok y (h2.set n (.dct (dropKD kvs q)))
        | none => .stuck)
      | _, _ => .stuck
    | none => .stuck
  | _ => .stuck
section
variable {X : Cx} {W : WX} {o i e f value : Expr} {pos pos' tpos apos cpos : Pos} {mo mk mv mx : Me}
theorem dget_of {w : Wd} {H : Hp} {h : AH} {n : Nat} {kvs : KD} {y : V} {d : D} {k : L2.Key} (r : RepH X.K w H h) (e : dctAt h n = some kvs) (ry : Rv X.K w y d) (ek : toKey d = some k) :
    ∃ ov, DGet H (w.mu n) y ov ∧ (∀ x, valD kvs k = some x → ∃ v, ov = some v ∧ Rv X.K w v x) ∧ (valD kvs k = none → ov = none) := by
  obtain ⟨kv, e1, e2, ra⟩ := dct_rd r e
  have ey := toKey_rep ry ek
  subst ey
  exact ⟨valV kv k, .inl ⟨kv, k, e1, rfl, rfl⟩, (rep_val k e2 ra).1, (rep_val k e2 ra).2⟩
theorem isD_of {w : Wd} {H : Hp} {h : AH} {n : Nat} {kvs : KD} (r : RepH X.K w H h) (e : dctAt h n = some kvs) : IsD H (w.mu n) := by
  obtain ⟨kv, e1, _⟩ := dct_rd r e
  exact .inl ⟨kv, e1⟩
theorem isSome_of {kvs : KD} {k : L2.Key} {ov : Option V} {w : Wd} (h1 : ∀ x, valD kvs k = some x → ∃ v, ov = some v ∧ Rv X.K w v x) (h2 : valD kvs k = none → ov = none) : ov.isSome = (valD kvs k).isSome := by
  cases e : valD kvs k with
  | none => rw [h2 e]; rfl
  | some x =>
    obtain ⟨v, ev, _⟩ := h1 x e
    rw [ev]
    rfl
theorem e_dget (hu : X.A.units + 1 < cLine) (ho : PE X o (TM X W mo)) (hi : PE X i (TM X W mk)) (hs : NoSl i := by exact fun _ _ => rfl) : PE X (.Subscript o i pos) (TM X W (mOp2 fDGet mo mk)) := by
  refine (pe_dget hu ho hi hs).wk fun σ H Q ⟨w, G, h, g, r, o⟩ => ⟨w, G, h, g, r, o.bindE fun x h1 v1 w1 H1 l1 r1 rx o1 => ⟨w1, G, h1, g.mono l1, r1, o1.bindE fun y h2 v2 w2 H2 l2 r2 ry o2 => ?_⟩⟩
  unfold fDGet at o2
  split at o2
  · rename_i n
    obtain ⟨rfl, hn⟩ := rv_loc rx
    split at o2
    · rename_i kvs k e1 e2
      split at o2
      · rename_i d ed
        obtain ⟨ov, g1, g2, _⟩ := dget_of r2 e1 ry e2
        obtain ⟨v, ev, rv⟩ := g2 d ed
        subst ev
        refine ⟨_, v, rfl, ?_, o2 v w2 H2 (Le.refl _) r2 rv⟩
        rw [← l2.mu n hn]
        exact g1
      · exact o2.elim
    · exact o2.elim
  · exact o2.elim
def rDIn (b : Bool) : R2 := fun x y H Q => ∃ a o, y = .ref a ∧ DGet H a x o ∧ Q (.bl (if b then o.isSome else !o.isSome)) H
theorem op_dIn (hu : X.A.units + 1 < cLine) : OpR X (compareOp .In) (rDIn true) := by
  rintro pins s σ H x y u v Q I rx ry ⟨a, o, rfl, g, q⟩
  obtain rfl : v = Value.ref a := ry
  exact d_in hu I g rx fun s3 I3 => ⟨.bl o.isSome, H, I3, rfl, q⟩
theorem op_dNotIn (hu : X.A.units + 1 < cLine) : OpR X (compareOp .NotIn) (rDIn false) := by
  rintro pins s σ H x y u v Q I rx ry ⟨a, o, rfl, g, q⟩
  obtain rfl : v = Value.ref a := ry
  exact d_notIn hu I g rx fun s3 I3 => ⟨.bl (!o.isSome), H, I3, rfl, q⟩
theorem fol_dIn : Fol2 X W fDIn (rDIn true) := by
  intro w h H σ Q v1 v2 d1 d2 rh r1 r2 o
  unfold fDIn at o
  split at o
  · rename_i n
    obtain ⟨rfl, hn⟩ := rv_loc r2
    split at o
    · rename_i kvs k e1 e2
      obtain ⟨ov, g1, g2, g3⟩ := dget_of rh e1 r1 e2
      refine ⟨_, ov, rfl, g1, ?_⟩
      have q := isSome_of g2 g3
      rw [if_pos rfl, q]
      exact o _ w H (Le.refl _) rh (.bl _)
    · exact o.elim
  · exact o.elim
theorem fol_dNotIn : Fol2 X W fDNotIn (rDIn false) := by
  intro w h H σ Q v1 v2 d1 d2 rh r1 r2 o
  unfold fDNotIn at o
  split at o
  · rename_i n
    obtain ⟨rfl, hn⟩ := rv_loc r2
    split at o
    · rename_i kvs k e1 e2
      obtain ⟨ov, g1, g2, g3⟩ := dget_of rh e1 r1 e2
      refine ⟨_, ov, rfl, g1, ?_⟩
      have q := isSome_of g2 g3
      rw [if_neg (by decide), q]
      exact o _ w H (Le.refl _) rh (.bl _)
    · exact o.elim
  · exact o.elim
theorem e_dnew : PE X (.Dict [] [] pos) (TM X W mDNew) := by
  refine pe_dnewK.wk fun σ H Q ⟨w, G, h, g, r, o⟩ => fun p hp => ?_
  have r1 := r.newO (u := .dK []) (o := .dct []) hp ⟨[], upd_same, rfl, .nil⟩
  have rx := rv_new (K := X.K) (w := w) p
  rw [r.len] at rx
  exact o (.ref p) (w.push p) _ (w.le_push p) r1 rx
theorem set_dct {w : Wd} {H : Hp} {h : AH} {n : Nat} {kvs : KD} {kv : List (L2.Key × V)} (r : RepH X.K w H h) (hn : n < w.N) (e2 : kv.map (·.1) = kvs.map (·.1)) (ra : Ra X.K w (kv.map (·.2)) (kvs.map (·.2))) :
    RepH X.K w (upd H (w.mu n) (.dK kv)) (h.set n (.dct kvs)) := r.set hn ⟨kv, upd_same, e2, ra⟩
theorem kv_len {kv : List (L2.Key × V)} {kvs : KD} (e : kv.map (·.1) = kvs.map (·.1)) : kv.length = kvs.length := by
  have := congrArg List.length e
  simpa using this
theorem s_dput (hu : X.A.units + 1 < cLine) (ho : PE X o (TM X W mo)) (hi : PE X i (TM X W mk)) (hv : PE X value (TM X W mv)) (hs : swapsWith value (some (.Subscript o i pos')) pos.line X.env = pure false := by rfl) :
    PS X (.Assign [.Subscript o i pos'] value pos) (TSS X W (sDPutM mo mk mv)) := by
  refine (ps_dput hu ho hi hv hs).wk fun D σ H ⟨w, G, h, g, r, o⟩ => ⟨w, G, h, g, r, OutS.bindE (m := mv) g o fun x h1 v w1 H1 l1 r1 rx o1 => ?_⟩
  have g1 := g.mono l1
  refine ⟨w1, G, h1, g1, r1, OutS.bindE (m := mo) g1 o1 fun d h2 v2 w2 H2 l2 r2 rd o2 => ?_⟩
  have g2 := g1.mono l2
  refine ⟨w2, G, h2, g2, r2, OutS.bindE (m := mk) g2 o2 fun j h3 v3 w3 H3 l3 r3 rj o3 => ?_⟩
  split at o3
  · rename_i n
    obtain ⟨rfl, hn⟩ := rv_loc rd
    split at o3
    · rename_i kvs q e1 e2
      split at o3
      · rename_i hl
        obtain ⟨_, kv, f1, f2, ra⟩ := r3.cell n _ e1
        have ey := toKey_rep rj e2
        subst ey
        have emu : w3.mu n = w2.mu n := l3.mu n hn
        have hn3 : n < w3.N := Nat.lt_of_lt_of_le hn l3.n
        obtain ⟨p1, p2⟩ := rep_putK q (Rv_mono (l2.trans l3) rx) f2 ra
        refine ⟨_, upd H3 (w3.mu n) (.dK (putK kv q v)), rfl, .inl ⟨kv, q, ?_, rfl, big_lt (by rw [kv_len f2]; exact hl), ?_⟩, ?_⟩
        · rw [← emu]; exact f1
        · rw [emu]
        · exact o3 σ w3 _ (Le.refl _) (g2.mono l3) (set_dct r3 hn3 p1 p2)
      · exact o3.elim
    · exact o3.elim
  · exact o3.elim
theorem e_dget1 (hu : X.A.units + 1 < cLine) (ho : PE X o (TM X W mo)) (he : PE X e (TM X W mk)) (m : M1 X o "get" apos e cpos := by exact ⟨rfl, rfl, rfl, rfl⟩) : PE X (.Call (.Attribute o "get" apos) [e] [] cpos) (TM X W (mDGet1 mo mk)) := by
  refine (pe_dget1 hu ho he m).wk fun σ H Q ⟨w, G, h, g, r, o⟩ => ⟨w, G, h, g, r, o.bindE fun x h1 v1 w1 H1 l1 r1 rx o1 => ?_⟩
  split at o1
  · rename_i n
    obtain ⟨rfl, hn⟩ := rv_loc rx
    split at o1
    · rename_i ks ek
      refine ⟨_, rfl, isD_of r1 ek, w1, G, h1, g.mono l1, r1, o1.bindE fun y h2 v2 w2 H2 l2 r2 ry o2 => ?_⟩
      split at o2
      · rename_i kvs q e1 e2
        obtain ⟨ov, g1, g2, g3⟩ := dget_of r2 e1 ry e2
        refine ⟨ov, by rw [← l2.mu n hn]; exact g1, o2 _ w2 H2 (Le.refl _) r2 ?_⟩
        cases ev : valD kvs q with
        | none => rw [g3 ev]; exact .non
        | some d =>
          obtain ⟨v, e3, rv⟩ := g2 d ev
          rw [e3]
          exact rv
      · exact o2.elim
    · exact o1.elim
  · exact o1.elim
theorem e_dget2 (hu : X.A.units + 1 < cLine) (ho : PE X o (TM X W mo)) (he : PE X e (TM X W mk)) (hf : PE X f (TM X W mx)) (m : M2 X o "get" apos e f cpos := by exact ⟨rfl, rfl, rfl, rfl⟩) : PE X (.Call (.Attribute o "get" apos) [e, f] [] cpos) (TM X W (mDGet2 mo mk mx)) := by
  refine (pe_dget2 hu ho he hf m).wk fun σ H Q ⟨w, G, h, g, r, o⟩ => ⟨w, G, h, g, r, o.bindE fun x h1 v1 w1 H1 l1 r1 rx o1 => ?_⟩
  split at o1
  · rename_i n
    obtain ⟨rfl, hn⟩ := rv_loc rx
    split at o1
    · rename_i ks ek
      refine ⟨_, rfl, isD_of r1 ek, w1, G, h1, g.mono l1, r1, o1.bindE fun y h2 v2 w2 H2 l2 r2 ry o2 => ?_⟩
      refine ⟨w2, G, h2, (g.mono l1).mono l2, r2, o2.bindE fun z h3 v3 w3 H3 l3 r3 rz o3 => ?_⟩
      split at o3
      · rename_i kvs q e1 e2
        obtain ⟨ov, g1, g2, g3⟩ := dget_of r3 e1 (Rv_mono l3 ry) e2
        refine ⟨ov, by rw [← (l2.trans l3).mu n hn]; exact g1, o3 _ w3 H3 (Le.refl _) r3 ?_⟩
        cases ev : valD kvs q with
        | none => rw [g3 ev]; exact rz
        | some d =>
          obtain ⟨v, e3, rv⟩ := g2 d ev
          rw [e3]
          exact rv
      · exact o3.elim
    · exact o1.elim
  · exact o1.elim
theorem e_dsetd (ho : PE X o (TM X W mo)) (he : PE X e (TM X W mk)) (hf : PE X f (TM X W mx)) (m : M2 X o "setdefault" apos e f cpos := by exact ⟨rfl, rfl, rfl, rfl⟩) : PE X (.Call (.Attribute o "setdefault" apos) [e, f] [] cpos) (TM X W (mDSetd mo mk mx)) := by
  refine (pe_dsetd ho he hf m).wk fun σ H Q ⟨w, G, h, g, r, o⟩ => ⟨w, G, h, g, r, o.bindE fun x h1 v1 w1 H1 l1 r1 rx o1 => ?_⟩
  split at o1
  · rename_i n
    obtain ⟨rfl, hn⟩ := rv_loc rx
    split at o1
    · rename_i ks ek
      refine ⟨_, rfl, isD_of r1 ek, w1, G, h1, g.mono l1, r1, o1.bindE fun y h2 v2 w2 H2 l2 r2 ry o2 => ?_⟩
      refine ⟨w2, G, h2, (g.mono l1).mono l2, r2, o2.bindE fun z h3 v3 w3 H3 l3 r3 rz o3 => ?_⟩
      split at o3
      · rename_i kvs q e1 e2
        split at o3
        · rename_i hl
          obtain ⟨_, kv, f1, f2, ra⟩ := r3.cell n _ e1
          have ey := toKey_rep (Rv_mono l3 ry) e2
          subst ey
          have emu : w3.mu n = w1.mu n := (l2.trans l3).mu n hn
          have hn3 : n < w3.N := Nat.lt_of_lt_of_le hn (l2.trans l3).n
          refine ⟨kv, q, by rw [← emu]; exact f1, rfl, big_lt (by rw [kv_len f2]; exact hl), fun v hv => ?_, fun hv => ?_⟩
          · cases ev : valD kvs q with
            | none =>
              rw [(rep_val q f2 ra).2 ev] at hv
              cases hv
            | some d =>
              rw [ev] at o3
              obtain ⟨u, e3, ru⟩ := (rep_val q f2 ra).1 d ev
              rw [e3] at hv
              cases hv
              exact o3 _ w3 H3 (Le.refl _) r3 ru
          · cases ev : valD kvs q with
            | some d =>
              obtain ⟨u, e3, ru⟩ := (rep_val q f2 ra).1 d ev
              rw [e3] at hv
              cases hv
            | none =>
              rw [ev] at o3
              obtain ⟨p1, p2⟩ := rep_putK q rz f2 ra
              rw [← emu]
              exact o3 _ w3 _ (Le.refl _) (set_dct r3 hn3 p1 p2) rz
        · exact o3.elim
      · exact o3.elim
    · exact o1.elim
  · exact o1.elim
theorem e_dpop1 (ho : PE X o (TM X W mo)) (he : PE X e (TM X W mk)) (m : M1 X o "pop" apos e cpos := by exact ⟨rfl, rfl, rfl, rfl⟩) : PE X (.Call (.Attribute o "pop" apos) [e] [] cpos) (TM X W (mDPop1 mo mk)) := by
  refine (pe_dpop1 ho he m).wk fun σ H Q ⟨w, G, h, g, r, o⟩ => ⟨w, G, h, g, r, o.bindE fun x h1 v1 w1 H1 l1 r1 rx o1 => ?_⟩
  split at o1
  · rename_i n
    obtain ⟨rfl, hn⟩ := rv_loc rx
    split at o1
    · rename_i ks ek
      refine ⟨_, rfl, isD_of r1 ek, w1, G, h1, g.mono l1, r1, o1.bindE fun y h2 v2 w2 H2 l2 r2 ry o2 => ?_⟩
      split at o2
      · rename_i kvs q e1 e2
        split at o2
        · rename_i d ed
          obtain ⟨_, kv, f1, f2, ra⟩ := r2.cell n _ e1
          have ey := toKey_rep ry e2
          subst ey
          obtain ⟨v, e3, rv⟩ := (rep_val q f2 ra).1 d ed
          obtain ⟨p1, p2⟩ := rep_dropK q f2 ra
          have hn2 : n < w2.N := Nat.lt_of_lt_of_le hn l2.n
          refine ⟨kv, q, v, by rw [← l2.mu n hn]; exact f1, rfl, e3, ?_⟩
          rw [← l2.mu n hn]
          exact o2 _ w2 _ (Le.refl _) (set_dct r2 hn2 p1 p2) rv
        · exact o2.elim
      · exact o2.elim
    · exact o1.elim
  · exact o1.elim
end
end AB
/-! AB: loops over dicts, which are locked meanwhile. -/
namespace AB
open PySem PySem.Spec PyProof.Rows L2

def pickI (kv : L2.Key × D) : D := .tup [keyD kv.1, kv.2]
def pickK (kv : L2.Key × D) : D := keyD kv.1
def pickV (kv : L2.Key × D) : D := kv.2
open Classical in
noncomputable def forGoD (p : Pat) (body : Ms) (pick : L2.Key × D → D) (n : Nat) (kvs : KD) : KD → Env → AH → SR
  | [], G, h => if h[n]? = some (.lck kvs) then .next G (h.set n (.dct kvs)) else .stuck
  | x :: r, G, h => if h[n]? = some (.lck kvs) then
      match asg p (pick x) G with
      | some G1 => match body G1 h with
        | .next G2 h2 => forGoD p body pick n kvs r G2 h2
        | .cont G2 h2 => forGoD p body pick n kvs r G2 h2
        | .brk G2 h2 => if h2[n]? = some (.lck kvs) then .next G2 (h2.set n (.dct kvs)) else .stuck
        | .ret d h2 => if h2[n]? = some (.lck kvs) then .ret d (h2.set n (.dct kvs)) else .stuck
        | _ => .stuck
      | none => .stuck
    else .stuck
open Classical in
/-- for .. in d.items() (keys, values): d is a plain thing, a name or an attribute -/
noncomputable def sForD (pick : L2.Key × D → D) (p : Pat) (o : Me) (body : Ms) : Ms := fun G h => match o G h with
  | .ok (.loc n) h1 => if h1 = h then (match h[n]? with
    | some (.dct kvs) => if o G (h.set n (.lck kvs)) = .ok (.loc n) (h.set n (.lck kvs)) then forGoD p body pick n kvs kvs G (h.set n (.lck kvs)) else .stuck
    | _ => .stuck) else .stuck
  | _ => .stuck
/-- other locks -/
def Wd.lkd (w : Wd) (L : Hp) : Wd := ⟨w.S, w.F, w.mu, w.N, L⟩
section
variable {K : PySem.W.Frag} {w : Wd} {H : Hp} {h : AH}
theorem RepH.relk (r : RepH K w H h) {n : Nat} {u : HO} {o : AO} {L : Hp} (hn : n < w.N) (hL : ∀ a, a ≠ w.mu n → L a = w.LK a) (ro : RepO K (w.lkd L) (upd H (w.mu n) u) (w.mu n) o) : RepH K (w.lkd L) (upd H (w.mu n) u) (h.set n o) := by
  refine ⟨fun a x e => ?_, by rw [List.length_set]; exact r.len, r.inj, fun m o' e => ?_, fun a x e => by rw [upd_ne (fun z => (r.dis a x e).2 n hn z.symm)]; exact r.exF _ _ e, r.dis⟩
  · have hl : n < h.length := by rw [← r.len]; exact hn
    obtain ⟨z, _⟩ := r.cell n h[n] (List.getElem?_eq_getElem hl)
    have q : a ≠ w.mu n := by
      intro y
      have e : w.S a = some x := e
      rw [y, z] at e
      cases e
    rw [upd_ne q]
    exact r.ex _ _ e
  · by_cases hm : m = n
    · subst hm
      have hl : m < h.length := by rw [← r.len]; exact hn
      obtain ⟨z, _⟩ := r.cell m h[m] (List.getElem?_eq_getElem hl)
      rw [List.getElem?_set_self hl] at e
      cases e
      exact ⟨z, ro⟩
    · rw [List.getElem?_set_ne (Ne.symm hm)] at e
      obtain ⟨a, b⟩ := r.cell m o' e
      have hl : m < w.N := by rw [r.len]; exact (List.getElem?_eq_some_iff.mp e).1
      have hne : w.mu m ≠ w.mu n := fun z => hm (r.inj m n hl hn z)
      refine ⟨a, ?_⟩
      have b2 : RepO K w (upd H (w.mu n) u) (w.mu m) o' := b.mono (Le.refl w) (upd_ne hne)
      show RepO K (w.lkd L) (upd H (w.mu n) u) (w.mu m) o'
      cases o' with
      | lst ds => exact b2
      | ins C fs => exact b2
      | dct kvs => exact b2
      | lck kvs =>
        obtain ⟨o, kv, e1, e0, e2, ra⟩ := b2
        exact ⟨o, kv, e1, (hL _ hne).trans e0, e2, ra⟩
end
section
variable {X : Cx} {W : WX} {tg iter e : Expr} {body : List Stmt} {pos apos cpos : Pos} {p : Pat} {mo : Me} {mb : Ms} {pick : L2.Key × D → D}
/-- what is walked of the locked dict at a -/
structure WalksD (K : PySem.W.Frag) (J : Addr → Obj → List (L2.Key × V) → It) (pick : L2.Key × D → D) : Prop where
  go : ∀ d o kvs i H, H d = some (.frz o (.dK kvs)) → i < kvs.length → (J d o kvs).go i H
  stop : ∀ d o kvs i H, H d = some (.frz o (.dK kvs)) → kvs.length ≤ i → (J d o kvs).stop i H
  yld : ∀ (w : Wd) (h : AH) d o kvs (ks : KD) i H x H2 kd, RepH K w H h → (J d o kvs).yld i H x H2 → kvs.map (·.1) = ks.map (·.1) → Ra K w (kvs.map (·.2)) (ks.map (·.2)) → ks[i]? = some kd →
    ∃ w2, Le w w2 ∧ RepH K w2 H2 h ∧ Rv K w2 x (pick kd)
theorem at_both {K : PySem.W.Frag} {w : Wd} {kvs : List (L2.Key × V)} {ks : KD} {i : Nat} {kd : L2.Key × D} {k : L2.Key} {v : V} (e : kvs.map (·.1) = ks.map (·.1)) (ra : Ra K w (kvs.map (·.2)) (ks.map (·.2))) (h1 : ks[i]? = some kd) (h2 : kvs[i]? = some (k, v)) :
    k = kd.1 ∧ Rv K w v kd.2 := by
  have q1 : (kvs.map (·.1))[i]? = some k := by rw [List.getElem?_map, h2]; rfl
  rw [e, List.getElem?_map, h1] at q1
  have q2 : (ks.map (·.2))[i]? = some kd.2 := by rw [List.getElem?_map, h1]; rfl
  obtain ⟨u, e1, ru⟩ := ra.get q2
  rw [List.getElem?_map, h2] at e1
  cases q1
  cases e1
  exact ⟨rfl, ru⟩
theorem walks_items {K : PySem.W.Frag} : WalksD K Iti pickI := by
  refine ⟨fun d o kvs i H h1 h2 => ⟨h1, h2⟩, fun d o kvs i H h1 h2 => ⟨h1, h2⟩, ?_⟩
  rintro w h d o kvs ks i H x H2 kd r ⟨T, k, v, e1, rfl, e2, rfl⟩ e ra ek
  obtain ⟨rfl, rv⟩ := at_both e ra ek e1
  refine ⟨w.add T (.tup [kV kd.1, v]), r.le_add e2, r.add e2, .tup (.inl (.inl upd_same)) (.cons (Rv_mono (r.le_add e2) (keyD_rep kd.1)) (.cons (Rv_mono (r.le_add e2) rv) .nil))⟩
theorem walks_keys {K : PySem.W.Frag} : WalksD K Itk pickK := by
  refine ⟨fun d o kvs i H h1 h2 => ⟨h1, h2⟩, fun d o kvs i H h1 h2 => ⟨h1, h2⟩, ?_⟩
  rintro w h d o kvs ks i H x H2 kd r ⟨rfl, k, v, e1, rfl⟩ e ra ek
  obtain ⟨rfl, rv⟩ := at_both e ra ek e1
  exact ⟨w, Le.refl _, r, keyD_rep kd.1⟩
theorem walks_vals {K : PySem.W.Frag} : WalksD K Itd pickV := by
  refine ⟨fun d o kvs i H h1 h2 => ⟨h1, h2⟩, fun d o kvs i H h1 h2 => ⟨h1, h2⟩, ?_⟩
  rintro w h d o kvs ks i H x H2 kd r ⟨rfl, k, e1⟩ e ra ek
  obtain ⟨rfl, rv⟩ := at_both e ra ek e1
  exact ⟨w, Le.refl _, r, rv⟩
theorem s_forD {J : Addr → Obj → List (L2.Key × V) → It} (wk : WalksD X.K J pick) {ti : TI} (hti : ∀ σ H (R : It → Hp → Prop), (TM X W mo σ H fun x H1 => ∃ d o kvs, x = .ref d ∧ H1 d = some (.frz o (.dK kvs)) ∧ R (J d o kvs) H1) → ti σ H R)
    (hp : PassesOwn (model X.prog X.w) X.A X.env X.xe) (hi : PI X tg iter ti) (hg : PG X tg (gP X.K p)) (hb : PSs X body (TSS X W mb)) (hc : X.calm = true := by rfl) (hs : ∀ x, foldedSetIterable iter X.env x = pure x := by intro _; rfl) :
    PS X (.For tg iter body [] pos) (TSS X W (sForD pick p mo mb)) := by
  refine (ps_lock (ps_for hp hc hi hg hb hs)).wk fun D σ H ⟨w, G, h, g, r, o⟩ => ?_
  unfold sForD at o
  split at o
  · rename_i n h1 eo
    split at o
    · rename_i eh
      subst eh
      split at o
      · rename_i kvs ec
        split at o
        · rename_i eo2
          have hn : n < w.N := by rw [r.len]; exact (List.getElem?_eq_some_iff.mp ec).1
          obtain ⟨sN, kv, e1, e2, ra⟩ := r.cell n _ ec
          refine ⟨w.mu n, .dK kv, e1, trivial, fun od => ?_⟩
          obtain ⟨wL, hwL⟩ : ∃ wL, wL = w.lkd (upd w.LK (w.mu n) (.frz od (.dK kv))) := ⟨_, rfl⟩
          have rL : RepH X.K wL (upd H (w.mu n) (.frz od (.dK kv))) (h1.set n (.lck kvs)) := by
            rw [hwL]
            exact r.relk hn (fun a ha => upd_ne ha) ⟨od, kv, upd_same, upd_same, e2, ra⟩
          have gL : RepG X.K wL σ G := by rw [hwL]; exact g
          have hnL : n < wL.N := by rw [hwL]; exact hn
          have muL : wL.mu n = w.mu n := by rw [hwL]; rfl
          have lkL : wL.LK = upd w.LK (w.mu n) (.frz od (.dK kv)) := by rw [hwL]; rfl
          -- the locked dict later
          have back : ∀ w' H' h', Le wL w' → RepH X.K w' H' h' → h'[n]? = some (.lck kvs) → w'.mu n = w.mu n ∧ H' (w.mu n) = some (.frz od (.dK kv)) ∧ Ra X.K w' (kv.map (·.2)) (kvs.map (·.2)) := by
            intro w' H' h' l' r' e'
            obtain ⟨_, o', kv', f1, f0, f2, ra'⟩ := r'.cell n _ e'
            have em : w'.mu n = w.mu n := (l'.mu n hnL).trans muL
            rw [em, l'.lk, lkL, upd_same] at f0
            cases f0
            rw [em] at f1
            exact ⟨em, f1, ra'⟩
          -- the unlocked state
          have un : ∀ w' H' h', Le wL w' → RepH X.K w' H' h' → h'[n]? = some (.lck kvs) → Le w (w'.lkd w.LK) ∧ RepH X.K (w'.lkd w.LK) (upd H' (w.mu n) (.dK kv)) (h'.set n (.dct kvs)) := by
            intro w' H' h' l' r' e'
            obtain ⟨em, f1, ra'⟩ := back w' H' h' l' r' e'
            have hn' : n < w'.N := Nat.lt_of_lt_of_le hnL l'.n
            refine ⟨⟨?_, ?_, ?_, ?_, rfl⟩, ?_⟩
            · have := l'.ex; rw [hwL] at this; exact this
            · have := l'.n; rw [hwL] at this; exact this
            · have := l'.mu; rw [hwL] at this; exact this
            · have := l'.f; rw [hwL] at this; exact this
            · rw [← em]
              exact r'.relk hn' (fun a ha => by
                rw [l'.lk, lkL, upd_ne]
                rw [← em]
                exact ha) ⟨kv, upd_same, e2, ra'⟩
          have endN : ∀ {G2 : Env} {h2 : AH} {w2 : Wd} {σ2 : L2.St} {H2 : Hp}, h2[n]? = some (.lck kvs) → OutS X.K X.mg W D w (.next G2 (h2.set n (.dct kvs))) → Le wL w2 → RepG X.K w2 σ2 G2 → RepH X.K w2 H2 h2 →
              H2 (w.mu n) = some (.frz od (.dK kv)) ∧ D.nx σ2 (upd H2 (w.mu n) (.dK kv)) := by
            intro G2 h2 w2 σ2 H2 e' o' l' g' r'
            obtain ⟨u1, u2⟩ := un w2 H2 h2 l' r' e'
            exact ⟨(back w2 H2 h2 l' r' e').2.1, o' σ2 _ _ u1 g' u2⟩
          refine hti _ _ _ ⟨wL, G, _, gL, rL, ?_⟩
          rw [eo2]
          intro v w1 H1 l1 r1 rv
          obtain ⟨rfl, hn1⟩ := rv_loc rv
          have hlc : (h1.set n (.lck kvs))[n]? = some (.lck kvs) := by
            rw [List.getElem?_set_self (by rw [← r.len]; exact hn)]
          obtain ⟨em1, f1, ra1⟩ := back w1 H1 _ l1 r1 hlc
          have hlen : kv.length = kvs.length := kv_len e2
          refine ⟨w1.mu n, od, kv, rfl, by rw [em1]; exact f1, ?_⟩
          rw [em1]
          refine ⟨fun i m σ' H' => m = kvs.length - i ∧ i ≤ kvs.length ∧ ∃ w' G' h', Le wL w' ∧ RepG X.K w' σ' G' ∧ RepH X.K w' H' h' ∧ OutS X.K X.mg W D w (forGoD p mb pick n kvs (kvs.drop i) G' h'),
            ⟨kvs.length, by simp, Nat.zero_le _, w1, G, _, l1, gL.mono l1, r1, by simpa using o⟩, ?_⟩
          rintro i m σ' H' ⟨rfl, hi2, w', G', h', l', g', r', o'⟩
          by_cases hlt : i < kvs.length
          · have ed : kvs.drop i = kvs[i] :: kvs.drop (i + 1) := List.drop_eq_getElem_cons hlt
            rw [ed] at o'
            unfold forGoD at o'
            split at o'
            · rename_i still
              obtain ⟨em', f', ra'⟩ := back w' H' h' l' r' still
              refine .inr ⟨wk.go _ _ _ i H' f' (by omega), fun σ2 H2 => ∃ w' G' h', Le wL w' ∧ RepG X.K w' σ2 G' ∧ RepH X.K w' H2 h' ∧ OutS X.K X.mg W D w (forGoD p mb pick n kvs (kvs.drop (i + 1)) G' h'),
                fun σ2 H2 hN => ⟨kvs.length - (i + 1), by omega, rfl, hlt, hN⟩, fun x H2 hy => ?_⟩
              obtain ⟨w2, l2, r2, rv2⟩ := wk.yld w' h' _ _ _ kvs i H' x H2 kvs[i] r' hy e2 ra' (List.getElem?_eq_getElem hlt)
              split at o'
              · rename_i G1 ea
                refine asg_rep r2 p (pick kvs[i]) x σ' G' G1 _ rv2 (g'.mono l2) ea fun σ3 g3 _ => ?_
                refine ⟨w2, G1, h', g3, r2, ?_⟩
                cases eb : mb G1 h' with
                | next G2 h2 =>
                  rw [eb] at o'
                  exact fun σ4 w4 H4 l4 g4 r4 => ⟨w4, G2, h2, l'.trans (l2.trans l4), g4, r4, o'⟩
                | cont G2 h2 =>
                  rw [eb] at o'
                  exact fun σ4 w4 H4 l4 g4 r4 => ⟨w4, G2, h2, l'.trans (l2.trans l4), g4, r4, o'⟩
                | brk G2 h2 =>
                  rw [eb] at o'
                  simp only at o'
                  split at o'
                  · rename_i e'
                    exact fun σ4 w4 H4 l4 g4 r4 => endN e' o' (l'.trans (l2.trans l4)) g4 r4
                  · exact o'.elim
                | ret d h2 =>
                  rw [eb] at o'
                  simp only at o'
                  split at o'
                  · rename_i e'
                    intro v4 w4 H4 l4 r4 x4
                    have l5 := l'.trans (l2.trans l4)
                    obtain ⟨u1, u2⟩ := un w4 H4 h2 l5 r4 e'
                    exact ⟨(back w4 H4 h2 l5 r4 e').2.1, o' v4 (w4.lkd w.LK) _ u1 u2 x4⟩
                  · exact o'.elim
                | exc c fs G2 h2 => rw [eb] at o'; exact o'.elim
                | stuck => rw [eb] at o'; exact o'.elim
              · exact o'.elim
            · exact o'.elim
          · have e : i = kvs.length := by omega
            subst e
            rw [List.drop_length] at o'
            unfold forGoD at o'
            split at o'
            · rename_i still
              obtain ⟨em', f', ra'⟩ := back w' H' h' l' r' still
              exact .inl ⟨wk.stop _ _ _ _ H' f' (by omega), endN still o' l' g' r'⟩
            · exact o'.elim
        · exact o.elim
      · exact o.elim
    · exact o.elim
  · exact o.elim
theorem s_forItems {elts : List Expr} {kk : Nat} {tpos : Pos} (hp : PassesOwn (model X.prog X.w) X.A X.env X.xe) (he : PE X e (TM X W mo)) (hg : PG X (.Tuple elts kk tpos) (gP X.K p)) (hb : PSs X body (TSS X W mb)) (hc : X.calm = true := by rfl)
    (hbase : attributeBase e "items" X.env (eval e X.env) = eval e X.env := by rfl) (hline : (apos.endLine == cpos.line) = true := by rfl)
    (hs : ∀ x, foldedSetIterable (.Call (.Attribute e "items" apos) [] [] cpos) X.env x = pure x := by intro _; rfl) :
    PS X (.For (.Tuple elts kk tpos) (.Call (.Attribute e "items" apos) [] [] cpos) body [] pos) (TSS X W (sForD pickI p mo mb)) :=
  s_forD walks_items (fun σ H R t => t) hp (pi_items he hbase hline) hg hb hc hs
theorem s_forKeys (hp : PassesOwn (model X.prog X.w) X.A X.env X.xe) (he : PE X e (TM X W mo)) (hg : PG X tg (gP X.K p)) (hb : PSs X body (TSS X W mb)) (hc : X.calm = true := by rfl)
    (hs : ∀ x, foldedSetIterable e X.env x = pure x := by intro _; rfl) :
    PS X (.For tg e body [] pos) (TSS X W (sForD pickK p mo mb)) :=
  s_forD walks_keys (fun σ H R ⟨w, G, h, g, r, o⟩ => ⟨w, G, h, g, r, by
    cases em : mo G h with
    | ok d h1 =>
      rw [em] at o
      intro v w' H' l r' x
      obtain ⟨dd, oo, kvs, q1, q2, q3⟩ := o v w' H' l r' x
      exact ⟨dd, oo, q1, .inl ⟨kvs, q2, q3⟩⟩
    | exc c fs h1 => rw [em] at o; exact o
    | stuck => rw [em] at o; exact o⟩) hp (pi_keys he) hg hb hc hs
theorem s_forVals (hp : PassesOwn (model X.prog X.w) X.A X.env X.xe) (he : PE X e (TM X W mo)) (hg : PG X tg (gP X.K p)) (hb : PSs X body (TSS X W mb)) (hc : X.calm = true := by rfl)
    (hbase : attributeBase e "values" X.env (eval e X.env) = eval e X.env := by rfl) (hline : (apos.endLine == cpos.line) = true := by rfl)
    (hs : ∀ x, foldedSetIterable (.Call (.Attribute e "values" apos) [] [] cpos) X.env x = pure x := by intro _; rfl) :
    PS X (.For tg (.Call (.Attribute e "values" apos) [] [] cpos) body [] pos) (TSS X W (sForD pickV p mo mb)) :=
  s_forD walks_vals (fun σ H R t => t) hp (pi_values he hbase hline) hg hb hc hs
end
theorem hu1 {k : Nat} {A : Around} (hr : Room k A) : A.units + 1 < cLine := by
  have := hr.un
  omega
end AB
namespace My
open PySem AB
/-- _law_hand(script): slots 0=script 1=cells 2=cell -/
noncomputable def b__law_hand : Ms :=
  (sSeq (sSet 1 (mL (lComp (.nm 2) [2] (iSeq (mSl (mV 0) oNone (oSome (mC (.int 63))))) tYesM (mN fAbs (aCons (mN fInt (aCons (mV 2) aNil)) aNil))))) (sSeq (sRet (mNew (lLst (aCons (mV 1) (aCons (mC (.int 0)) (aCons (mC (.int 0)) (aCons (mOp2 fAdd (mC (.int 1)) (mN fLen (aCons (mV 1) aNil))) (aCons (mC (.int 0)) aNil)))))))) sNil))
noncomputable def m__law_hand : FnL := mDefL 1 3 b__law_hand
/-- _law_draw(hand, many): slots 0=hand 1=many 2=cell 3=digit 4=number -/
noncomputable def b__law_draw : Ms :=
  (sSeq (sIf (tAndM (tBl (mOp2 fEq (mOp2 fIx (mV 0) (mC (.int 2))) (mC (.int 0)))) (tBl (mOp2 cLt (mOp2 fIx (mV 0) (mC (.int 1))) (mN fLen (aCons (mOp2 fIx (mV 0) (mC (.int 0))) aNil))))) (sSeq (sSet 2 (mOp2 fIx (mOp2 fIx (mV 0) (mC (.int 0))) (mOp2 fIx (mV 0) (mC (.int 1))))) (sSeq (sSub (mV 0) (mC (.int 1)) (mOp2 fAdd (mOp2 fIx (mV 0) (mC (.int 1))) (mC (.int 1)))) (sSeq (sSub (mV 0) (mC (.int 3)) (mOp2 fMod (mN fInt (aCons (mOp2 fAdd (mOp2 fAdd (mOp2 fMul (mOp2 fIx (mV 0) (mC (.int 3))) (mC (.int 69621))) (mV 2)) (mC (.int 11))) aNil)) (mC (.int 2147483629)))) (sSeq (sIf (tBl (mOp2 cGe (mV 2) (mOp2 fPow (mC (.int 10)) (mC (.int 18))))) (sSeq (sSub (mV 0) (mC (.int 2)) (mV 2)) sNil) sNil) sNil)))) sNil) (sSeq (sIf (tBl (mOp2 cGt (mOp2 fIx (mV 0) (mC (.int 2))) (mC (.int 0)))) (sSeq (sSet 3 (mOp2 fMod (mN fInt (aCons (mOp2 fIx (mV 0) (mC (.int 2))) aNil)) (mV 1))) (sSeq (sSub (mV 0) (mC (.int 2)) (mOp2 fDiv (mOp2 fIx (mV 0) (mC (.int 2))) (mV 1))) (sSeq (sRet (mV 3)) sNil))) sNil) (sSeq (sSub (mV 0) (mC (.int 4)) (mOp2 fAdd (mOp2 fIx (mV 0) (mC (.int 4))) (mC (.int 1)))) (sSeq (sSet 4 (mOp2 fMod (mN fInt (aCons (mOp2 fMul (mN fInt (aCons (mOp2 fAdd (mOp2 fIx (mV 0) (mC (.int 3))) (mOp2 fMul (mC (.int 7919)) (mOp2 fIx (mV 0) (mC (.int 4))))) aNil)) (mC (.int 48271))) aNil)) (mC (.int 2147483647)))) (sSeq (sSet 4 (mOp2 fMod (mN fInt (aCons (mOp2 fMul (mV 4) (mOp2 fAdd (mOp2 fDiv (mV 4) (mC (.int 1009))) (mC (.int 69621)))) aNil)) (mC (.int 2147483647)))) (sSeq (sSet 4 (mOp2 fMod (mN fInt (aCons (mOp2 fMul (mV 4) (mOp2 fAdd (mOp2 fDiv (mV 4) (mC (.int 2003))) (mC (.int 40692)))) aNil)) (mC (.int 2147483399)))) (sSeq (sRet (mOp2 fMod (mN fInt (aCons (mOp2 fDiv (mV 4) (mC (.int 16))) aNil)) (mV 1))) sNil)))))))
noncomputable def m__law_draw : Fn := mDef 2 5 b__law_draw
/-- _law_led(reader, state): slots 0=reader 1=state 2=tree 3=turn 4=there 5=thing 6=other -/
noncomputable def b__law_led : Ms :=
  (sSeq (sSet 2 (mV 0)) (sSeq (sFor (.nm 3) (iRange1 (aCons (mC (.int 40)) aNil)) (sSeq (sIf (tBl (mOp2 fEq (mOp2 fIx (mV 2) (mC (.int 0))) (mC (.str "ask")))) (sSeq (sSet 4 (mOp2 fIx (mV 2) (mC (.int 3)))) (sSeq (sFor (.tp [(.nm 5), (.nm 6)]) (iSeq (mOp2 fIx (mV 2) (mC (.int 2)))) (sSeq (sIf (tBl (mOp2 fEq (mV 5) (mOp2 fIx (mV 1) (mOp2 fIx (mV 2) (mC (.int 1)))))) (sSeq (sSet 4 (mV 6)) sNil) sNil) sNil)) (sSeq (sSet 2 (mV 4)) sNil))) sNil) sNil)) (sSeq (sRet (mV 2)) sNil)))
noncomputable def m__law_led : Fn := mDef 2 7 b__law_led
/-- _law_behind(state, steps): slots 0=state 1=steps 2=settled 3=waiting 4=step 5=sector 6=value -/
noncomputable def b__law_behind : Ms :=
  (sSeq (sSet 2 (mNew (lN lList (aCons (mV 0) aNil)))) (sSeq (sSet 3 (mNew (lLst aNil))) (sSeq (sFor (.nm 4) (iSeq (mV 1)) (sSeq (sIf (tBl (mOp2 fEq (mOp2 fIx (mV 4) (mC (.int 0))) (mC (.str "write")))) (sSeq (sExpr (mBM fApp (mV 3) (aCons (mN fTup (aCons (mOp2 fIx (mV 4) (mC (.int 1))) (aCons (mOp2 fIx (mV 4) (mC (.int 2))) aNil))) aNil))) sNil) sNil) (sSeq (sIf (tBl (mOp2 fEq (mOp2 fIx (mV 4) (mC (.int 0))) (mC (.str "barrier")))) (sSeq (sFor (.tp [(.nm 5), (.nm 6)]) (iSeq (mV 3)) (sSeq (sSub (mV 2) (mV 5) (mV 6)) sNil)) (sSeq (sSet 3 (mNew (lLst aNil))) sNil)) sNil) sNil))) (sSeq (sRet (mN fTup (aCons (mN fTuple (aCons (mV 2) aNil)) (aCons (mV 3) aNil)))) sNil))))
noncomputable def m__law_behind : Fn := mDefK 2 7 b__law_behind
/-- _law_mends(end): slots 0=end -/
noncomputable def b__law_mends : Ms :=
  (sSeq (sRet (mIf (tBl (mOp2 fEq (mOp2 fIx (mV 0) (mC (.int 0))) (mC (.str "mend")))) (mOp2 fIx (mV 0) (mC (.int 2))) (mN fTup aNil))) sNil)
noncomputable def m__law_mends : Fn := mDef 1 1 b__law_mends
/-- is_integer(thing): slots 0=thing -/
noncomputable def b_is_integer : Ms :=
  (sSeq (sRet (mAnd (mIsi .int (mV 0)) (mNot (mIsi .bl (mV 0))))) sNil)
noncomputable def m_is_integer : Fn := mDef 1 1 b_is_integer
/-- rank(thing): slots 0=thing -/
noncomputable def b_rank : Ms :=
  (sSeq (sIf (tBl (mOp2 fIsN (mV 0) (mC .non))) (sSeq (sRet (mN fTup (aCons (mC (.int 0)) (aCons (mN fTup aNil) aNil)))) sNil) sNil) (sSeq (sRet (mN fTup (aCons (mC (.int 1)) (aCons (mV 0) aNil)))) sNil))
noncomputable def m_rank : Fn := mDef 1 1 b_rank
/-- inner(tree): slots 0=tree 1=pair -/
noncomputable def b_inner : Ms :=
  (sSeq (sRet (mOp2 fAdd (mL (lComp (.nm 1) [1] (iSeq (mOp2 fIx (mV 0) (mC (.int 2)))) tYesM (mOp2 fIx (mV 1) (mC (.int 1))))) (mL (lLst (aCons (mOp2 fIx (mV 0) (mC (.int 3))) aNil))))) sNil)
noncomputable def m_inner : Fn := mDef 1 2 b_inner
/-- steps_of(end): slots 0=end -/
noncomputable def b_steps_of : Ms :=
  (sSeq (sIf (tBl (mOp2 fEq (mOp2 fIx (mV 0) (mC (.int 0))) (mC (.str "mend")))) (sSeq (sRet (mOp2 fIx (mV 0) (mC (.int 2)))) sNil) sNil) (sSeq (sRet (mN fTup aNil)) sNil))
noncomputable def m_steps_of : Fn := mDef 1 1 b_steps_of
/-- Disk_now(self): slots 0=self 1=found 2=sector 3=values -/
noncomputable def b_Disk_now : Ms :=
  (sSeq (sSet 1 (mNew (lN lList (aCons (mFld ["Disk"] "kept" (mV 0)) aNil)))) (sSeq (sForD pickI (.tp [(.nm 2), (.nm 3)]) (mFld ["Disk"] "writes" (mV 0)) (sSeq (sSub (mV 1) (mV 2) (mOp2 fIx (mV 3) (mOp1 fNeg (mC (.int 1))))) sNil)) (sSeq (sRet (mN fTuple (aCons (mV 1) aNil))) sNil)))
noncomputable def m_Disk_now : Fn := mDef 1 4 b_Disk_now
/-- Disk_tell(self): slots 0=self -/
noncomputable def b_Disk_tell : Ms :=
  (sSeq (sIf (tBl (mOp2 fNotN (mFld ["Disk"] "watcher" (mV 0)) (mC .non))) (sSeq sNever sNil) sNil) sNil)
noncomputable def m_Disk_tell : Fn := mDefK 1 1 b_Disk_tell
/-- way_on(tree, item): slots 0=tree 1=item 2=value 3=there -/
noncomputable def b_way_on : Ms :=
  (sSeq (sFor (.tp [(.nm 2), (.nm 3)]) (iSeq (mOp2 fIx (mV 0) (mC (.int 2)))) (sSeq (sIf (tBl (mOp2 fEq (mV 2) (mV 1))) (sSeq (sRet (mV 3)) sNil) sNil) sNil)) (sSeq (sRet (mOp2 fIx (mV 0) (mC (.int 3)))) sNil))
noncomputable def m_way_on : Fn := mDef 2 4 b_way_on
/-- _law_value(hand): slots 0=hand 1=k -/
noncomputable def b__law_value : Ms :=
  (sSeq (sRet (mN fTuple (aCons (mL (lComp (.nm 1) [1] (iRange1 (aCons (mOp2 fIx (mL (lLst (aCons (mC (.int 1)) (aCons (mC (.int 1)) (aCons (mC (.int 2)) (aCons (mC (.int 0)) aNil)))))) (mN m__law_draw (aCons (mV 0) (aCons (mC (.int 4)) aNil)))) aNil)) tYesM (mN m__law_draw (aCons (mV 0) (aCons (mC (.int 3)) aNil))))) aNil))) sNil)
noncomputable def m__law_value : Fn := mDef 1 2 b__law_value
/-- _law_any(hand, things): slots 0=hand 1=things -/
noncomputable def b__law_any : Ms :=
  (sSeq (sRet (mOp2 fIx (mV 1) (mN m__law_draw (aCons (mV 0) (aCons (mN fLen (aCons (mV 1) aNil)) aNil))))) sNil)
noncomputable def m__law_any : Fn := mDef 2 2 b__law_any
/-- is_between(thing, least, most): slots 0=thing 1=least 2=most -/
noncomputable def b_is_between : Ms :=
  (sSeq (sRet (mAnd (mN m_is_integer (aCons (mV 0) aNil)) (mChain cLe cLe (mV 1) (mV 0) (mV 2)))) sNil)
noncomputable def m_is_between : Fn := mDef 3 3 b_is_between
/-- are_ascending(things): slots 0=things 1=one 2=other -/
noncomputable def b_are_ascending : Ms :=
  (sSeq (sRet (mN fAll (aCons (mL (lComp (.tp [(.nm 1), (.nm 2)]) [1, 2] (iZip (aCons (mV 0) (aCons (mSl (mV 0) (oSome (mC (.int 1))) oNone) aNil))) tYesM (mOp2 cLt (mN m_rank (aCons (mV 1) aNil)) (mN m_rank (aCons (mV 2) aNil))))) aNil))) sNil)
noncomputable def m_are_ascending : Fn := mDef 1 3 b_are_ascending
/-- Disk_barrier(self): slots 0=self 1=sector 2=values -/
noncomputable def b_Disk_barrier : Ms :=
  (sSeq (sForD pickI (.tp [(.nm 1), (.nm 2)]) (mFld ["Disk"] "writes" (mV 0)) (sSeq (sSub (mFld ["Disk"] "kept" (mV 0)) (mV 1) (mOp2 fIx (mV 2) (mOp1 fNeg (mC (.int 1))))) sNil)) (sSeq (sFldM ["Disk"] "writes" (mV 0) mDNew) (sSeq (sExpr (mMeth [("Disk", m_Disk_tell)] "tell" (mV 0) aNil)) sNil)))
noncomputable def m_Disk_barrier : Fn := mDefK 1 3 b_Disk_barrier
/-- led(reader, state): slots 0=reader 1=state 2=sectors 3=tree -/
noncomputable def b_led : Ms :=
  (sSeq (sSet 2 (mNew (lLst aNil))) (sSeq (sSet 3 (mV 0)) (sSeq (sWhile (tBl (mOp2 fEq (mOp2 fIx (mV 3) (mC (.int 0))) (mC (.str "ask")))) (sSeq (sExpr (mBM fApp (mV 2) (aCons (mOp2 fIx (mV 3) (mC (.int 1))) aNil))) (sSeq (sSet 3 (mN m_way_on (aCons (mV 3) (aCons (mOp2 fIx (mV 1) (mOp2 fIx (mV 3) (mC (.int 1)))) aNil)))) sNil))) (sSeq (sRet (mN fTup (aCons (mV 2) (aCons (mV 3) aNil)))) sNil))))
noncomputable def m_led : Fn := mDefK 2 4 b_led
/-- _law_pool(hand): slots 0=hand 1=found 2=k 3=value -/
noncomputable def b__law_pool : Ms :=
  (sSeq (sSet 1 (mNew (lLst aNil))) (sSeq (sFor (.nm 2) (iRange1 (aCons (mC (.int 3)) aNil)) (sSeq (sSet 3 (mN m__law_value (aCons (mV 0) aNil))) (sSeq (sIf (tBl (mOp2 fNotIn (mV 3) (mV 1))) (sSeq (sExpr (mBM fApp (mV 1) (aCons (mV 3) aNil))) sNil) sNil) sNil))) (sSeq (sRet (mV 1)) sNil)))
noncomputable def m__law_pool : FnL := mDefL 1 4 b__law_pool
/-- _law_end(hand, pool, sectors, most, mends): slots 0=hand 1=pool 2=sectors 3=most 4=mends 5=number 6=steps 7=k -/
noncomputable def b__law_end : Ms :=
  (sSeq (sSet 5 (mN m__law_draw (aCons (mV 0) (aCons (mV 3) aNil)))) (sSeq (sIf (tBl (mOp2 cGe (mN m__law_draw (aCons (mV 0) (aCons (mC (.int 3)) aNil))) (mV 4))) (sSeq (sRet (mN fTup (aCons (mC (.str "say")) (aCons (mV 5) aNil)))) sNil) sNil) (sSeq (sSet 6 (mNew (lLst aNil))) (sSeq (sFor (.nm 7) (iRange1 (aCons (mN m__law_draw (aCons (mV 0) (aCons (mC (.int 5)) aNil))) aNil)) (sSeq (sIf (tBl (mOp2 fEq (mN m__law_draw (aCons (mV 0) (aCons (mC (.int 3)) aNil))) (mC (.int 0)))) (sSeq (sExpr (mBM fApp (mV 6) (aCons (mN fTup (aCons (mC (.str "barrier")) aNil)) aNil))) sNil) (sSeq (sExpr (mBM fApp (mV 6) (aCons (mN fTup (aCons (mC (.str "write")) (aCons (mN m__law_draw (aCons (mV 0) (aCons (mV 2) aNil))) (aCons (mN m__law_any (aCons (mV 0) (aCons (mV 1) aNil))) aNil)))) aNil))) sNil)) sNil)) (sSeq (sRet (mN fTup (aCons (mC (.str "mend")) (aCons (mV 5) (aCons (mN fTuple (aCons (mV 6) aNil)) aNil))))) sNil)))))
noncomputable def m__law_end : Fn := mDef 5 8 b__law_end
/-- is_value(thing): slots 0=thing 1=item -/
noncomputable def b_is_value : Ms :=
  (sSeq (sIf (tOrM (tNotM (tOf (mIsi .tup (mV 0)))) (tBl (mOp2 cGt (mN fLen (aCons (mV 0) aNil)) (mC (.int 32))))) (sSeq (sRet (mC (.bl false))) sNil) sNil) (sSeq (sRet (mN fAll (aCons (mL (lComp (.nm 1) [1] (iSeq (mV 0)) tYesM (mN m_is_between (aCons (mV 1) (aCons (mC (.int 0)) (aCons (mC (.int 1000000000000)) aNil)))))) aNil))) sNil))
noncomputable def m_is_value : Fn := mDef 1 2 b_is_value
/-- is_index(thing, many): slots 0=thing 1=many -/
noncomputable def b_is_index : Ms :=
  (sSeq (sRet (mN m_is_between (aCons (mV 0) (aCons (mC (.int 0)) (aCons (mOp2 fSub (mV 1) (mC (.int 1))) aNil))))) sNil)
noncomputable def m_is_index : Fn := mDef 2 2 b_is_index
/-- is_held(thing): slots 0=thing -/
noncomputable def b_is_held : Ms :=
  (sSeq (sRet (mOr (mOp2 fIsN (mV 0) (mC .non)) (mN m_is_value (aCons (mV 0) aNil)))) sNil)
noncomputable def m_is_held : Fn := mDef 1 1 b_is_held
/-- is_disk_step(thing, sectors): slots 0=thing 1=sectors -/
noncomputable def b_is_disk_step : Ms :=
  (sSeq (sIf (tOrM (tNotM (tOf (mIsi .tup (mV 0)))) (tOrM (tBl (mOp2 fEq (mN fLen (aCons (mV 0) aNil)) (mC (.int 0)))) (tNotM (tOf (mIsi .str (mOp2 fIx (mV 0) (mC (.int 0)))))))) (sSeq (sRet (mC (.bl false))) sNil) sNil) (sSeq (sIf (tBl (mOp2 fEq (mOp2 fIx (mV 0) (mC (.int 0))) (mC (.str "barrier")))) (sSeq (sRet (mOp2 fEq (mN fLen (aCons (mV 0) aNil)) (mC (.int 1)))) sNil) sNil) (sSeq (sRet (mAnd (mOp2 fEq (mOp2 fIx (mV 0) (mC (.int 0))) (mC (.str "write"))) (mAnd (mOp2 fEq (mN fLen (aCons (mV 0) aNil)) (mC (.int 3))) (mAnd (mN m_is_index (aCons (mOp2 fIx (mV 0) (mC (.int 1))) (aCons (mV 1) aNil))) (mN m_is_value (aCons (mOp2 fIx (mV 0) (mC (.int 2))) aNil)))))) sNil)))
noncomputable def m_is_disk_step : Fn := mDef 2 2 b_is_disk_step
/-- Disk_write(self, sector, value): slots 0=self 1=sector 2=value -/
noncomputable def b_Disk_write : Ms :=
  (sSeq (sIf (tNotM (tOf (mN m_is_index (aCons (mV 1) (aCons (mN fLen (aCons (mFld ["Disk"] "kept" (mV 0)) aNil)) aNil))))) (sSeq sNever sNil) sNil) (sSeq (sIf (tNotM (tOf (mN m_is_value (aCons (mV 2) aNil)))) (sSeq sNever sNil) sNil) (sSeq (sExpr (mBM fApp (mDSetd (mFld ["Disk"] "writes" (mV 0)) (mV 1) (mNew (lLst aNil))) (aCons (mV 2) aNil))) (sSeq (sExpr (mMeth [("Disk", m_Disk_tell)] "tell" (mV 0) aNil)) sNil))))
noncomputable def m_Disk_write : Fn := mDefK 3 3 b_Disk_write
/-- is_state(thing): slots 0=thing 1=item -/
noncomputable def b_is_state : Ms :=
  (sSeq (sRet (mAnd (mIsi .tup (mV 0)) (mAnd (mChain cLe cLe (mC (.int 1)) (mN fLen (aCons (mV 0) aNil)) (mC (.int 64))) (mN fAll (aCons (mL (lComp (.nm 1) [1] (iSeq (mV 0)) tYesM (mN m_is_held (aCons (mV 1) aNil)))) aNil))))) sNil)
noncomputable def m_is_state : Fn := mDef 1 2 b_is_state
/-- are_cases(thing): slots 0=thing 1=pair -/
noncomputable def b_are_cases : Ms :=
  (sSeq (sIf (tOrM (tNotM (tOf (mIsi .tup (mV 0)))) (tNotM (tBl (mChain cLe cLe (mC (.int 1)) (mN fLen (aCons (mV 0) aNil)) (mC (.int 16)))))) (sSeq (sRet (mC (.bl false))) sNil) sNil) (sSeq (sIf (tNotM (tOf (mN fAll (aCons (mL (lComp (.nm 1) [1] (iSeq (mV 0)) tYesM (mAnd (mIsi .tup (mV 1)) (mAnd (mOp2 fEq (mN fLen (aCons (mV 1) aNil)) (mC (.int 2))) (mN m_is_held (aCons (mOp2 fIx (mV 1) (mC (.int 0))) aNil)))))) aNil)))) (sSeq (sRet (mC (.bl false))) sNil) sNil) (sSeq (sRet (mN m_are_ascending (aCons (mL (lComp (.nm 1) [1] (iSeq (mV 0)) tYesM (mOp2 fIx (mV 1) (mC (.int 0))))) aNil))) sNil)))
noncomputable def m_are_cases : Fn := mDef 1 2 b_are_cases
/-- is_end(thing, sectors): slots 0=thing 1=sectors 2=step -/
noncomputable def b_is_end : Ms :=
  (sSeq (sIf (tOrM (tNotM (tOf (mIsi .tup (mV 0)))) (tOrM (tBl (mOp2 cLt (mN fLen (aCons (mV 0) aNil)) (mC (.int 2)))) (tNotM (tOf (mIsi .str (mOp2 fIx (mV 0) (mC (.int 0)))))))) (sSeq (sRet (mC (.bl false))) sNil) sNil) (sSeq (sIf (tBl (mOp2 fEq (mOp2 fIx (mV 0) (mC (.int 0))) (mC (.str "say")))) (sSeq (sRet (mAnd (mOp2 fEq (mN fLen (aCons (mV 0) aNil)) (mC (.int 2))) (mN m_is_between (aCons (mOp2 fIx (mV 0) (mC (.int 1))) (aCons (mC (.int 0)) (aCons (mC (.int 1000000000)) aNil)))))) sNil) sNil) (sSeq (sIf (tOrM (tBl (mOp2 fNe (mOp2 fIx (mV 0) (mC (.int 0))) (mC (.str "mend")))) (tOrM (tBl (mOp2 fNe (mN fLen (aCons (mV 0) aNil)) (mC (.int 3)))) (tNotM (tOf (mN m_is_between (aCons (mOp2 fIx (mV 0) (mC (.int 1))) (aCons (mC (.int 0)) (aCons (mC (.int 1000000000)) aNil)))))))) (sSeq (sRet (mC (.bl false))) sNil) sNil) (sSeq (sIf (tOrM (tNotM (tOf (mIsi .tup (mOp2 fIx (mV 0) (mC (.int 2)))))) (tBl (mOp2 cGt (mN fLen (aCons (mOp2 fIx (mV 0) (mC (.int 2))) aNil)) (mC (.int 20))))) (sSeq (sRet (mC (.bl false))) sNil) sNil) (sSeq (sRet (mN fAll (aCons (mL (lComp (.nm 2) [2] (iSeq (mOp2 fIx (mV 0) (mC (.int 2)))) tYesM (mN m_is_disk_step (aCons (mV 2) (aCons (mV 1) aNil))))) aNil))) sNil)))))
noncomputable def m_is_end : Fn := mDef 2 3 b_is_end
/-- do_step(disk, step): slots 0=disk 1=step -/
noncomputable def b_do_step : Ms :=
  (sSeq (sIf (tBl (mOp2 fEq (mOp2 fIx (mV 1) (mC (.int 0))) (mC (.str "write")))) (sSeq (sExpr (mMeth [("Disk", m_Disk_write)] "write" (mV 0) (aCons (mOp2 fIx (mV 1) (mC (.int 1))) (aCons (mOp2 fIx (mV 1) (mC (.int 2))) aNil)))) sNil) (sSeq (sIf (tBl (mOp2 fEq (mOp2 fIx (mV 1) (mC (.int 0))) (mC (.str "barrier")))) (sSeq (sExpr (mMeth [("Disk", m_Disk_barrier)] "barrier" (mV 0) aNil)) sNil) sNil) sNil)) sNil)
noncomputable def m_do_step : Fn := mDefK 2 2 b_do_step
/-- check_state(thing): slots 0=thing -/
noncomputable def b_check_state : Ms :=
  (sSeq (sIf (tNotM (tOf (mN m_is_state (aCons (mV 0) aNil)))) (sSeq sNever sNil) sNil) sNil)
noncomputable def m_check_state : Fn := mDef 1 1 b_check_state
/-- is_ask(thing, sectors): slots 0=thing 1=sectors -/
noncomputable def b_is_ask : Ms :=
  (sSeq (sIf (tOrM (tNotM (tOf (mIsi .tup (mV 0)))) (tOrM (tBl (mOp2 fNe (mN fLen (aCons (mV 0) aNil)) (mC (.int 4)))) (tOrM (tNotM (tOf (mIsi .str (mOp2 fIx (mV 0) (mC (.int 0)))))) (tBl (mOp2 fNe (mOp2 fIx (mV 0) (mC (.int 0))) (mC (.str "ask"))))))) (sSeq (sRet (mC (.bl false))) sNil) sNil) (sSeq (sRet (mAnd (mN m_is_index (aCons (mOp2 fIx (mV 0) (mC (.int 1))) (aCons (mV 1) aNil))) (mN m_are_cases (aCons (mOp2 fIx (mV 0) (mC (.int 2))) aNil)))) sNil))
noncomputable def m_is_ask : Fn := mDef 2 2 b_is_ask
/-- is_right(sectors, thing): slots 0=sectors 1=thing 2=level 3=many 4=_ 5=below 6=tree -/
noncomputable def b_is_right : Ms :=
  (sSeq (sSet 2 (mL (lLst (aCons (mV 1) aNil)))) (sSeq (sSet 3 (mC (.int 0))) (sSeq (sFor (.nm 4) (iRange1 (aCons (mC (.int 12)) aNil)) (sSeq (sAug (fun i j => i + j) 3 (mN fLen (aCons (mV 2) aNil))) (sSeq (sIf (tBl (mOp2 cGt (mV 3) (mC (.int 400)))) (sSeq (sRet (mC (.bl false))) sNil) sNil) (sSeq (sSet 5 (mNew (lLst aNil))) (sSeq (sFor (.nm 6) (iSeq (mV 2)) (sSeq (sIf (tOf (mN m_is_ask (aCons (mV 6) (aCons (mV 0) aNil)))) (sSeq (sExpr (mBM fExt (mV 5) (aCons (mN m_inner (aCons (mV 6) aNil)) aNil))) sNil) (sSeq (sIf (tNotM (tOf (mN m_is_end (aCons (mV 6) (aCons (mV 0) aNil))))) (sSeq (sRet (mC (.bl false))) sNil) sNil) sNil)) sNil)) (sSeq (sIf (tBl (mOp2 fEq (mN fLen (aCons (mV 5) aNil)) (mC (.int 0)))) (sSeq (sRet (mC (.bl true))) sNil) sNil) (sSeq (sSet 2 (mV 5)) sNil))))))) (sSeq (sRet (mC (.bl false))) sNil))))
noncomputable def m_is_right : Fn := mDef 2 7 b_is_right
/-- Disk___init__(self, state): slots 0=self 1=state -/
noncomputable def b_Disk___init__ : Ms :=
  (sSeq (sExpr (mN m_check_state (aCons (mV 1) aNil))) (sSeq (sFldM ["Disk"] "kept" (mV 0) (mNew (lN lList (aCons (mV 1) aNil)))) (sSeq (sFldM ["Disk"] "writes" (mV 0) mDNew) (sSeq (sFldM ["Disk"] "watcher" (mV 0) (mC .non)) sNil))))
noncomputable def m_Disk___init__ : Fn := mDefK 2 2 b_Disk___init__
/-- check_reader(sectors, thing): slots 0=sectors 1=thing -/
noncomputable def b_check_reader : Ms :=
  (sSeq (sIf (tNotM (tOf (mN m_is_right (aCons (mV 0) (aCons (mV 1) aNil))))) (sSeq sNever sNil) sNil) sNil)
noncomputable def m_check_reader : Fn := mDef 2 2 b_check_reader
/-- mended(reader, state): slots 0=reader 1=state 2=disk 3=step -/
noncomputable def b_mended : Ms :=
  (sSeq (sExpr (mN m_check_state (aCons (mV 1) aNil))) (sSeq (sExpr (mN m_check_reader (aCons (mN fLen (aCons (mV 1) aNil)) (aCons (mV 0) aNil)))) (sSeq (sSet 2 (mMake "Disk" m_Disk___init__ (aCons (mV 1) aNil))) (sSeq (sFor (.nm 3) (iSeq (mN m_steps_of (aCons (mOp2 fIx (mN m_led (aCons (mV 0) (aCons (mV 1) aNil))) (mC (.int 1))) aNil))) (sSeq (sExpr (mN m_do_step (aCons (mV 2) (aCons (mV 3) aNil)))) sNil)) (sSeq (sRet (mMeth [("Disk", m_Disk_now)] "now" (mV 2) aNil)) sNil)))))
noncomputable def m_mended : Fn := mDefK 2 4 b_mended
/-- check_both(reader, state): slots 0=reader 1=state -/
noncomputable def b_check_both : Ms :=
  (sSeq (sExpr (mN m_check_state (aCons (mV 1) aNil))) (sSeq (sExpr (mN m_check_reader (aCons (mN fLen (aCons (mV 1) aNil)) (aCons (mV 0) aNil)))) sNil))
noncomputable def m_check_both : Fn := mDef 2 2 b_check_both
/-- leaf(reader, state): slots 0=reader 1=state -/
noncomputable def b_leaf : Ms :=
  (sSeq (sExpr (mN m_check_both (aCons (mV 0) (aCons (mV 1) aNil)))) (sSeq (sRet (mOp2 fIx (mN m_led (aCons (mV 0) (aCons (mV 1) aNil))) (mC (.int 1)))) sNil))
noncomputable def m_leaf : Fn := mDefK 2 2 b_leaf
/-- read(reader, state): slots 0=reader 1=state -/
noncomputable def b_read : Ms :=
  (sSeq (sExpr (mN m_check_both (aCons (mV 0) (aCons (mV 1) aNil)))) (sSeq (sRet (mOp2 fIx (mOp2 fIx (mN m_led (aCons (mV 0) (aCons (mV 1) aNil))) (mC (.int 1))) (mC (.int 1)))) sNil))
noncomputable def m_read : Fn := mDefK 2 2 b_read
/-- _law_reader(hand, pool, sectors, deep, most, mends): slots 0=hand 1=pool 2=sectors 3=deep 4=most 5=mends 6=some 7=kept 8=cases 9=thing; it calls itself -/
noncomputable def b__law_reader (self : Fn) : Ms :=
  (sSeq (sIf (tOrM (tBl (mOp2 fEq (mV 3) (mC (.int 0)))) (tBl (mOp2 fEq (mN m__law_draw (aCons (mV 0) (aCons (mC (.int 5)) aNil))) (mC (.int 0))))) (sSeq (sRet (mN m__law_end (aCons (mV 0) (aCons (mV 1) (aCons (mV 2) (aCons (mV 4) (aCons (mV 5) aNil))))))) sNil) sNil) (sSeq (sSet 6 (mOp2 fAdd (mL (lLst (aCons (mC .non) aNil))) (mL (lN fSorted (aCons (mV 1) aNil))))) (sSeq (sSet 6 (mSl (mV 6) (oSome (mN m__law_draw (aCons (mV 0) (aCons (mC (.int 2)) aNil)))) oNone)) (sSeq (sSet 7 (mL (lComp (.nm 9) [9] (iSeq (mV 6)) (tBl (mOp2 cGt (mN m__law_draw (aCons (mV 0) (aCons (mC (.int 3)) aNil))) (mC (.int 0)))) (mV 9)))) (sSeq (sIf (tBl (mOp2 fEq (mV 7) (mL (lLst aNil)))) (sSeq (sSet 7 (mSl (mV 6) (oSome (mOp1 fNeg (mC (.int 1)))) oNone)) sNil) sNil) (sSeq (sSet 8 (mN fTuple (aCons (mL (lComp (.nm 9) [9] (iSeq (mV 7)) tYesM (mN fTup (aCons (mV 9) (aCons (mN self (aCons (mV 0) (aCons (mV 1) (aCons (mV 2) (aCons (mOp2 fSub (mV 3) (mC (.int 1))) (aCons (mV 4) (aCons (mV 5) aNil))))))) aNil))))) aNil))) (sSeq (sRet (mN fTup (aCons (mC (.str "ask")) (aCons (mN m__law_draw (aCons (mV 0) (aCons (mV 2) aNil))) (aCons (mV 8) (aCons (mN self (aCons (mV 0) (aCons (mV 1) (aCons (mV 2) (aCons (mOp2 fSub (mV 3) (mC (.int 1))) (aCons (mV 4) (aCons (mV 5) aNil))))))) aNil)))))) sNil)))))))
noncomputable def m__law_reader : Nat → Fn
  | 0 => fun _ _ => .stuck
  | n + 1 => mDef 6 10 (b__law_reader (m__law_reader n))
/-- law(script): slots 0=script 1=hand 2=turn 3=sectors 4=pool 5=state 6=reader 7=end 8=settled 9=waiting 10=k -/
noncomputable def b_law : Ms :=
  (sSeq (sSet 1 (mNew (lN m__law_hand (aCons (mV 0) aNil)))) (sSeq (sFor (.nm 2) (iRange1 (aCons (mC (.int 5)) aNil)) (sSeq (sSet 3 (mOp2 fAdd (mC (.int 1)) (mN m__law_draw (aCons (mV 1) (aCons (mC (.int 4)) aNil))))) (sSeq (sSet 4 (mL (lN m__law_pool (aCons (mV 1) aNil)))) (sSeq (sSet 5 (mN fTuple (aCons (mL (lComp (.nm 10) [10] (iRange1 (aCons (mV 3) aNil)) tYesM (mN m__law_any (aCons (mV 1) (aCons (mOp2 fAdd (mV 4) (mL (lLst (aCons (mC .non) aNil)))) aNil))))) aNil))) (sSeq (sSet 6 (mN (m__law_reader 20) (aCons (mV 1) (aCons (mV 4) (aCons (mV 3) (aCons (mC (.int 3)) (aCons (mC (.int 5)) (aCons (mOp2 fAdd (mC (.int 2)) (mN m__law_draw (aCons (mV 1) (aCons (mC (.int 2)) aNil)))) aNil)))))))) (sSeq (sSet 7 (mN m__law_led (aCons (mV 6) (aCons (mV 5) aNil)))) (sSeq (sAsg (.tp [(.nm 8), (.nm 9)]) (mN m__law_behind (aCons (mV 5) (aCons (mOp2 fAdd (mN m__law_mends (aCons (mV 7) aNil)) (mN fTup (aCons (mN fTup (aCons (mC (.str "barrier")) aNil)) aNil))) aNil)))) (sSeq (sIf (tOrM (tBl (mOp2 fNe (mN m_mended (aCons (mV 6) (aCons (mV 5) aNil))) (mV 8))) (tOrM (tBl (mOp2 fNe (mN m_leaf (aCons (mV 6) (aCons (mV 5) aNil))) (mV 7))) (tBl (mOp2 fNe (mN m_read (aCons (mV 6) (aCons (mV 5) aNil))) (mOp2 fIx (mV 7) (mC (.int 1))))))) (sSeq (sRet (mC (.bl false))) sNil) sNil) (sSeq (sIf (tAndM (tBl (mOp2 fEq (mOp2 fIx (mV 7) (mC (.int 0))) (mC (.str "say")))) (tBl (mOp2 fNe (mN m_mended (aCons (mV 6) (aCons (mV 5) aNil))) (mV 5)))) (sSeq (sRet (mC (.bl false))) sNil) sNil) sNil))))))))) (sSeq (sRet (mC (.bl true))) sNil)))
noncomputable def m_law : Fn := mDef 1 11 b_law
end My
namespace My
open PySem AB L2
def hand (cs : List Int) (a b s t : Int) : AO := .lst [.lst (cs.map .int), .int a, .int b, .int s, .int t]
def IsP (cs : List Int) (o : AO) : Prop := ∃ a b s t, o = hand cs a b s t ∧ 0 ≤ a ∧ a ≤ cs.length ∧ 0 ≤ b
theorem mod_lo (k : Int) (hk : 0 < k) (x : Int) : -1152921504606846976 ≤ x % k := by
  have := Int.emod_nonneg x (show k ≠ 0 by omega)
  omega
theorem mod_hi (k : Int) (hk : 0 < k) (hk2 : k ≤ 2147483647) (x : Int) : x % k ≤ 1152921504606846976 := by
  have := Int.emod_lt_of_pos x hk
  omega
theorem draw_ok {cs : List Int} (hc : ∀ c ∈ cs, 0 ≤ c) {P : AO} (hP : IsP cs P) {many : Int} (h1 : 1 ≤ many) (h2 : many ≤ 1000000001) (tl : AH) :
    ∃ r P', m__law_draw [.loc 0, .int many] (P :: tl) = .ok (.int r) (P' :: tl) ∧ IsP cs P' ∧ 0 ≤ r ∧ r < many := by
  have hm : 0 < many := by omega
  have hm60 : many ≤ 1152921504606846976 := by omega
  have mm : ∀ x : Int, 0 ≤ x % many ∧ x % many < many := fun x => ⟨Int.emod_nonneg x (by omega), Int.emod_lt_of_pos x hm⟩
  have l1 := mod_lo 2147483647 (by decide)
  have l2 := mod_lo 2147483399 (by decide)
  have u1 := mod_hi 2147483647 (by decide) (by decide)
  have u2 := mod_hi 2147483399 (by decide) (by decide)
  obtain ⟨a, b, s, t, rfl, ha, ha2, hb⟩ := hP
  by_cases c1 : b = 0 ∧ a < cs.length
  · obtain ⟨rfl, c1⟩ := c1
    obtain ⟨c, hcx, hcm⟩ := atI_some ha c1
    have hc0 := hc c hcm
    by_cases c2 : 1000000000000000000 ≤ c
    · have c3 : 0 < c := by omega
      simp [m__law_draw, mDef, b__law_draw, hand, ixN, c1, atI_map, hcx, c2, c3, hm, hm60, finD]
      exact ⟨_, _, ⟨rfl, rfl⟩, ⟨_, _, _, _, rfl, by omega, by omega, Int.ediv_nonneg hc0 (by omega)⟩, mm _⟩
    · simp [m__law_draw, mDef, b__law_draw, hand, ixN, c1, atI_map, hcx, c2, hm, hm60, finD, l1, l2, u1, u2]
      exact ⟨_, _, ⟨rfl, rfl⟩, ⟨_, _, _, _, rfl, by omega, by omega, by omega⟩, mm _⟩
  · by_cases c2 : 0 < b
    · have c3 : ¬ b = 0 := by omega
      simp [m__law_draw, mDef, b__law_draw, hand, ixN, c3, c2, hm, hm60, finD]
      exact ⟨_, _, ⟨rfl, rfl⟩, ⟨_, _, _, _, rfl, by omega, by omega, Int.ediv_nonneg hb (by omega)⟩, mm _⟩
    · have c3 : b = 0 := by omega
      subst c3
      have c4 : ¬ a < cs.length := fun z => c1 ⟨rfl, z⟩
      simp [m__law_draw, mDef, b__law_draw, hand, ixN, c4, hm, hm60, finD, l1, l2, u1, u2]
      exact ⟨_, _, ⟨rfl, rfl⟩, ⟨_, _, _, _, rfl, by omega, by omega, by omega⟩, mm _⟩
def absI (i : Int) : Int := if i < 0 then -i else i
theorem absI_nn (i : Int) : 0 ≤ absI i := by
  unfold absI
  split <;> omega
theorem hand_ok (ns : List Int) (hl : ns.length ≤ 63) : ∃ cs : List Int, (∀ c ∈ cs, 0 ≤ c) ∧ ∃ s, m__law_hand [.rol (ns.map .int)] [] = .ok [.lst (cs.map .int), .int 0, .int 0, .int s, .int 0] [] := by
  refine ⟨ns.map absI, fun c hc => ?_, 1 + ns.length, ?_⟩
  · obtain ⟨i, _, rfl⟩ := List.mem_map.mp hc
    exact absI_nn i
  have hc : ∀ (all0 : List D) (b : Option D), compGo (.nm 2) tYesM (mN fAbs (aCons (mN fInt (aCons (mV 2) aNil)) aNil)) none all0 [some (.rol (ns.map .int)), b, none] (ns.map .int) [] = .ok (ns.map fun i => .int (absI i)) [] := by
    intro all0 b
    exact comp_all _ _ _ fun i hi => ⟨[some (.rol (ns.map .int)), b, some (.int i)], rfl, by simp [absI]⟩
  have e1 : cutD (ns.map D.int) none (some 63) = ns.map .int := by
    have := cut_to D.int ns 63
    rw [List.take_of_length_le hl] at this
    exact this
  have l1 : ns.length ≤ big := by rw [big_eq]; omega
  have l2 : (5 : Nat) ≤ big := by decide
  have e2 : underL 0 [D.lst (ns.map fun i => D.int (absI i)), D.int 0, D.int 0, D.int (1 + ns.length), D.int 0] = true := by
    simp [underL, D.under, under_intF]
  have e3 := finL_new [] [D.lst (ns.map fun i => D.int (absI i)), D.int 0, D.int 0, D.int (1 + ns.length), D.int 0] e2
  have e4 : (ns.map absI).map D.int = ns.map fun i => D.int (absI i) := by rw [List.map_map]; rfl
  rw [e4]
  simp [m__law_hand, mDefL, b__law_hand, wipeG, e1, hc, l1, l2]
  simpa using e3
theorem any_ok {cs : List Int} (hc : ∀ c ∈ cs, 0 ≤ c) {P : AO} (hP : IsP cs P) (ds : List D) (h1 : 1 ≤ ds.length) (h2 : ds.length ≤ 1000000) (tl : AH) :
    ∃ x P', m__law_any [.loc 0, .lst ds] (P :: tl) = .ok x (P' :: tl) ∧ IsP cs P' ∧ x ∈ ds := by
  obtain ⟨r, P', e, hP', r0, r1⟩ := draw_ok hc hP (many := ds.length) (by omega) (by omega) tl
  obtain ⟨x, hx, hm⟩ := atI_some r0 r1
  refine ⟨x, P', ?_, hP', hm⟩
  have fin : ∀ x : D, finD (tl.length + 1) (P :: tl) x (P' :: tl) = .ok x (P' :: tl) := fun x => by
    unfold finD
    rw [if_pos (by simp)]
  simp [m__law_any, mDef, b__law_any, e, hx, fin]
end My
namespace My
open PySem AB L2
/-- a value, or what is held: none for a torn one -/
abbrev Val := List Int
def vD (v : Val) : D := .tup (v.map .int)
def hvD : Option Val → D
  | none => .non
  | some v => vD v
structure VOk (v : Val) : Prop where
  bd : ∀ k ∈ v, 0 ≤ k ∧ k ≤ 1000000000000
  len : v.length ≤ 32
theorem ints_of (zs : List (Nat × D)) (h : ∀ z ∈ zs, ∃ k : Int, z.2 = .int k ∧ 0 ≤ k ∧ k < 3) : ∃ v : Val, zs.map (·.2) = v.map D.int ∧ (∀ k ∈ v, 0 ≤ k ∧ k < 3) ∧ v.length = zs.length := by
  induction zs with
  | nil => exact ⟨[], rfl, by simp, rfl⟩
  | cons z zs ih =>
    obtain ⟨v, e, hv, hl⟩ := ih fun y hy => h y (List.mem_cons_of_mem _ hy)
    obtain ⟨k, ek, k0, k1⟩ := h z List.mem_cons_self
    refine ⟨k :: v, by simp [ek, e], fun j hj => ?_, by simp [hl]⟩
    rcases List.mem_cons.mp hj with rfl | hj
    · exact ⟨k0, k1⟩
    · exact hv j hj
theorem value_ok {cs : List Int} (hc : ∀ c ∈ cs, 0 ≤ c) {P : AO} (hP : IsP cs P) (tl : AH) :
    ∃ v P', m__law_value [.loc 0] (P :: tl) = .ok (vD v) (P' :: tl) ∧ IsP cs P' ∧ VOk v := by
  obtain ⟨r, P1, e1, hP1, r0, r1⟩ := draw_ok hc hP (many := 4) (by omega) (by omega) tl
  obtain ⟨n, hn, hn2⟩ : ∃ n : Nat, atI [D.int 1, D.int 1, D.int 2, D.int 0] r = some (.int n) ∧ n ≤ 2 := by
    have : r = 0 ∨ r = 1 ∨ r = 2 ∨ r = 3 := by omega
    rcases this with rfl | rfl | rfl | rfl
    · exact ⟨1, rfl, by omega⟩
    · exact ⟨1, rfl, by omega⟩
    · exact ⟨2, rfl, by omega⟩
    · exact ⟨0, rfl, by omega⟩
  obtain ⟨zs, h', e2, ⟨P2, hP2, rfl⟩, e3, hz⟩ := comp_gen (p := .nm 1) (e := mN m__law_draw (aCons (mV 0) (aCons (mC (.int 3)) aNil))) (all0 := (List.range n).map fun i : Nat => D.int (i : Int)) (G0 := [some (.loc 0), none]) (I := fun h => ∃ P', IsP cs P' ∧ h = P' :: tl)
    (R := fun (_ : Nat) d => ∃ k : Int, d = .int k ∧ 0 ≤ k ∧ k < 3) (fun i : Nat => D.int (i : Int)) (List.range n)
    (by
      rintro i hi h ⟨P', hP', rfl⟩
      obtain ⟨k, P2, e, hP2, k0, k1⟩ := draw_ok hc hP' (many := 3) (by omega) (by omega) tl
      exact ⟨[some (.loc 0), some (.int i)], .int k, P2 :: tl, rfl, by simp [e], ⟨P2, hP2, rfl⟩, k, rfl, k0, k1⟩)
    (P1 :: tl) ⟨P1, hP1, rfl⟩
  obtain ⟨v, ev, hv, hl⟩ := ints_of zs hz
  have lz : zs.length = n := by
    have := congrArg List.length e3
    simpa using this
  have er : rangeD 0 n = (List.range n).map fun i : Nat => D.int (i : Int) := rangeD_eq n
  have c1 : okR (n : Int) := ⟨by omega, by omega⟩
  have c4 : n ≤ big := by rw [big_eq]; omega
  have b4 : (4 : Nat) ≤ big := by decide
  have fin : ∀ x : D, finD (tl.length + 1) (P :: tl) x (P2 :: tl) = .ok x (P2 :: tl) := fun x => by
    unfold finD
    rw [if_pos (by simp)]
  rw [ev] at e2
  refine ⟨v, P2, ?_, hP2, ⟨fun k hk => by have := hv k hk; omega, by omega⟩⟩
  simp [m__law_value, mDef, b__law_value, e1, hn, c1, er, c4, b4, wipeG, e2, fin, vD]
end My
namespace My
open PySem AB L2
/-! values as data -/
def vP (v : Val) : PyData := .tuple (v.map .int)
def hvP : Option Val → PyData
  | none => .none
  | some v => vP v
theorem toP_v (v : Val) : toP (vD v) = some (vP v) := by
  show (toPs (v.map D.int)).map PyData.tuple = _
  rw [toPs_ints]
  rfl
theorem toP_hv (o : Option Val) : toP (hvD o) = some (hvP o) := by
  cases o with
  | none => rfl
  | some v => exact toP_v v
theorem lay_v (v : Val) : PyData.canLay0 (vP v) = true := by simp [vP, PyData.canLay0, lay_ints]
theorem dep_v (v : Val) : PyData.depth (vP v) = 1 := by simp [vP, PyData.depth, dep_ints]
theorem eqv_ints : ∀ a b : List Int, PyData.eqvAll (a.map PyData.int) (b.map PyData.int) = decide (a = b)
  | [], [] => by simp [PyData.eqvAll]
  | [], y :: b => by simp [PyData.eqvAll]
  | x :: a, [] => by simp [PyData.eqvAll]
  | x :: a, y :: b => by
    simp only [List.map_cons, PyData.eqvAll, PyData.eqv, eqv_ints a b]
    by_cases h : x = y
    · subst h
      simp
    · simp [h]
theorem eqv_v (a b : Val) : PyData.eqv (vP a) (vP b) = decide (a = b) := by
  simp only [vP, PyData.eqv]
  exact eqv_ints a b
theorem eqv_hv (a b : Option Val) : PyData.eqv (hvP a) (hvP b) = decide (a = b) := by
  cases a with
  | none =>
    cases b with
    | none => simp [hvP, PyData.eqv]
    | some b => simp [hvP, vP, PyData.eqv]
  | some a =>
    cases b with
    | none => simp [hvP, vP, PyData.eqv]
    | some b =>
      show PyData.eqv (vP a) (vP b) = _
      rw [eqv_v]
      simp
theorem lay_hv (o : Option Val) : PyData.canLay0 (hvP o) = true := by
  cases o with
  | none => simp [hvP, PyData.canLay0]
  | some v => exact lay_v v
theorem dep_hv (o : Option Val) : PyData.depth (hvP o) ≤ 1 := by
  cases o with
  | none => simp [hvP, PyData.depth]
  | some v => exact Nat.le_of_eq (dep_v v)
theorem toPs_hv : ∀ os : List (Option Val), toPs (os.map hvD) = some (os.map hvP)
  | [] => rfl
  | o :: os => by
    show (match toP (hvD o), toPs (os.map hvD) with | some p, some ps => some (p :: ps) | _, _ => none) = _
    rw [toP_hv, toPs_hv os]
    rfl
theorem lay_hvs : ∀ os : List (Option Val), PyData.canLayAll0 (os.map hvP) = true
  | [] => by simp [PyData.canLayAll0]
  | o :: os => by simp [PyData.canLayAll0, lay_hv o, lay_hvs os]
theorem dep_hvs : ∀ os : List (Option Val), PyData.depthAll (os.map hvP) ≤ 2
  | [] => by simp [PyData.depthAll]
  | o :: os => by
    have h1 := dep_hv o
    have h2 := dep_hvs os
    simp only [List.map_cons, PyData.depthAll]
    omega
theorem any_hv (o : Option Val) (os : List (Option Val)) : ((os.map hvP).any fun z => PyData.eqv z (hvP o)) = decide (o ∈ os) := by
  induction os with
  | nil => rfl
  | cons x os ih =>
    rw [List.map_cons, List.any_cons, ih, eqv_hv]
    by_cases h : x = o
    · subst h
      simp
    · have h2 : ¬ o = x := fun e => h e.symm
      simp [h, h2]
theorem okP_hv {h : AH} (o : Option Val) : okP h (hvD o) = some (hvP o) := by
  unfold okP
  have e : toPh h (hvD o) = some (hvP o) := by
    have := toP_hv o
    cases o <;> exact this
  rw [e]
  have : SeqAt.shaped (hvP o) = true := by
    have := dep_hv o
    simp [SeqAt.shaped, lay_hv]
    omega
  simp [this]
theorem shaped_hvs (os : List (Option Val)) : SeqAt.shaped (.list (os.map hvP)) = true := by
  have := dep_hvs os
  simp [SeqAt.shaped, PyData.canLay0, PyData.depth, lay_hvs]
  omega
theorem okP_hvO {h : AH} {n : Nat} {os : List (Option Val)} (hn : h[n]? = some (.lst (os.map hvD))) : okP h (.loc n) = some (.list (os.map hvP)) := by
  unfold okP
  have e : toPh h (.loc n) = some (.list (os.map hvP)) := by
    show (match h[n]? with | some (.lst ds) => (toPs ds).map PyData.list | _ => none) = _
    rw [hn]
    show (toPs (os.map hvD)).map PyData.list = _
    rw [toPs_hv]
    rfl
  rw [e]
  simp [shaped_hvs]
theorem notin_hvO {h : AH} {n : Nat} {os : List (Option Val)} (hn : h[n]? = some (.lst (os.map hvD))) (o : Option Val) : fNotIn (hvD o) (.loc n) h = .ok (.bl (!decide (o ∈ os))) h := by
  unfold fNotIn inD
  rw [okP_hv, okP_hvO hn]
  simp only [any_hv]
theorem eq_hv {h : AH} (a b : Option Val) : fEq (hvD a) (hvD b) h = .ok (.bl (decide (a = b))) h := by
  unfold fEq
  rw [okP_hv, okP_hv]
  simp only [eqv_hv]
end My
namespace My
open PySem AB L2
theorem under_P {cs : List Int} {P : AO} (h : IsP cs P) (n : Nat) : P.under n = true := by
  obtain ⟨a, b, s, t, rfl, _⟩ := h
  simp [hand, AO.under, underL, D.under, under_ints]
theorem under_vs (n : Nat) (L : List Val) : underL n (L.map vD) = true := by
  induction L with
  | nil => simp [underL]
  | cons v L ih => simp [underL, ih, vD, D.under, under_ints]
/-- the objects of a def are forgotten: the hand has gone on -/
theorem okCells_hand {cs : List Int} {P P2 : AO} (hP2 : IsP cs P2) (tl t : AH) : OkCells (tl.length + 1) (P :: tl) (P2 :: (tl ++ t)) := by
  intro m o hm e
  cases m with
  | zero =>
    simp at e
    subst e
    exact .inr (under_P hP2 _)
  | succ m =>
    refine .inl ?_
    have hm : m < tl.length := by omega
    rw [List.getElem?_cons_succ] at e ⊢
    rwa [List.getElem?_append_left hm] at e
theorem finD_hand {cs : List Int} {P P2 : AO} (hP2 : IsP cs P2) (tl t : AH) (d : D) (hd : d.under (tl.length + 1) = true) : finD (tl.length + 1) (P :: tl) d (P2 :: (tl ++ t)) = .ok d (P2 :: tl) := by
  unfold finD
  by_cases q : (P2 :: (tl ++ t)).length = tl.length + 1
  · have : t = [] := by
      simp at q
      exact q
    subst this
    simp
  · rw [if_neg q, if_pos ⟨hd, okCells_hand hP2 tl t⟩]
    simp
theorem finL_hand {cs : List Int} {P P2 : AO} (hP2 : IsP cs P2) (tl : AH) (ds : List D) (hd : underL (tl.length + 1) ds = true) : finL (tl.length + 1) (P :: tl) (.loc (tl.length + 1)) (P2 :: (tl ++ [.lst ds])) = .ok ds (P2 :: tl) := by
  unfold finL
  have e : (P2 :: (tl ++ [AO.lst ds]))[tl.length + 1]? = some (.lst ds) := by simp
  simp only [e]
  rw [if_pos ⟨Nat.le_refl _, hd, okCells_hand hP2 tl _⟩]
  simp
theorem vD_hv (v : Val) : vD v = hvD (some v) := rfl
theorem pool_ok {cs : List Int} (hc : ∀ c ∈ cs, 0 ≤ c) {P : AO} (hP : IsP cs P) (tl : AH) :
    ∃ (L : List Val) (P' : AO), m__law_pool [.loc 0] (P :: tl) = .ok (L.map vD) (P' :: tl) ∧ IsP cs P' ∧ (∀ v ∈ L, VOk v) ∧ L.Nodup ∧ 1 ≤ L.length ∧ L.length ≤ 3 := by
  have hget : ∀ (P : AO) (o : AO), (P :: (tl ++ [o]))[tl.length + 1]? = some o := fun P o => by simp
  have hset : ∀ (P : AO) (o o' : AO), (P :: (tl ++ [o])).set (tl.length + 1) o' = P :: (tl ++ [o']) := fun P o o' => by simp
  obtain ⟨G', h', e1, k2, k3, P', L, rfl, rfl, hP', hL, hnd, hl1, hl3⟩ := for_invN (p := .nm 2) (body := (sSeq (sSet 3 (mN m__law_value (aCons (mV 0) aNil))) (sSeq (sIf (tBl (mOp2 fNotIn (mV 3) (mV 1))) (sSeq (sExpr (mBM fApp (mV 1) (aCons (mV 3) aNil))) sNil) sNil) sNil))) (all0 := (List.range' 0 3).map fun i : Nat => D.int (i : Int))
    (fun j G h => ∃ k2 k3 P L, G = [some (.loc 0), some (.loc (tl.length + 1)), k2, k3] ∧ h = P :: (tl ++ [.lst ((L : List Val).map vD)]) ∧ IsP cs P ∧ (∀ v ∈ L, VOk v) ∧ L.Nodup ∧ (1 ≤ j → 1 ≤ L.length) ∧ L.length ≤ j)
    (fun i : Nat => D.int (i : Int)) 3 0 3 rfl
    (by
      rintro i hi G h ⟨k2, k3, P, L, rfl, rfl, hP, hL, hnd, hl1, hl3⟩
      obtain ⟨v, P1, ev, hP1, hv⟩ := value_ok hc hP (tl ++ [.lst (L.map vD)])
      have en := notin_hvO (h := P1 :: (tl ++ [.lst (L.map vD)])) (n := tl.length + 1) (os := L.map some) (by rw [List.map_map]; exact hget _ _) (some v)
      have em : decide (some v ∈ L.map some) = decide (v ∈ L) := by simp
      rw [em] at en
      have en : fNotIn (vD v) (.loc (tl.length + 1)) (P1 :: (tl ++ [.lst (L.map vD)])) = .ok (.bl (!decide (v ∈ L))) (P1 :: (tl ++ [.lst (L.map vD)])) := en
      have lb : L.length < big := by rw [big_eq]; omega
      by_cases q : v ∈ L
      · refine ⟨_, [some (.loc 0), some (.loc (tl.length + 1)), some (.int i), some (vD v)], P1 :: (tl ++ [.lst (L.map vD)]), rfl, ?_, _, _, P1, L, rfl, rfl, hP1, hL, hnd, fun _ => List.length_pos_of_mem q, by omega⟩
        simp [ev, en, q]
      · refine ⟨_, [some (.loc 0), some (.loc (tl.length + 1)), some (.int i), some (vD v)], P1 :: (tl ++ [.lst ((L ++ [v]).map vD)]), rfl, ?_, _, _, P1, L ++ [v], rfl, rfl, hP1, ?_, ?_, fun _ => by simp, by simp; omega⟩
        · simp [ev, en, q, hget, hset, lb]
        · intro u hu
          rcases List.mem_append.mp hu with hu | hu
          · exact hL u hu
          · rw [List.mem_singleton.mp hu]
            exact hv
        · rw [List.nodup_append]
          refine ⟨hnd, by simp, ?_⟩
          intro a ha b hb
          rw [List.mem_singleton.mp hb]
          intro z
          subst z
          exact q ha)
    [some (.loc 0), some (.loc (tl.length + 1)), none, none] (P :: (tl ++ [.lst []])) ⟨none, none, P, [], rfl, rfl, hP, by simp, by simp, by omega, by simp⟩
  refine ⟨L, P', ?_, hP', hL, hnd, hl1 (by omega), hl3⟩
  have er : rangeD 0 3 = (List.range' 0 3).map fun i : Nat => D.int (i : Int) := rangeD_eq 3
  have c1 : okR (3 : Int) := ⟨by decide, by decide⟩
  have b0 : (0 : Nat) ≤ big := by decide
  have fin := finL_hand hP' tl (L.map vD) (under_vs _ L) (P := P)
  simp [m__law_pool, mDefL, b__law_pool, c1, er, b0, e1, fin]
end My
namespace My
open PySem AB L2
inductive Step where
  | bar
  | wr (s : Nat) (v : Val)
inductive Tree where
  | say (n : Int)
  | mend (n : Int) (ss : List Step)
  | ask (s : Nat) (cs : List (Option Val × Tree)) (o : Tree)
def sD : Step → D
  | .bar => .tup [.str "barrier"]
  | .wr s v => .tup [.str "write", .int s, vD v]
mutual
def tD : Tree → D
  | .say n => .tup [.str "say", .int n]
  | .mend n ss => .tup [.str "mend", .int n, .tup (ss.map sD)]
  | .ask s cs o => .tup [.str "ask", .int s, .tup (csD cs), tD o]
def csD : List (Option Val × Tree) → List D
  | [] => []
  | c :: cs => cD c :: csD cs
def cD : Option Val × Tree → D
  | (v, t) => .tup [hvD v, tD t]
end
theorem csD_map : ∀ cs : List (Option Val × Tree), csD cs = cs.map cD
  | [] => by simp [csD]
  | c :: cs => by simp [csD, csD_map cs]
theorem cD_eq (c : Option Val × Tree) : cD c = .tup [hvD c.1, tD c.2] := by
  obtain ⟨v, t⟩ := c
  simp [cD]
/-- the way on from an ask -/
def way (cs : List (Option Val × Tree)) (o : Tree) (item : Option Val) : Tree := match cs.find? fun c => decide (c.1 = item) with
  | some c => c.2
  | none => o
theorem way_on_ok {h : AH} (s : Nat) (cs : List (Option Val × Tree)) (o : Tree) (item : Option Val) : m_way_on [tD (.ask s cs o), hvD item] h = .ok (tD (way cs o item)) h := by
  have ht : tD (.ask s cs o) = .tup [.str "ask", .int s, .tup (csD cs), tD o] := by simp [tD]
  have hf := for_find (p := .tp [(.nm 2), (.nm 3)]) (all0 := cs.map cD) (h := h) (body := (sSeq (sIf (tBl (mOp2 fEq (mV 2) (mV 1))) (sSeq (sRet (mV 3)) sNil) sNil) sNil))
    (fun G => ∃ a b, G = [some (.tup [.str "ask", .int s, .tup (csD cs), tD o]), some (hvD item), a, b]) cD (fun c => decide (c.1 = item)) (fun c => tD c.2) cs
    (by
      rintro c hc G ⟨a, b, rfl⟩
      refine ⟨[some (.tup [.str "ask", .int s, .tup (csD cs), tD o]), some (hvD item), some (hvD c.1), some (tD c.2)], by rw [cD_eq]; rfl, fun hq => ?_, fun hq => ?_⟩
      · have hq : c.1 = item := of_decide_eq_true hq
        simp [eq_hv, hq]
      · have hq : ¬ c.1 = item := of_decide_eq_false hq
        exact ⟨[some (.tup [.str "ask", .int s, .tup (csD cs), tD o]), some (hvD item), some (hvD c.1), some (tD c.2)], by simp [eq_hv, hq], some (hvD c.1), some (tD c.2), rfl⟩)
    [some (.tup [.str "ask", .int s, .tup (csD cs), tD o]), some (hvD item), none, none] ⟨none, none, rfl⟩
  rw [← csD_map] at hf
  rw [ht]
  unfold way
  cases hfind : cs.find? (fun c => decide (c.1 = item)) with
  | some c =>
    have h1 := hf.1 c hfind
    simp [m_way_on, mDef, b_way_on, h1]
  | none =>
    obtain ⟨G', h1, a, b, rfl⟩ := hf.2 hfind
    simp [m_way_on, mDef, b_way_on, h1]
end My
namespace My
open PySem AB L2
/-- a state leads down a tree -/
inductive Led (st : List (Option Val)) : Tree → List Nat → Tree → Prop
  | say (n : Int) : Led st (.say n) [] (.say n)
  | mend (n : Int) (ss : List Step) : Led st (.mend n ss) [] (.mend n ss)
  | ask {s : Nat} {cs : List (Option Val × Tree)} {o : Tree} {x : Option Val} {as : List Nat} {e : Tree} : st[s]? = some x → Led st (way cs o x) as e → Led st (.ask s cs o) (s :: as) e
noncomputable abbrev ledT : MeT := (tBl (mOp2 fEq (mOp2 fIx (mV 3) (mC (.int 0))) (mC (.str "ask"))))
noncomputable abbrev ledB : Ms := (sSeq (sExpr (mBM fApp (mV 2) (aCons (mOp2 fIx (mV 3) (mC (.int 1))) aNil))) (sSeq (sSet 3 (mN m_way_on (aCons (mV 3) (aCons (mOp2 fIx (mV 1) (mOp2 fIx (mV 3) (mC (.int 1)))) aNil)))) sNil))
theorem okP_str {h : AH} {x : Str} (hx : SeqAt.shaped (.str x) = true) : okP h (.str x) = some (.str x) := by
  unfold okP
  have e : toPh h (.str x) = some (.str x) := rfl
  rw [e]
  simp [hx]
theorem eq_str {h : AH} {x y : Str} (hx : SeqAt.shaped (.str x) = true) (hy : SeqAt.shaped (.str y) = true) : fEq (.str x) (.str y) h = .ok (.bl (x == y)) h := by
  unfold fEq
  rw [okP_str hx, okP_str hy]
  simp [PyData.eqv]
theorem sh_say : SeqAt.shaped (.str "say") = true := by decide +kernel
theorem sh_mend : SeqAt.shaped (.str "mend") = true := by decide +kernel
theorem sh_ask : SeqAt.shaped (.str "ask") = true := by decide +kernel
theorem eq_ask1 {h : AH} : fEq (.str "say") (.str "ask") h = .ok (.bl false) h := by
  rw [eq_str sh_say sh_ask]
  rfl
theorem eq_ask2 {h : AH} : fEq (.str "mend") (.str "ask") h = .ok (.bl false) h := by
  rw [eq_str sh_mend sh_ask]
  rfl
theorem eq_ask3 {h : AH} : fEq (.str "ask") (.str "ask") h = .ok (.bl true) h := by
  rw [eq_str sh_ask sh_ask]
  rfl
theorem led_go {st : List (Option Val)} {t e : Tree} {as : List Nat} (l : Led st t as e) : ∀ (r : Option D) (h : AH) (done : List Nat), done.length + as.length ≤ 1000 →
    whileGo ledT ledB (as.length + 1) [r, some (.tup (st.map hvD)), some (.loc h.length), some (tD t)] (h ++ [.lst (done.map fun i : Nat => D.int (i : Int))])
      = .next [r, some (.tup (st.map hvD)), some (.loc h.length), some (tD e)] (h ++ [.lst ((done ++ as).map fun i : Nat => D.int (i : Int))]) := by
  induction l with
  | say n =>
    intro r h done hl
    simp [whileGo, tD, eq_ask1]
  | mend n ss =>
    intro r h done hl
    simp [whileGo, tD, eq_ask2]
  | @ask s cs o x as e hx l ih =>
    intro r h done hl
    have ex : atI (st.map hvD) (s : Int) = some (hvD x) := by
      rw [atI_map, atI_nat (by omega) (by simpa using hx)]
      rfl
    have hget : ∀ o : AO, (h ++ [o])[h.length]? = some o := fun o => by simp
    have hset : ∀ o o' : AO, (h ++ [o]).set h.length o' = h ++ [o'] := fun o o' => by simp
    have hw := fun hh : AH => way_on_ok (h := hh) s cs o x
    have lb : done.length < big := by rw [big_eq]; simp at hl; omega
    have ih2 := ih r h (done ++ [s]) (by simp at hl ⊢; omega)
    have ht : tD (.ask s cs o) = .tup [.str "ask", .int s, .tup (csD cs), tD o] := by simp [tD]
    rw [ht] at hw ⊢
    rw [List.length_cons]
    unfold whileGo
    simp [eq_ask3, hget, hset, lb, ex, hw]
    simpa using ih2
end My
namespace My
open PySem AB L2
theorem led_ok {st : List (Option Val)} {t e : Tree} {as : List Nat} (l : Led st t as e) (hl : as.length ≤ 1000) (h : AH) :
    m_led [tD t, .tup (st.map hvD)] h = .ok (.tup [.loc h.length, tD e]) (h ++ [.lst (as.map fun i : Nat => D.int (i : Int))]) := by
  have g := led_go l (some (tD t)) h [] (by simpa using hl)
  have w := while_ok g (by simp)
  have b0 : (0 : Nat) ≤ big := by decide
  have b2 : (2 : Nat) ≤ big := by decide
  simp only [List.map_nil, List.nil_append] at w
  have eb : b_led = sSeq (sSet 2 (mNew (lLst aNil))) (sSeq (sSet 3 (mV 0)) (sSeq (sWhile ledT ledB) (sSeq (sRet (mN fTup (aCons (mV 2) (aCons (mV 3) aNil)))) sNil))) := rfl
  have e1 : b_led [some (tD t), some (.tup (st.map hvD)), none, none] h = .ret (.tup [.loc h.length, tD e]) (h ++ [.lst (as.map fun i : Nat => D.int (i : Int))]) := by
    rw [eb]
    simp only [v_sSeq, v_sSet, v_mNew, v_lLst, v_aNil, v_mV, Res.bind_ok, Res.toS_ok, SR.andThen_next, List.length_nil, b0, if_true, List.set_cons_succ, List.set_cons_zero, List.getElem?_cons_zero, w, v_sRet, v_mN, v_aCons, List.getElem?_cons_succ, v_fTup, List.length_cons, Nat.zero_add, Nat.reduceAdd, b2, SR.andThen_ret]
  simp [m_led, mDefK, e1]
end My
namespace My
open PySem AB L2
/-- a right step of a mend -/
def StepOk (sectors : Nat) : Step → Prop
  | .bar => True
  | .wr s v => s < sectors ∧ VOk v
inductive EndOk (sectors : Nat) : Tree → Prop
  | say (n : Int) : 0 ≤ n → n ≤ 1000000000 → EndOk sectors (.say n)
  | mend (n : Int) (ss : List Step) : 0 ≤ n → n ≤ 1000000000 → ss.length ≤ 20 → (∀ x ∈ ss, StepOk sectors x) → EndOk sectors (.mend n ss)
noncomputable abbrev endB : Ms := (sSeq (sIf (tBl (mOp2 fEq (mN m__law_draw (aCons (mV 0) (aCons (mC (.int 3)) aNil))) (mC (.int 0)))) (sSeq (sExpr (mBM fApp (mV 6) (aCons (mN fTup (aCons (mC (.str "barrier")) aNil)) aNil))) sNil) (sSeq (sExpr (mBM fApp (mV 6) (aCons (mN fTup (aCons (mC (.str "write")) (aCons (mN m__law_draw (aCons (mV 0) (aCons (mV 2) aNil))) (aCons (mN m__law_any (aCons (mV 0) (aCons (mV 1) aNil))) aNil)))) aNil))) sNil)) sNil)
theorem end_step {cs : List Int} (hc : ∀ c ∈ cs, 0 ≤ c) {P : AO} (hP : IsP cs P) {L : List Val} (hL : ∀ v ∈ L, VOk v) (hl1 : 1 ≤ L.length) (hl3 : L.length ≤ 100) {sectors : Nat} (h1 : 1 ≤ sectors) (h2 : sectors ≤ 64) (tl : AH) (ss : List Step) (hs : ss.length ≤ 100) (most mends num k : Option D) :
    ∃ x P', endB [some (.loc 0), some (.lst (L.map vD)), some (.int sectors), most, mends, num, some (.loc (tl.length + 1)), k] (P :: (tl ++ [.lst (ss.map sD)])) = .next [some (.loc 0), some (.lst (L.map vD)), some (.int sectors), most, mends, num, some (.loc (tl.length + 1)), k] (P' :: (tl ++ [.lst ((ss ++ [x]).map sD)])) ∧ IsP cs P' ∧ StepOk sectors x := by
  have hget : ∀ (P : AO) (o : AO), (P :: (tl ++ [o]))[tl.length + 1]? = some o := fun P o => by simp
  have hset : ∀ (P : AO) (o o' : AO), (P :: (tl ++ [o])).set (tl.length + 1) o' = P :: (tl ++ [o']) := fun P o o' => by simp
  obtain ⟨r, P1, e1, hP1, r0, r1⟩ := draw_ok hc hP (many := 3) (by omega) (by omega) (tl ++ [.lst (ss.map sD)])
  have lb : ss.length < big := by rw [big_eq]; omega
  have b1 : (1 : Nat) ≤ big := by decide
  have b3 : (3 : Nat) ≤ big := by decide
  by_cases q : r = 0
  · refine ⟨.bar, P1, ?_, hP1, trivial⟩
    simp [e1, q, hget, hset, lb, b1, sD]
  · obtain ⟨s, P2, e2, hP2, s0, s1⟩ := draw_ok hc hP1 (many := sectors) (by omega) (by omega) (tl ++ [.lst (ss.map sD)])
    obtain ⟨y, P3, e3, hP3, hy⟩ := any_ok hc hP2 (L.map vD) (by simpa using hl1) (by simp; omega) (tl ++ [.lst (ss.map sD)])
    obtain ⟨v, hv, rfl⟩ := List.mem_map.mp hy
    obtain ⟨n, rfl⟩ : ∃ n : Nat, s = n := ⟨s.toNat, by omega⟩
    refine ⟨.wr n v, P3, ?_, hP3, ⟨by omega, hL v hv⟩⟩
    simp [e1, q, e2, e3, hget, hset, lb, b3, sD]
end My
namespace My
open PySem AB L2
theorem under_ss (n : Nat) (ss : List Step) : underL n (ss.map sD) = true := by
  induction ss with
  | nil => simp [underL]
  | cons x ss ih => cases x <;> simp [underL, ih, sD, vD, D.under, under_ints]
theorem end_ok {cs : List Int} (hc : ∀ c ∈ cs, 0 ≤ c) {P : AO} (hP : IsP cs P) {L : List Val} (hL : ∀ v ∈ L, VOk v) (hl1 : 1 ≤ L.length) (hl3 : L.length ≤ 100) {sectors : Nat} (h1 : 1 ≤ sectors) (h2 : sectors ≤ 64) {most : Int} (hmo : 1 ≤ most) (hmo2 : most ≤ 1000000001) (mends : Int) (tl : AH) :
    ∃ t P', m__law_end [.loc 0, .lst (L.map vD), .int sectors, .int most, .int mends] (P :: tl) = .ok (tD t) (P' :: tl) ∧ IsP cs P' ∧ EndOk sectors t := by
  obtain ⟨n, P1, e1, hP1, n0, n1⟩ := draw_ok hc hP (many := most) (by omega) (by omega) tl
  obtain ⟨r, P2, e2, hP2, r0, r1⟩ := draw_ok hc hP1 (many := 3) (by omega) (by omega) tl
  have b2 : (2 : Nat) ≤ big := by decide
  have b3 : (3 : Nat) ≤ big := by decide
  have b0 : (0 : Nat) ≤ big := by decide
  by_cases q : mends ≤ r
  · refine ⟨.say n, P2, ?_, hP2, .say n n0 (by omega)⟩
    have fin := finD_hand (P := P) hP2 tl [] (tD (.say n)) (by simp [tD, D.under, underL])
    rw [List.append_nil] at fin
    have ht : tD (.say n) = .tup [.str "say", .int n] := by simp [tD]
    rw [ht] at fin ⊢
    simp [m__law_end, mDef, b__law_end, e1, e2, q, b2, fin]
  · obtain ⟨m, P3, e3, hP3, m0, m1⟩ := draw_ok hc hP2 (many := 5) (by omega) (by omega) (tl ++ [.lst []])
    obtain ⟨m, rfl⟩ : ∃ k : Nat, m = k := ⟨m.toNat, by omega⟩
    obtain ⟨G', h', e4, k, P4, ss, rfl, rfl, hP4, hs, hl⟩ := for_invN (p := .nm 7) (body := endB) (all0 := (List.range' 0 m).map fun i : Nat => D.int (i : Int))
      (fun j G h => ∃ k P ss, G = [some (.loc 0), some (.lst (L.map vD)), some (.int sectors), some (.int most), some (.int mends), some (.int n), some (.loc (tl.length + 1)), k] ∧ h = P :: (tl ++ [.lst ((ss : List Step).map sD)]) ∧ IsP cs P ∧ (∀ x ∈ ss, StepOk sectors x) ∧ ss.length ≤ j)
      (fun i : Nat => D.int (i : Int)) m 0 m (by omega)
      (by
        rintro i hi G h ⟨k, P, ss, rfl, rfl, hP, hs, hl⟩
        obtain ⟨x, P', e, hP', hx⟩ := end_step hc hP hL hl1 hl3 h1 h2 tl ss (by omega) (some (.int most)) (some (.int mends)) (some (.int n)) (some (.int i))
        refine ⟨_, _, _, rfl, e, _, P', ss ++ [x], rfl, rfl, hP', fun y hy => ?_, by simp; omega⟩
        rcases List.mem_append.mp hy with hy | hy
        · exact hs y hy
        · rw [List.mem_singleton.mp hy]
          exact hx)
      [some (.loc 0), some (.lst (L.map vD)), some (.int sectors), some (.int most), some (.int mends), some (.int n), some (.loc (tl.length + 1)), none] (P3 :: (tl ++ [.lst []])) ⟨none, P3, [], rfl, rfl, hP3, by simp, by simp⟩
    refine ⟨.mend n ss, P4, ?_, hP4, .mend n ss n0 (by omega) (by omega) hs⟩
    have fin := finD_hand (P := P) hP4 tl [.lst (ss.map sD)] (tD (.mend n ss)) (by simp [tD, D.under, underL, under_ss])
    have ht : tD (.mend n ss) = .tup [.str "mend", .int n, .tup (ss.map sD)] := by simp [tD]
    have er : rangeD 0 m = (List.range' 0 m).map fun i : Nat => D.int (i : Int) := by rw [rangeD_eq, List.range_eq_range']
    have c1 : okR (m : Int) := ⟨by omega, by omega⟩
    have c4 : m ≤ big := by rw [big_eq]; omega
    have hget : ∀ (P : AO) (o : AO), (P :: (tl ++ [o]))[tl.length + 1]? = some o := fun P o => by simp
    rw [ht] at fin ⊢
    simp [m__law_end, mDef, b__law_end, e1, e2, q, b0, b3, e3, c1, er, c4, e4, hget, fin]
end My
namespace My
open PySem AB L2
@[simp] theorem is_integer_ok {h : AH} (i : Int) : m_is_integer [.int i] h = .ok (.bl true) h := by
  simp [m_is_integer, mDef, b_is_integer, Ty.sub]
@[simp] theorem is_between_ok {h : AH} (i a b : Int) : m_is_between [.int i, .int a, .int b] h = .ok (.bl (decide (a ≤ i) && decide (i ≤ b))) h := by
  by_cases c : a ≤ i
  · simp [m_is_between, mDef, b_is_between, c]
  · simp [m_is_between, mDef, b_is_between, c]
theorem is_value_ok {h : AH} {v : Val} (w : VOk v) : m_is_value [vD v] h = .ok (.bl true) h := by
  have h1 : ∀ (all0 : List D), compGo (.nm 1) tYesM (mN m_is_between (aCons (mV 1) (aCons (mC (.int 0)) (aCons (mC (.int 1000000000000)) aNil)))) none all0 [some (vD v), none] (v.map .int) h = .ok (v.map fun _ => .bl true) h :=
    fun all0 => comp_all _ _ _ fun k hk => ⟨[some (vD v), some (.int k)], rfl, by simp [w.bd k hk]⟩
  have l1 : v.length ≤ big := by rw [big_eq]; have := w.len; omega
  have l2 : ¬ (32 : Int) < v.length := by have := w.len; omega
  have e : vD v = .tup (v.map .int) := rfl
  rw [e] at h1 ⊢
  simp [m_is_value, mDef, b_is_value, wipeG, Ty.sub, l1, l2, h1]
/-- what is held is right -/
def HOkV : Option Val → Prop
  | none => True
  | some v => VOk v
theorem is_held_ok {h : AH} {o : Option Val} (w : HOkV o) : m_is_held [hvD o] h = .ok (.bl true) h := by
  cases o with
  | none => simp [m_is_held, mDef, b_is_held, hvD, fIsN]
  | some v =>
    have := is_value_ok (h := h) (v := v) w
    have e : hvD (some v) = .tup (v.map .int) := rfl
    have e2 : vD v = .tup (v.map .int) := rfl
    rw [e2] at this
    rw [e]
    simp [m_is_held, mDef, b_is_held, fIsN, this]
theorem is_state_ok {h : AH} {st : List (Option Val)} (h1 : 1 ≤ st.length) (h2 : st.length ≤ 64) (w : ∀ o ∈ st, HOkV o) : m_is_state [.tup (st.map hvD)] h = .ok (.bl true) h := by
  have hc : ∀ (all0 : List D), compGo (.nm 1) tYesM (mN m_is_held (aCons (mV 1) aNil)) none all0 [some (.tup (st.map hvD)), none] (st.map hvD) h = .ok (st.map fun _ => .bl true) h :=
    fun all0 => comp_all _ _ _ fun o ho => ⟨[some (.tup (st.map hvD)), some (hvD o)], rfl, by simp [is_held_ok (w o ho)]⟩
  have l1 : st.length ≤ big := by rw [big_eq]; omega
  have l2 : (1 : Int) ≤ st.length := by omega
  have l3 : (st.length : Int) ≤ 64 := by omega
  simp [m_is_state, mDef, b_is_state, wipeG, Ty.sub, l1, l2, l3, hc]
theorem check_state_ok {h : AH} {st : List (Option Val)} (h1 : 1 ≤ st.length) (h2 : st.length ≤ 64) (w : ∀ o ∈ st, HOkV o) : m_check_state [.tup (st.map hvD)] h = .ok .non h := by
  simp [m_check_state, mDef, b_check_state, is_state_ok h1 h2 w]
end My
namespace My
open PySem AB L2
/-- None ahead of all values, the values in their order -/
def ltH (a b : Option Val) : Bool := match a, b with
  | none, some _ => true
  | some u, some v => PySem.W.dataLt (vP u) (vP v)
  | _, _ => false
/-- a right tree, so deep at most -/
inductive TreeOk (sectors : Nat) : Nat → Tree → Prop
  | fin {d : Nat} {t : Tree} : EndOk sectors t → TreeOk sectors d t
  | ask {d s : Nat} {cs : List (Option Val × Tree)} {o : Tree} : s < sectors → 1 ≤ cs.length → cs.length ≤ 4 → (cs.map (·.1)).Pairwise (fun a b => ltH a b = true) → (∀ c ∈ cs, HOkV c.1) → (∀ c ∈ cs, TreeOk sectors d c.2) → TreeOk sectors d o → TreeOk sectors (d + 1) (.ask s cs o)
theorem way_mem (cs : List (Option Val × Tree)) (o : Tree) (x : Option Val) : way cs o x = o ∨ ∃ c ∈ cs, way cs o x = c.2 := by
  unfold way
  cases h : cs.find? (fun c => decide (c.1 = x)) with
  | none => exact .inl rfl
  | some c => exact .inr ⟨c, List.mem_of_find?_eq_some h, rfl⟩
theorem led_ex {sectors : Nat} {st : List (Option Val)} (hst : st.length = sectors) {d : Nat} {t : Tree} (h : TreeOk sectors d t) : ∃ as e, Led st t as e ∧ as.length ≤ d ∧ EndOk sectors e := by
  induction h with
  | fin he =>
    cases he with
    | say n h1 h2 => exact ⟨[], _, .say n, Nat.zero_le _, .say n h1 h2⟩
    | mend n ss h1 h2 h3 h4 => exact ⟨[], _, .mend n ss, Nat.zero_le _, .mend n ss h1 h2 h3 h4⟩
  | @ask d s cs o hs h1 h2 h3 h4 h5 h6 ih5 ih6 =>
    have hx : st[s]? = some st[s] := List.getElem?_eq_getElem (by omega)
    rcases way_mem cs o st[s] with e | ⟨c, hc, e⟩
    · obtain ⟨as, en, l, hl, he⟩ := ih6
      exact ⟨s :: as, en, .ask hx (by rw [e]; exact l), by simp; omega, he⟩
    · obtain ⟨as, en, l, hl, he⟩ := ih5 c hc
      exact ⟨s :: as, en, .ask hx (by rw [e]; exact l), by simp; omega, he⟩
end My
namespace My
open PySem AB L2
@[simp] theorem is_index_ok {h : AH} (i n : Int) : m_is_index [.int i, .int n] h = .ok (.bl (decide (0 ≤ i) && decide (i ≤ n - 1))) h := by
  simp [m_is_index, mDef, b_is_index]
theorem sh_bar : SeqAt.shaped (.str "barrier") = true := by decide +kernel
theorem sh_wr : SeqAt.shaped (.str "write") = true := by decide +kernel
theorem eq_b1 {h : AH} : fEq (.str "barrier") (.str "barrier") h = .ok (.bl true) h := by rw [eq_str sh_bar sh_bar]; rfl
theorem eq_b2 {h : AH} : fEq (.str "write") (.str "barrier") h = .ok (.bl false) h := by rw [eq_str sh_wr sh_bar]; rfl
theorem eq_b3 {h : AH} : fEq (.str "write") (.str "write") h = .ok (.bl true) h := by rw [eq_str sh_wr sh_wr]; rfl
@[simp] theorem v_tyS {h : AH} {x : Str} : tyD h (.str x) = some .str := rfl
theorem is_disk_step_ok {h : AH} {sectors : Nat} {x : Step} (w : StepOk sectors x) : m_is_disk_step [sD x, .int sectors] h = .ok (.bl true) h := by
  cases x with
  | bar => simp [m_is_disk_step, mDef, b_is_disk_step, sD, Ty.sub, eq_b1]
  | wr s v =>
    obtain ⟨h1, h2⟩ := w
    have e1 : (s : Int) ≤ (sectors : Int) - 1 := by omega
    simp [m_is_disk_step, mDef, b_is_disk_step, sD, Ty.sub, eq_b2, eq_b3, e1, is_value_ok h2]
end My
namespace My
open PySem AB L2
theorem ne_str {h : AH} {x y : Str} (hx : SeqAt.shaped (.str x) = true) (hy : SeqAt.shaped (.str y) = true) : fNe (.str x) (.str y) h = .ok (.bl (!(x == y))) h := by
  unfold fNe
  rw [okP_str hx, okP_str hy]
  simp [PyData.eqv]
theorem eq_s1 {h : AH} : fEq (.str "say") (.str "say") h = .ok (.bl true) h := by rw [eq_str sh_say sh_say]; rfl
theorem eq_s2 {h : AH} : fEq (.str "mend") (.str "say") h = .ok (.bl false) h := by rw [eq_str sh_mend sh_say]; rfl
theorem ne_m1 {h : AH} : fNe (.str "mend") (.str "mend") h = .ok (.bl false) h := by rw [ne_str sh_mend sh_mend]; rfl
theorem is_end_ok {h : AH} {sectors : Nat} {t : Tree} (w : EndOk sectors t) : m_is_end [tD t, .int sectors] h = .ok (.bl true) h := by
  cases w with
  | say n h1 h2 =>
    have e : tD (.say n) = .tup [.str "say", .int n] := by simp [tD]
    rw [e]
    simp [m_is_end, mDef, b_is_end, Ty.sub, eq_s1, h1, h2]
  | mend n ss h1 h2 h3 h4 =>
    have e : tD (.mend n ss) = .tup [.str "mend", .int n, .tup (ss.map sD)] := by simp [tD]
    have hc : ∀ (all0 : List D), compGo (.nm 2) tYesM (mN m_is_disk_step (aCons (mV 2) (aCons (mV 1) aNil))) none all0 [some (.tup [.str "mend", .int n, .tup (ss.map sD)]), some (.int sectors), none] (ss.map sD) h = .ok (ss.map fun _ => .bl true) h :=
      fun all0 => comp_all _ _ _ fun x hx => ⟨[some (.tup [.str "mend", .int n, .tup (ss.map sD)]), some (.int sectors), some (sD x)], rfl, by simp [is_disk_step_ok (h4 x hx)]⟩
    have l1 : ss.length ≤ big := by rw [big_eq]; omega
    have l2 : ¬ (20 : Int) < ss.length := by omega
    rw [e]
    simp [m_is_end, mDef, b_is_end, Ty.sub, eq_s2, ne_m1, h1, h2, l1, l2, wipeG, hc]
end My
namespace My
open PySem AB L2
def rkD : Option Val → D
  | none => .tup [.int 0, .tup []]
  | some v => .tup [.int 1, vD v]
def rkP : Option Val → PyData
  | none => .tuple [.int 0, .tuple []]
  | some v => .tuple [.int 1, vP v]
theorem rank_ok {h : AH} (o : Option Val) : m_rank [hvD o] h = .ok (rkD o) h := by
  have b0 : (0 : Nat) ≤ big := by decide
  have b2 : (2 : Nat) ≤ big := by decide
  cases o with
  | none => simp [m_rank, mDef, b_rank, hvD, fIsN, rkD, b0, b2]
  | some v =>
    have e : hvD (some v) = .tup (v.map .int) := rfl
    have e2 : vD v = .tup (v.map .int) := rfl
    rw [e]
    simp [m_rank, mDef, b_rank, fIsN, rkD, b2, e2]
theorem okP_rk {h : AH} (o : Option Val) : okP h (rkD o) = some (rkP o) := by
  unfold okP
  have e : toPh h (rkD o) = some (rkP o) := by
    cases o with
    | none => rfl
    | some v =>
      show (match toP (D.int 1), toPs [vD v] with | some p, some ps => some (p :: ps) | _, _ => none).map PyData.tuple = _
      have : toPs [vD v] = some [vP v] := by
        show (match toP (vD v), toPs [] with | some p, some ps => some (p :: ps) | _, _ => none) = _
        rw [toP_v]
        rfl
      rw [this]
      rfl
  rw [e]
  have : SeqAt.shaped (rkP o) = true := by
    cases o with
    | none => decide +kernel
    | some v => simp [SeqAt.shaped, rkP, PyData.canLay0, PyData.canLayAll0, PyData.depth, PyData.depthAll, lay_v, dep_v]
  simp [this]
theorem alike_ints : ∀ a b : List Int, PySem.W.alikeAll (a.map PyData.int) (b.map PyData.int) = true
  | [], _ => by simp [PySem.W.alikeAll]
  | _ :: _, [] => by simp [PySem.W.alikeAll]
  | x :: a, y :: b => by simp [PySem.W.alikeAll, PySem.W.alike, alike_ints a b]
theorem alike_v (u v : Val) : PySem.W.alike (vP u) (vP v) = true := by
  simp [vP, PySem.W.alike, alike_ints]
theorem rank_lt {h : AH} (a b : Option Val) : cLt (rkD a) (rkD b) h = .ok (.bl (ltH a b)) h := by
  have al1 : ∀ v : Val, PySem.W.alike (.tuple []) (vP v) = true := fun v => alike_v [] v
  have al2 : ∀ v : Val, PySem.W.alike (vP v) (.tuple []) = true := fun v => alike_v v []
  have al0 : PySem.W.alike (.tuple []) (.tuple []) = true := alike_v [] []
  have key : PySem.W.alike (rkP a) (rkP b) = true ∧ isNonP (rkP a) = false ∧ PySem.W.dataLt (rkP a) (rkP b) = ltH a b := by
    cases a with
    | none =>
      cases b with
      | none =>
        refine ⟨by simp [rkP, PySem.W.alike, PySem.W.alikeAll, al0], rfl, ?_⟩
        exact PySem.W.dataLt_self _
      | some v =>
        have e1 : PySem.W.alike (rkP none) (rkP (some v)) = PySem.W.alikeAll [.int 0, .tuple []] [.int 1, vP v] := by simp only [rkP, PySem.W.alike]
        have e2 : PySem.W.alikeAll [.int 0, .tuple []] [.int 1, vP v] = true := by
          simp only [PySem.W.alikeAll]
          rw [al1 v]
          simp [PySem.W.alike]
        refine ⟨e1.trans e2, rfl, ?_⟩
        simp only [rkP]
        rw [PySem.W.dataLt_pair (by simp [PySem.W.alike]) (al1 v)]
        simp [PyData.eqv, PySem.W.dataLt_int, ltH]
    | some u =>
      cases b with
      | none =>
        refine ⟨by simp [rkP, PySem.W.alike, PySem.W.alikeAll, al2], rfl, ?_⟩
        simp only [rkP]
        rw [PySem.W.dataLt_pair (by simp [PySem.W.alike]) (al2 u)]
        simp [PyData.eqv, PySem.W.dataLt_int, ltH]
      | some v =>
        refine ⟨by simp [rkP, PySem.W.alike, PySem.W.alikeAll, alike_v], rfl, ?_⟩
        simp only [rkP]
        rw [PySem.W.dataLt_pair (by simp [PySem.W.alike]) (alike_v u v)]
        by_cases q : u = v
        · subst q
          simp [PyData.eqv, eqv_v, ltH, PySem.W.dataLt_self]
        · simp [PyData.eqv, eqv_v, ltH, q]
  have e : isII (rkD a) (rkD b) = none := by cases a <;> rfl
  show (match isII (rkD a) (rkD b) with | some (i, j) => Res.ok (D.bl (decide (i < j))) h | none => fLtD (rkD a) (rkD b) h) = _
  rw [e]
  show fLtD (rkD a) (rkD b) h = _
  unfold fLtD lrD
  rw [okP_rk, okP_rk]
  simp [key.1, key.2.1, key.2.2]
end My
namespace My
open PySem AB L2
theorem asc_zipH {os : List (Option Val)} (h : os.Pairwise (fun a b => ltH a b = true)) : ∀ p ∈ os.zip (os.drop 1), ltH p.1 p.2 = true := by
  induction os with
  | nil => simp
  | cons w ws ih =>
    cases ws with
    | nil => simp
    | cons x r =>
      intro p hp
      rw [List.drop_succ_cons, List.drop_zero, List.zip_cons_cons] at hp
      rcases List.mem_cons.mp hp with rfl | hp
      · exact (List.pairwise_cons.mp h).1 x List.mem_cons_self
      · exact ih (List.pairwise_cons.mp h).2 p (by simpa using hp)
@[simp] theorem v_vIl {ds : List D} : vI (.lst ds) = some ds := rfl
theorem are_ascending_ok {h : AH} {os : List (Option Val)} (w : os.Pairwise (fun a b => ltH a b = true)) (hl : os.length ≤ 1000) : m_are_ascending [.lst (os.map hvD)] h = .ok (.bl true) h := by
  have h2 : ∀ (all0 : List D), compGo (.tp [.nm 1, .nm 2]) tYesM (mOp2 cLt (mN m_rank (aCons (mV 1) aNil)) (mN m_rank (aCons (mV 2) aNil))) none all0 [some (.lst (os.map hvD)), none, none] (pairsD (os.map hvD) (cutD (os.map hvD) (some 1) none)) h = .ok ((os.zip (os.drop 1)).map fun _ => .bl true) h := by
    intro all0
    rw [cut_from1, pairsD_map]
    refine comp_all _ _ _ fun p hp => ⟨[some (.lst (os.map hvD)), some (hvD p.1), some (hvD p.2)], rfl, ?_⟩
    simp [rank_ok, rank_lt, asc_zipH w p hp]
  have l2 : (pairsD (os.map hvD) (cutD (os.map hvD) (some 1) none)).length ≤ big := by
    rw [cut_from1, pairsD_map, big_eq]
    simp
    omega
  simp [m_are_ascending, mDef, b_are_ascending, wipeG, l2, h2]
end My
namespace My
open PySem AB L2
theorem are_cases_ok {h : AH} {cs : List (Option Val × Tree)} (h1 : 1 ≤ cs.length) (h2 : cs.length ≤ 16) (h3 : (cs.map (·.1)).Pairwise (fun a b => ltH a b = true)) (h4 : ∀ c ∈ cs, HOkV c.1) : m_are_cases [.tup (csD cs)] h = .ok (.bl true) h := by
  rw [csD_map]
  have hc : ∀ (all0 : List D), compGo (.nm 1) tYesM (mAnd (mIsi .tup (mV 1)) (mAnd (mOp2 fEq (mN fLen (aCons (mV 1) aNil)) (mC (.int 2))) (mN m_is_held (aCons (mOp2 fIx (mV 1) (mC (.int 0))) aNil)))) none all0 [some (.tup (cs.map cD)), none] (cs.map cD) h = .ok (cs.map fun _ => .bl true) h :=
    fun all0 => comp_all _ _ _ fun c hm => ⟨[some (.tup (cs.map cD)), some (.tup [hvD c.1, tD c.2])], by rw [cD_eq]; rfl, by simp [Ty.sub, is_held_ok (h4 c hm)]⟩
  have hk : ∀ (all0 : List D), compGo (.nm 1) tYesM (mOp2 fIx (mV 1) (mC (.int 0))) none all0 [some (.tup (cs.map cD)), none] (cs.map cD) h = .ok (cs.map fun c => hvD c.1) h :=
    fun all0 => comp_all _ _ _ fun c hm => ⟨[some (.tup (cs.map cD)), some (.tup [hvD c.1, tD c.2])], by rw [cD_eq]; rfl, by simp⟩
  have ha := are_ascending_ok (h := h) h3 (by simp; omega)
  rw [List.map_map] at ha
  have ha : m_are_ascending [.lst (cs.map fun c => hvD c.1)] h = .ok (.bl true) h := ha
  have l1 : cs.length ≤ big := by rw [big_eq]; omega
  have l2 : (1 : Int) ≤ cs.length := by omega
  have l3 : (cs.length : Int) ≤ 16 := by omega
  simp [m_are_cases, mDef, b_are_cases, wipeG, Ty.sub, l1, l2, l3, hc, hk, ha]
theorem is_ask_ok {h : AH} {sectors s : Nat} {cs : List (Option Val × Tree)} {o : Tree} (hs : s < sectors) (h1 : 1 ≤ cs.length) (h2 : cs.length ≤ 16) (h3 : (cs.map (·.1)).Pairwise (fun a b => ltH a b = true)) (h4 : ∀ c ∈ cs, HOkV c.1) : m_is_ask [tD (.ask s cs o), .int sectors] h = .ok (.bl true) h := by
  have e : tD (.ask s cs o) = .tup [.str "ask", .int s, .tup (csD cs), tD o] := by simp [tD]
  have l1 : (s : Int) ≤ (sectors : Int) - 1 := by omega
  have ne : ∀ h : AH, fNe (.str "ask") (.str "ask") h = .ok (.bl false) h := fun h => by rw [ne_str sh_ask sh_ask]; rfl
  rw [e]
  simp [m_is_ask, mDef, b_is_ask, Ty.sub, ne, l1, are_cases_ok h1 h2 h3 h4]
end My
namespace My
open PySem AB L2
theorem inner_ok {h : AH} {s : Nat} {cs : List (Option Val × Tree)} {o : Tree} (h2 : cs.length ≤ 16) : m_inner [tD (.ask s cs o)] h = .ok (.lst ((cs.map (·.2) ++ [o]).map tD)) h := by
  have e : tD (.ask s cs o) = .tup [.str "ask", .int s, .tup (csD cs), tD o] := by simp [tD]
  rw [e, csD_map]
  have hc : ∀ (all0 : List D) (x : Option D), compGo (.nm 1) tYesM (mOp2 fIx (mV 1) (mC (.int 1))) none all0 [x, none] (cs.map cD) h = .ok (cs.map fun c => tD c.2) h :=
    fun all0 x => comp_all _ _ _ fun c hm => ⟨[x, some (.tup [hvD c.1, tD c.2])], by rw [cD_eq]; rfl, by simp⟩
  have l1 : cs.length ≤ big := by rw [big_eq]; omega
  have l2 : cs.length + 1 ≤ big := by rw [big_eq]; omega
  have b1 : (1 : Nat) ≤ big := by decide
  simp [m_inner, mDef, b_inner, wipeG, l1, l2, b1, hc]
end My
namespace My
open PySem AB L2
@[simp] theorem v_ext {h : AH} {n : Nat} {y : D} : fExt (.loc n) [y] h = (match h[n]? with | some (.lst ds) => (match vR h y with | some es => if ds.length + es.length ≤ big then .ok .non (h.set n (.lst (ds ++ es))) else .stuck | none => .stuck) | _ => .stuck) := id rfl
@[simp] theorem v_vRl {h : AH} {ds : List D} : vR h (.lst ds) = some ds := rfl
@[simp] theorem v_aug {f : Int → Int → Int} {i : Nat} {m : Me} {G : AB.Env} {h : AH} : sAug f i m G h = (match G[i]? with
  | some (some (.int k)) => (m G h).toS G fun y h1 => match y with
    | .int j => .next (G.set i (some (.int (f k j)))) h1
    | _ => .stuck
  | _ => .stuck) := rfl
def kids : Tree → List Tree
  | .ask _ cs o => cs.map (·.2) ++ [o]
  | _ => []
theorem is_ask_end {h : AH} {sectors : Nat} {t : Tree} (w : EndOk sectors t) : m_is_ask [tD t, .int sectors] h = .ok (.bl false) h := by
  cases w with
  | say n h1 h2 =>
    have e : tD (.say n) = .tup [.str "say", .int n] := by simp [tD]
    rw [e]
    simp [m_is_ask, mDef, b_is_ask, Ty.sub]
  | mend n ss h1 h2 h3 h4 =>
    have e : tD (.mend n ss) = .tup [.str "mend", .int n, .tup (ss.map sD)] := by simp [tD]
    rw [e]
    simp [m_is_ask, mDef, b_is_ask, Ty.sub]
noncomputable abbrev isIn : Ms := (sSeq (sIf (tOf (mN m_is_ask (aCons (mV 6) (aCons (mV 0) aNil)))) (sSeq (sExpr (mBM fExt (mV 5) (aCons (mN m_inner (aCons (mV 6) aNil)) aNil))) sNil) (sSeq (sIf (tNotM (tOf (mN m_is_end (aCons (mV 6) (aCons (mV 0) aNil))))) (sSeq (sRet (mC (.bl false))) sNil) sNil) sNil)) sNil)
noncomputable abbrev isOut : Ms := (sSeq (sAug (fun i j => i + j) 3 (mN fLen (aCons (mV 2) aNil))) (sSeq (sIf (tBl (mOp2 cGt (mV 3) (mC (.int 400)))) (sSeq (sRet (mC (.bl false))) sNil) sNil) (sSeq (sSet 5 (mNew (lLst aNil))) (sSeq (sFor (.nm 6) (iSeq (mV 2)) isIn) (sSeq (sIf (tBl (mOp2 fEq (mN fLen (aCons (mV 5) aNil)) (mC (.int 0)))) (sSeq (sRet (mC (.bl true))) sNil) sNil) (sSeq (sSet 2 (mV 5)) sNil))))))
theorem tree_cases {sectors d : Nat} {t : Tree} (w : TreeOk sectors d t) : EndOk sectors t ∨ ∃ e s cs o, d = e + 1 ∧ t = .ask s cs o ∧ s < sectors ∧ 1 ≤ cs.length ∧ cs.length ≤ 4 ∧ (cs.map (·.1)).Pairwise (fun a b => ltH a b = true) ∧ (∀ c ∈ cs, HOkV c.1) ∧ ∀ x ∈ kids t, TreeOk sectors e x := by
  cases w with
  | fin h => exact .inl h
  | @ask d s cs o h1 h2 h3 h4 h5 h6 h7 =>
    refine .inr ⟨d, s, cs, o, rfl, rfl, h1, h2, h3, h4, h5, fun x hx => ?_⟩
    simp only [kids, List.mem_append, List.mem_singleton, List.mem_map] at hx
    rcases hx with ⟨c, hc, rfl⟩ | rfl
    · exact h6 c hc
    · exact h7
theorem kids_end {sectors : Nat} {t : Tree} (w : EndOk sectors t) : kids t = [] := by
  cases w <;> rfl
theorem is_in {sectors d : Nat} {t : Tree} (w : TreeOk sectors d t) (th lv many k : Option D) (h : AH) (bs : List Tree) (hb : bs.length ≤ 5000) :
    isIn [some (.int sectors), th, lv, many, k, some (.loc h.length), some (tD t)] (h ++ [.lst (bs.map tD)]) = .next [some (.int sectors), th, lv, many, k, some (.loc h.length), some (tD t)] (h ++ [.lst ((bs ++ kids t).map tD)]) := by
  rcases tree_cases w with w | ⟨e, s, cs, o, rfl, rfl, h1, h2, h3, h4, h5, h6⟩
  · simp [is_ask_end w, is_end_ok w, kids_end w]
  · have hin := fun hh : AH => inner_ok (h := hh) (s := s) (cs := cs) (o := o) (by omega)
    have hget : ∀ o : AO, (h ++ [o])[h.length]? = some o := fun o => by simp
    have hset : ∀ o o' : AO, (h ++ [o]).set h.length o' = h ++ [o'] := fun o o' => by simp
    have l1 : bs.length + (cs.length + 1) ≤ big := by rw [big_eq]; omega
    simp [is_ask_ok h1 h2 (by omega) h4 h5, hin, hget, hset, l1, kids]
def below (ts : List Tree) : List Tree := ts.flatMap kids
theorem is_level {sectors d : Nat} (ts : List Tree) (w : ∀ t ∈ ts, TreeOk sectors d t) (hl : ts.length ≤ 400) (src : Option Nat) (th lv many k x : Option D) (h : AH) (hs : ∀ o : AO, Still src (ts.map tD) (h ++ [o])) :
    ∃ x', forGo (.nm 6) isIn src (ts.map tD) (ts.map tD) [some (.int sectors), th, lv, many, k, some (.loc h.length), x] (h ++ [.lst []]) = .next [some (.int sectors), th, lv, many, k, some (.loc h.length), x'] (h ++ [.lst ((below ts).map tD)]) := by
  obtain ⟨G', h', e, x', rfl, rfl, _⟩ := for_preS (p := .nm 6) (body := isIn) (all0 := ts.map tD) (src := src)
    (fun done G hh => ∃ x, G = [some (.int sectors), th, lv, many, k, some (.loc h.length), x] ∧ hh = h ++ [.lst ((below done).map tD)] ∧ (below done).length ≤ 5 * done.length)
    (by rintro done G hh ⟨x, rfl, rfl, _⟩; exact hs _) tD ts ts [] rfl
    (by
      rintro done t rest e G hh ⟨x, rfl, rfl, hb⟩
      have hd : done.length ≤ ts.length := by rw [← e, List.length_append]; omega
      have ht : TreeOk sectors d t := w t (by rw [← e]; simp)
      have e2 : below (done ++ [t]) = below done ++ kids t := by simp [below]
      refine ⟨_, _, _, rfl, is_in ht th lv many k h (below done) (by omega), some (tD t), rfl, by rw [e2], ?_⟩
      rw [e2, List.length_append, List.length_append]
      have : (kids t).length ≤ 5 := by
        rcases tree_cases ht with q | ⟨e, s, cs, o, rfl, rfl, h1, h2, h3, h4, h5, h6⟩
        · rw [kids_end q]; simp
        · simp [kids]; omega
      simp
      omega)
    [some (.int sectors), th, lv, many, k, some (.loc h.length), x] (h ++ [.lst []]) ⟨x, rfl, rfl, by simp [below]⟩
  exact ⟨x', e⟩
end My
namespace My
open PySem AB L2
def SS : Nat → Nat
  | 0 => 1
  | d + 1 => 1 + 5 * SS d
theorem kids_le {sectors d : Nat} {t : Tree} (w : TreeOk sectors d t) : (kids t).length ≤ 5 := by
  rcases tree_cases w with q | ⟨e, s, cs, o, rfl, rfl, h1, h2, h3, h4, h5, h6⟩
  · rw [kids_end q]; simp
  · simp [kids]; omega
theorem below_le {sectors d : Nat} : ∀ (ts : List Tree), (∀ t ∈ ts, TreeOk sectors d t) → (below ts).length ≤ 5 * ts.length
  | [], _ => by simp [below]
  | t :: ts, w => by
    have h1 := kids_le (w t List.mem_cons_self)
    have h2 := below_le ts fun x hx => w x (List.mem_cons_of_mem _ hx)
    have e : below (t :: ts) = kids t ++ below ts := by simp [below]
    rw [e, List.length_append, List.length_cons]
    omega
theorem below_ok {sectors d : Nat} {ts : List Tree} (w : ∀ t ∈ ts, TreeOk sectors d t) : below ts = [] ∨ ∃ e, d = e + 1 ∧ ∀ t ∈ below ts, TreeOk sectors e t := by
  cases d with
  | zero =>
    refine .inl ?_
    unfold below
    rw [List.flatMap_eq_nil_iff]
    intro t ht
    rcases tree_cases (w t ht) with q | ⟨e, s, cs, o, h0, _⟩
    · exact kids_end q
    · omega
  | succ e =>
    refine .inr ⟨e, rfl, fun x hx => ?_⟩
    unfold below at hx
    obtain ⟨t, ht, hx⟩ := List.mem_flatMap.mp hx
    rcases tree_cases (w t ht) with q | ⟨e2, s, cs, o, h0, rfl, _, _, _, _, _, h6⟩
    · rw [kids_end q] at hx
      cases hx
    · have : e2 = e := by omega
      subst this
      exact h6 x hx
theorem dlen (n : Nat) : decide ((n : Int) = 0) = (n == 0) := by cases n with | zero => rfl | succ k => exact decide_eq_false (by omega)
theorem is_loop {sectors : Nat} (all0 : List D) : ∀ (d : Nat), d ≤ 3 → ∀ (ts : List Tree), (∀ t ∈ ts, TreeOk sectors d t) → ∀ (m : Nat), m + ts.length * SS d ≤ 400 → ∀ (rs : List D), d + 1 ≤ rs.length → ∀ (th k4 k5 k6 : Option D) (lv : D) (h : AH),
    (lv = .lst (ts.map tD) ∨ ∃ n, lv = .loc n ∧ h[n]? = some (.lst (ts.map tD))) →
    ∃ h', forGo (.nm 4) isOut none all0 rs [some (.int sectors), th, some lv, some (.int m), k4, k5, k6] h = .ret (.bl true) (h ++ h')
  | d, hd, ts, w, m, hm, [], hr, th, k4, k5, k6, lv, h, hlv => by simp at hr
  | d, hd, ts, w, m, hm, r :: rs, hr, th, k4, k5, k6, lv, h, hlv => by
    have hS : 1 ≤ SS d := by cases d <;> simp [SS]
    have hts : ts.length ≤ ts.length * SS d := Nat.le_mul_of_pos_right _ hS
    have hlen : fLen [lv] h = .ok (.int ts.length) h := by
      rcases hlv with rfl | ⟨n, rfl, e⟩
      · simp
      · simp [e]
    obtain ⟨src, hit, hst⟩ : ∃ src, (∀ o : AO, iSeq (mV 2) [some (.int sectors), th, some lv, some (.int (m + ts.length)), some r, some (.loc h.length), k6] (h ++ [o]) = .ok (ts.map tD, src) (h ++ [o])) ∧ ∀ o : AO, Still src (ts.map tD) (h ++ [o]) := by
      rcases hlv with rfl | ⟨n, rfl, e⟩
      · exact ⟨none, fun o => rfl, fun o => trivial⟩
      · have hn : n < h.length := (List.getElem?_eq_some_iff.mp e).1
        have e2 : ∀ o : AO, (h ++ [o])[n]? = some (.lst (ts.map tD)) := fun o => by rw [List.getElem?_append_left hn]; exact e
        exact ⟨some n, fun o => by simp [e2 o], fun o => e2 o⟩
    obtain ⟨x', hin⟩ := is_level ts w (by omega) src th (some lv) (some (.int (m + ts.length))) (some r) k6 h hst
    have hget : ∀ o : AO, (h ++ [o])[h.length]? = some o := fun o => by simp
    have l1 : ¬ (400 : Int) < (m : Int) + ts.length := by omega
    have b0 : (0 : Nat) ≤ big := by decide
    have hbody : isOut [some (.int sectors), th, some lv, some (.int m), some r, k5, k6] h = if (below ts).length = 0 then .ret (.bl true) (h ++ [.lst ((below ts).map tD)]) else .next [some (.int sectors), th, some (.loc h.length), some (.int (m + ts.length)), some r, some (.loc h.length), x'] (h ++ [.lst ((below ts).map tD)]) := by
      by_cases q : (below ts).length = 0
      · have q2 : below ts = [] := List.eq_nil_of_length_eq_zero q
        have hin2 := hin
        rw [q2] at hin2 ⊢
        simp only [isOut, v_sSeq, v_aug, v_mN, v_aCons, v_aNil, v_mV, List.getElem?_cons_succ, List.getElem?_cons_zero, Res.bind_ok, hlen, Res.toS_ok, List.set_cons_succ, List.set_cons_zero, SR.andThen_next, v_sIf, v_tBl, v_mOp2, v_mC, v_cGt, l1, decide_false, Bool.false_eq_true, if_false, v_sNil, v_sSet, v_mNew, v_lLst, List.length_nil, b0, if_true, v_sFor, hit, hin2]
        simp
      · have q2 : ¬ ((below ts).length : Int) = 0 := by omega
        simp only [isOut, v_sSeq, v_aug, v_mN, v_aCons, v_aNil, v_mV, List.getElem?_cons_succ, List.getElem?_cons_zero, Res.bind_ok, hlen, Res.toS_ok, List.set_cons_succ, List.set_cons_zero, SR.andThen_next, v_sIf, v_tBl, v_mOp2, v_mC, v_cGt, l1, decide_false, Bool.false_eq_true, if_false, v_sNil, v_sSet, v_mNew, v_lLst, List.length_nil, b0, if_true, v_sFor, hit, hin]
        simp [q, q2]
    have hgo : forGo (.nm 4) isOut none all0 (r :: rs) [some (.int sectors), th, some lv, some (.int m), k4, k5, k6] h = (match isOut [some (.int sectors), th, some lv, some (.int m), some r, k5, k6] h with
      | .next G2 h2 => forGo (.nm 4) isOut none all0 rs G2 h2
      | .cont G2 h2 => forGo (.nm 4) isOut none all0 rs G2 h2
      | .brk G2 h2 => .next G2 h2
      | .ret x h2 => .ret x h2
      | .exc c fs G2 h2 => .exc c fs G2 h2
      | .stuck => .stuck) := by
      conv => lhs; unfold forGo
      rw [if_pos (by trivial)]
      rfl
    rw [hgo, hbody]
    rcases below_ok w with q | ⟨e, rfl, w2⟩
    · rw [if_pos (by rw [q]; rfl)]
      exact ⟨_, rfl⟩
    · by_cases q : (below ts).length = 0
      · rw [if_pos q]
        exact ⟨_, rfl⟩
      · rw [if_neg q]
        have hb := below_le ts w
        have hb2 : (below ts).length * SS e ≤ 5 * ts.length * SS e := Nat.mul_le_mul_right _ hb
        have e3 : ts.length * SS (e + 1) = ts.length + 5 * ts.length * SS e := by
          simp only [SS, Nat.mul_add, Nat.mul_one]
          rw [Nat.mul_left_comm, ← Nat.mul_assoc]
        obtain ⟨h', hrec⟩ := is_loop all0 e (by omega) (below ts) w2 (m + ts.length) (by omega) rs (by simp at hr; omega) th (some r) (some (.loc h.length)) x' (.loc h.length) (h ++ [.lst ((below ts).map tD)]) (.inr ⟨_, rfl, hget _⟩)
        refine ⟨[.lst ((below ts).map tD)] ++ h', ?_⟩
        have ec : (((m + ts.length : Nat) : Int)) = (m : Int) + ts.length := by omega
        rw [ec] at hrec
        simp only
        rw [hrec, List.append_assoc]
theorem is_right_ok {sectors d : Nat} (hd : d ≤ 3) {t : Tree} (w : TreeOk sectors d t) (h : AH) : m_is_right [.int sectors, tD t] h = .ok (.bl true) h := by
  have hS : SS d ≤ 156 := by
    have : d = 0 ∨ d = 1 ∨ d = 2 ∨ d = 3 := by omega
    rcases this with rfl | rfl | rfl | rfl <;> simp [SS]
  have er : rangeD 0 12 = (List.range 12).map fun i : Nat => D.int (i : Int) := rangeD_eq 12
  have c1 : okR (12 : Int) := ⟨by decide, by decide⟩
  have b1 : (1 : Nat) ≤ big := by decide
  obtain ⟨h', e⟩ := is_loop (sectors := sectors) (rangeD 0 12) d hd [t] (by simpa using w) 0 (by simp; omega) (rangeD 0 12) (by rw [er]; simp; omega) (some (tD t)) none none none (.lst [tD t]) h (.inl rfl)
  have fin := finD_app h h' (.bl true) rfl
  have eb : b_is_right [some (.int sectors), some (tD t), none, none, none, none, none] h = .ret (.bl true) (h ++ h') := by
    have eq : b_is_right = (sSeq (sSet 2 (mL (lLst (aCons (mV 1) aNil)))) (sSeq (sSet 3 (mC (.int 0))) (sSeq (sFor (.nm 4) (iRange1 (aCons (mC (.int 12)) aNil)) isOut) (sSeq (sRet (mC (.bl false))) sNil)))) := rfl
    rw [eq]
    simp only [v_sSeq, v_sSet, v_mL, v_lLst, v_aCons, v_aNil, v_mV, v_mC, List.getElem?_cons_succ, List.getElem?_cons_zero, Res.bind_ok, List.length_cons, List.length_nil, Nat.zero_add, b1, if_true, Res.toS_ok, List.set_cons_succ, List.set_cons_zero, SR.andThen_next, v_sFor, v_range1, c1]
    have e : forGo (.nm 4) isOut none (rangeD 0 12) (rangeD 0 12) [some (.int sectors), some (tD t), some (.lst [tD t]), some (.int 0), none, none, none] h = .ret (.bl true) (h ++ h') := e
    have z : (12 : Int).toNat = 12 := rfl
    rw [z, e]
    rfl
  simp [m_is_right, mDef, eb, fin]
theorem check_reader_ok {sectors d : Nat} (hd : d ≤ 3) {t : Tree} (w : TreeOk sectors d t) (h : AH) : m_check_reader [.int sectors, tD t] h = .ok .non h := by
  simp [m_check_reader, mDef, b_check_reader, is_right_ok hd w]
theorem check_both_ok {d : Nat} (hd : d ≤ 3) {t : Tree} {st : List (Option Val)} (w : TreeOk st.length d t) (h1 : 1 ≤ st.length) (h2 : st.length ≤ 64) (ws : ∀ o ∈ st, HOkV o) (h : AH) : m_check_both [tD t, .tup (st.map hvD)] h = .ok .non h := by
  simp [m_check_both, mDef, b_check_both, check_state_ok h1 h2 ws, check_reader_ok hd w]
end My
namespace My
open PySem AB L2
theorem lt_v (u v : Val) : PySem.W.dataLt (vP u) (vP v) = decide (u < v) := (PySem.W.dataLt_tuple _ _).trans (PySem.W.dataLt_ints u v)
theorem leP_v (u v : Val) : leP (vP u) (vP v) = decide (u ≤ v) := by
  unfold leP
  rw [lt_v]
  have : (u ≤ v) ↔ ¬ v < u := by
    rw [List.not_lt]
  by_cases q : v < u
  · simp [q, this]
  · simp [q, this]
theorem toPs_vs : ∀ L : List Val, toPs (L.map vD) = some (L.map vP)
  | [] => rfl
  | v :: L => by
    show (match toP (vD v), toPs (L.map vD) with | some p, some ps => some (p :: ps) | _, _ => none) = _
    rw [toP_v, toPs_vs L]
    rfl
def vle (u v : Val) : Bool := decide (u ≤ v)
theorem sortD_v (L : List Val) : sortD (L.map vD) (L.map vP) = (L.mergeSort vle).map vD := by
  unfold sortD
  have e : (L.map vD).zip (L.map vP) = L.map fun v => (vD v, vP v) := by
    rw [List.zip_map']
  rw [e]
  have e2 := (List.map_mergeSort (r := vle) (s := fun a b : D × PyData => leP a.2 b.2) (f := fun v => (vD v, vP v)) (l := L) (by
    intro a _ b _
    show vle a b = leP (vP a) (vP b)
    rw [leP_v]
    rfl)).symm
  rw [e2, List.map_map]
  rfl
theorem sortB_v (L : List Val) (hl : L.length ≤ 1000) : sortB (L.map vP) = true := by
  unfold sortB
  have h1 : alikeB (L.map vP) = true := by
    unfold alikeB
    rw [List.all_eq_true]
    intro a ha
    rw [List.all_eq_true]
    intro b hb
    obtain ⟨u, _, rfl⟩ := List.mem_map.mp ha
    obtain ⟨v, _, rfl⟩ := List.mem_map.mp hb
    exact alike_v u v
  have h2 : (L.map vP).all isTupP = true := by
    rw [List.all_eq_true]
    intro a ha
    obtain ⟨u, _, rfl⟩ := List.mem_map.mp ha
    rfl
  have h3 : (L.map vP).all SeqAt.shaped = true := by
    rw [List.all_eq_true]
    intro a ha
    obtain ⟨u, _, rfl⟩ := List.mem_map.mp ha
    simp [SeqAt.shaped, lay_v, dep_v]
  have h4 : (L.map vP).length ≤ big := by rw [List.length_map, big_eq]; omega
  simp only [h1, h2, h3, Bool.true_or, Bool.true_and, Bool.and_true, decide_eq_true_eq, Bool.and_self, Bool.true_and]
  exact h4
theorem vle_trans (a b c : Val) (h1 : vle a b = true) (h2 : vle b c = true) : vle a c = true := by
  unfold vle at *
  rw [decide_eq_true_eq] at *
  exact List.le_trans h1 h2
theorem vle_total (a b : Val) : (vle a b || vle b a) = true := by
  unfold vle
  rw [Bool.or_eq_true, decide_eq_true_eq, decide_eq_true_eq]
  exact List.le_total a b
/-- the values in their order -/
def srt (L : List Val) : List Val := L.mergeSort vle
theorem srt_mem {L : List Val} {v : Val} : v ∈ srt L ↔ v ∈ L := (List.mergeSort_perm L vle).mem_iff
theorem srt_len (L : List Val) : (srt L).length = L.length := (List.mergeSort_perm L vle).length_eq
theorem srt_asc {L : List Val} (h : L.Nodup) : ((none : Option Val) :: (srt L).map some).Pairwise (fun a b => ltH a b = true) := by
  rw [List.pairwise_cons]
  refine ⟨fun a ha => ?_, ?_⟩
  · obtain ⟨v, _, rfl⟩ := List.mem_map.mp ha
    rfl
  · rw [List.pairwise_map]
    have h1 : (srt L).Pairwise fun a b => vle a b = true := List.pairwise_mergeSort vle_trans vle_total L
    have h2 : (srt L).Nodup := (List.mergeSort_perm L vle).nodup_iff.mpr h
    refine (h1.and h2).imp fun {a b} hab => ?_
    show PySem.W.dataLt (vP a) (vP b) = true
    rw [lt_v, decide_eq_true_eq]
    have h3 : a ≤ b := of_decide_eq_true hab.1
    rcases Classical.em (a < b) with q | q
    · exact q
    · exact absurd (List.le_antisymm h3 (List.not_lt.mp q)) hab.2
theorem sorted_ok {h : AH} {L : List Val} (hl : L.length ≤ 1000) : fSorted [.lst (L.map vD)] h = .ok ((srt L).map vD) h := by
  show (match toPs (L.map vD) with | some ps => if sortB ps = true then Res.ok (sortD (L.map vD) ps) h else .stuck | none => .stuck) = _
  rw [toPs_vs]
  show (if sortB (L.map vP) = true then Res.ok (sortD (L.map vD) (L.map vP)) h else .stuck) = _
  rw [if_pos (sortB_v L hl), sortD_v]
  rfl
theorem cut_from {α : Type} (f : α → D) (xs : List α) (n : Nat) : cutD (xs.map f) (some (n : Int)) none = (xs.drop n).map f := by
  unfold cutD
  have e : HT.sIx (xs.map f).length 0 (some (n : Int)) = min n (xs.map f).length := HT.sIx_nat _ _ n
  have e2 : HT.sIx (xs.map f).length (xs.map f).length none = (xs.map f).length := rfl
  rw [e, e2, List.length_map]
  rcases Nat.le_total n xs.length with q | q
  · rw [Nat.min_eq_left q, List.take_of_length_le (by simp), List.map_drop]
  · rw [Nat.min_eq_right q, List.drop_eq_nil_of_le (by simp), List.drop_eq_nil_of_le q]
    simp
theorem eq_hvL {h : AH} (os : List (Option Val)) : fEq (.lst (os.map hvD)) (.lst []) h = .ok (.bl os.isEmpty) h := by
  have e1 : okP h (.lst (os.map hvD)) = some (.list (os.map hvP)) := by
    unfold okP
    have e : toPh h (.lst (os.map hvD)) = some (.list (os.map hvP)) := by
      show (toPs (os.map hvD)).map PyData.list = _
      rw [toPs_hv]
      rfl
    rw [e]
    simp [shaped_hvs]
  have e2 : okP h (.lst []) = some (.list []) := by
    have : okP h (.lst (([] : List (Option Val)).map hvD)) = some (.list (([] : List (Option Val)).map hvP)) := by
      unfold okP
      have e : toPh h (.lst []) = some (.list []) := rfl
      simp only [List.map_nil]
      rw [e]
      have := shaped_hvs []
      simp only [List.map_nil] at this
      simp [this]
    exact this
  unfold fEq
  rw [e1, e2]
  cases os with
  | nil => simp [PyData.eqv, PyData.eqvAll]
  | cons o os => simp [PyData.eqv, PyData.eqvAll]
end My
namespace My
open PySem AB L2
theorem under_hv (n : Nat) (o : Option Val) : (hvD o).under n = true := by
  cases o <;> simp [hvD, vD, D.under, under_ints]
mutual
theorem under_t (n : Nat) : ∀ t : Tree, (tD t).under n = true
  | .say k => by simp [tD, D.under, underL]
  | .mend k ss => by simp [tD, D.under, underL, under_ss]
  | .ask s cs o => by
    have h1 := under_cs n cs
    have h2 := under_t n o
    simp [tD, D.under, underL, h1, h2]
theorem under_cs (n : Nat) : ∀ cs : List (Option Val × Tree), underL n (csD cs) = true
  | [] => by simp [csD, underL]
  | c :: cs => by
    have h1 := under_c n c
    have h2 := under_cs n cs
    simp [csD, underL, h1, h2]
theorem under_c (n : Nat) : ∀ c : Option Val × Tree, (cD c).under n = true
  | (v, t) => by
    have h1 := under_t n t
    simp [cD, D.under, underL, under_hv, h1]
end
theorem cut_last {α : Type} (f : α → D) (xs : List α) (x : α) : cutD ((xs ++ [x]).map f) (some (-1)) none = [f x] := by
  unfold cutD
  have e : HT.sIx ((xs ++ [x]).map f).length 0 (some (-1)) = xs.length := by
    show (if (-1 : Int) < 0 then ((-1 : Int) + (((xs ++ [x]).map f).length : Int)).toNat else min (-1 : Int).toNat ((xs ++ [x]).map f).length) = _
    rw [if_pos (by decide)]
    simp
    omega
  have e2 : HT.sIx ((xs ++ [x]).map f).length ((xs ++ [x]).map f).length none = ((xs ++ [x]).map f).length := rfl
  rw [e, e2]
  simp
theorem cases_of {sectors d : Nat} (zs : List (Option Val × D)) (h : ∀ z ∈ zs, ∃ t, z.2 = cD (z.1, t) ∧ TreeOk sectors d t) : ∃ cs : List (Option Val × Tree), zs.map (·.2) = csD cs ∧ cs.map (·.1) = zs.map (·.1) ∧ ∀ c ∈ cs, TreeOk sectors d c.2 := by
  induction zs with
  | nil => exact ⟨[], by simp [csD], rfl, by simp⟩
  | cons z zs ih =>
    obtain ⟨cs, e1, e2, e3⟩ := ih fun y hy => h y (List.mem_cons_of_mem _ hy)
    obtain ⟨t, e4, e5⟩ := h z List.mem_cons_self
    refine ⟨(z.1, t) :: cs, by simp [csD, e4, e1], by simp [e2], fun c hc => ?_⟩
    rcases List.mem_cons.mp hc with rfl | hc
    · exact e5
    · exact e3 c hc
noncomputable def keptIf : Ms := (sIf (tBl (mOp2 fEq (mV 7) (mL (lLst aNil)))) (sSeq (sSet 7 (mSl (mV 6) (oSome (mOp1 fNeg (mC (.int 1)))) oNone)) sNil) sNil)
theorem reader_ok {cs : List Int} (hc : ∀ c ∈ cs, 0 ≤ c) {L : List Val} (hL : ∀ v ∈ L, VOk v) (hnd : L.Nodup) (hl1 : 1 ≤ L.length) (hl3 : L.length ≤ 3) {sectors : Nat} (h1 : 1 ≤ sectors) (h2 : sectors ≤ 64) {most : Int} (hmo : 1 ≤ most) (hmo2 : most ≤ 1000000001) (mends : Int) (tl : AH) :
    ∀ (d n : Nat), d < n → ∀ (dp : Int), dp = d → ∀ (P : AO), IsP cs P →
    ∃ t P', m__law_reader n [.loc 0, .lst (L.map vD), .int sectors, .int dp, .int most, .int mends] (P :: tl) = .ok (tD t) (P' :: tl) ∧ IsP cs P' ∧ TreeOk sectors d t := by
  intro d
  have fin : ∀ (P P' : AO) (x : D), finD (tl.length + 1) (P :: tl) x (P' :: tl) = .ok x (P' :: tl) := fun P P' x => by
    unfold finD
    rw [if_pos (by simp)]
  induction d with
  | zero =>
    intro n hn dp hdp P hP
    obtain ⟨k, rfl⟩ : ∃ k, n = k + 1 := ⟨n - 1, by omega⟩
    obtain ⟨t, P', e, hP', ht⟩ := end_ok hc hP hL hl1 (by omega) h1 h2 hmo hmo2 mends tl
    have hdp : dp = 0 := by omega
    subst hdp
    refine ⟨t, P', ?_, hP', .fin ht⟩
    simp [m__law_reader, mDef, b__law_reader, e, fin]
  | succ d ih =>
    intro n hn dp hdp P hP
    obtain ⟨k, rfl⟩ : ∃ k, n = k + 1 := ⟨n - 1, by omega⟩
    have hdp : dp = (d : Int) + 1 := by omega
    subst hdp
    have ne : ¬ ((d : Int) + 1 = 0) := by omega
    obtain ⟨r, P1, e1, hP1, r0, r1⟩ := draw_ok hc hP (many := 5) (by omega) (by omega) tl
    by_cases q : r = 0
    · obtain ⟨t, P', e, hP', ht⟩ := end_ok hc hP1 hL hl1 (by omega) h1 h2 hmo hmo2 mends tl
      refine ⟨t, P', ?_, hP', .fin ht⟩
      subst q
      simp [m__law_reader, mDef, b__law_reader, e1, e, fin, ne]
    · obtain ⟨r2, P2, e2, hP2, r20, r21⟩ := draw_ok hc hP1 (many := 2) (by omega) (by omega) tl
      obtain ⟨r2, rfl⟩ : ∃ k : Nat, r2 = k := ⟨r2.toNat, by omega⟩
      have lS := srt_len L
      obtain ⟨B, hB⟩ : ∃ B, B = ((none : Option Val) :: (srt L).map some).drop r2 := ⟨_, rfl⟩
      have eB : cutD (D.non :: (srt L).map vD) (some (r2 : Int)) none = B.map hvD := by
        have := cut_from hvD ((none : Option Val) :: (srt L).map some) r2
        rw [← hB, List.map_cons, List.map_map] at this
        exact this
      have lB1 : 1 ≤ B.length := by rw [hB]; simp; omega
      have lB4 : B.length ≤ 4 := by rw [hB]; simp; omega
      have hBA : B.Pairwise (fun a b => ltH a b = true) := by
        rw [hB]
        exact (srt_asc hnd).sublist (List.drop_sublist _ _)
      have hBH : ∀ o ∈ B, HOkV o := fun o ho => by
        rw [hB] at ho
        have ho := List.mem_of_mem_drop ho
        rcases List.mem_cons.mp ho with rfl | ho
        · trivial
        · obtain ⟨v, hv, rfl⟩ := List.mem_map.mp ho
          exact hL v (srt_mem.mp hv)
      -- kept
      obtain ⟨ys, h3, e3, ⟨P3, hP3, rfl⟩, sl⟩ := comp_inv (p := .nm 9) (t := tBl (mOp2 cGt (mN m__law_draw (aCons (mV 0) (aCons (mC (.int 3)) aNil))) (mC (.int 0)))) (e := mV 9) (all0 := B.map hvD)
        (G0 := [some (.loc 0), some (.lst (L.map vD)), some (.int sectors), some (.int ((d : Int) + 1)), some (.int most), some (.int mends), some (.lst (B.map hvD)), none, none, none]) (I := fun h => ∃ P', IsP cs P' ∧ h = P' :: tl) hvD hvD B
        (by
          rintro x hx h ⟨P', hP', rfl⟩
          obtain ⟨s, P2, e, hP2, _, _⟩ := draw_ok hc hP' (many := 3) (by omega) (by omega) tl
          exact ⟨_, decide (0 < s), P2 :: tl, rfl, by simp [e], ⟨P2, hP2, rfl⟩, fun _ => ⟨P2 :: tl, by simp, P2, hP2, rfl⟩⟩)
        (P2 :: tl) ⟨P2, hP2, rfl⟩
      have b0 : (0 : Nat) ≤ big := by decide
      obtain ⟨Kp, hif, hKsl, hK1⟩ : ∃ Kp : List (Option Val), (∀ G h, keptIf [some (.loc 0), some (.lst (L.map vD)), some (.int sectors), some (.int ((d : Int) + 1)), some (.int most), some (.int mends), some (.lst (B.map hvD)), some (.lst (ys.map hvD)), none, G] h = .next [some (.loc 0), some (.lst (L.map vD)), some (.int sectors), some (.int ((d : Int) + 1)), some (.int most), some (.int mends), some (.lst (B.map hvD)), some (.lst (Kp.map hvD)), none, G] h) ∧ Kp.Sublist B ∧ 1 ≤ Kp.length := by
        have heq := fun hh : AH => eq_hvL (h := hh) ys
        cases ys with
        | nil =>
          obtain ⟨B1, b, rfl⟩ : ∃ B1 b, B = B1 ++ [b] := ⟨B.dropLast, B.getLast (fun z => by rw [z] at lB1; simp at lB1), (List.dropLast_concat_getLast _).symm⟩
          refine ⟨[b], fun G h => ?_, by simp, by simp⟩
          have e := cut_last hvD B1 b
          have heq0 : ∀ hh : AH, fEq (.lst []) (.lst []) hh = .ok (.bl true) hh := fun hh => heq hh
          simp only [keptIf, heq0, v_sIf, v_tBl, v_mOp2, v_mV, List.getElem?_cons_succ, List.getElem?_cons_zero, Res.bind_ok, v_mL, v_lLst, v_aNil, List.length_nil, b0, if_true, heq, Res.toS_ok, List.isEmpty_nil, v_sSeq, v_sSet, v_mSlT, v_oSome, v_mOp1, v_mC, v_neg, v_oNone, v_vLl, e, List.set_cons_succ, List.set_cons_zero, SR.andThen_next, v_sNil, List.map_cons, List.map_nil]
        | cons y ys =>
          refine ⟨y :: ys, fun G h => ?_, sl, by simp⟩
          simp only [keptIf, v_sIf, v_tBl, v_mOp2, v_mV, List.getElem?_cons_succ, List.getElem?_cons_zero, Res.bind_ok, v_mL, v_lLst, v_aNil, List.length_nil, b0, if_true, heq, Res.toS_ok, List.isEmpty_cons, Bool.false_eq_true, if_false, v_sNil]
      have lK4 := hKsl.length_le
      -- the cases
      obtain ⟨zs, h4, e4, ⟨P4, hP4, rfl⟩, e5, hz⟩ := comp_gen (p := .nm 9) (e := (mN fTup (aCons (mV 9) (aCons (mN (m__law_reader k) (aCons (mV 0) (aCons (mV 1) (aCons (mV 2) (aCons (mOp2 fSub (mV 3) (mC (.int 1))) (aCons (mV 4) (aCons (mV 5) aNil))))))) aNil)))) (all0 := Kp.map hvD)
        (G0 := [some (.loc 0), some (.lst (L.map vD)), some (.int sectors), some (.int ((d : Int) + 1)), some (.int most), some (.int mends), some (.lst (B.map hvD)), some (.lst (Kp.map hvD)), none, none]) (I := fun h => ∃ P', IsP cs P' ∧ h = P' :: tl)
        (R := fun x dd => ∃ t, dd = cD (x, t) ∧ TreeOk sectors d t) hvD Kp
        (by
          rintro x hx h ⟨P', hP', rfl⟩
          obtain ⟨t, P2, e, hP2, ht⟩ := ih k (by omega) d rfl P' hP'
          have b2 : (2 : Nat) ≤ big := by decide
          exact ⟨_, _, P2 :: tl, rfl, by simp [e, b2]; rfl, ⟨P2, hP2, rfl⟩, t, by rw [cD_eq], ht⟩)
        (P3 :: tl) ⟨P3, hP3, rfl⟩
      obtain ⟨cas, ec, em, hcas⟩ := cases_of zs hz
      rw [ec] at e4
      obtain ⟨s, P5, e6, hP5, s0, s1⟩ := draw_ok hc hP4 (many := sectors) (by omega) (by omega) tl
      obtain ⟨s, rfl⟩ : ∃ k : Nat, s = k := ⟨s.toNat, by omega⟩
      obtain ⟨o, P6, e7, hP6, ho⟩ := ih k (by omega) d rfl P5 hP5
      have emK : cas.map (·.1) = Kp := em.trans e5
      have lcas : cas.length = Kp.length := by rw [← emK, List.length_map]
      refine ⟨.ask s cas o, P6, ?_, hP6, .ask (by omega) (by omega) (by omega) (by rw [emK]; exact hBA.sublist hKsl) (fun c hcm => hBH _ (hKsl.subset (by rw [← emK]; exact List.mem_map.mpr ⟨c, hcm, rfl⟩))) hcas ho⟩
      have et : tD (.ask s cas o) = .tup [.str "ask", .int s, .tup (csD cas), tD o] := by simp [tD]
      have b1 : (1 : Nat) ≤ big := by decide
      have b4 : (4 : Nat) ≤ big := by decide
      have lBb : B.length ≤ big := by rw [big_eq]; omega
      have lKb : Kp.length ≤ big := by rw [big_eq]; omega
      have lSb : 1 + (srt L).length ≤ big := by rw [big_eq]; omega
      have hsrt := fun hh : AH => sorted_ok (h := hh) (L := L) (by omega)
      have eb : b__law_reader (m__law_reader k) = (sSeq (sIf (tOrM (tBl (mOp2 fEq (mV 3) (mC (.int 0)))) (tBl (mOp2 fEq (mN m__law_draw (aCons (mV 0) (aCons (mC (.int 5)) aNil))) (mC (.int 0))))) (sSeq (sRet (mN m__law_end (aCons (mV 0) (aCons (mV 1) (aCons (mV 2) (aCons (mV 4) (aCons (mV 5) aNil))))))) sNil) sNil) (sSeq (sSet 6 (mOp2 fAdd (mL (lLst (aCons (mC .non) aNil))) (mL (lN fSorted (aCons (mV 1) aNil))))) (sSeq (sSet 6 (mSl (mV 6) (oSome (mN m__law_draw (aCons (mV 0) (aCons (mC (.int 2)) aNil)))) oNone)) (sSeq (sSet 7 (mL (lComp (.nm 9) [9] (iSeq (mV 6)) (tBl (mOp2 cGt (mN m__law_draw (aCons (mV 0) (aCons (mC (.int 3)) aNil))) (mC (.int 0)))) (mV 9)))) (sSeq keptIf (sSeq (sSet 8 (mN fTuple (aCons (mL (lComp (.nm 9) [9] (iSeq (mV 7)) tYesM (mN fTup (aCons (mV 9) (aCons (mN (m__law_reader k) (aCons (mV 0) (aCons (mV 1) (aCons (mV 2) (aCons (mOp2 fSub (mV 3) (mC (.int 1))) (aCons (mV 4) (aCons (mV 5) aNil))))))) aNil))))) aNil))) (sSeq (sRet (mN fTup (aCons (mC (.str "ask")) (aCons (mN m__law_draw (aCons (mV 0) (aCons (mV 2) aNil))) (aCons (mV 8) (aCons (mN (m__law_reader k) (aCons (mV 0) (aCons (mV 1) (aCons (mV 2) (aCons (mOp2 fSub (mV 3) (mC (.int 1))) (aCons (mV 4) (aCons (mV 5) aNil))))))) aNil)))))) sNil))))))) := rfl
      rw [et]
      simp [m__law_reader, mDef, eb, e1, q, ne, b1, hsrt, lSb, e2, eB, wipeG, lBb, e3, hif, lKb, e4, e6, e7, b4, fin]
end My
namespace My
open PySem AB L2
def lastW (cs : List (Option Val × Tree)) (o : Tree) (x : Option Val) : Tree := cs.foldl (fun acc c => if c.1 = x then c.2 else acc) o
theorem way_cons (c : Option Val × Tree) (cs : List (Option Val × Tree)) (o : Tree) (x : Option Val) : way (c :: cs) o x = if c.1 = x then c.2 else way cs o x := by
  unfold way
  rw [List.find?_cons]
  by_cases q : c.1 = x
  · simp [q]
  · simp [q]
theorem way_not {cs : List (Option Val × Tree)} {o : Tree} {x : Option Val} (h : x ∉ cs.map (·.1)) : way cs o x = o := by
  unfold way
  have : cs.find? (fun c => decide (c.1 = x)) = none := by
    rw [List.find?_eq_none]
    intro c hc e
    exact h (List.mem_map.mpr ⟨c, hc, of_decide_eq_true e⟩)
  rw [this]
theorem lastW_eq : ∀ (cs : List (Option Val × Tree)) (o : Tree) (x : Option Val), (cs.map (·.1)).Nodup → lastW cs o x = way cs o x
  | [], o, x, _ => rfl
  | c :: cs, o, x, h => by
    rw [List.map_cons, List.nodup_cons] at h
    have ih := lastW_eq cs (if c.1 = x then c.2 else o) x h.2
    have e : lastW (c :: cs) o x = lastW cs (if c.1 = x then c.2 else o) x := rfl
    rw [e, ih, way_cons]
    by_cases q : c.1 = x
    · rw [if_pos q, if_pos q]
      exact way_not (by rw [← q]; exact h.1)
    · rw [if_neg q, if_neg q]
theorem ltH_ne {a b : Option Val} (h : ltH a b = true) : a ≠ b := by
  rintro rfl
  cases a with
  | none => cases h
  | some v =>
    have h : PySem.W.dataLt (vP v) (vP v) = true := h
    rw [PySem.W.dataLt_self] at h
    cases h
noncomputable abbrev lwIn : Ms := (sSeq (sIf (tBl (mOp2 fEq (mV 5) (mOp2 fIx (mV 1) (mOp2 fIx (mV 2) (mC (.int 1)))))) (sSeq (sSet 4 (mV 6)) sNil) sNil) sNil)
noncomputable abbrev lwB : Ms := (sSeq (sIf (tBl (mOp2 fEq (mOp2 fIx (mV 2) (mC (.int 0))) (mC (.str "ask")))) (sSeq (sSet 4 (mOp2 fIx (mV 2) (mC (.int 3)))) (sSeq (sFor (.tp [(.nm 5), (.nm 6)]) (iSeq (mOp2 fIx (mV 2) (mC (.int 2)))) lwIn) (sSeq (sSet 2 (mV 4)) sNil))) sNil) sNil)
theorem lw_ask {st : List (Option Val)} {s : Nat} {cs : List (Option Val × Tree)} {o : Tree} {x : Option Val} (hx : st[s]? = some x) (hn : (cs.map (·.1)).Nodup) (r k3 k4 k5 k6 : Option D) (h : AH) :
    ∃ a4 a5 a6, lwB [r, some (.tup (st.map hvD)), some (tD (.ask s cs o)), k3, k4, k5, k6] h = .next [r, some (.tup (st.map hvD)), some (tD (way cs o x)), k3, a4, a5, a6] h := by
  have ht : tD (.ask s cs o) = .tup [.str "ask", .int s, .tup (csD cs), tD o] := by simp [tD]
  have ex : atI (st.map hvD) (s : Int) = some (hvD x) := by
    rw [atI_map, atI_nat (by omega) (by simpa using hx)]
    rfl
  obtain ⟨G', h', e, a5, a6, rfl, rfl⟩ := AB.for_pre (p := .tp [(.nm 5), (.nm 6)]) (body := lwIn) (all0 := cs.map cD)
    (fun done G hh => ∃ a5 a6, G = [r, some (.tup (st.map hvD)), some (.tup [.str "ask", .int s, .tup (csD cs), tD o]), k3, some (tD (lastW done o x)), a5, a6] ∧ hh = h) cD cs cs [] rfl
    (by
      rintro done c rest hd G hh ⟨a5, a6, rfl, rfl⟩
      have el : lastW (done ++ [c]) o x = if c.1 = x then c.2 else lastW done o x := by simp [lastW]
      refine ⟨_, [r, some (.tup (st.map hvD)), some (.tup [.str "ask", .int s, .tup (csD cs), tD o]), k3, some (tD (lastW (done ++ [c]) o x)), some (hvD c.1), some (tD c.2)], hh, by rw [cD_eq]; rfl, ?_, some (hvD c.1), some (tD c.2), rfl, rfl⟩
      rw [el]
      by_cases q : c.1 = x
      · simp [ex, eq_hv, q]
      · simp [ex, eq_hv, q])
    [r, some (.tup (st.map hvD)), some (.tup [.str "ask", .int s, .tup (csD cs), tD o]), k3, some (tD o), k5, k6] h ⟨k5, k6, rfl, rfl⟩
  rw [← csD_map] at e
  rw [lastW_eq cs o x hn] at e
  refine ⟨some (tD (way cs o x)), a5, a6, ?_⟩
  rw [ht]
  simp [eq_ask3, e]
theorem lw_end {sectors : Nat} {t : Tree} (w : EndOk sectors t) (r k1 k3 k4 k5 k6 : Option D) (h : AH) : lwB [r, k1, some (tD t), k3, k4, k5, k6] h = .next [r, k1, some (tD t), k3, k4, k5, k6] h := by
  cases w with
  | say n h1 h2 => simp [tD, eq_ask1]
  | mend n ss h1 h2 h3 h4 => simp [tD, eq_ask2]
theorem ask_parts {sectors d s : Nat} {cs : List (Option Val × Tree)} {o : Tree} (w : TreeOk sectors d (.ask s cs o)) : ∃ e, d = e + 1 ∧ (cs.map (·.1)).Nodup ∧ ∀ x, TreeOk sectors e (way cs o x) := by
  cases w with
  | fin h => cases h
  | @ask d _ _ _ h1 h2 h3 h4 h5 h6 h7 =>
    refine ⟨d, rfl, h4.imp fun h => ltH_ne h, fun x => ?_⟩
    rcases way_mem cs o x with e | ⟨c, hc, e⟩
    · rw [e]; exact h7
    · rw [e]; exact h6 c hc
theorem lw_rest {sectors : Nat} {t : Tree} (w : EndOk sectors t) (all0 : List D) (r k1 k4 k5 k6 : Option D) (h : AH) : ∀ (rs : List D) (k3 : Option D), ∃ a3, forGo (.nm 3) lwB none all0 rs [r, k1, some (tD t), k3, k4, k5, k6] h = .next [r, k1, some (tD t), a3, k4, k5, k6] h
  | [], k3 => ⟨k3, by simp [forGo, Still]⟩
  | x :: rs, k3 => by
    obtain ⟨a3, e⟩ := lw_rest w all0 r k1 k4 k5 k6 h rs (some x)
    refine ⟨a3, ?_⟩
    unfold forGo
    rw [if_pos (by trivial)]
    have ea : asg (.nm 3) x [r, k1, some (tD t), k3, k4, k5, k6] = some [r, k1, some (tD t), some x, k4, k5, k6] := rfl
    rw [ea]
    simp only [lw_end w, e]
theorem led_end {sectors d : Nat} {st : List (Option Val)} {t e : Tree} {as : List Nat} (l : Led st t as e) (w : TreeOk sectors d t) : EndOk sectors e := by
  induction l generalizing d with
  | say n => cases w with | fin h => exact h
  | mend n ss => cases w with | fin h => exact h
  | ask hx l ih =>
    obtain ⟨d2, rfl, hn, hw⟩ := ask_parts w
    exact ih (hw _)
theorem lw_go {sectors : Nat} {st : List (Option Val)} {t e : Tree} {as : List Nat} (l : Led st t as e) (all0 : List D) (r : Option D) (h : AH) : ∀ {d : Nat}, TreeOk sectors d t → ∀ (rs : List D), as.length ≤ rs.length → ∀ (k3 k4 k5 k6 : Option D),
    ∃ a3 a4 a5 a6, forGo (.nm 3) lwB none all0 rs [r, some (.tup (st.map hvD)), some (tD t), k3, k4, k5, k6] h = .next [r, some (.tup (st.map hvD)), some (tD e), a3, a4, a5, a6] h := by
  induction l with
  | say n =>
    intro d w rs hr k3 k4 k5 k6
    obtain ⟨a3, e⟩ := lw_rest (led_end (st := st) (.say n) w) all0 r (some (.tup (st.map hvD))) k4 k5 k6 h rs k3
    exact ⟨a3, k4, k5, k6, e⟩
  | mend n ss =>
    intro d w rs hr k3 k4 k5 k6
    obtain ⟨a3, e⟩ := lw_rest (led_end (st := st) (.mend n ss) w) all0 r (some (.tup (st.map hvD))) k4 k5 k6 h rs k3
    exact ⟨a3, k4, k5, k6, e⟩
  | @ask s cs o x as e hx l ih =>
    intro d w rs hr k3 k4 k5 k6
    cases rs with
    | nil => simp at hr
    | cons y rs =>
      obtain ⟨d2, rfl, hn, hw⟩ := ask_parts w
      obtain ⟨b4, b5, b6, eb⟩ := lw_ask (o := o) hx hn r (some y) k4 k5 k6 h
      obtain ⟨a3, a4, a5, a6, e2⟩ := ih (hw x) rs (by simp at hr; omega) (some y) b4 b5 b6
      refine ⟨a3, a4, a5, a6, ?_⟩
      conv => lhs; unfold forGo
      rw [if_pos (by trivial)]
      have ea : asg (.nm 3) y [r, some (.tup (st.map hvD)), some (tD (.ask s cs o)), k3, k4, k5, k6] = some [r, some (.tup (st.map hvD)), some (tD (.ask s cs o)), some y, k4, k5, k6] := rfl
      rw [ea]
      simp only [eb, e2]
theorem law_led_ok {sectors d : Nat} {st : List (Option Val)} {t e : Tree} {as : List Nat} (l : Led st t as e) (w : TreeOk sectors d t) (hl : as.length ≤ 40) (h : AH) : m__law_led [tD t, .tup (st.map hvD)] h = .ok (tD e) h := by
  obtain ⟨a3, a4, a5, a6, e1⟩ := lw_go l (rangeD 0 40) (some (tD t)) h w (rangeD 0 40) (by rw [rangeD_eq]; simpa using hl) none none none none
  have c1 : okR (40 : Int) := ⟨by decide, by decide⟩
  have eb : b__law_led = (sSeq (sSet 2 (mV 0)) (sSeq (sFor (.nm 3) (iRange1 (aCons (mC (.int 40)) aNil)) lwB) (sSeq (sRet (mV 2)) sNil))) := rfl
  simp only [m__law_led, mDef, eb]
  simp [c1, e1, -v_sFor, -v_sIf, sFor]
end My
/-! rules of simp for objects and dicts -/
namespace AB
open PySem PySem.Spec PyProof.Rows L2
section
variable {G : Env} {h : AH} {m a b c : Me} {as : MeL} {n : Nat} {x y : D} {f C : Str} {cs : List Str} {tb : List (Str × Fn)}
@[simp] theorem v_mFld : mFld cs f m G h = (m G h).bind fun d h1 => match d with
  | .loc n => match h1[n]? with
    | some (.ins C fs) => if C ∈ cs then match fs.lookup f with
      | some x => .ok x h1
      | none => .stuck
      else .stuck
    | _ => .stuck
  | _ => .stuck := id rfl
@[simp] theorem v_sFld : sFldM cs f a b G h = (b G h).toS G fun x h1 => (a G h1).toS G fun d h2 => match d with
  | .loc n => match h2[n]? with
    | some (.ins C fs) => if C ∈ cs ∧ fs.length < 1000 then .next G (h2.set n (.ins C (putD f x fs))) else .stuck
    | _ => .stuck
  | _ => .stuck := id rfl
@[simp] theorem v_mMeth : mMeth tb f m as G h = (m G h).bind fun d h1 => match d with
  | .loc n => match h1[n]? with
    | some (.ins C fs) => match tb.lookup C with
      | some fn => match fs.lookup f with
        | none => (as G h1).bind fun xs h2 => fn (.loc n :: xs) h2
        | some _ => .stuck
      | none => .stuck
    | _ => .stuck
  | _ => .stuck := rfl
@[simp] theorem v_mMake {fn : Fn} : mMake C fn as G h = (as G h).bind fun xs h1 => (fn (.loc h1.length :: xs) (h1 ++ [.ins C []])).bind fun v h2 => match v with
  | .non => .ok (.loc h1.length) h2
  | _ => .stuck := rfl
@[simp] theorem v_mDNew : mDNew G h = .ok (.loc h.length) (h ++ [.dct []]) := rfl
@[simp] theorem v_mDSetd : mDSetd a b c G h = (a G h).bind fun d h1 => match d with
  | .loc n => match dctAt h1 n with
    | some _ => (b G h1).bind fun j h2 => (c G h2).bind fun z h3 => match h3[n]?, toKey j with
      | some (.dct kvs), some q => if kvs.length < big then (match valD kvs q with
        | some y => .ok y h3
        | none => .ok z (h3.set n (.dct (putKD kvs q z)))) else .stuck
      | _, _ => .stuck
    | none => .stuck
  | _ => .stuck := id rfl
@[simp] theorem v_keyI (i : Int) : toKey (.int i) = some (.inl i) := rfl
end
/-- a loop over a dict that knows what is behind it -/
theorem forD_pre {α : Type} {p : Pat} {body : Ms} {pick : L2.Key × D → D} {n : Nat} {kvs : KD} (I : List α → Env → AH → Prop) (hs : ∀ done G h, I done G h → h[n]? = some (.lck kvs)) (enc : α → L2.Key × D) (xs : List α) : ∀ (todo done : List α), done ++ todo = xs →
    (∀ done x rest, done ++ x :: rest = xs → ∀ G h, I done G h → ∃ G1 G2 h2, asg p (pick (enc x)) G = some G1 ∧ body G1 h = .next G2 h2 ∧ I (done ++ [x]) G2 h2) →
    ∀ G h, I done G h → ∃ G' h', forGoD p body pick n kvs (todo.map enc) G h = .next G' (h'.set n (.dct kvs)) ∧ I xs G' h'
  | [], done, e, _, G, h, hI => by
    rw [List.append_nil] at e
    subst e
    refine ⟨G, h, ?_, hI⟩
    rw [List.map_nil]
    unfold forGoD
    rw [if_pos (hs _ G h hI)]
  | x :: r, done, e, hx, G, h, hI => by
    obtain ⟨G1, G2, h2, e1, e2, hI2⟩ := hx done x r e G h hI
    obtain ⟨G', h', e3, hI'⟩ := forD_pre I hs enc xs r (done ++ [x]) (by rw [List.append_assoc]; exact e) hx G2 h2 hI2
    refine ⟨G', h', ?_, hI'⟩
    rw [List.map_cons]
    unfold forGoD
    rw [if_pos (hs _ G h hI), e1]
    simp only [e2, e3]
theorem sForD_ok {p : Pat} {o : Me} {body : Ms} {pick : L2.Key × D → D} {G : Env} {h : AH} {n : Nat} {kvs : KD} (e : o G h = .ok (.loc n) h) (ec : h[n]? = some (.dct kvs)) (e2 : o G (h.set n (.lck kvs)) = .ok (.loc n) (h.set n (.lck kvs))) :
    sForD pick p o body G h = forGoD p body pick n kvs kvs G (h.set n (.lck kvs)) := by
  unfold sForD
  rw [e]
  simp only [if_true]
  rw [ec]
  simp only
  rw [if_pos e2]
end AB
namespace My
open PySem AB L2
theorem st_wk : ¬ (("writes" : Str) = "kept") := by decide +kernel
theorem st_kw : ¬ (("kept" : Str) = "writes") := by decide +kernel
theorem st_ak : ¬ (("watcher" : Str) = "kept") := by decide +kernel
theorem st_ka : ¬ (("kept" : Str) = "watcher") := by decide +kernel
theorem st_aw : ¬ (("watcher" : Str) = "writes") := by decide +kernel
theorem st_wa : ¬ (("writes" : Str) = "watcher") := by decide +kernel
/-- a disk's attributes -/
def diskF (k w : Nat) : List (Str × D) := [("kept", .loc k), ("writes", .loc w), ("watcher", .non)]
theorem lookup_ne {f g : Str} {d : D} {r : List (Str × D)} (h : ¬ f = g) : ((g, d) :: r).lookup f = r.lookup f := by
  rw [List.lookup_cons]
  have : (f == g) = false := by simpa using h
  rw [this]
theorem lookup_eq {f : Str} {d : D} {r : List (Str × D)} : ((f, d) :: r).lookup f = some d := by
  rw [List.lookup_cons]
  have : (f == f) = true := by simp
  rw [this]
@[simp] theorem df_kept {k w : Nat} : (diskF k w).lookup ("kept" : Str) = some (.loc k) := lookup_eq
@[simp] theorem df_writes {k w : Nat} : (diskF k w).lookup ("writes" : Str) = some (.loc w) := by
  unfold diskF
  rw [lookup_ne st_wk, lookup_eq]
@[simp] theorem df_watcher {k w : Nat} : (diskF k w).lookup ("watcher" : Str) = some .non := by
  unfold diskF
  rw [lookup_ne st_ak, lookup_ne st_aw, lookup_eq]
theorem df_none {k w : Nat} {m : Str} (h1 : ¬ m = "kept") (h2 : ¬ m = "writes") (h3 : ¬ m = "watcher") : (diskF k w).lookup m = none := by
  unfold diskF
  rw [lookup_ne h1, lookup_ne h2, lookup_ne h3]
  rfl
@[simp] theorem df_tell {k w : Nat} : (diskF k w).lookup ("tell" : Str) = none := df_none (by decide +kernel) (by decide +kernel) (by decide +kernel)
@[simp] theorem df_write {k w : Nat} : (diskF k w).lookup ("write" : Str) = none := df_none (by decide +kernel) (by decide +kernel) (by decide +kernel)
@[simp] theorem df_barrier {k w : Nat} : (diskF k w).lookup ("barrier" : Str) = none := df_none (by decide +kernel) (by decide +kernel) (by decide +kernel)
@[simp] theorem df_now {k w : Nat} : (diskF k w).lookup ("now" : Str) = none := df_none (by decide +kernel) (by decide +kernel) (by decide +kernel)
@[simp] theorem df_len {k w : Nat} : (diskF k w).length = 3 := rfl
@[simp] theorem df_putW {k w x : Nat} : putD "writes" (.loc x) (diskF k w) = diskF k x := by
  unfold diskF
  show (if ("kept" : Str) = "writes" then _ else (("kept" : Str), D.loc k) :: (if ("writes" : Str) = "writes" then (("writes" : Str), D.loc x) :: [(("watcher" : Str), D.non)] else _)) = _
  rw [if_neg st_kw, if_pos rfl]
theorem df_new (k w : Nat) : putD "watcher" .non (putD "writes" (.loc w) (putD "kept" (.loc k) [])) = diskF k w := by
  have e1 : putD "kept" (.loc k) [] = [(("kept" : Str), D.loc k)] := rfl
  have e2 : putD "writes" (.loc w) [(("kept" : Str), D.loc k)] = [(("kept" : Str), D.loc k), ("writes", .loc w)] := by
    show (if ("kept" : Str) = "writes" then _ else (("kept" : Str), D.loc k) :: [(("writes" : Str), D.loc w)]) = _
    rw [if_neg st_kw]
  rw [e1, e2]
  show (if ("kept" : Str) = "watcher" then _ else (("kept" : Str), D.loc k) :: (if ("writes" : Str) = "watcher" then _ else (("writes" : Str), D.loc w) :: [(("watcher" : Str), D.non)])) = _
  rw [if_neg st_ka, if_neg st_wa]
  rfl
/-- what waits for a sector: the sector, the list's place, the values -/
structure WEnt where
  s : Nat
  l : Nat
  vs : List Val
def wKD (e : WEnt) : L2.Key × D := (.inl (e.s : Int), .loc e.l)
structure DskAt (h : AH) (b nD nK nW : Nat) (K : List (Option Val)) (ws : List WEnt) : Prop where
  ins : h[nD]? = some (.ins "Disk" (diskF nK nW))
  kept : h[nK]? = some (.lst (K.map hvD))
  wr : h[nW]? = some (.dct (ws.map wKD))
  cells : ∀ e ∈ ws, h[e.l]? = some (.lst (e.vs.map vD))
  keys : (ws.map (·.s)).Nodup
  locs : (ws.map (·.l)).Nodup
  nk : ∀ e ∈ ws, e.l ≠ nK
  ne : ∀ e ∈ ws, e.vs ≠ []
  lt : ∀ e ∈ ws, e.s < K.length
  lo : b ≤ nD ∧ b ≤ nK ∧ b ≤ nW ∧ ∀ e ∈ ws, b ≤ e.l
/-- the state as if all was written -/
def cur (K : List (Option Val)) (ws : List WEnt) : List (Option Val) := (List.range K.length).map fun i => match ws.find? fun e => decide (e.s = i) with
  | some e => e.vs.getLast?
  | none => K.getD i none
theorem cur_len (K : List (Option Val)) (ws : List WEnt) : (cur K ws).length = K.length := by simp [cur]
theorem cur_nil (K : List (Option Val)) : cur K [] = K := by
  unfold cur
  apply List.ext_getElem?
  intro i
  by_cases hi : i < K.length
  · simp [hi, List.getD_eq_getElem?_getD]
  · simp [hi]
theorem cur_get {K : List (Option Val)} {ws : List WEnt} {i : Nat} (hi : i < K.length) : (cur K ws)[i]? = some (match ws.find? fun e => decide (e.s = i) with
  | some e => e.vs.getLast?
  | none => K.getD i none) := by
  unfold cur
  rw [List.getElem?_map, List.getElem?_range hi]
  rfl
theorem find_snoc {ws : List WEnt} {e : WEnt} {i : Nat} : (ws ++ [e]).find? (fun e => decide (e.s = i)) = (match ws.find? fun e => decide (e.s = i) with | some x => some x | none => if e.s = i then some e else none) := by
  rw [List.find?_append]
  cases ws.find? fun e => decide (e.s = i) with
  | some x => rfl
  | none => by_cases q : e.s = i <;> simp [q]
theorem find_none {ws : List WEnt} {i : Nat} (h : i ∉ ws.map (·.s)) : ws.find? (fun e => decide (e.s = i)) = none := by
  rw [List.find?_eq_none]
  intro e he q
  exact h (List.mem_map.mpr ⟨e, he, of_decide_eq_true q⟩)
theorem cur_snoc {K : List (Option Val)} {ws : List WEnt} {e : WEnt} (hn : e.s ∉ ws.map (·.s)) (hl : e.s < K.length) : cur K (ws ++ [e]) = (cur K ws).set e.s e.vs.getLast? := by
  apply List.ext_getElem?
  intro i
  by_cases hi : i < K.length
  · rw [cur_get hi, find_snoc]
    by_cases q : e.s = i
    · subst q
      rw [List.getElem?_set_self (by rw [cur_len]; exact hl), find_none hn]
      simp
    · rw [List.getElem?_set_ne q, cur_get hi]
      cases ws.find? fun e => decide (e.s = i) with
      | some x => rfl
      | none => simp [q]
  · rw [List.getElem?_eq_none (by rw [cur_len]; omega), List.getElem?_eq_none (by rw [List.length_set, cur_len]; omega)]
end My
namespace My
open PySem AB L2
theorem set_same {α : Type} : ∀ {l : List α} {n : Nat} {a : α}, l[n]? = some a → l.set n a = l
  | [], n, a, e => by simp at e
  | x :: l, 0, a, e => by
    simp at e
    subst e
    rfl
  | x :: l, n + 1, a, e => by
    rw [List.getElem?_cons_succ] at e
    rw [List.set_cons_succ, set_same e]
theorem ixN_nat {n s : Nat} (h : s < n) : ixN n (s : Int) = some s := by
  unfold ixN
  rw [if_pos (by omega), if_pos (by omega)]
  simp
theorem lt_of_get {α : Type} {l : List α} {n : Nat} {a : α} (e : l[n]? = some a) : n < l.length := (List.getElem?_eq_some_iff.mp e).1
section
variable {h : AH} {b nD nK nW : Nat} {K : List (Option Val)} {ws : List WEnt}
theorem DskAt.dw (d : DskAt h b nD nK nW K ws) : nD ≠ nW := by
  rintro rfl
  have := d.ins
  rw [d.wr] at this
  cases this
theorem DskAt.dk (d : DskAt h b nD nK nW K ws) : nD ≠ nK := by
  rintro rfl
  have := d.ins
  rw [d.kept] at this
  cases this
theorem DskAt.kw (d : DskAt h b nD nK nW K ws) : nK ≠ nW := by
  rintro rfl
  have := d.kept
  rw [d.wr] at this
  cases this
theorem DskAt.ld (d : DskAt h b nD nK nW K ws) {e : WEnt} (he : e ∈ ws) : e.l ≠ nD := by
  intro z
  have := d.cells e he
  rw [z, d.ins] at this
  cases this
theorem DskAt.lw (d : DskAt h b nD nK nW K ws) {e : WEnt} (he : e ∈ ws) : e.l ≠ nW := by
  intro z
  have := d.cells e he
  rw [z, d.wr] at this
  cases this
theorem lookup_eq' {β : Type} {f : Str} {d : β} {r : List (Str × β)} : List.lookup f ((f, d) :: r) = some d := by
  rw [List.lookup_cons]
  have : (f == f) = true := by simp
  rw [this]
theorem tell_ok (e : h[nD]? = some (.ins "Disk" (diskF nK nW))) : m_Disk_tell [.loc nD] h = .ok .non h := by
  simp [m_Disk_tell, mDefK, b_Disk_tell, e, fNotN]
theorem last_hv {vs : List Val} (hv : vs ≠ []) : atI (vs.map vD) (-1) = some (hvD vs.getLast?) := by
  rw [AB.atI_last, List.getLast?_map]
  cases q : vs.getLast? with
  | none =>
    rw [List.getLast?_eq_none_iff] at q
    exact absurd q hv
  | some v => rfl
theorem now_ok (d : DskAt h b nD nK nW K ws) (hw : ws.length ≤ 1000) (hK : K.length ≤ 1000) : m_Disk_now [.loc nD] h = .ok (.tup ((cur K ws).map hvD)) h := by
  have lD := lt_of_get d.ins
  have lW := lt_of_get d.wr
  have lK := lt_of_get d.kept
  have g1 : ∀ (x : AO) (m : Nat), m < h.length → (h ++ [x])[m]? = h[m]? := fun x m hm => List.getElem?_append_left hm
  have g2 : ∀ (x y : AO) (m : Nat), m < h.length → m ≠ nW → ((h ++ [x]).set nW y)[m]? = h[m]? := fun x y m hm hn => by
    rw [List.getElem?_set_ne (Ne.symm hn), g1 x m hm]
  have g3 : ∀ (x y : AO), ((h ++ [x]).set nW y)[h.length]? = some x := fun x y => by
    rw [List.getElem?_set_ne (by omega)]
    simp
  have g4 : ∀ (x y : AO), ((h ++ [x]).set nW y)[nW]? = some y := fun x y => by
    rw [List.getElem?_set_self (by simp; omega)]
  have s1 : ∀ (x y z : AO), ((h ++ [x]).set nW y).set h.length z = (h ++ [z]).set nW y := fun x y z => by
    rw [List.set_comm _ _ (by omega)]
    simp
  have eo : ∀ G (x : AO), (mFld ["Disk"] "writes" (mV 0)) (some (.loc nD) :: G) (h ++ [x]) = .ok (.loc nW) (h ++ [x]) := fun G x => by
    simp [g1 x nD lD, d.ins]
  have eo2 : ∀ G (x y : AO), (mFld ["Disk"] "writes" (mV 0)) (some (.loc nD) :: G) ((h ++ [x]).set nW y) = .ok (.loc nW) ((h ++ [x]).set nW y) := fun G x y => by
    simp [g2 x y nD lD d.dw, d.ins]
  obtain ⟨G', h', e1, a2, a3, rfl, rfl⟩ := forD_pre (p := .tp [(.nm 2), (.nm 3)]) (body := sSeq (sSub (mV 1) (mV 2) (mOp2 fIx (mV 3) (mOp1 fNeg (mC (.int 1))))) sNil) (pick := pickI) (n := nW) (kvs := ws.map wKD)
    (fun done G hh => ∃ a2 a3, G = [some (.loc nD), some (.loc h.length), a2, a3] ∧ hh = (h ++ [AO.lst ((cur K done).map hvD)]).set nW (.lck (ws.map wKD)))
    (by rintro done G hh ⟨a2, a3, rfl, rfl⟩; exact g4 _ _) wKD ws ws [] rfl
    (by
      rintro done e rest ed G hh ⟨a2, a3, rfl, rfl⟩
      have he : e ∈ ws := by rw [← ed]; simp
      have hn : e.s ∉ done.map (·.s) := by
        have := d.keys
        rw [← ed, List.map_append, List.nodup_append] at this
        intro z
        exact this.2.2 _ z e.s (by simp) rfl
      have hlt := d.lt e he
      have hc : e.s < (cur K done).length := by rw [cur_len]; exact hlt
      have ec := d.cells e he
      have lE := lt_of_get ec
      refine ⟨[some (.loc nD), some (.loc h.length), some (.int e.s), some (.loc e.l)], [some (.loc nD), some (.loc h.length), some (.int e.s), some (.loc e.l)], (h ++ [AO.lst ((cur K (done ++ [e])).map hvD)]).set nW (.lck (ws.map wKD)), rfl, ?_, _, _, rfl, rfl⟩
      have x1 := last_hv (d.ne e he)
      have x2 : ixN ((cur K done).map hvD).length (e.s : Int) = some e.s := ixN_nat (by rw [List.length_map]; exact hc)
      rw [cur_snoc hn hlt, List.map_set]
      rw [List.length_map] at x2
      simp only [v_sSeq, v_sSub, v_mOp2, v_mV, v_mOp1, v_mC, v_neg, v_ix, Res.bind_ok, Res.toS_ok, List.getElem?_cons_succ, List.getElem?_cons_zero, v_vSo, SR.andThen_next, v_sNil, g2 _ _ e.l lE (d.lw he), ec, x1, g3, s1, x2, List.length_map])
    [some (.loc nD), some (.loc h.length), none, none] ((h ++ [AO.lst (K.map hvD)]).set nW (.lck (ws.map wKD))) ⟨none, none, rfl, by rw [cur_nil]⟩
  have e2 : ((h ++ [AO.lst ((cur K ws).map hvD)]).set nW (.lck (ws.map wKD))).set nW (.dct (ws.map wKD)) = h ++ [.lst ((cur K ws).map hvD)] := by
    rw [List.set_set]
    exact set_same (by rw [g1 _ nW lW]; exact d.wr)
  rw [e2] at e1
  have e3 : sForD pickI (.tp [(.nm 2), (.nm 3)]) (mFld ["Disk"] "writes" (mV 0)) (sSeq (sSub (mV 1) (mV 2) (mOp2 fIx (mV 3) (mOp1 fNeg (mC (.int 1))))) sNil) [some (.loc nD), some (.loc h.length), none, none] (h ++ [AO.lst (K.map hvD)]) = .next [some (.loc nD), some (.loc h.length), a2, a3] (h ++ [AO.lst ((cur K ws).map hvD)]) := by
    rw [sForD_ok (eo _ _) (by rw [g1 _ nW lW]; exact d.wr) (eo2 _ _ _)]
    exact e1
  have e4 : (mNew (lN lList (aCons (mFld ["Disk"] "kept" (mV 0)) aNil))) [some (.loc nD), none, none, none] h = .ok (.loc h.length) (h ++ [AO.lst (K.map hvD)]) := by
    simp [d.ins, d.kept]
  have g5 : ∀ x : AO, (h ++ [x])[h.length]? = some x := fun x => by simp
  have un : (D.tup ((cur K ws).map hvD)).under h.length = true := by
    simp only [D.under]
    have : ∀ os : List (Option Val), underL h.length (os.map hvD) = true := fun os => by
      induction os with
      | nil => simp [underL]
      | cons o os ih => simp [underL, ih, under_hv]
    exact this _
  have fin := finD_app h [.lst ((cur K ws).map hvD)] (.tup ((cur K ws).map hvD)) un
  have eb : b_Disk_now [some (.loc nD), none, none, none] h = .ret (.tup ((cur K ws).map hvD)) (h ++ [AO.lst ((cur K ws).map hvD)]) := by
    have eq : b_Disk_now = (sSeq (sSet 1 (mNew (lN lList (aCons (mFld ["Disk"] "kept" (mV 0)) aNil)))) (sSeq (sForD pickI (.tp [(.nm 2), (.nm 3)]) (mFld ["Disk"] "writes" (mV 0)) (sSeq (sSub (mV 1) (mV 2) (mOp2 fIx (mV 3) (mOp1 fNeg (mC (.int 1))))) sNil)) (sSeq (sRet (mN fTuple (aCons (mV 1) aNil))) sNil))) := rfl
    rw [eq]
    simp only [v_sSeq, v_sSet, e4, Res.toS_ok, List.set_cons_succ, List.set_cons_zero, SR.andThen_next, e3, v_sRet, v_mN, v_aCons, v_aNil, v_mV, List.getElem?_cons_succ, List.getElem?_cons_zero, Res.bind_ok, v_tuple, v_vSo, g5, SR.andThen_ret]
  simp [m_Disk_now, mDef, eb, fin]
end
end My
namespace My
open PySem AB L2
theorem inj_nodup {α β : Type} {f : α → β} : ∀ {l : List α}, (l.map f).Nodup → ∀ {x y : α}, x ∈ l → y ∈ l → f x = f y → x = y
  | [], _, x, y, hx, _, _ => by cases hx
  | a :: l, h, x, y, hx, hy, e => by
    rw [List.map_cons, List.nodup_cons] at h
    rcases List.mem_cons.mp hx with rfl | hx
    · rcases List.mem_cons.mp hy with rfl | hy
      · rfl
      · exact absurd (List.mem_map.mpr ⟨y, hy, e.symm⟩) h.1
    · rcases List.mem_cons.mp hy with hy | hy
      · rw [hy] at e
        exact absurd (List.mem_map.mpr ⟨x, hx, e⟩) h.1
      · exact inj_nodup h.2 hx hy e
section
variable {h : AH} {b nD nK nW : Nat} {K : List (Option Val)} {ws : List WEnt}
theorem g_app (h l : AH) (i : Nat) : (h ++ l)[h.length + i]? = l[i]? := by
  rw [List.getElem?_append_right (by omega)]
  congr 1
  omega
theorem g_app0 (h l : AH) : (h ++ l)[h.length]? = l[0]? := g_app h l 0
theorem s_app (h l : AH) (i : Nat) (x : AO) : (h ++ l).set (h.length + i) x = h ++ l.set i x := by
  rw [List.set_append_right _ _ (by omega)]
  congr 2
  omega
theorem s_app0 (h l : AH) (x : AO) : (h ++ l).set h.length x = h ++ l.set 0 x := s_app h l 0 x
theorem init_ok (h1 : 1 ≤ K.length) (h2 : K.length ≤ 64) (hK : ∀ o ∈ K, HOkV o) (h : AH) :
    m_Disk___init__ [.loc h.length, .tup (K.map hvD)] (h ++ [.ins "Disk" []]) = .ok .non (h ++ [.ins "Disk" (diskF (h.length + 1) (h.length + 2)), .lst (K.map hvD), .dct []]) := by
  have hc := check_state_ok (h := h ++ [.ins "Disk" []]) h1 h2 hK
  have e1 : ((h ++ [AO.ins "Disk" []]) ++ [AO.lst (K.map hvD)]) = h ++ [AO.ins "Disk" [], .lst (K.map hvD)] := by simp
  have e2 : ∀ x y : AO, ((h ++ [x, y]) ++ [AO.dct []]) = h ++ [x, y, .dct []] := fun x y => by simp
  have l1 : List.length (h ++ [AO.ins "Disk" []]) = h.length + 1 := by simp
  have l2 : ∀ x y : AO, List.length (h ++ [x, y]) = h.length + 2 := fun x y => by simp
  have p1 : putD "kept" (.loc (h.length + 1)) [] = [(("kept" : Str), D.loc (h.length + 1))] := rfl
  have p2 : (putD "kept" (.loc (h.length + 1)) []).length = 1 := rfl
  have p3 : (putD "writes" (.loc (h.length + 2)) (putD "kept" (.loc (h.length + 1)) [])).length = 2 := by
    have : putD "writes" (.loc (h.length + 2)) [(("kept" : Str), D.loc (h.length + 1))] = [(("kept" : Str), D.loc (h.length + 1)), ("writes", .loc (h.length + 2))] := by
      show (if ("kept" : Str) = "writes" then _ else (("kept" : Str), D.loc (h.length + 1)) :: [(("writes" : Str), D.loc (h.length + 2))]) = _
      rw [if_neg st_kw]
    rw [p1, this]
    rfl
  have n0 : ("Disk" : Str) ∈ [("Disk" : Str)] := List.mem_singleton.mpr rfl
  have z1 : (0 : Nat) < 1000 := by decide
  have z2 : (1 : Nat) < 1000 := by decide
  have z3 : (2 : Nat) < 1000 := by decide
  have dn := df_new (h.length + 1) (h.length + 2)
  simp only [m_Disk___init__, mDefK, b_Disk___init__, List.length_cons, List.length_nil, Nat.zero_add, Nat.reduceAdd, if_true, List.map_cons, List.map_nil, Nat.sub_self, List.replicate_zero, List.append_nil, v_sSeq, v_sExpr, v_mN, v_aCons, v_aNil, v_mV, List.getElem?_cons_succ, List.getElem?_cons_zero, Res.bind_ok, hc, Res.toS_ok, SR.andThen_next,
    v_sFld, v_mNew, v_lN, v_list, v_vSt, e1, l1, g_app0, n0, true_and, z1, z2, z3, s_app0, List.set_cons_zero, v_mDNew, e2, l2, p2, p3, v_mC, dn, v_sNil]
theorem make_ok (h1 : 1 ≤ K.length) (h2 : K.length ≤ 64) (h : AH) : DskAt (h ++ [.ins "Disk" (diskF (h.length + 1) (h.length + 2)), .lst (K.map hvD), .dct []]) h.length h.length (h.length + 1) (h.length + 2) K [] := by
  refine ⟨by rw [g_app0]; rfl, by rw [g_app]; rfl, by rw [g_app]; rfl, by simp, by simp, by simp, by simp, by simp, by simp, Nat.le_refl _, by omega, by omega, by simp⟩
/-- few things wait -/
def Bd (ws : List WEnt) (m : Nat) : Prop := ws.length ≤ m ∧ ∀ e ∈ ws, e.vs.length ≤ m
theorem valD_w (ws : List WEnt) (s : Nat) : valD (ws.map wKD) (.inl (s : Int)) = (ws.find? fun e => decide (e.s = s)).map fun e => D.loc e.l := by
  induction ws with
  | nil => rfl
  | cons e ws ih =>
    unfold valD at ih ⊢
    rw [List.map_cons, List.find?_cons, List.find?_cons]
    by_cases q : e.s = s
    · have : decide ((wKD e).1 = Sum.inl (s : Int)) = true := by simp [wKD, q]
      rw [this]
      simp [q, wKD]
    · have : decide ((wKD e).1 = Sum.inl (s : Int)) = false := by
        have q2 : ¬ (e.s : Int) = (s : Int) := by omega
        simp [wKD, q2]
      rw [this]
      simp only [q, decide_false]
      exact ih
theorem putKD_w (ws : List WEnt) (s l : Nat) (hn : ws.find? (fun e => decide (e.s = s)) = none) : putKD (ws.map wKD) (.inl (s : Int)) (.loc l) = ws.map wKD ++ [(.inl (s : Int), .loc l)] := by
  unfold putKD
  have : ((ws.map wKD).any fun kv => decide (kv.1 = Sum.inl (s : Int))) = false := by
    rw [List.any_eq_false]
    intro kv hk
    obtain ⟨e, he, rfl⟩ := List.mem_map.mp hk
    have := List.find?_eq_none.mp hn e he
    have q : ¬ e.s = s := by simpa using this
    have q2 : ¬ (e.s : Int) = (s : Int) := by omega
    simp [wKD, q2]
  rw [this]
  simp
theorem tellM_ok {G : AB.Env} {hh : AH} (e : hh[nD]? = some (.ins "Disk" (diskF nK nW))) : (mMeth [("Disk", m_Disk_tell)] "tell" (mV 0) aNil) (some (.loc nD) :: G) hh = .ok .non hh := by
  have ht := tell_ok e
  have e0 : List.lookup ("Disk" : Str) [(("Disk" : Str), m_Disk_tell)] = some m_Disk_tell := lookup_eq'
  simp only [v_mMeth, v_mV, List.getElem?_cons_zero, Res.bind_ok, e, e0, df_tell, v_aNil, ht]
theorem keptM_ok {G : AB.Env} {hh : AH} (e : hh[nD]? = some (.ins "Disk" (diskF nK nW))) : (mFld ["Disk"] "kept" (mV 0)) (some (.loc nD) :: G) hh = .ok (.loc nK) hh := by
  have n0 : ("Disk" : Str) ∈ [("Disk" : Str)] := List.mem_singleton.mpr rfl
  simp only [v_mFld, v_mV, List.getElem?_cons_zero, Res.bind_ok, e, n0, if_true, df_kept]
theorem writesM_ok {G : AB.Env} {hh : AH} (e : hh[nD]? = some (.ins "Disk" (diskF nK nW))) : (mFld ["Disk"] "writes" (mV 0)) (some (.loc nD) :: G) hh = .ok (.loc nW) hh := by
  have n0 : ("Disk" : Str) ∈ [("Disk" : Str)] := List.mem_singleton.mpr rfl
  simp only [v_mFld, v_mV, List.getElem?_cons_zero, Res.bind_ok, e, n0, if_true, df_writes]
theorem write_of {s : Nat} {v : Val} {h' : AH} (d : DskAt h b nD nK nW K ws) (hs : s < K.length) (hv : VOk v) (c3 : (mBM fApp (mDSetd (mFld ["Disk"] "writes" (mV 0)) (mV 1) (mNew (lLst aNil))) (aCons (mV 2) aNil)) [some (.loc nD), some (.int s), some (vD v)] h = .ok .non h') (gI : h'[nD]? = some (.ins "Disk" (diskF nK nW))) :
    m_Disk_write [.loc nD, .int s, vD v] h = .ok .non h' := by
  have c1 : (tNotM (tOf (mN m_is_index (aCons (mV 1) (aCons (mN fLen (aCons (mFld ["Disk"] "kept" (mV 0)) aNil)) aNil))))) [some (.loc nD), some (.int s), some (vD v)] h = .ok false h := by
    have : (decide ((0 : Int) ≤ (s : Int)) && decide ((s : Int) ≤ (K.length : Int) - 1)) = true := by simp; omega
    simp only [v_tNot, v_tOf, v_mN, v_aCons, v_aNil, v_mV, List.getElem?_cons_succ, List.getElem?_cons_zero, Res.bind_ok, keptM_ok d.ins]
    have hl : fLen [D.loc nK] h = .ok (.int K.length) h := by simp [d.kept]
    simp only [hl, Res.bind_ok, is_index_ok, this, v_truB, Bool.not_true]
  have c2 : (tNotM (tOf (mN m_is_value (aCons (mV 2) aNil)))) [some (.loc nD), some (.int s), some (vD v)] h = .ok false h := by
    simp only [v_tNot, v_tOf, v_mN, v_aCons, v_aNil, v_mV, List.getElem?_cons_succ, List.getElem?_cons_zero, Res.bind_ok, is_value_ok hv, v_truB, Bool.not_true]
  have c4 := tellM_ok (G := [some (.int s), some (vD v)]) gI
  have eb : b_Disk_write [some (.loc nD), some (.int s), some (vD v)] h = .next [some (.loc nD), some (.int s), some (vD v)] h' := by
    have eq : b_Disk_write = (sSeq (sIf (tNotM (tOf (mN m_is_index (aCons (mV 1) (aCons (mN fLen (aCons (mFld ["Disk"] "kept" (mV 0)) aNil)) aNil))))) (sSeq sNever sNil) sNil) (sSeq (sIf (tNotM (tOf (mN m_is_value (aCons (mV 2) aNil)))) (sSeq sNever sNil) sNil) (sSeq (sExpr (mBM fApp (mDSetd (mFld ["Disk"] "writes" (mV 0)) (mV 1) (mNew (lLst aNil))) (aCons (mV 2) aNil))) (sSeq (sExpr (mMeth [("Disk", m_Disk_tell)] "tell" (mV 0) aNil)) sNil)))) := rfl
    rw [eq]
    simp only [v_sSeq, v_sIf, c1, c2, Res.toS_ok, Bool.false_eq_true, if_false, v_sNil, SR.andThen_next, v_sExpr, c3, c4]
  simp [m_Disk_write, mDefK, eb]
theorem write_ok (d : DskAt h b nD nK nW K ws) {m : Nat} (hb : Bd ws m) (hm : m ≤ 10000) {s : Nat} (hs : s < K.length) {v : Val} (hv : VOk v) :
    ∃ h' ws', m_Disk_write [.loc nD, .int s, vD v] h = .ok .non h' ∧ DskAt h' b nD nK nW K ws' ∧ cur K ws' = (cur K ws).set s (some v) ∧ h'.take b = h.take b ∧ Bd ws' (m + 1) := by
  have lD := lt_of_get d.ins
  have lW := lt_of_get d.wr
  have lK := lt_of_get d.kept
  obtain ⟨b1, b2, b3, b4⟩ := d.lo
  have g1 : ∀ (x : AO) (m : Nat), m < h.length → (h ++ [x])[m]? = h[m]? := fun x m hm => List.getElem?_append_left hm
  have lb : (ws.map wKD).length < big := by rw [List.length_map, big_eq]; have := hb.1; omega
  have b0 : (0 : Nat) ≤ big := by decide
  have dW0 : dctAt h nW = some (ws.map wKD) := by
    unfold dctAt
    rw [d.wr]
  have e1 := writesM_ok (G := [some (.int s), some (vD v)]) d.ins
  have gW : (h ++ [AO.lst []])[nW]? = some (.dct (ws.map wKD)) := by rw [g1 _ _ lW]; exact d.wr
  cases hf : ws.find? (fun e => decide (e.s = s)) with
  | some e =>
    have he : e ∈ ws := List.mem_of_find?_eq_some hf
    have hes : e.s = s := by simpa using List.find?_some hf
    have lE := lt_of_get (d.cells e he)
    have hval2 : valD (ws.map wKD) (.inl (s : Int)) = some (.loc e.l) := by rw [valD_w, hf]; rfl
    have gE : (h ++ [AO.lst []])[e.l]? = some (.lst (e.vs.map vD)) := by rw [g1 _ _ lE]; exact d.cells e he
    have lv : (e.vs.map vD).length < big := by rw [List.length_map, big_eq]; have := hb.2 e he; omega
    obtain ⟨h', hh'⟩ : ∃ h', h' = (h ++ [AO.lst []]).set e.l (.lst (e.vs.map vD ++ [vD v])) := ⟨_, rfl⟩
    have gs : ∀ m, m < h.length → m ≠ e.l → h'[m]? = h[m]? := fun m hm hn => by
      rw [hh', List.getElem?_set_ne (Ne.symm hn), g1 _ _ hm]
    have gI : h'[nD]? = some (.ins "Disk" (diskF nK nW)) := by rw [gs nD lD (Ne.symm (d.ld he))]; exact d.ins
    have un : ∀ x ∈ ws, x.s = s → x = e := fun x hx q => inj_nodup d.keys hx he (by rw [q, hes])
    have c3 : (mBM fApp (mDSetd (mFld ["Disk"] "writes" (mV 0)) (mV 1) (mNew (lLst aNil))) (aCons (mV 2) aNil)) [some (.loc nD), some (.int s), some (vD v)] h = .ok .non h' := by
      simp only [v_mBM, v_mDSetd, e1, Res.bind_ok, dW0, v_mV, List.getElem?_cons_succ, List.getElem?_cons_zero, v_mNew, v_lLst, v_aNil, List.length_nil, b0, if_true, gW, v_keyI, lb, hval2, v_vLo, gE, v_aCons, v_app, lv, hh']
    refine ⟨h', ws.map fun x => if x.s = s then ⟨x.s, x.l, x.vs ++ [v]⟩ else x, write_of d hs hv c3 gI, ⟨gI, ?_, ?_, ?_, ?_, ?_, ?_, ?_, ?_, b1, b2, b3, ?_⟩, ?_, ?_, by rw [List.length_map]; have := hb.1; omega, ?_⟩
    · rw [gs nK lK (Ne.symm (d.nk e he))]; exact d.kept
    · rw [gs nW lW (Ne.symm (d.lw he)), d.wr, List.map_map]
      congr 2
      apply List.map_congr_left
      intro x _
      show wKD x = wKD (if x.s = s then ⟨x.s, x.l, x.vs ++ [v]⟩ else x)
      by_cases q : x.s = s
      · rw [if_pos q]; rfl
      · rw [if_neg q]
    · intro y hy
      obtain ⟨x, hx, rfl⟩ := List.mem_map.mp hy
      by_cases q : x.s = s
      · have := un x hx q
        subst this
        rw [if_pos q]
        show h'[x.l]? = some (.lst ((x.vs ++ [v]).map vD))
        rw [hh', List.getElem?_set_self (by simp; omega), List.map_append]
        rfl
      · rw [if_neg q]
        have hl : x.l ≠ e.l := fun z => q (by rw [inj_nodup d.locs hx he z, hes])
        rw [gs x.l (lt_of_get (d.cells x hx)) hl]
        exact d.cells x hx
    · have : (ws.map fun x => if x.s = s then (⟨x.s, x.l, x.vs ++ [v]⟩ : WEnt) else x).map (·.s) = ws.map (·.s) := by
        rw [List.map_map]
        apply List.map_congr_left
        intro x _
        show (if x.s = s then (⟨x.s, x.l, x.vs ++ [v]⟩ : WEnt) else x).s = x.s
        by_cases q : x.s = s
        · rw [if_pos q]
        · rw [if_neg q]
      rw [this]
      exact d.keys
    · have : (ws.map fun x => if x.s = s then (⟨x.s, x.l, x.vs ++ [v]⟩ : WEnt) else x).map (·.l) = ws.map (·.l) := by
        rw [List.map_map]
        apply List.map_congr_left
        intro x _
        show (if x.s = s then (⟨x.s, x.l, x.vs ++ [v]⟩ : WEnt) else x).l = x.l
        by_cases q : x.s = s
        · rw [if_pos q]
        · rw [if_neg q]
      rw [this]
      exact d.locs
    · intro y hy
      obtain ⟨x, hx, rfl⟩ := List.mem_map.mp hy
      by_cases q : x.s = s
      · rw [if_pos q]; exact d.nk x hx
      · rw [if_neg q]; exact d.nk x hx
    · intro y hy
      obtain ⟨x, hx, rfl⟩ := List.mem_map.mp hy
      by_cases q : x.s = s
      · rw [if_pos q]; simp
      · rw [if_neg q]; exact d.ne x hx
    · intro y hy
      obtain ⟨x, hx, rfl⟩ := List.mem_map.mp hy
      by_cases q : x.s = s
      · rw [if_pos q]; exact d.lt x hx
      · rw [if_neg q]; exact d.lt x hx
    · intro y hy
      obtain ⟨x, hx, rfl⟩ := List.mem_map.mp hy
      by_cases q : x.s = s
      · rw [if_pos q]; exact b4 x hx
      · rw [if_neg q]; exact b4 x hx
    · apply List.ext_getElem?
      intro i
      by_cases hi : i < K.length
      · rw [cur_get hi, List.find?_map]
        have ec : ((fun e : WEnt => decide (e.s = i)) ∘ fun x : WEnt => if x.s = s then (⟨x.s, x.l, x.vs ++ [v]⟩ : WEnt) else x) = fun e : WEnt => decide (e.s = i) := by
          funext x
          show decide ((if x.s = s then (⟨x.s, x.l, x.vs ++ [v]⟩ : WEnt) else x).s = i) = decide (x.s = i)
          by_cases q : x.s = s
          · rw [if_pos q]
          · rw [if_neg q]
        rw [ec]
        by_cases q : s = i
        · subst q
          rw [List.getElem?_set_self (by rw [cur_len]; exact hs), hf]
          simp [hes]
        · rw [List.getElem?_set_ne q, cur_get hi]
          cases hf2 : ws.find? fun e => decide (e.s = i) with
          | none => rfl
          | some x =>
            have hxs : x.s = i := by simpa using List.find?_some hf2
            have : ¬ x.s = s := fun z => q (by omega)
            simp [this]
      · rw [List.getElem?_eq_none (by rw [cur_len]; omega), List.getElem?_eq_none (by rw [List.length_set, cur_len]; omega)]
    · rw [hh', List.take_set_of_le (b4 e he), List.take_append_of_le_length (by omega)]
    · intro y hy
      obtain ⟨x, hx, rfl⟩ := List.mem_map.mp hy
      by_cases q : x.s = s
      · rw [if_pos q]
        show (x.vs ++ [v]).length ≤ m + 1
        have := hb.2 x hx
        simp
        omega
      · rw [if_neg q]
        have := hb.2 x hx
        omega
  | none =>
    have hn : s ∉ ws.map (·.s) := by
      intro z
      obtain ⟨e, he, q⟩ := List.mem_map.mp z
      have := List.find?_eq_none.mp hf e he
      simp at this
      exact this q
    have hval2 : valD (ws.map wKD) (.inl (s : Int)) = none := by rw [valD_w, hf]; rfl
    have hput := putKD_w ws s h.length hf
    obtain ⟨h1, hh1⟩ : ∃ h1, h1 = (h ++ [AO.lst []]).set nW (.dct (ws.map wKD ++ [(.inl (s : Int), .loc h.length)])) := ⟨_, rfl⟩
    obtain ⟨h', hh'⟩ : ∃ h', h' = h1.set h.length (.lst [vD v]) := ⟨_, rfl⟩
    have g2 : h1[h.length]? = some (.lst []) := by
      rw [hh1, List.getElem?_set_ne (by omega), g_app0]
      rfl
    have gs : ∀ m, m < h.length → m ≠ nW → h'[m]? = h[m]? := fun m hm hn => by
      rw [hh', List.getElem?_set_ne (by omega), hh1, List.getElem?_set_ne (Ne.symm hn), g1 _ _ hm]
    have gI : h'[nD]? = some (.ins "Disk" (diskF nK nW)) := by rw [gs nD lD d.dw]; exact d.ins
    have b01 : (0 : Nat) < big := by decide
    have c3 : (mBM fApp (mDSetd (mFld ["Disk"] "writes" (mV 0)) (mV 1) (mNew (lLst aNil))) (aCons (mV 2) aNil)) [some (.loc nD), some (.int s), some (vD v)] h = .ok .non h' := by
      simp only [v_mBM, v_mDSetd, e1, Res.bind_ok, dW0, v_mV, List.getElem?_cons_succ, List.getElem?_cons_zero, v_mNew, v_lLst, v_aNil, List.length_nil, b0, if_true, gW, v_keyI, lb, hval2, hput, ← hh1, v_vLo, g2, v_aCons, v_app, b01, List.nil_append, hh']
    have ln : List.length h1 = h.length + 1 := by rw [hh1]; simp
    refine ⟨h', ws ++ [⟨s, h.length, [v]⟩], write_of d hs hv c3 gI, ⟨gI, ?_, ?_, ?_, ?_, ?_, ?_, ?_, ?_, b1, b2, b3, ?_⟩, ?_, ?_, by simp; have := hb.1; omega, ?_⟩
    · rw [gs nK lK d.kw]; exact d.kept
    · rw [hh', List.getElem?_set_ne (by omega), hh1, List.getElem?_set_self (by simp; omega), List.map_append]
      rfl
    · intro y hy
      rcases List.mem_append.mp hy with hy | hy
      · rw [gs y.l (lt_of_get (d.cells y hy)) (d.lw hy)]; exact d.cells y hy
      · rw [List.mem_singleton.mp hy]
        show h'[h.length]? = some (.lst [vD v])
        rw [hh', List.getElem?_set_self (by omega)]
    · rw [List.map_append, List.nodup_append]
      refine ⟨d.keys, by simp, ?_⟩
      intro a ha c hc
      simp at hc
      subst hc
      exact fun z => hn (by rw [← z]; exact ha)
    · rw [List.map_append, List.nodup_append]
      refine ⟨d.locs, by simp, ?_⟩
      intro a ha c hc
      simp at hc
      subst hc
      obtain ⟨x, hx, rfl⟩ := List.mem_map.mp ha
      have := lt_of_get (d.cells x hx)
      omega
    · intro y hy
      rcases List.mem_append.mp hy with hy | hy
      · exact d.nk y hy
      · rw [List.mem_singleton.mp hy]
        show h.length ≠ nK
        omega
    · intro y hy
      rcases List.mem_append.mp hy with hy | hy
      · exact d.ne y hy
      · rw [List.mem_singleton.mp hy]
        simp
    · intro y hy
      rcases List.mem_append.mp hy with hy | hy
      · exact d.lt y hy
      · rw [List.mem_singleton.mp hy]
        exact hs
    · intro y hy
      rcases List.mem_append.mp hy with hy | hy
      · exact b4 y hy
      · rw [List.mem_singleton.mp hy]
        show b ≤ h.length
        omega
    · rw [cur_snoc hn hs]
      rfl
    · rw [hh', List.take_set_of_le (by omega), hh1, List.take_set_of_le (by omega), List.take_append_of_le_length (by omega)]
    · intro y hy
      rcases List.mem_append.mp hy with hy | hy
      · have := hb.2 y hy; omega
      · rw [List.mem_singleton.mp hy]
        simp
end
end My
namespace My
open PySem AB L2
section
variable {h : AH} {b nD nK nW : Nat} {K : List (Option Val)} {ws : List WEnt}
theorem barrier_ok (d : DskAt h b nD nK nW K ws) :
    ∃ h' nW', m_Disk_barrier [.loc nD] h = .ok .non h' ∧ DskAt h' b nD nK nW' (cur K ws) [] ∧ h'.take b = h.take b := by
  have lD := lt_of_get d.ins
  have lW := lt_of_get d.wr
  have lK := lt_of_get d.kept
  obtain ⟨b1, b2, b3, b4⟩ := d.lo
  have g2 : ∀ (x y : AO) (m : Nat), m ≠ nK → m ≠ nW → ((h.set nK x).set nW y)[m]? = h[m]? := fun x y m hm hn => by
    rw [List.getElem?_set_ne (Ne.symm hn), List.getElem?_set_ne (Ne.symm hm)]
  have g3 : ∀ (x y : AO), ((h.set nK x).set nW y)[nK]? = some x := fun x y => by
    rw [List.getElem?_set_ne (Ne.symm d.kw), List.getElem?_set_self lK]
  have g4 : ∀ (x y : AO), ((h.set nK x).set nW y)[nW]? = some y := fun x y => by
    rw [List.getElem?_set_self (by rw [List.length_set]; exact lW)]
  have s1 : ∀ (x y z : AO), ((h.set nK x).set nW y).set nK z = (h.set nK z).set nW y := fun x y z => by
    rw [List.set_comm _ _ (Ne.symm d.kw), List.set_set]
  have gD : ∀ (x y : AO), ((h.set nK x).set nW y)[nD]? = some (.ins "Disk" (diskF nK nW)) := fun x y => by rw [g2 x y nD d.dk d.dw]; exact d.ins
  obtain ⟨G', h', e1, a2, a3, rfl, rfl⟩ := forD_pre (p := .tp [(.nm 1), (.nm 2)]) (body := sSeq (sSub (mFld ["Disk"] "kept" (mV 0)) (mV 1) (mOp2 fIx (mV 2) (mOp1 fNeg (mC (.int 1))))) sNil) (pick := pickI) (n := nW) (kvs := ws.map wKD)
    (fun done G hh => ∃ a1 a2, G = [some (.loc nD), a1, a2] ∧ hh = (h.set nK (.lst ((cur K done).map hvD))).set nW (.lck (ws.map wKD)))
    (by rintro done G hh ⟨a2, a3, rfl, rfl⟩; exact g4 _ _) wKD ws ws [] rfl
    (by
      rintro done e rest ed G hh ⟨a2, a3, rfl, rfl⟩
      have he : e ∈ ws := by rw [← ed]; simp
      have hn : e.s ∉ done.map (·.s) := by
        have := d.keys
        rw [← ed, List.map_append, List.nodup_append] at this
        intro z
        exact this.2.2 _ z e.s (by simp) rfl
      have hlt := d.lt e he
      have hc : e.s < (cur K done).length := by rw [cur_len]; exact hlt
      have ec := d.cells e he
      refine ⟨[some (.loc nD), some (.int e.s), some (.loc e.l)], [some (.loc nD), some (.int e.s), some (.loc e.l)], (h.set nK (.lst ((cur K (done ++ [e])).map hvD))).set nW (.lck (ws.map wKD)), rfl, ?_, _, _, rfl, rfl⟩
      have x1 := last_hv (d.ne e he)
      have x2 : ixN (cur K done).length (e.s : Int) = some e.s := ixN_nat hc
      have x3 := keptM_ok (G := [some (.int e.s), some (.loc e.l)]) (gD (.lst ((cur K done).map hvD)) (.lck (ws.map wKD)))
      rw [cur_snoc hn hlt, List.map_set]
      simp only [v_sSeq, v_sSub, v_mOp2, v_mV, v_mOp1, v_mC, v_neg, v_ix, Res.bind_ok, Res.toS_ok, List.getElem?_cons_succ, List.getElem?_cons_zero, v_vSo, SR.andThen_next, v_sNil, g2 _ _ e.l (d.nk e he) (d.lw he), ec, x1, x3, g3, s1, x2, List.length_map])
    [some (.loc nD), none, none] ((h.set nK (.lst (K.map hvD))).set nW (.lck (ws.map wKD))) ⟨none, none, rfl, by rw [cur_nil]⟩
  have e2 : h.set nK (.lst (K.map hvD)) = h := set_same d.kept
  have e3 : ((h.set nK (AO.lst ((cur K ws).map hvD))).set nW (.lck (ws.map wKD))).set nW (.dct (ws.map wKD)) = h.set nK (.lst ((cur K ws).map hvD)) := by
    rw [List.set_set]
    exact set_same (by rw [List.getElem?_set_ne d.kw]; exact d.wr)
  rw [e2, e3] at e1
  obtain ⟨h1, hh1⟩ : ∃ h1, h1 = h.set nK (.lst ((cur K ws).map hvD)) := ⟨_, rfl⟩
  have l1 : h1.length = h.length := by rw [hh1, List.length_set]
  have gI1 : h1[nD]? = some (.ins "Disk" (diskF nK nW)) := by rw [hh1, List.getElem?_set_ne (Ne.symm d.dk)]; exact d.ins
  obtain ⟨h2, hh2⟩ : ∃ h2, h2 = (h1 ++ [AO.dct []]).set nD (.ins "Disk" (diskF nK h.length)) := ⟨_, rfl⟩
  have gI2 : h2[nD]? = some (.ins "Disk" (diskF nK h.length)) := by rw [hh2, List.getElem?_set_self (by simp; omega)]
  have c1 : sForD pickI (.tp [(.nm 1), (.nm 2)]) (mFld ["Disk"] "writes" (mV 0)) (sSeq (sSub (mFld ["Disk"] "kept" (mV 0)) (mV 1) (mOp2 fIx (mV 2) (mOp1 fNeg (mC (.int 1))))) sNil) [some (.loc nD), none, none] h = .next [some (.loc nD), a2, a3] h1 := by
    rw [sForD_ok (writesM_ok d.ins) d.wr (writesM_ok (by rw [List.getElem?_set_ne (Ne.symm d.dw)]; exact d.ins))]
    rw [hh1]
    exact e1
  have c2 : sFldM ["Disk"] "writes" (mV 0) mDNew [some (.loc nD), a2, a3] h1 = .next [some (.loc nD), a2, a3] h2 := by
    have n0 : ("Disk" : Str) ∈ [("Disk" : Str)] := List.mem_singleton.mpr rfl
    have z3 : (3 : Nat) < 1000 := by decide
    have g0 : (h1 ++ [AO.dct []])[nD]? = some (.ins "Disk" (diskF nK nW)) := by rw [List.getElem?_append_left (by omega)]; exact gI1
    simp only [v_sFld, v_mDNew, Res.toS_ok, v_mV, List.getElem?_cons_zero, g0, n0, df_len, z3, and_self, if_true, l1, df_putW, hh2]
  have c3 := tellM_ok (G := [a2, a3]) gI2
  refine ⟨h2, h.length, ?_, ⟨gI2, ?_, ?_, by simp, by simp, by simp, by simp, by simp, by simp, b1, b2, by omega, by simp⟩, ?_⟩
  · have eb : b_Disk_barrier [some (.loc nD), none, none] h = .next [some (.loc nD), a2, a3] h2 := by
      have eq : b_Disk_barrier = (sSeq (sForD pickI (.tp [(.nm 1), (.nm 2)]) (mFld ["Disk"] "writes" (mV 0)) (sSeq (sSub (mFld ["Disk"] "kept" (mV 0)) (mV 1) (mOp2 fIx (mV 2) (mOp1 fNeg (mC (.int 1))))) sNil)) (sSeq (sFldM ["Disk"] "writes" (mV 0) mDNew) (sSeq (sExpr (mMeth [("Disk", m_Disk_tell)] "tell" (mV 0) aNil)) sNil))) := rfl
      rw [eq]
      simp only [v_sSeq, c1, SR.andThen_next, c2, v_sExpr, c3, Res.toS_ok, v_sNil]
    simp [m_Disk_barrier, mDefK, eb]
  · rw [hh2, List.getElem?_set_ne d.dk, List.getElem?_append_left (by omega), hh1, List.getElem?_set_self lK]
  · rw [hh2, List.getElem?_set_ne (by omega), ← l1, g_app0]
    rfl
  · rw [hh2, List.take_set_of_le b1, List.take_append_of_le_length (by omega), hh1, List.take_set_of_le b2]
/-- a disk with this state, as if all was written -/
structure Dsk (h : AH) (b nD : Nat) (c : List (Option Val)) (m : Nat) : Prop where
  ex : ∃ nK nW K ws, DskAt h b nD nK nW K ws ∧ cur K ws = c ∧ Bd ws m
def stepC (c : List (Option Val)) : Step → List (Option Val)
  | .bar => c
  | .wr s v => c.set s (some v)
theorem eq_bw {h : AH} : fEq (.str "barrier") (.str "write") h = .ok (.bl false) h := by rw [eq_str sh_bar sh_wr]; rfl
theorem do_step_ok {c : List (Option Val)} {m : Nat} (dd : Dsk h b nD c m) (hm : m ≤ 10000) {x : Step} (hx : StepOk c.length x) :
    ∃ h', m_do_step [.loc nD, sD x] h = .ok .non h' ∧ Dsk h' b nD (stepC c x) (m + 1) ∧ h'.take b = h.take b := by
  obtain ⟨nK, nW, K, ws, d, rfl, hb⟩ := dd.ex
  rw [cur_len] at hx
  cases x with
  | bar =>
    obtain ⟨h', nW', e, d', ht⟩ := barrier_ok d
    refine ⟨h', ?_, ⟨nK, nW', _, [], d', cur_nil _, by simp, by simp⟩, ht⟩
    have e0 : List.lookup ("Disk" : Str) [(("Disk" : Str), m_Disk_barrier)] = some m_Disk_barrier := lookup_eq'
    have c1 : (mMeth [("Disk", m_Disk_barrier)] "barrier" (mV 0) aNil) [some (.loc nD), some (sD .bar)] h = .ok .non h' := by
      simp only [v_mMeth, v_mV, List.getElem?_cons_zero, Res.bind_ok, d.ins, e0, df_barrier, v_aNil, e]
    have es : sD .bar = .tup [.str "barrier"] := rfl
    rw [es] at c1 ⊢
    simp [m_do_step, mDefK, b_do_step, eq_bw, eq_b1, c1, -v_mMeth]
  | wr s v =>
    obtain ⟨h', ws', e, d', hc, ht, hb'⟩ := write_ok d hb hm hx.1 hx.2
    refine ⟨h', ?_, ⟨nK, nW, K, ws', d', hc, hb'⟩, ht⟩
    have e0 : List.lookup ("Disk" : Str) [(("Disk" : Str), m_Disk_write)] = some m_Disk_write := lookup_eq'
    have c1 : (mMeth [("Disk", m_Disk_write)] "write" (mV 0) (aCons (mOp2 fIx (mV 1) (mC (.int 1))) (aCons (mOp2 fIx (mV 1) (mC (.int 2))) aNil))) [some (.loc nD), some (sD (.wr s v))] h = .ok .non h' := by
      simp only [v_mMeth, v_mV, List.getElem?_cons_zero, List.getElem?_cons_succ, Res.bind_ok, d.ins, e0, df_write, v_aNil, v_aCons, v_mOp2, v_mC, v_ix, sD, v_vSt, atI_1, atI_2, e]
    have es : sD (.wr s v) = .tup [.str "write", .int s, vD v] := rfl
    rw [es] at c1 ⊢
    simp [m_do_step, mDefK, b_do_step, eq_b3, c1, -v_mMeth]
theorem makeM_ok {G : AB.Env} {i : Nat} (hi : G[i]? = some (some (.tup (K.map hvD)))) (h1 : 1 ≤ K.length) (h2 : K.length ≤ 64) (hK : ∀ o ∈ K, HOkV o) (h : AH) :
    ∃ t, (mMake "Disk" m_Disk___init__ (aCons (mV i) aNil)) G h = .ok (.loc h.length) (h ++ t) ∧ Dsk (h ++ t) h.length h.length K 0 := by
  refine ⟨_, ?_, ⟨_, _, K, [], make_ok h1 h2 h, cur_nil _, by simp, by simp⟩⟩
  simp only [v_mMake, v_aCons, v_aNil, v_mV, hi, Res.bind_ok, init_ok h1 h2 hK]
theorem nowM_ok {G : AB.Env} {c : List (Option Val)} {m : Nat} (dd : Dsk h b nD c m) (hm : m ≤ 1000) (hc : c.length ≤ 1000) {i : Nat} (hi : G[i]? = some (some (.loc nD))) : (mMeth [("Disk", m_Disk_now)] "now" (mV i) aNil) G h = .ok (.tup (c.map hvD)) h := by
  obtain ⟨nK, nW, K, ws, d, rfl, hb⟩ := dd.ex
  have e0 : List.lookup ("Disk" : Str) [(("Disk" : Str), m_Disk_now)] = some m_Disk_now := lookup_eq'
  rw [cur_len] at hc
  simp only [v_mMeth, v_mV, hi, Res.bind_ok, d.ins, e0, df_now, v_aNil, now_ok d (Nat.le_trans hb.1 hm) hc]
end
end My
namespace My
open PySem AB L2
def stepsE : Tree → List Step
  | .mend _ ss => ss
  | _ => []
theorem eq_mm {h : AH} : fEq (.str "mend") (.str "mend") h = .ok (.bl true) h := by rw [eq_str sh_mend sh_mend]; rfl
theorem eq_sm {h : AH} : fEq (.str "say") (.str "mend") h = .ok (.bl false) h := by rw [eq_str sh_say sh_mend]; rfl
theorem steps_of_ok {sectors : Nat} {e : Tree} (w : EndOk sectors e) (h : AH) : m_steps_of [tD e] h = .ok (.tup ((stepsE e).map sD)) h := by
  have b0 : (0 : Nat) ≤ big := by decide
  cases w with
  | say n h1 h2 =>
    have et : tD (.say n) = .tup [.str "say", .int n] := by simp [tD]
    rw [et]
    simp [m_steps_of, mDef, b_steps_of, eq_sm, b0, stepsE]
  | mend n ss h1 h2 h3 h4 =>
    have et : tD (.mend n ss) = .tup [.str "mend", .int n, .tup (ss.map sD)] := by simp [tD]
    rw [et]
    simp [m_steps_of, mDef, b_steps_of, eq_mm, stepsE]
theorem mends_ok {sectors : Nat} {e : Tree} (w : EndOk sectors e) (h : AH) : m__law_mends [tD e] h = .ok (.tup ((stepsE e).map sD)) h := by
  have b0 : (0 : Nat) ≤ big := by decide
  cases w with
  | say n h1 h2 =>
    have et : tD (.say n) = .tup [.str "say", .int n] := by simp [tD]
    rw [et]
    simp [m__law_mends, mDef, b__law_mends, eq_sm, b0, stepsE]
  | mend n ss h1 h2 h3 h4 =>
    have et : tD (.mend n ss) = .tup [.str "mend", .int n, .tup (ss.map sD)] := by simp [tD]
    rw [et]
    simp [m__law_mends, mDef, b__law_mends, eq_mm, stepsE]
theorem stepsE_ok {sectors : Nat} {e : Tree} (w : EndOk sectors e) : (stepsE e).length ≤ 20 ∧ ∀ x ∈ stepsE e, StepOk sectors x := by
  cases w with
  | say n h1 h2 => simp [stepsE]
  | mend n ss h1 h2 h3 h4 => exact ⟨h3, h4⟩
def after (c : List (Option Val)) (ss : List Step) : List (Option Val) := ss.foldl stepC c
theorem stepC_len (c : List (Option Val)) (x : Step) : (stepC c x).length = c.length := by cases x <;> simp [stepC]
theorem after_len (ss : List Step) : ∀ c : List (Option Val), (after c ss).length = c.length := by
  induction ss with
  | nil => intro c; rfl
  | cons x ss ih =>
    intro c
    show (after (stepC c x) ss).length = _
    rw [ih, stepC_len]
def pD (p : Nat × Val) : D := .tup [.int p.1, vD p.2]
def putW (c : List (Option Val)) (W : List (Nat × Val)) : List (Option Val) := W.foldl (fun c p => c.set p.1 (some p.2)) c
theorem putW_len (W : List (Nat × Val)) : ∀ c, (putW c W).length = c.length := by
  induction W with
  | nil => intro c; rfl
  | cons p W ih =>
    intro c
    show (putW (c.set p.1 (some p.2)) W).length = _
    rw [ih, List.length_set]
theorem putW_snoc (c : List (Option Val)) (W : List (Nat × Val)) (p : Nat × Val) : putW c (W ++ [p]) = (putW c W).set p.1 (some p.2) := by
  simp [putW]
noncomputable abbrev bhIn : Ms := (sSeq (sSub (mV 2) (mV 5) (mV 6)) sNil)
noncomputable abbrev bhB : Ms := (sSeq (sIf (tBl (mOp2 fEq (mOp2 fIx (mV 4) (mC (.int 0))) (mC (.str "write")))) (sSeq (sExpr (mBM fApp (mV 3) (aCons (mN fTup (aCons (mOp2 fIx (mV 4) (mC (.int 1))) (aCons (mOp2 fIx (mV 4) (mC (.int 2))) aNil))) aNil))) sNil) sNil) (sSeq (sIf (tBl (mOp2 fEq (mOp2 fIx (mV 4) (mC (.int 0))) (mC (.str "barrier")))) (sSeq (sFor (.tp [(.nm 5), (.nm 6)]) (iSeq (mV 3)) bhIn) (sSeq (sSet 3 (mNew (lLst aNil))) sNil)) sNil) sNil))
structure BhAt (h0 hh : AH) (n1 nw : Nat) (S : List (Option Val)) (W : List (Nat × Val)) : Prop where
  s : hh[n1]? = some (.lst (S.map hvD))
  w : hh[nw]? = some (.lst (W.map pD))
  ne : n1 ≠ nw
  l1 : h0.length ≤ n1
  l2 : h0.length ≤ nw
  tk : hh.take h0.length = h0
  lt : ∀ p ∈ W, p.1 < S.length
theorem bh_wr {h0 hh : AH} {n1 nw : Nat} {S : List (Option Val)} {W : List (Nat × Val)} (d : BhAt h0 hh n1 nw S W) (hW : W.length ≤ 1000) {s : Nat} {v : Val} (hs : s < S.length) (k0 k1 k5 k6 : Option D) :
    ∃ hh', bhB [k0, k1, some (.loc n1), some (.loc nw), some (sD (.wr s v)), k5, k6] hh = .next [k0, k1, some (.loc n1), some (.loc nw), some (sD (.wr s v)), k5, k6] hh' ∧ BhAt h0 hh' n1 nw S (W ++ [(s, v)]) := by
  have lW := lt_of_get d.w
  have lb : (W.map pD).length < big := by rw [List.length_map, big_eq]; omega
  have b2 : (2 : Nat) ≤ big := by decide
  have es : sD (.wr s v) = .tup [.str "write", .int s, vD v] := rfl
  refine ⟨hh.set nw (.lst ((W ++ [(s, v)]).map pD)), ?_, ⟨by rw [List.getElem?_set_ne (Ne.symm d.ne)]; exact d.s, by rw [List.getElem?_set_self lW], d.ne, d.l1, d.l2, by rw [List.take_set_of_le d.l2]; exact d.tk, fun p hp => ?_⟩⟩
  · rw [es]
    rw [List.length_map] at lb
    simp [eq_b3, eq_b2, d.w, b2, lb, pD]
  · rcases List.mem_append.mp hp with hp | hp
    · exact d.lt p hp
    · rw [List.mem_singleton.mp hp]
      exact hs
theorem bh_bar {h0 hh : AH} {n1 nw : Nat} {S : List (Option Val)} {W : List (Nat × Val)} (d : BhAt h0 hh n1 nw S W) (k0 k1 k5 k6 : Option D) :
    ∃ hh' nw' a5 a6, bhB [k0, k1, some (.loc n1), some (.loc nw), some (sD .bar), k5, k6] hh = .next [k0, k1, some (.loc n1), some (.loc nw'), some (sD .bar), a5, a6] hh' ∧ BhAt h0 hh' n1 nw' (putW S W) [] := by
  have lW := lt_of_get d.w
  have l1 := lt_of_get d.s
  have es : sD .bar = .tup [.str "barrier"] := rfl
  obtain ⟨G', h', e, a5, a6, rfl, rfl⟩ := for_preS (p := .tp [(.nm 5), (.nm 6)]) (body := bhIn) (all0 := W.map pD) (src := some nw)
    (fun done G h => ∃ a5 a6, G = [k0, k1, some (.loc n1), some (.loc nw), some (sD .bar), a5, a6] ∧ h = hh.set n1 (.lst ((putW S done).map hvD)))
    (by
      rintro done G h ⟨a5, a6, rfl, rfl⟩
      show (hh.set n1 _)[nw]? = _
      rw [List.getElem?_set_ne d.ne]
      exact d.w) pD W W [] rfl
    (by
      rintro done p rest ed G h ⟨a5, a6, rfl, rfl⟩
      have hp := d.lt p (by rw [← ed]; simp)
      have x2 : ixN (putW S done).length (p.1 : Int) = some p.1 := ixN_nat (by rw [putW_len]; exact hp)
      refine ⟨[k0, k1, some (.loc n1), some (.loc nw), some (sD .bar), some (.int p.1), some (vD p.2)], [k0, k1, some (.loc n1), some (.loc nw), some (sD .bar), some (.int p.1), some (vD p.2)], hh.set n1 (.lst ((putW S (done ++ [p])).map hvD)), rfl, ?_, _, _, rfl, rfl⟩
      have g1 : ∀ x : AO, (hh.set n1 x)[n1]? = some x := fun x => List.getElem?_set_self l1
      have s1 : ∀ x y : AO, (hh.set n1 x).set n1 y = hh.set n1 y := fun x y => List.set_set _
      rw [putW_snoc, List.map_set]
      simp only [v_sSeq, v_sSub, v_mV, Res.bind_ok, Res.toS_ok, List.getElem?_cons_succ, List.getElem?_cons_zero, SR.andThen_next, v_sNil, g1, s1, x2, List.length_map, hvD])
    [k0, k1, some (.loc n1), some (.loc nw), some (sD .bar), k5, k6] hh ⟨k5, k6, rfl, by
      show hh = hh.set n1 (.lst (S.map hvD))
      exact (set_same d.s).symm⟩
  have e1 : fEq (.str "barrier") (.str "barrier") hh = .ok (.bl true) hh := eq_b1
  have b0 : (0 : Nat) ≤ big := by decide
  refine ⟨hh.set n1 (.lst ((putW S W).map hvD)) ++ [.lst []], hh.length, a5, a6, ?_, ⟨?_, ?_, by omega, d.l1, by have := d.l2; omega, ?_, by simp⟩⟩
  · rw [es] at e ⊢
    simp [eq_bw, eq_b1, d.w, e, b0, -v_sFor, sFor]
  · rw [List.getElem?_append_left (by rw [List.length_set]; exact l1), List.getElem?_set_self l1]
  · rw [List.getElem?_append_right (by rw [List.length_set]; exact Nat.le_refl _), List.length_set, Nat.sub_self]
    rfl
  · rw [List.take_append_of_le_length (by rw [List.length_set]; have := d.l2; omega), List.take_set_of_le d.l1]
    exact d.tk
theorem eq_str3 : True := trivial
theorem behind_ok {st : List (Option Val)} {ss : List Step} (hs : ∀ x ∈ ss, StepOk st.length x) (hl : ss.length ≤ 100) (h : AH) :
    ∃ t wd, m__law_behind [.tup (st.map hvD), .tup (ss.map sD ++ [.tup [.str "barrier"]])] h = .ok (.tup [.tup ((after st ss).map hvD), wd]) (h ++ t) := by
  have b2 : (2 : Nat) ≤ big := by decide
  have b0 : (0 : Nat) ≤ big := by decide
  obtain ⟨st0, hst0⟩ : ∃ d, d = D.tup (st.map hvD) := ⟨_, rfl⟩
  obtain ⟨G', h', e, n1, nw, a4, a5, a6, S, W, rfl, d, hp, hS, hW⟩ := AB.for_pre (p := .nm 4) (body := bhB) (all0 := (ss ++ [Step.bar]).map sD)
    (fun done G hh => ∃ n1 nw a4 a5 a6 S W, G = [some (.tup (st.map hvD)), some (.tup ((ss ++ [Step.bar]).map sD)), some (.loc n1), some (.loc nw), a4, a5, a6] ∧ BhAt h hh n1 nw S W ∧ putW S W = after st done ∧ S.length = st.length ∧ W.length ≤ done.length ∧ (done.getLast? = some Step.bar → W = []))
    sD (ss ++ [Step.bar]) (ss ++ [Step.bar]) [] rfl
    (by
      rintro done x rest ed G hh ⟨n1, nw, a4, a5, a6, S, W, rfl, d, hp, hS, hW, hlast⟩
      have hx : x ∈ ss ++ [Step.bar] := by rw [← ed]; simp
      have hdl : done.length ≤ ss.length + 1 := by
        have := congrArg List.length ed
        simp at this
        omega
      have ea : after st (done ++ [x]) = stepC (after st done) x := by simp [after]
      cases x with
      | bar =>
        obtain ⟨hh', nw', b5, b6, eb, d'⟩ := bh_bar d (some (.tup (st.map hvD))) (some (.tup ((ss ++ [Step.bar]).map sD))) a5 a6
        exact ⟨_, _, _, rfl, eb, n1, nw', _, b5, b6, putW S W, [], rfl, d', by rw [ea, ← hp]; rfl, by rw [putW_len]; exact hS, by simp, fun _ => rfl⟩
      | wr s v =>
        have hs' : s < st.length := by
          rcases List.mem_append.mp hx with hx | hx
          · exact (hs _ hx).1
          · simp at hx
        obtain ⟨hh', eb, d'⟩ := bh_wr d (by omega) (s := s) (v := v) (by omega) (some (.tup (st.map hvD))) (some (.tup ((ss ++ [Step.bar]).map sD))) a5 a6
        exact ⟨_, _, _, rfl, eb, n1, nw, _, a5, a6, S, W ++ [(s, v)], rfl, d', by rw [ea, ← hp, putW_snoc]; rfl, hS, by simp; omega, by simp⟩)
    [some (.tup (st.map hvD)), some (.tup ((ss ++ [Step.bar]).map sD)), some (.loc h.length), some (.loc (h.length + 1)), none, none, none] (h ++ [.lst (st.map hvD), .lst []])
    ⟨h.length, h.length + 1, none, none, none, st, [], rfl, ⟨by rw [g_app0]; rfl, by rw [g_app]; rfl, by omega, by omega, by omega, by simp, by simp⟩, rfl, rfl, by simp, by simp⟩
  have hW0 : W = [] := hW.2 (by simp)
  subst hW0
  have hS2 : S = after st ss := by
    have : after st (ss ++ [Step.bar]) = after st ss := by simp [after, stepC]
    rw [← this, ← hp]
    rfl
  have ht : h' = h ++ h'.drop h.length := by
    conv => lhs; rw [← List.take_append_drop h.length h', d.tk]
  refine ⟨h'.drop h.length, .loc nw, ?_⟩
  rw [← ht]
  have es : (ss ++ [Step.bar]).map sD = ss.map sD ++ [.tup [.str "barrier"]] := by rw [List.map_append]; rfl
  rw [es] at e
  have e1 : (mNew (lN lList (aCons (mV 0) aNil))) [some (.tup (st.map hvD)), some (.tup (ss.map sD ++ [.tup [.str "barrier"]])), none, none, none, none, none] h = .ok (.loc h.length) (h ++ [.lst (st.map hvD)]) := by simp
  have e2 : (mNew (lLst aNil)) [some (.tup (st.map hvD)), some (.tup (ss.map sD ++ [.tup [.str "barrier"]])), some (.loc h.length), none, none, none, none] (h ++ [.lst (st.map hvD)]) = .ok (.loc (h.length + 1)) (h ++ [.lst (st.map hvD), .lst []]) := by simp [b0]
  have eq : b__law_behind = (sSeq (sSet 2 (mNew (lN lList (aCons (mV 0) aNil)))) (sSeq (sSet 3 (mNew (lLst aNil))) (sSeq (sFor (.nm 4) (iSeq (mV 1)) bhB) (sSeq (sRet (mN fTup (aCons (mN fTuple (aCons (mV 2) aNil)) (aCons (mV 3) aNil)))) sNil)))) := rfl
  have ds := d.s
  have eb : b__law_behind [some (.tup (st.map hvD)), some (.tup (ss.map sD ++ [.tup [.str "barrier"]])), none, none, none, none, none] h = .ret (.tup [.tup ((after st ss).map hvD), .loc nw]) h' := by
    rw [eq]
    simp only [v_sSeq, v_sSet, e1, Res.toS_ok, List.set_cons_succ, List.set_cons_zero, SR.andThen_next, e2, v_sFor, v_iSeq, v_mV, List.getElem?_cons_succ, List.getElem?_cons_zero, Res.bind_ok, e, v_sRet, v_mN, v_aCons, v_aNil, v_tuple, v_vSo, ds, v_fTup, List.length_cons, List.length_nil, Nat.zero_add, Nat.reduceAdd, b2, if_true, SR.andThen_ret, hS2]
  simp [m__law_behind, mDefK, eb]
end My
namespace My
open PySem AB L2
/-! the ends as data -/
def sP : Step → PyData
  | .bar => .tuple [.str "barrier"]
  | .wr s v => .tuple [.str "write", .int s, vP v]
def enP : Tree → PyData
  | .say n => .tuple [.str "say", .int n]
  | .mend n ss => .tuple [.str "mend", .int n, .tuple (ss.map sP)]
  | _ => .none
theorem toP_tup {ds : List D} {ps : List PyData} (h : toPs ds = some ps) : toP (.tup ds) = some (.tuple ps) := by
  show (toPs ds).map PyData.tuple = _
  rw [h]
  rfl
theorem toPs_cons {d : D} {ds : List D} {p : PyData} {ps : List PyData} (h1 : toP d = some p) (h2 : toPs ds = some ps) : toPs (d :: ds) = some (p :: ps) := by
  show (match toP d, toPs ds with | some p, some ps => some (p :: ps) | _, _ => none) = _
  rw [h1, h2]
theorem toP_s (x : Step) : toP (sD x) = some (sP x) := by
  cases x with
  | bar => rfl
  | wr s v => exact toP_tup (toPs_cons rfl (toPs_cons rfl (toPs_cons (toP_v v) rfl)))
theorem toPs_ss : ∀ ss : List Step, toPs (ss.map sD) = some (ss.map sP)
  | [] => rfl
  | x :: ss => toPs_cons (toP_s x) (toPs_ss ss)
theorem lay_say : PyData.strOk ("say" : Str) = true := by decide +kernel
theorem lay_mend : PyData.strOk ("mend" : Str) = true := by decide +kernel
theorem lay_bar : PyData.strOk ("barrier" : Str) = true := by decide +kernel
theorem lay_wr : PyData.strOk ("write" : Str) = true := by decide +kernel
theorem lay_s (x : Step) : PyData.canLay0 (sP x) = true := by
  cases x with
  | bar => simp [sP, PyData.canLay0, PyData.canLayAll0, lay_bar]
  | wr s v => simp [sP, PyData.canLay0, PyData.canLayAll0, lay_wr, lay_v]
theorem lay_ss : ∀ ss : List Step, PyData.canLayAll0 (ss.map sP) = true
  | [] => by simp [PyData.canLayAll0]
  | x :: ss => by simp [PyData.canLayAll0, lay_s x, lay_ss ss]
theorem dep_s (x : Step) : PyData.depth (sP x) ≤ 2 := by
  cases x with
  | bar => simp [sP, PyData.depth, PyData.depthAll]
  | wr s v => simp [sP, PyData.depth, PyData.depthAll, dep_v]
theorem dep_ss : ∀ ss : List Step, PyData.depthAll (ss.map sP) ≤ 3
  | [] => by simp [PyData.depthAll]
  | x :: ss => by
    have h1 := dep_s x
    have h2 := dep_ss ss
    simp only [List.map_cons, PyData.depthAll]
    omega
def endNum : Tree → Int
  | .say n => n
  | .mend n _ => n
  | _ => 0
theorem okP_end {sectors : Nat} {t : Tree} (w : EndOk sectors t) (h : AH) : okP h (tD t) = some (enP t) ∧ PyData.canLay0 (enP t) = true := by
  cases w with
  | say n h1 h2 =>
    have e : tD (.say n) = .tup [.str "say", .int n] := by simp [tD]
    have e1 : toPh h (tD (.say n)) = some (enP (.say n)) := by rw [e]; rfl
    have e2 : PyData.canLay0 (enP (.say n)) = true := by simp [enP, PyData.canLay0, PyData.canLayAll0, lay_say]
    refine ⟨?_, e2⟩
    unfold okP
    rw [e1]
    have : PyData.depth (enP (.say n)) = 1 := by simp [enP, PyData.depth, PyData.depthAll]
    simp [SeqAt.shaped, e2, this]
  | mend n ss h1 h2 h3 h4 =>
    have e : tD (.mend n ss) = .tup [.str "mend", .int n, .tup (ss.map sD)] := by simp [tD]
    have e1 : toPh h (tD (.mend n ss)) = some (enP (.mend n ss)) := by
      rw [e]
      exact toP_tup (toPs_cons rfl (toPs_cons rfl (toPs_cons (toP_tup (toPs_ss ss)) rfl)))
    have e2 : PyData.canLay0 (enP (.mend n ss)) = true := by simp [enP, PyData.canLay0, PyData.canLayAll0, lay_mend, lay_ss]
    refine ⟨?_, e2⟩
    unfold okP
    rw [e1]
    have : PyData.depth (enP (.mend n ss)) ≤ 5 := by
      have := dep_ss ss
      simp only [enP, PyData.depth, PyData.depthAll]
      omega
    have e3 : SeqAt.shaped (enP (.mend n ss)) = true := by
      simp [SeqAt.shaped, e2]
      omega
    simp [e3]
theorem ne_end {sectors : Nat} {t : Tree} (w : EndOk sectors t) (h : AH) : fNe (tD t) (tD t) h = .ok (.bl false) h := by
  obtain ⟨e1, e2⟩ := okP_end w h
  unfold fNe
  rw [e1]
  have := PySem.SeqAt.eqv_refl _ e2
  simp [this]
theorem num_end {sectors : Nat} {t : Tree} (w : EndOk sectors t) : ∃ ds, tD t = .tup ds ∧ atI ds 1 = some (.int (endNum t)) := by
  cases w with
  | say n h1 h2 => exact ⟨_, by simp [tD]; rfl, rfl⟩
  | mend n ss h1 h2 h3 h4 => exact ⟨_, by simp [tD]; rfl, rfl⟩
theorem okP_hvT {h : AH} (os : List (Option Val)) : okP h (.tup (os.map hvD)) = some (.tuple (os.map hvP)) := by
  unfold okP
  have e : toPh h (.tup (os.map hvD)) = some (.tuple (os.map hvP)) := toP_tup (toPs_hv os)
  rw [e]
  have := dep_hvs os
  have e3 : SeqAt.shaped (.tuple (os.map hvP)) = true := by
    simp [SeqAt.shaped, PyData.canLay0, PyData.depth, lay_hvs]
    omega
  simp [e3]
theorem ne_hvT {h : AH} (os : List (Option Val)) : fNe (.tup (os.map hvD)) (.tup (os.map hvD)) h = .ok (.bl false) h := by
  unfold fNe
  rw [okP_hvT]
  have := PySem.SeqAt.eqv_refl (.tuple (os.map hvP)) (by simp [PyData.canLay0, lay_hvs])
  simp [this]
/-- all that is asked of a state -/
theorem says_ok {d : Nat} (hd : d ≤ 3) {t : Tree} {st : List (Option Val)} (w : TreeOk st.length d t) (h1 : 1 ≤ st.length) (h2 : st.length ≤ 64) (ws : ∀ o ∈ st, HOkV o) :
    ∃ (e : Tree) (num : Int) (ds : List D), EndOk st.length e ∧ tD e = .tup ds ∧ atI ds 1 = some (.int num) ∧ (∀ h, fNe (tD e) (tD e) h = .ok (.bl false) h) ∧ (∀ h, m__law_led [tD t, .tup (st.map hvD)] h = .ok (tD e) h) ∧
    (∀ h, ∃ t', m_read [tD t, .tup (st.map hvD)] h = .ok (.int num) (h ++ t')) ∧ (∀ h, ∃ t', m_leaf [tD t, .tup (st.map hvD)] h = .ok (tD e) (h ++ t')) ∧
    (∀ h, ∃ t', m_mended [tD t, .tup (st.map hvD)] h = .ok (.tup ((after st (stepsE e)).map hvD)) (h ++ t')) := by
  obtain ⟨as, e, l, hl, he⟩ := led_ex rfl w
  obtain ⟨ds, hds, hn⟩ := num_end he
  have hled := led_ok l (by omega)
  have hchk := check_both_ok hd w h1 h2 ws
  have hst := fun h : AH => check_state_ok (h := h) h1 h2 ws
  have hrd := fun h : AH => check_reader_ok hd w h
  have hll := law_led_ok l w (by omega)
  obtain ⟨hsl, hss⟩ := stepsE_ok he
  refine ⟨e, endNum e, ds, he, hds, hn, ne_end he, hll, fun h => ?_, fun h => ?_, fun h => ?_⟩
  · rw [hds] at hled
    exact ⟨_, by simp [m_read, mDefK, b_read, hchk, hled, hn]; rfl⟩
  · exact ⟨_, by simp [m_leaf, mDefK, b_leaf, hchk, hled]; rfl⟩
  · obtain ⟨t1, e1, d1⟩ := makeM_ok (G := [some (tD t), some (.tup (st.map hvD)), none, none]) (K := st) (i := 1) rfl h1 h2 ws h
    obtain ⟨h2, hh2⟩ : ∃ h2, h2 = (h ++ t1) ++ [AO.lst (as.map fun i : Nat => D.int (i : Int))] := ⟨_, rfl⟩
    have hled1 := hled (h ++ t1)
    rw [← hh2] at hled1
    have hsteps := steps_of_ok he h2
    have d2 : Dsk h2 h.length h.length st 0 := by
      obtain ⟨nK, nW, K, ws', d, hc, hb⟩ := d1.ex
      have g : ∀ (m : Nat) (o : AO), (h ++ t1)[m]? = some o → h2[m]? = some o := fun m o q => by
        rw [hh2, List.getElem?_append_left (lt_of_get q)]
        exact q
      exact ⟨nK, nW, K, ws', ⟨g _ _ d.ins, g _ _ d.kept, g _ _ d.wr, fun x hx => g _ _ (d.cells x hx), d.keys, d.locs, d.nk, d.ne, d.lt, d.lo⟩, hc, hb⟩
    have t2 : h2.take h.length = h := by rw [hh2]; simp
    obtain ⟨G', h', e3, k3, rfl, d3, t3⟩ := AB.for_pre (p := .nm 3) (body := (sSeq (sExpr (mN m_do_step (aCons (mV 2) (aCons (mV 3) aNil)))) sNil)) (all0 := (stepsE e).map sD)
      (fun done G hh => ∃ k3, G = [some (tD t), some (.tup (st.map hvD)), some (.loc h.length), k3] ∧ Dsk hh h.length h.length (after st done) done.length ∧ hh.take h.length = h)
      sD (stepsE e) (stepsE e) [] rfl
      (by
        rintro done x rest ed G hh ⟨k3, rfl, dd, tt⟩
        have hx := hss x (by rw [← ed]; simp)
        have hdl : done.length ≤ (stepsE e).length := by rw [← ed, List.length_append]; omega
        obtain ⟨hh', es, dd', tt'⟩ := do_step_ok dd (by omega) (x := x) (by rw [after_len]; exact hx)
        refine ⟨[some (tD t), some (.tup (st.map hvD)), some (.loc h.length), some (sD x)], [some (tD t), some (.tup (st.map hvD)), some (.loc h.length), some (sD x)], hh', rfl, by simp [es], some (sD x), rfl, ?_, by rw [tt', tt]⟩
        have : after st (done ++ [x]) = stepC (after st done) x := by simp [after]
        rw [this, List.length_append]
        exact dd')
      [some (tD t), some (.tup (st.map hvD)), some (.loc h.length), none] h2 ⟨none, rfl, d2, t2⟩
    have hnow := nowM_ok (G := [some (tD t), some (.tup (st.map hvD)), some (.loc h.length), k3]) (i := 2) d3 (by omega) (by rw [after_len]; omega) rfl
    refine ⟨h'.drop h.length, ?_⟩
    have eh : h' = h ++ h'.drop h.length := by
      conv => lhs; rw [← List.take_append_drop h.length h', t3]
    rw [← eh]
    have c1 : (mN m_check_state (aCons (mV 1) aNil)) [some (tD t), some (.tup (st.map hvD)), none, none] h = .ok .non h := by simp [hst]
    have c2 : (mN m_check_reader (aCons (mN fLen (aCons (mV 1) aNil)) (aCons (mV 0) aNil))) [some (tD t), some (.tup (st.map hvD)), none, none] h = .ok .non h := by simp [hrd]
    have c3 : (iSeq (mN m_steps_of (aCons (mOp2 fIx (mN m_led (aCons (mV 0) (aCons (mV 1) aNil))) (mC (.int 1))) aNil))) [some (tD t), some (.tup (st.map hvD)), some (.loc h.length), none] (h ++ t1) = .ok ((stepsE e).map sD, none) h2 := by
      simp only [v_iSeq, v_mN, v_aCons, v_aNil, v_mOp2, v_mV, v_mC, List.getElem?_cons_succ, List.getElem?_cons_zero, Res.bind_ok, hled1, v_ix, v_vSt, atI_1, hsteps]
    have eq : b_mended = (sSeq (sExpr (mN m_check_state (aCons (mV 1) aNil))) (sSeq (sExpr (mN m_check_reader (aCons (mN fLen (aCons (mV 1) aNil)) (aCons (mV 0) aNil)))) (sSeq (sSet 2 (mMake "Disk" m_Disk___init__ (aCons (mV 1) aNil))) (sSeq (sFor (.nm 3) (iSeq (mN m_steps_of (aCons (mOp2 fIx (mN m_led (aCons (mV 0) (aCons (mV 1) aNil))) (mC (.int 1))) aNil))) (sSeq (sExpr (mN m_do_step (aCons (mV 2) (aCons (mV 3) aNil)))) sNil)) (sSeq (sRet (mMeth [("Disk", m_Disk_now)] "now" (mV 2) aNil)) sNil))))) := rfl
    have eb : b_mended [some (tD t), some (.tup (st.map hvD)), none, none] h = .ret (.tup ((after st (stepsE e)).map hvD)) h' := by
      rw [eq]
      simp only [v_sSeq, v_sExpr, c1, Res.toS_ok, SR.andThen_next, c2, v_sSet, e1, List.set_cons_succ, List.set_cons_zero, v_sFor, c3, e3, v_sRet, hnow, SR.andThen_ret]
    simp [m_mended, mDefK, eb]
end My
namespace My
open PySem AB L2
theorem hvs_of (zs : List (Nat × D)) (h : ∀ z ∈ zs, ∃ o : Option Val, z.2 = hvD o ∧ HOkV o) : ∃ st : List (Option Val), zs.map (·.2) = st.map hvD ∧ (∀ o ∈ st, HOkV o) ∧ st.length = zs.length := by
  induction zs with
  | nil => exact ⟨[], rfl, by simp, rfl⟩
  | cons z zs ih =>
    obtain ⟨v, e, hv, hl⟩ := ih fun y hy => h y (List.mem_cons_of_mem _ hy)
    obtain ⟨k, ek, k0⟩ := h z List.mem_cons_self
    refine ⟨k :: v, by simp [ek, e], fun j hj => ?_, by simp [hl]⟩
    rcases List.mem_cons.mp hj with rfl | hj
    · exact k0
    · exact hv j hj
noncomputable def stM : Me := (mN fTuple (aCons (mL (lComp (.nm 10) [10] (iRange1 (aCons (mV 3) aNil)) tYesM (mN m__law_any (aCons (mV 1) (aCons (mOp2 fAdd (mV 4) (mL (lLst (aCons (mC .non) aNil)))) aNil))))) aNil))
theorem st_ok {cs : List Int} (hc : ∀ c ∈ cs, 0 ≤ c) {P : AO} (hP : IsP cs P) {L : List Val} (hL : ∀ v ∈ L, VOk v) (hl3 : L.length ≤ 3) {sectors : Nat} (h1 : 1 ≤ sectors) (h2 : sectors ≤ 4) (k0 k2 k5 k6 k7 k8 k9 : Option D) (tl : AH) :
    ∃ (P' : AO) (st : List (Option Val)), stM [k0, some (.loc 0), k2, some (.int sectors), some (.lst (L.map vD)), k5, k6, k7, k8, k9, none] (P :: tl) = .ok (.tup (st.map hvD)) (P' :: tl) ∧ IsP cs P' ∧ st.length = sectors ∧ ∀ o ∈ st, HOkV o := by
  obtain ⟨zs, h', e2, ⟨P2, hP2, rfl⟩, e3, hz⟩ := comp_gen (p := .nm 10) (e := (mN m__law_any (aCons (mV 1) (aCons (mOp2 fAdd (mV 4) (mL (lLst (aCons (mC .non) aNil)))) aNil)))) (all0 := (List.range sectors).map fun i : Nat => D.int (i : Int))
    (G0 := [k0, some (.loc 0), k2, some (.int sectors), some (.lst (L.map vD)), k5, k6, k7, k8, k9, none]) (I := fun h => ∃ P', IsP cs P' ∧ h = P' :: tl)
    (R := fun (_ : Nat) d => ∃ o : Option Val, d = hvD o ∧ HOkV o) (fun i : Nat => D.int (i : Int)) (List.range sectors)
    (by
      rintro i hi h ⟨P', hP', rfl⟩
      obtain ⟨x, P2, e, hP2, hx⟩ := any_ok hc hP' (L.map vD ++ [.non]) (by simp) (by simp; omega) tl
      have b1 : (1 : Nat) ≤ big := by decide
      have l2 : L.length + 1 ≤ big := by rw [big_eq]; omega
      refine ⟨_, x, P2 :: tl, rfl, by simp [b1, l2, e], ⟨P2, hP2, rfl⟩, ?_⟩
      rcases List.mem_append.mp hx with hx | hx
      · obtain ⟨v, hv, rfl⟩ := List.mem_map.mp hx
        exact ⟨some v, rfl, hL v hv⟩
      · rw [List.mem_singleton.mp hx]
        exact ⟨none, rfl, trivial⟩)
    (P :: tl) ⟨P, hP, rfl⟩
  obtain ⟨st, ev, hv, hl⟩ := hvs_of zs hz
  have lz : zs.length = sectors := by
    have := congrArg List.length e3
    simpa using this
  have er : rangeD 0 sectors = (List.range sectors).map fun i : Nat => D.int (i : Int) := rangeD_eq sectors
  have c1 : okR (sectors : Int) := ⟨by omega, by omega⟩
  have c4 : sectors ≤ big := by rw [big_eq]; omega
  rw [ev] at e2
  refine ⟨P2, st, ?_, hP2, by omega, hv⟩
  simp [stM, c1, er, c4, wipeG, e2]
noncomputable abbrev tB : Ms := (sSeq (sSet 3 (mOp2 fAdd (mC (.int 1)) (mN m__law_draw (aCons (mV 1) (aCons (mC (.int 4)) aNil))))) (sSeq (sSet 4 (mL (lN m__law_pool (aCons (mV 1) aNil)))) (sSeq (sSet 5 stM) (sSeq (sSet 6 (mN (m__law_reader 20) (aCons (mV 1) (aCons (mV 4) (aCons (mV 3) (aCons (mC (.int 3)) (aCons (mC (.int 5)) (aCons (mOp2 fAdd (mC (.int 2)) (mN m__law_draw (aCons (mV 1) (aCons (mC (.int 2)) aNil)))) aNil)))))))) (sSeq (sSet 7 (mN m__law_led (aCons (mV 6) (aCons (mV 5) aNil)))) (sSeq (sAsg (.tp [(.nm 8), (.nm 9)]) (mN m__law_behind (aCons (mV 5) (aCons (mOp2 fAdd (mN m__law_mends (aCons (mV 7) aNil)) (mN fTup (aCons (mN fTup (aCons (mC (.str "barrier")) aNil)) aNil))) aNil)))) (sSeq (sIf (tOrM (tBl (mOp2 fNe (mN m_mended (aCons (mV 6) (aCons (mV 5) aNil))) (mV 8))) (tOrM (tBl (mOp2 fNe (mN m_leaf (aCons (mV 6) (aCons (mV 5) aNil))) (mV 7))) (tBl (mOp2 fNe (mN m_read (aCons (mV 6) (aCons (mV 5) aNil))) (mOp2 fIx (mV 7) (mC (.int 1))))))) (sSeq (sRet (mC (.bl false))) sNil) sNil) (sSeq (sIf (tAndM (tBl (mOp2 fEq (mOp2 fIx (mV 7) (mC (.int 0))) (mC (.str "say")))) (tBl (mOp2 fNe (mN m_mended (aCons (mV 6) (aCons (mV 5) aNil))) (mV 5)))) (sSeq (sRet (mC (.bl false))) sNil) sNil) sNil))))))))
theorem eq_ms {h : AH} : fEq (.str "mend") (.str "say") h = .ok (.bl false) h := eq_s2
theorem turn_ok {cs : List Int} (hc : ∀ c ∈ cs, 0 ≤ c) {P : AO} (hP : IsP cs P) (tl : AH) (k0 k2 k3 k4 k5 k6 k7 k8 k9 : Option D) :
    ∃ a3 a4 a5 a6 a7 a8 a9 P' tl', tB [k0, some (.loc 0), k2, k3, k4, k5, k6, k7, k8, k9, none] (P :: tl) = .next [k0, some (.loc 0), k2, a3, a4, a5, a6, a7, a8, a9, none] (P' :: tl') ∧ IsP cs P' := by
  obtain ⟨r, P1, e1, hP1, r0, r1⟩ := draw_ok hc hP (many := 4) (by omega) (by omega) tl
  obtain ⟨sectors, hsec⟩ : ∃ k : Nat, (1 : Int) + r = k := ⟨(1 + r).toNat, by omega⟩
  obtain ⟨L, P2, e2, hP2, hL, hnd, hl1, hl3⟩ := pool_ok hc hP1 tl
  obtain ⟨P3, st, e3, hP3, hsl, hst⟩ := st_ok hc hP2 hL hl3 (sectors := sectors) (by omega) (by omega) k0 k2 k5 k6 k7 k8 k9 tl
  obtain ⟨r4, P4, e4, hP4, r40, r41⟩ := draw_ok hc hP3 (many := 2) (by omega) (by omega) tl
  obtain ⟨t, P5, e5, hP5, ht⟩ := reader_ok hc hL hnd hl1 hl3 (sectors := sectors) (by omega) (by omega) (most := 5) (by omega) (by omega) (2 + r4) tl 3 20 (by omega) 3 rfl P4 hP4
  subst hsl
  obtain ⟨e, num, ds, he, hds, hnum, hne, hled, hread, hleaf, hmend⟩ := says_ok (by omega) ht (by omega) (by omega) hst
  obtain ⟨hsl2, hss⟩ := stepsE_ok he
  obtain ⟨t6, wd, e6⟩ := behind_ok hss (by omega) (P5 :: tl)
  have hme := mends_ok he (P5 :: tl)
  obtain ⟨t7, e7⟩ := hmend ((P5 :: tl) ++ t6)
  obtain ⟨t8, e8⟩ := hleaf (((P5 :: tl) ++ t6) ++ t7)
  obtain ⟨t9, e9⟩ := hread ((((P5 :: tl) ++ t6) ++ t7) ++ t8)
  obtain ⟨t10, e10⟩ := hmend (((((P5 :: tl) ++ t6) ++ t7) ++ t8) ++ t9)
  have b1 : (1 : Nat) ≤ big := by decide
  have l20 : (stepsE e).length + 1 ≤ big := by rw [big_eq]; omega
  have c7 : (mN fTup (aCons (mN fTup (aCons (mC (.str "barrier")) aNil)) aNil)) [k0, some (.loc 0), k2, some (.int (st.length : Int)), some (.lst (L.map vD)), some (.tup (st.map hvD)), some (tD t), some (tD e), k8, k9, none] (P5 :: tl) = .ok (.tup [.tup [.str "barrier"]]) (P5 :: tl) := by simp [b1]
  have c8 : fAdd (.tup ((stepsE e).map sD)) (.tup [.tup [.str "barrier"]]) (P5 :: tl) = .ok (.tup ((stepsE e).map sD ++ [.tup [.str "barrier"]])) (P5 :: tl) := by
    rw [v_addT, if_pos (by simpa using l20)]
  obtain ⟨tE, htE⟩ : ∃ d, d = tD t := ⟨_, rfl⟩
  have hasg : asg (.tp [(.nm 8), (.nm 9)]) (.tup [.tup ((after st (stepsE e)).map hvD), wd]) [k0, some (.loc 0), k2, some (.int (st.length : Int)), some (.lst (L.map vD)), some (.tup (st.map hvD)), some (tD t), some (tD e), k8, k9, none] = some [k0, some (.loc 0), k2, some (.int (st.length : Int)), some (.lst (L.map vD)), some (.tup (st.map hvD)), some (tD t), some (tD e), some (.tup ((after st (stepsE e)).map hvD)), some wd, none] := rfl
  have hx1 : ∀ h : AH, fIx (tD e) (.int 1) h = .ok (.int num) h := fun h => by rw [hds]; simp [hnum]
  obtain ⟨H9, hH9⟩ : ∃ H, H = ((((P5 :: tl) ++ t6) ++ t7) ++ t8) ++ t9 := ⟨_, rfl⟩
  rw [← hH9] at e9 e10
  have last : ∃ t', (sIf (tAndM (tBl (mOp2 fEq (mOp2 fIx (mV 7) (mC (.int 0))) (mC (.str "say")))) (tBl (mOp2 fNe (mN m_mended (aCons (mV 6) (aCons (mV 5) aNil))) (mV 5)))) (sSeq (sRet (mC (.bl false))) sNil) sNil) [k0, some (.loc 0), k2, some (.int (st.length : Int)), some (.lst (L.map vD)), some (.tup (st.map hvD)), some (tD t), some (tD e), some (.tup ((after st (stepsE e)).map hvD)), some wd, none] H9
      = .next [k0, some (.loc 0), k2, some (.int (st.length : Int)), some (.lst (L.map vD)), some (.tup (st.map hvD)), some (tD t), some (tD e), some (.tup ((after st (stepsE e)).map hvD)), some wd, none] (H9 ++ t') := by
    cases he with
    | say n h1 h2 =>
      have hy : fIx (tD (.say n)) (.int 0) H9 = .ok (.str "say") H9 := by simp [tD]
      have e10' : m_mended [tD t, .tup (st.map hvD)] H9 = .ok (.tup (st.map hvD)) (H9 ++ t10) := e10
      refine ⟨t10, ?_⟩
      simp only [v_sIf, v_tAnd, v_tBl, v_mOp2, v_mV, v_mC, List.getElem?_cons_succ, List.getElem?_cons_zero, Res.bind_ok, hy, eq_s1, if_true, v_mN, v_aCons, v_aNil, e10', ne_hvT, Res.toS_ok, Bool.false_eq_true, if_false, v_sNil]
    | mend n ss h1 h2 h3 h4 =>
      have hy : fIx (tD (.mend n ss)) (.int 0) H9 = .ok (.str "mend") H9 := by simp [tD]
      refine ⟨[], ?_⟩
      simp only [v_sIf, v_tAnd, v_tBl, v_mOp2, v_mV, v_mC, List.getElem?_cons_succ, List.getElem?_cons_zero, Res.bind_ok, hy, eq_ms, Bool.false_eq_true, if_false, Res.toS_ok, v_sNil, List.append_nil]
  obtain ⟨tl', hlast⟩ := last
  have hfin : H9 ++ tl' = P5 :: (tl ++ t6 ++ t7 ++ t8 ++ t9 ++ tl') := by rw [hH9]; simp
  rw [hfin] at hlast
  refine ⟨some (.int (st.length : Int)), some (.lst (L.map vD)), some (.tup (st.map hvD)), some (tD t), some (tD e), some (.tup ((after st (stepsE e)).map hvD)), some wd, P5, tl ++ t6 ++ t7 ++ t8 ++ t9 ++ tl', ?_, hP5⟩
  simp only [tB, v_sSeq, v_sSet, v_mOp2, v_mC, v_mN, v_aCons, v_aNil, v_mV, List.getElem?_cons_succ, List.getElem?_cons_zero, Res.bind_ok, e1, v_add, hsec, Res.toS_ok, List.set_cons_succ, List.set_cons_zero, SR.andThen_next, v_mL, v_lN, e2]
  simp only [e3, Res.toS_ok, List.set_cons_succ, List.set_cons_zero, SR.andThen_next, v_sSeq, v_sSet, v_mN, v_aCons, v_aNil, v_mV, v_mC, v_mOp2, List.getElem?_cons_succ, List.getElem?_cons_zero, Res.bind_ok, e4, v_add, e5, hled, v_sAsg, hme]
  simp only [v_fTup, List.length_cons, List.length_nil, Nat.zero_add, b1, if_true, Res.bind_ok, c8, e6, Res.toS_ok, hasg, SR.andThen_next]
  have c9 : (tOrM (tBl (mOp2 fNe (mN m_mended (aCons (mV 6) (aCons (mV 5) aNil))) (mV 8))) (tOrM (tBl (mOp2 fNe (mN m_leaf (aCons (mV 6) (aCons (mV 5) aNil))) (mV 7))) (tBl (mOp2 fNe (mN m_read (aCons (mV 6) (aCons (mV 5) aNil))) (mOp2 fIx (mV 7) (mC (.int 1))))))) [k0, some (.loc 0), k2, some (.int (st.length : Int)), some (.lst (L.map vD)), some (.tup (st.map hvD)), some (tD t), some (tD e), some (.tup ((after st (stepsE e)).map hvD)), some wd, none] (P5 :: tl ++ t6) = .ok false H9 := by
    simp only [v_tOr, v_tBl, v_mOp2, v_mN, v_aCons, v_aNil, v_mV, v_mC, List.getElem?_cons_succ, List.getElem?_cons_zero, Res.bind_ok, e7, ne_hvT, Bool.false_eq_true, if_false, e8, hne, e9, hx1, v_ne, decide_true, Bool.not_true]
  rw [v_sSeq, v_sIf, c9]
  simp only [Res.toS_ok, Bool.false_eq_true, if_false, v_sNil, SR.andThen_next, v_sSeq, hlast]
theorem law_true : ∀ ns : List Int, ns.length ≤ 63 → ∃ h, m_law [.rol (ns.map D.int)] [] = .ok (.bl true) h := by
  intro ns hns
  obtain ⟨cs, hc, s, ep⟩ := hand_ok ns hns
  have hP : IsP cs (.lst [.lst (cs.map .int), .int 0, .int 0, .int s, .int 0]) := ⟨0, 0, s, 0, rfl, by omega, by omega, by omega⟩
  have er : rangeD 0 5 = (List.range 5).map fun i : Nat => D.int (i : Int) := rangeD_eq 5
  have c1 : okR (5 : Int) := ⟨by decide, by decide⟩
  obtain ⟨G', h', e5, x2, x3, x4, x5, x6, x7, x8, x9, P', tl, rfl, rfl, hP'⟩ := for_inv (p := .nm 2) (body := tB) (all0 := (List.range 5).map fun i : Nat => D.int (i : Int))
    (fun G h => ∃ x2 x3 x4 x5 x6 x7 x8 x9 P tl, G = [some (.rol (ns.map .int)), some (.loc 0), x2, x3, x4, x5, x6, x7, x8, x9, none] ∧ h = P :: tl ∧ IsP cs P)
    (fun i : Nat => D.int (i : Int)) (List.range 5)
    (by
      rintro i hi G h ⟨x2, x3, x4, x5, x6, x7, x8, x9, P, tl, rfl, rfl, hP⟩
      obtain ⟨y3, y4, y5, y6, y7, y8, y9, P', tl', e, hP'⟩ := turn_ok hc hP tl (some (.rol (ns.map .int))) (some (.int i)) x3 x4 x5 x6 x7 x8 x9
      exact ⟨_, _, _, rfl, e, some (.int i), y3, y4, y5, y6, y7, y8, y9, P', tl', rfl, rfl, hP'⟩)
    [some (.rol (ns.map .int)), some (.loc 0), none, none, none, none, none, none, none, none, none] [.lst [.lst (cs.map .int), .int 0, .int 0, .int s, .int 0]] ⟨none, none, none, none, none, none, none, none, _, [], rfl, rfl, hP⟩
  have ei : iRange1 (aCons (mC (.int 5)) aNil) [some (.rol (ns.map .int)), some (.loc 0), none, none, none, none, none, none, none, none, none] [.lst [.lst (cs.map .int), .int 0, .int 0, .int s, .int 0]] = .ok ((List.range 5).map fun i : Nat => D.int (i : Int), none) [.lst [.lst (cs.map .int), .int 0, .int 0, .int s, .int 0]] := by
    rw [v_range1]
    simp only [v_aCons, v_aNil, v_mC, Res.bind_ok, c1, if_true]
    show Res.ok (rangeD 0 5, none) _ = _
    rw [er]
  have e1 : (mNew (lN m__law_hand (aCons (mV 0) aNil))) [some (.rol (ns.map .int)), none, none, none, none, none, none, none, none, none, none] [] = .ok (.loc 0) [.lst [.lst (cs.map .int), .int 0, .int 0, .int s, .int 0]] := by
    simp only [v_mNew, v_lN, v_aCons, v_aNil, v_mV, List.getElem?_cons_zero, Res.bind_ok, ep]
    rfl
  have eb : b_law = sSeq (sSet 1 (mNew (lN m__law_hand (aCons (mV 0) aNil)))) (sSeq (sFor (.nm 2) (iRange1 (aCons (mC (.int 5)) aNil)) tB) (sSeq (sRet (mC (.bl true))) sNil)) := rfl
  have ebody : b_law [some (.rol (ns.map .int)), none, none, none, none, none, none, none, none, none, none] [] = .ret (.bl true) (P' :: tl) := by
    rw [eb]
    simp only [v_sSeq, v_sSet, e1, Res.toS_ok, SR.andThen_next, List.set_cons_succ, List.set_cons_zero, v_sFor, ei, e5, v_sRet, v_mC, SR.andThen_ret]
  have fin : finD 0 [] (D.bl true) (P' :: tl) = .ok (.bl true) [] := finD_app [] (P' :: tl) _ rfl
  refine ⟨[], ?_⟩
  have em : m_law [.rol (ns.map D.int)] [] = (match b_law [some (.rol (ns.map .int)), none, none, none, none, none, none, none, none, none, none] [] with
    | .next _ h1 => finD 0 [] .non h1
    | .ret d h1 => finD 0 [] d h1
    | .exc c fs _ h1 => finX 0 [] c fs h1
    | _ => .stuck) := by
    unfold m_law mDef
    rw [if_pos (show [D.rol (List.map D.int ns)].length = 1 from rfl)]
    rfl
  rw [em, ebody]
  exact fin
end My
namespace My
open PySem PySem.Spec PyProof.Rows L2 AB
def topS (i : Nat) : Stmt := PySem.Challenge.pw_tornsectors_k59_whole_mended_states.main.body.getD i (.Pass ⟨0, 0, 0, 0⟩)
structure Txt (K : PySem.W.Frag) (mg : Str → Option Value) : Prop where
  b_abs : mg "abs" = none
  b_all : mg "all" = none
  b_bool : mg "bool" = none
  b_int : mg "int" = none
  b_isinstance : mg "isinstance" = none
  b_len : mg "len" = none
  b_list : mg "list" = none
  b_range : mg "range" = none
  b_sorted : mg "sorted" = none
  b_str : mg "str" = none
  b_tuple : mg "tuple" = none
  b_zip : mg "zip" = none
  g_MOST_CASES : ∃ t : Tok, mg "MOST_CASES" = some (.int 16 t)
  g_MOST_DEEP : ∃ t : Tok, mg "MOST_DEEP" = some (.int 12 t)
  g_MOST_ITEM : ∃ t : Tok, mg "MOST_ITEM" = some (.int 1000000000000 t)
  g_MOST_ITEMS : ∃ t : Tok, mg "MOST_ITEMS" = some (.int 32 t)
  g_MOST_SAID : ∃ t : Tok, mg "MOST_SAID" = some (.int 1000000000 t)
  g_MOST_SECTORS : ∃ t : Tok, mg "MOST_SECTORS" = some (.int 64 t)
  g_MOST_STEPS : ∃ t : Tok, mg "MOST_STEPS" = some (.int 20 t)
  g_MOST_TREES : ∃ t : Tok, mg "MOST_TREES" = some (.int 400 t)
  f_Disk_kept : FldOk K "Disk" "kept"
  f_Disk_watcher : FldOk K "Disk" "watcher"
  f_Disk_writes : FldOk K "Disk" "writes"
section
variable {P : Program} {w : World} {K : PySem.W.Frag} {mg : Str → Option Value} {base : Heap}
theorem sc__law_hand : FnScope ["script", "cells", "cell"] ["script"] (defScope (topS 46)) := ⟨rfl, rfl, rfl, by decide +kernel, rfl, by decide +kernel, by decide +kernel⟩
theorem ok__law_hand {f : Addr} {fd : FuncData} (F : Fun K "_law_hand" "_law_hand" (topS 46) f fd) (T : Txt K mg)  : FnOk P w K mg base (L2.CX P w) 1 f fd ["script"] (spL K mg m__law_hand) :=
  fn_okL F sc__law_hand b__law_hand fun cdv A outer s H E hr =>
    (s_seq (s_setLc (own := [("cell", 2)]) 1 (.nm 2) (fun _ _ _ => L_read)  sc__law_hand.nd (i_seq (e_sl (e_var 0) o_none (o_some e_int))) (blkOk_by (by rfl)) (fun _ _ _ _ _ => (pg_nmP (i := 2) sc__law_hand.nd rfl)) (fun _ _ _ _ _ => p_yes) (fun _ _ _ _ _ => (e_abs T.b_abs (a_cons (e_int1 T.b_int (a_cons (e_var 2) a_nil)) a_nil))) (by decide)) (s_seq (s_ret (e_new (f_lst (a_cons (e_var 1) (a_cons e_int (a_cons e_int (a_cons (e_bin op_add3 fol_add e_int (e_len T.b_len (a_cons (e_var 1) a_nil))) (a_cons e_int a_nil)))))))) s_nil))
theorem sc__law_draw : FnScope ["hand", "many", "cell", "digit", "number"] ["hand", "many"] (defScope (topS 47)) := ⟨rfl, rfl, rfl, by decide +kernel, rfl, by decide +kernel, by decide +kernel⟩
theorem ok__law_draw {f : Addr} {fd : FuncData} (F : Fun K "_law_draw" "_law_draw" (topS 47) f fd) (T : Txt K mg)  : FnOk P w K mg base (L2.CX P w) 1 f fd ["hand", "many"] (spM K mg m__law_draw) :=
  fn_ok F sc__law_draw b__law_draw fun cdv A outer s H E hr =>
    (s_seq (s_if (w_and (t_cmp (op_eqD (hu64 hr)) fol_eq (e_ix (e_var 0) e_int) e_int) (w_one .And (t_cmp (op_cLt (hu65 hr)) fol_cLt (e_ix (e_var 0) e_int) (e_len T.b_len (a_cons (e_ix (e_var 0) e_int) a_nil))))).pt (s_seq (s_set 2 (e_ix (e_ix (e_var 0) e_int) (e_ix (e_var 0) e_int)) sc__law_draw.nd) (s_seq (s_sub (e_bin op_add3 fol_add (e_ix (e_var 0) e_int) e_int) (e_var 0) e_int) (s_seq (s_sub (e_bin op_mod fol_mod (e_int1 T.b_int (a_cons (e_bin op_add3 fol_add (e_bin op_add3 fol_add (e_bin op_mul fol_mul (e_ix (e_var 0) e_int) e_int) (e_var 2)) e_int) a_nil)) e_int) (e_var 0) e_int) (s_seq (s_if (t_cmp (op_cGe (hu65 hr)) fol_cGe (e_var 2) (e_bin op_pow fol_pow e_int e_int)) (s_seq (s_sub (e_var 2) (e_var 0) e_int) s_nil) s_nil) s_nil)))) s_nil) (s_seq (s_if (t_cmp (op_cGt (hu65 hr)) fol_cGt (e_ix (e_var 0) e_int) e_int) (s_seq (s_set 3 (e_bin op_mod fol_mod (e_int1 T.b_int (a_cons (e_ix (e_var 0) e_int) a_nil)) (e_var 1)) sc__law_draw.nd) (s_seq (s_sub (e_bin op_fdivW fol_div (e_ix (e_var 0) e_int) (e_var 1)) (e_var 0) e_int) (s_seq (s_ret (e_var 3)) s_nil))) s_nil) (s_seq (s_sub (e_bin op_add3 fol_add (e_ix (e_var 0) e_int) e_int) (e_var 0) e_int) (s_seq (s_set 4 (e_bin op_mod fol_mod (e_int1 T.b_int (a_cons (e_bin op_mul fol_mul (e_int1 T.b_int (a_cons (e_bin op_add3 fol_add (e_ix (e_var 0) e_int) (e_bin op_mul fol_mul e_int (e_ix (e_var 0) e_int))) a_nil)) e_int) a_nil)) e_int) sc__law_draw.nd) (s_seq (s_set 4 (e_bin op_mod fol_mod (e_int1 T.b_int (a_cons (e_bin op_mul fol_mul (e_var 4) (e_bin op_add3 fol_add (e_bin op_fdivW fol_div (e_var 4) e_int) e_int)) a_nil)) e_int) sc__law_draw.nd) (s_seq (s_set 4 (e_bin op_mod fol_mod (e_int1 T.b_int (a_cons (e_bin op_mul fol_mul (e_var 4) (e_bin op_add3 fol_add (e_bin op_fdivW fol_div (e_var 4) e_int) e_int)) a_nil)) e_int) sc__law_draw.nd) (s_seq (s_ret (e_bin op_mod fol_mod (e_int1 T.b_int (a_cons (e_bin op_fdivW fol_div (e_var 4) e_int) a_nil)) (e_var 1))) s_nil)))))))
theorem sc__law_led : FnScope ["reader", "state", "tree", "turn", "there", "thing", "other"] ["reader", "state"] (defScope (topS 53)) := ⟨rfl, rfl, rfl, by decide +kernel, rfl, by decide +kernel, by decide +kernel⟩
theorem ok__law_led {f : Addr} {fd : FuncData} (F : Fun K "_law_led" "_law_led" (topS 53) f fd) (T : Txt K mg)  : FnOk P w K mg base (L2.CX P w) 1 f fd ["reader", "state"] (spM K mg m__law_led) :=
  fn_ok F sc__law_led b__law_led fun cdv A outer s H E hr =>
    (s_seq (s_set 2 (e_var 0) sc__law_led.nd) (s_seq (s_for (p := (.nm 3)) (passes_of rfl) (i_range1 T.b_range (a_cons e_int a_nil)) (pg_nmP (i := 3) sc__law_led.nd rfl) (s_seq (s_if (t_cmp (op_eqD (hu64 hr)) fol_eq (e_ix (e_var 2) e_int) e_str) (s_seq (s_set 4 (e_ix (e_var 2) e_int) sc__law_led.nd) (s_seq (s_for (p := (.tp [(.nm 5), (.nm 6)])) (passes_of rfl) (i_seq (e_ix (e_var 2) e_int)) (pg_tpP rfl (pgs_consP (pg_nmP (i := 5) sc__law_led.nd rfl) (pgs_consP (pg_nmP (i := 6) sc__law_led.nd rfl) pgs_nilP))) (s_seq (s_if (t_cmp (op_eqD (hu64 hr)) fol_eq (e_var 5) (e_ix (e_var 1) (e_ix (e_var 2) e_int))) (s_seq (s_set 4 (e_var 6) sc__law_led.nd) s_nil) s_nil) s_nil)) (s_seq (s_set 2 (e_var 4) sc__law_led.nd) s_nil))) s_nil) s_nil)) (s_seq (s_ret (e_var 2)) s_nil)))
theorem sc__law_behind : FnScope ["state", "steps", "settled", "waiting", "step", "sector", "value"] ["state", "steps"] (defScope (topS 54)) := ⟨rfl, rfl, rfl, by decide +kernel, rfl, by decide +kernel, by decide +kernel⟩
theorem ok__law_behind {f : Addr} {fd : FuncData} (F : Fun K "_law_behind" "_law_behind" (topS 54) f fd) (T : Txt K mg)  : FnOk P w K mg base (L2.CX P w) 1 f fd ["state", "steps"] (spM K mg m__law_behind) :=
  fn_okK F sc__law_behind b__law_behind fun cdv A outer s H E hr =>
    (s_seq (s_set 2 (e_new (f_list T.b_list (a_cons (e_var 0) a_nil))) sc__law_behind.nd) (s_seq (s_set 3 (e_new (f_lst a_nil)) sc__law_behind.nd) (s_seq (s_for (p := (.nm 4)) (passes_of rfl) (i_seq (e_var 1)) (pg_nmP (i := 4) sc__law_behind.nd rfl) (s_seq (s_if (t_cmp (op_eqD (hu64 hr)) fol_eq (e_ix (e_var 4) e_int) e_str) (s_seq (s_expr (e_app (e_var 3) (a_cons (e_tup (a_cons (e_ix (e_var 4) e_int) (a_cons (e_ix (e_var 4) e_int) a_nil))) a_nil))) s_nil) s_nil) (s_seq (s_if (t_cmp (op_eqD (hu64 hr)) fol_eq (e_ix (e_var 4) e_int) e_str) (s_seq (s_for (p := (.tp [(.nm 5), (.nm 6)])) (passes_of rfl) (i_seq (e_var 3)) (pg_tpP rfl (pgs_consP (pg_nmP (i := 5) sc__law_behind.nd rfl) (pgs_consP (pg_nmP (i := 6) sc__law_behind.nd rfl) pgs_nilP))) (s_seq (s_sub (e_var 6) (e_var 2) (e_var 5)) s_nil)) (s_seq (s_set 3 (e_new (f_lst a_nil)) sc__law_behind.nd) s_nil)) s_nil) s_nil))) (s_seq (s_ret (e_tup (a_cons (e_tuple T.b_tuple (a_cons (e_var 2) a_nil)) (a_cons (e_var 3) a_nil)))) s_nil))))
theorem sc__law_mends : FnScope ["end"] ["end"] (defScope (topS 55)) := ⟨rfl, rfl, rfl, by decide +kernel, rfl, by decide +kernel, by decide +kernel⟩
theorem ok__law_mends {f : Addr} {fd : FuncData} (F : Fun K "_law_mends" "_law_mends" (topS 55) f fd) (T : Txt K mg)  : FnOk P w K mg base (L2.CX P w) 1 f fd ["end"] (spM K mg m__law_mends) :=
  fn_ok F sc__law_mends b__law_mends fun cdv A outer s H E hr =>
    (s_seq (s_ret (e_if (t_cmp (op_eqD (hu64 hr)) fol_eq (e_ix (e_var 0) e_int) e_str) (e_ix (e_var 0) e_int) (e_tup a_nil))) s_nil)
theorem sc_is_integer : FnScope ["thing"] ["thing"] (defScope (topS 11)) := ⟨rfl, rfl, rfl, by decide +kernel, rfl, by decide +kernel, by decide +kernel⟩
theorem ok_is_integer {f : Addr} {fd : FuncData} (F : Fun K "is_integer" "is_integer" (topS 11) f fd) (T : Txt K mg)  : FnOk P w K mg base (L2.CX P w) 1 f fd ["thing"] (spM K mg m_is_integer) :=
  fn_ok F sc_is_integer b_is_integer fun cdv A outer s H E hr =>
    (s_seq (s_ret (e_and (e_isi .int T.b_isinstance T.b_int (e_var 0)) (e_one (e_not (e_isi .bl T.b_isinstance T.b_bool (e_var 0)))))) s_nil)
theorem sc_rank : FnScope ["thing"] ["thing"] (defScope (topS 16)) := ⟨rfl, rfl, rfl, by decide +kernel, rfl, by decide +kernel, by decide +kernel⟩
theorem ok_rank {f : Addr} {fd : FuncData} (F : Fun K "rank" "rank" (topS 16) f fd) (T : Txt K mg)  : FnOk P w K mg base (L2.CX P w) 1 f fd ["thing"] (spM K mg m_rank) :=
  fn_ok F sc_rank b_rank fun cdv A outer s H E hr =>
    (s_seq (s_if (t_cmp op_isN fol_isN (e_var 0) e_non) (s_seq (s_ret (e_tup (a_cons e_int (a_cons (e_tup a_nil) a_nil)))) s_nil) s_nil) (s_seq (s_ret (e_tup (a_cons e_int (a_cons (e_var 0) a_nil)))) s_nil))
theorem sc_inner : FnScope ["tree", "pair"] ["tree"] (defScope (topS 32)) := ⟨rfl, rfl, rfl, by decide +kernel, rfl, by decide +kernel, by decide +kernel⟩
theorem ok_inner {f : Addr} {fd : FuncData} (F : Fun K "inner" "inner" (topS 32) f fd) (T : Txt K mg)  : FnOk P w K mg base (L2.CX P w) 1 f fd ["tree"] (spM K mg m_inner) :=
  fn_ok F sc_inner b_inner fun cdv A outer s H E hr =>
    (s_seq (s_ret (e_bin op_add3 fol_add (e_L (f_lc (own := [("pair", 1)]) (.nm 1) sc_inner.nd (i_seq (e_ix (e_var 0) e_int)) (blkOk_by (by rfl)) (fun _ _ _ _ _ => (pg_nmP (i := 1) sc_inner.nd rfl)) (fun _ _ _ _ _ => p_yes) (fun _ _ _ _ _ => (e_ix (e_var 1) e_int)) (by decide))) (e_L (f_lst (a_cons (e_ix (e_var 0) e_int) a_nil))))) s_nil)
theorem sc_steps_of : FnScope ["end"] ["end"] (defScope (topS 43)) := ⟨rfl, rfl, rfl, by decide +kernel, rfl, by decide +kernel, by decide +kernel⟩
theorem ok_steps_of {f : Addr} {fd : FuncData} (F : Fun K "steps_of" "steps_of" (topS 43) f fd) (T : Txt K mg)  : FnOk P w K mg base (L2.CX P w) 1 f fd ["end"] (spM K mg m_steps_of) :=
  fn_ok F sc_steps_of b_steps_of fun cdv A outer s H E hr =>
    (s_seq (s_if (t_cmp (op_eqD (hu64 hr)) fol_eq (e_ix (e_var 0) e_int) e_str) (s_seq (s_ret (e_ix (e_var 0) e_int)) s_nil) s_nil) (s_seq (s_ret (e_tup a_nil)) s_nil))
theorem sc_Disk_now : FnScope ["self", "found", "sector", "values"] ["self"] (defScope (inClass (topS 21) 4)) := ⟨rfl, rfl, rfl, by decide +kernel, rfl, by decide +kernel, by decide +kernel⟩
theorem ok_Disk_now {f : Addr} {fd : FuncData} (F : Fun K "now" "Disk.now" (inClass (topS 21) 4) f fd) (T : Txt K mg)  : FnOk P w K mg base (L2.CX P w) 1 f fd ["self"] (spM K mg m_Disk_now) :=
  fn_ok F sc_Disk_now b_Disk_now fun cdv A outer s H E hr =>
    (s_seq (s_set 1 (e_new (f_list T.b_list (a_cons (e_fld ["Disk"] (e_var 0) (AllC.c T.f_Disk_kept AllC.n)) a_nil))) sc_Disk_now.nd) (s_seq (s_forItems (p := (.tp [(.nm 2), (.nm 3)])) (passes_of rfl) (e_fld ["Disk"] (e_var 0) (AllC.c T.f_Disk_writes AllC.n)) (pg_tpP rfl (pgs_consP (pg_nmP (i := 2) sc_Disk_now.nd rfl) (pgs_consP (pg_nmP (i := 3) sc_Disk_now.nd rfl) pgs_nilP))) (s_seq (s_sub (e_ix (e_var 3) (e_un un_neg fol_neg e_int)) (e_var 1) (e_var 2)) s_nil)) (s_seq (s_ret (e_tuple T.b_tuple (a_cons (e_var 1) a_nil))) s_nil)))
theorem sc_Disk_tell : FnScope ["self"] ["self"] (defScope (inClass (topS 21) 3)) := ⟨rfl, rfl, rfl, by decide +kernel, rfl, by decide +kernel, by decide +kernel⟩
theorem ok_Disk_tell {f : Addr} {fd : FuncData} (F : Fun K "tell" "Disk.tell" (inClass (topS 21) 3) f fd) (T : Txt K mg)  : FnOk P w K mg base (L2.CX P w) 1 f fd ["self"] (spM K mg m_Disk_tell) :=
  fn_okK F sc_Disk_tell b_Disk_tell fun cdv A outer s H E hr =>
    (s_seq (s_if (t_cmp op_notN fol_notN (e_fld ["Disk"] (e_var 0) (AllC.c T.f_Disk_watcher AllC.n)) e_non) (s_seq s_never s_nil) s_nil) s_nil)
theorem sc_way_on : FnScope ["tree", "item", "value", "there"] ["tree", "item"] (defScope (topS 35)) := ⟨rfl, rfl, rfl, by decide +kernel, rfl, by decide +kernel, by decide +kernel⟩
theorem ok_way_on {f : Addr} {fd : FuncData} (F : Fun K "way_on" "way_on" (topS 35) f fd) (T : Txt K mg)  : FnOk P w K mg base (L2.CX P w) 1 f fd ["tree", "item"] (spM K mg m_way_on) :=
  fn_ok F sc_way_on b_way_on fun cdv A outer s H E hr =>
    (s_seq (s_for (p := (.tp [(.nm 2), (.nm 3)])) (passes_of rfl) (i_seq (e_ix (e_var 0) e_int)) (pg_tpP rfl (pgs_consP (pg_nmP (i := 2) sc_way_on.nd rfl) (pgs_consP (pg_nmP (i := 3) sc_way_on.nd rfl) pgs_nilP))) (s_seq (s_if (t_cmp (op_eqD (hu64 hr)) fol_eq (e_var 2) (e_var 1)) (s_seq (s_ret (e_var 3)) s_nil) s_nil) s_nil)) (s_seq (s_ret (e_ix (e_var 0) e_int)) s_nil))
theorem sc__law_value : FnScope ["hand", "k"] ["hand"] (defScope (topS 48)) := ⟨rfl, rfl, rfl, by decide +kernel, rfl, by decide +kernel, by decide +kernel⟩
theorem ok__law_value {f : Addr} {fd : FuncData} (F : Fun K "_law_value" "_law_value" (topS 48) f fd) (T : Txt K mg) (c__law_draw : Has P w K mg base "_law_draw" 1 ["hand", "many"] (spM K mg m__law_draw)) : FnOk P w K mg base (L2.CX P w) 2 f fd ["hand"] (spM K mg m__law_value) :=
  fn_ok F sc__law_value b__law_value fun cdv A outer s H E hr =>
    (s_seq (s_ret (e_tuple T.b_tuple (a_cons (e_L (f_lc (own := [("k", 1)]) (.nm 1) sc__law_value.nd (i_range1 T.b_range (a_cons (e_ix (e_L (f_lst (a_cons e_int (a_cons e_int (a_cons e_int (a_cons e_int a_nil)))))) (e_callH c__law_draw hr (takes_of rfl rfl rfl rfl) (a_cons (e_var 0) (a_cons e_int a_nil)))) a_nil)) (blkOk_by (by rfl)) (fun _ _ _ _ _ => (pg_nmP (i := 1) sc__law_value.nd rfl)) (fun _ _ _ _ _ => p_yes) (fun _ _ _ _ _ => (e_callH c__law_draw hr takes0 (a_cons (e_var 0) (a_cons e_int a_nil)))) (by decide))) a_nil))) s_nil)
theorem sc__law_any : FnScope ["hand", "things"] ["hand", "things"] (defScope (topS 50)) := ⟨rfl, rfl, rfl, by decide +kernel, rfl, by decide +kernel, by decide +kernel⟩
theorem ok__law_any {f : Addr} {fd : FuncData} (F : Fun K "_law_any" "_law_any" (topS 50) f fd) (T : Txt K mg) (c__law_draw : Has P w K mg base "_law_draw" 1 ["hand", "many"] (spM K mg m__law_draw)) : FnOk P w K mg base (L2.CX P w) 2 f fd ["hand", "things"] (spM K mg m__law_any) :=
  fn_ok F sc__law_any b__law_any fun cdv A outer s H E hr =>
    (s_seq (s_ret (e_ix (e_var 1) (e_callH c__law_draw hr (takes_of rfl rfl rfl rfl) (a_cons (e_var 0) (a_cons (e_len T.b_len (a_cons (e_var 1) a_nil)) a_nil))))) s_nil)
theorem sc_is_between : FnScope ["thing", "least", "most"] ["thing", "least", "most"] (defScope (topS 12)) := ⟨rfl, rfl, rfl, by decide +kernel, rfl, by decide +kernel, by decide +kernel⟩
theorem ok_is_between {f : Addr} {fd : FuncData} (F : Fun K "is_between" "is_between" (topS 12) f fd) (T : Txt K mg) (c_is_integer : Has P w K mg base "is_integer" 1 ["thing"] (spM K mg m_is_integer)) : FnOk P w K mg base (L2.CX P w) 2 f fd ["thing", "least", "most"] (spM K mg m_is_between) :=
  fn_ok F sc_is_between b_is_between fun cdv A outer s H E hr =>
    (s_seq (s_ret (e_and (e_callH c_is_integer hr (takes_of rfl rfl rfl rfl) (a_cons (e_var 0) a_nil)) (e_one (e_chain (op_cLe (hu65 hr)) (op_cLe (hu65 hr)) fol_cLe fol_cLe (e_var 1) (e_var 0) (e_var 2))))) s_nil)
theorem sc_are_ascending : FnScope ["things", "one", "other"] ["things"] (defScope (topS 17)) := ⟨rfl, rfl, rfl, by decide +kernel, rfl, by decide +kernel, by decide +kernel⟩
theorem ok_are_ascending {f : Addr} {fd : FuncData} (F : Fun K "are_ascending" "are_ascending" (topS 17) f fd) (T : Txt K mg) (c_rank : Has P w K mg base "rank" 1 ["thing"] (spM K mg m_rank)) : FnOk P w K mg base (L2.CX P w) 2 f fd ["things"] (spM K mg m_are_ascending) :=
  fn_ok F sc_are_ascending b_are_ascending fun cdv A outer s H E hr =>
    (s_seq (s_ret (e_all T.b_all (a_cons (e_L (f_lc (own := [("one", 1), ("other", 2)]) (.tp [(.nm 1), (.nm 2)]) sc_are_ascending.nd (i_zip T.b_zip (a_cons (e_var 0) (a_cons (e_sl (e_var 0) (o_some e_int) o_none) a_nil))) (blkOk_by (by rfl)) (fun _ _ _ _ _ => (pg_tpP rfl (pgs_consP (pg_nmP (i := 1) sc_are_ascending.nd rfl) (pgs_consP (pg_nmP (i := 2) sc_are_ascending.nd rfl) pgs_nilP)))) (fun _ _ _ _ _ => p_yes) (fun _ _ _ _ _ => (e_cmp (op_cLt (hu65 hr)) fol_cLt (e_callH c_rank hr takes0 (a_cons (e_var 1) a_nil)) (e_callH c_rank hr takes0 (a_cons (e_var 2) a_nil)))) (by decide))) a_nil))) s_nil)
theorem sc_Disk_barrier : FnScope ["self", "sector", "values"] ["self"] (defScope (inClass (topS 21) 2)) := ⟨rfl, rfl, rfl, by decide +kernel, rfl, by decide +kernel, by decide +kernel⟩
theorem ok_Disk_barrier {f : Addr} {fd : FuncData} (F : Fun K "barrier" "Disk.barrier" (inClass (topS 21) 2) f fd) (T : Txt K mg) (c_Disk_tell : MthOk P w K mg base "Disk" "tell" 1 ["self"] (spM K mg m_Disk_tell)) : FnOk P w K mg base (L2.CX P w) 2 f fd ["self"] (spM K mg m_Disk_barrier) :=
  fn_okK F sc_Disk_barrier b_Disk_barrier fun cdv A outer s H E hr =>
    (s_seq (s_forItems (p := (.tp [(.nm 1), (.nm 2)])) (passes_of rfl) (e_fld ["Disk"] (e_var 0) (AllC.c T.f_Disk_writes AllC.n)) (pg_tpP rfl (pgs_consP (pg_nmP (i := 1) sc_Disk_barrier.nd rfl) (pgs_consP (pg_nmP (i := 2) sc_Disk_barrier.nd rfl) pgs_nilP))) (s_seq (s_sub (e_ix (e_var 2) (e_un un_neg fol_neg e_int)) (e_fld ["Disk"] (e_var 0) (AllC.c T.f_Disk_kept AllC.n)) (e_var 1)) s_nil)) (s_seq (s_fld ["Disk"] (e_var 0) e_dnew (AllC.c T.f_Disk_writes AllC.n)) (s_seq (s_expr (e_meth0 (m := "tell") (tb_cons c_Disk_tell tb_nil) hr (takes_of rfl rfl rfl rfl) (e_var 0))) s_nil)))
theorem sc_led : FnScope ["reader", "state", "sectors", "tree"] ["reader", "state"] (defScope (topS 36)) := ⟨rfl, rfl, rfl, by decide +kernel, rfl, by decide +kernel, by decide +kernel⟩
theorem ok_led {f : Addr} {fd : FuncData} (F : Fun K "led" "led" (topS 36) f fd) (T : Txt K mg) (c_way_on : Has P w K mg base "way_on" 1 ["tree", "item"] (spM K mg m_way_on)) : FnOk P w K mg base (L2.CX P w) 2 f fd ["reader", "state"] (spM K mg m_led) :=
  fn_okK F sc_led b_led fun cdv A outer s H E hr =>
    (s_seq (s_set 2 (e_new (f_lst a_nil)) sc_led.nd) (s_seq (s_set 3 (e_var 0) sc_led.nd) (s_seq (s_while (passes_of rfl) (t_cmp (op_eqD (hu64 hr)) fol_eq (e_ix (e_var 3) e_int) e_str) (s_seq (s_expr (e_app (e_var 2) (a_cons (e_ix (e_var 3) e_int) a_nil))) (s_seq (s_set 3 (e_callH c_way_on hr (takes_of rfl rfl rfl rfl) (a_cons (e_var 3) (a_cons (e_ix (e_var 1) (e_ix (e_var 3) e_int)) a_nil))) sc_led.nd) s_nil))) (s_seq (s_ret (e_tup (a_cons (e_var 2) (a_cons (e_var 3) a_nil)))) s_nil))))
theorem sc__law_pool : FnScope ["hand", "found", "k", "value"] ["hand"] (defScope (topS 49)) := ⟨rfl, rfl, rfl, by decide +kernel, rfl, by decide +kernel, by decide +kernel⟩
theorem ok__law_pool {f : Addr} {fd : FuncData} (F : Fun K "_law_pool" "_law_pool" (topS 49) f fd) (T : Txt K mg) (c__law_value : Has P w K mg base "_law_value" 2 ["hand"] (spM K mg m__law_value)) : FnOk P w K mg base (L2.CX P w) 3 f fd ["hand"] (spL K mg m__law_pool) :=
  fn_okL F sc__law_pool b__law_pool fun cdv A outer s H E hr =>
    (s_seq (s_set 1 (e_new (f_lst a_nil)) sc__law_pool.nd) (s_seq (s_for (p := (.nm 2)) (passes_of rfl) (i_range1 T.b_range (a_cons e_int a_nil)) (pg_nmP (i := 2) sc__law_pool.nd rfl) (s_seq (s_set 3 (e_callH c__law_value hr (takes_of rfl rfl rfl rfl) (a_cons (e_var 0) a_nil)) sc__law_pool.nd) (s_seq (s_if (t_cmp (op_notInA (hu65 hr)) fol_notIn (e_var 3) (e_var 1)) (s_seq (s_expr (e_app (e_var 1) (a_cons (e_var 3) a_nil))) s_nil) s_nil) s_nil))) (s_seq (s_ret (e_var 1)) s_nil)))
theorem sc__law_end : FnScope ["hand", "pool", "sectors", "most", "mends", "number", "steps", "k"] ["hand", "pool", "sectors", "most", "mends"] (defScope (topS 51)) := ⟨rfl, rfl, rfl, by decide +kernel, rfl, by decide +kernel, by decide +kernel⟩
theorem ok__law_end {f : Addr} {fd : FuncData} (F : Fun K "_law_end" "_law_end" (topS 51) f fd) (T : Txt K mg) (c__law_draw : Has P w K mg base "_law_draw" 1 ["hand", "many"] (spM K mg m__law_draw)) (c__law_any : Has P w K mg base "_law_any" 2 ["hand", "things"] (spM K mg m__law_any)) : FnOk P w K mg base (L2.CX P w) 3 f fd ["hand", "pool", "sectors", "most", "mends"] (spM K mg m__law_end) :=
  fn_ok F sc__law_end b__law_end fun cdv A outer s H E hr =>
    (s_seq (s_set 5 (e_callH c__law_draw hr (takes_of rfl rfl rfl rfl) (a_cons (e_var 0) (a_cons (e_var 3) a_nil))) sc__law_end.nd) (s_seq (s_if (t_cmp (op_cGe (hu65 hr)) fol_cGe (e_callH c__law_draw hr (takes_of rfl rfl rfl rfl) (a_cons (e_var 0) (a_cons e_int a_nil))) (e_var 4)) (s_seq (s_ret (e_tup (a_cons e_str (a_cons (e_var 5) a_nil)))) s_nil) s_nil) (s_seq (s_set 6 (e_new (f_lst a_nil)) sc__law_end.nd) (s_seq (s_for (p := (.nm 7)) (passes_of rfl) (i_range1 T.b_range (a_cons (e_callH c__law_draw hr (takes_of rfl rfl rfl rfl) (a_cons (e_var 0) (a_cons e_int a_nil))) a_nil)) (pg_nmP (i := 7) sc__law_end.nd rfl) (s_seq (s_if (t_cmp (op_eqD (hu64 hr)) fol_eq (e_callH c__law_draw hr (takes_of rfl rfl rfl rfl) (a_cons (e_var 0) (a_cons e_int a_nil))) e_int) (s_seq (s_expr (e_app (e_var 6) (a_cons (e_tup (a_cons e_str a_nil)) a_nil))) s_nil) (s_seq (s_expr (e_app (e_var 6) (a_cons (e_tup (a_cons e_str (a_cons (e_callH c__law_draw hr (takes_of rfl rfl rfl rfl) (a_cons (e_var 0) (a_cons (e_var 2) a_nil))) (a_cons (e_callH c__law_any hr (takes_of rfl rfl rfl rfl) (a_cons (e_var 0) (a_cons (e_var 1) a_nil))) a_nil)))) a_nil))) s_nil)) s_nil)) (s_seq (s_ret (e_tup (a_cons e_str (a_cons (e_var 5) (a_cons (e_tuple T.b_tuple (a_cons (e_var 6) a_nil)) a_nil))))) s_nil)))))
theorem sc_is_value : FnScope ["thing", "item"] ["thing"] (defScope (topS 14)) := ⟨rfl, rfl, rfl, by decide +kernel, rfl, by decide +kernel, by decide +kernel⟩
theorem ok_is_value {f : Addr} {fd : FuncData} (F : Fun K "is_value" "is_value" (topS 14) f fd) (T : Txt K mg) (c_is_between : Has P w K mg base "is_between" 2 ["thing", "least", "most"] (spM K mg m_is_between)) : FnOk P w K mg base (L2.CX P w) 3 f fd ["thing"] (spM K mg m_is_value) :=
  fn_ok F sc_is_value b_is_value fun cdv A outer s H E hr =>
    (s_seq (s_if (w_or (t_not (t_tru (e_isi .tup T.b_isinstance T.b_tuple (e_var 0)))) (w_one .Or (t_cmp (op_cGt (hu65 hr)) fol_cGt (e_len T.b_len (a_cons (e_var 0) a_nil)) (e_globI T.g_MOST_ITEMS)))).pt (s_seq (s_ret e_bl) s_nil) s_nil) (s_seq (s_ret (e_all T.b_all (a_cons (e_L (f_lc (own := [("item", 1)]) (.nm 1) sc_is_value.nd (i_seq (e_var 0)) (blkOk_by (by rfl)) (fun _ _ _ _ _ => (pg_nmP (i := 1) sc_is_value.nd rfl)) (fun _ _ _ _ _ => p_yes) (fun _ _ _ _ _ => (e_callH c_is_between hr takes0 (a_cons (e_var 1) (a_cons e_int (a_cons (e_globI T.g_MOST_ITEM) a_nil))))) (by decide))) a_nil))) s_nil))
theorem sc_is_index : FnScope ["thing", "many"] ["thing", "many"] (defScope (topS 13)) := ⟨rfl, rfl, rfl, by decide +kernel, rfl, by decide +kernel, by decide +kernel⟩
theorem ok_is_index {f : Addr} {fd : FuncData} (F : Fun K "is_index" "is_index" (topS 13) f fd) (T : Txt K mg) (c_is_between : Has P w K mg base "is_between" 2 ["thing", "least", "most"] (spM K mg m_is_between)) : FnOk P w K mg base (L2.CX P w) 3 f fd ["thing", "many"] (spM K mg m_is_index) :=
  fn_ok F sc_is_index b_is_index fun cdv A outer s H E hr =>
    (s_seq (s_ret (e_callH c_is_between hr (takes_of rfl rfl rfl rfl) (a_cons (e_var 0) (a_cons e_int (a_cons (e_bin op_sub fol_sub (e_var 1) e_int) a_nil))))) s_nil)
theorem sc_is_held : FnScope ["thing"] ["thing"] (defScope (topS 15)) := ⟨rfl, rfl, rfl, by decide +kernel, rfl, by decide +kernel, by decide +kernel⟩
theorem ok_is_held {f : Addr} {fd : FuncData} (F : Fun K "is_held" "is_held" (topS 15) f fd) (T : Txt K mg) (c_is_value : Has P w K mg base "is_value" 3 ["thing"] (spM K mg m_is_value)) : FnOk P w K mg base (L2.CX P w) 4 f fd ["thing"] (spM K mg m_is_held) :=
  fn_ok F sc_is_held b_is_held fun cdv A outer s H E hr =>
    (s_seq (s_ret (e_or (e_cmp op_isN fol_isN (e_var 0) e_non) (e_one (e_callH c_is_value hr (takes_of rfl rfl rfl rfl) (a_cons (e_var 0) a_nil))))) s_nil)
theorem sc_is_disk_step : FnScope ["thing", "sectors"] ["thing", "sectors"] (defScope (topS 28)) := ⟨rfl, rfl, rfl, by decide +kernel, rfl, by decide +kernel, by decide +kernel⟩
theorem ok_is_disk_step {f : Addr} {fd : FuncData} (F : Fun K "is_disk_step" "is_disk_step" (topS 28) f fd) (T : Txt K mg) (c_is_index : Has P w K mg base "is_index" 3 ["thing", "many"] (spM K mg m_is_index)) (c_is_value : Has P w K mg base "is_value" 3 ["thing"] (spM K mg m_is_value)) : FnOk P w K mg base (L2.CX P w) 4 f fd ["thing", "sectors"] (spM K mg m_is_disk_step) :=
  fn_ok F sc_is_disk_step b_is_disk_step fun cdv A outer s H E hr =>
    (s_seq (s_if (w_or (t_not (t_tru (e_isi .tup T.b_isinstance T.b_tuple (e_var 0)))) (w_or (t_cmp (op_eqD (hu64 hr)) fol_eq (e_len T.b_len (a_cons (e_var 0) a_nil)) e_int) (w_one .Or (t_not (t_tru (e_isi .str T.b_isinstance T.b_str (e_ix (e_var 0) e_int))))))).pt (s_seq (s_ret e_bl) s_nil) s_nil) (s_seq (s_if (t_cmp (op_eqD (hu64 hr)) fol_eq (e_ix (e_var 0) e_int) e_str) (s_seq (s_ret (e_cmp (op_eqD (hu64 hr)) fol_eq (e_len T.b_len (a_cons (e_var 0) a_nil)) e_int)) s_nil) s_nil) (s_seq (s_ret (e_and (e_cmp (op_eqD (hu64 hr)) fol_eq (e_ix (e_var 0) e_int) e_str) (e_and (e_cmp (op_eqD (hu64 hr)) fol_eq (e_len T.b_len (a_cons (e_var 0) a_nil)) e_int) (e_and (e_callH c_is_index hr (takes_of rfl rfl rfl rfl) (a_cons (e_ix (e_var 0) e_int) (a_cons (e_var 1) a_nil))) (e_one (e_callH c_is_value hr (takes_of rfl rfl rfl rfl) (a_cons (e_ix (e_var 0) e_int) a_nil))))))) s_nil)))
theorem sc_Disk_write : FnScope ["self", "sector", "value"] ["self", "sector", "value"] (defScope (inClass (topS 21) 1)) := ⟨rfl, rfl, rfl, by decide +kernel, rfl, by decide +kernel, by decide +kernel⟩
theorem ok_Disk_write {f : Addr} {fd : FuncData} (F : Fun K "write" "Disk.write" (inClass (topS 21) 1) f fd) (T : Txt K mg) (c_Disk_tell : MthOk P w K mg base "Disk" "tell" 1 ["self"] (spM K mg m_Disk_tell)) (c_is_index : Has P w K mg base "is_index" 3 ["thing", "many"] (spM K mg m_is_index)) (c_is_value : Has P w K mg base "is_value" 3 ["thing"] (spM K mg m_is_value)) : FnOk P w K mg base (L2.CX P w) 4 f fd ["self", "sector", "value"] (spM K mg m_Disk_write) :=
  fn_okK F sc_Disk_write b_Disk_write fun cdv A outer s H E hr =>
    (s_seq (s_if (t_not (t_tru (e_callH c_is_index hr (takes_of rfl rfl rfl rfl) (a_cons (e_var 1) (a_cons (e_len T.b_len (a_cons (e_fld ["Disk"] (e_var 0) (AllC.c T.f_Disk_kept AllC.n)) a_nil)) a_nil))))) (s_seq s_never s_nil) s_nil) (s_seq (s_if (t_not (t_tru (e_callH c_is_value hr (takes_of rfl rfl rfl rfl) (a_cons (e_var 2) a_nil)))) (s_seq s_never s_nil) s_nil) (s_seq (s_expr (e_app (e_dsetd (e_fld ["Disk"] (e_var 0) (AllC.c T.f_Disk_writes AllC.n)) (e_var 1) (e_new (f_lst a_nil))) (a_cons (e_var 2) a_nil))) (s_seq (s_expr (e_meth0 (m := "tell") (tb_cons c_Disk_tell tb_nil) hr (takes_of rfl rfl rfl rfl) (e_var 0))) s_nil))))
theorem sc_is_state : FnScope ["thing", "item"] ["thing"] (defScope (topS 18)) := ⟨rfl, rfl, rfl, by decide +kernel, rfl, by decide +kernel, by decide +kernel⟩
theorem ok_is_state {f : Addr} {fd : FuncData} (F : Fun K "is_state" "is_state" (topS 18) f fd) (T : Txt K mg) (c_is_held : Has P w K mg base "is_held" 4 ["thing"] (spM K mg m_is_held)) : FnOk P w K mg base (L2.CX P w) 5 f fd ["thing"] (spM K mg m_is_state) :=
  fn_ok F sc_is_state b_is_state fun cdv A outer s H E hr =>
    (s_seq (s_ret (e_and (e_isi .tup T.b_isinstance T.b_tuple (e_var 0)) (e_and (e_chain (op_cLe (hu65 hr)) (op_cLe (hu65 hr)) fol_cLe fol_cLe e_int (e_len T.b_len (a_cons (e_var 0) a_nil)) (e_globI T.g_MOST_SECTORS)) (e_one (e_all T.b_all (a_cons (e_L (f_lc (own := [("item", 1)]) (.nm 1) sc_is_state.nd (i_seq (e_var 0)) (blkOk_by (by rfl)) (fun _ _ _ _ _ => (pg_nmP (i := 1) sc_is_state.nd rfl)) (fun _ _ _ _ _ => p_yes) (fun _ _ _ _ _ => (e_callH c_is_held hr takes0 (a_cons (e_var 1) a_nil))) (by decide))) a_nil)))))) s_nil)
theorem sc_are_cases : FnScope ["thing", "pair"] ["thing"] (defScope (topS 30)) := ⟨rfl, rfl, rfl, by decide +kernel, rfl, by decide +kernel, by decide +kernel⟩
theorem ok_are_cases {f : Addr} {fd : FuncData} (F : Fun K "are_cases" "are_cases" (topS 30) f fd) (T : Txt K mg) (c_are_ascending : Has P w K mg base "are_ascending" 2 ["things"] (spM K mg m_are_ascending)) (c_is_held : Has P w K mg base "is_held" 4 ["thing"] (spM K mg m_is_held)) : FnOk P w K mg base (L2.CX P w) 5 f fd ["thing"] (spM K mg m_are_cases) :=
  fn_ok F sc_are_cases b_are_cases fun cdv A outer s H E hr =>
    (s_seq (s_if (w_or (t_not (t_tru (e_isi .tup T.b_isinstance T.b_tuple (e_var 0)))) (w_one .Or (t_not (t_chain (op_cLe (hu65 hr)) (op_cLe (hu65 hr)) fol_cLe fol_cLe e_int (e_len T.b_len (a_cons (e_var 0) a_nil)) (e_globI T.g_MOST_CASES))))).pt (s_seq (s_ret e_bl) s_nil) s_nil) (s_seq (s_if (t_not (t_tru (e_all T.b_all (a_cons (e_L (f_lc (own := [("pair", 1)]) (.nm 1) sc_are_cases.nd (i_seq (e_var 0)) (blkOk_by (by rfl)) (fun _ _ _ _ _ => (pg_nmP (i := 1) sc_are_cases.nd rfl)) (fun _ _ _ _ _ => p_yes) (fun _ _ _ _ _ => (e_and (e_isi .tup T.b_isinstance T.b_tuple (e_var 1)) (e_and (e_cmp (op_eqD (hu64 hr)) fol_eq (e_len T.b_len (a_cons (e_var 1) a_nil)) e_int) (e_one (e_callH c_is_held hr takes0 (a_cons (e_ix (e_var 1) e_int) a_nil)))))) (by decide))) a_nil)))) (s_seq (s_ret e_bl) s_nil) s_nil) (s_seq (s_ret (e_callH c_are_ascending hr (takes_of rfl rfl rfl rfl) (a_cons (e_L (f_lc (own := [("pair", 1)]) (.nm 1) sc_are_cases.nd (i_seq (e_var 0)) (blkOk_by (by rfl)) (fun _ _ _ _ _ => (pg_nmP (i := 1) sc_are_cases.nd rfl)) (fun _ _ _ _ _ => p_yes) (fun _ _ _ _ _ => (e_ix (e_var 1) e_int)) (by decide))) a_nil))) s_nil)))
theorem sc_is_end : FnScope ["thing", "sectors", "step"] ["thing", "sectors"] (defScope (topS 29)) := ⟨rfl, rfl, rfl, by decide +kernel, rfl, by decide +kernel, by decide +kernel⟩
theorem ok_is_end {f : Addr} {fd : FuncData} (F : Fun K "is_end" "is_end" (topS 29) f fd) (T : Txt K mg) (c_is_between : Has P w K mg base "is_between" 2 ["thing", "least", "most"] (spM K mg m_is_between)) (c_is_disk_step : Has P w K mg base "is_disk_step" 4 ["thing", "sectors"] (spM K mg m_is_disk_step)) : FnOk P w K mg base (L2.CX P w) 5 f fd ["thing", "sectors"] (spM K mg m_is_end) :=
  fn_ok F sc_is_end b_is_end fun cdv A outer s H E hr =>
    (s_seq (s_if (w_or (t_not (t_tru (e_isi .tup T.b_isinstance T.b_tuple (e_var 0)))) (w_or (t_cmp (op_cLt (hu65 hr)) fol_cLt (e_len T.b_len (a_cons (e_var 0) a_nil)) e_int) (w_one .Or (t_not (t_tru (e_isi .str T.b_isinstance T.b_str (e_ix (e_var 0) e_int))))))).pt (s_seq (s_ret e_bl) s_nil) s_nil) (s_seq (s_if (t_cmp (op_eqD (hu64 hr)) fol_eq (e_ix (e_var 0) e_int) e_str) (s_seq (s_ret (e_and (e_cmp (op_eqD (hu64 hr)) fol_eq (e_len T.b_len (a_cons (e_var 0) a_nil)) e_int) (e_one (e_callH c_is_between hr (takes_of rfl rfl rfl rfl) (a_cons (e_ix (e_var 0) e_int) (a_cons e_int (a_cons (e_globI T.g_MOST_SAID) a_nil))))))) s_nil) s_nil) (s_seq (s_if (w_or (t_cmp (op_neD (hu64 hr)) fol_ne (e_ix (e_var 0) e_int) e_str) (w_or (t_cmp (op_neD (hu64 hr)) fol_ne (e_len T.b_len (a_cons (e_var 0) a_nil)) e_int) (w_one .Or (t_not (t_tru (e_callH c_is_between hr (takes_of rfl rfl rfl rfl) (a_cons (e_ix (e_var 0) e_int) (a_cons e_int (a_cons (e_globI T.g_MOST_SAID) a_nil))))))))).pt (s_seq (s_ret e_bl) s_nil) s_nil) (s_seq (s_if (w_or (t_not (t_tru (e_isi .tup T.b_isinstance T.b_tuple (e_ix (e_var 0) e_int)))) (w_one .Or (t_cmp (op_cGt (hu65 hr)) fol_cGt (e_len T.b_len (a_cons (e_ix (e_var 0) e_int) a_nil)) (e_globI T.g_MOST_STEPS)))).pt (s_seq (s_ret e_bl) s_nil) s_nil) (s_seq (s_ret (e_all T.b_all (a_cons (e_L (f_lc (own := [("step", 2)]) (.nm 2) sc_is_end.nd (i_seq (e_ix (e_var 0) e_int)) (blkOk_by (by rfl)) (fun _ _ _ _ _ => (pg_nmP (i := 2) sc_is_end.nd rfl)) (fun _ _ _ _ _ => p_yes) (fun _ _ _ _ _ => (e_callH c_is_disk_step hr takes0 (a_cons (e_var 2) (a_cons (e_var 1) a_nil)))) (by decide))) a_nil))) s_nil)))))
theorem sc_do_step : FnScope ["disk", "step"] ["disk", "step"] (defScope (topS 41)) := ⟨rfl, rfl, rfl, by decide +kernel, rfl, by decide +kernel, by decide +kernel⟩
theorem ok_do_step {f : Addr} {fd : FuncData} (F : Fun K "do_step" "do_step" (topS 41) f fd) (T : Txt K mg) (c_Disk_write : MthOk P w K mg base "Disk" "write" 4 ["self", "sector", "value"] (spM K mg m_Disk_write)) (c_Disk_barrier : MthOk P w K mg base "Disk" "barrier" 2 ["self"] (spM K mg m_Disk_barrier)) : FnOk P w K mg base (L2.CX P w) 5 f fd ["disk", "step"] (spM K mg m_do_step) :=
  fn_okK F sc_do_step b_do_step fun cdv A outer s H E hr =>
    (s_seq (s_if (t_cmp (op_eqD (hu64 hr)) fol_eq (e_ix (e_var 1) e_int) e_str) (s_seq (s_expr (e_meth (m := "write") (tb_cons c_Disk_write tb_nil) hr (takes_of rfl rfl rfl rfl) (e_var 0) (a_cons (e_ix (e_var 1) e_int) (a_cons (e_ix (e_var 1) e_int) a_nil)))) s_nil) (s_seq (s_if (t_cmp (op_eqD (hu64 hr)) fol_eq (e_ix (e_var 1) e_int) e_str) (s_seq (s_expr (e_meth0 (m := "barrier") (tb_cons c_Disk_barrier tb_nil) hr (takes_of rfl rfl rfl rfl) (e_var 0))) s_nil) s_nil) s_nil)) s_nil)
theorem sc_check_state : FnScope ["thing"] ["thing"] (defScope (topS 19)) := ⟨rfl, rfl, rfl, by decide +kernel, rfl, by decide +kernel, by decide +kernel⟩
theorem ok_check_state {f : Addr} {fd : FuncData} (F : Fun K "check_state" "check_state" (topS 19) f fd) (T : Txt K mg) (c_is_state : Has P w K mg base "is_state" 5 ["thing"] (spM K mg m_is_state)) : FnOk P w K mg base (L2.CX P w) 6 f fd ["thing"] (spM K mg m_check_state) :=
  fn_ok F sc_check_state b_check_state fun cdv A outer s H E hr =>
    (s_seq (s_if (t_not (t_tru (e_callH c_is_state hr (takes_of rfl rfl rfl rfl) (a_cons (e_var 0) a_nil)))) (s_seq s_never s_nil) s_nil) s_nil)
theorem sc_is_ask : FnScope ["thing", "sectors"] ["thing", "sectors"] (defScope (topS 31)) := ⟨rfl, rfl, rfl, by decide +kernel, rfl, by decide +kernel, by decide +kernel⟩
theorem ok_is_ask {f : Addr} {fd : FuncData} (F : Fun K "is_ask" "is_ask" (topS 31) f fd) (T : Txt K mg) (c_is_index : Has P w K mg base "is_index" 3 ["thing", "many"] (spM K mg m_is_index)) (c_are_cases : Has P w K mg base "are_cases" 5 ["thing"] (spM K mg m_are_cases)) : FnOk P w K mg base (L2.CX P w) 6 f fd ["thing", "sectors"] (spM K mg m_is_ask) :=
  fn_ok F sc_is_ask b_is_ask fun cdv A outer s H E hr =>
    (s_seq (s_if (w_or (t_not (t_tru (e_isi .tup T.b_isinstance T.b_tuple (e_var 0)))) (w_or (t_cmp (op_neD (hu64 hr)) fol_ne (e_len T.b_len (a_cons (e_var 0) a_nil)) e_int) (w_or (t_not (t_tru (e_isi .str T.b_isinstance T.b_str (e_ix (e_var 0) e_int)))) (w_one .Or (t_cmp (op_neD (hu64 hr)) fol_ne (e_ix (e_var 0) e_int) e_str))))).pt (s_seq (s_ret e_bl) s_nil) s_nil) (s_seq (s_ret (e_and (e_callH c_is_index hr (takes_of rfl rfl rfl rfl) (a_cons (e_ix (e_var 0) e_int) (a_cons (e_var 1) a_nil))) (e_one (e_callH c_are_cases hr (takes_of rfl rfl rfl rfl) (a_cons (e_ix (e_var 0) e_int) a_nil))))) s_nil))
theorem sc_is_right : FnScope ["sectors", "thing", "level", "many", "_", "below", "tree"] ["sectors", "thing"] (defScope (topS 33)) := ⟨rfl, rfl, rfl, by decide +kernel, rfl, by decide +kernel, by decide +kernel⟩
theorem ok_is_right {f : Addr} {fd : FuncData} (F : Fun K "is_right" "is_right" (topS 33) f fd) (T : Txt K mg) (c_is_ask : Has P w K mg base "is_ask" 6 ["thing", "sectors"] (spM K mg m_is_ask)) (c_inner : Has P w K mg base "inner" 1 ["tree"] (spM K mg m_inner)) (c_is_end : Has P w K mg base "is_end" 5 ["thing", "sectors"] (spM K mg m_is_end)) : FnOk P w K mg base (L2.CX P w) 7 f fd ["sectors", "thing"] (spM K mg m_is_right) :=
  fn_ok F sc_is_right b_is_right fun cdv A outer s H E hr =>
    (s_seq (s_set 2 (e_L (f_lst (a_cons (e_var 1) a_nil))) sc_is_right.nd) (s_seq (s_set 3 e_int sc_is_right.nd) (s_seq (s_for (p := (.nm 4)) (passes_of rfl) (i_range1 T.b_range (a_cons (e_globI T.g_MOST_DEEP) a_nil)) (pg_nmP (i := 4) sc_is_right.nd rfl) (s_seq (s_aug 3 ip_add (e_len T.b_len (a_cons (e_var 2) a_nil)) sc_is_right.nd) (s_seq (s_if (t_cmp (op_cGt (hu65 hr)) fol_cGt (e_var 3) (e_globI T.g_MOST_TREES)) (s_seq (s_ret e_bl) s_nil) s_nil) (s_seq (s_set 5 (e_new (f_lst a_nil)) sc_is_right.nd) (s_seq (s_for (p := (.nm 6)) (passes_of rfl) (i_seq (e_var 2)) (pg_nmP (i := 6) sc_is_right.nd rfl) (s_seq (s_if (t_tru (e_callH c_is_ask hr (takes_of rfl rfl rfl rfl) (a_cons (e_var 6) (a_cons (e_var 0) a_nil)))) (s_seq (s_expr (e_ext (e_var 5) (a_cons (e_callH c_inner hr (takes_of rfl rfl rfl rfl) (a_cons (e_var 6) a_nil)) a_nil))) s_nil) (s_seq (s_if (t_not (t_tru (e_callH c_is_end hr (takes_of rfl rfl rfl rfl) (a_cons (e_var 6) (a_cons (e_var 0) a_nil))))) (s_seq (s_ret e_bl) s_nil) s_nil) s_nil)) s_nil)) (s_seq (s_if (t_cmp (op_eqD (hu64 hr)) fol_eq (e_len T.b_len (a_cons (e_var 5) a_nil)) e_int) (s_seq (s_ret e_bl) s_nil) s_nil) (s_seq (s_set 2 (e_var 5) sc_is_right.nd) s_nil))))))) (s_seq (s_ret e_bl) s_nil))))
theorem sc_Disk___init__ : FnScope ["self", "state"] ["self", "state"] (defScope (inClass (topS 21) 0)) := ⟨rfl, rfl, rfl, by decide +kernel, rfl, by decide +kernel, by decide +kernel⟩
theorem ok_Disk___init__ {f : Addr} {fd : FuncData} (F : Fun K "__init__" "Disk.__init__" (inClass (topS 21) 0) f fd) (T : Txt K mg) (c_check_state : Has P w K mg base "check_state" 6 ["thing"] (spM K mg m_check_state)) : FnOk P w K mg base (L2.CX P w) 7 f fd ["self", "state"] (spM K mg m_Disk___init__) :=
  fn_okK F sc_Disk___init__ b_Disk___init__ fun cdv A outer s H E hr =>
    (s_seq (s_expr (e_callH c_check_state hr (takes_of rfl rfl rfl rfl) (a_cons (e_var 1) a_nil))) (s_seq (s_fld ["Disk"] (e_var 0) (e_new (f_list T.b_list (a_cons (e_var 1) a_nil))) (AllC.c T.f_Disk_kept AllC.n)) (s_seq (s_fld ["Disk"] (e_var 0) e_dnew (AllC.c T.f_Disk_writes AllC.n)) (s_seq (s_fld ["Disk"] (e_var 0) e_non (AllC.c T.f_Disk_watcher AllC.n)) s_nil))))
theorem sc_check_reader : FnScope ["sectors", "thing"] ["sectors", "thing"] (defScope (topS 34)) := ⟨rfl, rfl, rfl, by decide +kernel, rfl, by decide +kernel, by decide +kernel⟩
theorem ok_check_reader {f : Addr} {fd : FuncData} (F : Fun K "check_reader" "check_reader" (topS 34) f fd) (T : Txt K mg) (c_is_right : Has P w K mg base "is_right" 7 ["sectors", "thing"] (spM K mg m_is_right)) : FnOk P w K mg base (L2.CX P w) 8 f fd ["sectors", "thing"] (spM K mg m_check_reader) :=
  fn_ok F sc_check_reader b_check_reader fun cdv A outer s H E hr =>
    (s_seq (s_if (t_not (t_tru (e_callH c_is_right hr (takes_of rfl rfl rfl rfl) (a_cons (e_var 0) (a_cons (e_var 1) a_nil))))) (s_seq s_never s_nil) s_nil) s_nil)
theorem sc_mended : FnScope ["reader", "state", "disk", "step"] ["reader", "state"] (defScope (topS 44)) := ⟨rfl, rfl, rfl, by decide +kernel, rfl, by decide +kernel, by decide +kernel⟩
theorem ok_mended {f : Addr} {fd : FuncData} (F : Fun K "mended" "mended" (topS 44) f fd) (T : Txt K mg) (c_check_state : Has P w K mg base "check_state" 6 ["thing"] (spM K mg m_check_state)) (c_check_reader : Has P w K mg base "check_reader" 8 ["sectors", "thing"] (spM K mg m_check_reader)) (k_Disk : MakOk P w K mg base "Disk" 7 ["self", "state"] (spM K mg m_Disk___init__)) (c_steps_of : Has P w K mg base "steps_of" 1 ["end"] (spM K mg m_steps_of)) (c_Disk_now : MthOk P w K mg base "Disk" "now" 1 ["self"] (spM K mg m_Disk_now)) (c_do_step : Has P w K mg base "do_step" 5 ["disk", "step"] (spM K mg m_do_step)) (c_led : Has P w K mg base "led" 2 ["reader", "state"] (spM K mg m_led)) : FnOk P w K mg base (L2.CX P w) 9 f fd ["reader", "state"] (spM K mg m_mended) :=
  fn_okK F sc_mended b_mended fun cdv A outer s H E hr =>
    (s_seq (s_expr (e_callH c_check_state hr (takes_of rfl rfl rfl rfl) (a_cons (e_var 1) a_nil))) (s_seq (s_expr (e_callH c_check_reader hr (takes_of rfl rfl rfl rfl) (a_cons (e_len T.b_len (a_cons (e_var 1) a_nil)) (a_cons (e_var 0) a_nil)))) (s_seq (s_set 2 (e_make k_Disk hr (takes_of rfl rfl rfl rfl) (a_cons (e_var 1) a_nil)) sc_mended.nd) (s_seq (s_for (p := (.nm 3)) (passes_of rfl) (i_seq (e_callH c_steps_of hr (takes_of rfl rfl rfl rfl) (a_cons (e_ix (e_callH c_led hr (takes_of rfl rfl rfl rfl) (a_cons (e_var 0) (a_cons (e_var 1) a_nil))) e_int) a_nil))) (pg_nmP (i := 3) sc_mended.nd rfl) (s_seq (s_expr (e_callH c_do_step hr (takes_of rfl rfl rfl rfl) (a_cons (e_var 2) (a_cons (e_var 3) a_nil)))) s_nil)) (s_seq (s_ret (e_meth0 (m := "now") (tb_cons c_Disk_now tb_nil) hr (takes_of rfl rfl rfl rfl) (e_var 2))) s_nil)))))
theorem sc_check_both : FnScope ["reader", "state"] ["reader", "state"] (defScope (topS 37)) := ⟨rfl, rfl, rfl, by decide +kernel, rfl, by decide +kernel, by decide +kernel⟩
theorem ok_check_both {f : Addr} {fd : FuncData} (F : Fun K "check_both" "check_both" (topS 37) f fd) (T : Txt K mg) (c_check_state : Has P w K mg base "check_state" 6 ["thing"] (spM K mg m_check_state)) (c_check_reader : Has P w K mg base "check_reader" 8 ["sectors", "thing"] (spM K mg m_check_reader)) : FnOk P w K mg base (L2.CX P w) 9 f fd ["reader", "state"] (spM K mg m_check_both) :=
  fn_ok F sc_check_both b_check_both fun cdv A outer s H E hr =>
    (s_seq (s_expr (e_callH c_check_state hr (takes_of rfl rfl rfl rfl) (a_cons (e_var 1) a_nil))) (s_seq (s_expr (e_callH c_check_reader hr (takes_of rfl rfl rfl rfl) (a_cons (e_len T.b_len (a_cons (e_var 1) a_nil)) (a_cons (e_var 0) a_nil)))) s_nil))
theorem sc_leaf : FnScope ["reader", "state"] ["reader", "state"] (defScope (topS 39)) := ⟨rfl, rfl, rfl, by decide +kernel, rfl, by decide +kernel, by decide +kernel⟩
theorem ok_leaf {f : Addr} {fd : FuncData} (F : Fun K "leaf" "leaf" (topS 39) f fd) (T : Txt K mg) (c_check_both : Has P w K mg base "check_both" 9 ["reader", "state"] (spM K mg m_check_both)) (c_led : Has P w K mg base "led" 2 ["reader", "state"] (spM K mg m_led)) : FnOk P w K mg base (L2.CX P w) 10 f fd ["reader", "state"] (spM K mg m_leaf) :=
  fn_okK F sc_leaf b_leaf fun cdv A outer s H E hr =>
    (s_seq (s_expr (e_callH c_check_both hr (takes_of rfl rfl rfl rfl) (a_cons (e_var 0) (a_cons (e_var 1) a_nil)))) (s_seq (s_ret (e_ix (e_callH c_led hr (takes_of rfl rfl rfl rfl) (a_cons (e_var 0) (a_cons (e_var 1) a_nil))) e_int)) s_nil))
theorem sc_read : FnScope ["reader", "state"] ["reader", "state"] (defScope (topS 38)) := ⟨rfl, rfl, rfl, by decide +kernel, rfl, by decide +kernel, by decide +kernel⟩
theorem ok_read {f : Addr} {fd : FuncData} (F : Fun K "read" "read" (topS 38) f fd) (T : Txt K mg) (c_check_both : Has P w K mg base "check_both" 9 ["reader", "state"] (spM K mg m_check_both)) (c_led : Has P w K mg base "led" 2 ["reader", "state"] (spM K mg m_led)) : FnOk P w K mg base (L2.CX P w) 10 f fd ["reader", "state"] (spM K mg m_read) :=
  fn_okK F sc_read b_read fun cdv A outer s H E hr =>
    (s_seq (s_expr (e_callH c_check_both hr (takes_of rfl rfl rfl rfl) (a_cons (e_var 0) (a_cons (e_var 1) a_nil)))) (s_seq (s_ret (e_ix (e_ix (e_callH c_led hr (takes_of rfl rfl rfl rfl) (a_cons (e_var 0) (a_cons (e_var 1) a_nil))) e_int) e_int)) s_nil))
theorem sc__law_reader : FnScope ["hand", "pool", "sectors", "deep", "most", "mends", "some", "kept", "cases", "thing"] ["hand", "pool", "sectors", "deep", "most", "mends"] (defScope (topS 52)) := ⟨rfl, rfl, rfl, by decide +kernel, rfl, by decide +kernel, by decide +kernel⟩
theorem ok__law_reader {f : Addr} {fd : FuncData} (F : Fun K "_law_reader" "_law_reader" (topS 52) f fd) (T : Txt K mg) (hm : mg "_law_reader" = some (.ref f)) (hb : Binds K fd ["hand", "pool", "sectors", "deep", "most", "mends"] []) (c__law_end : Has P w K mg base "_law_end" 3 ["hand", "pool", "sectors", "most", "mends"] (spM K mg m__law_end)) (c__law_draw : Has P w K mg base "_law_draw" 1 ["hand", "many"] (spM K mg m__law_draw)) : ∀ n : Nat, FnOk P w K mg base (L2.CX P w) (4 + n) f fd ["hand", "pool", "sectors", "deep", "most", "mends"] (spM K mg (m__law_reader n))
  | 0 => F.okX sc__law_reader (fun vs H Q E h => (spM_stuck h).elim) fun _ _ _ _ _ _ _ _ _ h => (spM_stuck h).elim
  | n + 1 => fn_ok (k := 4 + n) F sc__law_reader (b__law_reader (m__law_reader n)) fun cdv A outer s H E hr =>
    have c__law_reader : Has P w K mg base "_law_reader" (4 + n) ["hand", "pool", "sectors", "deep", "most", "mends"] (spM K mg (m__law_reader n)) := ⟨f, fd, hm, F.kp, hb, ok__law_reader F T hm hb c__law_end c__law_draw n⟩
    (s_seq (s_if (w_or (t_cmp (op_eqD (hu64 hr)) fol_eq (e_var 3) e_int) (w_one .Or (t_cmp (op_eqD (hu64 hr)) fol_eq (e_callH c__law_draw hr (takes_of rfl rfl rfl rfl) (a_cons (e_var 0) (a_cons e_int a_nil))) e_int))).pt (s_seq (s_ret (e_callH c__law_end hr (takes_of rfl rfl rfl rfl) (a_cons (e_var 0) (a_cons (e_var 1) (a_cons (e_var 2) (a_cons (e_var 4) (a_cons (e_var 5) a_nil))))))) s_nil) s_nil) (s_seq (s_set 6 (e_bin op_add3 fol_add (e_L (f_lst (a_cons e_non a_nil))) (e_L (f_sorted (hu67 hr) T.b_sorted (a_cons (e_var 1) a_nil)))) sc__law_reader.nd) (s_seq (s_set 6 (e_sl (e_var 6) (o_some (e_callH c__law_draw hr (takes_of rfl rfl rfl rfl) (a_cons (e_var 0) (a_cons e_int a_nil)))) o_none) sc__law_reader.nd) (s_seq (s_setLc (own := [("thing", 9)]) 7 (.nm 9) (fun _ _ _ => L_read)  sc__law_reader.nd (i_seq (e_var 6)) (blkOk_by (by rfl)) (fun _ _ _ _ _ => (pg_nmP (i := 9) sc__law_reader.nd rfl)) (fun _ _ _ _ _ => (pts_one (t_cmp (op_cGt (hu65 hr)) fol_cGt (e_callH c__law_draw hr takes0 (a_cons (e_var 0) (a_cons e_int a_nil))) e_int))) (fun _ _ _ _ _ => (e_var 9)) (by decide)) (s_seq (s_if (t_cmp (op_eqD (hu64 hr)) fol_eq (e_var 7) (e_L (f_lst a_nil))) (s_seq (s_set 7 (e_sl (e_var 6) (o_some (e_un un_neg fol_neg e_int)) o_none) sc__law_reader.nd) s_nil) s_nil) (s_seq (s_set 8 (e_tuple T.b_tuple (a_cons (e_L (f_lc (own := [("thing", 9)]) (.nm 9) sc__law_reader.nd (i_seq (e_var 7)) (blkOk_by (by rfl)) (fun _ _ _ _ _ => (pg_nmP (i := 9) sc__law_reader.nd rfl)) (fun _ _ _ _ _ => p_yes) (fun _ _ _ _ _ => (e_tup (a_cons (e_var 9) (a_cons (e_callH c__law_reader hr takes0 (a_cons (e_var 0) (a_cons (e_var 1) (a_cons (e_var 2) (a_cons (e_bin op_sub fol_sub (e_var 3) e_int) (a_cons (e_var 4) (a_cons (e_var 5) a_nil))))))) a_nil)))) (by decide))) a_nil)) sc__law_reader.nd) (s_seq (s_ret (e_tup (a_cons e_str (a_cons (e_callH c__law_draw hr (takes_of rfl rfl rfl rfl) (a_cons (e_var 0) (a_cons (e_var 2) a_nil))) (a_cons (e_var 8) (a_cons (e_callH c__law_reader hr (takes_of rfl rfl rfl rfl) (a_cons (e_var 0) (a_cons (e_var 1) (a_cons (e_var 2) (a_cons (e_bin op_sub fol_sub (e_var 3) e_int) (a_cons (e_var 4) (a_cons (e_var 5) a_nil))))))) a_nil)))))) s_nil)))))))
theorem sc_law : FnScope ["script", "hand", "turn", "sectors", "pool", "state", "reader", "end", "settled", "waiting", "k"] ["script"] (defScope (topS 56)) := ⟨rfl, rfl, rfl, by decide +kernel, rfl, by decide +kernel, by decide +kernel⟩
theorem ok_law {f : Addr} {fd : FuncData} (F : Fun K "law" "law" (topS 56) f fd) (T : Txt K mg) (c__law_hand : Has P w K mg base "_law_hand" 1 ["script"] (spL K mg m__law_hand)) (c__law_pool : Has P w K mg base "_law_pool" 3 ["hand"] (spL K mg m__law_pool)) (c__law_reader : Has P w K mg base "_law_reader" 24 ["hand", "pool", "sectors", "deep", "most", "mends"] (spM K mg (m__law_reader 20))) (c__law_led : Has P w K mg base "_law_led" 1 ["reader", "state"] (spM K mg m__law_led)) (c__law_behind : Has P w K mg base "_law_behind" 1 ["state", "steps"] (spM K mg m__law_behind)) (c__law_draw : Has P w K mg base "_law_draw" 1 ["hand", "many"] (spM K mg m__law_draw)) (c__law_any : Has P w K mg base "_law_any" 2 ["hand", "things"] (spM K mg m__law_any)) (c__law_mends : Has P w K mg base "_law_mends" 1 ["end"] (spM K mg m__law_mends)) (c_mended : Has P w K mg base "mended" 9 ["reader", "state"] (spM K mg m_mended)) (c_leaf : Has P w K mg base "leaf" 10 ["reader", "state"] (spM K mg m_leaf)) (c_read : Has P w K mg base "read" 10 ["reader", "state"] (spM K mg m_read)) : FnOk P w K mg base (L2.CX P w) 25 f fd ["script"] (spM K mg m_law) :=
  fn_ok F sc_law b_law fun cdv A outer s H E hr =>
    (s_seq (s_set 1 (e_new (f_callH c__law_hand hr (takes_of rfl rfl rfl rfl) (a_cons (e_var 0) a_nil))) sc_law.nd) (s_seq (s_for (p := (.nm 2)) (passes_of rfl) (i_range1 T.b_range (a_cons e_int a_nil)) (pg_nmP (i := 2) sc_law.nd rfl) (s_seq (s_set 3 (e_bin op_add3 fol_add e_int (e_callH c__law_draw hr (takes_of rfl rfl rfl rfl) (a_cons (e_var 1) (a_cons e_int a_nil)))) sc_law.nd) (s_seq (s_set 4 (e_L (f_callH c__law_pool hr (takes_of rfl rfl rfl rfl) (a_cons (e_var 1) a_nil))) sc_law.nd) (s_seq (s_set 5 (e_tuple T.b_tuple (a_cons (e_L (f_lc (own := [("k", 10)]) (.nm 10) sc_law.nd (i_range1 T.b_range (a_cons (e_var 3) a_nil)) (blkOk_by (by rfl)) (fun _ _ _ _ _ => (pg_nmP (i := 10) sc_law.nd rfl)) (fun _ _ _ _ _ => p_yes) (fun _ _ _ _ _ => (e_callH c__law_any hr takes0 (a_cons (e_var 1) (a_cons (e_bin op_add3 fol_add (e_var 4) (e_L (f_lst (a_cons e_non a_nil)))) a_nil)))) (by decide))) a_nil)) sc_law.nd) (s_seq (s_set 6 (e_callH c__law_reader hr (takes_of rfl rfl rfl rfl) (a_cons (e_var 1) (a_cons (e_var 4) (a_cons (e_var 3) (a_cons e_int (a_cons e_int (a_cons (e_bin op_add3 fol_add e_int (e_callH c__law_draw hr (takes_of rfl rfl rfl rfl) (a_cons (e_var 1) (a_cons e_int a_nil)))) a_nil))))))) sc_law.nd) (s_seq (s_set 7 (e_callH c__law_led hr (takes_of rfl rfl rfl rfl) (a_cons (e_var 6) (a_cons (e_var 5) a_nil))) sc_law.nd) (s_seq (s_asg (.tp [(.nm 8), (.nm 9)]) (e_callH c__law_behind hr (takes_of rfl rfl rfl rfl) (a_cons (e_var 5) (a_cons (e_bin op_add3 fol_add (e_callH c__law_mends hr (takes_of rfl rfl rfl rfl) (a_cons (e_var 7) a_nil)) (e_tup (a_cons (e_tup (a_cons e_str a_nil)) a_nil))) a_nil))) (pg_tpP rfl (pgs_consP (pg_nmP (i := 8) sc_law.nd rfl) (pgs_consP (pg_nmP (i := 9) sc_law.nd rfl) pgs_nilP)))) (s_seq (s_if (w_or (t_cmp (op_neD (hu64 hr)) fol_ne (e_callH c_mended hr (takes_of rfl rfl rfl rfl) (a_cons (e_var 6) (a_cons (e_var 5) a_nil))) (e_var 8)) (w_or (t_cmp (op_neD (hu64 hr)) fol_ne (e_callH c_leaf hr (takes_of rfl rfl rfl rfl) (a_cons (e_var 6) (a_cons (e_var 5) a_nil))) (e_var 7)) (w_one .Or (t_cmp (op_neD (hu64 hr)) fol_ne (e_callH c_read hr (takes_of rfl rfl rfl rfl) (a_cons (e_var 6) (a_cons (e_var 5) a_nil))) (e_ix (e_var 7) e_int))))).pt (s_seq (s_ret e_bl) s_nil) s_nil) (s_seq (s_if (w_and (t_cmp (op_eqD (hu64 hr)) fol_eq (e_ix (e_var 7) e_int) e_str) (w_one .And (t_cmp (op_neD (hu64 hr)) fol_ne (e_callH c_mended hr (takes_of rfl rfl rfl rfl) (a_cons (e_var 6) (a_cons (e_var 5) a_nil))) (e_var 5)))).pt (s_seq (s_ret e_bl) s_nil) s_nil) s_nil))))))))) (s_seq (s_ret e_bl) s_nil)))
end
end My
namespace My
open PySem PySem.Spec PyProof.Rows L2 AB
theorem all_mk {l : PySem.W.OpenLaw} {w : World} {K : PySem.W.Frag} {h : Heap} {mg : Str → Option Value} {fa : Addr} (X : K.In h) (G : h.Ns mainGlobals mg) (hfa : mg "law" = some (.ref fa))
    (ht : ∀ ns : List Int, ns.length ≤ 63 → ∃ h, m_law [.rol (ns.map D.int)] [] = .ok (.bl true) h)
    {f0 : Addr} {od0 an0 : Option Addr} {sl0 : Array (Option Value)} {oc0 kV0 dc0 pm0 cd0 ct0 : Value}
    {f1 : Addr} {od1 an1 : Option Addr} {sl1 : Array (Option Value)} {oc1 kV1 dc1 pm1 cd1 ct1 : Value}
    {f2 : Addr} {od2 an2 : Option Addr} {sl2 : Array (Option Value)} {oc2 kV2 dc2 pm2 cd2 ct2 : Value}
    {f3 : Addr} {od3 an3 : Option Addr} {sl3 : Array (Option Value)} {oc3 kV3 dc3 pm3 cd3 ct3 : Value}
    {f4 : Addr} {od4 an4 : Option Addr} {sl4 : Array (Option Value)} {oc4 kV4 dc4 pm4 cd4 ct4 : Value}
    {f5 : Addr} {od5 an5 : Option Addr} {sl5 : Array (Option Value)} {oc5 kV5 dc5 pm5 cd5 ct5 : Value}
    {f6 : Addr} {od6 an6 : Option Addr} {sl6 : Array (Option Value)} {oc6 kV6 dc6 pm6 cd6 ct6 : Value}
    {f7 : Addr} {od7 an7 : Option Addr} {sl7 : Array (Option Value)} {oc7 kV7 dc7 pm7 cd7 ct7 : Value}
    {f8 : Addr} {od8 an8 : Option Addr} {sl8 : Array (Option Value)} {oc8 kV8 dc8 pm8 cd8 ct8 : Value}
    {f9 : Addr} {od9 an9 : Option Addr} {sl9 : Array (Option Value)} {oc9 kV9 dc9 pm9 cd9 ct9 : Value}
    {f10 : Addr} {od10 an10 : Option Addr} {sl10 : Array (Option Value)} {oc10 kV10 dc10 pm10 cd10 ct10 : Value}
    {f11 : Addr} {od11 an11 : Option Addr} {sl11 : Array (Option Value)} {oc11 kV11 dc11 pm11 cd11 ct11 : Value}
    {f12 : Addr} {od12 an12 : Option Addr} {sl12 : Array (Option Value)} {oc12 kV12 dc12 pm12 cd12 ct12 : Value}
    {f13 : Addr} {od13 an13 : Option Addr} {sl13 : Array (Option Value)} {oc13 kV13 dc13 pm13 cd13 ct13 : Value}
    {f14 : Addr} {od14 an14 : Option Addr} {sl14 : Array (Option Value)} {oc14 kV14 dc14 pm14 cd14 ct14 : Value}
    {f15 : Addr} {od15 an15 : Option Addr} {sl15 : Array (Option Value)} {oc15 kV15 dc15 pm15 cd15 ct15 : Value}
    {f16 : Addr} {od16 an16 : Option Addr} {sl16 : Array (Option Value)} {oc16 kV16 dc16 pm16 cd16 ct16 : Value}
    {f17 : Addr} {od17 an17 : Option Addr} {sl17 : Array (Option Value)} {oc17 kV17 dc17 pm17 cd17 ct17 : Value}
    {f18 : Addr} {od18 an18 : Option Addr} {sl18 : Array (Option Value)} {oc18 kV18 dc18 pm18 cd18 ct18 : Value}
    {f19 : Addr} {od19 an19 : Option Addr} {sl19 : Array (Option Value)} {oc19 kV19 dc19 pm19 cd19 ct19 : Value}
    {f20 : Addr} {od20 an20 : Option Addr} {sl20 : Array (Option Value)} {oc20 kV20 dc20 pm20 cd20 ct20 : Value}
    {f21 : Addr} {od21 an21 : Option Addr} {sl21 : Array (Option Value)} {oc21 kV21 dc21 pm21 cd21 ct21 : Value}
    {f22 : Addr} {od22 an22 : Option Addr} {sl22 : Array (Option Value)} {oc22 kV22 dc22 pm22 cd22 ct22 : Value}
    {f23 : Addr} {od23 an23 : Option Addr} {sl23 : Array (Option Value)} {oc23 kV23 dc23 pm23 cd23 ct23 : Value}
    {f24 : Addr} {od24 an24 : Option Addr} {sl24 : Array (Option Value)} {oc24 kV24 dc24 pm24 cd24 ct24 : Value}
    {f25 : Addr} {od25 an25 : Option Addr} {sl25 : Array (Option Value)} {oc25 kV25 dc25 pm25 cd25 ct25 : Value}
    {f26 : Addr} {od26 an26 : Option Addr} {sl26 : Array (Option Value)} {oc26 kV26 dc26 pm26 cd26 ct26 : Value}
    {f27 : Addr} {od27 an27 : Option Addr} {sl27 : Array (Option Value)} {oc27 kV27 dc27 pm27 cd27 ct27 : Value}
    {f28 : Addr} {od28 an28 : Option Addr} {sl28 : Array (Option Value)} {oc28 kV28 dc28 pm28 cd28 ct28 : Value}
    {f29 : Addr} {od29 an29 : Option Addr} {sl29 : Array (Option Value)} {oc29 kV29 dc29 pm29 cd29 ct29 : Value}
    {f30 : Addr} {od30 an30 : Option Addr} {sl30 : Array (Option Value)} {oc30 kV30 dc30 pm30 cd30 ct30 : Value}
    {f31 : Addr} {od31 an31 : Option Addr} {sl31 : Array (Option Value)} {oc31 kV31 dc31 pm31 cd31 ct31 : Value}
    {f32 : Addr} {od32 an32 : Option Addr} {sl32 : Array (Option Value)} {oc32 kV32 dc32 pm32 cd32 ct32 : Value}
    {f33 : Addr} {od33 an33 : Option Addr} {sl33 : Array (Option Value)} {oc33 kV33 dc33 pm33 cd33 ct33 : Value}
    {f34 : Addr} {od34 an34 : Option Addr} {sl34 : Array (Option Value)} {oc34 kV34 dc34 pm34 cd34 ct34 : Value}
    {f35 : Addr} {od35 an35 : Option Addr} {sl35 : Array (Option Value)} {oc35 kV35 dc35 pm35 cd35 ct35 : Value}
    {f36 : Addr} {od36 an36 : Option Addr} {sl36 : Array (Option Value)} {oc36 kV36 dc36 pm36 cd36 ct36 : Value}
    {f37 : Addr} {od37 an37 : Option Addr} {sl37 : Array (Option Value)} {oc37 kV37 dc37 pm37 cd37 ct37 : Value}
    {f38 : Addr} {od38 an38 : Option Addr} {sl38 : Array (Option Value)} {oc38 kV38 dc38 pm38 cd38 ct38 : Value}
    {f39 : Addr} {od39 an39 : Option Addr} {sl39 : Array (Option Value)} {oc39 kV39 dc39 pm39 cd39 ct39 : Value}
    {t0 : Tok}
    {t1 : Tok}
    {t2 : Tok}
    {t3 : Tok}
    {t4 : Tok}
    {t5 : Tok}
    {t6 : Tok}
    {t7 : Tok}
    {D0 : Addr}
    (oa0 : PySem.W.nsIn K mainGlobals "Disk" = some (some (.ref D0))) (pg0 : PySem.W.plainGet K D0 Str.empty = true) (hd0 : PySem.W.hasDictIn K D0 = true) (po0 : PySem.W.plainOver K D0 = true) (sa0 : PySem.W.findIn K (.ref D0) "__setattr__" = some (some (.builtin "object.__setattr__")))
    (mk0 : PySem.W.makesIn K D0 = true) (kc0 : PySem.W.keepIn K (.ref D0) = true)
    (nf0 : PySem.W.findIn K (.ref D0) "kept" = some none)
    (nf1 : PySem.W.findIn K (.ref D0) "watcher" = some none)
    (nf2 : PySem.W.findIn K (.ref D0) "writes" = some none)
    (a0 : PySem.W.nsIn K mainGlobals "_law_hand" = some (some (.ref f0)))
    (l0 : K.lookup f0 = some ⟨oc0, od0, .func (PySem.W.fnOf "_law_hand" "_law_hand" (defArgs (topS 46)) (defBody (topS 46)) (defScope (topS 46)) .none kV0 dc0 pm0 an0 cd0 ct0), sl0⟩) (c0 : PySem.W.codeIn K cd0 "_law_hand" = true) (k0 : PySem.W.keepIn K (.ref f0) = true)
    (a1 : PySem.W.nsIn K mainGlobals "_law_draw" = some (some (.ref f1)))
    (l1 : K.lookup f1 = some ⟨oc1, od1, .func (PySem.W.fnOf "_law_draw" "_law_draw" (defArgs (topS 47)) (defBody (topS 47)) (defScope (topS 47)) .none kV1 dc1 pm1 an1 cd1 ct1), sl1⟩) (c1 : PySem.W.codeIn K cd1 "_law_draw" = true) (k1 : PySem.W.keepIn K (.ref f1) = true)
    (a2 : PySem.W.nsIn K mainGlobals "_law_led" = some (some (.ref f2)))
    (l2 : K.lookup f2 = some ⟨oc2, od2, .func (PySem.W.fnOf "_law_led" "_law_led" (defArgs (topS 53)) (defBody (topS 53)) (defScope (topS 53)) .none kV2 dc2 pm2 an2 cd2 ct2), sl2⟩) (c2 : PySem.W.codeIn K cd2 "_law_led" = true) (k2 : PySem.W.keepIn K (.ref f2) = true)
    (a3 : PySem.W.nsIn K mainGlobals "_law_behind" = some (some (.ref f3)))
    (l3 : K.lookup f3 = some ⟨oc3, od3, .func (PySem.W.fnOf "_law_behind" "_law_behind" (defArgs (topS 54)) (defBody (topS 54)) (defScope (topS 54)) .none kV3 dc3 pm3 an3 cd3 ct3), sl3⟩) (c3 : PySem.W.codeIn K cd3 "_law_behind" = true) (k3 : PySem.W.keepIn K (.ref f3) = true)
    (a4 : PySem.W.nsIn K mainGlobals "_law_mends" = some (some (.ref f4)))
    (l4 : K.lookup f4 = some ⟨oc4, od4, .func (PySem.W.fnOf "_law_mends" "_law_mends" (defArgs (topS 55)) (defBody (topS 55)) (defScope (topS 55)) .none kV4 dc4 pm4 an4 cd4 ct4), sl4⟩) (c4 : PySem.W.codeIn K cd4 "_law_mends" = true) (k4 : PySem.W.keepIn K (.ref f4) = true)
    (a5 : PySem.W.nsIn K mainGlobals "is_integer" = some (some (.ref f5)))
    (l5 : K.lookup f5 = some ⟨oc5, od5, .func (PySem.W.fnOf "is_integer" "is_integer" (defArgs (topS 11)) (defBody (topS 11)) (defScope (topS 11)) .none kV5 dc5 pm5 an5 cd5 ct5), sl5⟩) (c5 : PySem.W.codeIn K cd5 "is_integer" = true) (k5 : PySem.W.keepIn K (.ref f5) = true)
    (a6 : PySem.W.nsIn K mainGlobals "rank" = some (some (.ref f6)))
    (l6 : K.lookup f6 = some ⟨oc6, od6, .func (PySem.W.fnOf "rank" "rank" (defArgs (topS 16)) (defBody (topS 16)) (defScope (topS 16)) .none kV6 dc6 pm6 an6 cd6 ct6), sl6⟩) (c6 : PySem.W.codeIn K cd6 "rank" = true) (k6 : PySem.W.keepIn K (.ref f6) = true)
    (a7 : PySem.W.nsIn K mainGlobals "inner" = some (some (.ref f7)))
    (l7 : K.lookup f7 = some ⟨oc7, od7, .func (PySem.W.fnOf "inner" "inner" (defArgs (topS 32)) (defBody (topS 32)) (defScope (topS 32)) .none kV7 dc7 pm7 an7 cd7 ct7), sl7⟩) (c7 : PySem.W.codeIn K cd7 "inner" = true) (k7 : PySem.W.keepIn K (.ref f7) = true)
    (a8 : PySem.W.nsIn K mainGlobals "steps_of" = some (some (.ref f8)))
    (l8 : K.lookup f8 = some ⟨oc8, od8, .func (PySem.W.fnOf "steps_of" "steps_of" (defArgs (topS 43)) (defBody (topS 43)) (defScope (topS 43)) .none kV8 dc8 pm8 an8 cd8 ct8), sl8⟩) (c8 : PySem.W.codeIn K cd8 "steps_of" = true) (k8 : PySem.W.keepIn K (.ref f8) = true)
    (m25 : PySem.W.findIn K (.ref D0) "now" = some (some (.ref f9)))
    (l9 : K.lookup f9 = some ⟨oc9, od9, .func (PySem.W.fnOf "now" "Disk.now" (defArgs (inClass (topS 21) 4)) (defBody (inClass (topS 21) 4)) (defScope (inClass (topS 21) 4)) .none kV9 dc9 pm9 an9 cd9 ct9), sl9⟩) (c9 : PySem.W.codeIn K cd9 "Disk.now" = true) (k9 : PySem.W.keepIn K (.ref f9) = true)
    (i9 : PySem.W.isFn K (.ref f9) = true)
    (m3 : PySem.W.findIn K (.ref D0) "tell" = some (some (.ref f10)))
    (l10 : K.lookup f10 = some ⟨oc10, od10, .func (PySem.W.fnOf "tell" "Disk.tell" (defArgs (inClass (topS 21) 3)) (defBody (inClass (topS 21) 3)) (defScope (inClass (topS 21) 3)) .none kV10 dc10 pm10 an10 cd10 ct10), sl10⟩) (c10 : PySem.W.codeIn K cd10 "Disk.tell" = true) (k10 : PySem.W.keepIn K (.ref f10) = true)
    (i10 : PySem.W.isFn K (.ref f10) = true)
    (a11 : PySem.W.nsIn K mainGlobals "way_on" = some (some (.ref f11)))
    (l11 : K.lookup f11 = some ⟨oc11, od11, .func (PySem.W.fnOf "way_on" "way_on" (defArgs (topS 35)) (defBody (topS 35)) (defScope (topS 35)) .none kV11 dc11 pm11 an11 cd11 ct11), sl11⟩) (c11 : PySem.W.codeIn K cd11 "way_on" = true) (k11 : PySem.W.keepIn K (.ref f11) = true)
    (a12 : PySem.W.nsIn K mainGlobals "_law_value" = some (some (.ref f12)))
    (l12 : K.lookup f12 = some ⟨oc12, od12, .func (PySem.W.fnOf "_law_value" "_law_value" (defArgs (topS 48)) (defBody (topS 48)) (defScope (topS 48)) .none kV12 dc12 pm12 an12 cd12 ct12), sl12⟩) (c12 : PySem.W.codeIn K cd12 "_law_value" = true) (k12 : PySem.W.keepIn K (.ref f12) = true)
    (a13 : PySem.W.nsIn K mainGlobals "_law_any" = some (some (.ref f13)))
    (l13 : K.lookup f13 = some ⟨oc13, od13, .func (PySem.W.fnOf "_law_any" "_law_any" (defArgs (topS 50)) (defBody (topS 50)) (defScope (topS 50)) .none kV13 dc13 pm13 an13 cd13 ct13), sl13⟩) (c13 : PySem.W.codeIn K cd13 "_law_any" = true) (k13 : PySem.W.keepIn K (.ref f13) = true)
    (a14 : PySem.W.nsIn K mainGlobals "is_between" = some (some (.ref f14)))
    (l14 : K.lookup f14 = some ⟨oc14, od14, .func (PySem.W.fnOf "is_between" "is_between" (defArgs (topS 12)) (defBody (topS 12)) (defScope (topS 12)) .none kV14 dc14 pm14 an14 cd14 ct14), sl14⟩) (c14 : PySem.W.codeIn K cd14 "is_between" = true) (k14 : PySem.W.keepIn K (.ref f14) = true)
    (a15 : PySem.W.nsIn K mainGlobals "are_ascending" = some (some (.ref f15)))
    (l15 : K.lookup f15 = some ⟨oc15, od15, .func (PySem.W.fnOf "are_ascending" "are_ascending" (defArgs (topS 17)) (defBody (topS 17)) (defScope (topS 17)) .none kV15 dc15 pm15 an15 cd15 ct15), sl15⟩) (c15 : PySem.W.codeIn K cd15 "are_ascending" = true) (k15 : PySem.W.keepIn K (.ref f15) = true)
    (m14 : PySem.W.findIn K (.ref D0) "barrier" = some (some (.ref f16)))
    (l16 : K.lookup f16 = some ⟨oc16, od16, .func (PySem.W.fnOf "barrier" "Disk.barrier" (defArgs (inClass (topS 21) 2)) (defBody (inClass (topS 21) 2)) (defScope (inClass (topS 21) 2)) .none kV16 dc16 pm16 an16 cd16 ct16), sl16⟩) (c16 : PySem.W.codeIn K cd16 "Disk.barrier" = true) (k16 : PySem.W.keepIn K (.ref f16) = true)
    (i16 : PySem.W.isFn K (.ref f16) = true)
    (a17 : PySem.W.nsIn K mainGlobals "led" = some (some (.ref f17)))
    (l17 : K.lookup f17 = some ⟨oc17, od17, .func (PySem.W.fnOf "led" "led" (defArgs (topS 36)) (defBody (topS 36)) (defScope (topS 36)) .none kV17 dc17 pm17 an17 cd17 ct17), sl17⟩) (c17 : PySem.W.codeIn K cd17 "led" = true) (k17 : PySem.W.keepIn K (.ref f17) = true)
    (a18 : PySem.W.nsIn K mainGlobals "_law_pool" = some (some (.ref f18)))
    (l18 : K.lookup f18 = some ⟨oc18, od18, .func (PySem.W.fnOf "_law_pool" "_law_pool" (defArgs (topS 49)) (defBody (topS 49)) (defScope (topS 49)) .none kV18 dc18 pm18 an18 cd18 ct18), sl18⟩) (c18 : PySem.W.codeIn K cd18 "_law_pool" = true) (k18 : PySem.W.keepIn K (.ref f18) = true)
    (a19 : PySem.W.nsIn K mainGlobals "_law_end" = some (some (.ref f19)))
    (l19 : K.lookup f19 = some ⟨oc19, od19, .func (PySem.W.fnOf "_law_end" "_law_end" (defArgs (topS 51)) (defBody (topS 51)) (defScope (topS 51)) .none kV19 dc19 pm19 an19 cd19 ct19), sl19⟩) (c19 : PySem.W.codeIn K cd19 "_law_end" = true) (k19 : PySem.W.keepIn K (.ref f19) = true)
    (a20 : PySem.W.nsIn K mainGlobals "is_value" = some (some (.ref f20)))
    (l20 : K.lookup f20 = some ⟨oc20, od20, .func (PySem.W.fnOf "is_value" "is_value" (defArgs (topS 14)) (defBody (topS 14)) (defScope (topS 14)) .none kV20 dc20 pm20 an20 cd20 ct20), sl20⟩) (c20 : PySem.W.codeIn K cd20 "is_value" = true) (k20 : PySem.W.keepIn K (.ref f20) = true)
    (a21 : PySem.W.nsIn K mainGlobals "is_index" = some (some (.ref f21)))
    (l21 : K.lookup f21 = some ⟨oc21, od21, .func (PySem.W.fnOf "is_index" "is_index" (defArgs (topS 13)) (defBody (topS 13)) (defScope (topS 13)) .none kV21 dc21 pm21 an21 cd21 ct21), sl21⟩) (c21 : PySem.W.codeIn K cd21 "is_index" = true) (k21 : PySem.W.keepIn K (.ref f21) = true)
    (a22 : PySem.W.nsIn K mainGlobals "is_held" = some (some (.ref f22)))
    (l22 : K.lookup f22 = some ⟨oc22, od22, .func (PySem.W.fnOf "is_held" "is_held" (defArgs (topS 15)) (defBody (topS 15)) (defScope (topS 15)) .none kV22 dc22 pm22 an22 cd22 ct22), sl22⟩) (c22 : PySem.W.codeIn K cd22 "is_held" = true) (k22 : PySem.W.keepIn K (.ref f22) = true)
    (a23 : PySem.W.nsIn K mainGlobals "is_disk_step" = some (some (.ref f23)))
    (l23 : K.lookup f23 = some ⟨oc23, od23, .func (PySem.W.fnOf "is_disk_step" "is_disk_step" (defArgs (topS 28)) (defBody (topS 28)) (defScope (topS 28)) .none kV23 dc23 pm23 an23 cd23 ct23), sl23⟩) (c23 : PySem.W.codeIn K cd23 "is_disk_step" = true) (k23 : PySem.W.keepIn K (.ref f23) = true)
    (m13 : PySem.W.findIn K (.ref D0) "write" = some (some (.ref f24)))
    (l24 : K.lookup f24 = some ⟨oc24, od24, .func (PySem.W.fnOf "write" "Disk.write" (defArgs (inClass (topS 21) 1)) (defBody (inClass (topS 21) 1)) (defScope (inClass (topS 21) 1)) .none kV24 dc24 pm24 an24 cd24 ct24), sl24⟩) (c24 : PySem.W.codeIn K cd24 "Disk.write" = true) (k24 : PySem.W.keepIn K (.ref f24) = true)
    (i24 : PySem.W.isFn K (.ref f24) = true)
    (a25 : PySem.W.nsIn K mainGlobals "is_state" = some (some (.ref f25)))
    (l25 : K.lookup f25 = some ⟨oc25, od25, .func (PySem.W.fnOf "is_state" "is_state" (defArgs (topS 18)) (defBody (topS 18)) (defScope (topS 18)) .none kV25 dc25 pm25 an25 cd25 ct25), sl25⟩) (c25 : PySem.W.codeIn K cd25 "is_state" = true) (k25 : PySem.W.keepIn K (.ref f25) = true)
    (a26 : PySem.W.nsIn K mainGlobals "are_cases" = some (some (.ref f26)))
    (l26 : K.lookup f26 = some ⟨oc26, od26, .func (PySem.W.fnOf "are_cases" "are_cases" (defArgs (topS 30)) (defBody (topS 30)) (defScope (topS 30)) .none kV26 dc26 pm26 an26 cd26 ct26), sl26⟩) (c26 : PySem.W.codeIn K cd26 "are_cases" = true) (k26 : PySem.W.keepIn K (.ref f26) = true)
    (a27 : PySem.W.nsIn K mainGlobals "is_end" = some (some (.ref f27)))
    (l27 : K.lookup f27 = some ⟨oc27, od27, .func (PySem.W.fnOf "is_end" "is_end" (defArgs (topS 29)) (defBody (topS 29)) (defScope (topS 29)) .none kV27 dc27 pm27 an27 cd27 ct27), sl27⟩) (c27 : PySem.W.codeIn K cd27 "is_end" = true) (k27 : PySem.W.keepIn K (.ref f27) = true)
    (a28 : PySem.W.nsIn K mainGlobals "do_step" = some (some (.ref f28)))
    (l28 : K.lookup f28 = some ⟨oc28, od28, .func (PySem.W.fnOf "do_step" "do_step" (defArgs (topS 41)) (defBody (topS 41)) (defScope (topS 41)) .none kV28 dc28 pm28 an28 cd28 ct28), sl28⟩) (c28 : PySem.W.codeIn K cd28 "do_step" = true) (k28 : PySem.W.keepIn K (.ref f28) = true)
    (a29 : PySem.W.nsIn K mainGlobals "check_state" = some (some (.ref f29)))
    (l29 : K.lookup f29 = some ⟨oc29, od29, .func (PySem.W.fnOf "check_state" "check_state" (defArgs (topS 19)) (defBody (topS 19)) (defScope (topS 19)) .none kV29 dc29 pm29 an29 cd29 ct29), sl29⟩) (c29 : PySem.W.codeIn K cd29 "check_state" = true) (k29 : PySem.W.keepIn K (.ref f29) = true)
    (a30 : PySem.W.nsIn K mainGlobals "is_ask" = some (some (.ref f30)))
    (l30 : K.lookup f30 = some ⟨oc30, od30, .func (PySem.W.fnOf "is_ask" "is_ask" (defArgs (topS 31)) (defBody (topS 31)) (defScope (topS 31)) .none kV30 dc30 pm30 an30 cd30 ct30), sl30⟩) (c30 : PySem.W.codeIn K cd30 "is_ask" = true) (k30 : PySem.W.keepIn K (.ref f30) = true)
    (a31 : PySem.W.nsIn K mainGlobals "is_right" = some (some (.ref f31)))
    (l31 : K.lookup f31 = some ⟨oc31, od31, .func (PySem.W.fnOf "is_right" "is_right" (defArgs (topS 33)) (defBody (topS 33)) (defScope (topS 33)) .none kV31 dc31 pm31 an31 cd31 ct31), sl31⟩) (c31 : PySem.W.codeIn K cd31 "is_right" = true) (k31 : PySem.W.keepIn K (.ref f31) = true)
    (m23 : PySem.W.findIn K (.ref D0) "__init__" = some (some (.ref f32)))
    (l32 : K.lookup f32 = some ⟨oc32, od32, .func (PySem.W.fnOf "__init__" "Disk.__init__" (defArgs (inClass (topS 21) 0)) (defBody (inClass (topS 21) 0)) (defScope (inClass (topS 21) 0)) .none kV32 dc32 pm32 an32 cd32 ct32), sl32⟩) (c32 : PySem.W.codeIn K cd32 "Disk.__init__" = true) (k32 : PySem.W.keepIn K (.ref f32) = true)
    (i32 : PySem.W.isFn K (.ref f32) = true)
    (a33 : PySem.W.nsIn K mainGlobals "check_reader" = some (some (.ref f33)))
    (l33 : K.lookup f33 = some ⟨oc33, od33, .func (PySem.W.fnOf "check_reader" "check_reader" (defArgs (topS 34)) (defBody (topS 34)) (defScope (topS 34)) .none kV33 dc33 pm33 an33 cd33 ct33), sl33⟩) (c33 : PySem.W.codeIn K cd33 "check_reader" = true) (k33 : PySem.W.keepIn K (.ref f33) = true)
    (a34 : PySem.W.nsIn K mainGlobals "mended" = some (some (.ref f34)))
    (l34 : K.lookup f34 = some ⟨oc34, od34, .func (PySem.W.fnOf "mended" "mended" (defArgs (topS 44)) (defBody (topS 44)) (defScope (topS 44)) .none kV34 dc34 pm34 an34 cd34 ct34), sl34⟩) (c34 : PySem.W.codeIn K cd34 "mended" = true) (k34 : PySem.W.keepIn K (.ref f34) = true)
    (a35 : PySem.W.nsIn K mainGlobals "check_both" = some (some (.ref f35)))
    (l35 : K.lookup f35 = some ⟨oc35, od35, .func (PySem.W.fnOf "check_both" "check_both" (defArgs (topS 37)) (defBody (topS 37)) (defScope (topS 37)) .none kV35 dc35 pm35 an35 cd35 ct35), sl35⟩) (c35 : PySem.W.codeIn K cd35 "check_both" = true) (k35 : PySem.W.keepIn K (.ref f35) = true)
    (a36 : PySem.W.nsIn K mainGlobals "leaf" = some (some (.ref f36)))
    (l36 : K.lookup f36 = some ⟨oc36, od36, .func (PySem.W.fnOf "leaf" "leaf" (defArgs (topS 39)) (defBody (topS 39)) (defScope (topS 39)) .none kV36 dc36 pm36 an36 cd36 ct36), sl36⟩) (c36 : PySem.W.codeIn K cd36 "leaf" = true) (k36 : PySem.W.keepIn K (.ref f36) = true)
    (a37 : PySem.W.nsIn K mainGlobals "read" = some (some (.ref f37)))
    (l37 : K.lookup f37 = some ⟨oc37, od37, .func (PySem.W.fnOf "read" "read" (defArgs (topS 38)) (defBody (topS 38)) (defScope (topS 38)) .none kV37 dc37 pm37 an37 cd37 ct37), sl37⟩) (c37 : PySem.W.codeIn K cd37 "read" = true) (k37 : PySem.W.keepIn K (.ref f37) = true)
    (a38 : PySem.W.nsIn K mainGlobals "_law_reader" = some (some (.ref f38)))
    (l38 : K.lookup f38 = some ⟨oc38, od38, .func (PySem.W.fnOf "_law_reader" "_law_reader" (defArgs (topS 52)) (defBody (topS 52)) (defScope (topS 52)) .none kV38 dc38 pm38 an38 cd38 ct38), sl38⟩) (c38 : PySem.W.codeIn K cd38 "_law_reader" = true) (k38 : PySem.W.keepIn K (.ref f38) = true)
    (a39 : PySem.W.nsIn K mainGlobals "law" = some (some (.ref f39)))
    (l39 : K.lookup f39 = some ⟨oc39, od39, .func (PySem.W.fnOf "law" "law" (defArgs (topS 56)) (defBody (topS 56)) (defScope (topS 56)) .none kV39 dc39 pm39 an39 cd39 ct39), sl39⟩) (c39 : PySem.W.codeIn K cd39 "law" = true) (k39 : PySem.W.keepIn K (.ref f39) = true)
    (z0 : PySem.W.nsIn K mainGlobals "abs" = some none)
    (z1 : PySem.W.nsIn K mainGlobals "all" = some none)
    (z2 : PySem.W.nsIn K mainGlobals "bool" = some none)
    (z3 : PySem.W.nsIn K mainGlobals "int" = some none)
    (z4 : PySem.W.nsIn K mainGlobals "isinstance" = some none)
    (z5 : PySem.W.nsIn K mainGlobals "len" = some none)
    (z6 : PySem.W.nsIn K mainGlobals "list" = some none)
    (z7 : PySem.W.nsIn K mainGlobals "range" = some none)
    (z8 : PySem.W.nsIn K mainGlobals "sorted" = some none)
    (z9 : PySem.W.nsIn K mainGlobals "str" = some none)
    (z10 : PySem.W.nsIn K mainGlobals "tuple" = some none)
    (z11 : PySem.W.nsIn K mainGlobals "zip" = some none)
    (y0 : PySem.W.nsIn K mainGlobals "MOST_CASES" = some (some (.int 16 t0)))
    (y1 : PySem.W.nsIn K mainGlobals "MOST_DEEP" = some (some (.int 12 t1)))
    (y2 : PySem.W.nsIn K mainGlobals "MOST_ITEM" = some (some (.int 1000000000000 t2)))
    (y3 : PySem.W.nsIn K mainGlobals "MOST_ITEMS" = some (some (.int 32 t3)))
    (y4 : PySem.W.nsIn K mainGlobals "MOST_SAID" = some (some (.int 1000000000 t4)))
    (y5 : PySem.W.nsIn K mainGlobals "MOST_SECTORS" = some (some (.int 64 t5)))
    (y6 : PySem.W.nsIn K mainGlobals "MOST_STEPS" = some (some (.int 20 t6)))
    (y7 : PySem.W.nsIn K mainGlobals "MOST_TREES" = some (some (.int 400 t7)))
    : ∃ fd : FuncData, (∀ (s : Shared) (v : Value), BindsTo s fd ⟨[v], []⟩ [("script", v)]) ∧ ∀ base : Heap, K.In base → base.Ns mainGlobals mg → FnOk l.prog w K mg base (L2.CX l.prog w) 25 fa fd ["script"] (spLaw K) := by
  have e := hfa.symm.trans (PySem.W.mg_of X G a39)
  cases e
  have cl0 : Cls K D0 := ⟨pg0, hd0, po0, sa0⟩
  have T : Txt K mg := ⟨PySem.W.mg_none_of X G z0, PySem.W.mg_none_of X G z1, PySem.W.mg_none_of X G z2, PySem.W.mg_none_of X G z3, PySem.W.mg_none_of X G z4, PySem.W.mg_none_of X G z5, PySem.W.mg_none_of X G z6, PySem.W.mg_none_of X G z7, PySem.W.mg_none_of X G z8, PySem.W.mg_none_of X G z9, PySem.W.mg_none_of X G z10, PySem.W.mg_none_of X G z11, ⟨_, PySem.W.mg_of X G y0⟩, ⟨_, PySem.W.mg_of X G y1⟩, ⟨_, PySem.W.mg_of X G y2⟩, ⟨_, PySem.W.mg_of X G y3⟩, ⟨_, PySem.W.mg_of X G y4⟩, ⟨_, PySem.W.mg_of X G y5⟩, ⟨_, PySem.W.mg_of X G y6⟩, ⟨_, PySem.W.mg_of X G y7⟩, fldOk oa0 cl0 nf0, fldOk oa0 cl0 nf1, fldOk oa0 cl0 nf2⟩
  have F0 := fun_mk (st := (topS 46)) l0 c0 k0
  have F1 := fun_mk (st := (topS 47)) l1 c1 k1
  have F2 := fun_mk (st := (topS 53)) l2 c2 k2
  have F3 := fun_mk (st := (topS 54)) l3 c3 k3
  have F4 := fun_mk (st := (topS 55)) l4 c4 k4
  have F5 := fun_mk (st := (topS 11)) l5 c5 k5
  have F6 := fun_mk (st := (topS 16)) l6 c6 k6
  have F7 := fun_mk (st := (topS 32)) l7 c7 k7
  have F8 := fun_mk (st := (topS 43)) l8 c8 k8
  have F9 := fun_mk (st := (inClass (topS 21) 4)) l9 c9 k9
  have F10 := fun_mk (st := (inClass (topS 21) 3)) l10 c10 k10
  have F11 := fun_mk (st := (topS 35)) l11 c11 k11
  have F12 := fun_mk (st := (topS 48)) l12 c12 k12
  have F13 := fun_mk (st := (topS 50)) l13 c13 k13
  have F14 := fun_mk (st := (topS 12)) l14 c14 k14
  have F15 := fun_mk (st := (topS 17)) l15 c15 k15
  have F16 := fun_mk (st := (inClass (topS 21) 2)) l16 c16 k16
  have F17 := fun_mk (st := (topS 36)) l17 c17 k17
  have F18 := fun_mk (st := (topS 49)) l18 c18 k18
  have F19 := fun_mk (st := (topS 51)) l19 c19 k19
  have F20 := fun_mk (st := (topS 14)) l20 c20 k20
  have F21 := fun_mk (st := (topS 13)) l21 c21 k21
  have F22 := fun_mk (st := (topS 15)) l22 c22 k22
  have F23 := fun_mk (st := (topS 28)) l23 c23 k23
  have F24 := fun_mk (st := (inClass (topS 21) 1)) l24 c24 k24
  have F25 := fun_mk (st := (topS 18)) l25 c25 k25
  have F26 := fun_mk (st := (topS 30)) l26 c26 k26
  have F27 := fun_mk (st := (topS 29)) l27 c27 k27
  have F28 := fun_mk (st := (topS 41)) l28 c28 k28
  have F29 := fun_mk (st := (topS 19)) l29 c29 k29
  have F30 := fun_mk (st := (topS 31)) l30 c30 k30
  have F31 := fun_mk (st := (topS 33)) l31 c31 k31
  have F32 := fun_mk (st := (inClass (topS 21) 0)) l32 c32 k32
  have F33 := fun_mk (st := (topS 34)) l33 c33 k33
  have F34 := fun_mk (st := (topS 44)) l34 c34 k34
  have F35 := fun_mk (st := (topS 37)) l35 c35 k35
  have F36 := fun_mk (st := (topS 39)) l36 c36 k36
  have F37 := fun_mk (st := (topS 38)) l37 c37 k37
  have F38 := fun_mk (st := (topS 52)) l38 c38 k38
  have F39 := fun_mk (st := (topS 56)) l39 c39 k39
  refine ⟨PySem.W.fnOf "law" "law" (defArgs (topS 56)) (defBody (topS 56)) (defScope (topS 56)) .none kV39 dc39 pm39 an39 cd39 ct39, fun s v => .of_eq rfl, fun base _ _ => ?_⟩
  have c__law_hand : Has l.prog w K mg base "_law_hand" 1 ["script"] (spL K mg m__law_hand) := ⟨⟨f0, _, PySem.W.mg_of X G a0, k0, F0.binds (ps := ["script"]) fun _ _ _ _ _ _ us hl => match us, hl with | [_], _ => rfl, ok__law_hand F0 T ⟩⟩
  have c__law_draw : Has l.prog w K mg base "_law_draw" 1 ["hand", "many"] (spM K mg m__law_draw) := ⟨⟨f1, _, PySem.W.mg_of X G a1, k1, F1.binds (ps := ["hand", "many"]) fun _ _ _ _ _ _ us hl => match us, hl with | [_, _], _ => rfl, ok__law_draw F1 T ⟩⟩
  have c__law_led : Has l.prog w K mg base "_law_led" 1 ["reader", "state"] (spM K mg m__law_led) := ⟨⟨f2, _, PySem.W.mg_of X G a2, k2, F2.binds (ps := ["reader", "state"]) fun _ _ _ _ _ _ us hl => match us, hl with | [_, _], _ => rfl, ok__law_led F2 T ⟩⟩
  have c__law_behind : Has l.prog w K mg base "_law_behind" 1 ["state", "steps"] (spM K mg m__law_behind) := ⟨⟨f3, _, PySem.W.mg_of X G a3, k3, F3.binds (ps := ["state", "steps"]) fun _ _ _ _ _ _ us hl => match us, hl with | [_, _], _ => rfl, ok__law_behind F3 T ⟩⟩
  have c__law_mends : Has l.prog w K mg base "_law_mends" 1 ["end"] (spM K mg m__law_mends) := ⟨⟨f4, _, PySem.W.mg_of X G a4, k4, F4.binds (ps := ["end"]) fun _ _ _ _ _ _ us hl => match us, hl with | [_], _ => rfl, ok__law_mends F4 T ⟩⟩
  have c_is_integer : Has l.prog w K mg base "is_integer" 1 ["thing"] (spM K mg m_is_integer) := ⟨⟨f5, _, PySem.W.mg_of X G a5, k5, F5.binds (ps := ["thing"]) fun _ _ _ _ _ _ us hl => match us, hl with | [_], _ => rfl, ok_is_integer F5 T ⟩⟩
  have c_rank : Has l.prog w K mg base "rank" 1 ["thing"] (spM K mg m_rank) := ⟨⟨f6, _, PySem.W.mg_of X G a6, k6, F6.binds (ps := ["thing"]) fun _ _ _ _ _ _ us hl => match us, hl with | [_], _ => rfl, ok_rank F6 T ⟩⟩
  have c_inner : Has l.prog w K mg base "inner" 1 ["tree"] (spM K mg m_inner) := ⟨⟨f7, _, PySem.W.mg_of X G a7, k7, F7.binds (ps := ["tree"]) fun _ _ _ _ _ _ us hl => match us, hl with | [_], _ => rfl, ok_inner F7 T ⟩⟩
  have c_steps_of : Has l.prog w K mg base "steps_of" 1 ["end"] (spM K mg m_steps_of) := ⟨⟨f8, _, PySem.W.mg_of X G a8, k8, F8.binds (ps := ["end"]) fun _ _ _ _ _ _ us hl => match us, hl with | [_], _ => rfl, ok_steps_of F8 T ⟩⟩
  have o_Disk_now := ok_Disk_now (P := l.prog) (w := w) (base := base) F9 T 
  have b_Disk_now : Binds K _ ["self"] [] := F9.binds (ps := ["self"]) fun _ _ _ _ _ _ us hl => match us, hl with | [_], _ => rfl
  have c_Disk_now : MthOk l.prog w K mg base "Disk" "now" 1 ["self"] (spM K mg m_Disk_now) := mthOk oa0 cl0 ⟨m25, i9, k9⟩ b_Disk_now o_Disk_now
  have o_Disk_tell := ok_Disk_tell (P := l.prog) (w := w) (base := base) F10 T 
  have b_Disk_tell : Binds K _ ["self"] [] := F10.binds (ps := ["self"]) fun _ _ _ _ _ _ us hl => match us, hl with | [_], _ => rfl
  have c_Disk_tell : MthOk l.prog w K mg base "Disk" "tell" 1 ["self"] (spM K mg m_Disk_tell) := mthOk oa0 cl0 ⟨m3, i10, k10⟩ b_Disk_tell o_Disk_tell
  have c_way_on : Has l.prog w K mg base "way_on" 1 ["tree", "item"] (spM K mg m_way_on) := ⟨⟨f11, _, PySem.W.mg_of X G a11, k11, F11.binds (ps := ["tree", "item"]) fun _ _ _ _ _ _ us hl => match us, hl with | [_, _], _ => rfl, ok_way_on F11 T ⟩⟩
  have c__law_value : Has l.prog w K mg base "_law_value" 2 ["hand"] (spM K mg m__law_value) := ⟨⟨f12, _, PySem.W.mg_of X G a12, k12, F12.binds (ps := ["hand"]) fun _ _ _ _ _ _ us hl => match us, hl with | [_], _ => rfl, ok__law_value F12 T c__law_draw⟩⟩
  have c__law_any : Has l.prog w K mg base "_law_any" 2 ["hand", "things"] (spM K mg m__law_any) := ⟨⟨f13, _, PySem.W.mg_of X G a13, k13, F13.binds (ps := ["hand", "things"]) fun _ _ _ _ _ _ us hl => match us, hl with | [_, _], _ => rfl, ok__law_any F13 T c__law_draw⟩⟩
  have c_is_between : Has l.prog w K mg base "is_between" 2 ["thing", "least", "most"] (spM K mg m_is_between) := ⟨⟨f14, _, PySem.W.mg_of X G a14, k14, F14.binds (ps := ["thing", "least", "most"]) fun _ _ _ _ _ _ us hl => match us, hl with | [_, _, _], _ => rfl, ok_is_between F14 T c_is_integer⟩⟩
  have c_are_ascending : Has l.prog w K mg base "are_ascending" 2 ["things"] (spM K mg m_are_ascending) := ⟨⟨f15, _, PySem.W.mg_of X G a15, k15, F15.binds (ps := ["things"]) fun _ _ _ _ _ _ us hl => match us, hl with | [_], _ => rfl, ok_are_ascending F15 T c_rank⟩⟩
  have o_Disk_barrier := ok_Disk_barrier (P := l.prog) (w := w) (base := base) F16 T c_Disk_tell
  have b_Disk_barrier : Binds K _ ["self"] [] := F16.binds (ps := ["self"]) fun _ _ _ _ _ _ us hl => match us, hl with | [_], _ => rfl
  have c_Disk_barrier : MthOk l.prog w K mg base "Disk" "barrier" 2 ["self"] (spM K mg m_Disk_barrier) := mthOk oa0 cl0 ⟨m14, i16, k16⟩ b_Disk_barrier o_Disk_barrier
  have c_led : Has l.prog w K mg base "led" 2 ["reader", "state"] (spM K mg m_led) := ⟨⟨f17, _, PySem.W.mg_of X G a17, k17, F17.binds (ps := ["reader", "state"]) fun _ _ _ _ _ _ us hl => match us, hl with | [_, _], _ => rfl, ok_led F17 T c_way_on⟩⟩
  have c__law_pool : Has l.prog w K mg base "_law_pool" 3 ["hand"] (spL K mg m__law_pool) := ⟨⟨f18, _, PySem.W.mg_of X G a18, k18, F18.binds (ps := ["hand"]) fun _ _ _ _ _ _ us hl => match us, hl with | [_], _ => rfl, ok__law_pool F18 T c__law_value⟩⟩
  have c__law_end : Has l.prog w K mg base "_law_end" 3 ["hand", "pool", "sectors", "most", "mends"] (spM K mg m__law_end) := ⟨⟨f19, _, PySem.W.mg_of X G a19, k19, F19.binds (ps := ["hand", "pool", "sectors", "most", "mends"]) fun _ _ _ _ _ _ us hl => match us, hl with | [_, _, _, _, _], _ => rfl, ok__law_end F19 T c__law_draw c__law_any⟩⟩
  have c_is_value : Has l.prog w K mg base "is_value" 3 ["thing"] (spM K mg m_is_value) := ⟨⟨f20, _, PySem.W.mg_of X G a20, k20, F20.binds (ps := ["thing"]) fun _ _ _ _ _ _ us hl => match us, hl with | [_], _ => rfl, ok_is_value F20 T c_is_between⟩⟩
  have c_is_index : Has l.prog w K mg base "is_index" 3 ["thing", "many"] (spM K mg m_is_index) := ⟨⟨f21, _, PySem.W.mg_of X G a21, k21, F21.binds (ps := ["thing", "many"]) fun _ _ _ _ _ _ us hl => match us, hl with | [_, _], _ => rfl, ok_is_index F21 T c_is_between⟩⟩
  have c_is_held : Has l.prog w K mg base "is_held" 4 ["thing"] (spM K mg m_is_held) := ⟨⟨f22, _, PySem.W.mg_of X G a22, k22, F22.binds (ps := ["thing"]) fun _ _ _ _ _ _ us hl => match us, hl with | [_], _ => rfl, ok_is_held F22 T c_is_value⟩⟩
  have c_is_disk_step : Has l.prog w K mg base "is_disk_step" 4 ["thing", "sectors"] (spM K mg m_is_disk_step) := ⟨⟨f23, _, PySem.W.mg_of X G a23, k23, F23.binds (ps := ["thing", "sectors"]) fun _ _ _ _ _ _ us hl => match us, hl with | [_, _], _ => rfl, ok_is_disk_step F23 T c_is_index c_is_value⟩⟩
  have o_Disk_write := ok_Disk_write (P := l.prog) (w := w) (base := base) F24 T c_Disk_tell c_is_index c_is_value
  have b_Disk_write : Binds K _ ["self", "sector", "value"] [] := F24.binds (ps := ["self", "sector", "value"]) fun _ _ _ _ _ _ us hl => match us, hl with | [_, _, _], _ => rfl
  have c_Disk_write : MthOk l.prog w K mg base "Disk" "write" 4 ["self", "sector", "value"] (spM K mg m_Disk_write) := mthOk oa0 cl0 ⟨m13, i24, k24⟩ b_Disk_write o_Disk_write
  have c_is_state : Has l.prog w K mg base "is_state" 5 ["thing"] (spM K mg m_is_state) := ⟨⟨f25, _, PySem.W.mg_of X G a25, k25, F25.binds (ps := ["thing"]) fun _ _ _ _ _ _ us hl => match us, hl with | [_], _ => rfl, ok_is_state F25 T c_is_held⟩⟩
  have c_are_cases : Has l.prog w K mg base "are_cases" 5 ["thing"] (spM K mg m_are_cases) := ⟨⟨f26, _, PySem.W.mg_of X G a26, k26, F26.binds (ps := ["thing"]) fun _ _ _ _ _ _ us hl => match us, hl with | [_], _ => rfl, ok_are_cases F26 T c_are_ascending c_is_held⟩⟩
  have c_is_end : Has l.prog w K mg base "is_end" 5 ["thing", "sectors"] (spM K mg m_is_end) := ⟨⟨f27, _, PySem.W.mg_of X G a27, k27, F27.binds (ps := ["thing", "sectors"]) fun _ _ _ _ _ _ us hl => match us, hl with | [_, _], _ => rfl, ok_is_end F27 T c_is_between c_is_disk_step⟩⟩
  have c_do_step : Has l.prog w K mg base "do_step" 5 ["disk", "step"] (spM K mg m_do_step) := ⟨⟨f28, _, PySem.W.mg_of X G a28, k28, F28.binds (ps := ["disk", "step"]) fun _ _ _ _ _ _ us hl => match us, hl with | [_, _], _ => rfl, ok_do_step F28 T c_Disk_write c_Disk_barrier⟩⟩
  have c_check_state : Has l.prog w K mg base "check_state" 6 ["thing"] (spM K mg m_check_state) := ⟨⟨f29, _, PySem.W.mg_of X G a29, k29, F29.binds (ps := ["thing"]) fun _ _ _ _ _ _ us hl => match us, hl with | [_], _ => rfl, ok_check_state F29 T c_is_state⟩⟩
  have c_is_ask : Has l.prog w K mg base "is_ask" 6 ["thing", "sectors"] (spM K mg m_is_ask) := ⟨⟨f30, _, PySem.W.mg_of X G a30, k30, F30.binds (ps := ["thing", "sectors"]) fun _ _ _ _ _ _ us hl => match us, hl with | [_, _], _ => rfl, ok_is_ask F30 T c_is_index c_are_cases⟩⟩
  have c_is_right : Has l.prog w K mg base "is_right" 7 ["sectors", "thing"] (spM K mg m_is_right) := ⟨⟨f31, _, PySem.W.mg_of X G a31, k31, F31.binds (ps := ["sectors", "thing"]) fun _ _ _ _ _ _ us hl => match us, hl with | [_, _], _ => rfl, ok_is_right F31 T c_is_ask c_inner c_is_end⟩⟩
  have o_Disk___init__ := ok_Disk___init__ (P := l.prog) (w := w) (base := base) F32 T c_check_state
  have b_Disk___init__ : Binds K _ ["self", "state"] [] := F32.binds (ps := ["self", "state"]) fun _ _ _ _ _ _ us hl => match us, hl with | [_, _], _ => rfl
  have k_Disk : MakOk l.prog w K mg base "Disk" 7 ["self", "state"] (spM K mg m_Disk___init__) := ⟨⟨D0, f32, _, oa0, PySem.W.mg_of X G oa0, ⟨mk0, m23, i32, kc0⟩, b_Disk___init__, o_Disk___init__⟩⟩
  have c_check_reader : Has l.prog w K mg base "check_reader" 8 ["sectors", "thing"] (spM K mg m_check_reader) := ⟨⟨f33, _, PySem.W.mg_of X G a33, k33, F33.binds (ps := ["sectors", "thing"]) fun _ _ _ _ _ _ us hl => match us, hl with | [_, _], _ => rfl, ok_check_reader F33 T c_is_right⟩⟩
  have c_mended : Has l.prog w K mg base "mended" 9 ["reader", "state"] (spM K mg m_mended) := ⟨⟨f34, _, PySem.W.mg_of X G a34, k34, F34.binds (ps := ["reader", "state"]) fun _ _ _ _ _ _ us hl => match us, hl with | [_, _], _ => rfl, ok_mended F34 T c_check_state c_check_reader k_Disk c_steps_of c_Disk_now c_do_step c_led⟩⟩
  have c_check_both : Has l.prog w K mg base "check_both" 9 ["reader", "state"] (spM K mg m_check_both) := ⟨⟨f35, _, PySem.W.mg_of X G a35, k35, F35.binds (ps := ["reader", "state"]) fun _ _ _ _ _ _ us hl => match us, hl with | [_, _], _ => rfl, ok_check_both F35 T c_check_state c_check_reader⟩⟩
  have c_leaf : Has l.prog w K mg base "leaf" 10 ["reader", "state"] (spM K mg m_leaf) := ⟨⟨f36, _, PySem.W.mg_of X G a36, k36, F36.binds (ps := ["reader", "state"]) fun _ _ _ _ _ _ us hl => match us, hl with | [_, _], _ => rfl, ok_leaf F36 T c_check_both c_led⟩⟩
  have c_read : Has l.prog w K mg base "read" 10 ["reader", "state"] (spM K mg m_read) := ⟨⟨f37, _, PySem.W.mg_of X G a37, k37, F37.binds (ps := ["reader", "state"]) fun _ _ _ _ _ _ us hl => match us, hl with | [_, _], _ => rfl, ok_read F37 T c_check_both c_led⟩⟩
  have b__law_reader : Binds K _ ["hand", "pool", "sectors", "deep", "most", "mends"] [] := F38.binds (ps := ["hand", "pool", "sectors", "deep", "most", "mends"]) fun _ _ _ _ _ _ us hl => match us, hl with | [_, _, _, _, _, _], _ => rfl
  have c__law_reader : Has l.prog w K mg base "_law_reader" 24 ["hand", "pool", "sectors", "deep", "most", "mends"] (spM K mg (m__law_reader 20)) := ⟨⟨f38, _, PySem.W.mg_of X G a38, k38, b__law_reader, ok__law_reader F38 T (PySem.W.mg_of X G a38) b__law_reader c__law_end c__law_draw 20⟩⟩
  exact (ok_law F39 T c__law_hand c__law_pool c__law_reader c__law_led c__law_behind c__law_draw c__law_any c__law_mends c_mended c_leaf c_read).imp fun vs H Q E h => sp_law ht h
end My
open PySem PySem.W PyProof.Rows
set_option maxHeartbeats 0 in
theorem PySem.Challenge.cw_tornsectors_k59_whole_mended_states_holds : PySem.Challenge.rw_tornsectors_k59_whole_mended_states.Holds := by
  w_on; o_law; k_head; (case hw => w_witness2)
  k_fill
  refine L2.walk_of (k := 25) (l := PySem.Challenge.rw_tornsectors_k59_whole_mended_states) (n := 63) (x := "script") (CX := fun w => L2.CX PySem.Challenge.rw_tornsectors_k59_whole_mended_states.prog w) (sp := fun w => AB.spLaw _) rfl (by decide) rfl ⟨rfl, by decide, by decide⟩ (fun w h Y => PySem.W.kIn_of Y) ?F (fun _ _ a ns hl _ hS => ⟨a, ns, rfl, hS, hl, fun _ => rfl⟩) (fun _ _ _ _ _ h => AB.cx_false h)
  case F =>
    intro w mg fa h KX G hmg
    refine' My.all_mk KX G hmg My.law_true ?oa0 ?pg0 ?hd0 ?po0 ?sa0 ?mk0 ?kc0 ?nf0 ?nf1 ?nf2 ?a0 ?l0 ?c0 ?k0 ?a1 ?l1 ?c1 ?k1 ?a2 ?l2 ?c2 ?k2 ?a3 ?l3 ?c3 ?k3 ?a4 ?l4 ?c4 ?k4 ?a5 ?l5 ?c5 ?k5 ?a6 ?l6 ?c6 ?k6 ?a7 ?l7 ?c7 ?k7 ?a8 ?l8 ?c8 ?k8 ?m25 ?i9 ?l9 ?c9 ?k9 ?m3 ?i10 ?l10 ?c10 ?k10 ?a11 ?l11 ?c11 ?k11 ?a12 ?l12 ?c12 ?k12 ?a13 ?l13 ?c13 ?k13 ?a14 ?l14 ?c14 ?k14 ?a15 ?l15 ?c15 ?k15 ?m14 ?i16 ?l16 ?c16 ?k16 ?a17 ?l17 ?c17 ?k17 ?a18 ?l18 ?c18 ?k18 ?a19 ?l19 ?c19 ?k19 ?a20 ?l20 ?c20 ?k20 ?a21 ?l21 ?c21 ?k21 ?a22 ?l22 ?c22 ?k22 ?a23 ?l23 ?c23 ?k23 ?m13 ?i24 ?l24 ?c24 ?k24 ?a25 ?l25 ?c25 ?k25 ?a26 ?l26 ?c26 ?k26 ?a27 ?l27 ?c27 ?k27 ?a28 ?l28 ?c28 ?k28 ?a29 ?l29 ?c29 ?k29 ?a30 ?l30 ?c30 ?k30 ?a31 ?l31 ?c31 ?k31 ?m23 ?i32 ?l32 ?c32 ?k32 ?a33 ?l33 ?c33 ?k33 ?a34 ?l34 ?c34 ?k34 ?a35 ?l35 ?c35 ?k35 ?a36 ?l36 ?c36 ?k36 ?a37 ?l37 ?c37 ?k37 ?a38 ?l38 ?c38 ?k38 ?a39 ?l39 ?c39 ?k39 ?z0 ?z1 ?z2 ?z3 ?z4 ?z5 ?z6 ?z7 ?z8 ?z9 ?z10 ?z11 ?y0 ?y1 ?y2 ?y3 ?y4 ?y5 ?y6 ?y7
    (case oa0 => k_is); (case pg0 => k_is); (case hd0 => k_is); (case po0 => k_is); (case sa0 => k_is); (case mk0 => k_is); (case kc0 => k_is); (case nf0 => k_is); (case nf1 => k_is); (case nf2 => k_is); (case a0 => k_is); (case l0 => k_is); (case c0 => k_is); (case k0 => k_is); (case a1 => k_is); (case l1 => k_is); (case c1 => k_is); (case k1 => k_is); (case a2 => k_is); (case l2 => k_is); (case c2 => k_is); (case k2 => k_is); (case a3 => k_is); (case l3 => k_is); (case c3 => k_is); (case k3 => k_is); (case a4 => k_is); (case l4 => k_is); (case c4 => k_is); (case k4 => k_is); (case a5 => k_is); (case l5 => k_is); (case c5 => k_is); (case k5 => k_is); (case a6 => k_is); (case l6 => k_is); (case c6 => k_is); (case k6 => k_is); (case a7 => k_is); (case l7 => k_is); (case c7 => k_is); (case k7 => k_is); (case a8 => k_is); (case l8 => k_is); (case c8 => k_is); (case k8 => k_is); (case m25 => k_is); (case i9 => k_is); (case l9 => k_is); (case c9 => k_is); (case k9 => k_is); (case m3 => k_is); (case i10 => k_is); (case l10 => k_is); (case c10 => k_is); (case k10 => k_is); (case a11 => k_is); (case l11 => k_is); (case c11 => k_is); (case k11 => k_is); (case a12 => k_is); (case l12 => k_is); (case c12 => k_is); (case k12 => k_is); (case a13 => k_is); (case l13 => k_is); (case c13 => k_is); (case k13 => k_is); (case a14 => k_is); (case l14 => k_is); (case c14 => k_is); (case k14 => k_is); (case a15 => k_is); (case l15 => k_is); (case c15 => k_is); (case k15 => k_is); (case m14 => k_is); (case i16 => k_is); (case l16 => k_is); (case c16 => k_is); (case k16 => k_is); (case a17 => k_is); (case l17 => k_is); (case c17 => k_is); (case k17 => k_is); (case a18 => k_is); (case l18 => k_is); (case c18 => k_is); (case k18 => k_is); (case a19 => k_is); (case l19 => k_is); (case c19 => k_is); (case k19 => k_is); (case a20 => k_is); (case l20 => k_is); (case c20 => k_is); (case k20 => k_is); (case a21 => k_is); (case l21 => k_is); (case c21 => k_is); (case k21 => k_is); (case a22 => k_is); (case l22 => k_is); (case c22 => k_is); (case k22 => k_is); (case a23 => k_is); (case l23 => k_is); (case c23 => k_is); (case k23 => k_is); (case m13 => k_is); (case i24 => k_is); (case l24 => k_is); (case c24 => k_is); (case k24 => k_is); (case a25 => k_is); (case l25 => k_is); (case c25 => k_is); (case k25 => k_is); (case a26 => k_is); (case l26 => k_is); (case c26 => k_is); (case k26 => k_is); (case a27 => k_is); (case l27 => k_is); (case c27 => k_is); (case k27 => k_is); (case a28 => k_is); (case l28 => k_is); (case c28 => k_is); (case k28 => k_is); (case a29 => k_is); (case l29 => k_is); (case c29 => k_is); (case k29 => k_is); (case a30 => k_is); (case l30 => k_is); (case c30 => k_is); (case k30 => k_is); (case a31 => k_is); (case l31 => k_is); (case c31 => k_is); (case k31 => k_is); (case m23 => k_is); (case i32 => k_is); (case l32 => k_is); (case c32 => k_is); (case k32 => k_is); (case a33 => k_is); (case l33 => k_is); (case c33 => k_is); (case k33 => k_is); (case a34 => k_is); (case l34 => k_is); (case c34 => k_is); (case k34 => k_is); (case a35 => k_is); (case l35 => k_is); (case c35 => k_is); (case k35 => k_is); (case a36 => k_is); (case l36 => k_is); (case c36 => k_is); (case k36 => k_is); (case a37 => k_is); (case l37 => k_is); (case c37 => k_is); (case k37 => k_is); (case a38 => k_is); (case l38 => k_is); (case c38 => k_is); (case k38 => k_is); (case a39 => k_is); (case l39 => k_is); (case c39 => k_is); (case k39 => k_is); (case z0 => k_is); (case z1 => k_is); (case z2 => k_is); (case z3 => k_is); (case z4 => k_is); (case z5 => k_is); (case z6 => k_is); (case z7 => k_is); (case z8 => k_is); (case z9 => k_is); (case z10 => k_is); (case z11 => k_is); (case y0 => k_is); (case y1 => k_is); (case y2 => k_is); (case y3 => k_is); (case y4 => k_is); (case y5 => k_is); (case y6 => k_is); (case y7 => k_is)
