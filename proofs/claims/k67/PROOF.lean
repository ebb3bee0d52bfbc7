import PyProof.Rows.All
import Wide.All
import OpenK.AllK
import Wide.FinOn
import HandS.ForMost
import HandS.ForExc
import HandS.Walk
import HandS.Flow
import HandS.Style
import HandS.Wide
import HandS.TupAny
import HandS.TupLe
import HandS.TupMul
import HandS.Deep
import HandS.IsInst
import HandS.Zip
import HandS.SortInts
import HandS.Conv
import KE.SortData
import KE.DataCmp
import KE.DataMinMax
import KE.KIndexOf
import PyProof.SeqIndex
import KE.GoesEnum
import HandS.Iter
import PyProof.P3Eq
import HandS.Small
import HandS.ExcOwn
import HandS.RaiseMore
import HandS.Dict
import HandS.SetKeys
import HandS.ExcIs
import HandS.TryOnly
import HandS.TryMany
import HandS.DictComp
import PySem.Challenge.RW_tornsectors_k67_whole_fresh_stores
set_option Elab.async false
set_option linter.all false
set_option maxRecDepth 100000
set_option maxHeartbeats 4000000
/-! AB: an abstract machine over data, and how the hand layer's judgements follow it. -/
namespace AB
open PySem PySem.Spec PyProof.Rows L2

inductive D where
  | non | bl (b : Bool) | int (i : Int) | str (x : Str) | tup (ds : List D) | lst (ds : List D) | rol (ds : List D) | loc (n : Nat) | con (a : Addr)
inductive AO where
  | lst (ds : List D)
  | ins (C : Str) (fs : List (Str × D))
  | dct (kvs : List (L2.Key × D))
  /-- a dict while a loop walks it -/
  | lck (kvs : List (L2.Key × D))
abbrev AH := List AO
abbrev Env := List (Option D)

/-- what stands for ever (S), what must stay as it is now (F), where the machine's objects lie (mu), how many they are (N) -/
structure Wd where
  S : Hp
  F : Hp
  mu : Nat → Addr
  N : Nat
  LK : Hp

mutual
inductive RepV (K : PySem.W.Frag) (G : Hp) (mu : Nat → Addr) (N : Nat) : V → D → Prop
  | non : RepV K G mu N .non .non
  | bl (b : Bool) : RepV K G mu N (.bl b) (.bl b)
  | int (i : Int) : RepV K G mu N (.int i) (.int i)
  | str (x : Str) : RepV K G mu N (.str x) (.str x)
  | tup {a : Addr} {xs : List V} {ds : List D} : SqT K G a xs → RepAll K G mu N xs ds → RepV K G mu N (.ref a) (.tup ds)
  | lst {a : Addr} {xs : List V} {ds : List D} : Rd G a (.lst xs) → RepAll K G mu N xs ds → RepV K G mu N (.ref a) (.lst ds)
  | rol {a : Addr} {xs : List V} {ds : List D} : SqL K G a xs → RepAll K G mu N xs ds → RepV K G mu N (.ref a) (.rol ds)
  | loc {n : Nat} : n < N → RepV K G mu N (.ref (mu n)) (.loc n)
  | con {a : Addr} : RepV K G mu N (.ref a) (.con a)
inductive RepAll (K : PySem.W.Frag) (G : Hp) (mu : Nat → Addr) (N : Nat) : List V → List D → Prop
  | nil : RepAll K G mu N [] []
  | cons {v : V} {vs : List V} {d : D} {ds : List D} : RepV K G mu N v d → RepAll K G mu N vs ds → RepAll K G mu N (v :: vs) (d :: ds)
end

section
variable {K : PySem.W.Frag} {G G' H H' : Hp} {mu mu' : Nat → Addr} {N N' : Nat}
def Ext (H H' : Hp) : Prop := ∀ a o, H a = some o → H' a = some o
theorem Ext.refl (H : Hp) : Ext H H := fun _ _ h => h
theorem Ext.trans {H H1 H2 : Hp} (a : Ext H H1) (b : Ext H1 H2) : Ext H H2 := fun x o h => b x o (a x o h)
theorem Ext.new {H : Hp} {p : Addr} {o : HO} (h : H p = none) : Ext H (upd H p o) := fun a u e => by
  rw [upd_ne (ne_of_none e h)]
  exact e
theorem Ext.rd {a : Addr} {u : HO} (e : Ext H H') (h : Rd H a u) : Rd H' a u := by
  rcases h with h | ⟨o, h⟩
  · exact .inl (e a _ h)
  · exact .inr ⟨o, e a _ h⟩
theorem Ext.l {a : Addr} {xs : List V} (e : Ext H H') (h : SqL K H a xs) : SqL K H' a xs := by
  rcases h with h | h
  · exact .inl (e.rd h)
  · exact .inr h
theorem Ext.t {a : Addr} {xs : List V} (e : Ext H H') (h : SqT K H a xs) : SqT K H' a xs := by
  rcases h with h | h
  · exact .inl (e.rd h)
  · exact .inr h
theorem Ext.free {p : Addr} (e : Ext H H') (h : H' p = none) : H p = none := by
  cases h1 : H p with
  | none => rfl
  | some o =>
    rw [e p o h1] at h
    cases h

mutual
theorem RepV.mono (e : Ext G G') (hN : N ≤ N') (hm : ∀ n, n < N → mu' n = mu n) : ∀ (d : D) (v : V), RepV K G mu N v d → RepV K G' mu' N' v d
  | .non, _, h => by cases h; exact .non
  | .bl _, _, h => by cases h; exact .bl _
  | .int _, _, h => by cases h; exact .int _
  | .str _, _, h => by cases h; exact .str _
  | .tup ds, _, h => by
    cases h with
    | tup a b => exact .tup (e.t a) (RepAll.mono e hN hm ds _ b)
  | .lst ds, _, h => by
    cases h with
    | lst a b => exact .lst (e.rd a) (RepAll.mono e hN hm ds _ b)
  | .rol ds, _, h => by
    cases h with
    | rol a b => exact .rol (e.l a) (RepAll.mono e hN hm ds _ b)
  | .loc n, _, h => by
    cases h with
    | loc a =>
      rw [← hm n a]
      exact .loc (Nat.lt_of_lt_of_le a hN)
  | .con _, _, h => by cases h; exact .con
theorem RepAll.mono (e : Ext G G') (hN : N ≤ N') (hm : ∀ n, n < N → mu' n = mu n) : ∀ (ds : List D) (vs : List V), RepAll K G mu N vs ds → RepAll K G' mu' N' vs ds
  | [], _, h => by cases h; exact .nil
  | d :: ds, _, h => by
    cases h with
    | cons a b => exact .cons (RepV.mono e hN hm d _ a) (RepAll.mono e hN hm ds _ b)
end
theorem RepAll.length : ∀ {vs : List V} {ds : List D}, RepAll K G mu N vs ds → vs.length = ds.length
  | _, _, .nil => rfl
  | _, _, .cons _ b => by rw [List.length_cons, List.length_cons, RepAll.length b]
theorem RepAll.append : ∀ {vs ws : List V} {ds es : List D}, RepAll K G mu N vs ds → RepAll K G mu N ws es → RepAll K G mu N (vs ++ ws) (ds ++ es)
  | _, _, _, _, .nil, h => h
  | _, _, _, _, .cons a b, h => .cons a (RepAll.append b h)
theorem RepAll.get : ∀ {vs : List V} {ds : List D} {i : Nat} {d : D}, RepAll K G mu N vs ds → ds[i]? = some d → ∃ v, vs[i]? = some v ∧ RepV K G mu N v d
  | _, _, _, _, .nil, e => by simp at e
  | _, _, 0, _, .cons a _, e => by
    simp at e
    subst e
    exact ⟨_, rfl, a⟩
  | _, _, i + 1, d, .cons _ b, e => by
    obtain ⟨v, h1, h2⟩ := RepAll.get (i := i) (d := d) b (by simpa using e)
    exact ⟨v, by simpa using h1, h2⟩
theorem RepAll.get' : ∀ {vs : List V} {ds : List D} {i : Nat} {v : V}, RepAll K G mu N vs ds → vs[i]? = some v → ∃ d, ds[i]? = some d ∧ RepV K G mu N v d
  | _, _, _, _, .nil, e => by simp at e
  | _, _, 0, _, .cons a _, e => by
    simp at e
    subst e
    exact ⟨_, rfl, a⟩
  | _, _, i + 1, d, .cons _ b, e => by
    obtain ⟨v, h1, h2⟩ := RepAll.get' (i := i) (v := d) b (by simpa using e)
    exact ⟨v, by simpa using h1, h2⟩
theorem RepAll.drop : ∀ {vs : List V} {ds : List D} (n : Nat), RepAll K G mu N vs ds → RepAll K G mu N (vs.drop n) (ds.drop n)
  | _, _, 0, h => h
  | _, _, _ + 1, .nil => .nil
  | _, _, n + 1, .cons _ b => RepAll.drop n b
theorem RepAll.take : ∀ {vs : List V} {ds : List D} (n : Nat), RepAll K G mu N vs ds → RepAll K G mu N (vs.take n) (ds.take n)
  | _, _, 0, _ => .nil
  | _, _, _ + 1, .nil => .nil
  | _, _, n + 1, .cons a b => .cons a (RepAll.take n b)
theorem RepAll.set {v : V} {d : D} (r : RepV K G mu N v d) : ∀ {vs : List V} {ds : List D} (n : Nat), RepAll K G mu N vs ds → RepAll K G mu N (vs.set n v) (ds.set n d)
  | _, _, _, .nil => .nil
  | _, _, 0, .cons _ b => .cons r b
  | _, _, n + 1, .cons a b => .cons a (RepAll.set r n b)
theorem RepAll.reverse : ∀ {vs : List V} {ds : List D}, RepAll K G mu N vs ds → RepAll K G mu N vs.reverse ds.reverse
  | _, _, .nil => .nil
  | _, _, .cons a b => by
    rw [List.reverse_cons, List.reverse_cons]
    exact (RepAll.reverse b).append (.cons a .nil)
theorem RepAll.eraseIdx : ∀ {vs : List V} {ds : List D} (n : Nat), RepAll K G mu N vs ds → RepAll K G mu N (vs.eraseIdx n) (ds.eraseIdx n)
  | _, _, _, .nil => .nil
  | _, _, 0, .cons _ b => b
  | _, _, n + 1, .cons a b => .cons a (RepAll.eraseIdx n b)
end

/-- what stands at a machine's object -/
def RepO (K : PySem.W.Frag) (w : Wd) (H : Hp) (a : Addr) : AO → Prop
  | .lst ds => ∃ xs, H a = some (.lst xs) ∧ RepAll K w.S w.mu w.N xs ds
  | .ins C fs => ∃ Ca dx fv, PySem.W.nsIn K mainGlobals C = some (some (.ref Ca)) ∧ H a = some (.ins Ca dx fv) ∧ fv.map (·.1) = fs.map (·.1) ∧ RepAll K w.S w.mu w.N (fv.map (·.2)) (fs.map (·.2)) ∧ w.S dx = some (.own a)
  | .dct kvs => ∃ kv, H a = some (.dK kv) ∧ kv.map (·.1) = kvs.map (·.1) ∧ RepAll K w.S w.mu w.N (kv.map (·.2)) (kvs.map (·.2))
  | .lck kvs => ∃ o kv, H a = some (.frz o (.dK kv)) ∧ w.LK a = some (.frz o (.dK kv)) ∧ kv.map (·.1) = kvs.map (·.1) ∧ RepAll K w.S w.mu w.N (kv.map (·.2)) (kvs.map (·.2))
structure RepH (K : PySem.W.Frag) (w : Wd) (H : Hp) (h : AH) : Prop where
  ex : Ext w.S H
  len : w.N = h.length
  inj : ∀ m n, m < w.N → n < w.N → w.mu m = w.mu n → m = n
  cell : ∀ n o, h[n]? = some o → w.S (w.mu n) = none ∧ RepO K w H (w.mu n) o
  exF : Ext w.F H
  dis : ∀ a u, w.F a = some u → w.S a = none ∧ ∀ n, n < w.N → w.mu n ≠ a
structure Le (w w' : Wd) : Prop where
  ex : Ext w.S w'.S
  n : w.N ≤ w'.N
  mu : ∀ n, n < w.N → w'.mu n = w.mu n
  f : w'.F = w.F
  lk : w'.LK = w.LK
/-- .. whatever must stay -/
structure LeX (w w' : Wd) : Prop where
  ex : Ext w.S w'.S
  n : w.N ≤ w'.N
  mu : ∀ n, n < w.N → w'.mu n = w.mu n
  lk : w'.LK = w.LK
theorem Le.x {w w' : Wd} (l : Le w w') : LeX w w' := ⟨l.ex, l.n, l.mu, l.lk⟩
theorem LeX.trans {a b c : Wd} (x : LeX a b) (y : LeX b c) : LeX a c :=
  ⟨x.ex.trans y.ex, Nat.le_trans x.n y.n, fun n hn => (y.mu n (Nat.lt_of_lt_of_le hn x.n)).trans (x.mu n hn), y.lk.trans x.lk⟩
theorem Le.refl (w : Wd) : Le w w := ⟨Ext.refl _, Nat.le_refl _, fun _ _ => rfl, rfl, rfl⟩
theorem Le.trans {a b c : Wd} (x : Le a b) (y : Le b c) : Le a c :=
  ⟨x.ex.trans y.ex, Nat.le_trans x.n y.n, fun n hn => (y.mu n (Nat.lt_of_lt_of_le hn x.n)).trans (x.mu n hn), y.f.trans x.f, y.lk.trans x.lk⟩
abbrev Rv (K : PySem.W.Frag) (w : Wd) : V → D → Prop := RepV K w.S w.mu w.N
abbrev Ra (K : PySem.W.Frag) (w : Wd) : List V → List D → Prop := RepAll K w.S w.mu w.N
theorem Rv_monoX {K : PySem.W.Frag} {w w' : Wd} {v : V} {d : D} (l : LeX w w') (h : Rv K w v d) : Rv K w' v d := RepV.mono l.ex l.n l.mu d v h
theorem Ra_monoX {K : PySem.W.Frag} {w w' : Wd} {v : List V} {d : List D} (l : LeX w w') (h : Ra K w v d) : Ra K w' v d := RepAll.mono l.ex l.n l.mu d v h
theorem Rv_mono {K : PySem.W.Frag} {w w' : Wd} {v : V} {d : D} (l : Le w w') (h : Rv K w v d) : Rv K w' v d := RepV.mono l.ex l.n l.mu d v h
theorem Ra_mono {K : PySem.W.Frag} {w w' : Wd} {v : List V} {d : List D} (l : Le w w') (h : Ra K w v d) : Ra K w' v d := RepAll.mono l.ex l.n l.mu d v h

section
variable {K : PySem.W.Frag} {w : Wd} {H : Hp} {h : AH}
theorem RepO.some {a : Addr} {o : AO} (r : RepO K w H a o) : ∃ u, H a = some u := by
  cases o with
  | lst ds => obtain ⟨xs, e, _⟩ := r; exact ⟨_, e⟩
  | ins C fs => obtain ⟨Ca, dx, fv, _, e, _⟩ := r; exact ⟨_, e⟩
  | dct kvs => obtain ⟨kv, e, _⟩ := r; exact ⟨_, e⟩
  | lck kvs => obtain ⟨o, kv, e, _⟩ := r; exact ⟨_, e⟩
theorem RepH.taken (r : RepH K w H h) {n : Nat} (hn : n < w.N) : ∃ u, H (w.mu n) = some u := by
  have hl : n < h.length := by rw [← r.len]; exact hn
  obtain ⟨_, c⟩ := r.cell n h[n] (List.getElem?_eq_getElem hl)
  exact c.some
theorem RepH.ne (r : RepH K w H h) {n : Nat} {p : Addr} (hn : n < w.N) (hp : H p = none) : w.mu n ≠ p := by
  obtain ⟨u, e⟩ := r.taken hn
  intro z
  rw [z, hp] at e
  cases e
theorem RepO.mono {w' : Wd} {H' : Hp} {a : Addr} {o : AO} (l : Le w w') (e : H' a = H a) (r : RepO K w H a o) : RepO K w' H' a o := by
  cases o with
  | lst ds =>
    obtain ⟨xs, e1, r⟩ := r
    exact ⟨xs, e.trans e1, Ra_mono l r⟩
  | ins C fs =>
    obtain ⟨Ca, dx, fv, ec, e1, e2, r, e3⟩ := r
    exact ⟨Ca, dx, fv, ec, e.trans e1, e2, Ra_mono l r, l.ex _ _ e3⟩
  | dct kvs =>
    obtain ⟨kv, e1, e2, r⟩ := r
    exact ⟨kv, e.trans e1, e2, Ra_mono l r⟩
  | lck kvs =>
    obtain ⟨o, kv, e1, e0, e2, r⟩ := r
    exact ⟨o, kv, e.trans e1, by rw [l.lk]; exact e0, e2, Ra_mono l r⟩
/-- a new thing that never changes -/
def Wd.add (w : Wd) (p : Addr) (o : HO) : Wd := ⟨upd w.S p o, w.F, w.mu, w.N, w.LK⟩
theorem RepH.le_add (r : RepH K w H h) {p : Addr} {o : HO} (hp : H p = none) : Le w (w.add p o) :=
  ⟨Ext.new (r.ex.free hp), Nat.le_refl _, fun _ _ => rfl, rfl, rfl⟩
theorem RepH.add (r : RepH K w H h) {p : Addr} {o : HO} (hp : H p = none) : RepH K (w.add p o) (upd H p o) h := by
  have hF : ∀ a u, w.F a = some u → a ≠ p := fun a u e => ne_of_none (r.exF _ _ e) hp
  refine ⟨fun a u e => ?_, r.len, r.inj, fun n o' e => ?_, fun a u e => by rw [upd_ne (hF a u e)]; exact r.exF _ _ e, fun a u e => ⟨by
    show upd w.S p o a = none
    rw [upd_ne (hF a u e)]
    exact (r.dis a u e).1, (r.dis a u e).2⟩⟩
  · have e : upd w.S p o a = some u := e
    by_cases ha : a = p
    · subst ha
      rw [upd_same] at e ⊢
      exact e
    · rw [upd_ne ha] at e ⊢
      exact r.ex _ _ e
  · obtain ⟨a, b⟩ := r.cell n o' e
    have hn : n < w.N := by
      rw [r.len]
      exact (List.getElem?_eq_some_iff.mp e).1
    have q := r.ne hn hp
    refine ⟨?_, b.mono (r.le_add hp) (upd_ne q)⟩
    show upd w.S p o (w.mu n) = none
    rw [upd_ne q]
    exact a
/-- a new object of the machine's -/
def Wd.push (w : Wd) (p : Addr) : Wd := ⟨w.S, w.F, fun n => if n = w.N then p else w.mu n, w.N + 1, w.LK⟩
theorem Wd.le_push (w : Wd) (p : Addr) : Le w (w.push p) :=
  ⟨Ext.refl _, Nat.le_succ _, fun n hn => if_neg (Nat.ne_of_lt hn), rfl, rfl⟩
theorem Wd.push_mu (w : Wd) (p : Addr) : (w.push p).mu w.N = p := if_pos rfl
/-- p stands in H, is none of the known ones -/
structure Apart (w : Wd) (p : Addr) : Prop where
  s : w.S p = none
  m : ∀ n, n < w.N → w.mu n ≠ p
  f : w.F p = none
theorem RepH.push (r : RepH K w H h) {p : Addr} {o : AO} (ap : Apart w p) (ro : RepO K (w.push p) H p o) : RepH K (w.push p) H (h ++ [o]) := by
  refine ⟨r.ex, ?_, fun m n hm hn e => ?_, fun n o' e => ?_, r.exF, fun a u e => ⟨(r.dis a u e).1, fun n hn z => ?_⟩⟩
  rotate_left 3
  · have hn : n < w.N + 1 := hn
    have z : (if n = w.N then p else w.mu n) = a := z
    have e : w.F a = some u := e
    by_cases q : n = w.N
    · rw [if_pos q] at z
      rw [← z, ap.f] at e
      cases e
    · rw [if_neg q] at z
      exact (r.dis a u e).2 n (by omega) z
  · show w.N + 1 = _
    rw [r.len, List.length_append]
    rfl
  · have hm : m < w.N + 1 := hm
    have hn : n < w.N + 1 := hn
    have e : (if m = w.N then p else w.mu m) = (if n = w.N then p else w.mu n) := e
    by_cases m1 : m = w.N
    · by_cases n1 : n = w.N
      · rw [m1, n1]
      · rw [if_pos m1, if_neg n1] at e
        exact absurd e.symm (ap.m n (by omega))
    · by_cases n1 : n = w.N
      · rw [if_neg m1, if_pos n1] at e
        exact absurd e (ap.m m (by omega))
      · rw [if_neg m1, if_neg n1] at e
        exact r.inj m n (by omega) (by omega) e
  · by_cases hn : n < h.length
    · rw [List.getElem?_append_left hn] at e
      obtain ⟨a, b⟩ := r.cell n o' e
      have q : (w.push p).mu n = w.mu n := (w.le_push p).mu n (by rw [r.len]; exact hn)
      rw [q]
      exact ⟨a, b.mono (w.le_push p) rfl⟩
    · have hl := (List.getElem?_eq_some_iff.mp e).1
      rw [List.length_append] at hl
      have en : n = h.length := by
        simp at hl
        omega
      subst en
      rw [List.getElem?_append_right (Nat.le_refl _)] at e
      simp at e
      subst e
      rw [← r.len, w.push_mu]
      exact ⟨ap.s, ro⟩
theorem RepH.set (r : RepH K w H h) {n : Nat} {u : HO} {o : AO} (hn : n < w.N) (ro : RepO K w (upd H (w.mu n) u) (w.mu n) o) : RepH K w (upd H (w.mu n) u) (h.set n o) := by
  refine ⟨fun a x e => ?_, by rw [r.len, List.length_set], r.inj, fun m o' e => ?_, fun a x e => by rw [upd_ne (fun z => (r.dis a x e).2 n hn z.symm)]; exact r.exF _ _ e, r.dis⟩
  · have hl : n < h.length := by rw [← r.len]; exact hn
    obtain ⟨z, _⟩ := r.cell n h[n] (List.getElem?_eq_getElem hl)
    have q : a ≠ w.mu n := by
      intro y
      rw [y, z] at e
      cases e
    rw [upd_ne q]
    exact r.ex _ _ e
  · by_cases hm : m = n
    · subst hm
      have hl : m < h.length := by rw [← r.len]; exact hn
      obtain ⟨z, _⟩ := r.cell m h[m] (List.getElem?_eq_getElem hl)
      rw [List.getElem?_set_self hl] at e
      cases e
      exact ⟨z, ro⟩
    · rw [List.getElem?_set_ne (Ne.symm hm)] at e
      obtain ⟨a, b⟩ := r.cell m o' e
      have hl : m < w.N := by rw [r.len]; exact (List.getElem?_eq_some_iff.mp e).1
      refine ⟨a, b.mono (Le.refl w) (upd_ne fun z => hm (r.inj m n hl hn z))⟩
end

/-! ### results -/
inductive Res (α : Type) where
  | ok (a : α) (h : AH)
  | exc (c : Str) (fs : List (Str × D)) (h : AH)
  | stuck
def Res.bind {α β : Type} (r : Res α) (k : α → AH → Res β) : Res β :=
  match r with
  | .ok a h => k a h
  | .exc c fs h => .exc c fs h
  | .stuck => .stuck
@[simp] theorem Res.bind_ok {α β : Type} (a : α) (h : AH) (k : α → AH → Res β) : (Res.ok a h).bind k = k a h := rfl
@[simp] theorem Res.bind_stuck {α β : Type} (k : α → AH → Res β) : (Res.stuck : Res α).bind k = .stuck := rfl
@[simp] theorem Res.bind_exc {α β : Type} (c : Str) (fs : List (Str × D)) (h : AH) (k : α → AH → Res β) : (Res.exc c fs h : Res α).bind k = .exc c fs h := rfl
abbrev Me := Env → AH → Res D
abbrev MeL := Env → AH → Res (List D)
abbrev MeT := Env → AH → Res Bool

/-- the slots -/
def RepG (K : PySem.W.Frag) (w : Wd) (σ : L2.St) (G : Env) : Prop := σ.length = G.length ∧ ∀ (i : Nat) (d : D), G[i]? = some (some d) → ∃ v, σ[i]? = some (some v) ∧ Rv K w v d
theorem RepG.mono {K : PySem.W.Frag} {w w' : Wd} {σ : L2.St} {G : Env} (l : Le w w') (r : RepG K w σ G) : RepG K w' σ G :=
  ⟨r.1, fun i d e => by
    obtain ⟨v, h1, h2⟩ := r.2 i d e
    exact ⟨v, h1, Rv_mono l h2⟩⟩
theorem RepG.monoX {K : PySem.W.Frag} {w w' : Wd} {σ : L2.St} {G : Env} (l : LeX w w') (r : RepG K w σ G) : RepG K w' σ G :=
  ⟨r.1, fun i d e => by
    obtain ⟨v, h1, h2⟩ := r.2 i d e
    exact ⟨v, h1, Rv_monoX l h2⟩⟩
theorem RepG.set {K : PySem.W.Frag} {w : Wd} {σ : L2.St} {G : Env} {v : V} {d : D} (r : RepG K w σ G) (i : Nat) (rv : Rv K w v d) : RepG K w (σ.set i (some v)) (G.set i (some d)) := by
  refine ⟨by rw [List.length_set, List.length_set, r.1], fun j e h => ?_⟩
  by_cases hj : j = i
  · subst hj
    have hl : j < G.length := by
      have := (List.getElem?_eq_some_iff.mp h).1
      rwa [List.length_set] at this
    rw [List.getElem?_set_self hl] at h
    cases h
    exact ⟨v, List.getElem?_set_self (by rw [r.1]; exact hl), rv⟩
  · rw [List.getElem?_set_ne (Ne.symm hj)] at h
    obtain ⟨x, h1, h2⟩ := r.2 j e h
    exact ⟨x, by rw [List.getElem?_set_ne (Ne.symm hj)]; exact h1, h2⟩

/-- the wish of what is raised: its class and own dict, the slots, the heap -/
abbrev WX := Value → Option Addr → L2.St → Hp → Prop
/-- what an error carries -/
def RepX (K : PySem.W.Frag) (w : Wd) (H : Hp) (dd : Option Addr) : List (Str × D) → Prop
  | [] => dd = none
  | fs => ∃ p fv, dd = some p ∧ H p = some (.xd fv) ∧ fv.map (·.1) = fs.map (·.1) ∧ RepAll K w.S w.mu w.N (fv.map (·.2)) (fs.map (·.2))

section
variable (K : PySem.W.Frag) (mg : Str → Option Value) (W : WX)
def OutX (w : Wd) (σ : L2.St) (c : Str) (fs : List (Str × D)) (h : AH) : Prop :=
  ∀ cls dd w' H', mg c = some cls → Le w w' → RepH K w' H' h → RepX K w' H' dd fs → W cls dd σ H'
def OutE (w : Wd) (σ : L2.St) (Q : VK) : Res D → Prop
  | .ok d h => ∀ v w' H', Le w w' → RepH K w' H' h → Rv K w' v d → Q v H'
  | .exc c fs h => OutX K mg W w σ c fs h
  | .stuck => False
/-- a new list, known to nobody -/
def OutF (w : Wd) (σ : L2.St) (Q : VK) : Res (List D) → Prop
  | .ok ds h => ∀ p xs w' H', Le w w' → RepH K w' H' h → Apart w' p → H' p = some (.lst xs) → Ra K w' xs ds → Q (.ref p) H'
  | .exc c fs h => OutX K mg W w σ c fs h
  | .stuck => False
def OutA (w : Wd) (σ : L2.St) (Q : List V → Hp → Prop) : Res (List D) → Prop
  | .ok ds h => ∀ vs w' H', Le w w' → RepH K w' H' h → Ra K w' vs ds → Q vs H'
  | .exc c fs h => OutX K mg W w σ c fs h
  | .stuck => False
def OutT (w : Wd) (σ : L2.St) (Q : Bool → Hp → Prop) : Res Bool → Prop
  | .ok b h => ∀ w' H', Le w w' → RepH K w' H' h → Q b H'
  | .exc c fs h => OutX K mg W w σ c fs h
  | .stuck => False
def tM (m : Me) : TE := fun σ H Q => ∃ w G h, RepG K w σ G ∧ RepH K w H h ∧ OutE K mg W w σ Q (m G h)
def tF (m : MeL) : TE := fun σ H Q => ∃ w G h, RepG K w σ G ∧ RepH K w H h ∧ OutF K mg W w σ Q (m G h)
def tAr (m : MeL) : TA := fun σ H Q => ∃ w G h, RepG K w σ G ∧ RepH K w H h ∧ OutA K mg W w σ Q (m G h)
def tT (m : MeT) : TT := fun σ H Q => ∃ w G h, RepG K w σ G ∧ RepH K w H h ∧ OutT K mg W w σ Q (m G h)
end

section
variable {K : PySem.W.Frag} {mg : Str → Option Value} {W : WX} {w w' : Wd} {σ : L2.St} {H : Hp} {G : Env} {h : AH}
theorem OutX.mono {c : Str} {fs : List (Str × D)} (l : Le w w') (o : OutX K mg W w σ c fs h) : OutX K mg W w' σ c fs h :=
  fun cls dd w2 H' e l2 r x => o cls dd w2 H' e (l.trans l2) r x
theorem OutE.mono {Q : VK} {r : Res D} (l : Le w w') (o : OutE K mg W w σ Q r) : OutE K mg W w' σ Q r := by
  cases r with
  | ok d h => exact fun v w2 H' l2 r x => o v w2 H' (l.trans l2) r x
  | exc c fs h => exact OutX.mono l o
  | stuck => exact o
theorem OutF.mono {Q : VK} {r : Res (List D)} (l : Le w w') (o : OutF K mg W w σ Q r) : OutF K mg W w' σ Q r := by
  cases r with
  | ok d h => exact fun p xs w2 H' l2 r x => o p xs w2 H' (l.trans l2) r x
  | exc c fs h => exact OutX.mono l o
  | stuck => exact o
theorem OutA.mono {Q : List V → Hp → Prop} {r : Res (List D)} (l : Le w w') (o : OutA K mg W w σ Q r) : OutA K mg W w' σ Q r := by
  cases r with
  | ok d h => exact fun v w2 H' l2 r x => o v w2 H' (l.trans l2) r x
  | exc c fs h => exact OutX.mono l o
  | stuck => exact o
theorem OutT.mono {Q : Bool → Hp → Prop} {r : Res Bool} (l : Le w w') (o : OutT K mg W w σ Q r) : OutT K mg W w' σ Q r := by
  cases r with
  | ok d h => exact fun w2 H' l2 r => o w2 H' (l.trans l2) r
  | exc c fs h => exact OutX.mono l o
  | stuck => exact o
/-- a part's reading, then what is made of it -/
theorem runE {m : Me} {Q : VK} (g : RepG K w σ G) (r : RepH K w H h)
    (k : OutE K mg W w σ Q (m G h)) : tM K mg W m σ H Q := ⟨w, G, h, g, r, k⟩
theorem OutE.bindE {m : Me} {R : VK} {Q : VK} {k : D → AH → Res D} (o : OutE K mg W w σ Q ((m G h).bind k))
    (hq : ∀ d h1 v w1 H1, Le w w1 → RepH K w1 H1 h1 → Rv K w1 v d → OutE K mg W w1 σ Q (k d h1) → R v H1) : OutE K mg W w σ R (m G h) := by
  cases e : m G h with
  | ok d h1 =>
    rw [e] at o
    exact fun v w1 H1 l r x => hq d h1 v w1 H1 l r x (OutE.mono l o)
  | exc c fs h1 =>
    rw [e] at o
    exact o
  | stuck =>
    rw [e] at o
    exact o
theorem OutF.bindE {m : Me} {R : VK} {Q : VK} {k : D → AH → Res (List D)} (o : OutF K mg W w σ Q ((m G h).bind k))
    (hq : ∀ d h1 v w1 H1, Le w w1 → RepH K w1 H1 h1 → Rv K w1 v d → OutF K mg W w1 σ Q (k d h1) → R v H1) : OutE K mg W w σ R (m G h) := by
  cases e : m G h with
  | ok d h1 =>
    rw [e] at o
    exact fun v w1 H1 l r x => hq d h1 v w1 H1 l r x (OutF.mono l o)
  | exc c fs h1 =>
    rw [e] at o
    exact o
  | stuck =>
    rw [e] at o
    exact o
theorem OutA.bindE {m : Me} {R : VK} {Q : List V → Hp → Prop} {k : D → AH → Res (List D)} (o : OutA K mg W w σ Q ((m G h).bind k))
    (hq : ∀ d h1 v w1 H1, Le w w1 → RepH K w1 H1 h1 → Rv K w1 v d → OutA K mg W w1 σ Q (k d h1) → R v H1) : OutE K mg W w σ R (m G h) := by
  cases e : m G h with
  | ok d h1 =>
    rw [e] at o
    exact fun v w1 H1 l r x => hq d h1 v w1 H1 l r x (OutA.mono l o)
  | exc c fs h1 =>
    rw [e] at o
    exact o
  | stuck =>
    rw [e] at o
    exact o
theorem OutT.bindE {m : Me} {R : VK} {Q : Bool → Hp → Prop} {k : D → AH → Res Bool} (o : OutT K mg W w σ Q ((m G h).bind k))
    (hq : ∀ d h1 v w1 H1, Le w w1 → RepH K w1 H1 h1 → Rv K w1 v d → OutT K mg W w1 σ Q (k d h1) → R v H1) : OutE K mg W w σ R (m G h) := by
  cases e : m G h with
  | ok d h1 =>
    rw [e] at o
    exact fun v w1 H1 l r x => hq d h1 v w1 H1 l r x (OutT.mono l o)
  | exc c fs h1 =>
    rw [e] at o
    exact o
  | stuck =>
    rw [e] at o
    exact o
theorem OutE.bindA {m : MeL} {R : List V → Hp → Prop} {Q : VK} {k : List D → AH → Res D} (o : OutE K mg W w σ Q ((m G h).bind k))
    (hq : ∀ ds h1 vs w1 H1, Le w w1 → RepH K w1 H1 h1 → Ra K w1 vs ds → OutE K mg W w1 σ Q (k ds h1) → R vs H1) : OutA K mg W w σ R (m G h) := by
  cases e : m G h with
  | ok d h1 =>
    rw [e] at o
    exact fun v w1 H1 l r x => hq d h1 v w1 H1 l r x (OutE.mono l o)
  | exc c fs h1 =>
    rw [e] at o
    exact o
  | stuck =>
    rw [e] at o
    exact o
theorem OutF.bindA {m : MeL} {R : List V → Hp → Prop} {Q : VK} {k : List D → AH → Res (List D)} (o : OutF K mg W w σ Q ((m G h).bind k))
    (hq : ∀ ds h1 vs w1 H1, Le w w1 → RepH K w1 H1 h1 → Ra K w1 vs ds → OutF K mg W w1 σ Q (k ds h1) → R vs H1) : OutA K mg W w σ R (m G h) := by
  cases e : m G h with
  | ok d h1 =>
    rw [e] at o
    exact fun v w1 H1 l r x => hq d h1 v w1 H1 l r x (OutF.mono l o)
  | exc c fs h1 =>
    rw [e] at o
    exact o
  | stuck =>
    rw [e] at o
    exact o
theorem OutA.bindA {m : MeL} {R : List V → Hp → Prop} {Q : List V → Hp → Prop} {k : List D → AH → Res (List D)} (o : OutA K mg W w σ Q ((m G h).bind k))
    (hq : ∀ ds h1 vs w1 H1, Le w w1 → RepH K w1 H1 h1 → Ra K w1 vs ds → OutA K mg W w1 σ Q (k ds h1) → R vs H1) : OutA K mg W w σ R (m G h) := by
  cases e : m G h with
  | ok d h1 =>
    rw [e] at o
    exact fun v w1 H1 l r x => hq d h1 v w1 H1 l r x (OutA.mono l o)
  | exc c fs h1 =>
    rw [e] at o
    exact o
  | stuck =>
    rw [e] at o
    exact o
theorem OutE.bindT {m : MeT} {R : Bool → Hp → Prop} {Q : VK} {k : Bool → AH → Res D} (o : OutE K mg W w σ Q ((m G h).bind k))
    (hq : ∀ b h1 w1 H1, Le w w1 → RepH K w1 H1 h1 → OutE K mg W w1 σ Q (k b h1) → R b H1) : OutT K mg W w σ R (m G h) := by
  cases e : m G h with
  | ok d h1 =>
    rw [e] at o
    exact fun w1 H1 l r => hq d h1 w1 H1 l r (OutE.mono l o)
  | exc c fs h1 =>
    rw [e] at o
    exact o
  | stuck =>
    rw [e] at o
    exact o
theorem OutT.bindT {m : MeT} {R : Bool → Hp → Prop} {Q : Bool → Hp → Prop} {k : Bool → AH → Res Bool} (o : OutT K mg W w σ Q ((m G h).bind k))
    (hq : ∀ b h1 w1 H1, Le w w1 → RepH K w1 H1 h1 → OutT K mg W w1 σ Q (k b h1) → R b H1) : OutT K mg W w σ R (m G h) := by
  cases e : m G h with
  | ok d h1 =>
    rw [e] at o
    exact fun w1 H1 l r => hq d h1 w1 H1 l r (OutT.mono l o)
  | exc c fs h1 =>
    rw [e] at o
    exact o
  | stuck =>
    rw [e] at o
    exact o
theorem OutE.bindF {m : MeL} {R : VK} {Q : VK} {k : List D → AH → Res D} (o : OutE K mg W w σ Q ((m G h).bind k))
    (hq : ∀ ds h1 p xs w1 H1, Le w w1 → RepH K w1 H1 h1 → Apart w1 p → H1 p = some (.lst xs) → Ra K w1 xs ds → OutE K mg W w1 σ Q (k ds h1) → R (.ref p) H1) : OutF K mg W w σ R (m G h) := by
  cases e : m G h with
  | ok d h1 =>
    rw [e] at o
    exact fun p xs w1 H1 l r a b x => hq d h1 p xs w1 H1 l r a b x (OutE.mono l o)
  | exc c fs h1 =>
    rw [e] at o
    exact o
  | stuck =>
    rw [e] at o
    exact o
end
end AB
/-! AB: expressions. -/
namespace AB
open PySem PySem.Spec PyProof.Rows L2

theorem _root_.L2.PE.wk {X : Cx} {e : Expr} {t t' : TE} (h : PE X e t) (k : ∀ σ H Q, t' σ H Q → t σ H Q) : PE X e t' := ⟨fun pins s σ H Q I q => h.run pins s σ H Q I (k σ H Q q)⟩
theorem _root_.L2.PT.wk {X : Cx} {e : Expr} {t t' : TT} (h : PT X e t) (k : ∀ σ H Q, t' σ H Q → t σ H Q) : PT X e t' := ⟨fun pins s σ H Q I q => h.run pins s σ H Q I (k σ H Q q)⟩
theorem _root_.L2.PW.wk {X : Cx} {e : Expr} {t t' : TT} (h : PW X e t) (k : ∀ σ H Q, t' σ H Q → t σ H Q) : PW X e t' := ⟨fun wh pins s σ H Q I q => h.run wh pins s σ H Q I (k σ H Q q)⟩
theorem _root_.L2.PA.wk {X : Cx} {e : List Expr} {t t' : TA} (h : PA X e t) (k : ∀ σ H Q, t' σ H Q → t σ H Q) : PA X e t' := ⟨fun pos pins s σ H Q I q => h.run pos pins s σ H Q I (k σ H Q q)⟩

/-- the size that a display, a sum, a slice may have here -/
def big : Nat := 1000000
theorem big_le {n : Nat} (h : n ≤ big) : n ≤ sizeLine := Nat.le_trans h (by decide)
theorem big_lt {n : Nat} (h : n < big) : n < sizeLine := Nat.lt_of_lt_of_le h (by decide)

/-! ### the combinators -/
def mV (i : Nat) : Me := fun G h => match G[i]? with
  | some (some d) => .ok d h
  | _ => .stuck
def mC (d : D) : Me := fun _ h => .ok d h
def mOp2 (f : D → D → AH → Res D) (a b : Me) : Me := fun G h => (a G h).bind fun x h1 => (b G h1).bind fun y h2 => f x y h2
def mOp1 (f : D → AH → Res D) (a : Me) : Me := fun G h => (a G h).bind fun x h1 => f x h1
def aNil : MeL := fun _ h => .ok [] h
def aCons (a : Me) (as : MeL) : MeL := fun G h => (a G h).bind fun x h1 => (as G h1).bind fun xs h2 => .ok (x :: xs) h2
def mN (f : List D → AH → Res D) (as : MeL) : Me := fun G h => (as G h).bind fun xs h1 => f xs h1
def fTup (ds : List D) (h : AH) : Res D := if ds.length ≤ big then .ok (.tup ds) h else .stuck
def lLst (as : MeL) : MeL := fun G h => (as G h).bind fun xs h1 => if xs.length ≤ big then .ok xs h1 else .stuck
/-- a new list, as a thing that is not changed any more -/
def mL (l : MeL) : Me := fun G h => (l G h).bind fun ds h1 => .ok (.lst ds) h1
/-- a new list, as an object of the machine's -/
def mNew (l : MeL) : Me := fun G h => (l G h).bind fun ds h1 => .ok (.loc h1.length) (h1 ++ [.lst ds])
/-- the items of a list, of a list or tuple -/
def vL (h : AH) : D → Option (List D)
  | .lst ds => some ds
  | .rol ds => some ds
  | .loc n => match h[n]? with
    | some (.lst ds) => some ds
    | _ => none
  | _ => none
/-- .. of a list that stands in the heap by itself -/
def vR (h : AH) : D → Option (List D)
  | .lst ds => some ds
  | .loc n => match h[n]? with
    | some (.lst ds) => some ds
    | _ => none
  | _ => none
def vS (h : AH) : D → Option (List D)
  | .tup ds => some ds
  | d => vL h d

section
variable {K : PySem.W.Frag} {w : Wd} {H : Hp} {h : AH} {v : V} {d : D} {ds : List D}
theorem vL_rep (r : RepH K w H h) (rv : Rv K w v d) (e : vL h d = some ds) : ∃ a xs, v = .ref a ∧ SqL K H a xs ∧ Ra K w xs ds := by
  cases rv with
  | lst a b =>
    cases e
    exact ⟨_, _, rfl, .inl (r.ex.rd a), b⟩
  | rol a b =>
    cases e
    exact ⟨_, _, rfl, r.ex.l a, b⟩
  | @loc n hn =>
    have e : (match h[n]? with
      | some (.lst ds) => some ds
      | _ => none) = some ds := e
    split at e
    · rename_i ds' e'
      cases e
      obtain ⟨_, xs, e2, ra⟩ := r.cell _ _ e'
      exact ⟨_, xs, rfl, .inl (.inl e2), ra⟩
    · cases e
  | _ => cases e
theorem vR_rep (r : RepH K w H h) (rv : Rv K w v d) (e : vR h d = some ds) : ∃ a xs, v = .ref a ∧ Rd H a (.lst xs) ∧ Ra K w xs ds := by
  cases rv with
  | lst a b =>
    cases e
    exact ⟨_, _, rfl, r.ex.rd a, b⟩
  | @loc n hn =>
    have e : (match h[n]? with
      | some (.lst ds) => some ds
      | _ => none) = some ds := e
    split at e
    · rename_i ds' e'
      cases e
      obtain ⟨_, xs, e2, ra⟩ := r.cell _ _ e'
      exact ⟨_, xs, rfl, .inl e2, ra⟩
    · cases e
  | _ => cases e
theorem vS_rep (r : RepH K w H h) (rv : Rv K w v d) (e : vS h d = some ds) : ∃ a xs, v = .ref a ∧ (SqL K H a xs ∨ SqT K H a xs) ∧ Ra K w xs ds := by
  by_cases ht : ∃ es, d = .tup es
  · obtain ⟨es, rfl⟩ := ht
    cases rv with
    | tup a b =>
      cases e
      exact ⟨_, _, rfl, .inr (r.ex.t a), b⟩
  · have e : vL h d = some ds := by
      cases d with
      | tup es => exact absurd ⟨es, rfl⟩ ht
      | _ => exact e
    obtain ⟨a, xs, h1, h2, h3⟩ := vL_rep r rv e
    exact ⟨a, xs, h1, .inl h2, h3⟩
end

section
variable {X : Cx} {W : WX} {pos : Pos}
abbrev TM (X : Cx) (W : WX) (m : Me) : TE := tM X.K X.mg W m
abbrev TF (X : Cx) (W : WX) (m : MeL) : TE := tF X.K X.mg W m
abbrev TAr (X : Cx) (W : WX) (m : MeL) : TA := tAr X.K X.mg W m
abbrev TTT (X : Cx) (W : WX) (m : MeT) : TT := tT X.K X.mg W m
/-- a step's outcome, done -/
theorem out_ok {K : PySem.W.Frag} {mg : Str → Option Value} {w : Wd} {σ : L2.St} {H : Hp} {Q : VK} {d : D} {h : AH} {v : V} (o : OutE K mg W w σ Q (.ok d h)) (r : RepH K w H h) (rv : Rv K w v d) : Q v H := o v w H (Le.refl _) r rv
/-- .. with a new thing that never changes -/
theorem out_add {K : PySem.W.Frag} {mg : Str → Option Value} {w : Wd} {σ : L2.St} {H : Hp} {Q : VK} {d : D} {h : AH} {p : Addr} {u : HO} (o : OutE K mg W w σ Q (.ok d h)) (r : RepH K w H h) (hp : H p = none) (rv : Rv K (w.add p u) (.ref p) d) : Q (.ref p) (upd H p u) :=
  o (.ref p) (w.add p u) (upd H p u) (r.le_add hp) (r.add hp) rv
theorem rv_tup {K : PySem.W.Frag} {w : Wd} {H : Hp} {h : AH} {p : Addr} {xs : List V} {ds : List D} (r : RepH K w H h) (hp : H p = none) (ra : Ra K w xs ds) : Rv K (w.add p (.tup xs)) (.ref p) (.tup ds) :=
  .tup (.inl (.inl upd_same)) (Ra_mono (r.le_add hp) ra)
theorem rv_lst {K : PySem.W.Frag} {w : Wd} {H : Hp} {h : AH} {p : Addr} {xs : List V} {ds : List D} (r : RepH K w H h) (hp : H p = none) (ra : Ra K w xs ds) : Rv K (w.add p (.lst xs)) (.ref p) (.lst ds) :=
  .lst (.inl upd_same) (Ra_mono (r.le_add hp) ra)
/-- a new list that nobody knows yet -/
theorem out_new {K : PySem.W.Frag} {mg : Str → Option Value} {w : Wd} {σ : L2.St} {H : Hp} {Q : VK} {ds : List D} {h : AH} {p : Addr} {xs : List V} (o : OutF K mg W w σ Q (.ok ds h)) (r : RepH K w H h) (hp : H p = none) (ra : Ra K w xs ds) : Q (.ref p) (upd H p (.lst xs)) := by
  refine o p xs w (upd H p (.lst xs)) (Le.refl _) ⟨fun a u e => ?_, r.len, r.inj, fun n o' e => ?_, fun a u e => by rw [upd_ne (ne_of_none (r.exF _ _ e) hp)]; exact r.exF _ _ e, r.dis⟩ ⟨r.ex.free hp, fun n hn => r.ne hn hp, r.exF.free hp⟩ upd_same ra
  · have e2 := r.ex _ _ e
    rw [upd_ne (ne_of_none e2 hp)]
    exact e2
  · obtain ⟨a, b⟩ := r.cell n o' e
    have hn : n < w.N := by
      rw [r.len]
      exact (List.getElem?_eq_some_iff.mp e).1
    exact ⟨a, b.mono (Le.refl _) (upd_ne (r.ne hn hp))⟩
/-- a list that stands apart, from now on never changed -/
theorem RepH.keep {K : PySem.W.Frag} {w : Wd} {H : Hp} {h : AH} {p : Addr} {u : HO} (r : RepH K w H h) (ap : Apart w p) (e : H p = some u) : RepH K (w.add p u) H h ∧ Le w (w.add p u) := by
  have l : Le w (w.add p u) := ⟨Ext.new ap.s, Nat.le_refl _, fun _ _ => rfl, rfl, rfl⟩
  refine ⟨⟨fun a x q => ?_, r.len, r.inj, fun n o' q => ?_, r.exF, fun a x q => ⟨by
    show upd w.S p u a = none
    have z : a ≠ p := fun z => by
      have q : w.F a = some x := q
      rw [z, ap.f] at q
      cases q
    rw [upd_ne z]
    exact (r.dis a x q).1, (r.dis a x q).2⟩⟩, l⟩
  · have q : upd w.S p u a = some x := q
    by_cases ha : a = p
    · subst ha
      rw [upd_same] at q
      rw [e, q]
    · rw [upd_ne ha] at q
      exact r.ex _ _ q
  · obtain ⟨a, b⟩ := r.cell n o' q
    have hn : n < w.N := by
      rw [r.len]
      exact (List.getElem?_eq_some_iff.mp q).1
    refine ⟨?_, b.mono l rfl⟩
    show upd w.S p u (w.mu n) = none
    rw [upd_ne (ap.m n hn)]
    exact a

/-! ### names, constants -/
theorem e_var (i : Nat) {x : Str} (hN : X.N[i]? = some x := by rfl) (hv : Vis X.env.scope x := by first | exact Or.inl rfl | exact Or.inr (Or.inl rfl) | exact Or.inr (Or.inr rfl)) (hd : (x == ("__debug__" : Str)) = false := by decide)
    (hcd : (x == ("__classdict__" : Str)) = false := by decide) : PE X (.Name x pos) (TM X W (mV i)) := by
  refine (pe_var hN hv hd hcd).wk fun σ H Q ⟨w, G, h, g, r, o⟩ => ?_
  unfold mV at o
  split at o
  · rename_i d e
    obtain ⟨v, e2, rv⟩ := g.2 i d e
    exact ⟨v, e2, out_ok o r rv⟩
  · exact o.elim
def StRep (K : PySem.W.Frag) (v : V) (d : D) : Prop := ∀ (w : Wd), Rv K w v d
theorem e_const {e : Expr} {v : V} {d : D} (h : PE X e (tC v)) (s : StRep X.K v d) : PE X e (TM X W (mC d)) :=
  h.wk fun σ H Q ⟨w, G, h, g, r, o⟩ => out_ok o r (s w)
theorem e_int {i : Int} {j : Nat} : PE X (.Constant (.int i) j pos) (TM X W (mC (.int i))) := e_const pe_int fun _ => .int i
theorem e_bl {b : Bool} {j : Nat} : PE X (.Constant (.bool b) j pos) (TM X W (mC (.bl b))) := e_const pe_bl fun _ => .bl b
theorem e_non {j : Nat} : PE X (.Constant .none j pos) (TM X W (mC .non)) := e_const pe_non fun _ => .non
theorem e_str {x : Str} {j : Nat} : PE X (.Constant (.str x) j pos) (TM X W (mC (.str x))) := e_const pe_str fun _ => .str x
theorem e_glob {x : Str} {v : V} {u : Value} {d : D} (hm : X.mg x = some u) (rv : RelV v u) (s : StRep X.K v d) (hg : Gl X x := by rfl) (hd : (x == ("__debug__" : Str)) = false := by decide) : PE X (.Name x pos) (TM X W (mC d)) :=
  e_const (pe_glob hg hm rv hd) s

/-! ### operators -/
def Fol2 (X : Cx) (W : WX) (f : D → D → AH → Res D) (r : R2) : Prop := ∀ (w : Wd) (h : AH) (H : Hp) (σ : L2.St) (Q : VK) (v1 v2 : V) (d1 d2 : D),
  RepH X.K w H h → Rv X.K w v1 d1 → Rv X.K w v2 d2 → OutE X.K X.mg W w σ Q (f d1 d2 h) → r v1 v2 H Q
def Fol1 (X : Cx) (W : WX) (f : D → AH → Res D) (r : V → Hp → VK → Prop) : Prop := ∀ (w : Wd) (h : AH) (H : Hp) (σ : L2.St) (Q : VK) (v1 : V) (d1 : D),
  RepH X.K w H h → Rv X.K w v1 d1 → OutE X.K X.mg W w σ Q (f d1 h) → r v1 H Q
def FolN (X : Cx) (W : WX) (f : List D → AH → Res D) (r : List V → Hp → VK → Prop) : Prop := ∀ (w : Wd) (h : AH) (H : Hp) (σ : L2.St) (Q : VK) (vs : List V) (ds : List D),
  RepH X.K w H h → Ra X.K w vs ds → OutE X.K X.mg W w σ Q (f ds h) → r vs H Q
def FolF (X : Cx) (W : WX) (f : List D → AH → Res (List D)) (r : List V → Hp → VK → Prop) : Prop := ∀ (w : Wd) (h : AH) (H : Hp) (σ : L2.St) (Q : VK) (vs : List V) (ds : List D),
  RepH X.K w H h → Ra X.K w vs ds → OutF X.K X.mg W w σ Q (f ds h) → r vs H Q
variable {a b : Expr} {ma mb : Me}
theorem op2 {f : D → D → AH → Res D} {r : R2} (hf : Fol2 X W f r) {σ : L2.St} {H : Hp} {Q : VK} (t : TM X W (mOp2 f ma mb) σ H Q) : tOp r (TM X W ma) (TM X W mb) σ H Q := by
  obtain ⟨w, G, h, g, rh, o⟩ := t
  refine ⟨w, G, h, g, rh, o.bindE fun d h1 v w1 H1 l r1 x o1 => ⟨w1, G, h1, g.mono l, r1, o1.bindE fun d2 h2 v2 w2 H2 l2 r2 x2 o2 => ?_⟩⟩
  exact hf w2 h2 H2 σ Q v v2 d d2 r2 (Rv_mono l2 x) x2 o2
theorem e_bin {f : D → D → AH → Res D} {r : R2} {op : Operator} (ho : OpR X (binaryOp op) r) (hf : Fol2 X W f r) (ha : PE X a (TM X W ma)) (hb : PE X b (TM X W mb)) : PE X (.BinOp a op b pos) (TM X W (mOp2 f ma mb)) :=
  (pe_op ho ha hb).wk fun _ _ _ t => op2 hf t
theorem e_cmp {f : D → D → AH → Res D} {r : R2} {op : CmpOp} (ho : OpR X (compareOp op) r) (hf : Fol2 X W f r) (ha : PE X a (TM X W ma)) (hb : PE X b (TM X W mb)) (hm : behindInMarks op b = false := by rfl) : PE X (.Compare a [op] [b] pos) (TM X W (mOp2 f ma mb)) :=
  (pe_cmpR ho ha hb hm).wk fun _ _ _ t => op2 hf t
theorem e_un {f : D → AH → Res D} {r : V → Hp → VK → Prop} {op : UnaryOp} (ho : UnR X (unaryOp op) r) (hf : Fol1 X W f r) (ha : PE X a (TM X W ma)) : PE X (.UnaryOp op a pos) (TM X W (mOp1 f ma)) := by
  refine (pe_un ho ha).wk fun σ H Q ⟨w, G, h, g, rh, o⟩ => ⟨w, G, h, g, rh, o.bindE fun d h1 v w1 H1 l r1 x o1 => ?_⟩
  exact hf w1 h1 H1 σ Q v d r1 x o1
/-! ints -/
def fAdd (x y : D) (h : AH) : Res D := match x, y with
  | .int i, .int j => .ok (.int (i + j)) h
  | .str i, .str j => if i.length + j.length ≤ big then .ok (.str (i ++ j)) h else .stuck
  | .tup xs, .tup ys => if xs.length + ys.length ≤ big then .ok (.tup (xs ++ ys)) h else .stuck
  | x, y => match vR h x, vR h y with
    | some xs, some ys => if xs.length + ys.length ≤ big then .ok (.lst (xs ++ ys)) h else .stuck
    | _, _ => .stuck
def fSub (x y : D) (h : AH) : Res D := match x, y with
  | .int i, .int j => .ok (.int (i - j)) h
  | _, _ => .stuck
/-- a factor within 2 ^ 60 -/
def fMul (x y : D) (h : AH) : Res D := match x, y with
  | .int i, .int j => if (-(2 ^ 60) ≤ i ∧ i ≤ 2 ^ 60) ∨ (-(2 ^ 60) ≤ j ∧ j ≤ 2 ^ 60) then .ok (.int (i * j)) h else .stuck
  | _, _ => .stuck
def fMod (x y : D) (h : AH) : Res D := match x, y with
  | .int i, .int j => if 0 < j then .ok (.int (i % j)) h else .stuck
  | _, _ => .stuck
def fDiv (x y : D) (h : AH) : Res D := match x, y with
  | .int i, .int j => if 0 < j ∧ j ≤ 2 ^ 60 then .ok (.int (i / j)) h else .stuck
  | _, _ => .stuck
def fPow (x y : D) (h : AH) : Res D := match x, y with
  | .int i, .int j => if 0 ≤ j ∧ j ≤ 1000 ∧ 0 ≤ i ∧ i ≤ 1000 then .ok (.int (i ^ j.toNat)) h else .stuck
  | _, _ => .stuck
def fNeg (x : D) (h : AH) : Res D := match x with
  | .int i => .ok (.int (-i)) h
  | _ => .stuck
def fLt (x y : D) (h : AH) : Res D := match x, y with
  | .int i, .int j => .ok (.bl (decide (i < j))) h
  | _, _ => .stuck
def fLe (x y : D) (h : AH) : Res D := match x, y with
  | .int i, .int j => .ok (.bl (decide (i ≤ j))) h
  | _, _ => .stuck
def fGt (x y : D) (h : AH) : Res D := match x, y with
  | .int i, .int j => .ok (.bl (decide (j < i))) h
  | _, _ => .stuck
def fGe (x y : D) (h : AH) : Res D := match x, y with
  | .int i, .int j => .ok (.bl (decide (j ≤ i))) h
  | _, _ => .stuck
def fIsN (x y : D) (h : AH) : Res D := match x, y with
  | .non, .non => .ok (.bl true) h
  | _, .non => .ok (.bl false) h
  | _, _ => .stuck
def fNotN (x y : D) (h : AH) : Res D := match x, y with
  | .non, .non => .ok (.bl false) h
  | _, .non => .ok (.bl true) h
  | _, _ => .stuck
theorem rv_int {w : Wd} {v : V} {i : Int} (r : Rv X.K w v (.int i)) : v = .int i := by cases r; rfl
theorem fol_int {g : Int → Int → V} {f : D → D → AH → Res D} {e : Int → Int → D} (hs : ∀ i j w, Rv X.K w (g i j) (e i j)) (hf : ∀ x y h, (∃ i j, x = .int i ∧ y = .int j ∧ f x y h = .ok (e i j) h) ∨ f x y h = .stuck) : Fol2 X W f (rI0 g) := by
  intro w h H σ Q v1 v2 d1 d2 rh r1 r2 o
  rcases hf d1 d2 h with ⟨i, j, rfl, rfl, z⟩ | z
  · rw [z] at o
    cases r1
    cases r2
    exact ⟨i, j, rfl, rfl, out_ok o rh (hs i j w)⟩
  · rw [z] at o
    exact o.elim
theorem two_cases {α : Type} {f : D → D → AH → Res D} {e : Int → Int → D} (h1 : ∀ i j h, f (.int i) (.int j) h = .ok (e i j) h) (h2 : ∀ x y h, (∀ i j, ¬ (x = .int i ∧ y = .int j)) → f x y h = .stuck) : ∀ x y h, (∃ i j, x = .int i ∧ y = .int j ∧ f x y h = .ok (e i j) h) ∨ f x y h = .stuck := by
  intro x y h
  by_cases z : ∃ i j, x = .int i ∧ y = .int j
  · obtain ⟨i, j, rfl, rfl⟩ := z
    exact .inl ⟨i, j, rfl, rfl, h1 i j h⟩
  · exact .inr (h2 x y h fun i j q => z ⟨i, j, q⟩)
theorem fol_lt : Fol2 X W fLt (rI0 fun i j => .bl (decide (i < j))) := fol_int (e := fun i j => .bl (decide (i < j))) (fun _ _ _ => .bl _) fun x y h => by
  cases x <;> cases y <;> first | exact .inr rfl | exact .inl ⟨_, _, rfl, rfl, rfl⟩
theorem fol_le : Fol2 X W fLe (rI0 fun i j => .bl (decide (i ≤ j))) := fol_int (e := fun i j => .bl (decide (i ≤ j))) (fun _ _ _ => .bl _) fun x y h => by
  cases x <;> cases y <;> first | exact .inr rfl | exact .inl ⟨_, _, rfl, rfl, rfl⟩
theorem fol_gt : Fol2 X W fGt (rI0 fun i j => .bl (decide (j < i))) := fol_int (e := fun i j => .bl (decide (j < i))) (fun _ _ _ => .bl _) fun x y h => by
  cases x <;> cases y <;> first | exact .inr rfl | exact .inl ⟨_, _, rfl, rfl, rfl⟩
theorem fol_ge : Fol2 X W fGe (rI0 fun i j => .bl (decide (j ≤ i))) := fol_int (e := fun i j => .bl (decide (j ≤ i))) (fun _ _ _ => .bl _) fun x y h => by
  cases x <;> cases y <;> first | exact .inr rfl | exact .inl ⟨_, _, rfl, rfl, rfl⟩
theorem fol_sub : Fol2 X W fSub (rI0 fun i j => .int (i - j)) := fol_int (e := fun i j => .int (i - j)) (fun _ _ _ => .int _) fun x y h => by
  cases x <;> cases y <;> first | exact .inr rfl | exact .inl ⟨_, _, rfl, rfl, rfl⟩
theorem fol_intC {C : Int → Int → Prop} {g : Int → Int → V} {f : D → D → AH → Res D} {e : Int → Int → D} (hs : ∀ i j w, Rv X.K w (g i j) (e i j)) (hf : ∀ x y h, (∃ i j, x = .int i ∧ y = .int j ∧ C i j ∧ f x y h = .ok (e i j) h) ∨ f x y h = .stuck) : Fol2 X W f (rI C g) := by
  intro w h H σ Q v1 v2 d1 d2 rh r1 r2 o
  rcases hf d1 d2 h with ⟨i, j, rfl, rfl, c, z⟩ | z
  · rw [z] at o
    cases r1
    cases r2
    exact ⟨i, j, rfl, rfl, c, out_ok o rh (hs i j w)⟩
  · rw [z] at o
    exact o.elim
theorem fol_mul : Fol2 X W fMul (rI CMul fun i j => .int (i * j)) := fol_intC (e := fun i j => .int (i * j)) (fun _ _ _ => .int _) fun x y h => by
  cases x with
  | int i =>
    cases y with
    | int j =>
      show (∃ i' j', _) ∨ (if _ then _ else _) = _
      by_cases c : (-(2 ^ 60) ≤ i ∧ i ≤ 2 ^ 60) ∨ (-(2 ^ 60) ≤ j ∧ j ≤ 2 ^ 60)
      · refine .inl ⟨i, j, rfl, rfl, ?_, if_pos c⟩
        rcases c with c | c
        · exact .inl ⟨by omega, by omega⟩
        · exact .inr ⟨by omega, by omega⟩
      · exact .inr (if_neg c)
    | _ => exact .inr rfl
  | _ => exact .inr rfl
theorem fol_mod : Fol2 X W fMod (rI (fun _ j => 0 < j) fun i j => .int (i % j)) := fol_intC (e := fun i j => .int (i % j)) (fun _ _ _ => .int _) fun x y h => by
  cases x with
  | int i =>
    cases y with
    | int j =>
      show (∃ i' j', _) ∨ (if _ then _ else _) = _
      by_cases c : 0 < j
      · exact .inl ⟨i, j, rfl, rfl, c, if_pos c⟩
      · exact .inr (if_neg c)
    | _ => exact .inr rfl
  | _ => exact .inr rfl
theorem fol_div : Fol2 X W fDiv (rI CDivW fun i j => .int (i / j)) := fol_intC (e := fun i j => .int (i / j)) (fun _ _ _ => .int _) fun x y h => by
  cases x with
  | int i =>
    cases y with
    | int j =>
      show (∃ i' j', _) ∨ (if _ then _ else _) = _
      by_cases c : 0 < j ∧ j ≤ 2 ^ 60
      · exact .inl ⟨i, j, rfl, rfl, wide_div (b := 61) c.1 (by omega) (by decide) (by decide), if_pos c⟩
      · exact .inr (if_neg c)
    | _ => exact .inr rfl
  | _ => exact .inr rfl
theorem fol_pow : Fol2 X W fPow (rI CPow fun i j => .int (i ^ j.toNat)) := fol_intC (e := fun i j => .int (i ^ j.toNat)) (fun _ _ _ => .int _) fun x y h => by
  cases x with
  | int i =>
    cases y with
    | int j =>
      show (∃ i' j', _) ∨ (if _ then _ else _) = _
      by_cases c : 0 ≤ j ∧ j ≤ 1000 ∧ 0 ≤ i ∧ i ≤ 1000
      · exact .inl ⟨i, j, rfl, rfl, ⟨by omega, by omega, by omega⟩, if_pos c⟩
      · exact .inr (if_neg c)
    | _ => exact .inr rfl
  | _ => exact .inr rfl
theorem fol_neg : Fol1 X W fNeg (rU fun i => .int (-i)) := by
  intro w h H σ Q v1 d1 rh r1 o
  cases r1 with
  | int i => exact ⟨i, rfl, out_ok o rh (.int _)⟩
  | _ => exact o.elim
/-- two lists -/
def rCatR : R2 := fun x y H Q => ∃ l b xs zs, x = .ref l ∧ y = .ref b ∧ Rd H l (.lst xs) ∧ Rd H b (.lst zs) ∧ xs.length + zs.length ≤ sizeLine ∧ ∀ p, H p = none → Q (.ref p) (upd H p (.lst (xs ++ zs)))
theorem op_catR : OpR X (binaryOp .Add) rCatR := by
  intro pins s σ H x y v u Q I rx ry h
  obtain ⟨l, b, xs, zs, rfl, rfl, hH, hB, hz, q⟩ := h
  cases rx
  cases ry
  obtain ⟨z, its, n, r, e⟩ := hH.ok I.hok
  obtain ⟨z2, its2, n2, r2, e2⟩ := hB.ok I.hok
  have hl := r.length
  have hl2 := r2.length
  refine PySem.P.add_list e e2 ?_ (by rw [List.size_toArray, List.size_toArray]; omega)
  have ea : its.toArray ++ its2.toArray = (its ++ its2).toArray := by simp
  rw [ea]
  exact ⟨.ref _, _, I.lnew (t' := s.toks) (r.append r2) (by rw [List.length_append]; omega), rfl, q _ I.fresh⟩
def rAdd3 (K : PySem.W.Frag) : R2 := fun x y H Q => (rI0 (fun i j => .int (i + j)) x y H Q) ∨ ((∃ i j, x = .str i ∧ y = .str j ∧ i.length + j.length ≤ sizeLine ∧ Q (.str (i ++ j)) H) ∨ (rCatA K x y H Q ∨ rCatR x y H Q))
theorem op_add3 : OpR X (binaryOp .Add) (rAdd3 X.K) := OpR.or op_add (OpR.or op_add_str (OpR.or op_catA op_catR))
theorem fol_add : Fol2 X W fAdd (rAdd3 X.K) := by
  intro w h H σ Q v1 v2 d1 d2 rh r1 r2 o
  have lists : OutE X.K X.mg W w σ Q (match vR h d1, vR h d2 with
    | some xs, some ys => if xs.length + ys.length ≤ big then .ok (.lst (xs ++ ys)) h else .stuck
    | _, _ => .stuck) → rAdd3 X.K v1 v2 H Q := by
    intro o
    split at o
    · rename_i xs ys e1 e2
      split at o
      · rename_i c
        obtain ⟨a, us, rfl, h1, h2⟩ := vR_rep rh r1 e1
        obtain ⟨b, ws, rfl, g1, g2⟩ := vR_rep rh r2 e2
        have lx := h2.length
        have ly := g2.length
        exact .inr (.inr (.inr ⟨a, b, us, ws, rfl, rfl, h1, g1, big_le (by omega), fun p hp => out_add o rh hp (rv_lst rh hp (h2.append g2))⟩))
      · exact o.elim
    · exact o.elim
  unfold fAdd at o
  split at o
  · cases r1
    cases r2
    exact .inl ⟨_, _, rfl, rfl, out_ok o rh (.int _)⟩
  · split at o
    · rename_i c
      cases r1
      cases r2
      exact .inr (.inl ⟨_, _, rfl, rfl, big_le c, out_ok o rh (.str _)⟩)
    · exact o.elim
  · split at o
    · rename_i c
      cases r1 with
      | @tup p xs ds h1 h2 =>
        cases r2 with
        | @tup q ys es g1 g2 =>
          have lx := h2.length
          have ly := g2.length
          refine .inr (.inr (.inl ⟨p, q, xs, ys, rfl, rfl, rh.ex.t h1, rh.ex.t g1, big_le (by omega), fun ex => ?_, fun _ ey => ?_, fun _ _ z hz => ?_⟩))
          · subst ex
            cases h2
            exact out_ok o rh (.tup g1 g2)
          · subst ey
            cases g2
            rw [List.append_nil] at o
            exact out_ok o rh (.tup h1 h2)
          · exact out_add o rh hz (rv_tup rh hz (h2.append g2))
    · exact o.elim
  · exact lists o
theorem fol_isN : Fol2 X W fIsN (fun x y H Q => y = .non ∧ Q (.bl (decide (x = .non))) H) := by
  intro w h H σ Q v1 v2 d1 d2 rh r1 r2 o
  cases r2 with
  | non =>
    refine ⟨rfl, ?_⟩
    cases r1 <;> exact out_ok o rh (.bl _)
  | _ => cases r1 <;> exact o.elim
theorem fol_notN : Fol2 X W fNotN (fun x y H Q => y = .non ∧ Q (.bl (!decide (x = .non))) H) := by
  intro w h H σ Q v1 v2 d1 d2 rh r1 r2 o
  cases r2 with
  | non =>
    refine ⟨rfl, ?_⟩
    cases r1 <;> exact out_ok o rh (.bl _)
  | _ => cases r1 <;> exact o.elim
def fIsB (x y : D) (h : AH) : Res D := match x, y with
  | .bl i, .bl j => .ok (.bl (decide (i = j))) h
  | _, _ => .stuck
def fNotB (x y : D) (h : AH) : Res D := match x, y with
  | .bl i, .bl j => .ok (.bl (!decide (i = j))) h
  | _, _ => .stuck
theorem fol_isB : Fol2 X W fIsB rIsB := by
  intro w h H σ Q v1 v2 d1 d2 rh r1 r2 o
  cases r1 with
  | bl i =>
    cases r2 with
    | bl j => exact ⟨i, j, rfl, rfl, out_ok o rh (.bl _)⟩
    | _ => exact o.elim
  | _ => exact o.elim
theorem fol_notB : Fol2 X W fNotB rNotB := by
  intro w h H σ Q v1 v2 d1 d2 rh r1 r2 o
  cases r1 with
  | bl i =>
    cases r2 with
    | bl j => exact ⟨i, j, rfl, rfl, out_ok o rh (.bl _)⟩
    | _ => exact o.elim
  | _ => exact o.elim

/-! ### argument lists, displays -/
variable {es : List Expr} {e : Expr} {as : MeL}
theorem a_nil : PA X [] (TAr X W aNil) := pa_nil.wk fun σ H Q ⟨w, G, h, g, r, o⟩ => o [] w H (Le.refl _) r .nil
theorem a_cons (he : PE X e (TM X W ma)) (ha : PA X es (TAr X W as)) (hs : starEach (e :: es) X.env = (false, eval e X.env) :: starEach es X.env := by rfl) : PA X (e :: es) (TAr X W (aCons ma as)) :=
  (pa_cons he ha hs).wk fun σ H Q ⟨w, G, h, g, r, o⟩ => ⟨w, G, h, g, r, o.bindE fun d h1 v w1 H1 l r1 x o1 => ⟨w1, G, h1, g.mono l, r1, o1.bindA fun ds h2 vs w2 H2 l2 r2 xs o2 => o2 _ w2 H2 (Le.refl _) r2 (.cons (Rv_mono l2 x) xs)⟩⟩
theorem e_tup {x1} (ha : PA X es (TAr X W as)) : PE X (.Tuple es x1 pos) (TM X W (mN fTup as)) := by
  refine (pe_tup ha).wk fun σ H Q ⟨w, G, h, g, r, o⟩ => ⟨w, G, h, g, r, o.bindA fun ds h1 vs w1 H1 l r1 x o1 => ?_⟩
  unfold fTup at o1
  split at o1
  · rename_i c
    exact ⟨big_le (by rw [x.length]; exact c), fun p hp => out_add o1 r1 hp (rv_tup r1 hp x)⟩
  · exact o1.elim
theorem f_lst {x1} (ha : PA X es (TAr X W as)) : PE X (.List es x1) (TF X W (lLst as)) := by
  refine (pe_lst ha).wk fun σ H Q ⟨w, G, h, g, r, o⟩ => ⟨w, G, h, g, r, o.bindA fun ds h1 vs w1 H1 l r1 x o1 => ?_⟩
  split at o1
  · rename_i c
    exact ⟨big_le (by rw [x.length]; exact c), fun p hp => out_new o1 r1 hp x⟩
  · exact o1.elim
/-- a new list, never changed from now on; a new list as an object -/
theorem L_read {l : MeL} {σ : L2.St} {H : Hp} {Q : VK} (t : TM X W (mL l) σ H Q) : TF X W l σ H Q := by
  obtain ⟨w, G, h, g, r, o⟩ := t
  refine ⟨w, G, h, g, r, OutE.bindF (m := l) o fun ds h1 p xs w1 H1 l r1 ap hp x o1 => ?_⟩
  obtain ⟨r2, l2⟩ := r1.keep ap hp
  exact o1 _ _ H1 l2 r2 (.lst (.inl upd_same) (Ra_mono l2 x))
theorem e_L {l : MeL} (he : PE X e (TF X W l)) : PE X e (TM X W (mL l)) := he.wk fun _ _ _ t => L_read t
theorem new_read {l : MeL} {σ : L2.St} {H : Hp} {Q : VK} (t : TM X W (mNew l) σ H Q) : TF X W l σ H Q := by
  obtain ⟨w, G, h, g, r, o⟩ := t
  refine ⟨w, G, h, g, r, OutE.bindF (m := l) o fun ds h1 p xs w1 H1 l r1 ap hp x o1 => ?_⟩
  refine o1 _ (w1.push p) H1 (w1.le_push p) (r1.push ap ⟨xs, hp, Ra_mono (w1.le_push p) x⟩) ?_
  have e1 : h1.length = w1.N := r1.len.symm
  rw [e1]
  have e2 : (w1.push p).mu w1.N = p := w1.push_mu p
  have q : Rv X.K (w1.push p) (.ref ((w1.push p).mu w1.N)) (.loc w1.N) := .loc (Nat.lt_succ_self _)
  rw [e2] at q
  exact q
theorem e_new {l : MeL} (he : PE X e (TF X W l)) : PE X e (TM X W (mNew l)) := he.wk fun _ _ _ t => new_read t
end
end AB
/-! AB: calls, truth, equality, subscripts. -/
namespace AB
open PySem PySem.Spec PyProof.Rows L2

/-! ### data of the library's -/
mutual
def toP : D → Option PyData
  | .non => some .none
  | .bl b => some (.bool b)
  | .int i => some (.int i)
  | .str x => some (.str x)
  | .tup ds => (toPs ds).map .tuple
  | .lst ds => (toPs ds).map .list
  | .rol _ => none
  | .loc _ => none
  | .con _ => none
def toPs : List D → Option (List PyData)
  | [] => some []
  | d :: ds => match toP d, toPs ds with
    | some p, some ps => some (p :: ps)
    | _, _ => none
end
/-- a list of the machine's, read as it stands -/
def toPh (h : AH) (d : D) : Option PyData := match d with
  | .loc n => match h[n]? with
    | some (.lst ds) => (toPs ds).map .list
    | _ => none
  | d => toP d
section
variable {K : PySem.W.Frag} {w : Wd} {H : Hp} {h : AH}
mutual
theorem toP_rep (ex : Ext w.S H) : ∀ (d : D) (v : V) (p : PyData), Rv K w v d → toP d = some p → Dp K H v p
  | .non, _, _, r, e => by cases r; cases e; exact .non
  | .bl _, _, _, r, e => by cases r; cases e; exact .bl _
  | .int _, _, _, r, e => by cases r; cases e; exact .int _
  | .str _, _, _, r, e => by cases r; cases e; exact .str _
  | .tup ds, _, p, r, e => by
    cases r with
    | tup a b =>
      unfold toP at e
      cases q : toPs ds with
      | none => rw [q] at e; cases e
      | some ps =>
        rw [q] at e
        cases e
        exact .tup (ex.t a) (toPs_rep ex ds _ ps b q)
  | .lst ds, _, p, r, e => by
    cases r with
    | lst a b =>
      unfold toP at e
      cases q : toPs ds with
      | none => rw [q] at e; cases e
      | some ps =>
        rw [q] at e
        cases e
        exact .lst (.inl (ex.rd a)) (toPs_rep ex ds _ ps b q)
  | .rol _, _, _, _, e => by cases e
  | .loc _, _, _, _, e => by cases e
  | .con _, _, _, _, e => by cases e
theorem toPs_rep (ex : Ext w.S H) : ∀ (ds : List D) (vs : List V) (ps : List PyData), Ra K w vs ds → toPs ds = some ps → DpAll K H vs ps
  | [], _, _, r, e => by cases r; cases e; exact .nil
  | d :: ds, _, ps, r, e => by
    cases r with
    | cons a b =>
      unfold toPs at e
      cases q1 : toP d with
      | none => rw [q1] at e; cases e
      | some p =>
        cases q2 : toPs ds with
        | none => rw [q1, q2] at e; cases e
        | some qs =>
          rw [q1, q2] at e
          cases e
          exact .cons (toP_rep ex d _ p a q1) (toPs_rep ex ds _ qs b q2)
end
theorem toPh_rep (r : RepH K w H h) {v : V} {d : D} {p : PyData} (rv : Rv K w v d) (e : toPh h d = some p) : Dp K H v p := by
  cases rv with
  | @loc n hn =>
    have e : (match h[n]? with
      | some (.lst ds) => (toPs ds).map .list
      | _ => none) = some p := e
    split at e
    · rename_i ds e'
      obtain ⟨_, xs, e2, ra⟩ := r.cell _ _ e'
      cases q : toPs ds with
      | none => rw [q] at e; cases e
      | some ps =>
        rw [q] at e
        cases e
        exact .lst (.inl (.inl e2)) (toPs_rep r.ex ds _ ps ra q)
    · cases e
  | non => exact toP_rep r.ex _ _ p .non e
  | bl b => exact toP_rep r.ex _ _ p (.bl b) e
  | int b => exact toP_rep r.ex _ _ p (.int b) e
  | str b => exact toP_rep r.ex _ _ p (.str b) e
  | tup a b => exact toP_rep r.ex _ _ p (.tup a b) e
  | lst a b => exact toP_rep r.ex _ _ p (.lst a b) e
  | con => cases e
  | rol => cases e
end
/-- both read, of a shape that the library compares -/
def okP (h : AH) (d : D) : Option PyData := match toPh h d with
  | some p => if SeqAt.shaped p = true then some p else none
  | none => none
theorem okP_some {h : AH} {d : D} {p : PyData} (e : okP h d = some p) : toPh h d = some p ∧ SeqAt.shaped p = true := by
  unfold okP at e
  split at e
  · split at e
    · cases e
      exact ⟨by assumption, by assumption⟩
    · cases e
  · cases e
def fEq (x y : D) (h : AH) : Res D := match okP h x, okP h y with
  | some p, some q => .ok (.bl (PyData.eqv p q)) h
  | _, _ => .stuck
def fNe (x y : D) (h : AH) : Res D := match okP h x, okP h y with
  | some p, some q => .ok (.bl (!PyData.eqv p q)) h
  | _, _ => .stuck
/-- x in a list or tuple -/
def inD (h : AH) (x y : D) : Option Bool := match okP h x, okP h y with
  | some p, some (.list qs) => some (qs.any fun z => PyData.eqv z p)
  | some p, some (.tuple qs) => some (qs.any fun z => PyData.eqv z p)
  | _, _ => none
def fIn (x y : D) (h : AH) : Res D := match inD h x y with
  | some b => .ok (.bl b) h
  | none => .stuck
def fNotIn (x y : D) (h : AH) : Res D := match inD h x y with
  | some b => .ok (.bl (!b)) h
  | none => .stuck
section
variable {X : Cx} {W : WX}
theorem fol_eq : Fol2 X W fEq (rEqD X.K) := by
  intro w h H σ Q v1 v2 d1 d2 rh r1 r2 o
  unfold fEq at o
  split at o
  · rename_i p q e1 e2
    obtain ⟨a1, a2⟩ := okP_some e1
    obtain ⟨b1, b2⟩ := okP_some e2
    exact ⟨p, q, toPh_rep rh r1 a1, toPh_rep rh r2 b1, a2, b2, out_ok o rh (.bl _)⟩
  · exact o.elim
theorem fol_ne : Fol2 X W fNe (rNeD X.K) := by
  intro w h H σ Q v1 v2 d1 d2 rh r1 r2 o
  unfold fNe at o
  split at o
  · rename_i p q e1 e2
    obtain ⟨a1, a2⟩ := okP_some e1
    obtain ⟨b1, b2⟩ := okP_some e2
    exact ⟨p, q, toPh_rep rh r1 a1, toPh_rep rh r2 b1, a2, b2, out_ok o rh (.bl _)⟩
  · exact o.elim
/-- x in y, x not in y: a list or a tuple -/
def rInA (K : PySem.W.Frag) (neg : Bool) : R2 := fun x y H Q => ∃ d ds, Dp K H x d ∧ (Dp K H y (.list ds) ∨ Dp K H y (.tuple ds)) ∧ SeqAt.shaped d = true ∧ SeqAt.shaped (.list ds) = true ∧ Q (.bl (if neg then !(ds.any fun z => PyData.eqv z d) else ds.any fun z => PyData.eqv z d)) H
theorem op_inA (hu : X.A.units + 65 < cLine) : OpR X (compareOp .In) (rInA X.K false) := by
  intro pins s σ H x y v u Q I rx ry h
  obtain ⟨d, ds, hd, he, sd, se, q⟩ := h
  obtain ⟨as, r1⟩ := Dp.reads I d x v hd rx
  rcases he with he | he
  · obtain ⟨bs, r2⟩ := Dp.reads I (.list ds) y u he ry
    exact SeqAt.in_list_reads r2 r1 (SeqAt.canLay_of_shaped se) (SeqAt.canLay_of_shaped sd) (room_in_shaped sd hu) ⟨.bl _, H, I, rfl, q⟩
  · obtain ⟨bs, r2⟩ := Dp.reads I (.tuple ds) y u he ry
    exact SeqAt.in_tuple_reads r2 r1 (SeqAt.canLay_of_shaped se) (SeqAt.canLay_of_shaped sd) (room_in_shaped sd hu) ⟨.bl _, H, I, rfl, q⟩
theorem op_notInA (hu : X.A.units + 65 < cLine) : OpR X (compareOp .NotIn) (rInA X.K true) := by
  intro pins s σ H x y v u Q I rx ry h
  obtain ⟨d, ds, hd, he, sd, se, q⟩ := h
  obtain ⟨as, r1⟩ := Dp.reads I d x v hd rx
  rcases he with he | he
  · obtain ⟨bs, r2⟩ := Dp.reads I (.list ds) y u he ry
    exact SeqAt.notIn_list_reads r2 r1 (SeqAt.canLay_of_shaped se) (SeqAt.canLay_of_shaped sd) (room_in_shaped sd hu) ⟨.bl _, H, I, rfl, q⟩
  · obtain ⟨bs, r2⟩ := Dp.reads I (.tuple ds) y u he ry
    exact SeqAt.notIn_tuple_reads r2 r1 (SeqAt.canLay_of_shaped se) (SeqAt.canLay_of_shaped sd) (room_in_shaped sd hu) ⟨.bl _, H, I, rfl, q⟩
theorem inD_rep {K : PySem.W.Frag} {w : Wd} {H : Hp} {h : AH} {v1 v2 : V} {d1 d2 : D} {b : Bool} (rh : RepH K w H h) (r1 : Rv K w v1 d1) (r2 : Rv K w v2 d2) (e : inD h d1 d2 = some b) :
    ∃ d ds, Dp K H v1 d ∧ (Dp K H v2 (.list ds) ∨ Dp K H v2 (.tuple ds)) ∧ SeqAt.shaped d = true ∧ SeqAt.shaped (.list ds) = true ∧ b = ds.any fun z => PyData.eqv z d := by
  unfold inD at e
  split at e
  · rename_i p qs e1 e2
    obtain ⟨a1, a2⟩ := okP_some e1
    obtain ⟨b1, b2⟩ := okP_some e2
    cases e
    exact ⟨p, qs, toPh_rep rh r1 a1, .inl (toPh_rep rh r2 b1), a2, b2, rfl⟩
  · rename_i p qs e1 e2
    obtain ⟨a1, a2⟩ := okP_some e1
    obtain ⟨b1, b2⟩ := okP_some e2
    cases e
    exact ⟨p, qs, toPh_rep rh r1 a1, .inr (toPh_rep rh r2 b1), a2, b2, rfl⟩
  · cases e
theorem fol_in : Fol2 X W fIn (rInA X.K false) := by
  intro w h H σ Q v1 v2 d1 d2 rh r1 r2 o
  unfold fIn at o
  split at o
  · rename_i b e
    obtain ⟨d, ds, q1, q2, q3, q4, rfl⟩ := inD_rep rh r1 r2 e
    exact ⟨d, ds, q1, q2, q3, q4, out_ok o rh (.bl _)⟩
  · exact o.elim
theorem fol_notIn : Fol2 X W fNotIn (rInA X.K true) := by
  intro w h H σ Q v1 v2 d1 d2 rh r1 r2 o
  unfold fNotIn at o
  split at o
  · rename_i b e
    obtain ⟨d, ds, q1, q2, q3, q4, rfl⟩ := inD_rep rh r1 r2 e
    exact ⟨d, ds, q1, q2, q3, q4, out_ok o rh (.bl _)⟩
  · exact o.elim
end

/-! ### truth, tests -/
def truD (h : AH) : D → Option Bool
  | .non => some false
  | .bl b => some b
  | .int i => some (i != 0)
  | d => (vS h d).map fun ds => !ds.isEmpty
def tOf (m : Me) : MeT := fun G h => (m G h).bind fun d h1 => match truD h1 d with
  | some b => .ok b h1
  | none => .stuck
/-- a bool's own -/
def tBl (m : Me) : MeT := fun G h => (m G h).bind fun d h1 => match d with
  | .bl b => .ok b h1
  | _ => .stuck
def tAndM (a b : MeT) : MeT := fun G h => (a G h).bind fun c h1 => if c = true then b G h1 else .ok false h1
def tOrM (a b : MeT) : MeT := fun G h => (a G h).bind fun c h1 => if c = true then .ok true h1 else b G h1
def tNotM (a : MeT) : MeT := fun G h => (a G h).bind fun c h1 => .ok (!c) h1
def mAnd (a b : Me) : Me := fun G h => (a G h).bind fun d h1 => match truD h1 d with
  | some true => b G h1
  | some false => .ok d h1
  | none => .stuck
def mOr (a b : Me) : Me := fun G h => (a G h).bind fun d h1 => match truD h1 d with
  | some true => .ok d h1
  | some false => b G h1
  | none => .stuck
def mNot (a : Me) : Me := fun G h => (a G h).bind fun d h1 => match truD h1 d with
  | some b => .ok (.bl (!b)) h1
  | none => .stuck
def mIf (c : MeT) (a b : Me) : Me := fun G h => (c G h).bind fun t h1 => if t = true then a G h1 else b G h1
theorem truD_rep {K : PySem.W.Frag} {w : Wd} {H : Hp} {h : AH} {v : V} {d : D} {b : Bool} (rh : RepH K w H h) (rv : Rv K w v d) (e : truD h d = some b) : TruV K v H b := by
  have seq : ∀ {ds : List D}, vS h d = some ds → b = (!ds.isEmpty) → TruV K v H b := by
    intro ds q hb
    obtain ⟨a, xs, rfl, sq, ra⟩ := vS_rep rh rv q
    have eb : b = !xs.isEmpty := by
      rw [hb]
      cases ra <;> rfl
    rcases sq with sq | sq
    · exact .inl ⟨xs, sq, eb⟩
    · exact .inr (.inl ⟨xs, sq, eb⟩)
  cases d with
  | non => cases rv; cases e; rfl
  | bl c => cases rv; cases e; rfl
  | int c => cases rv; cases e; rfl
  | str c => cases e
  | con c => cases e
  | tup ds => cases e; exact seq rfl rfl
  | lst ds => cases e; exact seq rfl rfl
  | rol ds => cases e; exact seq rfl rfl
  | loc n =>
    have e : (vS h (.loc n)).map (fun ds : List D => !ds.isEmpty) = some b := e
    cases q : vS h (.loc n) with
    | none => rw [q] at e; cases e
    | some ds =>
      rw [q] at e
      cases e
      exact seq q rfl
section
variable {X : Cx} {W : WX} {pos : Pos} {a b c : Expr} {rest : List Expr} {ma mb : Me} {ta tb tc : MeT}
theorem t_tru (ha : PE X a (TM X W ma)) (he : ∀ whole, isTrue a X.env whole = (do let v ← whole; standAt a.pos; holding [v] (truthy v)) := by intro _; rfl) : PT X a (TTT X W (tOf ma)) := by
  refine (pt_truth ha he).wk fun σ H Q ⟨w, G, h, g, r, o⟩ => ⟨w, G, h, g, r, o.bindE fun d h1 v w1 H1 l r1 x o1 => ?_⟩
  split at o1
  · rename_i k e
    exact ⟨k, truD_rep r1 x e, o1 w1 H1 (Le.refl _) r1⟩
  · exact o1.elim
/-- a comparison -/
theorem t_cmp {f : D → D → AH → Res D} {r : R2} {op : CmpOp} (ho : OpR X (compareOp op) r) (hf : Fol2 X W f r) (ha : PE X a (TM X W ma)) (hb : PE X b (TM X W mb)) (hm : behindInMarks op b = false := by rfl) : PT X (.Compare a [op] [b] pos) (TTT X W (tBl (mOp2 f ma mb))) := by
  refine (pt_cmpR ho ha hb hm).wk fun σ H Q ⟨w, G, h, g, r, o⟩ => ?_
  refine op2 hf ⟨w, G, h, g, r, o.bindE fun d h1 v w1 H1 l r1 x o1 => ?_⟩
  split at o1
  · cases x
    exact ⟨_, rfl, o1 w1 H1 (Le.refl _) r1⟩
  · exact o1.elim
theorem t_not (ha : PT X a (TTT X W ta)) : PT X (.UnaryOp .Not a pos) (TTT X W (tNotM ta)) :=
  (pt_not ha).wk fun σ H Q ⟨w, G, h, g, r, o⟩ => ⟨w, G, h, g, r, o.bindT fun b h1 w1 H1 l r1 o1 => o1 w1 H1 (Le.refl _) r1⟩
theorem w_one (op : BoolOp) (ha : PT X a (TTT X W ta)) : PW X (.BoolOp op [a] pos) (TTT X W ta) := by
  cases op
  · exact pw_and1 ha
  · exact pw_or1 ha
theorem w_and (ha : PT X a (TTT X W ta)) (hb : PW X (.BoolOp .And (b :: rest) pos) (TTT X W tb)) : PW X (.BoolOp .And (a :: b :: rest) pos) (TTT X W (tAndM ta tb)) := by
  refine (pw_and ha hb).wk fun σ H Q ⟨w, G, h, g, r, o⟩ => ⟨w, G, h, g, r, o.bindT fun c h1 w1 H1 l r1 o1 => ?_⟩
  cases c with
  | true => exact ⟨w1, G, h1, g.mono l, r1, o1⟩
  | false => exact o1 w1 H1 (Le.refl _) r1
theorem w_or (ha : PT X a (TTT X W ta)) (hb : PW X (.BoolOp .Or (b :: rest) pos) (TTT X W tb)) : PW X (.BoolOp .Or (a :: b :: rest) pos) (TTT X W (tOrM ta tb)) := by
  refine (pw_or ha hb).wk fun σ H Q ⟨w, G, h, g, r, o⟩ => ⟨w, G, h, g, r, o.bindT fun c h1 w1 H1 l r1 o1 => ?_⟩
  cases c with
  | true => exact o1 w1 H1 (Le.refl _) r1
  | false => exact ⟨w1, G, h1, g.mono l, r1, o1⟩
theorem e_one {op : BoolOp} (ha : PE X a (TM X W ma)) : PE X (.BoolOp op [a] pos) (TM X W ma) := pe_one ha
theorem e_and (ha : PE X a (TM X W ma)) (hb : PE X (.BoolOp .And (b :: rest) pos) (TM X W mb)) : PE X (.BoolOp .And (a :: b :: rest) pos) (TM X W (mAnd ma mb)) := by
  refine (pe_andT ha hb).wk fun σ H Q ⟨w, G, h, g, r, o⟩ => ⟨w, G, h, g, r, o.bindE fun d h1 v w1 H1 l r1 x o1 => ?_⟩
  split at o1
  · rename_i e
    exact ⟨true, truD_rep r1 x e, iteT ⟨w1, G, h1, g.mono l, r1, o1⟩⟩
  · rename_i e
    exact ⟨false, truD_rep r1 x e, iteF (out_ok o1 r1 x)⟩
  · exact o1.elim
theorem e_or (ha : PE X a (TM X W ma)) (hb : PE X (.BoolOp .Or (b :: rest) pos) (TM X W mb)) : PE X (.BoolOp .Or (a :: b :: rest) pos) (TM X W (mOr ma mb)) := by
  refine (pe_orT ha hb).wk fun σ H Q ⟨w, G, h, g, r, o⟩ => ⟨w, G, h, g, r, o.bindE fun d h1 v w1 H1 l r1 x o1 => ?_⟩
  split at o1
  · rename_i e
    exact ⟨true, truD_rep r1 x e, iteT (out_ok o1 r1 x)⟩
  · rename_i e
    exact ⟨false, truD_rep r1 x e, iteF ⟨w1, G, h1, g.mono l, r1, o1⟩⟩
  · exact o1.elim
theorem e_not (ha : PE X a (TM X W ma)) : PE X (.UnaryOp .Not a pos) (TM X W (mNot ma)) := by
  refine (pe_notT ha).wk fun σ H Q ⟨w, G, h, g, r, o⟩ => ⟨w, G, h, g, r, o.bindE fun d h1 v w1 H1 l r1 x o1 => ?_⟩
  split at o1
  · rename_i b e
    exact ⟨b, truD_rep r1 x e, out_ok o1 r1 (.bl _)⟩
  · exact o1.elim
theorem e_if (hc : PT X c (TTT X W tc)) (ha : PE X a (TM X W ma)) (hb : PE X b (TM X W mb)) : PE X (.IfExp c a b pos) (TM X W (mIf tc ma mb)) := by
  refine (pe_ifExp hc ha hb).wk fun σ H Q ⟨w, G, h, g, r, o⟩ => ⟨w, G, h, g, r, o.bindT fun t h1 w1 H1 l r1 o1 => ?_⟩
  cases t with
  | true => exact ⟨w1, G, h1, g.mono l, r1, o1⟩
  | false => exact ⟨w1, G, h1, g.mono l, r1, o1⟩
/-- least <= x <= most -/
def mChain (f g : D → D → AH → Res D) (a b c : Me) : Me := fun G h => (a G h).bind fun x h1 => (b G h1).bind fun y h2 => (f x y h2).bind fun z h3 => match z with
  | .bl true => (c G h3).bind fun u h4 => g y u h4
  | .bl false => .ok (.bl false) h3
  | _ => .stuck
theorem OutE.bindR {K : PySem.W.Frag} {mg : Str → Option Value} {w : Wd} {σ : L2.St} {R Q : VK} {k : D → AH → Res D} {m : Res D} (o : OutE K mg W w σ Q (m.bind k))
    (hq : ∀ d h1 v w1 H1, Le w w1 → RepH K w1 H1 h1 → Rv K w1 v d → OutE K mg W w1 σ Q (k d h1) → R v H1) : OutE K mg W w σ R m := by
  cases m with
  | ok d h1 => exact fun v w1 H1 l r x => hq d h1 v w1 H1 l r x (OutE.mono l o)
  | exc c fs h1 => exact o
  | stuck => exact o
theorem e_chain {f f' : D → D → AH → Res D} {r r' : R2} {op op' : CmpOp} {mc : Me} (ho : OpR X (compareOp op) r) (ho' : OpR X (compareOp op') r') (hf : Fol2 X W f r) (hf' : Fol2 X W f' r')
    (ha : PE X a (TM X W ma)) (hb : PE X b (TM X W mb)) (hc : PE X c (TM X W mc)) (hm : lastMarks [op, op'] [b, c] = false := by with_unfolding_all rfl) : PE X (.Compare a [op, op'] [b, c] pos) (TM X W (mChain f f' ma mb mc)) := by
  refine (pe_chain ho ho' ha hb hc hm).wk fun σ H Q ⟨w, G, h, g, rh, o⟩ => ?_
  refine ⟨w, G, h, g, rh, o.bindE fun d h1 v w1 H1 l r1 x o1 => ⟨w1, G, h1, g.mono l, r1, o1.bindE fun d2 h2 v2 w2 H2 l2 r2 x2 o2 => ?_⟩⟩
  refine hf w2 h2 H2 σ _ v v2 d d2 r2 (Rv_mono l2 x) x2 (o2.bindR fun d3 h3 v3 w3 H3 l3 r3 x3 o3 => ?_)
  split at o3
  · cases x3
    exact ⟨true, rfl, iteT ⟨w3, G, h3, g.mono (l.trans (l2.trans l3)), r3, o3.bindE fun d4 h4 v4 w4 H4 l4 r4 x4 o4 => hf' w4 h4 H4 σ Q v2 v4 d2 d4 r4 (Rv_mono (l3.trans l4) x2) x4 o4⟩⟩
  · cases x3
    exact ⟨false, rfl, iteF (out_ok o3 r3 (.bl false))⟩
  · exact o3.elim
theorem t_chain {f f' : D → D → AH → Res D} {r r' : R2} {op op' : CmpOp} {mc : Me} (ho : OpR X (compareOp op) r) (ho' : OpR X (compareOp op') r') (hf : Fol2 X W f r) (hf' : Fol2 X W f' r')
    (ha : PE X a (TM X W ma)) (hb : PE X b (TM X W mb)) (hc : PE X c (TM X W mc)) (hm : lastMarks [op, op'] [b, c] = false := by with_unfolding_all rfl) : PT X (.Compare a [op, op'] [b, c] pos) (TTT X W (tBl (mChain f f' ma mb mc))) := by
  refine (pt_chain ho ho' ha hb hc hm).wk fun σ H Q ⟨w, G, h, g, rh, o⟩ => ?_
  have o : OutT X.K X.mg W w σ Q ((mChain f f' ma mb mc G h).bind _) := o
  have o2 : OutE X.K X.mg W w σ (fun x H1 => ∃ k, x = .bl k ∧ Q k H1) (mChain f f' ma mb mc G h) := o.bindE fun d h1 v w1 H1 l r1 x o1 => by
    split at o1
    · cases x
      exact ⟨_, rfl, o1 w1 H1 (Le.refl _) r1⟩
    · exact o1.elim
  refine ⟨w, G, h, g, rh, o2.bindE fun d h1 v w1 H1 l r1 x o1 => ⟨w1, G, h1, g.mono l, r1, o1.bindE fun d2 h2 v2 w2 H2 l2 r2 x2 o2 => ?_⟩⟩
  refine hf w2 h2 H2 σ _ v v2 d d2 r2 (Rv_mono l2 x) x2 (o2.bindR fun d3 h3 v3 w3 H3 l3 r3 x3 o3 => ?_)
  split at o3
  · cases x3
    exact ⟨true, rfl, iteT ⟨w3, G, h3, g.mono (l.trans (l2.trans l3)), r3, o3.bindE fun d4 h4 v4 w4 H4 l4 r4 x4 o4 => hf' w4 h4 H4 σ _ v2 v4 d2 d4 r4 (Rv_mono (l3.trans l4) x2) x4 o4⟩⟩
  · cases x3
    exact ⟨false, rfl, iteF (out_ok o3 r3 (.bl false))⟩
  · exact o3.elim
end
end AB
/-! AB: built-in calls, subscripts, slices, calls of defs. -/
namespace AB
open PySem PySem.Spec PyProof.Rows L2

/-! ### calls by values -/
section
variable {X : Cx} {W : WX} {pos p : Pos} {e : Expr} {es : List Expr} {as : MeL} {x : Str} {bid T : String} {ma mb : Me}
theorem cb {f : List D → AH → Res D} {r : List V → Hp → VK → Prop} (hf : FolN X W f r) {σ : L2.St} {H : Hp} {Q : VK} (t : TM X W (mN f as) σ H Q) : tCB r (TAr X W as) σ H Q := by
  obtain ⟨w, G, h, g, rh, o⟩ := t
  exact ⟨w, G, h, g, rh, o.bindA fun ds h1 vs w1 H1 l r1 x o1 => hf w1 h1 H1 σ Q vs ds r1 x o1⟩
def lN (f : List D → AH → Res (List D)) (as : MeL) : MeL := fun G h => (as G h).bind fun xs h1 => f xs h1
theorem cbF {f : List D → AH → Res (List D)} {r : List V → Hp → VK → Prop} (hf : FolF X W f r) {σ : L2.St} {H : Hp} {Q : VK} (t : TF X W (lN f as) σ H Q) : tCB r (TAr X W as) σ H Q := by
  obtain ⟨w, G, h, g, rh, o⟩ := t
  exact ⟨w, G, h, g, rh, OutF.bindA (m := as) o fun ds h1 vs w1 H1 l r1 x o1 => hf w1 h1 H1 σ Q vs ds r1 x o1⟩
theorem e_blt {f : List D → AH → Res D} {r : List V → Hp → VK → Prop} (hc : CallR X (.builtin bid) r) (hf : FolN X W f r) (hm : X.mg x = none) (ha : PA X (e :: es) (TAr X W as)) (hg : Gl X x := by rfl) (hv : bootBuiltins x = some (.builtin bid) := by decide +kernel) (hn : x ≠ "__name__" := by decide) (hdb : (x == ("__debug__" : Str)) = false := by decide)
    (he : starEach (e :: es) X.env = (false, eval e X.env) :: starEach es X.env := by rfl) (hpl : (backTo pos (starEach es X.env)).any (·.1) = false := by rfl) : PE X (.Call (.Name x p) (e :: es) [] pos) (TM X W (mN f as)) :=
  (pe_callB hc hg hm hv ha hn hdb he hpl).wk fun _ _ _ t => cb hf t
theorem e_typ {f : List D → AH → Res D} {r : List V → Hp → VK → Prop} (hc : CallR X (.type T) r) (hf : FolN X W f r) (hm : X.mg x = none) (ha : PA X (e :: es) (TAr X W as)) (hg : Gl X x := by rfl) (hv : bootBuiltins x = some (.type T) := by decide +kernel) (hn : x ≠ "__name__" := by decide) (hdb : (x == ("__debug__" : Str)) = false := by decide)
    (he : starEach (e :: es) X.env = (false, eval e X.env) :: starEach es X.env := by rfl) (hpl : (backTo pos (starEach es X.env)).any (·.1) = false := by rfl) : PE X (.Call (.Name x p) (e :: es) [] pos) (TM X W (mN f as)) :=
  (pe_callTy hc hg hm hv ha hn hdb he hpl).wk fun _ _ _ t => cb hf t
theorem f_blt {f : List D → AH → Res (List D)} {r : List V → Hp → VK → Prop} (hc : CallR X (.builtin bid) r) (hf : FolF X W f r) (hm : X.mg x = none) (ha : PA X (e :: es) (TAr X W as)) (hg : Gl X x := by rfl) (hv : bootBuiltins x = some (.builtin bid) := by decide +kernel) (hn : x ≠ "__name__" := by decide) (hdb : (x == ("__debug__" : Str)) = false := by decide)
    (he : starEach (e :: es) X.env = (false, eval e X.env) :: starEach es X.env := by rfl) (hpl : (backTo pos (starEach es X.env)).any (·.1) = false := by rfl) : PE X (.Call (.Name x p) (e :: es) [] pos) (TF X W (lN f as)) :=
  (pe_callB hc hg hm hv ha hn hdb he hpl).wk fun _ _ _ t => cbF hf t
theorem f_typ {f : List D → AH → Res (List D)} {r : List V → Hp → VK → Prop} (hc : CallR X (.type T) r) (hf : FolF X W f r) (hm : X.mg x = none) (ha : PA X (e :: es) (TAr X W as)) (hg : Gl X x := by rfl) (hv : bootBuiltins x = some (.type T) := by decide +kernel) (hn : x ≠ "__name__" := by decide) (hdb : (x == ("__debug__" : Str)) = false := by decide)
    (he : starEach (e :: es) X.env = (false, eval e X.env) :: starEach es X.env := by rfl) (hpl : (backTo pos (starEach es X.env)).any (·.1) = false := by rfl) : PE X (.Call (.Name x p) (e :: es) [] pos) (TF X W (lN f as)) :=
  (pe_callTy hc hg hm hv ha hn hdb he hpl).wk fun _ _ _ t => cbF hf t
theorem ra_one {w : Wd} {vs : List V} {d : D} (r : Ra X.K w vs [d]) : ∃ v, vs = [v] ∧ Rv X.K w v d := by
  cases r with
  | cons a b => cases b; exact ⟨_, rfl, a⟩
theorem ra_two {w : Wd} {vs : List V} {d d2 : D} (r : Ra X.K w vs [d, d2]) : ∃ v v2, vs = [v, v2] ∧ Rv X.K w v d ∧ Rv X.K w v2 d2 := by
  cases r with
  | cons a b =>
    cases b with
    | cons c d => cases d; exact ⟨_, _, rfl, a, c⟩
/-! len -/
def fLen (xs : List D) (h : AH) : Res D := match xs with
  | [.str x] => if x.length ≤ big then .ok (.int x.length) h else .stuck
  | [d] => match vS h d with
    | some ds => .ok (.int ds.length) h
    | none => .stuck
  | _ => .stuck
theorem fol_len : FolN X W fLen (fun xs H Q => ∃ x n, xs = [x] ∧ LenV X.K x H n ∧ Q (.int n) H) := by
  intro w h H σ Q vs ds rh ra o
  unfold fLen at o
  split at o
  · obtain ⟨v, rfl, rv⟩ := ra_one ra
    split at o
    · rename_i c
      cases rv
      exact ⟨_, _, rfl, ⟨big_le c, rfl⟩, out_ok o rh (.int _)⟩
    · exact o.elim
  · obtain ⟨v, rfl, rv⟩ := ra_one ra
    split at o
    · rename_i es e
      obtain ⟨a, xs, rfl, sq, ra2⟩ := vS_rep rh rv e
      refine ⟨_, xs.length, rfl, ?_, ?_⟩
      · rcases sq with sq | sq
        · exact .inl ⟨xs, sq, rfl⟩
        · exact .inr ⟨xs, sq, rfl⟩
      · rw [ra2.length]
        exact out_ok o rh (.int _)
    · exact o.elim
  · exact o.elim
theorem e_len (hm : X.mg "len" = none) (ha : PA X [e] (TAr X W as)) (hg : Gl X "len" := by rfl) (he : starEach [e] X.env = (false, eval e X.env) :: starEach [] X.env := by rfl) : PE X (.Call (.Name "len" p) [e] [] pos) (TM X W (mN fLen as)) :=
  e_blt call_len fol_len hm ha hg PySem.boot_len (by decide) (by decide) he rfl
/-! tuple(x), list(x), int(x), abs(x) -/
def fTuple (xs : List D) (h : AH) : Res D := match xs with
  | [d] => match vS h d with
    | some ds => .ok (.tup ds) h
    | none => .stuck
  | _ => .stuck
theorem fol_tuple : FolN X W fTuple (fun xs H Q => ∃ p ys, xs = [.ref p] ∧ ((SqL X.K H p ys ∧ ∀ l, H l = none → Q (.ref l) (upd H l (.tup ys))) ∨ (SqT X.K H p ys ∧ Q (.ref p) H))) := by
  intro w h H σ Q vs ds rh ra o
  unfold fTuple at o
  split at o
  · rename_i d
    obtain ⟨v, rfl, rv⟩ := ra_one ra
    split at o
    · rename_i es e
      by_cases ht : ∃ ts, d = .tup ts
      · obtain ⟨ts, rfl⟩ := ht
        cases e
        cases rv with
        | tup a b => exact ⟨_, _, rfl, .inr ⟨rh.ex.t a, out_ok o rh (.tup a b)⟩⟩
      · have e : vL h d = some es := by
          cases d with
          | tup es => exact absurd ⟨es, rfl⟩ ht
          | _ => exact e
        obtain ⟨a, xs, rfl, sq, ra2⟩ := vL_rep rh rv e
        exact ⟨a, xs, rfl, .inl ⟨sq, fun l hl => out_add o rh hl (rv_tup rh hl ra2)⟩⟩
    · exact o.elim
  · exact o.elim
theorem e_tuple (hm : X.mg "tuple" = none) (ha : PA X [e] (TAr X W as)) (hg : Gl X "tuple" := by rfl) (he : starEach [e] X.env = (false, eval e X.env) :: starEach [] X.env := by rfl) : PE X (.Call (.Name "tuple" p) [e] [] pos) (TM X W (mN fTuple as)) :=
  e_typ call_tuple_of fol_tuple hm ha hg (by decide +kernel) (by decide) (by decide) he rfl
def lList (xs : List D) (h : AH) : Res (List D) := match xs with
  | [d] => match vS h d with
    | some ds => .ok ds h
    | none => .stuck
  | _ => .stuck
theorem fol_list : FolF X W lList (fun xs H Q => ∃ p ys, xs = [.ref p] ∧ (SqL X.K H p ys ∨ SqT X.K H p ys) ∧ ∀ l, H l = none → Q (.ref l) (upd H l (.lst ys))) := by
  intro w h H σ Q vs ds rh ra o
  unfold lList at o
  split at o
  · obtain ⟨v, rfl, rv⟩ := ra_one ra
    split at o
    · rename_i es e
      obtain ⟨a, xs, rfl, sq, ra2⟩ := vS_rep rh rv e
      exact ⟨a, xs, rfl, sq, fun l hl => out_new o rh hl ra2⟩
    · exact o.elim
  · exact o.elim
theorem f_list (hm : X.mg "list" = none) (ha : PA X [e] (TAr X W as)) (hg : Gl X "list" := by rfl) (he : starEach [e] X.env = (false, eval e X.env) :: starEach [] X.env := by rfl) : PE X (.Call (.Name "list" p) [e] [] pos) (TF X W (lN lList as)) :=
  f_typ call_list_of fol_list hm ha hg (by decide +kernel) (by decide) (by decide) he rfl
def fInt (xs : List D) (h : AH) : Res D := match xs with
  | [.int i] => .ok (.int i) h
  | [.bl b] => .ok (.int (if b then 1 else 0)) h
  | _ => .stuck
theorem fol_int1 : FolN X W fInt (fun xs H Q => (∃ i, xs = [.int i] ∧ Q (.int i) H) ∨ ∃ k, xs = [.bl k] ∧ Q (.int (if k then 1 else 0)) H) := by
  intro w h H σ Q vs ds rh ra o
  unfold fInt at o
  split at o
  · obtain ⟨v, rfl, rv⟩ := ra_one ra
    cases rv
    exact .inl ⟨_, rfl, out_ok o rh (.int _)⟩
  · obtain ⟨v, rfl, rv⟩ := ra_one ra
    cases rv
    exact .inr ⟨_, rfl, out_ok o rh (.int _)⟩
  · exact o.elim
theorem e_int1 (hm : X.mg "int" = none) (ha : PA X [e] (TAr X W as)) (hg : Gl X "int" := by rfl) (he : starEach [e] X.env = (false, eval e X.env) :: starEach [] X.env := by rfl) : PE X (.Call (.Name "int" p) [e] [] pos) (TM X W (mN fInt as)) :=
  e_typ call_int1 fol_int1 hm ha hg (by decide +kernel) (by decide) (by decide) he rfl
def fAbs (xs : List D) (h : AH) : Res D := match xs with
  | [.int i] => .ok (.int (if i < 0 then -i else i)) h
  | _ => .stuck
theorem fol_abs : FolN X W fAbs (fun xs H Q => ∃ i, xs = [.int i] ∧ Q (.int (if i < 0 then -i else i)) H) := by
  intro w h H σ Q vs ds rh ra o
  unfold fAbs at o
  split at o
  · obtain ⟨v, rfl, rv⟩ := ra_one ra
    cases rv
    exact ⟨_, rfl, out_ok o rh (.int _)⟩
  · exact o.elim
theorem e_abs (hm : X.mg "abs" = none) (ha : PA X [e] (TAr X W as)) (hg : Gl X "abs" := by rfl) (he : starEach [e] X.env = (false, eval e X.env) :: starEach [] X.env := by rfl) : PE X (.Call (.Name "abs" p) [e] [] pos) (TM X W (mN fAbs as)) :=
  e_blt call_abs fol_abs hm ha hg (by decide +kernel) (by decide) (by decide) he rfl
/-! all, any, sum, max, min, sorted of ints -/
def blsOf : List D → Option (List Bool)
  | [] => some []
  | .bl b :: ds => (blsOf ds).map (b :: ·)
  | _ :: _ => none
def intsOf : List D → Option (List Int)
  | [] => some []
  | .int b :: ds => (intsOf ds).map (b :: ·)
  | _ :: _ => none
theorem blsOf_rep {w : Wd} : ∀ {ds : List D} {xs : List V} {bs : List Bool}, Ra X.K w xs ds → blsOf ds = some bs → xs = bs.map V.bl
  | [], _, _, r, e => by cases r; cases e; rfl
  | .bl b :: ds, _, bs, r, e => by
    cases r with
    | cons a t =>
      cases a
      unfold blsOf at e
      cases q : blsOf ds with
      | none => rw [q] at e; cases e
      | some cs =>
        rw [q] at e
        cases e
        rw [blsOf_rep t q] <;> rfl
  | .non :: _, _, _, _, e => by cases e
  | .int _ :: _, _, _, _, e => by cases e
  | .str _ :: _, _, _, _, e => by cases e
  | .tup _ :: _, _, _, _, e => by cases e
  | .lst _ :: _, _, _, _, e => by cases e
  | .rol _ :: _, _, _, _, e => by cases e
  | .loc _ :: _, _, _, _, e => by cases e
  | .con _ :: _, _, _, _, e => by cases e
theorem intsOf_rep {w : Wd} : ∀ {ds : List D} {xs : List V} {bs : List Int}, Ra X.K w xs ds → intsOf ds = some bs → xs = bs.map V.int
  | [], _, _, r, e => by cases r; cases e; rfl
  | .int b :: ds, _, bs, r, e => by
    cases r with
    | cons a t =>
      cases a
      unfold intsOf at e
      cases q : intsOf ds with
      | none => rw [q] at e; cases e
      | some cs =>
        rw [q] at e
        cases e
        rw [intsOf_rep t q] <;> rfl
  | .non :: _, _, _, _, e => by cases e
  | .bl _ :: _, _, _, _, e => by cases e
  | .str _ :: _, _, _, _, e => by cases e
  | .tup _ :: _, _, _, _, e => by cases e
  | .lst _ :: _, _, _, _, e => by cases e
  | .rol _ :: _, _, _, _, e => by cases e
  | .loc _ :: _, _, _, _, e => by cases e
  | .con _ :: _, _, _, _, e => by cases e
def lBls (xs : List D) (h : AH) : Option (List Bool) := match xs with
  | [d] => (vL h d).bind blsOf
  | _ => none
def lInts (xs : List D) (h : AH) : Option (List Int) := match xs with
  | [d] => (vL h d).bind intsOf
  | _ => none
theorem lBls_rep {w : Wd} {h : AH} {H : Hp} {vs : List V} {ds : List D} {bs : List Bool} (rh : RepH X.K w H h) (ra : Ra X.K w vs ds) (e : lBls ds h = some bs) : ∃ a, vs = [.ref a] ∧ SqL X.K H a (bs.map V.bl) := by
  unfold lBls at e
  split at e
  · rename_i d
    obtain ⟨v, rfl, rv⟩ := ra_one ra
    cases q : vL h d with
    | none => rw [q] at e; cases e
    | some es =>
      rw [q] at e
      obtain ⟨a, xs, rfl, sq, ra2⟩ := vL_rep rh rv q
      have z := blsOf_rep ra2 e
      subst z
      exact ⟨a, rfl, sq⟩
  · cases e
theorem lInts_rep {w : Wd} {h : AH} {H : Hp} {vs : List V} {ds : List D} {bs : List Int} (rh : RepH X.K w H h) (ra : Ra X.K w vs ds) (e : lInts ds h = some bs) : ∃ a, vs = [.ref a] ∧ SqL X.K H a (bs.map V.int) := by
  unfold lInts at e
  split at e
  · rename_i d
    obtain ⟨v, rfl, rv⟩ := ra_one ra
    cases q : vL h d with
    | none => rw [q] at e; cases e
    | some es =>
      rw [q] at e
      obtain ⟨a, xs, rfl, sq, ra2⟩ := vL_rep rh rv q
      have z := intsOf_rep ra2 e
      subst z
      exact ⟨a, rfl, sq⟩
  · cases e
def fAll (xs : List D) (h : AH) : Res D := match lBls xs h with
  | some bs => .ok (.bl (bs.all id)) h
  | none => .stuck
def fAny (xs : List D) (h : AH) : Res D := match lBls xs h with
  | some bs => .ok (.bl (bs.any id)) h
  | none => .stuck
def fSum (xs : List D) (h : AH) : Res D := match lInts xs h with
  | some bs => .ok (.int bs.sum) h
  | none => .stuck
def maxI : List Int → Int
  | [] => 0
  | [x] => x
  | x :: y :: r => max x (maxI (y :: r))
def minI : List Int → Int
  | [] => 0
  | [x] => x
  | x :: y :: r => min x (minI (y :: r))
theorem maxI_ge : ∀ {ns : List Int} {y : Int}, y ∈ ns → y ≤ maxI ns
  | [x], y, h => by simp at h; subst h; exact Int.le_refl _
  | x :: z :: r, y, h => by
    rcases List.mem_cons.mp h with h | h
    · subst h
      exact Int.le_max_left _ _
    · exact Int.le_trans (maxI_ge h) (Int.le_max_right _ _)
theorem maxI_mem : ∀ {ns : List Int}, ns ≠ [] → maxI ns ∈ ns
  | [x], _ => by simp [maxI]
  | x :: z :: r, _ => by
    have := maxI_mem (ns := z :: r) (by simp)
    unfold maxI
    by_cases q : x ≤ maxI (z :: r)
    · rw [Int.max_eq_right q]
      exact List.mem_cons_of_mem _ this
    · rw [Int.max_eq_left (by omega)]
      exact List.mem_cons_self
theorem minI_le : ∀ {ns : List Int} {y : Int}, y ∈ ns → minI ns ≤ y
  | [x], y, h => by simp at h; subst h; exact Int.le_refl _
  | x :: z :: r, y, h => by
    rcases List.mem_cons.mp h with h | h
    · subst h
      exact Int.min_le_left _ _
    · exact Int.le_trans (Int.min_le_right _ _) (minI_le h)
theorem minI_mem : ∀ {ns : List Int}, ns ≠ [] → minI ns ∈ ns
  | [x], _ => by simp [minI]
  | x :: z :: r, _ => by
    have := minI_mem (ns := z :: r) (by simp)
    unfold minI
    by_cases q : x ≤ minI (z :: r)
    · rw [Int.min_eq_left q]
      exact List.mem_cons_self
    · rw [Int.min_eq_right (by omega)]
      exact List.mem_cons_of_mem _ this
def fMax (xs : List D) (h : AH) : Res D := match xs with
  | [.int i, .int j] => .ok (.int (if j > i then j else i)) h
  | _ => match lInts xs h with
    | some [] => .stuck
    | some ns => .ok (.int (maxI ns)) h
    | none => .stuck
def fMin (xs : List D) (h : AH) : Res D := match xs with
  | [.int i, .int j] => .ok (.int (if j < i then j else i)) h
  | _ => match lInts xs h with
    | some [] => .stuck
    | some ns => .ok (.int (minI ns)) h
    | none => .stuck
theorem fol_all : FolN X W fAll (rAll X.K) := by
  intro w h H σ Q vs ds rh ra o
  unfold fAll at o
  split at o
  · rename_i bs e
    obtain ⟨a, rfl, sq⟩ := lBls_rep rh ra e
    exact ⟨a, bs, rfl, sq, out_ok o rh (.bl _)⟩
  · exact o.elim
theorem fol_any : FolN X W fAny (rAny X.K) := by
  intro w h H σ Q vs ds rh ra o
  unfold fAny at o
  split at o
  · rename_i bs e
    obtain ⟨a, rfl, sq⟩ := lBls_rep rh ra e
    exact ⟨a, bs, rfl, sq, out_ok o rh (.bl _)⟩
  · exact o.elim
theorem fol_sum : FolN X W fSum (rSum X.K) := by
  intro w h H σ Q vs ds rh ra o
  unfold fSum at o
  split at o
  · rename_i bs e
    obtain ⟨a, rfl, sq⟩ := lInts_rep rh ra e
    exact ⟨a, bs, rfl, sq, out_ok o rh (.int _)⟩
  · exact o.elim
def rMaxB (K : PySem.W.Frag) : List V → Hp → VK → Prop := fun xs H Q => (∃ i j, xs = [.int i, .int j] ∧ Q (.int (if j > i then j else i)) H) ∨ rMax K xs H Q
def rMinB (K : PySem.W.Frag) : List V → Hp → VK → Prop := fun xs H Q => (∃ i j, xs = [.int i, .int j] ∧ Q (.int (if j < i then j else i)) H) ∨ rMin K xs H Q
theorem fol_max : FolN X W fMax (rMaxB X.K) := by
  intro w h H σ Q vs ds rh ra o
  unfold fMax at o
  split at o
  · obtain ⟨v, v2, rfl, r1, r2⟩ := ra_two ra
    cases r1
    cases r2
    exact .inl ⟨_, _, rfl, out_ok o rh (.int _)⟩
  · split at o
    · exact o.elim
    · rename_i bs hne e
      obtain ⟨a, rfl, sq⟩ := lInts_rep rh ra e
      have hb : bs ≠ [] := fun z => hne (by rw [← z] <;> rfl)
      refine .inr ⟨a, bs, rfl, sq, List.length_pos_iff.mpr hb, fun m hm hle => ?_⟩
      have : m = maxI bs := Int.le_antisymm (maxI_ge hm) (hle _ (maxI_mem hb))
      rw [this]
      exact out_ok o rh (.int _)
    · exact o.elim
theorem fol_min : FolN X W fMin (rMinB X.K) := by
  intro w h H σ Q vs ds rh ra o
  unfold fMin at o
  split at o
  · obtain ⟨v, v2, rfl, r1, r2⟩ := ra_two ra
    cases r1
    cases r2
    exact .inl ⟨_, _, rfl, out_ok o rh (.int _)⟩
  · split at o
    · exact o.elim
    · rename_i bs hne e
      obtain ⟨a, rfl, sq⟩ := lInts_rep rh ra e
      have hb : bs ≠ [] := fun z => hne (by rw [← z] <;> rfl)
      refine .inr ⟨a, bs, rfl, sq, List.length_pos_iff.mpr hb, fun m hm hle => ?_⟩
      have : m = minI bs := Int.le_antisymm (hle _ (minI_mem hb)) (minI_le hm)
      rw [this]
      exact out_ok o rh (.int _)
    · exact o.elim
theorem e_all (hm : X.mg "all" = none) (ha : PA X [e] (TAr X W as)) (hg : Gl X "all" := by rfl) (hc : X.calm = true := by rfl) (he : starEach [e] X.env = (false, eval e X.env) :: starEach [] X.env := by rfl) : PE X (.Call (.Name "all" p) [e] [] pos) (TM X W (mN fAll as)) :=
  e_blt (cr_all hc) fol_all hm ha hg (by decide +kernel) (by decide) (by decide) he rfl
theorem e_any (hm : X.mg "any" = none) (ha : PA X [e] (TAr X W as)) (hg : Gl X "any" := by rfl) (hc : X.calm = true := by rfl) (he : starEach [e] X.env = (false, eval e X.env) :: starEach [] X.env := by rfl) : PE X (.Call (.Name "any" p) [e] [] pos) (TM X W (mN fAny as)) :=
  e_blt (cr_any hc) fol_any hm ha hg (by decide +kernel) (by decide) (by decide) he rfl
theorem e_sum (hm : X.mg "sum" = none) (ha : PA X [e] (TAr X W as)) (hg : Gl X "sum" := by rfl) (hc : X.calm = true := by rfl) (he : starEach [e] X.env = (false, eval e X.env) :: starEach [] X.env := by rfl) : PE X (.Call (.Name "sum" p) [e] [] pos) (TM X W (mN fSum as)) :=
  e_blt (cr_sum hc) fol_sum hm ha hg (by decide +kernel) (by decide) (by decide) he rfl
theorem e_max (hm : X.mg "max" = none) (ha : PA X (e :: es) (TAr X W as)) (hg : Gl X "max" := by rfl) (hc : X.calm = true := by rfl) (he : starEach (e :: es) X.env = (false, eval e X.env) :: starEach es X.env := by rfl) (hpl : (backTo pos (starEach es X.env)).any (·.1) = false := by rfl) : PE X (.Call (.Name "max" p) (e :: es) [] pos) (TM X W (mN fMax as)) :=
  e_blt (CallR.or (call_max2 hc) (cr_max hc)) fol_max hm ha hg (by decide +kernel) (by decide) (by decide) he hpl
theorem e_min (hm : X.mg "min" = none) (ha : PA X (e :: es) (TAr X W as)) (hg : Gl X "min" := by rfl) (hc : X.calm = true := by rfl) (he : starEach (e :: es) X.env = (false, eval e X.env) :: starEach es X.env := by rfl) (hpl : (backTo pos (starEach es X.env)).any (·.1) = false := by rfl) : PE X (.Call (.Name "min" p) (e :: es) [] pos) (TM X W (mN fMin as)) :=
  e_blt (CallR.or (call_min2 hc) (cr_min hc)) fol_min hm ha hg (by decide +kernel) (by decide) (by decide) he hpl

/-! ### isinstance of a built-in class -/
inductive Ty where
  | non | bl | int | str | tup | lst | dct
def Ty.name : Ty → String
  | .non => "NoneType"
  | .bl => "bool"
  | .int => "int"
  | .str => "str"
  | .tup => "tuple"
  | .lst => "list"
  | .dct => "dict"
def Ty.sub : Ty → Ty → Bool
  | .non, .non => true
  | .bl, .bl => true
  | .bl, .int => true
  | .int, .int => true
  | .str, .str => true
  | .tup, .tup => true
  | .lst, .lst => true
  | .dct, .dct => true
  | _, _ => false
theorem kit_tag : ∀ a b : Ty, kitB a.name b.name = some (a.sub b) := by
  intro a b
  cases a <;> cases b <;> decide +kernel
def tyD (h : AH) : D → Option Ty
  | .non => some .non
  | .bl _ => some .bl
  | .int _ => some .int
  | .str _ => some .str
  | .tup _ => some .tup
  | .lst _ => some .lst
  | .rol _ => some .lst
  | .loc n => match h[n]? with
    | some (.lst _) => some .lst
    | _ => none
  | .con _ => none
theorem tyT {K : PySem.W.Frag} {H : Hp} {a : Addr} {xs : List V} (s : SqT K H a xs) : TyX K H (.ref a) (.type "tuple") := by
  rcases s with (s | ⟨o, s⟩) | ⟨o, its, n, hk, hc, _⟩
  · exact .base (.tup s)
  · exact .fTuple s
  · exact .kTuple hk hc
theorem tyL {K : PySem.W.Frag} {H : Hp} {a : Addr} {xs : List V} (s : SqL K H a xs) : TyX K H (.ref a) (.type "list") := by
  rcases s with (s | ⟨o, s⟩) | ⟨o, its, n, hk, hc, _⟩
  · exact .base (.lst s)
  · exact .base (.frz s)
  · exact .kList hk hc
theorem tyD_rep {K : PySem.W.Frag} {w : Wd} {H : Hp} {h : AH} {v : V} {d : D} {t : Ty} (rh : RepH K w H h) (rv : Rv K w v d) (e : tyD h d = some t) : TyX K H v (.type t.name) := by
  cases d with
  | non => cases rv; cases e; exact .base .non
  | bl b => cases rv; cases e; exact .base (.bl b)
  | int b => cases rv; cases e; exact .base (.int b)
  | str b => cases rv; cases e; exact .base (.str b)
  | tup ds =>
    cases rv with
    | tup a b => cases e; exact tyT (rh.ex.t a)
  | lst ds =>
    cases rv with
    | lst a b => cases e; exact tyL (.inl (rh.ex.rd a))
  | rol ds =>
    cases rv with
    | rol a b => cases e; exact tyL (rh.ex.l a)
  | con a => cases e
  | loc n =>
    cases rv with
    | loc hn =>
      have e : (match h[n]? with
        | some (.lst _) => some Ty.lst
        | _ => none) = some t := e
      split at e
      · rename_i ds e'
        obtain ⟨_, xs, e2, ra⟩ := rh.cell _ _ e'
        cases e
        exact .base (.lst e2)
      · cases e
def mIsi (T : Ty) (m : Me) : Me := fun G h => (m G h).bind fun d h1 => match tyD h1 d with
  | some t => .ok (.bl (t.sub T)) h1
  | none => .stuck
theorem e_isi (T : Ty) {t : Str} {pt : Pos} (hi : X.mg "isinstance" = none) (ht : X.mg t = none) (he : PE X e (TM X W ma)) (hgt : Gl X t := by rfl) (hbt : bootBuiltins t = some (.type T.name) := by decide +kernel) (hg : Gl X "isinstance" := by rfl)
    (hn : t ≠ "__name__" := by decide) (hd : (t == ("__debug__" : Str)) = false := by decide)
    (h1 : starEach [e, .Name t pt] X.env = (false, eval e X.env) :: starEach [.Name t pt] X.env := by rfl) (h2 : starEach [.Name t pt] X.env = (false, eval (.Name t pt) X.env) :: starEach [] X.env := by rfl) (hpl : (backTo pos (starEach [.Name t pt] X.env)).any (·.1) = false := by rfl) :
    PE X (.Call (.Name "isinstance" p) [e, .Name t pt] [] pos) (TM X W (mIsi T ma)) := by
  refine (pe_callB call_isi hg hi (by decide +kernel) (pa_cons he (pa_cons (pe_bltn (v := .ty T.name) hgt ht hbt rfl hn hd) pa_nil h2) h1) (by decide) (by decide) h1 hpl).wk fun σ H Q ⟨w, G, h, g, r, o⟩ => ⟨w, G, h, g, r, o.bindE fun d h1 v w1 H1 l r1 x o1 => ?_⟩
  split at o1
  · rename_i t e
    exact ⟨v, .ty T.name, .type t.name, .type T.name, t.sub T, rfl, .ty _, tyD_rep r1 x e, kit_ty (kit_tag t T), out_ok o1 r1 (.bl _)⟩
  · exact o1.elim

/-! ### subscripts, slices -/
theorem atI_rep {w : Wd} {xs : List V} {ds : List D} {i : Int} {d : D} (ra : Ra X.K w xs ds) (e : atI ds i = some d) : ∃ v, atI xs i = some v ∧ Rv X.K w v d := by
  unfold atI at e ⊢
  rw [ra.length]
  cases q : ixN ds.length i with
  | none => rw [q] at e; cases e
  | some j =>
    rw [q] at e
    obtain ⟨v, h1, h2⟩ := ra.get (i := j) (d := d) e
    exact ⟨v, h1, h2⟩
def fIx (x i : D) (h : AH) : Res D := match i with
  | .int k => match vS h x with
    | some ds => match atI ds k with
      | some d => .ok d h
      | none => .stuck
    | none => .stuck
  | _ => .stuck
theorem fol_ix : Fol2 X W fIx (rIx X.K) := by
  intro w h H σ Q v1 v2 d1 d2 rh r1 r2 o
  unfold fIx at o
  split at o
  · rename_i k
    split at o
    · rename_i ds e
      split at o
      · rename_i d e2
        cases r2
        obtain ⟨a, xs, rfl, sq, ra⟩ := vS_rep rh r1 e
        obtain ⟨v, e3, rv⟩ := atI_rep ra e2
        rcases sq with sq | sq
        · exact .inl ⟨a, xs, k, v, rfl, rfl, sq, e3, out_ok o rh rv⟩
        · exact .inr (.inl ⟨a, xs, k, v, rfl, rfl, sq, e3, out_ok o rh rv⟩)
      · exact o.elim
    · exact o.elim
  · exact o.elim
variable {a b : Expr}
theorem e_ix (ha : PE X a (TM X W ma)) (hb : PE X b (TM X W mb)) (hs : PlainIx b := by exact fun _ _ => rfl) : PE X (.Subscript a b pos) (TM X W (mOp2 fIx ma mb)) :=
  (pe_ix ix_seq ha hb hs).wk fun _ _ _ t => op2 fol_ix t
abbrev MeO := Env → AH → Res (Option Int)
def oNone : MeO := fun _ h => .ok none h
def oSome (m : Me) : MeO := fun G h => (m G h).bind fun d h1 => match d with
  | .int i => .ok (some i) h1
  | _ => .stuck
def OutO (K : PySem.W.Frag) (mg : Str → Option Value) (W : WX) (w : Wd) (σ : L2.St) (Q : Option Int → Hp → Prop) : Res (Option Int) → Prop
  | .ok b h => ∀ w' H', Le w w' → RepH K w' H' h → Q b H'
  | .exc c fs h => OutX K mg W w σ c fs h
  | .stuck => False
def tO (X : Cx) (W : WX) (m : MeO) : TO := fun σ H Q => ∃ w G h, RepG X.K w σ G ∧ RepH X.K w H h ∧ OutO X.K X.mg W w σ Q (m G h)
theorem _root_.L2.PO.wk {X : Cx} {e : Option Expr} {t t' : TO} (h : PO X e t) (k : ∀ σ H Q, t' σ H Q → t σ H Q) : PO X e t' := ⟨fun pins s σ H Q I q => h.run pins s σ H Q I (k σ H Q q)⟩
theorem o_none : PO X none (tO X W oNone) := po_none.wk fun σ H Q ⟨w, G, h, g, r, o⟩ => o w H (Le.refl _) r
theorem o_some (he : PE X e (TM X W ma)) : PO X (some e) (tO X W (oSome ma)) := by
  refine (po_some he).wk fun σ H Q ⟨w, G, h, g, r, o⟩ => ⟨w, G, h, g, r, ?_⟩
  have o : OutO X.K X.mg W w σ Q ((ma G h).bind _) := o
  cases e : ma G h with
  | ok d h1 =>
    rw [e] at o
    intro v w1 H1 l r1 x
    cases d with
    | int i =>
      cases x
      exact ⟨_, rfl, o w1 H1 l r1⟩
    | _ => exact o.elim
  | exc c fs h1 =>
    rw [e] at o
    exact o
  | stuck =>
    rw [e] at o
    exact o
theorem OutE.bindO {K : PySem.W.Frag} {mg : Str → Option Value} {w : Wd} {σ : L2.St} {G : Env} {h : AH} {m : MeO} {R : Option Int → Hp → Prop} {Q : VK} {k : Option Int → AH → Res D} (o : OutE K mg W w σ Q ((m G h).bind k))
    (hq : ∀ b h1 w1 H1, Le w w1 → RepH K w1 H1 h1 → OutE K mg W w1 σ Q (k b h1) → R b H1) : OutO K mg W w σ R (m G h) := by
  cases e : m G h with
  | ok d h1 =>
    rw [e] at o
    exact fun w1 H1 l r => hq d h1 w1 H1 l r (OutE.mono l o)
  | exc c fs h1 =>
    rw [e] at o
    exact o
  | stuck =>
    rw [e] at o
    exact o
theorem OutF.bindO {K : PySem.W.Frag} {mg : Str → Option Value} {w : Wd} {σ : L2.St} {G : Env} {h : AH} {m : MeO} {R : Option Int → Hp → Prop} {Q : VK} {k : Option Int → AH → Res (List D)} (o : OutF K mg W w σ Q ((m G h).bind k))
    (hq : ∀ b h1 w1 H1, Le w w1 → RepH K w1 H1 h1 → OutF K mg W w1 σ Q (k b h1) → R b H1) : OutO K mg W w σ R (m G h) := by
  cases e : m G h with
  | ok d h1 =>
    rw [e] at o
    exact fun w1 H1 l r => hq d h1 w1 H1 l r (OutF.mono l o)
  | exc c fs h1 =>
    rw [e] at o
    exact o
  | stuck =>
    rw [e] at o
    exact o
def cutD (ds : List D) (lo hi : Option Int) : List D := (ds.drop (HT.sIx ds.length 0 lo)).take (HT.sIx ds.length ds.length hi - HT.sIx ds.length 0 lo)
theorem cut_rep {w : Wd} {xs : List V} {ds : List D} (ra : Ra X.K w xs ds) (lo hi : Option Int) : Ra X.K w (cutV xs lo hi) (cutD ds lo hi) := by
  unfold cutV cutD
  rw [ra.length]
  exact (ra.drop _).take _
/-- a[lo:hi] of a tuple, of a list that is not changed -/
def mSl (m : Me) (lo hi : MeO) : Me := fun G h => (m G h).bind fun x h1 => (lo G h1).bind fun l h2 => (hi G h2).bind fun u h3 => match x with
  | .tup ds => .ok (.tup (cutD ds l u)) h3
  | d => match vL h3 d with
    | some ds => .ok (.lst (cutD ds l u)) h3
    | none => .stuck
theorem cut_whole {ds : List D} {lo hi : Option Int} (h : HT.sIx ds.length 0 lo = 0 ∧ HT.sIx ds.length ds.length hi = ds.length) : cutD ds lo hi = ds := by
  unfold cutD
  rw [h.1, h.2]
  simp
theorem e_sl {lo hi : Option Expr} {ml mh : MeO} {p2 : Pos} (he : PE X e (TM X W ma)) (hl : PO X lo (tO X W ml)) (hu : PO X hi (tO X W mh)) : PE X (.Subscript e (.Slice lo hi none p2) pos) (TM X W (mSl ma ml mh)) := by
  refine (pe_slice (SlR.or sl_list sl_tupA) he hl hu).wk fun σ H Q ⟨w, G, h, g, r, o⟩ => ⟨w, G, h, g, r, o.bindE fun d h1 v w1 H1 l1 r1 x o1 => ⟨w1, G, h1, g.mono l1, r1, o1.bindO fun l h2 w2 H2 l2 r2 o2 => ⟨w2, G, h2, g.mono (l1.trans l2), r2, o2.bindO fun u h3 w3 H3 l3 r3 o3 => ?_⟩⟩⟩
  have x3 := Rv_mono (l2.trans l3) x
  split at o3
  · cases x3 with
    | @tup a xs ds h1 h2 =>
      refine .inr ⟨a, xs, rfl, r3.ex.t h1, fun hw => ?_, fun _ p hp => out_add o3 r3 hp (rv_tup r3 hp (cut_rep h2 l u))⟩
      rw [h2.length] at hw
      rw [cut_whole hw] at o3
      exact out_ok o3 r3 (.tup h1 h2)
  · split at o3
    · rename_i ds e
      obtain ⟨a, xs, rfl, sq, ra⟩ := vL_rep r3 x3 e
      exact .inl ⟨a, xs, rfl, sq, fun p hp => out_add o3 r3 hp (rv_lst r3 hp (cut_rep ra l u))⟩
    · exact o3.elim
/-- .. of a list, a new list -/
def lSl (m : Me) (lo hi : MeO) : MeL := fun G h => (m G h).bind fun x h1 => (lo G h1).bind fun l h2 => (hi G h2).bind fun u h3 => match vL h3 x with
  | some ds => .ok (cutD ds l u) h3
  | none => .stuck
theorem f_sl {lo hi : Option Expr} {ml mh : MeO} {p2 : Pos} (he : PE X e (TM X W ma)) (hl : PO X lo (tO X W ml)) (hu : PO X hi (tO X W mh)) : PE X (.Subscript e (.Slice lo hi none p2) pos) (TF X W (lSl ma ml mh)) := by
  refine (pe_slice sl_list he hl hu).wk fun σ H Q ⟨w, G, h, g, r, o⟩ => ⟨w, G, h, g, r, OutF.bindE (m := ma) o fun d h1 v w1 H1 l1 r1 x o1 => ⟨w1, G, h1, g.mono l1, r1, o1.bindO fun l h2 w2 H2 l2 r2 o2 => ⟨w2, G, h2, g.mono (l1.trans l2), r2, o2.bindO fun u h3 w3 H3 l3 r3 o3 => ?_⟩⟩⟩
  have x3 := Rv_mono (l2.trans l3) x
  split at o3
  · rename_i ds e
    obtain ⟨a, xs, rfl, sq, ra⟩ := vL_rep r3 x3 e
    exact ⟨a, xs, rfl, sq, fun p hp => out_new o3 r3 hp (cut_rep ra l u)⟩
  · exact o3.elim
/-- xs[::-1] of a list -/
def lRev (m : Me) : MeL := fun G h => (m G h).bind fun x h1 => match vL h1 x with
  | some ds => .ok ds.reverse h1
  | none => .stuck
theorem f_rev {k : Nat} {p1 p2 p3 : Pos} (he : PE X e (TM X W ma)) : PE X (.Subscript e (.Slice none none (some (.UnaryOp .USub (.Constant (.int 1) k p1) p2)) p3) pos) (TF X W (lRev ma)) := by
  refine (pe_revL he).wk fun σ H Q ⟨w, G, h, g, r, o⟩ => ⟨w, G, h, g, r, OutF.bindE (m := ma) o fun d h1 v w1 H1 l1 r1 x o1 => ?_⟩
  split at o1
  · rename_i ds e
    obtain ⟨a, xs, rfl, sq, ra⟩ := vL_rep r1 x e
    exact ⟨a, xs, rfl, sq, fun p hp => out_new o1 r1 hp ra.reverse⟩
  · exact o1.elim

end
end AB
/-! AB: statements, loops, comprehensions, defs. -/
namespace AB
open PySem PySem.Spec PyProof.Rows L2

inductive SR where
  | next (G : Env) (h : AH)
  | ret (d : D) (h : AH)
  | brk (G : Env) (h : AH)
  | cont (G : Env) (h : AH)
  | exc (c : Str) (fs : List (Str × D)) (G : Env) (h : AH)
  | stuck
abbrev Ms := Env → AH → SR
def Res.toS {α : Type} (r : Res α) (G : Env) (k : α → AH → SR) : SR :=
  match r with
  | .ok a h => k a h
  | .exc c fs h => .exc c fs G h
  | .stuck => .stuck
@[simp] theorem Res.toS_ok {α : Type} (a : α) (h : AH) (G : Env) (k : α → AH → SR) : (Res.ok a h).toS G k = k a h := rfl
@[simp] theorem Res.toS_exc {α : Type} (c : Str) (fs : List (Str × D)) (h : AH) (G : Env) (k : α → AH → SR) : (Res.exc c fs h : Res α).toS G k = .exc c fs G h := rfl
@[simp] theorem Res.toS_stuck {α : Type} (G : Env) (k : α → AH → SR) : (Res.stuck : Res α).toS G k = .stuck := rfl
def SR.andThen (r : SR) (k : Env → AH → SR) : SR :=
  match r with
  | .next G h => k G h
  | .ret d h => .ret d h
  | .brk G h => .brk G h
  | .cont G h => .cont G h
  | .exc c fs G h => .exc c fs G h
  | .stuck => .stuck
@[simp] theorem SR.andThen_next (G : Env) (h : AH) (k : Env → AH → SR) : (SR.next G h).andThen k = k G h := rfl
@[simp] theorem SR.andThen_ret (d : D) (h : AH) (k : Env → AH → SR) : (SR.ret d h).andThen k = .ret d h := rfl
@[simp] theorem SR.andThen_brk (G : Env) (h : AH) (k : Env → AH → SR) : (SR.brk G h).andThen k = .brk G h := rfl
@[simp] theorem SR.andThen_cont (G : Env) (h : AH) (k : Env → AH → SR) : (SR.cont G h).andThen k = .cont G h := rfl
@[simp] theorem SR.andThen_exc (c : Str) (fs : List (Str × D)) (G : Env) (h : AH) (k : Env → AH → SR) : (SR.exc c fs G h).andThen k = .exc c fs G h := rfl
@[simp] theorem SR.andThen_stuck (k : Env → AH → SR) : SR.stuck.andThen k = .stuck := rfl

section
variable (K : PySem.W.Frag) (mg : Str → Option Value) (W : WX)
def OutS (D : Ends) (w : Wd) : SR → Prop
  | .next G h => ∀ σ' w' H', Le w w' → RepG K w' σ' G → RepH K w' H' h → D.nx σ' H'
  | .ret d h => ∀ v w' H', Le w w' → RepH K w' H' h → Rv K w' v d → D.rt v H'
  | .brk G h => ∀ σ' w' H', Le w w' → RepG K w' σ' G → RepH K w' H' h → D.bk σ' H'
  | .cont G h => ∀ σ' w' H', Le w w' → RepG K w' σ' G → RepH K w' H' h → D.ct σ' H'
  | .exc c fs G h => ∀ cls dd σ' w' H', mg c = some cls → Le w w' → RepG K w' σ' G → RepH K w' H' h → RepX K w' H' dd fs → W cls dd σ' H'
  | .stuck => False
def tS (m : Ms) : TS := fun D σ H => ∃ w G h, RepG K w σ G ∧ RepH K w H h ∧ OutS K mg W D w (m G h)
end
section
variable {K : PySem.W.Frag} {mg : Str → Option Value} {W : WX} {w w' : Wd} {σ : L2.St} {H : Hp} {G : Env} {h : AH}
theorem OutS.mono {D : Ends} {r : SR} (l : Le w w') (o : OutS K mg W D w r) : OutS K mg W D w' r := by
  cases r with
  | next G h => exact fun σ' w2 H' l2 g r => o σ' w2 H' (l.trans l2) g r
  | ret d h => exact fun v w2 H' l2 r x => o v w2 H' (l.trans l2) r x
  | brk G h => exact fun σ' w2 H' l2 g r => o σ' w2 H' (l.trans l2) g r
  | cont G h => exact fun σ' w2 H' l2 g r => o σ' w2 H' (l.trans l2) g r
  | exc c fs G h => exact fun cls dd σ' w2 H' e l2 g r x => o cls dd σ' w2 H' e (l.trans l2) g r x
  | stuck => exact o
theorem OutS.bindE {m : Me} {R : VK} {D : Ends} {k : AB.D → AH → SR} (g : RepG K w σ G) (o : OutS K mg W D w ((m G h).toS G k))
    (hq : ∀ d h1 v w1 H1, Le w w1 → RepH K w1 H1 h1 → Rv K w1 v d → OutS K mg W D w1 (k d h1) → R v H1) : OutE K mg W w σ R (m G h) := by
  cases e : m G h with
  | ok d h1 =>
    rw [e] at o
    exact fun v w1 H1 l r x => hq d h1 v w1 H1 l r x (OutS.mono l o)
  | exc c fs h1 =>
    rw [e] at o
    exact fun cls dd w1 H1 e l r x => o cls dd σ w1 H1 e l (g.mono l) r x
  | stuck =>
    rw [e] at o
    exact o
theorem OutS.bindT {m : MeT} {R : Bool → Hp → Prop} {D : Ends} {k : Bool → AH → SR} (g : RepG K w σ G) (o : OutS K mg W D w ((m G h).toS G k))
    (hq : ∀ b h1 w1 H1, Le w w1 → RepH K w1 H1 h1 → OutS K mg W D w1 (k b h1) → R b H1) : OutT K mg W w σ R (m G h) := by
  cases e : m G h with
  | ok d h1 =>
    rw [e] at o
    exact fun w1 H1 l r => hq d h1 w1 H1 l r (OutS.mono l o)
  | exc c fs h1 =>
    rw [e] at o
    exact fun cls dd w1 H1 e l r x => o cls dd σ w1 H1 e l (g.mono l) r x
  | stuck =>
    rw [e] at o
    exact o
end
abbrev TSS (X : Cx) (W : WX) (m : Ms) : TS := tS X.K X.mg W m
theorem _root_.L2.PS.wk {X : Cx} {e : Stmt} {t t' : TS} (h : PS X e t) (k : ∀ D σ H, t' D σ H → t D σ H) : PS X e t' := ⟨fun pins s σ H D I q => h.run pins s σ H D I (k D σ H q)⟩
theorem _root_.L2.PSs.wk {X : Cx} {e : List Stmt} {t t' : TS} (h : PSs X e t) (k : ∀ D σ H, t' D σ H → t D σ H) : PSs X e t' := ⟨fun pins s σ H D I q => h.run pins s σ H D I (k D σ H q)⟩

/-! ### the combinators -/
def sNil : Ms := fun G h => .next G h
def sSeq (a b : Ms) : Ms := fun G h => (a G h).andThen b
def sSet (i : Nat) (m : Me) : Ms := fun G h => (m G h).toS G fun d h1 => .next (G.set i (some d)) h1
def sRet (m : Me) : Ms := fun G h => (m G h).toS G fun d h1 => .ret d h1
def sExpr (m : Me) : Ms := fun G h => (m G h).toS G fun _ h1 => .next G h1
def sIf (c : MeT) (a b : Ms) : Ms := fun G h => (c G h).toS G fun t h1 => if t = true then a G h1 else b G h1
def sNever : Ms := fun _ _ => .stuck
def sBrk : Ms := fun G h => .brk G h
def sCont : Ms := fun G h => .cont G h
section
variable {X : Cx} {W : WX} {pos : Pos} {st : Stmt} {rest : List Stmt} {e c : Expr} {a b : Ms} {m : Me} {tc : MeT} {sa sb : List Stmt}
theorem s_nil : PSs X [] (TSS X W sNil) := pss_nil.wk fun D σ H ⟨w, G, h, g, r, o⟩ => o σ w H (Le.refl _) g r
theorem s_seq (h1 : PS X st (TSS X W a)) (h2 : PSs X rest (TSS X W b)) : PSs X (st :: rest) (TSS X W (sSeq a b)) := by
  refine (pss_cons h1 h2).wk fun D σ H ⟨w, G, h, g, r, o⟩ => ⟨w, G, h, g, r, ?_⟩
  have o : OutS X.K X.mg W D w ((a G h).andThen b) := o
  cases e : a G h with
  | next G1 h1 =>
    rw [e] at o
    exact fun σ' w1 H1 l g1 r1 => ⟨w1, G1, h1, g1, r1, OutS.mono l o⟩
  | ret d h1 => rw [e] at o; exact o
  | brk G1 h1 => rw [e] at o; exact o
  | cont G1 h1 => rw [e] at o; exact o
  | exc c fs G1 h1 => rw [e] at o; exact o
  | stuck => rw [e] at o; exact o
theorem s_one (h1 : PS X st (TSS X W a)) : PSs X [st] (TSS X W (sSeq a sNil)) := s_seq h1 s_nil
theorem s_ret (he : PE X e (TM X W m)) : PS X (.Return (some e) pos) (TSS X W (sRet m)) :=
  (ps_ret he).wk fun D σ H ⟨w, G, h, g, r, o⟩ => ⟨w, G, h, g, r, OutS.bindE (m := m) g o fun d h1 v w1 H1 l r1 x o1 => o1 v w1 H1 (Le.refl _) r1 x⟩
theorem s_retN : PS X (.Return none pos) (TSS X W (sRet (mC .non))) := by
  refine ps_retN.wk fun D σ H ⟨w, G, h, g, r, o⟩ => ?_
  have o : ∀ v w' H', Le w w' → RepH X.K w' H' h → Rv X.K w' v .non → D.rt v H' := o
  exact o .non w H (Le.refl _) r .non
theorem s_set (i : Nat) {x : Str} {pos' : Pos} (he : PE X e (TM X W m)) (hN : X.N.Nodup) (hi : X.N[i]? = some x := by rfl) (hx : Loc X.env.scope x := by first | exact Or.inl rfl | exact Or.inr rfl)
    (hs : swapsWithSole [.Name x pos'] e pos.line X.env = pure false := by rfl) (hw : swappedStores [.Name x pos'] e X.env = pure none := by rfl) (hf : X.fn x = true ∨ X.env.scope.names.lookup x = some .local := by first | exact .inl rfl | exact .inr rfl) : PS X (.Assign [.Name x pos'] e pos) (TSS X W (sSet i m)) :=
  (ps_asg he (pg_name hN hi hx hf) hs hw).wk fun D σ H ⟨w, G, h, g, r, o⟩ => ⟨w, G, h, g, r, OutS.bindE (m := m) g o fun d h1 v w1 H1 l r1 x o1 => o1 _ w1 H1 (Le.refl _) ((g.mono l).set i x) r1⟩
theorem s_expr (he : PE X e (TM X W m)) (hs : swapsWith e none pos.line X.env = pure false := by rfl) : PS X (.Expr e pos) (TSS X W (sExpr m)) :=
  (ps_expr he hs).wk fun D σ H ⟨w, G, h, g, r, o⟩ => ⟨w, G, h, g, r, OutS.bindE (m := m) g o fun d h1 v w1 H1 l r1 x o1 => o1 σ w1 H1 (Le.refl _) (g.mono l) r1⟩
theorem s_if (hc : PT X c (TTT X W tc)) (ha : PSs X sa (TSS X W a)) (hb : PSs X sb (TSS X W b)) : PS X (.If c sa sb pos) (TSS X W (sIf tc a b)) := by
  refine (ps_if hc ha hb).wk fun D σ H ⟨w, G, h, g, r, o⟩ => ⟨w, G, h, g, r, OutS.bindT (m := tc) g o fun t h1 w1 H1 l r1 o1 => ?_⟩
  cases t with
  | true => exact ⟨w1, G, h1, g.mono l, r1, o1⟩
  | false => exact ⟨w1, G, h1, g.mono l, r1, o1⟩
theorem s_pass : PS X (.Pass pos) (TSS X W sNil) := ps_pass.wk fun D σ H ⟨w, G, h, g, r, o⟩ => o σ w H (Le.refl _) g r
theorem s_never : PS X st (TSS X W sNever) := ps_never.wk fun D σ H ⟨w, G, h, g, r, o⟩ => o.elim
theorem ss_never : PSs X rest (TSS X W sNever) := pss_never.wk fun D σ H ⟨w, G, h, g, r, o⟩ => o.elim
theorem s_brk : PS X (.Break pos) (TSS X W sBrk) := ps_break.wk fun D σ H ⟨w, G, h, g, r, o⟩ => o σ w H (Le.refl _) g r
theorem s_cont : PS X (.Continue pos) (TSS X W sCont) := ps_continue.wk fun D σ H ⟨w, G, h, g, r, o⟩ => o σ w H (Le.refl _) g r
end

/-! ### targets -/
inductive Pat where
  | nm (i : Nat)
  | tp (ps : List Pat)
mutual
def asg : Pat → D → Env → Option Env
  | .nm i, d, G => some (G.set i (some d))
  | .tp ps, d, G => match d with
    | .tup ds => asgs ps ds G
    | _ => none
def asgs : List Pat → List D → Env → Option Env
  | [], [], G => some G
  | p :: ps, d :: ds, G => match asg p d G with
    | some G1 => asgs ps ds G1
    | none => none
  | _, _, _ => none
end
mutual
def gP (K : PySem.W.Frag) : Pat → TG
  | .nm i => gName i
  | .tp ps => gTup K ps.length (gPs K ps)
def gPs (K : PySem.W.Frag) : List Pat → TGs
  | [] => gNil
  | p :: ps => gCons (gP K p) (gPs K ps)
end
mutual
def Pat.slots : Pat → List Nat
  | .nm i => [i]
  | .tp ps => slotsL ps
def slotsL : List Pat → List Nat
  | [] => []
  | p :: ps => p.slots ++ slotsL ps
end
theorem wipe_set {σ : L2.St} {i : Nat} {v : Option V} : ∀ {vs : List Nat}, i ∈ vs → wipe (σ.set i v) vs = wipe σ vs
  | j :: vs, h => by
    unfold wipe
    by_cases e : i = j
    · subst e
      by_cases q : i ∈ vs
      · rw [wipe_set q]
      · have key : ∀ (us : List Nat), (wipe (σ.set i v) us).set i none = (wipe σ us).set i none := by
          intro us
          induction us with
          | nil =>
            show (σ.set i v).set i none = σ.set i none
            rw [List.set_set]
          | cons u us ih =>
            unfold wipe
            by_cases eu : u = i
            · subst eu
              rw [List.set_set, List.set_set]
              exact ih
            · rw [List.set_comm _ _ eu, List.set_comm _ _ eu, ih]
        exact key vs
    · have q : i ∈ vs := by
        rcases List.mem_cons.mp h with h | h
        · exact absurd h e
        · exact h
      rw [wipe_set q]
theorem wipe_wipe {σ : L2.St} {vs : List Nat} : ∀ {us : List Nat}, (∀ i ∈ us, i ∈ vs) → wipe (wipe σ us) vs = wipe σ vs
  | [], _ => rfl
  | u :: us, h => by
    have e : wipe σ (u :: us) = (wipe σ us).set u none := rfl
    rw [e, wipe_set (h u List.mem_cons_self), wipe_wipe fun i hi => h i (List.mem_cons_of_mem _ hi)]
section
variable {K : PySem.W.Frag} {w : Wd} {H : Hp} {h : AH}
mutual
theorem asg_rep (r : RepH K w H h) : ∀ (p : Pat) (d : D) (v : V) (σ : L2.St) (G G' : Env) (Q : L2.St → Hp → Prop), Rv K w v d → RepG K w σ G → asg p d G = some G' →
    (∀ σ', RepG K w σ' G' → (∀ vs : List Nat, (∀ i ∈ p.slots, i ∈ vs) → wipe σ' vs = wipe σ vs) → Q σ' H) → gP K p v σ H Q
  | .nm i, d, v, σ, G, G', Q, rv, g, e, q => by
    unfold asg at e
    cases e
    unfold gP
    exact q _ (g.set i rv) fun vs hv => wipe_set (hv i (by unfold Pat.slots; simp))
  | .tp ps, d, v, σ, G, G', Q, rv, g, e, q => by
    unfold asg at e
    split at e
    · rename_i ds
      cases rv with
      | @tup a xs _ h1 h2 =>
        unfold gP
        have hl : ds.length = ps.length := asgs_len ps ds G G' e
        refine ⟨a, xs, rfl, r.ex.t h1, by rw [h2.length]; exact hl, ?_⟩
        exact asgs_rep r ps ds xs σ G G' Q h2 g e fun σ' g' hw => q σ' g' fun vs hv => hw vs (by unfold Pat.slots at hv; exact hv)
    · cases e
theorem asgs_rep (r : RepH K w H h) : ∀ (ps : List Pat) (ds : List D) (vs : List V) (σ : L2.St) (G G' : Env) (Q : L2.St → Hp → Prop), Ra K w vs ds → RepG K w σ G → asgs ps ds G = some G' →
    (∀ σ', RepG K w σ' G' → (∀ us : List Nat, (∀ i ∈ slotsL ps, i ∈ us) → wipe σ' us = wipe σ us) → Q σ' H) → gPs K ps vs σ H Q
  | [], [], _, σ, G, G', Q, ra, g, e, q => by
    cases ra
    unfold asgs at e
    cases e
    unfold gPs
    exact ⟨rfl, q σ g fun us _ => rfl⟩
  | p :: ps, d :: ds, _, σ, G, G', Q, ra, g, e, q => by
    cases ra with
    | @cons v vs _ _ a b =>
      unfold asgs at e
      split at e
      · rename_i G1 e1
        unfold gPs
        refine ⟨v, vs, rfl, asg_rep r p d v σ G G1 _ a g e1 fun σ1 g1 w1 => ?_⟩
        refine asgs_rep r ps ds vs σ1 G1 G' Q b g1 e fun σ2 g2 w2 => q σ2 g2 fun us hu => ?_
        unfold slotsL at hu
        rw [w2 us fun i hi => hu i (List.mem_append_right _ hi), w1 us fun i hi => hu i (List.mem_append_left _ hi)]
      · cases e
  | [], _ :: _, _, _, _, _, _, _, _, e, _ => by cases e
  | _ :: _, [], _, _, _, _, _, _, _, e, _ => by cases e
theorem asgs_len : ∀ (ps : List Pat) (ds : List D) (G G' : Env), asgs ps ds G = some G' → ds.length = ps.length
  | [], [], _, _, _ => rfl
  | p :: ps, d :: ds, G, G', e => by
    unfold asgs at e
    split at e
    · rename_i G1 _
      rw [List.length_cons, List.length_cons, asgs_len ps ds G1 G' e]
    · cases e
  | [], _ :: _, _, _, e => by cases e
  | _ :: _, [], _, _, e => by cases e
end
end
def sAsg (p : Pat) (m : Me) : Ms := fun G h => (m G h).toS G fun d h1 => match asg p d G with
  | some G1 => .next G1 h1
  | none => .stuck
theorem s_asg {X : Cx} {W : WX} {pos : Pos} {e tg : Expr} {m : Me} (p : Pat) (he : PE X e (TM X W m)) (hg : PG X tg (gP X.K p)) (hs : swapsWithSole [tg] e pos.line X.env = pure false := by rfl) (hw : swappedStores [tg] e X.env = pure none := by rfl)
    (h1 : (assignEach [tg] X.env).map (·.2) = [assign tg X.env] := by rfl) : PS X (.Assign [tg] e pos) (TSS X W (sAsg p m)) := by
  refine (ps_asg he hg hs hw h1).wk fun D σ H ⟨w, G, h, g, r, o⟩ => ⟨w, G, h, g, r, OutS.bindE (m := m) g o fun d h1 v w1 H1 l r1 x o1 => ?_⟩
  split at o1
  · rename_i G1 e1
    exact asg_rep r1 p d v σ G G1 _ x (g.mono l) e1 fun σ' g' _ => o1 σ' w1 H1 (Le.refl _) g' r1
  · exact o1.elim

/-! ### what is walked -/
/-- the source still holds these items -/
def Still (src : Option Nat) (all : List D) (h : AH) : Prop := match src with
  | none => True
  | some n => h[n]? = some (.lst all)
abbrev Im := Env → AH → Res (List D × Option Nat)
structure Walks (K : PySem.W.Frag) (J : It) (w : Wd) (all : List D) (src : Option Nat) : Prop where
  goes : ∀ i w' H' h', i < all.length → LeX w w' → RepH K w' H' h' → Still src all h' → J.go i H'
  stops : ∀ w' H' h', LeX w w' → RepH K w' H' h' → Still src all h' → J.stop all.length H'
  yields : ∀ i x w' H' H2 h' d, all[i]? = some d → LeX w w' → RepH K w' H' h' → Still src all h' → J.yld i H' x H2 → ∃ w2, Le w' w2 ∧ RepH K w2 H2 h' ∧ Rv K w2 x d
def OutI (K : PySem.W.Frag) (mg : Str → Option Value) (W : WX) (w : Wd) (σ : L2.St) (R : It → Hp → Prop) : Res (List D × Option Nat) → Prop
  | .ok (all, src) h => ∀ J w' H', Le w w' → RepH K w' H' h → Walks K J w' all src → R J H'
  | .exc c fs h => OutX K mg W w σ c fs h
  | .stuck => False
def tI (X : Cx) (W : WX) (m : Im) : TI := fun σ H R => ∃ w G h, RepG X.K w σ G ∧ RepH X.K w H h ∧ OutI X.K X.mg W w σ R (m G h)
theorem _root_.L2.PI.wk {X : Cx} {tg e : Expr} {t t' : TI} (h : PI X tg e t) (k : ∀ σ H R, t' σ H R → t σ H R) : PI X tg e t' := ⟨fun pins s σ H R I q => h.run pins s σ H R I (k σ H R q)⟩
def iSeq (m : Me) : Im := fun G h => (m G h).bind fun d h1 => match d with
  | .tup ds => .ok (ds, none) h1
  | .lst ds => .ok (ds, none) h1
  | .rol ds => .ok (ds, none) h1
  | .loc n => match h1[n]? with
    | some (.lst ds) => .ok (ds, some n) h1
    | _ => .stuck
  | _ => .stuck
section
variable {X : Cx} {W : WX} {tg e : Expr} {m : Me} {K : PySem.W.Frag}
theorem OutI.bindE {mg : Str → Option Value} {w : Wd} {σ : L2.St} {G : Env} {h : AH} {R : VK} {Q : It → Hp → Prop} {k : D → AH → Res (List D × Option Nat)} (o : OutI K mg W w σ Q ((m G h).bind k))
    (hq : ∀ d h1 v w1 H1, m G h = .ok d h1 → Le w w1 → RepH K w1 H1 h1 → Rv K w1 v d → OutI K mg W w1 σ Q (k d h1) → R v H1) : OutE K mg W w σ R (m G h) := by
  cases e : m G h with
  | ok d h1 =>
    rw [e] at o
    refine fun v w1 H1 l r x => hq d h1 v w1 H1 e l r x ?_
    have o : OutI K mg W w σ Q (k d h1) := o
    cases z : k d h1 with
    | ok a h2 =>
      rw [z] at o
      exact fun J w2 H2 l2 r2 x2 => o J w2 H2 (l.trans l2) r2 x2
    | exc c fs h2 => rw [z] at o; exact OutX.mono l o
    | stuck => rw [z] at o; exact o
  | exc c fs h1 =>
    rw [e] at o
    exact o
  | stuck =>
    rw [e] at o
    exact o
theorem Walks.tup {a : Addr} {xs : List V} {w : Wd} {ds : List D} (h1 : SqT K w.S a xs) (h2 : Ra K w xs ds) : Walks K (Itt K a) w ds none := by
  refine ⟨fun i w' H' h' hi l r _ => ?_, fun w' H' h' l r _ => ?_, fun i x w' H' H2 h' d hd l r _ y => ?_⟩
  · obtain ⟨v, hv, _⟩ := h2.get (i := i) (d := ds[i]) (List.getElem?_eq_getElem hi)
    exact ⟨xs, v, r.ex.t (l.ex.t h1), hv⟩
  · exact ⟨xs, r.ex.t (l.ex.t h1), by rw [h2.length]; exact Nat.le_refl _⟩
  · obtain ⟨rfl, hy⟩ := y
    obtain ⟨v, hv, rv⟩ := h2.get hd
    have := hy xs (r.ex.t (l.ex.t h1))
    rw [hv] at this
    cases this
    exact ⟨w', Le.refl _, r, Rv_monoX l rv⟩
theorem Walks.lst {a : Addr} {xs : List V} {w : Wd} {ds : List D} (h1 : SqL K w.S a xs) (h2 : Ra K w xs ds) : Walks K (Itl K a) w ds none := by
  refine ⟨fun i w' H' h' hi l r _ => ?_, fun w' H' h' l r _ => ?_, fun i x w' H' H2 h' d hd l r _ y => ?_⟩
  · obtain ⟨v, hv, _⟩ := h2.get (i := i) (d := ds[i]) (List.getElem?_eq_getElem hi)
    exact ⟨xs, v, r.ex.l (l.ex.l h1), hv⟩
  · exact ⟨xs, r.ex.l (l.ex.l h1), by rw [h2.length]; exact Nat.le_refl _⟩
  · obtain ⟨rfl, hy⟩ := y
    obtain ⟨v, hv, rv⟩ := h2.get hd
    have := hy xs (r.ex.l (l.ex.l h1))
    rw [hv] at this
    cases this
    exact ⟨w', Le.refl _, r, Rv_monoX l rv⟩
theorem Walks.loc {w : Wd} {ds : List D} {n : Nat} (hn : n < w.N) : Walks K (Itl K (w.mu n)) w ds (some n) := by
  have key : ∀ {w' : Wd} {H' : Hp} {h' : AH}, LeX w w' → RepH K w' H' h' → Still (some n) ds h' → ∃ xs, SqL K H' (w.mu n) xs ∧ Ra K w' xs ds := by
    intro w' H' h' l r s
    obtain ⟨_, xs, e, ra⟩ := r.cell n _ s
    rw [l.mu n hn] at e
    exact ⟨xs, .inl (.inl e), ra⟩
  refine ⟨fun i w' H' h' hi l r s => ?_, fun w' H' h' l r s => ?_, fun i x w' H' H2 h' d hd l r s y => ?_⟩
  · obtain ⟨xs, q, h2⟩ := key l r s
    obtain ⟨v, hv, _⟩ := h2.get (i := i) (d := ds[i]) (List.getElem?_eq_getElem hi)
    exact ⟨xs, v, q, hv⟩
  · obtain ⟨xs, q, h2⟩ := key l r s
    exact ⟨xs, q, by rw [h2.length]; exact Nat.le_refl _⟩
  · obtain ⟨rfl, hy⟩ := y
    obtain ⟨xs, q, h2⟩ := key l r s
    obtain ⟨v, hv, rv⟩ := h2.get hd
    have := hy xs q
    rw [hv] at this
    cases this
    exact ⟨w', Le.refl _, r, rv⟩
theorem i_seq (he : PE X e (TM X W m)) : PI X tg e (tI X W (iSeq m)) := by
  refine ⟨fun pins s σ H R I ⟨w, G, h, g, r, o⟩ => ?_⟩
  by_cases ht : ∃ ds h1, m G h = .ok (.tup ds) h1
  · obtain ⟨ds, h1, e1⟩ := ht
    refine (pi_tup he).run pins s σ H R I ⟨w, G, h, g, r, OutI.bindE (m := m) o fun d h2 v w1 H1 em l r1 x o1 => ?_⟩
    rw [e1] at em
    cases em
    cases x with
    | @tup a xs _ q1 q2 => exact ⟨a, rfl, ⟨xs, r1.ex.t q1⟩, o1 _ w1 H1 (Le.refl _) r1 (Walks.tup q1 q2)⟩
  · refine (pi_list he).run pins s σ H R I ⟨w, G, h, g, r, OutI.bindE (m := m) o fun d h2 v w1 H1 em l r1 x o1 => ?_⟩
    cases x with
    | tup q1 q2 => exact absurd ⟨_, _, em⟩ ht
    | @lst a xs ds q1 q2 => exact ⟨a, rfl, ⟨xs, .inl (r1.ex.rd q1)⟩, o1 _ w1 H1 (Le.refl _) r1 (Walks.lst (.inl q1) q2)⟩
    | @rol a xs ds q1 q2 => exact ⟨a, rfl, ⟨xs, r1.ex.l q1⟩, o1 _ w1 H1 (Le.refl _) r1 (Walks.lst q1 q2)⟩
    | @loc n hn =>
      have o1 : OutI X.K X.mg W w1 σ R (match h2[n]? with
        | some (.lst ds) => .ok (ds, some n) h2
        | _ => .stuck) := o1
      split at o1
      · rename_i ds e'
        obtain ⟨_, xs, e2, ra⟩ := r1.cell _ _ e'
        exact ⟨_, rfl, ⟨xs, .inl (.inl e2)⟩, o1 _ w1 H1 (Le.refl _) r1 (Walks.loc hn)⟩
      · exact o1.elim
    | _ => exact o1.elim
def rangeD (lo : Int) (n : Nat) : List D := (List.range n).map fun i : Nat => D.int (lo + (i : Int))
theorem rangeD_length (lo : Int) (n : Nat) : (rangeD lo n).length = n := by simp [rangeD]
theorem rangeD_get {lo : Int} {n i : Nat} {d : D} (h : (rangeD lo n)[i]? = some d) : d = .int (lo + (i : Int)) := by
  unfold rangeD at h
  rw [List.getElem?_map] at h
  cases q : (List.range n)[i]? with
  | none => rw [q] at h; cases h
  | some j =>
    rw [q] at h
    cases h
    have := List.getElem?_eq_some_iff.mp q
    obtain ⟨h1, h2⟩ := this
    simp at h2
    subst h2
    rfl
theorem Walks.rng {w : Wd} {lo : Int} {n : Nat} : Walks K (Itr lo n) w (rangeD lo n) none := by
  refine ⟨fun i w' H' h' hi l r _ => ?_, fun w' H' h' l r _ => ?_, fun i x w' H' H2 h' d hd l r _ y => ?_⟩
  · rw [rangeD_length] at hi
    exact hi
  · rw [rangeD_length]
    exact Nat.le_refl n
  · obtain ⟨rfl, rfl⟩ := y
    rw [rangeD_get hd]
    exact ⟨w', Le.refl _, r, .int _⟩
/-- bounds of a range (told by a flag that never computes) -/
def okR (j : Int) : Prop := -1000000 ≤ j ∧ j ≤ 1000000
noncomputable instance (j : Int) : Decidable (okR j) := Classical.propDecidable _
def okR2 (i j : Int) : Prop := -1000000 ≤ i ∧ i ≤ 1000000 ∧ j ≤ 1000000 ∧ -1000000 ≤ j
noncomputable instance (i j : Int) : Decidable (okR2 i j) := Classical.propDecidable _
noncomputable def iRange1 (as : MeL) : Im := fun G h => (as G h).bind fun xs h1 => match xs with
  | [.int j] => if okR j then .ok (rangeD 0 j.toNat, none) h1 else .stuck
  | _ => .stuck
noncomputable def iRange2 (as : MeL) : Im := fun G h => (as G h).bind fun xs h1 => match xs with
  | [.int i, .int j] => if okR2 i j then .ok (rangeD i (j - i).toNat, none) h1 else .stuck
  | _ => .stuck
theorem OutI.bindA {mg : Str → Option Value} {w : Wd} {σ : L2.St} {G : Env} {h : AH} {as : MeL} {R : List V → Hp → Prop} {Q : It → Hp → Prop} {k : List D → AH → Res (List D × Option Nat)} (o : OutI K mg W w σ Q ((as G h).bind k))
    (hq : ∀ d h1 v w1 H1, as G h = .ok d h1 → Le w w1 → RepH K w1 H1 h1 → Ra K w1 v d → OutI K mg W w1 σ Q (k d h1) → R v H1) : OutA K mg W w σ R (as G h) := by
  cases e : as G h with
  | ok d h1 =>
    rw [e] at o
    refine fun v w1 H1 l r x => hq d h1 v w1 H1 e l r x ?_
    have o : OutI K mg W w σ Q (k d h1) := o
    cases z : k d h1 with
    | ok a h2 =>
      rw [z] at o
      exact fun J w2 H2 l2 r2 x2 => o J w2 H2 (l.trans l2) r2 x2
    | exc c fs h2 => rw [z] at o; exact OutX.mono l o
    | stuck => rw [z] at o; exact o
  | exc c fs h1 =>
    rw [e] at o
    exact o
  | stuck =>
    rw [e] at o
    exact o
variable {a b : Expr} {as : MeL} {p pos : Pos}
theorem i_range1 (hm : X.mg "range" = none) (ha : PA X [a] (TAr X W as)) (hg : Gl X "range" := by rfl) (hs : starEach [a] X.env = [(false, eval a X.env)] := by rfl) : PI X tg (.Call (.Name "range" p) [a] [] pos) (tI X W (iRange1 as)) := by
  refine (pi_range1 hg hm ha hs).wk fun σ H R ⟨w, G, h, g, r, o⟩ => ⟨w, G, h, g, r, OutI.bindA (as := as) o fun d h2 v w1 H1 em l r1 x o1 => ?_⟩
  split at o1
  · rename_i j
    split at o1
    · rename_i c
      have c : -1000000 ≤ j ∧ j ≤ 1000000 := c
      obtain ⟨v, rfl, rv⟩ := ra_one x
      cases rv
      exact ⟨j, rfl, by omega, by omega, o1 _ w1 H1 (Le.refl _) r1 Walks.rng⟩
    · exact o1.elim
  · exact o1.elim
theorem i_range2 (hm : X.mg "range" = none) (ha : PA X [a, b] (TAr X W as)) (hg : Gl X "range" := by rfl) (hs : starEach [a, b] X.env = [(false, eval a X.env), (false, eval b X.env)] := by rfl) (hs2 : starEach [b] X.env = [(false, eval b X.env)] := by rfl) : PI X tg (.Call (.Name "range" p) [a, b] [] pos) (tI X W (iRange2 as)) := by
  refine (pi_range2 hg hm ha hs hs2).wk fun σ H R ⟨w, G, h, g, r, o⟩ => ⟨w, G, h, g, r, OutI.bindA (as := as) o fun d h2 v w1 H1 em l r1 x o1 => ?_⟩
  split at o1
  · rename_i i j
    split at o1
    · rename_i c
      have c : -1000000 ≤ i ∧ i ≤ 1000000 ∧ j ≤ 1000000 ∧ -1000000 ≤ j := c
      obtain ⟨v, v2, rfl, rv, rv2⟩ := ra_two x
      cases rv
      cases rv2
      exact ⟨i, j, rfl, ⟨by omega, by omega, by omega, by omega⟩, o1 _ w1 H1 (Le.refl _) r1 Walks.rng⟩
    · exact o1.elim
  · exact o1.elim
/-! zip, enumerate -/
theorem Walks.zip {K : PySem.W.Frag} {w : Wd} {J : It} {as bs : List D} {xs ys : List V} (h1 : Ra K w xs as) (h2 : Ra K w ys bs)
    (hw : ∀ w' H' h', LeX w w' → RepH K w' H' h' → ∃ G : Hp → Prop, G H' ∧ Walk J (min xs.length ys.length) G (YPair (fun i => xs[i]?) (fun i => ys[i]?))) : Walks K J w ((as.zip bs).map fun p => D.tup [p.1, p.2]) none := by
  have l1 := h1.length
  have l2 := h2.length
  have hl : ((as.zip bs).map fun p => D.tup [p.1, p.2]).length = min xs.length ys.length := by
    rw [List.length_map, List.length_zip, l1, l2]
  refine ⟨fun i w' H' h' hi l r _ => ?_, fun w' H' h' l r _ => ?_, fun i x w' H' H2 h' d hd l r _ y => ?_⟩
  · obtain ⟨P, p, wk⟩ := hw w' H' h' l r
    rw [hl] at hi
    exact wk.goes i H' hi p
  · obtain ⟨P, p, wk⟩ := hw w' H' h' l r
    rw [hl]
    exact wk.stops H' p
  · obtain ⟨P, p, wk⟩ := hw w' H' h' l r
    have hi : i < min xs.length ys.length := by
      rw [← hl]
      exact (List.getElem?_eq_some_iff.mp hd).1
    obtain ⟨T, u, v, rfl, hT, rfl, e1, e2⟩ := wk.yields i H' x H2 hi p y
    rw [List.getElem?_map] at hd
    cases q : (as.zip bs)[i]? with
    | none => rw [q] at hd; cases hd
    | some pr =>
      rw [q] at hd
      cases hd
      obtain ⟨q1, q2⟩ := List.getElem?_zip_eq_some.mp q
      obtain ⟨u', g1, ru⟩ := h1.get q1
      obtain ⟨v', g2, rv⟩ := h2.get q2
      have e1 : xs[i]? = some u := e1
      have e2 : ys[i]? = some v := e2
      rw [e1] at g1
      rw [e2] at g2
      cases g1
      cases g2
      exact ⟨w'.add T _, r.le_add hT, r.add hT, rv_tup r hT (.cons (Rv_monoX l ru) (.cons (Rv_monoX l rv) .nil))⟩
end
end AB
/-! AB: loops, comprehensions, list methods, defs and their calls. -/
namespace AB
open PySem PySem.Spec PyProof.Rows L2

/-! ### for -/
open Classical in
noncomputable def forGo (p : Pat) (body : Ms) (src : Option Nat) (all : List D) : List D → Env → AH → SR
  | [], G, h => if Still src all h then .next G h else .stuck
  | d :: r, G, h => if Still src all h then
      match asg p d G with
      | some G1 => match body G1 h with
        | .next G2 h2 => forGo p body src all r G2 h2
        | .cont G2 h2 => forGo p body src all r G2 h2
        | .brk G2 h2 => .next G2 h2
        | .ret x h2 => .ret x h2
        | .exc c fs G2 h2 => .exc c fs G2 h2
        | .stuck => .stuck
      | none => .stuck
    else .stuck
noncomputable def sFor (p : Pat) (it : Im) (body : Ms) : Ms := fun G h => (it G h).toS G fun a h1 => forGo p body a.2 a.1 a.1 G h1
theorem OutS.bindI {K : PySem.W.Frag} {mg : Str → Option Value} {W : WX} {w : Wd} {σ : L2.St} {G : Env} {h : AH} {D : Ends} {m : Im} {R : It → Hp → Prop} {k : List AB.D × Option Nat → AH → SR} (g : RepG K w σ G) (o : OutS K mg W D w ((m G h).toS G k))
    (hq : ∀ all src h1 J w1 H1, Le w w1 → RepH K w1 H1 h1 → Walks K J w1 all src → OutS K mg W D w1 (k (all, src) h1) → R J H1) : OutI K mg W w σ R (m G h) := by
  cases e : m G h with
  | ok d h1 =>
    rw [e] at o
    exact fun J w1 H1 l r x => hq d.1 d.2 h1 J w1 H1 l r x (OutS.mono l o)
  | exc c fs h1 =>
    rw [e] at o
    exact fun cls dd w1 H1 e l r x => o cls dd σ w1 H1 e l (g.mono l) r x
  | stuck =>
    rw [e] at o
    exact o
section
variable {X : Cx} {W : WX} {pos : Pos} {tg iter : Expr} {body : List Stmt} {p : Pat} {im : Im} {mb : Ms}
theorem s_for (hp : PassesOwn (model X.prog X.w) X.A X.env X.xe) (hi : PI X tg iter (tI X W im)) (hg : PG X tg (gP X.K p)) (hb : PSs X body (TSS X W mb)) (hc : X.calm = true := by rfl) (hs : ∀ x, foldedSetIterable iter X.env x = pure x := by intro _; rfl) :
    PS X (.For tg iter body [] pos) (TSS X W (sFor p im mb)) := by
  refine (ps_for hp hc hi hg hb hs).wk fun D σ H ⟨w, G, h, g, r, o⟩ => ⟨w, G, h, g, r, OutS.bindI (m := im) g o fun all src h1 J w1 H1 l r1 wk o1 => ?_⟩
  refine ⟨fun i m σ' H' => m = all.length - i ∧ i ≤ all.length ∧ ∃ w' G' h', Le w1 w' ∧ RepG X.K w' σ' G' ∧ RepH X.K w' H' h' ∧ OutS X.K X.mg W D w' (forGo p mb src all (all.drop i) G' h'),
    ⟨all.length, by simp, Nat.zero_le _, w1, G, h1, Le.refl _, g.mono l, r1, o1⟩, ?_⟩
  rintro i m σ' H' ⟨rfl, hi2, w', G', h', l', g', r', o'⟩
  by_cases hlt : i < all.length
  · have ed : all.drop i = all[i] :: all.drop (i + 1) := List.drop_eq_getElem_cons hlt
    rw [ed] at o'
    unfold forGo at o'
    split at o'
    · rename_i still
      refine .inr ⟨wk.goes i w' H' h' hlt l'.x r' still, fun σ2 H2 => ∃ w' G' h', Le w1 w' ∧ RepG X.K w' σ2 G' ∧ RepH X.K w' H2 h' ∧ OutS X.K X.mg W D w' (forGo p mb src all (all.drop (i + 1)) G' h'),
        fun σ2 H2 hN => ⟨all.length - (i + 1), by omega, rfl, hlt, hN⟩, fun x H2 hy => ?_⟩
      obtain ⟨w2, l2, r2, rv⟩ := wk.yields i x w' H' H2 h' all[i] (List.getElem?_eq_getElem hlt) l'.x r' still hy
      split at o'
      · rename_i G1 e1
        refine asg_rep r2 p all[i] x σ' G' G1 _ rv (g'.mono l2) e1 fun σ3 g3 _ => ?_
        refine ⟨w2, G1, h', g3, r2, ?_⟩
        have o2 := OutS.mono l2 o'
        cases eb : mb G1 h' with
        | next G2 h2 =>
          rw [eb] at o2
          exact fun σ4 w4 H4 l4 g4 r4 => ⟨w4, G2, h2, l'.trans (l2.trans l4), g4, r4, OutS.mono l4 o2⟩
        | cont G2 h2 =>
          rw [eb] at o2
          exact fun σ4 w4 H4 l4 g4 r4 => ⟨w4, G2, h2, l'.trans (l2.trans l4), g4, r4, OutS.mono l4 o2⟩
        | brk G2 h2 =>
          rw [eb] at o2
          exact o2
        | ret d h2 =>
          rw [eb] at o2
          exact o2
        | exc c fs G2 h2 =>
          rw [eb] at o2
          exact o2
        | stuck =>
          rw [eb] at o2
          exact o2
      · exact o'.elim
    · exact o'.elim
  · have e : i = all.length := by omega
    subst e
    rw [List.drop_length] at o'
    unfold forGo at o'
    split at o'
    · rename_i still
      exact .inl ⟨wk.stops w' H' h' l'.x r' still, o' σ' w' H' (Le.refl _) g' r'⟩
    · exact o'.elim
end

/-! ### while -/
def whileGo (t : MeT) (body : Ms) : Nat → Env → AH → SR
  | 0, _, _ => .stuck
  | n + 1, G, h => (t G h).toS G fun b h1 => if b = true then
      match body G h1 with
      | .next G2 h2 => whileGo t body n G2 h2
      | .cont G2 h2 => whileGo t body n G2 h2
      | .brk G2 h2 => .next G2 h2
      | .ret x h2 => .ret x h2
      | .exc c fs G2 h2 => .exc c fs G2 h2
      | .stuck => .stuck
    else .next G h1
open Classical in
noncomputable def sWhile (t : MeT) (body : Ms) : Ms := fun G h => if hx : ∃ n, whileGo t body n G h ≠ .stuck then whileGo t body (Classical.choose hx) G h else .stuck
theorem OutS.bindT' {K : PySem.W.Frag} {mg : Str → Option Value} {W : WX} {w : Wd} {σ : L2.St} {G : Env} {h : AH} {m : MeT} {R : Bool → Hp → Prop} {D : Ends} {k : Bool → AH → SR} (g : RepG K w σ G) (o : OutS K mg W D w ((m G h).toS G k))
    (hq : ∀ b h1 w1 H1, Le w w1 → RepH K w1 H1 h1 → OutS K mg W D w1 (k b h1) → R b H1) : OutT K mg W w σ R (m G h) := OutS.bindT g o hq
section
variable {X : Cx} {W : WX} {pos : Pos} {c : Expr} {body : List Stmt} {t : MeT} {mb : Ms}
theorem s_while (hp : PassesOwn (model X.prog X.w) X.A X.env X.xe) (hc : PT X c (TTT X W t)) (hb : PSs X body (TSS X W mb)) : PS X (.While c body [] pos) (TSS X W (sWhile t mb)) := by
  refine (ps_while hp hc hb).wk fun D σ H ⟨w, G, h, g, r, o⟩ => ?_
  unfold sWhile at o
  split at o
  · rename_i hx
    generalize Classical.choose hx = n0 at o
    refine ⟨fun m σ' H' => ∃ w' G' h', RepG X.K w' σ' G' ∧ RepH X.K w' H' h' ∧ OutS X.K X.mg W D w' (whileGo t mb m G' h'), ⟨n0, w, G, h, g, r, o⟩, ?_⟩
    rintro m σ' H' ⟨w', G', h', g', r', o'⟩
    cases m with
    | zero => exact o'.elim
    | succ m =>
      unfold whileGo at o'
      refine ⟨w', G', h', g', r', OutS.bindT (m := t) g' o' fun b h1 w1 H1 l r1 o1 => ?_⟩
      cases b with
      | true =>
        refine iteT ⟨fun σ2 H2 => ∃ w' G' h', RepG X.K w' σ2 G' ∧ RepH X.K w' H2 h' ∧ OutS X.K X.mg W D w' (whileGo t mb m G' h'), fun σ2 H2 hN => ⟨m, Nat.lt_succ_self _, hN⟩, ⟨w1, G', h1, g'.mono l, r1, ?_⟩⟩
        have o1 : OutS X.K X.mg W D w1 (match mb G' h1 with
          | .next G2 h2 => whileGo t mb m G2 h2
          | .cont G2 h2 => whileGo t mb m G2 h2
          | .brk G2 h2 => .next G2 h2
          | .ret x h2 => .ret x h2
          | .exc c fs G2 h2 => .exc c fs G2 h2
          | .stuck => .stuck) := o1
        cases eb : mb G' h1 with
        | next G2 h2 =>
          rw [eb] at o1
          exact fun σ4 w4 H4 l4 g4 r4 => ⟨w4, G2, h2, g4, r4, OutS.mono l4 o1⟩
        | cont G2 h2 =>
          rw [eb] at o1
          exact fun σ4 w4 H4 l4 g4 r4 => ⟨w4, G2, h2, g4, r4, OutS.mono l4 o1⟩
        | brk G2 h2 =>
          rw [eb] at o1
          exact o1
        | ret d h2 =>
          rw [eb] at o1
          exact o1
        | exc c fs G2 h2 =>
          rw [eb] at o1
          exact o1
        | stuck =>
          rw [eb] at o1
          exact o1
      | false => exact iteF (o1 σ' w1 H1 (Le.refl _) (g'.mono l) r1)
  · exact o.elim
end

/-! ### comprehensions -/
def wipeG (G : Env) : List Nat → Env
  | [] => G
  | v :: vs => (wipeG G vs).set v none
theorem wipe_rep {K : PySem.W.Frag} {w : Wd} {σ : L2.St} {G : Env} (g : RepG K w σ G) : ∀ vs : List Nat, RepG K w (wipe σ vs) (wipeG G vs)
  | [] => g
  | v :: vs => by
    have ih := wipe_rep g vs
    refine ⟨by unfold wipe wipeG; rw [List.length_set, List.length_set, ih.1], fun i d e => ?_⟩
    unfold wipeG at e
    by_cases hi : i = v
    · subst hi
      have hl : i < (wipeG G vs).length := by
        have := (List.getElem?_eq_some_iff.mp e).1
        rwa [List.length_set] at this
      rw [List.getElem?_set_self hl] at e
      cases e
    · rw [List.getElem?_set_ne (Ne.symm hi)] at e
      obtain ⟨x, h1, h2⟩ := ih.2 i d e
      refine ⟨x, ?_, h2⟩
      unfold wipe
      rw [List.getElem?_set_ne (Ne.symm hi)]
      exact h1
def tYesM : MeT := fun _ h => .ok true h
/-- in a comprehension nothing is raised -/
def Res.noX {α : Type} (r : Res α) : Res α := match r with
  | .ok a h => .ok a h
  | _ => .stuck
@[simp] theorem Res.noX_ok {α : Type} (a : α) (h : AH) : (Res.ok a h).noX = .ok a h := rfl
@[simp] theorem Res.noX_exc {α : Type} (c : Str) (fs : List (Str × D)) (h : AH) : (Res.exc c fs h : Res α).noX = .stuck := rfl
@[simp] theorem Res.noX_stuck {α : Type} : (Res.stuck : Res α).noX = .stuck := rfl
open Classical in
noncomputable def compGo (p : Pat) (t : MeT) (e : Me) (src : Option Nat) (all : List D) (G : Env) : List D → AH → Res (List D)
  | [], h => if Still src all h then .ok [] h else .stuck
  | d :: r, h => if Still src all h then
      match asg p d G with
      | some G1 => (t G1 h).noX.bind fun b h1 => if b = true then (e G1 h1).noX.bind fun x h2 => (compGo p t e src all G r h2).bind fun xs h3 => .ok (x :: xs) h3 else compGo p t e src all G r h1
      | none => .stuck
    else .stuck
noncomputable def lComp (p : Pat) (vs : List Nat) (it : Im) (t : MeT) (e : Me) : MeL := fun G h => (it G h).bind fun a h1 => if a.1.length ≤ big then compGo p t e a.2 a.1 (wipeG G vs) a.1 h1 else .stuck
theorem OutF.bindI {K : PySem.W.Frag} {mg : Str → Option Value} {W : WX} {w : Wd} {σ : L2.St} {G : Env} {h : AH} {m : Im} {R : It → Hp → Prop} {Q : VK} {k : List D × Option Nat → AH → Res (List D)} (o : OutF K mg W w σ Q ((m G h).bind k))
    (hq : ∀ all src h1 J w1 H1, Le w w1 → RepH K w1 H1 h1 → Walks K J w1 all src → OutF K mg W w1 σ Q (k (all, src) h1) → R J H1) : OutI K mg W w σ R (m G h) := by
  cases e : m G h with
  | ok d h1 =>
    rw [e] at o
    exact fun J w1 H1 l r x => hq d.1 d.2 h1 J w1 H1 l r x (OutF.mono l o)
  | exc c fs h1 =>
    rw [e] at o
    exact o
  | stuck =>
    rw [e] at o
    exact o
/-- no wish: nothing is raised -/
abbrev W0 : WX := fun _ _ _ _ => False
/-- the world in which the list at p, told apart, must stay as it is -/
def Wd.hold (w : Wd) (p : Addr) (u : HO) : Wd := ⟨w.S, upd w.F p u, w.mu, w.N, w.LK⟩
def Wd.with (w : Wd) (F : Hp) : Wd := ⟨w.S, F, w.mu, w.N, w.LK⟩
theorem RepH.hold {K : PySem.W.Frag} {w : Wd} {H : Hp} {h : AH} {p : Addr} {u : HO} (r : RepH K w H h) (ap : Apart w p) : RepH K (w.hold p u) (upd H p u) h := by
  refine ⟨fun a x e => ?_, r.len, r.inj, fun n o' e => ?_, fun a x e => ?_, fun a x e => ?_⟩
  · have e : w.S a = some x := e
    have q : a ≠ p := by
      intro z
      rw [z, ap.s] at e
      cases e
    rw [upd_ne q]
    exact r.ex _ _ e
  · obtain ⟨a, b⟩ := r.cell n o' e
    have hn : n < w.N := by
      rw [r.len]
      exact (List.getElem?_eq_some_iff.mp e).1
    refine ⟨a, ?_⟩
    have b2 : RepO K w (upd H p u) (w.mu n) o' := b.mono (Le.refl _) (upd_ne (ap.m n hn))
    cases o' with
    | lst ds => exact b2
    | ins C fs => exact b2
    | dct kvs => exact b2
    | lck kvs => exact b2
  · have e : upd w.F p u a = some x := e
    by_cases q : a = p
    · rw [q, upd_same] at e
      rw [q, upd_same]
      exact e
    · rw [upd_ne q] at e
      rw [upd_ne q]
      exact r.exF _ _ e
  · have e : upd w.F p u a = some x := e
    by_cases q : a = p
    · rw [q]
      exact ⟨ap.s, ap.m⟩
    · rw [upd_ne q] at e
      exact r.dis a x e
/-- the held list goes free again -/
theorem RepH.free {K : PySem.W.Frag} {w : Wd} {H : Hp} {h : AH} {F : Hp} {p : Addr} {u : HO} (r : RepH K w H h) (e : w.F = upd F p u) (hp : F p = none) : RepH K (w.with F) H h ∧ Apart (w.with F) p := by
  have sub : ∀ a x, F a = some x → w.F a = some x := fun a x q => by
    have z : a ≠ p := fun z => by
      rw [z, hp] at q
      cases q
    rw [e, upd_ne z]
    exact q
  have d := r.dis p u (by rw [e, upd_same])
  refine ⟨⟨r.ex, r.len, r.inj, fun n o' q => ?_, fun a x q => r.exF _ _ (sub a x q), fun a x q => r.dis a x (sub a x q)⟩, d.1, d.2, hp⟩
  obtain ⟨a, b⟩ := r.cell n o' q
  refine ⟨a, ?_⟩
  cases o' with
  | lst ds => exact b
  | ins C fs => exact b
  | dct kvs => exact b
  | lck kvs => exact b
/-- a list goes on in its place -/
theorem RepH.regrow {K : PySem.W.Frag} {w : Wd} {H : Hp} {h : AH} {F : Hp} {p : Addr} {u u' : HO} (r : RepH K w H h) (e : w.F = upd F p u) (hp : F p = none) : RepH K (w.with (upd F p u')) (upd H p u') h := by
  obtain ⟨r1, ap⟩ := r.free e hp
  exact r1.hold ap
section
variable {X : Cx} {W : WX} {pos : Pos} {tg iter elt : Expr} {ifs : List Expr} {scope : Scope} {own : List (Str × Nat)} {p : Pat} {im : Im} {mt : MeT} {me : Me}
theorem noXT {K : PySem.W.Frag} {mg : Str → Option Value} {w : Wd} {σ : L2.St} {Q : Bool → Hp → Prop} {r : Res Bool} (o : OutT K mg W0 w σ Q r.noX) : OutT K mg W0 w σ Q r := by
  cases r with
  | ok a h => exact o
  | exc c fs h => exact o.elim
  | stuck => exact o
theorem noXE {K : PySem.W.Frag} {mg : Str → Option Value} {w : Wd} {σ : L2.St} {Q : VK} {r : Res D} (o : OutE K mg W0 w σ Q r.noX) : OutE K mg W0 w σ Q r := by
  cases r with
  | ok a h => exact o
  | exc c fs h => exact o.elim
  | stuck => exact o
theorem lc_read (p : Pat) (hsl : ∀ i ∈ p.slots, i ∈ own.map (·.2)) {σ : L2.St} {H : Hp} {Q : VK} (t : TF X W (lComp p (own.map (·.2)) im mt me) σ H Q) : tLc (tI X W im) (gP X.K p) (TTT X W0 mt) (TM X W0 me) (own.map (·.2)) σ H Q := by
  obtain ⟨w, G, h, g, r, o⟩ := t
  refine ⟨w, G, h, g, r, OutF.bindI (m := im) o fun all src h1 J w1 H1 l r1 wk o1 => ?_⟩
  intro Dd hD
  have o1 : OutF X.K X.mg W w1 σ Q (if all.length ≤ big then compGo p mt me src all (wipeG G (own.map (·.2))) all h1 else .stuck) := o1
  split at o1
  · rename_i hbig
    have g1 : RepG X.K w1 (wipe σ (own.map (·.2))) (wipeG G (own.map (·.2))) := wipe_rep (g.mono l) _
    generalize hvs : own.map (·.2) = vs at *
    have apD : Apart w1 Dd := ⟨r1.ex.free hD, fun n hn => r1.ne hn hD, r1.exF.free hD⟩
    refine ⟨fun i m H' => m = all.length - i ∧ i ≤ all.length ∧ ∃ w' h' xs ds, w'.F = upd w1.F Dd (.lst xs) ∧ LeX w1 w' ∧ RepH X.K w' H' h' ∧ Ra X.K w' xs ds ∧ ds.length ≤ i ∧
      OutF X.K X.mg W (w'.with w1.F) σ Q ((compGo p mt me src all (wipeG G vs) (all.drop i) h').bind fun ys h2 => .ok (ds ++ ys) h2),
      ⟨all.length, by simp, Nat.zero_le _, w1.hold Dd (.lst []), h1, [], [], rfl, ⟨Ext.refl _, Nat.le_refl _, fun _ _ => rfl, rfl⟩, r1.hold apD, .nil, Nat.le_refl _, ?_⟩, ?_⟩
    · have e : ∀ r : Res (List D), (r.bind fun ys h2 => .ok ([] ++ ys) h2) = r := fun r => by cases r <;> rfl
      rw [List.drop_zero, e]
      exact o1
    · rintro i m H' ⟨rfl, hi2, w', h', xs, ds, eF, lx, r', ra, hds, o'⟩
      obtain ⟨rf, apf⟩ := r'.free eF apD.f
      have lf : LeX w1 (w'.with w1.F) := ⟨lx.ex, lx.n, lx.mu, lx.lk⟩
      have hD' : H' Dd = some (.lst xs) := r'.exF _ _ (by rw [eF, upd_same])
      by_cases hlt : i < all.length
      · have ed : all.drop i = all[i] :: all.drop (i + 1) := List.drop_eq_getElem_cons hlt
        rw [ed] at o'
        unfold compGo at o'
        split at o'
        · rename_i still
          refine .inr ⟨wk.goes i w' H' h' hlt lx r' still, fun H2 => ∃ w' h' xs ds, w'.F = upd w1.F Dd (.lst xs) ∧ LeX w1 w' ∧ RepH X.K w' H2 h' ∧ Ra X.K w' xs ds ∧ ds.length ≤ i + 1 ∧
            OutF X.K X.mg W (w'.with w1.F) σ Q ((compGo p mt me src all (wipeG G vs) (all.drop (i + 1)) h').bind fun ys h2 => .ok (ds ++ ys) h2),
            fun H2 hN => ⟨all.length - (i + 1), by omega, rfl, hlt, hN⟩, fun x H2 hy => ?_⟩
          obtain ⟨w2, l2, r2, rv⟩ := wk.yields i x w' H' H2 h' all[i] (List.getElem?_eq_getElem hlt) lx r' still hy
          split at o'
          · rename_i G1 e1
            refine asg_rep r2 p all[i] x (wipe σ vs) _ G1 _ rv (g1.monoX (lx.trans l2.x)) e1 fun σ3 g3 hw => ⟨(hw vs hsl).trans (wipe_wipe fun _ hi => hi), w2, G1, h', g3, r2, ?_⟩
            cases em : mt G1 h' with
            | exc c fs h2 => rw [em] at o'; exact o'.elim
            | stuck => rw [em] at o'; exact o'.elim
            | ok b h2 =>
              rw [em] at o'
              intro w3 H3 l3 r3
              have o' : OutF X.K X.mg W (w'.with w1.F) σ Q ((if b = true then (me G1 h2).noX.bind fun x h2 => (compGo p mt me src all (wipeG G vs) (all.drop (i + 1)) h2).bind fun xs h3 => .ok (x :: xs) h3 else compGo p mt me src all (wipeG G vs) (all.drop (i + 1)) h2).bind fun ys h2 => .ok (ds ++ ys) h2) := o'
              have F3 : w3.F = upd w1.F Dd (.lst xs) := by rw [l3.f, l2.f, eF]
              cases b with
              | false =>
                rw [if_neg (by decide)] at o'
                refine iteF ⟨w3, h2, xs, ds, F3, lx.trans (l2.x.trans l3.x), r3, Ra_mono (l2.trans l3) ra, by omega, OutF.mono ?_ o'⟩
                exact ⟨(l2.trans l3).ex, (l2.trans l3).n, (l2.trans l3).mu, rfl, (l2.trans l3).lk⟩
              | true =>
                rw [if_pos rfl] at o'
                refine iteT ⟨w3, G1, h2, g3.mono l3, r3, ?_⟩
                cases ee : me G1 h2 with
                | exc c fs h3 => rw [ee] at o'; exact o'.elim
                | stuck => rw [ee] at o'; exact o'.elim
                | ok y h3 =>
                  rw [ee] at o'
                  intro v w4 H4 l4 r4 rv4
                  have F4 : w4.F = upd w1.F Dd (.lst xs) := by rw [l4.f, F3]
                  have lxs := ra.length
                  refine ⟨xs, r4.exF _ _ (by rw [F4, upd_same]), big_lt (by omega), w4.with (upd w1.F Dd (.lst (xs ++ [v]))), h3, xs ++ [v], ds ++ [y], rfl, ?_, r4.regrow F4 apD.f, ?_, ?_, ?_⟩
                  · have l := lx.trans (l2.x.trans (l3.x.trans l4.x))
                    exact ⟨l.ex, l.n, l.mu, l.lk⟩
                  · have ra4 : Ra X.K w4 xs ds := Ra_mono (l2.trans (l3.trans l4)) ra
                    exact ra4.append (.cons rv4 .nil)
                  · rw [List.length_append]
                    exact Nat.succ_le_succ hds
                  · have eq : ∀ r : Res (List D), ((r.bind fun zs h3 => .ok (y :: zs) h3).bind fun ys h2 => .ok (ds ++ ys) h2) = r.bind fun ys h2 => .ok ((ds ++ [y]) ++ ys) h2 := fun r => by
                      cases r with
                      | ok a h =>
                        show Res.ok (ds ++ (y :: a)) h = Res.ok ((ds ++ [y]) ++ a) h
                        rw [List.append_assoc]
                        rfl
                      | exc c fs h => rfl
                      | stuck => rfl
                    have o2 : OutF X.K X.mg W (w'.with w1.F) σ Q (((compGo p mt me src all (wipeG G vs) (all.drop (i + 1)) h3).bind fun zs h3 => .ok (y :: zs) h3).bind fun ys h2 => .ok (ds ++ ys) h2) := o'
                    rw [eq] at o2
                    refine OutF.mono ?_ o2
                    have l := l2.trans (l3.trans l4)
                    exact ⟨l.ex, l.n, l.mu, rfl, l.lk⟩
          · exact o'.elim
        · exact o'.elim
      · have e : i = all.length := by omega
        subst e
        rw [List.drop_length] at o'
        unfold compGo at o'
        split at o'
        · rename_i still
          refine .inl ⟨wk.stops w' H' h' lx r' still, ?_⟩
          have o2 : OutF X.K X.mg W (w'.with w1.F) σ Q (.ok (ds ++ []) h') := o'
          rw [List.append_nil] at o2
          exact o2 Dd xs (w'.with w1.F) H' (Le.refl _) rf apf hD' ra
        · exact o'.elim
  · exact o1.elim
theorem f_lc (p : Pat) (hN : X.N.Nodup) (hi : PI X tg iter (tI X W im)) (ok : BlkOk X.N X.env.scope scope own)
    (hg : ∀ (s : Shared) (H : Hp) (C : Addr) (cl : List (Str × Addr)) (fp : List Addr), PG (X.blk s H scope (compEnvC scope cl C X.env) fp) tg (gP X.K p)) (ht : ∀ (s : Shared) (H : Hp) (C : Addr) (cl : List (Str × Addr)) (fp : List Addr), PTs (X.blk s H scope (compEnvC scope cl C X.env) fp) ifs (TTT X W0 mt))
    (he : ∀ (s : Shared) (H : Hp) (C : Addr) (cl : List (Str × Addr)) (fp : List Addr), PE (X.blk s H scope (compEnvC scope cl C X.env) fp) elt (TM X W0 me)) (hsl : ∀ i ∈ p.slots, i ∈ own.map (·.2)) (hc : X.calm = true := by rfl) (hs : ∀ x, foldedSetIterable iter X.env x = pure x := by intro _; rfl) :
    PE X (.ListComp elt [⟨tg, iter, ifs, 0⟩] scope pos) (TF X W (lComp p (own.map (·.2)) im mt me)) :=
  (pe_lc hc hN hi ok hg ht he hs).wk fun _ _ _ t => lc_read p hsl t
/-- name = [..] on one line, the name a local of its own -/
theorem set_read {m : Me} {i : Nat} {D : Ends} {σ : L2.St} {H : Hp} (t : TSS X W (sSet i m) D σ H) : TM X W m σ H fun x H1 => gName i x σ H1 D.nx := by
  obtain ⟨w, G, h, g, r, o⟩ := t
  exact ⟨w, G, h, g, r, OutS.bindE (m := m) g o fun d h1 v w1 H1 l r1 x o1 => o1 _ w1 H1 (Le.refl _) ((g.mono l).set i x) r1⟩
theorem s_setLc (i : Nat) {y : Str} {py spos : Pos} {m : Me} (p : Pat) (hm : ∀ (σ : L2.St) (H : Hp) (Q : VK), TM X W m σ H Q → TF X W (lComp p (own.map (·.2)) im mt me) σ H Q) (hN : X.N.Nodup) (hi : PI X tg iter (tI X W im)) (ok : BlkOk X.N X.env.scope scope own)
    (hg : ∀ (s : Shared) (H : Hp) (C : Addr) (cl : List (Str × Addr)) (fp : List Addr), PG (X.blk s H scope (compEnvC scope cl C X.env) fp) tg (gP X.K p)) (ht : ∀ (s : Shared) (H : Hp) (C : Addr) (cl : List (Str × Addr)) (fp : List Addr), PTs (X.blk s H scope (compEnvC scope cl C X.env) fp) ifs (TTT X W0 mt))
    (he : ∀ (s : Shared) (H : Hp) (C : Addr) (cl : List (Str × Addr)) (fp : List Addr), PE (X.blk s H scope (compEnvC scope cl C X.env) fp) elt (TM X W0 me)) (hsl : ∀ i ∈ p.slots, i ∈ own.map (·.2)) (hy : X.N[i]? = some y := by rfl) (hyl : X.env.scope.names.lookup y = some .local := by rfl)
    (hk : X.env.scope.kind = .function := by rfl) (hl : (py.line == pos.line) = true := by rfl) (ha : (scope.names.any fun (n, k) => n == y && (k == .local || k == .cell)) = false := by rfl) (hc : X.calm = true := by rfl) (hs : ∀ x, foldedSetIterable iter X.env x = pure x := by intro _; rfl) :
    PS X (.Assign [.Name y py] (.ListComp elt [⟨tg, iter, ifs, 0⟩] scope pos) spos) (TSS X W (sSet i m)) :=
  (ps_setLc hc hN hy hyl (sw_true hk hyl hl ha) hi ok hg ht he hs).wk fun D σ H t => lc_read p hsl (hm _ _ _ (set_read t))
end
end AB
/-! AB: defs, their calls; list methods; raise. -/
namespace AB
open PySem PySem.Spec PyProof.Rows L2

mutual
/-- no object from n on is named -/
def D.under (n : Nat) : D → Bool
  | .tup ds => underL n ds
  | .lst ds => underL n ds
  | .rol ds => underL n ds
  | .loc m => decide (m < n)
  | _ => true
def underL (n : Nat) : List D → Bool
  | [] => true
  | d :: ds => d.under n && underL n ds
end
def AO.under (n : Nat) : AO → Bool
  | .lst ds => underL n ds
  | .ins _ fs => underL n (fs.map (·.2))
  | .dct kvs => underL n (kvs.map (·.2))
  | .lck kvs => underL n (kvs.map (·.2))
section
variable {K : PySem.W.Frag} {S : Hp} {mu : Nat → Addr} {N n : Nat}
mutual
theorem RepV.lower : ∀ (d : D) (v : V), RepV K S mu N v d → d.under n = true → RepV K S mu n v d
  | .non, _, h, _ => by cases h; exact .non
  | .bl _, _, h, _ => by cases h; exact .bl _
  | .int _, _, h, _ => by cases h; exact .int _
  | .str _, _, h, _ => by cases h; exact .str _
  | .tup ds, _, h, b => by
    cases h with
    | tup x y => exact .tup x (RepAll.lower ds _ y (by unfold D.under at b; exact b))
  | .lst ds, _, h, b => by
    cases h with
    | lst x y => exact .lst x (RepAll.lower ds _ y (by unfold D.under at b; exact b))
  | .rol ds, _, h, b => by
    cases h with
    | rol x y => exact .rol x (RepAll.lower ds _ y (by unfold D.under at b; exact b))
  | .loc m, _, h, b => by
    cases h with
    | loc x => exact .loc (of_decide_eq_true (by unfold D.under at b; exact b))
  | .con _, _, h, _ => by cases h; exact .con
theorem RepAll.lower : ∀ (ds : List D) (vs : List V), RepAll K S mu N vs ds → underL n ds = true → RepAll K S mu n vs ds
  | [], _, h, _ => by cases h; exact .nil
  | d :: ds, _, h, b => by
    cases h with
    | cons x y =>
      unfold underL at b
      rw [Bool.and_eq_true] at b
      exact .cons (RepV.lower d _ x b.1) (RepAll.lower ds _ y b.2)
end
mutual
theorem RepV.is_under : ∀ (d : D) (v : V), RepV K S mu N v d → d.under N = true
  | .non, _, _ => by unfold D.under; rfl
  | .bl _, _, _ => by unfold D.under; rfl
  | .int _, _, _ => by unfold D.under; rfl
  | .str _, _, _ => by unfold D.under; rfl
  | .tup ds, _, h => by
    cases h with
    | tup x y => unfold D.under; exact RepAll.is_under ds _ y
  | .lst ds, _, h => by
    cases h with
    | lst x y => unfold D.under; exact RepAll.is_under ds _ y
  | .rol ds, _, h => by
    cases h with
    | rol x y => unfold D.under; exact RepAll.is_under ds _ y
  | .loc m, _, h => by
    cases h with
    | loc x => unfold D.under; exact decide_eq_true x
  | .con _, _, _ => by unfold D.under; rfl
theorem RepAll.is_under : ∀ (ds : List D) (vs : List V), RepAll K S mu N vs ds → underL N ds = true
  | [], _, _ => by unfold underL; rfl
  | d :: ds, _, h => by
    cases h with
    | cons x y =>
      unfold underL
      rw [RepV.is_under d _ x, RepAll.is_under ds _ y]
      rfl
end
end
/-- the objects ahead of n hold nothing from n on: they stand as they stood, or this is seen -/
def OkCells (n : Nat) (h0 h1 : AH) : Prop := ∀ m o, m < n → h1[m]? = some o → h0[m]? = some o ∨ o.under n = true
def Wd.cut (w : Wd) (n : Nat) : Wd := ⟨w.S, w.F, w.mu, n, w.LK⟩
theorem RepO.under {K : PySem.W.Frag} {w : Wd} {H : Hp} {a : Addr} {o : AO} (r : RepO K w H a o) : o.under w.N = true := by
  cases o with
  | lst ds =>
    obtain ⟨xs, _, ra⟩ := r
    exact RepAll.is_under ds _ ra
  | ins C fs =>
    obtain ⟨_, dx, fv, _, _, _, ra, _⟩ := r
    exact RepAll.is_under _ _ ra
  | dct kvs =>
    obtain ⟨_, _, _, ra⟩ := r
    exact RepAll.is_under _ _ ra
  | lck kvs =>
    obtain ⟨_, _, _, _, _, ra⟩ := r
    exact RepAll.is_under _ _ ra
theorem RepO.lower {K : PySem.W.Frag} {w : Wd} {H : Hp} {a : Addr} {o : AO} {n : Nat} (r : RepO K w H a o) (b : o.under n = true) : RepO K (w.cut n) H a o := by
  cases o with
  | lst ds =>
    obtain ⟨xs, e, ra⟩ := r
    exact ⟨xs, e, RepAll.lower ds _ ra b⟩
  | ins C fs =>
    obtain ⟨Ca, dx, fv, ec, e1, e2, ra, e3⟩ := r
    exact ⟨Ca, dx, fv, ec, e1, e2, RepAll.lower _ _ ra b, e3⟩
  | dct kvs =>
    obtain ⟨kv, e1, e2, ra⟩ := r
    exact ⟨kv, e1, e2, RepAll.lower _ _ ra b⟩
  | lck kvs =>
    obtain ⟨o, kv, e1, e0, e2, ra⟩ := r
    exact ⟨o, kv, e1, e0, e2, RepAll.lower _ _ ra b⟩
/-- a def's own objects are forgotten -/
theorem RepH.cut {K : PySem.W.Frag} {w w1 : Wd} {H H1 : Hp} {h0 h1 : AH} (r0 : RepH K w H h0) (l : Le w w1) (r1 : RepH K w1 H1 h1) (ok : OkCells w.N h0 h1) : RepH K (w1.cut w.N) H1 (h1.take w.N) ∧ Le w (w1.cut w.N) := by
  have hl : w.N ≤ h1.length := by rw [← r1.len]; exact l.n
  refine ⟨⟨r1.ex, ?_, fun m n hm hn e => r1.inj m n (Nat.lt_of_lt_of_le hm l.n) (Nat.lt_of_lt_of_le hn l.n) e, fun m o e => ?_, r1.exF, fun a u e => ⟨(r1.dis a u e).1, fun n hn => (r1.dis a u e).2 n (Nat.lt_of_lt_of_le hn l.n)⟩⟩, l.ex, Nat.le_refl _, l.mu, l.f, l.lk⟩
  · show w.N = _
    rw [List.length_take]
    omega
  · have hm : m < w.N := by
      have := (List.getElem?_eq_some_iff.mp e).1
      rw [List.length_take] at this
      omega
    rw [List.getElem?_take, if_pos hm] at e
    obtain ⟨a, b⟩ := r1.cell m o e
    refine ⟨a, b.lower ?_⟩
    rcases ok m o hm e with q | q
    · obtain ⟨_, c⟩ := r0.cell m o q
      exact c.under
    · exact q
abbrev Fn := List D → AH → Res D
abbrev FnL := List D → AH → Res (List D)
open Classical in
noncomputable def finD (n : Nat) (h0 : AH) (d : D) (h1 : AH) : Res D :=
  if h1.length = n then .ok d h1 else if d.under n = true ∧ OkCells n h0 h1 then .ok d (h1.take n) else .stuck
open Classical in
noncomputable def finX {α : Type} (n : Nat) (h0 : AH) (c : Str) (fs : List (Str × D)) (h1 : AH) : Res α :=
  if h1.length = n then .exc c fs h1 else if underL n (fs.map (·.2)) = true ∧ OkCells n h0 h1 then .exc c fs (h1.take n) else .stuck
open Classical in
noncomputable def finL (n : Nat) (h0 : AH) (d : D) (h1 : AH) : Res (List D) := match d with
  | .loc k => match h1[k]? with
    | some (.lst ds) => if n ≤ k ∧ underL n ds = true ∧ OkCells n h0 h1 then .ok ds (h1.take n) else .stuck
    | _ => .stuck
  | _ => .stuck
/-- a def of n parameters and N slots -/
noncomputable def mDef (n N : Nat) (body : Ms) : Fn := fun ds h => if ds.length = n then
    match body (ds.map some ++ List.replicate (N - n) none) h with
    | .next _ h1 => finD h.length h .non h1
    | .ret d h1 => finD h.length h d h1
    | .exc c fs _ h1 => finX h.length h c fs h1
    | _ => .stuck
  else .stuck
/-- .. that hands back a new list -/
noncomputable def mDefL (n N : Nat) (body : Ms) : FnL := fun ds h => if ds.length = n then
    match body (ds.map some ++ List.replicate (N - n) none) h with
    | .ret d h1 => finL h.length h d h1
    | .exc c fs _ h1 => finX h.length h c fs h1
    | _ => .stuck
  else .stuck
def spM (K : PySem.W.Frag) (mg : Str → Option Value) (m : Fn) : Sp := fun vs H Q E => ∃ w ds h, Ra K w vs ds ∧ RepH K w H h ∧ OutE K mg (fun c dd _ H => E c dd H) w [] Q (m ds h)
def spL (K : PySem.W.Frag) (mg : Str → Option Value) (m : FnL) : Sp := fun vs H Q E => ∃ w ds h, Ra K w vs ds ∧ RepH K w H h ∧ OutF K mg (fun c dd _ H => E c dd H) w [] Q (m ds h)
theorem start_rep {K : PySem.W.Frag} {w : Wd} {N : List Str} {vs : List V} {ds : List D} (ra : Ra K w vs ds) : RepG K w (L2.start N vs) (ds.map some ++ List.replicate (N.length - ds.length) none) := by
  have hl := ra.length
  refine ⟨by simp [L2.start, hl], fun i d e => ?_⟩
  by_cases hi : i < ds.length
  · rw [List.getElem?_append_left (by simpa using hi), List.getElem?_map] at e
    have e2 : ds[i]? = some d := by
      cases q : ds[i]? with
      | none => rw [q] at e; cases e
      | some x =>
        rw [q] at e
        cases e
        rfl
    obtain ⟨v, h1, h2⟩ := ra.get e2
    refine ⟨v, ?_, h2⟩
    unfold L2.start
    rw [List.getElem?_append_left (by simp; omega), List.getElem?_map, h1]
    rfl
  · rw [List.getElem?_append_right (by simp; omega)] at e
    have := List.mem_of_getElem? e
    simp at this
section
variable {P : Program} {w : World} {K : PySem.W.Frag} {mg : Str → Option Value} {base : Heap}
theorem finX_out {α : Type} {W : WX} {w w1 : Wd} {σ σ1 : L2.St} {H : Hp} {G1 : Env} {h0 h1 : AH} {c : Str} {fs : List (Str × D)} (r0 : RepH K w H h0) (o : OutX K mg W w σ c fs h1) : True := trivial
/-- the end of a def that raises -/
theorem out_finX {E : XK} {w : Wd} {H : Hp} {h0 h1 : AH} {G1 : Env} {c : Str} {fs : List (Str × D)} {D : Ends} (r0 : RepH K w H h0)
    (o : (h1.length = w.N → OutX K mg (fun c dd _ H => E c dd H) w [] c fs h1) ∧ (h1.length ≠ w.N → underL w.N (fs.map (·.2)) = true ∧ OkCells w.N h0 h1 ∧ OutX K mg (fun c dd _ H => E c dd H) w [] c fs (h1.take w.N))) :
    OutS K mg (fun c dd _ H => E c dd H) D w (.exc c fs G1 h1) := by
  intro cls dd σ1 w1 H1 e l g r x
  by_cases q : h1.length = w.N
  · exact o.1 q cls dd w1 H1 e l r x
  · obtain ⟨hb, hc, ox⟩ := o.2 q
    obtain ⟨r2, l2⟩ := RepH.cut r0 l r hc
    refine ox cls dd (w1.cut w.N) H1 e l2 r2 ?_
    cases fs with
    | nil => exact x
    | cons f fs =>
      obtain ⟨p, fv, e1, e2, e3, ra⟩ := x
      exact ⟨p, fv, e1, e2, e3, RepAll.lower _ _ ra hb⟩
theorem sp_len {m : Ms} {n N : Nat} {vs : List V} {H : Hp} {Q : VK} {E : XK} (h : spM K mg (mDef n N m) vs H Q E) : vs.length = n := by
  obtain ⟨w, ds, h, ra, r, o⟩ := h
  unfold mDef at o
  split at o
  · rename_i e
    rw [ra.length]
    exact e
  · exact o.elim
theorem sp_start {m : Ms} {n : Nat} {N : List Str} {vs : List V} {H : Hp} {Q : VK} {E : XK} (h : spM K mg (mDef n N.length m) vs H Q E) : tS K mg (fun c dd _ H => E c dd H) m { nx := fun _ H' => Q .non H', rt := Q } (L2.start N vs) H := by
  obtain ⟨w, ds, h, ra, r, o⟩ := h
  unfold mDef at o
  split at o
  · rename_i e
    refine ⟨w, _, h, start_rep ra, r, ?_⟩
    rw [e]
    have fin : ∀ (d : D) (h1 : AH), OutE K mg (fun c dd _ H => E c dd H) w [] Q (finD h.length h d h1) → ∀ v w1 H1, Le w w1 → RepH K w1 H1 h1 → Rv K w1 v d → Q v H1 := by
      intro d h1 o v w1 H1 l r1 rv
      unfold finD at o
      split at o
      · exact o v w1 H1 l r1 rv
      · split at o
        · rename_i c
          rw [← r.len] at o c
          obtain ⟨r2, l2⟩ := RepH.cut r l r1 c.2
          exact o v (w1.cut w.N) H1 l2 r2 (RepV.lower d v rv c.1)
        · exact o.elim
    cases em : m (ds.map some ++ List.replicate (N.length - n) none) h with
    | next G1 h1 =>
      rw [em] at o
      exact fun σ' w1 H1 l g r1 => fin .non h1 o .non w1 H1 l r1 .non
    | ret d h1 =>
      rw [em] at o
      exact fun v w1 H1 l r1 rv => fin d h1 o v w1 H1 l r1 rv
    | brk G1 h1 => rw [em] at o; exact o.elim
    | cont G1 h1 => rw [em] at o; exact o.elim
    | stuck => rw [em] at o; exact o.elim
    | exc c fs G1 h1 =>
      rw [em] at o
      refine out_finX r ?_
      have o : OutE K mg (fun c dd _ H => E c dd H) w [] Q (finX h.length h c fs h1) := o
      unfold finX at o
      rw [← r.len] at o
      split at o
      · rename_i q
        exact ⟨fun _ => o, fun z => absurd q z⟩
      · rename_i q
        split at o
        · rename_i cc
          exact ⟨fun z => absurd z q, fun _ => ⟨cc.1, cc.2, o⟩⟩
        · exact o.elim
  · exact o.elim
theorem fn_ok {x qual : Str} {st : Stmt} {f : Addr} {fd : FuncData} {N ps : List Str} {k : Nat} (F : Fun K x qual st f fd) (S : FnScope N ps (defScope st)) (m : Ms)
    (hb : ∀ (cdv : Value) (A : Around) (outer : List PySem.Env) (s : Shared) (H : Hp) (E : XK), Room k (A.deeper (envOfC qual (defScope st) s.heap.objs.size f cdv)) →
      PSs (cxOf (L2.CX P w) P w K mg base N qual (defScope st) f cdv A outer s H E) (defBody st) (tS K mg (fun c dd _ H => E c dd H) m)) :
    FnOk P w K mg base (L2.CX P w) (k + 1) f fd ps (spM K mg (mDef ps.length N.length m)) :=
  F.okX S (fun vs H Q E h => sp_len h) fun cdv A outer s H vs Q E hr h => ⟨_, hb cdv A outer s H E hr, sp_start h⟩
open Classical in
theorem fn_okL {x qual : Str} {st : Stmt} {f : Addr} {fd : FuncData} {N ps : List Str} {k : Nat} (F : Fun K x qual st f fd) (S : FnScope N ps (defScope st)) (m : Ms)
    (hb : ∀ (cdv : Value) (A : Around) (outer : List PySem.Env) (s : Shared) (H : Hp) (E : XK), Room k (A.deeper (envOfC qual (defScope st) s.heap.objs.size f cdv)) →
      PSs (cxOf (L2.CX P w) P w K mg base N qual (defScope st) f cdv A outer s H E) (defBody st) (tS K mg (fun c dd _ H => E c dd H) m)) :
    FnOk P w K mg base (L2.CX P w) (k + 1) f fd ps (spL K mg (mDefL ps.length N.length m)) := by
  refine F.okX S (fun vs H Q E h => ?_) fun cdv A outer s H vs Q E hr h => ⟨_, hb cdv A outer s H E hr, ?_⟩
  · obtain ⟨w, ds, h, ra, r, o⟩ := h
    unfold mDefL at o
    split at o
    · rename_i e
      rw [ra.length]
      exact e
    · exact o.elim
  · obtain ⟨w, ds, h, ra, r, o⟩ := h
    unfold mDefL at o
    split at o
    · rename_i e
      refine ⟨w, _, h, start_rep ra, r, ?_⟩
      rw [e]
      cases em : m (ds.map some ++ List.replicate (N.length - ps.length) none) h with
      | next G1 h1 => rw [em] at o; exact o.elim
      | ret d h1 =>
        rw [em] at o
        intro v w1 H1 l r1 rv
        have o : OutF K mg (fun c dd _ H => E c dd H) w [] Q (finL h.length h d h1) := o
        cases rv with
        | @loc k _ =>
          have o : OutF K mg (fun c dd _ H => E c dd H) w [] Q (match h1[k]? with
            | some (.lst ds) => if h.length ≤ k ∧ underL h.length ds = true ∧ OkCells h.length h h1 then .ok ds (h1.take h.length) else .stuck
            | _ => .stuck) := o
          split at o
          · rename_i es eh
            split at o
            · rename_i c
              rw [← r.len] at o c
              obtain ⟨r2, l2⟩ := RepH.cut r l r1 c.2.2
              obtain ⟨a, xs, e1, ra1⟩ := r1.cell k _ eh
              have hk : k < w1.N := by
                rw [r1.len]
                exact (List.getElem?_eq_some_iff.mp eh).1
              refine o (w1.mu k) xs (w1.cut w.N) H1 l2 r2 ⟨a, fun n hn z => ?_, ?_⟩ e1 (RepAll.lower es xs ra1 c.2.1)
              · have hn : n < w.N := hn
                have := r1.inj n k (Nat.lt_of_lt_of_le hn l.n) hk z
                omega
              · cases q : w1.F (w1.mu k) with
                | none => exact q
                | some u => exact absurd rfl ((r1.dis _ u q).2 k hk)
            · exact o.elim
          · exact o.elim
        | _ => exact o.elim
      | brk G1 h1 => rw [em] at o; exact o.elim
      | cont G1 h1 => rw [em] at o; exact o.elim
      | stuck => rw [em] at o; exact o.elim
      | exc c fs G1 h1 =>
        rw [em] at o
        refine out_finX r ?_
        have o : OutF K mg (fun c dd _ H => E c dd H) w [] Q (finX h.length h c fs h1) := o
        unfold finX at o
        rw [← r.len] at o
        split at o
        · rename_i q
          exact ⟨fun _ => o, fun z => absurd q z⟩
        · rename_i q
          split at o
          · rename_i cc
            exact ⟨fun z => absurd z q, fun _ => ⟨cc.1, cc.2, o⟩⟩
          · exact o.elim
    · exact o.elim
end

/-! ### calls -/
section
variable {X : Cx} {W : WX} {pos p : Pos} {e : Expr} {es : List Expr} {as : MeL} {x : Str} {k k' : Nat} {f : Addr} {fd : FuncData} {ps : List Str} {m : Fn} {ml : FnL} {ma mb : Me}
theorem e_call (F : FnOk X.prog X.w X.K X.mg X.base (L2.CX X.prog X.w) k f fd ps (spM X.K X.mg m)) (hr : Room k' X.A) (hk' : k ≤ k') (tk : Takes X W) (hm : X.mg x = some (.ref f)) (hk : PySem.W.keepIn X.K (.ref f) = true) (hb : Binds X.K fd ps [])
    (ha : PA X (e :: es) (TAr X W as)) (hg : Gl X x := by rfl) (hdb : (x == ("__debug__" : Str)) = false := by decide) (he : starEach (e :: es) X.env = (false, eval e X.env) :: starEach es X.env := by rfl) (hpl : (backTo pos (starEach es X.env)).any (·.1) = false := by rfl) :
    PE X (.Call (.Name x p) (e :: es) [] pos) (TM X W (mN m as)) := by
  refine (pe_callS F (hr.mono hk') hg hm hk hb (fun σ => passAt tk σ) ha hdb he hpl).wk fun σ H Q ⟨w, G, h, g, r, o⟩ => ⟨w, G, h, g, r, o.bindA fun ds h1 vs w1 H1 l r1 x o1 => ⟨w1, ds, h1, x, r1, ?_⟩⟩
  cases em : m ds h1 with
  | ok d h2 => rw [em] at o1; exact o1
  | exc c fs h2 => rw [em] at o1; exact o1
  | stuck => rw [em] at o1; exact o1
theorem f_call (F : FnOk X.prog X.w X.K X.mg X.base (L2.CX X.prog X.w) k f fd ps (spL X.K X.mg ml)) (hr : Room k' X.A) (hk' : k ≤ k') (tk : Takes X W) (hm : X.mg x = some (.ref f)) (hk : PySem.W.keepIn X.K (.ref f) = true) (hb : Binds X.K fd ps [])
    (ha : PA X (e :: es) (TAr X W as)) (hg : Gl X x := by rfl) (hdb : (x == ("__debug__" : Str)) = false := by decide) (he : starEach (e :: es) X.env = (false, eval e X.env) :: starEach es X.env := by rfl) (hpl : (backTo pos (starEach es X.env)).any (·.1) = false := by rfl) :
    PE X (.Call (.Name x p) (e :: es) [] pos) (TF X W (lN ml as)) := by
  refine (pe_callS F (hr.mono hk') hg hm hk hb (fun σ => passAt tk σ) ha hdb he hpl).wk fun σ H Q ⟨w, G, h, g, r, o⟩ => ⟨w, G, h, g, r, OutF.bindA (m := as) o fun ds h1 vs w1 H1 l r1 x o1 => ⟨w1, ds, h1, x, r1, ?_⟩⟩
  cases em : ml ds h1 with
  | ok d h2 => rw [em] at o1; exact o1
  | exc c fs h2 => rw [em] at o1; exact o1
  | stuck => rw [em] at o1; exact o1

/-! ### the machine's lists, changed -/
/-- o.m(e, ..) of a list -/
def mBM (f : D → List D → AH → Res D) (o : Me) (as : MeL) : Me := fun G h => (o G h).bind fun d h1 => match vL h1 d with
  | some _ => (as G h1).bind fun xs h2 => f d xs h2
  | none => .stuck
def FolM (X : Cx) (W : WX) (f : D → List D → AH → Res D) (r : V → List V → Hp → VK → Prop) : Prop := ∀ (w : Wd) (h : AH) (H : Hp) (σ : L2.St) (Q : VK) (v : V) (d : D) (vs : List V) (ds : List D),
  RepH X.K w H h → Rv X.K w v d → Ra X.K w vs ds → OutE X.K X.mg W w σ Q (f d ds h) → r v vs H Q
variable {o : Expr} {name : Str} {apos cpos : Pos} {bid : String} {r : V → List V → Hp → VK → Prop} {fm : D → List D → AH → Res D}
theorem tyV_L {w : Wd} {H : Hp} {h : AH} {v : V} {d : D} {ds : List D} (rh : RepH X.K w H h) (rv : Rv X.K w v d) (e : vL h d = some ds) : tyV X.K "list" v H := by
  obtain ⟨a, xs, rfl, sq, _⟩ := vL_rep rh rv e
  exact .inl ⟨rfl, xs, sq⟩
theorem e_bm (slot : Slot "list" name bid) (hty : typeOf (.builtin bid) = pure (.type "method_descriptor")) (hm : MtR X bid r) (hf : FolM X W fm r) (ho : PE X o (TM X W ma)) (ha : PA X (e :: es) (TAr X W as))
    (hbase : attributeBase o name X.env (eval o X.env) = eval o X.env := by rfl)
    (hfew : ((backTo cpos (starEach (e :: es) X.env)).all (fun x => !x.1) && (backToKw cpos (keywordEach [] X.env)).all (fun x => x.1.isSome)
      && decide ((e :: es).length + ([] : List Keyword).length + (if ([] : List Keyword).isEmpty then 0 else 1) < 30)) = true := by rfl)
    (hline : (apos.endLine == cpos.line) = true := by rfl) (hs : starEach (e :: es) X.env = (false, eval e X.env) :: starEach es X.env := by rfl) (hplain : (backTo cpos (starEach es X.env)).any (·.1) = false := by rfl) :
    PE X (.Call (.Attribute o name apos) (e :: es) [] cpos) (TM X W (mBM fm ma as)) := by
  refine (pe_bm PySem.F.plainAttrs_list slot hty hm ho ha hbase hfew hline hs hplain).wk fun σ H Q ⟨w, G, h, g, r, o⟩ => ⟨w, G, h, g, r, o.bindE fun d h1 v w1 H1 l r1 x o1 => ?_⟩
  split at o1
  · rename_i ds0 e0
    exact ⟨tyV_L r1 x e0, w1, G, h1, g.mono l, r1, OutE.bindA (m := as) o1 fun ds h2 vs w2 H2 l2 r2 xs o2 => hf w2 h2 H2 σ Q v d vs ds r2 (Rv_mono l2 x) xs o2⟩
  · exact o1.elim
def fApp (d : D) (xs : List D) (h : AH) : Res D := match d, xs with
  | .loc n, [y] => match h[n]? with
    | some (.lst ds) => if ds.length < big then .ok .non (h.set n (.lst (ds ++ [y]))) else .stuck
    | _ => .stuck
  | _, _ => .stuck
def fExt (d : D) (xs : List D) (h : AH) : Res D := match d, xs with
  | .loc n, [y] => match h[n]? with
    | some (.lst ds) => match vR h y with
      | some es => if ds.length + es.length ≤ big then .ok .non (h.set n (.lst (ds ++ es))) else .stuck
      | none => .stuck
    | _ => .stuck
  | _, _ => .stuck
/-- the object at n has a new content -/
theorem out_set {w : Wd} {σ : L2.St} {H : Hp} {Q : VK} {d : D} {h : AH} {v : V} {n : Nat} {xs : List V} {ds : List D} (hn : n < w.N) (o : OutE X.K X.mg W w σ Q (.ok d (h.set n (.lst ds)))) (r : RepH X.K w H h) (rv : Rv X.K w v d) (ra : Ra X.K w xs ds) : Q v (upd H (w.mu n) (.lst xs)) :=
  o v w _ (Le.refl _) (r.set hn ⟨xs, upd_same, ra⟩) rv
theorem fol_app : FolM X W fApp rAppend := by
  intro w h H σ Q v d vs ds rh rv ra o
  unfold fApp at o
  split at o
  · rename_i n y
    split at o
    · rename_i es e
      split at o
      · rename_i c
        cases rv with
        | loc hn =>
          obtain ⟨u, rfl, ru⟩ := ra_one ra
          obtain ⟨_, xs, e1, rx⟩ := rh.cell n _ e
          exact ⟨w.mu n, xs, u, rfl, rfl, e1, big_lt (by rw [rx.length]; exact c), out_set hn o rh .non (rx.append (.cons ru .nil))⟩
      · exact o.elim
    · exact o.elim
  · exact o.elim
def rExt3 : V → List V → Hp → VK → Prop := fun x vs H Q => ∃ l b xs zs, x = .ref l ∧ vs = [.ref b] ∧ H l = some (.lst xs) ∧ Rd H b (.lst zs) ∧ xs.length + zs.length ≤ sizeLine ∧ Q .non (upd H l (.lst (xs ++ zs)))
theorem e_app (ho : PE X o (TM X W ma)) (ha : PA X [e] (TAr X W as))
    (hbase : attributeBase o "append" X.env (eval o X.env) = eval o X.env := by rfl)
    (hfew : ((backTo cpos (starEach [e] X.env)).all (fun x => !x.1) && (backToKw cpos (keywordEach [] X.env)).all (fun x => x.1.isSome)
      && decide (([e] : List Expr).length + ([] : List Keyword).length + (if ([] : List Keyword).isEmpty then 0 else 1) < 30)) = true := by rfl)
    (hline : (apos.endLine == cpos.line) = true := by rfl) (hs : starEach [e] X.env = (false, eval e X.env) :: starEach [] X.env := by rfl) (hplain : (backTo cpos (starEach [] X.env)).any (·.1) = false := by rfl) :
    PE X (.Call (.Attribute o "append" apos) [e] [] cpos) (TM X W (mBM fApp ma as)) :=
  e_bm PySem.F.slot_list_append PySem.F.type_list_append mt_append fol_app ho ha hbase hfew hline hs hplain
/-! o[i] = v of a list -/
def sSub (o i v : Me) : Ms := fun G h => (v G h).toS G fun x h1 => (o G h1).toS G fun d h2 => (i G h2).toS G fun j h3 => match d, j with
  | .loc n, .int k => match h3[n]? with
    | some (.lst ds) => match ixN ds.length k with
      | some m => .next G (h3.set n (.lst (ds.set m x)))
      | none => .stuck
    | _ => .stuck
  | _, _ => .stuck
theorem s_sub {i : Expr} {mv mo mi : Me} {tpos : Pos} {ev : Expr} (hv : PE X ev (TM X W mv)) (ho : PE X o (TM X W mo)) (hi : PE X i (TM X W mi))
    (hs : swapsWithSole [.Subscript o i tpos] ev pos.line X.env = pure false := by rfl) (hw : swappedStores [.Subscript o i tpos] ev X.env = pure none := by rfl)
    (h1 : (assignEach [.Subscript o i tpos] X.env).map (·.2) = [assign (.Subscript o i tpos) X.env] := by rfl)
    (ha : ∀ v, assign (.Subscript o i tpos) X.env v = (do
      let ov ← holding [v] (eval o X.env)
      let iv ← holding [v, ov] (eval i X.env)
      standAt tpos
      holding [v, ov, iv] (setItem ov iv v)
      release [v, ov, iv] []) := by intro _; rfl) : PS X (.Assign [.Subscript o i tpos] ev pos) (TSS X W (sSub mo mi mv)) := by
  refine (ps_asg hv (pg_sub ho hi set_list ha) hs hw h1).wk fun D σ H ⟨w, G, h, g, r, o⟩ => ⟨w, G, h, g, r, OutS.bindE (m := mv) g o fun x h1 v w1 H1 l1 r1 rx o1 => ?_⟩
  have g1 := g.mono l1
  refine ⟨w1, G, h1, g1, r1, OutS.bindE (m := mo) g1 o1 fun d h2 v2 w2 H2 l2 r2 rd o2 => ?_⟩
  have g2 := g1.mono l2
  refine ⟨w2, G, h2, g2, r2, OutS.bindE (m := mi) g2 o2 fun j h3 v3 w3 H3 l3 r3 rj o3 => ?_⟩
  split at o3
  · rename_i n k
    split at o3
    · rename_i ds e
      split at o3
      · rename_i m em
        cases rj
        cases rd with
        | loc hn =>
          obtain ⟨_, xs, e1, rxs⟩ := r3.cell n _ e
          have hn3 : n < w3.N := Nat.lt_of_lt_of_le hn l3.n
          have emu : w3.mu n = w2.mu n := l3.mu n hn
          rw [← emu]
          refine ⟨w3.mu n, xs, k, m, rfl, rfl, e1, by rw [rxs.length]; exact em, ?_⟩
          exact o3 σ w3 _ (Le.refl _) (g2.mono l3) (r3.set hn3 ⟨xs.set m v, upd_same, RepAll.set (Rv_mono (l2.trans l3) rx) m rxs⟩)
      · exact o3.elim
    · exact o3.elim
  · exact o3.elim
/-! raise C() of an own class -/
def sRaise (c : Str) : Ms := fun G h => .exc c [] G h
end
end AB
/-! AB: order over data, sorted. -/
namespace AB
open PySem PySem.Spec PyProof.Rows L2

/-! ### sorted of tuples, empty ones among them -/
section
variable {prog : Program} {w : World} {A : Around} {E : Value → Shared → Prop} {s : Shared}
/-- the first item of a tuple, or none -/
theorem first_of {v : Value} {xs : List PyData} {as : List Addr} (r : Reads s.heap v (.tuple xs) as) : ∃ f : Option Value, (f = none ↔ xs = []) ∧ ∀ (M : Model) (E : Value → Shared → Prop) (Q : Option Value → Shared → Prop), Q f s → wpAny M A (firstOfTuple' v) Q E s := by
  cases r with
  | @tuple a o its n _ _ ho hc hd hr =>
    refine ⟨its[0]?, ?_, fun M E Q hq => ?_⟩
    · have hl := SeqAt.ReadsAll.length _ _ _ hr
      rw [Array.getElem?_eq_none_iff]
      constructor
      · intro h
        have : its.size = 0 := by omega
        have e : xs.length = 0 := by rw [← hl]; simpa using this
        exact List.eq_nil_of_length_eq_zero e
      · intro h
        subst h
        have : its.toList.length = 0 := by simpa using hl
        simp at this
        simp [this]
    · rw [PySem.W.kas_first_eq]
      refine wpAny_bind (PySem.W.Looks.here (show PySem.W.Looks M s.heap (typeOf (.ref a)) o.cls from (PySem.W.Looks.ld ho).andThen .now) ?_)
      rw [hc, if_neg (by first | decide | simp)]
      exact wpAny_bind (listItems_at ho hd (wpAny_pure hq))
theorem firsts_of : ∀ {vs : List Value} {ds : List PyData}, PySem.W.EachIs (fun v d => ∃ as, Reads s.heap v d as) vs ds → (∀ d ∈ ds, ∃ xs, d = .tuple xs) →
    ∃ fs : List (Option Value), ((∃ f ∈ fs, f = none) ↔ ∃ d ∈ ds, d = .tuple []) ∧ ∀ (M : Model) (E : Value → Shared → Prop) (Q : List (Option Value) → Shared → Prop), Q fs s → wpAny M A (vs.mapM firstOfTuple') Q E s
  | _, _, .nil, _ => ⟨[], by simp, fun M E Q hq => by rw [List.mapM_nil]; exact wpAny_pure hq⟩
  | _, _, .cons (a := v) (as := vs) (b := d) (bs := ds) ⟨as, r⟩ t, ht => by
    obtain ⟨fs, h1, h2⟩ := firsts_of t fun d hd => ht d (List.mem_cons_of_mem _ hd)
    obtain ⟨xs, rfl⟩ := ht d List.mem_cons_self
    obtain ⟨f, g1, g2⟩ := first_of (A := A) r
    refine ⟨f :: fs, ?_, fun M E Q hq => ?_⟩
    · constructor
      · rintro ⟨x, hx, e⟩
        rcases List.mem_cons.mp hx with rfl | hx
        · exact ⟨_, List.mem_cons_self, by rw [g1.mp e]⟩
        · obtain ⟨d, hd, e⟩ := h1.mp ⟨x, hx, e⟩
          exact ⟨d, List.mem_cons_of_mem _ hd, e⟩
      · rintro ⟨d, hd, e⟩
        rcases List.mem_cons.mp hd with rfl | hd
        · injection e with e
          exact ⟨f, List.mem_cons_self, g1.mpr e⟩
        · obtain ⟨x, hx, e⟩ := h1.mpr ⟨d, hd, e⟩
          exact ⟨x, List.mem_cons_of_mem _ hx, e⟩
    · rw [List.mapM_cons]
      exact wpAny_bind (g2 M E _ (wpAny_bind (h2 M E (fun bs s' => wpAny M A (pure (f :: bs)) Q E s') (wpAny_pure hq))))
theorem kind_empt {vs : List Value} {ds : List PyData} (e : PySem.W.EachIs (fun v d => ∃ as, Reads s.heap v d as) vs ds) (ht : ∀ d ∈ ds, ∃ xs, d = .tuple xs) (hn : ∃ d ∈ ds, d = .tuple []) :
    ∃ kd : SortKind, (kd = general' ∨ kd = oneType') ∧ ∀ (M : Model) (E : Value → Shared → Prop) {Q : SortKind → Shared → Prop}, Q kd s → wpAny M A (keyKind' vs.toArray) Q E s := by
  obtain ⟨fs, h1, h2⟩ := firsts_of (A := A) e ht
  have hall : (fs.toArray.all fun x => x.isSome) = false := by
    obtain ⟨f, hf, rfl⟩ := h1.mpr hn
    rw [List.all_toArray, List.all_eq_false]
    exact ⟨none, hf, by simp⟩
  by_cases h0 : ((fs.toArray[0]?.bind id).isSome) = true
  · refine ⟨general', .inl rfl, fun M E Q hq => ?_⟩
    rw [PyProof.Rows.kat_kind_eq, List.mapM_toArray, map_eq_pure_bind]
    refine wpAny_bind (wpAny_bind (h2 M E _ (wpAny_pure ?_)))
    rw [if_neg (by rw [hall]; decide), if_pos h0]
    exact wpAny_pure hq
  · have hv : vs ≠ [] := by
      intro z
      subst z
      cases e
      obtain ⟨d, hd, _⟩ := hn
      cases hd
    refine ⟨oneType', .inr rfl, fun M E Q hq => ?_⟩
    rw [PyProof.Rows.kat_kind_eq, List.mapM_toArray, map_eq_pure_bind]
    refine wpAny_bind (wpAny_bind (h2 M E _ (wpAny_pure ?_)))
    rw [if_neg (by rw [hall]; decide), if_neg h0]
    rw [oneTypeOnly'_eq, List.mapM_toArray, map_eq_pure_bind]
    refine wpAny_bind (wpAny_bind (wpAny_bind (PySem.W.kas_mapM (r := Value.type "tuple") _ (fun v hv Q' hq => ?_) (wpAny_pure ?_))))
    · obtain ⟨d, hd, as, r⟩ := e.left v hv
      obtain ⟨xs, rfl⟩ := ht d hd
      exact (PySem.W.looks_reads (M := M) r).here hq
    · cases vs with
      | nil => exact absurd rfl hv
      | cons v vs =>
        have hall2 : ((List.map (fun _ => Value.type "tuple") (v :: vs)).toArray.all fun x => x == Value.type "tuple") = true := by
          simp only [List.all_toArray, List.all_map, List.all_eq_true]
          intro _ _
          exact beq_self_eq_true _
        have h00 : (List.map (fun _ => Value.type "tuple") (v :: vs)).toArray[0]? = some (Value.type "tuple") := by simp
        rw [h00]
        simp only [hall2, if_true]
        exact wpAny_pure (wpAny_pure hq)
theorem call_tuple_lt {Q : Value → Shared → Prop} {l b : Addr} {items items2 : Array Value} {e r : Nat → Bool} (hl : s.heap.IsTuple l items) (hb : s.heap.IsTuple b items2)
    (he : ∀ j (h1 : j < items.size) (h2 : j < items2.size), SeqAt.EqAt A.in1 s items[j] items2[j] (e j)) (hr : ∀ j (h1 : j < items.size) (h2 : j < items2.size), e j = false → SeqAt.RcLt A.in1 s items[j] items2[j] (r j))
    (h : Q (.bool (SeqAt.firstLt e r (decide (items.size < items2.size)) (List.range (min items.size items2.size)))) s) : wpAny (model prog w) A (call (.builtin "tuple.__lt__") [.ref l, .ref b]) Q E s := by
  obtain ⟨⟨cls, dd, data, sl⟩, ho, hc, n, hd⟩ := id hl
  obtain ⟨⟨cls2, dd2, data2, sl2⟩, ho2, hc2, n2, hd2⟩ := id hb
  simp only at hc hd hc2 hd2
  subst hc hd hc2 hd2
  exact call_meets PySem.F.slot_tuple_lt ⟨_, ho, rfl⟩ PySem.F.entry_tuple_lt (PySem.F.args_tuple_lt_2 _ _) (SeqAt.tuple_ltAt l b items items2 n n2 dd dd2 sl sl2 e r) ⟨ho, ho2, he, hr, h⟩
theorem oneLt_tup {f : Bool} {xs ys : List PyData} {a b : Value} {as bs : List Addr} {Q : Bool → Shared → Prop} (ra : Reads s.heap a (.tuple xs) as) (rb : Reads s.heap b (.tuple ys) bs) (h : PySem.W.alike (.tuple xs) (.tuple ys) = true)
    (hu : A.units + min (PyData.tuple xs).depth (PyData.tuple ys).depth < cLine) (hq : Q (PySem.W.dataLt (.tuple xs) (.tuple ys)) s) : wpAny (model prog w) A (oneLt' f a b) Q E s := by
  cases f with
  | false => exact PySem.W.oneLt_alike (fun z => nomatch z) ra rb h (fun z => nomatch z) hu hq
  | true =>
    have hal : PySem.W.alikeAll xs ys = true := by simpa [PySem.W.alike] using h
    cases ra with
    | @tuple l o vs n _ as₁ h1 h2 h3 h4 =>
      cases rb with
      | @tuple l' o' vs' n' _ bs₁ k1 k2 k3 k4 =>
        have n1 : vs.size = xs.length := by simpa using SeqAt.ReadsAll.length _ _ _ h4
        have n2 : vs'.size = ys.length := by simpa using SeqAt.ReadsAll.length _ _ _ k4
        rw [PySem.W.dataLt_tuple, ← PySem.W.firstLt_toks xs ys hal, ← n1, ← n2] at hq
        rw [oneLt'_eq]
        simp only [if_true]
        refine wpAny_bind (wpAny_cRoomFor (by have := hu; omega) ?_)
        refine wpAny_bind (wpAny_callSpecialIfBound?_slot (T := "tuple") ⟨_, h1, h2⟩ PySem.F.slot_tuple_lt (call_tuple_lt (e := SeqAt.pairEq xs ys) (r := fun j => PySem.W.dataLt (xs.getD j .none) (ys.getD j .none)) ⟨_, h1, h2, _, h3⟩ ⟨_, k1, k2, _, k3⟩ (fun j j1 j2 => ?_) (fun j j1 j2 hj => ?_) ?_))
        · have := PySem.W.eqAt_alikeAll xs ys A.in1 s vs.toList vs'.toList _ _ h4 k4 hal (SeqAt.room_in hu) j (by simpa using j1) (by simpa using j2)
          simpa using this
        · have := PySem.W.rcLt_alikeAll xs ys A.in1 s vs.toList vs'.toList _ _ h4 k4 hal (SeqAt.room_in hu) j (by simpa using j1) (by simpa using j2) hj
          simpa using this
        · exact wpAny_truthy_bool hq
theorem keyLt'_general (x y : Value) : keyLt' general' x y = oneLt' false x y := rfl
theorem sorts_empt {vs : List Value} {ds : List PyData} (e : PySem.W.EachIs (fun v d => ∃ as, Reads s.heap v d as) vs ds) (hal : PySem.W.AllAlike ds) (ht : ∀ d ∈ ds, ∃ xs, d = .tuple xs) (hn : ∃ d ∈ ds, d = .tuple []) (hu : ∀ d, d ∈ ds → A.units + d.depth < cLine) :
    PySem.W.SortsAt prog w A s (PySem.W.dataKind s.heap ds) vs := by
  have room : ∀ {d d' : PyData}, d ∈ ds → A.units + min d.depth d'.depth < cLine := fun {d d'} hd => Nat.lt_of_le_of_lt (Nat.add_le_add_left (Nat.min_le_left _ _) _) (hu d hd)
  refine ⟨fun v hv => ?_, ?_⟩
  · obtain ⟨d, hd, as, r⟩ := e.left v hv
    exact ⟨_, PySem.W.dataKind_some hal hd r⟩
  · obtain ⟨kd, hk, hkk⟩ := kind_empt (A := A) e ht hn
    refine ⟨kd, ?_, fun _ E Q hq => hkk _ E hq⟩
    intro E x y a b Q ha hb hq
    obtain ⟨d, as, hd, ra, rfl⟩ := PySem.W.dataKind_inv ha
    obtain ⟨d', as', hd', rb, rfl⟩ := PySem.W.dataKind_inv hb
    obtain ⟨xs, rfl⟩ := ht d hd
    obtain ⟨ys, rfl⟩ := ht d' hd'
    have hq : Q (PySem.W.dataLt (.tuple xs) (.tuple ys)) s := hq
    rcases hk with rfl | rfl
    · rw [keyLt'_general]
      exact oneLt_tup ra rb (hal _ hd _ hd') (room hd) hq
    · rw [keyLt'_oneType]
      exact oneLt_tup ra rb (hal _ hd _ hd') (room hd) hq
end
end AB
/-! AB: sorted, order, index, extend, walks of pairs. -/
namespace AB
open PySem PySem.Spec PyProof.Rows L2

/-! ### sorted of a list -/
def alikeB (ps : List PyData) : Bool := ps.all fun a => ps.all fun b => PySem.W.alike a b
def isTupP : PyData → Bool
  | .tuple _ => true
  | _ => false
def isNonP : PyData → Bool
  | .none => true
  | _ => false
def sortB (ps : List PyData) : Bool := alikeB ps && (ps.all isTupP || ps.all fun d => !isTupP d && !isNonP d) && ps.all SeqAt.shaped && decide (ps.length ≤ big)
def leP (a b : PyData) : Bool := !PySem.W.dataLt b a
theorem alikeB_all {ps : List PyData} (h : alikeB ps = true) : PySem.W.AllAlike ps := by
  unfold alikeB at h
  rw [List.all_eq_true] at h
  intro d hd d' hd'
  have := h d hd
  rw [List.all_eq_true] at this
  exact this d' hd'
def rSortD (K : PySem.W.Frag) : List V → Hp → VK → Prop := fun xs H Q => ∃ (a : Addr) (zs : List (V × PyData)), xs = [.ref a] ∧ SqL K H a (zs.map (·.1)) ∧ (∀ z ∈ zs, Dp K H z.1 z.2) ∧ sortB (zs.map (·.2)) = true ∧
  ∀ l, H l = none → Q (.ref l) (upd H l (.lst ((zs.mergeSort fun a b => leP a.2 b.2).map (·.1))))
theorem each_of {R : Value → β → Prop} {f : β → V} (hR : ∀ u z, RelV (f z) u → R u z) : ∀ {zs : List β} {us : List Value}, Vals (zs.map f) us → PySem.W.EachIs R us zs
  | [], _, h => by cases h; exact .nil
  | z :: zs, _, h => by
    cases h with
    | cons r t => exact .cons (hR _ _ r) (each_of hR t)
theorem vals_of {R : Value → β → Prop} {f : β → V} (hR : ∀ u z, R u z → RelV (f z) u) : ∀ {zs : List β} {us : List Value}, PySem.W.EachIs R us zs → Vals (zs.map f) us
  | _, _, .nil => .nil
  | _, _, .cons r t => .cons (hR _ _ r) (vals_of hR t)
section
variable {X : Cx}
theorem dataLe_leP (k : β → PyData) : PySem.W.dataLe false k = fun a b => leP (k a) (k b) := rfl
theorem each_and {R S : Value → β → Prop} : ∀ {us : List Value} {zs : List β}, PySem.W.EachIs R us zs → (∀ z ∈ zs, ∀ u, R u z → S u z) → PySem.W.EachIs S us zs
  | _, _, .nil, _ => .nil
  | _, _, .cons r t, h => .cons (h _ List.mem_cons_self _ r) (each_and t fun z hz u => h z (List.mem_cons_of_mem _ hz) u)
theorem cr_sortedD (hu : X.A.units + 67 < cLine) : CallR X (.builtin "sorted") (rSortD X.K) := by
  intro pins s σ H vs us Q I r h
  obtain ⟨a, zs, rfl, hs, hd, hsb, q⟩ := h
  obtain ⟨its, rv, hl, hz⟩ := I.list hs
  rw [Vals.ref1 r]
  unfold sortB at hsb
  rw [Bool.and_eq_true, Bool.and_eq_true, Bool.and_eq_true] at hsb
  obtain ⟨⟨⟨hal, hk⟩, hsh⟩, hbig⟩ := hsb
  have hal := alikeB_all hal
  rw [List.all_eq_true] at hsh
  have e1 : PySem.W.EachIs (fun u (z : V × PyData) => RelV z.1 u) its zs := each_of (f := fun z : V × PyData => z.1) (fun u z h => h) rv
  have er : PySem.W.EachIs (fun u (z : V × PyData) => ∃ as, Reads s.heap u z.2 as) its zs := each_and e1 fun z hz u r => Dp.reads I z.2 z.1 u (hd z hz) r
  have hdep : ∀ z ∈ zs, z.2.depth ≤ 64 := fun z hz => SeqAt.depth_of_shaped (hsh _ (List.mem_map_of_mem hz))
  have hL : its.length ≤ sizeLine := by
    rw [← rv.length]
    exact hz
  have fin : ∀ out : List Value, out.length = its.length → PySem.W.EachIs (fun u (z : V × PyData) => RelV z.1 u) out (zs.mergeSort (PySem.W.dataLe false fun z : V × PyData => z.2)) →
      EP X pins σ Q (.ref (s.heap.objs.size + 1)) { s with heap := sortedAll s.heap its (List.toArray out) } := by
    intro out ho eo
    obtain ⟨ep, he'⟩ := PyProof.Rows.sortedAll_at s.heap its out.toArray
    have vo := vals_of (f := fun z : V × PyData => z.1) (fun u z h => h) eo
    rw [dataLe_leP] at vo
    have hlen : ((zs.mergeSort fun a b => leP a.2 b.2).map (·.1)).length ≤ sizeLine := by
      rw [vo.length, ho]
      exact hL
    exact ⟨.ref _, upd H (s.heap.objs.size + 1) (.lst ((zs.mergeSort fun a b => leP a.2 b.2).map (·.1))), I.laid (t' := s.toks) (fun _ _ => PyProof.Rows.sortedAll_old) (Nat.le_succ _) ⟨hlen, out, ep, vo, he'⟩, rfl, q _ (I.hok.fresh (Nat.le_succ _))⟩
  have er' : PySem.W.EachIs (fun v (b : V × PyData) => ∃ as, Reads (PySem.W.sortingHeap (PySem.W.copyHeap s.heap its) (s.heap.objs.size + 1) its) v b.2 as) its zs := er.mono fun _ _ ⟨as, r⟩ => ⟨as, PyProof.Rows.Reads.keeps (fun _ _ => PySem.W.sorting_copy_old) r⟩
  have em := PySem.W.each_map (R := fun v d => ∃ as, Reads (PySem.W.sortingHeap (PySem.W.copyHeap s.heap its) (s.heap.objs.size + 1) its) v d as) (fun z : V × PyData => z.2) er'
  have room : ∀ d ∈ zs.map (·.2), X.A.in1.in1.units + d.depth < cLine := by
    intro d hd'
    obtain ⟨z, hz, rfl⟩ := List.mem_map.mp hd'
    have := hdep z hz
    show X.A.units + 1 + 1 + z.2.depth < cLine
    omega
  have S : PySem.W.SortsAt X.prog X.w X.A.in1.in1 { s with heap := PySem.W.sortingHeap (PySem.W.copyHeap s.heap its) (s.heap.objs.size + 1) its } (PySem.W.dataKind (PySem.W.sortingHeap (PySem.W.copyHeap s.heap its) (s.heap.objs.size + 1) its) (zs.map (·.2))) its := by
    rw [Bool.or_eq_true] at hk
    rcases hk with hk | hk
    · rw [List.all_eq_true] at hk
      have ht : ∀ d ∈ zs.map (·.2), ∃ xs, d = .tuple xs := fun d hd => by
        have := hk d hd
        cases d with
        | tuple xs => exact ⟨xs, rfl⟩
        | _ => cases this
      by_cases hn : ∃ d ∈ zs.map (·.2), d = .tuple []
      · exact sorts_empt (s := { s with heap := PySem.W.sortingHeap (PySem.W.copyHeap s.heap its) (s.heap.objs.size + 1) its }) em hal ht hn room
      · refine PySem.W.SortsAt.data (s := { s with heap := PySem.W.sortingHeap (PySem.W.copyHeap s.heap its) (s.heap.objs.size + 1) its }) em hal (.inl fun d hd => ?_) room
        obtain ⟨xs, rfl⟩ := ht d hd
        cases xs with
        | nil => exact absurd ⟨_, hd, rfl⟩ hn
        | cons x r => exact ⟨x, r, rfl⟩
    · rw [List.all_eq_true] at hk
      refine PySem.W.SortsAt.data (s := { s with heap := PySem.W.sortingHeap (PySem.W.copyHeap s.heap its) (s.heap.objs.size + 1) its }) em hal (.inr fun d hd => ?_) room
      have := hk d hd
      constructor
      · rintro rfl
        exact absurd this (by decide)
      · rintro xs rfl
        exact absurd this (by simp [isTupP])
  exact PySem.W.sorted_vals hl.isList S hL (fin _ (by rw [PySem.W.sortVals_length false rfl]) (PySem.W.sortVals_data false e1 er' hal))
end
/-- the items of a list, sorted -/
def sortD (ds : List D) (ps : List PyData) : List D := ((ds.zip ps).mergeSort fun a b => leP a.2 b.2).map (·.1)
def fSorted (xs : List D) (h : AH) : Res (List D) := match xs with
  | [d] => match vL h d with
    | some ds => match toPs ds with
      | some ps => if sortB ps = true then .ok (sortD ds ps) h else .stuck
      | none => .stuck
    | none => .stuck
  | _ => .stuck
theorem toPs_len : ∀ {ds : List D} {ps : List PyData}, toPs ds = some ps → ps.length = ds.length
  | [], ps, e => by cases e; rfl
  | d :: ds, ps, e => by
    unfold toPs at e
    split at e
    · rename_i p qs e1 e2
      cases e
      rw [List.length_cons, List.length_cons, toPs_len e2]
    · cases e
theorem ra_mem {K : PySem.W.Frag} {w : Wd} {T : List (V × D × PyData)} (h : ∀ t ∈ T, Rv K w t.1 t.2.1) : Ra K w (T.map (·.1)) (T.map (·.2.1)) := by
  induction T with
  | nil => exact .nil
  | cons t T ih => exact .cons (h t List.mem_cons_self) (ih fun x hx => h x (List.mem_cons_of_mem _ hx))
theorem trip {K : PySem.W.Frag} {w : Wd} {H : Hp} (ex : Ext w.S H) : ∀ {vs : List V} {ds : List D} {ps : List PyData}, Ra K w vs ds → toPs ds = some ps → ∃ T : List (V × D × PyData), vs = T.map (·.1) ∧ ds = T.map (·.2.1) ∧ ps = T.map (·.2.2) ∧ ∀ t ∈ T, Rv K w t.1 t.2.1 ∧ Dp K H t.1 t.2.2
  | _, _, ps, .nil, e => by
    cases e
    exact ⟨[], rfl, rfl, rfl, fun t h => nomatch h⟩
  | _, _, ps, .cons (v := v) (vs := vs) (d := d) (ds := ds) a b, e => by
    unfold toPs at e
    split at e
    · rename_i p qs e1 e2
      cases e
      obtain ⟨T, rfl, rfl, rfl, hT⟩ := trip ex b e2
      refine ⟨(v, d, p) :: T, rfl, rfl, rfl, fun t ht => ?_⟩
      rcases List.mem_cons.mp ht with rfl | ht
      · exact ⟨a, toP_rep ex d v p a e1⟩
      · exact hT t ht
    · cases e
section
variable {X : Cx} {W : WX} {pos p : Pos} {e : Expr} {es : List Expr} {as : MeL} {ma mb : Me}
theorem fol_sorted : FolF X W fSorted (rSortD X.K) := by
  intro w h H σ Q vs ds rh ra o
  unfold fSorted at o
  split at o
  · rename_i d
    obtain ⟨v, rfl, rv⟩ := ra_one ra
    split at o
    · rename_i es ev
      split at o
      · rename_i ps ep
        split at o
        · rename_i c
          obtain ⟨a, xs, rfl, sq, ra2⟩ := vL_rep rh rv ev
          obtain ⟨T, rfl, rfl, rfl, hT⟩ := trip rh.ex ra2 ep
          refine ⟨a, T.map fun t => (t.1, t.2.2), rfl, by rw [List.map_map]; exact sq, fun z hz => ?_, by rw [List.map_map]; exact c, fun l hl => ?_⟩
          · obtain ⟨t, ht, rfl⟩ := List.mem_map.mp hz
            exact (hT t ht).2
          · refine out_new o rh hl ?_
            have e1 : ((T.map fun t => (t.1, t.2.2)).mergeSort fun a b => leP a.2 b.2).map (·.1) = (T.mergeSort fun a b => leP a.2.2 b.2.2).map (·.1) := by
              rw [← List.map_mergeSort (r := fun a b => leP a.2.2 b.2.2) (f := fun t : V × D × PyData => (t.1, t.2.2)) (fun _ _ _ _ => rfl), List.map_map]
              rfl
            have e2 : sortD (T.map (·.2.1)) (T.map (·.2.2)) = (T.mergeSort fun a b => leP a.2.2 b.2.2).map (·.2.1) := by
              unfold sortD
              have ez : (T.map (·.2.1)).zip (T.map (·.2.2)) = T.map fun t => (t.2.1, t.2.2) := by
                rw [List.zip_map']
              rw [ez, ← List.map_mergeSort (r := fun a b => leP a.2.2 b.2.2) (f := fun t : V × D × PyData => (t.2.1, t.2.2)) (fun _ _ _ _ => rfl), List.map_map]
              rfl
            rw [e1, e2]
            refine ra_mem fun t ht => (hT t ?_).1
            exact (List.mergeSort_perm T _).mem_iff.mp ht
        · exact o.elim
      · exact o.elim
    · exact o.elim
  · exact o.elim
theorem f_sorted (hu : X.A.units + 67 < cLine) (hm : X.mg "sorted" = none) (ha : PA X [e] (TAr X W as)) (hg : Gl X "sorted" := by rfl) (he : starEach [e] X.env = (false, eval e X.env) :: starEach [] X.env := by rfl) : PE X (.Call (.Name "sorted" p) [e] [] pos) (TF X W (lN fSorted as)) :=
  f_blt (cr_sortedD hu) fol_sorted hm ha hg (by decide +kernel) (by decide) (by decide) he rfl
/-! ### < of data -/
def lrD (h : AH) (x y : D) : Option (PyData × PyData) := match okP h x, okP h y with
  | some p, some q => if PySem.W.alike p q = true ∧ isNonP p = false then some (p, q) else none
  | _, _ => none
def fLtD (x y : D) (h : AH) : Res D := match lrD h x y with
  | some (p, q) => .ok (.bl (PySem.W.dataLt p q)) h
  | none => .stuck
def fGtD (x y : D) (h : AH) : Res D := match lrD h x y with
  | some (p, q) => .ok (.bl (PySem.W.dataLt q p)) h
  | none => .stuck
def fLeD (x y : D) (h : AH) : Res D := match lrD h x y with
  | some (p, q) => .ok (.bl (!PySem.W.dataLt q p)) h
  | none => .stuck
def fGeD (x y : D) (h : AH) : Res D := match lrD h x y with
  | some (p, q) => .ok (.bl (!PySem.W.dataLt p q)) h
  | none => .stuck
def rLtD (K : PySem.W.Frag) (f : PyData → PyData → Bool) : R2 := fun x y H Q => ∃ d e, Dp K H x d ∧ Dp K H y e ∧ PySem.W.alike d e = true ∧ d ≠ .none ∧ d.depth ≤ 64 ∧ Q (.bl (f d e)) H
theorem room_min {A : Around} {d e : PyData} (h : d.depth ≤ 64) (hu : A.units + 65 < cLine) : A.units + min d.depth e.depth < cLine := by
  have := Nat.min_le_left d.depth e.depth
  omega
theorem op_ltD (hu : X.A.units + 65 < cLine) : OpR X (compareOp .Lt) (rLtD X.K fun d e => PySem.W.dataLt d e) := by
  intro pins s σ H x y v u Q I rx ry h
  obtain ⟨d, e, hd, he, ha, hn, hdep, q⟩ := h
  obtain ⟨as, r1⟩ := Dp.reads I d x v hd rx
  obtain ⟨bs, r2⟩ := Dp.reads I e y u he ry
  exact PySem.W.lt_data r1 r2 ha hn (room_min hdep hu) ⟨.bl _, H, I, rfl, q⟩
theorem op_gtD (hu : X.A.units + 65 < cLine) : OpR X (compareOp .Gt) (rLtD X.K fun d e => PySem.W.dataLt e d) := by
  intro pins s σ H x y v u Q I rx ry h
  obtain ⟨d, e, hd, he, ha, hn, hdep, q⟩ := h
  obtain ⟨as, r1⟩ := Dp.reads I d x v hd rx
  obtain ⟨bs, r2⟩ := Dp.reads I e y u he ry
  exact PySem.W.gt_data r1 r2 ha hn (room_min hdep hu) ⟨.bl _, H, I, rfl, q⟩
theorem op_leD (hu : X.A.units + 65 < cLine) : OpR X (compareOp .LtE) (rLtD X.K fun d e => !PySem.W.dataLt e d) := by
  intro pins s σ H x y v u Q I rx ry h
  obtain ⟨d, e, hd, he, ha, hn, hdep, q⟩ := h
  obtain ⟨as, r1⟩ := Dp.reads I d x v hd rx
  obtain ⟨bs, r2⟩ := Dp.reads I e y u he ry
  exact PySem.W.le_data r1 r2 ha hn (room_min hdep hu) ⟨.bl _, H, I, rfl, q⟩
theorem op_geD (hu : X.A.units + 65 < cLine) : OpR X (compareOp .GtE) (rLtD X.K fun d e => !PySem.W.dataLt d e) := by
  intro pins s σ H x y v u Q I rx ry h
  obtain ⟨d, e, hd, he, ha, hn, hdep, q⟩ := h
  obtain ⟨as, r1⟩ := Dp.reads I d x v hd rx
  obtain ⟨bs, r2⟩ := Dp.reads I e y u he ry
  exact PySem.W.ge_data r1 r2 ha hn (room_min hdep hu) ⟨.bl _, H, I, rfl, q⟩
theorem fol_ltD {f : PyData → PyData → Bool} {g : D → D → AH → Res D} (hg : ∀ x y h, g x y h = match lrD h x y with
  | some (p, q) => .ok (.bl (f p q)) h
  | none => .stuck) : Fol2 X W g (rLtD X.K f) := by
  intro w h H σ Q v1 v2 d1 d2 rh r1 r2 o
  rw [hg] at o
  split at o
  · rename_i p q e
    unfold lrD at e
    split at e
    · rename_i p' q' e1 e2
      split at e
      · rename_i c
        cases e
        obtain ⟨a1, a2⟩ := okP_some e1
        obtain ⟨b1, b2⟩ := okP_some e2
        exact ⟨_, _, toPh_rep rh r1 a1, toPh_rep rh r2 b1, c.1, fun z => by rw [z] at c; exact absurd c.2 (by decide), SeqAt.depth_of_shaped a2, out_ok o rh (.bl _)⟩
      · cases e
    · cases e
  · exact o.elim
end
end AB
/-! AB: enumerate of lists and tuples. -/
namespace AB
open PySem PySem.Spec PyProof.Rows L2
open Sem (wp)

set_option maxHeartbeats 4000000 in
theorem meets_enumerate_new1 {v : Value} {o : Obj} {H : Heap → Prop} (B : Begins v o H) :
    Meets (Builtin.«enumerate.__new__» ⟨[.type "enumerate", v], []⟩) (fun _ R s => H s.heap ∧
      R (.ok (.ret (.ref (s.heap.push o).objs.size))) { s with heap := (s.heap.push o).push { cls := .type "enumerate", data := .fields #[.none, .bool false, .ref s.heap.objs.size, rawInt 0, .none, .none] } }) :=
  .of_wp fun prog w A R s h => by
    obtain ⟨hp, g, d, tk, os⟩ := s; obtain ⟨h1, h⟩ := h
    have hsub := sub_enumerate
    have q1 : ∀ {A' : Around} {E : Value → Shared → Prop} {Q : Value → Shared → Prop}, Q (.ref hp.objs.size) ⟨hp.push o, g, d, tk, os⟩ → wpAny (model prog w) A' (pyIter v) Q E ⟨hp, g, d, tk, os⟩ :=
      fun q => B.iter prog w _ _ ⟨hp, g, d, tk, os⟩ _ h1 q
    wp_walk using q1
    refine wpAny_stack_any fun st => wpAny_pure ?_
    split
    · rename_i c _ _ _ _ _
      cases (c == Value.type "enumerate")
      · wp_walk using q1
        exact ⟨_, rfl, h⟩
      · wp_walk using q1
        exact ⟨_, rfl, h⟩
    · wp_walk using q1
      exact ⟨_, rfl, h⟩
section
variable {prog : Program} {w : World} {A : Around} {E : Value → Shared → Prop} {s : Shared}
theorem enum_begins1 {v : Value} {o : Obj} {H : Heap → Prop} {Q : Value → Shared → Prop} (B : Begins v o H) (h1 : H s.heap)
    (h : ∀ h', IsEnum h' (s.heap.objs.size + 1) s.heap.objs.size 0 .none → h'.get? s.heap.objs.size = some o → h'.objs.size = s.heap.objs.size + 2 →
      (∀ b o, s.heap.get? b = some o → h'.get? b = some o) → Q (.ref (s.heap.objs.size + 1)) { s with heap := h' }) :
    wpAny (model prog w) A (call (.type "enumerate") [v]) Q E s := by
  refine callType_new F.called_enumerate (by decide) (F.typeCall_enumerate_1 _) (F.newCall_enumerate_1 _) (fun obj => F.args_object_init_2 obj _) F.entry_enumerate_new
    (meets_enumerate_new1 B) ⟨h1, ?_⟩
  have hz : (s.heap.push o).objs.size = s.heap.objs.size + 1 := Heap.size_push ..
  show _ ∧ _
  rw [hz]
  have he : IsEnum ((s.heap.push o).push { cls := .type "enumerate", data := .fields #[.none, .bool false, .ref s.heap.objs.size, rawInt 0, .none, .none] }) (s.heap.objs.size + 1) s.heap.objs.size 0 .none := by
    have := Heap.get?_push_size (s.heap.push o) (o := { cls := .type "enumerate", data := .fields #[.none, .bool false, .ref s.heap.objs.size, rawInt 0, .none, .none] }) rfl
    rw [hz] at this; exact this
  refine ⟨⟨_, he, rfl⟩, h _ he (Heap.get?_push_of_some _ (Heap.get?_push_size _ B.free)) (by rw [Heap.size_push, hz]) fun b o x => Heap.get?_push_of_some _ (Heap.get?_push_of_some _ x)⟩
end

/-- the tuple at a as it stands at each turn, each item in a new pair -/
def IteT (K : PySem.W.Frag) (a : Addr) : It :=
  ⟨fun i H => ∃ (xs : List V) (x : V), SqT K H a xs ∧ xs[i]? = some x, fun i H v H' => ∃ T x, v = .ref T ∧ H T = none ∧ H' = upd H T (.tup [.int (i : Nat), x]) ∧ ∀ xs, SqT K H a xs → xs[i]? = some x, fun i H => ∃ xs : List V, SqT K H a xs ∧ xs.length ≤ i⟩
theorem turn_enumT {P : Program} {w : World} {K : PySem.W.Frag} {elts : List Expr} {kk : Nat} {tpos : Pos} (a e it : Addr) :
    Turn P w K (.Tuple elts kk tpos) (IteT K a) [e, it] e (fun i h => (∃ old, IsEnum h e it ((i : Nat) : Int) old) ∧ h.IsTupleIter it a i ∧ e ≠ it ∧ a ≠ it ∧ a ≠ e) where
  mem := by simp
  obj := fun i h st b hb => by
    obtain ⟨⟨old, he⟩, ⟨o, ho, hc, hd⟩, _⟩ := st
    have e' : b = e ∨ b = it := by simpa using hb
    rcases e' with z | z
    · rw [z]; exact ⟨_, he, fun v q => nomatch q⟩
    · rw [z]; exact ⟨o, ho, fun v q => by rw [hd] at q; cases q⟩
  keep := fun i h h' st k => let ⟨⟨old, he⟩, hi, hne⟩ := st; ⟨⟨old, k e (by simp) _ he⟩, hi.at fun o q => k it (by simp) o q, hne⟩
  item := by
    intro X hP hw hK hc i pins s σ H E I hf st hg
    subst hP hw hK
    obtain ⟨⟨old, he⟩, hit, hne, hai, hae⟩ := st
    obtain ⟨xs, x, hq, hx⟩ := hg
    obtain ⟨its, rv, p, hz⟩ := I.tuple hq
    obtain ⟨u, hu, ru⟩ := rv.get hx
    have hel : e < s.heap.objs.size := Heap.lt_size he
    have hil : it < s.heap.objs.size := by obtain ⟨_, q, _⟩ := hit; exact Heap.lt_size q
    have hlt : i < its.toArray.size := by
      rw [List.size_toArray]
      exact (List.getElem?_eq_some_iff.mp hu).1
    refine wpAny_pyNext_enum_itemD (Draws.tuple (A := X.A.in1) (I.ok.hd hc) it a hai its.toArray) he ⟨hit, p⟩ hlt hne (by simp [hne, Ne.symm hae]) fun y h' tk hy ho hst hT hsz hk => ?_
    have ey : y = u := by
      have hy : its.toArray[i]? = some y := hy
      have hu' : its.toArray[i]? = some u := by simpa using hu
      rw [hu'] at hy
      exact (Option.some.inj hy).symm
    subst ey
    refine ⟨_, rfl, wpAny_letOwnedTupleGo_enum (s := { s with heap := h', toks := tk + 1 }) ho fun h'' he' sb => ?_⟩
    have hT2 : h''.get? s.heap.objs.size = some { cls := .type "tuple", data := .seq #[.int i tk, y] } := (sb.2 _ (Nat.ne_of_gt hel)).trans hT
    have new : ObjOk X.prog X.w (upd H s.heap.objs.size (.tup [.int (i : Nat), x])) h'' s.heap.objs.size (.tup [.int (i : Nat), x]) :=
      ⟨by show 2 ≤ sizeLine; decide, [.int i tk, y], .cons ⟨_, rfl⟩ (.cons ru .nil), ⟨_, hT2, rfl, _, rfl⟩⟩
    have I1 : Inv X pins σ (upd H s.heap.objs.size (.tup [.int (i : Nat), x])) { s with heap := h'', toks := tk + 1 } :=
      I.turnedNew (ch := [e, it]) (fun b ob hb q => (sb.2 b (fun z => hb (by simp [z]))).trans (hk b ob (fun z => hb (by simp [z])) (fun z => hb (by simp [z])) q)) hf (Nat.le_refl _) new
    refine ⟨.ref s.heap.objs.size, _, I1, rfl, ⟨_, x, rfl, I.hok.fresh (Nat.le_refl _), rfl, fun ys hy => by rw [I.tuple_inj hy hq]; exact hx⟩, ⟨⟨y, ?_⟩, hst.1.at fun o q => (sb.2 it (Ne.symm hne)).trans q, hne, hai, hae⟩, fun b hb => ?_⟩
    · have e1 : ((i + 1 : Nat) : Int) = (i : Int) + 1 := by omega
      rw [e1]; exact he'
    · have hb' : b < s.heap.objs.size := by
        have e' : b = e ∨ b = it := by simpa using hb
        rcases e' with z | z
        · rw [z]; exact hel
        · rw [z]; exact hil
      rw [upd_ne (Nat.ne_of_lt hb')]
      exact (hf b hb).1
  done := by
    intro X hP hw hK hc i pins s σ H E I hf st hg
    subst hP hw hK
    obtain ⟨⟨old, he⟩, hit, hne, hai, hae⟩ := st
    obtain ⟨xs, hq, hx⟩ := hg
    obtain ⟨its, rv, p, hz⟩ := I.tuple hq
    obtain ⟨f0, f1, f2, f3, f4, f5⟩ := hf it (by simp)
    have hl := rv.length
    have hsize : its.toArray.size ≤ i := by rw [List.size_toArray]; omega
    obtain ⟨T, hT⟩ : ∃ T : Array Value, T.size = i ∧ True := ⟨Array.replicate i .none, by simp, trivial⟩
    unfold pyNext
    have hTy : s.TypeIs (.ref e) "enumerate" := ⟨_, he, rfl⟩
    refine wpAny_bind (wpAny_attempt (wpAny_callSpecial?_slot (name := Str.ofString "__next__") hTy F.slot_enumerate_next
      (wpAny_call_entry F.slot_enumerate_next hTy F.entry_enumerate_next ?_ (F.args_enumerate_next_1 _))))
    show wpAny _ _ (field (.ref e) 2 >>= _) _ _ _
    refine wpAny_bind (wpAny_field he rfl (x := .ref it) rfl ?_)
    refine wpAny_bind (wpAny_nextOf_tuple_end (A := X.A.in1) (I.ok.hd hc) hit p (by simpa using hsize) fun h' x he' hx' => ?_)
    obtain ⟨o, ho, hc'⟩ := hx'
    refine wpAny_bind (wpAny_isInstance (T := "StopIteration") (b := true) ⟨o, ho, hc'⟩ isSubtype_stop ?_)
    exact wpAny_pure ⟨rfl, I.turned (t' := s.toks) (fun b o hb q => he' b o hb q) f0 f1 f3 f4 f5⟩
  self := fun A i s Q E st h => let ⟨⟨_, he⟩, _⟩ := st; wpAny_pyIter_enum he h
def iEnumA (K : PySem.W.Frag) (ta : TA) : TI := fun σ H R => ta σ H fun vs H1 => ∃ a xs, vs = [.ref a] ∧ ((SqL K H1 a xs ∧ R (Ite K a) H1) ∨ (SqT K H1 a xs ∧ R (IteT K a) H1))
theorem pi_enumA {X : Cx} {e : Expr} {ta : TA} {p pos tpos : Pos} {elts : List Expr} {kk : Nat} (hg : Gl X "enumerate") (hm : X.mg "enumerate" = none) (ha : PA X [e] ta) (hs : starEach [e] X.env = [(false, eval e X.env)] := by rfl) :
    PI X (.Tuple elts kk tpos) (.Call (.Name "enumerate" p) [e] [] pos) (iEnumA X.K ta) := by
  refine ⟨fun pins s σ H R I h => ?_⟩
  refine Call_ (ld_blt I hg hm boot_enumerate (PyProof.Rows.callWith_type1 (thn (ha.run pos pins s σ H _ I h) fun us s1 ⟨vs, H1, I1, r1, q1⟩ => ?_) hs rfl))
  obtain ⟨a, xs, ex, q1⟩ := q1
  subst ex
  cases r1 with
  | cons r rr =>
    cases rr
    cases r
    have fresh2 : ∀ b, b ∈ [s1.heap.objs.size + 1, s1.heap.objs.size] → FpOk X pins H1 b := fun b hb => by
      have e' : b = s1.heap.objs.size + 1 ∨ b = s1.heap.objs.size := by simpa using hb
      have hle : s1.heap.objs.size ≤ b := by
        rcases e' with z | z
        · rw [z]; exact Nat.le_add_right _ _
        · rw [z]; exact Nat.le_refl _
      exact I1.fpOk hle (I1.hok.fresh hle)
    rcases q1 with ⟨hq, q⟩ | ⟨hq, q⟩
    · obtain ⟨its, rv, p', hz⟩ := I1.list hq
      refine call_enumerate_list p'.isList fun h' he hit hsz hk => wpAny_pyIter_enum he ?_
      have I2 : Inv X pins σ H1 { s1 with heap := h' } := I1.kept (t' := s1.toks) hk
      exact ⟨s1.heap.objs.size + 1, [s1.heap.objs.size + 1, s1.heap.objs.size], _, _, H1, rfl, I2, turn_enum a (s1.heap.objs.size + 1) s1.heap.objs.size, ⟨⟨.none, he⟩, hit, Nat.succ_ne_self _⟩, fresh2, q⟩
    · obtain ⟨its, rv, p', hz⟩ := I1.tuple hq
      have hal : a < s1.heap.objs.size := by
        obtain ⟨o, ho, _⟩ := p'
        exact Heap.lt_size ho
      refine enum_begins1 (begins_tuple a its.toArray) p' fun h' he hit hsz hk => wpAny_pyIter_enum he ?_
      have I2 : Inv X pins σ H1 { s1 with heap := h' } := I1.kept (t' := s1.toks) hk
      exact ⟨s1.heap.objs.size + 1, [s1.heap.objs.size + 1, s1.heap.objs.size], _, _, H1, rfl, I2, turn_enumT a (s1.heap.objs.size + 1) s1.heap.objs.size, ⟨⟨.none, he⟩, ⟨_, hit, rfl, rfl⟩, Nat.succ_ne_self _, Nat.ne_of_lt hal, Nat.ne_of_lt (Nat.lt_succ_of_lt hal)⟩, fresh2, q⟩
end AB
/-! AB: walks of pairs, ranges down, extend. -/
namespace AB
open PySem PySem.Spec PyProof.Rows L2

section
variable {X : Cx} {W : WX} {tg e e2 a b c : Expr} {as : MeL} {p pos tpos : Pos} {elts : List Expr} {kk : Nat} {K : PySem.W.Frag}
def pairsD (as bs : List D) : List D := (as.zip bs).map fun p => D.tup [p.1, p.2]
def enumD (ds : List D) : List D := pairsD (rangeD 0 ds.length) ds
/-- lists that are not changed -/
def vI : D → Option (List D)
  | .lst ds => some ds
  | .rol ds => some ds
  | _ => none
theorem vI_rep {w : Wd} {v : V} {d : D} {ds : List D} (rv : Rv K w v d) (e : vI d = some ds) : ∃ a xs, v = .ref a ∧ SqL K w.S a xs ∧ Ra K w xs ds := by
  cases rv with
  | lst a b => cases e; exact ⟨_, _, rfl, .inl a, b⟩
  | rol a b => cases e; exact ⟨_, _, rfl, a, b⟩
  | _ => cases e
def iZip (as : MeL) : Im := fun G h => (as G h).bind fun xs h1 => match xs with
  | [.tup ds, .tup es] => .ok (pairsD ds es, none) h1
  | [d, e] => match vI d, vI e with
    | some ds, some es => .ok (pairsD ds es, none) h1
    | _, _ => .stuck
  | _ => .stuck
theorem walk_zipT {a b : Addr} {xs ys : List V} : Walk (RZ.ItzT K a b) (min xs.length ys.length) (fun H => SqT K H a xs ∧ SqT K H b ys) (YPair (fun i => xs[i]?) (fun i => ys[i]?)) := by
  refine ⟨fun i _ hi q => ?_, fun _ q => ⟨xs, ys, q.1, q.2, by omega⟩, fun i H v H' _ q y => ?_⟩
  · have h1 : i < xs.length := by omega
    have h2 : i < ys.length := by omega
    exact ⟨xs, ys, xs[i], ys[i], q.1, q.2, by simp [h1], by simp [h2]⟩
  · obtain ⟨T, x, z, h1, h2, h3, h4, h5⟩ := y
    exact ⟨T, x, z, h1, h2, h3, h4 xs q.1, h5 ys q.2⟩
theorem i_zip (hm : X.mg "zip" = none) (ha : PA X [e, e2] (TAr X W as)) (hg : Gl X "zip" := by rfl)
    (hs : starEach [e, e2] X.env = (false, eval e X.env) :: starEach [e2] X.env := by rfl) (hpl : (backTo pos (starEach [e2] X.env)).any (·.1) = false := by rfl) :
    PI X (.Tuple elts kk tpos) (.Call (.Name "zip" p) [e, e2] [] pos) (tI X W (iZip as)) := by
  refine (RZ.pi_zipA hg hm ha hs hpl).wk fun σ H R ⟨w, G, h, g, r, o⟩ => ⟨w, G, h, g, r, OutI.bindA (as := as) o fun d h2 v w1 H1 em l r1 x o1 => ?_⟩
  split at o1
  · rename_i ds es
    obtain ⟨v, v2, rfl, rv, rv2⟩ := ra_two x
    cases rv with
    | @tup p1 xs _ a1 b1 =>
      cases rv2 with
      | @tup p2 ys _ a2 b2 =>
        exact ⟨p1, p2, xs, ys, rfl, .inr ⟨r1.ex.t a1, r1.ex.t a2, o1 _ w1 H1 (Le.refl _) r1 (Walks.zip b1 b2 fun w' H' h' l r => ⟨_, ⟨r.ex.t (l.ex.t a1), r.ex.t (l.ex.t a2)⟩, walk_zipT⟩)⟩⟩
  · split at o1
    · rename_i ds es e1 e2
      obtain ⟨v, v2, rfl, rv, rv2⟩ := ra_two x
      obtain ⟨p1, xs, rfl, a1, b1⟩ := vI_rep rv e1
      obtain ⟨p2, ys, rfl, a2, b2⟩ := vI_rep rv2 e2
      exact ⟨p1, p2, xs, ys, rfl, .inl ⟨r1.ex.l a1, r1.ex.l a2, o1 _ w1 H1 (Le.refl _) r1 (Walks.zip b1 b2 fun w' H' h' l r => ⟨_, ⟨r.ex.l (l.ex.l a1), r.ex.l (l.ex.l a2)⟩, walk_zip rfl⟩)⟩⟩
    · exact o1.elim
  · exact o1.elim
/-! enumerate -/
def iEnum (as : MeL) : Im := fun G h => (as G h).bind fun xs h1 => match xs with
  | [.tup ds] => .ok (enumD ds, none) h1
  | [d] => match vI d with
    | some ds => .ok (enumD ds, none) h1
    | none => .stuck
  | _ => .stuck
theorem walk_enumT {a : Addr} {xs : List V} : Walk (IteT K a) xs.length (fun H => SqT K H a xs) (YPair (fun i => some (.int (i : Nat))) (fun i => xs[i]?)) := by
  refine ⟨fun i _ hi q => ⟨xs, xs[i], q, by simp [hi]⟩, fun _ q => ⟨xs, q, Nat.le_refl _⟩, fun i H v H' _ q y => ?_⟩
  obtain ⟨T, x, h1, h2, h3, h4⟩ := y
  exact ⟨T, .int (i : Nat), x, h1, h2, h3, rfl, h4 xs q⟩
/-- the numbers of a range as values -/
def rangeV (n : Nat) : List V := (List.range n).map fun i : Nat => V.int (i : Int)
theorem rangeV_rep {w : Wd} : ∀ (ns : List Nat), Ra K w (ns.map fun i : Nat => V.int (i : Int)) (ns.map fun i : Nat => D.int (0 + (i : Int)))
  | [] => .nil
  | n :: ns => .cons (by show RepV K w.S w.mu w.N (V.int (n : Int)) (D.int (0 + (n : Int))); rw [Int.zero_add]; exact .int _) (rangeV_rep ns)
theorem rangeV_get {n i : Nat} (h : i < n) : (rangeV n)[i]? = some (V.int (i : Int)) := by
  unfold rangeV
  rw [List.getElem?_map, List.getElem?_range h]
  rfl
theorem Walks.enum {w : Wd} {J : It} {ds : List D} {xs : List V} (h1 : Ra K w xs ds)
    (hw : ∀ w' H' h', LeX w w' → RepH K w' H' h' → ∃ G : Hp → Prop, G H' ∧ Walk J xs.length G (YPair (fun i => some (.int (i : Nat))) (fun i => xs[i]?))) : Walks K J w (enumD ds) none := by
  have l1 := h1.length
  have hl : (rangeV ds.length).length = xs.length := by unfold rangeV; simp [l1]
  refine Walks.zip (rangeV_rep (List.range ds.length)) h1 fun w' H' h' l r => ?_
  obtain ⟨G, g, wk⟩ := hw w' H' h' l r
  refine ⟨G, g, ?_⟩
  have e : min (List.map (fun i : Nat => V.int (i : Int)) (List.range ds.length)).length xs.length = xs.length := by
    simp [l1]
  rw [e]
  refine wk.mono (fun _ q => q) fun i H x H' hi _ y => ?_
  obtain ⟨T, x, z, q1, q2, q3, q4, q5⟩ := y
  refine ⟨T, x, z, q1, q2, q3, ?_, q5⟩
  have q4 : some (V.int (i : Int)) = some x := q4
  rw [← q4]
  exact rangeV_get (by omega)
theorem i_enum (hm : X.mg "enumerate" = none) (ha : PA X [e] (TAr X W as)) (hg : Gl X "enumerate" := by rfl)
    (hs : starEach [e] X.env = [(false, eval e X.env)] := by rfl) :
    PI X (.Tuple elts kk tpos) (.Call (.Name "enumerate" p) [e] [] pos) (tI X W (iEnum as)) := by
  refine (pi_enumA hg hm ha hs).wk fun σ H R ⟨w, G, h, g, r, o⟩ => ⟨w, G, h, g, r, OutI.bindA (as := as) o fun d h2 v w1 H1 em l r1 x o1 => ?_⟩
  split at o1
  · obtain ⟨v, rfl, rv⟩ := ra_one x
    cases rv with
    | @tup p1 xs _ a1 b1 =>
      exact ⟨p1, xs, rfl, .inr ⟨r1.ex.t a1, o1 _ w1 H1 (Le.refl _) r1 (Walks.enum b1 fun w' H' h' l r => ⟨_, r.ex.t (l.ex.t a1), walk_enumT⟩)⟩⟩
  · split at o1
    · rename_i ds e1
      obtain ⟨v, rfl, rv⟩ := ra_one x
      obtain ⟨p1, xs, rfl, a1, b1⟩ := vI_rep rv e1
      exact ⟨p1, xs, rfl, .inl ⟨r1.ex.l a1, o1 _ w1 H1 (Le.refl _) r1 (Walks.enum b1 fun w' H' h' l r => ⟨_, r.ex.l (l.ex.l a1), walk_enum⟩)⟩⟩
    · exact o1.elim
  · exact o1.elim
/-! range(i, j, -1) -/
def downD (lo : Int) (n : Nat) : List D := (List.range n).map fun i : Nat => D.int (lo + (i : Int) * (-1))
theorem Walks.down {w : Wd} {lo : Int} {n : Nat} : Walks K (Itc lo (-1) n) w (downD lo n) none := by
  have hl : (downD lo n).length = n := by simp [downD]
  refine ⟨fun i w' H' h' hi l r _ => ?_, fun w' H' h' l r _ => ?_, fun i x w' H' H2 h' d hd l r _ y => ?_⟩
  · rw [hl] at hi
    exact hi
  · rw [hl]
    exact Nat.le_refl n
  · obtain ⟨rfl, rfl⟩ := y
    have hi : i < n := by
      rw [← hl]
      exact (List.getElem?_eq_some_iff.mp hd).1
    unfold downD at hd
    rw [List.getElem?_map, List.getElem?_range hi] at hd
    cases hd
    exact ⟨w', Le.refl _, r, .int _⟩
noncomputable def iDown (as : MeL) : Im := fun G h => (as G h).bind fun xs h1 => match xs with
  | [.int i, .int j, .int k] => if k = -1 ∧ okR2 i j then .ok (downD i (i - j).toNat, none) h1 else .stuck
  | _ => .stuck
theorem ra_three {w : Wd} {vs : List V} {d d2 d3 : D} (r : Ra K w vs [d, d2, d3]) : ∃ v v2 v3, vs = [v, v2, v3] ∧ Rv K w v d ∧ Rv K w v2 d2 ∧ Rv K w v3 d3 := by
  cases r with
  | cons a b =>
    cases b with
    | cons c d => cases d with
      | cons e f => cases f; exact ⟨_, _, _, rfl, a, c, e⟩
theorem i_down (hm : X.mg "range" = none) (ha : PA X [a, b, c] (TAr X W as)) (hg : Gl X "range" := by rfl)
    (hs : starEach [a, b, c] X.env = (false, eval a X.env) :: starEach [b, c] X.env := by rfl) (hpl : (backTo pos (starEach [b, c] X.env)).any (·.1) = false := by rfl) : PI X tg (.Call (.Name "range" p) [a, b, c] [] pos) (tI X W (iDown as)) := by
  refine (pi_range3 hg hm ha hs hpl).wk fun σ H R ⟨w, G, h, g, r, o⟩ => ⟨w, G, h, g, r, OutI.bindA (as := as) o fun d h2 v w1 H1 em l r1 x o1 => ?_⟩
  split at o1
  · rename_i i j k
    split at o1
    · rename_i cc
      obtain ⟨rfl, cc⟩ := cc
      have cc : -1000000 ≤ i ∧ i ≤ 1000000 ∧ j ≤ 1000000 ∧ -1000000 ≤ j := cc
      obtain ⟨v, v2, v3, rfl, rv, rv2, rv3⟩ := ra_three x
      cases rv
      cases rv2
      cases rv3
      exact ⟨i, j, -1, _, rfl, RgC.neg (by omega) (by omega) (by omega) (by omega), o1 _ w1 H1 (Le.refl _) r1 Walks.down⟩
    · exact o1.elim
  · exact o1.elim
/-! l.extend(xs), xs a list -/
variable {o : Expr} {ma : Me} {apos cpos : Pos}
theorem mt_extendR : MtM X "list.extend" rExt3 := by
  intro pins s σ H x vs v us Q I rx rv h
  obtain ⟨l, b, xs, zs, rfl, rfl, hH, hB, hz, q⟩ := h
  cases rx
  obtain ⟨u, rfl, ru⟩ := rv.one
  cases ru
  obtain ⟨z, its, n, r, hl, e⟩ := I.lstM hH
  obtain ⟨z2, its2, n2, r2, e2⟩ := hB.ok I.hok
  have hl2 := r2.length
  have hsz : its.toArray.size + its2.toArray.size ≤ sizeLine := by rw [List.size_toArray, List.size_toArray]; omega
  have hlong : ¬ (!its.toArray.isEmpty && Builtin.List.listTooLong (its.toArray.size + its2.toArray.size)) = true := by
    rw [notLongL hsz, Bool.and_false]
    exact Bool.false_ne_true
  refine call_meets F.slot_list_extend ⟨_, e, rfl⟩ F.entry_list_extend (F.args_list_extend_2 _ _)
    (AutoSeq1.list_extend_list_list_0 l its.toArray n b its2.toArray n2 hlong (by rw [List.size_toArray]; omega) (by omega)) ⟨e, e2, ?_⟩
  refine ⟨.non, _, I.lset (its' := its ++ its2) hH e (by simp) (r.append r2) ?_, rfl, q⟩
  rw [List.length_append]
  omega
theorem fol_ext : FolM X W fExt rExt3 := by
  intro w h H σ Q v d vs ds rh rv ra o
  unfold fExt at o
  split at o
  · rename_i n y
    split at o
    · rename_i es e
      split at o
      · rename_i fs e3
        split at o
        · rename_i c
          cases rv with
          | loc hn =>
            obtain ⟨u, rfl, ru⟩ := ra_one ra
            obtain ⟨_, xs, e1, rx⟩ := rh.cell n _ e
            obtain ⟨b, zs, rfl, hB, rz⟩ := vR_rep rh ru e3
            exact ⟨w.mu n, b, xs, zs, rfl, rfl, e1, hB, big_le (by rw [rx.length, rz.length]; exact c), out_set hn o rh .non (rx.append rz)⟩
        · exact o.elim
      · exact o.elim
    · exact o.elim
  · exact o.elim
theorem e_ext (ho : PE X o (TM X W ma)) (ha : PA X [e] (TAr X W as))
    (hbase : attributeBase o "extend" X.env (eval o X.env) = eval o X.env := by rfl)
    (hfew : ((backTo cpos (starEach [e] X.env)).all (fun x => !x.1) && (backToKw cpos (keywordEach [] X.env)).all (fun x => x.1.isSome)
      && decide (([e] : List Expr).length + ([] : List Keyword).length + (if ([] : List Keyword).isEmpty then 0 else 1) < 30)) = true := by rfl)
    (hline : (apos.endLine == cpos.line) = true := by rfl) (hs : starEach [e] X.env = (false, eval e X.env) :: starEach [] X.env := by rfl) (hplain : (backTo cpos (starEach [] X.env)).any (·.1) = false := by rfl) :
    PE X (.Call (.Attribute o "extend" apos) [e] [] cpos) (TM X W (mBM fExt ma as)) :=
  e_bm PySem.F.slot_list_extend PySem.F.type_list_extend mt_extendR fol_ext ho ha hbase hfew hline hs hplain
end
end AB
/-! AB: what the printed texts use. -/
namespace AB
open PySem PySem.Spec PyProof.Rows L2

/-- the def x keeps its mirror's promise -/
structure Has (P : Program) (w : World) (K : PySem.W.Frag) (mg : Str → Option Value) (base : Heap) (x : Str) (k : Nat) (ps : List Str) (sp : Sp) : Prop where
  ex : ∃ f fd, mg x = some (.ref f) ∧ PySem.W.keepIn K (.ref f) = true ∧ Binds K fd ps [] ∧ FnOk P w K mg base (L2.CX P w) k f fd ps sp
theorem hu65 {k : Nat} {A : Around} (hr : Room k A) : A.units + 65 < cLine := by
  have := hr.un
  omega
theorem hu64 {k : Nat} {A : Around} (hr : Room k A) : A.units + 64 < cLine := by
  have := hr.un
  omega
theorem hu67 {k : Nat} {A : Around} (hr : Room k A) : A.units + 67 < cLine := by
  have := hr.un
  omega
section
variable {X : Cx} {W : WX} {pos p : Pos} {e : Expr} {es : List Expr} {as : MeL} {x : Str} {k k' : Nat} {ps : List Str} {m : Fn} {ml : FnL}
theorem e_callH (F : Has X.prog X.w X.K X.mg X.base x k ps (spM X.K X.mg m)) (hr : Room k' X.A) (tk : Takes X W)
    (ha : PA X (e :: es) (TAr X W as)) (hk' : k ≤ k' := by first | decide | omega) (hg : Gl X x := by rfl) (hdb : (x == ("__debug__" : Str)) = false := by decide) (he : starEach (e :: es) X.env = (false, eval e X.env) :: starEach es X.env := by rfl) (hpl : (backTo pos (starEach es X.env)).any (·.1) = false := by rfl) :
    PE X (.Call (.Name x p) (e :: es) [] pos) (TM X W (mN m as)) := by
  obtain ⟨f, fd, h1, h2, h3, h4⟩ := F.ex
  exact e_call h4 hr hk' tk h1 h2 h3 ha hg hdb he hpl
theorem f_callH (F : Has X.prog X.w X.K X.mg X.base x k ps (spL X.K X.mg ml)) (hr : Room k' X.A) (tk : Takes X W)
    (ha : PA X (e :: es) (TAr X W as)) (hk' : k ≤ k' := by first | decide | omega) (hg : Gl X x := by rfl) (hdb : (x == ("__debug__" : Str)) = false := by decide) (he : starEach (e :: es) X.env = (false, eval e X.env) :: starEach es X.env := by rfl) (hpl : (backTo pos (starEach es X.env)).any (·.1) = false := by rfl) :
    PE X (.Call (.Name x p) (e :: es) [] pos) (TF X W (lN ml as)) := by
  obtain ⟨f, fd, h1, h2, h3, h4⟩ := F.ex
  exact f_call h4 hr hk' tk h1 h2 h3 ha hg hdb he hpl
theorem e_globI {i : Int} (hm : ∃ t : Tok, X.mg x = some (.int i t)) (hg : Gl X x := by rfl) (hd : (x == ("__debug__" : Str)) = false := by decide) : PE X (.Name x pos) (TM X W (mC (.int i))) := by
  obtain ⟨t, hm⟩ := hm
  exact e_glob (v := .int i) hm ⟨t, rfl⟩ (fun _ => .int i) hg hd
/-! < of ints, else of data -/
def isII (x y : D) : Option (Int × Int) := match x, y with
  | .int i, .int j => some (i, j)
  | _, _ => none
def oII (f : Int → Int → Bool) (g : D → D → AH → Res D) (x y : D) (h : AH) : Res D := match isII x y with
  | some (i, j) => .ok (.bl (f i j)) h
  | none => g x y h
def cLt : D → D → AH → Res D := oII (fun i j => decide (i < j)) fLtD
def cLe : D → D → AH → Res D := oII (fun i j => decide (i ≤ j)) fLeD
def cGt : D → D → AH → Res D := oII (fun i j => decide (j < i)) fGtD
def cGe : D → D → AH → Res D := oII (fun i j => decide (j ≤ i)) fGeD
def rII (K : PySem.W.Frag) (f : Int → Int → Bool) (g : PyData → PyData → Bool) : R2 := fun x y H Q => rI0 (fun i j => .bl (f i j)) x y H Q ∨ rLtD K g x y H Q
theorem fol_ii {f : Int → Int → Bool} {g : PyData → PyData → Bool} {gg : D → D → AH → Res D} (hg : Fol2 X W gg (rLtD X.K g)) : Fol2 X W (oII f gg) (rII X.K f g) := by
  intro w h H σ Q v1 v2 d1 d2 rh r1 r2 o
  unfold oII at o
  split at o
  · rename_i i j e
    have : d1 = .int i ∧ d2 = .int j := by
      cases d1 <;> cases d2 <;> first | (cases e; exact ⟨rfl, rfl⟩) | cases e
    obtain ⟨rfl, rfl⟩ := this
    cases r1
    cases r2
    exact .inl ⟨i, j, rfl, rfl, out_ok o rh (.bl _)⟩
  · exact .inr (hg w h H σ Q v1 v2 d1 d2 rh r1 r2 o)
theorem op_cLt (hu : X.A.units + 65 < cLine) : OpR X (compareOp .Lt) (rII X.K (fun i j => decide (i < j)) fun d e => PySem.W.dataLt d e) := OpR.or op_lt (op_ltD hu)
theorem op_cLe (hu : X.A.units + 65 < cLine) : OpR X (compareOp .LtE) (rII X.K (fun i j => decide (i ≤ j)) fun d e => !PySem.W.dataLt e d) := OpR.or op_le (op_leD hu)
theorem op_cGt (hu : X.A.units + 65 < cLine) : OpR X (compareOp .Gt) (rII X.K (fun i j => decide (j < i)) fun d e => PySem.W.dataLt e d) := OpR.or op_gt (op_gtD hu)
theorem op_cGe (hu : X.A.units + 65 < cLine) : OpR X (compareOp .GtE) (rII X.K (fun i j => decide (j ≤ i)) fun d e => !PySem.W.dataLt d e) := OpR.or op_ge (op_geD hu)
theorem fol_cLt : Fol2 X W cLt (rII X.K (fun i j => decide (i < j)) fun d e => PySem.W.dataLt d e) := fol_ii (fol_ltD fun _ _ _ => rfl)
theorem fol_cLe : Fol2 X W cLe (rII X.K (fun i j => decide (i ≤ j)) fun d e => !PySem.W.dataLt e d) := fol_ii (fol_ltD (f := fun d e => !PySem.W.dataLt e d) fun _ _ _ => rfl)
theorem fol_cGt : Fol2 X W cGt (rII X.K (fun i j => decide (j < i)) fun d e => PySem.W.dataLt e d) := fol_ii (fol_ltD (f := fun d e => PySem.W.dataLt e d) fun _ _ _ => rfl)
theorem fol_cGe : Fol2 X W cGe (rII X.K (fun i j => decide (j ≤ i)) fun d e => !PySem.W.dataLt d e) := fol_ii (fol_ltD (f := fun d e => !PySem.W.dataLt d e) fun _ _ _ => rfl)
end
section
variable {X : Cx} {x : Str} {pos : Pos} {i kk : Nat} {e : Expr} {es : List Expr} {p : Pat} {ps : List Pat}
theorem pg_nmP (hN : X.N.Nodup) (hi : X.N[i]? = some x) (hx : Loc X.env.scope x := by first | exact Or.inl rfl | exact Or.inr rfl) (hf : X.fn x = true ∨ X.env.scope.names.lookup x = some .local := by first | exact .inl rfl | exact .inr rfl) : PG X (.Name x pos) (gP X.K (.nm i)) := by
  unfold gP
  exact pg_name hN hi hx hf
theorem pgs_nilP : PGs X [] (gPs X.K []) := by
  unfold gPs
  exact pgs_nil
theorem pgs_consP (h1 : PG X e (gP X.K p)) (h2 : PGs X es (gPs X.K ps)) (hs : (assignEach (e :: es) X.env).map (·.2) = assign e X.env :: (assignEach es X.env).map (·.2) := by rfl) : PGs X (e :: es) (gPs X.K (p :: ps)) := by
  unfold gPs
  exact pgs_cons h1 h2 hs
theorem pg_tpP (hc : X.calm = true) (h : PGs X es (gPs X.K ps)) (hn : (assignEach es X.env).length = ps.length := by rfl) (hst : (assignEach es X.env).findIdx? (·.1) = none := by rfl) : PG X (.Tuple es kk pos) (gP X.K (.tp ps)) := by
  unfold gP
  exact pg_tup hc h hn hst
end
theorem p_yes {X : Cx} {W : WX} : PTs X [] (TTT X W tYesM) := ⟨fun pins s σ H Q I ⟨w, G, h, g, r, o⟩ => pts_nil.run pins s σ H Q I (o w H (Le.refl _) r)⟩
theorem ints_rep {K : PySem.W.Frag} {w : Wd} : ∀ (ns : List Int), Ra K w (ns.map V.int) (ns.map D.int)
  | [] => .nil
  | n :: ns => .cons (.int n) (ints_rep ns)
/-- the end: the mirror of law, from the script -/
def spLaw (K : PySem.W.Frag) : Sp := fun vs H Q _ => ∃ (a : Addr) (ns : List Int), vs = [.ref a] ∧ SqL K H a (ns.map V.int) ∧ ns.length ≤ 63 ∧ ∀ H', Q (.bl true) H'
theorem sp_law {K : PySem.W.Frag} {mg : Str → Option Value} {m : Fn} (ht : ∀ ns : List Int, ns.length ≤ 63 → ∃ h, m [.rol (ns.map D.int)] [] = .ok (.bl true) h) {vs : List V} {H : Hp} {Q : VK} {E : XK} (h : spLaw K vs H Q E) : spM K mg m vs H Q E := by
  obtain ⟨a, ns, rfl, hS, hl, hQ⟩ := h
  obtain ⟨h, e⟩ := ht ns hl
  refine ⟨⟨H, fun _ => none, fun _ => 0, 0, fun _ => none⟩, [.rol (ns.map D.int)], [], .cons (.rol hS (ints_rep ns)) .nil, ⟨Ext.refl _, rfl, fun m n hm _ _ => absurd hm (Nat.not_lt_zero _), fun n o e => (by simp at e), fun _ _ e => (by cases e), fun _ _ e => (by cases e)⟩, ?_⟩
  rw [e]
  intro v w' H' l r x
  cases x
  exact hQ H'
end AB
/-! AB: repr in the law's own def, which knows that nothing is guarded. -/
namespace AB
open PySem PySem.Spec PyProof.Rows L2

section
variable {X : Cx} {W : WX} {pos p : Pos} {e : Expr} {as : MeL}
def isSeqP : PyData → Bool
  | .tuple _ => true
  | .list _ => true
  | _ => false
def fRepr (xs : List D) (h : AH) : Res D := match xs with
  | [d] => match toPh h d with
    | some p => if isSeqP p = true ∧ p.showable = true ∧ p.hasDict = false ∧ p.depth ≤ 60 ∧ p.shown.length ≤ big then .ok (.str p.shown) h else .stuck
    | none => .stuck
  | _ => .stuck
def rReprD (K : PySem.W.Frag) : List V → Hp → VK → Prop := fun xs H Q => ∃ x d, xs = [x] ∧ Dp K H x d ∧ isSeqP d = true ∧ d.showable = true ∧ d.hasDict = false ∧ d.depth ≤ 60 ∧ d.shown.length ≤ sizeLine ∧ Q (.str d.shown) H
theorem cr_repr (hg : X.A.guards = some []) (hu : X.A.units + 65 < cLine) : CallR X (.builtin "repr") (rReprD X.K) := by
  intro pins s σ H xs us Q I r h
  obtain ⟨x, d, rfl, hd, hs, h1, h2, h3, h4, q⟩ := h
  obtain ⟨u, rfl, ru⟩ := r.one
  obtain ⟨as, rd⟩ := Dp.reads I d x u hd ru
  have hr : ∃ a, u = .ref a := by
    cases hd with
    | tup _ _ => cases ru; exact ⟨_, rfl⟩
    | lst _ _ => cases ru; exact ⟨_, rfl⟩
    | _ => cases hs
  obtain ⟨a, rfl⟩ := hr
  exact repr_of_reads' rd h1 (fun z => by rw [h2] at z; cases z) hg (by omega) (fun _ _ e => e) (fun h' u tk hk => ⟨.str d.shown, H, I.kept hk, ⟨u, rfl⟩, q⟩) h4
theorem fol_repr : FolN X W fRepr (rReprD X.K) := by
  intro w h H σ Q vs ds rh ra o
  unfold fRepr at o
  split at o
  · obtain ⟨v, rfl, rv⟩ := ra_one ra
    split at o
    · rename_i pd e
      split at o
      · rename_i c
        obtain ⟨c1, c2, c3, c4, c5⟩ := c
        exact ⟨v, pd, rfl, toPh_rep rh rv e, c1, c2, c3, c4, big_le c5, out_ok o rh (.str _)⟩
      · exact o.elim
    · exact o.elim
  · exact o.elim
theorem e_repr (gd : X.A.guards = some []) (hu : X.A.units + 65 < cLine) (hm : X.mg "repr" = none) (ha : PA X [e] (TAr X W as)) (hg : Gl X "repr" := by rfl) (he : starEach [e] X.env = (false, eval e X.env) :: starEach [] X.env := by rfl) :
    PE X (.Call (.Name "repr" p) [e] [] pos) (TM X W (mN fRepr as)) :=
  e_blt (cr_repr gd hu) fol_repr hm ha hg (by decide +kernel) (by decide) (by decide) he rfl
end
/-! != of texts -/
def fNeS (x y : D) (h : AH) : Res D := match x, y with
  | .str i, .str j => .ok (.bl (i != j)) h
  | _, _ => .stuck
theorem op_neS {X : Cx} : OpR X (compareOp .NotEq) (fun x y H Q => ∃ i j, x = .str i ∧ y = .str j ∧ Q (.bl (i != j)) H) := by
  intro pins s σ H x y v u Q I rx ry h
  obtain ⟨i, j, rfl, rfl, q⟩ := h
  obtain ⟨t, rfl⟩ := rx
  obtain ⟨t', rfl⟩ := ry
  exact PyProof.Rows.ne_str ⟨.bl _, H, I, rfl, q⟩
theorem fol_neS {X : Cx} {W : WX} : Fol2 X W fNeS (fun x y H Q => ∃ i j, x = .str i ∧ y = .str j ∧ Q (.bl (i != j)) H) := by
  intro w h H σ Q v1 v2 d1 d2 rh r1 r2 o
  unfold fNeS at o
  split at o
  · cases r1
    cases r2
    exact ⟨_, _, rfl, rfl, out_ok o rh (.bl _)⟩
  · exact o.elim
@[simp] theorem v_neS {h : AH} (x : Str) : fNeS (.str x) (.str x) h = .ok (.bl false) h := by
  show Res.ok (D.bl (x != x)) h = _
  simp
/-- the law's def, called as the claim calls it -/
def LawAt (P : Program) (w : World) (K : PySem.W.Frag) (mg : Str → Option Value) (base : Heap) (CX : CXT) (f : Addr) (fd : FuncData) (ps : List Str) (sp : Sp) : Prop :=
  ∀ (s : Shared) (H : Hp) (args : Args) (us : List Value) (vs : List V) (Q : VK) (E : XK), Env0 P w K mg base callerA [] s H → BindsTo s fd args (ps.zip us) → Vals vs us → sp vs H Q E →
    codeAny (model P w) callerA (.call (.ref f) args) (CR CX [] P w H s Q E) s
/-- .. by its body -/
theorem law_of {CX : CXT} {P : Program} {w : World} {K : PySem.W.Frag} {mg : Str → Option Value} {base : Heap} {k : Nat} {f : Addr} {x qual : Str} {st : Stmt} {fd : FuncData} {N ps : List Str} {sp : Sp}
    (F : Fun K x qual st f fd) (S : FnScope N ps (defScope st)) (hr : Room (k + 1) callerA)
    (len : ∀ vs H Q E, sp vs H Q E → vs.length = ps.length)
    (hbody : ∀ (cdv : Value) (s : Shared) (H : Hp) (vs : List V) (Q : VK) (E : XK), Room k (callerA.deeper (envOfC qual (defScope st) s.heap.objs.size f cdv)) → sp vs H Q E →
      ∃ t, PSs (cxOf CX P w K mg base N qual (defScope st) f cdv callerA [] s H E) (defBody st) t ∧ t { nx := fun _ H' => Q .non H', rt := Q } (L2.start N vs) H) :
    LawAt P w K mg base CX f fd ps sp := by
  obtain ⟨oc, od, kV, doc, pm, an, cdv, ct, osl, rfl, lk, hcd⟩ := F.ex
  intro s H args us vs Q E e0 hb r hsp
  have hl := len _ _ _ _ hsp
  have keepB : ∀ b o, base.get? b = some o → s.heap.get? b = some o := fun b o e => (e0.bs b o e).1
  have KX : K.In s.heap := e0.mod.kin.keeps keepB
  have lim : s.heap.NoLimit := e0.mod.nolimit.keeps keepB
  have kinds : ∀ y ∈ ps.zip us, (defScope st).names.lookup y.1 = some .local ∨ ((defScope st).names.lookup y.1 = some .cell ∧ ((cellsFrom (s.heap.objs.size + 1) (defScope st).names []).lookup y.1).isSome = true) := by
    rintro ⟨n, v⟩ hy
    exact (S.par n (List.of_mem_zip hy).1).imp id fun q => ⟨q, PySem.W.cellsFrom_some _ _ _ (.inl q)⟩
  refine codeAny_call_function hr.depth (KX _ _ lk) rfl S.co S.gen rfl (PySem.W.codeRec_of KX hcd) (hb _ _ _ _ (wpAny_newFunctionEnv_cells S.kind kinds fun env he s1 x => ?_))
  subst he
  refine ⟨lim.keeps x.toInCall.keep, codeAny_func ?_⟩
  obtain ⟨t, ht, hq⟩ := hbody cdv s H vs Q E (hr.deeper _) hsp
  refine wpAny_mono (ht.run [] s1 (L2.start N vs) H _ (inv_start S hr.hd e0 hl r x) hq) (fun fl s' hs => ?_) fun e s' hs => hs
  cases fl with
  | ret u =>
    obtain ⟨v, σ', H', J, rv, q⟩ := hs
    exact ⟨v, H', J.os, J.bare, J.base, J.hok, rv, q⟩
  | next =>
    obtain ⟨σ', H', J, q⟩ := hs
    exact ⟨.non, H', J.os, J.bare, J.base, J.hok, rfl, q⟩
  | brk => obtain ⟨_, _, _, q⟩ := hs; exact q.elim
  | cont => obtain ⟨_, _, _, q⟩ := hs; exact q.elim

/-- the script as the only thing that is tracked, or one of the module's own objects -/
theorem law_callC {P : Program} {w : World} {K : PySem.W.Frag} {mg mb : Str → Option Value} {CX : CXT} {fa a : Addr} {fd : FuncData} {x : Str} {sp : Sp} {s₁ : Shared} {vs : List Value} {ns : List Int}
    (KX : K.In s₁.heap) (hns : s₁.heap.Ns mainGlobals mg) (hb : s₁.heap.Ns builtinsNs mb) (hbb : ∀ x : Str, x ≠ "__name__" → mb x = bootBuiltins x) (hlim : s₁.heap.NoLimit) (hg : s₁.gens = #[])
    (ha : s₁.heap.get? a = some { cls := .type "list", data := .seq vs.toArray }) (hi : IntsAre vs ns) (hl : ns.length ≤ sizeLine)
    (F : ∀ base : Heap, K.In base → base.Ns mainGlobals mg → LawAt P w K mg base CX fa fd [x] sp) (hbind : ∀ (s : Shared) (u : Value), BindsTo s fd ⟨[u], []⟩ [(x, u)])
    (hsp : ∀ H : Hp, Only H → SqL K H a (ns.map V.int) → sp [.ref a] H (fun v _ => v = .bl true) fun _ _ _ => False)
    (hCX : ∀ H e s', CX [] H s₁ (fun _ _ _ => False) e s' → False) :
    codeAny (model P w) callerA (.call (.ref fa) ⟨[.ref a], []⟩) (fun r s' => r = .ok (.ret (.bool true)) ∧ OldK s₁.heap s'.heap ∧ s'.os = s₁.os ∧ AllBare s'.gens) s₁ := by
  have rv := vals_ints hi
  have lenV := hi.length
  have core : ∀ H : Hp, Only H → SqL K H a (ns.map V.int) → HOk P w H s₁.heap → (∀ b, H b ≠ none → b = a) → (H a ≠ none → K.lookup a = none) →
      codeAny (model P w) callerA (.call (.ref fa) ⟨[.ref a], []⟩) (fun r s' => r = .ok (.ret (.bool true)) ∧ OldK s₁.heap s'.heap ∧ s'.os = s₁.os ∧ AllBare s'.gens) s₁ := by
    intro H hO hS hok hA hK
    have none_of : ∀ {b : Addr}, b ≠ a → H b = none := fun {b} hb => by
      cases q : H b with
      | none => rfl
      | some u => exact absurd (hA b (by rw [q]; simp)) hb
    have dict_none : ∀ {b : Addr} {o : Obj} {es : Array DictEntry} {ep : Nat}, s₁.heap.get? b = some o → o.data = .dict es ep → H b = none := fun {b o es ep} e d => none_of fun z => by
      subst z
      rw [ha] at e
      cases e
      have d' : Data.seq vs.toArray _ = Data.dict es ep := d
      cases d'
    have ns_hid : ∀ {b : Addr} {m : Str → Option Value}, s₁.heap.Ns b m → (hidT s₁.heap H).Ns b m := fun {b m} ⟨o, es, ep, e, d, r⟩ => ⟨o, es, ep, hidT_get e (dict_none e d), d, r⟩
    have hKb : K.In (hidT s₁.heap H) := fun b o e => hidT_get (KX b o e) (by
      cases q : H b with
      | none => rfl
      | some u =>
        have z := hA b (by rw [q]; simp)
        subst z
        rw [hK (by rw [q]; simp)] at e
        cases e)
    have hM : Mod K mg (hidT s₁.heap H) := ⟨hKb, ns_hid hns, ⟨mb, ns_hid hb, hbb⟩, let ⟨mc, h1, h2⟩ := hlim; ⟨mc, ns_hid h1, h2⟩⟩
    have e0 : Env0 P w K mg (hidT s₁.heap H) callerA [] s₁ H := ⟨rfl, hM, fun b o e => of_hidT e, Nat.le_of_eq (hidT_size _ _), trivial, fun b hb => absurd (show b ∈ ([] : List Addr) from hb) (by simp), hok, .of_eq hg⟩
    refine codeAny_mono (F _ hKb (ns_hid hns) s₁ H ⟨[.ref a], []⟩ [.ref a] [.ref a] _ _ e0 (hbind s₁ (.ref a)) (.cons rfl .nil) (hsp H hO hS)) fun r s' h => ?_
    cases r with
    | error e => exact (hCX H e s' h).elim
    | ok fl =>
      cases fl with
      | next => exact False.elim h
      | brk => exact False.elim h
      | cont => exact False.elim h
      | ret u =>
        obtain ⟨v, H', os, bare, un, hok', r', q⟩ := h
        have q' : v = .bl true := q
        subst q'
        obtain rfl : u = Value.bool true := r'
        refine ⟨rfl, OldK.of_keep fun b o e => ?_, os, bare⟩
        cases q : H b with
        | none => exact un.keep b o e q (by intro z; exact absurd (show b ∈ ([] : List Addr) from z) (by simp)) (by simp)
        | some u =>
          rcases hO b with z | ⟨ob, xs, z⟩
          · rw [q] at z; cases z
          · obtain ⟨e1, _⟩ := hok b _ z
            obtain ⟨e2, _⟩ := hok' b _ (un.frzs b ob _ z)
            rw [e] at e1
            cases e1
            exact e2
  cases hk : K.lookup a with
  | some o =>
    have e := KX a o hk
    rw [ha] at e
    cases e
    exact core (fun _ => none) (fun _ => .inl rfl) (.inr ⟨_, vs.toArray, _, hk, rfl, rfl, rfl, by rw [List.size_toArray, lenV]; exact hl, by simpa using rv⟩) (fun b u z => by have z' : (none : Option HO) = some u := z; cases z') (fun b z => absurd rfl z) fun z => absurd rfl z
  | none =>
    refine core (fun b => if b = a then some (.frz { cls := .type "list", data := .seq vs.toArray } (.lst (ns.map V.int))) else none) (fun b => ?_) (.inl (.inr ⟨{ cls := .type "list", data := .seq vs.toArray }, if_pos rfl⟩)) (fun b u z => ?_) (fun b z => ?_) fun _ => hk
    · by_cases hb : b = a
      · exact .inr ⟨_, _, if_pos hb⟩
      · exact .inl (if_neg hb)
    · by_cases hb : b = a
      · have z' := (if_pos hb).symm.trans z
        cases z'
        subst hb
        exact ⟨ha, by rw [List.length_map]; exact hl, vs, _, rv, ha⟩
      · have z' := (if_neg hb).symm.trans z
        cases z'
    · by_cases hb : b = a
      · exact hb
      · exact absurd (if_neg hb) z
theorem walk_ofC {l : PySem.W.OpenLaw} {n : Nat} {q : Program} {loose : List Str} {XP : (Str → Option Value) → Heap → Prop} {YP : World → Heap → Prop} {d : DefRec} {K : Params → PySem.W.Frag} {CX : World → CXT} {sp : World → Sp} {x : Str}
    (hn : l.most = some n) (hn2 : n ≤ sizeLine) (hdf : d.params.defaults = [])
    (hY : ∀ (w : World) (h : Heap), YP w h → (K w.params).In h)
    (F : ∀ (w : World) (mg : Str → Option Value) (fa : Addr) (h : Heap), (K w.params).In h → h.Ns mainGlobals mg → mg d.name = some (.ref fa) →
      ∃ fd : FuncData, (∀ (s : Shared) (u : Value), BindsTo s fd ⟨[u], []⟩ [(x, u)]) ∧
        ∀ base : Heap, (K w.params).In base → base.Ns mainGlobals mg → LawAt l.prog w (K w.params) mg base (CX w) fa fd [x] (sp w))
    (hsp : ∀ (w : World) (H : Hp) (a : Addr) (ns : List Int), ns.length ≤ n → Only H → SqL (K w.params) H a (ns.map V.int) → sp w [.ref a] H (fun v _ => v = .bl true) fun _ _ _ => False)
    (hCX : ∀ (w : World) (H : Hp) (s : Shared) (e : Value) (s' : Shared), CX w [] H s (fun _ _ _ => False) e s' → False) :
    PySem.W.WalkO q loose XP YP l.row.toRowW d [] (fun f vs => PySem.call f vs) := by
  refine Att.attach_call hn hdf fun w s₀ s₁ mg mb fa o pm cd doc a vs ns G Y ho hd hcd hmg hobj hints hlen hg => ?_
  have KX := hY w _ Y
  obtain ⟨fd, hb, hF⟩ := F w mg fa _ KX G.T.g hmg
  exact law_callC KX G.T.g G.T.b G.T.builtins G.T.nolimit hg hobj hints (Nat.le_trans hlen hn2) hF hb (fun H hO hS => hsp w H a ns hlen hO hS) fun H e s' => hCX w H s₁ e s'
/-- the law's def by its mirror -/
theorem law_ok {P : Program} {w : World} {K : PySem.W.Frag} {mg : Str → Option Value} {base : Heap} {x qual : Str} {st : Stmt} {f : Addr} {fd : FuncData} {N ps : List Str} {k : Nat} (F : Fun K x qual st f fd) (S : FnScope N ps (defScope st)) (hr : Room (k + 1) callerA) (m : Ms)
    (hb : ∀ (cdv : Value) (s : Shared) (H : Hp) (E : XK), Room k (callerA.deeper (envOfC qual (defScope st) s.heap.objs.size f cdv)) →
      PSs (cxOf (L2.CX P w) P w K mg base N qual (defScope st) f cdv callerA [] s H E) (defBody st) (tS K mg (fun c dd _ H => E c dd H) m)) :
    LawAt P w K mg base (L2.CX P w) f fd ps (spM K mg (mDef ps.length N.length m)) := by
  refine law_of F S hr (fun vs H Q E h => ?_) fun cdv s H vs Q E hr h => ⟨_, hb cdv s H E hr, sp_start h⟩
  exact sp_len h
theorem LawAt.imp {P : Program} {w : World} {K : PySem.W.Frag} {mg : Str → Option Value} {base : Heap} {CX : CXT} {f : Addr} {fd : FuncData} {ps : List Str} {sp sp' : Sp} (F : LawAt P w K mg base CX f fd ps sp) (h : ∀ vs H Q E, sp' vs H Q E → sp vs H Q E) : LawAt P w K mg base CX f fd ps sp' :=
  fun s H args us vs Q E e0 hb r q => F s H args us vs Q E e0 hb r (h vs H Q E q)
theorem cx_false {P : Program} {w : World} {H : Hp} {s : Shared} {e : Value} {s' : Shared} (h : L2.CX P w [] H s (fun _ _ _ => False) e s') : False := by
  obtain ⟨_, _, _, _, _, _, _, _, _, _, _, _, z⟩ := h
  exact z
end AB
/-! AB: how the mirrors go, as rules of simp. -/
namespace AB
open PySem PySem.Spec PyProof.Rows L2

section
variable {G : Env} {h : AH} {i j : Int} {d e : D} {m a b c : Me} {as : MeL} {t u : MeT} {n : Nat}
@[simp] theorem v_mV (i : Nat) : mV i G h = (match G[i]? with | some (some d) => .ok d h | _ => .stuck) := rfl
@[simp] theorem v_mC : mC d G h = .ok d h := rfl
@[simp] theorem v_mOp2 {f : D → D → AH → Res D} : mOp2 f a b G h = (a G h).bind fun x h1 => (b G h1).bind fun y h2 => f x y h2 := rfl
@[simp] theorem v_mOp1 {f : D → AH → Res D} : mOp1 f a G h = (a G h).bind fun x h1 => f x h1 := rfl
@[simp] theorem v_aNil : aNil G h = .ok [] h := rfl
@[simp] theorem v_aCons : aCons a as G h = (a G h).bind fun x h1 => (as G h1).bind fun xs h2 => .ok (x :: xs) h2 := rfl
@[simp] theorem v_mN {f : List D → AH → Res D} : mN f as G h = (as G h).bind fun xs h1 => f xs h1 := rfl
@[simp] theorem v_lN {f : List D → AH → Res (List D)} : lN f as G h = (as G h).bind fun xs h1 => f xs h1 := rfl
@[simp] theorem v_mL : mL as G h = (as G h).bind fun ds h1 => .ok (.lst ds) h1 := rfl
@[simp] theorem v_mNew : mNew as G h = (as G h).bind fun ds h1 => .ok (.loc h1.length) (h1 ++ [.lst ds]) := rfl
@[simp] theorem v_lLst : lLst as G h = (as G h).bind fun xs h1 => if xs.length ≤ big then .ok xs h1 else .stuck := id rfl
@[simp] theorem v_fTup {ds : List D} : fTup ds h = if ds.length ≤ big then .ok (.tup ds) h else .stuck := id rfl
@[simp] theorem v_tOf : tOf m G h = (m G h).bind fun d h1 => match truD h1 d with | some b => .ok b h1 | none => .stuck := rfl
@[simp] theorem v_tBl : tBl m G h = (m G h).bind fun d h1 => match d with | .bl b => .ok b h1 | _ => .stuck := rfl
@[simp] theorem v_tAnd : tAndM t u G h = (t G h).bind fun c h1 => if c = true then u G h1 else .ok false h1 := rfl
@[simp] theorem v_tOr : tOrM t u G h = (t G h).bind fun c h1 => if c = true then .ok true h1 else u G h1 := rfl
@[simp] theorem v_tNot : tNotM t G h = (t G h).bind fun c h1 => .ok (!c) h1 := rfl
@[simp] theorem v_mAnd : mAnd a b G h = (a G h).bind fun d h1 => match truD h1 d with | some true => b G h1 | some false => .ok d h1 | none => .stuck := rfl
@[simp] theorem v_mOr : mOr a b G h = (a G h).bind fun d h1 => match truD h1 d with | some true => .ok d h1 | some false => b G h1 | none => .stuck := rfl
@[simp] theorem v_mNot : mNot a G h = (a G h).bind fun d h1 => match truD h1 d with | some b => .ok (.bl (!b)) h1 | none => .stuck := rfl
@[simp] theorem v_mIf : mIf t a b G h = (t G h).bind fun c h1 => if c = true then a G h1 else b G h1 := rfl
@[simp] theorem v_mChain {f g : D → D → AH → Res D} : mChain f g a b c G h = (a G h).bind fun x h1 => (b G h1).bind fun y h2 => (f x y h2).bind fun z h3 => match z with
  | .bl true => (c G h3).bind fun u h4 => g y u h4
  | .bl false => .ok (.bl false) h3
  | _ => .stuck := rfl
@[simp] theorem v_mIsi (T : Ty) : mIsi T m G h = (m G h).bind fun d h1 => match tyD h1 d with | some t => .ok (.bl (t.sub T)) h1 | none => .stuck := rfl
@[simp] theorem v_oNone : oNone G h = .ok none h := rfl
@[simp] theorem v_oSome : oSome m G h = (m G h).bind fun d h1 => match d with | .int i => .ok (some i) h1 | _ => .stuck := rfl
@[simp] theorem v_yes : tYesM G h = .ok true h := rfl
@[simp] theorem v_sNil : sNil G h = .next G h := rfl
@[simp] theorem v_sSeq {x y : Ms} : sSeq x y G h = (x G h).andThen y := rfl
@[simp] theorem v_sSet (i : Nat) : sSet i m G h = (m G h).toS G fun d h1 => .next (G.set i (some d)) h1 := rfl
@[simp] theorem v_sRet : sRet m G h = (m G h).toS G fun d h1 => .ret d h1 := rfl
@[simp] theorem v_sExpr : sExpr m G h = (m G h).toS G fun _ h1 => .next G h1 := rfl
@[simp] theorem v_sIf {x y : Ms} : sIf t x y G h = (t G h).toS G fun c h1 => if c = true then x G h1 else y G h1 := rfl
@[simp] theorem v_sNever : sNever G h = .stuck := rfl
@[simp] theorem v_sSub : sSub a b m G h = (m G h).toS G fun x h1 => (a G h1).toS G fun d h2 => (b G h2).toS G fun j h3 => match d, j with
  | .loc n, .int k => match h3[n]? with
    | some (.lst ds) => match ixN ds.length k with
      | some m => .next G (h3.set n (.lst (ds.set m x)))
      | none => .stuck
    | _ => .stuck
  | _, _ => .stuck := rfl
@[simp] theorem v_mBM {f : D → List D → AH → Res D} : mBM f m as G h = (m G h).bind fun d h1 => match vL h1 d with | some _ => (as G h1).bind fun xs h2 => f d xs h2 | none => .stuck := rfl
@[simp] theorem v_sFor {p : Pat} {it : Im} {x : Ms} : sFor p it x G h = (it G h).toS G fun a h1 => forGo p x a.2 a.1 a.1 G h1 := rfl
@[simp] theorem v_lComp {p : Pat} {vs : List Nat} {it : Im} : lComp p vs it t m G h = (it G h).bind fun a h1 => if a.1.length ≤ big then compGo p t m a.2 a.1 (wipeG G vs) a.1 h1 else .stuck := id rfl
@[simp] theorem v_iSeq : iSeq m G h = (m G h).bind fun d h1 => match d with
  | .tup ds => .ok (ds, none) h1
  | .lst ds => .ok (ds, none) h1
  | .rol ds => .ok (ds, none) h1
  | .loc n => match h1[n]? with
    | some (.lst ds) => .ok (ds, some n) h1
    | _ => .stuck
  | _ => .stuck := rfl
/-! values -/
@[simp] theorem v_ii : isII (.int i) (.int j) = some (i, j) := rfl
@[simp] theorem v_cLt : cLt (.int i) (.int j) h = .ok (.bl (decide (i < j))) h := rfl
@[simp] theorem v_cLe : cLe (.int i) (.int j) h = .ok (.bl (decide (i ≤ j))) h := rfl
@[simp] theorem v_cGt : cGt (.int i) (.int j) h = .ok (.bl (decide (j < i))) h := rfl
@[simp] theorem v_cGe : cGe (.int i) (.int j) h = .ok (.bl (decide (j ≤ i))) h := rfl
@[simp] theorem v_add : fAdd (.int i) (.int j) h = .ok (.int (i + j)) h := rfl
@[simp] theorem v_sub : fSub (.int i) (.int j) h = .ok (.int (i - j)) h := rfl
@[simp] theorem v_neg : fNeg (.int i) h = .ok (.int (-i)) h := rfl
@[simp] theorem v_mul : fMul (.int i) (.int j) h = if (-(2 ^ 60) ≤ i ∧ i ≤ 2 ^ 60) ∨ (-(2 ^ 60) ≤ j ∧ j ≤ 2 ^ 60) then .ok (.int (i * j)) h else .stuck := id rfl
@[simp] theorem v_mod : fMod (.int i) (.int j) h = if 0 < j then .ok (.int (i % j)) h else .stuck := id rfl
@[simp] theorem v_div : fDiv (.int i) (.int j) h = if 0 < j ∧ j ≤ 2 ^ 60 then .ok (.int (i / j)) h else .stuck := id rfl
@[simp] theorem v_pow : fPow (.int i) (.int j) h = if 0 ≤ j ∧ j ≤ 1000 ∧ 0 ≤ i ∧ i ≤ 1000 then .ok (.int (i ^ j.toNat)) h else .stuck := id rfl
@[simp] theorem v_int : fInt [.int i] h = .ok (.int i) h := rfl
@[simp] theorem v_intB {b : Bool} : fInt [.bl b] h = .ok (.int (if b then 1 else 0)) h := rfl
@[simp] theorem v_abs : fAbs [.int i] h = .ok (.int (if i < 0 then -i else i)) h := rfl
theorem okP_int : okP h (.int i) = some (.int i) := rfl
theorem okP_bl {b : Bool} : okP h (.bl b) = some (.bool b) := rfl
theorem okP_non : okP h .non = some .none := rfl
@[simp] theorem v_eq : fEq (.int i) (.int j) h = .ok (.bl (decide (i = j))) h := by
  show Res.ok (D.bl (PyData.eqv (.int i) (.int j))) h = _
  simp only [PyData.eqv]
  rfl
@[simp] theorem v_ne : fNe (.int i) (.int j) h = .ok (.bl (!decide (i = j))) h := by
  show Res.ok (D.bl (!PyData.eqv (.int i) (.int j))) h = _
  simp only [PyData.eqv]
  rfl
@[simp] theorem v_eqB {b c : Bool} : fEq (.bl b) (.bl c) h = .ok (.bl (decide (b = c))) h := by
  show Res.ok (D.bl (PyData.eqv (.bool b) (.bool c))) h = _
  simp only [PyData.eqv]
  cases b <;> cases c <;> rfl
@[simp] theorem v_isB {b c : Bool} : fIsB (.bl b) (.bl c) h = .ok (.bl (decide (b = c))) h := rfl
@[simp] theorem v_notB {b c : Bool} : fNotB (.bl b) (.bl c) h = .ok (.bl (!decide (b = c))) h := rfl
@[simp] theorem v_truB {b : Bool} : truD h (.bl b) = some b := rfl
@[simp] theorem v_truI : truD h (.int i) = some (i != 0) := rfl
@[simp] theorem v_vSt {ds : List D} : vS h (.tup ds) = some ds := rfl
@[simp] theorem v_vSl {ds : List D} : vS h (.lst ds) = some ds := rfl
@[simp] theorem v_vSr {ds : List D} : vS h (.rol ds) = some ds := rfl
@[simp] theorem v_vSo : vS h (.loc n) = (match h[n]? with | some (.lst ds) => some ds | _ => none) := rfl
@[simp] theorem v_vLl {ds : List D} : vL h (.lst ds) = some ds := rfl
@[simp] theorem v_vLr {ds : List D} : vL h (.rol ds) = some ds := rfl
@[simp] theorem v_vLo : vL h (.loc n) = (match h[n]? with | some (.lst ds) => some ds | _ => none) := rfl
@[simp] theorem v_ix : fIx d (.int i) h = (match vS h d with | some ds => (match atI ds i with | some d => .ok d h | none => .stuck) | none => .stuck) := rfl
@[simp] theorem v_len (hd : ∀ x, d ≠ .str x) : fLen [d] h = (match vS h d with | some ds => .ok (.int ds.length) h | none => .stuck) := by
  cases d with
  | str x => exact absurd rfl (hd x)
  | _ => rfl
@[simp] theorem v_tuple : fTuple [d] h = (match vS h d with | some ds => .ok (.tup ds) h | none => .stuck) := rfl
@[simp] theorem v_list : lList [d] h = (match vS h d with | some ds => .ok ds h | none => .stuck) := rfl
@[simp] theorem v_app : fApp (.loc n) [d] h = (match h[n]? with | some (.lst ds) => if ds.length < big then .ok .non (h.set n (.lst (ds ++ [d]))) else .stuck | _ => .stuck) := id rfl
@[simp] theorem v_tyI : tyD h (.int i) = some .int := rfl
@[simp] theorem v_tyB {b : Bool} : tyD h (.bl b) = some .bl := rfl
@[simp] theorem v_tyT {ds : List D} : tyD h (.tup ds) = some .tup := rfl
@[simp] theorem v_tyN : tyD h .non = some .non := rfl
@[simp] theorem v_range1 : iRange1 as G h = (as G h).bind fun xs h1 => match xs with
  | [.int j] => if okR j then .ok (rangeD 0 j.toNat, none) h1 else .stuck
  | _ => .stuck := rfl
@[simp] theorem v_range2 : iRange2 as G h = (as G h).bind fun xs h1 => match xs with
  | [.int i, .int j] => if okR2 i j then .ok (rangeD i (j - i).toNat, none) h1 else .stuck
  | _ => .stuck := rfl
@[simp] theorem v_down : iDown as G h = (as G h).bind fun xs h1 => match xs with
  | [.int i, .int j, .int k] => if k = -1 ∧ okR2 i j then .ok (downD i (i - j).toNat, none) h1 else .stuck
  | _ => .stuck := rfl
end
theorem big_eq : big = 1000000 := rfl
/-- an index within -/
theorem atI_nat {α : Type} {xs : List α} {i : Int} {x : α} (h0 : 0 ≤ i) (hx : xs[i.toNat]? = some x) : atI xs i = some x := by
  have hl := (List.getElem?_eq_some_iff.mp hx).1
  unfold atI ixN
  rw [if_pos h0, if_pos (by omega)]
  exact hx
theorem atI_map {α β : Type} (f : α → β) (xs : List α) (i : Int) : atI (xs.map f) i = (atI xs i).map f := by
  unfold atI
  rw [List.length_map]
  cases ixN xs.length i with
  | none => rfl
  | some j => simp
theorem atI_some {α : Type} {xs : List α} {i : Int} (h0 : 0 ≤ i) (h1 : i < xs.length) : ∃ x, atI xs i = some x ∧ x ∈ xs := by
  have hl : i.toNat < xs.length := by omega
  exact ⟨xs[i.toNat], atI_nat h0 (List.getElem?_eq_getElem hl), List.getElem_mem hl⟩
section
variable {α : Type} {x0 x1 x2 x3 x4 : α} {xs : List α}
@[simp] theorem atI_0 : atI (x0 :: xs) 0 = some x0 := atI_nat (Int.le_refl _) rfl
@[simp] theorem atI_1 : atI (x0 :: x1 :: xs) 1 = some x1 := atI_nat (by decide) rfl
@[simp] theorem atI_2 : atI (x0 :: x1 :: x2 :: xs) 2 = some x2 := atI_nat (by decide) rfl
@[simp] theorem atI_3 : atI (x0 :: x1 :: x2 :: x3 :: xs) 3 = some x3 := atI_nat (by decide) rfl
@[simp] theorem atI_4 : atI (x0 :: x1 :: x2 :: x3 :: x4 :: xs) 4 = some x4 := atI_nat (by decide) rfl
end
/-- the last -/
theorem atI_last {α : Type} {xs : List α} : atI xs (-1) = xs.getLast? := by
  unfold atI ixN
  rw [if_neg (by decide)]
  cases xs with
  | nil => rfl
  | cons x r =>
    have h : -((x :: r).length : Int) ≤ -1 := by
      rw [List.length_cons]
      omega
    rw [if_pos h]
    have e : (-1 + (((x :: r).length : Nat) : Int)).toNat = (x :: r).length - 1 := by
      rw [List.length_cons]
      omega
    show (x :: r)[(-1 + (((x :: r).length : Nat) : Int)).toNat]? = _
    rw [e, List.getLast?_eq_getElem?]
end AB
/-! AB: loops and comprehensions whose source stays; in, all, any, max; what defs hand back. -/
namespace AB
open PySem PySem.Spec PyProof.Rows L2

section
variable {α : Type} {p : Pat} {t : MeT} {e : Me} {body : Ms} {all0 : List D} {G0 : Env} {h : AH}
theorem comp_ok (enc : α → D) (q : α → Bool) (f : α → D) : ∀ (xs : List α), (∀ x ∈ xs, ∃ G1, asg p (enc x) G0 = some G1 ∧ t G1 h = .ok (q x) h ∧ (q x = true → e G1 h = .ok (f x) h)) →
    compGo p t e none all0 G0 (xs.map enc) h = .ok ((xs.filter q).map f) h
  | [], _ => by simp [compGo, Still]
  | x :: xs, hx => by
    obtain ⟨G1, e1, e2, e3⟩ := hx x List.mem_cons_self
    have ih := comp_ok enc q f xs fun y hy => hx y (List.mem_cons_of_mem _ hy)
    rw [List.map_cons]
    unfold compGo
    rw [if_pos (by trivial), e1]
    simp only [e2, Res.noX_ok, Res.bind_ok]
    cases hq : q x with
    | true =>
      rw [if_pos rfl, e3 hq, List.filter_cons_of_pos hq]
      simp only [Res.noX_ok, Res.bind_ok, ih, List.map_cons]
    | false =>
      rw [if_neg (by simp), ih, List.filter_cons_of_neg (by simp [hq])]
/-- every element, with no test -/
theorem comp_all (enc : α → D) (f : α → D) (xs : List α) (hx : ∀ x ∈ xs, ∃ G1, asg p (enc x) G0 = some G1 ∧ e G1 h = .ok (f x) h) : compGo p tYesM e none all0 G0 (xs.map enc) h = .ok (xs.map f) h := by
  have := comp_ok (p := p) (t := tYesM) (e := e) (all0 := all0) (G0 := G0) (h := h) enc (fun _ => true) f xs fun x hm => by
    obtain ⟨G1, e1, e2⟩ := hx x hm
    exact ⟨G1, e1, rfl, fun _ => e2⟩
  rw [this, List.filter_eq_self.mpr fun _ _ => rfl]
/-- with a heap that goes on: what is taken is a sublist -/
theorem comp_inv {I : AH → Prop} (enc : α → D) (f : α → D) : ∀ (xs : List α), (∀ x ∈ xs, ∀ h, I h → ∃ G1 b h1, asg p (enc x) G0 = some G1 ∧ t G1 h = .ok b h1 ∧ I h1 ∧ (b = true → ∃ h2, e G1 h1 = .ok (f x) h2 ∧ I h2)) →
    ∀ h, I h → ∃ (ys : List α) (h' : AH), compGo p t e none all0 G0 (xs.map enc) h = .ok (ys.map f) h' ∧ I h' ∧ ys.Sublist xs
  | [], _, h, hI => ⟨[], h, by simp [compGo, Still], hI, .slnil⟩
  | x :: xs, hx, h, hI => by
    obtain ⟨G1, b, h1, e1, e2, hI1, e3⟩ := hx x List.mem_cons_self h hI
    rw [List.map_cons]
    unfold compGo
    rw [if_pos (by trivial), e1]
    simp only [e2, Res.noX_ok, Res.bind_ok]
    cases b with
    | true =>
      obtain ⟨h2, e4, hI2⟩ := e3 rfl
      obtain ⟨ys, h', e5, hI', sl⟩ := comp_inv enc f xs (fun y hy => hx y (List.mem_cons_of_mem _ hy)) h2 hI2
      refine ⟨x :: ys, h', ?_, hI', sl.cons₂ x⟩
      rw [if_pos rfl, e4]
      simp only [Res.noX_ok, Res.bind_ok, e5, List.map_cons]
    | false =>
      obtain ⟨ys, h', e5, hI', sl⟩ := comp_inv enc f xs (fun y hy => hx y (List.mem_cons_of_mem _ hy)) h1 hI1
      refine ⟨ys, h', ?_, hI', sl.cons x⟩
      rw [if_neg (by simp), e5]
/-- a loop that goes on -/
theorem for_inv (I : Env → AH → Prop) (enc : α → D) : ∀ (xs : List α), (∀ x ∈ xs, ∀ G h, I G h → ∃ G1 G2 h2, asg p (enc x) G = some G1 ∧ body G1 h = .next G2 h2 ∧ I G2 h2) →
    ∀ G h, I G h → ∃ G' h', forGo p body none all0 (xs.map enc) G h = .next G' h' ∧ I G' h'
  | [], _, G, h, hI => ⟨G, h, by simp [forGo, Still], hI⟩
  | x :: xs, hx, G, h, hI => by
    obtain ⟨G1, G2, h2, e1, e2, hI2⟩ := hx x List.mem_cons_self G h hI
    obtain ⟨G', h', e3, hI'⟩ := for_inv I enc xs (fun y hy => hx y (List.mem_cons_of_mem _ hy)) G2 h2 hI2
    refine ⟨G', h', ?_, hI'⟩
    rw [List.map_cons]
    unfold forGo
    rw [if_pos (by trivial), e1]
    simp only [e2, e3]
/-- a loop with a count of its turns -/
theorem for_invN (I : Nat → Env → AH → Prop) (enc : Nat → D) (n : Nat) : ∀ (k j : Nat), k + j = n → (∀ i, i < n → ∀ G h, I i G h → ∃ G1 G2 h2, asg p (enc i) G = some G1 ∧ body G1 h = .next G2 h2 ∧ I (i + 1) G2 h2) →
    ∀ G h, I k G h → ∃ G' h', forGo p body none all0 ((List.range' k j).map enc) G h = .next G' h' ∧ I n G' h'
  | k, 0, hk, _, G, h, hI => ⟨G, h, by simp [forGo, Still], by
    have : k = n := by omega
    rw [← this]
    exact hI⟩
  | k, j + 1, hk, hx, G, h, hI => by
    obtain ⟨G1, G2, h2, e1, e2, hI2⟩ := hx k (by omega) G h hI
    obtain ⟨G', h', e3, hI'⟩ := for_invN I enc n (k + 1) j (by omega) hx G2 h2 hI2
    refine ⟨G', h', ?_, hI'⟩
    rw [List.range'_succ, List.map_cons]
    unfold forGo
    rw [if_pos (by trivial), e1]
    simp only [e2, e3]
/-- a loop that ends at the first one found -/
theorem for_find (I : Env → Prop) (enc : α → D) (q : α → Bool) (r : α → D) : ∀ (xs : List α), (∀ x ∈ xs, ∀ G, I G → ∃ G1, asg p (enc x) G = some G1 ∧ (q x = true → body G1 h = .ret (r x) h) ∧ (q x = false → ∃ G2, body G1 h = .next G2 h ∧ I G2)) →
    ∀ G, I G → (∀ x, xs.find? q = some x → forGo p body none all0 (xs.map enc) G h = .ret (r x) h) ∧ (xs.find? q = none → ∃ G', forGo p body none all0 (xs.map enc) G h = .next G' h ∧ I G')
  | [], _, G, hI => ⟨fun x hx => by simp at hx, fun _ => ⟨G, by simp [forGo, Still], hI⟩⟩
  | x :: xs, hx, G, hI => by
    obtain ⟨G1, e1, e2, e3⟩ := hx x List.mem_cons_self G hI
    cases hq : q x with
    | true =>
      refine ⟨fun y hy => ?_, fun hn => ?_⟩
      · rw [List.find?_cons_of_pos hq] at hy
        cases hy
        rw [List.map_cons]
        unfold forGo
        rw [if_pos (by trivial), e1]
        simp only [e2 hq]
      · rw [List.find?_cons_of_pos hq] at hn
        cases hn
    | false =>
      obtain ⟨G2, e4, hI2⟩ := e3 hq
      obtain ⟨i1, i2⟩ := for_find I enc q r xs (fun y hy => hx y (List.mem_cons_of_mem _ hy)) G2 hI2
      have hf : (x :: xs).find? q = xs.find? q := List.find?_cons_of_neg (by simp [hq])
      have hgo : forGo p body none all0 ((x :: xs).map enc) G h = forGo p body none all0 (xs.map enc) G2 h := by
        rw [List.map_cons]
        conv => lhs; unfold forGo
        rw [if_pos (by trivial), e1]
        simp only [e4]
      rw [hf, hgo]
      exact ⟨i1, i2⟩
end
/-! lists of ints as data -/
theorem toPs_ints : ∀ ns : List Int, toPs (ns.map D.int) = some (ns.map PyData.int)
  | [] => rfl
  | n :: ns => by
    show (match toP (D.int n), toPs (ns.map D.int) with | some p, some ps => some (p :: ps) | _, _ => none) = _
    rw [toPs_ints ns]
    rfl
theorem lay_ints : ∀ ns : List Int, PyData.canLayAll0 (ns.map PyData.int) = true
  | [] => by simp [PyData.canLayAll0]
  | n :: ns => by simp [PyData.canLayAll0, PyData.canLay0, lay_ints ns]
theorem dep_ints : ∀ ns : List Int, PyData.depthAll (ns.map PyData.int) = 0
  | [] => by simp [PyData.depthAll]
  | n :: ns => by simp [PyData.depthAll, PyData.depth, dep_ints ns]
theorem shaped_ints (ns : List Int) : SeqAt.shaped (.tuple (ns.map PyData.int)) = true := by
  simp [SeqAt.shaped, PyData.canLay0, PyData.depth, lay_ints, dep_ints]
theorem okP_ints {h : AH} (ns : List Int) : okP h (.tup (ns.map D.int)) = some (.tuple (ns.map PyData.int)) := by
  unfold okP
  have e : toPh h (.tup (ns.map D.int)) = some (.tuple (ns.map PyData.int)) := by
    show (toPs (ns.map D.int)).map PyData.tuple = _
    rw [toPs_ints]
    rfl
  rw [e]
  simp only [shaped_ints, if_true]
theorem any_ints (k : Int) (ns : List Int) : ((ns.map PyData.int).any fun z => PyData.eqv z (.int k)) = decide (k ∈ ns) := by
  induction ns with
  | nil => rfl
  | cons n ns ih =>
    rw [List.map_cons, List.any_cons, ih]
    simp only [PyData.eqv, List.mem_cons]
    by_cases h : n = k
    · subst h
      simp
    · have h2 : ¬ k = n := fun e => h e.symm
      simp [h, h2]
@[simp] theorem v_inT {h : AH} (k : Int) (ns : List Int) : fIn (.int k) (.tup (ns.map D.int)) h = .ok (.bl (decide (k ∈ ns))) h := by
  unfold fIn inD
  rw [okP_int, okP_ints]
  simp only [any_ints]
/-! lists of flags -/
theorem bls_map {α : Type} (f : α → Bool) : ∀ xs : List α, blsOf (xs.map fun x => D.bl (f x)) = some (xs.map f)
  | [] => rfl
  | x :: xs => by
    show (blsOf (xs.map fun x => D.bl (f x))).map (f x :: ·) = _
    rw [bls_map f xs]
    rfl
@[simp] theorem v_all {α : Type} {h : AH} (f : α → Bool) (xs : List α) : fAll [.lst (xs.map fun x => D.bl (f x))] h = .ok (.bl (xs.all f)) h := by
  have e : lBls [.lst (xs.map fun x => D.bl (f x))] h = some (xs.map f) := bls_map f xs
  unfold fAll
  rw [e]
  simp [List.all_map, Function.comp_def]
@[simp] theorem v_any {α : Type} {h : AH} (f : α → Bool) (xs : List α) : fAny [.lst (xs.map fun x => D.bl (f x))] h = .ok (.bl (xs.any f)) h := by
  have e : lBls [.lst (xs.map fun x => D.bl (f x))] h = some (xs.map f) := bls_map f xs
  unfold fAny
  rw [e]
  simp [List.any_map, Function.comp_def]
theorem ints_map : ∀ ns : List Int, intsOf (ns.map D.int) = some ns
  | [] => rfl
  | n :: ns => by
    show (intsOf (ns.map D.int)).map (n :: ·) = _
    rw [ints_map ns]
    rfl
theorem v_max {h : AH} (n : Int) (ns : List Int) : fMax [.lst (D.int n :: ns.map D.int)] h = .ok (.int (maxI (n :: ns))) h := by
  have e : lInts [.lst (D.int n :: ns.map D.int)] h = some (n :: ns) := ints_map (n :: ns)
  unfold fMax
  rw [e]
@[simp] theorem v_addL {h : AH} (xs ys : List D) : fAdd (.lst xs) (.lst ys) h = if xs.length + ys.length ≤ big then .ok (.lst (xs ++ ys)) h else .stuck := id rfl
@[simp] theorem v_addT {h : AH} (xs ys : List D) : fAdd (.tup xs) (.tup ys) h = if xs.length + ys.length ≤ big then .ok (.tup (xs ++ ys)) h else .stuck := id rfl
@[simp] theorem v_enum {h : AH} {G : Env} {as : MeL} : iEnum as G h = (as G h).bind fun xs h1 => match xs with
  | [.tup ds] => .ok (enumD ds, none) h1
  | [d] => match vI d with
    | some ds => .ok (enumD ds, none) h1
    | none => .stuck
  | _ => .stuck := rfl
@[simp] theorem v_zip {h : AH} {G : Env} {as : MeL} : iZip as G h = (as G h).bind fun xs h1 => match xs with
  | [.tup ds, .tup es] => .ok (pairsD ds es, none) h1
  | [d, e] => match vI d, vI e with
    | some ds, some es => .ok (pairsD ds es, none) h1
    | _, _ => .stuck
  | _ => .stuck := rfl
@[simp] theorem v_mSlT {h : AH} {G : Env} {m : Me} {lo hi : MeO} : mSl m lo hi G h = (m G h).bind fun x h1 => (lo G h1).bind fun l h2 => (hi G h2).bind fun u h3 => match x with
  | .tup ds => .ok (.tup (cutD ds l u)) h3
  | d => match vL h3 d with
    | some ds => .ok (.lst (cutD ds l u)) h3
    | none => .stuck := rfl
@[simp] theorem v_sAsg {h : AH} {G : Env} {p : Pat} {m : Me} : sAsg p m G h = (m G h).toS G fun d h1 => match asg p d G with
  | some G1 => .next G1 h1
  | none => .stuck := rfl
theorem enumD_eq (ds : List D) : enumD ds = (List.range ds.length).map fun i : Nat => D.tup [.int (i : Int), ds.getD i .non] := by
  unfold enumD pairsD rangeD
  apply List.ext_getElem?
  intro i
  by_cases hi : i < ds.length
  · simp [List.getElem?_zip_eq_some, hi, List.getD_eq_getElem?_getD]
  · simp [hi]
theorem rangeD_eq (n : Nat) : rangeD 0 n = (List.range n).map fun i : Nat => D.int (i : Int) := by
  unfold rangeD
  simp
theorem rangeD_from (a n : Nat) : rangeD (a : Int) n = (List.range' a n).map fun i : Nat => D.int (i : Int) := by
  unfold rangeD
  rw [List.range'_eq_map_range, List.map_map]
  apply List.map_congr_left
  intro i _
  simp
theorem enumD_len (ds : List D) : (enumD ds).length = ds.length := by rw [enumD_eq]; simp
/-! what defs hand back -/
theorem okCells_app (h t : AH) : OkCells h.length h (h ++ t) := fun m o hm e => .inl (by rwa [List.getElem?_append_left hm] at e)
theorem finD_app (h t : AH) (d : D) (hd : d.under h.length = true) : finD h.length h d (h ++ t) = .ok d h := by
  unfold finD
  by_cases q : (h ++ t).length = h.length
  · have : t = [] := by
      rw [List.length_append] at q
      exact List.eq_nil_of_length_eq_zero (by omega)
    subst this
    simp
  · rw [if_neg q, if_pos ⟨hd, okCells_app h t⟩, List.take_left']
    rfl
@[simp] theorem finD_same (h : AH) (d : D) : finD h.length h d h = .ok d h := by
  unfold finD
  rw [if_pos rfl]
theorem finL_new (h : AH) (ds : List D) (hd : underL h.length ds = true) : finL h.length h (.loc h.length) (h ++ [.lst ds]) = .ok ds h := by
  unfold finL
  have e : (h ++ [AO.lst ds])[h.length]? = some (.lst ds) := by
    rw [List.getElem?_append_right (Nat.le_refl _), Nat.sub_self]
    rfl
  simp only [e]
  rw [if_pos ⟨Nat.le_refl _, hd, okCells_app h _⟩, List.take_left']
  rfl
theorem under_ints (n : Nat) (ns : List Int) : underL n (ns.map D.int) = true := by
  induction ns with
  | nil => simp [underL]
  | cons k ns ih => simp [underL, ih, D.under]
theorem under_intF {α : Type} (n : Nat) (f : α → Int) (xs : List α) : underL n (xs.map fun x => D.int (f x)) = true := by
  induction xs with
  | nil => simp [underL]
  | cons k ns ih => simp [underL, ih, D.under]
theorem cut_from1 {α : Type} (f : α → D) (xs : List α) : cutD (xs.map f) (some 1) none = (xs.drop 1).map f := by
  unfold cutD
  have e : HT.sIx (xs.map f).length 0 (some 1) = min 1 (xs.map f).length := HT.sIx_nat _ _ 1
  have e2 : HT.sIx (xs.map f).length (xs.map f).length none = (xs.map f).length := rfl
  rw [e, e2]
  cases xs with
  | nil => rfl
  | cons x r =>
    have e3 : min 1 ((x :: r).map f).length = 1 := by
      rw [List.length_map, List.length_cons]
      omega
    rw [e3, List.take_of_length_le (by rw [List.length_drop]; exact Nat.le_refl _), List.map_drop]
theorem cut_to {α : Type} (f : α → D) (xs : List α) (n : Nat) : cutD (xs.map f) none (some (n : Int)) = (xs.take n).map f := by
  unfold cutD
  have e : HT.sIx (xs.map f).length (xs.map f).length (some (n : Int)) = min n (xs.map f).length := HT.sIx_nat _ _ n
  have e2 : HT.sIx (xs.map f).length 0 none = 0 := rfl
  rw [e, e2]
  simp [List.map_take]
theorem pairsD_map {α β : Type} (f : α → D) (g : β → D) (xs : List α) (ys : List β) : pairsD (xs.map f) (ys.map g) = (xs.zip ys).map fun p => D.tup [f p.1, g p.2] := by
  unfold pairsD
  rw [List.zip_map, List.map_map]
  rfl
end AB
/-! AB: x += e of ints; defs that leave their objects; raise of an own error. -/
namespace AB
open PySem PySem.Spec PyProof.Rows L2

/-! ### x += e, x -= e -/
def sAug (f : Int → Int → Int) (i : Nat) (m : Me) : Ms := fun G h => match G[i]? with
  | some (some (.int k)) => (m G h).toS G fun y h1 => match y with
    | .int j => .next (G.set i (some (.int (f k j)))) h1
    | _ => .stuck
  | _ => .stuck
section
variable {X : Cx} {W : WX} {x : Str} {e : Expr} {m : Me} {op : Operator} {pos pos' : Pos} {f : Int → Int → Int}
theorem s_aug (i : Nat) (ho : PIp X op (ipI f)) (he : PE X e (TM X W m)) (hN : X.N.Nodup) (hi : X.N[i]? = some x := by rfl) (hx : Loc X.env.scope x := by first | exact Or.inl rfl | exact Or.inr rfl)
    (hf : X.fn x = true ∨ X.env.scope.names.lookup x = some .local := by first | exact .inl rfl | exact .inr rfl) : PS X (.AugAssign (.Name x pos') op e pos) (TSS X W (sAug f i m)) := by
  refine (ps_aug hN hi hx he ho hf).wk fun D σ H ⟨w, G, h, g, r, o⟩ => ?_
  unfold sAug at o
  split at o
  · rename_i k ek
    obtain ⟨v, e1, rv⟩ := g.2 i _ ek
    cases rv
    refine ⟨.int k, e1, w, G, h, g, r, OutS.bindE (m := m) g o fun d h1 v w1 H1 l r1 x o1 => ?_⟩
    split at o1
    · cases x
      exact ⟨_, _, rfl, rfl, o1 _ w1 H1 (Le.refl _) ((g.mono l).set i (.int _)) r1⟩
    · exact o1.elim
  · exact o.elim
end
@[simp] theorem v_sAug {f : Int → Int → Int} {i : Nat} {m : Me} {G : Env} {h : AH} : sAug f i m G h = (match G[i]? with
  | some (some (.int k)) => (m G h).toS G fun y h1 => match y with
    | .int j => .next (G.set i (some (.int (f k j)))) h1
    | _ => .stuck
  | _ => .stuck) := rfl
/-! ### a def whose objects stay -/
def mDefK (n N : Nat) (body : Ms) : Fn := fun ds h => if ds.length = n then
    match body (ds.map some ++ List.replicate (N - n) none) h with
    | .next _ h1 => .ok .non h1
    | .ret d h1 => .ok d h1
    | .exc c fs _ h1 => .exc c fs h1
    | _ => .stuck
  else .stuck
section
variable {P : Program} {w : World} {K : PySem.W.Frag} {mg : Str → Option Value} {base : Heap}
theorem fn_okK {x qual : Str} {st : Stmt} {f : Addr} {fd : FuncData} {N ps : List Str} {k : Nat} (F : Fun K x qual st f fd) (S : FnScope N ps (defScope st)) (m : Ms)
    (hb : ∀ (cdv : Value) (A : Around) (outer : List PySem.Env) (s : Shared) (H : Hp) (E : XK), Room k (A.deeper (envOfC qual (defScope st) s.heap.objs.size f cdv)) →
      PSs (cxOf (L2.CX P w) P w K mg base N qual (defScope st) f cdv A outer s H E) (defBody st) (tS K mg (fun c dd _ H => E c dd H) m)) :
    FnOk P w K mg base (L2.CX P w) (k + 1) f fd ps (spM K mg (mDefK ps.length N.length m)) := by
  refine F.okX S (fun vs H Q E h => ?_) fun cdv A outer s H vs Q E hr h => ⟨_, hb cdv A outer s H E hr, ?_⟩
  · obtain ⟨w, ds, h, ra, r, o⟩ := h
    unfold mDefK at o
    split at o
    · rename_i e
      rw [ra.length]
      exact e
    · exact o.elim
  · obtain ⟨w, ds, h, ra, r, o⟩ := h
    unfold mDefK at o
    split at o
    · rename_i e
      refine ⟨w, _, h, start_rep ra, r, ?_⟩
      rw [e]
      cases em : m (ds.map some ++ List.replicate (N.length - ps.length) none) h with
      | next G1 h1 =>
        rw [em] at o
        exact fun σ' w1 H1 l g r1 => o .non w1 H1 l r1 .non
      | ret d h1 =>
        rw [em] at o
        exact fun v w1 H1 l r1 rv => o v w1 H1 l r1 rv
      | brk G1 h1 => rw [em] at o; exact o.elim
      | cont G1 h1 => rw [em] at o; exact o.elim
      | stuck => rw [em] at o; exact o.elim
      | exc c fs G1 h1 =>
        rw [em] at o
        exact fun cls dd σ' w1 H1 e l g r1 x => o cls dd w1 H1 e l r1 x
    · exact o.elim
end
/-! ### raise C(), C an own class over ValueError without an own __init__ -/
structure ExcK (K : PySem.W.Frag) (mg : Str → Option Value) (x : Str) : Prop where
  ex : ∃ (C : Addr) (bmB : List Value), mg x = some (.ref C) ∧ ExcBaseFacts "ValueError" "ValueError.__new__" "ValueError.__init__" bmB ∧ PySem.W.excIn K C bmB "ValueError.__new__" = true ∧ PySem.W.keepIn K (.ref C) = true ∧
    PySem.W.subIn K (.ref C) (.type "BaseException") = some true ∧ PySem.W.typeIn K (.ref C) = some (.type "type")
section
variable {X : Cx} {W : WX} {x : Str} {p pos pos' : Pos}
theorem pmk_own0 {C : Addr} {bmB : List Value} {B newId initId : String} (F : ExcBaseFacts B newId initId bmB) (q : PySem.W.excIn X.K C bmB newId = true) (gC : X.mg x = some (.ref C))
    (kC : PySem.W.keepIn X.K (.ref C) = true) (r : Raises X (.ref C)) (hg : Gl X x) (hdb : (x == ("__debug__" : Str)) = false := by decide) :
    PMk X (.Call (.Name x p) [] [] pos) (fun σ H Q => Q (.ref C) none H) := by
  intro pins s σ H Q I h
  refine wpAny_Call_Name_kw (ld_glob I hg gC ?_ hdb)
  refine PySem.W.callWith_K0 I.kIn kC ?_
  show wpAny _ _ (call (.ref C) []) _ _ _
  obtain ⟨bm, N, nm, qn, bs, hdct, sn, sub, ab, col, dd, k0, k1, k2, k3, k5, mN, hC, hN, hni, T⟩ := exc_obj I.kIn q
  refine wpAny_call_exc_subT F T hC hN hni (fun h' e hm => ?_) (Nat.zero_le _)
  exact mk_of I hm r h (I.hok.gone hm.new)
theorem s_raise0 (E : ExcK X.K X.mg x) (tk : Takes X W) (hc : X.calm = true := by rfl) (hg : Gl X x := by rfl) (hdb : (x == ("__debug__" : Str)) = false := by decide) : PS X (.Raise (some (.Call (.Name x p) [] [] pos)) none pos') (TSS X W (sRaise x)) := by
  obtain ⟨C, bmB, h1, h2, h3, h4, h5, h6⟩ := E.ex
  refine (L2.ps_raise hc tk (pmk_own0 h2 h3 h1 h4 (raises_own h5 h6) hg hdb)).wk fun D σ H ⟨w, G, h, g, r, o⟩ => ?_
  have o : ∀ cls dd σ' w' H', X.mg x = some cls → Le w w' → RepG X.K w' σ' G → RepH X.K w' H' h → RepX X.K w' H' dd [] → W cls dd σ' H' := o
  exact o (.ref C) none σ w H h1 (Le.refl _) g r rfl
end
theorem spM_stuck {K : PySem.W.Frag} {mg : Str → Option Value} {vs : List V} {H : Hp} {Q : VK} {E : XK} (h : spM K mg (fun _ _ => .stuck) vs H Q E) : False := by
  obtain ⟨w, ds, h, ra, r, o⟩ := h
  exact o
end AB
/-! AB: t * k of tuples. -/
namespace AB
open PySem PySem.Spec PyProof.Rows L2
open Sem (wp)
open AutoSeq1 (wpAny_loadPart')
theorem tuple_mul1 (l : Addr) (items : Array Value) (n : Nat) (dd : Option Addr) (sl : Array (Option Value)) (u : Tok) :
    Meets (Builtin.«tuple.__mul__» ⟨[.ref l, .int 1 u], []⟩) (fun _ R s => s.heap.get? l = some { cls := .type "tuple", dict := dd, data := .seq items n, slots := sl } ∧ R (.ok (.ret (Value.ref l))) s) :=
  .of_wp fun prog w A R s h => by
    obtain ⟨hp, g, d, tk, os⟩ := s
    obtain ⟨hl, h⟩ := h
    have f1 := AutoSeq1.idx_int
    have c0 : (decide ((1 : Int) < -(2 ^ 63)) || decide ((1 : Int) ≥ 2 ^ 63)) = false := by decide
    have c1 : (items.isEmpty || (1 : Int) == 1) = true := by simp
    wp_walk using wpAny_loadPart' hl
    exact ⟨_, rfl, h⟩
def rRepT1 (K : PySem.W.Frag) : R2 := fun x y H Q => ∃ l xs, x = .ref l ∧ y = .int 1 ∧ SqT K H l xs ∧ Q (.ref l) H
section
variable {X : Cx} {W : WX}
theorem op_repT1 : OpR X (binaryOp .Mult) (rRepT1 X.K) := by
  intro pins s σ H x y v u Q I rx ry h
  obtain ⟨l, xs, rfl, rfl, hT, q⟩ := h
  cases rx
  obtain ⟨t, rfl⟩ := ry
  obtain ⟨its, r, ⟨⟨cls, dd, data, sl⟩, ho, hc, n, hd⟩, hs⟩ := I.tuple hT
  simp only at hc hd
  subst hc hd
  exact wpAny_binaryOp_repeat_ref (T := "tuple") (U := "int") (by decide) ⟨_, ho, rfl⟩ (fun s' => typeIs_int s' 1 t) noFill_tuple_mul F.fills_int_mul F.slot_int_rmul repeat_tuple F.slot_int_index.lookup
    (call_meets F.slot_int_rmul (typeIs_int s 1 t) F.entry_int_rmul (F.args_int_rmul_2 _ _) (int_rmul_tuple 1 t l its.toArray n dd sl)
      ⟨ho, rfl, ⟨_, ho, rfl⟩, call_meets F.slot_tuple_mul ⟨_, ho, rfl⟩ F.entry_tuple_mul (F.args_tuple_mul_2 _ _) (tuple_mul1 l its.toArray n dd sl t) ⟨ho, ⟨.ref l, H, I, rfl, q⟩⟩⟩)
def fMulA (x y : D) (h : AH) : Res D := match x, y with
  | .tup xs, .int k => if k = 1 then .ok (.tup xs) h else if 2 ≤ k ∧ k ≤ 1000 ∧ 1 ≤ xs.length ∧ xs.length ≤ 1000 then .ok (.tup (List.replicate k.toNat xs).flatten) h else .stuck
  | x, y => fMul x y h
def rMulA (K : PySem.W.Frag) : R2 := fun x y H Q => rI CMul (fun i j => .int (i * j)) x y H Q ∨ (rRepT1 K x y H Q ∨ rRepT K x y H Q)
theorem op_mulA : OpR X (binaryOp .Mult) (rMulA X.K) := OpR.or op_mul (OpR.or op_repT1 op_repT)
theorem ra_rep {K : PySem.W.Frag} {w : Wd} {vs : List V} {ds : List D} (h : Ra K w vs ds) : ∀ k : Nat, Ra K w (List.replicate k vs).flatten (List.replicate k ds).flatten
  | 0 => .nil
  | k + 1 => by
    rw [List.replicate_succ, List.replicate_succ, List.flatten_cons, List.flatten_cons]
    exact h.append (ra_rep h k)
theorem fol_mulA : Fol2 X W fMulA (rMulA X.K) := by
  intro w h H σ Q v1 v2 d1 d2 rh r1 r2 o
  unfold fMulA at o
  split at o
  · rename_i xs k
    cases r2
    cases r1 with
    | @tup a vs _ h1 h2 =>
      split at o
      · rename_i e
        subst e
        exact .inr (.inl ⟨a, vs, rfl, rfl, rh.ex.t h1, out_ok o rh (.tup h1 h2)⟩)
      · split at o
        · rename_i c
          have hl := h2.length
          refine .inr (.inr ⟨a, k, vs, rfl, rfl, rh.ex.t h1, fun z => ?_, c.1, c.2.1, by omega, fun p hp => out_add o rh hp (rv_tup rh hp (ra_rep h2 _))⟩)
          rw [z] at hl
          simp at hl
          omega
        · exact o.elim
  · exact .inl (fol_mul w h H σ Q v1 v2 _ _ rh r1 r2 o)
end
end AB
/-! AB: comprehensions and loops that change the heap. -/
namespace AB
open PySem PySem.Spec PyProof.Rows L2
section
variable {α : Type} {p : Pat} {t : MeT} {e : Me} {body : Ms} {all0 : List D} {G0 : Env} {h : AH}
/-- every element, made by a step that changes the heap -/
theorem comp_gen {I : AH → Prop} {R : α → D → Prop} (enc : α → D) : ∀ (xs : List α), (∀ x ∈ xs, ∀ h, I h → ∃ G1 d h1, asg p (enc x) G0 = some G1 ∧ e G1 h = .ok d h1 ∧ I h1 ∧ R x d) →
    ∀ h, I h → ∃ (zs : List (α × D)) (h' : AH), compGo p tYesM e none all0 G0 (xs.map enc) h = .ok (zs.map (·.2)) h' ∧ I h' ∧ zs.map (·.1) = xs ∧ ∀ z ∈ zs, R z.1 z.2
  | [], _, h, hI => ⟨[], h, by simp [compGo, Still], hI, rfl, by simp⟩
  | x :: xs, hx, h, hI => by
    obtain ⟨G1, d, h1, e1, e2, hI1, hr⟩ := hx x List.mem_cons_self h hI
    obtain ⟨zs, h', e3, hI', e4, hz⟩ := comp_gen (R := R) enc xs (fun y hy => hx y (List.mem_cons_of_mem _ hy)) h1 hI1
    refine ⟨(x, d) :: zs, h', ?_, hI', by rw [List.map_cons, e4], fun z hz' => ?_⟩
    · rw [List.map_cons]
      unfold compGo
      rw [if_pos (by trivial), e1]
      simp only [v_yes, Res.noX_ok, Res.bind_ok, if_true, e2, e3, List.map_cons]
    · rcases List.mem_cons.mp hz' with rfl | hz'
      · exact hr
      · exact hz z hz'
/-- a loop that knows what is behind it -/
theorem for_pre (I : List α → Env → AH → Prop) (enc : α → D) (xs : List α) : ∀ (todo done : List α), done ++ todo = xs →
    (∀ done x rest, done ++ x :: rest = xs → ∀ G h, I done G h → ∃ G1 G2 h2, asg p (enc x) G = some G1 ∧ body G1 h = .next G2 h2 ∧ I (done ++ [x]) G2 h2) →
    ∀ G h, I done G h → ∃ G' h', forGo p body none all0 (todo.map enc) G h = .next G' h' ∧ I xs G' h'
  | [], done, e, _, G, h, hI => by
    rw [List.append_nil] at e
    subst e
    exact ⟨G, h, by simp [forGo, Still], hI⟩
  | x :: r, done, e, hx, G, h, hI => by
    obtain ⟨G1, G2, h2, e1, e2, hI2⟩ := hx done x r e G h hI
    obtain ⟨G', h', e3, hI'⟩ := for_pre I enc xs r (done ++ [x]) (by rw [List.append_assoc]; exact e) hx G2 h2 hI2
    refine ⟨G', h', ?_, hI'⟩
    rw [List.map_cons]
    unfold forGo
    rw [if_pos (by trivial), e1]
    simp only [e2, e3]
end
/-! while: any fuel that is enough -/
section
variable {t : MeT} {b : Ms}
theorem whileGo_mono : ∀ (n : Nat) (G : Env) (h : AH), whileGo t b n G h ≠ .stuck → whileGo t b (n + 1) G h = whileGo t b n G h
  | 0, _, _, hn => absurd rfl hn
  | n + 1, G, h, hn => by
    have e1 : whileGo t b (n + 1) G h = (t G h).toS G fun c h1 => if c = true then
      match b G h1 with
      | .next G2 h2 => whileGo t b n G2 h2
      | .cont G2 h2 => whileGo t b n G2 h2
      | .brk G2 h2 => .next G2 h2
      | .ret x h2 => .ret x h2
      | .exc c fs G2 h2 => .exc c fs G2 h2
      | .stuck => .stuck
    else .next G h1 := rfl
    have e2 : whileGo t b (n + 1 + 1) G h = (t G h).toS G fun c h1 => if c = true then
      match b G h1 with
      | .next G2 h2 => whileGo t b (n + 1) G2 h2
      | .cont G2 h2 => whileGo t b (n + 1) G2 h2
      | .brk G2 h2 => .next G2 h2
      | .ret x h2 => .ret x h2
      | .exc c fs G2 h2 => .exc c fs G2 h2
      | .stuck => .stuck
    else .next G h1 := rfl
    rw [e1] at hn
    rw [e2, e1]
    cases ec : t G h with
    | exc c fs h1 => rfl
    | stuck => rfl
    | ok c h1 =>
      rw [ec] at hn
      simp only [Res.toS_ok] at hn ⊢
      cases c with
      | false => rfl
      | true =>
        simp only [if_true] at hn ⊢
        cases eb : b G h1 with
        | next G2 h2 =>
          rw [eb] at hn
          exact whileGo_mono n G2 h2 hn
        | cont G2 h2 =>
          rw [eb] at hn
          exact whileGo_mono n G2 h2 hn
        | brk G2 h2 => rfl
        | ret x h2 => rfl
        | exc c fs G2 h2 => rfl
        | stuck => rfl
theorem whileGo_le {n m : Nat} {G : Env} {h : AH} (hn : whileGo t b n G h ≠ .stuck) (hm : n ≤ m) : whileGo t b m G h = whileGo t b n G h := by
  obtain ⟨d, rfl⟩ : ∃ d, m = n + d := ⟨m - n, by omega⟩
  induction d with
  | zero => rfl
  | succ d ih =>
    have ih := ih (by omega)
    rw [← Nat.add_assoc, whileGo_mono (n + d) G h (by rw [ih]; exact hn), ih]
theorem while_ok {n : Nat} {G : Env} {h : AH} {r : SR} (e : whileGo t b n G h = r) (hr : r ≠ .stuck) : sWhile t b G h = r := by
  have hn : whileGo t b n G h ≠ .stuck := by rw [e]; exact hr
  unfold sWhile
  rw [dif_pos ⟨n, hn⟩]
  have hc := Classical.choose_spec (⟨n, hn⟩ : ∃ n, whileGo t b n G h ≠ .stuck)
  generalize Classical.choose (⟨n, hn⟩ : ∃ n, whileGo t b n G h ≠ .stuck) = m at hc
  rcases Nat.le_total n m with q | q
  · rw [whileGo_le hn q, e]
  · rw [← whileGo_le hc q, e]
end
/-! loops over an object that stays meanwhile -/
section
variable {α : Type} {p : Pat} {t : MeT} {e : Me} {body : Ms} {all0 : List D} {G0 : Env} {src : Option Nat}
theorem for_preS (I : List α → Env → AH → Prop) (hs : ∀ done G h, I done G h → Still src all0 h) (enc : α → D) (xs : List α) : ∀ (todo done : List α), done ++ todo = xs →
    (∀ done x rest, done ++ x :: rest = xs → ∀ G h, I done G h → ∃ G1 G2 h2, asg p (enc x) G = some G1 ∧ body G1 h = .next G2 h2 ∧ I (done ++ [x]) G2 h2) →
    ∀ G h, I done G h → ∃ G' h', forGo p body src all0 (todo.map enc) G h = .next G' h' ∧ I xs G' h'
  | [], done, e, _, G, h, hI => by
    rw [List.append_nil] at e
    subst e
    refine ⟨G, h, ?_, hI⟩
    rw [List.map_nil]
    unfold forGo
    rw [if_pos (hs _ G h hI)]
  | x :: r, done, e, hx, G, h, hI => by
    obtain ⟨G1, G2, h2, e1, e2, hI2⟩ := hx done x r e G h hI
    obtain ⟨G', h', e3, hI'⟩ := for_preS I hs enc xs r (done ++ [x]) (by rw [List.append_assoc]; exact e) hx G2 h2 hI2
    refine ⟨G', h', ?_, hI'⟩
    rw [List.map_cons]
    unfold forGo
    rw [if_pos (hs _ G h hI), e1]
    simp only [e2, e3]
theorem comp_okS {h : AH} (hs : Still src all0 h) (enc : α → D) (q : α → Bool) (f : α → D) : ∀ (xs : List α), (∀ x ∈ xs, ∃ G1, asg p (enc x) G0 = some G1 ∧ t G1 h = .ok (q x) h ∧ (q x = true → e G1 h = .ok (f x) h)) →
    compGo p t e src all0 G0 (xs.map enc) h = .ok ((xs.filter q).map f) h
  | [], _ => by
    rw [List.map_nil]
    unfold compGo
    rw [if_pos hs]
    rfl
  | x :: xs, hx => by
    obtain ⟨G1, e1, e2, e3⟩ := hx x List.mem_cons_self
    have ih := comp_okS hs enc q f xs fun y hy => hx y (List.mem_cons_of_mem _ hy)
    rw [List.map_cons]
    unfold compGo
    rw [if_pos hs, e1]
    simp only [e2, Res.noX_ok, Res.bind_ok]
    cases hq : q x with
    | true =>
      rw [if_pos rfl, e3 hq, List.filter_cons_of_pos hq]
      simp only [Res.noX_ok, Res.bind_ok, ih, List.map_cons]
    | false =>
      rw [if_neg (by simp), ih, List.filter_cons_of_neg (by simp [hq])]
end
end AB
/-! AB: classes: making, attributes, methods. -/
namespace AB
open PySem PySem.Spec PyProof.Rows L2

section
variable {K : PySem.W.Frag} {w : Wd} {H : Hp} {h : AH}
theorem RepH.fresh (r : RepH K w H h) {p : Addr} (u : HO) (hp : H p = none) : RepH K w (upd H p u) h ∧ Apart w p := by
  refine ⟨⟨fun a x e => ?_, r.len, r.inj, fun n o' e => ?_, fun a x e => by rw [upd_ne (ne_of_none (r.exF _ _ e) hp)]; exact r.exF _ _ e, r.dis⟩, r.ex.free hp, fun n hn => r.ne hn hp, r.exF.free hp⟩
  · have e2 := r.ex _ _ e
    rw [upd_ne (ne_of_none e2 hp)]
    exact e2
  · obtain ⟨a, b⟩ := r.cell n o' e
    have hn : n < w.N := by
      rw [r.len]
      exact (List.getElem?_eq_some_iff.mp e).1
    exact ⟨a, b.mono (Le.refl _) (upd_ne (r.ne hn hp))⟩
theorem RepH.newO (r : RepH K w H h) {p : Addr} {u : HO} {o : AO} (hp : H p = none) (ro : RepO K (w.push p) (upd H p u) p o) : RepH K (w.push p) (upd H p u) (h ++ [o]) :=
  let ⟨r1, ap⟩ := r.fresh u hp
  r1.push ap ro
/-- a machine's object as a value -/
theorem rv_loc {n : Nat} {v : V} (rv : Rv K w v (.loc n)) : v = .ref (w.mu n) ∧ n < w.N := by
  cases rv with
  | loc hn => exact ⟨rfl, hn⟩
theorem rv_new (p : Addr) : Rv K (w.push p) (.ref p) (.loc w.N) := by
  have h : Rv K (w.push p) (.ref ((w.push p).mu w.N)) (.loc w.N) := .loc (Nat.lt_succ_self _)
  rw [w.push_mu p] at h
  exact h
end

/-! ### rows of named things -/
def putD (f : Str) (d : D) : List (Str × D) → List (Str × D)
  | [] => [(f, d)]
  | (g, x) :: r => if g = f then (g, d) :: r else (g, x) :: putD f d r
section
variable {K : PySem.W.Frag} {G : Hp} {mu : Nat → Addr} {N : Nat}
theorem rep_lookup (f : Str) : ∀ {fv : List (Str × V)} {fs : List (Str × D)}, fv.map (·.1) = fs.map (·.1) → RepAll K G mu N (fv.map (·.2)) (fs.map (·.2)) →
    (∀ d, fs.lookup f = some d → ∃ v, fv.lookup f = some v ∧ RepV K G mu N v d) ∧ (fs.lookup f = none → fv.lookup f = none)
  | [], [], _, _ => ⟨fun d e => (by cases e), fun _ => rfl⟩
  | [], _ :: _, e, _ => by cases e
  | _ :: _, [], e, _ => by cases e
  | (g, v) :: fv, (g', d) :: fs, e, r => by
    rw [List.map_cons, List.map_cons] at e r
    cases r with
    | cons r1 r2 =>
      obtain ⟨e1, e2⟩ := List.cons.inj e
      have e1 : g = g' := e1
      subst e1
      obtain ⟨i1, i2⟩ := rep_lookup f e2 r2
      refine ⟨fun x q => ?_, fun q => ?_⟩
      · rw [List.lookup_cons] at q ⊢
        cases c : f == g with
        | true =>
          rw [c] at q
          cases q
          exact ⟨v, rfl, r1⟩
        | false =>
          rw [c] at q
          exact i1 x q
      · rw [List.lookup_cons] at q ⊢
        cases c : f == g with
        | true => rw [c] at q; cases q
        | false =>
          rw [c] at q
          exact i2 q
theorem rep_put (f : Str) {v : V} {d : D} (rv : RepV K G mu N v d) : ∀ {fv : List (Str × V)} {fs : List (Str × D)}, fv.map (·.1) = fs.map (·.1) → RepAll K G mu N (fv.map (·.2)) (fs.map (·.2)) →
    (putF f v fv).map (·.1) = (putD f d fs).map (·.1) ∧ RepAll K G mu N ((putF f v fv).map (·.2)) ((putD f d fs).map (·.2))
  | [], [], _, _ => ⟨rfl, .cons rv .nil⟩
  | [], _ :: _, e, _ => by cases e
  | _ :: _, [], e, _ => by cases e
  | (g, x) :: fv, (g', y) :: fs, e, r => by
    rw [List.map_cons, List.map_cons] at e r
    cases r with
    | cons r1 r2 =>
      obtain ⟨e1, e2⟩ := List.cons.inj e
      have e1 : g = g' := e1
      subst e1
      obtain ⟨i1, i2⟩ := rep_put f rv e2 r2
      unfold putF putD
      by_cases c : g = f
      · rw [if_pos c, if_pos c]
        exact ⟨by rw [List.map_cons, List.map_cons, e2], .cons rv r2⟩
      · rw [if_neg c, if_neg c]
        exact ⟨by rw [List.map_cons, List.map_cons, i1], .cons r1 i2⟩
end

/-! ### attributes -/
structure FldOk (K : PySem.W.Frag) (C f : Str) : Prop where
  get : ∀ Ca, PySem.W.nsIn K mainGlobals C = some (some (.ref Ca)) → Cls K Ca ∧ NoAttr K Ca f
/-- the class by its place -/
theorem fldOk {K : PySem.W.Frag} {C f : Str} {Ca : Addr} (e : PySem.W.nsIn K mainGlobals C = some (some (.ref Ca))) (c : Cls K Ca) (n : NoAttr K Ca f) : FldOk K C f := ⟨fun Cb e2 => by
  rw [e] at e2
  cases e2
  exact ⟨c, n⟩⟩
def AllC (p : Str → Prop) : List Str → Prop
  | [] => True
  | C :: cs => p C ∧ AllC p cs
theorem AllC.mem {p : Str → Prop} : ∀ {cs : List Str}, AllC p cs → ∀ C ∈ cs, p C
  | _ :: _, ⟨h1, h2⟩, C, hc => by
    rcases List.mem_cons.mp hc with rfl | hc
    · exact h1
    · exact AllC.mem h2 C hc
theorem AllC.n {p : Str → Prop} : AllC p [] := trivial
theorem AllC.c {p : Str → Prop} {C : Str} {cs : List Str} (h : p C) (t : AllC p cs) : AllC p (C :: cs) := ⟨h, t⟩
/-- o.f -/
def mFld (cs : List Str) (f : Str) (o : Me) : Me := fun G h => (o G h).bind fun d h1 => match d with
  | .loc n => match h1[n]? with
    | some (.ins C fs) => if C ∈ cs then match fs.lookup f with
      | some x => .ok x h1
      | none => .stuck
      else .stuck
    | _ => .stuck
  | _ => .stuck
/-- o.f = v -/
def sFldM (cs : List Str) (f : Str) (o v : Me) : Ms := fun G h => (v G h).toS G fun x h1 => (o G h1).toS G fun d h2 => match d with
  | .loc n => match h2[n]? with
    | some (.ins C fs) => if C ∈ cs ∧ fs.length < 1000 then .next G (h2.set n (.ins C (putD f x fs))) else .stuck
    | _ => .stuck
  | _ => .stuck
/-- o.f += e, of ints -/
def sFldA (g : Int → Int → Int) (cs : List Str) (f : Str) (o v : Me) : Ms := fun G h => (o G h).toS G fun d h1 => match d with
  | .loc n => match h1[n]? with
    | some (.ins C fs) => if C ∈ cs then match fs.lookup f with
      | some (.int i) => (v G h1).toS G fun y h2 => match y, h2[n]? with
        | .int j, some (.ins C2 fs2) => if C2 = C ∧ fs2.length < 1000 then .next G (h2.set n (.ins C (putD f (.int (g i j)) fs2))) else .stuck
        | _, _ => .stuck
      | _ => .stuck
      else .stuck
    | _ => .stuck
  | _ => .stuck
section
variable {X : Cx} {W : WX} {o e value : Expr} {f : Str} {pos pos' tpos : Pos} {m mo mv : Me} {cs : List Str}
theorem e_fld (cs : List Str) (he : PE X e (TM X W m)) (hc : AllC (fun C => FldOk X.K C f) cs) (hb : attributeBase e f X.env (eval e X.env) = eval e X.env := by rfl) : PE X (.Attribute e f pos) (TM X W (mFld cs f m)) := by
  refine (pe_fld he hb).wk fun σ H Q ⟨w, G, h, g, r, o⟩ => ⟨w, G, h, g, r, o.bindE fun d h1 v w1 H1 l r1 x o1 => ?_⟩
  split at o1
  · rename_i n
    obtain ⟨rfl, hn⟩ := rv_loc x
    split at o1
    · rename_i C fs ec
      split at o1
      · rename_i hC
        split at o1
        · rename_i y ey
          obtain ⟨_, Ca, dx, fv, e1, e2, e3, ra, _⟩ := r1.cell n _ ec
          obtain ⟨c1, c2⟩ := (hc.mem C hC).get Ca e1
          obtain ⟨u, eu, ru⟩ := (rep_lookup f e3 ra).1 y ey
          exact ⟨_, Ca, dx, fv, u, rfl, e2, c1, c2, eu, o1 u w1 H1 (Le.refl _) r1 ru⟩
        · exact o1.elim
      · exact o1.elim
    · exact o1.elim
  · exact o1.elim
theorem set_ins {w : Wd} {H : Hp} {h : AH} {n : Nat} {C : Str} {fs : List (Str × D)} {Ca dx : Addr} {fv : List (Str × V)} (f : Str) {v : V} {d : D} (r : RepH X.K w H h) (hn : n < w.N) (e1 : PySem.W.nsIn X.K mainGlobals C = some (some (.ref Ca)))
    (e3 : fv.map (·.1) = fs.map (·.1)) (ra : RepAll X.K w.S w.mu w.N (fv.map (·.2)) (fs.map (·.2))) (es : w.S dx = some (.own (w.mu n))) (rv : Rv X.K w v d) :
    RepH X.K w (upd H (w.mu n) (.ins Ca dx (putF f v fv))) (h.set n (.ins C (putD f d fs))) := by
  obtain ⟨q1, q2⟩ := rep_put f rv e3 ra
  exact r.set hn ⟨Ca, dx, putF f v fv, e1, upd_same, q1, q2, es⟩
theorem fv_len {fv : List (Str × V)} {fs : List (Str × D)} (e : fv.map (·.1) = fs.map (·.1)) : fv.length = fs.length := by
  have := congrArg List.length e
  simpa using this
theorem s_fld (cs : List Str) (ho : PE X o (TM X W mo)) (hv : PE X value (TM X W mv)) (hc : AllC (fun C => FldOk X.K C f) cs) (hs : swapsWith value (some (.Attribute o f pos')) pos.line X.env = pure false := by rfl) :
    PS X (.Assign [.Attribute o f pos'] value pos) (TSS X W (sFldM cs f mo mv)) := by
  refine (ps_fld ho hv hs).wk fun D σ H ⟨w, G, h, g, r, o⟩ => ⟨w, G, h, g, r, OutS.bindE (m := mv) g o fun x h1 v w1 H1 l1 r1 rx o1 => ?_⟩
  have g1 := g.mono l1
  refine ⟨w1, G, h1, g1, r1, OutS.bindE (m := mo) g1 o1 fun d h2 v2 w2 H2 l2 r2 rd o2 => ?_⟩
  split at o2
  · rename_i n
    obtain ⟨rfl, hn⟩ := rv_loc rd
    split at o2
    · rename_i C fs ec
      split at o2
      · rename_i hC
        obtain ⟨_, Ca, dx, fv, e1, e2, e3, ra, es⟩ := r2.cell n _ ec
        obtain ⟨c1, c2⟩ := (hc.mem C hC.1).get Ca e1
        exact ⟨_, Ca, dx, fv, rfl, e2, c1, c2, by rw [fv_len e3]; exact hC.2, o2 σ w2 _ (Le.refl _) (g1.mono l2) (set_ins f r2 hn e1 e3 ra es (Rv_mono l2 rx))⟩
      · exact o2.elim
    · exact o2.elim
  · exact o2.elim
theorem s_fldA {op : Operator} {gg : Int → Int → Int} (cs : List Str) (hop : InOp X op (fun x y H Q => ∃ i j, x = .int i ∧ y = .int j ∧ Q (.int (gg i j)) H)) (ho : PE X o (TM X W mo)) (hv : PE X value (TM X W mv)) (hc : AllC (fun C => FldOk X.K C f) cs) :
    PS X (.AugAssign (.Attribute o f tpos) op value pos) (TSS X W (sFldA gg cs f mo mv)) := by
  refine (ps_fldaug ho hv hop).wk fun D σ H ⟨w, G, h, g, r, o⟩ => ⟨w, G, h, g, r, OutS.bindE (m := mo) g o fun d h1 v1 w1 H1 l1 r1 rd o1 => ?_⟩
  have g1 := g.mono l1
  split at o1
  · rename_i n
    obtain ⟨rfl, hn⟩ := rv_loc rd
    split at o1
    · rename_i C fs ec
      split at o1
      · rename_i hC
        split at o1
        · rename_i i ei
          obtain ⟨_, Ca, dx, fv, e1, e2, e3, ra, es⟩ := r1.cell n _ ec
          obtain ⟨u, eu, ru⟩ := (rep_lookup f e3 ra).1 _ ei
          cases ru
          obtain ⟨c1, c2⟩ := (hc.mem C hC).get Ca e1
          refine ⟨_, Ca, dx, fv, .int i, rfl, e2, c1, c2, eu, w1, G, h1, g1, r1, OutS.bindE (m := mv) g1 o1 fun y h2 v2 w2 H2 l2 r2 ry o2 => ?_⟩
          split at o2
          · rename_i j C2 fs2 ec2
            split at o2
            · rename_i hh
              obtain ⟨hh1, hh3⟩ := hh
              subst hh1
              cases ry
              obtain ⟨_, Cb, dx2, fv2, e1', e2', e3', ra', es'⟩ := r2.cell n _ ec2
              have emu : w2.mu n = w1.mu n := l2.mu n hn
              have eC : Cb = Ca := by
                rw [e1] at e1'
                cases e1'
                rfl
              subst eC
              have hn2 : n < w2.N := Nat.lt_of_lt_of_le hn l2.n
              refine ⟨i, _, rfl, rfl, dx2, fv2, by rw [← emu]; exact e2', by rw [fv_len e3']; exact hh3, ?_⟩
              rw [← emu]
              exact o2 σ w2 _ (Le.refl _) (g1.mono l2) (set_ins f r2 hn2 e1' e3' ra' es' (.int _))
            · exact o2.elim
          · exact o2.elim
        · exact o1.elim
      · exact o1.elim
    · exact o1.elim
  · exact o1.elim
end
end AB
/-! AB: calls of methods, making of instances. -/
namespace AB
open PySem PySem.Spec PyProof.Rows L2

structure MthOk (P : Program) (w : World) (K : PySem.W.Frag) (mg : Str → Option Value) (base : Heap) (C m : Str) (k : Nat) (ps : List Str) (sp : Sp) : Prop where
  get : ∀ Ca, PySem.W.nsIn K mainGlobals C = some (some (.ref Ca)) → Cls K Ca ∧ ∃ f fd, Meth K Ca m f ∧ Binds K fd ps [] ∧ FnOk P w K mg base (L2.CX P w) k f fd ps sp
theorem mthOk {P : Program} {w : World} {K : PySem.W.Frag} {mg : Str → Option Value} {base : Heap} {C m : Str} {k : Nat} {ps : List Str} {sp : Sp} {Ca f : Addr} {fd : FuncData} (e : PySem.W.nsIn K mainGlobals C = some (some (.ref Ca))) (c : Cls K Ca)
    (hm : Meth K Ca m f) (hb : Binds K fd ps []) (F : FnOk P w K mg base (L2.CX P w) k f fd ps sp) : MthOk P w K mg base C m k ps sp := ⟨fun Cb e2 => by
  rw [e] at e2
  cases e2
  exact ⟨c, f, fd, hm, hb, F⟩⟩
structure MakOk (P : Program) (w : World) (K : PySem.W.Frag) (mg : Str → Option Value) (base : Heap) (C : Str) (k : Nat) (ps : List Str) (sp : Sp) : Prop where
  ex : ∃ Ca f fd, PySem.W.nsIn K mainGlobals C = some (some (.ref Ca)) ∧ mg C = some (.ref Ca) ∧ Mk K Ca f ∧ Binds K fd ps [] ∧ FnOk P w K mg base (L2.CX P w) k f fd ps sp
def TbOk (X : Cx) (k' : Nat) (m : Str) (tb : List (Str × Fn)) : Prop := ∀ C fn, tb.lookup C = some fn → ∃ k ps, k ≤ k' ∧ MthOk X.prog X.w X.K X.mg X.base C m k ps (spM X.K X.mg fn)
theorem tb_nil {X : Cx} {k' : Nat} {m : Str} : TbOk X k' m [] := fun C fn e => by cases e
theorem tb_cons {X : Cx} {k k' : Nat} {m C : Str} {ps : List Str} {fn : Fn} {tb : List (Str × Fn)} (h : MthOk X.prog X.w X.K X.mg X.base C m k ps (spM X.K X.mg fn)) (t : TbOk X k' m tb) (hk : k ≤ k' := by first | decide | omega) : TbOk X k' m ((C, fn) :: tb) := fun C2 fn2 e => by
  rw [List.lookup_cons] at e
  cases c : C2 == C with
  | true =>
    rw [c] at e
    cases e
    have : C2 = C := by simpa using c
    subst this
    exact ⟨k, ps, hk, h⟩
  | false =>
    rw [c] at e
    exact t C2 fn2 e
/-- o.m(..) -/
def mMeth (tb : List (Str × Fn)) (m : Str) (o : Me) (as : MeL) : Me := fun G h => (o G h).bind fun d h1 => match d with
  | .loc n => match h1[n]? with
    | some (.ins C fs) => match tb.lookup C with
      | some fn => match fs.lookup m with
        | none => (as G h1).bind fun xs h2 => fn (.loc n :: xs) h2
        | some _ => .stuck
      | none => .stuck
    | _ => .stuck
  | _ => .stuck
/-- C(..) -/
def mMake (C : Str) (fn : Fn) (as : MeL) : Me := fun G h => (as G h).bind fun xs h1 => (fn (.loc h1.length :: xs) (h1 ++ [.ins C []])).bind fun v h2 => match v with
  | .non => .ok (.loc h1.length) h2
  | _ => .stuck
/-- a method's call, the class and the method seen when the object is there -/
def tMethT (X : Cx) (W : WX) (m : Str) (k' : Nat) (ta : TE) (t : TA) : TE := fun σ H Q => ta σ H fun x H1 => ∃ a C dx fs k f fd ps sp, x = .ref a ∧ H1 a = some (.ins C dx fs) ∧ fs.lookup m = none ∧ Cls X.K C ∧ Meth X.K C m f ∧ Binds X.K fd ps [] ∧ k ≤ k' ∧
  FnOk X.prog X.w X.K X.mg X.base (L2.CX X.prog X.w) k f fd ps sp ∧ t σ H1 fun vs H2 => sp (x :: vs) H2 Q (WE W σ)
section
variable {X : Cx} {W : WX} {m : Str} {k' : Nat} {o e : Expr} {es : List Expr} {ta : TE} {t : TA} {apos pos : Pos} {pl : Sem Bool} {mo : Me} {as : MeL} {tb : List (Str × Fn)}
theorem pe_methT (he : PE X o ta) (hr : Room k' X.A) (tk : Takes X W) (ha : PA X (e :: es) t)
    (hst : starEach (e :: es) X.env = (false, eval e X.env) :: starEach es X.env := by rfl) (hpl : (backTo pos (starEach es X.env)).any (·.1) = false := by rfl)
    (ht : eval (.Call (.Attribute o m apos) (e :: es) [] pos) X.env = (do
      let ov ← eval o X.env
      standAt apos.atName
      let (f, first) ← holding [ov] (getMethod ov m pl)
      callWith pos f first (backTo pos (starEach (e :: es) X.env)) (backToKw pos (keywordEach [] X.env))) := by rfl) :
    PE X (.Call (.Attribute o m apos) (e :: es) [] pos) (tMethT X W m k' ta t) := by
  refine ⟨fun pins s σ H Q I h => ?_⟩
  refine PySem.W.methodCall_KW (pl := pl) (thn (he.run pins s σ H _ I h) fun u s1 ⟨x, H1, I1, rx, a, C, dx, fs, k, f, fd, ps, sp, ex, ea, l, c, hm, hb, hk, F, q⟩ => ?_) ht
  subst ex
  obtain rfl : u = Value.ref a := rx
  refine getmeth_ok I1 ea c hm l ?_
  refine PySem.W.callWith_K (first := [.ref a]) (h₀ := X.base) I.ok.mod.kin hm.kp (thn (ha.run pos pins s1 σ H1 _ I1 q) fun us s2 ⟨vs, H2, I2, r, q2⟩ => ⟨I2.kIn, ?_⟩) hst hpl
  exact run_fnS (us := .ref a :: us) (vs := .ref a :: vs) (E := WE W) F (hr.mono hk) hb (passAt tk σ) I2 (.cons rfl r) q2
theorem pe_methT0 (he : PE X o ta) (hr : Room k' X.A) (tk : Takes X W)
    (ht : eval (.Call (.Attribute o m apos) [] [] pos) X.env = (do
      let ov ← eval o X.env
      standAt apos.atName
      let (f, first) ← holding [ov] (getMethod ov m pl)
      callWith pos f first (backTo pos (starEach [] X.env)) (backToKw pos (keywordEach [] X.env))) := by rfl) :
    PE X (.Call (.Attribute o m apos) [] [] pos) (tMethT X W m k' ta tNil) := by
  refine ⟨fun pins s σ H Q I h => ?_⟩
  refine PySem.W.methodCall_KW (pl := pl) (thn (he.run pins s σ H _ I h) fun u s1 ⟨x, H1, I1, rx, a, C, dx, fs, k, f, fd, ps, sp, ex, ea, l, c, hm, hb, hk, F, q⟩ => ?_) ht
  subst ex
  obtain rfl : u = Value.ref a := rx
  refine getmeth_ok I1 ea c hm l ?_
  exact PySem.W.callWith_K0 (first := [.ref a]) I1.kIn hm.kp (run_fnS (us := [.ref a]) (vs := [.ref a]) (E := WE W) F (hr.mono hk) hb (passAt tk σ) I1 (.cons rfl .nil) q)
theorem meth_read (hT : TbOk X k' m tb) {σ : L2.St} {H : Hp} {Q : VK} (t : TM X W (mMeth tb m mo as) σ H Q) : tMethT X W m k' (TM X W mo) (TAr X W as) σ H Q := by
  obtain ⟨w, G, h, g, r, o⟩ := t
  refine ⟨w, G, h, g, r, o.bindE fun d h1 v w1 H1 l r1 x o1 => ?_⟩
  split at o1
  · rename_i n
    obtain ⟨rfl, hn⟩ := rv_loc x
    split at o1
    · rename_i C fs ec
      split at o1
      · rename_i fn ef
        split at o1
        · rename_i el
          obtain ⟨_, Ca, dx, fv, e1, e2, e3, ra, _⟩ := r1.cell n _ ec
          obtain ⟨k, ps, hk, M⟩ := hT C fn ef
          obtain ⟨c, f, fd, hm, hb, F⟩ := M.get Ca e1
          refine ⟨_, Ca, dx, fv, k, f, fd, ps, _, rfl, e2, (rep_lookup m e3 ra).2 el, c, hm, hb, hk, F, w1, G, h1, g.mono l, r1, o1.bindA fun ds h2 vs w2 H2 l2 r2 rs o2 => ⟨w2, .loc n :: ds, h2, .cons (Rv_mono l2 x) rs, r2, ?_⟩⟩
          cases em : fn (.loc n :: ds) h2 with
          | ok d h3 => rw [em] at o2; exact o2
          | exc c fs h3 => rw [em] at o2; exact o2
          | stuck => rw [em] at o2; exact o2
        · exact o1.elim
      · exact o1.elim
    · exact o1.elim
  · exact o1.elim
theorem e_meth (hT : TbOk X k' m tb) (hr : Room k' X.A) (tk : Takes X W) (he : PE X o (TM X W mo)) (ha : PA X (e :: es) (TAr X W as))
    (hst : starEach (e :: es) X.env = (false, eval e X.env) :: starEach es X.env := by rfl) (hpl : (backTo pos (starEach es X.env)).any (·.1) = false := by rfl)
    (ht : eval (.Call (.Attribute o m apos) (e :: es) [] pos) X.env = (do
      let ov ← eval o X.env
      standAt apos.atName
      let (f, first) ← holding [ov] (getMethod ov m pl)
      callWith pos f first (backTo pos (starEach (e :: es) X.env)) (backToKw pos (keywordEach [] X.env))) := by rfl) :
    PE X (.Call (.Attribute o m apos) (e :: es) [] pos) (TM X W (mMeth tb m mo as)) := (pe_methT he hr tk ha hst hpl ht).wk fun σ H Q t => meth_read hT t
theorem e_meth0 (hT : TbOk X k' m tb) (hr : Room k' X.A) (tk : Takes X W) (he : PE X o (TM X W mo))
    (ht : eval (.Call (.Attribute o m apos) [] [] pos) X.env = (do
      let ov ← eval o X.env
      standAt apos.atName
      let (f, first) ← holding [ov] (getMethod ov m pl)
      callWith pos f first (backTo pos (starEach [] X.env)) (backToKw pos (keywordEach [] X.env))) := by rfl) :
    PE X (.Call (.Attribute o m apos) [] [] pos) (TM X W (mMeth tb m mo aNil)) := (pe_methT0 he hr tk ht).wk fun σ H Q t => by
  obtain ⟨w, G, h, g, r, o⟩ := meth_read (as := aNil) hT t
  refine ⟨w, G, h, g, r, ?_⟩
  cases em : mo G h with
  | ok d h1 =>
    rw [em] at o
    intro v w' H' l r' x
    obtain ⟨a, C, dx, fs, k, f, fd, ps, sp, q1, q2, q3, q4, q5, q6, q7, q8, q9⟩ := o v w' H' l r' x
    refine ⟨a, C, dx, fs, k, f, fd, ps, sp, q1, q2, q3, q4, q5, q6, q7, q8, ?_⟩
    obtain ⟨w3, G3, h3, g3, r3, o3⟩ := q9
    exact o3 [] w3 H' (Le.refl _) r3 .nil
  | exc c fs h1 => rw [em] at o; exact o
  | stuck => rw [em] at o; exact o
end
/-! ### making -/
def tMakeT (C : Addr) (W : WX) (sp : Sp) (t : TA) : TE := fun σ H Q => t σ H fun vs H1 => ∀ x dx, H1 x = none → H1 dx = none → dx ≠ x →
  sp (.ref x :: vs) (upd (upd H1 dx (.own x)) x (.ins C dx [])) (fun v H2 => v = .non ∧ Q (.ref x) H2) (WE W σ)
section
variable {X : Cx} {W : WX} {x : Str} {k k' : Nat} {f C : Addr} {fd : FuncData} {ps : List Str} {sp : Sp} {e : Expr} {es : List Expr} {t : TA} {p pos : Pos} {as : MeL} {fn : Fn}
theorem run_makeS {pins : List (Addr × Obj)} {σ : L2.St} {H : Hp} {s : Shared} {Q : VK} {us : List Value} {vs : List V} {E : XK} (M : Mk X.K C f) (F : FnOk X.prog X.w X.K X.mg X.base (L2.CX X.prog X.w) k f fd ps sp) (hr : Room (k + 1) X.A) (hb : Binds X.K fd ps [])
    (hx : PassesAt (L2.CX X.prog X.w) X σ E) (I : Inv X pins σ H s) (r : Vals vs us)
    (hx2 : ∀ (pins : List (Addr × Obj)) (H : Hp) (s : Shared) (e : Value) (s' : Shared), Inv X pins σ H s → L2.CX X.prog X.w X.stack H s E e s' → X.xe e s')
    (h : ∀ x dx, H x = none → H dx = none → dx ≠ x → sp (.ref x :: vs) (upd (upd H dx (.own x)) x (.ins C dx [])) (fun v H2 => v = .non ∧ Q (.ref x) H2) E) :
    wpAny (model X.prog X.w) X.A (call (.ref C) us) (EP X pins σ Q) X.xe s := by
  have hq := h (s.heap.objs.size + 1) s.heap.objs.size (I.hok.fresh (Nat.le_succ _)) (I.hok.fresh (Nat.le_refl _)) (Nat.ne_of_lt (Nat.lt_succ_self _))
  have I2 := Inv.made (C := C) I
  have r2 : Vals (V.ref (s.heap.objs.size + 1) :: vs) (Value.ref (s.heap.objs.size + 1) :: us) := .cons rfl r
  have hl : (Value.ref (s.heap.objs.size + 1) :: us).length = ps.length := by
    have e := r2.length
    rw [F.len _ _ _ _ hq] at e
    exact e.symm
  have b := hb (s := { s with heap := (s.heap.push PySem.W.emptyDict).push (PySem.W.instObj C s.heap.objs.size) }) (Value.ref (s.heap.objs.size + 1) :: us) I2.kIn (by rw [List.append_nil]; exact hl)
  rw [List.append_nil] at b
  refine wpAny_call (make_map (f := f) I.kIn M.makes M.init (beq_iff_eq.mp M.fn) (codeAny_mono (F.run _ X.stack _ _ ⟨Value.ref (s.heap.objs.size + 1) :: us, []⟩ (Value.ref (s.heap.objs.size + 1) :: us) _ _ E (hr.make C us [])
    (I2.env0.make C us []) b r2 hq) fun r s' hq' => ?_))
  cases r with
  | error e => exact hx2 pins _ _ e s' I2 hq'
  | ok fl =>
    cases fl with
    | ret u =>
      obtain ⟨v, H', I3, rv, ev, q3⟩ := I2.after hq'
      subst ev
      exact ⟨rv, ⟨V.ref (s.heap.objs.size + 1), H', I3, rfl, q3⟩⟩
    | next => exact False.elim hq'
    | brk => exact False.elim hq'
    | cont => exact False.elim hq'
theorem pe_makeT (M : Mk X.K C f) (F : FnOk X.prog X.w X.K X.mg X.base (L2.CX X.prog X.w) k f fd ps sp) (hr : Room (k + 1) X.A) (tk : Takes X W) (hm : X.mg x = some (.ref C)) (hb : Binds X.K fd ps [])
    (ha : PA X (e :: es) t) (hg : Gl X x := by rfl) (hdb : (x == ("__debug__" : Str)) = false := by decide) (he : starEach (e :: es) X.env = (false, eval e X.env) :: starEach es X.env := by rfl) (hpl : (backTo pos (starEach es X.env)).any (·.1) = false := by rfl) :
    PE X (.Call (.Name x p) (e :: es) [] pos) (tMakeT C W sp t) := by
  refine ⟨fun pins s σ H Q I h => ?_⟩
  refine wpAny_Call_Name_kw (ld_glob I hg hm ?_ hdb)
  refine PySem.W.callWith_K (h₀ := X.base) I.ok.mod.kin M.kp (thn (ha.run pos pins s σ H _ I h) fun us s1 ⟨vs, H1, I1, r, q⟩ => ⟨I1.kIn, ?_⟩) he hpl
  exact run_makeS M F hr hb (passAt tk σ) I1 r (passAt tk σ) q
theorem e_make {C0 : Str} (M : MakOk X.prog X.w X.K X.mg X.base C0 k ps (spM X.K X.mg fn)) (hr : Room k' X.A) (tk : Takes X W) (ha : PA X (e :: es) (TAr X W as)) (hk : k + 1 ≤ k' := by first | decide | omega)
    (hg : Gl X C0 := by rfl) (hdb : (C0 == ("__debug__" : Str)) = false := by decide) (he : starEach (e :: es) X.env = (false, eval e X.env) :: starEach es X.env := by rfl) (hpl : (backTo pos (starEach es X.env)).any (·.1) = false := by rfl) :
    PE X (.Call (.Name C0 p) (e :: es) [] pos) (TM X W (mMake C0 fn as)) := by
  obtain ⟨Ca, f, fd, hn, hm, MM, hb, F⟩ := M.ex
  refine (pe_makeT MM F (hr.mono hk) tk hm hb ha hg hdb he hpl).wk fun σ H Q ⟨w, G, h, g, r, o⟩ => ⟨w, G, h, g, r, o.bindA fun ds h1 vs w1 H1 l r1 rs o1 => fun x dx nx ndx nex => ?_⟩
  have rA := r1.add (o := .own x) ndx
  have lA := r1.le_add (o := HO.own x) ndx
  have nx2 : upd H1 dx (.own x) x = none := by
    rw [upd_ne (Ne.symm nex)]
    exact nx
  have rB := rA.newO (u := .ins Ca dx []) (o := .ins C0 []) nx2 ⟨Ca, dx, [], hn, upd_same, rfl, .nil, upd_same⟩
  have lB : Le w1 ((w1.add dx (.own x)).push x) := lA.trans (Wd.le_push _ _)
  have hN : (w1.add dx (.own x)).N = h1.length := r1.len
  have rx := rv_new (K := X.K) (w := w1.add dx (.own x)) x
  rw [hN] at rx
  refine ⟨_, .loc h1.length :: ds, h1 ++ [.ins C0 []], .cons rx (Ra_mono lB rs), rB, ?_⟩
  cases em : fn (.loc h1.length :: ds) (h1 ++ [.ins C0 []]) with
  | ok d h3 =>
    rw [em] at o1
    intro v w4 H4 l4 r4 x4
    cases d with
    | non =>
      cases x4
      refine ⟨rfl, o1 _ w4 H4 (lB.trans l4) r4 (Rv_mono l4 rx)⟩
    | _ => exact o1.elim
  | exc c fs h3 =>
    rw [em] at o1
    intro cls dd w4 H4 e4 l4 r4 x4
    exact o1 cls dd w4 H4 e4 (lB.trans l4) r4 x4
  | stuck => rw [em] at o1; exact o1.elim
end
end AB
/-! AB: dicts whose keys are ints and texts, as objects of the machine. -/
namespace AB
open PySem PySem.Spec PyProof.Rows L2

abbrev KD := List (L2.Key × D)
def keyD : L2.Key → D
  | .inl i => .int i
  | .inr x => .str x
def toKey : D → Option L2.Key
  | .int i => some (.inl i)
  | .str x => some (.inr x)
  | _ => none
def valD (kvs : KD) (k : L2.Key) : Option D := (kvs.find? fun kv => decide (kv.1 = k)).map (·.2)
def putKD (kvs : KD) (k : L2.Key) (d : D) : KD := if (kvs.any fun kv => decide (kv.1 = k)) = true then kvs.map (fun kv => if kv.1 = k then (kv.1, d) else kv) else kvs ++ [(k, d)]
def dropKD (kvs : KD) (k : L2.Key) : KD := kvs.filter fun kv => decide (kv.1 ≠ k)
section
variable {K : PySem.W.Frag} {G : Hp} {mu : Nat → Addr} {N : Nat}
theorem toKey_rep {v : V} {d : D} {k : L2.Key} (r : RepV K G mu N v d) (e : toKey d = some k) : v = kV k := by
  cases r <;> first | (cases e; rfl) | cases e
theorem keyD_rep (k : L2.Key) : RepV K G mu N (kV k) (keyD k) := by
  cases k with
  | inl i => exact .int i
  | inr x => exact .str x
theorem rep_val (k : L2.Key) : ∀ {kv : List (L2.Key × V)} {kvs : KD}, kv.map (·.1) = kvs.map (·.1) → RepAll K G mu N (kv.map (·.2)) (kvs.map (·.2)) →
    (∀ d, valD kvs k = some d → ∃ v, valV kv k = some v ∧ RepV K G mu N v d) ∧ (valD kvs k = none → valV kv k = none)
  | [], [], _, _ => ⟨fun d e => (by cases e), fun _ => rfl⟩
  | [], _ :: _, e, _ => by cases e
  | _ :: _, [], e, _ => by cases e
  | (g, v) :: fv, (g', d) :: fs, e, r => by
    rw [List.map_cons, List.map_cons] at e r
    cases r with
    | cons r1 r2 =>
      obtain ⟨e1, e2⟩ := List.cons.inj e
      have e1 : g = g' := e1
      subst e1
      obtain ⟨i1, i2⟩ := rep_val k e2 r2
      by_cases c : g = k
      · have q1 : valV ((g, v) :: fv) k = some v := valV_pos c
        have q2 : valD ((g, d) :: fs) k = some d := by simp [valD, List.find?_cons, c]
        rw [q1, q2]
        exact ⟨fun x q => by cases q; exact ⟨v, rfl, r1⟩, fun q => by cases q⟩
      · have q1 : valV ((g, v) :: fv) k = valV fv k := valV_neg c
        have q2 : valD ((g, d) :: fs) k = valD fs k := by simp [valD, List.find?_cons, c]
        rw [q1, q2]
        exact ⟨i1, i2⟩
theorem any_keys (k : L2.Key) : ∀ {kv : List (L2.Key × V)} {kvs : KD}, kv.map (·.1) = kvs.map (·.1) → (kv.any fun x => decide (x.1 = k)) = (kvs.any fun x => decide (x.1 = k))
  | [], [], _ => rfl
  | [], _ :: _, e => by cases e
  | _ :: _, [], e => by cases e
  | (g, v) :: fv, (g', d) :: fs, e => by
    rw [List.map_cons, List.map_cons] at e
    obtain ⟨e1, e2⟩ := List.cons.inj e
    have e1 : g = g' := e1
    subst e1
    rw [List.any_cons, List.any_cons, any_keys k e2]
theorem rep_mapK (k : L2.Key) {v : V} {d : D} (rv : RepV K G mu N v d) : ∀ {kv : List (L2.Key × V)} {kvs : KD}, kv.map (·.1) = kvs.map (·.1) → RepAll K G mu N (kv.map (·.2)) (kvs.map (·.2)) →
    (kv.map fun x => if x.1 = k then (x.1, v) else x).map (·.1) = (kvs.map fun x => if x.1 = k then (x.1, d) else x).map (·.1) ∧ RepAll K G mu N ((kv.map fun x => if x.1 = k then (x.1, v) else x).map (·.2)) ((kvs.map fun x => if x.1 = k then (x.1, d) else x).map (·.2))
  | [], [], _, _ => ⟨rfl, .nil⟩
  | [], _ :: _, e, _ => by cases e
  | _ :: _, [], e, _ => by cases e
  | (g, x) :: fv, (g', y) :: fs, e, r => by
    rw [List.map_cons, List.map_cons] at e r
    cases r with
    | cons r1 r2 =>
      obtain ⟨e1, e2⟩ := List.cons.inj e
      have e1 : g = g' := e1
      subst e1
      obtain ⟨i1, i2⟩ := rep_mapK k rv e2 r2
      rw [List.map_cons, List.map_cons, List.map_cons, List.map_cons, List.map_cons, List.map_cons]
      by_cases c : g = k
      · rw [if_pos c, if_pos c]
        exact ⟨by rw [i1], .cons rv i2⟩
      · rw [if_neg c, if_neg c]
        exact ⟨by rw [i1], .cons r1 i2⟩
theorem rep_putK (k : L2.Key) {v : V} {d : D} (rv : RepV K G mu N v d) {kv : List (L2.Key × V)} {kvs : KD} (e : kv.map (·.1) = kvs.map (·.1)) (r : RepAll K G mu N (kv.map (·.2)) (kvs.map (·.2))) :
    (putK kv k v).map (·.1) = (putKD kvs k d).map (·.1) ∧ RepAll K G mu N ((putK kv k v).map (·.2)) ((putKD kvs k d).map (·.2)) := by
  unfold putK putKD
  rw [any_keys k e]
  by_cases c : (kvs.any fun x => decide (x.1 = k)) = true
  · rw [if_pos c, if_pos c]
    exact rep_mapK k rv e r
  · rw [if_neg c, if_neg c]
    refine ⟨by rw [List.map_append, List.map_append, e]; rfl, ?_⟩
    rw [List.map_append, List.map_append]
    exact r.append (.cons rv .nil)
theorem rep_dropK (k : L2.Key) : ∀ {kv : List (L2.Key × V)} {kvs : KD}, kv.map (·.1) = kvs.map (·.1) → RepAll K G mu N (kv.map (·.2)) (kvs.map (·.2)) →
    (dropK kv k).map (·.1) = (dropKD kvs k).map (·.1) ∧ RepAll K G mu N ((dropK kv k).map (·.2)) ((dropKD kvs k).map (·.2))
  | [], [], _, _ => ⟨rfl, .nil⟩
  | [], _ :: _, e, _ => by cases e
  | _ :: _, [], e, _ => by cases e
  | (g, x) :: fv, (g', y) :: fs, e, r => by
    rw [List.map_cons, List.map_cons] at e r
    cases r with
    | cons r1 r2 =>
      obtain ⟨e1, e2⟩ := List.cons.inj e
      have e1 : g = g' := e1
      subst e1
      obtain ⟨i1, i2⟩ := rep_dropK k e2 r2
      unfold dropK dropKD at i1 i2 ⊢
      by_cases c : g = k
      · simp only [List.filter_cons, c, ne_eq, not_true_eq_false, decide_false, Bool.false_eq_true, if_false]
        exact ⟨i1, i2⟩
      · simp only [List.filter_cons, c, ne_eq, not_false_eq_true, decide_true, if_true, List.map_cons]
        exact ⟨by rw [i1], .cons r1 i2⟩
end
/-- the dict at n, locked or not -/
def dctAt (h : AH) (n : Nat) : Option KD := match h[n]? with
  | some (.dct kvs) => some kvs
  | some (.lck kvs) => some kvs
  | _ => none
theorem dct_rd {K : PySem.W.Frag} {w : Wd} {H : Hp} {h : AH} {n : Nat} {kvs : KD} (r : RepH K w H h) (e : dctAt h n = some kvs) : ∃ kv, Rd H (w.mu n) (.dK kv) ∧ kv.map (·.1) = kvs.map (·.1) ∧ Ra K w (kv.map (·.2)) (kvs.map (·.2)) := by
  unfold dctAt at e
  split at e
  · rename_i ks ek
    cases e
    obtain ⟨_, kv, e1, e2, ra⟩ := r.cell n _ ek
    exact ⟨kv, .inl e1, e2, ra⟩
  · rename_i ks ek
    cases e
    obtain ⟨_, o, kv, e1, _, e2, ra⟩ := r.cell n _ ek
    exact ⟨kv, .inr ⟨o, e1⟩, e2, ra⟩
  · cases e
/-- d[k] -/
def fDGet (x y : D) (h : AH) : Res D := match x with
  | .loc n => match dctAt h n, toKey y with
    | some kvs, some k => match valD kvs k with
      | some d => .ok d h
      | none => .stuck
    | _, _ => .stuck
  | _ => .stuck
/-- k in d -/
def fDIn (x y : D) (h : AH) : Res D := match y with
  | .loc n => match dctAt h n, toKey x with
    | some kvs, some k => .ok (.bl (valD kvs k).isSome) h
    | _, _ => .stuck
  | _ => .stuck
def fDNotIn (x y : D) (h : AH) : Res D := match y with
  | .loc n => match dctAt h n, toKey x with
    | some kvs, some k => .ok (.bl (!(valD kvs k).isSome)) h
    | _, _ => .stuck
  | _ => .stuck
/-- {} -/
def mDNew : Me := fun _ h => .ok (.loc h.length) (h ++ [.dct []])
/-- d[k] = v -/
def sDPutM (o k v : Me) : Ms := fun G h => (v G h).toS G fun x h1 => (o G h1).toS G fun d h2 => (k G h2).toS G fun j h3 => match d with
  | .loc n => match h3[n]?, toKey j with
    | some (.dct kvs), some q => if kvs.length < big then .next G (h3.set n (.dct (putKD kvs q x))) else .stuck
    | _, _ => .stuck
  | _ => .stuck
/-- d.get(k), d.get(k, x) -/
def mDGet1 (o k : Me) : Me := fun G h => (o G h).bind fun d h1 => match d with
  | .loc n => match dctAt h1 n with
    | some _ => (k G h1).bind fun j h2 => match dctAt h2 n, toKey j with
      | some kvs, some q => .ok ((valD kvs q).getD .non) h2
      | _, _ => .stuck
    | none => .stuck
  | _ => .stuck
def mDGet2 (o k x : Me) : Me := fun G h => (o G h).bind fun d h1 => match d with
  | .loc n => match dctAt h1 n with
    | some _ => (k G h1).bind fun j h2 => (x G h2).bind fun z h3 => match dctAt h3 n, toKey j with
      | some kvs, some q => .ok ((valD kvs q).getD z) h3
      | _, _ => .stuck
    | none => .stuck
  | _ => .stuck
/-- d.setdefault(k, x) -/
def mDSetd (o k x : Me) : Me := fun G h => (o G h).bind fun d h1 => match d with
  | .loc n => match dctAt h1 n with
    | some _ => (k G h1).bind fun j h2 => (x G h2).bind fun z h3 => match h3[n]?, toKey j with
      | some (.dct kvs), some q => if kvs.length < big then (match valD kvs q with
        | some y => .ok y h3
        | none => .ok z (h3.set n (.dct (putKD kvs q z)))) else .stuck
      | _, _ => .stuck
    | none => .stuck
  | _ => .stuck
/-- d.pop(k) -/
def mDPop1 (o k : Me) : Me := fun G h => (o G h).bind fun d h1 => match d with
  | .loc n => match dctAt h1 n with
    | some _ => (k G h1).bind fun j h2 => match h2[n]?, toKey j with
      | some (.dct kvs), some q => (match valD kvs q with
        | some y => .ok y (h2.set n (.dct (dropKD kvs q)))
        | none => .stuck)
      | _, _ => .stuck
    | none => .stuck
  | _ => .stuck
section
variable {X : Cx} {W : WX} {o i e f value : Expr} {pos pos' tpos apos cpos : Pos} {mo mk mv mx : Me}
theorem dget_of {w : Wd} {H : Hp} {h : AH} {n : Nat} {kvs : KD} {y : V} {d : D} {k : L2.Key} (r : RepH X.K w H h) (e : dctAt h n = some kvs) (ry : Rv X.K w y d) (ek : toKey d = some k) :
    ∃ ov, DGet H (w.mu n) y ov ∧ (∀ x, valD kvs k = some x → ∃ v, ov = some v ∧ Rv X.K w v x) ∧ (valD kvs k = none → ov = none) := by
  obtain ⟨kv, e1, e2, ra⟩ := dct_rd r e
  have ey := toKey_rep ry ek
  subst ey
  exact ⟨valV kv k, .inl ⟨kv, k, e1, rfl, rfl⟩, (rep_val k e2 ra).1, (rep_val k e2 ra).2⟩
theorem isD_of {w : Wd} {H : Hp} {h : AH} {n : Nat} {kvs : KD} (r : RepH X.K w H h) (e : dctAt h n = some kvs) : IsD H (w.mu n) := by
  obtain ⟨kv, e1, _⟩ := dct_rd r e
  exact .inl ⟨kv, e1⟩
theorem isSome_of {kvs : KD} {k : L2.Key} {ov : Option V} {w : Wd} (h1 : ∀ x, valD kvs k = some x → ∃ v, ov = some v ∧ Rv X.K w v x) (h2 : valD kvs k = none → ov = none) : ov.isSome = (valD kvs k).isSome := by
  cases e : valD kvs k with
  | none => rw [h2 e]; rfl
  | some x =>
    obtain ⟨v, ev, _⟩ := h1 x e
    rw [ev]
    rfl
theorem e_dget (hu : X.A.units + 1 < cLine) (ho : PE X o (TM X W mo)) (hi : PE X i (TM X W mk)) (hs : NoSl i := by exact fun _ _ => rfl) : PE X (.Subscript o i pos) (TM X W (mOp2 fDGet mo mk)) := by
  refine (pe_dget hu ho hi hs).wk fun σ H Q ⟨w, G, h, g, r, o⟩ => ⟨w, G, h, g, r, o.bindE fun x h1 v1 w1 H1 l1 r1 rx o1 => ⟨w1, G, h1, g.mono l1, r1, o1.bindE fun y h2 v2 w2 H2 l2 r2 ry o2 => ?_⟩⟩
  unfold fDGet at o2
  split at o2
  · rename_i n
    obtain ⟨rfl, hn⟩ := rv_loc rx
    split at o2
    · rename_i kvs k e1 e2
      split at o2
      · rename_i d ed
        obtain ⟨ov, g1, g2, _⟩ := dget_of r2 e1 ry e2
        obtain ⟨v, ev, rv⟩ := g2 d ed
        subst ev
        refine ⟨_, v, rfl, ?_, o2 v w2 H2 (Le.refl _) r2 rv⟩
        rw [← l2.mu n hn]
        exact g1
      · exact o2.elim
    · exact o2.elim
  · exact o2.elim
def rDIn (b : Bool) : R2 := fun x y H Q => ∃ a o, y = .ref a ∧ DGet H a x o ∧ Q (.bl (if b then o.isSome else !o.isSome)) H
theorem op_dIn (hu : X.A.units + 1 < cLine) : OpR X (compareOp .In) (rDIn true) := by
  rintro pins s σ H x y u v Q I rx ry ⟨a, o, rfl, g, q⟩
  obtain rfl : v = Value.ref a := ry
  exact d_in hu I g rx fun s3 I3 => ⟨.bl o.isSome, H, I3, rfl, q⟩
theorem op_dNotIn (hu : X.A.units + 1 < cLine) : OpR X (compareOp .NotIn) (rDIn false) := by
  rintro pins s σ H x y u v Q I rx ry ⟨a, o, rfl, g, q⟩
  obtain rfl : v = Value.ref a := ry
  exact d_notIn hu I g rx fun s3 I3 => ⟨.bl (!o.isSome), H, I3, rfl, q⟩
theorem fol_dIn : Fol2 X W fDIn (rDIn true) := by
  intro w h H σ Q v1 v2 d1 d2 rh r1 r2 o
  unfold fDIn at o
  split at o
  · rename_i n
    obtain ⟨rfl, hn⟩ := rv_loc r2
    split at o
    · rename_i kvs k e1 e2
      obtain ⟨ov, g1, g2, g3⟩ := dget_of rh e1 r1 e2
      refine ⟨_, ov, rfl, g1, ?_⟩
      have q := isSome_of g2 g3
      rw [if_pos rfl, q]
      exact o _ w H (Le.refl _) rh (.bl _)
    · exact o.elim
  · exact o.elim
theorem fol_dNotIn : Fol2 X W fDNotIn (rDIn false) := by
  intro w h H σ Q v1 v2 d1 d2 rh r1 r2 o
  unfold fDNotIn at o
  split at o
  · rename_i n
    obtain ⟨rfl, hn⟩ := rv_loc r2
    split at o
    · rename_i kvs k e1 e2
      obtain ⟨ov, g1, g2, g3⟩ := dget_of rh e1 r1 e2
      refine ⟨_, ov, rfl, g1, ?_⟩
      have q := isSome_of g2 g3
      rw [if_neg (by decide), q]
      exact o _ w H (Le.refl _) rh (.bl _)
    · exact o.elim
  · exact o.elim
theorem e_dnew : PE X (.Dict [] [] pos) (TM X W mDNew) := by
  refine pe_dnewK.wk fun σ H Q ⟨w, G, h, g, r, o⟩ => fun p hp => ?_
  have r1 := r.newO (u := .dK []) (o := .dct []) hp ⟨[], upd_same, rfl, .nil⟩
  have rx := rv_new (K := X.K) (w := w) p
  rw [r.len] at rx
  exact o (.ref p) (w.push p) _ (w.le_push p) r1 rx
theorem set_dct {w : Wd} {H : Hp} {h : AH} {n : Nat} {kvs : KD} {kv : List (L2.Key × V)} (r : RepH X.K w H h) (hn : n < w.N) (e2 : kv.map (·.1) = kvs.map (·.1)) (ra : Ra X.K w (kv.map (·.2)) (kvs.map (·.2))) :
    RepH X.K w (upd H (w.mu n) (.dK kv)) (h.set n (.dct kvs)) := r.set hn ⟨kv, upd_same, e2, ra⟩
theorem kv_len {kv : List (L2.Key × V)} {kvs : KD} (e : kv.map (·.1) = kvs.map (·.1)) : kv.length = kvs.length := by
  have := congrArg List.length e
  simpa using this
theorem s_dput (hu : X.A.units + 1 < cLine) (ho : PE X o (TM X W mo)) (hi : PE X i (TM X W mk)) (hv : PE X value (TM X W mv)) (hs : swapsWith value (some (.Subscript o i pos')) pos.line X.env = pure false := by rfl) :
    PS X (.Assign [.Subscript o i pos'] value pos) (TSS X W (sDPutM mo mk mv)) := by
  refine (ps_dput hu ho hi hv hs).wk fun D σ H ⟨w, G, h, g, r, o⟩ => ⟨w, G, h, g, r, OutS.bindE (m := mv) g o fun x h1 v w1 H1 l1 r1 rx o1 => ?_⟩
  have g1 := g.mono l1
  refine ⟨w1, G, h1, g1, r1, OutS.bindE (m := mo) g1 o1 fun d h2 v2 w2 H2 l2 r2 rd o2 => ?_⟩
  have g2 := g1.mono l2
  refine ⟨w2, G, h2, g2, r2, OutS.bindE (m := mk) g2 o2 fun j h3 v3 w3 H3 l3 r3 rj o3 => ?_⟩
  split at o3
  · rename_i n
    obtain ⟨rfl, hn⟩ := rv_loc rd
    split at o3
    · rename_i kvs q e1 e2
      split at o3
      · rename_i hl
        obtain ⟨_, kv, f1, f2, ra⟩ := r3.cell n _ e1
        have ey := toKey_rep rj e2
        subst ey
        have emu : w3.mu n = w2.mu n := l3.mu n hn
        have hn3 : n < w3.N := Nat.lt_of_lt_of_le hn l3.n
        obtain ⟨p1, p2⟩ := rep_putK q (Rv_mono (l2.trans l3) rx) f2 ra
        refine ⟨_, upd H3 (w3.mu n) (.dK (putK kv q v)), rfl, .inl ⟨kv, q, ?_, rfl, big_lt (by rw [kv_len f2]; exact hl), ?_⟩, ?_⟩
        · rw [← emu]; exact f1
        · rw [emu]
        · exact o3 σ w3 _ (Le.refl _) (g2.mono l3) (set_dct r3 hn3 p1 p2)
      · exact o3.elim
    · exact o3.elim
  · exact o3.elim
theorem e_dget1 (hu : X.A.units + 1 < cLine) (ho : PE X o (TM X W mo)) (he : PE X e (TM X W mk)) (m : M1 X o "get" apos e cpos := by exact ⟨rfl, rfl, rfl, rfl⟩) : PE X (.Call (.Attribute o "get" apos) [e] [] cpos) (TM X W (mDGet1 mo mk)) := by
  refine (pe_dget1 hu ho he m).wk fun σ H Q ⟨w, G, h, g, r, o⟩ => ⟨w, G, h, g, r, o.bindE fun x h1 v1 w1 H1 l1 r1 rx o1 => ?_⟩
  split at o1
  · rename_i n
    obtain ⟨rfl, hn⟩ := rv_loc rx
    split at o1
    · rename_i ks ek
      refine ⟨_, rfl, isD_of r1 ek, w1, G, h1, g.mono l1, r1, o1.bindE fun y h2 v2 w2 H2 l2 r2 ry o2 => ?_⟩
      split at o2
      · rename_i kvs q e1 e2
        obtain ⟨ov, g1, g2, g3⟩ := dget_of r2 e1 ry e2
        refine ⟨ov, by rw [← l2.mu n hn]; exact g1, o2 _ w2 H2 (Le.refl _) r2 ?_⟩
        cases ev : valD kvs q with
        | none => rw [g3 ev]; exact .non
        | some d =>
          obtain ⟨v, e3, rv⟩ := g2 d ev
          rw [e3]
          exact rv
      · exact o2.elim
    · exact o1.elim
  · exact o1.elim
theorem e_dget2 (hu : X.A.units + 1 < cLine) (ho : PE X o (TM X W mo)) (he : PE X e (TM X W mk)) (hf : PE X f (TM X W mx)) (m : M2 X o "get" apos e f cpos := by exact ⟨rfl, rfl, rfl, rfl⟩) : PE X (.Call (.Attribute o "get" apos) [e, f] [] cpos) (TM X W (mDGet2 mo mk mx)) := by
  refine (pe_dget2 hu ho he hf m).wk fun σ H Q ⟨w, G, h, g, r, o⟩ => ⟨w, G, h, g, r, o.bindE fun x h1 v1 w1 H1 l1 r1 rx o1 => ?_⟩
  split at o1
  · rename_i n
    obtain ⟨rfl, hn⟩ := rv_loc rx
    split at o1
    · rename_i ks ek
      refine ⟨_, rfl, isD_of r1 ek, w1, G, h1, g.mono l1, r1, o1.bindE fun y h2 v2 w2 H2 l2 r2 ry o2 => ?_⟩
      refine ⟨w2, G, h2, (g.mono l1).mono l2, r2, o2.bindE fun z h3 v3 w3 H3 l3 r3 rz o3 => ?_⟩
      split at o3
      · rename_i kvs q e1 e2
        obtain ⟨ov, g1, g2, g3⟩ := dget_of r3 e1 (Rv_mono l3 ry) e2
        refine ⟨ov, by rw [← (l2.trans l3).mu n hn]; exact g1, o3 _ w3 H3 (Le.refl _) r3 ?_⟩
        cases ev : valD kvs q with
        | none => rw [g3 ev]; exact rz
        | some d =>
          obtain ⟨v, e3, rv⟩ := g2 d ev
          rw [e3]
          exact rv
      · exact o3.elim
    · exact o1.elim
  · exact o1.elim
theorem e_dsetd (ho : PE X o (TM X W mo)) (he : PE X e (TM X W mk)) (hf : PE X f (TM X W mx)) (m : M2 X o "setdefault" apos e f cpos := by exact ⟨rfl, rfl, rfl, rfl⟩) : PE X (.Call (.Attribute o "setdefault" apos) [e, f] [] cpos) (TM X W (mDSetd mo mk mx)) := by
  refine (pe_dsetd ho he hf m).wk fun σ H Q ⟨w, G, h, g, r, o⟩ => ⟨w, G, h, g, r, o.bindE fun x h1 v1 w1 H1 l1 r1 rx o1 => ?_⟩
  split at o1
  · rename_i n
    obtain ⟨rfl, hn⟩ := rv_loc rx
    split at o1
    · rename_i ks ek
      refine ⟨_, rfl, isD_of r1 ek, w1, G, h1, g.mono l1, r1, o1.bindE fun y h2 v2 w2 H2 l2 r2 ry o2 => ?_⟩
      refine ⟨w2, G, h2, (g.mono l1).mono l2, r2, o2.bindE fun z h3 v3 w3 H3 l3 r3 rz o3 => ?_⟩
      split at o3
      · rename_i kvs q e1 e2
        split at o3
        · rename_i hl
          obtain ⟨_, kv, f1, f2, ra⟩ := r3.cell n _ e1
          have ey := toKey_rep (Rv_mono l3 ry) e2
          subst ey
          have emu : w3.mu n = w1.mu n := (l2.trans l3).mu n hn
          have hn3 : n < w3.N := Nat.lt_of_lt_of_le hn (l2.trans l3).n
          refine ⟨kv, q, by rw [← emu]; exact f1, rfl, big_lt (by rw [kv_len f2]; exact hl), fun v hv => ?_, fun hv => ?_⟩
          · cases ev : valD kvs q with
            | none =>
              rw [(rep_val q f2 ra).2 ev] at hv
              cases hv
            | some d =>
              rw [ev] at o3
              obtain ⟨u, e3, ru⟩ := (rep_val q f2 ra).1 d ev
              rw [e3] at hv
              cases hv
              exact o3 _ w3 H3 (Le.refl _) r3 ru
          · cases ev : valD kvs q with
            | some d =>
              obtain ⟨u, e3, ru⟩ := (rep_val q f2 ra).1 d ev
              rw [e3] at hv
              cases hv
            | none =>
              rw [ev] at o3
              obtain ⟨p1, p2⟩ := rep_putK q rz f2 ra
              rw [← emu]
              exact o3 _ w3 _ (Le.refl _) (set_dct r3 hn3 p1 p2) rz
        · exact o3.elim
      · exact o3.elim
    · exact o1.elim
  · exact o1.elim
theorem e_dpop1 (ho : PE X o (TM X W mo)) (he : PE X e (TM X W mk)) (m : M1 X o "pop" apos e cpos := by exact ⟨rfl, rfl, rfl, rfl⟩) : PE X (.Call (.Attribute o "pop" apos) [e] [] cpos) (TM X W (mDPop1 mo mk)) := by
  refine (pe_dpop1 ho he m).wk fun σ H Q ⟨w, G, h, g, r, o⟩ => ⟨w, G, h, g, r, o.bindE fun x h1 v1 w1 H1 l1 r1 rx o1 => ?_⟩
  split at o1
  · rename_i n
    obtain ⟨rfl, hn⟩ := rv_loc rx
    split at o1
    · rename_i ks ek
      refine ⟨_, rfl, isD_of r1 ek, w1, G, h1, g.mono l1, r1, o1.bindE fun y h2 v2 w2 H2 l2 r2 ry o2 => ?_⟩
      split at o2
      · rename_i kvs q e1 e2
        split at o2
        · rename_i d ed
          obtain ⟨_, kv, f1, f2, ra⟩ := r2.cell n _ e1
          have ey := toKey_rep ry e2
          subst ey
          obtain ⟨v, e3, rv⟩ := (rep_val q f2 ra).1 d ed
          obtain ⟨p1, p2⟩ := rep_dropK q f2 ra
          have hn2 : n < w2.N := Nat.lt_of_lt_of_le hn l2.n
          refine ⟨kv, q, v, by rw [← l2.mu n hn]; exact f1, rfl, e3, ?_⟩
          rw [← l2.mu n hn]
          exact o2 _ w2 _ (Le.refl _) (set_dct r2 hn2 p1 p2) rv
        · exact o2.elim
      · exact o2.elim
    · exact o1.elim
  · exact o1.elim
end
end AB
/-! AB: loops over dicts, which are locked meanwhile. -/
namespace AB
open PySem PySem.Spec PyProof.Rows L2

def pickI (kv : L2.Key × D) : D := .tup [keyD kv.1, kv.2]
def pickK (kv : L2.Key × D) : D := keyD kv.1
def pickV (kv : L2.Key × D) : D := kv.2
open Classical in
noncomputable def forGoD (p : Pat) (body : Ms) (pick : L2.Key × D → D) (n : Nat) (kvs : KD) : KD → Env → AH → SR
  | [], G, h => if h[n]? = some (.lck kvs) then .next G (h.set n (.dct kvs)) else .stuck
  | x :: r, G, h => if h[n]? = some (.lck kvs) then
      match asg p (pick x) G with
      | some G1 => match body G1 h with
        | .next G2 h2 => forGoD p body pick n kvs r G2 h2
        | .cont G2 h2 => forGoD p body pick n kvs r G2 h2
        | .brk G2 h2 => if h2[n]? = some (.lck kvs) then .next G2 (h2.set n (.dct kvs)) else .stuck
        | .ret d h2 => if h2[n]? = some (.lck kvs) then .ret d (h2.set n (.dct kvs)) else .stuck
        | _ => .stuck
      | none => .stuck
    else .stuck
open Classical in
/-- for .. in d.items() (keys, values): d is a plain thing, a name or an attribute -/
noncomputable def sForD (pick : L2.Key × D → D) (p : Pat) (o : Me) (body : Ms) : Ms := fun G h => match o G h with
  | .ok (.loc n) h1 => if h1 = h then (match h[n]? with
    | some (.dct kvs) => if o G (h.set n (.lck kvs)) = .ok (.loc n) (h.set n (.lck kvs)) then forGoD p body pick n kvs kvs G (h.set n (.lck kvs)) else .stuck
    | _ => .stuck) else .stuck
  | _ => .stuck
/-- other locks -/
def Wd.lkd (w : Wd) (L : Hp) : Wd := ⟨w.S, w.F, w.mu, w.N, L⟩
section
variable {K : PySem.W.Frag} {w : Wd} {H : Hp} {h : AH}
theorem RepH.relk (r : RepH K w H h) {n : Nat} {u : HO} {o : AO} {L : Hp} (hn : n < w.N) (hL : ∀ a, a ≠ w.mu n → L a = w.LK a) (ro : RepO K (w.lkd L) (upd H (w.mu n) u) (w.mu n) o) : RepH K (w.lkd L) (upd H (w.mu n) u) (h.set n o) := by
  refine ⟨fun a x e => ?_, by rw [List.length_set]; exact r.len, r.inj, fun m o' e => ?_, fun a x e => by rw [upd_ne (fun z => (r.dis a x e).2 n hn z.symm)]; exact r.exF _ _ e, r.dis⟩
  · have hl : n < h.length := by rw [← r.len]; exact hn
    obtain ⟨z, _⟩ := r.cell n h[n] (List.getElem?_eq_getElem hl)
    have q : a ≠ w.mu n := by
      intro y
      have e : w.S a = some x := e
      rw [y, z] at e
      cases e
    rw [upd_ne q]
    exact r.ex _ _ e
  · by_cases hm : m = n
    · subst hm
      have hl : m < h.length := by rw [← r.len]; exact hn
      obtain ⟨z, _⟩ := r.cell m h[m] (List.getElem?_eq_getElem hl)
      rw [List.getElem?_set_self hl] at e
      cases e
      exact ⟨z, ro⟩
    · rw [List.getElem?_set_ne (Ne.symm hm)] at e
      obtain ⟨a, b⟩ := r.cell m o' e
      have hl : m < w.N := by rw [r.len]; exact (List.getElem?_eq_some_iff.mp e).1
      have hne : w.mu m ≠ w.mu n := fun z => hm (r.inj m n hl hn z)
      refine ⟨a, ?_⟩
      have b2 : RepO K w (upd H (w.mu n) u) (w.mu m) o' := b.mono (Le.refl w) (upd_ne hne)
      show RepO K (w.lkd L) (upd H (w.mu n) u) (w.mu m) o'
      cases o' with
      | lst ds => exact b2
      | ins C fs => exact b2
      | dct kvs => exact b2
      | lck kvs =>
        obtain ⟨o, kv, e1, e0, e2, ra⟩ := b2
        exact ⟨o, kv, e1, (hL _ hne).trans e0, e2, ra⟩
end
section
variable {X : Cx} {W : WX} {tg iter e : Expr} {body : List Stmt} {pos apos cpos : Pos} {p : Pat} {mo : Me} {mb : Ms} {pick : L2.Key × D → D}
/-- what is walked of the locked dict at a -/
structure WalksD (K : PySem.W.Frag) (J : Addr → Obj → List (L2.Key × V) → It) (pick : L2.Key × D → D) : Prop where
  go : ∀ d o kvs i H, H d = some (.frz o (.dK kvs)) → i < kvs.length → (J d o kvs).go i H
  stop : ∀ d o kvs i H, H d = some (.frz o (.dK kvs)) → kvs.length ≤ i → (J d o kvs).stop i H
  yld : ∀ (w : Wd) (h : AH) d o kvs (ks : KD) i H x H2 kd, RepH K w H h → (J d o kvs).yld i H x H2 → kvs.map (·.1) = ks.map (·.1) → Ra K w (kvs.map (·.2)) (ks.map (·.2)) → ks[i]? = some kd →
    ∃ w2, Le w w2 ∧ RepH K w2 H2 h ∧ Rv K w2 x (pick kd)
theorem at_both {K : PySem.W.Frag} {w : Wd} {kvs : List (L2.Key × V)} {ks : KD} {i : Nat} {kd : L2.Key × D} {k : L2.Key} {v : V} (e : kvs.map (·.1) = ks.map (·.1)) (ra : Ra K w (kvs.map (·.2)) (ks.map (·.2))) (h1 : ks[i]? = some kd) (h2 : kvs[i]? = some (k, v)) :
    k = kd.1 ∧ Rv K w v kd.2 := by
  have q1 : (kvs.map (·.1))[i]? = some k := by rw [List.getElem?_map, h2]; rfl
  rw [e, List.getElem?_map, h1] at q1
  have q2 : (ks.map (·.2))[i]? = some kd.2 := by rw [List.getElem?_map, h1]; rfl
  obtain ⟨u, e1, ru⟩ := ra.get q2
  rw [List.getElem?_map, h2] at e1
  cases q1
  cases e1
  exact ⟨rfl, ru⟩
theorem walks_items {K : PySem.W.Frag} : WalksD K Iti pickI := by
  refine ⟨fun d o kvs i H h1 h2 => ⟨h1, h2⟩, fun d o kvs i H h1 h2 => ⟨h1, h2⟩, ?_⟩
  rintro w h d o kvs ks i H x H2 kd r ⟨T, k, v, e1, rfl, e2, rfl⟩ e ra ek
  obtain ⟨rfl, rv⟩ := at_both e ra ek e1
  refine ⟨w.add T (.tup [kV kd.1, v]), r.le_add e2, r.add e2, .tup (.inl (.inl upd_same)) (.cons (Rv_mono (r.le_add e2) (keyD_rep kd.1)) (.cons (Rv_mono (r.le_add e2) rv) .nil))⟩
theorem walks_keys {K : PySem.W.Frag} : WalksD K Itk pickK := by
  refine ⟨fun d o kvs i H h1 h2 => ⟨h1, h2⟩, fun d o kvs i H h1 h2 => ⟨h1, h2⟩, ?_⟩
  rintro w h d o kvs ks i H x H2 kd r ⟨rfl, k, v, e1, rfl⟩ e ra ek
  obtain ⟨rfl, rv⟩ := at_both e ra ek e1
  exact ⟨w, Le.refl _, r, keyD_rep kd.1⟩
theorem walks_vals {K : PySem.W.Frag} : WalksD K Itd pickV := by
  refine ⟨fun d o kvs i H h1 h2 => ⟨h1, h2⟩, fun d o kvs i H h1 h2 => ⟨h1, h2⟩, ?_⟩
  rintro w h d o kvs ks i H x H2 kd r ⟨rfl, k, e1⟩ e ra ek
  obtain ⟨rfl, rv⟩ := at_both e ra ek e1
  exact ⟨w, Le.refl _, r, rv⟩
theorem s_forD {J : Addr → Obj → List (L2.Key × V) → It} (wk : WalksD X.K J pick) {ti : TI} (hti : ∀ σ H (R : It → Hp → Prop), (TM X W mo σ H fun x H1 => ∃ d o kvs, x = .ref d ∧ H1 d = some (.frz o (.dK kvs)) ∧ R (J d o kvs) H1) → ti σ H R)
    (hp : PassesOwn (model X.prog X.w) X.A X.env X.xe) (hi : PI X tg iter ti) (hg : PG X tg (gP X.K p)) (hb : PSs X body (TSS X W mb)) (hc : X.calm = true := by rfl) (hs : ∀ x, foldedSetIterable iter X.env x = pure x := by intro _; rfl) :
    PS X (.For tg iter body [] pos) (TSS X W (sForD pick p mo mb)) := by
  refine (ps_lock (ps_for hp hc hi hg hb hs)).wk fun D σ H ⟨w, G, h, g, r, o⟩ => ?_
  unfold sForD at o
  split at o
  · rename_i n h1 eo
    split at o
    · rename_i eh
      subst eh
      split at o
      · rename_i kvs ec
        split at o
        · rename_i eo2
          have hn : n < w.N := by rw [r.len]; exact (List.getElem?_eq_some_iff.mp ec).1
          obtain ⟨sN, kv, e1, e2, ra⟩ := r.cell n _ ec
          refine ⟨w.mu n, .dK kv, e1, trivial, fun od => ?_⟩
          obtain ⟨wL, hwL⟩ : ∃ wL, wL = w.lkd (upd w.LK (w.mu n) (.frz od (.dK kv))) := ⟨_, rfl⟩
          have rL : RepH X.K wL (upd H (w.mu n) (.frz od (.dK kv))) (h1.set n (.lck kvs)) := by
            rw [hwL]
            exact r.relk hn (fun a ha => upd_ne ha) ⟨od, kv, upd_same, upd_same, e2, ra⟩
          have gL : RepG X.K wL σ G := by rw [hwL]; exact g
          have hnL : n < wL.N := by rw [hwL]; exact hn
          have muL : wL.mu n = w.mu n := by rw [hwL]; rfl
          have lkL : wL.LK = upd w.LK (w.mu n) (.frz od (.dK kv)) := by rw [hwL]; rfl
          -- the locked dict later
          have back : ∀ w' H' h', Le wL w' → RepH X.K w' H' h' → h'[n]? = some (.lck kvs) → w'.mu n = w.mu n ∧ H' (w.mu n) = some (.frz od (.dK kv)) ∧ Ra X.K w' (kv.map (·.2)) (kvs.map (·.2)) := by
            intro w' H' h' l' r' e'
            obtain ⟨_, o', kv', f1, f0, f2, ra'⟩ := r'.cell n _ e'
            have em : w'.mu n = w.mu n := (l'.mu n hnL).trans muL
            rw [em, l'.lk, lkL, upd_same] at f0
            cases f0
            rw [em] at f1
            exact ⟨em, f1, ra'⟩
          -- the unlocked state
          have un : ∀ w' H' h', Le wL w' → RepH X.K w' H' h' → h'[n]? = some (.lck kvs) → Le w (w'.lkd w.LK) ∧ RepH X.K (w'.lkd w.LK) (upd H' (w.mu n) (.dK kv)) (h'.set n (.dct kvs)) := by
            intro w' H' h' l' r' e'
            obtain ⟨em, f1, ra'⟩ := back w' H' h' l' r' e'
            have hn' : n < w'.N := Nat.lt_of_lt_of_le hnL l'.n
            refine ⟨⟨?_, ?_, ?_, ?_, rfl⟩, ?_⟩
            · have := l'.ex; rw [hwL] at this; exact this
            · have := l'.n; rw [hwL] at this; exact this
            · have := l'.mu; rw [hwL] at this; exact this
            · have := l'.f; rw [hwL] at this; exact this
            · rw [← em]
              exact r'.relk hn' (fun a ha => by
                rw [l'.lk, lkL, upd_ne]
                rw [← em]
                exact ha) ⟨kv, upd_same, e2, ra'⟩
          have endN : ∀ {G2 : Env} {h2 : AH} {w2 : Wd} {σ2 : L2.St} {H2 : Hp}, h2[n]? = some (.lck kvs) → OutS X.K X.mg W D w (.next G2 (h2.set n (.dct kvs))) → Le wL w2 → RepG X.K w2 σ2 G2 → RepH X.K w2 H2 h2 →
              H2 (w.mu n) = some (.frz od (.dK kv)) ∧ D.nx σ2 (upd H2 (w.mu n) (.dK kv)) := by
            intro G2 h2 w2 σ2 H2 e' o' l' g' r'
            obtain ⟨u1, u2⟩ := un w2 H2 h2 l' r' e'
            exact ⟨(back w2 H2 h2 l' r' e').2.1, o' σ2 _ _ u1 g' u2⟩
          refine hti _ _ _ ⟨wL, G, _, gL, rL, ?_⟩
          rw [eo2]
          intro v w1 H1 l1 r1 rv
          obtain ⟨rfl, hn1⟩ := rv_loc rv
          have hlc : (h1.set n (.lck kvs))[n]? = some (.lck kvs) := by
            rw [List.getElem?_set_self (by rw [← r.len]; exact hn)]
          obtain ⟨em1, f1, ra1⟩ := back w1 H1 _ l1 r1 hlc
          have hlen : kv.length = kvs.length := kv_len e2
          refine ⟨w1.mu n, od, kv, rfl, by rw [em1]; exact f1, ?_⟩
          rw [em1]
          refine ⟨fun i m σ' H' => m = kvs.length - i ∧ i ≤ kvs.length ∧ ∃ w' G' h', Le wL w' ∧ RepG X.K w' σ' G' ∧ RepH X.K w' H' h' ∧ OutS X.K X.mg W D w (forGoD p mb pick n kvs (kvs.drop i) G' h'),
            ⟨kvs.length, by simp, Nat.zero_le _, w1, G, _, l1, gL.mono l1, r1, by simpa using o⟩, ?_⟩
          rintro i m σ' H' ⟨rfl, hi2, w', G', h', l', g', r', o'⟩
          by_cases hlt : i < kvs.length
          · have ed : kvs.drop i = kvs[i] :: kvs.drop (i + 1) := List.drop_eq_getElem_cons hlt
            rw [ed] at o'
            unfold forGoD at o'
            split at o'
            · rename_i still
              obtain ⟨em', f', ra'⟩ := back w' H' h' l' r' still
              refine .inr ⟨wk.go _ _ _ i H' f' (by omega), fun σ2 H2 => ∃ w' G' h', Le wL w' ∧ RepG X.K w' σ2 G' ∧ RepH X.K w' H2 h' ∧ OutS X.K X.mg W D w (forGoD p mb pick n kvs (kvs.drop (i + 1)) G' h'),
                fun σ2 H2 hN => ⟨kvs.length - (i + 1), by omega, rfl, hlt, hN⟩, fun x H2 hy => ?_⟩
              obtain ⟨w2, l2, r2, rv2⟩ := wk.yld w' h' _ _ _ kvs i H' x H2 kvs[i] r' hy e2 ra' (List.getElem?_eq_getElem hlt)
              split at o'
              · rename_i G1 ea
                refine asg_rep r2 p (pick kvs[i]) x σ' G' G1 _ rv2 (g'.mono l2) ea fun σ3 g3 _ => ?_
                refine ⟨w2, G1, h', g3, r2, ?_⟩
                cases eb : mb G1 h' with
                | next G2 h2 =>
                  rw [eb] at o'
                  exact fun σ4 w4 H4 l4 g4 r4 => ⟨w4, G2, h2, l'.trans (l2.trans l4), g4, r4, o'⟩
                | cont G2 h2 =>
                  rw [eb] at o'
                  exact fun σ4 w4 H4 l4 g4 r4 => ⟨w4, G2, h2, l'.trans (l2.trans l4), g4, r4, o'⟩
                | brk G2 h2 =>
                  rw [eb] at o'
                  simp only at o'
                  split at o'
                  · rename_i e'
                    exact fun σ4 w4 H4 l4 g4 r4 => endN e' o' (l'.trans (l2.trans l4)) g4 r4
                  · exact o'.elim
                | ret d h2 =>
                  rw [eb] at o'
                  simp only at o'
                  split at o'
                  · rename_i e'
                    intro v4 w4 H4 l4 r4 x4
                    have l5 := l'.trans (l2.trans l4)
                    obtain ⟨u1, u2⟩ := un w4 H4 h2 l5 r4 e'
                    exact ⟨(back w4 H4 h2 l5 r4 e').2.1, o' v4 (w4.lkd w.LK) _ u1 u2 x4⟩
                  · exact o'.elim
                | exc c fs G2 h2 => rw [eb] at o'; exact o'.elim
                | stuck => rw [eb] at o'; exact o'.elim
              · exact o'.elim
            · exact o'.elim
          · have e : i = kvs.length := by omega
            subst e
            rw [List.drop_length] at o'
            unfold forGoD at o'
            split at o'
            · rename_i still
              obtain ⟨em', f', ra'⟩ := back w' H' h' l' r' still
              exact .inl ⟨wk.stop _ _ _ _ H' f' (by omega), endN still o' l' g' r'⟩
            · exact o'.elim
        · exact o.elim
      · exact o.elim
    · exact o.elim
  · exact o.elim
theorem s_forItems {elts : List Expr} {kk : Nat} {tpos : Pos} (hp : PassesOwn (model X.prog X.w) X.A X.env X.xe) (he : PE X e (TM X W mo)) (hg : PG X (.Tuple elts kk tpos) (gP X.K p)) (hb : PSs X body (TSS X W mb)) (hc : X.calm = true := by rfl)
    (hbase : attributeBase e "items" X.env (eval e X.env) = eval e X.env := by rfl) (hline : (apos.endLine == cpos.line) = true := by rfl)
    (hs : ∀ x, foldedSetIterable (.Call (.Attribute e "items" apos) [] [] cpos) X.env x = pure x := by intro _; rfl) :
    PS X (.For (.Tuple elts kk tpos) (.Call (.Attribute e "items" apos) [] [] cpos) body [] pos) (TSS X W (sForD pickI p mo mb)) :=
  s_forD walks_items (fun σ H R t => t) hp (pi_items he hbase hline) hg hb hc hs
theorem s_forKeys (hp : PassesOwn (model X.prog X.w) X.A X.env X.xe) (he : PE X e (TM X W mo)) (hg : PG X tg (gP X.K p)) (hb : PSs X body (TSS X W mb)) (hc : X.calm = true := by rfl)
    (hs : ∀ x, foldedSetIterable e X.env x = pure x := by intro _; rfl) :
    PS X (.For tg e body [] pos) (TSS X W (sForD pickK p mo mb)) :=
  s_forD walks_keys (fun σ H R ⟨w, G, h, g, r, o⟩ => ⟨w, G, h, g, r, by
    cases em : mo G h with
    | ok d h1 =>
      rw [em] at o
      intro v w' H' l r' x
      obtain ⟨dd, oo, kvs, q1, q2, q3⟩ := o v w' H' l r' x
      exact ⟨dd, oo, q1, .inl ⟨kvs, q2, q3⟩⟩
    | exc c fs h1 => rw [em] at o; exact o
    | stuck => rw [em] at o; exact o⟩) hp (pi_keys he) hg hb hc hs
theorem s_forVals (hp : PassesOwn (model X.prog X.w) X.A X.env X.xe) (he : PE X e (TM X W mo)) (hg : PG X tg (gP X.K p)) (hb : PSs X body (TSS X W mb)) (hc : X.calm = true := by rfl)
    (hbase : attributeBase e "values" X.env (eval e X.env) = eval e X.env := by rfl) (hline : (apos.endLine == cpos.line) = true := by rfl)
    (hs : ∀ x, foldedSetIterable (.Call (.Attribute e "values" apos) [] [] cpos) X.env x = pure x := by intro _; rfl) :
    PS X (.For tg (.Call (.Attribute e "values" apos) [] [] cpos) body [] pos) (TSS X W (sForD pickV p mo mb)) :=
  s_forD walks_vals (fun σ H R t => t) hp (pi_values he hbase hline) hg hb hc hs
end
theorem hu1 {k : Nat} {A : Around} (hr : Room k A) : A.units + 1 < cLine := by
  have := hr.un
  omega
end AB
/-! AB: try .. except C as e. -/
namespace AB
open PySem PySem.Spec PyProof.Rows L2

/-- slot i goes -/
def wipeS (i : Nat) : SR → SR
  | .next G h => .next (G.set i none) h
  | .ret d h => .ret d h
  | .brk G h => .brk (G.set i none) h
  | .cont G h => .cont (G.set i none) h
  | _ => .stuck
@[simp] theorem wipeS_next (i : Nat) (G : Env) (h : AH) : wipeS i (.next G h) = .next (G.set i none) h := rfl
@[simp] theorem wipeS_ret (i : Nat) (d : D) (h : AH) : wipeS i (.ret d h) = .ret d h := rfl
@[simp] theorem wipeS_brk (i : Nat) (G : Env) (h : AH) : wipeS i (.brk G h) = .brk (G.set i none) h := rfl
@[simp] theorem wipeS_cont (i : Nat) (G : Env) (h : AH) : wipeS i (.cont G h) = .cont (G.set i none) h := rfl
/-- a suite, by the error's address; it does not tell which -/
abbrev Su := Addr → Ms
structure Par (i : Nat) (m : Su) : Prop where
  eq : ∀ (a : Addr) (G : Env) (h : AH), i < G.length → wipeS i (m a (G.set i (some (.con a))) h) = wipeS i (m 0 (G.set i (some (.con 0))) h)
def tryK (i : Nat) (tb : List (Str × Option Su)) (G : Env) (h : AH) (c : Str) (fs : List (Str × D)) : SR := match tb.lookup c, fs with
  | some (some m), [] => if i < G.length then wipeS i (m 0 (G.set i (some (.con 0))) h) else .stuck
  | some none, _ => .exc c fs G h
  | _, _ => .stuck
/-- try: body / except C as e (slot i): by the class of what comes, a suite or nothing -/
def sTry (i : Nat) (tb : List (Str × Option Su)) (body : Ms) : Ms := fun G h => match body G h with
  | .exc c fs G1 h1 => tryK i tb G1 h1 c fs
  | r => r
def WF : WX := fun _ _ _ _ => False
section
variable {K : PySem.W.Frag} {mg : Str → Option Value} {W : WX} {w : Wd} {i : Nat}
theorem RepG.wipe {σ : L2.St} {G : Env} (g : RepG K w σ G) (x : Option V) : RepG K w (σ.set i x) (G.set i none) :=
  ⟨by rw [List.length_set, List.length_set, g.1], fun j d e => by
    by_cases hj : j = i
    · subst hj
      by_cases hl : j < G.length
      · rw [List.getElem?_set_self hl] at e
        cases e
      · rw [List.getElem?_eq_none (by rw [List.length_set]; omega)] at e
        cases e
    · rw [List.getElem?_set_ne (Ne.symm hj)] at e
      obtain ⟨v, h1, h2⟩ := g.2 j d e
      exact ⟨v, by rw [List.getElem?_set_ne (Ne.symm hj)]; exact h1, h2⟩⟩
theorem out_wipe {D : Ends} {r : SR} (o : OutS K mg W D w (wipeS i r)) : OutS K mg WF { nx := fun σ' H' => D.nx (σ'.set i none) H', rt := D.rt, bk := fun σ' H' => D.bk (σ'.set i none) H', ct := fun σ' H' => D.ct (σ'.set i none) H' } w r := by
  cases r with
  | next G h => exact fun σ' w2 H' l2 g r => o (σ'.set i none) w2 H' l2 (g.wipe _) r
  | ret d h => exact o
  | brk G h => exact fun σ' w2 H' l2 g r => o (σ'.set i none) w2 H' l2 (g.wipe _) r
  | cont G h => exact fun σ' w2 H' l2 g r => o (σ'.set i none) w2 H' l2 (g.wipe _) r
  | exc c fs G h => exact o.elim
  | stuck => exact o.elim
end
/-- the suite of a class: its class, its derivation -/
structure SuOk (X : Cx) (i : Nat) (suite : List Stmt) (c : Str) (m : Su) : Prop where
  par : Par i m
  go : ∀ D0, X.mg c = some (.ref D0) → ∀ (a : Addr) (oe : Obj) (pn : List (Addr × Obj)), Zc (.ref D0) none oe → (∃ vs, oe.data = .fields vs) → PSs (X.suite a ((a, oe) :: pn)) suite (tS X.K X.mg WF (m a))
/-- the class c of an error: known, and whether the clause takes it -/
structure TkOk (K : PySem.W.Frag) (mg : Str → Option Value) (cl : Value) (c : Str) (b : Bool) : Prop where
  ex : ∃ D0, mg c = some (.ref D0) ∧ PySem.W.exmOne K (.ref D0) cl = some b
def TyOk (X : Cx) (i : Nat) (cl : Value) (suite : List Stmt) (tb : List (Str × Option Su)) : Prop :=
  ∀ c om, tb.lookup c = some om → TkOk X.K X.mg cl c om.isSome ∧ ∀ m, om = some m → SuOk X i suite c m
section
variable {X : Cx} {W : WX} {i : Nat} {cl : Value} {suite : List Stmt} {tb : List (Str × Option Su)} {c : Str}
theorem ty_nil : TyOk X i cl suite [] := fun c om e => by cases e
theorem ty_cons {om : Option Su} (h : TkOk X.K X.mg cl c om.isSome) (s : ∀ m, om = some m → SuOk X i suite c m) (t : TyOk X i cl suite tb) : TyOk X i cl suite ((c, om) :: tb) := fun c2 om2 e => by
  rw [List.lookup_cons] at e
  cases q : c2 == c with
  | true =>
    rw [q] at e
    cases e
    have : c2 = c := by simpa using q
    subst this
    exact ⟨h, s⟩
  | false =>
    rw [q] at e
    exact t c2 om2 e
theorem ty_some {m : Su} (h : TkOk X.K X.mg cl c true) (s : SuOk X i suite c m) (t : TyOk X i cl suite tb) : TyOk X i cl suite ((c, some m) :: tb) := ty_cons h (fun m2 e => by cases e; exact s) t
theorem ty_none (h : TkOk X.K X.mg cl c false) (t : TyOk X i cl suite tb) : TyOk X i cl suite ((c, none) :: tb) := ty_cons h (fun m2 e => by cases e) t
variable {x n : Str} {body : List Stmt} {b₀ : Stmt} {np pos pos' : Pos} {mb : Ms}
theorem s_tryAs (i : Nat) (hs : X.stack = X.env :: X.outer) (hf : X.env.frame = some X.env.locals) (hN : X.N.Nodup) (hi : X.N[i]? = some n) (hln : X.env.kindOf n = some .local) (hc : Names X x cl) (tk : Takes X W)
    (hb : ∀ (W : WX) (pn : List (Addr × Obj)) (xe : Value → Shared → Prop), Takes (X.tr pn xe) W → PassesOwn (model X.prog X.w) X.A X.env xe → PSs (X.tr pn xe) body (tS X.K X.mg W mb))
    (ht : TyOk X i cl (b₀ :: suite) tb) :
    PS X (.Try body [.ExceptHandler (some (.Name x np)) (some n) (b₀ :: suite) pos'] [] [] pos) (TSS X W (sTry i tb mb)) := by
  refine (ps_try_as (tb := fun W => tS X.K X.mg W mb) (ts := fun a cls d => fun D σ H => ∃ c m D0, tb.lookup c = some (some m) ∧ X.mg c = some (.ref D0) ∧ cls = .ref D0 ∧ d = none ∧ tS X.K X.mg WF (m a) D σ H)
    hs hf hN hi hln hc tk hb fun a oe cls d pn z f => ⟨fun pins s σ H D I q => ?_⟩).wk fun D σ H ⟨w, G, h, g, r, o⟩ => ⟨w, G, h, g, r, ?_⟩
  · obtain ⟨c, m, D0, e1, e2, rfl, rfl, q⟩ := q
    exact (((ht c _ e1).2 m rfl).go D0 e2 a oe pn z f).run pins s σ H D I q
  · have o : OutS X.K X.mg W D w (match mb G h with
      | .exc c fs G1 h1 => tryK i tb G1 h1 c fs
      | r => r) := o
    cases em : mb G h with
    | next G1 h1 => rw [em] at o; exact o
    | ret d h1 => rw [em] at o; exact o
    | brk G1 h1 => rw [em] at o; exact o
    | cont G1 h1 => rw [em] at o; exact o
    | stuck => rw [em] at o; exact o.elim
    | exc c fs G1 h1 =>
      rw [em] at o
      have o : OutS X.K X.mg W D w (tryK i tb G1 h1 c fs) := o
      intro cls dd σ' w' H' ec l g' r' x'
      cases et : tb.lookup c with
      | none => unfold tryK at o; rw [et] at o; exact o.elim
      | some om =>
        obtain ⟨⟨D0, hm, he⟩⟩ := (ht c _ et).1
        rw [hm] at ec
        cases ec
        cases om with
        | none =>
          have o : OutS X.K X.mg W D w (.exc c fs G1 h1) := by
            unfold tryK at o
            rw [et] at o
            exact o
          exact ⟨false, he, (fun z => by cases z), fun _ => o _ dd σ' w' H' hm l g' r' x'⟩
        | some m =>
          have sk := (ht c _ et).2 m rfl
          cases fs with
          | cons _ _ => unfold tryK at o; rw [et] at o; exact o.elim
          | nil =>
            refine ⟨true, he, fun _ a ha => ⟨c, m, D0, et, hm, rfl, x', w', G1.set i (some (.con a)), h1, g'.set i .con, r', ?_⟩, fun z => by cases z⟩
            have o : OutS X.K X.mg W D w (if i < G1.length then wipeS i (m 0 (G1.set i (some (.con 0))) h1) else .stuck) := by
              unfold tryK at o
              rw [et] at o
              exact o
            split at o
            · rename_i hl
              rw [← sk.par.eq a G1 h1 hl] at o
              exact out_wipe (OutS.mono l o)
            · exact o.elim
end
/-- what the clause 'except x' says of the class c -/
structure CatK (K : PySem.W.Frag) (mg : Str → Option Value) (x c : Str) (b : Bool) : Prop where
  ex : ∀ cl, mg x = some cl → TkOk K mg cl c b
theorem s_try {X : Cx} {W : WX} {suite : List Stmt} {tb : List (Str × Option Su)} {x n : Str} {body : List Stmt} {b₀ : Stmt} {np pos pos' : Pos} {mb : Ms} (i : Nat) (hN : X.N.Nodup) (hx : ∃ cl, X.mg x = some cl) (tk : Takes X W)
    (hb : ∀ (W : WX) (pn : List (Addr × Obj)) (xe : Value → Shared → Prop), Takes (X.tr pn xe) W → PassesOwn (model X.prog X.w) X.A X.env xe → PSs (X.tr pn xe) body (tS X.K X.mg W mb))
    (ht : ∀ cl, X.mg x = some cl → TyOk X i cl (b₀ :: suite) tb) (hs : X.stack = X.env :: X.outer := by rfl) (hf : X.env.frame = some X.env.locals := by rfl) (hi : X.N[i]? = some n := by rfl) (hln : X.env.kindOf n = some .local := by rfl) (hg : Gl X x := by rfl) (hd : (x == ("__debug__" : Str)) = false := by decide) :
    PS X (.Try body [.ExceptHandler (some (.Name x np)) (some n) (b₀ :: suite) pos'] [] [] pos) (TSS X W (sTry i tb mb)) := by
  obtain ⟨cl, hx⟩ := hx
  exact s_tryAs i hs hf hN hi hln ⟨hg, hd, .inl hx⟩ tk hb (ht cl hx)
/-! ### isinstance(e, C) in the suite -/
def mIsE (i : Nat) (a : Addr) (b : Bool) : Me := fun G h => match G[i]? with
  | some (some (.con a')) => if a' = a then .ok (.bl b) h else .stuck
  | _ => .stuck
/-- the class x, and whether the class D0 is under it -/
structure IsOk (K : PySem.W.Frag) (mg : Str → Option Value) (c x : Str) (b : Bool) : Prop where
  ex : ∀ D0, mg c = some (.ref D0) → ExcC K D0 ∧ ∃ Ca, mg x = some (.ref Ca) ∧ PySem.W.kitOne K (.ref D0) (.ref Ca) = some b
structure IsOkB (K : PySem.W.Frag) (mg : Str → Option Value) (c : Str) (x : String) (b : Bool) : Prop where
  ex : ∀ D0, mg c = some (.ref D0) → ExcC K D0 ∧ PySem.W.kitOne K (.ref D0) (.type x) = some b
theorem v_mIsE {i : Nat} {a : Addr} {b : Bool} {G : Env} {h : AH} (e : G[i]? = some (some (.con a))) : mIsE i a b G h = .ok (.bl b) h := by
  unfold mIsE
  rw [e]
  exact if_pos rfl
theorem set_swap {α : Type} {G : List (Option α)} {i k : Nat} {u : α} (h : k ≠ i) : (G.set k (some u)).set i none = (G.set i none).set k (some u) := List.set_comm _ _ h
section
variable {X : Cx} {W : WX} {a D0 : Addr} {oe : Obj} {pn : List (Addr × Obj)} {c x n : Str} {b : Bool} {p p1 p2 pos : Pos}
theorem e_isE (i : Nat) (K0 : IsOk X.K X.mg c x b) (hD : X.mg c = some (.ref D0)) (hz : Zc (.ref D0) none oe) (hf : ∃ vs, oe.data = .fields vs) (hN : X.N[i]? = some n) (hi : X.mg "isinstance" = none)
    (hv : Vis X.env.scope n := by first | exact Or.inl rfl | exact Or.inr (Or.inl rfl) | exact Or.inr (Or.inr rfl)) (hd : (n == ("__debug__" : Str)) = false := by decide) (hcd : (n == ("__classdict__" : Str)) = false := by decide)
    (hgx : Gl X x := by rfl) (hdx : (x == ("__debug__" : Str)) = false := by decide) (hg : Gl X "isinstance" := by rfl)
    (h1 : starEach [.Name n p1, .Name x p2] X.env = (false, eval (.Name n p1) X.env) :: starEach [.Name x p2] X.env := by rfl) (h2 : starEach [.Name x p2] X.env = (false, eval (.Name x p2) X.env) :: starEach [] X.env := by rfl)
    (hpl : (backTo pos (starEach [.Name x p2] X.env)).any (·.1) = false := by rfl) :
    PE (X.suite a ((a, oe) :: pn)) (.Call (.Name "isinstance" p) [.Name n p1, .Name x p2] [] pos) (TM (X.suite a ((a, oe) :: pn)) W (mIsE i a b)) := by
  obtain ⟨C, Ca, hx, hk⟩ := K0.ex D0 hD
  refine (pe_callB (X := X.suite a ((a, oe) :: pn)) (call_isE C hz hf) hg hi (by decide +kernel) (pa_cons (pe_var (X := X.suite a ((a, oe) :: pn)) hN hv hd hcd) (pa_cons (pe_glob (X := X.suite a ((a, oe) :: pn)) (v := .ref Ca) hgx hx rfl hdx) pa_nil h2) h1) (by decide) (by decide) h1 hpl).wk fun σ H Q ⟨w, G, h, g, r, o⟩ => ?_
  unfold mIsE at o
  split at o
  · rename_i a' e
    split at o
    · rename_i ea
      subst ea
      obtain ⟨v, e2, rv⟩ := g.2 i _ e
      cases rv
      exact ⟨_, e2, .ref Ca, .ref Ca, b, rfl, fun u e => e, hk, out_ok o r (.bl b)⟩
    · exact o.elim
  · exact o.elim
theorem e_isEB (i : Nat) {x' : String} (K0 : IsOkB X.K X.mg c x' b) (hD : X.mg c = some (.ref D0)) (hz : Zc (.ref D0) none oe) (hf : ∃ vs, oe.data = .fields vs) (hN : X.N[i]? = some n) (hi : X.mg "isinstance" = none) (hx : X.mg x = none)
    (hbx : bootBuiltins x = some (.type x') := by decide +kernel) (hnx : x ≠ "__name__" := by decide)
    (hv : Vis X.env.scope n := by first | exact Or.inl rfl | exact Or.inr (Or.inl rfl) | exact Or.inr (Or.inr rfl)) (hd : (n == ("__debug__" : Str)) = false := by decide) (hcd : (n == ("__classdict__" : Str)) = false := by decide)
    (hgx : Gl X x := by rfl) (hdx : (x == ("__debug__" : Str)) = false := by decide) (hg : Gl X "isinstance" := by rfl)
    (h1 : starEach [.Name n p1, .Name x p2] X.env = (false, eval (.Name n p1) X.env) :: starEach [.Name x p2] X.env := by rfl) (h2 : starEach [.Name x p2] X.env = (false, eval (.Name x p2) X.env) :: starEach [] X.env := by rfl)
    (hpl : (backTo pos (starEach [.Name x p2] X.env)).any (·.1) = false := by rfl) :
    PE (X.suite a ((a, oe) :: pn)) (.Call (.Name "isinstance" p) [.Name n p1, .Name x p2] [] pos) (TM (X.suite a ((a, oe) :: pn)) W (mIsE i a b)) := by
  obtain ⟨C, hk⟩ := K0.ex D0 hD
  refine (pe_callB (X := X.suite a ((a, oe) :: pn)) (call_isE C hz hf) hg hi (by decide +kernel) (pa_cons (pe_var (X := X.suite a ((a, oe) :: pn)) hN hv hd hcd) (pa_cons (pe_bltn (X := X.suite a ((a, oe) :: pn)) (v := .ty x') hgx hx hbx rfl hnx hdx) pa_nil h2) h1) (by decide) (by decide) h1 hpl).wk fun σ H Q ⟨w, G, h, g, r, o⟩ => ?_
  unfold mIsE at o
  split at o
  · rename_i a' e
    split at o
    · rename_i ea
      subst ea
      obtain ⟨v, e2, rv⟩ := g.2 i _ e
      cases rv
      exact ⟨_, e2, .ty x', .type x', b, rfl, fun u e => e, hk, out_ok o r (.bl b)⟩
    · exact o.elim
  · exact o.elim
end
end AB
/-! AB: comprehensions over the keys of a dict, which is locked meanwhile. -/
namespace AB
open PySem PySem.Spec PyProof.Rows L2

open Classical in
noncomputable def compGoD (p : Pat) (t : MeT) (e : Me) (n : Nat) (kvs : KD) (G : Env) : KD → AH → Res (List D)
  | [], h => if h[n]? = some (.lck kvs) then .ok [] h else .stuck
  | x :: r, h => if h[n]? = some (.lck kvs) then
      match asg p (pickK x) G with
      | some G1 => (t G1 h).noX.bind fun b h1 => if b = true then (e G1 h1).noX.bind fun x h2 => (compGoD p t e n kvs G r h2).bind fun xs h3 => .ok (x :: xs) h3 else compGoD p t e n kvs G r h1
      | none => .stuck
    else .stuck
open Classical in
/-- [.. for key in d if ..]: d is a plain thing, a name or an attribute -/
noncomputable def lCompD (p : Pat) (vs : List Nat) (o : Me) (t : MeT) (e : Me) : MeL := fun G h => match o G h with
  | .ok (.loc n) h1 => if h1 = h then (match h[n]? with
    | some (.dct kvs) => if o G (h.set n (.lck kvs)) = .ok (.loc n) (h.set n (.lck kvs)) then (if kvs.length ≤ big then
        (compGoD p t e n kvs (wipeG G vs) kvs (h.set n (.lck kvs))).bind fun ys h2 => .ok ys (h2.set n (.dct kvs)) else .stuck) else .stuck
    | _ => .stuck) else .stuck
  | _ => .stuck
section
variable {X : Cx} {W : WX} {pos : Pos} {tg iter elt : Expr} {ifs : List Expr} {scope : Scope} {own : List (Str × Nat)} {p : Pat} {mo : Me} {mt : MeT} {me : Me}
theorem lcd_read (p : Pat) {vs : List Nat} (hsl : ∀ i ∈ p.slots, i ∈ vs) {σ : L2.St} {H : Hp} {Q : VK} (t : TF X W (lCompD p vs mo mt me) σ H Q) : tLockE (tLc (iKeys (TM X W mo)) (gP X.K p) (TTT X W0 mt) (TM X W0 me) vs) σ H Q := by
  obtain ⟨w, G, h, g, r, o⟩ := t
  unfold lCompD at o
  split at o
  · rename_i n h1 eo
    split at o
    · rename_i eh
      subst eh
      split at o
      · rename_i kvs ec
        split at o
        · rename_i eo2
          split at o
          · rename_i hbig
            have hn : n < w.N := by rw [r.len]; exact (List.getElem?_eq_some_iff.mp ec).1
            obtain ⟨sN, kv, e1, e2, ra⟩ := r.cell n _ ec
            refine ⟨w.mu n, .dK kv, e1, trivial, fun od => ?_⟩
            obtain ⟨wL, hwL⟩ : ∃ wL, wL = w.lkd (upd w.LK (w.mu n) (.frz od (.dK kv))) := ⟨_, rfl⟩
            have rL : RepH X.K wL (upd H (w.mu n) (.frz od (.dK kv))) (h1.set n (.lck kvs)) := by
              rw [hwL]
              exact r.relk hn (fun a ha => upd_ne ha) ⟨od, kv, upd_same, upd_same, e2, ra⟩
            have gL : RepG X.K wL σ G := by rw [hwL]; exact g
            have hnL : n < wL.N := by rw [hwL]; exact hn
            have muL : wL.mu n = w.mu n := by rw [hwL]; rfl
            have lkL : wL.LK = upd w.LK (w.mu n) (.frz od (.dK kv)) := by rw [hwL]; rfl
            have back : ∀ w' H' h', LeX wL w' → RepH X.K w' H' h' → h'[n]? = some (.lck kvs) → w'.mu n = w.mu n ∧ H' (w.mu n) = some (.frz od (.dK kv)) ∧ Ra X.K w' (kv.map (·.2)) (kvs.map (·.2)) := by
              intro w' H' h' l' r' e'
              obtain ⟨_, o', kv', f1, f0, f2, ra'⟩ := r'.cell n _ e'
              have em : w'.mu n = w.mu n := (l'.mu n hnL).trans muL
              rw [em, l'.lk, lkL, upd_same] at f0
              cases f0
              rw [em] at f1
              exact ⟨em, f1, ra'⟩
            have un : ∀ w' H' h', Le wL w' → RepH X.K w' H' h' → h'[n]? = some (.lck kvs) → Le w (w'.lkd w.LK) ∧ RepH X.K (w'.lkd w.LK) (upd H' (w.mu n) (.dK kv)) (h'.set n (.dct kvs)) := by
              intro w' H' h' l' r' e'
              obtain ⟨em, f1, ra'⟩ := back w' H' h' l'.x r' e'
              have hn' : n < w'.N := Nat.lt_of_lt_of_le hnL l'.n
              refine ⟨⟨?_, ?_, ?_, ?_, rfl⟩, ?_⟩
              · have := l'.ex; rw [hwL] at this; exact this
              · have := l'.n; rw [hwL] at this; exact this
              · have := l'.mu; rw [hwL] at this; exact this
              · have := l'.f; rw [hwL] at this; exact this
              · rw [← em]
                exact r'.relk hn' (fun a ha => by
                  rw [l'.lk, lkL, upd_ne]
                  rw [← em]
                  exact ha) ⟨kv, upd_same, e2, ra'⟩
            refine ⟨wL, G, _, gL, rL, ?_⟩
            rw [eo2]
            intro v w1 H1 l1 r1 rv
            obtain ⟨rfl, hn1⟩ := rv_loc rv
            have hlc : (h1.set n (.lck kvs))[n]? = some (.lck kvs) := by
              rw [List.getElem?_set_self (by rw [← r.len]; exact hn)]
            obtain ⟨em1, f1, ra1⟩ := back w1 H1 _ l1.x r1 hlc
            have hlen : kv.length = kvs.length := kv_len e2
            refine ⟨w1.mu n, od, rfl, .inl ⟨kv, by rw [em1]; exact f1, ?_⟩⟩
            rw [em1]
            intro Dd hD
            have g1 : RepG X.K w1 (wipe σ vs) (wipeG G vs) := wipe_rep (gL.mono l1) _
            have apD : Apart w1 Dd := ⟨r1.ex.free hD, fun m hm => r1.ne hm hD, r1.exF.free hD⟩
            refine ⟨fun i m H' => m = kvs.length - i ∧ i ≤ kvs.length ∧ ∃ w' h' xs ds, w'.F = upd w1.F Dd (.lst xs) ∧ LeX w1 w' ∧ RepH X.K w' H' h' ∧ Ra X.K w' xs ds ∧ ds.length ≤ i ∧
              OutF X.K X.mg W w σ Q ((compGoD p mt me n kvs (wipeG G vs) (kvs.drop i) h').bind fun ys h2 => .ok (ds ++ ys) (h2.set n (.dct kvs))),
              ⟨kvs.length, by simp, Nat.zero_le _, w1.hold Dd (.lst []), _, [], [], rfl, ⟨Ext.refl _, Nat.le_refl _, fun _ _ => rfl, rfl⟩, r1.hold apD, .nil, Nat.le_refl _, ?_⟩, ?_⟩
            · have e : ∀ r : Res (List D), (r.bind fun ys h2 => .ok ([] ++ ys) (h2.set n (.dct kvs))) = r.bind fun ys h2 => .ok ys (h2.set n (.dct kvs)) := fun r => by cases r <;> rfl
              rw [List.drop_zero, e]
              exact o
            · rintro i m H' ⟨rfl, hi2, w', h', xs, ds, eF, lx, r', ra', hds, o'⟩
              obtain ⟨rf, apf⟩ := r'.free eF apD.f
              have lf : Le wL (w'.with w1.F) := ⟨(l1.x.trans lx).ex, (l1.x.trans lx).n, (l1.x.trans lx).mu, l1.f, (l1.x.trans lx).lk⟩
              have hD' : H' Dd = some (.lst xs) := r'.exF _ _ (by rw [eF, upd_same])
              by_cases hlt : i < kvs.length
              · have ed : kvs.drop i = kvs[i] :: kvs.drop (i + 1) := List.drop_eq_getElem_cons hlt
                rw [ed] at o'
                unfold compGoD at o'
                split at o'
                · rename_i still
                  obtain ⟨em', f', raK⟩ := back w' H' h' (l1.x.trans lx) r' still
                  refine .inr ⟨(walks_keys (K := X.K)).go _ _ _ i H' f' (by omega), fun H2 => ∃ w' h' xs ds, w'.F = upd w1.F Dd (.lst xs) ∧ LeX w1 w' ∧ RepH X.K w' H2 h' ∧ Ra X.K w' xs ds ∧ ds.length ≤ i + 1 ∧
                    OutF X.K X.mg W w σ Q ((compGoD p mt me n kvs (wipeG G vs) (kvs.drop (i + 1)) h').bind fun ys h2 => .ok (ds ++ ys) (h2.set n (.dct kvs))),
                    fun H2 hN => ⟨kvs.length - (i + 1), by omega, rfl, hlt, hN⟩, fun x H2 hy => ?_⟩
                  obtain ⟨w2, l2, r2, rv⟩ := (walks_keys (K := X.K)).yld w' h' _ _ _ kvs i H' x H2 kvs[i] r' hy e2 raK (List.getElem?_eq_getElem hlt)
                  split at o'
                  · rename_i G1 ea
                    refine asg_rep r2 p (pickK kvs[i]) x (wipe σ vs) _ G1 _ rv (g1.monoX (lx.trans l2.x)) ea fun σ3 g3 hw => ⟨(hw vs hsl).trans (wipe_wipe fun _ hi => hi), w2, G1, h', g3, r2, ?_⟩
                    cases em : mt G1 h' with
                    | exc c fs h2 => rw [em] at o'; exact o'.elim
                    | stuck => rw [em] at o'; exact o'.elim
                    | ok b h2 =>
                      rw [em] at o'
                      intro w3 H3 l3 r3
                      have o' : OutF X.K X.mg W w σ Q ((if b = true then (me G1 h2).noX.bind fun x h2 => (compGoD p mt me n kvs (wipeG G vs) (kvs.drop (i + 1)) h2).bind fun xs h3 => .ok (x :: xs) h3 else compGoD p mt me n kvs (wipeG G vs) (kvs.drop (i + 1)) h2).bind fun ys h2 => .ok (ds ++ ys) (h2.set n (.dct kvs))) := o'
                      have F3 : w3.F = upd w1.F Dd (.lst xs) := by rw [l3.f, l2.f, eF]
                      cases b with
                      | false =>
                        rw [if_neg (by decide)] at o'
                        exact iteF ⟨w3, h2, xs, ds, F3, lx.trans (l2.x.trans l3.x), r3, Ra_mono (l2.trans l3) ra', by omega, o'⟩
                      | true =>
                        rw [if_pos rfl] at o'
                        refine iteT ⟨w3, G1, h2, g3.mono l3, r3, ?_⟩
                        cases ee : me G1 h2 with
                        | exc c fs h3 => rw [ee] at o'; exact o'.elim
                        | stuck => rw [ee] at o'; exact o'.elim
                        | ok y h3 =>
                          rw [ee] at o'
                          intro v w4 H4 l4 r4 rv4
                          have F4 : w4.F = upd w1.F Dd (.lst xs) := by rw [l4.f, F3]
                          have lxs := ra'.length
                          refine ⟨xs, r4.exF _ _ (by rw [F4, upd_same]), big_lt (by omega), w4.with (upd w1.F Dd (.lst (xs ++ [v]))), h3, xs ++ [v], ds ++ [y], rfl, ?_, r4.regrow F4 apD.f, ?_, ?_, ?_⟩
                          · have l := lx.trans (l2.x.trans (l3.x.trans l4.x))
                            exact ⟨l.ex, l.n, l.mu, l.lk⟩
                          · have ra4 : Ra X.K w4 xs ds := Ra_mono (l2.trans (l3.trans l4)) ra'
                            exact ra4.append (.cons rv4 .nil)
                          · rw [List.length_append]
                            exact Nat.succ_le_succ hds
                          · have eq : ∀ r : Res (List D), ((r.bind fun zs h3 => .ok (y :: zs) h3).bind fun ys h2 => .ok (ds ++ ys) (h2.set n (.dct kvs))) = r.bind fun ys h2 => .ok ((ds ++ [y]) ++ ys) (h2.set n (.dct kvs)) := fun r => by
                              cases r with
                              | ok a h =>
                                show Res.ok (ds ++ (y :: a)) _ = Res.ok ((ds ++ [y]) ++ a) _
                                rw [List.append_assoc]
                                rfl
                              | exc c fs h => rfl
                              | stuck => rfl
                            have o2 : OutF X.K X.mg W w σ Q (((compGoD p mt me n kvs (wipeG G vs) (kvs.drop (i + 1)) h3).bind fun zs h3 => .ok (y :: zs) h3).bind fun ys h2 => .ok (ds ++ ys) (h2.set n (.dct kvs))) := o'
                            rw [eq] at o2
                            exact o2
                  · exact o'.elim
                · exact o'.elim
              · have e : i = kvs.length := by omega
                subst e
                rw [List.drop_length] at o'
                unfold compGoD at o'
                split at o'
                · rename_i still
                  obtain ⟨em', f', raK⟩ := back w' H' h' (l1.x.trans lx) r' still
                  have o2 : OutF X.K X.mg W w σ Q (.ok (ds ++ []) (h'.set n (.dct kvs))) := o'
                  rw [List.append_nil] at o2
                  obtain ⟨u1, u2⟩ := un (w'.with w1.F) H' h' lf rf still
                  refine .inl ⟨(walks_keys (K := X.K)).stop _ _ _ _ H' f' (by omega), f', o2 Dd xs _ _ u1 u2 ⟨apf.s, apf.m, apf.f⟩ ?_ ra'⟩
                  rw [upd_ne]
                  · exact hD'
                  · intro z
                    exact apf.m n (Nat.lt_of_lt_of_le hnL lf.n) (by rw [z]; exact em')
                · exact o'.elim
          · exact o.elim
        · exact o.elim
      · exact o.elim
    · exact o.elim
  · exact o.elim
theorem f_lcD (p : Pat) (hN : X.N.Nodup) (he0 : PE X iter (TM X W mo)) (ok : BlkOk X.N X.env.scope scope own)
    (hg : ∀ (s : Shared) (H : Hp) (C : Addr) (cl : List (Str × Addr)) (fp : List Addr), PG (X.blk s H scope (compEnvC scope cl C X.env) fp) tg (gP X.K p)) (ht : ∀ (s : Shared) (H : Hp) (C : Addr) (cl : List (Str × Addr)) (fp : List Addr), PTs (X.blk s H scope (compEnvC scope cl C X.env) fp) ifs (TTT X W0 mt))
    (he : ∀ (s : Shared) (H : Hp) (C : Addr) (cl : List (Str × Addr)) (fp : List Addr), PE (X.blk s H scope (compEnvC scope cl C X.env) fp) elt (TM X W0 me)) (hsl : ∀ i ∈ p.slots, i ∈ own.map (·.2)) (hc : X.calm = true := by rfl) (hs : ∀ x, foldedSetIterable iter X.env x = pure x := by intro _; rfl) :
    PE X (.ListComp elt [⟨tg, iter, ifs, 0⟩] scope pos) (TF X W (lCompD p (own.map (·.2)) mo mt me)) :=
  (pe_lock (pe_lc hc hN (pi_keys he0) ok hg ht he hs)).wk fun _ _ _ t => lcd_read p hsl t
end
end AB
/-! AB: dicts: len, {k: v}, {k: v for ..}; isinstance of instances. -/
namespace AB
open PySem PySem.Spec PyProof.Rows L2

/-! ### len(d) -/
def fLenD (xs : List D) (h : AH) : Res D := match xs with
  | [.loc n] => match dctAt h n with
    | some kvs => .ok (.int kvs.length) h
    | none => .stuck
  | _ => .stuck
def rLenD : List V → Hp → VK → Prop := fun xs H Q => ∃ a kvs, xs = [.ref a] ∧ Rd H a (.dK kvs) ∧ Q (.int kvs.length) H
section
variable {X : Cx} {W : WX} {e : Expr} {as : MeL} {p pos : Pos}
theorem call_lenD : CallR X (.builtin "len") rLenD := by
  intro pins s σ H xs us Q I r h
  obtain ⟨a, kvs, rfl, e, q⟩ := h
  obtain ⟨u, rfl, rx⟩ := vals1 r
  obtain rfl : u = Value.ref a := rx
  exact d_len I e fun t s' I' => ⟨.int kvs.length, H, I', ⟨t, rfl⟩, q⟩
theorem fol_lenD : FolN X W fLenD rLenD := by
  intro w h H σ Q vs ds rh ra o
  unfold fLenD at o
  split at o
  · rename_i n
    obtain ⟨v, rfl, rv⟩ := ra_one ra
    obtain ⟨rfl, hn⟩ := rv_loc rv
    split at o
    · rename_i kvs e
      obtain ⟨kv, h1, h2, _⟩ := dct_rd rh e
      refine ⟨_, kv, rfl, h1, ?_⟩
      have := kv_len h2
      rw [this]
      exact out_ok o rh (.int _)
    · exact o.elim
  · exact o.elim
theorem e_lenD (hm : X.mg "len" = none) (ha : PA X [e] (TAr X W as)) (hg : Gl X "len" := by rfl) (he : starEach [e] X.env = (false, eval e X.env) :: starEach [] X.env := by rfl) : PE X (.Call (.Name "len" p) [e] [] pos) (TM X W (mN fLenD as)) :=
  e_blt call_lenD fol_lenD hm ha hg PySem.boot_len (by decide) (by decide) he rfl
end
/-! ### {k: v} -/
def mDisp1 (k v : Me) : Me := fun G h => (k G h).noX.bind fun j h1 => (v G h1).noX.bind fun x h2 => match toKey j with
  | some kk => .ok (.loc h2.length) (h2 ++ [.dct [(kk, x)]])
  | none => .stuck
section
variable {X : Cx} {W : WX} {k v : Expr} {mk mv : Me} {pos : Pos}
/-- the held dict becomes an object of the machine's -/
theorem RepH.newD {K : PySem.W.Frag} {w w2 : Wd} {H : Hp} {h : AH} {p : Addr} {u : HO} {kv : List (L2.Key × V)} {kvs : KD} (r : RepH K w2 H h) (F2 : w2.F = upd w.F p u) (hp : w.F p = none) (e : kv.map (·.1) = kvs.map (·.1)) (ra : Ra K w2 (kv.map (·.2)) (kvs.map (·.2))) :
    RepH K ((w2.with w.F).push p) (upd H p (.dK kv)) (h ++ [.dct kvs]) ∧ Rv K ((w2.with w.F).push p) (.ref p) (.loc h.length) := by
  obtain ⟨rf, apf⟩ := (r.regrow (u' := .dK kv) F2 hp).free rfl hp
  have ra2 : Ra K ((w2.with w.F).push p) (kv.map (·.2)) (kvs.map (·.2)) := Ra_mono (Wd.le_push _ p) (w := w2.with w.F) ra
  have rn := rf.push (o := .dct kvs) apf ⟨kv, upd_same, e, ra2⟩
  have rx := rv_new (K := K) (w := w2.with w.F) p
  have hN : (w2.with w.F).N = h.length := r.len
  rw [hN] at rx
  exact ⟨rn, rx⟩
theorem e_disp1 (hk : PE X k (TM X W mk)) (hv : PE X v (TM X W mv)) : PE X (.Dict [some k] [v] pos) (TM X W (mDisp1 mk mv)) := by
  refine (pe_disp (pps_cons hk hv pps_nil) rfl rfl (by simp) (by simp)).wk fun σ H Q ⟨w, G, h, g, r, o⟩ => ?_
  intro p hp
  have ap : Apart w p := ⟨r.ex.free hp, fun n hn => r.ne hn hp, r.exF.free hp⟩
  refine ⟨w.hold p (.dK []), G, h, g, r.hold ap, ?_⟩
  unfold mDisp1 at o
  cases em : mk G h with
  | exc c fs h1 => rw [em] at o; exact o.elim
  | stuck => rw [em] at o; exact o.elim
  | ok j h1 =>
    rw [em] at o
    intro v1 w1 H1 l1 r1 rv1
    have g1 : RepG X.K w1 σ G := RepG.mono l1 (w := w.hold p (.dK [])) g
    refine ⟨w1, G, h1, g1, r1, ?_⟩
    have o : OutE X.K X.mg W w σ Q ((mv G h1).noX.bind fun x h2 => match toKey j with
      | some kk => .ok (.loc h2.length) (h2 ++ [.dct [(kk, x)]])
      | none => .stuck) := o
    cases ev : mv G h1 with
    | exc c fs h2 => rw [ev] at o; exact o.elim
    | stuck => rw [ev] at o; exact o.elim
    | ok x h2 =>
      rw [ev] at o
      have o : OutE X.K X.mg W w σ Q (match toKey j with
        | some kk => .ok (.loc h2.length) (h2 ++ [.dct [(kk, x)]])
        | none => .stuck) := o
      intro v2 w2 H2 l2 r2 rv2
      have F2 : w2.F = upd w.F p (.dK []) := l2.f.trans l1.f
      split at o
      · rename_i kk ek
        have e1 := toKey_rep rv1 ek
        subst e1
        refine ⟨r2.exF _ _ (by rw [F2, upd_same]), [(kk, v2)], rfl, by simp, ?_⟩
        obtain ⟨n1, n2⟩ := r2.newD (kv := [(kk, v2)]) (kvs := [(kk, x)]) F2 ap.f rfl (.cons rv2 .nil)
        have l : Le (w.hold p (.dK [])) w2 := l1.trans l2
        exact o (.ref p) _ _ ((show Le w (w2.with w.F) from ⟨l.ex, l.n, l.mu, rfl, l.lk⟩).trans (Wd.le_push _ p)) n1 n2
      · exact o.elim
end
/-! ### {k: v for .. in .. if ..} -/
open Classical in
noncomputable def dcompGo (p : Pat) (t : MeT) (ek ev : Me) (src : Option Nat) (all : List D) (G : Env) : List D → KD → AH → Res KD
  | [], kvs, h => if Still src all h then .ok kvs h else .stuck
  | d :: r, kvs, h => if Still src all h then
      match asg p d G with
      | some G1 => (t G1 h).noX.bind fun b h1 => if b = true then (ek G1 h1).noX.bind fun j h2 => (ev G1 h2).noX.bind fun x h3 => match toKey j with
          | some kk => dcompGo p t ek ev src all G r (putKD kvs kk x) h3
          | none => .stuck
        else dcompGo p t ek ev src all G r kvs h1
      | none => .stuck
    else .stuck
noncomputable def mDComp (p : Pat) (vs : List Nat) (it : Im) (t : MeT) (ek ev : Me) : Me := fun G h => (it G h).bind fun a h1 => if a.1.length ≤ big then
  (dcompGo p t ek ev a.2 a.1 (wipeG G vs) a.1 [] h1).bind fun kvs h2 => .ok (D.loc h2.length) (h2 ++ [AO.dct kvs]) else .stuck
theorem OutE.bindI {K : PySem.W.Frag} {mg : Str → Option Value} {W : WX} {w : Wd} {σ : L2.St} {G : Env} {h : AH} {m : Im} {R : It → Hp → Prop} {Q : VK} {k : List D × Option Nat → AH → Res D} (o : OutE K mg W w σ Q ((m G h).bind k))
    (hq : ∀ all src h1 J w1 H1, Le w w1 → RepH K w1 H1 h1 → Walks K J w1 all src → OutE K mg W w1 σ Q (k (all, src) h1) → R J H1) : OutI K mg W w σ R (m G h) := by
  cases e : m G h with
  | ok d h1 =>
    rw [e] at o
    exact fun J w1 H1 l r x => hq d.1 d.2 h1 J w1 H1 l r x (OutE.mono l o)
  | exc c fs h1 =>
    rw [e] at o
    exact o
  | stuck =>
    rw [e] at o
    exact o
theorem putKD_len (kvs : KD) (k : L2.Key) (d : D) : (putKD kvs k d).length ≤ kvs.length + 1 := by
  unfold putKD
  split
  · rw [List.length_map]; omega
  · rw [List.length_append]; exact Nat.le_refl _
section
variable {X : Cx} {W : WX} {pos : Pos} {tg iter kx vx : Expr} {ifs : List Expr} {scope : Scope} {own : List (Str × Nat)} {p : Pat} {im : Im} {mt : MeT} {mk mv : Me}
theorem dc_read (p : Pat) {vs : List Nat} (hsl : ∀ i ∈ p.slots, i ∈ vs) {σ : L2.St} {H : Hp} {Q : VK} (t : TM X W (mDComp p vs im mt mk mv) σ H Q) : tDc (tI X W im) (gP X.K p) (TTT X W0 mt) (TM X W0 mk) (TM X W0 mv) vs σ H Q := by
  obtain ⟨w, G, h, g, r, o⟩ := t
  refine ⟨w, G, h, g, r, OutE.bindI (m := im) o fun all src h1 J w1 H1 l r1 wk o1 => ?_⟩
  intro Dd hD
  have o1 : OutE X.K X.mg W w1 σ Q (if all.length ≤ big then (dcompGo p mt mk mv src all (wipeG G vs) all [] h1).bind fun kvs h2 => .ok (D.loc h2.length) (h2 ++ [AO.dct kvs]) else .stuck) := o1
  split at o1
  · rename_i hbig
    have g1 : RepG X.K w1 (wipe σ vs) (wipeG G vs) := wipe_rep (g.mono l) _
    have apD : Apart w1 Dd := ⟨r1.ex.free hD, fun n hn => r1.ne hn hD, r1.exF.free hD⟩
    refine ⟨fun i m H' => m = all.length - i ∧ i ≤ all.length ∧ ∃ w' h' kv kvs, w'.F = upd w1.F Dd (.dK kv) ∧ LeX w1 w' ∧ RepH X.K w' H' h' ∧ kv.map (·.1) = kvs.map (·.1) ∧ Ra X.K w' (kv.map (·.2)) (kvs.map (·.2)) ∧ kvs.length ≤ i ∧
      OutE X.K X.mg W w1 σ Q ((dcompGo p mt mk mv src all (wipeG G vs) (all.drop i) kvs h').bind fun kvs h2 => .ok (D.loc h2.length) (h2 ++ [AO.dct kvs])),
      ⟨all.length, by simp, Nat.zero_le _, w1.hold Dd (.dK []), h1, [], [], rfl, ⟨Ext.refl _, Nat.le_refl _, fun _ _ => rfl, rfl⟩, r1.hold apD, rfl, .nil, Nat.le_refl _, by rw [List.drop_zero]; exact o1⟩, ?_⟩
    rintro i m H' ⟨rfl, hi2, w', h', kv, kvs, eF, lx, r', ek, ra, hds, o'⟩
    obtain ⟨rf, apf⟩ := r'.free eF apD.f
    have lf : Le w1 (w'.with w1.F) := ⟨lx.ex, lx.n, lx.mu, rfl, lx.lk⟩
    by_cases hlt : i < all.length
    · have ed : all.drop i = all[i] :: all.drop (i + 1) := List.drop_eq_getElem_cons hlt
      rw [ed] at o'
      unfold dcompGo at o'
      split at o'
      · rename_i still
        refine .inr ⟨wk.goes i w' H' h' hlt lx r' still, fun H2 => ∃ w' h' kv kvs, w'.F = upd w1.F Dd (.dK kv) ∧ LeX w1 w' ∧ RepH X.K w' H2 h' ∧ kv.map (·.1) = kvs.map (·.1) ∧ Ra X.K w' (kv.map (·.2)) (kvs.map (·.2)) ∧ kvs.length ≤ i + 1 ∧
          OutE X.K X.mg W w1 σ Q ((dcompGo p mt mk mv src all (wipeG G vs) (all.drop (i + 1)) kvs h').bind fun kvs h2 => .ok (D.loc h2.length) (h2 ++ [AO.dct kvs])),
          fun H2 hN => ⟨all.length - (i + 1), by omega, rfl, hlt, hN⟩, fun x H2 hy => ?_⟩
        obtain ⟨w2, l2, r2, rv⟩ := wk.yields i x w' H' H2 h' all[i] (List.getElem?_eq_getElem hlt) lx r' still hy
        split at o'
        · rename_i G1 e1
          refine asg_rep r2 p all[i] x (wipe σ vs) _ G1 _ rv (g1.monoX (lx.trans l2.x)) e1 fun σ3 g3 hw => ⟨(hw vs hsl).trans (wipe_wipe fun _ hi => hi), w2, G1, h', g3, r2, ?_⟩
          cases em : mt G1 h' with
          | exc c fs h2 => rw [em] at o'; exact o'.elim
          | stuck => rw [em] at o'; exact o'.elim
          | ok b h2 =>
            rw [em] at o'
            intro w3 H3 l3 r3
            have o' : OutE X.K X.mg W w1 σ Q ((if b = true then (mk G1 h2).noX.bind fun j h2 => (mv G1 h2).noX.bind fun x h3 => match toKey j with
                | some kk => dcompGo p mt mk mv src all (wipeG G vs) (all.drop (i + 1)) (putKD kvs kk x) h3
                | none => .stuck
              else dcompGo p mt mk mv src all (wipeG G vs) (all.drop (i + 1)) kvs h2).bind fun kvs h2 => .ok (D.loc h2.length) (h2 ++ [AO.dct kvs])) := o'
            have F3 : w3.F = upd w1.F Dd (.dK kv) := by rw [l3.f, l2.f, eF]
            cases b with
            | false =>
              rw [if_neg (by decide)] at o'
              exact iteF ⟨w3, h2, kv, kvs, F3, lx.trans (l2.x.trans l3.x), r3, ek, Ra_mono (l2.trans l3) ra, by omega, o'⟩
            | true =>
              rw [if_pos rfl] at o'
              refine iteT ⟨w3, G1, h2, g3.mono l3, r3, ?_⟩
              cases ee : mk G1 h2 with
              | exc c fs h3 => rw [ee] at o'; exact o'.elim
              | stuck => rw [ee] at o'; exact o'.elim
              | ok j h3 =>
                rw [ee] at o'
                intro v4 w4 H4 l4 r4 rv4
                refine ⟨w4, G1, h3, (g3.mono l3).mono l4, r4, ?_⟩
                have o' : OutE X.K X.mg W w1 σ Q (((mv G1 h3).noX.bind fun x h3 => match toKey j with
                  | some kk => dcompGo p mt mk mv src all (wipeG G vs) (all.drop (i + 1)) (putKD kvs kk x) h3
                  | none => .stuck).bind fun kvs h2 => .ok (D.loc h2.length) (h2 ++ [AO.dct kvs])) := o'
                cases ef : mv G1 h3 with
                | exc c fs h4 => rw [ef] at o'; exact o'.elim
                | stuck => rw [ef] at o'; exact o'.elim
                | ok y h4 =>
                  rw [ef] at o'
                  have o' : OutE X.K X.mg W w1 σ Q ((match toKey j with
                    | some kk => dcompGo p mt mk mv src all (wipeG G vs) (all.drop (i + 1)) (putKD kvs kk y) h4
                    | none => .stuck).bind fun kvs h2 => .ok (D.loc h2.length) (h2 ++ [AO.dct kvs])) := o'
                  intro v5 w5 H5 l5 r5 rv5
                  split at o'
                  · rename_i kk ekk
                    have e1 := toKey_rep rv4 ekk
                    have F5 : w5.F = upd w1.F Dd (.dK kv) := by rw [l5.f, l4.f, F3]
                    have hl := kv_len ek
                    have ra5 : Ra X.K w5 (kv.map (·.2)) (kvs.map (·.2)) := Ra_mono (l2.trans (l3.trans (l4.trans l5))) ra
                    obtain ⟨p1, p2⟩ := rep_putK kk rv5 ek ra5
                    have l := lx.trans (l2.x.trans (l3.x.trans (l4.x.trans l5.x)))
                    have hz := putKD_len kvs kk y
                    exact ⟨kv, kk, e1, r5.exF _ _ (by rw [F5, upd_same]), big_lt (by omega), w5.with (upd w1.F Dd (.dK (putK kv kk v5))), h4, putK kv kk v5, putKD kvs kk y, rfl, ⟨l.ex, l.n, l.mu, l.lk⟩, r5.regrow F5 apD.f, p1, p2, by omega, o'⟩
                  · exact o'.elim
        · exact o'.elim
      · exact o'.elim
    · have e : i = all.length := by omega
      subst e
      rw [List.drop_length] at o'
      unfold dcompGo at o'
      split at o'
      · rename_i still
        refine .inl ⟨wk.stops w' H' h' lx r' still, ?_⟩
        have o2 : OutE X.K X.mg W w1 σ Q (.ok (.loc h'.length) (h' ++ [AO.dct kvs])) := o'
        have hself : upd H' Dd (.dK kv) = H' := by
          funext b
          unfold upd
          split
          · rename_i eb
            rw [eb]
            exact (r'.exF _ _ (by rw [eF, upd_same])).symm
          · rfl
        obtain ⟨n1, n2⟩ := r'.newD eF apD.f ek ra
        rw [hself] at n1
        exact o2 (.ref Dd) _ _ (lf.trans (Wd.le_push _ Dd)) n1 n2
      · exact o'.elim
  · exact o1.elim
theorem e_dc (p : Pat) (hN : X.N.Nodup) (hi : PI X tg iter (tI X W im)) (ok : BlkOk X.N X.env.scope scope own)
    (hg : ∀ (s : Shared) (H : Hp) (C : Addr) (cl : List (Str × Addr)) (fp : List Addr), PG (X.blk s H scope (compEnvC scope cl C X.env) fp) tg (gP X.K p)) (ht : ∀ (s : Shared) (H : Hp) (C : Addr) (cl : List (Str × Addr)) (fp : List Addr), PTs (X.blk s H scope (compEnvC scope cl C X.env) fp) ifs (TTT X W0 mt))
    (hk : ∀ (s : Shared) (H : Hp) (C : Addr) (cl : List (Str × Addr)) (fp : List Addr), PE (X.blk s H scope (compEnvC scope cl C X.env) fp) kx (TM X W0 mk))
    (he : ∀ (s : Shared) (H : Hp) (C : Addr) (cl : List (Str × Addr)) (fp : List Addr), PE (X.blk s H scope (compEnvC scope cl C X.env) fp) vx (TM X W0 mv)) (hsl : ∀ i ∈ p.slots, i ∈ own.map (·.2)) (hc : X.calm = true := by rfl) (hs : ∀ x, foldedSetIterable iter X.env x = pure x := by intro _; rfl) :
    PE X (.DictComp kx vx [⟨tg, iter, ifs, 0⟩] scope pos) (TM X W (mDComp p (own.map (·.2)) im mt mk mv)) :=
  (pe_dc hc hN hi ok hg ht hk he hs).wk fun _ _ _ t => dc_read p hsl t
end
/-! ### isinstance(x, T) where x may be an instance of the classes cs (none of which is under T) -/
structure NotTy (K : PySem.W.Frag) (C : Str) (T : String) : Prop where
  ex : ∀ Ca, PySem.W.nsIn K mainGlobals C = some (some (.ref Ca)) → Cls K Ca ∧ PySem.W.findIn K (.ref Ca) "__class__" = some (some (.builtin "object.__class__")) ∧ PySem.W.specialIn K (.builtin "object.__class__") "__get__" = some (some (.builtin "getset_descriptor.__get__")) ∧
    PySem.W.takesIn K (.builtin "object.__class__") = some true ∧ PySem.W.mroIn K Ca (.type "object") = some true ∧ PySem.W.kitOne K (.ref Ca) (.type T) = some false
def tyDC (cs : List Str) (h : AH) (T : Ty) (d : D) : Option Bool := match d with
  | .loc n => match h[n]? with
    | some (.dct _) => some (Ty.dct.sub T)
    | some (.lst _) => some (Ty.lst.sub T)
    | some (.ins C _) => if C ∈ cs then some false else none
    | _ => none
  | d => (tyD h d).map fun t => t.sub T
def mIsiC (cs : List Str) (T : Ty) (m : Me) : Me := fun G h => (m G h).bind fun d h1 => match tyDC cs h1 T d with
  | some b => .ok (.bl b) h1
  | none => .stuck
section
variable {X : Cx} {W : WX} {e : Expr} {ma : Me} {p pos : Pos} {T : Ty}
theorem e_isiC (cs : List Str) (T : Ty) {t : Str} {pt : Pos} (hi : X.mg "isinstance" = none) (ht : X.mg t = none) (he : PE X e (TM X W ma)) (hC : AllC (fun C => NotTy X.K C T.name) cs) (hgt : Gl X t := by rfl) (hbt : bootBuiltins t = some (.type T.name) := by decide +kernel) (hg : Gl X "isinstance" := by rfl)
    (hn : t ≠ "__name__" := by decide) (hd : (t == ("__debug__" : Str)) = false := by decide)
    (h1 : starEach [e, .Name t pt] X.env = (false, eval e X.env) :: starEach [.Name t pt] X.env := by rfl) (h2 : starEach [.Name t pt] X.env = (false, eval (.Name t pt) X.env) :: starEach [] X.env := by rfl) (hpl : (backTo pos (starEach [.Name t pt] X.env)).any (·.1) = false := by rfl) :
    PE X (.Call (.Name "isinstance" p) [e, .Name t pt] [] pos) (TM X W (mIsiC cs T ma)) := by
  refine (pe_callB call_isi hg hi (by decide +kernel) (pa_cons he (pa_cons (pe_bltn (v := .ty T.name) hgt ht hbt rfl hn hd) pa_nil h2) h1) (by decide) (by decide) h1 hpl).wk fun σ H Q ⟨w, G, h, g, r, o⟩ => ⟨w, G, h, g, r, o.bindE fun d h1 v w1 H1 l r1 x o1 => ?_⟩
  split at o1
  · rename_i b eb
    have old : ∀ t, tyD h1 d = some t → b = t.sub T → ∃ (x : V) (c : V) (t : Value) (u : Value) (b : Bool), [v, .ty T.name] = [x, c] ∧ ClsV c u ∧ TyX X.K H1 x t ∧ PySem.W.kitOne X.K t u = some b ∧ Q (.bl b) H1 := fun t e q => by
      subst q
      exact ⟨v, .ty T.name, .type t.name, .type T.name, t.sub T, rfl, .ty _, tyD_rep r1 x e, kit_ty (kit_tag t T), out_ok o1 r1 (.bl _)⟩
    unfold tyDC at eb
    split at eb
    · rename_i n
      obtain ⟨rfl, hn⟩ := rv_loc x
      split at eb
      · rename_i kvs ec
        cases eb
        obtain ⟨_, kv, f1, f2, f3⟩ := r1.cell n _ ec
        exact ⟨_, .ty T.name, .type Ty.dct.name, .type T.name, _, rfl, .ty _, .base (.dK f1), kit_ty (kit_tag Ty.dct T), out_ok o1 r1 (.bl _)⟩
      · rename_i ds ec
        cases eb
        refine old .lst ?_ rfl
        show (match h1[n]? with
          | some (.lst _) => some Ty.lst
          | _ => none) = some Ty.lst
        rw [ec]
      · rename_i C fs ec
        split at eb
        · rename_i hc
          cases eb
          obtain ⟨_, Ca, dx, fv, f0, f1, f2, f3, _⟩ := r1.cell n _ ec
          obtain ⟨q1, q2, q3, q4, q5, q6⟩ := (AllC.mem hC C hc).ex Ca f0
          exact ⟨_, .ty T.name, .ref Ca, .type T.name, false, rfl, .ty _, .base (.ins f1 q1 q2 q3 q4 q5), q6, out_ok o1 r1 (.bl _)⟩
        · cases eb
      · cases eb
    · cases et : tyD h1 d with
      | none => rw [et] at eb; cases eb
      | some t =>
        rw [et] at eb
        cases eb
        exact old t et rfl
  · exact o1.elim
end
/-! ### facts of classes, by what the kit reads off the text -/
theorem kit_clsR {K : PySem.W.Frag} {C : Addr} {t : Value} {b : Bool} (hd : PySem.W.hasDictIn K C = true) (ht : PySem.W.typeIn K (.ref C) = some (.type "type")) (h4 : PySem.W.subIn K t (.ref C) = some b) : PySem.W.kitCls K t (.ref C) = some b := by
  obtain ⟨cd, hc, _⟩ := PySem.W.any_some hd
  have e2 : ((PySem.W.clsIn K C).isSome && PySem.W.typeIn K (.ref C) == some (.type "type")) = true := by rw [hc, ht] <;> rfl
  show (if ((PySem.W.clsIn K C).isSome && PySem.W.typeIn K (.ref C) == some (.type "type")) = true then PySem.W.subIn K t (.ref C) else none) = some b
  rw [if_pos e2]
  exact h4
theorem kit_oneT {K : PySem.W.Frag} {C : Addr} {t : Value} (hd : PySem.W.hasDictIn K C = true) (ht : PySem.W.typeIn K (.ref C) = some (.type "type")) (h4 : PySem.W.subIn K t (.ref C) = some true) : PySem.W.kitOne K t (.ref C) = some true := by
  unfold PySem.W.kitOne
  split
  · rfl
  · exact kit_clsR hd ht h4
theorem kit_oneF {K : PySem.W.Frag} {C : Addr} {t : Value} (ne : (t == .ref C) = false) (hd : PySem.W.hasDictIn K C = true) (ht : PySem.W.typeIn K (.ref C) = some (.type "type")) (h4 : PySem.W.subIn K t (.ref C) = some false) : PySem.W.kitOne K t (.ref C) = some false := by
  unfold PySem.W.kitOne
  rw [ne]
  exact kit_clsR hd ht h4
theorem kit_oneTy {K : PySem.W.Frag} {C : Addr} {T : String} {b : Bool} (h4 : PySem.W.subIn K (.ref C) (.type T) = some b) (hm : PySem.W.kitMeta T = true := by decide +kernel) : PySem.W.kitOne K (.ref C) (.type T) = some b := by
  have e : PySem.W.kitOne K (.ref C) (.type T) = (if PySem.W.kitMeta T = true then PySem.W.subIn K (.ref C) (.type T) else none) := rfl
  rw [e, if_pos hm]
  exact h4
/-! ### sorted(d), the keys of d ints -/
def intKeys : KD → Option (List Int)
  | [] => some []
  | (.inl i, _) :: r => (intKeys r).map fun is => i :: is
  | _ :: _ => none
theorem intKeys_map : ∀ {kvs : KD} {is : List Int}, intKeys kvs = some is → kvs.map (·.1) = is.map Sum.inl
  | [], is, e => by cases e; rfl
  | (.inl i, d) :: r, is, e => by
    unfold intKeys at e
    cases q : intKeys r with
    | none => rw [q] at e; cases e
    | some js =>
      rw [q] at e
      cases e
      rw [List.map_cons, List.map_cons, intKeys_map q]
  | (.inr _, _) :: _, is, e => by cases e
def sortI (is : List Int) : List Int := is.mergeSort fun a b => decide (a ≤ b)
theorem sorted_uniq : ∀ {a b : List Int}, a.Perm b → a.Pairwise (· ≤ ·) → b.Pairwise (· ≤ ·) → a = b
  | [], b, p, _, _ => (List.nil_perm.mp p).symm
  | x :: a, [], p, _, _ => absurd (List.perm_nil.mp p) (by simp)
  | x :: a, y :: b, p, g1, g2 => by
    obtain ⟨x1, h1⟩ := List.pairwise_cons.mp g1
    obtain ⟨y1, h2⟩ := List.pairwise_cons.mp g2
    have hx : x = y := by
      rcases List.mem_cons.mp (p.mem_iff.mp List.mem_cons_self) with q | q
      · exact q
      · rcases List.mem_cons.mp (p.mem_iff.mpr List.mem_cons_self) with z | z
        · exact z.symm
        · have := y1 x q
          have := x1 y z
          omega
    subst hx
    exact congrArg (x :: ·) (sorted_uniq (List.Perm.cons_inv p) h1 h2)
theorem sortI_sorted (is : List Int) : (sortI is).Pairwise (· ≤ ·) := by
  have := List.pairwise_mergeSort (le := fun a b : Int => decide (a ≤ b)) (fun a b c h1 h2 => by simp at *; omega) (fun a b => by simp; omega) is
  exact this.imp fun h => by simpa using h
def fSortK (xs : List D) (h : AH) : Res (List D) := match xs with
  | [.loc n] => match dctAt h n with
    | some kvs => match intKeys kvs with
      | some is => if is.length < 64 then .ok ((sortI is).map .int) h else .stuck
      | none => .stuck
    | none => .stuck
  | _ => .stuck
def rSortK : List V → Hp → VK → Prop := fun xs H Q => ∃ (a : Addr) (kvs : List (L2.Key × V)) (ks : List Int), xs = [.ref a] ∧ Rd H a (.dK kvs) ∧ kvs.map (·.1) = ks.map Sum.inl ∧ ks.length < 64 ∧
    ∀ (ys : List Int) (p : Addr), ys.Perm ks → ys.Pairwise (· ≤ ·) → H p = none → Q (.ref p) (upd H p (.lst (ys.map V.int)))
section
variable {X : Cx} {W : WX} {pos p : Pos} {e : Expr} {as : MeL}
theorem fol_sortK : FolF X W fSortK rSortK := by
  intro w h H σ Q vs ds rh ra o
  unfold fSortK at o
  split at o
  · rename_i n
    obtain ⟨v, rfl, rv⟩ := ra_one ra
    obtain ⟨rfl, hn⟩ := rv_loc rv
    split at o
    · rename_i kvs e
      split at o
      · rename_i is ei
        split at o
        · rename_i hl
          obtain ⟨kv, h1, h2, _⟩ := dct_rd rh e
          refine ⟨_, kv, is, rfl, h1, h2.trans (intKeys_map ei), hl, fun ys p py hy hp => ?_⟩
          have ey : ys = sortI is := sorted_uniq (py.trans (List.mergeSort_perm is _).symm) hy (sortI_sorted is)
          subst ey
          exact out_new o rh hp (ints_rep _)
        · exact o.elim
      · exact o.elim
    · exact o.elim
  · exact o.elim
theorem f_sortK (hm : X.mg "sorted" = none) (ha : PA X [e] (TAr X W as)) (hc : X.calm = true := by rfl) (hg : Gl X "sorted" := by rfl) (he : starEach [e] X.env = (false, eval e X.env) :: starEach [] X.env := by rfl) : PE X (.Call (.Name "sorted" p) [e] [] pos) (TF X W (lN fSortK as)) :=
  f_blt (call_sortedDI hc) fol_sortK hm ha hg (by decide +kernel) (by decide) (by decide) he rfl
end
end AB
/-! AB: rules of simp for objects, dicts, try. -/
namespace AB
open PySem PySem.Spec PyProof.Rows L2
section
variable {G : Env} {h : AH} {m a b c : Me} {as : MeL} {n : Nat} {x y : D} {f C : Str} {cs : List Str} {tb : List (Str × Fn)}
@[simp] theorem v_mFld : mFld cs f m G h = (m G h).bind fun d h1 => match d with
  | .loc n => match h1[n]? with
    | some (.ins C fs) => if C ∈ cs then match fs.lookup f with
      | some x => .ok x h1
      | none => .stuck
      else .stuck
    | _ => .stuck
  | _ => .stuck := id rfl
@[simp] theorem v_sFld : sFldM cs f a b G h = (b G h).toS G fun x h1 => (a G h1).toS G fun d h2 => match d with
  | .loc n => match h2[n]? with
    | some (.ins C fs) => if C ∈ cs ∧ fs.length < 1000 then .next G (h2.set n (.ins C (putD f x fs))) else .stuck
    | _ => .stuck
  | _ => .stuck := id rfl
@[simp] theorem v_sFldA {g : Int → Int → Int} : sFldA g cs f a b G h = (a G h).toS G fun d h1 => match d with
  | .loc n => match h1[n]? with
    | some (.ins C fs) => if C ∈ cs then match fs.lookup f with
      | some (.int i) => (b G h1).toS G fun y h2 => match y, h2[n]? with
        | .int j, some (.ins C2 fs2) => if C2 = C ∧ fs2.length < 1000 then .next G (h2.set n (.ins C (putD f (.int (g i j)) fs2))) else .stuck
        | _, _ => .stuck
      | _ => .stuck
      else .stuck
    | _ => .stuck
  | _ => .stuck := id rfl
@[simp] theorem v_mMeth : mMeth tb f m as G h = (m G h).bind fun d h1 => match d with
  | .loc n => match h1[n]? with
    | some (.ins C fs) => match tb.lookup C with
      | some fn => match fs.lookup f with
        | none => (as G h1).bind fun xs h2 => fn (.loc n :: xs) h2
        | some _ => .stuck
      | none => .stuck
    | _ => .stuck
  | _ => .stuck := rfl
@[simp] theorem v_mMake {fn : Fn} : mMake C fn as G h = (as G h).bind fun xs h1 => (fn (.loc h1.length :: xs) (h1 ++ [.ins C []])).bind fun v h2 => match v with
  | .non => .ok (.loc h1.length) h2
  | _ => .stuck := rfl
@[simp] theorem v_mDNew : mDNew G h = .ok (.loc h.length) (h ++ [.dct []]) := rfl
@[simp] theorem v_keyI (i : Int) : toKey (.int i) = some (.inl i) := rfl
@[simp] theorem v_mIsiC (T : Ty) : mIsiC cs T m G h = (m G h).bind fun d h1 => match tyDC cs h1 T d with | some b => .ok (.bl b) h1 | none => .stuck := rfl
@[simp] theorem v_dcI {T : Ty} {i : Int} : tyDC cs h T (.int i) = some (Ty.int.sub T) := rfl
@[simp] theorem v_dcB {T : Ty} {i : Bool} : tyDC cs h T (.bl i) = some (Ty.bl.sub T) := rfl
@[simp] theorem v_dcN {T : Ty} : tyDC cs h T .non = some (Ty.non.sub T) := rfl
@[simp] theorem v_dcS {T : Ty} {i : Str} : tyDC cs h T (.str i) = some (Ty.str.sub T) := rfl
@[simp] theorem v_dcT {T : Ty} {i : List D} : tyDC cs h T (.tup i) = some (Ty.tup.sub T) := rfl
@[simp] theorem v_dcL {T : Ty} {i : List D} : tyDC cs h T (.lst i) = some (Ty.lst.sub T) := rfl
theorem v_dcO {T : Ty} : tyDC cs h T (.loc n) = (match h[n]? with
    | some (.dct _) => some (Ty.dct.sub T)
    | some (.lst _) => some (Ty.lst.sub T)
    | some (.ins C _) => if C ∈ cs then some false else none
    | _ => none) := rfl
@[simp] theorem v_lenD : fLenD [.loc n] h = (match dctAt h n with
    | some kvs => .ok (.int kvs.length) h
    | none => .stuck) := rfl
theorem dct_at {kvs : KD} (e : h[n]? = some (.dct kvs)) : dctAt h n = some kvs := by
  unfold dctAt
  rw [e]
theorem lck_at {kvs : KD} (e : h[n]? = some (.lck kvs)) : dctAt h n = some kvs := by
  unfold dctAt
  rw [e]
theorem lookup_self {α : Type} {f : Str} {d : α} {r : List (Str × α)} : List.lookup f ((f, d) :: r) = some d := by
  rw [List.lookup_cons]
  have : (f == f) = true := by simp
  rw [this]
theorem set_same {α : Type} : ∀ {l : List α} {n : Nat} {a : α}, l[n]? = some a → l.set n a = l
  | [], n, a, e => by simp at e
  | x :: l, 0, a, e => by
    simp at e
    subst e
    rfl
  | x :: l, n + 1, a, e => by
    rw [List.getElem?_cons_succ] at e
    rw [List.set_cons_succ, set_same e]
theorem lt_of_get {α : Type} {l : List α} {n : Nat} {a : α} (e : l[n]? = some a) : n < l.length := (List.getElem?_eq_some_iff.mp e).1
theorem g_app {α : Type} {l t : List α} {n : Nat} {a : α} (e : l[n]? = some a) : (l ++ t)[n]? = some a := by
  rw [List.getElem?_append_left (lt_of_get e)]
  exact e
theorem g_set {α : Type} {l : List α} {n m : Nat} {a b : α} (e : l[n]? = some a) (hn : m ≠ n) : (l.set m b)[n]? = some a := by
  rw [List.getElem?_set_ne hn]
  exact e
theorem g_new {α : Type} {l : List α} {a : α} : (l ++ [a])[l.length]? = some a := by simp
theorem s_app {α : Type} {l t : List α} {n : Nat} {a : α} (h : n < l.length) : (l ++ t).set n a = l.set n a ++ t := List.set_append_left _ _ h
theorem s_new {α : Type} {l : List α} {a b : α} : (l ++ [a]).set l.length b = l ++ [b] := by simp
/-- a comprehension over an empty dict -/
theorem lcD_nil {p : Pat} {vs : List Nat} {t : MeT} {e : Me} (e1 : a G h = .ok (.loc n) h) (ec : h[n]? = some (.dct [])) (e2 : a G (h.set n (.lck [])) = .ok (.loc n) (h.set n (.lck []))) : lCompD p vs a t e G h = .ok [] h := by
  unfold lCompD
  rw [e1]
  simp only [if_true]
  rw [ec]
  simp only
  rw [if_pos e2, if_pos (by simp)]
  unfold compGoD
  have hl := lt_of_get ec
  rw [if_pos (by rw [List.getElem?_set_self hl])]
  simp only [Res.bind_ok, List.set_set]
  rw [set_same ec]
/-- a loop over an empty dict -/
theorem forD_nil {p : Pat} {o : Me} {body : Ms} {pick : L2.Key × D → D} (e : o G h = .ok (.loc n) h) (ec : h[n]? = some (.dct [])) (e2 : o G (h.set n (.lck [])) = .ok (.loc n) (h.set n (.lck []))) :
    sForD pick p o body G h = .next G h := by
  unfold sForD
  rw [e]
  simp only [if_true]
  rw [ec]
  simp only
  rw [if_pos e2]
  unfold forGoD
  have hl := lt_of_get ec
  rw [if_pos (by rw [List.getElem?_set_self hl]), List.set_set, set_same ec]
theorem while_no {t : MeT} {b : Ms} {h1 : AH} (e : t G h = .ok false h1) : sWhile t b G h = .next G h1 := by
  refine while_ok (n := 1) ?_ (by simp)
  unfold whileGo
  rw [e]
  rfl
theorem dcomp_nil {p : Pat} {vs : List Nat} {it : Im} {t : MeT} {ek ev : Me} {h1 : AH} (e : it G h = .ok ([], none) h1) : mDComp p vs it t ek ev G h = .ok (.loc h1.length) (h1 ++ [.dct []]) := by
  unfold mDComp
  rw [e]
  simp only [Res.bind_ok, List.length_nil, Nat.zero_le, if_true]
  unfold dcompGo
  rw [if_pos (show Still none [] h1 from trivial)]
  rfl
theorem sTry_ok {i : Nat} {tbl : List (Str × Option Su)} {b : Ms} {G1 : Env} {h1 : AH} (e : b G h = .next G1 h1) : sTry i tbl b G h = .next G1 h1 := by
  unfold sTry
  rw [e]
theorem sTry_exc {i : Nat} {tbl : List (Str × Option Su)} {b : Ms} {G1 : Env} {h1 : AH} {c0 : Str} {fs : List (Str × D)} (e : b G h = .exc c0 fs G1 h1) : sTry i tbl b G h = tryK i tbl G1 h1 c0 fs := by
  unfold sTry
  rw [e]
end
end AB
namespace My
open PySem AB
/-- _law_hand(script): slots 0=script 1=cells 2=cell -/
noncomputable def b__law_hand : Ms :=
  (sSeq (sSet 1 (mL (lComp (.nm 2) [2] (iSeq (mSl (mV 0) oNone (oSome (mC (.int 63))))) tYesM (mN fAbs (aCons (mN fInt (aCons (mV 2) aNil)) aNil))))) (sSeq (sRet (mNew (lLst (aCons (mV 1) (aCons (mC (.int 0)) (aCons (mC (.int 0)) (aCons (mOp2 fAdd (mC (.int 1)) (mN fLen (aCons (mV 1) aNil))) (aCons (mC (.int 0)) aNil)))))))) sNil))
noncomputable def m__law_hand : FnL := mDefL 1 3 b__law_hand
/-- is_integer(thing): slots 0=thing -/
noncomputable def b_is_integer : Ms :=
  (sSeq (sRet (mAnd (mIsiC ["Store"] .int (mV 0)) (mNot (mIsiC ["Store"] .bl (mV 0))))) sNil)
noncomputable def m_is_integer : Fn := mDef 1 1 b_is_integer
/-- Store_keep(self, disk, head, fan): slots 0=self 1=disk 2=head 3=fan -/
noncomputable def b_Store_keep : Ms :=
  (sSeq (sFldM ["Store"] "kept_disk" (mV 0) (mV 1)) (sSeq (sFldM ["Store"] "head" (mV 0) (mV 2)) (sSeq (sFldM ["Store"] "fan" (mV 0) (mV 3)) (sSeq (sFldM ["Store"] "written" (mV 0) mDNew) (sSeq (sFldM ["Store"] "deals" (mV 0) mDNew) (sSeq (sFldM ["Store"] "begun" (mV 0) (mC (.int 0))) sNil))))))
noncomputable def m_Store_keep : Fn := mDefK 4 4 b_Store_keep
/-- Store_disk(self): slots 0=self -/
noncomputable def b_Store_disk : Ms :=
  (sSeq (sRet (mFld ["Store"] "kept_disk" (mV 0))) sNil)
noncomputable def m_Store_disk : Fn := mDefK 1 1 b_Store_disk
/-- Store_count(self): slots 0=self -/
noncomputable def b_Store_count : Ms :=
  (sSeq (sRet (mOp2 fIx (mFld ["Store"] "head" (mV 0)) (mC (.int 0)))) sNil)
noncomputable def m_Store_count : Fn := mDefK 1 1 b_Store_count
/-- Tree___init__(self, state, root, fan): slots 0=self 1=state 2=root 3=fan -/
noncomputable def b_Tree___init__ : Ms :=
  (sSeq (sFldM ["Tree"] "state" (mV 0) (mV 1)) (sSeq (sFldM ["Tree"] "root" (mV 0) (mIf (tBl (mOp2 fNe (mV 2) (mC (.int 0)))) (mV 2) (mC .non))) (sSeq (sFldM ["Tree"] "fan" (mV 0) (mV 3)) sNil)))
noncomputable def m_Tree___init__ : Fn := mDefK 4 4 b_Tree___init__
/-- Disk_now(self): slots 0=self 1=found 2=sector 3=values -/
noncomputable def b_Disk_now : Ms :=
  (sSeq (sSet 1 (mNew (lN lList (aCons (mFld ["Disk"] "kept" (mV 0)) aNil)))) (sSeq (sForD pickI (.tp [(.nm 2), (.nm 3)]) (mFld ["Disk", "Deal"] "writes" (mV 0)) (sSeq (sSub (mV 1) (mV 2) (mOp2 fIx (mV 3) (mOp1 fNeg (mC (.int 1))))) sNil)) (sSeq (sRet (mN fTuple (aCons (mV 1) aNil))) sNil)))
noncomputable def m_Disk_now : Fn := mDefK 1 4 b_Disk_now
/-- Tree_sectors(self): slots 0=self 1=found 2=waiting 3=page -/
noncomputable def b_Tree_sectors : Ms :=
  (sSeq (sSet 1 (mNew (lLst aNil))) (sSeq (sSet 2 (mIf (tBl (mOp2 fNotN (mFld ["Tree"] "root" (mV 0)) (mC .non))) (mNew (lLst (aCons (mFld ["Tree"] "root" (mV 0)) aNil))) (mNew (lLst aNil)))) (sSeq (sWhile (tBl (mOp2 cGt (mN fLen (aCons (mV 2) aNil)) (mC (.int 0)))) sNever) (sSeq (sRet (mN fTuple (aCons (mL (lN fSorted (aCons (mV 1) aNil))) aNil))) sNil))))
noncomputable def m_Tree_sectors : Fn := mDefK 1 4 b_Tree_sectors
/-- Tree_pairs(self, first, last): slots 0=self 1=first 2=last 3=found 4=waiting 5=page 6=key 7=value -/
noncomputable def b_Tree_pairs : Ms :=
  (sSeq (sSet 3 (mNew (lLst aNil))) (sSeq (sSet 4 (mIf (tBl (mOp2 fNotN (mFld ["Tree"] "root" (mV 0)) (mC .non))) (mNew (lLst (aCons (mFld ["Tree"] "root" (mV 0)) aNil))) (mNew (lLst aNil)))) (sSeq (sWhile (tBl (mOp2 cGt (mN fLen (aCons (mV 4) aNil)) (mC (.int 0)))) sNever) (sSeq (sRet (mV 3)) sNil))))
noncomputable def m_Tree_pairs : Fn := mDefK 3 8 b_Tree_pairs
/-- _law_draw(hand, many): slots 0=hand 1=many 2=cell 3=digit 4=number -/
noncomputable def b__law_draw : Ms :=
  (sSeq (sIf (tAndM (tBl (mOp2 fEq (mOp2 fIx (mV 0) (mC (.int 2))) (mC (.int 0)))) (tBl (mOp2 cLt (mOp2 fIx (mV 0) (mC (.int 1))) (mN fLen (aCons (mOp2 fIx (mV 0) (mC (.int 0))) aNil))))) (sSeq (sSet 2 (mOp2 fIx (mOp2 fIx (mV 0) (mC (.int 0))) (mOp2 fIx (mV 0) (mC (.int 1))))) (sSeq (sSub (mV 0) (mC (.int 1)) (mOp2 fAdd (mOp2 fIx (mV 0) (mC (.int 1))) (mC (.int 1)))) (sSeq (sSub (mV 0) (mC (.int 3)) (mOp2 fMod (mN fInt (aCons (mOp2 fAdd (mOp2 fAdd (mOp2 fMul (mOp2 fIx (mV 0) (mC (.int 3))) (mC (.int 69621))) (mV 2)) (mC (.int 11))) aNil)) (mC (.int 2147483629)))) (sSeq (sIf (tBl (mOp2 cGe (mV 2) (mOp2 fPow (mC (.int 10)) (mC (.int 18))))) (sSeq (sSub (mV 0) (mC (.int 2)) (mV 2)) sNil) sNil) sNil)))) sNil) (sSeq (sIf (tBl (mOp2 cGt (mOp2 fIx (mV 0) (mC (.int 2))) (mC (.int 0)))) (sSeq (sSet 3 (mOp2 fMod (mN fInt (aCons (mOp2 fIx (mV 0) (mC (.int 2))) aNil)) (mV 1))) (sSeq (sSub (mV 0) (mC (.int 2)) (mOp2 fDiv (mOp2 fIx (mV 0) (mC (.int 2))) (mV 1))) (sSeq (sRet (mV 3)) sNil))) sNil) (sSeq (sSub (mV 0) (mC (.int 4)) (mOp2 fAdd (mOp2 fIx (mV 0) (mC (.int 4))) (mC (.int 1)))) (sSeq (sSet 4 (mOp2 fMod (mN fInt (aCons (mOp2 fMul (mN fInt (aCons (mOp2 fAdd (mOp2 fIx (mV 0) (mC (.int 3))) (mOp2 fMul (mC (.int 7919)) (mOp2 fIx (mV 0) (mC (.int 4))))) aNil)) (mC (.int 48271))) aNil)) (mC (.int 2147483647)))) (sSeq (sSet 4 (mOp2 fMod (mN fInt (aCons (mOp2 fMul (mV 4) (mOp2 fAdd (mOp2 fDiv (mV 4) (mC (.int 1009))) (mC (.int 69621)))) aNil)) (mC (.int 2147483647)))) (sSeq (sSet 4 (mOp2 fMod (mN fInt (aCons (mOp2 fMul (mV 4) (mOp2 fAdd (mOp2 fDiv (mV 4) (mC (.int 2003))) (mC (.int 40692)))) aNil)) (mC (.int 2147483399)))) (sSeq (sRet (mOp2 fMod (mN fInt (aCons (mOp2 fDiv (mV 4) (mC (.int 16))) aNil)) (mV 1))) sNil)))))))
noncomputable def m__law_draw : Fn := mDef 2 5 b__law_draw
/-- Tree_find(self, key): slots 0=self 1=key 2=tree 3=page -/
noncomputable def b_Tree_find : Ms :=
  (sSeq (sSet 2 (mFld ["Tree"] "root" (mV 0))) (sSeq (sWhile (tBl (mOp2 fNotN (mV 2) (mC .non))) sNever) (sSeq (sRet (mC .non)) sNil)))
noncomputable def m_Tree_find : Fn := mDefK 2 4 b_Tree_find
/-- _law_head(state): slots 0=state 1=found 2=sector 3=thing -/
noncomputable def b__law_head : Ms :=
  (sSeq (sSet 1 (mC .non)) (sSeq (sFor (.nm 2) (iRange1 (aCons (mC (.int 2)) aNil)) (sSeq (sSet 3 (mOp2 fIx (mV 0) (mV 2))) (sSeq (sIf (tAndM (tBl (mOp2 fNotN (mV 3) (mC .non))) (tAndM (tBl (mOp2 fEq (mN fLen (aCons (mV 3) aNil)) (mC (.int 3)))) (tBl (mOp2 fEq (mOp2 fMod (mN fInt (aCons (mOp2 fIx (mV 3) (mC (.int 0))) aNil)) (mC (.int 2))) (mV 2))))) (sSeq (sIf (tOrM (tBl (mOp2 fIsN (mV 1) (mC .non))) (tBl (mOp2 cGt (mOp2 fIx (mV 3) (mC (.int 0))) (mOp2 fIx (mV 1) (mC (.int 0)))))) (sSeq (sSet 1 (mV 3)) sNil) sNil) sNil) sNil) sNil))) (sSeq (sRet (mV 1)) sNil)))
noncomputable def m__law_head : Fn := mDef 1 4 b__law_head
/-- _law_pairs(book): slots 0=book 1=key -/
noncomputable def b__law_pairs : Ms :=
  (sSeq (sRet (mNew (lN fSorted (aCons (mL (lCompD (.nm 1) [1] (mV 0) tYesM (mN fTup (aCons (mV 1) (aCons (mOp2 fDGet (mV 0) (mV 1)) aNil))))) aNil)))) sNil)
noncomputable def m__law_pairs : FnL := mDefL 1 2 b__law_pairs
/-- Disk_waiting(self): slots 0=self -/
noncomputable def b_Disk_waiting : Ms :=
  (sSeq (sRet (mN fTuple (aCons (mL (lN fSortK (aCons (mFld ["Disk", "Deal"] "writes" (mV 0)) aNil))) aNil))) sNil)
noncomputable def m_Disk_waiting : Fn := mDefK 1 1 b_Disk_waiting
/-- Disk_settled(self): slots 0=self -/
noncomputable def b_Disk_settled : Ms :=
  (sSeq (sRet (mN fTuple (aCons (mFld ["Disk"] "kept" (mV 0)) aNil))) sNil)
noncomputable def m_Disk_settled : Fn := mDefK 1 1 b_Disk_settled
/-- _law_number(told, due): slots 0=told 1=due -/
noncomputable def b__law_number : Ms :=
  (sSeq (sRet (mAnd (mIsiC ["Store"] .int (mV 0)) (mAnd (mNot (mIsiC ["Store"] .bl (mV 0))) (mOp2 fEq (mV 0) (mV 1))))) sNil)
noncomputable def m__law_number : Fn := mDef 2 2 b__law_number
/-- _law_flag(told, due): slots 0=told 1=due -/
noncomputable def b__law_flag : Ms :=
  (sSeq (sRet (mAnd (mIsiC ["Store"] .bl (mV 0)) (mOp2 fEq (mV 0) (mV 1)))) sNil)
noncomputable def m__law_flag : Fn := mDef 2 2 b__law_flag
/-- _law_is_between(thing, least, most): slots 0=thing 1=least 2=most -/
noncomputable def b__law_is_between : Ms :=
  (sSeq (sRet (mAnd (mIsiC ["Store"] .int (mV 0)) (mAnd (mNot (mIsiC ["Store"] .bl (mV 0))) (mChain cLe cLe (mV 1) (mV 0) (mV 2))))) sNil)
noncomputable def m__law_is_between : Fn := mDef 3 3 b__law_is_between
/-- Deal_check(self): slots 0=self -/
noncomputable def b_Deal_check : Ms :=
  (sSeq (sIf (tOf (mFld ["Deal"] "is_over" (mV 0))) (sSeq (sRaise "Ended") sNil) sNil) sNil)
noncomputable def m_Deal_check : Fn := mDefK 1 1 b_Deal_check
/-- is_between(thing, least, most): slots 0=thing 1=least 2=most -/
noncomputable def b_is_between : Ms :=
  (sSeq (sRet (mAnd (mN m_is_integer (aCons (mV 0) aNil)) (mChain cLe cLe (mV 1) (mV 0) (mV 2)))) sNil)
noncomputable def m_is_between : Fn := mDef 3 3 b_is_between
/-- _law_stored(state, fan): slots 0=state 1=fan 2=head 3=tree -/
noncomputable def b__law_stored : Ms :=
  (sSeq (sSet 2 (mN m__law_head (aCons (mV 0) aNil))) (sSeq (sIf (tOrM (tBl (mOp2 fIsN (mV 2) (mC .non))) (tBl (mOp2 fEq (mOp2 fIx (mV 2) (mC (.int 1))) (mC (.int 0))))) (sSeq (sRet (mIf (tOrM (tBl (mOp2 fIsN (mV 2) (mC .non))) (tBl (mOp2 fNe (mOp2 fIx (mV 2) (mC (.int 2))) (mC (.int 0))))) (mC .non) (mN fTup (aCons (mOp2 fIx (mV 2) (mC (.int 0))) (aCons (mL (lLst aNil)) (aCons (mN fTup aNil) aNil)))))) sNil) sNil) sNever))
noncomputable def m__law_stored : Fn := mDef 2 4 b__law_stored
/-- _law_deep(hand): slots 0=hand 1=found 2=turn -/
noncomputable def b__law_deep : Ms :=
  (sSeq (sSet 1 (mOp2 fIx (mL (lLst (aCons (mC .non) (aCons (mC (.int 0)) (aCons (mC (.str "a")) (aCons (mN fTup aNil) aNil)))))) (mN m__law_draw (aCons (mV 0) (aCons (mC (.int 4)) aNil))))) (sSeq (sFor (.nm 2) (iRange1 (aCons (mOp2 fAdd (mC (.int 1)) (mN m__law_draw (aCons (mV 0) (aCons (mC (.int 30)) aNil)))) aNil)) (sSeq (sSet 1 (mOp2 fIx (mL (lLst (aCons (mL (lLst (aCons (mV 1) aNil))) (aCons (mN fTup (aCons (mV 1) aNil)) (aCons (mDisp1 (mC (.int 0)) (mV 1)) aNil))))) (mN m__law_draw (aCons (mV 0) (aCons (mC (.int 3)) aNil))))) sNil)) (sSeq (sRet (mV 1)) sNil)))
noncomputable def m__law_deep : Fn := mDefK 1 3 b__law_deep
/-- Deal_leave(self): slots 0=self -/
noncomputable def b_Deal_leave : Ms :=
  (sSeq (sExpr (mMeth [("Deal", m_Deal_check)] "check" (mV 0) aNil)) (sSeq (sFldM ["Deal"] "is_over" (mV 0) (mC (.bl true))) (sSeq (sExpr (mDPop1 (mFld ["Store"] "deals" (mFld ["Deal"] "store" (mV 0))) (mFld ["Deal"] "number" (mV 0)))) sNil)))
noncomputable def m_Deal_leave : Fn := mDefK 1 1 b_Deal_leave
/-- check_number(thing, least, most): slots 0=thing 1=least 2=most -/
noncomputable def b_check_number : Ms :=
  (sSeq (sIf (tNotM (tOf (mN m_is_between (aCons (mV 0) (aCons (mV 1) (aCons (mV 2) aNil)))))) (sSeq (sRaise "NoNumber") sNil) sNil) sNil)
noncomputable def m_check_number : Fn := mDef 3 3 b_check_number
/-- is_value(thing): slots 0=thing 1=item -/
noncomputable def b_is_value : Ms :=
  (sSeq (sIf (tOrM (tNotM (tOf (mIsiC ["Store"] .tup (mV 0)))) (tBl (mOp2 cGt (mN fLen (aCons (mV 0) aNil)) (mC (.int 32))))) (sSeq (sRet (mC (.bl false))) sNil) sNil) (sSeq (sRet (mN fAll (aCons (mL (lComp (.nm 1) [1] (iSeq (mV 0)) tYesM (mN m_is_between (aCons (mV 1) (aCons (mC (.int 0)) (aCons (mC (.int 1000000000000)) aNil)))))) aNil))) sNil))
noncomputable def m_is_value : Fn := mDef 1 2 b_is_value
/-- Store_tree(self): slots 0=self -/
noncomputable def b_Store_tree : Ms :=
  (sSeq (sRet (mMake "Tree" m_Tree___init__ (aCons (mMeth [("Disk", m_Disk_now)] "now" (mFld ["Store"] "kept_disk" (mV 0)) aNil) (aCons (mOp2 fIx (mFld ["Store"] "head" (mV 0)) (mC (.int 1))) (aCons (mFld ["Tree", "Store"] "fan" (mV 0)) aNil))))) sNil)
noncomputable def m_Store_tree : Fn := mDefK 1 1 b_Store_tree
/-- check_key(thing): slots 0=thing -/
noncomputable def b_check_key : Ms :=
  (sSeq (sIf (tNotM (tOf (mN m_is_between (aCons (mV 0) (aCons (mC (.int 0)) (aCons (mC (.int 1000000000)) aNil)))))) (sSeq (sRaise "NoKey") sNil) sNil) sNil)
noncomputable def m_check_key : Fn := mDef 1 1 b_check_key
/-- Deal_commit(self): slots 0=self 1=key -/
noncomputable def b_Deal_commit : Ms :=
  (sSeq (sExpr (mMeth [("Deal", m_Deal_check)] "check" (mV 0) aNil)) (sSeq (sIf (tOf (mN fAny (aCons (mL (lCompD (.nm 1) [1] (mFld ["Disk", "Deal"] "writes" (mV 0)) tYesM (mOp2 cGt (mDGet2 (mFld ["Store"] "written" (mFld ["Deal"] "store" (mV 0))) (mV 1) (mC (.int 0))) (mFld ["Deal"] "count" (mV 0))))) aNil))) (sSeq (sExpr (mMeth [("Deal", m_Deal_leave)] "leave" (mV 0) aNil)) (sSeq (sRet (mC (.bl false))) sNil)) sNil) (sSeq (sIf (tBl (mOp2 cGt (mN fLenD (aCons (mFld ["Disk", "Deal"] "writes" (mV 0)) aNil)) (mC (.int 0)))) sNever sNil) (sSeq (sExpr (mMeth [("Deal", m_Deal_leave)] "leave" (mV 0) aNil)) (sSeq (sRet (mC (.bl true))) sNil)))))
noncomputable def m_Deal_commit : Fn := mDefK 1 2 b_Deal_commit
/-- is_held(thing): slots 0=thing -/
noncomputable def b_is_held : Ms :=
  (sSeq (sRet (mOr (mOp2 fIsN (mV 0) (mC .non)) (mN m_is_value (aCons (mV 0) aNil)))) sNil)
noncomputable def m_is_held : Fn := mDef 1 1 b_is_held
/-- Deal___init__(self, store, number): slots 0=self 1=store 2=number -/
noncomputable def b_Deal___init__ : Ms :=
  (sSeq (sFldM ["Deal"] "store" (mV 0) (mV 1)) (sSeq (sFldM ["Deal"] "number" (mV 0) (mV 2)) (sSeq (sFldM ["Deal"] "count" (mV 0) (mMeth [("Store", m_Store_count)] "count" (mV 1) aNil)) (sSeq (sFldM ["Deal"] "tree" (mV 0) (mMeth [("Store", m_Store_tree)] "tree" (mV 1) aNil)) (sSeq (sFldM ["Deal"] "sectors" (mV 0) (mMeth [("Tree", m_Tree_sectors)] "sectors" (mFld ["Deal"] "tree" (mV 0)) aNil)) (sSeq (sFldM ["Deal"] "writes" (mV 0) mDNew) (sSeq (sFldM ["Deal"] "is_over" (mV 0) (mC (.bl false))) sNil)))))))
noncomputable def m_Deal___init__ : Fn := mDefK 3 3 b_Deal___init__
/-- Store_told_pairs(self): slots 0=self -/
noncomputable def b_Store_told_pairs : Ms :=
  (sSeq (sRet (mMeth [("Tree", m_Tree_pairs)] "pairs" (mMeth [("Store", m_Store_tree)] "tree" (mV 0) aNil) (aCons (mC (.int 0)) (aCons (mC (.int 1000000000)) aNil)))) sNil)
noncomputable def m_Store_told_pairs : Fn := mDefK 1 1 b_Store_told_pairs
/-- Store_get(self, key): slots 0=self 1=key -/
noncomputable def b_Store_get : Ms :=
  (sSeq (sExpr (mN m_check_key (aCons (mV 1) aNil))) (sSeq (sRet (mMeth [("Tree", m_Tree_find)] "find" (mMeth [("Store", m_Store_tree)] "tree" (mV 0) aNil) (aCons (mV 1) aNil))) sNil))
noncomputable def m_Store_get : Fn := mDefK 2 2 b_Store_get
/-- Store_pages(self): slots 0=self -/
noncomputable def b_Store_pages : Ms :=
  (sSeq (sRet (mMeth [("Tree", m_Tree_sectors)] "sectors" (mMeth [("Store", m_Store_tree)] "tree" (mV 0) aNil) aNil)) sNil)
noncomputable def m_Store_pages : Fn := mDefK 1 1 b_Store_pages
/-- is_state(thing): slots 0=thing 1=item -/
noncomputable def b_is_state : Ms :=
  (sSeq (sRet (mAnd (mIsiC ["Store"] .tup (mV 0)) (mAnd (mChain cLe cLe (mC (.int 1)) (mN fLen (aCons (mV 0) aNil)) (mC (.int 64))) (mN fAll (aCons (mL (lComp (.nm 1) [1] (iSeq (mV 0)) tYesM (mN m_is_held (aCons (mV 1) aNil)))) aNil))))) sNil)
noncomputable def m_is_state : Fn := mDef 1 2 b_is_state
/-- _law_shows(store, fan, count, book): slots 0=store 1=fan 2=count 3=book 4=disk_now 5=own 6=due 7=told -/
noncomputable def b__law_shows : Ms :=
  (sSeq (sSet 4 (mMeth [("Disk", m_Disk_now)] "now" (mMeth [("Store", m_Store_disk)] "disk" (mV 0) aNil) aNil)) (sSeq (sSet 5 (mN m__law_stored (aCons (mV 4) (aCons (mV 1) aNil)))) (sSeq (sSet 6 (mL (lN m__law_pairs (aCons (mV 3) aNil)))) (sSeq (sIf (tOrM (tBl (mOp2 fIsN (mV 5) (mC .non))) (tOrM (tBl (mOp2 fNe (mSl (mV 5) oNone (oSome (mC (.int 2)))) (mN fTup (aCons (mV 2) (aCons (mV 6) aNil))))) (tOrM (tBl (mOp2 fNe (mMeth [("Disk", m_Disk_waiting)] "waiting" (mMeth [("Store", m_Store_disk)] "disk" (mV 0) aNil) aNil) (mN fTup aNil))) (tBl (mOp2 fNe (mMeth [("Disk", m_Disk_settled)] "settled" (mMeth [("Store", m_Store_disk)] "disk" (mV 0) aNil) aNil) (mV 4)))))) (sSeq (sRet (mC (.bl false))) sNil) sNil) (sSeq (sSet 7 (mMeth [("Store", m_Store_told_pairs)] "told_pairs" (mV 0) aNil)) (sSeq (sIf (tOrM (tNotM (tOf (mN m__law_number (aCons (mMeth [("Store", m_Store_count)] "count" (mV 0) aNil) (aCons (mV 2) aNil))))) (tOrM (tNotM (tOf (mIsiC ["Store"] .lst (mV 7)))) (tBl (mOp2 fNe (mV 7) (mV 6))))) (sSeq (sRet (mC (.bl false))) sNil) sNil) (sSeq (sRet (mAnd (mIsiC ["Store"] .tup (mMeth [("Store", m_Store_pages)] "pages" (mV 0) aNil)) (mOp2 fEq (mMeth [("Store", m_Store_pages)] "pages" (mV 0) aNil) (mOp2 fIx (mV 5) (mC (.int 2)))))) sNil)))))))
noncomputable def m__law_shows : Fn := mDef 4 8 b__law_shows
/-- _law_key_word(store, key): slots 0=store 1=key 2=found 3=e -/
noncomputable def b__law_key_word : Ms :=
  (sSeq (sSet 2 (mC (.str "let"))) (sSeq (sTry 3 [("NoKey", some (fun a => (sSeq (sSet 2 (mIf (tAndM (tOf (mIsE 3 a true)) (tNotM (tOf (mIsE 3 a false)))) (mC (.str "key")) (mC (.str "odd")))) sNil)))] (sSeq (sExpr (mMeth [("Store", m_Store_get)] "get" (mV 0) (aCons (mV 1) aNil))) sNil)) (sSeq (sRet (mV 2)) sNil)))
noncomputable def m__law_key_word : Fn := mDef 2 4 b__law_key_word
/-- Store_free_sectors(self): slots 0=self 1=used 2=deal 3=sector -/
noncomputable def b_Store_free_sectors : Ms :=
  (sSeq (sSet 1 (mDComp (.nm 3) [3] (iSeq (mMeth [("Store", m_Store_pages)] "pages" (mV 0) aNil)) tYesM (mV 3) (mC (.bl true)))) (sSeq (sForD pickV (.nm 2) (mFld ["Store"] "deals" (mV 0)) (sSeq (sFor (.nm 3) (iSeq (mFld ["Deal"] "sectors" (mV 2))) (sSeq (sDPutM (mV 1) (mV 3) (mC (.bl true))) sNil)) sNil)) (sSeq (sRet (mL (lComp (.nm 3) [3] (iRange2 (aCons (mC (.int 2)) (aCons (mN fLen (aCons (mMeth [("Disk", m_Disk_now)] "now" (mFld ["Store"] "kept_disk" (mV 0)) aNil) aNil)) aNil))) (tBl (mOp2 fDNotIn (mV 3) (mV 1))) (mV 3)))) sNil)))
noncomputable def m_Store_free_sectors : Fn := mDefK 1 4 b_Store_free_sectors
/-- check_state(thing): slots 0=thing -/
noncomputable def b_check_state : Ms :=
  (sSeq (sIf (tNotM (tOf (mN m_is_state (aCons (mV 0) aNil)))) (sSeq (sRaise "NoState") sNil) sNil) sNil)
noncomputable def m_check_state : Fn := mDef 1 1 b_check_state
/-- Store_begin(self): slots 0=self 1=deal -/
noncomputable def b_Store_begin : Ms :=
  (sSeq (sFldA (fun i j => i + j) ["Store"] "begun" (mV 0) (mC (.int 1))) (sSeq (sSet 1 (mMake "Deal" m_Deal___init__ (aCons (mV 0) (aCons (mFld ["Store"] "begun" (mV 0)) aNil)))) (sSeq (sDPutM (mFld ["Store"] "deals" (mV 0)) (mFld ["Store"] "begun" (mV 0)) (mV 1)) (sSeq (sRet (mV 1)) sNil))))
noncomputable def m_Store_begin : Fn := mDefK 1 2 b_Store_begin
/-- Store_free(self): slots 0=self -/
noncomputable def b_Store_free : Ms :=
  (sSeq (sRet (mN fLen (aCons (mMeth [("Store", m_Store_free_sectors)] "free_sectors" (mV 0) aNil) aNil))) sNil)
noncomputable def m_Store_free : Fn := mDefK 1 1 b_Store_free
/-- Disk___init__(self, state): slots 0=self 1=state -/
noncomputable def b_Disk___init__ : Ms :=
  (sSeq (sExpr (mN m_check_state (aCons (mV 1) aNil))) (sSeq (sFldM ["Disk"] "kept" (mV 0) (mNew (lN lList (aCons (mV 1) aNil)))) (sSeq (sFldM ["Disk"] "writes" (mV 0) mDNew) (sSeq (sFldM ["Disk"] "watcher" (mV 0) (mC .non)) sNil))))
noncomputable def m_Disk___init__ : Fn := mDefK 2 2 b_Disk___init__
/-- Store___init__(self, sectors, fan): slots 0=self 1=sectors 2=fan -/
noncomputable def b_Store___init__ : Ms :=
  (sSeq (sExpr (mN m_check_number (aCons (mV 1) (aCons (mC (.int 4)) (aCons (mC (.int 64)) aNil))))) (sSeq (sExpr (mN m_check_number (aCons (mV 2) (aCons (mC (.int 2)) (aCons (mC (.int 7)) aNil))))) (sSeq (sExpr (mMeth [("Store", m_Store_keep)] "keep" (mV 0) (aCons (mMake "Disk" m_Disk___init__ (aCons (mOp2 fAdd (mN fTup (aCons (mN fTup (aCons (mC (.int 0)) (aCons (mC (.int 0)) (aCons (mC (.int 0)) aNil)))) aNil)) (mOp2 fMulA (mN fTup (aCons (mN fTup aNil) aNil)) (mOp2 fSub (mV 1) (mC (.int 1))))) aNil)) (aCons (mN fTup (aCons (mC (.int 0)) (aCons (mC (.int 0)) (aCons (mC (.int 0)) aNil)))) (aCons (mV 2) aNil))))) sNil)))
noncomputable def m_Store___init__ : Fn := mDefK 3 3 b_Store___init__
/-- _law_word(sectors, fan): slots 0=sectors 1=fan 2=found 3=e -/
noncomputable def b__law_word : Ms :=
  (sSeq (sSet 2 (mC (.str "let"))) (sSeq (sTry 3 [("NoNumber", some (fun a => (sSeq (sSet 2 (mIf (tAndM (tOf (mIsE 3 a true)) (tNotM (tOf (mIsE 3 a false)))) (mC (.str "number")) (mC (.str "odd")))) sNil)))] (sSeq (sExpr (mMake "Store" m_Store___init__ (aCons (mV 0) (aCons (mV 1) aNil)))) sNil)) (sSeq (sRet (mV 2)) sNil)))
noncomputable def m__law_word : Fn := mDef 2 4 b__law_word
/-- _law_refused_right(hand, store): slots 0=hand 1=store 2=odds 3=turn 4=sectors 5=fan 6=fits_all 7=key -/
noncomputable def b__law_refused_right : Ms :=
  (sSeq (sSet 2 (mL (lLst (aCons (mC (.int 3)) (aCons (mC (.int 4)) (aCons (mC (.int 64)) (aCons (mC (.int 65)) (aCons (mC (.int 2)) (aCons (mC (.int 7)) (aCons (mC (.int 8)) (aCons (mC (.int 1)) (aCons (mC (.int 0)) (aCons (mOp1 fNeg (mC (.int 1))) (aCons (mC (.bl true)) (aCons (mC .non) (aCons (mC (.str "8")) (aCons (mN fTup (aCons (mC (.int 8)) aNil)) (aCons (mL (lLst (aCons (mC (.int 4)) aNil))) (aCons (mOp2 fPow (mC (.int 10)) (mC (.int 12))) (aCons mDNew (aCons (mN m__law_deep (aCons (mV 0) aNil)) (aCons (mV 1) aNil)))))))))))))))))))))) (sSeq (sFor (.nm 3) (iRange1 (aCons (mC (.int 6)) aNil)) (sSeq (sSet 4 (mIf (tBl (mOp2 cGt (mN m__law_draw (aCons (mV 0) (aCons (mC (.int 3)) aNil))) (mC (.int 0)))) (mOp2 fIx (mV 2) (mN m__law_draw (aCons (mV 0) (aCons (mC (.int 19)) aNil)))) (mOp2 fAdd (mC (.int 4)) (mN m__law_draw (aCons (mV 0) (aCons (mC (.int 61)) aNil)))))) (sSeq (sSet 5 (mIf (tBl (mOp2 cGt (mN m__law_draw (aCons (mV 0) (aCons (mC (.int 3)) aNil))) (mC (.int 0)))) (mOp2 fIx (mV 2) (mN m__law_draw (aCons (mV 0) (aCons (mC (.int 19)) aNil)))) (mOp2 fAdd (mC (.int 2)) (mN m__law_draw (aCons (mV 0) (aCons (mC (.int 6)) aNil)))))) (sSeq (sSet 6 (mAnd (mN m__law_is_between (aCons (mV 4) (aCons (mC (.int 4)) (aCons (mC (.int 64)) aNil)))) (mN m__law_is_between (aCons (mV 5) (aCons (mC (.int 2)) (aCons (mC (.int 7)) aNil)))))) (sSeq (sIf (tBl (mOp2 fNe (mN m__law_word (aCons (mV 4) (aCons (mV 5) aNil))) (mOp2 fIx (mL (lLst (aCons (mC (.str "number")) (aCons (mC (.str "let")) aNil)))) (mN fInt (aCons (mV 6) aNil))))) (sSeq (sRet (mC (.bl false))) sNil) sNil) (sSeq (sSet 7 (mOp2 fIx (mOp2 fAdd (mV 2) (mL (lLst (aCons (mOp2 fPow (mC (.int 10)) (mC (.int 9))) (aCons (mOp2 fAdd (mOp2 fPow (mC (.int 10)) (mC (.int 9))) (mC (.int 1))) aNil))))) (mN m__law_draw (aCons (mV 0) (aCons (mC (.int 21)) aNil))))) (sSeq (sIf (tBl (mOp2 fNe (mN m__law_key_word (aCons (mV 1) (aCons (mV 7) aNil))) (mOp2 fIx (mL (lLst (aCons (mC (.str "key")) (aCons (mC (.str "let")) aNil)))) (mN fInt (aCons (mN m__law_is_between (aCons (mV 7) (aCons (mC (.int 0)) (aCons (mOp2 fPow (mC (.int 10)) (mC (.int 9))) aNil)))) aNil))))) (sSeq (sRet (mC (.bl false))) sNil) sNil) sNil))))))) (sSeq (sRet (mC (.bl true))) sNil)))
noncomputable def m__law_refused_right : Fn := mDefK 2 8 b__law_refused_right
/-- law(script): slots 0=script 1=hand 2=turn 3=sectors 4=fan 5=store 6=due 7=drive 8=deal 9=told -/
noncomputable def b_law : Ms :=
  (sSeq (sSet 1 (mNew (lN m__law_hand (aCons (mV 0) aNil)))) (sSeq (sFor (.nm 2) (iRange1 (aCons (mC (.int 3)) aNil)) (sSeq (sSet 3 (mOp2 fIx (mL (lLst (aCons (mOp2 fAdd (mC (.int 4)) (mN m__law_draw (aCons (mV 1) (aCons (mC (.int 61)) aNil)))) (aCons (mC (.int 4)) (aCons (mC (.int 64)) aNil))))) (mN m__law_draw (aCons (mV 1) (aCons (mC (.int 3)) aNil))))) (sSeq (sSet 4 (mOp2 fAdd (mC (.int 2)) (mN m__law_draw (aCons (mV 1) (aCons (mC (.int 6)) aNil))))) (sSeq (sSet 5 (mMake "Store" m_Store___init__ (aCons (mV 3) (aCons (mV 4) aNil)))) (sSeq (sSet 6 (mOp2 fAdd (mN fTup (aCons (mN fTup (aCons (mC (.int 0)) (aCons (mC (.int 0)) (aCons (mC (.int 0)) aNil)))) aNil)) (mOp2 fMulA (mN fTup (aCons (mN fTup aNil) aNil)) (mOp2 fSub (mV 3) (mC (.int 1)))))) (sSeq (sSet 7 (mMeth [("Store", m_Store_disk)] "disk" (mV 5) aNil)) (sSeq (sIf (tOrM (tBl (mOp2 fNe (mMeth [("Disk", m_Disk_now)] "now" (mV 7) aNil) (mV 6))) (tOrM (tNotM (tOf (mN m__law_shows (aCons (mV 5) (aCons (mV 4) (aCons (mC (.int 0)) (aCons mDNew aNil))))))) (tNotM (tOf (mN m__law_number (aCons (mMeth [("Store", m_Store_free)] "free" (mV 5) aNil) (aCons (mOp2 fSub (mV 3) (mC (.int 2))) aNil))))))) (sSeq (sRet (mC (.bl false))) sNil) sNil) (sSeq (sIf (tBl (mOp2 fNotN (mMeth [("Store", m_Store_get)] "get" (mV 5) (aCons (mOp2 fIx (mL (lLst (aCons (mC (.int 0)) (aCons (mOp2 fPow (mC (.int 10)) (mC (.int 9))) (aCons (mN m__law_draw (aCons (mV 1) (aCons (mOp2 fPow (mC (.int 10)) (mC (.int 9))) aNil))) aNil))))) (mN m__law_draw (aCons (mV 1) (aCons (mC (.int 3)) aNil)))) aNil)) (mC .non))) (sSeq (sRet (mC (.bl false))) sNil) sNil) (sSeq (sSet 8 (mMeth [("Store", m_Store_begin)] "begin" (mV 5) aNil)) (sSeq (sIf (tOrM (tNotM (tOf (mN m__law_number (aCons (mMeth [("Store", m_Store_free)] "free" (mV 5) aNil) (aCons (mOp2 fSub (mV 3) (mC (.int 2))) aNil))))) (tNotM (tOf (mN m__law_flag (aCons (mMeth [("Deal", m_Deal_commit)] "commit" (mV 8) aNil) (aCons (mC (.bl true)) aNil)))))) (sSeq (sRet (mC (.bl false))) sNil) sNil) (sSeq (sIf (tOrM (tBl (mOp2 fNe (mMeth [("Disk", m_Disk_now)] "now" (mV 7) aNil) (mV 6))) (tOrM (tNotM (tOf (mN m__law_shows (aCons (mV 5) (aCons (mV 4) (aCons (mC (.int 0)) (aCons mDNew aNil))))))) (tNotM (tOf (mN m__law_refused_right (aCons (mV 1) (aCons (mV 5) aNil))))))) (sSeq (sRet (mC (.bl false))) sNil) sNil) (sSeq (sSet 9 (mMeth [("Store", m_Store_told_pairs)] "told_pairs" (mV 5) aNil)) (sSeq (sExpr (mBM fApp (mV 9) (aCons (mC .non) aNil))) (sSeq (sIf (tBl (mOp2 fNe (mMeth [("Store", m_Store_told_pairs)] "told_pairs" (mV 5) aNil) (mL (lLst aNil)))) (sSeq (sRet (mC (.bl false))) sNil) sNil) sNil)))))))))))))) (sSeq (sRet (mC (.bl true))) sNil)))
noncomputable def m_law : Fn := mDef 1 10 b_law
end My
namespace My
open PySem AB L2
def hand (cs : List Int) (a b s t : Int) : AO := .lst [.lst (cs.map .int), .int a, .int b, .int s, .int t]
def IsP (cs : List Int) (o : AO) : Prop := ∃ a b s t, o = hand cs a b s t ∧ 0 ≤ a ∧ a ≤ cs.length ∧ 0 ≤ b
theorem mod_lo (k : Int) (hk : 0 < k) (x : Int) : -1152921504606846976 ≤ x % k := by
  have := Int.emod_nonneg x (show k ≠ 0 by omega)
  omega
theorem mod_hi (k : Int) (hk : 0 < k) (hk2 : k ≤ 2147483647) (x : Int) : x % k ≤ 1152921504606846976 := by
  have := Int.emod_lt_of_pos x hk
  omega
theorem draw_ok {cs : List Int} (hc : ∀ c ∈ cs, 0 ≤ c) {P : AO} (hP : IsP cs P) {many : Int} (h1 : 1 ≤ many) (h2 : many ≤ 1000000001) (tl : AH) :
    ∃ r P', m__law_draw [.loc 0, .int many] (P :: tl) = .ok (.int r) (P' :: tl) ∧ IsP cs P' ∧ 0 ≤ r ∧ r < many := by
  have hm : 0 < many := by omega
  have hm60 : many ≤ 1152921504606846976 := by omega
  have mm : ∀ x : Int, 0 ≤ x % many ∧ x % many < many := fun x => ⟨Int.emod_nonneg x (by omega), Int.emod_lt_of_pos x hm⟩
  have l1 := mod_lo 2147483647 (by decide)
  have l2 := mod_lo 2147483399 (by decide)
  have u1 := mod_hi 2147483647 (by decide) (by decide)
  have u2 := mod_hi 2147483399 (by decide) (by decide)
  obtain ⟨a, b, s, t, rfl, ha, ha2, hb⟩ := hP
  by_cases c1 : b = 0 ∧ a < cs.length
  · obtain ⟨rfl, c1⟩ := c1
    obtain ⟨c, hcx, hcm⟩ := atI_some ha c1
    have hc0 := hc c hcm
    by_cases c2 : 1000000000000000000 ≤ c
    · have c3 : 0 < c := by omega
      simp [m__law_draw, mDef, b__law_draw, hand, ixN, c1, atI_map, hcx, c2, c3, hm, hm60, finD]
      exact ⟨_, _, ⟨rfl, rfl⟩, ⟨_, _, _, _, rfl, by omega, by omega, Int.ediv_nonneg hc0 (by omega)⟩, mm _⟩
    · simp [m__law_draw, mDef, b__law_draw, hand, ixN, c1, atI_map, hcx, c2, hm, hm60, finD, l1, l2, u1, u2]
      exact ⟨_, _, ⟨rfl, rfl⟩, ⟨_, _, _, _, rfl, by omega, by omega, by omega⟩, mm _⟩
  · by_cases c2 : 0 < b
    · have c3 : ¬ b = 0 := by omega
      simp [m__law_draw, mDef, b__law_draw, hand, ixN, c3, c2, hm, hm60, finD]
      exact ⟨_, _, ⟨rfl, rfl⟩, ⟨_, _, _, _, rfl, by omega, by omega, Int.ediv_nonneg hb (by omega)⟩, mm _⟩
    · have c3 : b = 0 := by omega
      subst c3
      have c4 : ¬ a < cs.length := fun z => c1 ⟨rfl, z⟩
      simp [m__law_draw, mDef, b__law_draw, hand, ixN, c4, hm, hm60, finD, l1, l2, u1, u2]
      exact ⟨_, _, ⟨rfl, rfl⟩, ⟨_, _, _, _, rfl, by omega, by omega, by omega⟩, mm _⟩
def absI (i : Int) : Int := if i < 0 then -i else i
theorem absI_nn (i : Int) : 0 ≤ absI i := by
  unfold absI
  split <;> omega
theorem hand_ok (ns : List Int) (hl : ns.length ≤ 63) : ∃ cs : List Int, (∀ c ∈ cs, 0 ≤ c) ∧ ∃ s, m__law_hand [.rol (ns.map .int)] [] = .ok [.lst (cs.map .int), .int 0, .int 0, .int s, .int 0] [] := by
  refine ⟨ns.map absI, fun c hc => ?_, 1 + ns.length, ?_⟩
  · obtain ⟨i, _, rfl⟩ := List.mem_map.mp hc
    exact absI_nn i
  have hc : ∀ (all0 : List D) (b : Option D), compGo (.nm 2) tYesM (mN fAbs (aCons (mN fInt (aCons (mV 2) aNil)) aNil)) none all0 [some (.rol (ns.map .int)), b, none] (ns.map .int) [] = .ok (ns.map fun i => .int (absI i)) [] := by
    intro all0 b
    exact comp_all _ _ _ fun i hi => ⟨[some (.rol (ns.map .int)), b, some (.int i)], rfl, by simp [absI]⟩
  have e1 : cutD (ns.map D.int) none (some 63) = ns.map .int := by
    have := cut_to D.int ns 63
    rw [List.take_of_length_le hl] at this
    exact this
  have l1 : ns.length ≤ big := by rw [big_eq]; omega
  have l2 : (5 : Nat) ≤ big := by decide
  have e2 : underL 0 [D.lst (ns.map fun i => D.int (absI i)), D.int 0, D.int 0, D.int (1 + ns.length), D.int 0] = true := by
    simp [underL, D.under, under_intF]
  have e3 := finL_new [] [D.lst (ns.map fun i => D.int (absI i)), D.int 0, D.int 0, D.int (1 + ns.length), D.int 0] e2
  have e4 : (ns.map absI).map D.int = ns.map fun i => D.int (absI i) := by rw [List.map_map]; rfl
  rw [e4]
  simp [m__law_hand, mDefL, b__law_hand, wipeG, e1, hc, l1, l2]
  simpa using e3
end My
namespace My
open PySem AB L2
/-- a value, or what is held: none for a torn one -/
abbrev Val := List Int
def vD (v : Val) : D := .tup (v.map .int)
def hvD : Option Val → D
  | none => .non
  | some v => vD v
structure VOk (v : Val) : Prop where
  bd : ∀ k ∈ v, 0 ≤ k ∧ k ≤ 1000000000000
  len : v.length ≤ 32
/-! values as data -/
def vP (v : Val) : PyData := .tuple (v.map .int)
def hvP : Option Val → PyData
  | none => .none
  | some v => vP v
theorem toP_v (v : Val) : toP (vD v) = some (vP v) := by
  show (toPs (v.map D.int)).map PyData.tuple = _
  rw [toPs_ints]
  rfl
theorem toP_hv (o : Option Val) : toP (hvD o) = some (hvP o) := by
  cases o with
  | none => rfl
  | some v => exact toP_v v
theorem lay_v (v : Val) : PyData.canLay0 (vP v) = true := by simp [vP, PyData.canLay0, lay_ints]
theorem dep_v (v : Val) : PyData.depth (vP v) = 1 := by simp [vP, PyData.depth, dep_ints]
theorem eqv_ints : ∀ a b : List Int, PyData.eqvAll (a.map PyData.int) (b.map PyData.int) = decide (a = b)
  | [], [] => by simp [PyData.eqvAll]
  | [], y :: b => by simp [PyData.eqvAll]
  | x :: a, [] => by simp [PyData.eqvAll]
  | x :: a, y :: b => by
    simp only [List.map_cons, PyData.eqvAll, PyData.eqv, eqv_ints a b]
    by_cases h : x = y
    · subst h
      simp
    · simp [h]
theorem eqv_v (a b : Val) : PyData.eqv (vP a) (vP b) = decide (a = b) := by
  simp only [vP, PyData.eqv]
  exact eqv_ints a b
theorem eqv_hv (a b : Option Val) : PyData.eqv (hvP a) (hvP b) = decide (a = b) := by
  cases a with
  | none =>
    cases b with
    | none => simp [hvP, PyData.eqv]
    | some b => simp [hvP, vP, PyData.eqv]
  | some a =>
    cases b with
    | none => simp [hvP, vP, PyData.eqv]
    | some b =>
      show PyData.eqv (vP a) (vP b) = _
      rw [eqv_v]
      simp
theorem lay_hv (o : Option Val) : PyData.canLay0 (hvP o) = true := by
  cases o with
  | none => simp [hvP, PyData.canLay0]
  | some v => exact lay_v v
theorem dep_hv (o : Option Val) : PyData.depth (hvP o) ≤ 1 := by
  cases o with
  | none => simp [hvP, PyData.depth]
  | some v => exact Nat.le_of_eq (dep_v v)
theorem toPs_hv : ∀ os : List (Option Val), toPs (os.map hvD) = some (os.map hvP)
  | [] => rfl
  | o :: os => by
    show (match toP (hvD o), toPs (os.map hvD) with | some p, some ps => some (p :: ps) | _, _ => none) = _
    rw [toP_hv, toPs_hv os]
    rfl
theorem lay_hvs : ∀ os : List (Option Val), PyData.canLayAll0 (os.map hvP) = true
  | [] => by simp [PyData.canLayAll0]
  | o :: os => by simp [PyData.canLayAll0, lay_hv o, lay_hvs os]
theorem dep_hvs : ∀ os : List (Option Val), PyData.depthAll (os.map hvP) ≤ 2
  | [] => by simp [PyData.depthAll]
  | o :: os => by
    have h1 := dep_hv o
    have h2 := dep_hvs os
    simp only [List.map_cons, PyData.depthAll]
    omega
theorem any_hv (o : Option Val) (os : List (Option Val)) : ((os.map hvP).any fun z => PyData.eqv z (hvP o)) = decide (o ∈ os) := by
  induction os with
  | nil => rfl
  | cons x os ih =>
    rw [List.map_cons, List.any_cons, ih, eqv_hv]
    by_cases h : x = o
    · subst h
      simp
    · have h2 : ¬ o = x := fun e => h e.symm
      simp [h, h2]
theorem okP_hv {h : AH} (o : Option Val) : okP h (hvD o) = some (hvP o) := by
  unfold okP
  have e : toPh h (hvD o) = some (hvP o) := by
    have := toP_hv o
    cases o <;> exact this
  rw [e]
  have : SeqAt.shaped (hvP o) = true := by
    have := dep_hv o
    simp [SeqAt.shaped, lay_hv]
    omega
  simp [this]
theorem shaped_hvs (os : List (Option Val)) : SeqAt.shaped (.list (os.map hvP)) = true := by
  have := dep_hvs os
  simp [SeqAt.shaped, PyData.canLay0, PyData.depth, lay_hvs]
  omega
theorem okP_hvO {h : AH} {n : Nat} {os : List (Option Val)} (hn : h[n]? = some (.lst (os.map hvD))) : okP h (.loc n) = some (.list (os.map hvP)) := by
  unfold okP
  have e : toPh h (.loc n) = some (.list (os.map hvP)) := by
    show (match h[n]? with | some (.lst ds) => (toPs ds).map PyData.list | _ => none) = _
    rw [hn]
    show (toPs (os.map hvD)).map PyData.list = _
    rw [toPs_hv]
    rfl
  rw [e]
  simp [shaped_hvs]
theorem notin_hvO {h : AH} {n : Nat} {os : List (Option Val)} (hn : h[n]? = some (.lst (os.map hvD))) (o : Option Val) : fNotIn (hvD o) (.loc n) h = .ok (.bl (!decide (o ∈ os))) h := by
  unfold fNotIn inD
  rw [okP_hv, okP_hvO hn]
  simp only [any_hv]
theorem eq_hv {h : AH} (a b : Option Val) : fEq (hvD a) (hvD b) h = .ok (.bl (decide (a = b))) h := by
  unfold fEq
  rw [okP_hv, okP_hv]
  simp only [eqv_hv]
@[simp] theorem is_integer_ok {h : AH} (i : Int) : m_is_integer [.int i] h = .ok (.bl true) h := by
  simp [m_is_integer, mDef, b_is_integer, Ty.sub]
@[simp] theorem is_between_ok {h : AH} (i a b : Int) : m_is_between [.int i, .int a, .int b] h = .ok (.bl (decide (a ≤ i) && decide (i ≤ b))) h := by
  by_cases c : a ≤ i
  · simp [m_is_between, mDef, b_is_between, c]
  · simp [m_is_between, mDef, b_is_between, c]
theorem is_value_ok {h : AH} {v : Val} (w : VOk v) : m_is_value [vD v] h = .ok (.bl true) h := by
  have h1 : ∀ (all0 : List D), compGo (.nm 1) tYesM (mN m_is_between (aCons (mV 1) (aCons (mC (.int 0)) (aCons (mC (.int 1000000000000)) aNil)))) none all0 [some (vD v), none] (v.map .int) h = .ok (v.map fun _ => .bl true) h :=
    fun all0 => comp_all _ _ _ fun k hk => ⟨[some (vD v), some (.int k)], rfl, by simp [w.bd k hk]⟩
  have l1 : v.length ≤ big := by rw [big_eq]; have := w.len; omega
  have l2 : ¬ (32 : Int) < v.length := by have := w.len; omega
  have e : vD v = .tup (v.map .int) := rfl
  rw [e] at h1 ⊢
  simp [m_is_value, mDef, b_is_value, wipeG, Ty.sub, l1, l2, h1]
/-- what is held is right -/
def HOkV : Option Val → Prop
  | none => True
  | some v => VOk v
theorem is_held_ok {h : AH} {o : Option Val} (w : HOkV o) : m_is_held [hvD o] h = .ok (.bl true) h := by
  cases o with
  | none => simp [m_is_held, mDef, b_is_held, hvD, fIsN]
  | some v =>
    have := is_value_ok (h := h) (v := v) w
    have e : hvD (some v) = .tup (v.map .int) := rfl
    have e2 : vD v = .tup (v.map .int) := rfl
    rw [e2] at this
    rw [e]
    simp [m_is_held, mDef, b_is_held, fIsN, this]
theorem is_state_ok {h : AH} {st : List (Option Val)} (h1 : 1 ≤ st.length) (h2 : st.length ≤ 64) (w : ∀ o ∈ st, HOkV o) : m_is_state [.tup (st.map hvD)] h = .ok (.bl true) h := by
  have hc : ∀ (all0 : List D), compGo (.nm 1) tYesM (mN m_is_held (aCons (mV 1) aNil)) none all0 [some (.tup (st.map hvD)), none] (st.map hvD) h = .ok (st.map fun _ => .bl true) h :=
    fun all0 => comp_all _ _ _ fun o ho => ⟨[some (.tup (st.map hvD)), some (hvD o)], rfl, by simp [is_held_ok (w o ho)]⟩
  have l1 : st.length ≤ big := by rw [big_eq]; omega
  have l2 : (1 : Int) ≤ st.length := by omega
  have l3 : (st.length : Int) ≤ 64 := by omega
  simp [m_is_state, mDef, b_is_state, wipeG, Ty.sub, l1, l2, l3, hc]
theorem check_state_ok {h : AH} {st : List (Option Val)} (h1 : 1 ≤ st.length) (h2 : st.length ≤ 64) (w : ∀ o ∈ st, HOkV o) : m_check_state [.tup (st.map hvD)] h = .ok .non h := by
  simp [m_check_state, mDef, b_check_state, is_state_ok h1 h2 w]
theorem toP_tup {ds : List D} {ps : List PyData} (e : toPs ds = some ps) : toP (.tup ds) = some (.tuple ps) := by
  show (toPs ds).map PyData.tuple = _
  rw [e]
  rfl
theorem okP_hvT {h : AH} (os : List (Option Val)) : okP h (.tup (os.map hvD)) = some (.tuple (os.map hvP)) := by
  unfold okP
  have e : toPh h (.tup (os.map hvD)) = some (.tuple (os.map hvP)) := toP_tup (toPs_hv os)
  rw [e]
  have := dep_hvs os
  have e3 : SeqAt.shaped (.tuple (os.map hvP)) = true := by
    simp [SeqAt.shaped, PyData.canLay0, PyData.depth, lay_hvs]
    omega
  simp [e3]
theorem ne_hvT {h : AH} (os : List (Option Val)) : fNe (.tup (os.map hvD)) (.tup (os.map hvD)) h = .ok (.bl false) h := by
  unfold fNe
  rw [okP_hvT]
  have := PySem.SeqAt.eqv_refl (.tuple (os.map hvP)) (by simp [PyData.canLay0, lay_hvs])
  simp [this]
theorem under_hv (n : Nat) (o : Option Val) : (hvD o).under n = true := by
  cases o <;> simp [hvD, vD, D.under, under_ints]
theorem under_hvs (n : Nat) : ∀ os : List (Option Val), underL n (os.map hvD) = true
  | [] => by simp [underL]
  | o :: os => by simp [underL, under_hv, under_hvs n os]
end My
namespace My
open PySem AB L2
/-! a fresh store -/
def frK (n : Nat) : List (Option Val) := some [0, 0, 0] :: List.replicate (n - 1) (some [])
theorem frK_len {n : Nat} (h : 4 ≤ n) : (frK n).length = n := by
  simp [frK]
  omega
def z3 : D := .tup [.int 0, .int 0, .int 0]
def diskF (k w : Nat) : List (Str × D) := [("kept", .loc k), ("writes", .loc w), ("watcher", .non)]
def storeF (d w q : Nat) (f b : Int) : List (Str × D) := [("kept_disk", .loc d), ("head", z3), ("fan", .int f), ("written", .loc w), ("deals", .loc q), ("begun", .int b)]
def treeF (K : List (Option Val)) (f : Int) : List (Str × D) := [("state", .tup (K.map hvD)), ("root", .non), ("fan", .int f)]
def dealF (s t w : Nat) (k : Int) (o : Bool) : List (Str × D) := [("store", .loc s), ("number", .int k), ("count", .int 0), ("tree", .loc t), ("sectors", .tup []), ("writes", .loc w), ("is_over", .bl o)]
section
variable {k w d q s t : Nat} {f b : Int} {K : List (Option Val)} {o : Bool}
@[simp] theorem df1 : (diskF k w).lookup ("kept" : Str) = some (.loc k) := by kernel_rfl
@[simp] theorem df2 : (diskF k w).lookup ("writes" : Str) = some (.loc w) := by kernel_rfl
@[simp] theorem df3 : (diskF k w).lookup ("now" : Str) = none := by kernel_rfl
@[simp] theorem df4 : (diskF k w).lookup ("waiting" : Str) = none := by kernel_rfl
@[simp] theorem df5 : (diskF k w).lookup ("settled" : Str) = none := by kernel_rfl
theorem df6 : putD "watcher" .non (putD "writes" (.loc w) (putD "kept" (.loc k) [])) = diskF k w := by kernel_rfl
@[simp] theorem sf1 : (storeF d w q f b).lookup ("kept_disk" : Str) = some (.loc d) := by kernel_rfl
@[simp] theorem sf2 : (storeF d w q f b).lookup ("head" : Str) = some z3 := by kernel_rfl
@[simp] theorem sf3 : (storeF d w q f b).lookup ("fan" : Str) = some (.int f) := by kernel_rfl
@[simp] theorem sf4 : (storeF d w q f b).lookup ("written" : Str) = some (.loc w) := by kernel_rfl
@[simp] theorem sf5 : (storeF d w q f b).lookup ("deals" : Str) = some (.loc q) := by kernel_rfl
@[simp] theorem sf6 : (storeF d w q f b).lookup ("begun" : Str) = some (.int b) := by kernel_rfl
@[simp] theorem sf7 : (storeF d w q f b).lookup ("disk" : Str) = none := by kernel_rfl
@[simp] theorem sf8 : (storeF d w q f b).lookup ("count" : Str) = none := by kernel_rfl
@[simp] theorem sf9 : (storeF d w q f b).lookup ("tree" : Str) = none := by kernel_rfl
@[simp] theorem sf10 : (storeF d w q f b).lookup ("told_pairs" : Str) = none := by kernel_rfl
@[simp] theorem sf11 : (storeF d w q f b).lookup ("get" : Str) = none := by kernel_rfl
@[simp] theorem sf12 : (storeF d w q f b).lookup ("pages" : Str) = none := by kernel_rfl
@[simp] theorem sf13 : (storeF d w q f b).lookup ("free_sectors" : Str) = none := by kernel_rfl
@[simp] theorem sf14 : (storeF d w q f b).lookup ("free" : Str) = none := by kernel_rfl
@[simp] theorem sf15 : (storeF d w q f b).lookup ("begin" : Str) = none := by kernel_rfl
@[simp] theorem sf16 {c : Int} : putD "begun" (.int c) (storeF d w q f b) = storeF d w q f c := by kernel_rfl
theorem sf17 : putD "begun" (.int b) (putD "deals" (.loc q) (putD "written" (.loc w) (putD "fan" (.int f) (putD "head" z3 (putD "kept_disk" (.loc d) []))))) = storeF d w q f b := by kernel_rfl
@[simp] theorem sf18 : (storeF d w q f b).length = 6 := rfl
@[simp] theorem tf1 : (treeF K f).lookup ("root" : Str) = some .non := by kernel_rfl
@[simp] theorem tf2 : (treeF K f).lookup ("pairs" : Str) = none := by kernel_rfl
@[simp] theorem tf3 : (treeF K f).lookup ("sectors" : Str) = none := by kernel_rfl
@[simp] theorem tf4 : (treeF K f).lookup ("find" : Str) = none := by kernel_rfl
theorem tfl1 {x : D} : (putD "state" x []).length = 1 := by kernel_rfl
theorem tfl2 {x y : D} : (putD "root" y (putD "state" x [])).length = 2 := by kernel_rfl
theorem tf5 : putD "fan" (.int f) (putD "root" .non (putD "state" (.tup (K.map hvD)) [])) = treeF K f := by kernel_rfl
@[simp] theorem gf1 {x : Int} : (dealF s t w x o).lookup ("store" : Str) = some (.loc s) := by kernel_rfl
@[simp] theorem gf2 {x : Int} : (dealF s t w x o).lookup ("number" : Str) = some (.int x) := by kernel_rfl
@[simp] theorem gf3 {x : Int} : (dealF s t w x o).lookup ("count" : Str) = some (.int 0) := by kernel_rfl
@[simp] theorem gf4 {x : Int} : (dealF s t w x o).lookup ("tree" : Str) = some (.loc t) := by kernel_rfl
@[simp] theorem gf5 {x : Int} : (dealF s t w x o).lookup ("sectors" : Str) = some (.tup []) := by kernel_rfl
@[simp] theorem gf6 {x : Int} : (dealF s t w x o).lookup ("writes" : Str) = some (.loc w) := by kernel_rfl
@[simp] theorem gf7 {x : Int} : (dealF s t w x o).lookup ("is_over" : Str) = some (.bl o) := by kernel_rfl
@[simp] theorem gf8 {x : Int} : (dealF s t w x o).lookup ("check" : Str) = none := by kernel_rfl
@[simp] theorem gf9 {x : Int} : (dealF s t w x o).lookup ("leave" : Str) = none := by kernel_rfl
@[simp] theorem gf10 {x : Int} : (dealF s t w x o).lookup ("commit" : Str) = none := by kernel_rfl
@[simp] theorem gf11 {x : Int} {c : Bool} : putD "is_over" (.bl c) (dealF s t w x o) = dealF s t w x c := by kernel_rfl
theorem gf12 {x : Int} : putD "is_over" (.bl o) (putD "writes" (.loc w) (putD "sectors" (.tup []) (putD "tree" (.loc t) (putD "count" (.int 0) (putD "number" (.int x) (putD "store" (.loc s) [])))))) = dealF s t w x o := by kernel_rfl
@[simp] theorem gf13 {x : Int} : (dealF s t w x o).length = 7 := rfl
end
structure St (h : AH) (s d k v w q n : Nat) (f b : Int) (ds : KD) : Prop where
  ins : h[s]? = some (.ins "Store" (storeF d w q f b))
  dsk : h[d]? = some (.ins "Disk" (diskF k v))
  kept : h[k]? = some (.lst ((frK n).map hvD))
  wr : h[v]? = some (.dct [])
  wri : h[w]? = some (.dct [])
  dls : h[q]? = some (.dct ds)
  n4 : 4 ≤ n ∧ n ≤ 64
  pos : 0 < s ∧ 0 < d ∧ 0 < k ∧ 0 < v ∧ 0 < w ∧ 0 < q
  ne : v ≠ q ∧ w ≠ q
section
variable {h : AH} {s d k v w q n : Nat} {f b : Int} {ds : KD}
theorem St.app (S : St h s d k v w q n f b ds) (t : AH) : St (h ++ t) s d k v w q n f b ds :=
  ⟨g_app S.ins, g_app S.dsk, g_app S.kept, g_app S.wr, g_app S.wri, g_app S.dls, S.n4, S.pos, S.ne⟩
theorem get_pos {α : Type} {x y : α} {l : List α} {n : Nat} (hn : 0 < n) : (x :: l)[n]? = (y :: l)[n]? := by
  cases n with
  | zero => omega
  | succ n => rfl
theorem St.hand {P P' : AO} {tl : AH} (S : St (P :: tl) s d k v w q n f b ds) : St (P' :: tl) s d k v w q n f b ds := by
  obtain ⟨p1, p2, p3, p4, p5, p6⟩ := S.pos
  refine ⟨?_, ?_, ?_, ?_, ?_, ?_, S.n4, S.pos, S.ne⟩
  · rw [get_pos (y := P) p1]; exact S.ins
  · rw [get_pos (y := P) p2]; exact S.dsk
  · rw [get_pos (y := P) p3]; exact S.kept
  · rw [get_pos (y := P) p4]; exact S.wr
  · rw [get_pos (y := P) p5]; exact S.wri
  · rw [get_pos (y := P) p6]; exact S.dls
theorem at_ne {a b : Nat} {x y : AO} (h1 : h[a]? = some x) (h2 : h[b]? = some y) (n : x ≠ y) : a ≠ b := by
  rintro rfl
  rw [h1] at h2
  exact n (Option.some.inj h2)
theorem St.dv (S : St h s d k v w q n f b ds) : d ≠ v := at_ne S.dsk S.wr (by simp)
theorem now_ok (S : St h s d k v w q n f b ds) : m_Disk_now [.loc d] h = .ok (.tup ((frK n).map hvD)) (h ++ [.lst ((frK n).map hvD)]) := by
  have S1 := S.app [.lst ((frK n).map hvD)]
  have e1 : (mNew (lN lList (aCons (mFld ["Disk"] "kept" (mV 0)) aNil))) [some (.loc d), none, none, none] h = .ok (.loc h.length) (h ++ [.lst ((frK n).map hvD)]) := by
    simp [S.dsk, S.kept]
  have e2 : sForD pickI (.tp [(.nm 2), (.nm 3)]) (mFld ["Disk", "Deal"] "writes" (mV 0)) (sSeq (sSub (mV 1) (mV 2) (mOp2 fIx (mV 3) (mOp1 fNeg (mC (.int 1))))) sNil) [some (.loc d), some (.loc h.length), none, none] (h ++ [.lst ((frK n).map hvD)]) = .next [some (.loc d), some (.loc h.length), none, none] (h ++ [.lst ((frK n).map hvD)]) := by
    refine forD_nil (n := v) ?_ S1.wr ?_
    · simp only [v_mFld, v_mV, List.getElem?_cons_zero, Res.bind_ok, S1.dsk]
      simp
    · simp only [v_mFld, v_mV, List.getElem?_cons_zero, Res.bind_ok, g_set S1.dsk (Ne.symm S.dv)]
      simp
  have eq : b_Disk_now = (sSeq (sSet 1 (mNew (lN lList (aCons (mFld ["Disk"] "kept" (mV 0)) aNil)))) (sSeq (sForD pickI (.tp [(.nm 2), (.nm 3)]) (mFld ["Disk", "Deal"] "writes" (mV 0)) (sSeq (sSub (mV 1) (mV 2) (mOp2 fIx (mV 3) (mOp1 fNeg (mC (.int 1))))) sNil)) (sSeq (sRet (mN fTuple (aCons (mV 1) aNil))) sNil))) := rfl
  have eb : b_Disk_now [some (.loc d), none, none, none] h = .ret (.tup ((frK n).map hvD)) (h ++ [.lst ((frK n).map hvD)]) := by
    rw [eq]
    simp only [v_sSeq, v_sSet, e1, Res.toS_ok, List.set_cons_succ, List.set_cons_zero, SR.andThen_next, e2, v_sRet, v_mN, v_aCons, v_aNil, v_mV, List.getElem?_cons_succ, List.getElem?_cons_zero, Res.bind_ok, v_tuple, v_vSo, g_new, SR.andThen_ret]
  simp [m_Disk_now, mDefK, eb]
theorem disk_ok (S : St h s d k v w q n f b ds) : m_Store_disk [.loc s] h = .ok (.loc d) h := by
  simp [m_Store_disk, mDefK, b_Store_disk, S.ins]
theorem count_ok (S : St h s d k v w q n f b ds) : m_Store_count [.loc s] h = .ok (.int 0) h := by
  simp [m_Store_count, mDefK, b_Store_count, S.ins, z3]
theorem settled_ok (S : St h s d k v w q n f b ds) : m_Disk_settled [.loc d] h = .ok (.tup ((frK n).map hvD)) h := by
  simp [m_Disk_settled, mDefK, b_Disk_settled, S.dsk, S.kept]
theorem waiting_ok (S : St h s d k v w q n f b ds) : m_Disk_waiting [.loc d] h = .ok (.tup []) h := by
  have e : fSortK [.loc v] h = .ok [] h := by
    show (match dctAt h v with
      | some kvs => match intKeys kvs with
        | some is => if is.length < 64 then Res.ok ((sortI is).map D.int) h else .stuck
        | none => .stuck
      | none => .stuck) = _
    rw [dct_at S.wr]
    simp [intKeys, sortI]
  simp [m_Disk_waiting, mDefK, b_Disk_waiting, S.dsk, e]
theorem tree_ok (S : St h s d k v w q n f b ds) : m_Store_tree [.loc s] h = .ok (.loc (h.length + 1)) ((h ++ [.lst ((frK n).map hvD)]) ++ [.ins "Tree" (treeF (frK n) f)]) := by
  have S1 := S.app [.lst ((frK n).map hvD)]
  have e1 := now_ok S
  obtain ⟨h1, hh1⟩ : ∃ h1, h1 = h ++ [AO.lst ((frK n).map hvD)] := ⟨_, rfl⟩
  have hl : h.length + 1 = h1.length := by rw [hh1]; simp
  rw [← hh1] at e1 S1 ⊢
  rw [hl]
  have e2 : m_Tree___init__ [.loc h1.length, .tup ((frK n).map hvD), .int 0, .int f] (h1 ++ [.ins "Tree" []]) = .ok .non (h1 ++ [.ins "Tree" (treeF (frK n) f)]) := by
    have ne0 : ∀ hh : AH, fNe (.int 0) (.int 0) hh = .ok (.bl false) hh := fun hh => by simp
    simp [m_Tree___init__, mDefK, b_Tree___init__, g_new, s_new, ne0, tf5, tfl1, tfl2]
  have e3 : mMeth [("Disk", m_Disk_now)] "now" (mFld ["Store"] "kept_disk" (mV 0)) aNil [some (.loc s)] h = .ok (.tup ((frK n).map hvD)) h1 := by
    simp [S.ins, S.dsk, e1]
  have e4 : (mMake "Tree" m_Tree___init__ (aCons (mMeth [("Disk", m_Disk_now)] "now" (mFld ["Store"] "kept_disk" (mV 0)) aNil) (aCons (mOp2 fIx (mFld ["Store"] "head" (mV 0)) (mC (.int 1))) (aCons (mFld ["Tree", "Store"] "fan" (mV 0)) aNil)))) [some (.loc s)] h = .ok (.loc h1.length) (h1 ++ [.ins "Tree" (treeF (frK n) f)]) := by
    rw [v_mMake, v_aCons, e3]
    simp only [v_aCons, v_aNil, v_mOp2, v_mFld, v_mV, v_mC, List.getElem?_cons_zero, Res.bind_ok, S1.ins]
    simp [z3, e2, S1.ins]
  simp only [m_Store_tree, mDefK, b_Store_tree, v_sSeq, v_sRet, e4, List.length_cons, List.length_nil, List.map_cons, List.map_nil, if_true, Nat.sub_self, List.replicate_zero, List.append_nil, Nat.zero_add, Res.toS_ok, SR.andThen_ret]
end
end My
namespace My
open PySem AB L2
section
variable {h : AH} {s d k v w q n t : Nat} {f b : Int} {ds : KD} {K : List (Option Val)}
theorem fsorted_nil {h : AH} : fSorted [.loc n] h = (match h[n]? with | some (.lst ds) => (match toPs ds with | some ps => if sortB ps = true then .ok (sortD ds ps) h else .stuck | none => .stuck) | _ => .stuck) := by
  show (match vL h (.loc n) with | some ds => (match toPs ds with | some ps => if sortB ps = true then Res.ok (sortD ds ps) h else .stuck | none => .stuck) | none => .stuck) = _
  rw [v_vLo]
  cases h[n]? with
  | none => rfl
  | some o => cases o <;> rfl
theorem sortB_nil : sortB [] = true := by decide +kernel
theorem sectors_ok (T : h[t]? = some (.ins "Tree" (treeF K f))) : m_Tree_sectors [.loc t] h = .ok (.tup []) (h ++ [.lst []] ++ [.lst []]) := by
  have T1 := g_app (t := [AO.lst []]) T
  have e1 : (mNew (lLst aNil)) [some (.loc t), none, none, none] h = .ok (.loc h.length) (h ++ [.lst []]) := by simp
  obtain ⟨h1, hh1⟩ : ∃ h1, h1 = h ++ [AO.lst []] := ⟨_, rfl⟩
  have g1 : (h1 ++ [AO.lst []])[h.length]? = some (.lst []) := g_app (by rw [hh1]; exact g_new)
  rw [← hh1] at e1 T1 ⊢
  have e2 : (mIf (tBl (mOp2 fNotN (mFld ["Tree"] "root" (mV 0)) (mC .non))) (mNew (lLst (aCons (mFld ["Tree"] "root" (mV 0)) aNil))) (mNew (lLst aNil))) [some (.loc t), some (.loc h.length), none, none] h1 = .ok (.loc h1.length) (h1 ++ [.lst []]) := by
    simp [T1, fNotN]
  have e3 : sWhile (tBl (mOp2 cGt (mN fLen (aCons (mV 2) aNil)) (mC (.int 0)))) sNever [some (.loc t), some (.loc h.length), some (.loc h1.length), none] (h1 ++ [.lst []]) = .next [some (.loc t), some (.loc h.length), some (.loc h1.length), none] (h1 ++ [.lst []]) := by
    refine while_no ?_
    simp
  have e4 : (mN fTuple (aCons (mL (lN fSorted (aCons (mV 1) aNil))) aNil)) [some (.loc t), some (.loc h.length), some (.loc h1.length), none] (h1 ++ [.lst []]) = .ok (.tup []) (h1 ++ [.lst []]) := by
    simp only [v_mN, v_aCons, v_aNil, v_mL, v_lN, v_mV, List.getElem?_cons_succ, List.getElem?_cons_zero, Res.bind_ok, fsorted_nil, g1]
    simp [toPs, sortB_nil, sortD]
  have eq : b_Tree_sectors = (sSeq (sSet 1 (mNew (lLst aNil))) (sSeq (sSet 2 (mIf (tBl (mOp2 fNotN (mFld ["Tree"] "root" (mV 0)) (mC .non))) (mNew (lLst (aCons (mFld ["Tree"] "root" (mV 0)) aNil))) (mNew (lLst aNil)))) (sSeq (sWhile (tBl (mOp2 cGt (mN fLen (aCons (mV 2) aNil)) (mC (.int 0)))) sNever) (sSeq (sRet (mN fTuple (aCons (mL (lN fSorted (aCons (mV 1) aNil))) aNil))) sNil)))) := rfl
  have eb : b_Tree_sectors [some (.loc t), none, none, none] h = .ret (.tup []) (h1 ++ [.lst []]) := by
    rw [eq]
    simp only [v_sSeq, v_sSet, e1, Res.toS_ok, List.set_cons_succ, List.set_cons_zero, SR.andThen_next, e2, e3, v_sRet, e4, SR.andThen_ret]
  simp [m_Tree_sectors, mDefK, eb]
theorem pairs_ok (T : h[t]? = some (.ins "Tree" (treeF K f))) (x y : D) : m_Tree_pairs [.loc t, x, y] h = .ok (.loc h.length) (h ++ [.lst []] ++ [.lst []]) := by
  have T1 := g_app (t := [AO.lst []]) T
  have e1 : (mNew (lLst aNil)) [some (.loc t), some x, some y, none, none, none, none, none] h = .ok (.loc h.length) (h ++ [.lst []]) := by simp
  obtain ⟨h1, hh1⟩ : ∃ h1, h1 = h ++ [AO.lst []] := ⟨_, rfl⟩
  rw [← hh1] at e1 T1 ⊢
  have e2 : (mIf (tBl (mOp2 fNotN (mFld ["Tree"] "root" (mV 0)) (mC .non))) (mNew (lLst (aCons (mFld ["Tree"] "root" (mV 0)) aNil))) (mNew (lLst aNil))) [some (.loc t), some x, some y, some (.loc h.length), none, none, none, none] h1 = .ok (.loc h1.length) (h1 ++ [.lst []]) := by
    simp [T1, fNotN]
  have e3 : sWhile (tBl (mOp2 cGt (mN fLen (aCons (mV 4) aNil)) (mC (.int 0)))) sNever [some (.loc t), some x, some y, some (.loc h.length), some (.loc h1.length), none, none, none] (h1 ++ [.lst []]) = .next [some (.loc t), some x, some y, some (.loc h.length), some (.loc h1.length), none, none, none] (h1 ++ [.lst []]) := by
    refine while_no ?_
    simp
  have eq : b_Tree_pairs = (sSeq (sSet 3 (mNew (lLst aNil))) (sSeq (sSet 4 (mIf (tBl (mOp2 fNotN (mFld ["Tree"] "root" (mV 0)) (mC .non))) (mNew (lLst (aCons (mFld ["Tree"] "root" (mV 0)) aNil))) (mNew (lLst aNil)))) (sSeq (sWhile (tBl (mOp2 cGt (mN fLen (aCons (mV 4) aNil)) (mC (.int 0)))) sNever) (sSeq (sRet (mV 3)) sNil)))) := rfl
  have eb : b_Tree_pairs [some (.loc t), some x, some y, none, none, none, none, none] h = .ret (.loc h.length) (h1 ++ [.lst []]) := by
    rw [eq]
    simp only [v_sSeq, v_sSet, e1, Res.toS_ok, List.set_cons_succ, List.set_cons_zero, SR.andThen_next, e2, e3, v_sRet, v_mV, List.getElem?_cons_succ, List.getElem?_cons_zero, SR.andThen_ret]
  simp [m_Tree_pairs, mDefK, eb]
theorem find_ok (T : h[t]? = some (.ins "Tree" (treeF K f))) (x : D) : m_Tree_find [.loc t, x] h = .ok .non h := by
  have e3 : sWhile (tBl (mOp2 fNotN (mV 2) (mC .non))) sNever [some (.loc t), some x, some .non, none] h = .next [some (.loc t), some x, some .non, none] h := by
    refine while_no ?_
    simp [fNotN]
  have eq : b_Tree_find = (sSeq (sSet 2 (mFld ["Tree"] "root" (mV 0))) (sSeq (sWhile (tBl (mOp2 fNotN (mV 2) (mC .non))) sNever) (sSeq (sRet (mC .non)) sNil))) := rfl
  have e1 : (mFld ["Tree"] "root" (mV 0)) [some (.loc t), some x, none, none] h = .ok .non h := by simp [T]
  have eb : b_Tree_find [some (.loc t), some x, none, none] h = .ret .non h := by
    rw [eq]
    simp only [v_sSeq, v_sSet, e1, Res.toS_ok, List.set_cons_succ, List.set_cons_zero, SR.andThen_next, e3, v_sRet, v_mC, SR.andThen_ret]
  simp [m_Tree_find, mDefK, eb]
/-! the store's words -/
theorem told_ok (S : St h s d k v w q n f b ds) : ∃ t m, m_Store_told_pairs [.loc s] h = .ok (.loc m) (h ++ t) ∧ (h ++ t)[m]? = some (.lst []) ∧ h.length ≤ m := by
  have e1 := tree_ok S
  obtain ⟨h1, hh1⟩ : ∃ h1, h1 = h ++ [AO.lst ((frK n).map hvD)] := ⟨_, rfl⟩
  have hl : h.length + 1 = h1.length := by rw [hh1]; simp
  rw [← hh1, hl] at e1
  have T : (h1 ++ [AO.ins "Tree" (treeF (frK n) f)])[h1.length]? = some (.ins "Tree" (treeF (frK n) f)) := g_new
  have e2 := pairs_ok T (.int 0) (.int 1000000000)
  refine ⟨[.lst ((frK n).map hvD), .ins "Tree" (treeF (frK n) f), .lst [], .lst []], h1.length + 1, ?_, ?_, by omega⟩
  · have e3 : (mMeth [("Store", m_Store_tree)] "tree" (mV 0) aNil) [some (.loc s)] h = .ok (.loc h1.length) (h1 ++ [.ins "Tree" (treeF (frK n) f)]) := by simp [S.ins, e1]
    have e4 : (mMeth [("Tree", m_Tree_pairs)] "pairs" (mMeth [("Store", m_Store_tree)] "tree" (mV 0) aNil) (aCons (mC (.int 0)) (aCons (mC (.int 1000000000)) aNil))) [some (.loc s)] h = .ok (.loc (h1.length + 1)) (h1 ++ [.ins "Tree" (treeF (frK n) f)] ++ [.lst []] ++ [.lst []]) := by
      rw [v_mMeth, e3]
      simp only [Res.bind_ok, T, tf2, v_aCons, v_aNil, v_mC, lookup_self, e2]
      simp
    simp only [m_Store_told_pairs, mDefK, b_Store_told_pairs, v_sSeq, v_sRet, e4, List.length_cons, List.length_nil, List.map_cons, List.map_nil, if_true, Nat.sub_self, List.replicate_zero, List.append_nil, Nat.zero_add, Res.toS_ok, SR.andThen_ret]
    rw [hh1]
    simp
  · have z : h1.length + 1 = h.length + 2 := by omega
    rw [z, List.getElem?_append_right (by omega)]
    simp
theorem pages_ok (S : St h s d k v w q n f b ds) : ∃ t, m_Store_pages [.loc s] h = .ok (.tup []) (h ++ t) := by
  have e1 := tree_ok S
  obtain ⟨h1, hh1⟩ : ∃ h1, h1 = h ++ [AO.lst ((frK n).map hvD)] := ⟨_, rfl⟩
  have hl : h.length + 1 = h1.length := by rw [hh1]; simp
  rw [← hh1, hl] at e1
  have T : (h1 ++ [AO.ins "Tree" (treeF (frK n) f)])[h1.length]? = some (.ins "Tree" (treeF (frK n) f)) := g_new
  have e2 := sectors_ok T
  refine ⟨[.lst ((frK n).map hvD), .ins "Tree" (treeF (frK n) f), .lst [], .lst []], ?_⟩
  have e3 : (mMeth [("Store", m_Store_tree)] "tree" (mV 0) aNil) [some (.loc s)] h = .ok (.loc h1.length) (h1 ++ [.ins "Tree" (treeF (frK n) f)]) := by simp [S.ins, e1]
  have e4 : (mMeth [("Tree", m_Tree_sectors)] "sectors" (mMeth [("Store", m_Store_tree)] "tree" (mV 0) aNil) aNil) [some (.loc s)] h = .ok (.tup []) (h1 ++ [.ins "Tree" (treeF (frK n) f)] ++ [.lst []] ++ [.lst []]) := by
    rw [v_mMeth, e3]
    simp only [Res.bind_ok, T, tf3, v_aNil, lookup_self, e2]
  simp only [m_Store_pages, mDefK, b_Store_pages, v_sSeq, v_sRet, e4, List.length_cons, List.length_nil, List.map_cons, List.map_nil, if_true, Nat.sub_self, List.replicate_zero, List.append_nil, Nat.zero_add, Res.toS_ok, SR.andThen_ret]
  rw [hh1]
  simp
end
end My
namespace My
open PySem AB L2
section
variable {h : AH} {s d k v w q n t : Nat} {f b : Int} {ds : KD} {K : List (Option Val)}
/-- the deals that read: none, or one with no sectors -/
def Deals (h : AH) (ds : KD) : Prop := ds = [] ∨ ∃ x s t w i o, ds = [(.inl 1, .loc x)] ∧ h[x]? = some (.ins "Deal" (dealF s t w i o))
theorem Deals.app (Dl : Deals h ds) (t : AH) : Deals (h ++ t) ds := by
  rcases Dl with rfl | ⟨x, s, t', w, i, o, rfl, e⟩
  · exact .inl rfl
  · exact .inr ⟨x, s, t', w, i, o, rfl, g_app e⟩
theorem forNil {p : Pat} {body : Ms} {G : AB.Env} : forGo p body none [] [] G h = .next G h := by simp [forGo, Still]
noncomputable def dealsB : Ms := (sSeq (sFor (.nm 3) (iSeq (mFld ["Deal"] "sectors" (mV 2))) (sSeq (sDPutM (mV 1) (mV 3) (mC (.bl true))) sNil)) sNil)
theorem deals_loop (S : St h s d k v w q n f b ds) (Dl : Deals h ds) (u : Nat) : ∃ a2, sForD pickV (.nm 2) (mFld ["Store"] "deals" (mV 0)) dealsB [some (.loc s), some (.loc u), none, none] h = .next [some (.loc s), some (.loc u), a2, none] h := by
  have sq : s ≠ q := at_ne S.ins S.dls (by simp)
  have e1 : (mFld ["Store"] "deals" (mV 0)) [some (.loc s), some (.loc u), none, none] h = .ok (.loc q) h := by simp [S.ins]
  have e2 : ∀ y, (mFld ["Store"] "deals" (mV 0)) [some (.loc s), some (.loc u), none, none] (h.set q y) = .ok (.loc q) (h.set q y) := fun y => by
    simp [g_set S.ins (Ne.symm sq)]
  rcases Dl with rfl | ⟨x, s', t', w', i, o, rfl, e⟩
  · exact ⟨none, forD_nil e1 S.dls (e2 _)⟩
  · refine ⟨some (.loc x), ?_⟩
    have xq : x ≠ q := at_ne e S.dls (by simp)
    have hl := lt_of_get S.dls
    have g1 : ∀ y, (h.set q y)[q]? = some y := fun y => List.getElem?_set_self hl
    have eb : dealsB [some (.loc s), some (.loc u), some (.loc x), none] (h.set q (.lck [(.inl 1, .loc x)])) = .next [some (.loc s), some (.loc u), some (.loc x), none] (h.set q (.lck [(.inl 1, .loc x)])) := by
      have e3 : (iSeq (mFld ["Deal"] "sectors" (mV 2))) [some (.loc s), some (.loc u), some (.loc x), none] (h.set q (.lck [(.inl 1, .loc x)])) = .ok ([], none) (h.set q (.lck [(.inl 1, .loc x)])) := by
        simp [g_set e (Ne.symm xq)]
      simp only [dealsB, v_sSeq, v_sFor, e3, Res.toS_ok, forNil, SR.andThen_next, v_sNil]
    unfold sForD
    rw [e1]
    simp only [if_true]
    rw [S.dls]
    simp only
    rw [if_pos (e2 _)]
    unfold forGoD
    rw [if_pos (g1 _)]
    simp only [pickV, asg, List.set_cons_succ, List.set_cons_zero, eb]
    unfold forGoD
    rw [if_pos (g1 _), List.set_set, set_same S.dls]
theorem notin_nil {u : Nat} {i : Int} (e : h[u]? = some (.dct [])) : fDNotIn (.int i) (.loc u) h = .ok (.bl true) h := by
  show (match dctAt h u, toKey (.int i) with
    | some kvs, some k => Res.ok (D.bl (!(valD kvs k).isSome)) h
    | _, _ => .stuck) = _
  rw [dct_at e]
  rfl
theorem free_ok (S : St h s d k v w q n f b ds) (Dl : Deals h ds) : ∃ t, m_Store_free [.loc s] h = .ok (.int ((n : Int) - 2)) (h ++ t) := by
  obtain ⟨t1, e1⟩ := pages_ok S
  have S1 := S.app t1
  have D1 := Dl.app t1
  obtain ⟨h1, hh1⟩ : ∃ h1, h1 = h ++ t1 := ⟨_, rfl⟩
  rw [← hh1] at e1 S1 D1
  have i1 : (iSeq (mMeth [("Store", m_Store_pages)] "pages" (mV 0) aNil)) [some (.loc s), none, none, none] h = .ok ([], none) h1 := by
    simp [S.ins, e1]
  have e2 : (mDComp (.nm 3) [3] (iSeq (mMeth [("Store", m_Store_pages)] "pages" (mV 0) aNil)) tYesM (mV 3) (mC (.bl true))) [some (.loc s), none, none, none] h = .ok (.loc h1.length) (h1 ++ [.dct []]) := dcomp_nil i1
  have S2 := S1.app [.dct []]
  have D2 := D1.app [.dct []]
  have u2 : (h1 ++ [AO.dct []])[h1.length]? = some (.dct []) := g_new
  obtain ⟨u, hu⟩ : ∃ u, u = h1.length := ⟨_, rfl⟩
  obtain ⟨h2, hh2⟩ : ∃ h2, h2 = h1 ++ [AO.dct []] := ⟨_, rfl⟩
  rw [← hh2, ← hu] at e2 u2
  rw [← hh2] at S2 D2
  obtain ⟨a2, e3⟩ := deals_loop S2 D2 u
  have e4 := now_ok S2
  obtain ⟨h3, hh3⟩ : ∃ h3, h3 = h2 ++ [AO.lst ((frK n).map hvD)] := ⟨_, rfl⟩
  rw [← hh3] at e4
  have u3 : h3[u]? = some (.dct []) := by rw [hh3]; exact g_app u2
  have hn := S.n4
  have okr : okR2 (2 : Int) (n : Int) := ⟨by omega, by omega, by omega, by omega⟩
  have i2 : (iRange2 (aCons (mC (.int 2)) (aCons (mN fLen (aCons (mMeth [("Disk", m_Disk_now)] "now" (mFld ["Store"] "kept_disk" (mV 0)) aNil) aNil)) aNil))) [some (.loc s), some (.loc u), a2, none] h2 = .ok (rangeD 2 (n - 2), none) h3 := by
    have hk : (((frK n).map hvD).length : Int) = n := by rw [List.length_map, frK_len hn.1]
    have e5 : (mMeth [("Disk", m_Disk_now)] "now" (mFld ["Store"] "kept_disk" (mV 0)) aNil) [some (.loc s), some (.loc u), a2, none] h2 = .ok (.tup ((frK n).map hvD)) h3 := by
      simp [S2.ins, S2.dsk, e4]
    rw [v_range2]
    have e6 : (mN fLen (aCons (mMeth [("Disk", m_Disk_now)] "now" (mFld ["Store"] "kept_disk" (mV 0)) aNil) aNil)) [some (.loc s), some (.loc u), a2, none] h2 = .ok (.int n) h3 := by
      simp only [v_mN, v_aCons, v_aNil, e5, Res.bind_ok]
      rw [v_len (by simp), v_vSt]
      simp only [hk]
    simp only [v_aCons, v_aNil, v_mC, e6, Res.bind_ok, okr, if_true]
    have : ((n : Int) - 2).toNat = n - 2 := by omega
    rw [this]
  have ec : ∀ (all0 : List D) (g : AB.Env), compGo (.nm 3) (tBl (mOp2 fDNotIn (mV 3) (mV 1))) (mV 3) none all0 [some (.loc s), some (.loc u), a2, none] ((List.range' 2 (n - 2)).map fun i : Nat => D.int (i : Int)) h3 = .ok ((List.range' 2 (n - 2)).map fun i : Nat => D.int (i : Int)) h3 := fun all0 g => by
    have := comp_ok (p := .nm 3) (t := (tBl (mOp2 fDNotIn (mV 3) (mV 1)))) (e := mV 3) (G0 := [some (.loc s), some (.loc u), a2, none]) (all0 := all0) (h := h3) (fun i : Nat => D.int (i : Int)) (fun _ => true) (fun i : Nat => D.int (i : Int)) (List.range' 2 (n - 2)) (fun i hi => ⟨[some (.loc s), some (.loc u), a2, some (.int (i : Int))], rfl, by simp [notin_nil u3], fun _ => by simp⟩)
    rw [this, List.filter_eq_self.mpr fun _ _ => rfl]
  have bl : n - 2 ≤ big := by rw [big_eq]; omega
  have e7 : (mL (lComp (.nm 3) [3] (iRange2 (aCons (mC (.int 2)) (aCons (mN fLen (aCons (mMeth [("Disk", m_Disk_now)] "now" (mFld ["Store"] "kept_disk" (mV 0)) aNil) aNil)) aNil))) (tBl (mOp2 fDNotIn (mV 3) (mV 1))) (mV 3))) [some (.loc s), some (.loc u), a2, none] h2 = .ok (.lst ((List.range' 2 (n - 2)).map fun i : Nat => D.int (i : Int))) h3 := by
    have er : rangeD 2 (n - 2) = (List.range' 2 (n - 2)).map fun i : Nat => D.int (i : Int) := rangeD_from 2 (n - 2)
    rw [v_mL, v_lComp, i2]
    simp only [Res.bind_ok, er, List.length_map, List.length_range', bl, if_true, wipeG, List.foldl_cons, List.foldl_nil, List.set_cons_succ, List.set_cons_zero]
    rw [ec _ []]
    rfl
  have eq : b_Store_free_sectors = (sSeq (sSet 1 (mDComp (.nm 3) [3] (iSeq (mMeth [("Store", m_Store_pages)] "pages" (mV 0) aNil)) tYesM (mV 3) (mC (.bl true)))) (sSeq (sForD pickV (.nm 2) (mFld ["Store"] "deals" (mV 0)) dealsB) (sSeq (sRet (mL (lComp (.nm 3) [3] (iRange2 (aCons (mC (.int 2)) (aCons (mN fLen (aCons (mMeth [("Disk", m_Disk_now)] "now" (mFld ["Store"] "kept_disk" (mV 0)) aNil) aNil)) aNil))) (tBl (mOp2 fDNotIn (mV 3) (mV 1))) (mV 3)))) sNil))) := rfl
  have eb : b_Store_free_sectors [some (.loc s), none, none, none] h = .ret (.lst ((List.range' 2 (n - 2)).map fun i : Nat => D.int (i : Int))) h3 := by
    rw [eq]
    simp only [v_sSeq, v_sSet, e2, Res.toS_ok, List.set_cons_succ, List.set_cons_zero, SR.andThen_next, e3, v_sRet, e7, SR.andThen_ret]
  have e8 : m_Store_free_sectors [.loc s] h = .ok (.lst ((List.range' 2 (n - 2)).map fun i : Nat => D.int (i : Int))) h3 := by
    simp [m_Store_free_sectors, mDefK, eb]
  have h3a : h3 = h ++ (t1 ++ [AO.dct []] ++ [AO.lst ((frK n).map hvD)]) := by rw [hh3, hh2, hh1]; simp
  refine ⟨t1 ++ [AO.dct []] ++ [AO.lst ((frK n).map hvD)], ?_⟩
  rw [← h3a]
  have e9 : (mMeth [("Store", m_Store_free_sectors)] "free_sectors" (mV 0) aNil) [some (.loc s)] h = .ok (.lst ((List.range' 2 (n - 2)).map fun i : Nat => D.int (i : Int))) h3 := by simp [S.ins, e8]
  have ez : ((n - 2 : Nat) : Int) = (n : Int) - 2 := by omega
  have e10 : (mN fLen (aCons (mMeth [("Store", m_Store_free_sectors)] "free_sectors" (mV 0) aNil) aNil)) [some (.loc s)] h = .ok (.int ((n : Int) - 2)) h3 := by
    simp only [v_mN, v_aCons, v_aNil, e9, Res.bind_ok]
    rw [v_len (by simp), v_vSl]
    simp only [List.length_map, List.length_range', ez]
  simp only [m_Store_free, mDefK, b_Store_free, v_sSeq, v_sRet, e10, List.length_cons, List.length_nil, List.map_cons, List.map_nil, if_true, Nat.sub_self, List.replicate_zero, List.append_nil, Nat.zero_add, Res.toS_ok, SR.andThen_ret]
end
end My
namespace My
open PySem AB L2
/-! judging what is passed -/
def toI : D → Option Int
  | .int i => some i
  | _ => none
/-- a thing of which isinstance can tell -/
def Nice (h : AH) (x : D) : Prop := ∀ n, x = .loc n → (∃ kvs, h[n]? = some (.dct kvs)) ∨ ∃ fs, h[n]? = some (.ins "Store" fs)
def NotCR (x : D) : Prop := (∀ a, x ≠ .con a) ∧ ∀ ds, x ≠ .rol ds
section
variable {h : AH} {x : D}
theorem ty_cases (hn : Nice h x) (hc : NotCR x) : ∃ b1 b2, tyDC ["Store"] h .int x = some b1 ∧ tyDC ["Store"] h .bl x = some b2 ∧ (b1 && !b2) = (toI x).isSome := by
  cases x with
  | non => exact ⟨false, false, rfl, rfl, rfl⟩
  | bl b => exact ⟨true, true, rfl, rfl, rfl⟩
  | int i => exact ⟨true, false, rfl, rfl, rfl⟩
  | str z => exact ⟨false, false, rfl, rfl, rfl⟩
  | tup ds => exact ⟨false, false, rfl, rfl, rfl⟩
  | lst ds => exact ⟨false, false, rfl, rfl, rfl⟩
  | rol ds => exact absurd rfl (hc.2 ds)
  | con a => exact absurd rfl (hc.1 a)
  | loc n =>
    rcases hn n rfl with ⟨kvs, e⟩ | ⟨fs, e⟩
    · exact ⟨false, false, by rw [v_dcO, e]; rfl, by rw [v_dcO, e]; rfl, rfl⟩
    · exact ⟨false, false, by rw [v_dcO, e]; simp, by rw [v_dcO, e]; simp, rfl⟩
theorem is_integer_D (hn : Nice h x) (hc : NotCR x) : m_is_integer [x] h = .ok (.bl (toI x).isSome) h := by
  obtain ⟨b1, b2, e1, e2, e3⟩ := ty_cases hn hc
  rw [← e3]
  cases b1 <;> simp [m_is_integer, mDef, b_is_integer, e1, e2]
def btw (x : D) (a b : Int) : Bool := match toI x with
  | some i => decide (a ≤ i) && decide (i ≤ b)
  | none => false
theorem toI_some {x : D} (e : (toI x).isSome = true) : ∃ i, x = .int i := by
  cases x with
  | int i => exact ⟨i, rfl⟩
  | _ => cases e
theorem is_between_D (hn : Nice h x) (hc : NotCR x) (a b : Int) : m_is_between [x, .int a, .int b] h = .ok (.bl (btw x a b)) h := by
  cases e : (toI x).isSome with
  | true =>
    obtain ⟨i, rfl⟩ := toI_some e
    rw [is_between_ok]
    rfl
  | false =>
    have e1 := is_integer_D hn hc
    rw [e] at e1
    have e2 : btw x a b = false := by
      unfold btw
      cases q : toI x with
      | none => rfl
      | some i => rw [q] at e; cases e
    rw [e2]
    simp [m_is_between, mDef, b_is_between, e1]
theorem law_between_D (hn : Nice h x) (hc : NotCR x) (a b : Int) : m__law_is_between [x, .int a, .int b] h = .ok (.bl (btw x a b)) h := by
  cases e : (toI x).isSome with
  | true =>
    obtain ⟨i, rfl⟩ := toI_some e
    by_cases c : a ≤ i
    · simp [m__law_is_between, mDef, b__law_is_between, c, btw, toI, Ty.sub]
    · simp [m__law_is_between, mDef, b__law_is_between, c, btw, toI, Ty.sub]
  | false =>
    obtain ⟨b1, b2, e1, e2, e3⟩ := ty_cases hn hc
    rw [e] at e3
    have e4 : btw x a b = false := by
      unfold btw
      cases q : toI x with
      | none => rfl
      | some i => rw [q] at e; cases e
    rw [e4]
    cases b1 with
    | false => simp [m__law_is_between, mDef, b__law_is_between, e1]
    | true =>
      cases b2 with
      | true => simp [m__law_is_between, mDef, b__law_is_between, e1, e2]
      | false => cases e3
theorem check_number_D (hn : Nice h x) (hc : NotCR x) (a b : Int) : m_check_number [x, .int a, .int b] h = (if btw x a b = true then .ok .non h else .exc "NoNumber" [] h) := by
  have e := is_between_D hn hc a b
  cases q : btw x a b with
  | true => rw [q] at e; simp [m_check_number, mDef, b_check_number, e]
  | false => rw [q] at e; simp [m_check_number, mDef, b_check_number, e, sRaise, finX]
theorem check_key_D (hn : Nice h x) (hc : NotCR x) : m_check_key [x] h = (if btw x 0 1000000000 = true then .ok .non h else .exc "NoKey" [] h) := by
  have e := is_between_D hn hc 0 1000000000
  cases q : btw x 0 1000000000 with
  | true => rw [q] at e; simp [m_check_key, mDef, b_check_key, e]
  | false => rw [q] at e; simp [m_check_key, mDef, b_check_key, e, sRaise, finX]
variable {s d k v w q n t : Nat} {f b : Int} {ds : KD}
theorem get_ok (S : St h s d k v w q n f b ds) (hn : Nice h x) (hc : NotCR x) (hb : btw x 0 1000000000 = true) : ∃ t, m_Store_get [.loc s, x] h = .ok .non (h ++ t) := by
  have e0 := check_key_D hn hc
  rw [if_pos hb] at e0
  have e1 := tree_ok S
  obtain ⟨h1, hh1⟩ : ∃ h1, h1 = h ++ [AO.lst ((frK n).map hvD)] := ⟨_, rfl⟩
  have hl : h.length + 1 = h1.length := by rw [hh1]; simp
  rw [← hh1, hl] at e1
  have T : (h1 ++ [AO.ins "Tree" (treeF (frK n) f)])[h1.length]? = some (.ins "Tree" (treeF (frK n) f)) := g_new
  have e2 := find_ok T x
  refine ⟨[.lst ((frK n).map hvD), .ins "Tree" (treeF (frK n) f)], ?_⟩
  have e3 : (mMeth [("Store", m_Store_tree)] "tree" (mV 0) aNil) [some (.loc s), some x] h = .ok (.loc h1.length) (h1 ++ [.ins "Tree" (treeF (frK n) f)]) := by simp [S.ins, e1]
  have e4 : (mMeth [("Tree", m_Tree_find)] "find" (mMeth [("Store", m_Store_tree)] "tree" (mV 0) aNil) (aCons (mV 1) aNil)) [some (.loc s), some x] h = .ok .non (h1 ++ [.ins "Tree" (treeF (frK n) f)]) := by
    rw [v_mMeth, e3]
    simp only [Res.bind_ok, T, tf4, v_aCons, v_aNil, v_mV, List.getElem?_cons_succ, List.getElem?_cons_zero, lookup_self, e2]
  have e5 : (mN m_check_key (aCons (mV 1) aNil)) [some (.loc s), some x] h = .ok .non h := by simp [e0]
  have e6 : h ++ [.lst ((frK n).map hvD), .ins "Tree" (treeF (frK n) f)] = h1 ++ [.ins "Tree" (treeF (frK n) f)] := by rw [hh1]; simp
  rw [e6]
  simp only [m_Store_get, mDefK, b_Store_get, v_sSeq, v_sExpr, v_sRet, e4, e5, List.length_cons, List.length_nil, List.map_cons, List.map_nil, if_true, Nat.sub_self, List.replicate_zero, List.append_nil, Nat.zero_add, Res.toS_ok, SR.andThen_ret, SR.andThen_next]
theorem get_bad (S : St h s d k v w q n f b ds) (hn : Nice h x) (hc : NotCR x) (hb : btw x 0 1000000000 = false) : m_Store_get [.loc s, x] h = .exc "NoKey" [] h := by
  have e0 := check_key_D hn hc
  rw [if_neg (by rw [hb]; decide)] at e0
  have e5 : (mN m_check_key (aCons (mV 1) aNil)) [some (.loc s), some x] h = .exc "NoKey" [] h := by simp [e0]
  simp only [m_Store_get, mDefK, b_Store_get, v_sSeq, v_sExpr, e5, List.length_cons, List.length_nil, List.map_cons, List.map_nil, if_true, Nat.sub_self, List.replicate_zero, List.append_nil, Nat.zero_add, Res.toS_exc, SR.andThen_exc]
end
end My
namespace My
open PySem AB L2
/-! making a store -/
theorem set_at {α : Type} {h r : List α} {x y : α} : (h ++ x :: r).set h.length y = h ++ y :: r := by
  rw [List.set_append_right _ _ (Nat.le_refl _)]
  simp
theorem get_at {α : Type} {h r : List α} {x : α} : (h ++ x :: r)[h.length]? = some x := by simp
theorem app_at {α : Type} {h r t : List α} {x : α} : (h ++ x :: r) ++ t = h ++ x :: (r ++ t) := by simp
theorem len_at {α : Type} {h r : List α} {x : α} : (h ++ x :: r).length = h.length + (r.length + 1) := by simp
theorem dfl1 {x : D} : (putD "kept" x []).length = 1 := by kernel_rfl
theorem dfl2 {x y : D} : (putD "writes" y (putD "kept" x [])).length = 2 := by kernel_rfl
theorem frK_ok {n : Nat} : ∀ o ∈ frK n, HOkV o := by
  intro o ho
  unfold frK at ho
  rcases List.mem_cons.mp ho with rfl | ho
  · exact ⟨by simp, by decide⟩
  · have := List.eq_of_mem_replicate ho
    subst this
    exact ⟨by simp, by decide⟩
section
variable {h : AH} {n : Nat}
theorem fld_at {cs : List Str} {f C : Str} {G : AB.Env} {r r' : AH} {fs : List (Str × D)} {m : Me} {x : D} (hC : C ∈ cs) (e0 : G[0]? = some (some (.loc h.length))) (hf : fs.length < 1000) (e : m G (h ++ .ins C fs :: r) = .ok x (h ++ .ins C fs :: r')) :
    sFldM cs f (mV 0) m G (h ++ .ins C fs :: r) = .next G (h ++ .ins C (putD f x fs) :: r') := by
  rw [v_sFld, e]
  simp only [Res.toS_ok, v_mV, e0, get_at]
  rw [if_pos ⟨hC, hf⟩, set_at]
theorem disk_init (h4 : 4 ≤ n) (h64 : n ≤ 64) (r : AH) : m_Disk___init__ [.loc h.length, .tup ((frK n).map hvD)] (h ++ .ins "Disk" [] :: r) = .ok .non (h ++ .ins "Disk" (diskF (h.length + (r.length + 1)) (h.length + (r.length + 2))) :: (r ++ [.lst ((frK n).map hvD), .dct []])) := by
  have hl := frK_len h4
  have c0 : (mN m_check_state (aCons (mV 1) aNil)) [some (.loc h.length), some (.tup ((frK n).map hvD))] (h ++ .ins "Disk" [] :: r) = .ok .non (h ++ .ins "Disk" [] :: r) := by
    have := check_state_ok (h := h ++ .ins "Disk" [] :: r) (st := frK n) (by omega) (by omega) frK_ok
    simp [this]
  have c1 := fld_at (h := h) (r := r) (r' := r ++ [.lst ((frK n).map hvD)]) (cs := ["Disk"]) (f := "kept") (C := "Disk") (fs := []) (G := [some (.loc h.length), some (.tup ((frK n).map hvD))]) (m := mNew (lN lList (aCons (mV 1) aNil))) (x := .loc (h.length + (r.length + 1))) (by simp) rfl (by decide) (by
    simp [len_at, app_at])
  have c2 := fld_at (h := h) (r := r ++ [.lst ((frK n).map hvD)]) (r' := r ++ [.lst ((frK n).map hvD), .dct []]) (cs := ["Disk"]) (f := "writes") (C := "Disk") (fs := putD "kept" (.loc (h.length + (r.length + 1))) []) (G := [some (.loc h.length), some (.tup ((frK n).map hvD))]) (m := mDNew) (x := .loc (h.length + (r.length + 2))) (by simp) rfl (by rw [dfl1]; decide) (by
    simp [len_at, app_at])
  have c3 := fld_at (h := h) (r := r ++ [.lst ((frK n).map hvD), .dct []]) (r' := r ++ [.lst ((frK n).map hvD), .dct []]) (cs := ["Disk"]) (f := "watcher") (C := "Disk") (fs := putD "writes" (.loc (h.length + (r.length + 2))) (putD "kept" (.loc (h.length + (r.length + 1))) [])) (G := [some (.loc h.length), some (.tup ((frK n).map hvD))]) (m := mC .non) (x := .non) (by simp) rfl (by rw [dfl2]; decide) rfl
  rw [df6] at c3
  simp only [m_Disk___init__, mDefK, b_Disk___init__, v_sSeq, v_sExpr, c0, c1, c2, c3, v_sNil, List.length_cons, List.length_nil, List.map_cons, List.map_nil, if_true, Nat.sub_self, List.replicate_zero, List.append_nil, Nat.zero_add, Res.toS_ok, SR.andThen_next]
theorem kfl1 {x : D} : (putD "kept_disk" x []).length = 1 := by kernel_rfl
theorem kfl2 {x y : D} : (putD "head" y (putD "kept_disk" x [])).length = 2 := by kernel_rfl
theorem kfl3 {x y z : D} : (putD "fan" z (putD "head" y (putD "kept_disk" x []))).length = 3 := by kernel_rfl
theorem kfl4 {x y z u : D} : (putD "written" u (putD "fan" z (putD "head" y (putD "kept_disk" x [])))).length = 4 := by kernel_rfl
theorem kfl5 {x y z u v : D} : (putD "deals" v (putD "written" u (putD "fan" z (putD "head" y (putD "kept_disk" x []))))).length = 5 := by kernel_rfl
theorem keep_ok (r : AH) (d : Nat) (f : Int) : m_Store_keep [.loc h.length, .loc d, z3, .int f] (h ++ .ins "Store" [] :: r) = .ok .non (h ++ .ins "Store" (storeF d (h.length + (r.length + 1)) (h.length + (r.length + 2)) f 0) :: (r ++ [.dct [], .dct []])) := by
  have c1 := fld_at (h := h) (r := r) (r' := r) (cs := ["Store"]) (f := "kept_disk") (C := "Store") (fs := []) (G := [some (.loc h.length), some (.loc d), some z3, some (.int f)]) (m := mV 1) (x := .loc d) (by simp) rfl (by decide) rfl
  have c2 := fld_at (h := h) (r := r) (r' := r) (cs := ["Store"]) (f := "head") (C := "Store") (fs := putD "kept_disk" (.loc d) []) (G := [some (.loc h.length), some (.loc d), some z3, some (.int f)]) (m := mV 2) (x := z3) (by simp) rfl (by rw [kfl1]; decide) rfl
  have c3 := fld_at (h := h) (r := r) (r' := r) (cs := ["Store"]) (f := "fan") (C := "Store") (fs := putD "head" z3 (putD "kept_disk" (.loc d) [])) (G := [some (.loc h.length), some (.loc d), some z3, some (.int f)]) (m := mV 3) (x := .int f) (by simp) rfl (by rw [kfl2]; decide) rfl
  have c4 := fld_at (h := h) (r := r) (r' := r ++ [.dct []]) (cs := ["Store"]) (f := "written") (C := "Store") (fs := putD "fan" (.int f) (putD "head" z3 (putD "kept_disk" (.loc d) []))) (G := [some (.loc h.length), some (.loc d), some z3, some (.int f)]) (m := mDNew) (x := .loc (h.length + (r.length + 1))) (by simp) rfl (by rw [kfl3]; decide) (by simp [len_at, app_at])
  have c5 := fld_at (h := h) (r := r ++ [.dct []]) (r' := r ++ [.dct [], .dct []]) (cs := ["Store"]) (f := "deals") (C := "Store") (fs := putD "written" (.loc (h.length + (r.length + 1))) (putD "fan" (.int f) (putD "head" z3 (putD "kept_disk" (.loc d) [])))) (G := [some (.loc h.length), some (.loc d), some z3, some (.int f)]) (m := mDNew) (x := .loc (h.length + (r.length + 2))) (by simp) rfl (by rw [kfl4]; decide) (by simp [len_at, app_at])
  have c6 := fld_at (h := h) (r := r ++ [.dct [], .dct []]) (r' := r ++ [.dct [], .dct []]) (cs := ["Store"]) (f := "begun") (C := "Store") (fs := putD "deals" (.loc (h.length + (r.length + 2))) (putD "written" (.loc (h.length + (r.length + 1))) (putD "fan" (.int f) (putD "head" z3 (putD "kept_disk" (.loc d) []))))) (G := [some (.loc h.length), some (.loc d), some z3, some (.int f)]) (m := mC (.int 0)) (x := .int 0) (by simp) rfl (by rw [kfl5]; decide) rfl
  rw [sf17] at c6
  simp only [m_Store_keep, mDefK, b_Store_keep, v_sSeq, c1, c2, c3, c4, c5, c6, v_sNil, List.length_cons, List.length_nil, List.map_cons, List.map_nil, if_true, Nat.sub_self, List.replicate_zero, List.append_nil, Nat.zero_add, Res.toS_ok, SR.andThen_next]
/-- the tuple of a fresh disk -/
theorem fresh_tup (h4 : 4 ≤ n) : (frK n).map hvD = z3 :: List.replicate (n - 1) (.tup []) := by
  simp [frK, hvD, vD, z3]
noncomputable def frM (i : Nat) : Me := (mOp2 fAdd (mN fTup (aCons (mN fTup (aCons (mC (.int 0)) (aCons (mC (.int 0)) (aCons (mC (.int 0)) aNil)))) aNil)) (mOp2 fMulA (mN fTup (aCons (mN fTup aNil) aNil)) (mOp2 fSub (mV i) (mC (.int 1)))))
theorem frM_ok {G : AB.Env} {i : Nat} (hi : G[i]? = some (some (.int n))) (h4 : 4 ≤ n) (h64 : n ≤ 64) (hh : AH) : frM i G hh = .ok (.tup ((frK n).map hvD)) hh := by
  have b1 : (1 : Nat) ≤ big := by decide
  have b3 : (3 : Nat) ≤ big := by decide
  have e1 : ((n : Int) - 1).toNat = n - 1 := by omega
  have e2 : n ≤ big := by rw [big_eq]; omega
  rw [fresh_tup h4]
  have c : fMulA (.tup [.tup []]) (.int ((n : Int) - 1)) hh = .ok (.tup (List.replicate (n - 1) (.tup []))) hh := by
    show (if ((n : Int) - 1) = 1 then Res.ok (D.tup [.tup []]) hh else if 2 ≤ ((n : Int) - 1) ∧ ((n : Int) - 1) ≤ 1000 ∧ 1 ≤ [D.tup []].length ∧ [D.tup []].length ≤ 1000 then .ok (.tup (List.replicate ((n : Int) - 1).toNat [D.tup []]).flatten) hh else .stuck) = _
    rw [if_neg (by omega), if_pos ⟨by omega, by omega, by simp, by simp⟩, e1, List.flatten_replicate_singleton]
  have e3 : 1 + (n - 1) ≤ big := by rw [big_eq]; omega
  simp [frM, hi, b1, b3, z3, c, e3]
end
end My
namespace My
open PySem AB L2
section
variable {h : AH} {x y : D} {n : Nat} {f : Int}
theorem Nice.app {t : AH} (hn : Nice h x) : Nice (h ++ t) x := fun n e => by
  rcases hn n e with ⟨kvs, q⟩ | ⟨fs, q⟩
  · exact .inl ⟨kvs, g_app q⟩
  · exact .inr ⟨fs, g_app q⟩
theorem nice_int (i : Int) : Nice h (.int i) := fun n e => by cases e
theorem ncr_int (i : Int) : NotCR (.int i) := ⟨fun a => by simp, fun ds => by simp⟩
def storeT (h : AH) (n : Nat) (f : Int) : AH := [.ins "Store" (storeF (h.length + 1) (h.length + 4) (h.length + 5) f 0), .ins "Disk" (diskF (h.length + 2) (h.length + 3)), .lst ((frK n).map hvD), .dct [], .dct [], .dct []]
theorem store_init (h4 : 4 ≤ n) (h64 : n ≤ 64) (hf : btw (.int f) 2 7 = true) : m_Store___init__ [.loc h.length, .int n, .int f] (h ++ [.ins "Store" []]) = .ok .non (h ++ storeT h n f) := by
  obtain ⟨H1, hH⟩ : ∃ H1, H1 = h ++ [AO.ins "Store" []] := ⟨_, rfl⟩
  have hl : H1.length = h.length + 1 := by rw [hH]; simp
  have c1 : m_check_number [.int n, .int 4, .int 64] H1 = .ok .non H1 := by
    rw [check_number_D (nice_int _) (ncr_int _), if_pos]
    simp [btw, toI]
    omega
  have c2 : m_check_number [.int f, .int 2, .int 7] H1 = .ok .non H1 := by
    rw [check_number_D (nice_int _) (ncr_int _), if_pos hf]
  have c3 := frM_ok (G := [some (.loc h.length), some (.int n), some (.int f)]) (i := 1) rfl h4 h64 H1
  have c4 := disk_init (h := H1) h4 h64 []
  have c5 : (mMake "Disk" m_Disk___init__ (aCons (frM 1) aNil)) [some (.loc h.length), some (.int n), some (.int f)] H1 = .ok (.loc H1.length) (H1 ++ .ins "Disk" (diskF (H1.length + 1) (H1.length + 2)) :: [.lst ((frK n).map hvD), .dct []]) := by
    simp only [v_mMake, v_aCons, v_aNil, c3, Res.bind_ok, c4]
    simp
  have e6 : H1 ++ .ins "Disk" (diskF (H1.length + 1) (H1.length + 2)) :: [.lst ((frK n).map hvD), .dct []] = h ++ .ins "Store" [] :: [.ins "Disk" (diskF (h.length + 2) (h.length + 3)), .lst ((frK n).map hvD), .dct []] := by
    rw [hl, hH]
    simp
  rw [e6, hl] at c5
  have c6 := keep_ok (h := h) [.ins "Disk" (diskF (h.length + 2) (h.length + 3)), .lst ((frK n).map hvD), .dct []] (h.length + 1) f
  have e7 : h ++ .ins "Store" (storeF (h.length + 1) (h.length + ([AO.ins "Disk" (diskF (h.length + 2) (h.length + 3)), .lst ((frK n).map hvD), .dct []].length + 1)) (h.length + ([AO.ins "Disk" (diskF (h.length + 2) (h.length + 3)), .lst ((frK n).map hvD), .dct []].length + 2)) f 0) :: ([.ins "Disk" (diskF (h.length + 2) (h.length + 3)), .lst ((frK n).map hvD), .dct []] ++ [.dct [], .dct []]) = h ++ storeT h n f := by
    simp [storeT]
  rw [e7] at c6
  have b3 : (3 : Nat) ≤ big := by decide
  have gS : H1[h.length]? = some (.ins "Store" []) := by rw [hH]; exact g_new
  have c7 : (mMeth [("Store", m_Store_keep)] "keep" (mV 0) (aCons (mMake "Disk" m_Disk___init__ (aCons (frM 1) aNil)) (aCons (mN fTup (aCons (mC (.int 0)) (aCons (mC (.int 0)) (aCons (mC (.int 0)) aNil)))) (aCons (mV 2) aNil)))) [some (.loc h.length), some (.int n), some (.int f)] H1 = .ok .non (h ++ storeT h n f) := by
    simp only [v_mMeth, v_mV, List.getElem?_cons_zero, List.getElem?_cons_succ, Res.bind_ok, gS, lookup_self, List.lookup_nil, v_aCons, v_aNil, c5, v_mN, v_mC, v_fTup, List.length_cons, List.length_nil, Nat.zero_add, b3, if_true]
    exact c6
  have eq : b_Store___init__ = (sSeq (sExpr (mN m_check_number (aCons (mV 1) (aCons (mC (.int 4)) (aCons (mC (.int 64)) aNil))))) (sSeq (sExpr (mN m_check_number (aCons (mV 2) (aCons (mC (.int 2)) (aCons (mC (.int 7)) aNil))))) (sSeq (sExpr (mMeth [("Store", m_Store_keep)] "keep" (mV 0) (aCons (mMake "Disk" m_Disk___init__ (aCons (frM 1) aNil)) (aCons (mN fTup (aCons (mC (.int 0)) (aCons (mC (.int 0)) (aCons (mC (.int 0)) aNil)))) (aCons (mV 2) aNil))))) sNil))) := rfl
  have d1 : (mN m_check_number (aCons (mV 1) (aCons (mC (.int 4)) (aCons (mC (.int 64)) aNil)))) [some (.loc h.length), some (.int n), some (.int f)] H1 = .ok .non H1 := by simp [c1]
  have d2 : (mN m_check_number (aCons (mV 2) (aCons (mC (.int 2)) (aCons (mC (.int 7)) aNil)))) [some (.loc h.length), some (.int n), some (.int f)] H1 = .ok .non H1 := by simp [c2]
  rw [← hH]
  simp only [m_Store___init__, mDefK, eq, v_sSeq, v_sExpr, d1, d2, c7, v_sNil, List.length_cons, List.length_nil, List.map_cons, List.map_nil, if_true, Nat.sub_self, List.replicate_zero, List.append_nil, Nat.zero_add, Res.toS_ok, SR.andThen_next]
theorem store_bad (hx : Nice h x) (cx : NotCR x) (hy : Nice h y) (cy : NotCR y) (hb : (btw x 4 64 && btw y 2 7) = false) (z : Nat) : m_Store___init__ [.loc z, x, y] (h ++ [.ins "Store" []]) = .exc "NoNumber" [] (h ++ [.ins "Store" []]) := by
  obtain ⟨H1, hH⟩ : ∃ H1, H1 = h ++ [AO.ins "Store" []] := ⟨_, rfl⟩
  have c1 := check_number_D (Nice.app (t := [AO.ins "Store" []]) hx) cx 4 64
  have c2 := check_number_D (Nice.app (t := [AO.ins "Store" []]) hy) cy 2 7
  rw [← hH] at c1 c2 ⊢
  cases q : btw x 4 64 with
  | false =>
    rw [q, if_neg (by decide)] at c1
    simp [m_Store___init__, mDefK, b_Store___init__, c1]
  | true =>
    rw [q, Bool.true_and] at hb
    rw [q, if_pos rfl] at c1
    rw [hb, if_neg (by decide)] at c2
    simp [m_Store___init__, mDefK, b_Store___init__, c1, c2]
theorem toI_btw {x : D} {a b : Int} (e : btw x a b = true) : ∃ i, x = .int i ∧ a ≤ i ∧ i ≤ b := by
  cases x with
  | int i =>
    simp [btw, toI] at e
    exact ⟨i, rfl, e⟩
  | _ => cases e
theorem word_ok (hx : Nice h x) (cx : NotCR x) (hy : Nice h y) (cy : NotCR y) : m__law_word [x, y] h = .ok (.str (if (btw x 4 64 && btw y 2 7) = true then "let" else "number")) h := by
  have eq : b__law_word = (sSeq (sSet 2 (mC (.str "let"))) (sSeq (sTry 3 [("NoNumber", some (fun a => (sSeq (sSet 2 (mIf (tAndM (tOf (mIsE 3 a true)) (tNotM (tOf (mIsE 3 a false)))) (mC (.str "number")) (mC (.str "odd")))) sNil)))] (sSeq (sExpr (mMake "Store" m_Store___init__ (aCons (mV 0) (aCons (mV 1) aNil)))) sNil)) (sSeq (sRet (mV 2)) sNil))) := rfl
  cases q : btw x 4 64 && btw y 2 7 with
  | true =>
    rw [Bool.and_eq_true] at q
    obtain ⟨i, rfl, i4, i64⟩ := toI_btw q.1
    obtain ⟨f, rfl, f2, f7⟩ := toI_btw q.2
    obtain ⟨n, rfl⟩ : ∃ n : Nat, i = (n : Int) := ⟨i.toNat, by omega⟩
    have c1 := store_init (h := h) (n := n) (by omega) (by omega) q.2
    have c2 : (sSeq (sExpr (mMake "Store" m_Store___init__ (aCons (mV 0) (aCons (mV 1) aNil)))) sNil) [some (.int n), some (.int f), some (.str "let"), none] h = .next [some (.int n), some (.int f), some (.str "let"), none] (h ++ storeT h n f) := by
      simp [c1]
    have eb : b__law_word [some (.int n), some (.int f), none, none] h = .ret (.str "let") (h ++ storeT h n f) := by
      rw [eq]
      simp only [v_sSeq, v_sSet, v_mC, Res.toS_ok, List.set_cons_succ, List.set_cons_zero, SR.andThen_next]
      rw [sTry_ok c2]
      simp
    have fin := finD_app h (storeT h n f) (.str "let") (by simp [D.under])
    simp [m__law_word, mDef, eb, fin]
  | false =>
    have c1 := store_bad hx cx hy cy q h.length
    have c2 : (sSeq (sExpr (mMake "Store" m_Store___init__ (aCons (mV 0) (aCons (mV 1) aNil)))) sNil) [some x, some y, some (.str "let"), none] h = .exc "NoNumber" [] [some x, some y, some (.str "let"), none] (h ++ [.ins "Store" []]) := by
      simp [c1]
    have eb : b__law_word [some x, some y, none, none] h = .ret (.str "number") (h ++ [.ins "Store" []]) := by
      rw [eq]
      simp only [v_sSeq, v_sSet, v_mC, Res.toS_ok, List.set_cons_succ, List.set_cons_zero, SR.andThen_next]
      rw [sTry_exc c2]
      simp [tryK, mIsE]
    have fin := finD_app h [.ins "Store" []] (.str "number") (by simp [D.under])
    simp [m__law_word, mDef, eb, fin]
variable {s d k v w q t : Nat} {b : Int} {ds : KD}
theorem key_word_ok (S : St h s d k v w q n f b ds) (hx : Nice h x) (cx : NotCR x) : m__law_key_word [.loc s, x] h = .ok (.str (if btw x 0 1000000000 = true then "let" else "key")) h := by
  have eq : b__law_key_word = (sSeq (sSet 2 (mC (.str "let"))) (sSeq (sTry 3 [("NoKey", some (fun a => (sSeq (sSet 2 (mIf (tAndM (tOf (mIsE 3 a true)) (tNotM (tOf (mIsE 3 a false)))) (mC (.str "key")) (mC (.str "odd")))) sNil)))] (sSeq (sExpr (mMeth [("Store", m_Store_get)] "get" (mV 0) (aCons (mV 1) aNil))) sNil)) (sSeq (sRet (mV 2)) sNil))) := rfl
  cases q : btw x 0 1000000000 with
  | true =>
    obtain ⟨t, c1⟩ := get_ok S hx cx q
    have c2 : (sSeq (sExpr (mMeth [("Store", m_Store_get)] "get" (mV 0) (aCons (mV 1) aNil))) sNil) [some (.loc s), some x, some (.str "let"), none] h = .next [some (.loc s), some x, some (.str "let"), none] (h ++ t) := by
      simp [S.ins, c1]
    have eb : b__law_key_word [some (.loc s), some x, none, none] h = .ret (.str "let") (h ++ t) := by
      rw [eq]
      simp only [v_sSeq, v_sSet, v_mC, Res.toS_ok, List.set_cons_succ, List.set_cons_zero, SR.andThen_next]
      rw [sTry_ok c2]
      simp
    have fin := finD_app h t (.str "let") (by simp [D.under])
    simp [m__law_key_word, mDef, eb, fin]
  | false =>
    have c1 := get_bad S hx cx q
    have c2 : (sSeq (sExpr (mMeth [("Store", m_Store_get)] "get" (mV 0) (aCons (mV 1) aNil))) sNil) [some (.loc s), some x, some (.str "let"), none] h = .exc "NoKey" [] [some (.loc s), some x, some (.str "let"), none] h := by
      simp [S.ins, c1]
    have eb : b__law_key_word [some (.loc s), some x, none, none] h = .ret (.str "key") h := by
      rw [eq]
      simp only [v_sSeq, v_sSet, v_mC, Res.toS_ok, List.set_cons_succ, List.set_cons_zero, SR.andThen_next]
      rw [sTry_exc c2]
      simp [tryK, mIsE]
    simp [m__law_key_word, mDef, eb]
end
end My
namespace My
open PySem AB L2
/-! a deal begun -/
section
variable {s t w x : Nat} {i : Int}
theorem pd1 {a : D} : putD "store" a [] = ([("store", a)] : List (Str × D)) := by kernel_rfl
theorem pd2 {a b : D} : putD "number" b [("store", a)] = ([("store", a), ("number", b)] : List (Str × D)) := by kernel_rfl
theorem pd3 {a b c : D} : putD "count" c [("store", a), ("number", b)] = ([("store", a), ("number", b), ("count", c)] : List (Str × D)) := by kernel_rfl
theorem pd4 {a b c d : D} : putD "tree" d [("store", a), ("number", b), ("count", c)] = ([("store", a), ("number", b), ("count", c), ("tree", d)] : List (Str × D)) := by kernel_rfl
theorem pd5 {a b c d e : D} : putD "sectors" e [("store", a), ("number", b), ("count", c), ("tree", d)] = ([("store", a), ("number", b), ("count", c), ("tree", d), ("sectors", e)] : List (Str × D)) := by kernel_rfl
theorem pd6 {a b c d e f : D} : putD "writes" f [("store", a), ("number", b), ("count", c), ("tree", d), ("sectors", e)] = ([("store", a), ("number", b), ("count", c), ("tree", d), ("sectors", e), ("writes", f)] : List (Str × D)) := by kernel_rfl
theorem pd7 {o : Bool} : putD "is_over" (.bl o) [("store", .loc s), ("number", .int i), ("count", .int 0), ("tree", .loc t), ("sectors", .tup []), ("writes", .loc w)] = dealF s t w i o := by kernel_rfl
theorem lk4 {a b c d : D} : List.lookup ("tree" : Str) [("store", a), ("number", b), ("count", c), ("tree", d)] = some d := by kernel_rfl
end
theorem ne_SD {fs gs : List (Str × D)} : AO.ins "Store" fs ≠ AO.ins "Disk" gs := fun z => absurd (AO.ins.inj z).1 (by decide +kernel)
theorem ne_SG {fs gs : List (Str × D)} : AO.ins "Store" fs ≠ AO.ins "Deal" gs := fun z => absurd (AO.ins.inj z).1 (by decide +kernel)
theorem ne_DG {fs gs : List (Str × D)} : AO.ins "Disk" fs ≠ AO.ins "Deal" gs := fun z => absurd (AO.ins.inj z).1 (by decide +kernel)
section
variable {h : AH} {s d k v w q n : Nat} {f b : Int} {ds : KD}
theorem St.setS (S : St h s d k v w q n f b ds) (c : Int) : St (h.set s (.ins "Store" (storeF d w q f c))) s d k v w q n f c ds := by
  have hl := lt_of_get S.ins
  exact ⟨List.getElem?_set_self hl, g_set S.dsk (at_ne S.ins S.dsk ne_SD), g_set S.kept (at_ne S.ins S.kept (by simp)), g_set S.wr (at_ne S.ins S.wr (by simp)), g_set S.wri (at_ne S.ins S.wri (by simp)), g_set S.dls (at_ne S.ins S.dls (by simp)), S.n4, S.pos, S.ne⟩
theorem St.setQ (S : St h s d k v w q n f b ds) (es : KD) : St (h.set q (.dct es)) s d k v w q n f b es := by
  have hl := lt_of_get S.dls
  exact ⟨g_set S.ins (at_ne S.dls S.ins (by simp)), g_set S.dsk (at_ne S.dls S.dsk (by simp)), g_set S.kept (at_ne S.dls S.kept (by simp)), g_set S.wr (Ne.symm S.ne.1), g_set S.wri (Ne.symm S.ne.2), List.getElem?_set_self hl, S.n4, S.pos, S.ne⟩
theorem St.setG (S : St h s d k v w q n f b ds) {x : Nat} {fs gs : List (Str × D)} (e : h[x]? = some (.ins "Deal" fs)) : St (h.set x (.ins "Deal" gs)) s d k v w q n f b ds :=
  ⟨g_set S.ins (at_ne e S.ins ne_SG.symm), g_set S.dsk (at_ne e S.dsk ne_DG.symm), g_set S.kept (at_ne e S.kept (by simp)), g_set S.wr (at_ne e S.wr (by simp)), g_set S.wri (at_ne e S.wri (by simp)), g_set S.dls (at_ne e S.dls (by simp)), S.n4, S.pos, S.ne⟩
/-- Deal(store, 1) -/
theorem deal_init (S : St h s d k v w q n f b ds) (i : Int) : ∃ t wr r, m_Deal___init__ [.loc h.length, .loc s, .int i] (h ++ [.ins "Deal" []]) = .ok .non (h ++ .ins "Deal" (dealF s t wr i false) :: r) ∧ (h ++ .ins "Deal" (dealF s t wr i false) :: r)[wr]? = some (.dct []) ∧ h.length < wr := by
  obtain ⟨G, hG⟩ : ∃ G, G = [some (D.loc h.length), some (.loc s), some (.int i)] := ⟨_, rfl⟩
  have e0 : G[0]? = some (some (.loc h.length)) := by rw [hG]; rfl
  have c1 := fld_at (h := h) (r := []) (r' := []) (cs := ["Deal"]) (f := "store") (C := "Deal") (fs := []) (G := G) (m := mV 1) (x := .loc s) (by simp) e0 (by simp) (by rw [hG]; rfl)
  rw [pd1] at c1
  have c2 := fld_at (h := h) (r := []) (r' := []) (cs := ["Deal"]) (f := "number") (C := "Deal") (fs := [("store", .loc s)]) (G := G) (m := mV 2) (x := .int i) (by simp) e0 (by simp) (by rw [hG]; rfl)
  rw [pd2] at c2
  have S2 : ∀ fs r, St (h ++ .ins "Deal" fs :: r) s d k v w q n f b ds := fun fs r => S.app _
  have c3 := fld_at (h := h) (r := []) (r' := []) (cs := ["Deal"]) (f := "count") (C := "Deal") (fs := [("store", .loc s), ("number", .int i)]) (G := G) (m := mMeth [("Store", m_Store_count)] "count" (mV 1) aNil) (x := .int 0) (by simp) e0 (by simp) (by
    have e1 : G[1]? = some (some (.loc s)) := by rw [hG]; rfl
    simp only [v_mMeth, v_mV, e1, Res.bind_ok, (S2 [("store", .loc s), ("number", .int i)] []).ins, lookup_self, sf8, v_aNil, count_ok (S2 [("store", .loc s), ("number", .int i)] [])])
  rw [pd3] at c3
  have T4 := tree_ok (S2 [("store", .loc s), ("number", .int i), ("count", .int 0)] [])
  obtain ⟨t, ht⟩ : ∃ t, t = (h ++ AO.ins "Deal" [("store", .loc s), ("number", .int i), ("count", .int 0)] :: []).length + 1 := ⟨_, rfl⟩
  rw [← ht] at T4
  have ht2 : t = h.length + 2 := by rw [ht]; simp
  have c4 := fld_at (h := h) (r := []) (r' := [.lst ((frK n).map hvD), .ins "Tree" (treeF (frK n) f)]) (cs := ["Deal"]) (f := "tree") (C := "Deal") (fs := [("store", .loc s), ("number", .int i), ("count", .int 0)]) (G := G) (m := mMeth [("Store", m_Store_tree)] "tree" (mV 1) aNil) (x := .loc t) (by simp) e0 (by simp) (by
    have e1 : G[1]? = some (some (.loc s)) := by rw [hG]; rfl
    simp only [v_mMeth, v_mV, e1, Res.bind_ok, (S2 [("store", .loc s), ("number", .int i), ("count", .int 0)] []).ins, lookup_self, sf9, v_aNil, T4]
    simp)
  rw [pd4] at c4
  obtain ⟨F4, hF4⟩ : ∃ F, F = [(("store" : Str), D.loc s), ("number", .int i), ("count", .int 0), ("tree", .loc t)] := ⟨_, rfl⟩
  obtain ⟨R4, hR4⟩ : ∃ R, R = [AO.lst ((frK n).map hvD), .ins "Tree" (treeF (frK n) f)] := ⟨_, rfl⟩
  have T : (h ++ .ins "Deal" F4 :: R4)[t]? = some (.ins "Tree" (treeF (frK n) f)) := by
    rw [ht2, hR4, List.getElem?_append_right (by omega)]
    have : h.length + 2 - h.length = 2 := by omega
    rw [this]
    rfl
  have T5 := sectors_ok T
  have l4 : F4.length < 1000 := by rw [hF4]; simp
  have c5 := fld_at (h := h) (r := R4) (r' := R4 ++ [.lst [], .lst []]) (cs := ["Deal"]) (f := "sectors") (C := "Deal") (fs := F4) (G := G) (m := mMeth [("Tree", m_Tree_sectors)] "sectors" (mFld ["Deal"] "tree" (mV 0)) aNil) (x := .tup []) (by simp) e0 l4 (by
    have e2 : (mFld ["Deal"] "tree" (mV 0)) G (h ++ .ins "Deal" F4 :: R4) = .ok (.loc t) (h ++ .ins "Deal" F4 :: R4) := by
      simp only [v_mFld, v_mV, e0, Res.bind_ok, get_at]
      rw [if_pos (by simp), hF4, lk4]
    simp only [v_mMeth, e2, Res.bind_ok, T, lookup_self, tf3, v_aNil, T5]
    simp)
  rw [← hF4, ← hR4] at c4
  have pF5 : putD "sectors" (.tup []) F4 = ([("store", .loc s), ("number", .int i), ("count", .int 0), ("tree", .loc t), ("sectors", .tup [])] : List (Str × D)) := by rw [hF4]; exact pd5
  rw [pF5] at c5
  have lr : ∀ fs : List (Str × D), (h ++ AO.ins "Deal" fs :: (R4 ++ [AO.lst [], AO.lst []])).length = h.length + 5 := fun fs => by rw [hR4]; simp
  have c6 := fld_at (h := h) (r := R4 ++ [.lst [], .lst []]) (r' := R4 ++ [.lst [], .lst [], .dct []]) (cs := ["Deal"]) (f := "writes") (C := "Deal") (fs := [("store", .loc s), ("number", .int i), ("count", .int 0), ("tree", .loc t), ("sectors", .tup [])]) (G := G) (m := mDNew) (x := .loc (h.length + 5)) (by simp) e0 (by simp) (by
    rw [v_mDNew, lr]
    simp)
  rw [pd6] at c6
  have c7 := fld_at (h := h) (r := R4 ++ [.lst [], .lst [], .dct []]) (r' := R4 ++ [.lst [], .lst [], .dct []]) (cs := ["Deal"]) (f := "is_over") (C := "Deal") (fs := [("store", .loc s), ("number", .int i), ("count", .int 0), ("tree", .loc t), ("sectors", .tup []), ("writes", .loc (h.length + 5))]) (G := G) (m := mC (.bl false)) (x := .bl false) (by simp) e0 (by simp) rfl
  rw [pd7] at c7
  refine ⟨t, h.length + 5, R4 ++ [.lst [], .lst [], .dct []], ?_, ?_, by omega⟩
  · have ea : [D.loc h.length, .loc s, .int i].map some ++ List.replicate (3 - 3) none = G := by rw [hG]; rfl
    unfold m_Deal___init__ mDefK
    rw [if_pos (show [D.loc h.length, D.loc s, D.int i].length = 3 from rfl), ea]
    simp only [b_Deal___init__, v_sSeq, c1, c2, c3, c4, c5, c6, c7, v_sNil, SR.andThen_next]
  · rw [hR4, List.getElem?_append_right (by omega)]
    have : h.length + 5 - h.length = 5 := by omega
    rw [this]
    rfl
end
end My
namespace My
open PySem AB L2
section
variable {h : AH} {s d k v w q n x t wr : Nat} {f b : Int} {ds : KD}
theorem set0 {α : Type} {l : List α} {m : Nat} {y : α} (hm : 0 < m) : (l.set m y)[0]? = l[0]? := List.getElem?_set_ne (by omega)
theorem app0 {α : Type} {l r : List α} (hl : 0 < l.length) : (l ++ r)[0]? = l[0]? := List.getElem?_append_left hl
theorem begin_ok (S : St h s d k v w q n f 0 []) : ∃ h' x wr t, m_Store_begin [.loc s] h = .ok (.loc x) h' ∧ St h' s d k v w q n f 1 [(.inl 1, .loc x)] ∧ h'[x]? = some (.ins "Deal" (dealF s t wr 1 false)) ∧ h'[wr]? = some (.dct []) ∧ wr ≠ q ∧ h'[0]? = h[0]? ∧ 0 < x := by
  have hl := lt_of_get S.ins
  obtain ⟨p1, p2, p3, p4, p5, p6⟩ := S.pos
  obtain ⟨h1, hh1⟩ : ∃ h1, h1 = h.set s (.ins "Store" (storeF d w q f 1)) := ⟨_, rfl⟩
  have S1 := S.setS 1
  rw [← hh1] at S1
  have l1 : h1.length = h.length := by rw [hh1, List.length_set]
  obtain ⟨t, wr, r, e1, e2, e3⟩ := deal_init S1 1
  obtain ⟨h2, hh2⟩ : ∃ h2, h2 = h1 ++ AO.ins "Deal" (dealF s t wr 1 false) :: r := ⟨_, rfl⟩
  have S2 := S1.app (AO.ins "Deal" (dealF s t wr 1 false) :: r)
  rw [← hh2] at e1 e2 S2
  have g2 : h2[h1.length]? = some (.ins "Deal" (dealF s t wr 1 false)) := by rw [hh2]; exact get_at
  have hq : q < h.length := lt_of_get S.dls
  have S3 := S2.setQ [(.inl 1, .loc h1.length)]
  have c1 : sFldA (fun i j => i + j) ["Store"] "begun" (mV 0) (mC (.int 1)) [some (.loc s), none] h = .next [some (.loc s), none] h1 := by
    rw [hh1]
    simp [S.ins]
  have c2 : (mMake "Deal" m_Deal___init__ (aCons (mV 0) (aCons (mFld ["Store"] "begun" (mV 0)) aNil))) [some (.loc s), none] h1 = .ok (.loc h1.length) h2 := by
    simp [S1.ins, e1]
  have c3 : sDPutM (mFld ["Store"] "deals" (mV 0)) (mFld ["Store"] "begun" (mV 0)) (mV 1) [some (.loc s), some (.loc h1.length)] h2 = .next [some (.loc s), some (.loc h1.length)] (h2.set q (.dct [(.inl 1, .loc h1.length)])) := by
    unfold sDPutM
    have b1 : 0 < big := by decide
    simp [S2.ins, S2.dls, b1, putKD]
  refine ⟨h2.set q (.dct [(.inl 1, .loc h1.length)]), h1.length, wr, t, ?_, S3, g_set g2 (by omega), g_set e2 (by omega), by omega, ?_, by omega⟩
  · simp only [m_Store_begin, mDefK, b_Store_begin, v_sSeq, v_sSet, c1, c2, c3, v_sRet, v_mV, List.getElem?_cons_succ, List.getElem?_cons_zero, List.length_cons, List.length_nil, List.map_cons, List.map_nil, if_true, Nat.zero_add, Nat.reduceSub, List.replicate_succ, List.replicate_zero, List.cons_append, List.nil_append, Res.toS_ok, SR.andThen_next, SR.andThen_ret, List.set_cons_succ, List.set_cons_zero]
  · rw [set0 p6, hh2, app0 (by omega), hh1, set0 p1]
theorem check_ok {fs : List (Str × D)} (g : h[x]? = some (.ins "Deal" (dealF s t wr 1 false))) : m_Deal_check [.loc x] h = .ok .non h := by
  simp [m_Deal_check, mDefK, b_Deal_check, g]
theorem leave_ok (S : St h s d k v w q n f b [(.inl 1, .loc x)]) (g : h[x]? = some (.ins "Deal" (dealF s t wr 1 false))) : m_Deal_leave [.loc x] h = .ok .non ((h.set x (.ins "Deal" (dealF s t wr 1 true))).set q (.dct [])) := by
  have hl := lt_of_get g
  obtain ⟨h1, hh1⟩ : ∃ h1, h1 = h.set x (.ins "Deal" (dealF s t wr 1 true)) := ⟨_, rfl⟩
  have S1 := S.setG (gs := dealF s t wr 1 true) g
  have g1 : h1[x]? = some (.ins "Deal" (dealF s t wr 1 true)) := by rw [hh1]; exact List.getElem?_set_self hl
  rw [← hh1] at S1 ⊢
  have c0 := check_ok (fs := []) g
  have c1 : (mMeth [("Deal", m_Deal_check)] "check" (mV 0) aNil) [some (.loc x)] h = .ok .non h := by simp [g, c0]
  have c2 : sFldM ["Deal"] "is_over" (mV 0) (mC (.bl true)) [some (.loc x)] h = .next [some (.loc x)] h1 := by
    rw [hh1]
    simp [g]
  have c3 : (mDPop1 (mFld ["Store"] "deals" (mFld ["Deal"] "store" (mV 0))) (mFld ["Deal"] "number" (mV 0))) [some (.loc x)] h1 = .ok (.loc x) (h1.set q (.dct [])) := by
    unfold mDPop1
    simp [g1, S1.ins, S1.dls, dct_at S1.dls, valD, dropKD]
  simp only [m_Deal_leave, mDefK, b_Deal_leave, v_sSeq, v_sExpr, c1, c2, c3, v_sNil, List.length_cons, List.length_nil, List.map_cons, List.map_nil, if_true, Nat.sub_self, List.replicate_zero, List.append_nil, Nat.zero_add, Res.toS_ok, SR.andThen_next]
theorem commit_ok (S : St h s d k v w q n f b [(.inl 1, .loc x)]) (g : h[x]? = some (.ins "Deal" (dealF s t wr 1 false))) (ew : h[wr]? = some (.dct [])) (hx : 0 < x) : ∃ h', m_Deal_commit [.loc x] h = .ok (.bl true) h' ∧ St h' s d k v w q n f b [] ∧ h'[0]? = h[0]? := by
  have xw : x ≠ wr := at_ne g ew (by simp)
  have c0 := check_ok (fs := []) g
  have c1 : (mMeth [("Deal", m_Deal_check)] "check" (mV 0) aNil) [some (.loc x), none] h = .ok .non h := by simp [g, c0]
  have c2 : (lCompD (.nm 1) [1] (mFld ["Disk", "Deal"] "writes" (mV 0)) tYesM (mOp2 cGt (mDGet2 (mFld ["Store"] "written" (mFld ["Deal"] "store" (mV 0))) (mV 1) (mC (.int 0))) (mFld ["Deal"] "count" (mV 0)))) [some (.loc x), none] h = .ok [] h := by
    refine lcD_nil (n := wr) ?_ ew ?_
    · simp [g]
    · simp [g_set g (Ne.symm xw)]
  have c3 : (sIf (tOf (mN fAny (aCons (mL (lCompD (.nm 1) [1] (mFld ["Disk", "Deal"] "writes" (mV 0)) tYesM (mOp2 cGt (mDGet2 (mFld ["Store"] "written" (mFld ["Deal"] "store" (mV 0))) (mV 1) (mC (.int 0))) (mFld ["Deal"] "count" (mV 0))))) aNil))) (sSeq (sExpr (mMeth [("Deal", m_Deal_leave)] "leave" (mV 0) aNil)) (sSeq (sRet (mC (.bl false))) sNil)) sNil) [some (.loc x), none] h = .next [some (.loc x), none] h := by
    have ca : fAny [.lst []] h = .ok (.bl false) h := rfl
    simp only [v_sIf, v_tOf, v_mN, v_aCons, v_aNil, v_mL, c2, Res.bind_ok, ca, v_truB, Res.toS_ok, Bool.false_eq_true, if_false, v_sNil]
  have c4 : (sIf (tBl (mOp2 cGt (mN fLenD (aCons (mFld ["Disk", "Deal"] "writes" (mV 0)) aNil)) (mC (.int 0)))) sNever sNil) [some (.loc x), none] h = .next [some (.loc x), none] h := by
    simp [g, dct_at ew]
  have l1 := leave_ok S g
  have c5 : (mMeth [("Deal", m_Deal_leave)] "leave" (mV 0) aNil) [some (.loc x), none] h = .ok .non ((h.set x (.ins "Deal" (dealF s t wr 1 true))).set q (.dct [])) := by simp [g, l1]
  refine ⟨_, ?_, (S.setG (gs := dealF s t wr 1 true) g).setQ [], ?_⟩
  · simp only [m_Deal_commit, mDefK, b_Deal_commit, v_sSeq, v_sExpr, c1, c3, c4, c5, v_sRet, v_mC, List.length_cons, List.length_nil, List.map_cons, List.map_nil, if_true, Nat.zero_add, Nat.reduceSub, List.replicate_succ, List.replicate_zero, List.cons_append, List.nil_append, Res.toS_ok, SR.andThen_next, SR.andThen_ret]
  · rw [set0 S.pos.2.2.2.2.2, set0 hx]
end
end My
namespace My
open PySem AB L2
section
variable {h : AH} {s d k v w q n x t wr bk : Nat} {f b : Int} {ds : KD}
theorem frK_two (h4 : 4 ≤ n) : ∃ rest, (frK n).map hvD = z3 :: .tup [] :: rest := by
  rw [fresh_tup h4]
  obtain ⟨m, rfl⟩ : ∃ m, n = m + 2 := ⟨n - 2, by omega⟩
  exact ⟨List.replicate m (.tup []), by rw [show m + 2 - 1 = m + 1 from rfl, List.replicate_succ]⟩
theorem pairs_nil (e : h[bk]? = some (.dct [])) : m__law_pairs [.loc bk] h = .ok [] h := by
  have c1 : (lCompD (.nm 1) [1] (mV 0) tYesM (mN fTup (aCons (mV 1) (aCons (mOp2 fDGet (mV 0) (mV 1)) aNil)))) [some (.loc bk), none] h = .ok [] h := lcD_nil (n := bk) rfl e rfl
  have c2 : fSorted [.lst []] h = .ok [] h := by
    show (match toPs [] with | some ps => if sortB ps = true then Res.ok (sortD [] ps) h else .stuck | none => .stuck) = _
    simp [toPs, sortB_nil, sortD]
  have eb : b__law_pairs [some (.loc bk), none] h = .ret (.loc h.length) (h ++ [.lst []]) := by
    simp only [b__law_pairs, v_sSeq, v_sRet, v_mNew, v_lN, v_aCons, v_aNil, v_mL, c1, Res.bind_ok, c2, Res.toS_ok, SR.andThen_ret]
  have fin := finL_new h [] (by simp [underL])
  simp [m__law_pairs, mDefL, eb, fin]
theorem head_ok (h4 : 4 ≤ n) : m__law_head [.tup ((frK n).map hvD)] h = .ok z3 h := by
  obtain ⟨rest, er⟩ := frK_two h4
  rw [er]
  have c : okR (2 : Int) := ⟨by decide, by decide⟩
  have er2 : rangeD 0 2 = [.int 0, .int 1] := rfl
  have e2 : b__law_head [some (.tup (z3 :: .tup [] :: rest)), none, none, none] h = .ret z3 h := by
    simp [b__law_head, c, er2, forGo, Still, asg, z3, fNotN, fIsN]
  simp [m__law_head, mDef, e2]
theorem stored_ok (h4 : 4 ≤ n) : m__law_stored [.tup ((frK n).map hvD), .int f] h = .ok (.tup [.int 0, .lst [], .tup []]) h := by
  have c1 := head_ok (h := h) h4
  have eb : b__law_stored [some (.tup ((frK n).map hvD)), some (.int f), none, none] h = .ret (.tup [.int 0, .lst [], .tup []]) h := by
    have b3 : (3 : Nat) ≤ big := by decide
    simp [b__law_stored, c1, z3, fIsN, b3]
  simp [m__law_stored, mDef, eb]
theorem number_ok (i : Int) : m__law_number [.int i, .int i] h = .ok (.bl true) h := by
  simp [m__law_number, mDef, b__law_number, Ty.sub]
theorem flag_ok (i : Bool) : m__law_flag [.bl i, .bl i] h = .ok (.bl true) h := by
  cases i <;> simp [m__law_flag, mDef, b__law_flag, Ty.sub, fEq, okP, toPh, toP, SeqAt.shaped, PyData.eqv, PyData.canLay0, PyData.depth]
end
end My
namespace My
open PySem AB L2
section
variable {h : AH} {s d k v w q n x t wr bk : Nat} {f b : Int} {ds : KD}
theorem ne_tnil : fNe (.tup []) (.tup []) h = .ok (.bl false) h := by
  simp [fNe, okP, toPh, toP, toPs, SeqAt.shaped, PyData.eqv, PyData.canLay0, PyData.canLayAll0, PyData.depth, PyData.depthAll, PyData.eqvAll]
theorem eq_tnil : fEq (.tup []) (.tup []) h = .ok (.bl true) h := by
  simp [fEq, okP, toPh, toP, toPs, SeqAt.shaped, PyData.eqv, PyData.canLay0, PyData.canLayAll0, PyData.depth, PyData.depthAll, PyData.eqvAll]
theorem ne_pair : fNe (.tup [.int 0, .lst []]) (.tup [.int 0, .lst []]) h = .ok (.bl false) h := by
  simp [fNe, okP, toPh, toP, toPs, SeqAt.shaped, PyData.eqv, PyData.canLay0, PyData.canLayAll0, PyData.depth, PyData.depthAll, PyData.eqvAll]
theorem ne_onil {m : Nat} (e : h[m]? = some (.lst [])) : fNe (.loc m) (.lst []) h = .ok (.bl false) h := by
  have : toPh h (.loc m) = some (.list []) := by
    show (match h[m]? with | some (.lst ds) => (toPs ds).map PyData.list | _ => none) = _
    rw [e]
    rfl
  unfold fNe okP
  rw [this]
  simp [toPh, toP, toPs, SeqAt.shaped, PyData.eqv, PyData.canLay0, PyData.canLayAll0, PyData.depth, PyData.depthAll, PyData.eqvAll]
theorem nowM (S : St h s d k v w q n f b ds) {G : AB.Env} (e0 : G[0]? = some (some (.loc s))) : (mMeth [("Disk", m_Disk_now)] "now" (mMeth [("Store", m_Store_disk)] "disk" (mV 0) aNil) aNil) G h = .ok (.tup ((frK n).map hvD)) (h ++ [.lst ((frK n).map hvD)]) := by
  simp [e0, S.ins, S.dsk, disk_ok S, now_ok S]
theorem shows_ok (S : St h s d k v w q n f b ds) (eb : h[bk]? = some (.dct [])) : m__law_shows [.loc s, .int f, .int 0, .loc bk] h = .ok (.bl true) h := by
  obtain ⟨n4, n64⟩ := S.n4
  obtain ⟨h1, hh1⟩ : ∃ h1, h1 = h ++ [AO.lst ((frK n).map hvD)] := ⟨_, rfl⟩
  have S1 := S.app [AO.lst ((frK n).map hvD)]
  have eb1 := g_app (t := [AO.lst ((frK n).map hvD)]) eb
  rw [← hh1] at S1 eb1
  have c4 := nowM S (G := [some (.loc s), some (.int f), some (.int 0), some (.loc bk), none, none, none, none]) rfl
  rw [← hh1] at c4
  have c5 := stored_ok (h := h1) (f := f) n4
  have c6 := pairs_nil eb1
  obtain ⟨t2, m, c7, c8, c9⟩ := told_ok S1
  have S2 := S1.app t2
  obtain ⟨h2, hh2⟩ : ∃ h2, h2 = h1 ++ t2 := ⟨_, rfl⟩
  rw [← hh2] at c7 c8 S2
  obtain ⟨t3, c10⟩ := pages_ok S2
  have S3 := S2.app t3
  obtain ⟨h3, hh3⟩ : ∃ h3, h3 = h2 ++ t3 := ⟨_, rfl⟩
  rw [← hh3] at c10 S3
  obtain ⟨t4, c11⟩ := pages_ok S3
  obtain ⟨own, hown⟩ : ∃ own, own = D.tup [.int 0, .lst [], .tup []] := ⟨_, rfl⟩
  obtain ⟨dn, hdn⟩ : ∃ dn, dn = D.tup ((frK n).map hvD) := ⟨_, rfl⟩
  have i1 : (sIf (tOrM (tBl (mOp2 fIsN (mV 5) (mC .non))) (tOrM (tBl (mOp2 fNe (mSl (mV 5) oNone (oSome (mC (.int 2)))) (mN fTup (aCons (mV 2) (aCons (mV 6) aNil))))) (tOrM (tBl (mOp2 fNe (mMeth [("Disk", m_Disk_waiting)] "waiting" (mMeth [("Store", m_Store_disk)] "disk" (mV 0) aNil) aNil) (mN fTup aNil))) (tBl (mOp2 fNe (mMeth [("Disk", m_Disk_settled)] "settled" (mMeth [("Store", m_Store_disk)] "disk" (mV 0) aNil) aNil) (mV 4)))))) (sSeq (sRet (mC (.bl false))) sNil) sNil) [some (.loc s), some (.int f), some (.int 0), some (.loc bk), some dn, some own, some (.lst []), none] h1 = .next [some (.loc s), some (.int f), some (.int 0), some (.loc bk), some dn, some own, some (.lst []), none] h1 := by
    have a1 : (mSl (mV 5) oNone (oSome (mC (.int 2)))) [some (.loc s), some (.int f), some (.int 0), some (.loc bk), some dn, some own, some (.lst []), none] h1 = .ok (.tup [.int 0, .lst []]) h1 := by
      rw [hown]
      simp [cutD]
      rfl
    have a2 : (mMeth [("Disk", m_Disk_waiting)] "waiting" (mMeth [("Store", m_Store_disk)] "disk" (mV 0) aNil) aNil) [some (.loc s), some (.int f), some (.int 0), some (.loc bk), some dn, some own, some (.lst []), none] h1 = .ok (.tup []) h1 := by
      simp [S1.ins, S1.dsk, disk_ok S1, waiting_ok S1]
    have a3 : (mMeth [("Disk", m_Disk_settled)] "settled" (mMeth [("Store", m_Store_disk)] "disk" (mV 0) aNil) aNil) [some (.loc s), some (.int f), some (.int 0), some (.loc bk), some dn, some own, some (.lst []), none] h1 = .ok dn h1 := by
      rw [hdn]
      simp [S1.ins, S1.dsk, disk_ok S1, settled_ok S1]
    have a4 : fNe dn dn h1 = .ok (.bl false) h1 := by rw [hdn]; exact ne_hvT _
    have a5 : fIsN own .non h1 = .ok (.bl false) h1 := by rw [hown]; rfl
    have b2 : (2 : Nat) ≤ big := by decide
    simp only [v_sIf, v_tOr, v_tBl, v_mOp2, v_mV, v_mC, List.getElem?_cons_succ, List.getElem?_cons_zero, Res.bind_ok, a5, Bool.false_eq_true, if_false, a1, v_mN, v_aCons, v_aNil, v_fTup, List.length_cons, List.length_nil, Nat.zero_add, b2, if_true, ne_pair, a2, ne_tnil, a3, a4, Res.toS_ok, v_sNil, Nat.zero_le]
  have i2 : (sIf (tOrM (tNotM (tOf (mN m__law_number (aCons (mMeth [("Store", m_Store_count)] "count" (mV 0) aNil) (aCons (mV 2) aNil))))) (tOrM (tNotM (tOf (mIsiC ["Store"] .lst (mV 7)))) (tBl (mOp2 fNe (mV 7) (mV 6))))) (sSeq (sRet (mC (.bl false))) sNil) sNil) [some (.loc s), some (.int f), some (.int 0), some (.loc bk), some dn, some own, some (.lst []), some (.loc m)] h2 = .next [some (.loc s), some (.int f), some (.int 0), some (.loc bk), some dn, some own, some (.lst []), some (.loc m)] h2 := by
    have a1 : (mMeth [("Store", m_Store_count)] "count" (mV 0) aNil) [some (.loc s), some (.int f), some (.int 0), some (.loc bk), some dn, some own, some (.lst []), some (.loc m)] h2 = .ok (.int 0) h2 := by
      simp [S2.ins, count_ok S2]
    have a2 : tyDC ["Store"] h2 .lst (.loc m) = some true := by rw [v_dcO, c8]; rfl
    simp only [v_sIf, v_tOr, v_tNot, v_tOf, v_tBl, v_mOp2, v_mN, v_aCons, v_aNil, a1, v_mV, List.getElem?_cons_succ, List.getElem?_cons_zero, Res.bind_ok, number_ok, v_truB, Bool.not_true, Bool.false_eq_true, if_false, v_mIsiC, a2, ne_onil c8, Res.toS_ok, v_sNil]
  have i3 : (mAnd (mIsiC ["Store"] .tup (mMeth [("Store", m_Store_pages)] "pages" (mV 0) aNil)) (mOp2 fEq (mMeth [("Store", m_Store_pages)] "pages" (mV 0) aNil) (mOp2 fIx (mV 5) (mC (.int 2))))) [some (.loc s), some (.int f), some (.int 0), some (.loc bk), some dn, some own, some (.lst []), some (.loc m)] h2 = .ok (.bl true) (h3 ++ t4) := by
    have a1 : (mMeth [("Store", m_Store_pages)] "pages" (mV 0) aNil) [some (.loc s), some (.int f), some (.int 0), some (.loc bk), some dn, some own, some (.lst []), some (.loc m)] h2 = .ok (.tup []) h3 := by simp [S2.ins, c10]
    have a2 : (mMeth [("Store", m_Store_pages)] "pages" (mV 0) aNil) [some (.loc s), some (.int f), some (.int 0), some (.loc bk), some dn, some own, some (.lst []), some (.loc m)] h3 = .ok (.tup []) (h3 ++ t4) := by simp [S3.ins, c11]
    have a3 : (mOp2 fIx (mV 5) (mC (.int 2))) [some (.loc s), some (.int f), some (.int 0), some (.loc bk), some dn, some own, some (.lst []), some (.loc m)] (h3 ++ t4) = .ok (.tup []) (h3 ++ t4) := by
      rw [hown]
      simp
    have a4 : tyDC ["Store"] h3 .tup (.tup []) = some true := rfl
    simp only [v_mAnd, v_mIsiC, a1, Res.bind_ok, a4, v_truB]
    rw [v_mOp2, a2]
    simp only [Res.bind_ok, a3, eq_tnil]
  have e7 : (mMeth [("Store", m_Store_told_pairs)] "told_pairs" (mV 0) aNil) [some (.loc s), some (.int f), some (.int 0), some (.loc bk), some dn, some own, some (.lst []), none] h1 = .ok (.loc m) h2 := by simp [S1.ins, c7]
  rw [← hdn] at c4 c5
  rw [← hown] at c5
  have e5 : (mN m__law_stored (aCons (mV 4) (aCons (mV 1) aNil))) [some (.loc s), some (.int f), some (.int 0), some (.loc bk), some dn, none, none, none] h1 = .ok own h1 := by simp [c5]
  have e6 : (mL (lN m__law_pairs (aCons (mV 3) aNil))) [some (.loc s), some (.int f), some (.int 0), some (.loc bk), some dn, some own, none, none] h1 = .ok (.lst []) h1 := by simp [c6]
  have eb : b__law_shows [some (.loc s), some (.int f), some (.int 0), some (.loc bk), none, none, none, none] h = .ret (.bl true) (h3 ++ t4) := by
    simp only [b__law_shows, v_sSeq, v_sSet, c4, e5, e6, e7, i1, i2, v_sRet, i3, Res.toS_ok, List.set_cons_succ, List.set_cons_zero, SR.andThen_next, SR.andThen_ret]
  have hall : h3 ++ t4 = h ++ ([AO.lst ((frK n).map hvD)] ++ t2 ++ t3 ++ t4) := by rw [hh3, hh2, hh1]; simp
  rw [hall] at eb
  have fin := finD_app h ([AO.lst ((frK n).map hvD)] ++ t2 ++ t3 ++ t4) (.bl true) (by simp [D.under])
  have em : m__law_shows [.loc s, .int f, .int 0, .loc bk] h = (match b__law_shows [some (.loc s), some (.int f), some (.int 0), some (.loc bk), none, none, none, none] h with
    | .next _ h1 => finD h.length h .non h1
    | .ret d h1 => finD h.length h d h1
    | .exc c fs _ h1 => finX h.length h c fs h1
    | _ => .stuck) := by
    unfold m__law_shows mDef
    rw [if_pos (show [D.loc s, .int f, .int 0, .loc bk].length = 4 from rfl)]
    rfl
  rw [em, eb]
  exact fin
end
end My
namespace My
open PySem AB L2
/-! things some thirty deep -/
structure Fine (h : AH) (x : D) : Prop where
  n : Nice h x
  c : NotCR x
section
variable {h tl : AH} {P P' : AO} {cs : List Int} {x : D}
theorem Fine.app (g : Fine h x) (t : AH) : Fine (h ++ t) x := ⟨g.n.app, g.c⟩
theorem Fine.hand (hP : IsP cs P) (g : Fine (P :: tl) x) : Fine (P' :: tl) x := ⟨fun n e => by
  obtain ⟨a, b, s, t, rfl, _⟩ := hP
  cases n with
  | zero =>
    rcases g.n 0 e with ⟨kvs, q⟩ | ⟨fs, q⟩
    · cases q
    · cases q
  | succ n => exact g.n (n + 1) e, g.c⟩
theorem fine_int (i : Int) : Fine h (.int i) := ⟨nice_int i, ncr_int i⟩
theorem fine_non : Fine h .non := ⟨fun n e => (by cases e), ⟨fun a => (by simp), fun ds => (by simp)⟩⟩
theorem fine_bl (b : Bool) : Fine h (.bl b) := ⟨fun n e => (by cases e), ⟨fun a => (by simp), fun ds => (by simp)⟩⟩
theorem fine_str (z : Str) : Fine h (.str z) := ⟨fun n e => (by cases e), ⟨fun a => (by simp), fun ds => (by simp)⟩⟩
theorem fine_tup (ds : List D) : Fine h (.tup ds) := ⟨fun n e => (by cases e), ⟨fun a => (by simp), fun ds => (by simp)⟩⟩
theorem fine_lst (ds : List D) : Fine h (.lst ds) := ⟨fun n e => (by cases e), ⟨fun a => (by simp), fun ds => (by simp)⟩⟩
theorem fine_dct {n : Nat} {kvs : KD} (e : h[n]? = some (.dct kvs)) : Fine h (.loc n) := ⟨fun m q => (by cases q; exact .inl ⟨kvs, e⟩), ⟨fun a => (by simp), fun ds => (by simp)⟩⟩
theorem fine_store {n : Nat} {fs : List (Str × D)} (e : h[n]? = some (.ins "Store" fs)) : Fine h (.loc n) := ⟨fun m q => (by cases q; exact .inr ⟨fs, e⟩), ⟨fun a => (by simp), fun ds => (by simp)⟩⟩
noncomputable def deepB : Ms := (sSeq (sSet 1 (mOp2 fIx (mL (lLst (aCons (mL (lLst (aCons (mV 1) aNil))) (aCons (mN fTup (aCons (mV 1) aNil)) (aCons (mDisp1 (mC (.int 0)) (mV 1)) aNil))))) (mN m__law_draw (aCons (mV 0) (aCons (mC (.int 3)) aNil))))) sNil)
theorem v_disp1 {G : AB.Env} {h : AH} {k v : Me} : mDisp1 k v G h = (k G h).noX.bind fun j h1 => (v G h1).noX.bind fun x h2 => match toKey j with
  | some kk => .ok (.loc h2.length) (h2 ++ [.dct [(kk, x)]])
  | none => .stuck := rfl
theorem idx3 {α : Type} {a b c : α} {r : Int} (h0 : 0 ≤ r) (h1 : r < 3) : ∃ y, atI [a, b, c] r = some y ∧ (y = a ∨ y = b ∨ y = c) := by
  have : r = 0 ∨ r = 1 ∨ r = 2 := by omega
  rcases this with rfl | rfl | rfl
  · exact ⟨a, by simp, .inl rfl⟩
  · exact ⟨b, by simp, .inr (.inl rfl)⟩
  · exact ⟨c, by simp, .inr (.inr rfl)⟩
theorem deep_turn (hc : ∀ c ∈ cs, 0 ≤ c) (hP : IsP cs P) (a2 : Option D) :
    ∃ y P' t', deepB [some (.loc 0), some x, a2] (P :: tl) = .next [some (.loc 0), some y, a2] (P' :: (tl ++ t')) ∧ IsP cs P' ∧ Fine (P' :: (tl ++ t')) y := by
  have b1 : (1 : Nat) ≤ big := by decide
  have b3 : (3 : Nat) ≤ big := by decide
  obtain ⟨r, P', e, hP', r0, r1⟩ := draw_ok hc hP (many := 3) (by omega) (by omega) (tl ++ [.dct [(.inl 0, x)]])
  obtain ⟨y, hy, hy2⟩ := idx3 (a := D.lst [x]) (b := D.tup [x]) (c := D.loc (tl.length + 1)) r0 r1
  refine ⟨y, P', [.dct [(.inl 0, x)]], ?_, hP', ?_⟩
  · simp [deepB, v_disp1, b1, b3, e, hy]
  · rcases hy2 with rfl | rfl | rfl
    · exact fine_lst _
    · exact fine_tup _
    · exact fine_dct (kvs := [(.inl 0, x)]) (by simp)
theorem deep_ok (hc : ∀ c ∈ cs, 0 ≤ c) (hP : IsP cs P) : ∃ y P' t', m__law_deep [.loc 0] (P :: tl) = .ok y (P' :: (tl ++ t')) ∧ IsP cs P' ∧ Fine (P' :: (tl ++ t')) y := by
  obtain ⟨r, P1, e1, hP1, r0, r1⟩ := draw_ok hc hP (many := 4) (by omega) (by omega) tl
  obtain ⟨y0, hy0, hm0⟩ := atI_some (xs := [D.non, D.int 0, D.str "a", D.tup []]) r0 (by simpa using r1)
  have f0 : Fine (P1 :: tl) y0 := by
    simp at hm0
    rcases hm0 with rfl | rfl | rfl | rfl
    · exact fine_non
    · exact fine_int _
    · exact fine_str _
    · exact fine_tup _
  obtain ⟨r2, P2, e2, hP2, q0, q1⟩ := draw_ok hc hP1 (many := 30) (by omega) (by omega) tl
  obtain ⟨m, hm⟩ : ∃ m : Nat, 1 + r2 = (m : Int) := ⟨(1 + r2).toNat, by omega⟩
  have er : rangeD 0 m = (List.range m).map fun i : Nat => D.int (i : Int) := rangeD_eq m
  have c1 : okR (m : Int) := ⟨by omega, by omega⟩
  obtain ⟨G', h', e5, y, a2, P', t', rfl, rfl, hP', f'⟩ := for_inv (p := .nm 2) (body := deepB) (all0 := (List.range m).map fun i : Nat => D.int (i : Int))
    (fun G h => ∃ y a2 P' t', G = [some (.loc 0), some y, a2] ∧ h = P' :: (tl ++ t') ∧ IsP cs P' ∧ Fine (P' :: (tl ++ t')) y)
    (fun i : Nat => D.int (i : Int)) (List.range m)
    (by
      rintro i hi G h ⟨y, a2, P', t', rfl, rfl, hP', f'⟩
      obtain ⟨y2, P3, t3, e, hP3, f3⟩ := deep_turn (x := y) (tl := tl ++ t') hc hP' (some (.int i))
      exact ⟨_, _, _, rfl, e, y2, _, P3, t' ++ t3, rfl, by rw [List.append_assoc], hP3, by rw [← List.append_assoc]; exact f3⟩)
    [some (.loc 0), some y0, none] (P2 :: tl) ⟨y0, none, P2, [], rfl, by simp, hP2, by simpa using f0.hand hP1⟩
  refine ⟨y, P', t', ?_, hP', f'⟩
  have b4 : (4 : Nat) ≤ big := by decide
  have e3 : (mOp2 fIx (mL (lLst (aCons (mC .non) (aCons (mC (.int 0)) (aCons (mC (.str "a")) (aCons (mN fTup aNil) aNil)))))) (mN m__law_draw (aCons (mV 0) (aCons (mC (.int 4)) aNil)))) [some (.loc 0), none, none] (P :: tl) = .ok y0 (P1 :: tl) := by
    simp [b4, e1, hy0]
  have ei : iRange1 (aCons (mOp2 fAdd (mC (.int 1)) (mN m__law_draw (aCons (mV 0) (aCons (mC (.int 30)) aNil)))) aNil) [some (.loc 0), some y0, none] (P1 :: tl) = .ok ((List.range m).map fun i : Nat => D.int (i : Int), none) (P2 :: tl) := by
    rw [v_range1]
    simp only [v_aCons, v_aNil, v_mOp2, v_mC, v_mN, v_mV, List.getElem?_cons_zero, Res.bind_ok, e2, v_add, hm, c1, if_true, Int.toNat_natCast, er]
  have eq : b__law_deep = (sSeq (sSet 1 (mOp2 fIx (mL (lLst (aCons (mC .non) (aCons (mC (.int 0)) (aCons (mC (.str "a")) (aCons (mN fTup aNil) aNil)))))) (mN m__law_draw (aCons (mV 0) (aCons (mC (.int 4)) aNil))))) (sSeq (sFor (.nm 2) (iRange1 (aCons (mOp2 fAdd (mC (.int 1)) (mN m__law_draw (aCons (mV 0) (aCons (mC (.int 30)) aNil)))) aNil)) deepB) (sSeq (sRet (mV 1)) sNil))) := rfl
  have eb : b__law_deep [some (.loc 0), none, none] (P :: tl) = .ret y (P' :: (tl ++ t')) := by
    rw [eq]
    simp only [v_sSeq, v_sSet, e3, Res.toS_ok, List.set_cons_succ, List.set_cons_zero, SR.andThen_next, v_sFor, ei, e5, v_sRet, v_mV, List.getElem?_cons_succ, List.getElem?_cons_zero, SR.andThen_ret]
  simp [m__law_deep, mDefK, eb]
end
end My
namespace My
open PySem AB L2
theorem sh_let : SeqAt.shaped (.str "let") = true := by decide +kernel
theorem sh_num : SeqAt.shaped (.str "number") = true := by decide +kernel
theorem sh_key : SeqAt.shaped (.str "key") = true := by decide +kernel
theorem ne_strS {z : Str} (hs : SeqAt.shaped (.str z) = true) {h : AH} : fNe (.str z) (.str z) h = .ok (.bl false) h := by
  have e : okP h (.str z) = some (.str z) := by
    unfold okP
    show (if SeqAt.shaped (PyData.str z) = true then some (PyData.str z) else none) = _
    rw [if_pos hs]
  unfold fNe
  rw [e]
  have := PySem.SeqAt.eqv_refl (.str z) (by
    have := hs
    unfold SeqAt.shaped at this
    rw [Bool.and_eq_true] at this
    exact this.1)
  simp [this]
section
variable {h tl : AH} {P P' : AO} {cs : List Int} {x : D} {s d k v w q n : Nat} {f b : Int} {ds : KD}
/-- the list of odd things -/
def odds (dc : Nat) (dp : D) (s : Nat) : List D := [.int 3, .int 4, .int 64, .int 65, .int 2, .int 7, .int 8, .int 1, .int 0, .int (-1), .bl true, .non, .str "8", .tup [.int 8], .lst [.int 4], .int 1000000000000, .loc dc, dp, .loc s]
theorem odds_fine {dc : Nat} {dp : D} {fs : List (Str × D)} {kvs : KD} (h1 : h[dc]? = some (.dct kvs)) (h2 : Fine h dp) (h3 : h[s]? = some (.ins "Store" fs)) : ∀ x ∈ odds dc dp s, Fine h x := by
  intro x hx
  simp only [odds, List.mem_cons, List.not_mem_nil, or_false] at hx
  rcases hx with rfl | rfl | rfl | rfl | rfl | rfl | rfl | rfl | rfl | rfl | rfl | rfl | rfl | rfl | rfl | rfl | rfl | rfl | rfl
  all_goals first | exact fine_int _ | exact fine_bl _ | exact fine_non | exact fine_str _ | exact fine_tup _ | exact fine_lst _ | exact fine_dct h1 | exact h2 | exact fine_store h3
noncomputable def refB : Ms := (sSeq (sSet 4 (mIf (tBl (mOp2 cGt (mN m__law_draw (aCons (mV 0) (aCons (mC (.int 3)) aNil))) (mC (.int 0)))) (mOp2 fIx (mV 2) (mN m__law_draw (aCons (mV 0) (aCons (mC (.int 19)) aNil)))) (mOp2 fAdd (mC (.int 4)) (mN m__law_draw (aCons (mV 0) (aCons (mC (.int 61)) aNil)))))) (sSeq (sSet 5 (mIf (tBl (mOp2 cGt (mN m__law_draw (aCons (mV 0) (aCons (mC (.int 3)) aNil))) (mC (.int 0)))) (mOp2 fIx (mV 2) (mN m__law_draw (aCons (mV 0) (aCons (mC (.int 19)) aNil)))) (mOp2 fAdd (mC (.int 2)) (mN m__law_draw (aCons (mV 0) (aCons (mC (.int 6)) aNil)))))) (sSeq (sSet 6 (mAnd (mN m__law_is_between (aCons (mV 4) (aCons (mC (.int 4)) (aCons (mC (.int 64)) aNil)))) (mN m__law_is_between (aCons (mV 5) (aCons (mC (.int 2)) (aCons (mC (.int 7)) aNil)))))) (sSeq (sIf (tBl (mOp2 fNe (mN m__law_word (aCons (mV 4) (aCons (mV 5) aNil))) (mOp2 fIx (mL (lLst (aCons (mC (.str "number")) (aCons (mC (.str "let")) aNil)))) (mN fInt (aCons (mV 6) aNil))))) (sSeq (sRet (mC (.bl false))) sNil) sNil) (sSeq (sSet 7 (mOp2 fIx (mOp2 fAdd (mV 2) (mL (lLst (aCons (mOp2 fPow (mC (.int 10)) (mC (.int 9))) (aCons (mOp2 fAdd (mOp2 fPow (mC (.int 10)) (mC (.int 9))) (mC (.int 1))) aNil))))) (mN m__law_draw (aCons (mV 0) (aCons (mC (.int 21)) aNil))))) (sSeq (sIf (tBl (mOp2 fNe (mN m__law_key_word (aCons (mV 1) (aCons (mV 7) aNil))) (mOp2 fIx (mL (lLst (aCons (mC (.str "key")) (aCons (mC (.str "let")) aNil)))) (mN fInt (aCons (mN m__law_is_between (aCons (mV 7) (aCons (mC (.int 0)) (aCons (mOp2 fPow (mC (.int 10)) (mC (.int 9))) aNil)))) aNil))))) (sSeq (sRet (mC (.bl false))) sNil) sNil) sNil))))))
/-- a draw of the odd things, or of a right one -/
theorem pick_ok (hc : ∀ c ∈ cs, 0 ≤ c) (hP : IsP cs P) {O : List D} (hO : O.length = 19) (fO : ∀ x ∈ O, Fine (P :: tl) x) {G : AB.Env} (e0 : G[0]? = some (some (.loc 0))) (e2 : G[2]? = some (some (.lst O))) {lo many : Int} (hm : 1 ≤ many) (hm2 : many ≤ 1000) :
    ∃ x P', (mIf (tBl (mOp2 cGt (mN m__law_draw (aCons (mV 0) (aCons (mC (.int 3)) aNil))) (mC (.int 0)))) (mOp2 fIx (mV 2) (mN m__law_draw (aCons (mV 0) (aCons (mC (.int 19)) aNil)))) (mOp2 fAdd (mC (.int lo)) (mN m__law_draw (aCons (mV 0) (aCons (mC (.int many)) aNil))))) G (P :: tl) = .ok x (P' :: tl) ∧ IsP cs P' ∧ Fine (P' :: tl) x := by
  obtain ⟨r, P1, c1, hP1, r0, r1⟩ := draw_ok hc hP (many := 3) (by omega) (by omega) tl
  have t1 : (tBl (mOp2 cGt (mN m__law_draw (aCons (mV 0) (aCons (mC (.int 3)) aNil))) (mC (.int 0)))) G (P :: tl) = .ok (decide (0 < r)) (P1 :: tl) := by
    simp [e0, c1]
  rw [v_mIf, t1]
  by_cases hr : 0 < r
  · obtain ⟨r2, P2, c2, hP2, q0, q1⟩ := draw_ok hc hP1 (many := 19) (by omega) (by omega) tl
    obtain ⟨x, hx, hm⟩ := atI_some (xs := O) q0 (by rw [hO]; exact q1)
    refine ⟨x, P2, ?_, hP2, ((fO x hm).hand hP)⟩
    simp [hr, e0, e2, c2, hx]
  · obtain ⟨r2, P2, c2, hP2, q0, q1⟩ := draw_ok hc hP1 (many := many) (by omega) (by omega) tl
    refine ⟨.int (lo + r2), P2, ?_, hP2, fine_int _⟩
    simp [hr, e0, c2]
theorem ref_turn (hc : ∀ c ∈ cs, 0 ≤ c) (hP : IsP cs P) (S : St (P :: tl) s d k v w q n f b ds) {O : List D} (hO : O.length = 19) (fO : ∀ x ∈ O, Fine (P :: tl) x) (a3 a4 a5 a6 a7 : Option D) :
    ∃ b4 b5 b6 b7 P', refB [some (.loc 0), some (.loc s), some (.lst O), a3, a4, a5, a6, a7] (P :: tl) = .next [some (.loc 0), some (.loc s), some (.lst O), a3, b4, b5, b6, b7] (P' :: tl) ∧ IsP cs P' := by
  obtain ⟨x, P1, e1, hP1, f1⟩ := pick_ok hc hP hO fO (G := [some (.loc 0), some (.loc s), some (.lst O), a3, a4, a5, a6, a7]) rfl rfl (lo := 4) (many := 61) (by omega) (by omega)
  obtain ⟨y, P2, e2, hP2, f2⟩ := pick_ok hc hP1 hO (fun x hx => (fO x hx).hand hP) (G := [some (.loc 0), some (.loc s), some (.lst O), a3, some x, a5, a6, a7]) rfl rfl (lo := 2) (many := 6) (by omega) (by omega)
  have fx := f1.hand (P' := P2) hP1
  have S2 : St (P2 :: tl) s d k v w q n f b ds := S.hand
  have e3a := law_between_D fx.n fx.c 4 64
  have e3b := law_between_D f2.n f2.c 2 7
  have e3 : (mAnd (mN m__law_is_between (aCons (mV 4) (aCons (mC (.int 4)) (aCons (mC (.int 64)) aNil)))) (mN m__law_is_between (aCons (mV 5) (aCons (mC (.int 2)) (aCons (mC (.int 7)) aNil))))) [some (.loc 0), some (.loc s), some (.lst O), a3, some x, some y, a6, a7] (P2 :: tl) = .ok (.bl (btw x 4 64 && btw y 2 7)) (P2 :: tl) := by
    cases q : btw x 4 64 with
    | true => rw [q] at e3a; simp [e3a, e3b]
    | false => rw [q] at e3a; simp [e3a]
  have e4 := word_ok fx.n fx.c f2.n f2.c
  have i1 : (sIf (tBl (mOp2 fNe (mN m__law_word (aCons (mV 4) (aCons (mV 5) aNil))) (mOp2 fIx (mL (lLst (aCons (mC (.str "number")) (aCons (mC (.str "let")) aNil)))) (mN fInt (aCons (mV 6) aNil))))) (sSeq (sRet (mC (.bl false))) sNil) sNil) [some (.loc 0), some (.loc s), some (.lst O), a3, some x, some y, some (.bl (btw x 4 64 && btw y 2 7)), a7] (P2 :: tl) = .next [some (.loc 0), some (.loc s), some (.lst O), a3, some x, some y, some (.bl (btw x 4 64 && btw y 2 7)), a7] (P2 :: tl) := by
    have b2 : (2 : Nat) ≤ big := by decide
    cases q : btw x 4 64 && btw y 2 7 with
    | true =>
      rw [q, if_pos rfl] at e4
      simp [e4, b2, ne_strS sh_let]
    | false =>
      rw [q, if_neg (by decide)] at e4
      simp [e4, b2, ne_strS sh_num]
  obtain ⟨r, P3, c5, hP3, q0, q1⟩ := draw_ok hc hP2 (many := 21) (by omega) (by omega) tl
  obtain ⟨z, hz, hzm⟩ := atI_some (xs := O ++ [D.int 1000000000, .int 1000000001]) q0 (by simp [hO]; exact q1)
  have fz : Fine (P3 :: tl) z := by
    rcases List.mem_append.mp hzm with hzm | hzm
    · exact ((fO z hzm).hand hP)
    · simp at hzm
      rcases hzm with rfl | rfl
      · exact fine_int _
      · exact fine_int _
  have S3 : St (P3 :: tl) s d k v w q n f b ds := S.hand
  have p9 : ∀ hh : AH, fPow (.int 10) (.int 9) hh = .ok (.int 1000000000) hh := fun hh => by simp
  have e5 : (mOp2 fIx (mOp2 fAdd (mV 2) (mL (lLst (aCons (mOp2 fPow (mC (.int 10)) (mC (.int 9))) (aCons (mOp2 fAdd (mOp2 fPow (mC (.int 10)) (mC (.int 9))) (mC (.int 1))) aNil))))) (mN m__law_draw (aCons (mV 0) (aCons (mC (.int 21)) aNil)))) [some (.loc 0), some (.loc s), some (.lst O), a3, some x, some y, some (.bl (btw x 4 64 && btw y 2 7)), a7] (P2 :: tl) = .ok z (P3 :: tl) := by
    have b2 : (2 : Nat) ≤ big := by decide
    have b21 : (19 + 2 : Nat) ≤ big := by decide
    simp [-v_pow, p9, b2, hO, b21, c5, hz]
  have e6 := key_word_ok S3 fz.n fz.c
  have e7 := law_between_D fz.n fz.c 0 1000000000
  have i2 : (sIf (tBl (mOp2 fNe (mN m__law_key_word (aCons (mV 1) (aCons (mV 7) aNil))) (mOp2 fIx (mL (lLst (aCons (mC (.str "key")) (aCons (mC (.str "let")) aNil)))) (mN fInt (aCons (mN m__law_is_between (aCons (mV 7) (aCons (mC (.int 0)) (aCons (mOp2 fPow (mC (.int 10)) (mC (.int 9))) aNil)))) aNil))))) (sSeq (sRet (mC (.bl false))) sNil) sNil) [some (.loc 0), some (.loc s), some (.lst O), a3, some x, some y, some (.bl (btw x 4 64 && btw y 2 7)), some z] (P3 :: tl) = .next [some (.loc 0), some (.loc s), some (.lst O), a3, some x, some y, some (.bl (btw x 4 64 && btw y 2 7)), some z] (P3 :: tl) := by
    have b2 : (2 : Nat) ≤ big := by decide
    cases q : btw z 0 1000000000 with
    | true =>
      rw [q, if_pos rfl] at e6
      rw [q] at e7
      simp [-v_pow, p9, e6, e7, b2, ne_strS sh_let]
    | false =>
      rw [q, if_neg (by decide)] at e6
      rw [q] at e7
      simp [-v_pow, p9, e6, e7, b2, ne_strS sh_key]
  refine ⟨some x, some y, some (.bl (btw x 4 64 && btw y 2 7)), some z, P3, ?_, hP3⟩
  simp only [refB, v_sSeq, v_sSet, e1, e2, e3, i1, e5, i2, Res.toS_ok, List.set_cons_succ, List.set_cons_zero, SR.andThen_next, v_sNil]
theorem refused_ok (hc : ∀ c ∈ cs, 0 ≤ c) (hP : IsP cs P) (S : St (P :: tl) s d k v w q n f b ds) :
    ∃ P' t', m__law_refused_right [.loc 0, .loc s] (P :: tl) = .ok (.bl true) (P' :: (tl ++ t')) ∧ IsP cs P' := by
  have S0 : St (P :: (tl ++ [.dct []])) s d k v w q n f b ds := S.app [.dct []]
  obtain ⟨dp, P1, t1, e1, hP1, f1⟩ := deep_ok (tl := tl ++ [.dct []]) hc hP
  have S1 : St (P1 :: ((tl ++ [.dct []]) ++ t1)) s d k v w q n f b ds := (St.app (h := P1 :: (tl ++ [AO.dct []])) S0.hand t1)
  obtain ⟨T, hT⟩ : ∃ T, T = (tl ++ [AO.dct []]) ++ t1 := ⟨_, rfl⟩
  rw [← hT] at e1 f1 S1
  have g1 : (P1 :: T)[tl.length + 1]? = some (.dct []) := by rw [hT]; simp
  have hO : (odds (tl.length + 1) dp s).length = 19 := rfl
  have fO := odds_fine g1 f1 S1.ins
  obtain ⟨O, hOd⟩ : ∃ O, O = odds (tl.length + 1) dp s := ⟨_, rfl⟩
  rw [← hOd] at hO fO
  have p12 : ∀ hh : AH, fPow (.int 10) (.int 12) hh = .ok (.int 1000000000000) hh := fun hh => by simp
  have c1 : (mL (lLst (aCons (mC (.int 3)) (aCons (mC (.int 4)) (aCons (mC (.int 64)) (aCons (mC (.int 65)) (aCons (mC (.int 2)) (aCons (mC (.int 7)) (aCons (mC (.int 8)) (aCons (mC (.int 1)) (aCons (mC (.int 0)) (aCons (mOp1 fNeg (mC (.int 1))) (aCons (mC (.bl true)) (aCons (mC .non) (aCons (mC (.str "8")) (aCons (mN fTup (aCons (mC (.int 8)) aNil)) (aCons (mL (lLst (aCons (mC (.int 4)) aNil))) (aCons (mOp2 fPow (mC (.int 10)) (mC (.int 12))) (aCons mDNew (aCons (mN m__law_deep (aCons (mV 0) aNil)) (aCons (mV 1) aNil))))))))))))))))))))) [some (.loc 0), some (.loc s), none, none, none, none, none, none] (P :: tl) = .ok (.lst O) (P1 :: T) := by
    have b1 : (1 : Nat) ≤ big := by decide
    have b19 : (19 : Nat) ≤ big := by decide
    simp [-v_pow, p12, b1, b19, e1, hOd, odds]
  have c2 : okR (6 : Int) := ⟨by decide, by decide⟩
  have er : rangeD 0 6 = (List.range 6).map fun i : Nat => D.int (i : Int) := rangeD_eq 6
  obtain ⟨G', h', e5, a3, a4, a5, a6, a7, P', rfl, rfl, hP'⟩ := for_inv (p := .nm 3) (body := refB) (all0 := (List.range 6).map fun i : Nat => D.int (i : Int))
    (fun G h => ∃ a3 a4 a5 a6 a7 P', G = [some (.loc 0), some (.loc s), some (.lst O), a3, a4, a5, a6, a7] ∧ h = P' :: T ∧ IsP cs P')
    (fun i : Nat => D.int (i : Int)) (List.range 6)
    (by
      rintro i hi G h ⟨a3, a4, a5, a6, a7, P', rfl, rfl, hP'⟩
      obtain ⟨b4, b5, b6, b7, P2, e, hP2⟩ := ref_turn hc hP' (S1.hand (P' := P')) hO (fun x hx => (fO x hx).hand hP1) (some (.int i)) a4 a5 a6 a7
      exact ⟨_, _, _, rfl, e, _, b4, b5, b6, b7, P2, rfl, rfl, hP2⟩)
    [some (.loc 0), some (.loc s), some (.lst O), none, none, none, none, none] (P1 :: T) ⟨none, none, none, none, none, P1, rfl, rfl, hP1⟩
  have ei : iRange1 (aCons (mC (.int 6)) aNil) [some (.loc 0), some (.loc s), some (.lst O), none, none, none, none, none] (P1 :: T) = .ok ((List.range 6).map fun i : Nat => D.int (i : Int), none) (P1 :: T) := by
    rw [v_range1]
    simp only [v_aCons, v_aNil, v_mC, Res.bind_ok, c2, if_true]
    show Res.ok (rangeD 0 6, none) _ = _
    rw [er]
  refine ⟨P', [.dct []] ++ t1, ?_, hP'⟩
  have hT2 : T = tl ++ ([.dct []] ++ t1) := by rw [hT]; simp
  rw [← hT2]
  have eq : b__law_refused_right = (sSeq (sSet 2 (mL (lLst (aCons (mC (.int 3)) (aCons (mC (.int 4)) (aCons (mC (.int 64)) (aCons (mC (.int 65)) (aCons (mC (.int 2)) (aCons (mC (.int 7)) (aCons (mC (.int 8)) (aCons (mC (.int 1)) (aCons (mC (.int 0)) (aCons (mOp1 fNeg (mC (.int 1))) (aCons (mC (.bl true)) (aCons (mC .non) (aCons (mC (.str "8")) (aCons (mN fTup (aCons (mC (.int 8)) aNil)) (aCons (mL (lLst (aCons (mC (.int 4)) aNil))) (aCons (mOp2 fPow (mC (.int 10)) (mC (.int 12))) (aCons mDNew (aCons (mN m__law_deep (aCons (mV 0) aNil)) (aCons (mV 1) aNil)))))))))))))))))))))) (sSeq (sFor (.nm 3) (iRange1 (aCons (mC (.int 6)) aNil)) refB) (sSeq (sRet (mC (.bl true))) sNil))) := rfl
  have eb : b__law_refused_right [some (.loc 0), some (.loc s), none, none, none, none, none, none] (P :: tl) = .ret (.bl true) (P' :: T) := by
    rw [eq]
    simp only [v_sSeq, v_sSet, c1, Res.toS_ok, List.set_cons_succ, List.set_cons_zero, SR.andThen_next, v_sFor, ei, e5, v_sRet, v_mC, SR.andThen_ret]
  simp [m__law_refused_right, mDefK, eb]
end
end My
namespace My
open PySem AB L2
/-! the turn of the law, part by part -/
noncomputable def q0 : Ms := (sSet 3 (mOp2 fIx (mL (lLst (aCons (mOp2 fAdd (mC (.int 4)) (mN m__law_draw (aCons (mV 1) (aCons (mC (.int 61)) aNil)))) (aCons (mC (.int 4)) (aCons (mC (.int 64)) aNil))))) (mN m__law_draw (aCons (mV 1) (aCons (mC (.int 3)) aNil)))))
noncomputable def q1 : Ms := (sSet 4 (mOp2 fAdd (mC (.int 2)) (mN m__law_draw (aCons (mV 1) (aCons (mC (.int 6)) aNil)))))
noncomputable def q2 : Ms := (sSet 5 (mMake "Store" m_Store___init__ (aCons (mV 3) (aCons (mV 4) aNil))))
noncomputable def q3 : Ms := (sSet 6 (mOp2 fAdd (mN fTup (aCons (mN fTup (aCons (mC (.int 0)) (aCons (mC (.int 0)) (aCons (mC (.int 0)) aNil)))) aNil)) (mOp2 fMulA (mN fTup (aCons (mN fTup aNil) aNil)) (mOp2 fSub (mV 3) (mC (.int 1))))))
noncomputable def q4 : Ms := (sSet 7 (mMeth [("Store", m_Store_disk)] "disk" (mV 5) aNil))
noncomputable def q5 : Ms := (sIf (tOrM (tBl (mOp2 fNe (mMeth [("Disk", m_Disk_now)] "now" (mV 7) aNil) (mV 6))) (tOrM (tNotM (tOf (mN m__law_shows (aCons (mV 5) (aCons (mV 4) (aCons (mC (.int 0)) (aCons mDNew aNil))))))) (tNotM (tOf (mN m__law_number (aCons (mMeth [("Store", m_Store_free)] "free" (mV 5) aNil) (aCons (mOp2 fSub (mV 3) (mC (.int 2))) aNil))))))) (sSeq (sRet (mC (.bl false))) sNil) sNil)
noncomputable def q6 : Ms := (sIf (tBl (mOp2 fNotN (mMeth [("Store", m_Store_get)] "get" (mV 5) (aCons (mOp2 fIx (mL (lLst (aCons (mC (.int 0)) (aCons (mOp2 fPow (mC (.int 10)) (mC (.int 9))) (aCons (mN m__law_draw (aCons (mV 1) (aCons (mOp2 fPow (mC (.int 10)) (mC (.int 9))) aNil))) aNil))))) (mN m__law_draw (aCons (mV 1) (aCons (mC (.int 3)) aNil)))) aNil)) (mC .non))) (sSeq (sRet (mC (.bl false))) sNil) sNil)
noncomputable def q7 : Ms := (sSet 8 (mMeth [("Store", m_Store_begin)] "begin" (mV 5) aNil))
noncomputable def q8 : Ms := (sIf (tOrM (tNotM (tOf (mN m__law_number (aCons (mMeth [("Store", m_Store_free)] "free" (mV 5) aNil) (aCons (mOp2 fSub (mV 3) (mC (.int 2))) aNil))))) (tNotM (tOf (mN m__law_flag (aCons (mMeth [("Deal", m_Deal_commit)] "commit" (mV 8) aNil) (aCons (mC (.bl true)) aNil)))))) (sSeq (sRet (mC (.bl false))) sNil) sNil)
noncomputable def q9 : Ms := (sIf (tOrM (tBl (mOp2 fNe (mMeth [("Disk", m_Disk_now)] "now" (mV 7) aNil) (mV 6))) (tOrM (tNotM (tOf (mN m__law_shows (aCons (mV 5) (aCons (mV 4) (aCons (mC (.int 0)) (aCons mDNew aNil))))))) (tNotM (tOf (mN m__law_refused_right (aCons (mV 1) (aCons (mV 5) aNil))))))) (sSeq (sRet (mC (.bl false))) sNil) sNil)
noncomputable def q10 : Ms := (sSet 9 (mMeth [("Store", m_Store_told_pairs)] "told_pairs" (mV 5) aNil))
noncomputable def q11 : Ms := (sExpr (mBM fApp (mV 9) (aCons (mC .non) aNil)))
noncomputable def q12 : Ms := (sIf (tBl (mOp2 fNe (mMeth [("Store", m_Store_told_pairs)] "told_pairs" (mV 5) aNil) (mL (lLst aNil)))) (sSeq (sRet (mC (.bl false))) sNil) sNil)
noncomputable def tB : Ms := (sSeq q0 (sSeq q1 (sSeq q2 (sSeq q3 (sSeq q4 (sSeq q5 (sSeq q6 (sSeq q7 (sSeq q8 (sSeq q9 (sSeq q10 (sSeq q11 (sSeq q12 sNil)))))))))))))
section
variable {h tl : AH} {P : AO} {cs : List Int} {s d k v w q n m x t wr : Nat} {f b : Int} {ds : KD}
theorem St_new (hl : 0 < h.length) (h4 : 4 ≤ n) (h64 : n ≤ 64) : St (h ++ storeT h n f) h.length (h.length + 1) (h.length + 2) (h.length + 3) (h.length + 4) (h.length + 5) n f 0 [] := by
  have g : ∀ (i : Nat) (o : AO), (storeT h n f)[i]? = some o → (h ++ storeT h n f)[h.length + i]? = some o := fun i o e => by
    rw [List.getElem?_append_right (by omega)]
    have : h.length + i - h.length = i := by omega
    rw [this]
    exact e
  exact ⟨g 0 _ rfl, g 1 _ rfl, g 2 _ rfl, g 3 _ rfl, g 4 _ rfl, g 5 _ rfl, ⟨h4, h64⟩, ⟨hl, by omega, by omega, by omega, by omega, by omega⟩, by omega, by omega⟩
theorem St.setL (S : St h s d k v w q n f b ds) (e : h[m]? = some (.lst [])) (o : AO) : St (h.set m o) s d k v w q n f b ds := by
  have hk : m ≠ k := at_ne e S.kept (by
    intro z
    have := congrArg (fun o => match o with | AO.lst ds => ds.length | _ => 0) z
    simp [frK] at this)
  exact ⟨g_set S.ins (at_ne e S.ins (by simp)), g_set S.dsk (at_ne e S.dsk (by simp)), g_set S.kept hk, g_set S.wr (at_ne e S.wr (by simp)), g_set S.wri (at_ne e S.wri (by simp)), g_set S.dls (at_ne e S.dls (by simp)), S.n4, S.pos, S.ne⟩
theorem head_of {P : AO} (e : h[0]? = some P) : ∃ T, h = P :: T := by
  cases h with
  | nil => cases e
  | cons x T =>
    cases e
    exact ⟨T, rfl⟩
/-- the slots of law in a turn -/
def En (k0 a2 : Option D) (n : Nat) (f : Int) (s d : Nat) (x8 x9 : Option D) : AB.Env := [k0, some (.loc 0), a2, some (.int n), some (.int f), some (.loc s), some (.tup ((frK n).map hvD)), some (.loc d), x8, x9]
section
variable {k0 a2 x8 x9 : Option D}
theorem q0_ok (hc : ∀ c ∈ cs, 0 ≤ c) (hP : IsP cs P) (a3 a4 a5 a6 a7 : Option D) : ∃ (n : Nat) (P' : AO), q0 [k0, some (.loc 0), a2, a3, a4, a5, a6, a7, x8, x9] (P :: tl) = .next [k0, some (.loc 0), a2, some (.int n), a4, a5, a6, a7, x8, x9] (P' :: tl) ∧ IsP cs P' ∧ 4 ≤ n ∧ n ≤ 64 := by
  obtain ⟨r, P1, c1, hP1, r0, r1⟩ := draw_ok hc hP (many := 61) (by omega) (by omega) tl
  obtain ⟨r2, P2, c2, hP2, q0', q1'⟩ := draw_ok hc hP1 (many := 3) (by omega) (by omega) tl
  have b3 : (3 : Nat) ≤ big := by decide
  obtain ⟨y, hy, hy2⟩ := idx3 (a := D.int (4 + r)) (b := D.int 4) (c := D.int 64) q0' q1'
  obtain ⟨n, rfl, n4, n64⟩ : ∃ n : Nat, y = .int n ∧ 4 ≤ n ∧ n ≤ 64 := by
    rcases hy2 with rfl | rfl | rfl
    · exact ⟨(4 + r).toNat, by rw [Int.toNat_of_nonneg (by omega)], by omega, by omega⟩
    · exact ⟨4, rfl, by omega, by omega⟩
    · exact ⟨64, rfl, by omega, by omega⟩
  refine ⟨n, P2, ?_, hP2, n4, n64⟩
  simp [q0, c1, b3, c2, hy]
theorem q1_ok (hc : ∀ c ∈ cs, 0 ≤ c) (hP : IsP cs P) (a3 a4 a5 a6 a7 : Option D) : ∃ (f : Int) (P' : AO), q1 [k0, some (.loc 0), a2, a3, a4, a5, a6, a7, x8, x9] (P :: tl) = .next [k0, some (.loc 0), a2, a3, some (.int f), a5, a6, a7, x8, x9] (P' :: tl) ∧ IsP cs P' ∧ btw (.int f) 2 7 = true := by
  obtain ⟨r, P1, c1, hP1, r0, r1⟩ := draw_ok hc hP (many := 6) (by omega) (by omega) tl
  refine ⟨2 + r, P1, ?_, hP1, ?_⟩
  · simp [q1, c1]
  · simp [btw, toI]
    omega
theorem q2_ok (h4 : 4 ≤ n) (h64 : n ≤ 64) (hf : btw (.int f) 2 7 = true) (a5 a6 a7 : Option D) : q2 [k0, some (.loc 0), a2, some (.int n), some (.int f), a5, a6, a7, x8, x9] h = .next [k0, some (.loc 0), a2, some (.int n), some (.int f), some (.loc h.length), a6, a7, x8, x9] (h ++ storeT h n f) := by
  have := store_init (h := h) h4 h64 hf
  simp [q2, this]
theorem q3_ok (h4 : 4 ≤ n) (h64 : n ≤ 64) (a5 a6 a7 : Option D) : q3 [k0, some (.loc 0), a2, some (.int n), some (.int f), a5, a6, a7, x8, x9] h = .next [k0, some (.loc 0), a2, some (.int n), some (.int f), a5, some (.tup ((frK n).map hvD)), a7, x8, x9] h := by
  have := frM_ok (G := [k0, some (.loc 0), a2, some (.int n), some (.int f), a5, a6, a7, x8, x9]) (i := 3) rfl h4 h64 h
  have eq : q3 = sSet 6 (frM 3) := rfl
  rw [eq, v_sSet, this]
  rfl
theorem q4_ok (S : St h s d k v w q n f b ds) (a7 : Option D) : q4 [k0, some (.loc 0), a2, some (.int n), some (.int f), some (.loc s), some (.tup ((frK n).map hvD)), a7, x8, x9] h = .next (En k0 a2 n f s d x8 x9) h := by
  simp [q4, S.ins, disk_ok S, En]
theorem en0 : (En k0 a2 n f s d x8 x9)[5]? = some (some (.loc s)) := rfl
theorem en7 : (En k0 a2 n f s d x8 x9)[7]? = some (some (.loc d)) := rfl
theorem en6 : (En k0 a2 n f s d x8 x9)[6]? = some (some (.tup ((frK n).map hvD))) := rfl
theorem en4 : (En k0 a2 n f s d x8 x9)[4]? = some (some (.int f)) := rfl
theorem en3 : (En k0 a2 n f s d x8 x9)[3]? = some (some (.int n)) := rfl
theorem en1 : (En k0 a2 n f s d x8 x9)[1]? = some (some (.loc 0)) := rfl
theorem en8 : (En k0 a2 n f s d x8 x9)[8]? = some x8 := rfl
theorem en9 : (En k0 a2 n f s d x8 x9)[9]? = some x9 := rfl
theorem now_M (S : St h s d k v w q n f b ds) : (mMeth [("Disk", m_Disk_now)] "now" (mV 7) aNil) (En k0 a2 n f s d x8 x9) h = .ok (.tup ((frK n).map hvD)) (h ++ [.lst ((frK n).map hvD)]) := by
  simp only [v_mMeth, v_mV, en7, Res.bind_ok, S.dsk, lookup_self, df3, v_aNil, now_ok S]
theorem shows_M (S : St h s d k v w q n f b ds) : (mN m__law_shows (aCons (mV 5) (aCons (mV 4) (aCons (mC (.int 0)) (aCons mDNew aNil))))) (En k0 a2 n f s d x8 x9) h = .ok (.bl true) (h ++ [.dct []]) := by
  have S1 := S.app [.dct []]
  have := shows_ok S1 (bk := h.length) g_new
  simp only [v_mN, v_aCons, v_aNil, v_mV, v_mC, v_mDNew, en0, en4, Res.bind_ok, this]
theorem free_M (S : St h s d k v w q n f b ds) (Dl : Deals h ds) : ∃ t, (mN m__law_number (aCons (mMeth [("Store", m_Store_free)] "free" (mV 5) aNil) (aCons (mOp2 fSub (mV 3) (mC (.int 2))) aNil))) (En k0 a2 n f s d x8 x9) h = .ok (.bl true) (h ++ t) := by
  obtain ⟨t, e⟩ := free_ok S Dl
  refine ⟨t, ?_⟩
  have e1 : (mMeth [("Store", m_Store_free)] "free" (mV 5) aNil) (En k0 a2 n f s d x8 x9) h = .ok (.int ((n : Int) - 2)) (h ++ t) := by
    simp only [v_mMeth, v_mV, en0, Res.bind_ok, S.ins, lookup_self, sf14, v_aNil, e]
  simp only [v_mN, v_aCons, v_aNil, e1, v_mOp2, v_mV, v_mC, en3, Res.bind_ok, v_sub, number_ok]
theorem told_M (S : St h s d k v w q n f b ds) : ∃ t m, (mMeth [("Store", m_Store_told_pairs)] "told_pairs" (mV 5) aNil) (En k0 a2 n f s d x8 x9) h = .ok (.loc m) (h ++ t) ∧ (h ++ t)[m]? = some (.lst []) ∧ h.length ≤ m := by
  obtain ⟨t, m, e1, e2, e3⟩ := told_ok S
  refine ⟨t, m, ?_, e2, e3⟩
  simp only [v_mMeth, v_mV, en0, Res.bind_ok, S.ins, lookup_self, sf10, v_aNil, e1]
theorem q5_ok (S : St h s d k v w q n f b ds) (Dl : Deals h ds) : ∃ t, q5 (En k0 a2 n f s d x8 x9) h = .next (En k0 a2 n f s d x8 x9) (h ++ t) := by
  have S1 := S.app [.lst ((frK n).map hvD)]
  have D1 := Dl.app [.lst ((frK n).map hvD)]
  have c2 := shows_M (k0 := k0) (a2 := a2) (x8 := x8) (x9 := x9) S1
  have S2 := S1.app [.dct []]
  have D2 := D1.app [.dct []]
  obtain ⟨t, c3⟩ := free_M (k0 := k0) (a2 := a2) (x8 := x8) (x9 := x9) S2 D2
  refine ⟨[.lst ((frK n).map hvD)] ++ [.dct []] ++ t, ?_⟩
  simp only [q5, v_sIf, v_tOr, v_tNot, v_tOf, v_tBl, v_mOp2, now_M S, v_mV, en6, Res.bind_ok, ne_hvT, Bool.false_eq_true, if_false, c2, v_truB, Bool.not_true, c3, Res.toS_ok, v_sNil]
  simp only [List.append_assoc]
theorem q6_ok (hc : ∀ c ∈ cs, 0 ≤ c) (hP : IsP cs P) (S : St (P :: tl) s d k v w q n f b ds) : ∃ P' t, q6 (En k0 a2 n f s d x8 x9) (P :: tl) = .next (En k0 a2 n f s d x8 x9) (P' :: (tl ++ t)) ∧ IsP cs P' := by
  obtain ⟨r, P1, c1, hP1, r0, r1⟩ := draw_ok hc hP (many := 1000000000) (by omega) (by omega) tl
  obtain ⟨r2, P2, c2, hP2, q0', q1'⟩ := draw_ok hc hP1 (many := 3) (by omega) (by omega) tl
  have b3 : (3 : Nat) ≤ big := by decide
  obtain ⟨y, hy, hy2⟩ := idx3 (a := D.int 0) (b := D.int 1000000000) (c := D.int r) q0' q1'
  have S2 : St (P2 :: tl) s d k v w q n f b ds := S.hand
  have yb : btw y 0 1000000000 = true ∧ Fine (P2 :: tl) y := by
    rcases hy2 with rfl | rfl | rfl
    · exact ⟨by decide, fine_int _⟩
    · exact ⟨by decide, fine_int _⟩
    · refine ⟨?_, fine_int _⟩
      simp [btw, toI]
      omega
  obtain ⟨t, c3⟩ := get_ok S2 yb.2.n yb.2.c yb.1
  refine ⟨P2, t, ?_, hP2⟩
  have p9 : ∀ hh : AH, fPow (.int 10) (.int 9) hh = .ok (.int 1000000000) hh := fun hh => by simp
  have c4 : (aCons (mOp2 fIx (mL (lLst (aCons (mC (.int 0)) (aCons (mOp2 fPow (mC (.int 10)) (mC (.int 9))) (aCons (mN m__law_draw (aCons (mV 1) (aCons (mOp2 fPow (mC (.int 10)) (mC (.int 9))) aNil))) aNil))))) (mN m__law_draw (aCons (mV 1) (aCons (mC (.int 3)) aNil)))) aNil) (En k0 a2 n f s d x8 x9) (P :: tl) = .ok [y] (P2 :: tl) := by
    simp only [v_aCons, v_aNil, v_mOp2, v_mL, v_lLst, v_mC, v_mN, v_mV, en1, Res.bind_ok, p9, c1, List.length_cons, List.length_nil, Nat.zero_add, b3, if_true, c2, v_ix, v_vSl, hy, Nat.reduceAdd]
  have c5 : (mMeth [("Store", m_Store_get)] "get" (mV 5) (aCons (mOp2 fIx (mL (lLst (aCons (mC (.int 0)) (aCons (mOp2 fPow (mC (.int 10)) (mC (.int 9))) (aCons (mN m__law_draw (aCons (mV 1) (aCons (mOp2 fPow (mC (.int 10)) (mC (.int 9))) aNil))) aNil))))) (mN m__law_draw (aCons (mV 1) (aCons (mC (.int 3)) aNil)))) aNil)) (En k0 a2 n f s d x8 x9) (P :: tl) = .ok .non (P2 :: (tl ++ t)) := by
    rw [v_mMeth]
    simp only [v_mV, en0, Res.bind_ok, S.ins, lookup_self, sf11, c4, c3]
    rfl
  have nn : ∀ hh : AH, fNotN .non .non hh = .ok (.bl false) hh := fun hh => rfl
  simp only [q6, v_sIf, v_tBl, v_mOp2, c5, v_mC, Res.bind_ok, nn, Res.toS_ok, Bool.false_eq_true, if_false, v_sNil]
theorem q7_ok (S : St h s d k v w q n f 0 []) : ∃ h' x wr t, q7 (En k0 a2 n f s d x8 x9) h = .next (En k0 a2 n f s d (some (.loc x)) x9) h' ∧ St h' s d k v w q n f 1 [(.inl 1, .loc x)] ∧ h'[x]? = some (.ins "Deal" (dealF s t wr 1 false)) ∧ h'[wr]? = some (.dct []) ∧ h'[0]? = h[0]? ∧ 0 < x := by
  obtain ⟨h', x, wr, t, e1, e2, e3, e4, _, e5, e6⟩ := begin_ok S
  refine ⟨h', x, wr, t, ?_, e2, e3, e4, e5, e6⟩
  have c : (mMeth [("Store", m_Store_begin)] "begin" (mV 5) aNil) (En k0 a2 n f s d x8 x9) h = .ok (.loc x) h' := by
    simp only [v_mMeth, v_mV, en0, Res.bind_ok, S.ins, lookup_self, sf15, v_aNil, e1]
  simp only [q7, v_sSet, c, Res.toS_ok]
  rfl
theorem q8_ok (S : St h s d k v w q n f 1 [(.inl 1, .loc x)]) (g : h[x]? = some (.ins "Deal" (dealF s t wr 1 false))) (ew : h[wr]? = some (.dct [])) (hx : 0 < x) (hl : 0 < h.length) : ∃ h', q8 (En k0 a2 n f s d (some (.loc x)) x9) h = .next (En k0 a2 n f s d (some (.loc x)) x9) h' ∧ St h' s d k v w q n f 1 [] ∧ h'[0]? = h[0]? := by
  obtain ⟨t1, c1⟩ := free_M (k0 := k0) (a2 := a2) (x8 := some (.loc x)) (x9 := x9) S (.inr ⟨x, s, t, wr, 1, false, rfl, g⟩)
  obtain ⟨h', c2, S2, c3⟩ := commit_ok (S.app t1) (g_app g) (g_app ew) hx
  refine ⟨h', ?_, S2, by rw [c3, app0 hl]⟩
  have c4 : (mMeth [("Deal", m_Deal_commit)] "commit" (mV 8) aNil) (En k0 a2 n f s d (some (.loc x)) x9) (h ++ t1) = .ok (.bl true) h' := by
    simp only [v_mMeth, v_mV, en8, Res.bind_ok, g_app g, lookup_self, gf10, v_aNil, c2]
  simp only [q8, v_sIf, v_tOr, v_tNot, v_tOf, c1, Res.bind_ok, v_truB, Bool.not_true, Bool.false_eq_true, if_false, v_mN, v_aCons, v_aNil, c4, v_mC, flag_ok, Res.toS_ok, v_sNil]
theorem q9_ok (hc : ∀ c ∈ cs, 0 ≤ c) (hP : IsP cs P) (S : St (P :: tl) s d k v w q n f b ds) : ∃ P' t, q9 (En k0 a2 n f s d x8 x9) (P :: tl) = .next (En k0 a2 n f s d x8 x9) (P' :: (tl ++ t)) ∧ IsP cs P' := by
  have S1 := S.app [.lst ((frK n).map hvD)]
  have c1 := now_M (k0 := k0) (a2 := a2) (x8 := x8) (x9 := x9) S
  have c2 := shows_M (k0 := k0) (a2 := a2) (x8 := x8) (x9 := x9) S1
  have S2 := S1.app [.dct []]
  have S3 : St (P :: (tl ++ [.lst ((frK n).map hvD)] ++ [.dct []])) s d k v w q n f b ds := S2
  obtain ⟨P', t', c3, hP'⟩ := refused_ok hc hP S3
  refine ⟨P', [.lst ((frK n).map hvD)] ++ [.dct []] ++ t', ?_, hP'⟩
  have c4 : (mN m__law_refused_right (aCons (mV 1) (aCons (mV 5) aNil))) (En k0 a2 n f s d x8 x9) (P :: tl ++ [.lst ((frK n).map hvD)] ++ [.dct []]) = .ok (.bl true) (P' :: (tl ++ [.lst ((frK n).map hvD)] ++ [.dct []] ++ t')) := by
    simp only [v_mN, v_aCons, v_aNil, v_mV, en0, en1, Res.bind_ok]
    exact c3
  simp only [q9, v_sIf, v_tOr, v_tNot, v_tOf, v_tBl, v_mOp2, c1, v_mV, en6, Res.bind_ok, ne_hvT, Bool.false_eq_true, if_false, c2, v_truB, Bool.not_true, c4, Res.toS_ok, v_sNil]
  simp only [List.append_assoc]
theorem q10_ok (S : St h s d k v w q n f b ds) : ∃ t m, q10 (En k0 a2 n f s d x8 x9) h = .next (En k0 a2 n f s d x8 (some (.loc m))) (h ++ t) ∧ (h ++ t)[m]? = some (.lst []) ∧ h.length ≤ m := by
  obtain ⟨t, m, e1, e2, e3⟩ := told_M (k0 := k0) (a2 := a2) (x8 := x8) (x9 := x9) S
  refine ⟨t, m, ?_, e2, e3⟩
  simp only [q10, v_sSet, e1, Res.toS_ok]
  rfl
theorem q11_ok (e : h[m]? = some (.lst [])) : q11 (En k0 a2 n f s d x8 (some (.loc m))) h = .next (En k0 a2 n f s d x8 (some (.loc m))) (h.set m (.lst [.non])) := by
  have b1 : 0 < big := by decide
  simp only [q11, v_sExpr, v_mBM, v_mV, en9, Res.bind_ok, v_vLo, e, v_aCons, v_aNil, v_mC, v_app, List.length_nil, b1, if_true, List.nil_append, Res.toS_ok]
theorem q12_ok (S : St h s d k v w q n f b ds) : ∃ t, q12 (En k0 a2 n f s d x8 x9) h = .next (En k0 a2 n f s d x8 x9) (h ++ t) := by
  obtain ⟨t, m, e1, e2, e3⟩ := told_M (k0 := k0) (a2 := a2) (x8 := x8) (x9 := x9) S
  refine ⟨t, ?_⟩
  have b0 : 0 ≤ big := Nat.zero_le _
  simp only [q12, v_sIf, v_tBl, v_mOp2, e1, Res.bind_ok, v_mL, v_lLst, v_aNil, List.length_nil, b0, if_true, ne_onil e2, Res.toS_ok, Bool.false_eq_true, if_false, v_sNil]
end
end
end My
namespace My
open PySem AB L2
theorem turn_ok {cs : List Int} (hc : ∀ c ∈ cs, 0 ≤ c) {P : AO} (hP : IsP cs P) (tl : AH) (k0 a2 a3 a4 a5 a6 a7 a8 a9 : Option D) :
    ∃ b3 b4 b5 b6 b7 b8 b9 P' tl', tB [k0, some (.loc 0), a2, a3, a4, a5, a6, a7, a8, a9] (P :: tl) = .next [k0, some (.loc 0), a2, b3, b4, b5, b6, b7, b8, b9] (P' :: tl') ∧ IsP cs P' := by
  obtain ⟨n, P1, e0, hP1, h4, h64⟩ := q0_ok (tl := tl) (k0 := k0) (a2 := a2) (x8 := a8) (x9 := a9) hc hP a3 a4 a5 a6 a7
  obtain ⟨f, P2, e1, hP2, hf⟩ := q1_ok (tl := tl) (k0 := k0) (a2 := a2) (x8 := a8) (x9 := a9) hc hP1 (some (.int n)) a4 a5 a6 a7
  obtain ⟨h0, hh0⟩ : ∃ h0, h0 = P2 :: tl := ⟨_, rfl⟩
  have e2 := q2_ok (h := h0) (k0 := k0) (a2 := a2) (x8 := a8) (x9 := a9) h4 h64 hf a5 a6 a7
  have l0 : 0 < h0.length := by rw [hh0]; simp
  have S := St_new (f := f) l0 h4 h64
  obtain ⟨s, hs⟩ : ∃ s, s = h0.length := ⟨_, rfl⟩
  obtain ⟨d, hd⟩ : ∃ d, d = h0.length + 1 := ⟨_, rfl⟩
  obtain ⟨h1, hh1⟩ : ∃ h1, h1 = h0 ++ storeT h0 n f := ⟨_, rfl⟩
  rw [← hh1] at e2 S
  have e3 := q3_ok (h := h1) (k0 := k0) (a2 := a2) (x8 := a8) (x9 := a9) (f := f) h4 h64 (some (.loc h0.length)) a6 a7
  have e4 := q4_ok (k0 := k0) (a2 := a2) (x8 := a8) (x9 := a9) S a7
  obtain ⟨t5, e5⟩ := q5_ok (k0 := k0) (a2 := a2) (x8 := a8) (x9 := a9) S (.inl rfl)
  have S5 := S.app t5
  have h15 : h1 ++ t5 = P2 :: (tl ++ storeT h0 n f ++ t5) := by rw [hh1, hh0]; simp
  rw [h15] at e5 S5
  obtain ⟨P6, t6, e6, hP6⟩ := q6_ok (k0 := k0) (a2 := a2) (x8 := a8) (x9 := a9) hc hP2 S5
  have S6 := (S5.hand (P' := P6)).app t6
  obtain ⟨h6, hh6⟩ : ∃ h6, h6 = P6 :: (tl ++ storeT h0 n f ++ t5 ++ t6) := ⟨_, rfl⟩
  have z6 : P6 :: (tl ++ storeT h0 n f ++ t5) ++ t6 = h6 := by rw [hh6]; rfl
  rw [z6] at S6
  rw [← hh6] at e6
  obtain ⟨h7, x, wr, t, e7, S7, g7, w7, z7, hx⟩ := q7_ok (k0 := k0) (a2 := a2) (x8 := a8) (x9 := a9) S6
  have z7 : h7[0]? = some P6 := by rw [z7, hh6]; rfl
  obtain ⟨h8, e8, S8, z8⟩ := q8_ok (k0 := k0) (a2 := a2) (x9 := a9) S7 g7 w7 hx (lt_of_get z7)
  obtain ⟨T8, rfl⟩ := head_of (z8.trans z7)
  obtain ⟨P9, t9, e9, hP9⟩ := q9_ok (k0 := k0) (a2 := a2) (x8 := some (.loc x)) (x9 := a9) hc hP6 S8
  have S9 := (S8.hand (P' := P9)).app t9
  have z9 : P9 :: T8 ++ t9 = P9 :: (T8 ++ t9) := rfl
  rw [z9] at S9
  obtain ⟨t10, m, e10, g10, l10⟩ := q10_ok (k0 := k0) (a2 := a2) (x8 := some (.loc x)) (x9 := a9) S9
  have S10 := S9.app t10
  have e11 := q11_ok (k0 := k0) (a2 := a2) (n := n) (f := f) (s := h0.length) (d := h0.length + 1) (x8 := some (.loc x)) g10
  have S11 := S10.setL g10 (.lst [.non])
  obtain ⟨t12, e12⟩ := q12_ok (k0 := k0) (a2 := a2) (x8 := some (.loc x)) (x9 := some (.loc m)) S11
  have hm : 0 < m := by
    have : (P9 :: (T8 ++ t9)).length = (T8 ++ t9).length + 1 := rfl
    omega
  obtain ⟨T12, h12⟩ : ∃ T, ((P9 :: (T8 ++ t9)) ++ t10).set m (.lst [.non]) ++ t12 = P9 :: T := by
    refine head_of ?_
    rw [List.getElem?_append_left (by simp), set0 hm]
    rfl
  rw [h12] at e12
  have hrun : tB [k0, some (.loc 0), a2, a3, a4, a5, a6, a7, a8, a9] (P :: tl) = .next (En k0 a2 n f h0.length (h0.length + 1) (some (.loc x)) (some (.loc m))) (P9 :: T12) := by
    rw [← hh0] at e1
    simp only [tB, v_sSeq, e0, SR.andThen_next, e1, e2, e3, e4, e5, e6, e7, e8, e9, e10, e11, e12, v_sNil]
  exact ⟨some (.int n), some (.int f), some (.loc h0.length), some (.tup ((frK n).map hvD)), some (.loc (h0.length + 1)), some (.loc x), some (.loc m), P9, T12, hrun, hP9⟩
theorem law_true : ∀ ns : List Int, ns.length ≤ 63 → ∃ h, m_law [.rol (ns.map D.int)] [] = .ok (.bl true) h := by
  intro ns hns
  obtain ⟨cs, hc, s, ep⟩ := hand_ok ns hns
  have hP : IsP cs (.lst [.lst (cs.map .int), .int 0, .int 0, .int s, .int 0]) := ⟨0, 0, s, 0, rfl, by omega, by omega, by omega⟩
  have er : rangeD 0 3 = (List.range 3).map fun i : Nat => D.int (i : Int) := rangeD_eq 3
  have c1 : okR (3 : Int) := ⟨by decide, by decide⟩
  obtain ⟨G', h', e5, x2, x3, x4, x5, x6, x7, x8, x9, P', tl, rfl, rfl, hP'⟩ := for_inv (p := .nm 2) (body := tB) (all0 := (List.range 3).map fun i : Nat => D.int (i : Int))
    (fun G h => ∃ x2 x3 x4 x5 x6 x7 x8 x9 P tl, G = [some (.rol (ns.map .int)), some (.loc 0), x2, x3, x4, x5, x6, x7, x8, x9] ∧ h = P :: tl ∧ IsP cs P)
    (fun i : Nat => D.int (i : Int)) (List.range 3)
    (by
      rintro i hi G h ⟨x2, x3, x4, x5, x6, x7, x8, x9, P, tl, rfl, rfl, hP⟩
      obtain ⟨y3, y4, y5, y6, y7, y8, y9, P', tl', e, hP'⟩ := turn_ok hc hP tl (some (.rol (ns.map .int))) (some (.int i)) x3 x4 x5 x6 x7 x8 x9
      exact ⟨_, _, _, rfl, e, some (.int i), y3, y4, y5, y6, y7, y8, y9, P', tl', rfl, rfl, hP'⟩)
    [some (.rol (ns.map .int)), some (.loc 0), none, none, none, none, none, none, none, none] [.lst [.lst (cs.map .int), .int 0, .int 0, .int s, .int 0]] ⟨none, none, none, none, none, none, none, none, _, [], rfl, rfl, hP⟩
  have ei : iRange1 (aCons (mC (.int 3)) aNil) [some (.rol (ns.map .int)), some (.loc 0), none, none, none, none, none, none, none, none] [.lst [.lst (cs.map .int), .int 0, .int 0, .int s, .int 0]] = .ok ((List.range 3).map fun i : Nat => D.int (i : Int), none) [.lst [.lst (cs.map .int), .int 0, .int 0, .int s, .int 0]] := by
    rw [v_range1]
    simp only [v_aCons, v_aNil, v_mC, Res.bind_ok, c1, if_true]
    show Res.ok (rangeD 0 3, none) _ = _
    rw [er]
  have e1 : (mNew (lN m__law_hand (aCons (mV 0) aNil))) [some (.rol (ns.map .int)), none, none, none, none, none, none, none, none, none] [] = .ok (.loc 0) [.lst [.lst (cs.map .int), .int 0, .int 0, .int s, .int 0]] := by
    simp only [v_mNew, v_lN, v_aCons, v_aNil, v_mV, List.getElem?_cons_zero, Res.bind_ok, ep]
    rfl
  have eb : b_law = sSeq (sSet 1 (mNew (lN m__law_hand (aCons (mV 0) aNil)))) (sSeq (sFor (.nm 2) (iRange1 (aCons (mC (.int 3)) aNil)) tB) (sSeq (sRet (mC (.bl true))) sNil)) := rfl
  have ebody : b_law [some (.rol (ns.map .int)), none, none, none, none, none, none, none, none, none] [] = .ret (.bl true) (P' :: tl) := by
    rw [eb]
    simp only [v_sSeq, v_sSet, e1, Res.toS_ok, SR.andThen_next, List.set_cons_succ, List.set_cons_zero, v_sFor, ei, e5, v_sRet, v_mC, SR.andThen_ret]
  have fin : finD 0 [] (D.bl true) (P' :: tl) = .ok (.bl true) [] := finD_app [] (P' :: tl) _ rfl
  refine ⟨[], ?_⟩
  have em : m_law [.rol (ns.map D.int)] [] = (match b_law [some (.rol (ns.map .int)), none, none, none, none, none, none, none, none, none] [] with
    | .next _ h1 => finD 0 [] .non h1
    | .ret d h1 => finD 0 [] d h1
    | .exc c fs _ h1 => finX 0 [] c fs h1
    | _ => .stuck) := by
    unfold m_law mDef
    rw [if_pos (show [D.rol (List.map D.int ns)].length = 1 from rfl)]
    rfl
  rw [em, ebody]
  exact fin
end My
namespace My
open PySem PySem.Spec PyProof.Rows L2 AB
def topS (i : Nat) : Stmt := PySem.Challenge.pw_tornsectors_k67_whole_fresh_stores.main.body.getD i (.Pass ⟨0, 0, 0, 0⟩)
structure Txt (K : PySem.W.Frag) (mg : Str → Option Value) : Prop where
  b_abs : mg "abs" = none
  b_all : mg "all" = none
  b_any : mg "any" = none
  b_bool : mg "bool" = none
  b_int : mg "int" = none
  b_isinstance : mg "isinstance" = none
  b_len : mg "len" = none
  b_list : mg "list" = none
  b_range : mg "range" = none
  b_sorted : mg "sorted" = none
  b_tuple : mg "tuple" = none
  g_HEADS : ∃ t : Tok, mg "HEADS" = some (.int 2 t)
  g_LEAST_FAN : ∃ t : Tok, mg "LEAST_FAN" = some (.int 2 t)
  g_LEAST_SECTORS : ∃ t : Tok, mg "LEAST_SECTORS" = some (.int 4 t)
  g_MOST_FAN : ∃ t : Tok, mg "MOST_FAN" = some (.int 7 t)
  g_MOST_ITEM : ∃ t : Tok, mg "MOST_ITEM" = some (.int 1000000000000 t)
  g_MOST_ITEMS : ∃ t : Tok, mg "MOST_ITEMS" = some (.int 32 t)
  g_MOST_KEY : ∃ t : Tok, mg "MOST_KEY" = some (.int 1000000000 t)
  g_MOST_SECTORS_checks : ∃ t : Tok, mg "MOST_SECTORS_checks" = some (.int 64 t)
  g_MOST_SECTORS_store : ∃ t : Tok, mg "MOST_SECTORS_store" = some (.int 64 t)
  x_Ended : ExcK K mg "Ended"
  x_NoKey : ExcK K mg "NoKey"
  x_NoNumber : ExcK K mg "NoNumber"
  x_NoState : ExcK K mg "NoState"
  n_NoKey : ∃ cl, mg "NoKey" = some cl
  n_NoNumber : ∃ cl, mg "NoNumber" = some cl
  n_SectorError : ∃ cl, mg "SectorError" = some cl
  k_SectorError_NoKey : CatK K mg "SectorError" "NoKey" true
  k_SectorError_NoNumber : CatK K mg "SectorError" "NoNumber" true
  i_NoKey_NoKey : IsOk K mg "NoKey" "NoKey" true
  i_NoKey_NoNumber : IsOk K mg "NoKey" "NoNumber" false
  i_NoNumber_NoKey : IsOk K mg "NoNumber" "NoKey" false
  i_NoNumber_NoNumber : IsOk K mg "NoNumber" "NoNumber" true
  t_Store_bool : NotTy K "Store" "bool"
  t_Store_int : NotTy K "Store" "int"
  t_Store_list : NotTy K "Store" "list"
  t_Store_tuple : NotTy K "Store" "tuple"
  f_Deal_count : FldOk K "Deal" "count"
  f_Deal_is_over : FldOk K "Deal" "is_over"
  f_Deal_number : FldOk K "Deal" "number"
  f_Deal_sectors : FldOk K "Deal" "sectors"
  f_Deal_store : FldOk K "Deal" "store"
  f_Deal_tree : FldOk K "Deal" "tree"
  f_Deal_writes : FldOk K "Deal" "writes"
  f_Disk_kept : FldOk K "Disk" "kept"
  f_Disk_watcher : FldOk K "Disk" "watcher"
  f_Disk_writes : FldOk K "Disk" "writes"
  f_Store_begun : FldOk K "Store" "begun"
  f_Store_deals : FldOk K "Store" "deals"
  f_Store_fan : FldOk K "Store" "fan"
  f_Store_head : FldOk K "Store" "head"
  f_Store_kept_disk : FldOk K "Store" "kept_disk"
  f_Store_written : FldOk K "Store" "written"
  f_Tree_fan : FldOk K "Tree" "fan"
  f_Tree_root : FldOk K "Tree" "root"
  f_Tree_state : FldOk K "Tree" "state"
section
variable {P : Program} {w : World} {K : PySem.W.Frag} {mg : Str → Option Value} {base : Heap}
theorem sc__law_hand : FnScope ["script", "cells", "cell"] ["script"] (defScope (topS 42)) := ⟨rfl, rfl, rfl, by decide +kernel, rfl, by decide +kernel, by decide +kernel⟩
theorem ok__law_hand {f : Addr} {fd : FuncData} (F : Fun K "_law_hand" "_law_hand" (topS 42) f fd) (T : Txt K mg)  : FnOk P w K mg base (L2.CX P w) 1 f fd ["script"] (spL K mg m__law_hand) :=
  fn_okL F sc__law_hand b__law_hand fun cdv A outer s H E hr =>
    (s_seq (s_setLc (own := [("cell", 2)]) 1 (.nm 2) (fun _ _ _ => L_read)  sc__law_hand.nd (i_seq (e_sl (e_var 0) o_none (o_some e_int))) (blkOk_by (by rfl)) (fun _ _ _ _ _ => (pg_nmP (i := 2) sc__law_hand.nd rfl)) (fun _ _ _ _ _ => p_yes) (fun _ _ _ _ _ => (e_abs T.b_abs (a_cons (e_int1 T.b_int (a_cons (e_var 2) a_nil)) a_nil))) (by decide)) (s_seq (s_ret (e_new (f_lst (a_cons (e_var 1) (a_cons e_int (a_cons e_int (a_cons (e_bin op_add3 fol_add e_int (e_len T.b_len (a_cons (e_var 1) a_nil))) (a_cons e_int a_nil)))))))) s_nil))
theorem sc_is_integer : FnScope ["thing"] ["thing"] (defScope (topS 14)) := ⟨rfl, rfl, rfl, by decide +kernel, rfl, by decide +kernel, by decide +kernel⟩
theorem ok_is_integer {f : Addr} {fd : FuncData} (F : Fun K "is_integer" "is_integer" (topS 14) f fd) (T : Txt K mg)  : FnOk P w K mg base (L2.CX P w) 1 f fd ["thing"] (spM K mg m_is_integer) :=
  fn_ok F sc_is_integer b_is_integer fun cdv A outer s H E hr =>
    (s_seq (s_ret (e_and (e_isiC ["Store"] .int T.b_isinstance T.b_int (e_var 0) (AllC.c T.t_Store_int AllC.n)) (e_one (e_not (e_isiC ["Store"] .bl T.b_isinstance T.b_bool (e_var 0) (AllC.c T.t_Store_bool AllC.n)))))) s_nil)
theorem sc_Store_keep : FnScope ["self", "disk", "head", "fan"] ["self", "disk", "head", "fan"] (defScope (inClass (topS 39) 1)) := ⟨rfl, rfl, rfl, by decide +kernel, rfl, by decide +kernel, by decide +kernel⟩
theorem ok_Store_keep {f : Addr} {fd : FuncData} (F : Fun K "keep" "Store.keep" (inClass (topS 39) 1) f fd) (T : Txt K mg)  : FnOk P w K mg base (L2.CX P w) 1 f fd ["self", "disk", "head", "fan"] (spM K mg m_Store_keep) :=
  fn_okK F sc_Store_keep b_Store_keep fun cdv A outer s H E hr =>
    (s_seq (s_fld ["Store"] (e_var 0) (e_var 1) (AllC.c T.f_Store_kept_disk AllC.n)) (s_seq (s_fld ["Store"] (e_var 0) (e_var 2) (AllC.c T.f_Store_head AllC.n)) (s_seq (s_fld ["Store"] (e_var 0) (e_var 3) (AllC.c T.f_Store_fan AllC.n)) (s_seq (s_fld ["Store"] (e_var 0) e_dnew (AllC.c T.f_Store_written AllC.n)) (s_seq (s_fld ["Store"] (e_var 0) e_dnew (AllC.c T.f_Store_deals AllC.n)) (s_seq (s_fld ["Store"] (e_var 0) e_int (AllC.c T.f_Store_begun AllC.n)) s_nil))))))
theorem sc_Store_disk : FnScope ["self"] ["self"] (defScope (inClass (topS 39) 2)) := ⟨rfl, rfl, rfl, by decide +kernel, rfl, by decide +kernel, by decide +kernel⟩
theorem ok_Store_disk {f : Addr} {fd : FuncData} (F : Fun K "disk" "Store.disk" (inClass (topS 39) 2) f fd) (T : Txt K mg)  : FnOk P w K mg base (L2.CX P w) 1 f fd ["self"] (spM K mg m_Store_disk) :=
  fn_okK F sc_Store_disk b_Store_disk fun cdv A outer s H E hr =>
    (s_seq (s_ret (e_fld ["Store"] (e_var 0) (AllC.c T.f_Store_kept_disk AllC.n))) s_nil)
theorem sc_Store_count : FnScope ["self"] ["self"] (defScope (inClass (topS 39) 3)) := ⟨rfl, rfl, rfl, by decide +kernel, rfl, by decide +kernel, by decide +kernel⟩
theorem ok_Store_count {f : Addr} {fd : FuncData} (F : Fun K "count" "Store.count" (inClass (topS 39) 3) f fd) (T : Txt K mg)  : FnOk P w K mg base (L2.CX P w) 1 f fd ["self"] (spM K mg m_Store_count) :=
  fn_okK F sc_Store_count b_Store_count fun cdv A outer s H E hr =>
    (s_seq (s_ret (e_ix (e_fld ["Store"] (e_var 0) (AllC.c T.f_Store_head AllC.n)) e_int)) s_nil)
theorem sc_Tree___init__ : FnScope ["self", "state", "root", "fan"] ["self", "state", "root", "fan"] (defScope (inClass (topS 30) 0)) := ⟨rfl, rfl, rfl, by decide +kernel, rfl, by decide +kernel, by decide +kernel⟩
theorem ok_Tree___init__ {f : Addr} {fd : FuncData} (F : Fun K "__init__" "Tree.__init__" (inClass (topS 30) 0) f fd) (T : Txt K mg)  : FnOk P w K mg base (L2.CX P w) 1 f fd ["self", "state", "root", "fan"] (spM K mg m_Tree___init__) :=
  fn_okK F sc_Tree___init__ b_Tree___init__ fun cdv A outer s H E hr =>
    (s_seq (s_fld ["Tree"] (e_var 0) (e_var 1) (AllC.c T.f_Tree_state AllC.n)) (s_seq (s_fld ["Tree"] (e_var 0) (e_if (t_cmp (op_neD (hu64 hr)) fol_ne (e_var 2) e_int) (e_var 2) e_non) (AllC.c T.f_Tree_root AllC.n)) (s_seq (s_fld ["Tree"] (e_var 0) (e_var 3) (AllC.c T.f_Tree_fan AllC.n)) s_nil)))
theorem sc_Disk_now : FnScope ["self", "found", "sector", "values"] ["self"] (defScope (inClass (topS 23) 4)) := ⟨rfl, rfl, rfl, by decide +kernel, rfl, by decide +kernel, by decide +kernel⟩
theorem ok_Disk_now {f : Addr} {fd : FuncData} (F : Fun K "now" "Disk.now" (inClass (topS 23) 4) f fd) (T : Txt K mg)  : FnOk P w K mg base (L2.CX P w) 1 f fd ["self"] (spM K mg m_Disk_now) :=
  fn_okK F sc_Disk_now b_Disk_now fun cdv A outer s H E hr =>
    (s_seq (s_set 1 (e_new (f_list T.b_list (a_cons (e_fld ["Disk"] (e_var 0) (AllC.c T.f_Disk_kept AllC.n)) a_nil))) sc_Disk_now.nd) (s_seq (s_forItems (p := (.tp [(.nm 2), (.nm 3)])) (passes_of rfl) (e_fld ["Disk", "Deal"] (e_var 0) (AllC.c T.f_Disk_writes (AllC.c T.f_Deal_writes AllC.n))) (pg_tpP rfl (pgs_consP (pg_nmP (i := 2) sc_Disk_now.nd rfl) (pgs_consP (pg_nmP (i := 3) sc_Disk_now.nd rfl) pgs_nilP))) (s_seq (s_sub (e_ix (e_var 3) (e_un un_neg fol_neg e_int)) (e_var 1) (e_var 2)) s_nil)) (s_seq (s_ret (e_tuple T.b_tuple (a_cons (e_var 1) a_nil))) s_nil)))
theorem sc_Tree_sectors : FnScope ["self", "found", "waiting", "page"] ["self"] (defScope (inClass (topS 30) 4)) := ⟨rfl, rfl, rfl, by decide +kernel, rfl, by decide +kernel, by decide +kernel⟩
theorem ok_Tree_sectors {f : Addr} {fd : FuncData} (F : Fun K "sectors" "Tree.sectors" (inClass (topS 30) 4) f fd) (T : Txt K mg)  : FnOk P w K mg base (L2.CX P w) 1 f fd ["self"] (spM K mg m_Tree_sectors) :=
  fn_okK F sc_Tree_sectors b_Tree_sectors fun cdv A outer s H E hr =>
    (s_seq (s_set 1 (e_new (f_lst a_nil)) sc_Tree_sectors.nd) (s_seq (s_set 2 (e_if (t_cmp op_notN fol_notN (e_fld ["Tree"] (e_var 0) (AllC.c T.f_Tree_root AllC.n)) e_non) (e_new (f_lst (a_cons (e_fld ["Tree"] (e_var 0) (AllC.c T.f_Tree_root AllC.n)) a_nil))) (e_new (f_lst a_nil))) sc_Tree_sectors.nd) (s_seq (s_while (passes_of rfl) (t_cmp (op_cGt (hu65 hr)) fol_cGt (e_len T.b_len (a_cons (e_var 2) a_nil)) e_int) ss_never) (s_seq (s_ret (e_tuple T.b_tuple (a_cons (e_L (f_sorted (hu67 hr) T.b_sorted (a_cons (e_var 1) a_nil))) a_nil))) s_nil))))
theorem sc_Tree_pairs : FnScope ["self", "first", "last", "found", "waiting", "page", "key", "value"] ["self", "first", "last"] (defScope (inClass (topS 30) 3)) := ⟨rfl, rfl, rfl, by decide +kernel, rfl, by decide +kernel, by decide +kernel⟩
theorem ok_Tree_pairs {f : Addr} {fd : FuncData} (F : Fun K "pairs" "Tree.pairs" (inClass (topS 30) 3) f fd) (T : Txt K mg)  : FnOk P w K mg base (L2.CX P w) 1 f fd ["self", "first", "last"] (spM K mg m_Tree_pairs) :=
  fn_okK F sc_Tree_pairs b_Tree_pairs fun cdv A outer s H E hr =>
    (s_seq (s_set 3 (e_new (f_lst a_nil)) sc_Tree_pairs.nd) (s_seq (s_set 4 (e_if (t_cmp op_notN fol_notN (e_fld ["Tree"] (e_var 0) (AllC.c T.f_Tree_root AllC.n)) e_non) (e_new (f_lst (a_cons (e_fld ["Tree"] (e_var 0) (AllC.c T.f_Tree_root AllC.n)) a_nil))) (e_new (f_lst a_nil))) sc_Tree_pairs.nd) (s_seq (s_while (passes_of rfl) (t_cmp (op_cGt (hu65 hr)) fol_cGt (e_len T.b_len (a_cons (e_var 4) a_nil)) e_int) ss_never) (s_seq (s_ret (e_var 3)) s_nil))))
theorem sc__law_draw : FnScope ["hand", "many", "cell", "digit", "number"] ["hand", "many"] (defScope (topS 43)) := ⟨rfl, rfl, rfl, by decide +kernel, rfl, by decide +kernel, by decide +kernel⟩
theorem ok__law_draw {f : Addr} {fd : FuncData} (F : Fun K "_law_draw" "_law_draw" (topS 43) f fd) (T : Txt K mg)  : FnOk P w K mg base (L2.CX P w) 1 f fd ["hand", "many"] (spM K mg m__law_draw) :=
  fn_ok F sc__law_draw b__law_draw fun cdv A outer s H E hr =>
    (s_seq (s_if (w_and (t_cmp (op_eqD (hu64 hr)) fol_eq (e_ix (e_var 0) e_int) e_int) (w_one .And (t_cmp (op_cLt (hu65 hr)) fol_cLt (e_ix (e_var 0) e_int) (e_len T.b_len (a_cons (e_ix (e_var 0) e_int) a_nil))))).pt (s_seq (s_set 2 (e_ix (e_ix (e_var 0) e_int) (e_ix (e_var 0) e_int)) sc__law_draw.nd) (s_seq (s_sub (e_bin op_add3 fol_add (e_ix (e_var 0) e_int) e_int) (e_var 0) e_int) (s_seq (s_sub (e_bin op_mod fol_mod (e_int1 T.b_int (a_cons (e_bin op_add3 fol_add (e_bin op_add3 fol_add (e_bin op_mul fol_mul (e_ix (e_var 0) e_int) e_int) (e_var 2)) e_int) a_nil)) e_int) (e_var 0) e_int) (s_seq (s_if (t_cmp (op_cGe (hu65 hr)) fol_cGe (e_var 2) (e_bin op_pow fol_pow e_int e_int)) (s_seq (s_sub (e_var 2) (e_var 0) e_int) s_nil) s_nil) s_nil)))) s_nil) (s_seq (s_if (t_cmp (op_cGt (hu65 hr)) fol_cGt (e_ix (e_var 0) e_int) e_int) (s_seq (s_set 3 (e_bin op_mod fol_mod (e_int1 T.b_int (a_cons (e_ix (e_var 0) e_int) a_nil)) (e_var 1)) sc__law_draw.nd) (s_seq (s_sub (e_bin op_fdivW fol_div (e_ix (e_var 0) e_int) (e_var 1)) (e_var 0) e_int) (s_seq (s_ret (e_var 3)) s_nil))) s_nil) (s_seq (s_sub (e_bin op_add3 fol_add (e_ix (e_var 0) e_int) e_int) (e_var 0) e_int) (s_seq (s_set 4 (e_bin op_mod fol_mod (e_int1 T.b_int (a_cons (e_bin op_mul fol_mul (e_int1 T.b_int (a_cons (e_bin op_add3 fol_add (e_ix (e_var 0) e_int) (e_bin op_mul fol_mul e_int (e_ix (e_var 0) e_int))) a_nil)) e_int) a_nil)) e_int) sc__law_draw.nd) (s_seq (s_set 4 (e_bin op_mod fol_mod (e_int1 T.b_int (a_cons (e_bin op_mul fol_mul (e_var 4) (e_bin op_add3 fol_add (e_bin op_fdivW fol_div (e_var 4) e_int) e_int)) a_nil)) e_int) sc__law_draw.nd) (s_seq (s_set 4 (e_bin op_mod fol_mod (e_int1 T.b_int (a_cons (e_bin op_mul fol_mul (e_var 4) (e_bin op_add3 fol_add (e_bin op_fdivW fol_div (e_var 4) e_int) e_int)) a_nil)) e_int) sc__law_draw.nd) (s_seq (s_ret (e_bin op_mod fol_mod (e_int1 T.b_int (a_cons (e_bin op_fdivW fol_div (e_var 4) e_int) a_nil)) (e_var 1))) s_nil)))))))
theorem sc_Tree_find : FnScope ["self", "key", "tree", "page"] ["self", "key"] (defScope (inClass (topS 30) 2)) := ⟨rfl, rfl, rfl, by decide +kernel, rfl, by decide +kernel, by decide +kernel⟩
theorem ok_Tree_find {f : Addr} {fd : FuncData} (F : Fun K "find" "Tree.find" (inClass (topS 30) 2) f fd) (T : Txt K mg)  : FnOk P w K mg base (L2.CX P w) 1 f fd ["self", "key"] (spM K mg m_Tree_find) :=
  fn_okK F sc_Tree_find b_Tree_find fun cdv A outer s H E hr =>
    (s_seq (s_set 2 (e_fld ["Tree"] (e_var 0) (AllC.c T.f_Tree_root AllC.n)) sc_Tree_find.nd) (s_seq (s_while (passes_of rfl) (t_cmp op_notN fol_notN (e_var 2) e_non) ss_never) (s_seq (s_ret e_non) s_nil)))
theorem sc__law_head : FnScope ["state", "found", "sector", "thing"] ["state"] (defScope (topS 46)) := ⟨rfl, rfl, rfl, by decide +kernel, rfl, by decide +kernel, by decide +kernel⟩
theorem ok__law_head {f : Addr} {fd : FuncData} (F : Fun K "_law_head" "_law_head" (topS 46) f fd) (T : Txt K mg)  : FnOk P w K mg base (L2.CX P w) 1 f fd ["state"] (spM K mg m__law_head) :=
  fn_ok F sc__law_head b__law_head fun cdv A outer s H E hr =>
    (s_seq (s_set 1 e_non sc__law_head.nd) (s_seq (s_for (p := (.nm 2)) (passes_of rfl) (i_range1 T.b_range (a_cons e_int a_nil)) (pg_nmP (i := 2) sc__law_head.nd rfl) (s_seq (s_set 3 (e_ix (e_var 0) (e_var 2)) sc__law_head.nd) (s_seq (s_if (w_and (t_cmp op_notN fol_notN (e_var 3) e_non) (w_and (t_cmp (op_eqD (hu64 hr)) fol_eq (e_len T.b_len (a_cons (e_var 3) a_nil)) e_int) (w_one .And (t_cmp (op_eqD (hu64 hr)) fol_eq (e_bin op_mod fol_mod (e_int1 T.b_int (a_cons (e_ix (e_var 3) e_int) a_nil)) e_int) (e_var 2))))).pt (s_seq (s_if (w_or (t_cmp op_isN fol_isN (e_var 1) e_non) (w_one .Or (t_cmp (op_cGt (hu65 hr)) fol_cGt (e_ix (e_var 3) e_int) (e_ix (e_var 1) e_int)))).pt (s_seq (s_set 1 (e_var 3) sc__law_head.nd) s_nil) s_nil) s_nil) s_nil) s_nil))) (s_seq (s_ret (e_var 1)) s_nil)))
theorem sc__law_pairs : FnScope ["book", "key"] ["book"] (defScope (topS 50)) := ⟨rfl, rfl, rfl, by decide +kernel, rfl, by decide +kernel, by decide +kernel⟩
theorem ok__law_pairs {f : Addr} {fd : FuncData} (F : Fun K "_law_pairs" "_law_pairs" (topS 50) f fd) (T : Txt K mg)  : FnOk P w K mg base (L2.CX P w) 1 f fd ["book"] (spL K mg m__law_pairs) :=
  fn_okL F sc__law_pairs b__law_pairs fun cdv A outer s H E hr =>
    (s_seq (s_ret (e_new (f_sorted (hu67 hr) T.b_sorted (a_cons (e_L (f_lcD (own := [("key", 1)]) (.nm 1) sc__law_pairs.nd (e_var 0) (blkOk_by (by rfl)) (fun _ _ _ _ _ => (pg_nmP (i := 1) sc__law_pairs.nd rfl)) (fun _ _ _ _ _ => p_yes) (fun _ _ _ _ _ => (e_tup (a_cons (e_var 1) (a_cons (e_dget (hu1 hr) (e_var 0) (e_var 1)) a_nil)))) (by decide))) a_nil)))) s_nil)
theorem sc_Disk_waiting : FnScope ["self"] ["self"] (defScope (inClass (topS 23) 6)) := ⟨rfl, rfl, rfl, by decide +kernel, rfl, by decide +kernel, by decide +kernel⟩
theorem ok_Disk_waiting {f : Addr} {fd : FuncData} (F : Fun K "waiting" "Disk.waiting" (inClass (topS 23) 6) f fd) (T : Txt K mg)  : FnOk P w K mg base (L2.CX P w) 1 f fd ["self"] (spM K mg m_Disk_waiting) :=
  fn_okK F sc_Disk_waiting b_Disk_waiting fun cdv A outer s H E hr =>
    (s_seq (s_ret (e_tuple T.b_tuple (a_cons (e_L (f_sortK T.b_sorted (a_cons (e_fld ["Disk", "Deal"] (e_var 0) (AllC.c T.f_Disk_writes (AllC.c T.f_Deal_writes AllC.n))) a_nil))) a_nil))) s_nil)
theorem sc_Disk_settled : FnScope ["self"] ["self"] (defScope (inClass (topS 23) 5)) := ⟨rfl, rfl, rfl, by decide +kernel, rfl, by decide +kernel, by decide +kernel⟩
theorem ok_Disk_settled {f : Addr} {fd : FuncData} (F : Fun K "settled" "Disk.settled" (inClass (topS 23) 5) f fd) (T : Txt K mg)  : FnOk P w K mg base (L2.CX P w) 1 f fd ["self"] (spM K mg m_Disk_settled) :=
  fn_okK F sc_Disk_settled b_Disk_settled fun cdv A outer s H E hr =>
    (s_seq (s_ret (e_tuple T.b_tuple (a_cons (e_fld ["Disk"] (e_var 0) (AllC.c T.f_Disk_kept AllC.n)) a_nil))) s_nil)
theorem sc__law_number : FnScope ["told", "due"] ["told", "due"] (defScope (topS 45)) := ⟨rfl, rfl, rfl, by decide +kernel, rfl, by decide +kernel, by decide +kernel⟩
theorem ok__law_number {f : Addr} {fd : FuncData} (F : Fun K "_law_number" "_law_number" (topS 45) f fd) (T : Txt K mg)  : FnOk P w K mg base (L2.CX P w) 1 f fd ["told", "due"] (spM K mg m__law_number) :=
  fn_ok F sc__law_number b__law_number fun cdv A outer s H E hr =>
    (s_seq (s_ret (e_and (e_isiC ["Store"] .int T.b_isinstance T.b_int (e_var 0) (AllC.c T.t_Store_int AllC.n)) (e_and (e_not (e_isiC ["Store"] .bl T.b_isinstance T.b_bool (e_var 0) (AllC.c T.t_Store_bool AllC.n))) (e_one (e_cmp (op_eqD (hu64 hr)) fol_eq (e_var 0) (e_var 1)))))) s_nil)
theorem sc__law_flag : FnScope ["told", "due"] ["told", "due"] (defScope (topS 44)) := ⟨rfl, rfl, rfl, by decide +kernel, rfl, by decide +kernel, by decide +kernel⟩
theorem ok__law_flag {f : Addr} {fd : FuncData} (F : Fun K "_law_flag" "_law_flag" (topS 44) f fd) (T : Txt K mg)  : FnOk P w K mg base (L2.CX P w) 1 f fd ["told", "due"] (spM K mg m__law_flag) :=
  fn_ok F sc__law_flag b__law_flag fun cdv A outer s H E hr =>
    (s_seq (s_ret (e_and (e_isiC ["Store"] .bl T.b_isinstance T.b_bool (e_var 0) (AllC.c T.t_Store_bool AllC.n)) (e_one (e_cmp (op_eqD (hu64 hr)) fol_eq (e_var 0) (e_var 1))))) s_nil)
theorem sc__law_is_between : FnScope ["thing", "least", "most"] ["thing", "least", "most"] (defScope (topS 53)) := ⟨rfl, rfl, rfl, by decide +kernel, rfl, by decide +kernel, by decide +kernel⟩
theorem ok__law_is_between {f : Addr} {fd : FuncData} (F : Fun K "_law_is_between" "_law_is_between" (topS 53) f fd) (T : Txt K mg)  : FnOk P w K mg base (L2.CX P w) 1 f fd ["thing", "least", "most"] (spM K mg m__law_is_between) :=
  fn_ok F sc__law_is_between b__law_is_between fun cdv A outer s H E hr =>
    (s_seq (s_ret (e_and (e_isiC ["Store"] .int T.b_isinstance T.b_int (e_var 0) (AllC.c T.t_Store_int AllC.n)) (e_and (e_not (e_isiC ["Store"] .bl T.b_isinstance T.b_bool (e_var 0) (AllC.c T.t_Store_bool AllC.n))) (e_one (e_chain (op_cLe (hu65 hr)) (op_cLe (hu65 hr)) fol_cLe fol_cLe (e_var 1) (e_var 0) (e_var 2)))))) s_nil)
theorem sc_Deal_check : FnScope ["self"] ["self"] (defScope (inClass (topS 40) 1)) := ⟨rfl, rfl, rfl, by decide +kernel, rfl, by decide +kernel, by decide +kernel⟩
theorem ok_Deal_check {f : Addr} {fd : FuncData} (F : Fun K "check" "Deal.check" (inClass (topS 40) 1) f fd) (T : Txt K mg)  : FnOk P w K mg base (L2.CX P w) 1 f fd ["self"] (spM K mg m_Deal_check) :=
  fn_okK F sc_Deal_check b_Deal_check fun cdv A outer s H E hr =>
    (s_seq (s_if (t_tru (e_fld ["Deal"] (e_var 0) (AllC.c T.f_Deal_is_over AllC.n))) (s_seq (s_raise0 T.x_Ended (takes_of rfl rfl rfl rfl)) s_nil) s_nil) s_nil)
theorem sc_is_between : FnScope ["thing", "least", "most"] ["thing", "least", "most"] (defScope (topS 15)) := ⟨rfl, rfl, rfl, by decide +kernel, rfl, by decide +kernel, by decide +kernel⟩
theorem ok_is_between {f : Addr} {fd : FuncData} (F : Fun K "is_between" "is_between" (topS 15) f fd) (T : Txt K mg) (c_is_integer : Has P w K mg base "is_integer" 1 ["thing"] (spM K mg m_is_integer)) : FnOk P w K mg base (L2.CX P w) 2 f fd ["thing", "least", "most"] (spM K mg m_is_between) :=
  fn_ok F sc_is_between b_is_between fun cdv A outer s H E hr =>
    (s_seq (s_ret (e_and (e_callH c_is_integer hr (takes_of rfl rfl rfl rfl) (a_cons (e_var 0) a_nil)) (e_one (e_chain (op_cLe (hu65 hr)) (op_cLe (hu65 hr)) fol_cLe fol_cLe (e_var 1) (e_var 0) (e_var 2))))) s_nil)
theorem sc__law_stored : FnScope ["state", "fan", "head", "tree"] ["state", "fan"] (defScope (topS 49)) := ⟨rfl, rfl, rfl, by decide +kernel, rfl, by decide +kernel, by decide +kernel⟩
theorem ok__law_stored {f : Addr} {fd : FuncData} (F : Fun K "_law_stored" "_law_stored" (topS 49) f fd) (T : Txt K mg) (c__law_head : Has P w K mg base "_law_head" 1 ["state"] (spM K mg m__law_head)) : FnOk P w K mg base (L2.CX P w) 2 f fd ["state", "fan"] (spM K mg m__law_stored) :=
  fn_ok F sc__law_stored b__law_stored fun cdv A outer s H E hr =>
    (s_seq (s_set 2 (e_callH c__law_head hr (takes_of rfl rfl rfl rfl) (a_cons (e_var 0) a_nil)) sc__law_stored.nd) (s_seq (s_if (w_or (t_cmp op_isN fol_isN (e_var 2) e_non) (w_one .Or (t_cmp (op_eqD (hu64 hr)) fol_eq (e_ix (e_var 2) e_int) e_int))).pt (s_seq (s_ret (e_if (w_or (t_cmp op_isN fol_isN (e_var 2) e_non) (w_one .Or (t_cmp (op_neD (hu64 hr)) fol_ne (e_ix (e_var 2) e_int) e_int))).pt e_non (e_tup (a_cons (e_ix (e_var 2) e_int) (a_cons (e_L (f_lst a_nil)) (a_cons (e_tup a_nil) a_nil)))))) s_nil) s_nil) ss_never))
theorem sc__law_deep : FnScope ["hand", "found", "turn"] ["hand"] (defScope (topS 52)) := ⟨rfl, rfl, rfl, by decide +kernel, rfl, by decide +kernel, by decide +kernel⟩
theorem ok__law_deep {f : Addr} {fd : FuncData} (F : Fun K "_law_deep" "_law_deep" (topS 52) f fd) (T : Txt K mg) (c__law_draw : Has P w K mg base "_law_draw" 1 ["hand", "many"] (spM K mg m__law_draw)) : FnOk P w K mg base (L2.CX P w) 2 f fd ["hand"] (spM K mg m__law_deep) :=
  fn_okK F sc__law_deep b__law_deep fun cdv A outer s H E hr =>
    (s_seq (s_set 1 (e_ix (e_L (f_lst (a_cons e_non (a_cons e_int (a_cons e_str (a_cons (e_tup a_nil) a_nil)))))) (e_callH c__law_draw hr (takes_of rfl rfl rfl rfl) (a_cons (e_var 0) (a_cons e_int a_nil)))) sc__law_deep.nd) (s_seq (s_for (p := (.nm 2)) (passes_of rfl) (i_range1 T.b_range (a_cons (e_bin op_add3 fol_add e_int (e_callH c__law_draw hr (takes_of rfl rfl rfl rfl) (a_cons (e_var 0) (a_cons e_int a_nil)))) a_nil)) (pg_nmP (i := 2) sc__law_deep.nd rfl) (s_seq (s_set 1 (e_ix (e_L (f_lst (a_cons (e_L (f_lst (a_cons (e_var 1) a_nil))) (a_cons (e_tup (a_cons (e_var 1) a_nil)) (a_cons (e_disp1 e_int (e_var 1)) a_nil))))) (e_callH c__law_draw hr (takes_of rfl rfl rfl rfl) (a_cons (e_var 0) (a_cons e_int a_nil)))) sc__law_deep.nd) s_nil)) (s_seq (s_ret (e_var 1)) s_nil)))
theorem sc_Deal_leave : FnScope ["self"] ["self"] (defScope (inClass (topS 40) 7)) := ⟨rfl, rfl, rfl, by decide +kernel, rfl, by decide +kernel, by decide +kernel⟩
theorem ok_Deal_leave {f : Addr} {fd : FuncData} (F : Fun K "leave" "Deal.leave" (inClass (topS 40) 7) f fd) (T : Txt K mg) (c_Deal_check : MthOk P w K mg base "Deal" "check" 1 ["self"] (spM K mg m_Deal_check)) : FnOk P w K mg base (L2.CX P w) 2 f fd ["self"] (spM K mg m_Deal_leave) :=
  fn_okK F sc_Deal_leave b_Deal_leave fun cdv A outer s H E hr =>
    (s_seq (s_expr (e_meth0 (m := "check") (tb_cons c_Deal_check tb_nil) hr (takes_of rfl rfl rfl rfl) (e_var 0))) (s_seq (s_fld ["Deal"] (e_var 0) e_bl (AllC.c T.f_Deal_is_over AllC.n)) (s_seq (s_expr (e_dpop1 (e_fld ["Store"] (e_fld ["Deal"] (e_var 0) (AllC.c T.f_Deal_store AllC.n)) (AllC.c T.f_Store_deals AllC.n)) (e_fld ["Deal"] (e_var 0) (AllC.c T.f_Deal_number AllC.n)))) s_nil)))
theorem sc_check_number : FnScope ["thing", "least", "most"] ["thing", "least", "most"] (defScope (topS 17)) := ⟨rfl, rfl, rfl, by decide +kernel, rfl, by decide +kernel, by decide +kernel⟩
theorem ok_check_number {f : Addr} {fd : FuncData} (F : Fun K "check_number" "check_number" (topS 17) f fd) (T : Txt K mg) (c_is_between : Has P w K mg base "is_between" 2 ["thing", "least", "most"] (spM K mg m_is_between)) : FnOk P w K mg base (L2.CX P w) 3 f fd ["thing", "least", "most"] (spM K mg m_check_number) :=
  fn_ok F sc_check_number b_check_number fun cdv A outer s H E hr =>
    (s_seq (s_if (t_not (t_tru (e_callH c_is_between hr (takes_of rfl rfl rfl rfl) (a_cons (e_var 0) (a_cons (e_var 1) (a_cons (e_var 2) a_nil)))))) (s_seq (s_raise0 T.x_NoNumber (takes_of rfl rfl rfl rfl)) s_nil) s_nil) s_nil)
theorem sc_is_value : FnScope ["thing", "item"] ["thing"] (defScope (topS 18)) := ⟨rfl, rfl, rfl, by decide +kernel, rfl, by decide +kernel, by decide +kernel⟩
theorem ok_is_value {f : Addr} {fd : FuncData} (F : Fun K "is_value" "is_value" (topS 18) f fd) (T : Txt K mg) (c_is_between : Has P w K mg base "is_between" 2 ["thing", "least", "most"] (spM K mg m_is_between)) : FnOk P w K mg base (L2.CX P w) 3 f fd ["thing"] (spM K mg m_is_value) :=
  fn_ok F sc_is_value b_is_value fun cdv A outer s H E hr =>
    (s_seq (s_if (w_or (t_not (t_tru (e_isiC ["Store"] .tup T.b_isinstance T.b_tuple (e_var 0) (AllC.c T.t_Store_tuple AllC.n)))) (w_one .Or (t_cmp (op_cGt (hu65 hr)) fol_cGt (e_len T.b_len (a_cons (e_var 0) a_nil)) (e_globI T.g_MOST_ITEMS)))).pt (s_seq (s_ret e_bl) s_nil) s_nil) (s_seq (s_ret (e_all T.b_all (a_cons (e_L (f_lc (own := [("item", 1)]) (.nm 1) sc_is_value.nd (i_seq (e_var 0)) (blkOk_by (by rfl)) (fun _ _ _ _ _ => (pg_nmP (i := 1) sc_is_value.nd rfl)) (fun _ _ _ _ _ => p_yes) (fun _ _ _ _ _ => (e_callH c_is_between hr takes0 (a_cons (e_var 1) (a_cons e_int (a_cons (e_globI T.g_MOST_ITEM) a_nil))))) (by decide))) a_nil))) s_nil))
theorem sc_Store_tree : FnScope ["self"] ["self"] (defScope (inClass (topS 39) 4)) := ⟨rfl, rfl, rfl, by decide +kernel, rfl, by decide +kernel, by decide +kernel⟩
theorem ok_Store_tree {f : Addr} {fd : FuncData} (F : Fun K "tree" "Store.tree" (inClass (topS 39) 4) f fd) (T : Txt K mg) (k_Tree : MakOk P w K mg base "Tree" 1 ["self", "state", "root", "fan"] (spM K mg m_Tree___init__)) (c_Disk_now : MthOk P w K mg base "Disk" "now" 1 ["self"] (spM K mg m_Disk_now)) : FnOk P w K mg base (L2.CX P w) 3 f fd ["self"] (spM K mg m_Store_tree) :=
  fn_okK F sc_Store_tree b_Store_tree fun cdv A outer s H E hr =>
    (s_seq (s_ret (e_make k_Tree hr (takes_of rfl rfl rfl rfl) (a_cons (e_meth0 (m := "now") (tb_cons c_Disk_now tb_nil) hr (takes_of rfl rfl rfl rfl) (e_fld ["Store"] (e_var 0) (AllC.c T.f_Store_kept_disk AllC.n))) (a_cons (e_ix (e_fld ["Store"] (e_var 0) (AllC.c T.f_Store_head AllC.n)) e_int) (a_cons (e_fld ["Tree", "Store"] (e_var 0) (AllC.c T.f_Tree_fan (AllC.c T.f_Store_fan AllC.n))) a_nil))))) s_nil)
theorem sc_check_key : FnScope ["thing"] ["thing"] (defScope (topS 38)) := ⟨rfl, rfl, rfl, by decide +kernel, rfl, by decide +kernel, by decide +kernel⟩
theorem ok_check_key {f : Addr} {fd : FuncData} (F : Fun K "check_key" "check_key" (topS 38) f fd) (T : Txt K mg) (c_is_between : Has P w K mg base "is_between" 2 ["thing", "least", "most"] (spM K mg m_is_between)) : FnOk P w K mg base (L2.CX P w) 3 f fd ["thing"] (spM K mg m_check_key) :=
  fn_ok F sc_check_key b_check_key fun cdv A outer s H E hr =>
    (s_seq (s_if (t_not (t_tru (e_callH c_is_between hr (takes_of rfl rfl rfl rfl) (a_cons (e_var 0) (a_cons e_int (a_cons (e_globI T.g_MOST_KEY) a_nil)))))) (s_seq (s_raise0 T.x_NoKey (takes_of rfl rfl rfl rfl)) s_nil) s_nil) s_nil)
theorem sc_Deal_commit : FnScope ["self", "key"] ["self"] (defScope (inClass (topS 40) 8)) := ⟨rfl, rfl, rfl, by decide +kernel, rfl, by decide +kernel, by decide +kernel⟩
theorem ok_Deal_commit {f : Addr} {fd : FuncData} (F : Fun K "commit" "Deal.commit" (inClass (topS 40) 8) f fd) (T : Txt K mg) (c_Deal_check : MthOk P w K mg base "Deal" "check" 1 ["self"] (spM K mg m_Deal_check)) (c_Deal_leave : MthOk P w K mg base "Deal" "leave" 2 ["self"] (spM K mg m_Deal_leave)) : FnOk P w K mg base (L2.CX P w) 3 f fd ["self"] (spM K mg m_Deal_commit) :=
  fn_okK F sc_Deal_commit b_Deal_commit fun cdv A outer s H E hr =>
    (s_seq (s_expr (e_meth0 (m := "check") (tb_cons c_Deal_check tb_nil) hr (takes_of rfl rfl rfl rfl) (e_var 0))) (s_seq (s_if (t_tru (e_any T.b_any (a_cons (e_L (f_lcD (own := [("key", 1)]) (.nm 1) sc_Deal_commit.nd (e_fld ["Disk", "Deal"] (e_var 0) (AllC.c T.f_Disk_writes (AllC.c T.f_Deal_writes AllC.n))) (blkOk_by (by rfl)) (fun _ _ _ _ _ => (pg_nmP (i := 1) sc_Deal_commit.nd rfl)) (fun _ _ _ _ _ => p_yes) (fun _ _ _ _ _ => (e_cmp (op_cGt (hu65 hr)) fol_cGt (e_dget2 (hu1 hr) (e_fld ["Store"] (e_fld ["Deal"] (e_var 0) (AllC.c T.f_Deal_store AllC.n)) (AllC.c T.f_Store_written AllC.n)) (e_var 1) e_int) (e_fld ["Deal"] (e_var 0) (AllC.c T.f_Deal_count AllC.n)))) (by decide))) a_nil))) (s_seq (s_expr (e_meth0 (m := "leave") (tb_cons c_Deal_leave tb_nil) hr (takes_of rfl rfl rfl rfl) (e_var 0))) (s_seq (s_ret e_bl) s_nil)) s_nil) (s_seq (s_if (t_cmp (op_cGt (hu65 hr)) fol_cGt (e_lenD T.b_len (a_cons (e_fld ["Disk", "Deal"] (e_var 0) (AllC.c T.f_Disk_writes (AllC.c T.f_Deal_writes AllC.n))) a_nil)) e_int) ss_never s_nil) (s_seq (s_expr (e_meth0 (m := "leave") (tb_cons c_Deal_leave tb_nil) hr (takes_of rfl rfl rfl rfl) (e_var 0))) (s_seq (s_ret e_bl) s_nil)))))
theorem sc_is_held : FnScope ["thing"] ["thing"] (defScope (topS 19)) := ⟨rfl, rfl, rfl, by decide +kernel, rfl, by decide +kernel, by decide +kernel⟩
theorem ok_is_held {f : Addr} {fd : FuncData} (F : Fun K "is_held" "is_held" (topS 19) f fd) (T : Txt K mg) (c_is_value : Has P w K mg base "is_value" 3 ["thing"] (spM K mg m_is_value)) : FnOk P w K mg base (L2.CX P w) 4 f fd ["thing"] (spM K mg m_is_held) :=
  fn_ok F sc_is_held b_is_held fun cdv A outer s H E hr =>
    (s_seq (s_ret (e_or (e_cmp op_isN fol_isN (e_var 0) e_non) (e_one (e_callH c_is_value hr (takes_of rfl rfl rfl rfl) (a_cons (e_var 0) a_nil))))) s_nil)
theorem sc_Deal___init__ : FnScope ["self", "store", "number"] ["self", "store", "number"] (defScope (inClass (topS 40) 0)) := ⟨rfl, rfl, rfl, by decide +kernel, rfl, by decide +kernel, by decide +kernel⟩
theorem ok_Deal___init__ {f : Addr} {fd : FuncData} (F : Fun K "__init__" "Deal.__init__" (inClass (topS 40) 0) f fd) (T : Txt K mg) (c_Store_count : MthOk P w K mg base "Store" "count" 1 ["self"] (spM K mg m_Store_count)) (c_Store_tree : MthOk P w K mg base "Store" "tree" 3 ["self"] (spM K mg m_Store_tree)) (c_Tree_sectors : MthOk P w K mg base "Tree" "sectors" 1 ["self"] (spM K mg m_Tree_sectors)) : FnOk P w K mg base (L2.CX P w) 4 f fd ["self", "store", "number"] (spM K mg m_Deal___init__) :=
  fn_okK F sc_Deal___init__ b_Deal___init__ fun cdv A outer s H E hr =>
    (s_seq (s_fld ["Deal"] (e_var 0) (e_var 1) (AllC.c T.f_Deal_store AllC.n)) (s_seq (s_fld ["Deal"] (e_var 0) (e_var 2) (AllC.c T.f_Deal_number AllC.n)) (s_seq (s_fld ["Deal"] (e_var 0) (e_meth0 (m := "count") (tb_cons c_Store_count tb_nil) hr (takes_of rfl rfl rfl rfl) (e_var 1)) (AllC.c T.f_Deal_count AllC.n)) (s_seq (s_fld ["Deal"] (e_var 0) (e_meth0 (m := "tree") (tb_cons c_Store_tree tb_nil) hr (takes_of rfl rfl rfl rfl) (e_var 1)) (AllC.c T.f_Deal_tree AllC.n)) (s_seq (s_fld ["Deal"] (e_var 0) (e_meth0 (m := "sectors") (tb_cons c_Tree_sectors tb_nil) hr (takes_of rfl rfl rfl rfl) (e_fld ["Deal"] (e_var 0) (AllC.c T.f_Deal_tree AllC.n))) (AllC.c T.f_Deal_sectors AllC.n)) (s_seq (s_fld ["Deal"] (e_var 0) e_dnew (AllC.c T.f_Deal_writes AllC.n)) (s_seq (s_fld ["Deal"] (e_var 0) e_bl (AllC.c T.f_Deal_is_over AllC.n)) s_nil)))))))
theorem sc_Store_told_pairs : FnScope ["self"] ["self"] (defScope (inClass (topS 39) 5)) := ⟨rfl, rfl, rfl, by decide +kernel, rfl, by decide +kernel, by decide +kernel⟩
theorem ok_Store_told_pairs {f : Addr} {fd : FuncData} (F : Fun K "told_pairs" "Store.told_pairs" (inClass (topS 39) 5) f fd) (T : Txt K mg) (c_Tree_pairs : MthOk P w K mg base "Tree" "pairs" 1 ["self", "first", "last"] (spM K mg m_Tree_pairs)) (c_Store_tree : MthOk P w K mg base "Store" "tree" 3 ["self"] (spM K mg m_Store_tree)) : FnOk P w K mg base (L2.CX P w) 4 f fd ["self"] (spM K mg m_Store_told_pairs) :=
  fn_okK F sc_Store_told_pairs b_Store_told_pairs fun cdv A outer s H E hr =>
    (s_seq (s_ret (e_meth (m := "pairs") (tb_cons c_Tree_pairs tb_nil) hr (takes_of rfl rfl rfl rfl) (e_meth0 (m := "tree") (tb_cons c_Store_tree tb_nil) hr (takes_of rfl rfl rfl rfl) (e_var 0)) (a_cons e_int (a_cons (e_globI T.g_MOST_KEY) a_nil)))) s_nil)
theorem sc_Store_get : FnScope ["self", "key"] ["self", "key"] (defScope (inClass (topS 39) 6)) := ⟨rfl, rfl, rfl, by decide +kernel, rfl, by decide +kernel, by decide +kernel⟩
theorem ok_Store_get {f : Addr} {fd : FuncData} (F : Fun K "get" "Store.get" (inClass (topS 39) 6) f fd) (T : Txt K mg) (c_check_key : Has P w K mg base "check_key" 3 ["thing"] (spM K mg m_check_key)) (c_Tree_find : MthOk P w K mg base "Tree" "find" 1 ["self", "key"] (spM K mg m_Tree_find)) (c_Store_tree : MthOk P w K mg base "Store" "tree" 3 ["self"] (spM K mg m_Store_tree)) : FnOk P w K mg base (L2.CX P w) 4 f fd ["self", "key"] (spM K mg m_Store_get) :=
  fn_okK F sc_Store_get b_Store_get fun cdv A outer s H E hr =>
    (s_seq (s_expr (e_callH c_check_key hr (takes_of rfl rfl rfl rfl) (a_cons (e_var 1) a_nil))) (s_seq (s_ret (e_meth (m := "find") (tb_cons c_Tree_find tb_nil) hr (takes_of rfl rfl rfl rfl) (e_meth0 (m := "tree") (tb_cons c_Store_tree tb_nil) hr (takes_of rfl rfl rfl rfl) (e_var 0)) (a_cons (e_var 1) a_nil))) s_nil))
theorem sc_Store_pages : FnScope ["self"] ["self"] (defScope (inClass (topS 39) 7)) := ⟨rfl, rfl, rfl, by decide +kernel, rfl, by decide +kernel, by decide +kernel⟩
theorem ok_Store_pages {f : Addr} {fd : FuncData} (F : Fun K "pages" "Store.pages" (inClass (topS 39) 7) f fd) (T : Txt K mg) (c_Tree_sectors : MthOk P w K mg base "Tree" "sectors" 1 ["self"] (spM K mg m_Tree_sectors)) (c_Store_tree : MthOk P w K mg base "Store" "tree" 3 ["self"] (spM K mg m_Store_tree)) : FnOk P w K mg base (L2.CX P w) 4 f fd ["self"] (spM K mg m_Store_pages) :=
  fn_okK F sc_Store_pages b_Store_pages fun cdv A outer s H E hr =>
    (s_seq (s_ret (e_meth0 (m := "sectors") (tb_cons c_Tree_sectors tb_nil) hr (takes_of rfl rfl rfl rfl) (e_meth0 (m := "tree") (tb_cons c_Store_tree tb_nil) hr (takes_of rfl rfl rfl rfl) (e_var 0)))) s_nil)
theorem sc_is_state : FnScope ["thing", "item"] ["thing"] (defScope (topS 20)) := ⟨rfl, rfl, rfl, by decide +kernel, rfl, by decide +kernel, by decide +kernel⟩
theorem ok_is_state {f : Addr} {fd : FuncData} (F : Fun K "is_state" "is_state" (topS 20) f fd) (T : Txt K mg) (c_is_held : Has P w K mg base "is_held" 4 ["thing"] (spM K mg m_is_held)) : FnOk P w K mg base (L2.CX P w) 5 f fd ["thing"] (spM K mg m_is_state) :=
  fn_ok F sc_is_state b_is_state fun cdv A outer s H E hr =>
    (s_seq (s_ret (e_and (e_isiC ["Store"] .tup T.b_isinstance T.b_tuple (e_var 0) (AllC.c T.t_Store_tuple AllC.n)) (e_and (e_chain (op_cLe (hu65 hr)) (op_cLe (hu65 hr)) fol_cLe fol_cLe e_int (e_len T.b_len (a_cons (e_var 0) a_nil)) (e_globI T.g_MOST_SECTORS_checks)) (e_one (e_all T.b_all (a_cons (e_L (f_lc (own := [("item", 1)]) (.nm 1) sc_is_state.nd (i_seq (e_var 0)) (blkOk_by (by rfl)) (fun _ _ _ _ _ => (pg_nmP (i := 1) sc_is_state.nd rfl)) (fun _ _ _ _ _ => p_yes) (fun _ _ _ _ _ => (e_callH c_is_held hr takes0 (a_cons (e_var 1) a_nil))) (by decide))) a_nil)))))) s_nil)
theorem sc__law_shows : FnScope ["store", "fan", "count", "book", "disk_now", "own", "due", "told"] ["store", "fan", "count", "book"] (defScope (topS 51)) := ⟨rfl, rfl, rfl, by decide +kernel, rfl, by decide +kernel, by decide +kernel⟩
theorem ok__law_shows {f : Addr} {fd : FuncData} (F : Fun K "_law_shows" "_law_shows" (topS 51) f fd) (T : Txt K mg) (c_Disk_now : MthOk P w K mg base "Disk" "now" 1 ["self"] (spM K mg m_Disk_now)) (c__law_stored : Has P w K mg base "_law_stored" 2 ["state", "fan"] (spM K mg m__law_stored)) (c__law_pairs : Has P w K mg base "_law_pairs" 1 ["book"] (spL K mg m__law_pairs)) (c_Store_told_pairs : MthOk P w K mg base "Store" "told_pairs" 4 ["self"] (spM K mg m_Store_told_pairs)) (c_Store_disk : MthOk P w K mg base "Store" "disk" 1 ["self"] (spM K mg m_Store_disk)) (c_Disk_waiting : MthOk P w K mg base "Disk" "waiting" 1 ["self"] (spM K mg m_Disk_waiting)) (c_Disk_settled : MthOk P w K mg base "Disk" "settled" 1 ["self"] (spM K mg m_Disk_settled)) (c__law_number : Has P w K mg base "_law_number" 1 ["told", "due"] (spM K mg m__law_number)) (c_Store_pages : MthOk P w K mg base "Store" "pages" 4 ["self"] (spM K mg m_Store_pages)) (c_Store_count : MthOk P w K mg base "Store" "count" 1 ["self"] (spM K mg m_Store_count)) : FnOk P w K mg base (L2.CX P w) 5 f fd ["store", "fan", "count", "book"] (spM K mg m__law_shows) :=
  fn_ok F sc__law_shows b__law_shows fun cdv A outer s H E hr =>
    (s_seq (s_set 4 (e_meth0 (m := "now") (tb_cons c_Disk_now tb_nil) hr (takes_of rfl rfl rfl rfl) (e_meth0 (m := "disk") (tb_cons c_Store_disk tb_nil) hr (takes_of rfl rfl rfl rfl) (e_var 0))) sc__law_shows.nd) (s_seq (s_set 5 (e_callH c__law_stored hr (takes_of rfl rfl rfl rfl) (a_cons (e_var 4) (a_cons (e_var 1) a_nil))) sc__law_shows.nd) (s_seq (s_set 6 (e_L (f_callH c__law_pairs hr (takes_of rfl rfl rfl rfl) (a_cons (e_var 3) a_nil))) sc__law_shows.nd) (s_seq (s_if (w_or (t_cmp op_isN fol_isN (e_var 5) e_non) (w_or (t_cmp (op_neD (hu64 hr)) fol_ne (e_sl (e_var 5) o_none (o_some e_int)) (e_tup (a_cons (e_var 2) (a_cons (e_var 6) a_nil)))) (w_or (t_cmp (op_neD (hu64 hr)) fol_ne (e_meth0 (m := "waiting") (tb_cons c_Disk_waiting tb_nil) hr (takes_of rfl rfl rfl rfl) (e_meth0 (m := "disk") (tb_cons c_Store_disk tb_nil) hr (takes_of rfl rfl rfl rfl) (e_var 0))) (e_tup a_nil)) (w_one .Or (t_cmp (op_neD (hu64 hr)) fol_ne (e_meth0 (m := "settled") (tb_cons c_Disk_settled tb_nil) hr (takes_of rfl rfl rfl rfl) (e_meth0 (m := "disk") (tb_cons c_Store_disk tb_nil) hr (takes_of rfl rfl rfl rfl) (e_var 0))) (e_var 4)))))).pt (s_seq (s_ret e_bl) s_nil) s_nil) (s_seq (s_set 7 (e_meth0 (m := "told_pairs") (tb_cons c_Store_told_pairs tb_nil) hr (takes_of rfl rfl rfl rfl) (e_var 0)) sc__law_shows.nd) (s_seq (s_if (w_or (t_not (t_tru (e_callH c__law_number hr (takes_of rfl rfl rfl rfl) (a_cons (e_meth0 (m := "count") (tb_cons c_Store_count tb_nil) hr (takes_of rfl rfl rfl rfl) (e_var 0)) (a_cons (e_var 2) a_nil))))) (w_or (t_not (t_tru (e_isiC ["Store"] .lst T.b_isinstance T.b_list (e_var 7) (AllC.c T.t_Store_list AllC.n)))) (w_one .Or (t_cmp (op_neD (hu64 hr)) fol_ne (e_var 7) (e_var 6))))).pt (s_seq (s_ret e_bl) s_nil) s_nil) (s_seq (s_ret (e_and (e_isiC ["Store"] .tup T.b_isinstance T.b_tuple (e_meth0 (m := "pages") (tb_cons c_Store_pages tb_nil) hr (takes_of rfl rfl rfl rfl) (e_var 0)) (AllC.c T.t_Store_tuple AllC.n)) (e_one (e_cmp (op_eqD (hu64 hr)) fol_eq (e_meth0 (m := "pages") (tb_cons c_Store_pages tb_nil) hr (takes_of rfl rfl rfl rfl) (e_var 0)) (e_ix (e_var 5) e_int))))) s_nil)))))))
theorem sc__law_key_word : FnScope ["store", "key", "found", "e"] ["store", "key"] (defScope (topS 55)) := ⟨rfl, rfl, rfl, by decide +kernel, rfl, by decide +kernel, by decide +kernel⟩
theorem ok__law_key_word {f : Addr} {fd : FuncData} (F : Fun K "_law_key_word" "_law_key_word" (topS 55) f fd) (T : Txt K mg) (c_Store_get : MthOk P w K mg base "Store" "get" 4 ["self", "key"] (spM K mg m_Store_get)) : FnOk P w K mg base (L2.CX P w) 5 f fd ["store", "key"] (spM K mg m__law_key_word) :=
  fn_ok F sc__law_key_word b__law_key_word fun cdv A outer s H E hr =>
    (s_seq (s_set 2 e_str sc__law_key_word.nd) (s_seq (s_try 3 sc__law_key_word.nd T.n_SectorError (takes_of rfl rfl rfl rfl) (fun W pn xe tkb hpb => (s_seq (s_expr (e_meth (m := "get") (tb_cons c_Store_get tb_nil) hr tkb (e_var 0) (a_cons (e_var 1) a_nil))) s_nil)) (fun cl hcl => (ty_some (T.k_SectorError_NoKey.ex cl hcl) ⟨⟨fun a G h hl => by simp [mIsE, List.getElem?_set, List.set_set, set_swap, hl]⟩, fun D0 hD a oe pn hz hf => (s_seq (s_set 2 (e_if (w_and (t_tru (e_isE 3 T.i_NoKey_NoKey hD hz hf rfl T.b_isinstance)) (w_one .And (t_not (t_tru (e_isE 3 T.i_NoKey_NoNumber hD hz hf rfl T.b_isinstance))))).pt e_str e_str) sc__law_key_word.nd) s_nil)⟩ ty_nil))) (s_seq (s_ret (e_var 2)) s_nil)))
theorem sc_Store_free_sectors : FnScope ["self", "used", "deal", "sector"] ["self"] (defScope (inClass (topS 39) 8)) := ⟨rfl, rfl, rfl, by decide +kernel, rfl, by decide +kernel, by decide +kernel⟩
theorem ok_Store_free_sectors {f : Addr} {fd : FuncData} (F : Fun K "free_sectors" "Store.free_sectors" (inClass (topS 39) 8) f fd) (T : Txt K mg) (c_Store_pages : MthOk P w K mg base "Store" "pages" 4 ["self"] (spM K mg m_Store_pages)) (c_Disk_now : MthOk P w K mg base "Disk" "now" 1 ["self"] (spM K mg m_Disk_now)) : FnOk P w K mg base (L2.CX P w) 5 f fd ["self"] (spM K mg m_Store_free_sectors) :=
  fn_okK F sc_Store_free_sectors b_Store_free_sectors fun cdv A outer s H E hr =>
    (s_seq (s_set 1 (e_dc (own := [("sector", 3)]) (.nm 3) sc_Store_free_sectors.nd (i_seq (e_meth0 (m := "pages") (tb_cons c_Store_pages tb_nil) hr (takes_of rfl rfl rfl rfl) (e_var 0))) (blkOk_by (by rfl)) (fun _ _ _ _ _ => (pg_nmP (i := 3) sc_Store_free_sectors.nd rfl)) (fun _ _ _ _ _ => p_yes) (fun _ _ _ _ _ => (e_var 3)) (fun _ _ _ _ _ => e_bl) (by decide)) sc_Store_free_sectors.nd) (s_seq (s_forVals (p := (.nm 2)) (passes_of rfl) (e_fld ["Store"] (e_var 0) (AllC.c T.f_Store_deals AllC.n)) (pg_nmP (i := 2) sc_Store_free_sectors.nd rfl) (s_seq (s_for (p := (.nm 3)) (passes_of rfl) (i_seq (e_fld ["Deal"] (e_var 2) (AllC.c T.f_Deal_sectors AllC.n))) (pg_nmP (i := 3) sc_Store_free_sectors.nd rfl) (s_seq (s_dput (hu1 hr) (e_var 1) (e_var 3) e_bl) s_nil)) s_nil)) (s_seq (s_ret (e_L (f_lc (own := [("sector", 3)]) (.nm 3) sc_Store_free_sectors.nd (i_range2 T.b_range (a_cons (e_globI T.g_HEADS) (a_cons (e_len T.b_len (a_cons (e_meth0 (m := "now") (tb_cons c_Disk_now tb_nil) hr (takes_of rfl rfl rfl rfl) (e_fld ["Store"] (e_var 0) (AllC.c T.f_Store_kept_disk AllC.n))) a_nil)) a_nil))) (blkOk_by (by rfl)) (fun _ _ _ _ _ => (pg_nmP (i := 3) sc_Store_free_sectors.nd rfl)) (fun _ _ _ _ _ => (pts_one (t_cmp (op_dNotIn (hu1 hr)) fol_dNotIn (e_var 3) (e_var 1)))) (fun _ _ _ _ _ => (e_var 3)) (by decide)))) s_nil)))
theorem sc_check_state : FnScope ["thing"] ["thing"] (defScope (topS 21)) := ⟨rfl, rfl, rfl, by decide +kernel, rfl, by decide +kernel, by decide +kernel⟩
theorem ok_check_state {f : Addr} {fd : FuncData} (F : Fun K "check_state" "check_state" (topS 21) f fd) (T : Txt K mg) (c_is_state : Has P w K mg base "is_state" 5 ["thing"] (spM K mg m_is_state)) : FnOk P w K mg base (L2.CX P w) 6 f fd ["thing"] (spM K mg m_check_state) :=
  fn_ok F sc_check_state b_check_state fun cdv A outer s H E hr =>
    (s_seq (s_if (t_not (t_tru (e_callH c_is_state hr (takes_of rfl rfl rfl rfl) (a_cons (e_var 0) a_nil)))) (s_seq (s_raise0 T.x_NoState (takes_of rfl rfl rfl rfl)) s_nil) s_nil) s_nil)
theorem sc_Store_begin : FnScope ["self", "deal"] ["self"] (defScope (inClass (topS 39) 10)) := ⟨rfl, rfl, rfl, by decide +kernel, rfl, by decide +kernel, by decide +kernel⟩
theorem ok_Store_begin {f : Addr} {fd : FuncData} (F : Fun K "begin" "Store.begin" (inClass (topS 39) 10) f fd) (T : Txt K mg) (k_Deal : MakOk P w K mg base "Deal" 4 ["self", "store", "number"] (spM K mg m_Deal___init__)) : FnOk P w K mg base (L2.CX P w) 6 f fd ["self"] (spM K mg m_Store_begin) :=
  fn_okK F sc_Store_begin b_Store_begin fun cdv A outer s H E hr =>
    (s_seq (s_fldA ["Store"] in_add (e_var 0) e_int (AllC.c T.f_Store_begun AllC.n)) (s_seq (s_set 1 (e_make k_Deal hr (takes_of rfl rfl rfl rfl) (a_cons (e_var 0) (a_cons (e_fld ["Store"] (e_var 0) (AllC.c T.f_Store_begun AllC.n)) a_nil))) sc_Store_begin.nd) (s_seq (s_dput (hu1 hr) (e_fld ["Store"] (e_var 0) (AllC.c T.f_Store_deals AllC.n)) (e_fld ["Store"] (e_var 0) (AllC.c T.f_Store_begun AllC.n)) (e_var 1)) (s_seq (s_ret (e_var 1)) s_nil))))
theorem sc_Store_free : FnScope ["self"] ["self"] (defScope (inClass (topS 39) 9)) := ⟨rfl, rfl, rfl, by decide +kernel, rfl, by decide +kernel, by decide +kernel⟩
theorem ok_Store_free {f : Addr} {fd : FuncData} (F : Fun K "free" "Store.free" (inClass (topS 39) 9) f fd) (T : Txt K mg) (c_Store_free_sectors : MthOk P w K mg base "Store" "free_sectors" 5 ["self"] (spM K mg m_Store_free_sectors)) : FnOk P w K mg base (L2.CX P w) 6 f fd ["self"] (spM K mg m_Store_free) :=
  fn_okK F sc_Store_free b_Store_free fun cdv A outer s H E hr =>
    (s_seq (s_ret (e_len T.b_len (a_cons (e_meth0 (m := "free_sectors") (tb_cons c_Store_free_sectors tb_nil) hr (takes_of rfl rfl rfl rfl) (e_var 0)) a_nil))) s_nil)
theorem sc_Disk___init__ : FnScope ["self", "state"] ["self", "state"] (defScope (inClass (topS 23) 0)) := ⟨rfl, rfl, rfl, by decide +kernel, rfl, by decide +kernel, by decide +kernel⟩
theorem ok_Disk___init__ {f : Addr} {fd : FuncData} (F : Fun K "__init__" "Disk.__init__" (inClass (topS 23) 0) f fd) (T : Txt K mg) (c_check_state : Has P w K mg base "check_state" 6 ["thing"] (spM K mg m_check_state)) : FnOk P w K mg base (L2.CX P w) 7 f fd ["self", "state"] (spM K mg m_Disk___init__) :=
  fn_okK F sc_Disk___init__ b_Disk___init__ fun cdv A outer s H E hr =>
    (s_seq (s_expr (e_callH c_check_state hr (takes_of rfl rfl rfl rfl) (a_cons (e_var 1) a_nil))) (s_seq (s_fld ["Disk"] (e_var 0) (e_new (f_list T.b_list (a_cons (e_var 1) a_nil))) (AllC.c T.f_Disk_kept AllC.n)) (s_seq (s_fld ["Disk"] (e_var 0) e_dnew (AllC.c T.f_Disk_writes AllC.n)) (s_seq (s_fld ["Disk"] (e_var 0) e_non (AllC.c T.f_Disk_watcher AllC.n)) s_nil))))
theorem sc_Store___init__ : FnScope ["self", "sectors", "fan"] ["self", "sectors", "fan"] (defScope (inClass (topS 39) 0)) := ⟨rfl, rfl, rfl, by decide +kernel, rfl, by decide +kernel, by decide +kernel⟩
theorem ok_Store___init__ {f : Addr} {fd : FuncData} (F : Fun K "__init__" "Store.__init__" (inClass (topS 39) 0) f fd) (T : Txt K mg) (c_check_number : Has P w K mg base "check_number" 3 ["thing", "least", "most"] (spM K mg m_check_number)) (c_Store_keep : MthOk P w K mg base "Store" "keep" 1 ["self", "disk", "head", "fan"] (spM K mg m_Store_keep)) (k_Disk : MakOk P w K mg base "Disk" 7 ["self", "state"] (spM K mg m_Disk___init__)) : FnOk P w K mg base (L2.CX P w) 9 f fd ["self", "sectors", "fan"] (spM K mg m_Store___init__) :=
  fn_okK F sc_Store___init__ b_Store___init__ fun cdv A outer s H E hr =>
    (s_seq (s_expr (e_callH c_check_number hr (takes_of rfl rfl rfl rfl) (a_cons (e_var 1) (a_cons (e_globI T.g_LEAST_SECTORS) (a_cons (e_globI T.g_MOST_SECTORS_store) a_nil))))) (s_seq (s_expr (e_callH c_check_number hr (takes_of rfl rfl rfl rfl) (a_cons (e_var 2) (a_cons (e_globI T.g_LEAST_FAN) (a_cons (e_globI T.g_MOST_FAN) a_nil))))) (s_seq (s_expr (e_meth (m := "keep") (tb_cons c_Store_keep tb_nil) hr (takes_of rfl rfl rfl rfl) (e_var 0) (a_cons (e_make k_Disk hr (takes_of rfl rfl rfl rfl) (a_cons (e_bin op_add3 fol_add (e_tup (a_cons (e_tup (a_cons e_int (a_cons e_int (a_cons e_int a_nil)))) a_nil)) (e_bin op_mulA fol_mulA (e_tup (a_cons (e_tup a_nil) a_nil)) (e_bin op_sub fol_sub (e_var 1) e_int))) a_nil)) (a_cons (e_tup (a_cons e_int (a_cons e_int (a_cons e_int a_nil)))) (a_cons (e_var 2) a_nil))))) s_nil)))
theorem sc__law_word : FnScope ["sectors", "fan", "found", "e"] ["sectors", "fan"] (defScope (topS 54)) := ⟨rfl, rfl, rfl, by decide +kernel, rfl, by decide +kernel, by decide +kernel⟩
theorem ok__law_word {f : Addr} {fd : FuncData} (F : Fun K "_law_word" "_law_word" (topS 54) f fd) (T : Txt K mg) (k_Store : MakOk P w K mg base "Store" 9 ["self", "sectors", "fan"] (spM K mg m_Store___init__)) : FnOk P w K mg base (L2.CX P w) 11 f fd ["sectors", "fan"] (spM K mg m__law_word) :=
  fn_ok F sc__law_word b__law_word fun cdv A outer s H E hr =>
    (s_seq (s_set 2 e_str sc__law_word.nd) (s_seq (s_try 3 sc__law_word.nd T.n_SectorError (takes_of rfl rfl rfl rfl) (fun W pn xe tkb hpb => (s_seq (s_expr (e_make k_Store hr tkb (a_cons (e_var 0) (a_cons (e_var 1) a_nil)))) s_nil)) (fun cl hcl => (ty_some (T.k_SectorError_NoNumber.ex cl hcl) ⟨⟨fun a G h hl => by simp [mIsE, List.getElem?_set, List.set_set, set_swap, hl]⟩, fun D0 hD a oe pn hz hf => (s_seq (s_set 2 (e_if (w_and (t_tru (e_isE 3 T.i_NoNumber_NoNumber hD hz hf rfl T.b_isinstance)) (w_one .And (t_not (t_tru (e_isE 3 T.i_NoNumber_NoKey hD hz hf rfl T.b_isinstance))))).pt e_str e_str) sc__law_word.nd) s_nil)⟩ ty_nil))) (s_seq (s_ret (e_var 2)) s_nil)))
theorem sc__law_refused_right : FnScope ["hand", "store", "odds", "turn", "sectors", "fan", "fits_all", "key"] ["hand", "store"] (defScope (topS 56)) := ⟨rfl, rfl, rfl, by decide +kernel, rfl, by decide +kernel, by decide +kernel⟩
theorem ok__law_refused_right {f : Addr} {fd : FuncData} (F : Fun K "_law_refused_right" "_law_refused_right" (topS 56) f fd) (T : Txt K mg) (c__law_deep : Has P w K mg base "_law_deep" 2 ["hand"] (spM K mg m__law_deep)) (c__law_is_between : Has P w K mg base "_law_is_between" 1 ["thing", "least", "most"] (spM K mg m__law_is_between)) (c__law_word : Has P w K mg base "_law_word" 11 ["sectors", "fan"] (spM K mg m__law_word)) (c__law_draw : Has P w K mg base "_law_draw" 1 ["hand", "many"] (spM K mg m__law_draw)) (c__law_key_word : Has P w K mg base "_law_key_word" 5 ["store", "key"] (spM K mg m__law_key_word)) : FnOk P w K mg base (L2.CX P w) 12 f fd ["hand", "store"] (spM K mg m__law_refused_right) :=
  fn_okK F sc__law_refused_right b__law_refused_right fun cdv A outer s H E hr =>
    (s_seq (s_set 2 (e_L (f_lst (a_cons e_int (a_cons e_int (a_cons e_int (a_cons e_int (a_cons e_int (a_cons e_int (a_cons e_int (a_cons e_int (a_cons e_int (a_cons (e_un un_neg fol_neg e_int) (a_cons e_bl (a_cons e_non (a_cons e_str (a_cons (e_tup (a_cons e_int a_nil)) (a_cons (e_L (f_lst (a_cons e_int a_nil))) (a_cons (e_bin op_pow fol_pow e_int e_int) (a_cons e_dnew (a_cons (e_callH c__law_deep hr (takes_of rfl rfl rfl rfl) (a_cons (e_var 0) a_nil)) (a_cons (e_var 1) a_nil))))))))))))))))))))) sc__law_refused_right.nd) (s_seq (s_for (p := (.nm 3)) (passes_of rfl) (i_range1 T.b_range (a_cons e_int a_nil)) (pg_nmP (i := 3) sc__law_refused_right.nd rfl) (s_seq (s_set 4 (e_if (t_cmp (op_cGt (hu65 hr)) fol_cGt (e_callH c__law_draw hr (takes_of rfl rfl rfl rfl) (a_cons (e_var 0) (a_cons e_int a_nil))) e_int) (e_ix (e_var 2) (e_callH c__law_draw hr (takes_of rfl rfl rfl rfl) (a_cons (e_var 0) (a_cons e_int a_nil)))) (e_bin op_add3 fol_add e_int (e_callH c__law_draw hr (takes_of rfl rfl rfl rfl) (a_cons (e_var 0) (a_cons e_int a_nil))))) sc__law_refused_right.nd) (s_seq (s_set 5 (e_if (t_cmp (op_cGt (hu65 hr)) fol_cGt (e_callH c__law_draw hr (takes_of rfl rfl rfl rfl) (a_cons (e_var 0) (a_cons e_int a_nil))) e_int) (e_ix (e_var 2) (e_callH c__law_draw hr (takes_of rfl rfl rfl rfl) (a_cons (e_var 0) (a_cons e_int a_nil)))) (e_bin op_add3 fol_add e_int (e_callH c__law_draw hr (takes_of rfl rfl rfl rfl) (a_cons (e_var 0) (a_cons e_int a_nil))))) sc__law_refused_right.nd) (s_seq (s_set 6 (e_and (e_callH c__law_is_between hr (takes_of rfl rfl rfl rfl) (a_cons (e_var 4) (a_cons e_int (a_cons e_int a_nil)))) (e_one (e_callH c__law_is_between hr (takes_of rfl rfl rfl rfl) (a_cons (e_var 5) (a_cons e_int (a_cons e_int a_nil)))))) sc__law_refused_right.nd) (s_seq (s_if (t_cmp (op_neD (hu64 hr)) fol_ne (e_callH c__law_word hr (takes_of rfl rfl rfl rfl) (a_cons (e_var 4) (a_cons (e_var 5) a_nil))) (e_ix (e_L (f_lst (a_cons e_str (a_cons e_str a_nil)))) (e_int1 T.b_int (a_cons (e_var 6) a_nil)))) (s_seq (s_ret e_bl) s_nil) s_nil) (s_seq (s_set 7 (e_ix (e_bin op_add3 fol_add (e_var 2) (e_L (f_lst (a_cons (e_bin op_pow fol_pow e_int e_int) (a_cons (e_bin op_add3 fol_add (e_bin op_pow fol_pow e_int e_int) e_int) a_nil))))) (e_callH c__law_draw hr (takes_of rfl rfl rfl rfl) (a_cons (e_var 0) (a_cons e_int a_nil)))) sc__law_refused_right.nd) (s_seq (s_if (t_cmp (op_neD (hu64 hr)) fol_ne (e_callH c__law_key_word hr (takes_of rfl rfl rfl rfl) (a_cons (e_var 1) (a_cons (e_var 7) a_nil))) (e_ix (e_L (f_lst (a_cons e_str (a_cons e_str a_nil)))) (e_int1 T.b_int (a_cons (e_callH c__law_is_between hr (takes_of rfl rfl rfl rfl) (a_cons (e_var 7) (a_cons e_int (a_cons (e_bin op_pow fol_pow e_int e_int) a_nil)))) a_nil)))) (s_seq (s_ret e_bl) s_nil) s_nil) s_nil))))))) (s_seq (s_ret e_bl) s_nil)))
theorem sc_law : FnScope ["script", "hand", "turn", "sectors", "fan", "store", "due", "drive", "deal", "told"] ["script"] (defScope (topS 57)) := ⟨rfl, rfl, rfl, by decide +kernel, rfl, by decide +kernel, by decide +kernel⟩
theorem ok_law {f : Addr} {fd : FuncData} (F : Fun K "law" "law" (topS 57) f fd) (T : Txt K mg) (c__law_hand : Has P w K mg base "_law_hand" 1 ["script"] (spL K mg m__law_hand)) (k_Store : MakOk P w K mg base "Store" 9 ["self", "sectors", "fan"] (spM K mg m_Store___init__)) (c_Store_disk : MthOk P w K mg base "Store" "disk" 1 ["self"] (spM K mg m_Store_disk)) (c_Store_begin : MthOk P w K mg base "Store" "begin" 6 ["self"] (spM K mg m_Store_begin)) (c_Store_told_pairs : MthOk P w K mg base "Store" "told_pairs" 4 ["self"] (spM K mg m_Store_told_pairs)) (c__law_draw : Has P w K mg base "_law_draw" 1 ["hand", "many"] (spM K mg m__law_draw)) (c_Store_get : MthOk P w K mg base "Store" "get" 4 ["self", "key"] (spM K mg m_Store_get)) (c_Disk_now : MthOk P w K mg base "Disk" "now" 1 ["self"] (spM K mg m_Disk_now)) (c__law_shows : Has P w K mg base "_law_shows" 5 ["store", "fan", "count", "book"] (spM K mg m__law_shows)) (c__law_number : Has P w K mg base "_law_number" 1 ["told", "due"] (spM K mg m__law_number)) (c__law_flag : Has P w K mg base "_law_flag" 1 ["told", "due"] (spM K mg m__law_flag)) (c__law_refused_right : Has P w K mg base "_law_refused_right" 12 ["hand", "store"] (spM K mg m__law_refused_right)) (c_Store_free : MthOk P w K mg base "Store" "free" 6 ["self"] (spM K mg m_Store_free)) (c_Deal_commit : MthOk P w K mg base "Deal" "commit" 3 ["self"] (spM K mg m_Deal_commit)) : FnOk P w K mg base (L2.CX P w) 13 f fd ["script"] (spM K mg m_law) :=
  fn_ok F sc_law b_law fun cdv A outer s H E hr =>
    (s_seq (s_set 1 (e_new (f_callH c__law_hand hr (takes_of rfl rfl rfl rfl) (a_cons (e_var 0) a_nil))) sc_law.nd) (s_seq (s_for (p := (.nm 2)) (passes_of rfl) (i_range1 T.b_range (a_cons e_int a_nil)) (pg_nmP (i := 2) sc_law.nd rfl) (s_seq (s_set 3 (e_ix (e_L (f_lst (a_cons (e_bin op_add3 fol_add e_int (e_callH c__law_draw hr (takes_of rfl rfl rfl rfl) (a_cons (e_var 1) (a_cons e_int a_nil)))) (a_cons e_int (a_cons e_int a_nil))))) (e_callH c__law_draw hr (takes_of rfl rfl rfl rfl) (a_cons (e_var 1) (a_cons e_int a_nil)))) sc_law.nd) (s_seq (s_set 4 (e_bin op_add3 fol_add e_int (e_callH c__law_draw hr (takes_of rfl rfl rfl rfl) (a_cons (e_var 1) (a_cons e_int a_nil)))) sc_law.nd) (s_seq (s_set 5 (e_make k_Store hr (takes_of rfl rfl rfl rfl) (a_cons (e_var 3) (a_cons (e_var 4) a_nil))) sc_law.nd) (s_seq (s_set 6 (e_bin op_add3 fol_add (e_tup (a_cons (e_tup (a_cons e_int (a_cons e_int (a_cons e_int a_nil)))) a_nil)) (e_bin op_mulA fol_mulA (e_tup (a_cons (e_tup a_nil) a_nil)) (e_bin op_sub fol_sub (e_var 3) e_int))) sc_law.nd) (s_seq (s_set 7 (e_meth0 (m := "disk") (tb_cons c_Store_disk tb_nil) hr (takes_of rfl rfl rfl rfl) (e_var 5)) sc_law.nd) (s_seq (s_if (w_or (t_cmp (op_neD (hu64 hr)) fol_ne (e_meth0 (m := "now") (tb_cons c_Disk_now tb_nil) hr (takes_of rfl rfl rfl rfl) (e_var 7)) (e_var 6)) (w_or (t_not (t_tru (e_callH c__law_shows hr (takes_of rfl rfl rfl rfl) (a_cons (e_var 5) (a_cons (e_var 4) (a_cons e_int (a_cons e_dnew a_nil))))))) (w_one .Or (t_not (t_tru (e_callH c__law_number hr (takes_of rfl rfl rfl rfl) (a_cons (e_meth0 (m := "free") (tb_cons c_Store_free tb_nil) hr (takes_of rfl rfl rfl rfl) (e_var 5)) (a_cons (e_bin op_sub fol_sub (e_var 3) e_int) a_nil)))))))).pt (s_seq (s_ret e_bl) s_nil) s_nil) (s_seq (s_if (t_cmp op_notN fol_notN (e_meth (m := "get") (tb_cons c_Store_get tb_nil) hr (takes_of rfl rfl rfl rfl) (e_var 5) (a_cons (e_ix (e_L (f_lst (a_cons e_int (a_cons (e_bin op_pow fol_pow e_int e_int) (a_cons (e_callH c__law_draw hr (takes_of rfl rfl rfl rfl) (a_cons (e_var 1) (a_cons (e_bin op_pow fol_pow e_int e_int) a_nil))) a_nil))))) (e_callH c__law_draw hr (takes_of rfl rfl rfl rfl) (a_cons (e_var 1) (a_cons e_int a_nil)))) a_nil)) e_non) (s_seq (s_ret e_bl) s_nil) s_nil) (s_seq (s_set 8 (e_meth0 (m := "begin") (tb_cons c_Store_begin tb_nil) hr (takes_of rfl rfl rfl rfl) (e_var 5)) sc_law.nd) (s_seq (s_if (w_or (t_not (t_tru (e_callH c__law_number hr (takes_of rfl rfl rfl rfl) (a_cons (e_meth0 (m := "free") (tb_cons c_Store_free tb_nil) hr (takes_of rfl rfl rfl rfl) (e_var 5)) (a_cons (e_bin op_sub fol_sub (e_var 3) e_int) a_nil))))) (w_one .Or (t_not (t_tru (e_callH c__law_flag hr (takes_of rfl rfl rfl rfl) (a_cons (e_meth0 (m := "commit") (tb_cons c_Deal_commit tb_nil) hr (takes_of rfl rfl rfl rfl) (e_var 8)) (a_cons e_bl a_nil))))))).pt (s_seq (s_ret e_bl) s_nil) s_nil) (s_seq (s_if (w_or (t_cmp (op_neD (hu64 hr)) fol_ne (e_meth0 (m := "now") (tb_cons c_Disk_now tb_nil) hr (takes_of rfl rfl rfl rfl) (e_var 7)) (e_var 6)) (w_or (t_not (t_tru (e_callH c__law_shows hr (takes_of rfl rfl rfl rfl) (a_cons (e_var 5) (a_cons (e_var 4) (a_cons e_int (a_cons e_dnew a_nil))))))) (w_one .Or (t_not (t_tru (e_callH c__law_refused_right hr (takes_of rfl rfl rfl rfl) (a_cons (e_var 1) (a_cons (e_var 5) a_nil)))))))).pt (s_seq (s_ret e_bl) s_nil) s_nil) (s_seq (s_set 9 (e_meth0 (m := "told_pairs") (tb_cons c_Store_told_pairs tb_nil) hr (takes_of rfl rfl rfl rfl) (e_var 5)) sc_law.nd) (s_seq (s_expr (e_app (e_var 9) (a_cons e_non a_nil))) (s_seq (s_if (t_cmp (op_neD (hu64 hr)) fol_ne (e_meth0 (m := "told_pairs") (tb_cons c_Store_told_pairs tb_nil) hr (takes_of rfl rfl rfl rfl) (e_var 5)) (e_L (f_lst a_nil))) (s_seq (s_ret e_bl) s_nil) s_nil) s_nil)))))))))))))) (s_seq (s_ret e_bl) s_nil)))
end
end My
namespace My
open PySem PySem.Spec PyProof.Rows L2 AB
theorem all_mk {l : PySem.W.OpenLaw} {w : World} {K : PySem.W.Frag} {h : Heap} {mg : Str → Option Value} {fa : Addr} (X : K.In h) (G : h.Ns mainGlobals mg) (hfa : mg "law" = some (.ref fa))
    (ht : ∀ ns : List Int, ns.length ≤ 63 → ∃ h, m_law [.rol (ns.map D.int)] [] = .ok (.bl true) h)
    {f0 : Addr} {od0 an0 : Option Addr} {sl0 : Array (Option Value)} {oc0 kV0 dc0 pm0 cd0 ct0 : Value}
    {f1 : Addr} {od1 an1 : Option Addr} {sl1 : Array (Option Value)} {oc1 kV1 dc1 pm1 cd1 ct1 : Value}
    {f2 : Addr} {od2 an2 : Option Addr} {sl2 : Array (Option Value)} {oc2 kV2 dc2 pm2 cd2 ct2 : Value}
    {f3 : Addr} {od3 an3 : Option Addr} {sl3 : Array (Option Value)} {oc3 kV3 dc3 pm3 cd3 ct3 : Value}
    {f4 : Addr} {od4 an4 : Option Addr} {sl4 : Array (Option Value)} {oc4 kV4 dc4 pm4 cd4 ct4 : Value}
    {f5 : Addr} {od5 an5 : Option Addr} {sl5 : Array (Option Value)} {oc5 kV5 dc5 pm5 cd5 ct5 : Value}
    {f6 : Addr} {od6 an6 : Option Addr} {sl6 : Array (Option Value)} {oc6 kV6 dc6 pm6 cd6 ct6 : Value}
    {f7 : Addr} {od7 an7 : Option Addr} {sl7 : Array (Option Value)} {oc7 kV7 dc7 pm7 cd7 ct7 : Value}
    {f8 : Addr} {od8 an8 : Option Addr} {sl8 : Array (Option Value)} {oc8 kV8 dc8 pm8 cd8 ct8 : Value}
    {f9 : Addr} {od9 an9 : Option Addr} {sl9 : Array (Option Value)} {oc9 kV9 dc9 pm9 cd9 ct9 : Value}
    {f10 : Addr} {od10 an10 : Option Addr} {sl10 : Array (Option Value)} {oc10 kV10 dc10 pm10 cd10 ct10 : Value}
    {f11 : Addr} {od11 an11 : Option Addr} {sl11 : Array (Option Value)} {oc11 kV11 dc11 pm11 cd11 ct11 : Value}
    {f12 : Addr} {od12 an12 : Option Addr} {sl12 : Array (Option Value)} {oc12 kV12 dc12 pm12 cd12 ct12 : Value}
    {f13 : Addr} {od13 an13 : Option Addr} {sl13 : Array (Option Value)} {oc13 kV13 dc13 pm13 cd13 ct13 : Value}
    {f14 : Addr} {od14 an14 : Option Addr} {sl14 : Array (Option Value)} {oc14 kV14 dc14 pm14 cd14 ct14 : Value}
    {f15 : Addr} {od15 an15 : Option Addr} {sl15 : Array (Option Value)} {oc15 kV15 dc15 pm15 cd15 ct15 : Value}
    {f16 : Addr} {od16 an16 : Option Addr} {sl16 : Array (Option Value)} {oc16 kV16 dc16 pm16 cd16 ct16 : Value}
    {f17 : Addr} {od17 an17 : Option Addr} {sl17 : Array (Option Value)} {oc17 kV17 dc17 pm17 cd17 ct17 : Value}
    {f18 : Addr} {od18 an18 : Option Addr} {sl18 : Array (Option Value)} {oc18 kV18 dc18 pm18 cd18 ct18 : Value}
    {f19 : Addr} {od19 an19 : Option Addr} {sl19 : Array (Option Value)} {oc19 kV19 dc19 pm19 cd19 ct19 : Value}
    {f20 : Addr} {od20 an20 : Option Addr} {sl20 : Array (Option Value)} {oc20 kV20 dc20 pm20 cd20 ct20 : Value}
    {f21 : Addr} {od21 an21 : Option Addr} {sl21 : Array (Option Value)} {oc21 kV21 dc21 pm21 cd21 ct21 : Value}
    {f22 : Addr} {od22 an22 : Option Addr} {sl22 : Array (Option Value)} {oc22 kV22 dc22 pm22 cd22 ct22 : Value}
    {f23 : Addr} {od23 an23 : Option Addr} {sl23 : Array (Option Value)} {oc23 kV23 dc23 pm23 cd23 ct23 : Value}
    {f24 : Addr} {od24 an24 : Option Addr} {sl24 : Array (Option Value)} {oc24 kV24 dc24 pm24 cd24 ct24 : Value}
    {f25 : Addr} {od25 an25 : Option Addr} {sl25 : Array (Option Value)} {oc25 kV25 dc25 pm25 cd25 ct25 : Value}
    {f26 : Addr} {od26 an26 : Option Addr} {sl26 : Array (Option Value)} {oc26 kV26 dc26 pm26 cd26 ct26 : Value}
    {f27 : Addr} {od27 an27 : Option Addr} {sl27 : Array (Option Value)} {oc27 kV27 dc27 pm27 cd27 ct27 : Value}
    {f28 : Addr} {od28 an28 : Option Addr} {sl28 : Array (Option Value)} {oc28 kV28 dc28 pm28 cd28 ct28 : Value}
    {f29 : Addr} {od29 an29 : Option Addr} {sl29 : Array (Option Value)} {oc29 kV29 dc29 pm29 cd29 ct29 : Value}
    {f30 : Addr} {od30 an30 : Option Addr} {sl30 : Array (Option Value)} {oc30 kV30 dc30 pm30 cd30 ct30 : Value}
    {f31 : Addr} {od31 an31 : Option Addr} {sl31 : Array (Option Value)} {oc31 kV31 dc31 pm31 cd31 ct31 : Value}
    {f32 : Addr} {od32 an32 : Option Addr} {sl32 : Array (Option Value)} {oc32 kV32 dc32 pm32 cd32 ct32 : Value}
    {f33 : Addr} {od33 an33 : Option Addr} {sl33 : Array (Option Value)} {oc33 kV33 dc33 pm33 cd33 ct33 : Value}
    {f34 : Addr} {od34 an34 : Option Addr} {sl34 : Array (Option Value)} {oc34 kV34 dc34 pm34 cd34 ct34 : Value}
    {f35 : Addr} {od35 an35 : Option Addr} {sl35 : Array (Option Value)} {oc35 kV35 dc35 pm35 cd35 ct35 : Value}
    {f36 : Addr} {od36 an36 : Option Addr} {sl36 : Array (Option Value)} {oc36 kV36 dc36 pm36 cd36 ct36 : Value}
    {f37 : Addr} {od37 an37 : Option Addr} {sl37 : Array (Option Value)} {oc37 kV37 dc37 pm37 cd37 ct37 : Value}
    {f38 : Addr} {od38 an38 : Option Addr} {sl38 : Array (Option Value)} {oc38 kV38 dc38 pm38 cd38 ct38 : Value}
    {f39 : Addr} {od39 an39 : Option Addr} {sl39 : Array (Option Value)} {oc39 kV39 dc39 pm39 cd39 ct39 : Value}
    {f40 : Addr} {od40 an40 : Option Addr} {sl40 : Array (Option Value)} {oc40 kV40 dc40 pm40 cd40 ct40 : Value}
    {f41 : Addr} {od41 an41 : Option Addr} {sl41 : Array (Option Value)} {oc41 kV41 dc41 pm41 cd41 ct41 : Value}
    {f42 : Addr} {od42 an42 : Option Addr} {sl42 : Array (Option Value)} {oc42 kV42 dc42 pm42 cd42 ct42 : Value}
    {f43 : Addr} {od43 an43 : Option Addr} {sl43 : Array (Option Value)} {oc43 kV43 dc43 pm43 cd43 ct43 : Value}
    {f44 : Addr} {od44 an44 : Option Addr} {sl44 : Array (Option Value)} {oc44 kV44 dc44 pm44 cd44 ct44 : Value}
    {t0 : Tok}
    {t1 : Tok}
    {t2 : Tok}
    {t3 : Tok}
    {t4 : Tok}
    {t5 : Tok}
    {t6 : Tok}
    {t7 : Tok}
    {t8 : Tok}
    {C0 : Addr}
    {C1 : Addr}
    {C2 : Addr}
    {C3 : Addr}
    {E0 : Addr} (eg0 : PySem.W.nsIn K mainGlobals "NoKey" = some (some (.ref E0)))
    {E1 : Addr} (eg1 : PySem.W.nsIn K mainGlobals "NoNumber" = some (some (.ref E1)))
    {E2 : Addr} (eg2 : PySem.W.nsIn K mainGlobals "SectorError" = some (some (.ref E2)))
    (ea0a : PySem.W.subIn K (.ref E0) (.type "BaseException") = some true) (ea0b : PySem.W.hasDictIn K E0 = true) (ea0c : PySem.W.typeIn K (.ref E0) = some (.type "type"))
    (ea1a : PySem.W.subIn K (.ref E1) (.type "BaseException") = some true) (ea1b : PySem.W.hasDictIn K E1 = true) (ea1c : PySem.W.typeIn K (.ref E1) = some (.type "type"))
    (ea2a : PySem.W.subIn K (.ref E2) (.type "BaseException") = some true) (ea2b : PySem.W.hasDictIn K E2 = true) (ea2c : PySem.W.typeIn K (.ref E2) = some (.type "type"))
    (es0 : PySem.W.subIn K (.ref E0) (.ref E0) = some true)
    (es1 : PySem.W.subIn K (.ref E0) (.ref E1) = some false)
    (en1 : (Value.ref E0 == Value.ref E1) = false)
    (es2 : PySem.W.subIn K (.ref E0) (.ref E2) = some true)
    (es3 : PySem.W.subIn K (.ref E1) (.ref E0) = some false)
    (en3 : (Value.ref E1 == Value.ref E0) = false)
    (es4 : PySem.W.subIn K (.ref E1) (.ref E1) = some true)
    (es5 : PySem.W.subIn K (.ref E1) (.ref E2) = some true)
    (eq0a : PySem.W.findIn K (.ref E0) "__getattribute__" = some (some (.builtin "BaseException.__getattribute__"))) (eq0b : PySem.W.findIn K (.ref E0) "__getattr__" = some none) (eq0c : PySem.W.subIn K (.ref E0) (.type "BaseException") = some true) (eq0d : PySem.W.hasDictIn K E0 = true) (eq0e : PySem.W.findIn K (.ref E0) "__class__" = some (some (.builtin "object.__class__"))) (eq0f : PySem.W.mroIn K E0 (.type "object") = some true)
    (eq1a : PySem.W.findIn K (.ref E1) "__getattribute__" = some (some (.builtin "BaseException.__getattribute__"))) (eq1b : PySem.W.findIn K (.ref E1) "__getattr__" = some none) (eq1c : PySem.W.subIn K (.ref E1) (.type "BaseException") = some true) (eq1d : PySem.W.hasDictIn K E1 = true) (eq1e : PySem.W.findIn K (.ref E1) "__class__" = some (some (.builtin "object.__class__"))) (eq1f : PySem.W.mroIn K E1 (.type "object") = some true)
    (cs1 : PySem.W.specialIn K (.builtin "object.__class__") "__get__" = some (some (.builtin "getset_descriptor.__get__"))) (cs2 : PySem.W.takesIn K (.builtin "object.__class__") = some true)
    {D0 : Addr}
    {D1 : Addr}
    {D2 : Addr}
    {D3 : Addr}
    (oa0 : PySem.W.nsIn K mainGlobals "Deal" = some (some (.ref D0))) (pg0 : PySem.W.plainGet K D0 Str.empty = true) (hd0 : PySem.W.hasDictIn K D0 = true) (po0 : PySem.W.plainOver K D0 = true) (sa0 : PySem.W.findIn K (.ref D0) "__setattr__" = some (some (.builtin "object.__setattr__")))
    (mk0 : PySem.W.makesIn K D0 = true) (kc0 : PySem.W.keepIn K (.ref D0) = true)
    (oa1 : PySem.W.nsIn K mainGlobals "Disk" = some (some (.ref D1))) (pg1 : PySem.W.plainGet K D1 Str.empty = true) (hd1 : PySem.W.hasDictIn K D1 = true) (po1 : PySem.W.plainOver K D1 = true) (sa1 : PySem.W.findIn K (.ref D1) "__setattr__" = some (some (.builtin "object.__setattr__")))
    (mk1 : PySem.W.makesIn K D1 = true) (kc1 : PySem.W.keepIn K (.ref D1) = true)
    (oa2 : PySem.W.nsIn K mainGlobals "Store" = some (some (.ref D2))) (pg2 : PySem.W.plainGet K D2 Str.empty = true) (hd2 : PySem.W.hasDictIn K D2 = true) (po2 : PySem.W.plainOver K D2 = true) (sa2 : PySem.W.findIn K (.ref D2) "__setattr__" = some (some (.builtin "object.__setattr__")))
    (mk2 : PySem.W.makesIn K D2 = true) (kc2 : PySem.W.keepIn K (.ref D2) = true)
    (oa3 : PySem.W.nsIn K mainGlobals "Tree" = some (some (.ref D3))) (pg3 : PySem.W.plainGet K D3 Str.empty = true) (hd3 : PySem.W.hasDictIn K D3 = true) (po3 : PySem.W.plainOver K D3 = true) (sa3 : PySem.W.findIn K (.ref D3) "__setattr__" = some (some (.builtin "object.__setattr__")))
    (mk3 : PySem.W.makesIn K D3 = true) (kc3 : PySem.W.keepIn K (.ref D3) = true)
    (tc0 : PySem.W.findIn K (.ref D2) "__class__" = some (some (.builtin "object.__class__"))) (to0 : PySem.W.mroIn K D2 (.type "object") = some true)
    (tt0 : PySem.W.subIn K (.ref D2) (.type "bool") = some false)
    (tt1 : PySem.W.subIn K (.ref D2) (.type "int") = some false)
    (tt2 : PySem.W.subIn K (.ref D2) (.type "list") = some false)
    (tt3 : PySem.W.subIn K (.ref D2) (.type "tuple") = some false)
    (nf0 : PySem.W.findIn K (.ref D0) "count" = some none)
    (nf1 : PySem.W.findIn K (.ref D0) "is_over" = some none)
    (nf2 : PySem.W.findIn K (.ref D0) "number" = some none)
    (nf3 : PySem.W.findIn K (.ref D0) "sectors" = some none)
    (nf4 : PySem.W.findIn K (.ref D0) "store" = some none)
    (nf5 : PySem.W.findIn K (.ref D0) "tree" = some none)
    (nf6 : PySem.W.findIn K (.ref D0) "writes" = some none)
    (nf7 : PySem.W.findIn K (.ref D1) "kept" = some none)
    (nf8 : PySem.W.findIn K (.ref D1) "watcher" = some none)
    (nf9 : PySem.W.findIn K (.ref D1) "writes" = some none)
    (nf10 : PySem.W.findIn K (.ref D2) "begun" = some none)
    (nf11 : PySem.W.findIn K (.ref D2) "deals" = some none)
    (nf12 : PySem.W.findIn K (.ref D2) "fan" = some none)
    (nf13 : PySem.W.findIn K (.ref D2) "head" = some none)
    (nf14 : PySem.W.findIn K (.ref D2) "kept_disk" = some none)
    (nf15 : PySem.W.findIn K (.ref D2) "written" = some none)
    (nf16 : PySem.W.findIn K (.ref D3) "fan" = some none)
    (nf17 : PySem.W.findIn K (.ref D3) "root" = some none)
    (nf18 : PySem.W.findIn K (.ref D3) "state" = some none)
    (a0 : PySem.W.nsIn K mainGlobals "_law_hand" = some (some (.ref f0)))
    (l0 : K.lookup f0 = some ⟨oc0, od0, .func (PySem.W.fnOf "_law_hand" "_law_hand" (defArgs (topS 42)) (defBody (topS 42)) (defScope (topS 42)) .none kV0 dc0 pm0 an0 cd0 ct0), sl0⟩) (c0 : PySem.W.codeIn K cd0 "_law_hand" = true) (k0 : PySem.W.keepIn K (.ref f0) = true)
    (a1 : PySem.W.nsIn K mainGlobals "is_integer" = some (some (.ref f1)))
    (l1 : K.lookup f1 = some ⟨oc1, od1, .func (PySem.W.fnOf "is_integer" "is_integer" (defArgs (topS 14)) (defBody (topS 14)) (defScope (topS 14)) .none kV1 dc1 pm1 an1 cd1 ct1), sl1⟩) (c1 : PySem.W.codeIn K cd1 "is_integer" = true) (k1 : PySem.W.keepIn K (.ref f1) = true)
    (m30 : PySem.W.findIn K (.ref D2) "keep" = some (some (.ref f2)))
    (l2 : K.lookup f2 = some ⟨oc2, od2, .func (PySem.W.fnOf "keep" "Store.keep" (defArgs (inClass (topS 39) 1)) (defBody (inClass (topS 39) 1)) (defScope (inClass (topS 39) 1)) .none kV2 dc2 pm2 an2 cd2 ct2), sl2⟩) (c2 : PySem.W.codeIn K cd2 "Store.keep" = true) (k2 : PySem.W.keepIn K (.ref f2) = true)
    (i2 : PySem.W.isFn K (.ref f2) = true)
    (m19 : PySem.W.findIn K (.ref D2) "disk" = some (some (.ref f3)))
    (l3 : K.lookup f3 = some ⟨oc3, od3, .func (PySem.W.fnOf "disk" "Store.disk" (defArgs (inClass (topS 39) 2)) (defBody (inClass (topS 39) 2)) (defScope (inClass (topS 39) 2)) .none kV3 dc3 pm3 an3 cd3 ct3), sl3⟩) (c3 : PySem.W.codeIn K cd3 "Store.disk" = true) (k3 : PySem.W.keepIn K (.ref f3) = true)
    (i3 : PySem.W.isFn K (.ref f3) = true)
    (m9 : PySem.W.findIn K (.ref D2) "count" = some (some (.ref f4)))
    (l4 : K.lookup f4 = some ⟨oc4, od4, .func (PySem.W.fnOf "count" "Store.count" (defArgs (inClass (topS 39) 3)) (defBody (inClass (topS 39) 3)) (defScope (inClass (topS 39) 3)) .none kV4 dc4 pm4 an4 cd4 ct4), sl4⟩) (c4 : PySem.W.codeIn K cd4 "Store.count" = true) (k4 : PySem.W.keepIn K (.ref f4) = true)
    (i4 : PySem.W.isFn K (.ref f4) = true)
    (m5 : PySem.W.findIn K (.ref D3) "__init__" = some (some (.ref f5)))
    (l5 : K.lookup f5 = some ⟨oc5, od5, .func (PySem.W.fnOf "__init__" "Tree.__init__" (defArgs (inClass (topS 30) 0)) (defBody (inClass (topS 30) 0)) (defScope (inClass (topS 30) 0)) .none kV5 dc5 pm5 an5 cd5 ct5), sl5⟩) (c5 : PySem.W.codeIn K cd5 "Tree.__init__" = true) (k5 : PySem.W.keepIn K (.ref f5) = true)
    (i5 : PySem.W.isFn K (.ref f5) = true)
    (m6 : PySem.W.findIn K (.ref D1) "now" = some (some (.ref f6)))
    (l6 : K.lookup f6 = some ⟨oc6, od6, .func (PySem.W.fnOf "now" "Disk.now" (defArgs (inClass (topS 23) 4)) (defBody (inClass (topS 23) 4)) (defScope (inClass (topS 23) 4)) .none kV6 dc6 pm6 an6 cd6 ct6), sl6⟩) (c6 : PySem.W.codeIn K cd6 "Disk.now" = true) (k6 : PySem.W.keepIn K (.ref f6) = true)
    (i6 : PySem.W.isFn K (.ref f6) = true)
    (m11 : PySem.W.findIn K (.ref D3) "sectors" = some (some (.ref f7)))
    (l7 : K.lookup f7 = some ⟨oc7, od7, .func (PySem.W.fnOf "sectors" "Tree.sectors" (defArgs (inClass (topS 30) 4)) (defBody (inClass (topS 30) 4)) (defScope (inClass (topS 30) 4)) .none kV7 dc7 pm7 an7 cd7 ct7), sl7⟩) (c7 : PySem.W.codeIn K cd7 "Tree.sectors" = true) (k7 : PySem.W.keepIn K (.ref f7) = true)
    (i7 : PySem.W.isFn K (.ref f7) = true)
    (m12 : PySem.W.findIn K (.ref D3) "pairs" = some (some (.ref f8)))
    (l8 : K.lookup f8 = some ⟨oc8, od8, .func (PySem.W.fnOf "pairs" "Tree.pairs" (defArgs (inClass (topS 30) 3)) (defBody (inClass (topS 30) 3)) (defScope (inClass (topS 30) 3)) .none kV8 dc8 pm8 an8 cd8 ct8), sl8⟩) (c8 : PySem.W.codeIn K cd8 "Tree.pairs" = true) (k8 : PySem.W.keepIn K (.ref f8) = true)
    (i8 : PySem.W.isFn K (.ref f8) = true)
    (a9 : PySem.W.nsIn K mainGlobals "_law_draw" = some (some (.ref f9)))
    (l9 : K.lookup f9 = some ⟨oc9, od9, .func (PySem.W.fnOf "_law_draw" "_law_draw" (defArgs (topS 43)) (defBody (topS 43)) (defScope (topS 43)) .none kV9 dc9 pm9 an9 cd9 ct9), sl9⟩) (c9 : PySem.W.codeIn K cd9 "_law_draw" = true) (k9 : PySem.W.keepIn K (.ref f9) = true)
    (m14 : PySem.W.findIn K (.ref D3) "find" = some (some (.ref f10)))
    (l10 : K.lookup f10 = some ⟨oc10, od10, .func (PySem.W.fnOf "find" "Tree.find" (defArgs (inClass (topS 30) 2)) (defBody (inClass (topS 30) 2)) (defScope (inClass (topS 30) 2)) .none kV10 dc10 pm10 an10 cd10 ct10), sl10⟩) (c10 : PySem.W.codeIn K cd10 "Tree.find" = true) (k10 : PySem.W.keepIn K (.ref f10) = true)
    (i10 : PySem.W.isFn K (.ref f10) = true)
    (a11 : PySem.W.nsIn K mainGlobals "_law_head" = some (some (.ref f11)))
    (l11 : K.lookup f11 = some ⟨oc11, od11, .func (PySem.W.fnOf "_law_head" "_law_head" (defArgs (topS 46)) (defBody (topS 46)) (defScope (topS 46)) .none kV11 dc11 pm11 an11 cd11 ct11), sl11⟩) (c11 : PySem.W.codeIn K cd11 "_law_head" = true) (k11 : PySem.W.keepIn K (.ref f11) = true)
    (a12 : PySem.W.nsIn K mainGlobals "_law_pairs" = some (some (.ref f12)))
    (l12 : K.lookup f12 = some ⟨oc12, od12, .func (PySem.W.fnOf "_law_pairs" "_law_pairs" (defArgs (topS 50)) (defBody (topS 50)) (defScope (topS 50)) .none kV12 dc12 pm12 an12 cd12 ct12), sl12⟩) (c12 : PySem.W.codeIn K cd12 "_law_pairs" = true) (k12 : PySem.W.keepIn K (.ref f12) = true)
    (m20 : PySem.W.findIn K (.ref D1) "waiting" = some (some (.ref f13)))
    (l13 : K.lookup f13 = some ⟨oc13, od13, .func (PySem.W.fnOf "waiting" "Disk.waiting" (defArgs (inClass (topS 23) 6)) (defBody (inClass (topS 23) 6)) (defScope (inClass (topS 23) 6)) .none kV13 dc13 pm13 an13 cd13 ct13), sl13⟩) (c13 : PySem.W.codeIn K cd13 "Disk.waiting" = true) (k13 : PySem.W.keepIn K (.ref f13) = true)
    (i13 : PySem.W.isFn K (.ref f13) = true)
    (m21 : PySem.W.findIn K (.ref D1) "settled" = some (some (.ref f14)))
    (l14 : K.lookup f14 = some ⟨oc14, od14, .func (PySem.W.fnOf "settled" "Disk.settled" (defArgs (inClass (topS 23) 5)) (defBody (inClass (topS 23) 5)) (defScope (inClass (topS 23) 5)) .none kV14 dc14 pm14 an14 cd14 ct14), sl14⟩) (c14 : PySem.W.codeIn K cd14 "Disk.settled" = true) (k14 : PySem.W.keepIn K (.ref f14) = true)
    (i14 : PySem.W.isFn K (.ref f14) = true)
    (a15 : PySem.W.nsIn K mainGlobals "_law_number" = some (some (.ref f15)))
    (l15 : K.lookup f15 = some ⟨oc15, od15, .func (PySem.W.fnOf "_law_number" "_law_number" (defArgs (topS 45)) (defBody (topS 45)) (defScope (topS 45)) .none kV15 dc15 pm15 an15 cd15 ct15), sl15⟩) (c15 : PySem.W.codeIn K cd15 "_law_number" = true) (k15 : PySem.W.keepIn K (.ref f15) = true)
    (a16 : PySem.W.nsIn K mainGlobals "_law_flag" = some (some (.ref f16)))
    (l16 : K.lookup f16 = some ⟨oc16, od16, .func (PySem.W.fnOf "_law_flag" "_law_flag" (defArgs (topS 44)) (defBody (topS 44)) (defScope (topS 44)) .none kV16 dc16 pm16 an16 cd16 ct16), sl16⟩) (c16 : PySem.W.codeIn K cd16 "_law_flag" = true) (k16 : PySem.W.keepIn K (.ref f16) = true)
    (a17 : PySem.W.nsIn K mainGlobals "_law_is_between" = some (some (.ref f17)))
    (l17 : K.lookup f17 = some ⟨oc17, od17, .func (PySem.W.fnOf "_law_is_between" "_law_is_between" (defArgs (topS 53)) (defBody (topS 53)) (defScope (topS 53)) .none kV17 dc17 pm17 an17 cd17 ct17), sl17⟩) (c17 : PySem.W.codeIn K cd17 "_law_is_between" = true) (k17 : PySem.W.keepIn K (.ref f17) = true)
    (m3 : PySem.W.findIn K (.ref D0) "check" = some (some (.ref f18)))
    (l18 : K.lookup f18 = some ⟨oc18, od18, .func (PySem.W.fnOf "check" "Deal.check" (defArgs (inClass (topS 40) 1)) (defBody (inClass (topS 40) 1)) (defScope (inClass (topS 40) 1)) .none kV18 dc18 pm18 an18 cd18 ct18), sl18⟩) (c18 : PySem.W.codeIn K cd18 "Deal.check" = true) (k18 : PySem.W.keepIn K (.ref f18) = true)
    (i18 : PySem.W.isFn K (.ref f18) = true)
    (a19 : PySem.W.nsIn K mainGlobals "is_between" = some (some (.ref f19)))
    (l19 : K.lookup f19 = some ⟨oc19, od19, .func (PySem.W.fnOf "is_between" "is_between" (defArgs (topS 15)) (defBody (topS 15)) (defScope (topS 15)) .none kV19 dc19 pm19 an19 cd19 ct19), sl19⟩) (c19 : PySem.W.codeIn K cd19 "is_between" = true) (k19 : PySem.W.keepIn K (.ref f19) = true)
    (a20 : PySem.W.nsIn K mainGlobals "_law_stored" = some (some (.ref f20)))
    (l20 : K.lookup f20 = some ⟨oc20, od20, .func (PySem.W.fnOf "_law_stored" "_law_stored" (defArgs (topS 49)) (defBody (topS 49)) (defScope (topS 49)) .none kV20 dc20 pm20 an20 cd20 ct20), sl20⟩) (c20 : PySem.W.codeIn K cd20 "_law_stored" = true) (k20 : PySem.W.keepIn K (.ref f20) = true)
    (a21 : PySem.W.nsIn K mainGlobals "_law_deep" = some (some (.ref f21)))
    (l21 : K.lookup f21 = some ⟨oc21, od21, .func (PySem.W.fnOf "_law_deep" "_law_deep" (defArgs (topS 52)) (defBody (topS 52)) (defScope (topS 52)) .none kV21 dc21 pm21 an21 cd21 ct21), sl21⟩) (c21 : PySem.W.codeIn K cd21 "_law_deep" = true) (k21 : PySem.W.keepIn K (.ref f21) = true)
    (m7 : PySem.W.findIn K (.ref D0) "leave" = some (some (.ref f22)))
    (l22 : K.lookup f22 = some ⟨oc22, od22, .func (PySem.W.fnOf "leave" "Deal.leave" (defArgs (inClass (topS 40) 7)) (defBody (inClass (topS 40) 7)) (defScope (inClass (topS 40) 7)) .none kV22 dc22 pm22 an22 cd22 ct22), sl22⟩) (c22 : PySem.W.codeIn K cd22 "Deal.leave" = true) (k22 : PySem.W.keepIn K (.ref f22) = true)
    (i22 : PySem.W.isFn K (.ref f22) = true)
    (a23 : PySem.W.nsIn K mainGlobals "check_number" = some (some (.ref f23)))
    (l23 : K.lookup f23 = some ⟨oc23, od23, .func (PySem.W.fnOf "check_number" "check_number" (defArgs (topS 17)) (defBody (topS 17)) (defScope (topS 17)) .none kV23 dc23 pm23 an23 cd23 ct23), sl23⟩) (c23 : PySem.W.codeIn K cd23 "check_number" = true) (k23 : PySem.W.keepIn K (.ref f23) = true)
    (a24 : PySem.W.nsIn K mainGlobals "is_value" = some (some (.ref f24)))
    (l24 : K.lookup f24 = some ⟨oc24, od24, .func (PySem.W.fnOf "is_value" "is_value" (defArgs (topS 18)) (defBody (topS 18)) (defScope (topS 18)) .none kV24 dc24 pm24 an24 cd24 ct24), sl24⟩) (c24 : PySem.W.codeIn K cd24 "is_value" = true) (k24 : PySem.W.keepIn K (.ref f24) = true)
    (m10 : PySem.W.findIn K (.ref D2) "tree" = some (some (.ref f25)))
    (l25 : K.lookup f25 = some ⟨oc25, od25, .func (PySem.W.fnOf "tree" "Store.tree" (defArgs (inClass (topS 39) 4)) (defBody (inClass (topS 39) 4)) (defScope (inClass (topS 39) 4)) .none kV25 dc25 pm25 an25 cd25 ct25), sl25⟩) (c25 : PySem.W.codeIn K cd25 "Store.tree" = true) (k25 : PySem.W.keepIn K (.ref f25) = true)
    (i25 : PySem.W.isFn K (.ref f25) = true)
    (a26 : PySem.W.nsIn K mainGlobals "check_key" = some (some (.ref f26)))
    (l26 : K.lookup f26 = some ⟨oc26, od26, .func (PySem.W.fnOf "check_key" "check_key" (defArgs (topS 38)) (defBody (topS 38)) (defScope (topS 38)) .none kV26 dc26 pm26 an26 cd26 ct26), sl26⟩) (c26 : PySem.W.codeIn K cd26 "check_key" = true) (k26 : PySem.W.keepIn K (.ref f26) = true)
    (m43 : PySem.W.findIn K (.ref D0) "commit" = some (some (.ref f27)))
    (l27 : K.lookup f27 = some ⟨oc27, od27, .func (PySem.W.fnOf "commit" "Deal.commit" (defArgs (inClass (topS 40) 8)) (defBody (inClass (topS 40) 8)) (defScope (inClass (topS 40) 8)) .none kV27 dc27 pm27 an27 cd27 ct27), sl27⟩) (c27 : PySem.W.codeIn K cd27 "Deal.commit" = true) (k27 : PySem.W.keepIn K (.ref f27) = true)
    (i27 : PySem.W.isFn K (.ref f27) = true)
    (a28 : PySem.W.nsIn K mainGlobals "is_held" = some (some (.ref f28)))
    (l28 : K.lookup f28 = some ⟨oc28, od28, .func (PySem.W.fnOf "is_held" "is_held" (defArgs (topS 19)) (defBody (topS 19)) (defScope (topS 19)) .none kV28 dc28 pm28 an28 cd28 ct28), sl28⟩) (c28 : PySem.W.codeIn K cd28 "is_held" = true) (k28 : PySem.W.keepIn K (.ref f28) = true)
    (m26 : PySem.W.findIn K (.ref D0) "__init__" = some (some (.ref f29)))
    (l29 : K.lookup f29 = some ⟨oc29, od29, .func (PySem.W.fnOf "__init__" "Deal.__init__" (defArgs (inClass (topS 40) 0)) (defBody (inClass (topS 40) 0)) (defScope (inClass (topS 40) 0)) .none kV29 dc29 pm29 an29 cd29 ct29), sl29⟩) (c29 : PySem.W.codeIn K cd29 "Deal.__init__" = true) (k29 : PySem.W.keepIn K (.ref f29) = true)
    (i29 : PySem.W.isFn K (.ref f29) = true)
    (m18 : PySem.W.findIn K (.ref D2) "told_pairs" = some (some (.ref f30)))
    (l30 : K.lookup f30 = some ⟨oc30, od30, .func (PySem.W.fnOf "told_pairs" "Store.told_pairs" (defArgs (inClass (topS 39) 5)) (defBody (inClass (topS 39) 5)) (defScope (inClass (topS 39) 5)) .none kV30 dc30 pm30 an30 cd30 ct30), sl30⟩) (c30 : PySem.W.codeIn K cd30 "Store.told_pairs" = true) (k30 : PySem.W.keepIn K (.ref f30) = true)
    (i30 : PySem.W.isFn K (.ref f30) = true)
    (m24 : PySem.W.findIn K (.ref D2) "get" = some (some (.ref f31)))
    (l31 : K.lookup f31 = some ⟨oc31, od31, .func (PySem.W.fnOf "get" "Store.get" (defArgs (inClass (topS 39) 6)) (defBody (inClass (topS 39) 6)) (defScope (inClass (topS 39) 6)) .none kV31 dc31 pm31 an31 cd31 ct31), sl31⟩) (c31 : PySem.W.codeIn K cd31 "Store.get" = true) (k31 : PySem.W.keepIn K (.ref f31) = true)
    (i31 : PySem.W.isFn K (.ref f31) = true)
    (m23 : PySem.W.findIn K (.ref D2) "pages" = some (some (.ref f32)))
    (l32 : K.lookup f32 = some ⟨oc32, od32, .func (PySem.W.fnOf "pages" "Store.pages" (defArgs (inClass (topS 39) 7)) (defBody (inClass (topS 39) 7)) (defScope (inClass (topS 39) 7)) .none kV32 dc32 pm32 an32 cd32 ct32), sl32⟩) (c32 : PySem.W.codeIn K cd32 "Store.pages" = true) (k32 : PySem.W.keepIn K (.ref f32) = true)
    (i32 : PySem.W.isFn K (.ref f32) = true)
    (a33 : PySem.W.nsIn K mainGlobals "is_state" = some (some (.ref f33)))
    (l33 : K.lookup f33 = some ⟨oc33, od33, .func (PySem.W.fnOf "is_state" "is_state" (defArgs (topS 20)) (defBody (topS 20)) (defScope (topS 20)) .none kV33 dc33 pm33 an33 cd33 ct33), sl33⟩) (c33 : PySem.W.codeIn K cd33 "is_state" = true) (k33 : PySem.W.keepIn K (.ref f33) = true)
    (a34 : PySem.W.nsIn K mainGlobals "_law_shows" = some (some (.ref f34)))
    (l34 : K.lookup f34 = some ⟨oc34, od34, .func (PySem.W.fnOf "_law_shows" "_law_shows" (defArgs (topS 51)) (defBody (topS 51)) (defScope (topS 51)) .none kV34 dc34 pm34 an34 cd34 ct34), sl34⟩) (c34 : PySem.W.codeIn K cd34 "_law_shows" = true) (k34 : PySem.W.keepIn K (.ref f34) = true)
    (a35 : PySem.W.nsIn K mainGlobals "_law_key_word" = some (some (.ref f35)))
    (l35 : K.lookup f35 = some ⟨oc35, od35, .func (PySem.W.fnOf "_law_key_word" "_law_key_word" (defArgs (topS 55)) (defBody (topS 55)) (defScope (topS 55)) .none kV35 dc35 pm35 an35 cd35 ct35), sl35⟩) (c35 : PySem.W.codeIn K cd35 "_law_key_word" = true) (k35 : PySem.W.keepIn K (.ref f35) = true)
    (m27 : PySem.W.findIn K (.ref D2) "free_sectors" = some (some (.ref f36)))
    (l36 : K.lookup f36 = some ⟨oc36, od36, .func (PySem.W.fnOf "free_sectors" "Store.free_sectors" (defArgs (inClass (topS 39) 8)) (defBody (inClass (topS 39) 8)) (defScope (inClass (topS 39) 8)) .none kV36 dc36 pm36 an36 cd36 ct36), sl36⟩) (c36 : PySem.W.codeIn K cd36 "Store.free_sectors" = true) (k36 : PySem.W.keepIn K (.ref f36) = true)
    (i36 : PySem.W.isFn K (.ref f36) = true)
    (a37 : PySem.W.nsIn K mainGlobals "check_state" = some (some (.ref f37)))
    (l37 : K.lookup f37 = some ⟨oc37, od37, .func (PySem.W.fnOf "check_state" "check_state" (defArgs (topS 21)) (defBody (topS 21)) (defScope (topS 21)) .none kV37 dc37 pm37 an37 cd37 ct37), sl37⟩) (c37 : PySem.W.codeIn K cd37 "check_state" = true) (k37 : PySem.W.keepIn K (.ref f37) = true)
    (m38 : PySem.W.findIn K (.ref D2) "begin" = some (some (.ref f38)))
    (l38 : K.lookup f38 = some ⟨oc38, od38, .func (PySem.W.fnOf "begin" "Store.begin" (defArgs (inClass (topS 39) 10)) (defBody (inClass (topS 39) 10)) (defScope (inClass (topS 39) 10)) .none kV38 dc38 pm38 an38 cd38 ct38), sl38⟩) (c38 : PySem.W.codeIn K cd38 "Store.begin" = true) (k38 : PySem.W.keepIn K (.ref f38) = true)
    (i38 : PySem.W.isFn K (.ref f38) = true)
    (m42 : PySem.W.findIn K (.ref D2) "free" = some (some (.ref f39)))
    (l39 : K.lookup f39 = some ⟨oc39, od39, .func (PySem.W.fnOf "free" "Store.free" (defArgs (inClass (topS 39) 9)) (defBody (inClass (topS 39) 9)) (defScope (inClass (topS 39) 9)) .none kV39 dc39 pm39 an39 cd39 ct39), sl39⟩) (c39 : PySem.W.codeIn K cd39 "Store.free" = true) (k39 : PySem.W.keepIn K (.ref f39) = true)
    (i39 : PySem.W.isFn K (.ref f39) = true)
    (m31 : PySem.W.findIn K (.ref D1) "__init__" = some (some (.ref f40)))
    (l40 : K.lookup f40 = some ⟨oc40, od40, .func (PySem.W.fnOf "__init__" "Disk.__init__" (defArgs (inClass (topS 23) 0)) (defBody (inClass (topS 23) 0)) (defScope (inClass (topS 23) 0)) .none kV40 dc40 pm40 an40 cd40 ct40), sl40⟩) (c40 : PySem.W.codeIn K cd40 "Disk.__init__" = true) (k40 : PySem.W.keepIn K (.ref f40) = true)
    (i40 : PySem.W.isFn K (.ref f40) = true)
    (m32 : PySem.W.findIn K (.ref D2) "__init__" = some (some (.ref f41)))
    (l41 : K.lookup f41 = some ⟨oc41, od41, .func (PySem.W.fnOf "__init__" "Store.__init__" (defArgs (inClass (topS 39) 0)) (defBody (inClass (topS 39) 0)) (defScope (inClass (topS 39) 0)) .none kV41 dc41 pm41 an41 cd41 ct41), sl41⟩) (c41 : PySem.W.codeIn K cd41 "Store.__init__" = true) (k41 : PySem.W.keepIn K (.ref f41) = true)
    (i41 : PySem.W.isFn K (.ref f41) = true)
    (a42 : PySem.W.nsIn K mainGlobals "_law_word" = some (some (.ref f42)))
    (l42 : K.lookup f42 = some ⟨oc42, od42, .func (PySem.W.fnOf "_law_word" "_law_word" (defArgs (topS 54)) (defBody (topS 54)) (defScope (topS 54)) .none kV42 dc42 pm42 an42 cd42 ct42), sl42⟩) (c42 : PySem.W.codeIn K cd42 "_law_word" = true) (k42 : PySem.W.keepIn K (.ref f42) = true)
    (a43 : PySem.W.nsIn K mainGlobals "_law_refused_right" = some (some (.ref f43)))
    (l43 : K.lookup f43 = some ⟨oc43, od43, .func (PySem.W.fnOf "_law_refused_right" "_law_refused_right" (defArgs (topS 56)) (defBody (topS 56)) (defScope (topS 56)) .none kV43 dc43 pm43 an43 cd43 ct43), sl43⟩) (c43 : PySem.W.codeIn K cd43 "_law_refused_right" = true) (k43 : PySem.W.keepIn K (.ref f43) = true)
    (a44 : PySem.W.nsIn K mainGlobals "law" = some (some (.ref f44)))
    (l44 : K.lookup f44 = some ⟨oc44, od44, .func (PySem.W.fnOf "law" "law" (defArgs (topS 57)) (defBody (topS 57)) (defScope (topS 57)) .none kV44 dc44 pm44 an44 cd44 ct44), sl44⟩) (c44 : PySem.W.codeIn K cd44 "law" = true) (k44 : PySem.W.keepIn K (.ref f44) = true)
    (z0 : PySem.W.nsIn K mainGlobals "abs" = some none)
    (z1 : PySem.W.nsIn K mainGlobals "all" = some none)
    (z2 : PySem.W.nsIn K mainGlobals "any" = some none)
    (z3 : PySem.W.nsIn K mainGlobals "bool" = some none)
    (z4 : PySem.W.nsIn K mainGlobals "int" = some none)
    (z5 : PySem.W.nsIn K mainGlobals "isinstance" = some none)
    (z6 : PySem.W.nsIn K mainGlobals "len" = some none)
    (z7 : PySem.W.nsIn K mainGlobals "list" = some none)
    (z8 : PySem.W.nsIn K mainGlobals "range" = some none)
    (z9 : PySem.W.nsIn K mainGlobals "sorted" = some none)
    (z10 : PySem.W.nsIn K mainGlobals "tuple" = some none)
    (y0 : PySem.W.nsIn K mainGlobals "HEADS" = some (some (.int 2 t0)))
    (y1 : PySem.W.nsIn K mainGlobals "LEAST_FAN" = some (some (.int 2 t1)))
    (y2 : PySem.W.nsIn K mainGlobals "LEAST_SECTORS" = some (some (.int 4 t2)))
    (y3 : PySem.W.nsIn K mainGlobals "MOST_FAN" = some (some (.int 7 t3)))
    (y4 : PySem.W.nsIn K mainGlobals "MOST_ITEM" = some (some (.int 1000000000000 t4)))
    (y5 : PySem.W.nsIn K mainGlobals "MOST_ITEMS" = some (some (.int 32 t5)))
    (y6 : PySem.W.nsIn K mainGlobals "MOST_KEY" = some (some (.int 1000000000 t6)))
    (y7 : PySem.W.nsIn K mainGlobals "MOST_SECTORS_checks" = some (some (.int 64 t7)))
    (y8 : PySem.W.nsIn K mainGlobals "MOST_SECTORS_store" = some (some (.int 64 t8)))
    (xg0 : PySem.W.nsIn K mainGlobals "Ended" = some (some (.ref C0))) (xk0 : PySem.W.keepIn K (.ref C0) = true) (xe0 : PySem.W.excIn K C0 [.type "ValueError", .type "Exception", .type "BaseException", .type "object"] "ValueError.__new__" = true) (xs0 : PySem.W.subIn K (.ref C0) (.type "BaseException") = some true) (xt0 : PySem.W.typeIn K (.ref C0) = some (.type "type"))
    (xg1 : PySem.W.nsIn K mainGlobals "NoKey" = some (some (.ref C1))) (xk1 : PySem.W.keepIn K (.ref C1) = true) (xe1 : PySem.W.excIn K C1 [.type "ValueError", .type "Exception", .type "BaseException", .type "object"] "ValueError.__new__" = true) (xs1 : PySem.W.subIn K (.ref C1) (.type "BaseException") = some true) (xt1 : PySem.W.typeIn K (.ref C1) = some (.type "type"))
    (xg2 : PySem.W.nsIn K mainGlobals "NoNumber" = some (some (.ref C2))) (xk2 : PySem.W.keepIn K (.ref C2) = true) (xe2 : PySem.W.excIn K C2 [.type "ValueError", .type "Exception", .type "BaseException", .type "object"] "ValueError.__new__" = true) (xs2 : PySem.W.subIn K (.ref C2) (.type "BaseException") = some true) (xt2 : PySem.W.typeIn K (.ref C2) = some (.type "type"))
    (xg3 : PySem.W.nsIn K mainGlobals "NoState" = some (some (.ref C3))) (xk3 : PySem.W.keepIn K (.ref C3) = true) (xe3 : PySem.W.excIn K C3 [.type "ValueError", .type "Exception", .type "BaseException", .type "object"] "ValueError.__new__" = true) (xs3 : PySem.W.subIn K (.ref C3) (.type "BaseException") = some true) (xt3 : PySem.W.typeIn K (.ref C3) = some (.type "type"))
    : ∃ fd : FuncData, (∀ (s : Shared) (v : Value), BindsTo s fd ⟨[v], []⟩ [("script", v)]) ∧ ∀ base : Heap, K.In base → base.Ns mainGlobals mg → FnOk l.prog w K mg base (L2.CX l.prog w) 13 fa fd ["script"] (spLaw K) := by
  have e := hfa.symm.trans (PySem.W.mg_of X G a44)
  cases e
  have cl0 : Cls K D0 := ⟨pg0, hd0, po0, sa0⟩
  have cl1 : Cls K D1 := ⟨pg1, hd1, po1, sa1⟩
  have cl2 : Cls K D2 := ⟨pg2, hd2, po2, sa2⟩
  have cl3 : Cls K D3 := ⟨pg3, hd3, po3, sa3⟩
  have T : Txt K mg := ⟨PySem.W.mg_none_of X G z0, PySem.W.mg_none_of X G z1, PySem.W.mg_none_of X G z2, PySem.W.mg_none_of X G z3, PySem.W.mg_none_of X G z4, PySem.W.mg_none_of X G z5, PySem.W.mg_none_of X G z6, PySem.W.mg_none_of X G z7, PySem.W.mg_none_of X G z8, PySem.W.mg_none_of X G z9, PySem.W.mg_none_of X G z10, ⟨_, PySem.W.mg_of X G y0⟩, ⟨_, PySem.W.mg_of X G y1⟩, ⟨_, PySem.W.mg_of X G y2⟩, ⟨_, PySem.W.mg_of X G y3⟩, ⟨_, PySem.W.mg_of X G y4⟩, ⟨_, PySem.W.mg_of X G y5⟩, ⟨_, PySem.W.mg_of X G y6⟩, ⟨_, PySem.W.mg_of X G y7⟩, ⟨_, PySem.W.mg_of X G y8⟩, ⟨⟨C0, _, PySem.W.mg_of X G xg0, PySem.F.excBase_ValueError, xe0, xk0, xs0, xt0⟩⟩, ⟨⟨C1, _, PySem.W.mg_of X G xg1, PySem.F.excBase_ValueError, xe1, xk1, xs1, xt1⟩⟩, ⟨⟨C2, _, PySem.W.mg_of X G xg2, PySem.F.excBase_ValueError, xe2, xk2, xs2, xt2⟩⟩, ⟨⟨C3, _, PySem.W.mg_of X G xg3, PySem.F.excBase_ValueError, xe3, xk3, xs3, xt3⟩⟩, ⟨_, PySem.W.mg_of X G eg0⟩, ⟨_, PySem.W.mg_of X G eg1⟩, ⟨_, PySem.W.mg_of X G eg2⟩, ⟨fun cl e => by rw [PySem.W.mg_of X G eg2] at e; cases e; exact ⟨⟨E0, PySem.W.mg_of X G eg0, PySem.W.exm_ref ea2a ea2b ea2c es2⟩⟩⟩, ⟨fun cl e => by rw [PySem.W.mg_of X G eg2] at e; cases e; exact ⟨⟨E1, PySem.W.mg_of X G eg1, PySem.W.exm_ref ea2a ea2b ea2c es5⟩⟩⟩, ⟨fun D0 e => by rw [PySem.W.mg_of X G eg0] at e; cases e; exact ⟨⟨eq0a, eq0b, eq0c, eq0d, eq0e, cs1, cs2, eq0f⟩, E0, PySem.W.mg_of X G eg0, (kit_oneT ea0b ea0c es0)⟩⟩, ⟨fun D0 e => by rw [PySem.W.mg_of X G eg0] at e; cases e; exact ⟨⟨eq0a, eq0b, eq0c, eq0d, eq0e, cs1, cs2, eq0f⟩, E1, PySem.W.mg_of X G eg1, (kit_oneF en1 ea1b ea1c es1)⟩⟩, ⟨fun D0 e => by rw [PySem.W.mg_of X G eg1] at e; cases e; exact ⟨⟨eq1a, eq1b, eq1c, eq1d, eq1e, cs1, cs2, eq1f⟩, E0, PySem.W.mg_of X G eg0, (kit_oneF en3 ea0b ea0c es3)⟩⟩, ⟨fun D0 e => by rw [PySem.W.mg_of X G eg1] at e; cases e; exact ⟨⟨eq1a, eq1b, eq1c, eq1d, eq1e, cs1, cs2, eq1f⟩, E1, PySem.W.mg_of X G eg1, (kit_oneT ea1b ea1c es4)⟩⟩, ⟨fun Ca e => by rw [oa2] at e; cases e; exact ⟨cl2, tc0, cs1, cs2, to0, kit_oneTy tt0⟩⟩, ⟨fun Ca e => by rw [oa2] at e; cases e; exact ⟨cl2, tc0, cs1, cs2, to0, kit_oneTy tt1⟩⟩, ⟨fun Ca e => by rw [oa2] at e; cases e; exact ⟨cl2, tc0, cs1, cs2, to0, kit_oneTy tt2⟩⟩, ⟨fun Ca e => by rw [oa2] at e; cases e; exact ⟨cl2, tc0, cs1, cs2, to0, kit_oneTy tt3⟩⟩, fldOk oa0 cl0 nf0, fldOk oa0 cl0 nf1, fldOk oa0 cl0 nf2, fldOk oa0 cl0 nf3, fldOk oa0 cl0 nf4, fldOk oa0 cl0 nf5, fldOk oa0 cl0 nf6, fldOk oa1 cl1 nf7, fldOk oa1 cl1 nf8, fldOk oa1 cl1 nf9, fldOk oa2 cl2 nf10, fldOk oa2 cl2 nf11, fldOk oa2 cl2 nf12, fldOk oa2 cl2 nf13, fldOk oa2 cl2 nf14, fldOk oa2 cl2 nf15, fldOk oa3 cl3 nf16, fldOk oa3 cl3 nf17, fldOk oa3 cl3 nf18⟩
  have F0 := fun_mk (st := (topS 42)) l0 c0 k0
  have F1 := fun_mk (st := (topS 14)) l1 c1 k1
  have F2 := fun_mk (st := (inClass (topS 39) 1)) l2 c2 k2
  have F3 := fun_mk (st := (inClass (topS 39) 2)) l3 c3 k3
  have F4 := fun_mk (st := (inClass (topS 39) 3)) l4 c4 k4
  have F5 := fun_mk (st := (inClass (topS 30) 0)) l5 c5 k5
  have F6 := fun_mk (st := (inClass (topS 23) 4)) l6 c6 k6
  have F7 := fun_mk (st := (inClass (topS 30) 4)) l7 c7 k7
  have F8 := fun_mk (st := (inClass (topS 30) 3)) l8 c8 k8
  have F9 := fun_mk (st := (topS 43)) l9 c9 k9
  have F10 := fun_mk (st := (inClass (topS 30) 2)) l10 c10 k10
  have F11 := fun_mk (st := (topS 46)) l11 c11 k11
  have F12 := fun_mk (st := (topS 50)) l12 c12 k12
  have F13 := fun_mk (st := (inClass (topS 23) 6)) l13 c13 k13
  have F14 := fun_mk (st := (inClass (topS 23) 5)) l14 c14 k14
  have F15 := fun_mk (st := (topS 45)) l15 c15 k15
  have F16 := fun_mk (st := (topS 44)) l16 c16 k16
  have F17 := fun_mk (st := (topS 53)) l17 c17 k17
  have F18 := fun_mk (st := (inClass (topS 40) 1)) l18 c18 k18
  have F19 := fun_mk (st := (topS 15)) l19 c19 k19
  have F20 := fun_mk (st := (topS 49)) l20 c20 k20
  have F21 := fun_mk (st := (topS 52)) l21 c21 k21
  have F22 := fun_mk (st := (inClass (topS 40) 7)) l22 c22 k22
  have F23 := fun_mk (st := (topS 17)) l23 c23 k23
  have F24 := fun_mk (st := (topS 18)) l24 c24 k24
  have F25 := fun_mk (st := (inClass (topS 39) 4)) l25 c25 k25
  have F26 := fun_mk (st := (topS 38)) l26 c26 k26
  have F27 := fun_mk (st := (inClass (topS 40) 8)) l27 c27 k27
  have F28 := fun_mk (st := (topS 19)) l28 c28 k28
  have F29 := fun_mk (st := (inClass (topS 40) 0)) l29 c29 k29
  have F30 := fun_mk (st := (inClass (topS 39) 5)) l30 c30 k30
  have F31 := fun_mk (st := (inClass (topS 39) 6)) l31 c31 k31
  have F32 := fun_mk (st := (inClass (topS 39) 7)) l32 c32 k32
  have F33 := fun_mk (st := (topS 20)) l33 c33 k33
  have F34 := fun_mk (st := (topS 51)) l34 c34 k34
  have F35 := fun_mk (st := (topS 55)) l35 c35 k35
  have F36 := fun_mk (st := (inClass (topS 39) 8)) l36 c36 k36
  have F37 := fun_mk (st := (topS 21)) l37 c37 k37
  have F38 := fun_mk (st := (inClass (topS 39) 10)) l38 c38 k38
  have F39 := fun_mk (st := (inClass (topS 39) 9)) l39 c39 k39
  have F40 := fun_mk (st := (inClass (topS 23) 0)) l40 c40 k40
  have F41 := fun_mk (st := (inClass (topS 39) 0)) l41 c41 k41
  have F42 := fun_mk (st := (topS 54)) l42 c42 k42
  have F43 := fun_mk (st := (topS 56)) l43 c43 k43
  have F44 := fun_mk (st := (topS 57)) l44 c44 k44
  refine ⟨PySem.W.fnOf "law" "law" (defArgs (topS 57)) (defBody (topS 57)) (defScope (topS 57)) .none kV44 dc44 pm44 an44 cd44 ct44, fun s v => .of_eq rfl, fun base _ _ => ?_⟩
  have c__law_hand : Has l.prog w K mg base "_law_hand" 1 ["script"] (spL K mg m__law_hand) := ⟨⟨f0, _, PySem.W.mg_of X G a0, k0, F0.binds (ps := ["script"]) fun _ _ _ _ _ _ us hl => match us, hl with | [_], _ => rfl, ok__law_hand F0 T ⟩⟩
  have c_is_integer : Has l.prog w K mg base "is_integer" 1 ["thing"] (spM K mg m_is_integer) := ⟨⟨f1, _, PySem.W.mg_of X G a1, k1, F1.binds (ps := ["thing"]) fun _ _ _ _ _ _ us hl => match us, hl with | [_], _ => rfl, ok_is_integer F1 T ⟩⟩
  have o_Store_keep := ok_Store_keep (P := l.prog) (w := w) (base := base) F2 T 
  have b_Store_keep : Binds K _ ["self", "disk", "head", "fan"] [] := F2.binds (ps := ["self", "disk", "head", "fan"]) fun _ _ _ _ _ _ us hl => match us, hl with | [_, _, _, _], _ => rfl
  have c_Store_keep : MthOk l.prog w K mg base "Store" "keep" 1 ["self", "disk", "head", "fan"] (spM K mg m_Store_keep) := mthOk oa2 cl2 ⟨m30, i2, k2⟩ b_Store_keep o_Store_keep
  have o_Store_disk := ok_Store_disk (P := l.prog) (w := w) (base := base) F3 T 
  have b_Store_disk : Binds K _ ["self"] [] := F3.binds (ps := ["self"]) fun _ _ _ _ _ _ us hl => match us, hl with | [_], _ => rfl
  have c_Store_disk : MthOk l.prog w K mg base "Store" "disk" 1 ["self"] (spM K mg m_Store_disk) := mthOk oa2 cl2 ⟨m19, i3, k3⟩ b_Store_disk o_Store_disk
  have o_Store_count := ok_Store_count (P := l.prog) (w := w) (base := base) F4 T 
  have b_Store_count : Binds K _ ["self"] [] := F4.binds (ps := ["self"]) fun _ _ _ _ _ _ us hl => match us, hl with | [_], _ => rfl
  have c_Store_count : MthOk l.prog w K mg base "Store" "count" 1 ["self"] (spM K mg m_Store_count) := mthOk oa2 cl2 ⟨m9, i4, k4⟩ b_Store_count o_Store_count
  have o_Tree___init__ := ok_Tree___init__ (P := l.prog) (w := w) (base := base) F5 T 
  have b_Tree___init__ : Binds K _ ["self", "state", "root", "fan"] [] := F5.binds (ps := ["self", "state", "root", "fan"]) fun _ _ _ _ _ _ us hl => match us, hl with | [_, _, _, _], _ => rfl
  have k_Tree : MakOk l.prog w K mg base "Tree" 1 ["self", "state", "root", "fan"] (spM K mg m_Tree___init__) := ⟨⟨D3, f5, _, oa3, PySem.W.mg_of X G oa3, ⟨mk3, m5, i5, kc3⟩, b_Tree___init__, o_Tree___init__⟩⟩
  have o_Disk_now := ok_Disk_now (P := l.prog) (w := w) (base := base) F6 T 
  have b_Disk_now : Binds K _ ["self"] [] := F6.binds (ps := ["self"]) fun _ _ _ _ _ _ us hl => match us, hl with | [_], _ => rfl
  have c_Disk_now : MthOk l.prog w K mg base "Disk" "now" 1 ["self"] (spM K mg m_Disk_now) := mthOk oa1 cl1 ⟨m6, i6, k6⟩ b_Disk_now o_Disk_now
  have o_Tree_sectors := ok_Tree_sectors (P := l.prog) (w := w) (base := base) F7 T 
  have b_Tree_sectors : Binds K _ ["self"] [] := F7.binds (ps := ["self"]) fun _ _ _ _ _ _ us hl => match us, hl with | [_], _ => rfl
  have c_Tree_sectors : MthOk l.prog w K mg base "Tree" "sectors" 1 ["self"] (spM K mg m_Tree_sectors) := mthOk oa3 cl3 ⟨m11, i7, k7⟩ b_Tree_sectors o_Tree_sectors
  have o_Tree_pairs := ok_Tree_pairs (P := l.prog) (w := w) (base := base) F8 T 
  have b_Tree_pairs : Binds K _ ["self", "first", "last"] [] := F8.binds (ps := ["self", "first", "last"]) fun _ _ _ _ _ _ us hl => match us, hl with | [_, _, _], _ => rfl
  have c_Tree_pairs : MthOk l.prog w K mg base "Tree" "pairs" 1 ["self", "first", "last"] (spM K mg m_Tree_pairs) := mthOk oa3 cl3 ⟨m12, i8, k8⟩ b_Tree_pairs o_Tree_pairs
  have c__law_draw : Has l.prog w K mg base "_law_draw" 1 ["hand", "many"] (spM K mg m__law_draw) := ⟨⟨f9, _, PySem.W.mg_of X G a9, k9, F9.binds (ps := ["hand", "many"]) fun _ _ _ _ _ _ us hl => match us, hl with | [_, _], _ => rfl, ok__law_draw F9 T ⟩⟩
  have o_Tree_find := ok_Tree_find (P := l.prog) (w := w) (base := base) F10 T 
  have b_Tree_find : Binds K _ ["self", "key"] [] := F10.binds (ps := ["self", "key"]) fun _ _ _ _ _ _ us hl => match us, hl with | [_, _], _ => rfl
  have c_Tree_find : MthOk l.prog w K mg base "Tree" "find" 1 ["self", "key"] (spM K mg m_Tree_find) := mthOk oa3 cl3 ⟨m14, i10, k10⟩ b_Tree_find o_Tree_find
  have c__law_head : Has l.prog w K mg base "_law_head" 1 ["state"] (spM K mg m__law_head) := ⟨⟨f11, _, PySem.W.mg_of X G a11, k11, F11.binds (ps := ["state"]) fun _ _ _ _ _ _ us hl => match us, hl with | [_], _ => rfl, ok__law_head F11 T ⟩⟩
  have c__law_pairs : Has l.prog w K mg base "_law_pairs" 1 ["book"] (spL K mg m__law_pairs) := ⟨⟨f12, _, PySem.W.mg_of X G a12, k12, F12.binds (ps := ["book"]) fun _ _ _ _ _ _ us hl => match us, hl with | [_], _ => rfl, ok__law_pairs F12 T ⟩⟩
  have o_Disk_waiting := ok_Disk_waiting (P := l.prog) (w := w) (base := base) F13 T 
  have b_Disk_waiting : Binds K _ ["self"] [] := F13.binds (ps := ["self"]) fun _ _ _ _ _ _ us hl => match us, hl with | [_], _ => rfl
  have c_Disk_waiting : MthOk l.prog w K mg base "Disk" "waiting" 1 ["self"] (spM K mg m_Disk_waiting) := mthOk oa1 cl1 ⟨m20, i13, k13⟩ b_Disk_waiting o_Disk_waiting
  have o_Disk_settled := ok_Disk_settled (P := l.prog) (w := w) (base := base) F14 T 
  have b_Disk_settled : Binds K _ ["self"] [] := F14.binds (ps := ["self"]) fun _ _ _ _ _ _ us hl => match us, hl with | [_], _ => rfl
  have c_Disk_settled : MthOk l.prog w K mg base "Disk" "settled" 1 ["self"] (spM K mg m_Disk_settled) := mthOk oa1 cl1 ⟨m21, i14, k14⟩ b_Disk_settled o_Disk_settled
  have c__law_number : Has l.prog w K mg base "_law_number" 1 ["told", "due"] (spM K mg m__law_number) := ⟨⟨f15, _, PySem.W.mg_of X G a15, k15, F15.binds (ps := ["told", "due"]) fun _ _ _ _ _ _ us hl => match us, hl with | [_, _], _ => rfl, ok__law_number F15 T ⟩⟩
  have c__law_flag : Has l.prog w K mg base "_law_flag" 1 ["told", "due"] (spM K mg m__law_flag) := ⟨⟨f16, _, PySem.W.mg_of X G a16, k16, F16.binds (ps := ["told", "due"]) fun _ _ _ _ _ _ us hl => match us, hl with | [_, _], _ => rfl, ok__law_flag F16 T ⟩⟩
  have c__law_is_between : Has l.prog w K mg base "_law_is_between" 1 ["thing", "least", "most"] (spM K mg m__law_is_between) := ⟨⟨f17, _, PySem.W.mg_of X G a17, k17, F17.binds (ps := ["thing", "least", "most"]) fun _ _ _ _ _ _ us hl => match us, hl with | [_, _, _], _ => rfl, ok__law_is_between F17 T ⟩⟩
  have o_Deal_check := ok_Deal_check (P := l.prog) (w := w) (base := base) F18 T 
  have b_Deal_check : Binds K _ ["self"] [] := F18.binds (ps := ["self"]) fun _ _ _ _ _ _ us hl => match us, hl with | [_], _ => rfl
  have c_Deal_check : MthOk l.prog w K mg base "Deal" "check" 1 ["self"] (spM K mg m_Deal_check) := mthOk oa0 cl0 ⟨m3, i18, k18⟩ b_Deal_check o_Deal_check
  have c_is_between : Has l.prog w K mg base "is_between" 2 ["thing", "least", "most"] (spM K mg m_is_between) := ⟨⟨f19, _, PySem.W.mg_of X G a19, k19, F19.binds (ps := ["thing", "least", "most"]) fun _ _ _ _ _ _ us hl => match us, hl with | [_, _, _], _ => rfl, ok_is_between F19 T c_is_integer⟩⟩
  have c__law_stored : Has l.prog w K mg base "_law_stored" 2 ["state", "fan"] (spM K mg m__law_stored) := ⟨⟨f20, _, PySem.W.mg_of X G a20, k20, F20.binds (ps := ["state", "fan"]) fun _ _ _ _ _ _ us hl => match us, hl with | [_, _], _ => rfl, ok__law_stored F20 T c__law_head⟩⟩
  have c__law_deep : Has l.prog w K mg base "_law_deep" 2 ["hand"] (spM K mg m__law_deep) := ⟨⟨f21, _, PySem.W.mg_of X G a21, k21, F21.binds (ps := ["hand"]) fun _ _ _ _ _ _ us hl => match us, hl with | [_], _ => rfl, ok__law_deep F21 T c__law_draw⟩⟩
  have o_Deal_leave := ok_Deal_leave (P := l.prog) (w := w) (base := base) F22 T c_Deal_check
  have b_Deal_leave : Binds K _ ["self"] [] := F22.binds (ps := ["self"]) fun _ _ _ _ _ _ us hl => match us, hl with | [_], _ => rfl
  have c_Deal_leave : MthOk l.prog w K mg base "Deal" "leave" 2 ["self"] (spM K mg m_Deal_leave) := mthOk oa0 cl0 ⟨m7, i22, k22⟩ b_Deal_leave o_Deal_leave
  have c_check_number : Has l.prog w K mg base "check_number" 3 ["thing", "least", "most"] (spM K mg m_check_number) := ⟨⟨f23, _, PySem.W.mg_of X G a23, k23, F23.binds (ps := ["thing", "least", "most"]) fun _ _ _ _ _ _ us hl => match us, hl with | [_, _, _], _ => rfl, ok_check_number F23 T c_is_between⟩⟩
  have c_is_value : Has l.prog w K mg base "is_value" 3 ["thing"] (spM K mg m_is_value) := ⟨⟨f24, _, PySem.W.mg_of X G a24, k24, F24.binds (ps := ["thing"]) fun _ _ _ _ _ _ us hl => match us, hl with | [_], _ => rfl, ok_is_value F24 T c_is_between⟩⟩
  have o_Store_tree := ok_Store_tree (P := l.prog) (w := w) (base := base) F25 T k_Tree c_Disk_now
  have b_Store_tree : Binds K _ ["self"] [] := F25.binds (ps := ["self"]) fun _ _ _ _ _ _ us hl => match us, hl with | [_], _ => rfl
  have c_Store_tree : MthOk l.prog w K mg base "Store" "tree" 3 ["self"] (spM K mg m_Store_tree) := mthOk oa2 cl2 ⟨m10, i25, k25⟩ b_Store_tree o_Store_tree
  have c_check_key : Has l.prog w K mg base "check_key" 3 ["thing"] (spM K mg m_check_key) := ⟨⟨f26, _, PySem.W.mg_of X G a26, k26, F26.binds (ps := ["thing"]) fun _ _ _ _ _ _ us hl => match us, hl with | [_], _ => rfl, ok_check_key F26 T c_is_between⟩⟩
  have o_Deal_commit := ok_Deal_commit (P := l.prog) (w := w) (base := base) F27 T c_Deal_check c_Deal_leave
  have b_Deal_commit : Binds K _ ["self"] [] := F27.binds (ps := ["self"]) fun _ _ _ _ _ _ us hl => match us, hl with | [_], _ => rfl
  have c_Deal_commit : MthOk l.prog w K mg base "Deal" "commit" 3 ["self"] (spM K mg m_Deal_commit) := mthOk oa0 cl0 ⟨m43, i27, k27⟩ b_Deal_commit o_Deal_commit
  have c_is_held : Has l.prog w K mg base "is_held" 4 ["thing"] (spM K mg m_is_held) := ⟨⟨f28, _, PySem.W.mg_of X G a28, k28, F28.binds (ps := ["thing"]) fun _ _ _ _ _ _ us hl => match us, hl with | [_], _ => rfl, ok_is_held F28 T c_is_value⟩⟩
  have o_Deal___init__ := ok_Deal___init__ (P := l.prog) (w := w) (base := base) F29 T c_Store_count c_Store_tree c_Tree_sectors
  have b_Deal___init__ : Binds K _ ["self", "store", "number"] [] := F29.binds (ps := ["self", "store", "number"]) fun _ _ _ _ _ _ us hl => match us, hl with | [_, _, _], _ => rfl
  have k_Deal : MakOk l.prog w K mg base "Deal" 4 ["self", "store", "number"] (spM K mg m_Deal___init__) := ⟨⟨D0, f29, _, oa0, PySem.W.mg_of X G oa0, ⟨mk0, m26, i29, kc0⟩, b_Deal___init__, o_Deal___init__⟩⟩
  have o_Store_told_pairs := ok_Store_told_pairs (P := l.prog) (w := w) (base := base) F30 T c_Tree_pairs c_Store_tree
  have b_Store_told_pairs : Binds K _ ["self"] [] := F30.binds (ps := ["self"]) fun _ _ _ _ _ _ us hl => match us, hl with | [_], _ => rfl
  have c_Store_told_pairs : MthOk l.prog w K mg base "Store" "told_pairs" 4 ["self"] (spM K mg m_Store_told_pairs) := mthOk oa2 cl2 ⟨m18, i30, k30⟩ b_Store_told_pairs o_Store_told_pairs
  have o_Store_get := ok_Store_get (P := l.prog) (w := w) (base := base) F31 T c_check_key c_Tree_find c_Store_tree
  have b_Store_get : Binds K _ ["self", "key"] [] := F31.binds (ps := ["self", "key"]) fun _ _ _ _ _ _ us hl => match us, hl with | [_, _], _ => rfl
  have c_Store_get : MthOk l.prog w K mg base "Store" "get" 4 ["self", "key"] (spM K mg m_Store_get) := mthOk oa2 cl2 ⟨m24, i31, k31⟩ b_Store_get o_Store_get
  have o_Store_pages := ok_Store_pages (P := l.prog) (w := w) (base := base) F32 T c_Tree_sectors c_Store_tree
  have b_Store_pages : Binds K _ ["self"] [] := F32.binds (ps := ["self"]) fun _ _ _ _ _ _ us hl => match us, hl with | [_], _ => rfl
  have c_Store_pages : MthOk l.prog w K mg base "Store" "pages" 4 ["self"] (spM K mg m_Store_pages) := mthOk oa2 cl2 ⟨m23, i32, k32⟩ b_Store_pages o_Store_pages
  have c_is_state : Has l.prog w K mg base "is_state" 5 ["thing"] (spM K mg m_is_state) := ⟨⟨f33, _, PySem.W.mg_of X G a33, k33, F33.binds (ps := ["thing"]) fun _ _ _ _ _ _ us hl => match us, hl with | [_], _ => rfl, ok_is_state F33 T c_is_held⟩⟩
  have c__law_shows : Has l.prog w K mg base "_law_shows" 5 ["store", "fan", "count", "book"] (spM K mg m__law_shows) := ⟨⟨f34, _, PySem.W.mg_of X G a34, k34, F34.binds (ps := ["store", "fan", "count", "book"]) fun _ _ _ _ _ _ us hl => match us, hl with | [_, _, _, _], _ => rfl, ok__law_shows F34 T c_Disk_now c__law_stored c__law_pairs c_Store_told_pairs c_Store_disk c_Disk_waiting c_Disk_settled c__law_number c_Store_pages c_Store_count⟩⟩
  have c__law_key_word : Has l.prog w K mg base "_law_key_word" 5 ["store", "key"] (spM K mg m__law_key_word) := ⟨⟨f35, _, PySem.W.mg_of X G a35, k35, F35.binds (ps := ["store", "key"]) fun _ _ _ _ _ _ us hl => match us, hl with | [_, _], _ => rfl, ok__law_key_word F35 T c_Store_get⟩⟩
  have o_Store_free_sectors := ok_Store_free_sectors (P := l.prog) (w := w) (base := base) F36 T c_Store_pages c_Disk_now
  have b_Store_free_sectors : Binds K _ ["self"] [] := F36.binds (ps := ["self"]) fun _ _ _ _ _ _ us hl => match us, hl with | [_], _ => rfl
  have c_Store_free_sectors : MthOk l.prog w K mg base "Store" "free_sectors" 5 ["self"] (spM K mg m_Store_free_sectors) := mthOk oa2 cl2 ⟨m27, i36, k36⟩ b_Store_free_sectors o_Store_free_sectors
  have c_check_state : Has l.prog w K mg base "check_state" 6 ["thing"] (spM K mg m_check_state) := ⟨⟨f37, _, PySem.W.mg_of X G a37, k37, F37.binds (ps := ["thing"]) fun _ _ _ _ _ _ us hl => match us, hl with | [_], _ => rfl, ok_check_state F37 T c_is_state⟩⟩
  have o_Store_begin := ok_Store_begin (P := l.prog) (w := w) (base := base) F38 T k_Deal
  have b_Store_begin : Binds K _ ["self"] [] := F38.binds (ps := ["self"]) fun _ _ _ _ _ _ us hl => match us, hl with | [_], _ => rfl
  have c_Store_begin : MthOk l.prog w K mg base "Store" "begin" 6 ["self"] (spM K mg m_Store_begin) := mthOk oa2 cl2 ⟨m38, i38, k38⟩ b_Store_begin o_Store_begin
  have o_Store_free := ok_Store_free (P := l.prog) (w := w) (base := base) F39 T c_Store_free_sectors
  have b_Store_free : Binds K _ ["self"] [] := F39.binds (ps := ["self"]) fun _ _ _ _ _ _ us hl => match us, hl with | [_], _ => rfl
  have c_Store_free : MthOk l.prog w K mg base "Store" "free" 6 ["self"] (spM K mg m_Store_free) := mthOk oa2 cl2 ⟨m42, i39, k39⟩ b_Store_free o_Store_free
  have o_Disk___init__ := ok_Disk___init__ (P := l.prog) (w := w) (base := base) F40 T c_check_state
  have b_Disk___init__ : Binds K _ ["self", "state"] [] := F40.binds (ps := ["self", "state"]) fun _ _ _ _ _ _ us hl => match us, hl with | [_, _], _ => rfl
  have k_Disk : MakOk l.prog w K mg base "Disk" 7 ["self", "state"] (spM K mg m_Disk___init__) := ⟨⟨D1, f40, _, oa1, PySem.W.mg_of X G oa1, ⟨mk1, m31, i40, kc1⟩, b_Disk___init__, o_Disk___init__⟩⟩
  have o_Store___init__ := ok_Store___init__ (P := l.prog) (w := w) (base := base) F41 T c_check_number c_Store_keep k_Disk
  have b_Store___init__ : Binds K _ ["self", "sectors", "fan"] [] := F41.binds (ps := ["self", "sectors", "fan"]) fun _ _ _ _ _ _ us hl => match us, hl with | [_, _, _], _ => rfl
  have k_Store : MakOk l.prog w K mg base "Store" 9 ["self", "sectors", "fan"] (spM K mg m_Store___init__) := ⟨⟨D2, f41, _, oa2, PySem.W.mg_of X G oa2, ⟨mk2, m32, i41, kc2⟩, b_Store___init__, o_Store___init__⟩⟩
  have c__law_word : Has l.prog w K mg base "_law_word" 11 ["sectors", "fan"] (spM K mg m__law_word) := ⟨⟨f42, _, PySem.W.mg_of X G a42, k42, F42.binds (ps := ["sectors", "fan"]) fun _ _ _ _ _ _ us hl => match us, hl with | [_, _], _ => rfl, ok__law_word F42 T k_Store⟩⟩
  have c__law_refused_right : Has l.prog w K mg base "_law_refused_right" 12 ["hand", "store"] (spM K mg m__law_refused_right) := ⟨⟨f43, _, PySem.W.mg_of X G a43, k43, F43.binds (ps := ["hand", "store"]) fun _ _ _ _ _ _ us hl => match us, hl with | [_, _], _ => rfl, ok__law_refused_right F43 T c__law_deep c__law_is_between c__law_word c__law_draw c__law_key_word⟩⟩
  exact (ok_law F44 T c__law_hand k_Store c_Store_disk c_Store_begin c_Store_told_pairs c__law_draw c_Store_get c_Disk_now c__law_shows c__law_number c__law_flag c__law_refused_right c_Store_free c_Deal_commit).imp fun vs H Q E h => sp_law ht h
end My
open PySem PySem.W PyProof.Rows
set_option maxHeartbeats 0 in
theorem PySem.Challenge.cw_tornsectors_k67_whole_fresh_stores_holds : PySem.Challenge.rw_tornsectors_k67_whole_fresh_stores.Holds := by
  w_on; o_law; k_head; (case hw => w_witness2)
  k_fill
  refine L2.walk_of (k := 13) (l := PySem.Challenge.rw_tornsectors_k67_whole_fresh_stores) (n := 63) (x := "script") (CX := fun w => L2.CX PySem.Challenge.rw_tornsectors_k67_whole_fresh_stores.prog w) (sp := fun w => AB.spLaw _) rfl (by decide) rfl ⟨rfl, by decide, by decide⟩ (fun w h Y => PySem.W.kIn_of Y) ?F (fun _ _ a ns hl _ hS => ⟨a, ns, rfl, hS, hl, fun _ => rfl⟩) (fun _ _ _ _ _ h => AB.cx_false h)
  case F =>
    intro w mg fa h KX G hmg
    refine' My.all_mk KX G hmg My.law_true ?eg0 ?eg1 ?eg2 ?ea0a ?ea0b ?ea0c ?ea1a ?ea1b ?ea1c ?ea2a ?ea2b ?ea2c ?es0 ?es1 ?en1 ?es2 ?es3 ?en3 ?es4 ?es5 ?eq0a ?eq0b ?eq0c ?eq0d ?eq0e ?eq0f ?eq1a ?eq1b ?eq1c ?eq1d ?eq1e ?eq1f ?cs1 ?cs2 ?oa0 ?pg0 ?hd0 ?po0 ?sa0 ?mk0 ?kc0 ?oa1 ?pg1 ?hd1 ?po1 ?sa1 ?mk1 ?kc1 ?oa2 ?pg2 ?hd2 ?po2 ?sa2 ?mk2 ?kc2 ?oa3 ?pg3 ?hd3 ?po3 ?sa3 ?mk3 ?kc3 ?tc0 ?to0 ?tt0 ?tt1 ?tt2 ?tt3 ?nf0 ?nf1 ?nf2 ?nf3 ?nf4 ?nf5 ?nf6 ?nf7 ?nf8 ?nf9 ?nf10 ?nf11 ?nf12 ?nf13 ?nf14 ?nf15 ?nf16 ?nf17 ?nf18 ?a0 ?l0 ?c0 ?k0 ?a1 ?l1 ?c1 ?k1 ?m30 ?i2 ?l2 ?c2 ?k2 ?m19 ?i3 ?l3 ?c3 ?k3 ?m9 ?i4 ?l4 ?c4 ?k4 ?m5 ?i5 ?l5 ?c5 ?k5 ?m6 ?i6 ?l6 ?c6 ?k6 ?m11 ?i7 ?l7 ?c7 ?k7 ?m12 ?i8 ?l8 ?c8 ?k8 ?a9 ?l9 ?c9 ?k9 ?m14 ?i10 ?l10 ?c10 ?k10 ?a11 ?l11 ?c11 ?k11 ?a12 ?l12 ?c12 ?k12 ?m20 ?i13 ?l13 ?c13 ?k13 ?m21 ?i14 ?l14 ?c14 ?k14 ?a15 ?l15 ?c15 ?k15 ?a16 ?l16 ?c16 ?k16 ?a17 ?l17 ?c17 ?k17 ?m3 ?i18 ?l18 ?c18 ?k18 ?a19 ?l19 ?c19 ?k19 ?a20 ?l20 ?c20 ?k20 ?a21 ?l21 ?c21 ?k21 ?m7 ?i22 ?l22 ?c22 ?k22 ?a23 ?l23 ?c23 ?k23 ?a24 ?l24 ?c24 ?k24 ?m10 ?i25 ?l25 ?c25 ?k25 ?a26 ?l26 ?c26 ?k26 ?m43 ?i27 ?l27 ?c27 ?k27 ?a28 ?l28 ?c28 ?k28 ?m26 ?i29 ?l29 ?c29 ?k29 ?m18 ?i30 ?l30 ?c30 ?k30 ?m24 ?i31 ?l31 ?c31 ?k31 ?m23 ?i32 ?l32 ?c32 ?k32 ?a33 ?l33 ?c33 ?k33 ?a34 ?l34 ?c34 ?k34 ?a35 ?l35 ?c35 ?k35 ?m27 ?i36 ?l36 ?c36 ?k36 ?a37 ?l37 ?c37 ?k37 ?m38 ?i38 ?l38 ?c38 ?k38 ?m42 ?i39 ?l39 ?c39 ?k39 ?m31 ?i40 ?l40 ?c40 ?k40 ?m32 ?i41 ?l41 ?c41 ?k41 ?a42 ?l42 ?c42 ?k42 ?a43 ?l43 ?c43 ?k43 ?a44 ?l44 ?c44 ?k44 ?z0 ?z1 ?z2 ?z3 ?z4 ?z5 ?z6 ?z7 ?z8 ?z9 ?z10 ?y0 ?y1 ?y2 ?y3 ?y4 ?y5 ?y6 ?y7 ?y8 ?xg0 ?xk0 ?xe0 ?xs0 ?xt0 ?xg1 ?xk1 ?xe1 ?xs1 ?xt1 ?xg2 ?xk2 ?xe2 ?xs2 ?xt2 ?xg3 ?xk3 ?xe3 ?xs3 ?xt3
    (case eg0 => k_is); (case eg1 => k_is); (case eg2 => k_is); (case ea0a => k_is); (case ea0b => k_is); (case ea0c => k_is); (case ea1a => k_is); (case ea1b => k_is); (case ea1c => k_is); (case ea2a => k_is); (case ea2b => k_is); (case ea2c => k_is); (case es0 => first | k_is | rfl); (case es1 => first | k_is | rfl); (case en1 => first | rfl | decide); (case es2 => first | k_is | rfl); (case es3 => first | k_is | rfl); (case en3 => first | rfl | decide); (case es4 => first | k_is | rfl); (case es5 => first | k_is | rfl); (case eq0a => k_is); (case eq0b => k_is); (case eq0c => k_is); (case eq0d => k_is); (case eq0e => k_is); (case eq0f => k_is); (case eq1a => k_is); (case eq1b => k_is); (case eq1c => k_is); (case eq1d => k_is); (case eq1e => k_is); (case eq1f => k_is); (case cs1 => k_is); (case cs2 => k_is); (case oa0 => k_is); (case pg0 => k_is); (case hd0 => k_is); (case po0 => k_is); (case sa0 => k_is); (case mk0 => k_is); (case kc0 => k_is); (case oa1 => k_is); (case pg1 => k_is); (case hd1 => k_is); (case po1 => k_is); (case sa1 => k_is); (case mk1 => k_is); (case kc1 => k_is); (case oa2 => k_is); (case pg2 => k_is); (case hd2 => k_is); (case po2 => k_is); (case sa2 => k_is); (case mk2 => k_is); (case kc2 => k_is); (case oa3 => k_is); (case pg3 => k_is); (case hd3 => k_is); (case po3 => k_is); (case sa3 => k_is); (case mk3 => k_is); (case kc3 => k_is); (case tc0 => k_is); (case to0 => k_is); (case tt0 => k_is); (case tt1 => k_is); (case tt2 => k_is); (case tt3 => k_is); (case nf0 => k_is); (case nf1 => k_is); (case nf2 => k_is); (case nf3 => k_is); (case nf4 => k_is); (case nf5 => k_is); (case nf6 => k_is); (case nf7 => k_is); (case nf8 => k_is); (case nf9 => k_is); (case nf10 => k_is); (case nf11 => k_is); (case nf12 => k_is); (case nf13 => k_is); (case nf14 => k_is); (case nf15 => k_is); (case nf16 => k_is); (case nf17 => k_is); (case nf18 => k_is); (case a0 => k_is); (case l0 => k_is); (case c0 => k_is); (case k0 => k_is); (case a1 => k_is); (case l1 => k_is); (case c1 => k_is); (case k1 => k_is); (case m30 => k_is); (case i2 => k_is); (case l2 => k_is); (case c2 => k_is); (case k2 => k_is); (case m19 => k_is); (case i3 => k_is); (case l3 => k_is); (case c3 => k_is); (case k3 => k_is); (case m9 => k_is); (case i4 => k_is); (case l4 => k_is); (case c4 => k_is); (case k4 => k_is); (case m5 => k_is); (case i5 => k_is); (case l5 => k_is); (case c5 => k_is); (case k5 => k_is); (case m6 => k_is); (case i6 => k_is); (case l6 => k_is); (case c6 => k_is); (case k6 => k_is); (case m11 => k_is); (case i7 => k_is); (case l7 => k_is); (case c7 => k_is); (case k7 => k_is); (case m12 => k_is); (case i8 => k_is); (case l8 => k_is); (case c8 => k_is); (case k8 => k_is); (case a9 => k_is); (case l9 => k_is); (case c9 => k_is); (case k9 => k_is); (case m14 => k_is); (case i10 => k_is); (case l10 => k_is); (case c10 => k_is); (case k10 => k_is); (case a11 => k_is); (case l11 => k_is); (case c11 => k_is); (case k11 => k_is); (case a12 => k_is); (case l12 => k_is); (case c12 => k_is); (case k12 => k_is); (case m20 => k_is); (case i13 => k_is); (case l13 => k_is); (case c13 => k_is); (case k13 => k_is); (case m21 => k_is); (case i14 => k_is); (case l14 => k_is); (case c14 => k_is); (case k14 => k_is); (case a15 => k_is); (case l15 => k_is); (case c15 => k_is); (case k15 => k_is); (case a16 => k_is); (case l16 => k_is); (case c16 => k_is); (case k16 => k_is); (case a17 => k_is); (case l17 => k_is); (case c17 => k_is); (case k17 => k_is); (case m3 => k_is); (case i18 => k_is); (case l18 => k_is); (case c18 => k_is); (case k18 => k_is); (case a19 => k_is); (case l19 => k_is); (case c19 => k_is); (case k19 => k_is); (case a20 => k_is); (case l20 => k_is); (case c20 => k_is); (case k20 => k_is); (case a21 => k_is); (case l21 => k_is); (case c21 => k_is); (case k21 => k_is); (case m7 => k_is); (case i22 => k_is); (case l22 => k_is); (case c22 => k_is); (case k22 => k_is); (case a23 => k_is); (case l23 => k_is); (case c23 => k_is); (case k23 => k_is); (case a24 => k_is); (case l24 => k_is); (case c24 => k_is); (case k24 => k_is); (case m10 => k_is); (case i25 => k_is); (case l25 => k_is); (case c25 => k_is); (case k25 => k_is); (case a26 => k_is); (case l26 => k_is); (case c26 => k_is); (case k26 => k_is); (case m43 => k_is); (case i27 => k_is); (case l27 => k_is); (case c27 => k_is); (case k27 => k_is); (case a28 => k_is); (case l28 => k_is); (case c28 => k_is); (case k28 => k_is); (case m26 => k_is); (case i29 => k_is); (case l29 => k_is); (case c29 => k_is); (case k29 => k_is); (case m18 => k_is); (case i30 => k_is); (case l30 => k_is); (case c30 => k_is); (case k30 => k_is); (case m24 => k_is); (case i31 => k_is); (case l31 => k_is); (case c31 => k_is); (case k31 => k_is); (case m23 => k_is); (case i32 => k_is); (case l32 => k_is); (case c32 => k_is); (case k32 => k_is); (case a33 => k_is); (case l33 => k_is); (case c33 => k_is); (case k33 => k_is); (case a34 => k_is); (case l34 => k_is); (case c34 => k_is); (case k34 => k_is); (case a35 => k_is); (case l35 => k_is); (case c35 => k_is); (case k35 => k_is); (case m27 => k_is); (case i36 => k_is); (case l36 => k_is); (case c36 => k_is); (case k36 => k_is); (case a37 => k_is); (case l37 => k_is); (case c37 => k_is); (case k37 => k_is); (case m38 => k_is); (case i38 => k_is); (case l38 => k_is); (case c38 => k_is); (case k38 => k_is); (case m42 => k_is); (case i39 => k_is); (case l39 => k_is); (case c39 => k_is); (case k39 => k_is); (case m31 => k_is); (case i40 => k_is); (case l40 => k_is); (case c40 => k_is); (case k40 => k_is); (case m32 => k_is); (case i41 => k_is); (case l41 => k_is); (case c41 => k_is); (case k41 => k_is); (case a42 => k_is); (case l42 => k_is); (case c42 => k_is); (case k42 => k_is); (case a43 => k_is); (case l43 => k_is); (case c43 => k_is); (case k43 => k_is); (case a44 => k_is); (case l44 => k_is); (case c44 => k_is); (case k44 => k_is); (case z0 => k_is); (case z1 => k_is); (case z2 => k_is); (case z3 => k_is); (case z4 => k_is); (case z5 => k_is); (case z6 => k_is); (case z7 => k_is); (case z8 => k_is); (case z9 => k_is); (case z10 => k_is); (case y0 => k_is); (case y1 => k_is); (case y2 => k_is); (case y3 => k_is); (case y4 => k_is); (case y5 => k_is); (case y6 => k_is); (case y7 => k_is); (case y8 => k_is); (case xg0 => k_is); (case xk0 => k_is); (case xe0 => k_exc); (case xs0 => k_is); (case xt0 => k_is); (case xg1 => k_is); (case xk1 => k_is); (case xe1 => k_exc); (case xs1 => k_is); (case xt1 => k_is); (case xg2 => k_is); (case xk2 => k_is); (case xe2 => k_exc); (case xs2 => k_is); (case xt2 => k_is); (case xg3 => k_is); (case xk3 => k_is); (case xe3 => k_exc); (case xs3 => k_is); (case xt3 => k_is)
