import PyProof.Rows.All
import Wide.All
import OpenK.AllK
import Wide.FinOn
import HandS.ForMost
import HandS.ForExc
import HandS.Walk
import HandS.Flow
import HandS.Style
import HandS.Wide
import HandS.TupAny
import HandS.TupLe
import HandS.TupMul
import HandS.Deep
import HandS.IsInst
import HandS.Zip
import HandS.SortInts
import HandS.Conv
import KE.SortData
import KE.DataCmp
import KE.DataMinMax
import KE.KIndexOf
import PyProof.SeqIndex
import KE.GoesEnum
import HandS.Iter
import PyProof.P3Eq
import PyProof.Rows.RegStrFacts
import PySem.Challenge.RW_tornsectors_k88_whole_moments_of_snapsho
set_option Elab.async false
set_option linter.all false
set_option maxRecDepth 100000
set_option maxHeartbeats 4000000
/-! AB: an abstract machine over data, and how the hand layer's judgements follow it. -/
namespace AB
open PySem PySem.Spec PyProof.Rows L2

inductive D where
  | non | bl (b : Bool) | int (i : Int) | str (x : Str) | tup (ds : List D) | lst (ds : List D) | rol (ds : List D) | loc (n : Nat) | con (a : Addr)
inductive AO where
  | lst (ds : List D)
  | ins (C : Addr) (fs : List (Str × D))
abbrev AH := List AO
abbrev Env := List (Option D)

/-- what stands for ever (S), what must stay as it is now (F), where the machine's objects lie (mu), how many they are (N) -/
structure Wd where
  S : Hp
  F : Hp
  mu : Nat → Addr
  N : Nat

mutual
inductive RepV (K : PySem.W.Frag) (G : Hp) (mu : Nat → Addr) (N : Nat) : V → D → Prop
  | non : RepV K G mu N .non .non
  | bl (b : Bool) : RepV K G mu N (.bl b) (.bl b)
  | int (i : Int) : RepV K G mu N (.int i) (.int i)
  | str (x : Str) : RepV K G mu N (.str x) (.str x)
  | tup {a : Addr} {xs : List V} {ds : List D} : SqT K G a xs → RepAll K G mu N xs ds → RepV K G mu N (.ref a) (.tup ds)
  | lst {a : Addr} {xs : List V} {ds : List D} : Rd G a (.lst xs) → RepAll K G mu N xs ds → RepV K G mu N (.ref a) (.lst ds)
  | rol {a : Addr} {xs : List V} {ds : List D} : SqL K G a xs → RepAll K G mu N xs ds → RepV K G mu N (.ref a) (.rol ds)
  | loc {n : Nat} : n < N → RepV K G mu N (.ref (mu n)) (.loc n)
  | con {a : Addr} : RepV K G mu N (.ref a) (.con a)
inductive RepAll (K : PySem.W.Frag) (G : Hp) (mu : Nat → Addr) (N : Nat) : List V → List D → Prop
  | nil : RepAll K G mu N [] []
  | cons {v : V} {vs : List V} {d : D} {ds : List D} : RepV K G mu N v d → RepAll K G mu N vs ds → RepAll K G mu N (v :: vs) (d :: ds)
end

section
variable {K : PySem.W.Frag} {G G' H H' : Hp} {mu mu' : Nat → Addr} {N N' : Nat}
def Ext (H H' : Hp) : Prop := ∀ a o, H a = some o → H' a = some o
theorem Ext.refl (H : Hp) : Ext H H := fun _ _ h => h
theorem Ext.trans {H H1 H2 : Hp} (a : Ext H H1) (b : Ext H1 H2) : Ext H H2 := fun x o h => b x o (a x o h)
theorem Ext.new {H : Hp} {p : Addr} {o : HO} (h : H p = none) : Ext H (upd H p o) := fun a u e => by
  rw [upd_ne (ne_of_none e h)]
  exact e
theorem Ext.rd {a : Addr} {u : HO} (e : Ext H H') (h : Rd H a u) : Rd H' a u := by
  rcases h with h | ⟨o, h⟩
  · exact .inl (e a _ h)
  · exact .inr ⟨o, e a _ h⟩
theorem Ext.l {a : Addr} {xs : List V} (e : Ext H H') (h : SqL K H a xs) : SqL K H' a xs := by
  rcases h with h | h
  · exact .inl (e.rd h)
  · exact .inr h
theorem Ext.t {a : Addr} {xs : List V} (e : Ext H H') (h : SqT K H a xs) : SqT K H' a xs := by
  rcases h with h | h
  · exact .inl (e.rd h)
  · exact .inr h
theorem Ext.free {p : Addr} (e : Ext H H') (h : H' p = none) : H p = none := by
  cases h1 : H p with
  | none => rfl
  | some o =>
    rw [e p o h1] at h
    cases h

mutual
theorem RepV.mono (e : Ext G G') (hN : N ≤ N') (hm : ∀ n, n < N → mu' n = mu n) : ∀ (d : D) (v : V), RepV K G mu N v d → RepV K G' mu' N' v d
  | .non, _, h => by cases h; exact .non
  | .bl _, _, h => by cases h; exact .bl _
  | .int _, _, h => by cases h; exact .int _
  | .str _, _, h => by cases h; exact .str _
  | .tup ds, _, h => by
    cases h with
    | tup a b => exact .tup (e.t a) (RepAll.mono e hN hm ds _ b)
  | .lst ds, _, h => by
    cases h with
    | lst a b => exact .lst (e.rd a) (RepAll.mono e hN hm ds _ b)
  | .rol ds, _, h => by
    cases h with
    | rol a b => exact .rol (e.l a) (RepAll.mono e hN hm ds _ b)
  | .loc n, _, h => by
    cases h with
    | loc a =>
      rw [← hm n a]
      exact .loc (Nat.lt_of_lt_of_le a hN)
  | .con _, _, h => by cases h; exact .con
theorem RepAll.mono (e : Ext G G') (hN : N ≤ N') (hm : ∀ n, n < N → mu' n = mu n) : ∀ (ds : List D) (vs : List V), RepAll K G mu N vs ds → RepAll K G' mu' N' vs ds
  | [], _, h => by cases h; exact .nil
  | d :: ds, _, h => by
    cases h with
    | cons a b => exact .cons (RepV.mono e hN hm d _ a) (RepAll.mono e hN hm ds _ b)
end
theorem RepAll.length : ∀ {vs : List V} {ds : List D}, RepAll K G mu N vs ds → vs.length = ds.length
  | _, _, .nil => rfl
  | _, _, .cons _ b => by rw [List.length_cons, List.length_cons, RepAll.length b]
theorem RepAll.append : ∀ {vs ws : List V} {ds es : List D}, RepAll K G mu N vs ds → RepAll K G mu N ws es → RepAll K G mu N (vs ++ ws) (ds ++ es)
  | _, _, _, _, .nil, h => h
  | _, _, _, _, .cons a b, h => .cons a (RepAll.append b h)
theorem RepAll.get : ∀ {vs : List V} {ds : List D} {i : Nat} {d : D}, RepAll K G mu N vs ds → ds[i]? = some d → ∃ v, vs[i]? = some v ∧ RepV K G mu N v d
  | _, _, _, _, .nil, e => by simp at e
  | _, _, 0, _, .cons a _, e => by
    simp at e
    subst e
    exact ⟨_, rfl, a⟩
  | _, _, i + 1, d, .cons _ b, e => by
    obtain ⟨v, h1, h2⟩ := RepAll.get (i := i) (d := d) b (by simpa using e)
    exact ⟨v, by simpa using h1, h2⟩
theorem RepAll.get' : ∀ {vs : List V} {ds : List D} {i : Nat} {v : V}, RepAll K G mu N vs ds → vs[i]? = some v → ∃ d, ds[i]? = some d ∧ RepV K G mu N v d
  | _, _, _, _, .nil, e => by simp at e
  | _, _, 0, _, .cons a _, e => by
    simp at e
    subst e
    exact ⟨_, rfl, a⟩
  | _, _, i + 1, d, .cons _ b, e => by
    obtain ⟨v, h1, h2⟩ := RepAll.get' (i := i) (v := d) b (by simpa using e)
    exact ⟨v, by simpa using h1, h2⟩
theorem RepAll.drop : ∀ {vs : List V} {ds : List D} (n : Nat), RepAll K G mu N vs ds → RepAll K G mu N (vs.drop n) (ds.drop n)
  | _, _, 0, h => h
  | _, _, _ + 1, .nil => .nil
  | _, _, n + 1, .cons _ b => RepAll.drop n b
theorem RepAll.take : ∀ {vs : List V} {ds : List D} (n : Nat), RepAll K G mu N vs ds → RepAll K G mu N (vs.take n) (ds.take n)
  | _, _, 0, _ => .nil
  | _, _, _ + 1, .nil => .nil
  | _, _, n + 1, .cons a b => .cons a (RepAll.take n b)
theorem RepAll.set {v : V} {d : D} (r : RepV K G mu N v d) : ∀ {vs : List V} {ds : List D} (n : Nat), RepAll K G mu N vs ds → RepAll K G mu N (vs.set n v) (ds.set n d)
  | _, _, _, .nil => .nil
  | _, _, 0, .cons _ b => .cons r b
  | _, _, n + 1, .cons a b => .cons a (RepAll.set r n b)
theorem RepAll.reverse : ∀ {vs : List V} {ds : List D}, RepAll K G mu N vs ds → RepAll K G mu N vs.reverse ds.reverse
  | _, _, .nil => .nil
  | _, _, .cons a b => by
    rw [List.reverse_cons, List.reverse_cons]
    exact (RepAll.reverse b).append (.cons a .nil)
theorem RepAll.eraseIdx : ∀ {vs : List V} {ds : List D} (n : Nat), RepAll K G mu N vs ds → RepAll K G mu N (vs.eraseIdx n) (ds.eraseIdx n)
  | _, _, _, .nil => .nil
  | _, _, 0, .cons _ b => b
  | _, _, n + 1, .cons a b => .cons a (RepAll.eraseIdx n b)
end

/-- what stands at a machine's object -/
def RepO (K : PySem.W.Frag) (w : Wd) (H : Hp) (a : Addr) : AO → Prop
  | .lst ds => ∃ xs, H a = some (.lst xs) ∧ RepAll K w.S w.mu w.N xs ds
  | .ins C fs => ∃ dx fv, H a = some (.ins C dx fv) ∧ fv.map (·.1) = fs.map (·.1) ∧ RepAll K w.S w.mu w.N (fv.map (·.2)) (fs.map (·.2)) ∧ w.S dx = some (.own a)
structure RepH (K : PySem.W.Frag) (w : Wd) (H : Hp) (h : AH) : Prop where
  ex : Ext w.S H
  len : w.N = h.length
  inj : ∀ m n, m < w.N → n < w.N → w.mu m = w.mu n → m = n
  cell : ∀ n o, h[n]? = some o → w.S (w.mu n) = none ∧ RepO K w H (w.mu n) o
  exF : Ext w.F H
  dis : ∀ a u, w.F a = some u → w.S a = none ∧ ∀ n, n < w.N → w.mu n ≠ a
structure Le (w w' : Wd) : Prop where
  ex : Ext w.S w'.S
  n : w.N ≤ w'.N
  mu : ∀ n, n < w.N → w'.mu n = w.mu n
  f : w'.F = w.F
/-- .. whatever must stay -/
structure LeX (w w' : Wd) : Prop where
  ex : Ext w.S w'.S
  n : w.N ≤ w'.N
  mu : ∀ n, n < w.N → w'.mu n = w.mu n
theorem Le.x {w w' : Wd} (l : Le w w') : LeX w w' := ⟨l.ex, l.n, l.mu⟩
theorem LeX.trans {a b c : Wd} (x : LeX a b) (y : LeX b c) : LeX a c :=
  ⟨x.ex.trans y.ex, Nat.le_trans x.n y.n, fun n hn => (y.mu n (Nat.lt_of_lt_of_le hn x.n)).trans (x.mu n hn)⟩
theorem Le.refl (w : Wd) : Le w w := ⟨Ext.refl _, Nat.le_refl _, fun _ _ => rfl, rfl⟩
theorem Le.trans {a b c : Wd} (x : Le a b) (y : Le b c) : Le a c :=
  ⟨x.ex.trans y.ex, Nat.le_trans x.n y.n, fun n hn => (y.mu n (Nat.lt_of_lt_of_le hn x.n)).trans (x.mu n hn), y.f.trans x.f⟩
abbrev Rv (K : PySem.W.Frag) (w : Wd) : V → D → Prop := RepV K w.S w.mu w.N
abbrev Ra (K : PySem.W.Frag) (w : Wd) : List V → List D → Prop := RepAll K w.S w.mu w.N
theorem Rv_monoX {K : PySem.W.Frag} {w w' : Wd} {v : V} {d : D} (l : LeX w w') (h : Rv K w v d) : Rv K w' v d := RepV.mono l.ex l.n l.mu d v h
theorem Ra_monoX {K : PySem.W.Frag} {w w' : Wd} {v : List V} {d : List D} (l : LeX w w') (h : Ra K w v d) : Ra K w' v d := RepAll.mono l.ex l.n l.mu d v h
theorem Rv_mono {K : PySem.W.Frag} {w w' : Wd} {v : V} {d : D} (l : Le w w') (h : Rv K w v d) : Rv K w' v d := RepV.mono l.ex l.n l.mu d v h
theorem Ra_mono {K : PySem.W.Frag} {w w' : Wd} {v : List V} {d : List D} (l : Le w w') (h : Ra K w v d) : Ra K w' v d := RepAll.mono l.ex l.n l.mu d v h

section
variable {K : PySem.W.Frag} {w : Wd} {H : Hp} {h : AH}
theorem RepO.some {a : Addr} {o : AO} (r : RepO K w H a o) : ∃ u, H a = some u := by
  cases o with
  | lst ds => obtain ⟨xs, e, _⟩ := r; exact ⟨_, e⟩
  | ins C fs => obtain ⟨dx, fv, e, _⟩ := r; exact ⟨_, e⟩
theorem RepH.taken (r : RepH K w H h) {n : Nat} (hn : n < w.N) : ∃ u, H (w.mu n) = some u := by
  have hl : n < h.length := by rw [← r.len]; exact hn
  obtain ⟨_, c⟩ := r.cell n h[n] (List.getElem?_eq_getElem hl)
  exact c.some
theorem RepH.ne (r : RepH K w H h) {n : Nat} {p : Addr} (hn : n < w.N) (hp : H p = none) : w.mu n ≠ p := by
  obtain ⟨u, e⟩ := r.taken hn
  intro z
  rw [z, hp] at e
  cases e
theorem RepO.mono {w' : Wd} {H' : Hp} {a : Addr} {o : AO} (l : Le w w') (e : H' a = H a) (r : RepO K w H a o) : RepO K w' H' a o := by
  cases o with
  | lst ds =>
    obtain ⟨xs, e1, r⟩ := r
    exact ⟨xs, e.trans e1, Ra_mono l r⟩
  | ins C fs =>
    obtain ⟨dx, fv, e1, e2, r, e3⟩ := r
    exact ⟨dx, fv, e.trans e1, e2, Ra_mono l r, l.ex _ _ e3⟩
/-- a new thing that never changes -/
def Wd.add (w : Wd) (p : Addr) (o : HO) : Wd := ⟨upd w.S p o, w.F, w.mu, w.N⟩
theorem RepH.le_add (r : RepH K w H h) {p : Addr} {o : HO} (hp : H p = none) : Le w (w.add p o) :=
  ⟨Ext.new (r.ex.free hp), Nat.le_refl _, fun _ _ => rfl, rfl⟩
theorem RepH.add (r : RepH K w H h) {p : Addr} {o : HO} (hp : H p = none) : RepH K (w.add p o) (upd H p o) h := by
  have hF : ∀ a u, w.F a = some u → a ≠ p := fun a u e => ne_of_none (r.exF _ _ e) hp
  refine ⟨fun a u e => ?_, r.len, r.inj, fun n o' e => ?_, fun a u e => by rw [upd_ne (hF a u e)]; exact r.exF _ _ e, fun a u e => ⟨by
    show upd w.S p o a = none
    rw [upd_ne (hF a u e)]
    exact (r.dis a u e).1, (r.dis a u e).2⟩⟩
  · have e : upd w.S p o a = some u := e
    by_cases ha : a = p
    · subst ha
      rw [upd_same] at e ⊢
      exact e
    · rw [upd_ne ha] at e ⊢
      exact r.ex _ _ e
  · obtain ⟨a, b⟩ := r.cell n o' e
    have hn : n < w.N := by
      rw [r.len]
      exact (List.getElem?_eq_some_iff.mp e).1
    have q := r.ne hn hp
    refine ⟨?_, b.mono (r.le_add hp) (upd_ne q)⟩
    show upd w.S p o (w.mu n) = none
    rw [upd_ne q]
    exact a
/-- a new object of the machine's -/
def Wd.push (w : Wd) (p : Addr) : Wd := ⟨w.S, w.F, fun n => if n = w.N then p else w.mu n, w.N + 1⟩
theorem Wd.le_push (w : Wd) (p : Addr) : Le w (w.push p) :=
  ⟨Ext.refl _, Nat.le_succ _, fun n hn => if_neg (Nat.ne_of_lt hn), rfl⟩
theorem Wd.push_mu (w : Wd) (p : Addr) : (w.push p).mu w.N = p := if_pos rfl
/-- p stands in H, is none of the known ones -/
structure Apart (w : Wd) (p : Addr) : Prop where
  s : w.S p = none
  m : ∀ n, n < w.N → w.mu n ≠ p
  f : w.F p = none
theorem RepH.push (r : RepH K w H h) {p : Addr} {o : AO} (ap : Apart w p) (ro : RepO K (w.push p) H p o) : RepH K (w.push p) H (h ++ [o]) := by
  refine ⟨r.ex, ?_, fun m n hm hn e => ?_, fun n o' e => ?_, r.exF, fun a u e => ⟨(r.dis a u e).1, fun n hn z => ?_⟩⟩
  rotate_left 3
  · have hn : n < w.N + 1 := hn
    have z : (if n = w.N then p else w.mu n) = a := z
    have e : w.F a = some u := e
    by_cases q : n = w.N
    · rw [if_pos q] at z
      rw [← z, ap.f] at e
      cases e
    · rw [if_neg q] at z
      exact (r.dis a u e).2 n (by omega) z
  · show w.N + 1 = _
    rw [r.len, List.length_append]
    rfl
  · have hm : m < w.N + 1 := hm
    have hn : n < w.N + 1 := hn
    have e : (if m = w.N then p else w.mu m) = (if n = w.N then p else w.mu n) := e
    by_cases m1 : m = w.N
    · by_cases n1 : n = w.N
      · rw [m1, n1]
      · rw [if_pos m1, if_neg n1] at e
        exact absurd e.symm (ap.m n (by omega))
    · by_cases n1 : n = w.N
      · rw [if_neg m1, if_pos n1] at e
        exact absurd e (ap.m m (by omega))
      · rw [if_neg m1, if_neg n1] at e
        exact r.inj m n (by omega) (by omega) e
  · by_cases hn : n < h.length
    · rw [List.getElem?_append_left hn] at e
      obtain ⟨a, b⟩ := r.cell n o' e
      have q : (w.push p).mu n = w.mu n := (w.le_push p).mu n (by rw [r.len]; exact hn)
      rw [q]
      exact ⟨a, b.mono (w.le_push p) rfl⟩
    · have hl := (List.getElem?_eq_some_iff.mp e).1
      rw [List.length_append] at hl
      have en : n = h.length := by
        simp at hl
        omega
      subst en
      rw [List.getElem?_append_right (Nat.le_refl _)] at e
      simp at e
      subst e
      rw [← r.len, w.push_mu]
      exact ⟨ap.s, ro⟩
theorem RepH.set (r : RepH K w H h) {n : Nat} {u : HO} {o : AO} (hn : n < w.N) (ro : RepO K w (upd H (w.mu n) u) (w.mu n) o) : RepH K w (upd H (w.mu n) u) (h.set n o) := by
  refine ⟨fun a x e => ?_, by rw [r.len, List.length_set], r.inj, fun m o' e => ?_, fun a x e => by rw [upd_ne (fun z => (r.dis a x e).2 n hn z.symm)]; exact r.exF _ _ e, r.dis⟩
  · have hl : n < h.length := by rw [← r.len]; exact hn
    obtain ⟨z, _⟩ := r.cell n h[n] (List.getElem?_eq_getElem hl)
    have q : a ≠ w.mu n := by
      intro y
      rw [y, z] at e
      cases e
    rw [upd_ne q]
    exact r.ex _ _ e
  · by_cases hm : m = n
    · subst hm
      have hl : m < h.length := by rw [← r.len]; exact hn
      obtain ⟨z, _⟩ := r.cell m h[m] (List.getElem?_eq_getElem hl)
      rw [List.getElem?_set_self hl] at e
      cases e
      exact ⟨z, ro⟩
    · rw [List.getElem?_set_ne (Ne.symm hm)] at e
      obtain ⟨a, b⟩ := r.cell m o' e
      have hl : m < w.N := by rw [r.len]; exact (List.getElem?_eq_some_iff.mp e).1
      refine ⟨a, b.mono (Le.refl w) (upd_ne fun z => hm (r.inj m n hl hn z))⟩
end

/-! ### results -/
inductive Res (α : Type) where
  | ok (a : α) (h : AH)
  | exc (c : Str) (fs : List (Str × D)) (h : AH)
  | stuck
def Res.bind {α β : Type} (r : Res α) (k : α → AH → Res β) : Res β :=
  match r with
  | .ok a h => k a h
  | .exc c fs h => .exc c fs h
  | .stuck => .stuck
@[simp] theorem Res.bind_ok {α β : Type} (a : α) (h : AH) (k : α → AH → Res β) : (Res.ok a h).bind k = k a h := rfl
@[simp] theorem Res.bind_stuck {α β : Type} (k : α → AH → Res β) : (Res.stuck : Res α).bind k = .stuck := rfl
@[simp] theorem Res.bind_exc {α β : Type} (c : Str) (fs : List (Str × D)) (h : AH) (k : α → AH → Res β) : (Res.exc c fs h : Res α).bind k = .exc c fs h := rfl
abbrev Me := Env → AH → Res D
abbrev MeL := Env → AH → Res (List D)
abbrev MeT := Env → AH → Res Bool

/-- the slots -/
def RepG (K : PySem.W.Frag) (w : Wd) (σ : L2.St) (G : Env) : Prop := σ.length = G.length ∧ ∀ (i : Nat) (d : D), G[i]? = some (some d) → ∃ v, σ[i]? = some (some v) ∧ Rv K w v d
theorem RepG.mono {K : PySem.W.Frag} {w w' : Wd} {σ : L2.St} {G : Env} (l : Le w w') (r : RepG K w σ G) : RepG K w' σ G :=
  ⟨r.1, fun i d e => by
    obtain ⟨v, h1, h2⟩ := r.2 i d e
    exact ⟨v, h1, Rv_mono l h2⟩⟩
theorem RepG.monoX {K : PySem.W.Frag} {w w' : Wd} {σ : L2.St} {G : Env} (l : LeX w w') (r : RepG K w σ G) : RepG K w' σ G :=
  ⟨r.1, fun i d e => by
    obtain ⟨v, h1, h2⟩ := r.2 i d e
    exact ⟨v, h1, Rv_monoX l h2⟩⟩
theorem RepG.set {K : PySem.W.Frag} {w : Wd} {σ : L2.St} {G : Env} {v : V} {d : D} (r : RepG K w σ G) (i : Nat) (rv : Rv K w v d) : RepG K w (σ.set i (some v)) (G.set i (some d)) := by
  refine ⟨by rw [List.length_set, List.length_set, r.1], fun j e h => ?_⟩
  by_cases hj : j = i
  · subst hj
    have hl : j < G.length := by
      have := (List.getElem?_eq_some_iff.mp h).1
      rwa [List.length_set] at this
    rw [List.getElem?_set_self hl] at h
    cases h
    exact ⟨v, List.getElem?_set_self (by rw [r.1]; exact hl), rv⟩
  · rw [List.getElem?_set_ne (Ne.symm hj)] at h
    obtain ⟨x, h1, h2⟩ := r.2 j e h
    exact ⟨x, by rw [List.getElem?_set_ne (Ne.symm hj)]; exact h1, h2⟩

/-- the wish of what is raised: its class and own dict, the slots, the heap -/
abbrev WX := Value → Option Addr → L2.St → Hp → Prop
/-- what an error carries -/
def RepX (K : PySem.W.Frag) (w : Wd) (H : Hp) (dd : Option Addr) : List (Str × D) → Prop
  | [] => True
  | fs => ∃ p fv, dd = some p ∧ H p = some (.xd fv) ∧ fv.map (·.1) = fs.map (·.1) ∧ RepAll K w.S w.mu w.N (fv.map (·.2)) (fs.map (·.2))

section
variable (K : PySem.W.Frag) (mg : Str → Option Value) (W : WX)
def OutX (w : Wd) (σ : L2.St) (c : Str) (fs : List (Str × D)) (h : AH) : Prop :=
  ∀ cls dd w' H', mg c = some cls → Le w w' → RepH K w' H' h → RepX K w' H' dd fs → W cls dd σ H'
def OutE (w : Wd) (σ : L2.St) (Q : VK) : Res D → Prop
  | .ok d h => ∀ v w' H', Le w w' → RepH K w' H' h → Rv K w' v d → Q v H'
  | .exc c fs h => OutX K mg W w σ c fs h
  | .stuck => False
/-- a new list, known to nobody -/
def OutF (w : Wd) (σ : L2.St) (Q : VK) : Res (List D) → Prop
  | .ok ds h => ∀ p xs w' H', Le w w' → RepH K w' H' h → Apart w' p → H' p = some (.lst xs) → Ra K w' xs ds → Q (.ref p) H'
  | .exc c fs h => OutX K mg W w σ c fs h
  | .stuck => False
def OutA (w : Wd) (σ : L2.St) (Q : List V → Hp → Prop) : Res (List D) → Prop
  | .ok ds h => ∀ vs w' H', Le w w' → RepH K w' H' h → Ra K w' vs ds → Q vs H'
  | .exc c fs h => OutX K mg W w σ c fs h
  | .stuck => False
def OutT (w : Wd) (σ : L2.St) (Q : Bool → Hp → Prop) : Res Bool → Prop
  | .ok b h => ∀ w' H', Le w w' → RepH K w' H' h → Q b H'
  | .exc c fs h => OutX K mg W w σ c fs h
  | .stuck => False
def tM (m : Me) : TE := fun σ H Q => ∃ w G h, RepG K w σ G ∧ RepH K w H h ∧ OutE K mg W w σ Q (m G h)
def tF (m : MeL) : TE := fun σ H Q => ∃ w G h, RepG K w σ G ∧ RepH K w H h ∧ OutF K mg W w σ Q (m G h)
def tAr (m : MeL) : TA := fun σ H Q => ∃ w G h, RepG K w σ G ∧ RepH K w H h ∧ OutA K mg W w σ Q (m G h)
def tT (m : MeT) : TT := fun σ H Q => ∃ w G h, RepG K w σ G ∧ RepH K w H h ∧ OutT K mg W w σ Q (m G h)
end

section
variable {K : PySem.W.Frag} {mg : Str → Option Value} {W : WX} {w w' : Wd} {σ : L2.St} {H : Hp} {G : Env} {h : AH}
theorem OutX.mono {c : Str} {fs : List (Str × D)} (l : Le w w') (o : OutX K mg W w σ c fs h) : OutX K mg W w' σ c fs h :=
  fun cls dd w2 H' e l2 r x => o cls dd w2 H' e (l.trans l2) r x
theorem OutE.mono {Q : VK} {r : Res D} (l : Le w w') (o : OutE K mg W w σ Q r) : OutE K mg W w' σ Q r := by
  cases r with
  | ok d h => exact fun v w2 H' l2 r x => o v w2 H' (l.trans l2) r x
  | exc c fs h => exact OutX.mono l o
  | stuck => exact o
theorem OutF.mono {Q : VK} {r : Res (List D)} (l : Le w w') (o : OutF K mg W w σ Q r) : OutF K mg W w' σ Q r := by
  cases r with
  | ok d h => exact fun p xs w2 H' l2 r x => o p xs w2 H' (l.trans l2) r x
  | exc c fs h => exact OutX.mono l o
  | stuck => exact o
theorem OutA.mono {Q : List V → Hp → Prop} {r : Res (List D)} (l : Le w w') (o : OutA K mg W w σ Q r) : OutA K mg W w' σ Q r := by
  cases r with
  | ok d h => exact fun v w2 H' l2 r x => o v w2 H' (l.trans l2) r x
  | exc c fs h => exact OutX.mono l o
  | stuck => exact o
theorem OutT.mono {Q : Bool → Hp → Prop} {r : Res Bool} (l : Le w w') (o : OutT K mg W w σ Q r) : OutT K mg W w' σ Q r := by
  cases r with
  | ok d h => exact fun w2 H' l2 r => o w2 H' (l.trans l2) r
  | exc c fs h => exact OutX.mono l o
  | stuck => exact o
/-- a part's reading, then what is made of it -/
theorem runE {m : Me} {Q : VK} (g : RepG K w σ G) (r : RepH K w H h)
    (k : OutE K mg W w σ Q (m G h)) : tM K mg W m σ H Q := ⟨w, G, h, g, r, k⟩
theorem OutE.bindE {m : Me} {R : VK} {Q : VK} {k : D → AH → Res D} (o : OutE K mg W w σ Q ((m G h).bind k))
    (hq : ∀ d h1 v w1 H1, Le w w1 → RepH K w1 H1 h1 → Rv K w1 v d → OutE K mg W w1 σ Q (k d h1) → R v H1) : OutE K mg W w σ R (m G h) := by
  cases e : m G h with
  | ok d h1 =>
    rw [e] at o
    exact fun v w1 H1 l r x => hq d h1 v w1 H1 l r x (OutE.mono l o)
  | exc c fs h1 =>
    rw [e] at o
    exact o
  | stuck =>
    rw [e] at o
    exact o
theorem OutF.bindE {m : Me} {R : VK} {Q : VK} {k : D → AH → Res (List D)} (o : OutF K mg W w σ Q ((m G h).bind k))
    (hq : ∀ d h1 v w1 H1, Le w w1 → RepH K w1 H1 h1 → Rv K w1 v d → OutF K mg W w1 σ Q (k d h1) → R v H1) : OutE K mg W w σ R (m G h) := by
  cases e : m G h with
  | ok d h1 =>
    rw [e] at o
    exact fun v w1 H1 l r x => hq d h1 v w1 H1 l r x (OutF.mono l o)
  | exc c fs h1 =>
    rw [e] at o
    exact o
  | stuck =>
    rw [e] at o
    exact o
theorem OutA.bindE {m : Me} {R : VK} {Q : List V → Hp → Prop} {k : D → AH → Res (List D)} (o : OutA K mg W w σ Q ((m G h).bind k))
    (hq : ∀ d h1 v w1 H1, Le w w1 → RepH K w1 H1 h1 → Rv K w1 v d → OutA K mg W w1 σ Q (k d h1) → R v H1) : OutE K mg W w σ R (m G h) := by
  cases e : m G h with
  | ok d h1 =>
    rw [e] at o
    exact fun v w1 H1 l r x => hq d h1 v w1 H1 l r x (OutA.mono l o)
  | exc c fs h1 =>
    rw [e] at o
    exact o
  | stuck =>
    rw [e] at o
    exact o
theorem OutT.bindE {m : Me} {R : VK} {Q : Bool → Hp → Prop} {k : D → AH → Res Bool} (o : OutT K mg W w σ Q ((m G h).bind k))
    (hq : ∀ d h1 v w1 H1, Le w w1 → RepH K w1 H1 h1 → Rv K w1 v d → OutT K mg W w1 σ Q (k d h1) → R v H1) : OutE K mg W w σ R (m G h) := by
  cases e : m G h with
  | ok d h1 =>
    rw [e] at o
    exact fun v w1 H1 l r x => hq d h1 v w1 H1 l r x (OutT.mono l o)
  | exc c fs h1 =>
    rw [e] at o
    exact o
  | stuck =>
    rw [e] at o
    exact o
theorem OutE.bindA {m : MeL} {R : List V → Hp → Prop} {Q : VK} {k : List D → AH → Res D} (o : OutE K mg W w σ Q ((m G h).bind k))
    (hq : ∀ ds h1 vs w1 H1, Le w w1 → RepH K w1 H1 h1 → Ra K w1 vs ds → OutE K mg W w1 σ Q (k ds h1) → R vs H1) : OutA K mg W w σ R (m G h) := by
  cases e : m G h with
  | ok d h1 =>
    rw [e] at o
    exact fun v w1 H1 l r x => hq d h1 v w1 H1 l r x (OutE.mono l o)
  | exc c fs h1 =>
    rw [e] at o
    exact o
  | stuck =>
    rw [e] at o
    exact o
theorem OutF.bindA {m : MeL} {R : List V → Hp → Prop} {Q : VK} {k : List D → AH → Res (List D)} (o : OutF K mg W w σ Q ((m G h).bind k))
    (hq : ∀ ds h1 vs w1 H1, Le w w1 → RepH K w1 H1 h1 → Ra K w1 vs ds → OutF K mg W w1 σ Q (k ds h1) → R vs H1) : OutA K mg W w σ R (m G h) := by
  cases e : m G h with
  | ok d h1 =>
    rw [e] at o
    exact fun v w1 H1 l r x => hq d h1 v w1 H1 l r x (OutF.mono l o)
  | exc c fs h1 =>
    rw [e] at o
    exact o
  | stuck =>
    rw [e] at o
    exact o
theorem OutA.bindA {m : MeL} {R : List V → Hp → Prop} {Q : List V → Hp → Prop} {k : List D → AH → Res (List D)} (o : OutA K mg W w σ Q ((m G h).bind k))
    (hq : ∀ ds h1 vs w1 H1, Le w w1 → RepH K w1 H1 h1 → Ra K w1 vs ds → OutA K mg W w1 σ Q (k ds h1) → R vs H1) : OutA K mg W w σ R (m G h) := by
  cases e : m G h with
  | ok d h1 =>
    rw [e] at o
    exact fun v w1 H1 l r x => hq d h1 v w1 H1 l r x (OutA.mono l o)
  | exc c fs h1 =>
    rw [e] at o
    exact o
  | stuck =>
    rw [e] at o
    exact o
theorem OutE.bindT {m : MeT} {R : Bool → Hp → Prop} {Q : VK} {k : Bool → AH → Res D} (o : OutE K mg W w σ Q ((m G h).bind k))
    (hq : ∀ b h1 w1 H1, Le w w1 → RepH K w1 H1 h1 → OutE K mg W w1 σ Q (k b h1) → R b H1) : OutT K mg W w σ R (m G h) := by
  cases e : m G h with
  | ok d h1 =>
    rw [e] at o
    exact fun w1 H1 l r => hq d h1 w1 H1 l r (OutE.mono l o)
  | exc c fs h1 =>
    rw [e] at o
    exact o
  | stuck =>
    rw [e] at o
    exact o
theorem OutT.bindT {m : MeT} {R : Bool → Hp → Prop} {Q : Bool → Hp → Prop} {k : Bool → AH → Res Bool} (o : OutT K mg W w σ Q ((m G h).bind k))
    (hq : ∀ b h1 w1 H1, Le w w1 → RepH K w1 H1 h1 → OutT K mg W w1 σ Q (k b h1) → R b H1) : OutT K mg W w σ R (m G h) := by
  cases e : m G h with
  | ok d h1 =>
    rw [e] at o
    exact fun w1 H1 l r => hq d h1 w1 H1 l r (OutT.mono l o)
  | exc c fs h1 =>
    rw [e] at o
    exact o
  | stuck =>
    rw [e] at o
    exact o
theorem OutE.bindF {m : MeL} {R : VK} {Q : VK} {k : List D → AH → Res D} (o : OutE K mg W w σ Q ((m G h).bind k))
    (hq : ∀ ds h1 p xs w1 H1, Le w w1 → RepH K w1 H1 h1 → Apart w1 p → H1 p = some (.lst xs) → Ra K w1 xs ds → OutE K mg W w1 σ Q (k ds h1) → R (.ref p) H1) : OutF K mg W w σ R (m G h) := by
  cases e : m G h with
  | ok d h1 =>
    rw [e] at o
    exact fun p xs w1 H1 l r a b x => hq d h1 p xs w1 H1 l r a b x (OutE.mono l o)
  | exc c fs h1 =>
    rw [e] at o
    exact o
  | stuck =>
    rw [e] at o
    exact o
end
end AB
/-! AB: expressions. -/
namespace AB
open PySem PySem.Spec PyProof.Rows L2

theorem _root_.L2.PE.wk {X : Cx} {e : Expr} {t t' : TE} (h : PE X e t) (k : ∀ σ H Q, t' σ H Q → t σ H Q) : PE X e t' := ⟨fun pins s σ H Q I q => h.run pins s σ H Q I (k σ H Q q)⟩
theorem _root_.L2.PT.wk {X : Cx} {e : Expr} {t t' : TT} (h : PT X e t) (k : ∀ σ H Q, t' σ H Q → t σ H Q) : PT X e t' := ⟨fun pins s σ H Q I q => h.run pins s σ H Q I (k σ H Q q)⟩
theorem _root_.L2.PW.wk {X : Cx} {e : Expr} {t t' : TT} (h : PW X e t) (k : ∀ σ H Q, t' σ H Q → t σ H Q) : PW X e t' := ⟨fun wh pins s σ H Q I q => h.run wh pins s σ H Q I (k σ H Q q)⟩
theorem _root_.L2.PA.wk {X : Cx} {e : List Expr} {t t' : TA} (h : PA X e t) (k : ∀ σ H Q, t' σ H Q → t σ H Q) : PA X e t' := ⟨fun pos pins s σ H Q I q => h.run pos pins s σ H Q I (k σ H Q q)⟩

/-- the size that a display, a sum, a slice may have here -/
def big : Nat := 1000000
theorem big_le {n : Nat} (h : n ≤ big) : n ≤ sizeLine := Nat.le_trans h (by decide)
theorem big_lt {n : Nat} (h : n < big) : n < sizeLine := Nat.lt_of_lt_of_le h (by decide)

/-! ### the combinators -/
def mV (i : Nat) : Me := fun G h => match G[i]? with
  | some (some d) => .ok d h
  | _ => .stuck
def mC (d : D) : Me := fun _ h => .ok d h
def mOp2 (f : D → D → AH → Res D) (a b : Me) : Me := fun G h => (a G h).bind fun x h1 => (b G h1).bind fun y h2 => f x y h2
def mOp1 (f : D → AH → Res D) (a : Me) : Me := fun G h => (a G h).bind fun x h1 => f x h1
def aNil : MeL := fun _ h => .ok [] h
def aCons (a : Me) (as : MeL) : MeL := fun G h => (a G h).bind fun x h1 => (as G h1).bind fun xs h2 => .ok (x :: xs) h2
def mN (f : List D → AH → Res D) (as : MeL) : Me := fun G h => (as G h).bind fun xs h1 => f xs h1
def fTup (ds : List D) (h : AH) : Res D := if ds.length ≤ big then .ok (.tup ds) h else .stuck
def lLst (as : MeL) : MeL := fun G h => (as G h).bind fun xs h1 => if xs.length ≤ big then .ok xs h1 else .stuck
/-- a new list, as a thing that is not changed any more -/
def mL (l : MeL) : Me := fun G h => (l G h).bind fun ds h1 => .ok (.lst ds) h1
/-- a new list, as an object of the machine's -/
def mNew (l : MeL) : Me := fun G h => (l G h).bind fun ds h1 => .ok (.loc h1.length) (h1 ++ [.lst ds])
/-- the items of a list, of a list or tuple -/
def vL (h : AH) : D → Option (List D)
  | .lst ds => some ds
  | .rol ds => some ds
  | .loc n => match h[n]? with
    | some (.lst ds) => some ds
    | _ => none
  | _ => none
/-- .. of a list that stands in the heap by itself -/
def vR (h : AH) : D → Option (List D)
  | .lst ds => some ds
  | .loc n => match h[n]? with
    | some (.lst ds) => some ds
    | _ => none
  | _ => none
def vS (h : AH) : D → Option (List D)
  | .tup ds => some ds
  | d => vL h d

section
variable {K : PySem.W.Frag} {w : Wd} {H : Hp} {h : AH} {v : V} {d : D} {ds : List D}
theorem vL_rep (r : RepH K w H h) (rv : Rv K w v d) (e : vL h d = some ds) : ∃ a xs, v = .ref a ∧ SqL K H a xs ∧ Ra K w xs ds := by
  cases rv with
  | lst a b =>
    cases e
    exact ⟨_, _, rfl, .inl (r.ex.rd a), b⟩
  | rol a b =>
    cases e
    exact ⟨_, _, rfl, r.ex.l a, b⟩
  | @loc n hn =>
    have e : (match h[n]? with
      | some (.lst ds) => some ds
      | _ => none) = some ds := e
    split at e
    · rename_i ds' e'
      cases e
      obtain ⟨_, xs, e2, ra⟩ := r.cell _ _ e'
      exact ⟨_, xs, rfl, .inl (.inl e2), ra⟩
    · cases e
  | _ => cases e
theorem vR_rep (r : RepH K w H h) (rv : Rv K w v d) (e : vR h d = some ds) : ∃ a xs, v = .ref a ∧ Rd H a (.lst xs) ∧ Ra K w xs ds := by
  cases rv with
  | lst a b =>
    cases e
    exact ⟨_, _, rfl, r.ex.rd a, b⟩
  | @loc n hn =>
    have e : (match h[n]? with
      | some (.lst ds) => some ds
      | _ => none) = some ds := e
    split at e
    · rename_i ds' e'
      cases e
      obtain ⟨_, xs, e2, ra⟩ := r.cell _ _ e'
      exact ⟨_, xs, rfl, .inl e2, ra⟩
    · cases e
  | _ => cases e
theorem vS_rep (r : RepH K w H h) (rv : Rv K w v d) (e : vS h d = some ds) : ∃ a xs, v = .ref a ∧ (SqL K H a xs ∨ SqT K H a xs) ∧ Ra K w xs ds := by
  by_cases ht : ∃ es, d = .tup es
  · obtain ⟨es, rfl⟩ := ht
    cases rv with
    | tup a b =>
      cases e
      exact ⟨_, _, rfl, .inr (r.ex.t a), b⟩
  · have e : vL h d = some ds := by
      cases d with
      | tup es => exact absurd ⟨es, rfl⟩ ht
      | _ => exact e
    obtain ⟨a, xs, h1, h2, h3⟩ := vL_rep r rv e
    exact ⟨a, xs, h1, .inl h2, h3⟩
end

section
variable {X : Cx} {W : WX} {pos : Pos}
abbrev TM (X : Cx) (W : WX) (m : Me) : TE := tM X.K X.mg W m
abbrev TF (X : Cx) (W : WX) (m : MeL) : TE := tF X.K X.mg W m
abbrev TAr (X : Cx) (W : WX) (m : MeL) : TA := tAr X.K X.mg W m
abbrev TTT (X : Cx) (W : WX) (m : MeT) : TT := tT X.K X.mg W m
/-- a step's outcome, done -/
theorem out_ok {K : PySem.W.Frag} {mg : Str → Option Value} {w : Wd} {σ : L2.St} {H : Hp} {Q : VK} {d : D} {h : AH} {v : V} (o : OutE K mg W w σ Q (.ok d h)) (r : RepH K w H h) (rv : Rv K w v d) : Q v H := o v w H (Le.refl _) r rv
/-- .. with a new thing that never changes -/
theorem out_add {K : PySem.W.Frag} {mg : Str → Option Value} {w : Wd} {σ : L2.St} {H : Hp} {Q : VK} {d : D} {h : AH} {p : Addr} {u : HO} (o : OutE K mg W w σ Q (.ok d h)) (r : RepH K w H h) (hp : H p = none) (rv : Rv K (w.add p u) (.ref p) d) : Q (.ref p) (upd H p u) :=
  o (.ref p) (w.add p u) (upd H p u) (r.le_add hp) (r.add hp) rv
theorem rv_tup {K : PySem.W.Frag} {w : Wd} {H : Hp} {h : AH} {p : Addr} {xs : List V} {ds : List D} (r : RepH K w H h) (hp : H p = none) (ra : Ra K w xs ds) : Rv K (w.add p (.tup xs)) (.ref p) (.tup ds) :=
  .tup (.inl (.inl upd_same)) (Ra_mono (r.le_add hp) ra)
theorem rv_lst {K : PySem.W.Frag} {w : Wd} {H : Hp} {h : AH} {p : Addr} {xs : List V} {ds : List D} (r : RepH K w H h) (hp : H p = none) (ra : Ra K w xs ds) : Rv K (w.add p (.lst xs)) (.ref p) (.lst ds) :=
  .lst (.inl upd_same) (Ra_mono (r.le_add hp) ra)
/-- a new list that nobody knows yet -/
theorem out_new {K : PySem.W.Frag} {mg : Str → Option Value} {w : Wd} {σ : L2.St} {H : Hp} {Q : VK} {ds : List D} {h : AH} {p : Addr} {xs : List V} (o : OutF K mg W w σ Q (.ok ds h)) (r : RepH K w H h) (hp : H p = none) (ra : Ra K w xs ds) : Q (.ref p) (upd H p (.lst xs)) := by
  refine o p xs w (upd H p (.lst xs)) (Le.refl _) ⟨fun a u e => ?_, r.len, r.inj, fun n o' e => ?_, fun a u e => by rw [upd_ne (ne_of_none (r.exF _ _ e) hp)]; exact r.exF _ _ e, r.dis⟩ ⟨r.ex.free hp, fun n hn => r.ne hn hp, r.exF.free hp⟩ upd_same ra
  · have e2 := r.ex _ _ e
    rw [upd_ne (ne_of_none e2 hp)]
    exact e2
  · obtain ⟨a, b⟩ := r.cell n o' e
    have hn : n < w.N := by
      rw [r.len]
      exact (List.getElem?_eq_some_iff.mp e).1
    exact ⟨a, b.mono (Le.refl _) (upd_ne (r.ne hn hp))⟩
/-- a list that stands apart, from now on never changed -/
theorem RepH.keep {K : PySem.W.Frag} {w : Wd} {H : Hp} {h : AH} {p : Addr} {u : HO} (r : RepH K w H h) (ap : Apart w p) (e : H p = some u) : RepH K (w.add p u) H h ∧ Le w (w.add p u) := by
  have l : Le w (w.add p u) := ⟨Ext.new ap.s, Nat.le_refl _, fun _ _ => rfl, rfl⟩
  refine ⟨⟨fun a x q => ?_, r.len, r.inj, fun n o' q => ?_, r.exF, fun a x q => ⟨by
    show upd w.S p u a = none
    have z : a ≠ p := fun z => by
      have q : w.F a = some x := q
      rw [z, ap.f] at q
      cases q
    rw [upd_ne z]
    exact (r.dis a x q).1, (r.dis a x q).2⟩⟩, l⟩
  · have q : upd w.S p u a = some x := q
    by_cases ha : a = p
    · subst ha
      rw [upd_same] at q
      rw [e, q]
    · rw [upd_ne ha] at q
      exact r.ex _ _ q
  · obtain ⟨a, b⟩ := r.cell n o' q
    have hn : n < w.N := by
      rw [r.len]
      exact (List.getElem?_eq_some_iff.mp q).1
    refine ⟨?_, b.mono l rfl⟩
    show upd w.S p u (w.mu n) = none
    rw [upd_ne (ap.m n hn)]
    exact a

/-! ### names, constants -/
theorem e_var (i : Nat) {x : Str} (hN : X.N[i]? = some x := by rfl) (hv : Vis X.env.scope x := by first | exact Or.inl rfl | exact Or.inr (Or.inl rfl) | exact Or.inr (Or.inr rfl)) (hd : (x == ("__debug__" : Str)) = false := by decide)
    (hcd : (x == ("__classdict__" : Str)) = false := by decide) : PE X (.Name x pos) (TM X W (mV i)) := by
  refine (pe_var hN hv hd hcd).wk fun σ H Q ⟨w, G, h, g, r, o⟩ => ?_
  unfold mV at o
  split at o
  · rename_i d e
    obtain ⟨v, e2, rv⟩ := g.2 i d e
    exact ⟨v, e2, out_ok o r rv⟩
  · exact o.elim
def StRep (K : PySem.W.Frag) (v : V) (d : D) : Prop := ∀ (w : Wd), Rv K w v d
theorem e_const {e : Expr} {v : V} {d : D} (h : PE X e (tC v)) (s : StRep X.K v d) : PE X e (TM X W (mC d)) :=
  h.wk fun σ H Q ⟨w, G, h, g, r, o⟩ => out_ok o r (s w)
theorem e_int {i : Int} {j : Nat} : PE X (.Constant (.int i) j pos) (TM X W (mC (.int i))) := e_const pe_int fun _ => .int i
theorem e_bl {b : Bool} {j : Nat} : PE X (.Constant (.bool b) j pos) (TM X W (mC (.bl b))) := e_const pe_bl fun _ => .bl b
theorem e_non {j : Nat} : PE X (.Constant .none j pos) (TM X W (mC .non)) := e_const pe_non fun _ => .non
theorem e_str {x : Str} {j : Nat} : PE X (.Constant (.str x) j pos) (TM X W (mC (.str x))) := e_const pe_str fun _ => .str x
theorem e_glob {x : Str} {v : V} {u : Value} {d : D} (hm : X.mg x = some u) (rv : RelV v u) (s : StRep X.K v d) (hg : Gl X x := by rfl) (hd : (x == ("__debug__" : Str)) = false := by decide) : PE X (.Name x pos) (TM X W (mC d)) :=
  e_const (pe_glob hg hm rv hd) s

/-! ### operators -/
def Fol2 (X : Cx) (W : WX) (f : D → D → AH → Res D) (r : R2) : Prop := ∀ (w : Wd) (h : AH) (H : Hp) (σ : L2.St) (Q : VK) (v1 v2 : V) (d1 d2 : D),
  RepH X.K w H h → Rv X.K w v1 d1 → Rv X.K w v2 d2 → OutE X.K X.mg W w σ Q (f d1 d2 h) → r v1 v2 H Q
def Fol1 (X : Cx) (W : WX) (f : D → AH → Res D) (r : V → Hp → VK → Prop) : Prop := ∀ (w : Wd) (h : AH) (H : Hp) (σ : L2.St) (Q : VK) (v1 : V) (d1 : D),
  RepH X.K w H h → Rv X.K w v1 d1 → OutE X.K X.mg W w σ Q (f d1 h) → r v1 H Q
def FolN (X : Cx) (W : WX) (f : List D → AH → Res D) (r : List V → Hp → VK → Prop) : Prop := ∀ (w : Wd) (h : AH) (H : Hp) (σ : L2.St) (Q : VK) (vs : List V) (ds : List D),
  RepH X.K w H h → Ra X.K w vs ds → OutE X.K X.mg W w σ Q (f ds h) → r vs H Q
def FolF (X : Cx) (W : WX) (f : List D → AH → Res (List D)) (r : List V → Hp → VK → Prop) : Prop := ∀ (w : Wd) (h : AH) (H : Hp) (σ : L2.St) (Q : VK) (vs : List V) (ds : List D),
  RepH X.K w H h → Ra X.K w vs ds → OutF X.K X.mg W w σ Q (f ds h) → r vs H Q
variable {a b : Expr} {ma mb : Me}
theorem op2 {f : D → D → AH → Res D} {r : R2} (hf : Fol2 X W f r) {σ : L2.St} {H : Hp} {Q : VK} (t : TM X W (mOp2 f ma mb) σ H Q) : tOp r (TM X W ma) (TM X W mb) σ H Q := by
  obtain ⟨w, G, h, g, rh, o⟩ := t
  refine ⟨w, G, h, g, rh, o.bindE fun d h1 v w1 H1 l r1 x o1 => ⟨w1, G, h1, g.mono l, r1, o1.bindE fun d2 h2 v2 w2 H2 l2 r2 x2 o2 => ?_⟩⟩
  exact hf w2 h2 H2 σ Q v v2 d d2 r2 (Rv_mono l2 x) x2 o2
theorem e_bin {f : D → D → AH → Res D} {r : R2} {op : Operator} (ho : OpR X (binaryOp op) r) (hf : Fol2 X W f r) (ha : PE X a (TM X W ma)) (hb : PE X b (TM X W mb)) : PE X (.BinOp a op b pos) (TM X W (mOp2 f ma mb)) :=
  (pe_op ho ha hb).wk fun _ _ _ t => op2 hf t
theorem e_cmp {f : D → D → AH → Res D} {r : R2} {op : CmpOp} (ho : OpR X (compareOp op) r) (hf : Fol2 X W f r) (ha : PE X a (TM X W ma)) (hb : PE X b (TM X W mb)) (hm : behindInMarks op b = false := by rfl) : PE X (.Compare a [op] [b] pos) (TM X W (mOp2 f ma mb)) :=
  (pe_cmpR ho ha hb hm).wk fun _ _ _ t => op2 hf t
theorem e_un {f : D → AH → Res D} {r : V → Hp → VK → Prop} {op : UnaryOp} (ho : UnR X (unaryOp op) r) (hf : Fol1 X W f r) (ha : PE X a (TM X W ma)) : PE X (.UnaryOp op a pos) (TM X W (mOp1 f ma)) := by
  refine (pe_un ho ha).wk fun σ H Q ⟨w, G, h, g, rh, o⟩ => ⟨w, G, h, g, rh, o.bindE fun d h1 v w1 H1 l r1 x o1 => ?_⟩
  exact hf w1 h1 H1 σ Q v d r1 x o1
/-! ints -/
def fAdd (x y : D) (h : AH) : Res D := match x, y with
  | .int i, .int j => .ok (.int (i + j)) h
  | .str i, .str j => if i.length + j.length ≤ big then .ok (.str (i ++ j)) h else .stuck
  | .tup xs, .tup ys => if xs.length + ys.length ≤ big then .ok (.tup (xs ++ ys)) h else .stuck
  | x, y => match vR h x, vR h y with
    | some xs, some ys => if xs.length + ys.length ≤ big then .ok (.lst (xs ++ ys)) h else .stuck
    | _, _ => .stuck
def fSub (x y : D) (h : AH) : Res D := match x, y with
  | .int i, .int j => .ok (.int (i - j)) h
  | _, _ => .stuck
/-- a factor within 2 ^ 60 -/
def fMul (x y : D) (h : AH) : Res D := match x, y with
  | .int i, .int j => if (-(2 ^ 60) ≤ i ∧ i ≤ 2 ^ 60) ∨ (-(2 ^ 60) ≤ j ∧ j ≤ 2 ^ 60) then .ok (.int (i * j)) h else .stuck
  | _, _ => .stuck
def fMod (x y : D) (h : AH) : Res D := match x, y with
  | .int i, .int j => if 0 < j then .ok (.int (i % j)) h else .stuck
  | _, _ => .stuck
def fDiv (x y : D) (h : AH) : Res D := match x, y with
  | .int i, .int j => if 0 < j ∧ j ≤ 2 ^ 60 then .ok (.int (i / j)) h else .stuck
  | _, _ => .stuck
def fPow (x y : D) (h : AH) : Res D := match x, y with
  | .int i, .int j => if 0 ≤ j ∧ j ≤ 1000 ∧ 0 ≤ i ∧ i ≤ 1000 then .ok (.int (i ^ j.toNat)) h else .stuck
  | _, _ => .stuck
def fNeg (x : D) (h : AH) : Res D := match x with
  | .int i => .ok (.int (-i)) h
  | _ => .stuck
def fLt (x y : D) (h : AH) : Res D := match x, y with
  | .int i, .int j => .ok (.bl (decide (i < j))) h
  | _, _ => .stuck
def fLe (x y : D) (h : AH) : Res D := match x, y with
  | .int i, .int j => .ok (.bl (decide (i ≤ j))) h
  | _, _ => .stuck
def fGt (x y : D) (h : AH) : Res D := match x, y with
  | .int i, .int j => .ok (.bl (decide (j < i))) h
  | _, _ => .stuck
def fGe (x y : D) (h : AH) : Res D := match x, y with
  | .int i, .int j => .ok (.bl (decide (j ≤ i))) h
  | _, _ => .stuck
def fIsN (x y : D) (h : AH) : Res D := match x, y with
  | .non, .non => .ok (.bl true) h
  | _, .non => .ok (.bl false) h
  | _, _ => .stuck
def fNotN (x y : D) (h : AH) : Res D := match x, y with
  | .non, .non => .ok (.bl false) h
  | _, .non => .ok (.bl true) h
  | _, _ => .stuck
theorem rv_int {w : Wd} {v : V} {i : Int} (r : Rv X.K w v (.int i)) : v = .int i := by cases r; rfl
theorem fol_int {g : Int → Int → V} {f : D → D → AH → Res D} {e : Int → Int → D} (hs : ∀ i j w, Rv X.K w (g i j) (e i j)) (hf : ∀ x y h, (∃ i j, x = .int i ∧ y = .int j ∧ f x y h = .ok (e i j) h) ∨ f x y h = .stuck) : Fol2 X W f (rI0 g) := by
  intro w h H σ Q v1 v2 d1 d2 rh r1 r2 o
  rcases hf d1 d2 h with ⟨i, j, rfl, rfl, z⟩ | z
  · rw [z] at o
    cases r1
    cases r2
    exact ⟨i, j, rfl, rfl, out_ok o rh (hs i j w)⟩
  · rw [z] at o
    exact o.elim
theorem two_cases {α : Type} {f : D → D → AH → Res D} {e : Int → Int → D} (h1 : ∀ i j h, f (.int i) (.int j) h = .ok (e i j) h) (h2 : ∀ x y h, (∀ i j, ¬ (x = .int i ∧ y = .int j)) → f x y h = .stuck) : ∀ x y h, (∃ i j, x = .int i ∧ y = .int j ∧ f x y h = .ok (e i j) h) ∨ f x y h = .stuck := by
  intro x y h
  by_cases z : ∃ i j, x = .int i ∧ y = .int j
  · obtain ⟨i, j, rfl, rfl⟩ := z
    exact .inl ⟨i, j, rfl, rfl, h1 i j h⟩
  · exact .inr (h2 x y h fun i j q => z ⟨i, j, q⟩)
theorem fol_lt : Fol2 X W fLt (rI0 fun i j => .bl (decide (i < j))) := fol_int (e := fun i j => .bl (decide (i < j))) (fun _ _ _ => .bl _) fun x y h => by
  cases x <;> cases y <;> first | exact .inr rfl | exact .inl ⟨_, _, rfl, rfl, rfl⟩
theorem fol_le : Fol2 X W fLe (rI0 fun i j => .bl (decide (i ≤ j))) := fol_int (e := fun i j => .bl (decide (i ≤ j))) (fun _ _ _ => .bl _) fun x y h => by
  cases x <;> cases y <;> first | exact .inr rfl | exact .inl ⟨_, _, rfl, rfl, rfl⟩
theorem fol_gt : Fol2 X W fGt (rI0 fun i j => .bl (decide (j < i))) := fol_int (e := fun i j => .bl (decide (j < i))) (fun _ _ _ => .bl _) fun x y h => by
  cases x <;> cases y <;> first | exact .inr rfl | exact .inl ⟨_, _, rfl, rfl, rfl⟩
theorem fol_ge : Fol2 X W fGe (rI0 fun i j => .bl (decide (j ≤ i))) := fol_int (e := fun i j => .bl (decide (j ≤ i))) (fun _ _ _ => .bl _) fun x y h => by
  cases x <;> cases y <;> first | exact .inr rfl | exact .inl ⟨_, _, rfl, rfl, rfl⟩
theorem fol_sub : Fol2 X W fSub (rI0 fun i j => .int (i - j)) := fol_int (e := fun i j => .int (i - j)) (fun _ _ _ => .int _) fun x y h => by
  cases x <;> cases y <;> first | exact .inr rfl | exact .inl ⟨_, _, rfl, rfl, rfl⟩
theorem fol_intC {C : Int → Int → Prop} {g : Int → Int → V} {f : D → D → AH → Res D} {e : Int → Int → D} (hs : ∀ i j w, Rv X.K w (g i j) (e i j)) (hf : ∀ x y h, (∃ i j, x = .int i ∧ y = .int j ∧ C i j ∧ f x y h = .ok (e i j) h) ∨ f x y h = .stuck) : Fol2 X W f (rI C g) := by
  intro w h H σ Q v1 v2 d1 d2 rh r1 r2 o
  rcases hf d1 d2 h with ⟨i, j, rfl, rfl, c, z⟩ | z
  · rw [z] at o
    cases r1
    cases r2
    exact ⟨i, j, rfl, rfl, c, out_ok o rh (hs i j w)⟩
  · rw [z] at o
    exact o.elim
theorem fol_mul : Fol2 X W fMul (rI CMul fun i j => .int (i * j)) := fol_intC (e := fun i j => .int (i * j)) (fun _ _ _ => .int _) fun x y h => by
  cases x with
  | int i =>
    cases y with
    | int j =>
      show (∃ i' j', _) ∨ (if _ then _ else _) = _
      by_cases c : (-(2 ^ 60) ≤ i ∧ i ≤ 2 ^ 60) ∨ (-(2 ^ 60) ≤ j ∧ j ≤ 2 ^ 60)
      · refine .inl ⟨i, j, rfl, rfl, ?_, if_pos c⟩
        rcases c with c | c
        · exact .inl ⟨by omega, by omega⟩
        · exact .inr ⟨by omega, by omega⟩
      · exact .inr (if_neg c)
    | _ => exact .inr rfl
  | _ => exact .inr rfl
theorem fol_mod : Fol2 X W fMod (rI (fun _ j => 0 < j) fun i j => .int (i % j)) := fol_intC (e := fun i j => .int (i % j)) (fun _ _ _ => .int _) fun x y h => by
  cases x with
  | int i =>
    cases y with
    | int j =>
      show (∃ i' j', _) ∨ (if _ then _ else _) = _
      by_cases c : 0 < j
      · exact .inl ⟨i, j, rfl, rfl, c, if_pos c⟩
      · exact .inr (if_neg c)
    | _ => exact .inr rfl
  | _ => exact .inr rfl
theorem fol_div : Fol2 X W fDiv (rI CDivW fun i j => .int (i / j)) := fol_intC (e := fun i j => .int (i / j)) (fun _ _ _ => .int _) fun x y h => by
  cases x with
  | int i =>
    cases y with
    | int j =>
      show (∃ i' j', _) ∨ (if _ then _ else _) = _
      by_cases c : 0 < j ∧ j ≤ 2 ^ 60
      · exact .inl ⟨i, j, rfl, rfl, wide_div (b := 61) c.1 (by omega) (by decide) (by decide), if_pos c⟩
      · exact .inr (if_neg c)
    | _ => exact .inr rfl
  | _ => exact .inr rfl
theorem fol_pow : Fol2 X W fPow (rI CPow fun i j => .int (i ^ j.toNat)) := fol_intC (e := fun i j => .int (i ^ j.toNat)) (fun _ _ _ => .int _) fun x y h => by
  cases x with
  | int i =>
    cases y with
    | int j =>
      show (∃ i' j', _) ∨ (if _ then _ else _) = _
      by_cases c : 0 ≤ j ∧ j ≤ 1000 ∧ 0 ≤ i ∧ i ≤ 1000
      · exact .inl ⟨i, j, rfl, rfl, ⟨by omega, by omega, by omega⟩, if_pos c⟩
      · exact .inr (if_neg c)
    | _ => exact .inr rfl
  | _ => exact .inr rfl
theorem fol_neg : Fol1 X W fNeg (rU fun i => .int (-i)) := by
  intro w h H σ Q v1 d1 rh r1 o
  cases r1 with
  | int i => exact ⟨i, rfl, out_ok o rh (.int _)⟩
  | _ => exact o.elim
/-- two lists -/
def rCatR : R2 := fun x y H Q => ∃ l b xs zs, x = .ref l ∧ y = .ref b ∧ Rd H l (.lst xs) ∧ Rd H b (.lst zs) ∧ xs.length + zs.length ≤ sizeLine ∧ ∀ p, H p = none → Q (.ref p) (upd H p (.lst (xs ++ zs)))
theorem op_catR : OpR X (binaryOp .Add) rCatR := by
  intro pins s σ H x y v u Q I rx ry h
  obtain ⟨l, b, xs, zs, rfl, rfl, hH, hB, hz, q⟩ := h
  cases rx
  cases ry
  obtain ⟨z, its, n, r, e⟩ := hH.ok I.hok
  obtain ⟨z2, its2, n2, r2, e2⟩ := hB.ok I.hok
  have hl := r.length
  have hl2 := r2.length
  refine PySem.P.add_list e e2 ?_ (by rw [List.size_toArray, List.size_toArray]; omega)
  have ea : its.toArray ++ its2.toArray = (its ++ its2).toArray := by simp
  rw [ea]
  exact ⟨.ref _, _, I.lnew (t' := s.toks) (r.append r2) (by rw [List.length_append]; omega), rfl, q _ I.fresh⟩
def rAdd3 (K : PySem.W.Frag) : R2 := fun x y H Q => (rI0 (fun i j => .int (i + j)) x y H Q) ∨ ((∃ i j, x = .str i ∧ y = .str j ∧ i.length + j.length ≤ sizeLine ∧ Q (.str (i ++ j)) H) ∨ (rCatA K x y H Q ∨ rCatR x y H Q))
theorem op_add3 : OpR X (binaryOp .Add) (rAdd3 X.K) := OpR.or op_add (OpR.or op_add_str (OpR.or op_catA op_catR))
theorem fol_add : Fol2 X W fAdd (rAdd3 X.K) := by
  intro w h H σ Q v1 v2 d1 d2 rh r1 r2 o
  have lists : OutE X.K X.mg W w σ Q (match vR h d1, vR h d2 with
    | some xs, some ys => if xs.length + ys.length ≤ big then .ok (.lst (xs ++ ys)) h else .stuck
    | _, _ => .stuck) → rAdd3 X.K v1 v2 H Q := by
    intro o
    split at o
    · rename_i xs ys e1 e2
      split at o
      · rename_i c
        obtain ⟨a, us, rfl, h1, h2⟩ := vR_rep rh r1 e1
        obtain ⟨b, ws, rfl, g1, g2⟩ := vR_rep rh r2 e2
        have lx := h2.length
        have ly := g2.length
        exact .inr (.inr (.inr ⟨a, b, us, ws, rfl, rfl, h1, g1, big_le (by omega), fun p hp => out_add o rh hp (rv_lst rh hp (h2.append g2))⟩))
      · exact o.elim
    · exact o.elim
  unfold fAdd at o
  split at o
  · cases r1
    cases r2
    exact .inl ⟨_, _, rfl, rfl, out_ok o rh (.int _)⟩
  · split at o
    · rename_i c
      cases r1
      cases r2
      exact .inr (.inl ⟨_, _, rfl, rfl, big_le c, out_ok o rh (.str _)⟩)
    · exact o.elim
  · split at o
    · rename_i c
      cases r1 with
      | @tup p xs ds h1 h2 =>
        cases r2 with
        | @tup q ys es g1 g2 =>
          have lx := h2.length
          have ly := g2.length
          refine .inr (.inr (.inl ⟨p, q, xs, ys, rfl, rfl, rh.ex.t h1, rh.ex.t g1, big_le (by omega), fun ex => ?_, fun _ ey => ?_, fun _ _ z hz => ?_⟩))
          · subst ex
            cases h2
            exact out_ok o rh (.tup g1 g2)
          · subst ey
            cases g2
            rw [List.append_nil] at o
            exact out_ok o rh (.tup h1 h2)
          · exact out_add o rh hz (rv_tup rh hz (h2.append g2))
    · exact o.elim
  · exact lists o
theorem fol_isN : Fol2 X W fIsN (fun x y H Q => y = .non ∧ Q (.bl (decide (x = .non))) H) := by
  intro w h H σ Q v1 v2 d1 d2 rh r1 r2 o
  cases r2 with
  | non =>
    refine ⟨rfl, ?_⟩
    cases r1 <;> exact out_ok o rh (.bl _)
  | _ => cases r1 <;> exact o.elim
theorem fol_notN : Fol2 X W fNotN (fun x y H Q => y = .non ∧ Q (.bl (!decide (x = .non))) H) := by
  intro w h H σ Q v1 v2 d1 d2 rh r1 r2 o
  cases r2 with
  | non =>
    refine ⟨rfl, ?_⟩
    cases r1 <;> exact out_ok o rh (.bl _)
  | _ => cases r1 <;> exact o.elim
def fIsB (x y : D) (h : AH) : Res D := match x, y with
  | .bl i, .bl j => .ok (.bl (decide (i = j))) h
  | _, _ => .stuck
def fNotB (x y : D) (h : AH) : Res D := match x, y with
  | .bl i, .bl j => .ok (.bl (!decide (i = j))) h
  | _, _ => .stuck
theorem fol_isB : Fol2 X W fIsB rIsB := by
  intro w h H σ Q v1 v2 d1 d2 rh r1 r2 o
  cases r1 with
  | bl i =>
    cases r2 with
    | bl j => exact ⟨i, j, rfl, rfl, out_ok o rh (.bl _)⟩
    | _ => exact o.elim
  | _ => exact o.elim
theorem fol_notB : Fol2 X W fNotB rNotB := by
  intro w h H σ Q v1 v2 d1 d2 rh r1 r2 o
  cases r1 with
  | bl i =>
    cases r2 with
    | bl j => exact ⟨i, j, rfl, rfl, out_ok o rh (.bl _)⟩
    | _ => exact o.elim
  | _ => exact o.elim

/-! ### argument lists, displays -/
variable {es : List Expr} {e : Expr} {as : MeL}
theorem a_nil : PA X [] (TAr X W aNil) := pa_nil.wk fun σ H Q ⟨w, G, h, g, r, o⟩ => o [] w H (Le.refl _) r .nil
theorem a_cons (he : PE X e (TM X W ma)) (ha : PA X es (TAr X W as)) (hs : starEach (e :: es) X.env = (false, eval e X.env) :: starEach es X.env := by rfl) : PA X (e :: es) (TAr X W (aCons ma as)) :=
  (pa_cons he ha hs).wk fun σ H Q ⟨w, G, h, g, r, o⟩ => ⟨w, G, h, g, r, o.bindE fun d h1 v w1 H1 l r1 x o1 => ⟨w1, G, h1, g.mono l, r1, o1.bindA fun ds h2 vs w2 H2 l2 r2 xs o2 => o2 _ w2 H2 (Le.refl _) r2 (.cons (Rv_mono l2 x) xs)⟩⟩
theorem e_tup {x1} (ha : PA X es (TAr X W as)) : PE X (.Tuple es x1 pos) (TM X W (mN fTup as)) := by
  refine (pe_tup ha).wk fun σ H Q ⟨w, G, h, g, r, o⟩ => ⟨w, G, h, g, r, o.bindA fun ds h1 vs w1 H1 l r1 x o1 => ?_⟩
  unfold fTup at o1
  split at o1
  · rename_i c
    exact ⟨big_le (by rw [x.length]; exact c), fun p hp => out_add o1 r1 hp (rv_tup r1 hp x)⟩
  · exact o1.elim
theorem f_lst {x1} (ha : PA X es (TAr X W as)) : PE X (.List es x1) (TF X W (lLst as)) := by
  refine (pe_lst ha).wk fun σ H Q ⟨w, G, h, g, r, o⟩ => ⟨w, G, h, g, r, o.bindA fun ds h1 vs w1 H1 l r1 x o1 => ?_⟩
  split at o1
  · rename_i c
    exact ⟨big_le (by rw [x.length]; exact c), fun p hp => out_new o1 r1 hp x⟩
  · exact o1.elim
/-- a new list, never changed from now on; a new list as an object -/
theorem L_read {l : MeL} {σ : L2.St} {H : Hp} {Q : VK} (t : TM X W (mL l) σ H Q) : TF X W l σ H Q := by
  obtain ⟨w, G, h, g, r, o⟩ := t
  refine ⟨w, G, h, g, r, OutE.bindF (m := l) o fun ds h1 p xs w1 H1 l r1 ap hp x o1 => ?_⟩
  obtain ⟨r2, l2⟩ := r1.keep ap hp
  exact o1 _ _ H1 l2 r2 (.lst (.inl upd_same) (Ra_mono l2 x))
theorem e_L {l : MeL} (he : PE X e (TF X W l)) : PE X e (TM X W (mL l)) := he.wk fun _ _ _ t => L_read t
theorem new_read {l : MeL} {σ : L2.St} {H : Hp} {Q : VK} (t : TM X W (mNew l) σ H Q) : TF X W l σ H Q := by
  obtain ⟨w, G, h, g, r, o⟩ := t
  refine ⟨w, G, h, g, r, OutE.bindF (m := l) o fun ds h1 p xs w1 H1 l r1 ap hp x o1 => ?_⟩
  refine o1 _ (w1.push p) H1 (w1.le_push p) (r1.push ap ⟨xs, hp, Ra_mono (w1.le_push p) x⟩) ?_
  have e1 : h1.length = w1.N := r1.len.symm
  rw [e1]
  have e2 : (w1.push p).mu w1.N = p := w1.push_mu p
  have q : Rv X.K (w1.push p) (.ref ((w1.push p).mu w1.N)) (.loc w1.N) := .loc (Nat.lt_succ_self _)
  rw [e2] at q
  exact q
theorem e_new {l : MeL} (he : PE X e (TF X W l)) : PE X e (TM X W (mNew l)) := he.wk fun _ _ _ t => new_read t
end
end AB
/-! AB: calls, truth, equality, subscripts. -/
namespace AB
open PySem PySem.Spec PyProof.Rows L2

/-! ### data of the library's -/
mutual
def toP : D → Option PyData
  | .non => some .none
  | .bl b => some (.bool b)
  | .int i => some (.int i)
  | .str x => some (.str x)
  | .tup ds => (toPs ds).map .tuple
  | .lst ds => (toPs ds).map .list
  | .rol _ => none
  | .loc _ => none
  | .con _ => none
def toPs : List D → Option (List PyData)
  | [] => some []
  | d :: ds => match toP d, toPs ds with
    | some p, some ps => some (p :: ps)
    | _, _ => none
end
/-- a list of the machine's, read as it stands -/
def toPh (h : AH) (d : D) : Option PyData := match d with
  | .loc n => match h[n]? with
    | some (.lst ds) => (toPs ds).map .list
    | _ => none
  | d => toP d
section
variable {K : PySem.W.Frag} {w : Wd} {H : Hp} {h : AH}
mutual
theorem toP_rep (ex : Ext w.S H) : ∀ (d : D) (v : V) (p : PyData), Rv K w v d → toP d = some p → Dp K H v p
  | .non, _, _, r, e => by cases r; cases e; exact .non
  | .bl _, _, _, r, e => by cases r; cases e; exact .bl _
  | .int _, _, _, r, e => by cases r; cases e; exact .int _
  | .str _, _, _, r, e => by cases r; cases e; exact .str _
  | .tup ds, _, p, r, e => by
    cases r with
    | tup a b =>
      unfold toP at e
      cases q : toPs ds with
      | none => rw [q] at e; cases e
      | some ps =>
        rw [q] at e
        cases e
        exact .tup (ex.t a) (toPs_rep ex ds _ ps b q)
  | .lst ds, _, p, r, e => by
    cases r with
    | lst a b =>
      unfold toP at e
      cases q : toPs ds with
      | none => rw [q] at e; cases e
      | some ps =>
        rw [q] at e
        cases e
        exact .lst (.inl (ex.rd a)) (toPs_rep ex ds _ ps b q)
  | .rol _, _, _, _, e => by cases e
  | .loc _, _, _, _, e => by cases e
  | .con _, _, _, _, e => by cases e
theorem toPs_rep (ex : Ext w.S H) : ∀ (ds : List D) (vs : List V) (ps : List PyData), Ra K w vs ds → toPs ds = some ps → DpAll K H vs ps
  | [], _, _, r, e => by cases r; cases e; exact .nil
  | d :: ds, _, ps, r, e => by
    cases r with
    | cons a b =>
      unfold toPs at e
      cases q1 : toP d with
      | none => rw [q1] at e; cases e
      | some p =>
        cases q2 : toPs ds with
        | none => rw [q1, q2] at e; cases e
        | some qs =>
          rw [q1, q2] at e
          cases e
          exact .cons (toP_rep ex d _ p a q1) (toPs_rep ex ds _ qs b q2)
end
theorem toPh_rep (r : RepH K w H h) {v : V} {d : D} {p : PyData} (rv : Rv K w v d) (e : toPh h d = some p) : Dp K H v p := by
  cases rv with
  | @loc n hn =>
    have e : (match h[n]? with
      | some (.lst ds) => (toPs ds).map .list
      | _ => none) = some p := e
    split at e
    · rename_i ds e'
      obtain ⟨_, xs, e2, ra⟩ := r.cell _ _ e'
      cases q : toPs ds with
      | none => rw [q] at e; cases e
      | some ps =>
        rw [q] at e
        cases e
        exact .lst (.inl (.inl e2)) (toPs_rep r.ex ds _ ps ra q)
    · cases e
  | non => exact toP_rep r.ex _ _ p .non e
  | bl b => exact toP_rep r.ex _ _ p (.bl b) e
  | int b => exact toP_rep r.ex _ _ p (.int b) e
  | str b => exact toP_rep r.ex _ _ p (.str b) e
  | tup a b => exact toP_rep r.ex _ _ p (.tup a b) e
  | lst a b => exact toP_rep r.ex _ _ p (.lst a b) e
  | con => cases e
  | rol => cases e
end
/-- both read, of a shape that the library compares -/
def okP (h : AH) (d : D) : Option PyData := match toPh h d with
  | some p => if SeqAt.shaped p = true then some p else none
  | none => none
theorem okP_some {h : AH} {d : D} {p : PyData} (e : okP h d = some p) : toPh h d = some p ∧ SeqAt.shaped p = true := by
  unfold okP at e
  split at e
  · split at e
    · cases e
      exact ⟨by assumption, by assumption⟩
    · cases e
  · cases e
def fEq (x y : D) (h : AH) : Res D := match okP h x, okP h y with
  | some p, some q => .ok (.bl (PyData.eqv p q)) h
  | _, _ => .stuck
def fNe (x y : D) (h : AH) : Res D := match okP h x, okP h y with
  | some p, some q => .ok (.bl (!PyData.eqv p q)) h
  | _, _ => .stuck
/-- x in a list or tuple -/
def inD (h : AH) (x y : D) : Option Bool := match okP h x, okP h y with
  | some p, some (.list qs) => some (qs.any fun z => PyData.eqv z p)
  | some p, some (.tuple qs) => some (qs.any fun z => PyData.eqv z p)
  | _, _ => none
def fIn (x y : D) (h : AH) : Res D := match inD h x y with
  | some b => .ok (.bl b) h
  | none => .stuck
def fNotIn (x y : D) (h : AH) : Res D := match inD h x y with
  | some b => .ok (.bl (!b)) h
  | none => .stuck
section
variable {X : Cx} {W : WX}
theorem fol_eq : Fol2 X W fEq (rEqD X.K) := by
  intro w h H σ Q v1 v2 d1 d2 rh r1 r2 o
  unfold fEq at o
  split at o
  · rename_i p q e1 e2
    obtain ⟨a1, a2⟩ := okP_some e1
    obtain ⟨b1, b2⟩ := okP_some e2
    exact ⟨p, q, toPh_rep rh r1 a1, toPh_rep rh r2 b1, a2, b2, out_ok o rh (.bl _)⟩
  · exact o.elim
theorem fol_ne : Fol2 X W fNe (rNeD X.K) := by
  intro w h H σ Q v1 v2 d1 d2 rh r1 r2 o
  unfold fNe at o
  split at o
  · rename_i p q e1 e2
    obtain ⟨a1, a2⟩ := okP_some e1
    obtain ⟨b1, b2⟩ := okP_some e2
    exact ⟨p, q, toPh_rep rh r1 a1, toPh_rep rh r2 b1, a2, b2, out_ok o rh (.bl _)⟩
  · exact o.elim
/-- x in y, x not in y: a list or a tuple -/
def rInA (K : PySem.W.Frag) (neg : Bool) : R2 := fun x y H Q => ∃ d ds, Dp K H x d ∧ (Dp K H y (.list ds) ∨ Dp K H y (.tuple ds)) ∧ SeqAt.shaped d = true ∧ SeqAt.shaped (.list ds) = true ∧ Q (.bl (if neg then !(ds.any fun z => PyData.eqv z d) else ds.any fun z => PyData.eqv z d)) H
theorem op_inA (hu : X.A.units + 65 < cLine) : OpR X (compareOp .In) (rInA X.K false) := by
  intro pins s σ H x y v u Q I rx ry h
  obtain ⟨d, ds, hd, he, sd, se, q⟩ := h
  obtain ⟨as, r1⟩ := Dp.reads I d x v hd rx
  rcases he with he | he
  · obtain ⟨bs, r2⟩ := Dp.reads I (.list ds) y u he ry
    exact SeqAt.in_list_reads r2 r1 (SeqAt.canLay_of_shaped se) (SeqAt.canLay_of_shaped sd) (room_in_shaped sd hu) ⟨.bl _, H, I, rfl, q⟩
  · obtain ⟨bs, r2⟩ := Dp.reads I (.tuple ds) y u he ry
    exact SeqAt.in_tuple_reads r2 r1 (SeqAt.canLay_of_shaped se) (SeqAt.canLay_of_shaped sd) (room_in_shaped sd hu) ⟨.bl _, H, I, rfl, q⟩
theorem op_notInA (hu : X.A.units + 65 < cLine) : OpR X (compareOp .NotIn) (rInA X.K true) := by
  intro pins s σ H x y v u Q I rx ry h
  obtain ⟨d, ds, hd, he, sd, se, q⟩ := h
  obtain ⟨as, r1⟩ := Dp.reads I d x v hd rx
  rcases he with he | he
  · obtain ⟨bs, r2⟩ := Dp.reads I (.list ds) y u he ry
    exact SeqAt.notIn_list_reads r2 r1 (SeqAt.canLay_of_shaped se) (SeqAt.canLay_of_shaped sd) (room_in_shaped sd hu) ⟨.bl _, H, I, rfl, q⟩
  · obtain ⟨bs, r2⟩ := Dp.reads I (.tuple ds) y u he ry
    exact SeqAt.notIn_tuple_reads r2 r1 (SeqAt.canLay_of_shaped se) (SeqAt.canLay_of_shaped sd) (room_in_shaped sd hu) ⟨.bl _, H, I, rfl, q⟩
theorem inD_rep {K : PySem.W.Frag} {w : Wd} {H : Hp} {h : AH} {v1 v2 : V} {d1 d2 : D} {b : Bool} (rh : RepH K w H h) (r1 : Rv K w v1 d1) (r2 : Rv K w v2 d2) (e : inD h d1 d2 = some b) :
    ∃ d ds, Dp K H v1 d ∧ (Dp K H v2 (.list ds) ∨ Dp K H v2 (.tuple ds)) ∧ SeqAt.shaped d = true ∧ SeqAt.shaped (.list ds) = true ∧ b = ds.any fun z => PyData.eqv z d := by
  unfold inD at e
  split at e
  · rename_i p qs e1 e2
    obtain ⟨a1, a2⟩ := okP_some e1
    obtain ⟨b1, b2⟩ := okP_some e2
    cases e
    exact ⟨p, qs, toPh_rep rh r1 a1, .inl (toPh_rep rh r2 b1), a2, b2, rfl⟩
  · rename_i p qs e1 e2
    obtain ⟨a1, a2⟩ := okP_some e1
    obtain ⟨b1, b2⟩ := okP_some e2
    cases e
    exact ⟨p, qs, toPh_rep rh r1 a1, .inr (toPh_rep rh r2 b1), a2, b2, rfl⟩
  · cases e
theorem fol_in : Fol2 X W fIn (rInA X.K false) := by
  intro w h H σ Q v1 v2 d1 d2 rh r1 r2 o
  unfold fIn at o
  split at o
  · rename_i b e
    obtain ⟨d, ds, q1, q2, q3, q4, rfl⟩ := inD_rep rh r1 r2 e
    exact ⟨d, ds, q1, q2, q3, q4, out_ok o rh (.bl _)⟩
  · exact o.elim
theorem fol_notIn : Fol2 X W fNotIn (rInA X.K true) := by
  intro w h H σ Q v1 v2 d1 d2 rh r1 r2 o
  unfold fNotIn at o
  split at o
  · rename_i b e
    obtain ⟨d, ds, q1, q2, q3, q4, rfl⟩ := inD_rep rh r1 r2 e
    exact ⟨d, ds, q1, q2, q3, q4, out_ok o rh (.bl _)⟩
  · exact o.elim
end

/-! ### truth, tests -/
def truD (h : AH) : D → Option Bool
  | .non => some false
  | .bl b => some b
  | .int i => some (i != 0)
  | d => (vS h d).map fun ds => !ds.isEmpty
def tOf (m : Me) : MeT := fun G h => (m G h).bind fun d h1 => match truD h1 d with
  | some b => .ok b h1
  | none => .stuck
/-- a bool's own -/
def tBl (m : Me) : MeT := fun G h => (m G h).bind fun d h1 => match d with
  | .bl b => .ok b h1
  | _ => .stuck
def tAndM (a b : MeT) : MeT := fun G h => (a G h).bind fun c h1 => if c = true then b G h1 else .ok false h1
def tOrM (a b : MeT) : MeT := fun G h => (a G h).bind fun c h1 => if c = true then .ok true h1 else b G h1
def tNotM (a : MeT) : MeT := fun G h => (a G h).bind fun c h1 => .ok (!c) h1
def mAnd (a b : Me) : Me := fun G h => (a G h).bind fun d h1 => match truD h1 d with
  | some true => b G h1
  | some false => .ok d h1
  | none => .stuck
def mOr (a b : Me) : Me := fun G h => (a G h).bind fun d h1 => match truD h1 d with
  | some true => .ok d h1
  | some false => b G h1
  | none => .stuck
def mNot (a : Me) : Me := fun G h => (a G h).bind fun d h1 => match truD h1 d with
  | some b => .ok (.bl (!b)) h1
  | none => .stuck
def mIf (c : MeT) (a b : Me) : Me := fun G h => (c G h).bind fun t h1 => if t = true then a G h1 else b G h1
theorem truD_rep {K : PySem.W.Frag} {w : Wd} {H : Hp} {h : AH} {v : V} {d : D} {b : Bool} (rh : RepH K w H h) (rv : Rv K w v d) (e : truD h d = some b) : TruV K v H b := by
  have seq : ∀ {ds : List D}, vS h d = some ds → b = (!ds.isEmpty) → TruV K v H b := by
    intro ds q hb
    obtain ⟨a, xs, rfl, sq, ra⟩ := vS_rep rh rv q
    have eb : b = !xs.isEmpty := by
      rw [hb]
      cases ra <;> rfl
    rcases sq with sq | sq
    · exact .inl ⟨xs, sq, eb⟩
    · exact .inr (.inl ⟨xs, sq, eb⟩)
  cases d with
  | non => cases rv; cases e; rfl
  | bl c => cases rv; cases e; rfl
  | int c => cases rv; cases e; rfl
  | str c => cases e
  | con c => cases e
  | tup ds => cases e; exact seq rfl rfl
  | lst ds => cases e; exact seq rfl rfl
  | rol ds => cases e; exact seq rfl rfl
  | loc n =>
    have e : (vS h (.loc n)).map (fun ds : List D => !ds.isEmpty) = some b := e
    cases q : vS h (.loc n) with
    | none => rw [q] at e; cases e
    | some ds =>
      rw [q] at e
      cases e
      exact seq q rfl
section
variable {X : Cx} {W : WX} {pos : Pos} {a b c : Expr} {rest : List Expr} {ma mb : Me} {ta tb tc : MeT}
theorem t_tru (ha : PE X a (TM X W ma)) (he : ∀ whole, isTrue a X.env whole = (do let v ← whole; standAt a.pos; holding [v] (truthy v)) := by intro _; rfl) : PT X a (TTT X W (tOf ma)) := by
  refine (pt_truth ha he).wk fun σ H Q ⟨w, G, h, g, r, o⟩ => ⟨w, G, h, g, r, o.bindE fun d h1 v w1 H1 l r1 x o1 => ?_⟩
  split at o1
  · rename_i k e
    exact ⟨k, truD_rep r1 x e, o1 w1 H1 (Le.refl _) r1⟩
  · exact o1.elim
/-- a comparison -/
theorem t_cmp {f : D → D → AH → Res D} {r : R2} {op : CmpOp} (ho : OpR X (compareOp op) r) (hf : Fol2 X W f r) (ha : PE X a (TM X W ma)) (hb : PE X b (TM X W mb)) (hm : behindInMarks op b = false := by rfl) : PT X (.Compare a [op] [b] pos) (TTT X W (tBl (mOp2 f ma mb))) := by
  refine (pt_cmpR ho ha hb hm).wk fun σ H Q ⟨w, G, h, g, r, o⟩ => ?_
  refine op2 hf ⟨w, G, h, g, r, o.bindE fun d h1 v w1 H1 l r1 x o1 => ?_⟩
  split at o1
  · cases x
    exact ⟨_, rfl, o1 w1 H1 (Le.refl _) r1⟩
  · exact o1.elim
theorem t_not (ha : PT X a (TTT X W ta)) : PT X (.UnaryOp .Not a pos) (TTT X W (tNotM ta)) :=
  (pt_not ha).wk fun σ H Q ⟨w, G, h, g, r, o⟩ => ⟨w, G, h, g, r, o.bindT fun b h1 w1 H1 l r1 o1 => o1 w1 H1 (Le.refl _) r1⟩
theorem w_one (op : BoolOp) (ha : PT X a (TTT X W ta)) : PW X (.BoolOp op [a] pos) (TTT X W ta) := by
  cases op
  · exact pw_and1 ha
  · exact pw_or1 ha
theorem w_and (ha : PT X a (TTT X W ta)) (hb : PW X (.BoolOp .And (b :: rest) pos) (TTT X W tb)) : PW X (.BoolOp .And (a :: b :: rest) pos) (TTT X W (tAndM ta tb)) := by
  refine (pw_and ha hb).wk fun σ H Q ⟨w, G, h, g, r, o⟩ => ⟨w, G, h, g, r, o.bindT fun c h1 w1 H1 l r1 o1 => ?_⟩
  cases c with
  | true => exact ⟨w1, G, h1, g.mono l, r1, o1⟩
  | false => exact o1 w1 H1 (Le.refl _) r1
theorem w_or (ha : PT X a (TTT X W ta)) (hb : PW X (.BoolOp .Or (b :: rest) pos) (TTT X W tb)) : PW X (.BoolOp .Or (a :: b :: rest) pos) (TTT X W (tOrM ta tb)) := by
  refine (pw_or ha hb).wk fun σ H Q ⟨w, G, h, g, r, o⟩ => ⟨w, G, h, g, r, o.bindT fun c h1 w1 H1 l r1 o1 => ?_⟩
  cases c with
  | true => exact o1 w1 H1 (Le.refl _) r1
  | false => exact ⟨w1, G, h1, g.mono l, r1, o1⟩
theorem e_one {op : BoolOp} (ha : PE X a (TM X W ma)) : PE X (.BoolOp op [a] pos) (TM X W ma) := pe_one ha
theorem e_and (ha : PE X a (TM X W ma)) (hb : PE X (.BoolOp .And (b :: rest) pos) (TM X W mb)) : PE X (.BoolOp .And (a :: b :: rest) pos) (TM X W (mAnd ma mb)) := by
  refine (pe_andT ha hb).wk fun σ H Q ⟨w, G, h, g, r, o⟩ => ⟨w, G, h, g, r, o.bindE fun d h1 v w1 H1 l r1 x o1 => ?_⟩
  split at o1
  · rename_i e
    exact ⟨true, truD_rep r1 x e, iteT ⟨w1, G, h1, g.mono l, r1, o1⟩⟩
  · rename_i e
    exact ⟨false, truD_rep r1 x e, iteF (out_ok o1 r1 x)⟩
  · exact o1.elim
theorem e_or (ha : PE X a (TM X W ma)) (hb : PE X (.BoolOp .Or (b :: rest) pos) (TM X W mb)) : PE X (.BoolOp .Or (a :: b :: rest) pos) (TM X W (mOr ma mb)) := by
  refine (pe_orT ha hb).wk fun σ H Q ⟨w, G, h, g, r, o⟩ => ⟨w, G, h, g, r, o.bindE fun d h1 v w1 H1 l r1 x o1 => ?_⟩
  split at o1
  · rename_i e
    exact ⟨true, truD_rep r1 x e, iteT (out_ok o1 r1 x)⟩
  · rename_i e
    exact ⟨false, truD_rep r1 x e, iteF ⟨w1, G, h1, g.mono l, r1, o1⟩⟩
  · exact o1.elim
theorem e_not (ha : PE X a (TM X W ma)) : PE X (.UnaryOp .Not a pos) (TM X W (mNot ma)) := by
  refine (pe_notT ha).wk fun σ H Q ⟨w, G, h, g, r, o⟩ => ⟨w, G, h, g, r, o.bindE fun d h1 v w1 H1 l r1 x o1 => ?_⟩
  split at o1
  · rename_i b e
    exact ⟨b, truD_rep r1 x e, out_ok o1 r1 (.bl _)⟩
  · exact o1.elim
theorem e_if (hc : PT X c (TTT X W tc)) (ha : PE X a (TM X W ma)) (hb : PE X b (TM X W mb)) : PE X (.IfExp c a b pos) (TM X W (mIf tc ma mb)) := by
  refine (pe_ifExp hc ha hb).wk fun σ H Q ⟨w, G, h, g, r, o⟩ => ⟨w, G, h, g, r, o.bindT fun t h1 w1 H1 l r1 o1 => ?_⟩
  cases t with
  | true => exact ⟨w1, G, h1, g.mono l, r1, o1⟩
  | false => exact ⟨w1, G, h1, g.mono l, r1, o1⟩
/-- least <= x <= most -/
def mChain (f g : D → D → AH → Res D) (a b c : Me) : Me := fun G h => (a G h).bind fun x h1 => (b G h1).bind fun y h2 => (f x y h2).bind fun z h3 => match z with
  | .bl true => (c G h3).bind fun u h4 => g y u h4
  | .bl false => .ok (.bl false) h3
  | _ => .stuck
theorem OutE.bindR {K : PySem.W.Frag} {mg : Str → Option Value} {w : Wd} {σ : L2.St} {R Q : VK} {k : D → AH → Res D} {m : Res D} (o : OutE K mg W w σ Q (m.bind k))
    (hq : ∀ d h1 v w1 H1, Le w w1 → RepH K w1 H1 h1 → Rv K w1 v d → OutE K mg W w1 σ Q (k d h1) → R v H1) : OutE K mg W w σ R m := by
  cases m with
  | ok d h1 => exact fun v w1 H1 l r x => hq d h1 v w1 H1 l r x (OutE.mono l o)
  | exc c fs h1 => exact o
  | stuck => exact o
theorem e_chain {f f' : D → D → AH → Res D} {r r' : R2} {op op' : CmpOp} {mc : Me} (ho : OpR X (compareOp op) r) (ho' : OpR X (compareOp op') r') (hf : Fol2 X W f r) (hf' : Fol2 X W f' r')
    (ha : PE X a (TM X W ma)) (hb : PE X b (TM X W mb)) (hc : PE X c (TM X W mc)) (hm : lastMarks [op, op'] [b, c] = false := by with_unfolding_all rfl) : PE X (.Compare a [op, op'] [b, c] pos) (TM X W (mChain f f' ma mb mc)) := by
  refine (pe_chain ho ho' ha hb hc hm).wk fun σ H Q ⟨w, G, h, g, rh, o⟩ => ?_
  refine ⟨w, G, h, g, rh, o.bindE fun d h1 v w1 H1 l r1 x o1 => ⟨w1, G, h1, g.mono l, r1, o1.bindE fun d2 h2 v2 w2 H2 l2 r2 x2 o2 => ?_⟩⟩
  refine hf w2 h2 H2 σ _ v v2 d d2 r2 (Rv_mono l2 x) x2 (o2.bindR fun d3 h3 v3 w3 H3 l3 r3 x3 o3 => ?_)
  split at o3
  · cases x3
    exact ⟨true, rfl, iteT ⟨w3, G, h3, g.mono (l.trans (l2.trans l3)), r3, o3.bindE fun d4 h4 v4 w4 H4 l4 r4 x4 o4 => hf' w4 h4 H4 σ Q v2 v4 d2 d4 r4 (Rv_mono (l3.trans l4) x2) x4 o4⟩⟩
  · cases x3
    exact ⟨false, rfl, iteF (out_ok o3 r3 (.bl false))⟩
  · exact o3.elim
theorem t_chain {f f' : D → D → AH → Res D} {r r' : R2} {op op' : CmpOp} {mc : Me} (ho : OpR X (compareOp op) r) (ho' : OpR X (compareOp op') r') (hf : Fol2 X W f r) (hf' : Fol2 X W f' r')
    (ha : PE X a (TM X W ma)) (hb : PE X b (TM X W mb)) (hc : PE X c (TM X W mc)) (hm : lastMarks [op, op'] [b, c] = false := by with_unfolding_all rfl) : PT X (.Compare a [op, op'] [b, c] pos) (TTT X W (tBl (mChain f f' ma mb mc))) := by
  refine (pt_chain ho ho' ha hb hc hm).wk fun σ H Q ⟨w, G, h, g, rh, o⟩ => ?_
  have o : OutT X.K X.mg W w σ Q ((mChain f f' ma mb mc G h).bind _) := o
  have o2 : OutE X.K X.mg W w σ (fun x H1 => ∃ k, x = .bl k ∧ Q k H1) (mChain f f' ma mb mc G h) := o.bindE fun d h1 v w1 H1 l r1 x o1 => by
    split at o1
    · cases x
      exact ⟨_, rfl, o1 w1 H1 (Le.refl _) r1⟩
    · exact o1.elim
  refine ⟨w, G, h, g, rh, o2.bindE fun d h1 v w1 H1 l r1 x o1 => ⟨w1, G, h1, g.mono l, r1, o1.bindE fun d2 h2 v2 w2 H2 l2 r2 x2 o2 => ?_⟩⟩
  refine hf w2 h2 H2 σ _ v v2 d d2 r2 (Rv_mono l2 x) x2 (o2.bindR fun d3 h3 v3 w3 H3 l3 r3 x3 o3 => ?_)
  split at o3
  · cases x3
    exact ⟨true, rfl, iteT ⟨w3, G, h3, g.mono (l.trans (l2.trans l3)), r3, o3.bindE fun d4 h4 v4 w4 H4 l4 r4 x4 o4 => hf' w4 h4 H4 σ _ v2 v4 d2 d4 r4 (Rv_mono (l3.trans l4) x2) x4 o4⟩⟩
  · cases x3
    exact ⟨false, rfl, iteF (out_ok o3 r3 (.bl false))⟩
  · exact o3.elim
end
end AB
/-! AB: built-in calls, subscripts, slices, calls of defs. -/
namespace AB
open PySem PySem.Spec PyProof.Rows L2

/-! ### calls by values -/
section
variable {X : Cx} {W : WX} {pos p : Pos} {e : Expr} {es : List Expr} {as : MeL} {x : Str} {bid T : String} {ma mb : Me}
theorem cb {f : List D → AH → Res D} {r : List V → Hp → VK → Prop} (hf : FolN X W f r) {σ : L2.St} {H : Hp} {Q : VK} (t : TM X W (mN f as) σ H Q) : tCB r (TAr X W as) σ H Q := by
  obtain ⟨w, G, h, g, rh, o⟩ := t
  exact ⟨w, G, h, g, rh, o.bindA fun ds h1 vs w1 H1 l r1 x o1 => hf w1 h1 H1 σ Q vs ds r1 x o1⟩
def lN (f : List D → AH → Res (List D)) (as : MeL) : MeL := fun G h => (as G h).bind fun xs h1 => f xs h1
theorem cbF {f : List D → AH → Res (List D)} {r : List V → Hp → VK → Prop} (hf : FolF X W f r) {σ : L2.St} {H : Hp} {Q : VK} (t : TF X W (lN f as) σ H Q) : tCB r (TAr X W as) σ H Q := by
  obtain ⟨w, G, h, g, rh, o⟩ := t
  exact ⟨w, G, h, g, rh, OutF.bindA (m := as) o fun ds h1 vs w1 H1 l r1 x o1 => hf w1 h1 H1 σ Q vs ds r1 x o1⟩
theorem e_blt {f : List D → AH → Res D} {r : List V → Hp → VK → Prop} (hc : CallR X (.builtin bid) r) (hf : FolN X W f r) (hm : X.mg x = none) (ha : PA X (e :: es) (TAr X W as)) (hg : Gl X x := by rfl) (hv : bootBuiltins x = some (.builtin bid) := by decide +kernel) (hn : x ≠ "__name__" := by decide) (hdb : (x == ("__debug__" : Str)) = false := by decide)
    (he : starEach (e :: es) X.env = (false, eval e X.env) :: starEach es X.env := by rfl) (hpl : (backTo pos (starEach es X.env)).any (·.1) = false := by rfl) : PE X (.Call (.Name x p) (e :: es) [] pos) (TM X W (mN f as)) :=
  (pe_callB hc hg hm hv ha hn hdb he hpl).wk fun _ _ _ t => cb hf t
theorem e_typ {f : List D → AH → Res D} {r : List V → Hp → VK → Prop} (hc : CallR X (.type T) r) (hf : FolN X W f r) (hm : X.mg x = none) (ha : PA X (e :: es) (TAr X W as)) (hg : Gl X x := by rfl) (hv : bootBuiltins x = some (.type T) := by decide +kernel) (hn : x ≠ "__name__" := by decide) (hdb : (x == ("__debug__" : Str)) = false := by decide)
    (he : starEach (e :: es) X.env = (false, eval e X.env) :: starEach es X.env := by rfl) (hpl : (backTo pos (starEach es X.env)).any (·.1) = false := by rfl) : PE X (.Call (.Name x p) (e :: es) [] pos) (TM X W (mN f as)) :=
  (pe_callTy hc hg hm hv ha hn hdb he hpl).wk fun _ _ _ t => cb hf t
theorem f_blt {f : List D → AH → Res (List D)} {r : List V → Hp → VK → Prop} (hc : CallR X (.builtin bid) r) (hf : FolF X W f r) (hm : X.mg x = none) (ha : PA X (e :: es) (TAr X W as)) (hg : Gl X x := by rfl) (hv : bootBuiltins x = some (.builtin bid) := by decide +kernel) (hn : x ≠ "__name__" := by decide) (hdb : (x == ("__debug__" : Str)) = false := by decide)
    (he : starEach (e :: es) X.env = (false, eval e X.env) :: starEach es X.env := by rfl) (hpl : (backTo pos (starEach es X.env)).any (·.1) = false := by rfl) : PE X (.Call (.Name x p) (e :: es) [] pos) (TF X W (lN f as)) :=
  (pe_callB hc hg hm hv ha hn hdb he hpl).wk fun _ _ _ t => cbF hf t
theorem f_typ {f : List D → AH → Res (List D)} {r : List V → Hp → VK → Prop} (hc : CallR X (.type T) r) (hf : FolF X W f r) (hm : X.mg x = none) (ha : PA X (e :: es) (TAr X W as)) (hg : Gl X x := by rfl) (hv : bootBuiltins x = some (.type T) := by decide +kernel) (hn : x ≠ "__name__" := by decide) (hdb : (x == ("__debug__" : Str)) = false := by decide)
    (he : starEach (e :: es) X.env = (false, eval e X.env) :: starEach es X.env := by rfl) (hpl : (backTo pos (starEach es X.env)).any (·.1) = false := by rfl) : PE X (.Call (.Name x p) (e :: es) [] pos) (TF X W (lN f as)) :=
  (pe_callTy hc hg hm hv ha hn hdb he hpl).wk fun _ _ _ t => cbF hf t
theorem ra_one {w : Wd} {vs : List V} {d : D} (r : Ra X.K w vs [d]) : ∃ v, vs = [v] ∧ Rv X.K w v d := by
  cases r with
  | cons a b => cases b; exact ⟨_, rfl, a⟩
theorem ra_two {w : Wd} {vs : List V} {d d2 : D} (r : Ra X.K w vs [d, d2]) : ∃ v v2, vs = [v, v2] ∧ Rv X.K w v d ∧ Rv X.K w v2 d2 := by
  cases r with
  | cons a b =>
    cases b with
    | cons c d => cases d; exact ⟨_, _, rfl, a, c⟩
/-! len -/
def fLen (xs : List D) (h : AH) : Res D := match xs with
  | [.str x] => if x.length ≤ big then .ok (.int x.length) h else .stuck
  | [d] => match vS h d with
    | some ds => .ok (.int ds.length) h
    | none => .stuck
  | _ => .stuck
theorem fol_len : FolN X W fLen (fun xs H Q => ∃ x n, xs = [x] ∧ LenV X.K x H n ∧ Q (.int n) H) := by
  intro w h H σ Q vs ds rh ra o
  unfold fLen at o
  split at o
  · obtain ⟨v, rfl, rv⟩ := ra_one ra
    split at o
    · rename_i c
      cases rv
      exact ⟨_, _, rfl, ⟨big_le c, rfl⟩, out_ok o rh (.int _)⟩
    · exact o.elim
  · obtain ⟨v, rfl, rv⟩ := ra_one ra
    split at o
    · rename_i es e
      obtain ⟨a, xs, rfl, sq, ra2⟩ := vS_rep rh rv e
      refine ⟨_, xs.length, rfl, ?_, ?_⟩
      · rcases sq with sq | sq
        · exact .inl ⟨xs, sq, rfl⟩
        · exact .inr ⟨xs, sq, rfl⟩
      · rw [ra2.length]
        exact out_ok o rh (.int _)
    · exact o.elim
  · exact o.elim
theorem e_len (hm : X.mg "len" = none) (ha : PA X [e] (TAr X W as)) (hg : Gl X "len" := by rfl) (he : starEach [e] X.env = (false, eval e X.env) :: starEach [] X.env := by rfl) : PE X (.Call (.Name "len" p) [e] [] pos) (TM X W (mN fLen as)) :=
  e_blt call_len fol_len hm ha hg PySem.boot_len (by decide) (by decide) he rfl
/-! tuple(x), list(x), int(x), abs(x) -/
def fTuple (xs : List D) (h : AH) : Res D := match xs with
  | [d] => match vS h d with
    | some ds => .ok (.tup ds) h
    | none => .stuck
  | _ => .stuck
theorem fol_tuple : FolN X W fTuple (fun xs H Q => ∃ p ys, xs = [.ref p] ∧ ((SqL X.K H p ys ∧ ∀ l, H l = none → Q (.ref l) (upd H l (.tup ys))) ∨ (SqT X.K H p ys ∧ Q (.ref p) H))) := by
  intro w h H σ Q vs ds rh ra o
  unfold fTuple at o
  split at o
  · rename_i d
    obtain ⟨v, rfl, rv⟩ := ra_one ra
    split at o
    · rename_i es e
      by_cases ht : ∃ ts, d = .tup ts
      · obtain ⟨ts, rfl⟩ := ht
        cases e
        cases rv with
        | tup a b => exact ⟨_, _, rfl, .inr ⟨rh.ex.t a, out_ok o rh (.tup a b)⟩⟩
      · have e : vL h d = some es := by
          cases d with
          | tup es => exact absurd ⟨es, rfl⟩ ht
          | _ => exact e
        obtain ⟨a, xs, rfl, sq, ra2⟩ := vL_rep rh rv e
        exact ⟨a, xs, rfl, .inl ⟨sq, fun l hl => out_add o rh hl (rv_tup rh hl ra2)⟩⟩
    · exact o.elim
  · exact o.elim
theorem e_tuple (hm : X.mg "tuple" = none) (ha : PA X [e] (TAr X W as)) (hg : Gl X "tuple" := by rfl) (he : starEach [e] X.env = (false, eval e X.env) :: starEach [] X.env := by rfl) : PE X (.Call (.Name "tuple" p) [e] [] pos) (TM X W (mN fTuple as)) :=
  e_typ call_tuple_of fol_tuple hm ha hg (by decide +kernel) (by decide) (by decide) he rfl
def lList (xs : List D) (h : AH) : Res (List D) := match xs with
  | [d] => match vS h d with
    | some ds => .ok ds h
    | none => .stuck
  | _ => .stuck
theorem fol_list : FolF X W lList (fun xs H Q => ∃ p ys, xs = [.ref p] ∧ (SqL X.K H p ys ∨ SqT X.K H p ys) ∧ ∀ l, H l = none → Q (.ref l) (upd H l (.lst ys))) := by
  intro w h H σ Q vs ds rh ra o
  unfold lList at o
  split at o
  · obtain ⟨v, rfl, rv⟩ := ra_one ra
    split at o
    · rename_i es e
      obtain ⟨a, xs, rfl, sq, ra2⟩ := vS_rep rh rv e
      exact ⟨a, xs, rfl, sq, fun l hl => out_new o rh hl ra2⟩
    · exact o.elim
  · exact o.elim
theorem f_list (hm : X.mg "list" = none) (ha : PA X [e] (TAr X W as)) (hg : Gl X "list" := by rfl) (he : starEach [e] X.env = (false, eval e X.env) :: starEach [] X.env := by rfl) : PE X (.Call (.Name "list" p) [e] [] pos) (TF X W (lN lList as)) :=
  f_typ call_list_of fol_list hm ha hg (by decide +kernel) (by decide) (by decide) he rfl
def fInt (xs : List D) (h : AH) : Res D := match xs with
  | [.int i] => .ok (.int i) h
  | [.bl b] => .ok (.int (if b then 1 else 0)) h
  | _ => .stuck
theorem fol_int1 : FolN X W fInt (fun xs H Q => (∃ i, xs = [.int i] ∧ Q (.int i) H) ∨ ∃ k, xs = [.bl k] ∧ Q (.int (if k then 1 else 0)) H) := by
  intro w h H σ Q vs ds rh ra o
  unfold fInt at o
  split at o
  · obtain ⟨v, rfl, rv⟩ := ra_one ra
    cases rv
    exact .inl ⟨_, rfl, out_ok o rh (.int _)⟩
  · obtain ⟨v, rfl, rv⟩ := ra_one ra
    cases rv
    exact .inr ⟨_, rfl, out_ok o rh (.int _)⟩
  · exact o.elim
theorem e_int1 (hm : X.mg "int" = none) (ha : PA X [e] (TAr X W as)) (hg : Gl X "int" := by rfl) (he : starEach [e] X.env = (false, eval e X.env) :: starEach [] X.env := by rfl) : PE X (.Call (.Name "int" p) [e] [] pos) (TM X W (mN fInt as)) :=
  e_typ call_int1 fol_int1 hm ha hg (by decide +kernel) (by decide) (by decide) he rfl
def fAbs (xs : List D) (h : AH) : Res D := match xs with
  | [.int i] => .ok (.int (if i < 0 then -i else i)) h
  | _ => .stuck
theorem fol_abs : FolN X W fAbs (fun xs H Q => ∃ i, xs = [.int i] ∧ Q (.int (if i < 0 then -i else i)) H) := by
  intro w h H σ Q vs ds rh ra o
  unfold fAbs at o
  split at o
  · obtain ⟨v, rfl, rv⟩ := ra_one ra
    cases rv
    exact ⟨_, rfl, out_ok o rh (.int _)⟩
  · exact o.elim
theorem e_abs (hm : X.mg "abs" = none) (ha : PA X [e] (TAr X W as)) (hg : Gl X "abs" := by rfl) (he : starEach [e] X.env = (false, eval e X.env) :: starEach [] X.env := by rfl) : PE X (.Call (.Name "abs" p) [e] [] pos) (TM X W (mN fAbs as)) :=
  e_blt call_abs fol_abs hm ha hg (by decide +kernel) (by decide) (by decide) he rfl
/-! all, any, sum, max, min, sorted of ints -/
def blsOf : List D → Option (List Bool)
  | [] => some []
  | .bl b :: ds => (blsOf ds).map (b :: ·)
  | _ :: _ => none
def intsOf : List D → Option (List Int)
  | [] => some []
  | .int b :: ds => (intsOf ds).map (b :: ·)
  | _ :: _ => none
theorem blsOf_rep {w : Wd} : ∀ {ds : List D} {xs : List V} {bs : List Bool}, Ra X.K w xs ds → blsOf ds = some bs → xs = bs.map V.bl
  | [], _, _, r, e => by cases r; cases e; rfl
  | .bl b :: ds, _, bs, r, e => by
    cases r with
    | cons a t =>
      cases a
      unfold blsOf at e
      cases q : blsOf ds with
      | none => rw [q] at e; cases e
      | some cs =>
        rw [q] at e
        cases e
        rw [blsOf_rep t q] <;> rfl
  | .non :: _, _, _, _, e => by cases e
  | .int _ :: _, _, _, _, e => by cases e
  | .str _ :: _, _, _, _, e => by cases e
  | .tup _ :: _, _, _, _, e => by cases e
  | .lst _ :: _, _, _, _, e => by cases e
  | .rol _ :: _, _, _, _, e => by cases e
  | .loc _ :: _, _, _, _, e => by cases e
  | .con _ :: _, _, _, _, e => by cases e
theorem intsOf_rep {w : Wd} : ∀ {ds : List D} {xs : List V} {bs : List Int}, Ra X.K w xs ds → intsOf ds = some bs → xs = bs.map V.int
  | [], _, _, r, e => by cases r; cases e; rfl
  | .int b :: ds, _, bs, r, e => by
    cases r with
    | cons a t =>
      cases a
      unfold intsOf at e
      cases q : intsOf ds with
      | none => rw [q] at e; cases e
      | some cs =>
        rw [q] at e
        cases e
        rw [intsOf_rep t q] <;> rfl
  | .non :: _, _, _, _, e => by cases e
  | .bl _ :: _, _, _, _, e => by cases e
  | .str _ :: _, _, _, _, e => by cases e
  | .tup _ :: _, _, _, _, e => by cases e
  | .lst _ :: _, _, _, _, e => by cases e
  | .rol _ :: _, _, _, _, e => by cases e
  | .loc _ :: _, _, _, _, e => by cases e
  | .con _ :: _, _, _, _, e => by cases e
def lBls (xs : List D) (h : AH) : Option (List Bool) := match xs with
  | [d] => (vL h d).bind blsOf
  | _ => none
def lInts (xs : List D) (h : AH) : Option (List Int) := match xs with
  | [d] => (vL h d).bind intsOf
  | _ => none
theorem lBls_rep {w : Wd} {h : AH} {H : Hp} {vs : List V} {ds : List D} {bs : List Bool} (rh : RepH X.K w H h) (ra : Ra X.K w vs ds) (e : lBls ds h = some bs) : ∃ a, vs = [.ref a] ∧ SqL X.K H a (bs.map V.bl) := by
  unfold lBls at e
  split at e
  · rename_i d
    obtain ⟨v, rfl, rv⟩ := ra_one ra
    cases q : vL h d with
    | none => rw [q] at e; cases e
    | some es =>
      rw [q] at e
      obtain ⟨a, xs, rfl, sq, ra2⟩ := vL_rep rh rv q
      have z := blsOf_rep ra2 e
      subst z
      exact ⟨a, rfl, sq⟩
  · cases e
theorem lInts_rep {w : Wd} {h : AH} {H : Hp} {vs : List V} {ds : List D} {bs : List Int} (rh : RepH X.K w H h) (ra : Ra X.K w vs ds) (e : lInts ds h = some bs) : ∃ a, vs = [.ref a] ∧ SqL X.K H a (bs.map V.int) := by
  unfold lInts at e
  split at e
  · rename_i d
    obtain ⟨v, rfl, rv⟩ := ra_one ra
    cases q : vL h d with
    | none => rw [q] at e; cases e
    | some es =>
      rw [q] at e
      obtain ⟨a, xs, rfl, sq, ra2⟩ := vL_rep rh rv q
      have z := intsOf_rep ra2 e
      subst z
      exact ⟨a, rfl, sq⟩
  · cases e
def fAll (xs : List D) (h : AH) : Res D := match lBls xs h with
  | some bs => .ok (.bl (bs.all id)) h
  | none => .stuck
def fAny (xs : List D) (h : AH) : Res D := match lBls xs h with
  | some bs => .ok (.bl (bs.any id)) h
  | none => .stuck
def fSum (xs : List D) (h : AH) : Res D := match lInts xs h with
  | some bs => .ok (.int bs.sum) h
  | none => .stuck
def maxI : List Int → Int
  | [] => 0
  | [x] => x
  | x :: y :: r => max x (maxI (y :: r))
def minI : List Int → Int
  | [] => 0
  | [x] => x
  | x :: y :: r => min x (minI (y :: r))
theorem maxI_ge : ∀ {ns : List Int} {y : Int}, y ∈ ns → y ≤ maxI ns
  | [x], y, h => by simp at h; subst h; exact Int.le_refl _
  | x :: z :: r, y, h => by
    rcases List.mem_cons.mp h with h | h
    · subst h
      exact Int.le_max_left _ _
    · exact Int.le_trans (maxI_ge h) (Int.le_max_right _ _)
theorem maxI_mem : ∀ {ns : List Int}, ns ≠ [] → maxI ns ∈ ns
  | [x], _ => by simp [maxI]
  | x :: z :: r, _ => by
    have := maxI_mem (ns := z :: r) (by simp)
    unfold maxI
    by_cases q : x ≤ maxI (z :: r)
    · rw [Int.max_eq_right q]
      exact List.mem_cons_of_mem _ this
    · rw [Int.max_eq_left (by omega)]
      exact List.mem_cons_self
theorem minI_le : ∀ {ns : List Int} {y : Int}, y ∈ ns → minI ns ≤ y
  | [x], y, h => by simp at h; subst h; exact Int.le_refl _
  | x :: z :: r, y, h => by
    rcases List.mem_cons.mp h with h | h
    · subst h
      exact Int.min_le_left _ _
    · exact Int.le_trans (Int.min_le_right _ _) (minI_le h)
theorem minI_mem : ∀ {ns : List Int}, ns ≠ [] → minI ns ∈ ns
  | [x], _ => by simp [minI]
  | x :: z :: r, _ => by
    have := minI_mem (ns := z :: r) (by simp)
    unfold minI
    by_cases q : x ≤ minI (z :: r)
    · rw [Int.min_eq_left q]
      exact List.mem_cons_self
    · rw [Int.min_eq_right (by omega)]
      exact List.mem_cons_of_mem _ this
def fMax (xs : List D) (h : AH) : Res D := match xs with
  | [.int i, .int j] => .ok (.int (if j > i then j else i)) h
  | _ => match lInts xs h with
    | some [] => .stuck
    | some ns => .ok (.int (maxI ns)) h
    | none => .stuck
def fMin (xs : List D) (h : AH) : Res D := match xs with
  | [.int i, .int j] => .ok (.int (if j < i then j else i)) h
  | _ => match lInts xs h with
    | some [] => .stuck
    | some ns => .ok (.int (minI ns)) h
    | none => .stuck
theorem fol_all : FolN X W fAll (rAll X.K) := by
  intro w h H σ Q vs ds rh ra o
  unfold fAll at o
  split at o
  · rename_i bs e
    obtain ⟨a, rfl, sq⟩ := lBls_rep rh ra e
    exact ⟨a, bs, rfl, sq, out_ok o rh (.bl _)⟩
  · exact o.elim
theorem fol_any : FolN X W fAny (rAny X.K) := by
  intro w h H σ Q vs ds rh ra o
  unfold fAny at o
  split at o
  · rename_i bs e
    obtain ⟨a, rfl, sq⟩ := lBls_rep rh ra e
    exact ⟨a, bs, rfl, sq, out_ok o rh (.bl _)⟩
  · exact o.elim
theorem fol_sum : FolN X W fSum (rSum X.K) := by
  intro w h H σ Q vs ds rh ra o
  unfold fSum at o
  split at o
  · rename_i bs e
    obtain ⟨a, rfl, sq⟩ := lInts_rep rh ra e
    exact ⟨a, bs, rfl, sq, out_ok o rh (.int _)⟩
  · exact o.elim
def rMaxB (K : PySem.W.Frag) : List V → Hp → VK → Prop := fun xs H Q => (∃ i j, xs = [.int i, .int j] ∧ Q (.int (if j > i then j else i)) H) ∨ rMax K xs H Q
def rMinB (K : PySem.W.Frag) : List V → Hp → VK → Prop := fun xs H Q => (∃ i j, xs = [.int i, .int j] ∧ Q (.int (if j < i then j else i)) H) ∨ rMin K xs H Q
theorem fol_max : FolN X W fMax (rMaxB X.K) := by
  intro w h H σ Q vs ds rh ra o
  unfold fMax at o
  split at o
  · obtain ⟨v, v2, rfl, r1, r2⟩ := ra_two ra
    cases r1
    cases r2
    exact .inl ⟨_, _, rfl, out_ok o rh (.int _)⟩
  · split at o
    · exact o.elim
    · rename_i bs hne e
      obtain ⟨a, rfl, sq⟩ := lInts_rep rh ra e
      have hb : bs ≠ [] := fun z => hne (by rw [← z] <;> rfl)
      refine .inr ⟨a, bs, rfl, sq, List.length_pos_iff.mpr hb, fun m hm hle => ?_⟩
      have : m = maxI bs := Int.le_antisymm (maxI_ge hm) (hle _ (maxI_mem hb))
      rw [this]
      exact out_ok o rh (.int _)
    · exact o.elim
theorem fol_min : FolN X W fMin (rMinB X.K) := by
  intro w h H σ Q vs ds rh ra o
  unfold fMin at o
  split at o
  · obtain ⟨v, v2, rfl, r1, r2⟩ := ra_two ra
    cases r1
    cases r2
    exact .inl ⟨_, _, rfl, out_ok o rh (.int _)⟩
  · split at o
    · exact o.elim
    · rename_i bs hne e
      obtain ⟨a, rfl, sq⟩ := lInts_rep rh ra e
      have hb : bs ≠ [] := fun z => hne (by rw [← z] <;> rfl)
      refine .inr ⟨a, bs, rfl, sq, List.length_pos_iff.mpr hb, fun m hm hle => ?_⟩
      have : m = minI bs := Int.le_antisymm (hle _ (minI_mem hb)) (minI_le hm)
      rw [this]
      exact out_ok o rh (.int _)
    · exact o.elim
theorem e_all (hm : X.mg "all" = none) (ha : PA X [e] (TAr X W as)) (hg : Gl X "all" := by rfl) (hc : X.calm = true := by rfl) (he : starEach [e] X.env = (false, eval e X.env) :: starEach [] X.env := by rfl) : PE X (.Call (.Name "all" p) [e] [] pos) (TM X W (mN fAll as)) :=
  e_blt (cr_all hc) fol_all hm ha hg (by decide +kernel) (by decide) (by decide) he rfl
theorem e_any (hm : X.mg "any" = none) (ha : PA X [e] (TAr X W as)) (hg : Gl X "any" := by rfl) (hc : X.calm = true := by rfl) (he : starEach [e] X.env = (false, eval e X.env) :: starEach [] X.env := by rfl) : PE X (.Call (.Name "any" p) [e] [] pos) (TM X W (mN fAny as)) :=
  e_blt (cr_any hc) fol_any hm ha hg (by decide +kernel) (by decide) (by decide) he rfl
theorem e_sum (hm : X.mg "sum" = none) (ha : PA X [e] (TAr X W as)) (hg : Gl X "sum" := by rfl) (hc : X.calm = true := by rfl) (he : starEach [e] X.env = (false, eval e X.env) :: starEach [] X.env := by rfl) : PE X (.Call (.Name "sum" p) [e] [] pos) (TM X W (mN fSum as)) :=
  e_blt (cr_sum hc) fol_sum hm ha hg (by decide +kernel) (by decide) (by decide) he rfl
theorem e_max (hm : X.mg "max" = none) (ha : PA X (e :: es) (TAr X W as)) (hg : Gl X "max" := by rfl) (hc : X.calm = true := by rfl) (he : starEach (e :: es) X.env = (false, eval e X.env) :: starEach es X.env := by rfl) (hpl : (backTo pos (starEach es X.env)).any (·.1) = false := by rfl) : PE X (.Call (.Name "max" p) (e :: es) [] pos) (TM X W (mN fMax as)) :=
  e_blt (CallR.or (call_max2 hc) (cr_max hc)) fol_max hm ha hg (by decide +kernel) (by decide) (by decide) he hpl
theorem e_min (hm : X.mg "min" = none) (ha : PA X (e :: es) (TAr X W as)) (hg : Gl X "min" := by rfl) (hc : X.calm = true := by rfl) (he : starEach (e :: es) X.env = (false, eval e X.env) :: starEach es X.env := by rfl) (hpl : (backTo pos (starEach es X.env)).any (·.1) = false := by rfl) : PE X (.Call (.Name "min" p) (e :: es) [] pos) (TM X W (mN fMin as)) :=
  e_blt (CallR.or (call_min2 hc) (cr_min hc)) fol_min hm ha hg (by decide +kernel) (by decide) (by decide) he hpl

/-! ### isinstance of a built-in class -/
inductive Ty where
  | non | bl | int | str | tup | lst | dct
def Ty.name : Ty → String
  | .non => "NoneType"
  | .bl => "bool"
  | .int => "int"
  | .str => "str"
  | .tup => "tuple"
  | .lst => "list"
  | .dct => "dict"
def Ty.sub : Ty → Ty → Bool
  | .non, .non => true
  | .bl, .bl => true
  | .bl, .int => true
  | .int, .int => true
  | .str, .str => true
  | .tup, .tup => true
  | .lst, .lst => true
  | .dct, .dct => true
  | _, _ => false
theorem kit_tag : ∀ a b : Ty, kitB a.name b.name = some (a.sub b) := by
  intro a b
  cases a <;> cases b <;> decide +kernel
def tyD (h : AH) : D → Option Ty
  | .non => some .non
  | .bl _ => some .bl
  | .int _ => some .int
  | .str _ => some .str
  | .tup _ => some .tup
  | .lst _ => some .lst
  | .rol _ => some .lst
  | .loc n => match h[n]? with
    | some (.lst _) => some .lst
    | _ => none
  | .con _ => none
theorem tyT {K : PySem.W.Frag} {H : Hp} {a : Addr} {xs : List V} (s : SqT K H a xs) : TyX K H (.ref a) (.type "tuple") := by
  rcases s with (s | ⟨o, s⟩) | ⟨o, its, n, hk, hc, _⟩
  · exact .base (.tup s)
  · exact .fTuple s
  · exact .kTuple hk hc
theorem tyL {K : PySem.W.Frag} {H : Hp} {a : Addr} {xs : List V} (s : SqL K H a xs) : TyX K H (.ref a) (.type "list") := by
  rcases s with (s | ⟨o, s⟩) | ⟨o, its, n, hk, hc, _⟩
  · exact .base (.lst s)
  · exact .base (.frz s)
  · exact .kList hk hc
theorem tyD_rep {K : PySem.W.Frag} {w : Wd} {H : Hp} {h : AH} {v : V} {d : D} {t : Ty} (rh : RepH K w H h) (rv : Rv K w v d) (e : tyD h d = some t) : TyX K H v (.type t.name) := by
  cases d with
  | non => cases rv; cases e; exact .base .non
  | bl b => cases rv; cases e; exact .base (.bl b)
  | int b => cases rv; cases e; exact .base (.int b)
  | str b => cases rv; cases e; exact .base (.str b)
  | tup ds =>
    cases rv with
    | tup a b => cases e; exact tyT (rh.ex.t a)
  | lst ds =>
    cases rv with
    | lst a b => cases e; exact tyL (.inl (rh.ex.rd a))
  | rol ds =>
    cases rv with
    | rol a b => cases e; exact tyL (rh.ex.l a)
  | con a => cases e
  | loc n =>
    cases rv with
    | loc hn =>
      have e : (match h[n]? with
        | some (.lst _) => some Ty.lst
        | _ => none) = some t := e
      split at e
      · rename_i ds e'
        obtain ⟨_, xs, e2, ra⟩ := rh.cell _ _ e'
        cases e
        exact .base (.lst e2)
      · cases e
def mIsi (T : Ty) (m : Me) : Me := fun G h => (m G h).bind fun d h1 => match tyD h1 d with
  | some t => .ok (.bl (t.sub T)) h1
  | none => .stuck
theorem e_isi (T : Ty) {t : Str} {pt : Pos} (hi : X.mg "isinstance" = none) (ht : X.mg t = none) (he : PE X e (TM X W ma)) (hgt : Gl X t := by rfl) (hbt : bootBuiltins t = some (.type T.name) := by decide +kernel) (hg : Gl X "isinstance" := by rfl)
    (hn : t ≠ "__name__" := by decide) (hd : (t == ("__debug__" : Str)) = false := by decide)
    (h1 : starEach [e, .Name t pt] X.env = (false, eval e X.env) :: starEach [.Name t pt] X.env := by rfl) (h2 : starEach [.Name t pt] X.env = (false, eval (.Name t pt) X.env) :: starEach [] X.env := by rfl) (hpl : (backTo pos (starEach [.Name t pt] X.env)).any (·.1) = false := by rfl) :
    PE X (.Call (.Name "isinstance" p) [e, .Name t pt] [] pos) (TM X W (mIsi T ma)) := by
  refine (pe_callB call_isi hg hi (by decide +kernel) (pa_cons he (pa_cons (pe_bltn (v := .ty T.name) hgt ht hbt rfl hn hd) pa_nil h2) h1) (by decide) (by decide) h1 hpl).wk fun σ H Q ⟨w, G, h, g, r, o⟩ => ⟨w, G, h, g, r, o.bindE fun d h1 v w1 H1 l r1 x o1 => ?_⟩
  split at o1
  · rename_i t e
    exact ⟨v, .ty T.name, .type t.name, .type T.name, t.sub T, rfl, .ty _, tyD_rep r1 x e, kit_ty (kit_tag t T), out_ok o1 r1 (.bl _)⟩
  · exact o1.elim

/-! ### subscripts, slices -/
theorem atI_rep {w : Wd} {xs : List V} {ds : List D} {i : Int} {d : D} (ra : Ra X.K w xs ds) (e : atI ds i = some d) : ∃ v, atI xs i = some v ∧ Rv X.K w v d := by
  unfold atI at e ⊢
  rw [ra.length]
  cases q : ixN ds.length i with
  | none => rw [q] at e; cases e
  | some j =>
    rw [q] at e
    obtain ⟨v, h1, h2⟩ := ra.get (i := j) (d := d) e
    exact ⟨v, h1, h2⟩
def fIx (x i : D) (h : AH) : Res D := match i with
  | .int k => match vS h x with
    | some ds => match atI ds k with
      | some d => .ok d h
      | none => .stuck
    | none => .stuck
  | _ => .stuck
theorem fol_ix : Fol2 X W fIx (rIx X.K) := by
  intro w h H σ Q v1 v2 d1 d2 rh r1 r2 o
  unfold fIx at o
  split at o
  · rename_i k
    split at o
    · rename_i ds e
      split at o
      · rename_i d e2
        cases r2
        obtain ⟨a, xs, rfl, sq, ra⟩ := vS_rep rh r1 e
        obtain ⟨v, e3, rv⟩ := atI_rep ra e2
        rcases sq with sq | sq
        · exact .inl ⟨a, xs, k, v, rfl, rfl, sq, e3, out_ok o rh rv⟩
        · exact .inr (.inl ⟨a, xs, k, v, rfl, rfl, sq, e3, out_ok o rh rv⟩)
      · exact o.elim
    · exact o.elim
  · exact o.elim
variable {a b : Expr}
theorem e_ix (ha : PE X a (TM X W ma)) (hb : PE X b (TM X W mb)) (hs : PlainIx b := by exact fun _ _ => rfl) : PE X (.Subscript a b pos) (TM X W (mOp2 fIx ma mb)) :=
  (pe_ix ix_seq ha hb hs).wk fun _ _ _ t => op2 fol_ix t
abbrev MeO := Env → AH → Res (Option Int)
def oNone : MeO := fun _ h => .ok none h
def oSome (m : Me) : MeO := fun G h => (m G h).bind fun d h1 => match d with
  | .int i => .ok (some i) h1
  | _ => .stuck
def OutO (K : PySem.W.Frag) (mg : Str → Option Value) (W : WX) (w : Wd) (σ : L2.St) (Q : Option Int → Hp → Prop) : Res (Option Int) → Prop
  | .ok b h => ∀ w' H', Le w w' → RepH K w' H' h → Q b H'
  | .exc c fs h => OutX K mg W w σ c fs h
  | .stuck => False
def tO (X : Cx) (W : WX) (m : MeO) : TO := fun σ H Q => ∃ w G h, RepG X.K w σ G ∧ RepH X.K w H h ∧ OutO X.K X.mg W w σ Q (m G h)
theorem _root_.L2.PO.wk {X : Cx} {e : Option Expr} {t t' : TO} (h : PO X e t) (k : ∀ σ H Q, t' σ H Q → t σ H Q) : PO X e t' := ⟨fun pins s σ H Q I q => h.run pins s σ H Q I (k σ H Q q)⟩
theorem o_none : PO X none (tO X W oNone) := po_none.wk fun σ H Q ⟨w, G, h, g, r, o⟩ => o w H (Le.refl _) r
theorem o_some (he : PE X e (TM X W ma)) : PO X (some e) (tO X W (oSome ma)) := by
  refine (po_some he).wk fun σ H Q ⟨w, G, h, g, r, o⟩ => ⟨w, G, h, g, r, ?_⟩
  have o : OutO X.K X.mg W w σ Q ((ma G h).bind _) := o
  cases e : ma G h with
  | ok d h1 =>
    rw [e] at o
    intro v w1 H1 l r1 x
    cases d with
    | int i =>
      cases x
      exact ⟨_, rfl, o w1 H1 l r1⟩
    | _ => exact o.elim
  | exc c fs h1 =>
    rw [e] at o
    exact o
  | stuck =>
    rw [e] at o
    exact o
theorem OutE.bindO {K : PySem.W.Frag} {mg : Str → Option Value} {w : Wd} {σ : L2.St} {G : Env} {h : AH} {m : MeO} {R : Option Int → Hp → Prop} {Q : VK} {k : Option Int → AH → Res D} (o : OutE K mg W w σ Q ((m G h).bind k))
    (hq : ∀ b h1 w1 H1, Le w w1 → RepH K w1 H1 h1 → OutE K mg W w1 σ Q (k b h1) → R b H1) : OutO K mg W w σ R (m G h) := by
  cases e : m G h with
  | ok d h1 =>
    rw [e] at o
    exact fun w1 H1 l r => hq d h1 w1 H1 l r (OutE.mono l o)
  | exc c fs h1 =>
    rw [e] at o
    exact o
  | stuck =>
    rw [e] at o
    exact o
theorem OutF.bindO {K : PySem.W.Frag} {mg : Str → Option Value} {w : Wd} {σ : L2.St} {G : Env} {h : AH} {m : MeO} {R : Option Int → Hp → Prop} {Q : VK} {k : Option Int → AH → Res (List D)} (o : OutF K mg W w σ Q ((m G h).bind k))
    (hq : ∀ b h1 w1 H1, Le w w1 → RepH K w1 H1 h1 → OutF K mg W w1 σ Q (k b h1) → R b H1) : OutO K mg W w σ R (m G h) := by
  cases e : m G h with
  | ok d h1 =>
    rw [e] at o
    exact fun w1 H1 l r => hq d h1 w1 H1 l r (OutF.mono l o)
  | exc c fs h1 =>
    rw [e] at o
    exact o
  | stuck =>
    rw [e] at o
    exact o
def cutD (ds : List D) (lo hi : Option Int) : List D := (ds.drop (HT.sIx ds.length 0 lo)).take (HT.sIx ds.length ds.length hi - HT.sIx ds.length 0 lo)
theorem cut_rep {w : Wd} {xs : List V} {ds : List D} (ra : Ra X.K w xs ds) (lo hi : Option Int) : Ra X.K w (cutV xs lo hi) (cutD ds lo hi) := by
  unfold cutV cutD
  rw [ra.length]
  exact (ra.drop _).take _
/-- a[lo:hi] of a tuple, of a list that is not changed -/
def mSl (m : Me) (lo hi : MeO) : Me := fun G h => (m G h).bind fun x h1 => (lo G h1).bind fun l h2 => (hi G h2).bind fun u h3 => match x with
  | .tup ds => .ok (.tup (cutD ds l u)) h3
  | d => match vL h3 d with
    | some ds => .ok (.lst (cutD ds l u)) h3
    | none => .stuck
theorem cut_whole {ds : List D} {lo hi : Option Int} (h : HT.sIx ds.length 0 lo = 0 ∧ HT.sIx ds.length ds.length hi = ds.length) : cutD ds lo hi = ds := by
  unfold cutD
  rw [h.1, h.2]
  simp
theorem e_sl {lo hi : Option Expr} {ml mh : MeO} {p2 : Pos} (he : PE X e (TM X W ma)) (hl : PO X lo (tO X W ml)) (hu : PO X hi (tO X W mh)) : PE X (.Subscript e (.Slice lo hi none p2) pos) (TM X W (mSl ma ml mh)) := by
  refine (pe_slice (SlR.or sl_list sl_tupA) he hl hu).wk fun σ H Q ⟨w, G, h, g, r, o⟩ => ⟨w, G, h, g, r, o.bindE fun d h1 v w1 H1 l1 r1 x o1 => ⟨w1, G, h1, g.mono l1, r1, o1.bindO fun l h2 w2 H2 l2 r2 o2 => ⟨w2, G, h2, g.mono (l1.trans l2), r2, o2.bindO fun u h3 w3 H3 l3 r3 o3 => ?_⟩⟩⟩
  have x3 := Rv_mono (l2.trans l3) x
  split at o3
  · cases x3 with
    | @tup a xs ds h1 h2 =>
      refine .inr ⟨a, xs, rfl, r3.ex.t h1, fun hw => ?_, fun _ p hp => out_add o3 r3 hp (rv_tup r3 hp (cut_rep h2 l u))⟩
      rw [h2.length] at hw
      rw [cut_whole hw] at o3
      exact out_ok o3 r3 (.tup h1 h2)
  · split at o3
    · rename_i ds e
      obtain ⟨a, xs, rfl, sq, ra⟩ := vL_rep r3 x3 e
      exact .inl ⟨a, xs, rfl, sq, fun p hp => out_add o3 r3 hp (rv_lst r3 hp (cut_rep ra l u))⟩
    · exact o3.elim
/-- .. of a list, a new list -/
def lSl (m : Me) (lo hi : MeO) : MeL := fun G h => (m G h).bind fun x h1 => (lo G h1).bind fun l h2 => (hi G h2).bind fun u h3 => match vL h3 x with
  | some ds => .ok (cutD ds l u) h3
  | none => .stuck
theorem f_sl {lo hi : Option Expr} {ml mh : MeO} {p2 : Pos} (he : PE X e (TM X W ma)) (hl : PO X lo (tO X W ml)) (hu : PO X hi (tO X W mh)) : PE X (.Subscript e (.Slice lo hi none p2) pos) (TF X W (lSl ma ml mh)) := by
  refine (pe_slice sl_list he hl hu).wk fun σ H Q ⟨w, G, h, g, r, o⟩ => ⟨w, G, h, g, r, OutF.bindE (m := ma) o fun d h1 v w1 H1 l1 r1 x o1 => ⟨w1, G, h1, g.mono l1, r1, o1.bindO fun l h2 w2 H2 l2 r2 o2 => ⟨w2, G, h2, g.mono (l1.trans l2), r2, o2.bindO fun u h3 w3 H3 l3 r3 o3 => ?_⟩⟩⟩
  have x3 := Rv_mono (l2.trans l3) x
  split at o3
  · rename_i ds e
    obtain ⟨a, xs, rfl, sq, ra⟩ := vL_rep r3 x3 e
    exact ⟨a, xs, rfl, sq, fun p hp => out_new o3 r3 hp (cut_rep ra l u)⟩
  · exact o3.elim
/-- xs[::-1] of a list -/
def lRev (m : Me) : MeL := fun G h => (m G h).bind fun x h1 => match vL h1 x with
  | some ds => .ok ds.reverse h1
  | none => .stuck
theorem f_rev {k : Nat} {p1 p2 p3 : Pos} (he : PE X e (TM X W ma)) : PE X (.Subscript e (.Slice none none (some (.UnaryOp .USub (.Constant (.int 1) k p1) p2)) p3) pos) (TF X W (lRev ma)) := by
  refine (pe_revL he).wk fun σ H Q ⟨w, G, h, g, r, o⟩ => ⟨w, G, h, g, r, OutF.bindE (m := ma) o fun d h1 v w1 H1 l1 r1 x o1 => ?_⟩
  split at o1
  · rename_i ds e
    obtain ⟨a, xs, rfl, sq, ra⟩ := vL_rep r1 x e
    exact ⟨a, xs, rfl, sq, fun p hp => out_new o1 r1 hp ra.reverse⟩
  · exact o1.elim

end
end AB
/-! AB: statements, loops, comprehensions, defs. -/
namespace AB
open PySem PySem.Spec PyProof.Rows L2

inductive SR where
  | next (G : Env) (h : AH)
  | ret (d : D) (h : AH)
  | brk (G : Env) (h : AH)
  | cont (G : Env) (h : AH)
  | exc (c : Str) (fs : List (Str × D)) (G : Env) (h : AH)
  | stuck
abbrev Ms := Env → AH → SR
def Res.toS {α : Type} (r : Res α) (G : Env) (k : α → AH → SR) : SR :=
  match r with
  | .ok a h => k a h
  | .exc c fs h => .exc c fs G h
  | .stuck => .stuck
@[simp] theorem Res.toS_ok {α : Type} (a : α) (h : AH) (G : Env) (k : α → AH → SR) : (Res.ok a h).toS G k = k a h := rfl
@[simp] theorem Res.toS_exc {α : Type} (c : Str) (fs : List (Str × D)) (h : AH) (G : Env) (k : α → AH → SR) : (Res.exc c fs h : Res α).toS G k = .exc c fs G h := rfl
@[simp] theorem Res.toS_stuck {α : Type} (G : Env) (k : α → AH → SR) : (Res.stuck : Res α).toS G k = .stuck := rfl
def SR.andThen (r : SR) (k : Env → AH → SR) : SR :=
  match r with
  | .next G h => k G h
  | .ret d h => .ret d h
  | .brk G h => .brk G h
  | .cont G h => .cont G h
  | .exc c fs G h => .exc c fs G h
  | .stuck => .stuck
@[simp] theorem SR.andThen_next (G : Env) (h : AH) (k : Env → AH → SR) : (SR.next G h).andThen k = k G h := rfl
@[simp] theorem SR.andThen_ret (d : D) (h : AH) (k : Env → AH → SR) : (SR.ret d h).andThen k = .ret d h := rfl
@[simp] theorem SR.andThen_brk (G : Env) (h : AH) (k : Env → AH → SR) : (SR.brk G h).andThen k = .brk G h := rfl
@[simp] theorem SR.andThen_cont (G : Env) (h : AH) (k : Env → AH → SR) : (SR.cont G h).andThen k = .cont G h := rfl
@[simp] theorem SR.andThen_exc (c : Str) (fs : List (Str × D)) (G : Env) (h : AH) (k : Env → AH → SR) : (SR.exc c fs G h).andThen k = .exc c fs G h := rfl
@[simp] theorem SR.andThen_stuck (k : Env → AH → SR) : SR.stuck.andThen k = .stuck := rfl

section
variable (K : PySem.W.Frag) (mg : Str → Option Value) (W : WX)
def OutS (D : Ends) (w : Wd) : SR → Prop
  | .next G h => ∀ σ' w' H', Le w w' → RepG K w' σ' G → RepH K w' H' h → D.nx σ' H'
  | .ret d h => ∀ v w' H', Le w w' → RepH K w' H' h → Rv K w' v d → D.rt v H'
  | .brk G h => ∀ σ' w' H', Le w w' → RepG K w' σ' G → RepH K w' H' h → D.bk σ' H'
  | .cont G h => ∀ σ' w' H', Le w w' → RepG K w' σ' G → RepH K w' H' h → D.ct σ' H'
  | .exc c fs G h => ∀ cls dd σ' w' H', mg c = some cls → Le w w' → RepG K w' σ' G → RepH K w' H' h → RepX K w' H' dd fs → W cls dd σ' H'
  | .stuck => False
def tS (m : Ms) : TS := fun D σ H => ∃ w G h, RepG K w σ G ∧ RepH K w H h ∧ OutS K mg W D w (m G h)
end
section
variable {K : PySem.W.Frag} {mg : Str → Option Value} {W : WX} {w w' : Wd} {σ : L2.St} {H : Hp} {G : Env} {h : AH}
theorem OutS.mono {D : Ends} {r : SR} (l : Le w w') (o : OutS K mg W D w r) : OutS K mg W D w' r := by
  cases r with
  | next G h => exact fun σ' w2 H' l2 g r => o σ' w2 H' (l.trans l2) g r
  | ret d h => exact fun v w2 H' l2 r x => o v w2 H' (l.trans l2) r x
  | brk G h => exact fun σ' w2 H' l2 g r => o σ' w2 H' (l.trans l2) g r
  | cont G h => exact fun σ' w2 H' l2 g r => o σ' w2 H' (l.trans l2) g r
  | exc c fs G h => exact fun cls dd σ' w2 H' e l2 g r x => o cls dd σ' w2 H' e (l.trans l2) g r x
  | stuck => exact o
theorem OutS.bindE {m : Me} {R : VK} {D : Ends} {k : AB.D → AH → SR} (g : RepG K w σ G) (o : OutS K mg W D w ((m G h).toS G k))
    (hq : ∀ d h1 v w1 H1, Le w w1 → RepH K w1 H1 h1 → Rv K w1 v d → OutS K mg W D w1 (k d h1) → R v H1) : OutE K mg W w σ R (m G h) := by
  cases e : m G h with
  | ok d h1 =>
    rw [e] at o
    exact fun v w1 H1 l r x => hq d h1 v w1 H1 l r x (OutS.mono l o)
  | exc c fs h1 =>
    rw [e] at o
    exact fun cls dd w1 H1 e l r x => o cls dd σ w1 H1 e l (g.mono l) r x
  | stuck =>
    rw [e] at o
    exact o
theorem OutS.bindT {m : MeT} {R : Bool → Hp → Prop} {D : Ends} {k : Bool → AH → SR} (g : RepG K w σ G) (o : OutS K mg W D w ((m G h).toS G k))
    (hq : ∀ b h1 w1 H1, Le w w1 → RepH K w1 H1 h1 → OutS K mg W D w1 (k b h1) → R b H1) : OutT K mg W w σ R (m G h) := by
  cases e : m G h with
  | ok d h1 =>
    rw [e] at o
    exact fun w1 H1 l r => hq d h1 w1 H1 l r (OutS.mono l o)
  | exc c fs h1 =>
    rw [e] at o
    exact fun cls dd w1 H1 e l r x => o cls dd σ w1 H1 e l (g.mono l) r x
  | stuck =>
    rw [e] at o
    exact o
end
abbrev TSS (X : Cx) (W : WX) (m : Ms) : TS := tS X.K X.mg W m
theorem _root_.L2.PS.wk {X : Cx} {e : Stmt} {t t' : TS} (h : PS X e t) (k : ∀ D σ H, t' D σ H → t D σ H) : PS X e t' := ⟨fun pins s σ H D I q => h.run pins s σ H D I (k D σ H q)⟩
theorem _root_.L2.PSs.wk {X : Cx} {e : List Stmt} {t t' : TS} (h : PSs X e t) (k : ∀ D σ H, t' D σ H → t D σ H) : PSs X e t' := ⟨fun pins s σ H D I q => h.run pins s σ H D I (k D σ H q)⟩

/-! ### the combinators -/
def sNil : Ms := fun G h => .next G h
def sSeq (a b : Ms) : Ms := fun G h => (a G h).andThen b
def sSet (i : Nat) (m : Me) : Ms := fun G h => (m G h).toS G fun d h1 => .next (G.set i (some d)) h1
def sRet (m : Me) : Ms := fun G h => (m G h).toS G fun d h1 => .ret d h1
def sExpr (m : Me) : Ms := fun G h => (m G h).toS G fun _ h1 => .next G h1
def sIf (c : MeT) (a b : Ms) : Ms := fun G h => (c G h).toS G fun t h1 => if t = true then a G h1 else b G h1
def sNever : Ms := fun _ _ => .stuck
def sBrk : Ms := fun G h => .brk G h
def sCont : Ms := fun G h => .cont G h
section
variable {X : Cx} {W : WX} {pos : Pos} {st : Stmt} {rest : List Stmt} {e c : Expr} {a b : Ms} {m : Me} {tc : MeT} {sa sb : List Stmt}
theorem s_nil : PSs X [] (TSS X W sNil) := pss_nil.wk fun D σ H ⟨w, G, h, g, r, o⟩ => o σ w H (Le.refl _) g r
theorem s_seq (h1 : PS X st (TSS X W a)) (h2 : PSs X rest (TSS X W b)) : PSs X (st :: rest) (TSS X W (sSeq a b)) := by
  refine (pss_cons h1 h2).wk fun D σ H ⟨w, G, h, g, r, o⟩ => ⟨w, G, h, g, r, ?_⟩
  have o : OutS X.K X.mg W D w ((a G h).andThen b) := o
  cases e : a G h with
  | next G1 h1 =>
    rw [e] at o
    exact fun σ' w1 H1 l g1 r1 => ⟨w1, G1, h1, g1, r1, OutS.mono l o⟩
  | ret d h1 => rw [e] at o; exact o
  | brk G1 h1 => rw [e] at o; exact o
  | cont G1 h1 => rw [e] at o; exact o
  | exc c fs G1 h1 => rw [e] at o; exact o
  | stuck => rw [e] at o; exact o
theorem s_one (h1 : PS X st (TSS X W a)) : PSs X [st] (TSS X W (sSeq a sNil)) := s_seq h1 s_nil
theorem s_ret (he : PE X e (TM X W m)) : PS X (.Return (some e) pos) (TSS X W (sRet m)) :=
  (ps_ret he).wk fun D σ H ⟨w, G, h, g, r, o⟩ => ⟨w, G, h, g, r, OutS.bindE (m := m) g o fun d h1 v w1 H1 l r1 x o1 => o1 v w1 H1 (Le.refl _) r1 x⟩
theorem s_retN : PS X (.Return none pos) (TSS X W (sRet (mC .non))) := by
  refine ps_retN.wk fun D σ H ⟨w, G, h, g, r, o⟩ => ?_
  have o : ∀ v w' H', Le w w' → RepH X.K w' H' h → Rv X.K w' v .non → D.rt v H' := o
  exact o .non w H (Le.refl _) r .non
theorem s_set (i : Nat) {x : Str} {pos' : Pos} (he : PE X e (TM X W m)) (hN : X.N.Nodup) (hi : X.N[i]? = some x := by rfl) (hx : Loc X.env.scope x := by first | exact Or.inl rfl | exact Or.inr rfl)
    (hs : swapsWithSole [.Name x pos'] e pos.line X.env = pure false := by rfl) (hw : swappedStores [.Name x pos'] e X.env = pure none := by rfl) (hf : X.fn x = true ∨ X.env.scope.names.lookup x = some .local := by first | exact .inl rfl | exact .inr rfl) : PS X (.Assign [.Name x pos'] e pos) (TSS X W (sSet i m)) :=
  (ps_asg he (pg_name hN hi hx hf) hs hw).wk fun D σ H ⟨w, G, h, g, r, o⟩ => ⟨w, G, h, g, r, OutS.bindE (m := m) g o fun d h1 v w1 H1 l r1 x o1 => o1 _ w1 H1 (Le.refl _) ((g.mono l).set i x) r1⟩
theorem s_expr (he : PE X e (TM X W m)) (hs : swapsWith e none pos.line X.env = pure false := by rfl) : PS X (.Expr e pos) (TSS X W (sExpr m)) :=
  (ps_expr he hs).wk fun D σ H ⟨w, G, h, g, r, o⟩ => ⟨w, G, h, g, r, OutS.bindE (m := m) g o fun d h1 v w1 H1 l r1 x o1 => o1 σ w1 H1 (Le.refl _) (g.mono l) r1⟩
theorem s_if (hc : PT X c (TTT X W tc)) (ha : PSs X sa (TSS X W a)) (hb : PSs X sb (TSS X W b)) : PS X (.If c sa sb pos) (TSS X W (sIf tc a b)) := by
  refine (ps_if hc ha hb).wk fun D σ H ⟨w, G, h, g, r, o⟩ => ⟨w, G, h, g, r, OutS.bindT (m := tc) g o fun t h1 w1 H1 l r1 o1 => ?_⟩
  cases t with
  | true => exact ⟨w1, G, h1, g.mono l, r1, o1⟩
  | false => exact ⟨w1, G, h1, g.mono l, r1, o1⟩
theorem s_pass : PS X (.Pass pos) (TSS X W sNil) := ps_pass.wk fun D σ H ⟨w, G, h, g, r, o⟩ => o σ w H (Le.refl _) g r
theorem s_never : PS X st (TSS X W sNever) := ps_never.wk fun D σ H ⟨w, G, h, g, r, o⟩ => o.elim
theorem ss_never : PSs X rest (TSS X W sNever) := pss_never.wk fun D σ H ⟨w, G, h, g, r, o⟩ => o.elim
theorem s_brk : PS X (.Break pos) (TSS X W sBrk) := ps_break.wk fun D σ H ⟨w, G, h, g, r, o⟩ => o σ w H (Le.refl _) g r
theorem s_cont : PS X (.Continue pos) (TSS X W sCont) := ps_continue.wk fun D σ H ⟨w, G, h, g, r, o⟩ => o σ w H (Le.refl _) g r
end

/-! ### targets -/
inductive Pat where
  | nm (i : Nat)
  | tp (ps : List Pat)
mutual
def asg : Pat → D → Env → Option Env
  | .nm i, d, G => some (G.set i (some d))
  | .tp ps, d, G => match d with
    | .tup ds => asgs ps ds G
    | _ => none
def asgs : List Pat → List D → Env → Option Env
  | [], [], G => some G
  | p :: ps, d :: ds, G => match asg p d G with
    | some G1 => asgs ps ds G1
    | none => none
  | _, _, _ => none
end
mutual
def gP (K : PySem.W.Frag) : Pat → TG
  | .nm i => gName i
  | .tp ps => gTup K ps.length (gPs K ps)
def gPs (K : PySem.W.Frag) : List Pat → TGs
  | [] => gNil
  | p :: ps => gCons (gP K p) (gPs K ps)
end
mutual
def Pat.slots : Pat → List Nat
  | .nm i => [i]
  | .tp ps => slotsL ps
def slotsL : List Pat → List Nat
  | [] => []
  | p :: ps => p.slots ++ slotsL ps
end
theorem wipe_set {σ : L2.St} {i : Nat} {v : Option V} : ∀ {vs : List Nat}, i ∈ vs → wipe (σ.set i v) vs = wipe σ vs
  | j :: vs, h => by
    unfold wipe
    by_cases e : i = j
    · subst e
      by_cases q : i ∈ vs
      · rw [wipe_set q]
      · have key : ∀ (us : List Nat), (wipe (σ.set i v) us).set i none = (wipe σ us).set i none := by
          intro us
          induction us with
          | nil =>
            show (σ.set i v).set i none = σ.set i none
            rw [List.set_set]
          | cons u us ih =>
            unfold wipe
            by_cases eu : u = i
            · subst eu
              rw [List.set_set, List.set_set]
              exact ih
            · rw [List.set_comm _ _ eu, List.set_comm _ _ eu, ih]
        exact key vs
    · have q : i ∈ vs := by
        rcases List.mem_cons.mp h with h | h
        · exact absurd h e
        · exact h
      rw [wipe_set q]
theorem wipe_wipe {σ : L2.St} {vs : List Nat} : ∀ {us : List Nat}, (∀ i ∈ us, i ∈ vs) → wipe (wipe σ us) vs = wipe σ vs
  | [], _ => rfl
  | u :: us, h => by
    have e : wipe σ (u :: us) = (wipe σ us).set u none := rfl
    rw [e, wipe_set (h u List.mem_cons_self), wipe_wipe fun i hi => h i (List.mem_cons_of_mem _ hi)]
section
variable {K : PySem.W.Frag} {w : Wd} {H : Hp} {h : AH}
mutual
theorem asg_rep (r : RepH K w H h) : ∀ (p : Pat) (d : D) (v : V) (σ : L2.St) (G G' : Env) (Q : L2.St → Hp → Prop), Rv K w v d → RepG K w σ G → asg p d G = some G' →
    (∀ σ', RepG K w σ' G' → (∀ vs : List Nat, (∀ i ∈ p.slots, i ∈ vs) → wipe σ' vs = wipe σ vs) → Q σ' H) → gP K p v σ H Q
  | .nm i, d, v, σ, G, G', Q, rv, g, e, q => by
    unfold asg at e
    cases e
    unfold gP
    exact q _ (g.set i rv) fun vs hv => wipe_set (hv i (by unfold Pat.slots; simp))
  | .tp ps, d, v, σ, G, G', Q, rv, g, e, q => by
    unfold asg at e
    split at e
    · rename_i ds
      cases rv with
      | @tup a xs _ h1 h2 =>
        unfold gP
        have hl : ds.length = ps.length := asgs_len ps ds G G' e
        refine ⟨a, xs, rfl, r.ex.t h1, by rw [h2.length]; exact hl, ?_⟩
        exact asgs_rep r ps ds xs σ G G' Q h2 g e fun σ' g' hw => q σ' g' fun vs hv => hw vs (by unfold Pat.slots at hv; exact hv)
    · cases e
theorem asgs_rep (r : RepH K w H h) : ∀ (ps : List Pat) (ds : List D) (vs : List V) (σ : L2.St) (G G' : Env) (Q : L2.St → Hp → Prop), Ra K w vs ds → RepG K w σ G → asgs ps ds G = some G' →
    (∀ σ', RepG K w σ' G' → (∀ us : List Nat, (∀ i ∈ slotsL ps, i ∈ us) → wipe σ' us = wipe σ us) → Q σ' H) → gPs K ps vs σ H Q
  | [], [], _, σ, G, G', Q, ra, g, e, q => by
    cases ra
    unfold asgs at e
    cases e
    unfold gPs
    exact ⟨rfl, q σ g fun us _ => rfl⟩
  | p :: ps, d :: ds, _, σ, G, G', Q, ra, g, e, q => by
    cases ra with
    | @cons v vs _ _ a b =>
      unfold asgs at e
      split at e
      · rename_i G1 e1
        unfold gPs
        refine ⟨v, vs, rfl, asg_rep r p d v σ G G1 _ a g e1 fun σ1 g1 w1 => ?_⟩
        refine asgs_rep r ps ds vs σ1 G1 G' Q b g1 e fun σ2 g2 w2 => q σ2 g2 fun us hu => ?_
        unfold slotsL at hu
        rw [w2 us fun i hi => hu i (List.mem_append_right _ hi), w1 us fun i hi => hu i (List.mem_append_left _ hi)]
      · cases e
  | [], _ :: _, _, _, _, _, _, _, _, e, _ => by cases e
  | _ :: _, [], _, _, _, _, _, _, _, e, _ => by cases e
theorem asgs_len : ∀ (ps : List Pat) (ds : List D) (G G' : Env), asgs ps ds G = some G' → ds.length = ps.length
  | [], [], _, _, _ => rfl
  | p :: ps, d :: ds, G, G', e => by
    unfold asgs at e
    split at e
    · rename_i G1 _
      rw [List.length_cons, List.length_cons, asgs_len ps ds G1 G' e]
    · cases e
  | [], _ :: _, _, _, e => by cases e
  | _ :: _, [], _, _, e => by cases e
end
end
def sAsg (p : Pat) (m : Me) : Ms := fun G h => (m G h).toS G fun d h1 => match asg p d G with
  | some G1 => .next G1 h1
  | none => .stuck
theorem s_asg {X : Cx} {W : WX} {pos : Pos} {e tg : Expr} {m : Me} (p : Pat) (he : PE X e (TM X W m)) (hg : PG X tg (gP X.K p)) (hs : swapsWithSole [tg] e pos.line X.env = pure false := by rfl) (hw : swappedStores [tg] e X.env = pure none := by rfl)
    (h1 : (assignEach [tg] X.env).map (·.2) = [assign tg X.env] := by rfl) : PS X (.Assign [tg] e pos) (TSS X W (sAsg p m)) := by
  refine (ps_asg he hg hs hw h1).wk fun D σ H ⟨w, G, h, g, r, o⟩ => ⟨w, G, h, g, r, OutS.bindE (m := m) g o fun d h1 v w1 H1 l r1 x o1 => ?_⟩
  split at o1
  · rename_i G1 e1
    exact asg_rep r1 p d v σ G G1 _ x (g.mono l) e1 fun σ' g' _ => o1 σ' w1 H1 (Le.refl _) g' r1
  · exact o1.elim

/-! ### what is walked -/
/-- the source still holds these items -/
def Still (src : Option Nat) (all : List D) (h : AH) : Prop := match src with
  | none => True
  | some n => h[n]? = some (.lst all)
abbrev Im := Env → AH → Res (List D × Option Nat)
structure Walks (K : PySem.W.Frag) (J : It) (w : Wd) (all : List D) (src : Option Nat) : Prop where
  goes : ∀ i w' H' h', i < all.length → LeX w w' → RepH K w' H' h' → Still src all h' → J.go i H'
  stops : ∀ w' H' h', LeX w w' → RepH K w' H' h' → Still src all h' → J.stop all.length H'
  yields : ∀ i x w' H' H2 h' d, all[i]? = some d → LeX w w' → RepH K w' H' h' → Still src all h' → J.yld i H' x H2 → ∃ w2, Le w' w2 ∧ RepH K w2 H2 h' ∧ Rv K w2 x d
def OutI (K : PySem.W.Frag) (mg : Str → Option Value) (W : WX) (w : Wd) (σ : L2.St) (R : It → Hp → Prop) : Res (List D × Option Nat) → Prop
  | .ok (all, src) h => ∀ J w' H', Le w w' → RepH K w' H' h → Walks K J w' all src → R J H'
  | .exc c fs h => OutX K mg W w σ c fs h
  | .stuck => False
def tI (X : Cx) (W : WX) (m : Im) : TI := fun σ H R => ∃ w G h, RepG X.K w σ G ∧ RepH X.K w H h ∧ OutI X.K X.mg W w σ R (m G h)
theorem _root_.L2.PI.wk {X : Cx} {tg e : Expr} {t t' : TI} (h : PI X tg e t) (k : ∀ σ H R, t' σ H R → t σ H R) : PI X tg e t' := ⟨fun pins s σ H R I q => h.run pins s σ H R I (k σ H R q)⟩
def iSeq (m : Me) : Im := fun G h => (m G h).bind fun d h1 => match d with
  | .tup ds => .ok (ds, none) h1
  | .lst ds => .ok (ds, none) h1
  | .rol ds => .ok (ds, none) h1
  | .loc n => match h1[n]? with
    | some (.lst ds) => .ok (ds, some n) h1
    | _ => .stuck
  | _ => .stuck
section
variable {X : Cx} {W : WX} {tg e : Expr} {m : Me} {K : PySem.W.Frag}
theorem OutI.bindE {mg : Str → Option Value} {w : Wd} {σ : L2.St} {G : Env} {h : AH} {R : VK} {Q : It → Hp → Prop} {k : D → AH → Res (List D × Option Nat)} (o : OutI K mg W w σ Q ((m G h).bind k))
    (hq : ∀ d h1 v w1 H1, m G h = .ok d h1 → Le w w1 → RepH K w1 H1 h1 → Rv K w1 v d → OutI K mg W w1 σ Q (k d h1) → R v H1) : OutE K mg W w σ R (m G h) := by
  cases e : m G h with
  | ok d h1 =>
    rw [e] at o
    refine fun v w1 H1 l r x => hq d h1 v w1 H1 e l r x ?_
    have o : OutI K mg W w σ Q (k d h1) := o
    cases z : k d h1 with
    | ok a h2 =>
      rw [z] at o
      exact fun J w2 H2 l2 r2 x2 => o J w2 H2 (l.trans l2) r2 x2
    | exc c fs h2 => rw [z] at o; exact OutX.mono l o
    | stuck => rw [z] at o; exact o
  | exc c fs h1 =>
    rw [e] at o
    exact o
  | stuck =>
    rw [e] at o
    exact o
theorem Walks.tup {a : Addr} {xs : List V} {w : Wd} {ds : List D} (h1 : SqT K w.S a xs) (h2 : Ra K w xs ds) : Walks K (Itt K a) w ds none := by
  refine ⟨fun i w' H' h' hi l r _ => ?_, fun w' H' h' l r _ => ?_, fun i x w' H' H2 h' d hd l r _ y => ?_⟩
  · obtain ⟨v, hv, _⟩ := h2.get (i := i) (d := ds[i]) (List.getElem?_eq_getElem hi)
    exact ⟨xs, v, r.ex.t (l.ex.t h1), hv⟩
  · exact ⟨xs, r.ex.t (l.ex.t h1), by rw [h2.length]; exact Nat.le_refl _⟩
  · obtain ⟨rfl, hy⟩ := y
    obtain ⟨v, hv, rv⟩ := h2.get hd
    have := hy xs (r.ex.t (l.ex.t h1))
    rw [hv] at this
    cases this
    exact ⟨w', Le.refl _, r, Rv_monoX l rv⟩
theorem Walks.lst {a : Addr} {xs : List V} {w : Wd} {ds : List D} (h1 : SqL K w.S a xs) (h2 : Ra K w xs ds) : Walks K (Itl K a) w ds none := by
  refine ⟨fun i w' H' h' hi l r _ => ?_, fun w' H' h' l r _ => ?_, fun i x w' H' H2 h' d hd l r _ y => ?_⟩
  · obtain ⟨v, hv, _⟩ := h2.get (i := i) (d := ds[i]) (List.getElem?_eq_getElem hi)
    exact ⟨xs, v, r.ex.l (l.ex.l h1), hv⟩
  · exact ⟨xs, r.ex.l (l.ex.l h1), by rw [h2.length]; exact Nat.le_refl _⟩
  · obtain ⟨rfl, hy⟩ := y
    obtain ⟨v, hv, rv⟩ := h2.get hd
    have := hy xs (r.ex.l (l.ex.l h1))
    rw [hv] at this
    cases this
    exact ⟨w', Le.refl _, r, Rv_monoX l rv⟩
theorem Walks.loc {w : Wd} {ds : List D} {n : Nat} (hn : n < w.N) : Walks K (Itl K (w.mu n)) w ds (some n) := by
  have key : ∀ {w' : Wd} {H' : Hp} {h' : AH}, LeX w w' → RepH K w' H' h' → Still (some n) ds h' → ∃ xs, SqL K H' (w.mu n) xs ∧ Ra K w' xs ds := by
    intro w' H' h' l r s
    obtain ⟨_, xs, e, ra⟩ := r.cell n _ s
    rw [l.mu n hn] at e
    exact ⟨xs, .inl (.inl e), ra⟩
  refine ⟨fun i w' H' h' hi l r s => ?_, fun w' H' h' l r s => ?_, fun i x w' H' H2 h' d hd l r s y => ?_⟩
  · obtain ⟨xs, q, h2⟩ := key l r s
    obtain ⟨v, hv, _⟩ := h2.get (i := i) (d := ds[i]) (List.getElem?_eq_getElem hi)
    exact ⟨xs, v, q, hv⟩
  · obtain ⟨xs, q, h2⟩ := key l r s
    exact ⟨xs, q, by rw [h2.length]; exact Nat.le_refl _⟩
  · obtain ⟨rfl, hy⟩ := y
    obtain ⟨xs, q, h2⟩ := key l r s
    obtain ⟨v, hv, rv⟩ := h2.get hd
    have := hy xs q
    rw [hv] at this
    cases this
    exact ⟨w', Le.refl _, r, rv⟩
theorem i_seq (he : PE X e (TM X W m)) : PI X tg e (tI X W (iSeq m)) := by
  refine ⟨fun pins s σ H R I ⟨w, G, h, g, r, o⟩ => ?_⟩
  by_cases ht : ∃ ds h1, m G h = .ok (.tup ds) h1
  · obtain ⟨ds, h1, e1⟩ := ht
    refine (pi_tup he).run pins s σ H R I ⟨w, G, h, g, r, OutI.bindE (m := m) o fun d h2 v w1 H1 em l r1 x o1 => ?_⟩
    rw [e1] at em
    cases em
    cases x with
    | @tup a xs _ q1 q2 => exact ⟨a, rfl, ⟨xs, r1.ex.t q1⟩, o1 _ w1 H1 (Le.refl _) r1 (Walks.tup q1 q2)⟩
  · refine (pi_list he).run pins s σ H R I ⟨w, G, h, g, r, OutI.bindE (m := m) o fun d h2 v w1 H1 em l r1 x o1 => ?_⟩
    cases x with
    | tup q1 q2 => exact absurd ⟨_, _, em⟩ ht
    | @lst a xs ds q1 q2 => exact ⟨a, rfl, ⟨xs, .inl (r1.ex.rd q1)⟩, o1 _ w1 H1 (Le.refl _) r1 (Walks.lst (.inl q1) q2)⟩
    | @rol a xs ds q1 q2 => exact ⟨a, rfl, ⟨xs, r1.ex.l q1⟩, o1 _ w1 H1 (Le.refl _) r1 (Walks.lst q1 q2)⟩
    | @loc n hn =>
      have o1 : OutI X.K X.mg W w1 σ R (match h2[n]? with
        | some (.lst ds) => .ok (ds, some n) h2
        | _ => .stuck) := o1
      split at o1
      · rename_i ds e'
        obtain ⟨_, xs, e2, ra⟩ := r1.cell _ _ e'
        exact ⟨_, rfl, ⟨xs, .inl (.inl e2)⟩, o1 _ w1 H1 (Le.refl _) r1 (Walks.loc hn)⟩
      · exact o1.elim
    | _ => exact o1.elim
def rangeD (lo : Int) (n : Nat) : List D := (List.range n).map fun i : Nat => D.int (lo + (i : Int))
theorem rangeD_length (lo : Int) (n : Nat) : (rangeD lo n).length = n := by simp [rangeD]
theorem rangeD_get {lo : Int} {n i : Nat} {d : D} (h : (rangeD lo n)[i]? = some d) : d = .int (lo + (i : Int)) := by
  unfold rangeD at h
  rw [List.getElem?_map] at h
  cases q : (List.range n)[i]? with
  | none => rw [q] at h; cases h
  | some j =>
    rw [q] at h
    cases h
    have := List.getElem?_eq_some_iff.mp q
    obtain ⟨h1, h2⟩ := this
    simp at h2
    subst h2
    rfl
theorem Walks.rng {w : Wd} {lo : Int} {n : Nat} : Walks K (Itr lo n) w (rangeD lo n) none := by
  refine ⟨fun i w' H' h' hi l r _ => ?_, fun w' H' h' l r _ => ?_, fun i x w' H' H2 h' d hd l r _ y => ?_⟩
  · rw [rangeD_length] at hi
    exact hi
  · rw [rangeD_length]
    exact Nat.le_refl n
  · obtain ⟨rfl, rfl⟩ := y
    rw [rangeD_get hd]
    exact ⟨w', Le.refl _, r, .int _⟩
/-- bounds of a range (told by a flag that never computes) -/
def okR (j : Int) : Prop := -1000000 ≤ j ∧ j ≤ 1000000
noncomputable instance (j : Int) : Decidable (okR j) := Classical.propDecidable _
def okR2 (i j : Int) : Prop := -1000000 ≤ i ∧ i ≤ 1000000 ∧ j ≤ 1000000 ∧ -1000000 ≤ j
noncomputable instance (i j : Int) : Decidable (okR2 i j) := Classical.propDecidable _
noncomputable def iRange1 (as : MeL) : Im := fun G h => (as G h).bind fun xs h1 => match xs with
  | [.int j] => if okR j then .ok (rangeD 0 j.toNat, none) h1 else .stuck
  | _ => .stuck
noncomputable def iRange2 (as : MeL) : Im := fun G h => (as G h).bind fun xs h1 => match xs with
  | [.int i, .int j] => if okR2 i j then .ok (rangeD i (j - i).toNat, none) h1 else .stuck
  | _ => .stuck
theorem OutI.bindA {mg : Str → Option Value} {w : Wd} {σ : L2.St} {G : Env} {h : AH} {as : MeL} {R : List V → Hp → Prop} {Q : It → Hp → Prop} {k : List D → AH → Res (List D × Option Nat)} (o : OutI K mg W w σ Q ((as G h).bind k))
    (hq : ∀ d h1 v w1 H1, as G h = .ok d h1 → Le w w1 → RepH K w1 H1 h1 → Ra K w1 v d → OutI K mg W w1 σ Q (k d h1) → R v H1) : OutA K mg W w σ R (as G h) := by
  cases e : as G h with
  | ok d h1 =>
    rw [e] at o
    refine fun v w1 H1 l r x => hq d h1 v w1 H1 e l r x ?_
    have o : OutI K mg W w σ Q (k d h1) := o
    cases z : k d h1 with
    | ok a h2 =>
      rw [z] at o
      exact fun J w2 H2 l2 r2 x2 => o J w2 H2 (l.trans l2) r2 x2
    | exc c fs h2 => rw [z] at o; exact OutX.mono l o
    | stuck => rw [z] at o; exact o
  | exc c fs h1 =>
    rw [e] at o
    exact o
  | stuck =>
    rw [e] at o
    exact o
variable {a b : Expr} {as : MeL} {p pos : Pos}
theorem i_range1 (hm : X.mg "range" = none) (ha : PA X [a] (TAr X W as)) (hg : Gl X "range" := by rfl) (hs : starEach [a] X.env = [(false, eval a X.env)] := by rfl) : PI X tg (.Call (.Name "range" p) [a] [] pos) (tI X W (iRange1 as)) := by
  refine (pi_range1 hg hm ha hs).wk fun σ H R ⟨w, G, h, g, r, o⟩ => ⟨w, G, h, g, r, OutI.bindA (as := as) o fun d h2 v w1 H1 em l r1 x o1 => ?_⟩
  split at o1
  · rename_i j
    split at o1
    · rename_i c
      have c : -1000000 ≤ j ∧ j ≤ 1000000 := c
      obtain ⟨v, rfl, rv⟩ := ra_one x
      cases rv
      exact ⟨j, rfl, by omega, by omega, o1 _ w1 H1 (Le.refl _) r1 Walks.rng⟩
    · exact o1.elim
  · exact o1.elim
theorem i_range2 (hm : X.mg "range" = none) (ha : PA X [a, b] (TAr X W as)) (hg : Gl X "range" := by rfl) (hs : starEach [a, b] X.env = [(false, eval a X.env), (false, eval b X.env)] := by rfl) (hs2 : starEach [b] X.env = [(false, eval b X.env)] := by rfl) : PI X tg (.Call (.Name "range" p) [a, b] [] pos) (tI X W (iRange2 as)) := by
  refine (pi_range2 hg hm ha hs hs2).wk fun σ H R ⟨w, G, h, g, r, o⟩ => ⟨w, G, h, g, r, OutI.bindA (as := as) o fun d h2 v w1 H1 em l r1 x o1 => ?_⟩
  split at o1
  · rename_i i j
    split at o1
    · rename_i c
      have c : -1000000 ≤ i ∧ i ≤ 1000000 ∧ j ≤ 1000000 ∧ -1000000 ≤ j := c
      obtain ⟨v, v2, rfl, rv, rv2⟩ := ra_two x
      cases rv
      cases rv2
      exact ⟨i, j, rfl, ⟨by omega, by omega, by omega, by omega⟩, o1 _ w1 H1 (Le.refl _) r1 Walks.rng⟩
    · exact o1.elim
  · exact o1.elim
/-! zip, enumerate -/
theorem Walks.zip {K : PySem.W.Frag} {w : Wd} {J : It} {as bs : List D} {xs ys : List V} (h1 : Ra K w xs as) (h2 : Ra K w ys bs)
    (hw : ∀ w' H' h', LeX w w' → RepH K w' H' h' → ∃ G : Hp → Prop, G H' ∧ Walk J (min xs.length ys.length) G (YPair (fun i => xs[i]?) (fun i => ys[i]?))) : Walks K J w ((as.zip bs).map fun p => D.tup [p.1, p.2]) none := by
  have l1 := h1.length
  have l2 := h2.length
  have hl : ((as.zip bs).map fun p => D.tup [p.1, p.2]).length = min xs.length ys.length := by
    rw [List.length_map, List.length_zip, l1, l2]
  refine ⟨fun i w' H' h' hi l r _ => ?_, fun w' H' h' l r _ => ?_, fun i x w' H' H2 h' d hd l r _ y => ?_⟩
  · obtain ⟨P, p, wk⟩ := hw w' H' h' l r
    rw [hl] at hi
    exact wk.goes i H' hi p
  · obtain ⟨P, p, wk⟩ := hw w' H' h' l r
    rw [hl]
    exact wk.stops H' p
  · obtain ⟨P, p, wk⟩ := hw w' H' h' l r
    have hi : i < min xs.length ys.length := by
      rw [← hl]
      exact (List.getElem?_eq_some_iff.mp hd).1
    obtain ⟨T, u, v, rfl, hT, rfl, e1, e2⟩ := wk.yields i H' x H2 hi p y
    rw [List.getElem?_map] at hd
    cases q : (as.zip bs)[i]? with
    | none => rw [q] at hd; cases hd
    | some pr =>
      rw [q] at hd
      cases hd
      obtain ⟨q1, q2⟩ := List.getElem?_zip_eq_some.mp q
      obtain ⟨u', g1, ru⟩ := h1.get q1
      obtain ⟨v', g2, rv⟩ := h2.get q2
      have e1 : xs[i]? = some u := e1
      have e2 : ys[i]? = some v := e2
      rw [e1] at g1
      rw [e2] at g2
      cases g1
      cases g2
      exact ⟨w'.add T _, r.le_add hT, r.add hT, rv_tup r hT (.cons (Rv_monoX l ru) (.cons (Rv_monoX l rv) .nil))⟩
end
end AB
/-! AB: loops, comprehensions, list methods, defs and their calls. -/
namespace AB
open PySem PySem.Spec PyProof.Rows L2

/-! ### for -/
open Classical in
noncomputable def forGo (p : Pat) (body : Ms) (src : Option Nat) (all : List D) : List D → Env → AH → SR
  | [], G, h => if Still src all h then .next G h else .stuck
  | d :: r, G, h => if Still src all h then
      match asg p d G with
      | some G1 => match body G1 h with
        | .next G2 h2 => forGo p body src all r G2 h2
        | .cont G2 h2 => forGo p body src all r G2 h2
        | .brk G2 h2 => .next G2 h2
        | .ret x h2 => .ret x h2
        | .exc c fs G2 h2 => .exc c fs G2 h2
        | .stuck => .stuck
      | none => .stuck
    else .stuck
noncomputable def sFor (p : Pat) (it : Im) (body : Ms) : Ms := fun G h => (it G h).toS G fun a h1 => forGo p body a.2 a.1 a.1 G h1
theorem OutS.bindI {K : PySem.W.Frag} {mg : Str → Option Value} {W : WX} {w : Wd} {σ : L2.St} {G : Env} {h : AH} {D : Ends} {m : Im} {R : It → Hp → Prop} {k : List AB.D × Option Nat → AH → SR} (g : RepG K w σ G) (o : OutS K mg W D w ((m G h).toS G k))
    (hq : ∀ all src h1 J w1 H1, Le w w1 → RepH K w1 H1 h1 → Walks K J w1 all src → OutS K mg W D w1 (k (all, src) h1) → R J H1) : OutI K mg W w σ R (m G h) := by
  cases e : m G h with
  | ok d h1 =>
    rw [e] at o
    exact fun J w1 H1 l r x => hq d.1 d.2 h1 J w1 H1 l r x (OutS.mono l o)
  | exc c fs h1 =>
    rw [e] at o
    exact fun cls dd w1 H1 e l r x => o cls dd σ w1 H1 e l (g.mono l) r x
  | stuck =>
    rw [e] at o
    exact o
section
variable {X : Cx} {W : WX} {pos : Pos} {tg iter : Expr} {body : List Stmt} {p : Pat} {im : Im} {mb : Ms}
theorem s_for (hp : PassesOwn (model X.prog X.w) X.A X.env X.xe) (hi : PI X tg iter (tI X W im)) (hg : PG X tg (gP X.K p)) (hb : PSs X body (TSS X W mb)) (hc : X.calm = true := by rfl) (hs : ∀ x, foldedSetIterable iter X.env x = pure x := by intro _; rfl) :
    PS X (.For tg iter body [] pos) (TSS X W (sFor p im mb)) := by
  refine (ps_for hp hc hi hg hb hs).wk fun D σ H ⟨w, G, h, g, r, o⟩ => ⟨w, G, h, g, r, OutS.bindI (m := im) g o fun all src h1 J w1 H1 l r1 wk o1 => ?_⟩
  refine ⟨fun i m σ' H' => m = all.length - i ∧ i ≤ all.length ∧ ∃ w' G' h', Le w1 w' ∧ RepG X.K w' σ' G' ∧ RepH X.K w' H' h' ∧ OutS X.K X.mg W D w' (forGo p mb src all (all.drop i) G' h'),
    ⟨all.length, by simp, Nat.zero_le _, w1, G, h1, Le.refl _, g.mono l, r1, o1⟩, ?_⟩
  rintro i m σ' H' ⟨rfl, hi2, w', G', h', l', g', r', o'⟩
  by_cases hlt : i < all.length
  · have ed : all.drop i = all[i] :: all.drop (i + 1) := List.drop_eq_getElem_cons hlt
    rw [ed] at o'
    unfold forGo at o'
    split at o'
    · rename_i still
      refine .inr ⟨wk.goes i w' H' h' hlt l'.x r' still, fun σ2 H2 => ∃ w' G' h', Le w1 w' ∧ RepG X.K w' σ2 G' ∧ RepH X.K w' H2 h' ∧ OutS X.K X.mg W D w' (forGo p mb src all (all.drop (i + 1)) G' h'),
        fun σ2 H2 hN => ⟨all.length - (i + 1), by omega, rfl, hlt, hN⟩, fun x H2 hy => ?_⟩
      obtain ⟨w2, l2, r2, rv⟩ := wk.yields i x w' H' H2 h' all[i] (List.getElem?_eq_getElem hlt) l'.x r' still hy
      split at o'
      · rename_i G1 e1
        refine asg_rep r2 p all[i] x σ' G' G1 _ rv (g'.mono l2) e1 fun σ3 g3 _ => ?_
        refine ⟨w2, G1, h', g3, r2, ?_⟩
        have o2 := OutS.mono l2 o'
        cases eb : mb G1 h' with
        | next G2 h2 =>
          rw [eb] at o2
          exact fun σ4 w4 H4 l4 g4 r4 => ⟨w4, G2, h2, l'.trans (l2.trans l4), g4, r4, OutS.mono l4 o2⟩
        | cont G2 h2 =>
          rw [eb] at o2
          exact fun σ4 w4 H4 l4 g4 r4 => ⟨w4, G2, h2, l'.trans (l2.trans l4), g4, r4, OutS.mono l4 o2⟩
        | brk G2 h2 =>
          rw [eb] at o2
          exact o2
        | ret d h2 =>
          rw [eb] at o2
          exact o2
        | exc c fs G2 h2 =>
          rw [eb] at o2
          exact o2
        | stuck =>
          rw [eb] at o2
          exact o2
      · exact o'.elim
    · exact o'.elim
  · have e : i = all.length := by omega
    subst e
    rw [List.drop_length] at o'
    unfold forGo at o'
    split at o'
    · rename_i still
      exact .inl ⟨wk.stops w' H' h' l'.x r' still, o' σ' w' H' (Le.refl _) g' r'⟩
    · exact o'.elim
end

/-! ### while -/
def whileGo (t : MeT) (body : Ms) : Nat → Env → AH → SR
  | 0, _, _ => .stuck
  | n + 1, G, h => (t G h).toS G fun b h1 => if b = true then
      match body G h1 with
      | .next G2 h2 => whileGo t body n G2 h2
      | .cont G2 h2 => whileGo t body n G2 h2
      | .brk G2 h2 => .next G2 h2
      | .ret x h2 => .ret x h2
      | .exc c fs G2 h2 => .exc c fs G2 h2
      | .stuck => .stuck
    else .next G h1
open Classical in
noncomputable def sWhile (t : MeT) (body : Ms) : Ms := fun G h => if hx : ∃ n, whileGo t body n G h ≠ .stuck then whileGo t body (Classical.choose hx) G h else .stuck
theorem OutS.bindT' {K : PySem.W.Frag} {mg : Str → Option Value} {W : WX} {w : Wd} {σ : L2.St} {G : Env} {h : AH} {m : MeT} {R : Bool → Hp → Prop} {D : Ends} {k : Bool → AH → SR} (g : RepG K w σ G) (o : OutS K mg W D w ((m G h).toS G k))
    (hq : ∀ b h1 w1 H1, Le w w1 → RepH K w1 H1 h1 → OutS K mg W D w1 (k b h1) → R b H1) : OutT K mg W w σ R (m G h) := OutS.bindT g o hq
section
variable {X : Cx} {W : WX} {pos : Pos} {c : Expr} {body : List Stmt} {t : MeT} {mb : Ms}
theorem s_while (hp : PassesOwn (model X.prog X.w) X.A X.env X.xe) (hc : PT X c (TTT X W t)) (hb : PSs X body (TSS X W mb)) : PS X (.While c body [] pos) (TSS X W (sWhile t mb)) := by
  refine (ps_while hp hc hb).wk fun D σ H ⟨w, G, h, g, r, o⟩ => ?_
  unfold sWhile at o
  split at o
  · rename_i hx
    generalize Classical.choose hx = n0 at o
    refine ⟨fun m σ' H' => ∃ w' G' h', RepG X.K w' σ' G' ∧ RepH X.K w' H' h' ∧ OutS X.K X.mg W D w' (whileGo t mb m G' h'), ⟨n0, w, G, h, g, r, o⟩, ?_⟩
    rintro m σ' H' ⟨w', G', h', g', r', o'⟩
    cases m with
    | zero => exact o'.elim
    | succ m =>
      unfold whileGo at o'
      refine ⟨w', G', h', g', r', OutS.bindT (m := t) g' o' fun b h1 w1 H1 l r1 o1 => ?_⟩
      cases b with
      | true =>
        refine iteT ⟨fun σ2 H2 => ∃ w' G' h', RepG X.K w' σ2 G' ∧ RepH X.K w' H2 h' ∧ OutS X.K X.mg W D w' (whileGo t mb m G' h'), fun σ2 H2 hN => ⟨m, Nat.lt_succ_self _, hN⟩, ⟨w1, G', h1, g'.mono l, r1, ?_⟩⟩
        have o1 : OutS X.K X.mg W D w1 (match mb G' h1 with
          | .next G2 h2 => whileGo t mb m G2 h2
          | .cont G2 h2 => whileGo t mb m G2 h2
          | .brk G2 h2 => .next G2 h2
          | .ret x h2 => .ret x h2
          | .exc c fs G2 h2 => .exc c fs G2 h2
          | .stuck => .stuck) := o1
        cases eb : mb G' h1 with
        | next G2 h2 =>
          rw [eb] at o1
          exact fun σ4 w4 H4 l4 g4 r4 => ⟨w4, G2, h2, g4, r4, OutS.mono l4 o1⟩
        | cont G2 h2 =>
          rw [eb] at o1
          exact fun σ4 w4 H4 l4 g4 r4 => ⟨w4, G2, h2, g4, r4, OutS.mono l4 o1⟩
        | brk G2 h2 =>
          rw [eb] at o1
          exact o1
        | ret d h2 =>
          rw [eb] at o1
          exact o1
        | exc c fs G2 h2 =>
          rw [eb] at o1
          exact o1
        | stuck =>
          rw [eb] at o1
          exact o1
      | false => exact iteF (o1 σ' w1 H1 (Le.refl _) (g'.mono l) r1)
  · exact o.elim
end

/-! ### comprehensions -/
def wipeG (G : Env) : List Nat → Env
  | [] => G
  | v :: vs => (wipeG G vs).set v none
theorem wipe_rep {K : PySem.W.Frag} {w : Wd} {σ : L2.St} {G : Env} (g : RepG K w σ G) : ∀ vs : List Nat, RepG K w (wipe σ vs) (wipeG G vs)
  | [] => g
  | v :: vs => by
    have ih := wipe_rep g vs
    refine ⟨by unfold wipe wipeG; rw [List.length_set, List.length_set, ih.1], fun i d e => ?_⟩
    unfold wipeG at e
    by_cases hi : i = v
    · subst hi
      have hl : i < (wipeG G vs).length := by
        have := (List.getElem?_eq_some_iff.mp e).1
        rwa [List.length_set] at this
      rw [List.getElem?_set_self hl] at e
      cases e
    · rw [List.getElem?_set_ne (Ne.symm hi)] at e
      obtain ⟨x, h1, h2⟩ := ih.2 i d e
      refine ⟨x, ?_, h2⟩
      unfold wipe
      rw [List.getElem?_set_ne (Ne.symm hi)]
      exact h1
def tYesM : MeT := fun _ h => .ok true h
/-- in a comprehension nothing is raised -/
def Res.noX {α : Type} (r : Res α) : Res α := match r with
  | .ok a h => .ok a h
  | _ => .stuck
@[simp] theorem Res.noX_ok {α : Type} (a : α) (h : AH) : (Res.ok a h).noX = .ok a h := rfl
@[simp] theorem Res.noX_exc {α : Type} (c : Str) (fs : List (Str × D)) (h : AH) : (Res.exc c fs h : Res α).noX = .stuck := rfl
@[simp] theorem Res.noX_stuck {α : Type} : (Res.stuck : Res α).noX = .stuck := rfl
open Classical in
noncomputable def compGo (p : Pat) (t : MeT) (e : Me) (src : Option Nat) (all : List D) (G : Env) : List D → AH → Res (List D)
  | [], h => if Still src all h then .ok [] h else .stuck
  | d :: r, h => if Still src all h then
      match asg p d G with
      | some G1 => (t G1 h).noX.bind fun b h1 => if b = true then (e G1 h1).noX.bind fun x h2 => (compGo p t e src all G r h2).bind fun xs h3 => .ok (x :: xs) h3 else compGo p t e src all G r h1
      | none => .stuck
    else .stuck
noncomputable def lComp (p : Pat) (vs : List Nat) (it : Im) (t : MeT) (e : Me) : MeL := fun G h => (it G h).bind fun a h1 => if a.1.length ≤ big then compGo p t e a.2 a.1 (wipeG G vs) a.1 h1 else .stuck
theorem OutF.bindI {K : PySem.W.Frag} {mg : Str → Option Value} {W : WX} {w : Wd} {σ : L2.St} {G : Env} {h : AH} {m : Im} {R : It → Hp → Prop} {Q : VK} {k : List D × Option Nat → AH → Res (List D)} (o : OutF K mg W w σ Q ((m G h).bind k))
    (hq : ∀ all src h1 J w1 H1, Le w w1 → RepH K w1 H1 h1 → Walks K J w1 all src → OutF K mg W w1 σ Q (k (all, src) h1) → R J H1) : OutI K mg W w σ R (m G h) := by
  cases e : m G h with
  | ok d h1 =>
    rw [e] at o
    exact fun J w1 H1 l r x => hq d.1 d.2 h1 J w1 H1 l r x (OutF.mono l o)
  | exc c fs h1 =>
    rw [e] at o
    exact o
  | stuck =>
    rw [e] at o
    exact o
/-- no wish: nothing is raised -/
abbrev W0 : WX := fun _ _ _ _ => False
/-- the world in which the list at p, told apart, must stay as it is -/
def Wd.hold (w : Wd) (p : Addr) (u : HO) : Wd := ⟨w.S, upd w.F p u, w.mu, w.N⟩
def Wd.with (w : Wd) (F : Hp) : Wd := ⟨w.S, F, w.mu, w.N⟩
theorem RepH.hold {K : PySem.W.Frag} {w : Wd} {H : Hp} {h : AH} {p : Addr} {u : HO} (r : RepH K w H h) (ap : Apart w p) : RepH K (w.hold p u) (upd H p u) h := by
  refine ⟨fun a x e => ?_, r.len, r.inj, fun n o' e => ?_, fun a x e => ?_, fun a x e => ?_⟩
  · have e : w.S a = some x := e
    have q : a ≠ p := by
      intro z
      rw [z, ap.s] at e
      cases e
    rw [upd_ne q]
    exact r.ex _ _ e
  · obtain ⟨a, b⟩ := r.cell n o' e
    have hn : n < w.N := by
      rw [r.len]
      exact (List.getElem?_eq_some_iff.mp e).1
    refine ⟨a, ?_⟩
    have b2 : RepO K w (upd H p u) (w.mu n) o' := b.mono (Le.refl _) (upd_ne (ap.m n hn))
    cases o' with
    | lst ds => exact b2
    | ins C fs => exact b2
  · have e : upd w.F p u a = some x := e
    by_cases q : a = p
    · rw [q, upd_same] at e
      rw [q, upd_same]
      exact e
    · rw [upd_ne q] at e
      rw [upd_ne q]
      exact r.exF _ _ e
  · have e : upd w.F p u a = some x := e
    by_cases q : a = p
    · rw [q]
      exact ⟨ap.s, ap.m⟩
    · rw [upd_ne q] at e
      exact r.dis a x e
/-- the held list goes free again -/
theorem RepH.free {K : PySem.W.Frag} {w : Wd} {H : Hp} {h : AH} {F : Hp} {p : Addr} {u : HO} (r : RepH K w H h) (e : w.F = upd F p u) (hp : F p = none) : RepH K (w.with F) H h ∧ Apart (w.with F) p := by
  have sub : ∀ a x, F a = some x → w.F a = some x := fun a x q => by
    have z : a ≠ p := fun z => by
      rw [z, hp] at q
      cases q
    rw [e, upd_ne z]
    exact q
  have d := r.dis p u (by rw [e, upd_same])
  refine ⟨⟨r.ex, r.len, r.inj, fun n o' q => ?_, fun a x q => r.exF _ _ (sub a x q), fun a x q => r.dis a x (sub a x q)⟩, d.1, d.2, hp⟩
  obtain ⟨a, b⟩ := r.cell n o' q
  refine ⟨a, ?_⟩
  cases o' with
  | lst ds => exact b
  | ins C fs => exact b
/-- a list goes on in its place -/
theorem RepH.regrow {K : PySem.W.Frag} {w : Wd} {H : Hp} {h : AH} {F : Hp} {p : Addr} {u u' : HO} (r : RepH K w H h) (e : w.F = upd F p u) (hp : F p = none) : RepH K (w.with (upd F p u')) (upd H p u') h := by
  obtain ⟨r1, ap⟩ := r.free e hp
  exact r1.hold ap
section
variable {X : Cx} {W : WX} {pos : Pos} {tg iter elt : Expr} {ifs : List Expr} {scope : Scope} {own : List (Str × Nat)} {p : Pat} {im : Im} {mt : MeT} {me : Me}
theorem noXT {K : PySem.W.Frag} {mg : Str → Option Value} {w : Wd} {σ : L2.St} {Q : Bool → Hp → Prop} {r : Res Bool} (o : OutT K mg W0 w σ Q r.noX) : OutT K mg W0 w σ Q r := by
  cases r with
  | ok a h => exact o
  | exc c fs h => exact o.elim
  | stuck => exact o
theorem noXE {K : PySem.W.Frag} {mg : Str → Option Value} {w : Wd} {σ : L2.St} {Q : VK} {r : Res D} (o : OutE K mg W0 w σ Q r.noX) : OutE K mg W0 w σ Q r := by
  cases r with
  | ok a h => exact o
  | exc c fs h => exact o.elim
  | stuck => exact o
theorem lc_read (p : Pat) (hsl : ∀ i ∈ p.slots, i ∈ own.map (·.2)) {σ : L2.St} {H : Hp} {Q : VK} (t : TF X W (lComp p (own.map (·.2)) im mt me) σ H Q) : tLc (tI X W im) (gP X.K p) (TTT X W0 mt) (TM X W0 me) (own.map (·.2)) σ H Q := by
  obtain ⟨w, G, h, g, r, o⟩ := t
  refine ⟨w, G, h, g, r, OutF.bindI (m := im) o fun all src h1 J w1 H1 l r1 wk o1 => ?_⟩
  intro Dd hD
  have o1 : OutF X.K X.mg W w1 σ Q (if all.length ≤ big then compGo p mt me src all (wipeG G (own.map (·.2))) all h1 else .stuck) := o1
  split at o1
  · rename_i hbig
    have g1 : RepG X.K w1 (wipe σ (own.map (·.2))) (wipeG G (own.map (·.2))) := wipe_rep (g.mono l) _
    generalize hvs : own.map (·.2) = vs at *
    have apD : Apart w1 Dd := ⟨r1.ex.free hD, fun n hn => r1.ne hn hD, r1.exF.free hD⟩
    refine ⟨fun i m H' => m = all.length - i ∧ i ≤ all.length ∧ ∃ w' h' xs ds, w'.F = upd w1.F Dd (.lst xs) ∧ LeX w1 w' ∧ RepH X.K w' H' h' ∧ Ra X.K w' xs ds ∧ ds.length ≤ i ∧
      OutF X.K X.mg W (w'.with w1.F) σ Q ((compGo p mt me src all (wipeG G vs) (all.drop i) h').bind fun ys h2 => .ok (ds ++ ys) h2),
      ⟨all.length, by simp, Nat.zero_le _, w1.hold Dd (.lst []), h1, [], [], rfl, ⟨Ext.refl _, Nat.le_refl _, fun _ _ => rfl⟩, r1.hold apD, .nil, Nat.le_refl _, ?_⟩, ?_⟩
    · have e : ∀ r : Res (List D), (r.bind fun ys h2 => .ok ([] ++ ys) h2) = r := fun r => by cases r <;> rfl
      rw [List.drop_zero, e]
      exact o1
    · rintro i m H' ⟨rfl, hi2, w', h', xs, ds, eF, lx, r', ra, hds, o'⟩
      obtain ⟨rf, apf⟩ := r'.free eF apD.f
      have lf : LeX w1 (w'.with w1.F) := ⟨lx.ex, lx.n, lx.mu⟩
      have hD' : H' Dd = some (.lst xs) := r'.exF _ _ (by rw [eF, upd_same])
      by_cases hlt : i < all.length
      · have ed : all.drop i = all[i] :: all.drop (i + 1) := List.drop_eq_getElem_cons hlt
        rw [ed] at o'
        unfold compGo at o'
        split at o'
        · rename_i still
          refine .inr ⟨wk.goes i w' H' h' hlt lx r' still, fun H2 => ∃ w' h' xs ds, w'.F = upd w1.F Dd (.lst xs) ∧ LeX w1 w' ∧ RepH X.K w' H2 h' ∧ Ra X.K w' xs ds ∧ ds.length ≤ i + 1 ∧
            OutF X.K X.mg W (w'.with w1.F) σ Q ((compGo p mt me src all (wipeG G vs) (all.drop (i + 1)) h').bind fun ys h2 => .ok (ds ++ ys) h2),
            fun H2 hN => ⟨all.length - (i + 1), by omega, rfl, hlt, hN⟩, fun x H2 hy => ?_⟩
          obtain ⟨w2, l2, r2, rv⟩ := wk.yields i x w' H' H2 h' all[i] (List.getElem?_eq_getElem hlt) lx r' still hy
          split at o'
          · rename_i G1 e1
            refine asg_rep r2 p all[i] x (wipe σ vs) _ G1 _ rv (g1.monoX (lx.trans l2.x)) e1 fun σ3 g3 hw => ⟨(hw vs hsl).trans (wipe_wipe fun _ hi => hi), w2, G1, h', g3, r2, ?_⟩
            cases em : mt G1 h' with
            | exc c fs h2 => rw [em] at o'; exact o'.elim
            | stuck => rw [em] at o'; exact o'.elim
            | ok b h2 =>
              rw [em] at o'
              intro w3 H3 l3 r3
              have o' : OutF X.K X.mg W (w'.with w1.F) σ Q ((if b = true then (me G1 h2).noX.bind fun x h2 => (compGo p mt me src all (wipeG G vs) (all.drop (i + 1)) h2).bind fun xs h3 => .ok (x :: xs) h3 else compGo p mt me src all (wipeG G vs) (all.drop (i + 1)) h2).bind fun ys h2 => .ok (ds ++ ys) h2) := o'
              have F3 : w3.F = upd w1.F Dd (.lst xs) := by rw [l3.f, l2.f, eF]
              cases b with
              | false =>
                rw [if_neg (by decide)] at o'
                refine iteF ⟨w3, h2, xs, ds, F3, lx.trans (l2.x.trans l3.x), r3, Ra_mono (l2.trans l3) ra, by omega, OutF.mono ?_ o'⟩
                exact ⟨(l2.trans l3).ex, (l2.trans l3).n, (l2.trans l3).mu, rfl⟩
              | true =>
                rw [if_pos rfl] at o'
                refine iteT ⟨w3, G1, h2, g3.mono l3, r3, ?_⟩
                cases ee : me G1 h2 with
                | exc c fs h3 => rw [ee] at o'; exact o'.elim
                | stuck => rw [ee] at o'; exact o'.elim
                | ok y h3 =>
                  rw [ee] at o'
                  intro v w4 H4 l4 r4 rv4
                  have F4 : w4.F = upd w1.F Dd (.lst xs) := by rw [l4.f, F3]
                  have lxs := ra.length
                  refine ⟨xs, r4.exF _ _ (by rw [F4, upd_same]), big_lt (by omega), w4.with (upd w1.F Dd (.lst (xs ++ [v]))), h3, xs ++ [v], ds ++ [y], rfl, ?_, r4.regrow F4 apD.f, ?_, ?_, ?_⟩
                  · have l := lx.trans (l2.x.trans (l3.x.trans l4.x))
                    exact ⟨l.ex, l.n, l.mu⟩
                  · have ra4 : Ra X.K w4 xs ds := Ra_mono (l2.trans (l3.trans l4)) ra
                    exact ra4.append (.cons rv4 .nil)
                  · rw [List.length_append]
                    exact Nat.succ_le_succ hds
                  · have eq : ∀ r : Res (List D), ((r.bind fun zs h3 => .ok (y :: zs) h3).bind fun ys h2 => .ok (ds ++ ys) h2) = r.bind fun ys h2 => .ok ((ds ++ [y]) ++ ys) h2 := fun r => by
                      cases r with
                      | ok a h =>
                        show Res.ok (ds ++ (y :: a)) h = Res.ok ((ds ++ [y]) ++ a) h
                        rw [List.append_assoc]
                        rfl
                      | exc c fs h => rfl
                      | stuck => rfl
                    have o2 : OutF X.K X.mg W (w'.with w1.F) σ Q (((compGo p mt me src all (wipeG G vs) (all.drop (i + 1)) h3).bind fun zs h3 => .ok (y :: zs) h3).bind fun ys h2 => .ok (ds ++ ys) h2) := o'
                    rw [eq] at o2
                    refine OutF.mono ?_ o2
                    have l := l2.trans (l3.trans l4)
                    exact ⟨l.ex, l.n, l.mu, rfl⟩
          · exact o'.elim
        · exact o'.elim
      · have e : i = all.length := by omega
        subst e
        rw [List.drop_length] at o'
        unfold compGo at o'
        split at o'
        · rename_i still
          refine .inl ⟨wk.stops w' H' h' lx r' still, ?_⟩
          have o2 : OutF X.K X.mg W (w'.with w1.F) σ Q (.ok (ds ++ []) h') := o'
          rw [List.append_nil] at o2
          exact o2 Dd xs (w'.with w1.F) H' (Le.refl _) rf apf hD' ra
        · exact o'.elim
  · exact o1.elim
theorem f_lc (p : Pat) (hN : X.N.Nodup) (hi : PI X tg iter (tI X W im)) (ok : BlkOk X.N X.env.scope scope own)
    (hg : ∀ (s : Shared) (H : Hp) (C : Addr) (cl : List (Str × Addr)) (fp : List Addr), PG (X.blk s H scope (compEnvC scope cl C X.env) fp) tg (gP X.K p)) (ht : ∀ (s : Shared) (H : Hp) (C : Addr) (cl : List (Str × Addr)) (fp : List Addr), PTs (X.blk s H scope (compEnvC scope cl C X.env) fp) ifs (TTT X W0 mt))
    (he : ∀ (s : Shared) (H : Hp) (C : Addr) (cl : List (Str × Addr)) (fp : List Addr), PE (X.blk s H scope (compEnvC scope cl C X.env) fp) elt (TM X W0 me)) (hsl : ∀ i ∈ p.slots, i ∈ own.map (·.2)) (hc : X.calm = true := by rfl) (hs : ∀ x, foldedSetIterable iter X.env x = pure x := by intro _; rfl) :
    PE X (.ListComp elt [⟨tg, iter, ifs, 0⟩] scope pos) (TF X W (lComp p (own.map (·.2)) im mt me)) :=
  (pe_lc hc hN hi ok hg ht he hs).wk fun _ _ _ t => lc_read p hsl t
/-- name = [..] on one line, the name a local of its own -/
theorem set_read {m : Me} {i : Nat} {D : Ends} {σ : L2.St} {H : Hp} (t : TSS X W (sSet i m) D σ H) : TM X W m σ H fun x H1 => gName i x σ H1 D.nx := by
  obtain ⟨w, G, h, g, r, o⟩ := t
  exact ⟨w, G, h, g, r, OutS.bindE (m := m) g o fun d h1 v w1 H1 l r1 x o1 => o1 _ w1 H1 (Le.refl _) ((g.mono l).set i x) r1⟩
theorem s_setLc (i : Nat) {y : Str} {py spos : Pos} {m : Me} (p : Pat) (hm : ∀ (σ : L2.St) (H : Hp) (Q : VK), TM X W m σ H Q → TF X W (lComp p (own.map (·.2)) im mt me) σ H Q) (hN : X.N.Nodup) (hi : PI X tg iter (tI X W im)) (ok : BlkOk X.N X.env.scope scope own)
    (hg : ∀ (s : Shared) (H : Hp) (C : Addr) (cl : List (Str × Addr)) (fp : List Addr), PG (X.blk s H scope (compEnvC scope cl C X.env) fp) tg (gP X.K p)) (ht : ∀ (s : Shared) (H : Hp) (C : Addr) (cl : List (Str × Addr)) (fp : List Addr), PTs (X.blk s H scope (compEnvC scope cl C X.env) fp) ifs (TTT X W0 mt))
    (he : ∀ (s : Shared) (H : Hp) (C : Addr) (cl : List (Str × Addr)) (fp : List Addr), PE (X.blk s H scope (compEnvC scope cl C X.env) fp) elt (TM X W0 me)) (hsl : ∀ i ∈ p.slots, i ∈ own.map (·.2)) (hy : X.N[i]? = some y := by rfl) (hyl : X.env.scope.names.lookup y = some .local := by rfl)
    (hk : X.env.scope.kind = .function := by rfl) (hl : (py.line == pos.line) = true := by rfl) (ha : (scope.names.any fun (n, k) => n == y && (k == .local || k == .cell)) = false := by rfl) (hc : X.calm = true := by rfl) (hs : ∀ x, foldedSetIterable iter X.env x = pure x := by intro _; rfl) :
    PS X (.Assign [.Name y py] (.ListComp elt [⟨tg, iter, ifs, 0⟩] scope pos) spos) (TSS X W (sSet i m)) :=
  (ps_setLc hc hN hy hyl (sw_true hk hyl hl ha) hi ok hg ht he hs).wk fun D σ H t => lc_read p hsl (hm _ _ _ (set_read t))
end
end AB
/-! AB: defs, their calls; list methods; raise. -/
namespace AB
open PySem PySem.Spec PyProof.Rows L2

mutual
/-- no object from n on is named -/
def D.under (n : Nat) : D → Bool
  | .tup ds => underL n ds
  | .lst ds => underL n ds
  | .rol ds => underL n ds
  | .loc m => decide (m < n)
  | _ => true
def underL (n : Nat) : List D → Bool
  | [] => true
  | d :: ds => d.under n && underL n ds
end
def AO.under (n : Nat) : AO → Bool
  | .lst ds => underL n ds
  | .ins _ fs => underL n (fs.map (·.2))
section
variable {K : PySem.W.Frag} {S : Hp} {mu : Nat → Addr} {N n : Nat}
mutual
theorem RepV.lower : ∀ (d : D) (v : V), RepV K S mu N v d → d.under n = true → RepV K S mu n v d
  | .non, _, h, _ => by cases h; exact .non
  | .bl _, _, h, _ => by cases h; exact .bl _
  | .int _, _, h, _ => by cases h; exact .int _
  | .str _, _, h, _ => by cases h; exact .str _
  | .tup ds, _, h, b => by
    cases h with
    | tup x y => exact .tup x (RepAll.lower ds _ y (by unfold D.under at b; exact b))
  | .lst ds, _, h, b => by
    cases h with
    | lst x y => exact .lst x (RepAll.lower ds _ y (by unfold D.under at b; exact b))
  | .rol ds, _, h, b => by
    cases h with
    | rol x y => exact .rol x (RepAll.lower ds _ y (by unfold D.under at b; exact b))
  | .loc m, _, h, b => by
    cases h with
    | loc x => exact .loc (of_decide_eq_true (by unfold D.under at b; exact b))
  | .con _, _, h, _ => by cases h; exact .con
theorem RepAll.lower : ∀ (ds : List D) (vs : List V), RepAll K S mu N vs ds → underL n ds = true → RepAll K S mu n vs ds
  | [], _, h, _ => by cases h; exact .nil
  | d :: ds, _, h, b => by
    cases h with
    | cons x y =>
      unfold underL at b
      rw [Bool.and_eq_true] at b
      exact .cons (RepV.lower d _ x b.1) (RepAll.lower ds _ y b.2)
end
mutual
theorem RepV.is_under : ∀ (d : D) (v : V), RepV K S mu N v d → d.under N = true
  | .non, _, _ => by unfold D.under; rfl
  | .bl _, _, _ => by unfold D.under; rfl
  | .int _, _, _ => by unfold D.under; rfl
  | .str _, _, _ => by unfold D.under; rfl
  | .tup ds, _, h => by
    cases h with
    | tup x y => unfold D.under; exact RepAll.is_under ds _ y
  | .lst ds, _, h => by
    cases h with
    | lst x y => unfold D.under; exact RepAll.is_under ds _ y
  | .rol ds, _, h => by
    cases h with
    | rol x y => unfold D.under; exact RepAll.is_under ds _ y
  | .loc m, _, h => by
    cases h with
    | loc x => unfold D.under; exact decide_eq_true x
  | .con _, _, _ => by unfold D.under; rfl
theorem RepAll.is_under : ∀ (ds : List D) (vs : List V), RepAll K S mu N vs ds → underL N ds = true
  | [], _, _ => by unfold underL; rfl
  | d :: ds, _, h => by
    cases h with
    | cons x y =>
      unfold underL
      rw [RepV.is_under d _ x, RepAll.is_under ds _ y]
      rfl
end
end
/-- the objects ahead of n hold nothing from n on: they stand as they stood, or this is seen -/
def OkCells (n : Nat) (h0 h1 : AH) : Prop := ∀ m o, m < n → h1[m]? = some o → h0[m]? = some o ∨ o.under n = true
def Wd.cut (w : Wd) (n : Nat) : Wd := ⟨w.S, w.F, w.mu, n⟩
theorem RepO.under {K : PySem.W.Frag} {w : Wd} {H : Hp} {a : Addr} {o : AO} (r : RepO K w H a o) : o.under w.N = true := by
  cases o with
  | lst ds =>
    obtain ⟨xs, _, ra⟩ := r
    exact RepAll.is_under ds _ ra
  | ins C fs =>
    obtain ⟨dx, fv, _, _, ra, _⟩ := r
    exact RepAll.is_under _ _ ra
theorem RepO.lower {K : PySem.W.Frag} {w : Wd} {H : Hp} {a : Addr} {o : AO} {n : Nat} (r : RepO K w H a o) (b : o.under n = true) : RepO K (w.cut n) H a o := by
  cases o with
  | lst ds =>
    obtain ⟨xs, e, ra⟩ := r
    exact ⟨xs, e, RepAll.lower ds _ ra b⟩
  | ins C fs =>
    obtain ⟨dx, fv, e1, e2, ra, e3⟩ := r
    exact ⟨dx, fv, e1, e2, RepAll.lower _ _ ra b, e3⟩
/-- a def's own objects are forgotten -/
theorem RepH.cut {K : PySem.W.Frag} {w w1 : Wd} {H H1 : Hp} {h0 h1 : AH} (r0 : RepH K w H h0) (l : Le w w1) (r1 : RepH K w1 H1 h1) (ok : OkCells w.N h0 h1) : RepH K (w1.cut w.N) H1 (h1.take w.N) ∧ Le w (w1.cut w.N) := by
  have hl : w.N ≤ h1.length := by rw [← r1.len]; exact l.n
  refine ⟨⟨r1.ex, ?_, fun m n hm hn e => r1.inj m n (Nat.lt_of_lt_of_le hm l.n) (Nat.lt_of_lt_of_le hn l.n) e, fun m o e => ?_, r1.exF, fun a u e => ⟨(r1.dis a u e).1, fun n hn => (r1.dis a u e).2 n (Nat.lt_of_lt_of_le hn l.n)⟩⟩, l.ex, Nat.le_refl _, l.mu, l.f⟩
  · show w.N = _
    rw [List.length_take]
    omega
  · have hm : m < w.N := by
      have := (List.getElem?_eq_some_iff.mp e).1
      rw [List.length_take] at this
      omega
    rw [List.getElem?_take, if_pos hm] at e
    obtain ⟨a, b⟩ := r1.cell m o e
    refine ⟨a, b.lower ?_⟩
    rcases ok m o hm e with q | q
    · obtain ⟨_, c⟩ := r0.cell m o q
      exact c.under
    · exact q
abbrev Fn := List D → AH → Res D
abbrev FnL := List D → AH → Res (List D)
open Classical in
noncomputable def finD (n : Nat) (h0 : AH) (d : D) (h1 : AH) : Res D :=
  if h1.length = n then .ok d h1 else if d.under n = true ∧ OkCells n h0 h1 then .ok d (h1.take n) else .stuck
open Classical in
noncomputable def finX {α : Type} (n : Nat) (h0 : AH) (c : Str) (fs : List (Str × D)) (h1 : AH) : Res α :=
  if h1.length = n then .exc c fs h1 else if underL n (fs.map (·.2)) = true ∧ OkCells n h0 h1 then .exc c fs (h1.take n) else .stuck
open Classical in
noncomputable def finL (n : Nat) (h0 : AH) (d : D) (h1 : AH) : Res (List D) := match d with
  | .loc k => match h1[k]? with
    | some (.lst ds) => if n ≤ k ∧ underL n ds = true ∧ OkCells n h0 h1 then .ok ds (h1.take n) else .stuck
    | _ => .stuck
  | _ => .stuck
/-- a def of n parameters and N slots -/
noncomputable def mDef (n N : Nat) (body : Ms) : Fn := fun ds h => if ds.length = n then
    match body (ds.map some ++ List.replicate (N - n) none) h with
    | .next _ h1 => finD h.length h .non h1
    | .ret d h1 => finD h.length h d h1
    | .exc c fs _ h1 => finX h.length h c fs h1
    | _ => .stuck
  else .stuck
/-- .. that hands back a new list -/
noncomputable def mDefL (n N : Nat) (body : Ms) : FnL := fun ds h => if ds.length = n then
    match body (ds.map some ++ List.replicate (N - n) none) h with
    | .ret d h1 => finL h.length h d h1
    | .exc c fs _ h1 => finX h.length h c fs h1
    | _ => .stuck
  else .stuck
def spM (K : PySem.W.Frag) (mg : Str → Option Value) (m : Fn) : Sp := fun vs H Q E => ∃ w ds h, Ra K w vs ds ∧ RepH K w H h ∧ OutE K mg (fun c dd _ H => E c dd H) w [] Q (m ds h)
def spL (K : PySem.W.Frag) (mg : Str → Option Value) (m : FnL) : Sp := fun vs H Q E => ∃ w ds h, Ra K w vs ds ∧ RepH K w H h ∧ OutF K mg (fun c dd _ H => E c dd H) w [] Q (m ds h)
theorem start_rep {K : PySem.W.Frag} {w : Wd} {N : List Str} {vs : List V} {ds : List D} (ra : Ra K w vs ds) : RepG K w (L2.start N vs) (ds.map some ++ List.replicate (N.length - ds.length) none) := by
  have hl := ra.length
  refine ⟨by simp [L2.start, hl], fun i d e => ?_⟩
  by_cases hi : i < ds.length
  · rw [List.getElem?_append_left (by simpa using hi), List.getElem?_map] at e
    have e2 : ds[i]? = some d := by
      cases q : ds[i]? with
      | none => rw [q] at e; cases e
      | some x =>
        rw [q] at e
        cases e
        rfl
    obtain ⟨v, h1, h2⟩ := ra.get e2
    refine ⟨v, ?_, h2⟩
    unfold L2.start
    rw [List.getElem?_append_left (by simp; omega), List.getElem?_map, h1]
    rfl
  · rw [List.getElem?_append_right (by simp; omega)] at e
    have := List.mem_of_getElem? e
    simp at this
section
variable {P : Program} {w : World} {K : PySem.W.Frag} {mg : Str → Option Value} {base : Heap}
theorem finX_out {α : Type} {W : WX} {w w1 : Wd} {σ σ1 : L2.St} {H : Hp} {G1 : Env} {h0 h1 : AH} {c : Str} {fs : List (Str × D)} (r0 : RepH K w H h0) (o : OutX K mg W w σ c fs h1) : True := trivial
/-- the end of a def that raises -/
theorem out_finX {E : XK} {w : Wd} {H : Hp} {h0 h1 : AH} {G1 : Env} {c : Str} {fs : List (Str × D)} {D : Ends} (r0 : RepH K w H h0)
    (o : (h1.length = w.N → OutX K mg (fun c dd _ H => E c dd H) w [] c fs h1) ∧ (h1.length ≠ w.N → underL w.N (fs.map (·.2)) = true ∧ OkCells w.N h0 h1 ∧ OutX K mg (fun c dd _ H => E c dd H) w [] c fs (h1.take w.N))) :
    OutS K mg (fun c dd _ H => E c dd H) D w (.exc c fs G1 h1) := by
  intro cls dd σ1 w1 H1 e l g r x
  by_cases q : h1.length = w.N
  · exact o.1 q cls dd w1 H1 e l r x
  · obtain ⟨hb, hc, ox⟩ := o.2 q
    obtain ⟨r2, l2⟩ := RepH.cut r0 l r hc
    refine ox cls dd (w1.cut w.N) H1 e l2 r2 ?_
    cases fs with
    | nil => exact trivial
    | cons f fs =>
      obtain ⟨p, fv, e1, e2, e3, ra⟩ := x
      exact ⟨p, fv, e1, e2, e3, RepAll.lower _ _ ra hb⟩
theorem sp_len {m : Ms} {n N : Nat} {vs : List V} {H : Hp} {Q : VK} {E : XK} (h : spM K mg (mDef n N m) vs H Q E) : vs.length = n := by
  obtain ⟨w, ds, h, ra, r, o⟩ := h
  unfold mDef at o
  split at o
  · rename_i e
    rw [ra.length]
    exact e
  · exact o.elim
theorem sp_start {m : Ms} {n : Nat} {N : List Str} {vs : List V} {H : Hp} {Q : VK} {E : XK} (h : spM K mg (mDef n N.length m) vs H Q E) : tS K mg (fun c dd _ H => E c dd H) m { nx := fun _ H' => Q .non H', rt := Q } (L2.start N vs) H := by
  obtain ⟨w, ds, h, ra, r, o⟩ := h
  unfold mDef at o
  split at o
  · rename_i e
    refine ⟨w, _, h, start_rep ra, r, ?_⟩
    rw [e]
    have fin : ∀ (d : D) (h1 : AH), OutE K mg (fun c dd _ H => E c dd H) w [] Q (finD h.length h d h1) → ∀ v w1 H1, Le w w1 → RepH K w1 H1 h1 → Rv K w1 v d → Q v H1 := by
      intro d h1 o v w1 H1 l r1 rv
      unfold finD at o
      split at o
      · exact o v w1 H1 l r1 rv
      · split at o
        · rename_i c
          rw [← r.len] at o c
          obtain ⟨r2, l2⟩ := RepH.cut r l r1 c.2
          exact o v (w1.cut w.N) H1 l2 r2 (RepV.lower d v rv c.1)
        · exact o.elim
    cases em : m (ds.map some ++ List.replicate (N.length - n) none) h with
    | next G1 h1 =>
      rw [em] at o
      exact fun σ' w1 H1 l g r1 => fin .non h1 o .non w1 H1 l r1 .non
    | ret d h1 =>
      rw [em] at o
      exact fun v w1 H1 l r1 rv => fin d h1 o v w1 H1 l r1 rv
    | brk G1 h1 => rw [em] at o; exact o.elim
    | cont G1 h1 => rw [em] at o; exact o.elim
    | stuck => rw [em] at o; exact o.elim
    | exc c fs G1 h1 =>
      rw [em] at o
      refine out_finX r ?_
      have o : OutE K mg (fun c dd _ H => E c dd H) w [] Q (finX h.length h c fs h1) := o
      unfold finX at o
      rw [← r.len] at o
      split at o
      · rename_i q
        exact ⟨fun _ => o, fun z => absurd q z⟩
      · rename_i q
        split at o
        · rename_i cc
          exact ⟨fun z => absurd z q, fun _ => ⟨cc.1, cc.2, o⟩⟩
        · exact o.elim
  · exact o.elim
theorem fn_ok {x qual : Str} {st : Stmt} {f : Addr} {fd : FuncData} {N ps : List Str} {k : Nat} (F : Fun K x qual st f fd) (S : FnScope N ps (defScope st)) (m : Ms)
    (hb : ∀ (cdv : Value) (A : Around) (outer : List PySem.Env) (s : Shared) (H : Hp) (E : XK), Room k (A.deeper (envOfC qual (defScope st) s.heap.objs.size f cdv)) →
      PSs (cxOf (L2.CX P w) P w K mg base N qual (defScope st) f cdv A outer s H E) (defBody st) (tS K mg (fun c dd _ H => E c dd H) m)) :
    FnOk P w K mg base (L2.CX P w) (k + 1) f fd ps (spM K mg (mDef ps.length N.length m)) :=
  F.okX S (fun vs H Q E h => sp_len h) fun cdv A outer s H vs Q E hr h => ⟨_, hb cdv A outer s H E hr, sp_start h⟩
open Classical in
theorem fn_okL {x qual : Str} {st : Stmt} {f : Addr} {fd : FuncData} {N ps : List Str} {k : Nat} (F : Fun K x qual st f fd) (S : FnScope N ps (defScope st)) (m : Ms)
    (hb : ∀ (cdv : Value) (A : Around) (outer : List PySem.Env) (s : Shared) (H : Hp) (E : XK), Room k (A.deeper (envOfC qual (defScope st) s.heap.objs.size f cdv)) →
      PSs (cxOf (L2.CX P w) P w K mg base N qual (defScope st) f cdv A outer s H E) (defBody st) (tS K mg (fun c dd _ H => E c dd H) m)) :
    FnOk P w K mg base (L2.CX P w) (k + 1) f fd ps (spL K mg (mDefL ps.length N.length m)) := by
  refine F.okX S (fun vs H Q E h => ?_) fun cdv A outer s H vs Q E hr h => ⟨_, hb cdv A outer s H E hr, ?_⟩
  · obtain ⟨w, ds, h, ra, r, o⟩ := h
    unfold mDefL at o
    split at o
    · rename_i e
      rw [ra.length]
      exact e
    · exact o.elim
  · obtain ⟨w, ds, h, ra, r, o⟩ := h
    unfold mDefL at o
    split at o
    · rename_i e
      refine ⟨w, _, h, start_rep ra, r, ?_⟩
      rw [e]
      cases em : m (ds.map some ++ List.replicate (N.length - ps.length) none) h with
      | next G1 h1 => rw [em] at o; exact o.elim
      | ret d h1 =>
        rw [em] at o
        intro v w1 H1 l r1 rv
        have o : OutF K mg (fun c dd _ H => E c dd H) w [] Q (finL h.length h d h1) := o
        cases rv with
        | @loc k _ =>
          have o : OutF K mg (fun c dd _ H => E c dd H) w [] Q (match h1[k]? with
            | some (.lst ds) => if h.length ≤ k ∧ underL h.length ds = true ∧ OkCells h.length h h1 then .ok ds (h1.take h.length) else .stuck
            | _ => .stuck) := o
          split at o
          · rename_i es eh
            split at o
            · rename_i c
              rw [← r.len] at o c
              obtain ⟨r2, l2⟩ := RepH.cut r l r1 c.2.2
              obtain ⟨a, xs, e1, ra1⟩ := r1.cell k _ eh
              have hk : k < w1.N := by
                rw [r1.len]
                exact (List.getElem?_eq_some_iff.mp eh).1
              refine o (w1.mu k) xs (w1.cut w.N) H1 l2 r2 ⟨a, fun n hn z => ?_, ?_⟩ e1 (RepAll.lower es xs ra1 c.2.1)
              · have hn : n < w.N := hn
                have := r1.inj n k (Nat.lt_of_lt_of_le hn l.n) hk z
                omega
              · cases q : w1.F (w1.mu k) with
                | none => exact q
                | some u => exact absurd rfl ((r1.dis _ u q).2 k hk)
            · exact o.elim
          · exact o.elim
        | _ => exact o.elim
      | brk G1 h1 => rw [em] at o; exact o.elim
      | cont G1 h1 => rw [em] at o; exact o.elim
      | stuck => rw [em] at o; exact o.elim
      | exc c fs G1 h1 =>
        rw [em] at o
        refine out_finX r ?_
        have o : OutF K mg (fun c dd _ H => E c dd H) w [] Q (finX h.length h c fs h1) := o
        unfold finX at o
        rw [← r.len] at o
        split at o
        · rename_i q
          exact ⟨fun _ => o, fun z => absurd q z⟩
        · rename_i q
          split at o
          · rename_i cc
            exact ⟨fun z => absurd z q, fun _ => ⟨cc.1, cc.2, o⟩⟩
          · exact o.elim
    · exact o.elim
end

/-! ### calls -/
section
variable {X : Cx} {W : WX} {pos p : Pos} {e : Expr} {es : List Expr} {as : MeL} {x : Str} {k k' : Nat} {f : Addr} {fd : FuncData} {ps : List Str} {m : Fn} {ml : FnL} {ma mb : Me}
theorem e_call (F : FnOk X.prog X.w X.K X.mg X.base (L2.CX X.prog X.w) k f fd ps (spM X.K X.mg m)) (hr : Room k' X.A) (hk' : k ≤ k') (tk : Takes X W) (hm : X.mg x = some (.ref f)) (hk : PySem.W.keepIn X.K (.ref f) = true) (hb : Binds X.K fd ps [])
    (ha : PA X (e :: es) (TAr X W as)) (hg : Gl X x := by rfl) (hdb : (x == ("__debug__" : Str)) = false := by decide) (he : starEach (e :: es) X.env = (false, eval e X.env) :: starEach es X.env := by rfl) (hpl : (backTo pos (starEach es X.env)).any (·.1) = false := by rfl) :
    PE X (.Call (.Name x p) (e :: es) [] pos) (TM X W (mN m as)) := by
  refine (pe_callS F (hr.mono hk') hg hm hk hb (fun σ => passAt tk σ) ha hdb he hpl).wk fun σ H Q ⟨w, G, h, g, r, o⟩ => ⟨w, G, h, g, r, o.bindA fun ds h1 vs w1 H1 l r1 x o1 => ⟨w1, ds, h1, x, r1, ?_⟩⟩
  cases em : m ds h1 with
  | ok d h2 => rw [em] at o1; exact o1
  | exc c fs h2 => rw [em] at o1; exact o1
  | stuck => rw [em] at o1; exact o1
theorem f_call (F : FnOk X.prog X.w X.K X.mg X.base (L2.CX X.prog X.w) k f fd ps (spL X.K X.mg ml)) (hr : Room k' X.A) (hk' : k ≤ k') (tk : Takes X W) (hm : X.mg x = some (.ref f)) (hk : PySem.W.keepIn X.K (.ref f) = true) (hb : Binds X.K fd ps [])
    (ha : PA X (e :: es) (TAr X W as)) (hg : Gl X x := by rfl) (hdb : (x == ("__debug__" : Str)) = false := by decide) (he : starEach (e :: es) X.env = (false, eval e X.env) :: starEach es X.env := by rfl) (hpl : (backTo pos (starEach es X.env)).any (·.1) = false := by rfl) :
    PE X (.Call (.Name x p) (e :: es) [] pos) (TF X W (lN ml as)) := by
  refine (pe_callS F (hr.mono hk') hg hm hk hb (fun σ => passAt tk σ) ha hdb he hpl).wk fun σ H Q ⟨w, G, h, g, r, o⟩ => ⟨w, G, h, g, r, OutF.bindA (m := as) o fun ds h1 vs w1 H1 l r1 x o1 => ⟨w1, ds, h1, x, r1, ?_⟩⟩
  cases em : ml ds h1 with
  | ok d h2 => rw [em] at o1; exact o1
  | exc c fs h2 => rw [em] at o1; exact o1
  | stuck => rw [em] at o1; exact o1

/-! ### the machine's lists, changed -/
/-- o.m(e, ..) of a list -/
def mBM (f : D → List D → AH → Res D) (o : Me) (as : MeL) : Me := fun G h => (o G h).bind fun d h1 => match vL h1 d with
  | some _ => (as G h1).bind fun xs h2 => f d xs h2
  | none => .stuck
def FolM (X : Cx) (W : WX) (f : D → List D → AH → Res D) (r : V → List V → Hp → VK → Prop) : Prop := ∀ (w : Wd) (h : AH) (H : Hp) (σ : L2.St) (Q : VK) (v : V) (d : D) (vs : List V) (ds : List D),
  RepH X.K w H h → Rv X.K w v d → Ra X.K w vs ds → OutE X.K X.mg W w σ Q (f d ds h) → r v vs H Q
variable {o : Expr} {name : Str} {apos cpos : Pos} {bid : String} {r : V → List V → Hp → VK → Prop} {fm : D → List D → AH → Res D}
theorem tyV_L {w : Wd} {H : Hp} {h : AH} {v : V} {d : D} {ds : List D} (rh : RepH X.K w H h) (rv : Rv X.K w v d) (e : vL h d = some ds) : tyV X.K "list" v H := by
  obtain ⟨a, xs, rfl, sq, _⟩ := vL_rep rh rv e
  exact .inl ⟨rfl, xs, sq⟩
theorem e_bm (slot : Slot "list" name bid) (hty : typeOf (.builtin bid) = pure (.type "method_descriptor")) (hm : MtR X bid r) (hf : FolM X W fm r) (ho : PE X o (TM X W ma)) (ha : PA X (e :: es) (TAr X W as))
    (hbase : attributeBase o name X.env (eval o X.env) = eval o X.env := by rfl)
    (hfew : ((backTo cpos (starEach (e :: es) X.env)).all (fun x => !x.1) && (backToKw cpos (keywordEach [] X.env)).all (fun x => x.1.isSome)
      && decide ((e :: es).length + ([] : List Keyword).length + (if ([] : List Keyword).isEmpty then 0 else 1) < 30)) = true := by rfl)
    (hline : (apos.endLine == cpos.line) = true := by rfl) (hs : starEach (e :: es) X.env = (false, eval e X.env) :: starEach es X.env := by rfl) (hplain : (backTo cpos (starEach es X.env)).any (·.1) = false := by rfl) :
    PE X (.Call (.Attribute o name apos) (e :: es) [] cpos) (TM X W (mBM fm ma as)) := by
  refine (pe_bm PySem.F.plainAttrs_list slot hty hm ho ha hbase hfew hline hs hplain).wk fun σ H Q ⟨w, G, h, g, r, o⟩ => ⟨w, G, h, g, r, o.bindE fun d h1 v w1 H1 l r1 x o1 => ?_⟩
  split at o1
  · rename_i ds0 e0
    exact ⟨tyV_L r1 x e0, w1, G, h1, g.mono l, r1, OutE.bindA (m := as) o1 fun ds h2 vs w2 H2 l2 r2 xs o2 => hf w2 h2 H2 σ Q v d vs ds r2 (Rv_mono l2 x) xs o2⟩
  · exact o1.elim
def fApp (d : D) (xs : List D) (h : AH) : Res D := match d, xs with
  | .loc n, [y] => match h[n]? with
    | some (.lst ds) => if ds.length < big then .ok .non (h.set n (.lst (ds ++ [y]))) else .stuck
    | _ => .stuck
  | _, _ => .stuck
def fExt (d : D) (xs : List D) (h : AH) : Res D := match d, xs with
  | .loc n, [y] => match h[n]? with
    | some (.lst ds) => match vR h y with
      | some es => if ds.length + es.length ≤ big then .ok .non (h.set n (.lst (ds ++ es))) else .stuck
      | none => .stuck
    | _ => .stuck
  | _, _ => .stuck
/-- the object at n has a new content -/
theorem out_set {w : Wd} {σ : L2.St} {H : Hp} {Q : VK} {d : D} {h : AH} {v : V} {n : Nat} {xs : List V} {ds : List D} (hn : n < w.N) (o : OutE X.K X.mg W w σ Q (.ok d (h.set n (.lst ds)))) (r : RepH X.K w H h) (rv : Rv X.K w v d) (ra : Ra X.K w xs ds) : Q v (upd H (w.mu n) (.lst xs)) :=
  o v w _ (Le.refl _) (r.set hn ⟨xs, upd_same, ra⟩) rv
theorem fol_app : FolM X W fApp rAppend := by
  intro w h H σ Q v d vs ds rh rv ra o
  unfold fApp at o
  split at o
  · rename_i n y
    split at o
    · rename_i es e
      split at o
      · rename_i c
        cases rv with
        | loc hn =>
          obtain ⟨u, rfl, ru⟩ := ra_one ra
          obtain ⟨_, xs, e1, rx⟩ := rh.cell n _ e
          exact ⟨w.mu n, xs, u, rfl, rfl, e1, big_lt (by rw [rx.length]; exact c), out_set hn o rh .non (rx.append (.cons ru .nil))⟩
      · exact o.elim
    · exact o.elim
  · exact o.elim
def rExt3 : V → List V → Hp → VK → Prop := fun x vs H Q => ∃ l b xs zs, x = .ref l ∧ vs = [.ref b] ∧ H l = some (.lst xs) ∧ Rd H b (.lst zs) ∧ xs.length + zs.length ≤ sizeLine ∧ Q .non (upd H l (.lst (xs ++ zs)))
theorem e_app (ho : PE X o (TM X W ma)) (ha : PA X [e] (TAr X W as))
    (hbase : attributeBase o "append" X.env (eval o X.env) = eval o X.env := by rfl)
    (hfew : ((backTo cpos (starEach [e] X.env)).all (fun x => !x.1) && (backToKw cpos (keywordEach [] X.env)).all (fun x => x.1.isSome)
      && decide (([e] : List Expr).length + ([] : List Keyword).length + (if ([] : List Keyword).isEmpty then 0 else 1) < 30)) = true := by rfl)
    (hline : (apos.endLine == cpos.line) = true := by rfl) (hs : starEach [e] X.env = (false, eval e X.env) :: starEach [] X.env := by rfl) (hplain : (backTo cpos (starEach [] X.env)).any (·.1) = false := by rfl) :
    PE X (.Call (.Attribute o "append" apos) [e] [] cpos) (TM X W (mBM fApp ma as)) :=
  e_bm PySem.F.slot_list_append PySem.F.type_list_append mt_append fol_app ho ha hbase hfew hline hs hplain
/-! o[i] = v of a list -/
def sSub (o i v : Me) : Ms := fun G h => (v G h).toS G fun x h1 => (o G h1).toS G fun d h2 => (i G h2).toS G fun j h3 => match d, j with
  | .loc n, .int k => match h3[n]? with
    | some (.lst ds) => match ixN ds.length k with
      | some m => .next G (h3.set n (.lst (ds.set m x)))
      | none => .stuck
    | _ => .stuck
  | _, _ => .stuck
theorem s_sub {i : Expr} {mv mo mi : Me} {tpos : Pos} {ev : Expr} (hv : PE X ev (TM X W mv)) (ho : PE X o (TM X W mo)) (hi : PE X i (TM X W mi))
    (hs : swapsWithSole [.Subscript o i tpos] ev pos.line X.env = pure false := by rfl) (hw : swappedStores [.Subscript o i tpos] ev X.env = pure none := by rfl)
    (h1 : (assignEach [.Subscript o i tpos] X.env).map (·.2) = [assign (.Subscript o i tpos) X.env] := by rfl)
    (ha : ∀ v, assign (.Subscript o i tpos) X.env v = (do
      let ov ← holding [v] (eval o X.env)
      let iv ← holding [v, ov] (eval i X.env)
      standAt tpos
      holding [v, ov, iv] (setItem ov iv v)
      release [v, ov, iv] []) := by intro _; rfl) : PS X (.Assign [.Subscript o i tpos] ev pos) (TSS X W (sSub mo mi mv)) := by
  refine (ps_asg hv (pg_sub ho hi set_list ha) hs hw h1).wk fun D σ H ⟨w, G, h, g, r, o⟩ => ⟨w, G, h, g, r, OutS.bindE (m := mv) g o fun x h1 v w1 H1 l1 r1 rx o1 => ?_⟩
  have g1 := g.mono l1
  refine ⟨w1, G, h1, g1, r1, OutS.bindE (m := mo) g1 o1 fun d h2 v2 w2 H2 l2 r2 rd o2 => ?_⟩
  have g2 := g1.mono l2
  refine ⟨w2, G, h2, g2, r2, OutS.bindE (m := mi) g2 o2 fun j h3 v3 w3 H3 l3 r3 rj o3 => ?_⟩
  split at o3
  · rename_i n k
    split at o3
    · rename_i ds e
      split at o3
      · rename_i m em
        cases rj
        cases rd with
        | loc hn =>
          obtain ⟨_, xs, e1, rxs⟩ := r3.cell n _ e
          have hn3 : n < w3.N := Nat.lt_of_lt_of_le hn l3.n
          have emu : w3.mu n = w2.mu n := l3.mu n hn
          rw [← emu]
          refine ⟨w3.mu n, xs, k, m, rfl, rfl, e1, by rw [rxs.length]; exact em, ?_⟩
          exact o3 σ w3 _ (Le.refl _) (g2.mono l3) (r3.set hn3 ⟨xs.set m v, upd_same, RepAll.set (Rv_mono (l2.trans l3) rx) m rxs⟩)
      · exact o3.elim
    · exact o3.elim
  · exact o3.elim
/-! raise C() of an own class -/
def sRaise (c : Str) : Ms := fun G h => .exc c [] G h
end
end AB
/-! AB: order over data, sorted. -/
namespace AB
open PySem PySem.Spec PyProof.Rows L2

/-! ### sorted of tuples, empty ones among them -/
section
variable {prog : Program} {w : World} {A : Around} {E : Value → Shared → Prop} {s : Shared}
/-- the first item of a tuple, or none -/
theorem first_of {v : Value} {xs : List PyData} {as : List Addr} (r : Reads s.heap v (.tuple xs) as) : ∃ f : Option Value, (f = none ↔ xs = []) ∧ ∀ (M : Model) (E : Value → Shared → Prop) (Q : Option Value → Shared → Prop), Q f s → wpAny M A (firstOfTuple' v) Q E s := by
  cases r with
  | @tuple a o its n _ _ ho hc hd hr =>
    refine ⟨its[0]?, ?_, fun M E Q hq => ?_⟩
    · have hl := SeqAt.ReadsAll.length _ _ _ hr
      rw [Array.getElem?_eq_none_iff]
      constructor
      · intro h
        have : its.size = 0 := by omega
        have e : xs.length = 0 := by rw [← hl]; simpa using this
        exact List.eq_nil_of_length_eq_zero e
      · intro h
        subst h
        have : its.toList.length = 0 := by simpa using hl
        simp at this
        simp [this]
    · rw [PySem.W.kas_first_eq]
      refine wpAny_bind (PySem.W.Looks.here (show PySem.W.Looks M s.heap (typeOf (.ref a)) o.cls from (PySem.W.Looks.ld ho).andThen .now) ?_)
      rw [hc, if_neg (by first | decide | simp)]
      exact wpAny_bind (listItems_at ho hd (wpAny_pure hq))
theorem firsts_of : ∀ {vs : List Value} {ds : List PyData}, PySem.W.EachIs (fun v d => ∃ as, Reads s.heap v d as) vs ds → (∀ d ∈ ds, ∃ xs, d = .tuple xs) →
    ∃ fs : List (Option Value), ((∃ f ∈ fs, f = none) ↔ ∃ d ∈ ds, d = .tuple []) ∧ ∀ (M : Model) (E : Value → Shared → Prop) (Q : List (Option Value) → Shared → Prop), Q fs s → wpAny M A (vs.mapM firstOfTuple') Q E s
  | _, _, .nil, _ => ⟨[], by simp, fun M E Q hq => by rw [List.mapM_nil]; exact wpAny_pure hq⟩
  | _, _, .cons (a := v) (as := vs) (b := d) (bs := ds) ⟨as, r⟩ t, ht => by
    obtain ⟨fs, h1, h2⟩ := firsts_of t fun d hd => ht d (List.mem_cons_of_mem _ hd)
    obtain ⟨xs, rfl⟩ := ht d List.mem_cons_self
    obtain ⟨f, g1, g2⟩ := first_of (A := A) r
    refine ⟨f :: fs, ?_, fun M E Q hq => ?_⟩
    · constructor
      · rintro ⟨x, hx, e⟩
        rcases List.mem_cons.mp hx with rfl | hx
        · exact ⟨_, List.mem_cons_self, by rw [g1.mp e]⟩
        · obtain ⟨d, hd, e⟩ := h1.mp ⟨x, hx, e⟩
          exact ⟨d, List.mem_cons_of_mem _ hd, e⟩
      · rintro ⟨d, hd, e⟩
        rcases List.mem_cons.mp hd with rfl | hd
        · injection e with e
          exact ⟨f, List.mem_cons_self, g1.mpr e⟩
        · obtain ⟨x, hx, e⟩ := h1.mpr ⟨d, hd, e⟩
          exact ⟨x, List.mem_cons_of_mem _ hx, e⟩
    · rw [List.mapM_cons]
      exact wpAny_bind (g2 M E _ (wpAny_bind (h2 M E (fun bs s' => wpAny M A (pure (f :: bs)) Q E s') (wpAny_pure hq))))
theorem kind_empt {vs : List Value} {ds : List PyData} (e : PySem.W.EachIs (fun v d => ∃ as, Reads s.heap v d as) vs ds) (ht : ∀ d ∈ ds, ∃ xs, d = .tuple xs) (hn : ∃ d ∈ ds, d = .tuple []) :
    ∃ kd : SortKind, (kd = general' ∨ kd = oneType') ∧ ∀ (M : Model) (E : Value → Shared → Prop) {Q : SortKind → Shared → Prop}, Q kd s → wpAny M A (keyKind' vs.toArray) Q E s := by
  obtain ⟨fs, h1, h2⟩ := firsts_of (A := A) e ht
  have hall : (fs.toArray.all fun x => x.isSome) = false := by
    obtain ⟨f, hf, rfl⟩ := h1.mpr hn
    rw [List.all_toArray, List.all_eq_false]
    exact ⟨none, hf, by simp⟩
  by_cases h0 : ((fs.toArray[0]?.bind id).isSome) = true
  · refine ⟨general', .inl rfl, fun M E Q hq => ?_⟩
    rw [PyProof.Rows.kat_kind_eq, List.mapM_toArray, map_eq_pure_bind]
    refine wpAny_bind (wpAny_bind (h2 M E _ (wpAny_pure ?_)))
    rw [if_neg (by rw [hall]; decide), if_pos h0]
    exact wpAny_pure hq
  · have hv : vs ≠ [] := by
      intro z
      subst z
      cases e
      obtain ⟨d, hd, _⟩ := hn
      cases hd
    refine ⟨oneType', .inr rfl, fun M E Q hq => ?_⟩
    rw [PyProof.Rows.kat_kind_eq, List.mapM_toArray, map_eq_pure_bind]
    refine wpAny_bind (wpAny_bind (h2 M E _ (wpAny_pure ?_)))
    rw [if_neg (by rw [hall]; decide), if_neg h0]
    rw [oneTypeOnly'_eq, List.mapM_toArray, map_eq_pure_bind]
    refine wpAny_bind (wpAny_bind (wpAny_bind (PySem.W.kas_mapM (r := Value.type "tuple") _ (fun v hv Q' hq => ?_) (wpAny_pure ?_))))
    · obtain ⟨d, hd, as, r⟩ := e.left v hv
      obtain ⟨xs, rfl⟩ := ht d hd
      exact (PySem.W.looks_reads (M := M) r).here hq
    · cases vs with
      | nil => exact absurd rfl hv
      | cons v vs =>
        have hall2 : ((List.map (fun _ => Value.type "tuple") (v :: vs)).toArray.all fun x => x == Value.type "tuple") = true := by
          simp only [List.all_toArray, List.all_map, List.all_eq_true]
          intro _ _
          exact beq_self_eq_true _
        have h00 : (List.map (fun _ => Value.type "tuple") (v :: vs)).toArray[0]? = some (Value.type "tuple") := by simp
        rw [h00]
        simp only [hall2, if_true]
        exact wpAny_pure (wpAny_pure hq)
theorem call_tuple_lt {Q : Value → Shared → Prop} {l b : Addr} {items items2 : Array Value} {e r : Nat → Bool} (hl : s.heap.IsTuple l items) (hb : s.heap.IsTuple b items2)
    (he : ∀ j (h1 : j < items.size) (h2 : j < items2.size), SeqAt.EqAt A.in1 s items[j] items2[j] (e j)) (hr : ∀ j (h1 : j < items.size) (h2 : j < items2.size), e j = false → SeqAt.RcLt A.in1 s items[j] items2[j] (r j))
    (h : Q (.bool (SeqAt.firstLt e r (decide (items.size < items2.size)) (List.range (min items.size items2.size)))) s) : wpAny (model prog w) A (call (.builtin "tuple.__lt__") [.ref l, .ref b]) Q E s := by
  obtain ⟨⟨cls, dd, data, sl⟩, ho, hc, n, hd⟩ := id hl
  obtain ⟨⟨cls2, dd2, data2, sl2⟩, ho2, hc2, n2, hd2⟩ := id hb
  simp only at hc hd hc2 hd2
  subst hc hd hc2 hd2
  exact call_meets PySem.F.slot_tuple_lt ⟨_, ho, rfl⟩ PySem.F.entry_tuple_lt (PySem.F.args_tuple_lt_2 _ _) (SeqAt.tuple_ltAt l b items items2 n n2 dd dd2 sl sl2 e r) ⟨ho, ho2, he, hr, h⟩
theorem oneLt_tup {f : Bool} {xs ys : List PyData} {a b : Value} {as bs : List Addr} {Q : Bool → Shared → Prop} (ra : Reads s.heap a (.tuple xs) as) (rb : Reads s.heap b (.tuple ys) bs) (h : PySem.W.alike (.tuple xs) (.tuple ys) = true)
    (hu : A.units + min (PyData.tuple xs).depth (PyData.tuple ys).depth < cLine) (hq : Q (PySem.W.dataLt (.tuple xs) (.tuple ys)) s) : wpAny (model prog w) A (oneLt' f a b) Q E s := by
  cases f with
  | false => exact PySem.W.oneLt_alike (fun z => nomatch z) ra rb h (fun z => nomatch z) hu hq
  | true =>
    have hal : PySem.W.alikeAll xs ys = true := by simpa [PySem.W.alike] using h
    cases ra with
    | @tuple l o vs n _ as₁ h1 h2 h3 h4 =>
      cases rb with
      | @tuple l' o' vs' n' _ bs₁ k1 k2 k3 k4 =>
        have n1 : vs.size = xs.length := by simpa using SeqAt.ReadsAll.length _ _ _ h4
        have n2 : vs'.size = ys.length := by simpa using SeqAt.ReadsAll.length _ _ _ k4
        rw [PySem.W.dataLt_tuple, ← PySem.W.firstLt_toks xs ys hal, ← n1, ← n2] at hq
        rw [oneLt'_eq]
        simp only [if_true]
        refine wpAny_bind (wpAny_cRoomFor (by have := hu; omega) ?_)
        refine wpAny_bind (wpAny_callSpecialIfBound?_slot (T := "tuple") ⟨_, h1, h2⟩ PySem.F.slot_tuple_lt (call_tuple_lt (e := SeqAt.pairEq xs ys) (r := fun j => PySem.W.dataLt (xs.getD j .none) (ys.getD j .none)) ⟨_, h1, h2, _, h3⟩ ⟨_, k1, k2, _, k3⟩ (fun j j1 j2 => ?_) (fun j j1 j2 hj => ?_) ?_))
        · have := PySem.W.eqAt_alikeAll xs ys A.in1 s vs.toList vs'.toList _ _ h4 k4 hal (SeqAt.room_in hu) j (by simpa using j1) (by simpa using j2)
          simpa using this
        · have := PySem.W.rcLt_alikeAll xs ys A.in1 s vs.toList vs'.toList _ _ h4 k4 hal (SeqAt.room_in hu) j (by simpa using j1) (by simpa using j2) hj
          simpa using this
        · exact wpAny_truthy_bool hq
theorem keyLt'_general (x y : Value) : keyLt' general' x y = oneLt' false x y := rfl
theorem sorts_empt {vs : List Value} {ds : List PyData} (e : PySem.W.EachIs (fun v d => ∃ as, Reads s.heap v d as) vs ds) (hal : PySem.W.AllAlike ds) (ht : ∀ d ∈ ds, ∃ xs, d = .tuple xs) (hn : ∃ d ∈ ds, d = .tuple []) (hu : ∀ d, d ∈ ds → A.units + d.depth < cLine) :
    PySem.W.SortsAt prog w A s (PySem.W.dataKind s.heap ds) vs := by
  have room : ∀ {d d' : PyData}, d ∈ ds → A.units + min d.depth d'.depth < cLine := fun {d d'} hd => Nat.lt_of_le_of_lt (Nat.add_le_add_left (Nat.min_le_left _ _) _) (hu d hd)
  refine ⟨fun v hv => ?_, ?_⟩
  · obtain ⟨d, hd, as, r⟩ := e.left v hv
    exact ⟨_, PySem.W.dataKind_some hal hd r⟩
  · obtain ⟨kd, hk, hkk⟩ := kind_empt (A := A) e ht hn
    refine ⟨kd, ?_, fun _ E Q hq => hkk _ E hq⟩
    intro E x y a b Q ha hb hq
    obtain ⟨d, as, hd, ra, rfl⟩ := PySem.W.dataKind_inv ha
    obtain ⟨d', as', hd', rb, rfl⟩ := PySem.W.dataKind_inv hb
    obtain ⟨xs, rfl⟩ := ht d hd
    obtain ⟨ys, rfl⟩ := ht d' hd'
    have hq : Q (PySem.W.dataLt (.tuple xs) (.tuple ys)) s := hq
    rcases hk with rfl | rfl
    · rw [keyLt'_general]
      exact oneLt_tup ra rb (hal _ hd _ hd') (room hd) hq
    · rw [keyLt'_oneType]
      exact oneLt_tup ra rb (hal _ hd _ hd') (room hd) hq
end
end AB
/-! AB: sorted, order, index, extend, walks of pairs. -/
namespace AB
open PySem PySem.Spec PyProof.Rows L2

/-! ### sorted of a list -/
def alikeB (ps : List PyData) : Bool := ps.all fun a => ps.all fun b => PySem.W.alike a b
def isTupP : PyData → Bool
  | .tuple _ => true
  | _ => false
def isNonP : PyData → Bool
  | .none => true
  | _ => false
def sortB (ps : List PyData) : Bool := alikeB ps && (ps.all isTupP || ps.all fun d => !isTupP d && !isNonP d) && ps.all SeqAt.shaped && decide (ps.length ≤ big)
def leP (a b : PyData) : Bool := !PySem.W.dataLt b a
theorem alikeB_all {ps : List PyData} (h : alikeB ps = true) : PySem.W.AllAlike ps := by
  unfold alikeB at h
  rw [List.all_eq_true] at h
  intro d hd d' hd'
  have := h d hd
  rw [List.all_eq_true] at this
  exact this d' hd'
def rSortD (K : PySem.W.Frag) : List V → Hp → VK → Prop := fun xs H Q => ∃ (a : Addr) (zs : List (V × PyData)), xs = [.ref a] ∧ SqL K H a (zs.map (·.1)) ∧ (∀ z ∈ zs, Dp K H z.1 z.2) ∧ sortB (zs.map (·.2)) = true ∧
  ∀ l, H l = none → Q (.ref l) (upd H l (.lst ((zs.mergeSort fun a b => leP a.2 b.2).map (·.1))))
theorem each_of {R : Value → β → Prop} {f : β → V} (hR : ∀ u z, RelV (f z) u → R u z) : ∀ {zs : List β} {us : List Value}, Vals (zs.map f) us → PySem.W.EachIs R us zs
  | [], _, h => by cases h; exact .nil
  | z :: zs, _, h => by
    cases h with
    | cons r t => exact .cons (hR _ _ r) (each_of hR t)
theorem vals_of {R : Value → β → Prop} {f : β → V} (hR : ∀ u z, R u z → RelV (f z) u) : ∀ {zs : List β} {us : List Value}, PySem.W.EachIs R us zs → Vals (zs.map f) us
  | _, _, .nil => .nil
  | _, _, .cons r t => .cons (hR _ _ r) (vals_of hR t)
section
variable {X : Cx}
theorem dataLe_leP (k : β → PyData) : PySem.W.dataLe false k = fun a b => leP (k a) (k b) := rfl
theorem each_and {R S : Value → β → Prop} : ∀ {us : List Value} {zs : List β}, PySem.W.EachIs R us zs → (∀ z ∈ zs, ∀ u, R u z → S u z) → PySem.W.EachIs S us zs
  | _, _, .nil, _ => .nil
  | _, _, .cons r t, h => .cons (h _ List.mem_cons_self _ r) (each_and t fun z hz u => h z (List.mem_cons_of_mem _ hz) u)
theorem cr_sortedD (hu : X.A.units + 67 < cLine) : CallR X (.builtin "sorted") (rSortD X.K) := by
  intro pins s σ H vs us Q I r h
  obtain ⟨a, zs, rfl, hs, hd, hsb, q⟩ := h
  obtain ⟨its, rv, hl, hz⟩ := I.list hs
  rw [Vals.ref1 r]
  unfold sortB at hsb
  rw [Bool.and_eq_true, Bool.and_eq_true, Bool.and_eq_true] at hsb
  obtain ⟨⟨⟨hal, hk⟩, hsh⟩, hbig⟩ := hsb
  have hal := alikeB_all hal
  rw [List.all_eq_true] at hsh
  have e1 : PySem.W.EachIs (fun u (z : V × PyData) => RelV z.1 u) its zs := each_of (f := fun z : V × PyData => z.1) (fun u z h => h) rv
  have er : PySem.W.EachIs (fun u (z : V × PyData) => ∃ as, Reads s.heap u z.2 as) its zs := each_and e1 fun z hz u r => Dp.reads I z.2 z.1 u (hd z hz) r
  have hdep : ∀ z ∈ zs, z.2.depth ≤ 64 := fun z hz => SeqAt.depth_of_shaped (hsh _ (List.mem_map_of_mem hz))
  have hL : its.length ≤ sizeLine := by
    rw [← rv.length]
    exact hz
  have fin : ∀ out : List Value, out.length = its.length → PySem.W.EachIs (fun u (z : V × PyData) => RelV z.1 u) out (zs.mergeSort (PySem.W.dataLe false fun z : V × PyData => z.2)) →
      EP X pins σ Q (.ref (s.heap.objs.size + 1)) { s with heap := sortedAll s.heap its (List.toArray out) } := by
    intro out ho eo
    obtain ⟨ep, he'⟩ := PyProof.Rows.sortedAll_at s.heap its out.toArray
    have vo := vals_of (f := fun z : V × PyData => z.1) (fun u z h => h) eo
    rw [dataLe_leP] at vo
    have hlen : ((zs.mergeSort fun a b => leP a.2 b.2).map (·.1)).length ≤ sizeLine := by
      rw [vo.length, ho]
      exact hL
    exact ⟨.ref _, upd H (s.heap.objs.size + 1) (.lst ((zs.mergeSort fun a b => leP a.2 b.2).map (·.1))), I.laid (t' := s.toks) (fun _ _ => PyProof.Rows.sortedAll_old) (Nat.le_succ _) ⟨hlen, out, ep, vo, he'⟩, rfl, q _ (I.hok.fresh (Nat.le_succ _))⟩
  have er' : PySem.W.EachIs (fun v (b : V × PyData) => ∃ as, Reads (PySem.W.sortingHeap (PySem.W.copyHeap s.heap its) (s.heap.objs.size + 1) its) v b.2 as) its zs := er.mono fun _ _ ⟨as, r⟩ => ⟨as, PyProof.Rows.Reads.keeps (fun _ _ => PySem.W.sorting_copy_old) r⟩
  have em := PySem.W.each_map (R := fun v d => ∃ as, Reads (PySem.W.sortingHeap (PySem.W.copyHeap s.heap its) (s.heap.objs.size + 1) its) v d as) (fun z : V × PyData => z.2) er'
  have room : ∀ d ∈ zs.map (·.2), X.A.in1.in1.units + d.depth < cLine := by
    intro d hd'
    obtain ⟨z, hz, rfl⟩ := List.mem_map.mp hd'
    have := hdep z hz
    show X.A.units + 1 + 1 + z.2.depth < cLine
    omega
  have S : PySem.W.SortsAt X.prog X.w X.A.in1.in1 { s with heap := PySem.W.sortingHeap (PySem.W.copyHeap s.heap its) (s.heap.objs.size + 1) its } (PySem.W.dataKind (PySem.W.sortingHeap (PySem.W.copyHeap s.heap its) (s.heap.objs.size + 1) its) (zs.map (·.2))) its := by
    rw [Bool.or_eq_true] at hk
    rcases hk with hk | hk
    · rw [List.all_eq_true] at hk
      have ht : ∀ d ∈ zs.map (·.2), ∃ xs, d = .tuple xs := fun d hd => by
        have := hk d hd
        cases d with
        | tuple xs => exact ⟨xs, rfl⟩
        | _ => cases this
      by_cases hn : ∃ d ∈ zs.map (·.2), d = .tuple []
      · exact sorts_empt (s := { s with heap := PySem.W.sortingHeap (PySem.W.copyHeap s.heap its) (s.heap.objs.size + 1) its }) em hal ht hn room
      · refine PySem.W.SortsAt.data (s := { s with heap := PySem.W.sortingHeap (PySem.W.copyHeap s.heap its) (s.heap.objs.size + 1) its }) em hal (.inl fun d hd => ?_) room
        obtain ⟨xs, rfl⟩ := ht d hd
        cases xs with
        | nil => exact absurd ⟨_, hd, rfl⟩ hn
        | cons x r => exact ⟨x, r, rfl⟩
    · rw [List.all_eq_true] at hk
      refine PySem.W.SortsAt.data (s := { s with heap := PySem.W.sortingHeap (PySem.W.copyHeap s.heap its) (s.heap.objs.size + 1) its }) em hal (.inr fun d hd => ?_) room
      have := hk d hd
      constructor
      · rintro rfl
        exact absurd this (by decide)
      · rintro xs rfl
        exact absurd this (by simp [isTupP])
  exact PySem.W.sorted_vals hl.isList S hL (fin _ (by rw [PySem.W.sortVals_length false rfl]) (PySem.W.sortVals_data false e1 er' hal))
end
/-- the items of a list, sorted -/
def sortD (ds : List D) (ps : List PyData) : List D := ((ds.zip ps).mergeSort fun a b => leP a.2 b.2).map (·.1)
def fSorted (xs : List D) (h : AH) : Res (List D) := match xs with
  | [d] => match vL h d with
    | some ds => match toPs ds with
      | some ps => if sortB ps = true then .ok (sortD ds ps) h else .stuck
      | none => .stuck
    | none => .stuck
  | _ => .stuck
theorem toPs_len : ∀ {ds : List D} {ps : List PyData}, toPs ds = some ps → ps.length = ds.length
  | [], ps, e => by cases e; rfl
  | d :: ds, ps, e => by
    unfold toPs at e
    split at e
    · rename_i p qs e1 e2
      cases e
      rw [List.length_cons, List.length_cons, toPs_len e2]
    · cases e
theorem ra_mem {K : PySem.W.Frag} {w : Wd} {T : List (V × D × PyData)} (h : ∀ t ∈ T, Rv K w t.1 t.2.1) : Ra K w (T.map (·.1)) (T.map (·.2.1)) := by
  induction T with
  | nil => exact .nil
  | cons t T ih => exact .cons (h t List.mem_cons_self) (ih fun x hx => h x (List.mem_cons_of_mem _ hx))
theorem trip {K : PySem.W.Frag} {w : Wd} {H : Hp} (ex : Ext w.S H) : ∀ {vs : List V} {ds : List D} {ps : List PyData}, Ra K w vs ds → toPs ds = some ps → ∃ T : List (V × D × PyData), vs = T.map (·.1) ∧ ds = T.map (·.2.1) ∧ ps = T.map (·.2.2) ∧ ∀ t ∈ T, Rv K w t.1 t.2.1 ∧ Dp K H t.1 t.2.2
  | _, _, ps, .nil, e => by
    cases e
    exact ⟨[], rfl, rfl, rfl, fun t h => nomatch h⟩
  | _, _, ps, .cons (v := v) (vs := vs) (d := d) (ds := ds) a b, e => by
    unfold toPs at e
    split at e
    · rename_i p qs e1 e2
      cases e
      obtain ⟨T, rfl, rfl, rfl, hT⟩ := trip ex b e2
      refine ⟨(v, d, p) :: T, rfl, rfl, rfl, fun t ht => ?_⟩
      rcases List.mem_cons.mp ht with rfl | ht
      · exact ⟨a, toP_rep ex d v p a e1⟩
      · exact hT t ht
    · cases e
section
variable {X : Cx} {W : WX} {pos p : Pos} {e : Expr} {es : List Expr} {as : MeL} {ma mb : Me}
theorem fol_sorted : FolF X W fSorted (rSortD X.K) := by
  intro w h H σ Q vs ds rh ra o
  unfold fSorted at o
  split at o
  · rename_i d
    obtain ⟨v, rfl, rv⟩ := ra_one ra
    split at o
    · rename_i es ev
      split at o
      · rename_i ps ep
        split at o
        · rename_i c
          obtain ⟨a, xs, rfl, sq, ra2⟩ := vL_rep rh rv ev
          obtain ⟨T, rfl, rfl, rfl, hT⟩ := trip rh.ex ra2 ep
          refine ⟨a, T.map fun t => (t.1, t.2.2), rfl, by rw [List.map_map]; exact sq, fun z hz => ?_, by rw [List.map_map]; exact c, fun l hl => ?_⟩
          · obtain ⟨t, ht, rfl⟩ := List.mem_map.mp hz
            exact (hT t ht).2
          · refine out_new o rh hl ?_
            have e1 : ((T.map fun t => (t.1, t.2.2)).mergeSort fun a b => leP a.2 b.2).map (·.1) = (T.mergeSort fun a b => leP a.2.2 b.2.2).map (·.1) := by
              rw [← List.map_mergeSort (r := fun a b => leP a.2.2 b.2.2) (f := fun t : V × D × PyData => (t.1, t.2.2)) (fun _ _ _ _ => rfl), List.map_map]
              rfl
            have e2 : sortD (T.map (·.2.1)) (T.map (·.2.2)) = (T.mergeSort fun a b => leP a.2.2 b.2.2).map (·.2.1) := by
              unfold sortD
              have ez : (T.map (·.2.1)).zip (T.map (·.2.2)) = T.map fun t => (t.2.1, t.2.2) := by
                rw [List.zip_map']
              rw [ez, ← List.map_mergeSort (r := fun a b => leP a.2.2 b.2.2) (f := fun t : V × D × PyData => (t.2.1, t.2.2)) (fun _ _ _ _ => rfl), List.map_map]
              rfl
            rw [e1, e2]
            refine ra_mem fun t ht => (hT t ?_).1
            exact (List.mergeSort_perm T _).mem_iff.mp ht
        · exact o.elim
      · exact o.elim
    · exact o.elim
  · exact o.elim
theorem f_sorted (hu : X.A.units + 67 < cLine) (hm : X.mg "sorted" = none) (ha : PA X [e] (TAr X W as)) (hg : Gl X "sorted" := by rfl) (he : starEach [e] X.env = (false, eval e X.env) :: starEach [] X.env := by rfl) : PE X (.Call (.Name "sorted" p) [e] [] pos) (TF X W (lN fSorted as)) :=
  f_blt (cr_sortedD hu) fol_sorted hm ha hg (by decide +kernel) (by decide) (by decide) he rfl
/-! ### < of data -/
def lrD (h : AH) (x y : D) : Option (PyData × PyData) := match okP h x, okP h y with
  | some p, some q => if PySem.W.alike p q = true ∧ isNonP p = false then some (p, q) else none
  | _, _ => none
def fLtD (x y : D) (h : AH) : Res D := match lrD h x y with
  | some (p, q) => .ok (.bl (PySem.W.dataLt p q)) h
  | none => .stuck
def fGtD (x y : D) (h : AH) : Res D := match lrD h x y with
  | some (p, q) => .ok (.bl (PySem.W.dataLt q p)) h
  | none => .stuck
def fLeD (x y : D) (h : AH) : Res D := match lrD h x y with
  | some (p, q) => .ok (.bl (!PySem.W.dataLt q p)) h
  | none => .stuck
def fGeD (x y : D) (h : AH) : Res D := match lrD h x y with
  | some (p, q) => .ok (.bl (!PySem.W.dataLt p q)) h
  | none => .stuck
def rLtD (K : PySem.W.Frag) (f : PyData → PyData → Bool) : R2 := fun x y H Q => ∃ d e, Dp K H x d ∧ Dp K H y e ∧ PySem.W.alike d e = true ∧ d ≠ .none ∧ d.depth ≤ 64 ∧ Q (.bl (f d e)) H
theorem room_min {A : Around} {d e : PyData} (h : d.depth ≤ 64) (hu : A.units + 65 < cLine) : A.units + min d.depth e.depth < cLine := by
  have := Nat.min_le_left d.depth e.depth
  omega
theorem op_ltD (hu : X.A.units + 65 < cLine) : OpR X (compareOp .Lt) (rLtD X.K fun d e => PySem.W.dataLt d e) := by
  intro pins s σ H x y v u Q I rx ry h
  obtain ⟨d, e, hd, he, ha, hn, hdep, q⟩ := h
  obtain ⟨as, r1⟩ := Dp.reads I d x v hd rx
  obtain ⟨bs, r2⟩ := Dp.reads I e y u he ry
  exact PySem.W.lt_data r1 r2 ha hn (room_min hdep hu) ⟨.bl _, H, I, rfl, q⟩
theorem op_gtD (hu : X.A.units + 65 < cLine) : OpR X (compareOp .Gt) (rLtD X.K fun d e => PySem.W.dataLt e d) := by
  intro pins s σ H x y v u Q I rx ry h
  obtain ⟨d, e, hd, he, ha, hn, hdep, q⟩ := h
  obtain ⟨as, r1⟩ := Dp.reads I d x v hd rx
  obtain ⟨bs, r2⟩ := Dp.reads I e y u he ry
  exact PySem.W.gt_data r1 r2 ha hn (room_min hdep hu) ⟨.bl _, H, I, rfl, q⟩
theorem op_leD (hu : X.A.units + 65 < cLine) : OpR X (compareOp .LtE) (rLtD X.K fun d e => !PySem.W.dataLt e d) := by
  intro pins s σ H x y v u Q I rx ry h
  obtain ⟨d, e, hd, he, ha, hn, hdep, q⟩ := h
  obtain ⟨as, r1⟩ := Dp.reads I d x v hd rx
  obtain ⟨bs, r2⟩ := Dp.reads I e y u he ry
  exact PySem.W.le_data r1 r2 ha hn (room_min hdep hu) ⟨.bl _, H, I, rfl, q⟩
theorem op_geD (hu : X.A.units + 65 < cLine) : OpR X (compareOp .GtE) (rLtD X.K fun d e => !PySem.W.dataLt d e) := by
  intro pins s σ H x y v u Q I rx ry h
  obtain ⟨d, e, hd, he, ha, hn, hdep, q⟩ := h
  obtain ⟨as, r1⟩ := Dp.reads I d x v hd rx
  obtain ⟨bs, r2⟩ := Dp.reads I e y u he ry
  exact PySem.W.ge_data r1 r2 ha hn (room_min hdep hu) ⟨.bl _, H, I, rfl, q⟩
theorem fol_ltD {f : PyData → PyData → Bool} {g : D → D → AH → Res D} (hg : ∀ x y h, g x y h = match lrD h x y with
  | some (p, q) => .ok (.bl (f p q)) h
  | none => .stuck) : Fol2 X W g (rLtD X.K f) := by
  intro w h H σ Q v1 v2 d1 d2 rh r1 r2 o
  rw [hg] at o
  split at o
  · rename_i p q e
    unfold lrD at e
    split at e
    · rename_i p' q' e1 e2
      split at e
      · rename_i c
        cases e
        obtain ⟨a1, a2⟩ := okP_some e1
        obtain ⟨b1, b2⟩ := okP_some e2
        exact ⟨_, _, toPh_rep rh r1 a1, toPh_rep rh r2 b1, c.1, fun z => by rw [z] at c; exact absurd c.2 (by decide), SeqAt.depth_of_shaped a2, out_ok o rh (.bl _)⟩
      · cases e
    · cases e
  · exact o.elim
end
end AB
/-! AB: enumerate of lists and tuples. -/
namespace AB
open PySem PySem.Spec PyProof.Rows L2
open Sem (wp)

set_option maxHeartbeats 4000000 in
theorem meets_enumerate_new1 {v : Value} {o : Obj} {H : Heap → Prop} (B : Begins v o H) :
    Meets (Builtin.«enumerate.__new__» ⟨[.type "enumerate", v], []⟩) (fun _ R s => H s.heap ∧
      R (.ok (.ret (.ref (s.heap.push o).objs.size))) { s with heap := (s.heap.push o).push { cls := .type "enumerate", data := .fields #[.none, .bool false, .ref s.heap.objs.size, rawInt 0, .none, .none] } }) :=
  .of_wp fun prog w A R s h => by
    obtain ⟨hp, g, d, tk, os⟩ := s; obtain ⟨h1, h⟩ := h
    have hsub := sub_enumerate
    have q1 : ∀ {A' : Around} {E : Value → Shared → Prop} {Q : Value → Shared → Prop}, Q (.ref hp.objs.size) ⟨hp.push o, g, d, tk, os⟩ → wpAny (model prog w) A' (pyIter v) Q E ⟨hp, g, d, tk, os⟩ :=
      fun q => B.iter prog w _ _ ⟨hp, g, d, tk, os⟩ _ h1 q
    wp_walk using q1
    refine wpAny_stack_any fun st => wpAny_pure ?_
    split
    · rename_i c _ _ _ _ _
      cases (c == Value.type "enumerate")
      · wp_walk using q1
        exact ⟨_, rfl, h⟩
      · wp_walk using q1
        exact ⟨_, rfl, h⟩
    · wp_walk using q1
      exact ⟨_, rfl, h⟩
section
variable {prog : Program} {w : World} {A : Around} {E : Value → Shared → Prop} {s : Shared}
theorem enum_begins1 {v : Value} {o : Obj} {H : Heap → Prop} {Q : Value → Shared → Prop} (B : Begins v o H) (h1 : H s.heap)
    (h : ∀ h', IsEnum h' (s.heap.objs.size + 1) s.heap.objs.size 0 .none → h'.get? s.heap.objs.size = some o → h'.objs.size = s.heap.objs.size + 2 →
      (∀ b o, s.heap.get? b = some o → h'.get? b = some o) → Q (.ref (s.heap.objs.size + 1)) { s with heap := h' }) :
    wpAny (model prog w) A (call (.type "enumerate") [v]) Q E s := by
  refine callType_new F.called_enumerate (by decide) (F.typeCall_enumerate_1 _) (F.newCall_enumerate_1 _) (fun obj => F.args_object_init_2 obj _) F.entry_enumerate_new
    (meets_enumerate_new1 B) ⟨h1, ?_⟩
  have hz : (s.heap.push o).objs.size = s.heap.objs.size + 1 := Heap.size_push ..
  show _ ∧ _
  rw [hz]
  have he : IsEnum ((s.heap.push o).push { cls := .type "enumerate", data := .fields #[.none, .bool false, .ref s.heap.objs.size, rawInt 0, .none, .none] }) (s.heap.objs.size + 1) s.heap.objs.size 0 .none := by
    have := Heap.get?_push_size (s.heap.push o) (o := { cls := .type "enumerate", data := .fields #[.none, .bool false, .ref s.heap.objs.size, rawInt 0, .none, .none] }) rfl
    rw [hz] at this; exact this
  refine ⟨⟨_, he, rfl⟩, h _ he (Heap.get?_push_of_some _ (Heap.get?_push_size _ B.free)) (by rw [Heap.size_push, hz]) fun b o x => Heap.get?_push_of_some _ (Heap.get?_push_of_some _ x)⟩
end

/-- the tuple at a as it stands at each turn, each item in a new pair -/
def IteT (K : PySem.W.Frag) (a : Addr) : It :=
  ⟨fun i H => ∃ (xs : List V) (x : V), SqT K H a xs ∧ xs[i]? = some x, fun i H v H' => ∃ T x, v = .ref T ∧ H T = none ∧ H' = upd H T (.tup [.int (i : Nat), x]) ∧ ∀ xs, SqT K H a xs → xs[i]? = some x, fun i H => ∃ xs : List V, SqT K H a xs ∧ xs.length ≤ i⟩
theorem turn_enumT {P : Program} {w : World} {K : PySem.W.Frag} {elts : List Expr} {kk : Nat} {tpos : Pos} (a e it : Addr) :
    Turn P w K (.Tuple elts kk tpos) (IteT K a) [e, it] e (fun i h => (∃ old, IsEnum h e it ((i : Nat) : Int) old) ∧ h.IsTupleIter it a i ∧ e ≠ it ∧ a ≠ it ∧ a ≠ e) where
  mem := by simp
  obj := fun i h st b hb => by
    obtain ⟨⟨old, he⟩, ⟨o, ho, hc, hd⟩, _⟩ := st
    have e' : b = e ∨ b = it := by simpa using hb
    rcases e' with z | z
    · rw [z]; exact ⟨_, he, fun v q => nomatch q⟩
    · rw [z]; exact ⟨o, ho, fun v q => by rw [hd] at q; cases q⟩
  keep := fun i h h' st k => let ⟨⟨old, he⟩, hi, hne⟩ := st; ⟨⟨old, k e (by simp) _ he⟩, hi.at fun o q => k it (by simp) o q, hne⟩
  item := by
    intro X hP hw hK hc i pins s σ H E I hf st hg
    subst hP hw hK
    obtain ⟨⟨old, he⟩, hit, hne, hai, hae⟩ := st
    obtain ⟨xs, x, hq, hx⟩ := hg
    obtain ⟨its, rv, p, hz⟩ := I.tuple hq
    obtain ⟨u, hu, ru⟩ := rv.get hx
    have hel : e < s.heap.objs.size := Heap.lt_size he
    have hil : it < s.heap.objs.size := by obtain ⟨_, q, _⟩ := hit; exact Heap.lt_size q
    have hlt : i < its.toArray.size := by
      rw [List.size_toArray]
      exact (List.getElem?_eq_some_iff.mp hu).1
    refine wpAny_pyNext_enum_itemD (Draws.tuple (A := X.A.in1) (I.ok.hd hc) it a hai its.toArray) he ⟨hit, p⟩ hlt hne (by simp [hne, Ne.symm hae]) fun y h' tk hy ho hst hT hsz hk => ?_
    have ey : y = u := by
      have hy : its.toArray[i]? = some y := hy
      have hu' : its.toArray[i]? = some u := by simpa using hu
      rw [hu'] at hy
      exact (Option.some.inj hy).symm
    subst ey
    refine ⟨_, rfl, wpAny_letOwnedTupleGo_enum (s := { s with heap := h', toks := tk + 1 }) ho fun h'' he' sb => ?_⟩
    have hT2 : h''.get? s.heap.objs.size = some { cls := .type "tuple", data := .seq #[.int i tk, y] } := (sb.2 _ (Nat.ne_of_gt hel)).trans hT
    have new : ObjOk X.prog X.w (upd H s.heap.objs.size (.tup [.int (i : Nat), x])) h'' s.heap.objs.size (.tup [.int (i : Nat), x]) :=
      ⟨by show 2 ≤ sizeLine; decide, [.int i tk, y], .cons ⟨_, rfl⟩ (.cons ru .nil), ⟨_, hT2, rfl, _, rfl⟩⟩
    have I1 : Inv X pins σ (upd H s.heap.objs.size (.tup [.int (i : Nat), x])) { s with heap := h'', toks := tk + 1 } :=
      I.turnedNew (ch := [e, it]) (fun b ob hb q => (sb.2 b (fun z => hb (by simp [z]))).trans (hk b ob (fun z => hb (by simp [z])) (fun z => hb (by simp [z])) q)) hf (Nat.le_refl _) new
    refine ⟨.ref s.heap.objs.size, _, I1, rfl, ⟨_, x, rfl, I.hok.fresh (Nat.le_refl _), rfl, fun ys hy => by rw [I.tuple_inj hy hq]; exact hx⟩, ⟨⟨y, ?_⟩, hst.1.at fun o q => (sb.2 it (Ne.symm hne)).trans q, hne, hai, hae⟩, fun b hb => ?_⟩
    · have e1 : ((i + 1 : Nat) : Int) = (i : Int) + 1 := by omega
      rw [e1]; exact he'
    · have hb' : b < s.heap.objs.size := by
        have e' : b = e ∨ b = it := by simpa using hb
        rcases e' with z | z
        · rw [z]; exact hel
        · rw [z]; exact hil
      rw [upd_ne (Nat.ne_of_lt hb')]
      exact (hf b hb).1
  done := by
    intro X hP hw hK hc i pins s σ H E I hf st hg
    subst hP hw hK
    obtain ⟨⟨old, he⟩, hit, hne, hai, hae⟩ := st
    obtain ⟨xs, hq, hx⟩ := hg
    obtain ⟨its, rv, p, hz⟩ := I.tuple hq
    obtain ⟨f0, f1, f2, f3, f4, f5⟩ := hf it (by simp)
    have hl := rv.length
    have hsize : its.toArray.size ≤ i := by rw [List.size_toArray]; omega
    obtain ⟨T, hT⟩ : ∃ T : Array Value, T.size = i ∧ True := ⟨Array.replicate i .none, by simp, trivial⟩
    unfold pyNext
    have hTy : s.TypeIs (.ref e) "enumerate" := ⟨_, he, rfl⟩
    refine wpAny_bind (wpAny_attempt (wpAny_callSpecial?_slot (name := Str.ofString "__next__") hTy F.slot_enumerate_next
      (wpAny_call_entry F.slot_enumerate_next hTy F.entry_enumerate_next ?_ (F.args_enumerate_next_1 _))))
    show wpAny _ _ (field (.ref e) 2 >>= _) _ _ _
    refine wpAny_bind (wpAny_field he rfl (x := .ref it) rfl ?_)
    refine wpAny_bind (wpAny_nextOf_tuple_end (A := X.A.in1) (I.ok.hd hc) hit p (by simpa using hsize) fun h' x he' hx' => ?_)
    obtain ⟨o, ho, hc'⟩ := hx'
    refine wpAny_bind (wpAny_isInstance (T := "StopIteration") (b := true) ⟨o, ho, hc'⟩ isSubtype_stop ?_)
    exact wpAny_pure ⟨rfl, I.turned (t' := s.toks) (fun b o hb q => he' b o hb q) f0 f1 f3 f4 f5⟩
  self := fun A i s Q E st h => let ⟨⟨_, he⟩, _⟩ := st; wpAny_pyIter_enum he h
def iEnumA (K : PySem.W.Frag) (ta : TA) : TI := fun σ H R => ta σ H fun vs H1 => ∃ a xs, vs = [.ref a] ∧ ((SqL K H1 a xs ∧ R (Ite K a) H1) ∨ (SqT K H1 a xs ∧ R (IteT K a) H1))
theorem pi_enumA {X : Cx} {e : Expr} {ta : TA} {p pos tpos : Pos} {elts : List Expr} {kk : Nat} (hg : Gl X "enumerate") (hm : X.mg "enumerate" = none) (ha : PA X [e] ta) (hs : starEach [e] X.env = [(false, eval e X.env)] := by rfl) :
    PI X (.Tuple elts kk tpos) (.Call (.Name "enumerate" p) [e] [] pos) (iEnumA X.K ta) := by
  refine ⟨fun pins s σ H R I h => ?_⟩
  refine Call_ (ld_blt I hg hm boot_enumerate (PyProof.Rows.callWith_type1 (thn (ha.run pos pins s σ H _ I h) fun us s1 ⟨vs, H1, I1, r1, q1⟩ => ?_) hs rfl))
  obtain ⟨a, xs, ex, q1⟩ := q1
  subst ex
  cases r1 with
  | cons r rr =>
    cases rr
    cases r
    have fresh2 : ∀ b, b ∈ [s1.heap.objs.size + 1, s1.heap.objs.size] → FpOk X pins H1 b := fun b hb => by
      have e' : b = s1.heap.objs.size + 1 ∨ b = s1.heap.objs.size := by simpa using hb
      have hle : s1.heap.objs.size ≤ b := by
        rcases e' with z | z
        · rw [z]; exact Nat.le_add_right _ _
        · rw [z]; exact Nat.le_refl _
      exact I1.fpOk hle (I1.hok.fresh hle)
    rcases q1 with ⟨hq, q⟩ | ⟨hq, q⟩
    · obtain ⟨its, rv, p', hz⟩ := I1.list hq
      refine call_enumerate_list p'.isList fun h' he hit hsz hk => wpAny_pyIter_enum he ?_
      have I2 : Inv X pins σ H1 { s1 with heap := h' } := I1.kept (t' := s1.toks) hk
      exact ⟨s1.heap.objs.size + 1, [s1.heap.objs.size + 1, s1.heap.objs.size], _, _, H1, rfl, I2, turn_enum a (s1.heap.objs.size + 1) s1.heap.objs.size, ⟨⟨.none, he⟩, hit, Nat.succ_ne_self _⟩, fresh2, q⟩
    · obtain ⟨its, rv, p', hz⟩ := I1.tuple hq
      have hal : a < s1.heap.objs.size := by
        obtain ⟨o, ho, _⟩ := p'
        exact Heap.lt_size ho
      refine enum_begins1 (begins_tuple a its.toArray) p' fun h' he hit hsz hk => wpAny_pyIter_enum he ?_
      have I2 : Inv X pins σ H1 { s1 with heap := h' } := I1.kept (t' := s1.toks) hk
      exact ⟨s1.heap.objs.size + 1, [s1.heap.objs.size + 1, s1.heap.objs.size], _, _, H1, rfl, I2, turn_enumT a (s1.heap.objs.size + 1) s1.heap.objs.size, ⟨⟨.none, he⟩, ⟨_, hit, rfl, rfl⟩, Nat.succ_ne_self _, Nat.ne_of_lt hal, Nat.ne_of_lt (Nat.lt_succ_of_lt hal)⟩, fresh2, q⟩
end AB
/-! AB: walks of pairs, ranges down, extend. -/
namespace AB
open PySem PySem.Spec PyProof.Rows L2

section
variable {X : Cx} {W : WX} {tg e e2 a b c : Expr} {as : MeL} {p pos tpos : Pos} {elts : List Expr} {kk : Nat} {K : PySem.W.Frag}
def pairsD (as bs : List D) : List D := (as.zip bs).map fun p => D.tup [p.1, p.2]
def enumD (ds : List D) : List D := pairsD (rangeD 0 ds.length) ds
/-- lists that are not changed -/
def vI : D → Option (List D)
  | .lst ds => some ds
  | .rol ds => some ds
  | _ => none
theorem vI_rep {w : Wd} {v : V} {d : D} {ds : List D} (rv : Rv K w v d) (e : vI d = some ds) : ∃ a xs, v = .ref a ∧ SqL K w.S a xs ∧ Ra K w xs ds := by
  cases rv with
  | lst a b => cases e; exact ⟨_, _, rfl, .inl a, b⟩
  | rol a b => cases e; exact ⟨_, _, rfl, a, b⟩
  | _ => cases e
def iZip (as : MeL) : Im := fun G h => (as G h).bind fun xs h1 => match xs with
  | [.tup ds, .tup es] => .ok (pairsD ds es, none) h1
  | [d, e] => match vI d, vI e with
    | some ds, some es => .ok (pairsD ds es, none) h1
    | _, _ => .stuck
  | _ => .stuck
theorem walk_zipT {a b : Addr} {xs ys : List V} : Walk (RZ.ItzT K a b) (min xs.length ys.length) (fun H => SqT K H a xs ∧ SqT K H b ys) (YPair (fun i => xs[i]?) (fun i => ys[i]?)) := by
  refine ⟨fun i _ hi q => ?_, fun _ q => ⟨xs, ys, q.1, q.2, by omega⟩, fun i H v H' _ q y => ?_⟩
  · have h1 : i < xs.length := by omega
    have h2 : i < ys.length := by omega
    exact ⟨xs, ys, xs[i], ys[i], q.1, q.2, by simp [h1], by simp [h2]⟩
  · obtain ⟨T, x, z, h1, h2, h3, h4, h5⟩ := y
    exact ⟨T, x, z, h1, h2, h3, h4 xs q.1, h5 ys q.2⟩
theorem i_zip (hm : X.mg "zip" = none) (ha : PA X [e, e2] (TAr X W as)) (hg : Gl X "zip" := by rfl)
    (hs : starEach [e, e2] X.env = (false, eval e X.env) :: starEach [e2] X.env := by rfl) (hpl : (backTo pos (starEach [e2] X.env)).any (·.1) = false := by rfl) :
    PI X (.Tuple elts kk tpos) (.Call (.Name "zip" p) [e, e2] [] pos) (tI X W (iZip as)) := by
  refine (RZ.pi_zipA hg hm ha hs hpl).wk fun σ H R ⟨w, G, h, g, r, o⟩ => ⟨w, G, h, g, r, OutI.bindA (as := as) o fun d h2 v w1 H1 em l r1 x o1 => ?_⟩
  split at o1
  · rename_i ds es
    obtain ⟨v, v2, rfl, rv, rv2⟩ := ra_two x
    cases rv with
    | @tup p1 xs _ a1 b1 =>
      cases rv2 with
      | @tup p2 ys _ a2 b2 =>
        exact ⟨p1, p2, xs, ys, rfl, .inr ⟨r1.ex.t a1, r1.ex.t a2, o1 _ w1 H1 (Le.refl _) r1 (Walks.zip b1 b2 fun w' H' h' l r => ⟨_, ⟨r.ex.t (l.ex.t a1), r.ex.t (l.ex.t a2)⟩, walk_zipT⟩)⟩⟩
  · split at o1
    · rename_i ds es e1 e2
      obtain ⟨v, v2, rfl, rv, rv2⟩ := ra_two x
      obtain ⟨p1, xs, rfl, a1, b1⟩ := vI_rep rv e1
      obtain ⟨p2, ys, rfl, a2, b2⟩ := vI_rep rv2 e2
      exact ⟨p1, p2, xs, ys, rfl, .inl ⟨r1.ex.l a1, r1.ex.l a2, o1 _ w1 H1 (Le.refl _) r1 (Walks.zip b1 b2 fun w' H' h' l r => ⟨_, ⟨r.ex.l (l.ex.l a1), r.ex.l (l.ex.l a2)⟩, walk_zip rfl⟩)⟩⟩
    · exact o1.elim
  · exact o1.elim
/-! enumerate -/
def iEnum (as : MeL) : Im := fun G h => (as G h).bind fun xs h1 => match xs with
  | [.tup ds] => .ok (enumD ds, none) h1
  | [d] => match vI d with
    | some ds => .ok (enumD ds, none) h1
    | none => .stuck
  | _ => .stuck
theorem walk_enumT {a : Addr} {xs : List V} : Walk (IteT K a) xs.length (fun H => SqT K H a xs) (YPair (fun i => some (.int (i : Nat))) (fun i => xs[i]?)) := by
  refine ⟨fun i _ hi q => ⟨xs, xs[i], q, by simp [hi]⟩, fun _ q => ⟨xs, q, Nat.le_refl _⟩, fun i H v H' _ q y => ?_⟩
  obtain ⟨T, x, h1, h2, h3, h4⟩ := y
  exact ⟨T, .int (i : Nat), x, h1, h2, h3, rfl, h4 xs q⟩
/-- the numbers of a range as values -/
def rangeV (n : Nat) : List V := (List.range n).map fun i : Nat => V.int (i : Int)
theorem rangeV_rep {w : Wd} : ∀ (ns : List Nat), Ra K w (ns.map fun i : Nat => V.int (i : Int)) (ns.map fun i : Nat => D.int (0 + (i : Int)))
  | [] => .nil
  | n :: ns => .cons (by show RepV K w.S w.mu w.N (V.int (n : Int)) (D.int (0 + (n : Int))); rw [Int.zero_add]; exact .int _) (rangeV_rep ns)
theorem rangeV_get {n i : Nat} (h : i < n) : (rangeV n)[i]? = some (V.int (i : Int)) := by
  unfold rangeV
  rw [List.getElem?_map, List.getElem?_range h]
  rfl
theorem Walks.enum {w : Wd} {J : It} {ds : List D} {xs : List V} (h1 : Ra K w xs ds)
    (hw : ∀ w' H' h', LeX w w' → RepH K w' H' h' → ∃ G : Hp → Prop, G H' ∧ Walk J xs.length G (YPair (fun i => some (.int (i : Nat))) (fun i => xs[i]?))) : Walks K J w (enumD ds) none := by
  have l1 := h1.length
  have hl : (rangeV ds.length).length = xs.length := by unfold rangeV; simp [l1]
  refine Walks.zip (rangeV_rep (List.range ds.length)) h1 fun w' H' h' l r => ?_
  obtain ⟨G, g, wk⟩ := hw w' H' h' l r
  refine ⟨G, g, ?_⟩
  have e : min (List.map (fun i : Nat => V.int (i : Int)) (List.range ds.length)).length xs.length = xs.length := by
    simp [l1]
  rw [e]
  refine wk.mono (fun _ q => q) fun i H x H' hi _ y => ?_
  obtain ⟨T, x, z, q1, q2, q3, q4, q5⟩ := y
  refine ⟨T, x, z, q1, q2, q3, ?_, q5⟩
  have q4 : some (V.int (i : Int)) = some x := q4
  rw [← q4]
  exact rangeV_get (by omega)
theorem i_enum (hm : X.mg "enumerate" = none) (ha : PA X [e] (TAr X W as)) (hg : Gl X "enumerate" := by rfl)
    (hs : starEach [e] X.env = [(false, eval e X.env)] := by rfl) :
    PI X (.Tuple elts kk tpos) (.Call (.Name "enumerate" p) [e] [] pos) (tI X W (iEnum as)) := by
  refine (pi_enumA hg hm ha hs).wk fun σ H R ⟨w, G, h, g, r, o⟩ => ⟨w, G, h, g, r, OutI.bindA (as := as) o fun d h2 v w1 H1 em l r1 x o1 => ?_⟩
  split at o1
  · obtain ⟨v, rfl, rv⟩ := ra_one x
    cases rv with
    | @tup p1 xs _ a1 b1 =>
      exact ⟨p1, xs, rfl, .inr ⟨r1.ex.t a1, o1 _ w1 H1 (Le.refl _) r1 (Walks.enum b1 fun w' H' h' l r => ⟨_, r.ex.t (l.ex.t a1), walk_enumT⟩)⟩⟩
  · split at o1
    · rename_i ds e1
      obtain ⟨v, rfl, rv⟩ := ra_one x
      obtain ⟨p1, xs, rfl, a1, b1⟩ := vI_rep rv e1
      exact ⟨p1, xs, rfl, .inl ⟨r1.ex.l a1, o1 _ w1 H1 (Le.refl _) r1 (Walks.enum b1 fun w' H' h' l r => ⟨_, r.ex.l (l.ex.l a1), walk_enum⟩)⟩⟩
    · exact o1.elim
  · exact o1.elim
/-! range(i, j, -1) -/
def downD (lo : Int) (n : Nat) : List D := (List.range n).map fun i : Nat => D.int (lo + (i : Int) * (-1))
theorem Walks.down {w : Wd} {lo : Int} {n : Nat} : Walks K (Itc lo (-1) n) w (downD lo n) none := by
  have hl : (downD lo n).length = n := by simp [downD]
  refine ⟨fun i w' H' h' hi l r _ => ?_, fun w' H' h' l r _ => ?_, fun i x w' H' H2 h' d hd l r _ y => ?_⟩
  · rw [hl] at hi
    exact hi
  · rw [hl]
    exact Nat.le_refl n
  · obtain ⟨rfl, rfl⟩ := y
    have hi : i < n := by
      rw [← hl]
      exact (List.getElem?_eq_some_iff.mp hd).1
    unfold downD at hd
    rw [List.getElem?_map, List.getElem?_range hi] at hd
    cases hd
    exact ⟨w', Le.refl _, r, .int _⟩
noncomputable def iDown (as : MeL) : Im := fun G h => (as G h).bind fun xs h1 => match xs with
  | [.int i, .int j, .int k] => if k = -1 ∧ okR2 i j then .ok (downD i (i - j).toNat, none) h1 else .stuck
  | _ => .stuck
theorem ra_three {w : Wd} {vs : List V} {d d2 d3 : D} (r : Ra K w vs [d, d2, d3]) : ∃ v v2 v3, vs = [v, v2, v3] ∧ Rv K w v d ∧ Rv K w v2 d2 ∧ Rv K w v3 d3 := by
  cases r with
  | cons a b =>
    cases b with
    | cons c d => cases d with
      | cons e f => cases f; exact ⟨_, _, _, rfl, a, c, e⟩
theorem i_down (hm : X.mg "range" = none) (ha : PA X [a, b, c] (TAr X W as)) (hg : Gl X "range" := by rfl)
    (hs : starEach [a, b, c] X.env = (false, eval a X.env) :: starEach [b, c] X.env := by rfl) (hpl : (backTo pos (starEach [b, c] X.env)).any (·.1) = false := by rfl) : PI X tg (.Call (.Name "range" p) [a, b, c] [] pos) (tI X W (iDown as)) := by
  refine (pi_range3 hg hm ha hs hpl).wk fun σ H R ⟨w, G, h, g, r, o⟩ => ⟨w, G, h, g, r, OutI.bindA (as := as) o fun d h2 v w1 H1 em l r1 x o1 => ?_⟩
  split at o1
  · rename_i i j k
    split at o1
    · rename_i cc
      obtain ⟨rfl, cc⟩ := cc
      have cc : -1000000 ≤ i ∧ i ≤ 1000000 ∧ j ≤ 1000000 ∧ -1000000 ≤ j := cc
      obtain ⟨v, v2, v3, rfl, rv, rv2, rv3⟩ := ra_three x
      cases rv
      cases rv2
      cases rv3
      exact ⟨i, j, -1, _, rfl, RgC.neg (by omega) (by omega) (by omega) (by omega), o1 _ w1 H1 (Le.refl _) r1 Walks.down⟩
    · exact o1.elim
  · exact o1.elim
/-! l.extend(xs), xs a list -/
variable {o : Expr} {ma : Me} {apos cpos : Pos}
theorem mt_extendR : MtM X "list.extend" rExt3 := by
  intro pins s σ H x vs v us Q I rx rv h
  obtain ⟨l, b, xs, zs, rfl, rfl, hH, hB, hz, q⟩ := h
  cases rx
  obtain ⟨u, rfl, ru⟩ := rv.one
  cases ru
  obtain ⟨z, its, n, r, hl, e⟩ := I.lstM hH
  obtain ⟨z2, its2, n2, r2, e2⟩ := hB.ok I.hok
  have hl2 := r2.length
  have hsz : its.toArray.size + its2.toArray.size ≤ sizeLine := by rw [List.size_toArray, List.size_toArray]; omega
  have hlong : ¬ (!its.toArray.isEmpty && Builtin.List.listTooLong (its.toArray.size + its2.toArray.size)) = true := by
    rw [notLongL hsz, Bool.and_false]
    exact Bool.false_ne_true
  refine call_meets F.slot_list_extend ⟨_, e, rfl⟩ F.entry_list_extend (F.args_list_extend_2 _ _)
    (AutoSeq1.list_extend_list_list_0 l its.toArray n b its2.toArray n2 hlong (by rw [List.size_toArray]; omega) (by omega)) ⟨e, e2, ?_⟩
  refine ⟨.non, _, I.lset (its' := its ++ its2) hH e (by simp) (r.append r2) ?_, rfl, q⟩
  rw [List.length_append]
  omega
theorem fol_ext : FolM X W fExt rExt3 := by
  intro w h H σ Q v d vs ds rh rv ra o
  unfold fExt at o
  split at o
  · rename_i n y
    split at o
    · rename_i es e
      split at o
      · rename_i fs e3
        split at o
        · rename_i c
          cases rv with
          | loc hn =>
            obtain ⟨u, rfl, ru⟩ := ra_one ra
            obtain ⟨_, xs, e1, rx⟩ := rh.cell n _ e
            obtain ⟨b, zs, rfl, hB, rz⟩ := vR_rep rh ru e3
            exact ⟨w.mu n, b, xs, zs, rfl, rfl, e1, hB, big_le (by rw [rx.length, rz.length]; exact c), out_set hn o rh .non (rx.append rz)⟩
        · exact o.elim
      · exact o.elim
    · exact o.elim
  · exact o.elim
theorem e_ext (ho : PE X o (TM X W ma)) (ha : PA X [e] (TAr X W as))
    (hbase : attributeBase o "extend" X.env (eval o X.env) = eval o X.env := by rfl)
    (hfew : ((backTo cpos (starEach [e] X.env)).all (fun x => !x.1) && (backToKw cpos (keywordEach [] X.env)).all (fun x => x.1.isSome)
      && decide (([e] : List Expr).length + ([] : List Keyword).length + (if ([] : List Keyword).isEmpty then 0 else 1) < 30)) = true := by rfl)
    (hline : (apos.endLine == cpos.line) = true := by rfl) (hs : starEach [e] X.env = (false, eval e X.env) :: starEach [] X.env := by rfl) (hplain : (backTo cpos (starEach [] X.env)).any (·.1) = false := by rfl) :
    PE X (.Call (.Attribute o "extend" apos) [e] [] cpos) (TM X W (mBM fExt ma as)) :=
  e_bm PySem.F.slot_list_extend PySem.F.type_list_extend mt_extendR fol_ext ho ha hbase hfew hline hs hplain
end
end AB
/-! AB: what the printed texts use. -/
namespace AB
open PySem PySem.Spec PyProof.Rows L2

/-- the def x keeps its mirror's promise -/
structure Has (P : Program) (w : World) (K : PySem.W.Frag) (mg : Str → Option Value) (base : Heap) (x : Str) (k : Nat) (ps : List Str) (sp : Sp) : Prop where
  ex : ∃ f fd, mg x = some (.ref f) ∧ PySem.W.keepIn K (.ref f) = true ∧ Binds K fd ps [] ∧ FnOk P w K mg base (L2.CX P w) k f fd ps sp
theorem hu65 {k : Nat} {A : Around} (hr : Room k A) : A.units + 65 < cLine := by
  have := hr.un
  omega
theorem hu64 {k : Nat} {A : Around} (hr : Room k A) : A.units + 64 < cLine := by
  have := hr.un
  omega
theorem hu67 {k : Nat} {A : Around} (hr : Room k A) : A.units + 67 < cLine := by
  have := hr.un
  omega
section
variable {X : Cx} {W : WX} {pos p : Pos} {e : Expr} {es : List Expr} {as : MeL} {x : Str} {k k' : Nat} {ps : List Str} {m : Fn} {ml : FnL}
theorem e_callH (F : Has X.prog X.w X.K X.mg X.base x k ps (spM X.K X.mg m)) (hr : Room k' X.A) (tk : Takes X W)
    (ha : PA X (e :: es) (TAr X W as)) (hk' : k ≤ k' := by decide) (hg : Gl X x := by rfl) (hdb : (x == ("__debug__" : Str)) = false := by decide) (he : starEach (e :: es) X.env = (false, eval e X.env) :: starEach es X.env := by rfl) (hpl : (backTo pos (starEach es X.env)).any (·.1) = false := by rfl) :
    PE X (.Call (.Name x p) (e :: es) [] pos) (TM X W (mN m as)) := by
  obtain ⟨f, fd, h1, h2, h3, h4⟩ := F.ex
  exact e_call h4 hr hk' tk h1 h2 h3 ha hg hdb he hpl
theorem f_callH (F : Has X.prog X.w X.K X.mg X.base x k ps (spL X.K X.mg ml)) (hr : Room k' X.A) (tk : Takes X W)
    (ha : PA X (e :: es) (TAr X W as)) (hk' : k ≤ k' := by decide) (hg : Gl X x := by rfl) (hdb : (x == ("__debug__" : Str)) = false := by decide) (he : starEach (e :: es) X.env = (false, eval e X.env) :: starEach es X.env := by rfl) (hpl : (backTo pos (starEach es X.env)).any (·.1) = false := by rfl) :
    PE X (.Call (.Name x p) (e :: es) [] pos) (TF X W (lN ml as)) := by
  obtain ⟨f, fd, h1, h2, h3, h4⟩ := F.ex
  exact f_call h4 hr hk' tk h1 h2 h3 ha hg hdb he hpl
theorem e_globI {i : Int} (hm : ∃ t : Tok, X.mg x = some (.int i t)) (hg : Gl X x := by rfl) (hd : (x == ("__debug__" : Str)) = false := by decide) : PE X (.Name x pos) (TM X W (mC (.int i))) := by
  obtain ⟨t, hm⟩ := hm
  exact e_glob (v := .int i) hm ⟨t, rfl⟩ (fun _ => .int i) hg hd
/-! < of ints, else of data -/
def isII (x y : D) : Option (Int × Int) := match x, y with
  | .int i, .int j => some (i, j)
  | _, _ => none
def oII (f : Int → Int → Bool) (g : D → D → AH → Res D) (x y : D) (h : AH) : Res D := match isII x y with
  | some (i, j) => .ok (.bl (f i j)) h
  | none => g x y h
def cLt : D → D → AH → Res D := oII (fun i j => decide (i < j)) fLtD
def cLe : D → D → AH → Res D := oII (fun i j => decide (i ≤ j)) fLeD
def cGt : D → D → AH → Res D := oII (fun i j => decide (j < i)) fGtD
def cGe : D → D → AH → Res D := oII (fun i j => decide (j ≤ i)) fGeD
def rII (K : PySem.W.Frag) (f : Int → Int → Bool) (g : PyData → PyData → Bool) : R2 := fun x y H Q => rI0 (fun i j => .bl (f i j)) x y H Q ∨ rLtD K g x y H Q
theorem fol_ii {f : Int → Int → Bool} {g : PyData → PyData → Bool} {gg : D → D → AH → Res D} (hg : Fol2 X W gg (rLtD X.K g)) : Fol2 X W (oII f gg) (rII X.K f g) := by
  intro w h H σ Q v1 v2 d1 d2 rh r1 r2 o
  unfold oII at o
  split at o
  · rename_i i j e
    have : d1 = .int i ∧ d2 = .int j := by
      cases d1 <;> cases d2 <;> first | (cases e; exact ⟨rfl, rfl⟩) | cases e
    obtain ⟨rfl, rfl⟩ := this
    cases r1
    cases r2
    exact .inl ⟨i, j, rfl, rfl, out_ok o rh (.bl _)⟩
  · exact .inr (hg w h H σ Q v1 v2 d1 d2 rh r1 r2 o)
theorem op_cLt (hu : X.A.units + 65 < cLine) : OpR X (compareOp .Lt) (rII X.K (fun i j => decide (i < j)) fun d e => PySem.W.dataLt d e) := OpR.or op_lt (op_ltD hu)
theorem op_cLe (hu : X.A.units + 65 < cLine) : OpR X (compareOp .LtE) (rII X.K (fun i j => decide (i ≤ j)) fun d e => !PySem.W.dataLt e d) := OpR.or op_le (op_leD hu)
theorem op_cGt (hu : X.A.units + 65 < cLine) : OpR X (compareOp .Gt) (rII X.K (fun i j => decide (j < i)) fun d e => PySem.W.dataLt e d) := OpR.or op_gt (op_gtD hu)
theorem op_cGe (hu : X.A.units + 65 < cLine) : OpR X (compareOp .GtE) (rII X.K (fun i j => decide (j ≤ i)) fun d e => !PySem.W.dataLt d e) := OpR.or op_ge (op_geD hu)
theorem fol_cLt : Fol2 X W cLt (rII X.K (fun i j => decide (i < j)) fun d e => PySem.W.dataLt d e) := fol_ii (fol_ltD fun _ _ _ => rfl)
theorem fol_cLe : Fol2 X W cLe (rII X.K (fun i j => decide (i ≤ j)) fun d e => !PySem.W.dataLt e d) := fol_ii (fol_ltD (f := fun d e => !PySem.W.dataLt e d) fun _ _ _ => rfl)
theorem fol_cGt : Fol2 X W cGt (rII X.K (fun i j => decide (j < i)) fun d e => PySem.W.dataLt e d) := fol_ii (fol_ltD (f := fun d e => PySem.W.dataLt e d) fun _ _ _ => rfl)
theorem fol_cGe : Fol2 X W cGe (rII X.K (fun i j => decide (j ≤ i)) fun d e => !PySem.W.dataLt d e) := fol_ii (fol_ltD (f := fun d e => !PySem.W.dataLt d e) fun _ _ _ => rfl)
end
section
variable {X : Cx} {x : Str} {pos : Pos} {i kk : Nat} {e : Expr} {es : List Expr} {p : Pat} {ps : List Pat}
theorem pg_nmP (hN : X.N.Nodup) (hi : X.N[i]? = some x) (hx : Loc X.env.scope x := by first | exact Or.inl rfl | exact Or.inr rfl) (hf : X.fn x = true ∨ X.env.scope.names.lookup x = some .local := by first | exact .inl rfl | exact .inr rfl) : PG X (.Name x pos) (gP X.K (.nm i)) := by
  unfold gP
  exact pg_name hN hi hx hf
theorem pgs_nilP : PGs X [] (gPs X.K []) := by
  unfold gPs
  exact pgs_nil
theorem pgs_consP (h1 : PG X e (gP X.K p)) (h2 : PGs X es (gPs X.K ps)) (hs : (assignEach (e :: es) X.env).map (·.2) = assign e X.env :: (assignEach es X.env).map (·.2) := by rfl) : PGs X (e :: es) (gPs X.K (p :: ps)) := by
  unfold gPs
  exact pgs_cons h1 h2 hs
theorem pg_tpP (hc : X.calm = true) (h : PGs X es (gPs X.K ps)) (hn : (assignEach es X.env).length = ps.length := by rfl) (hst : (assignEach es X.env).findIdx? (·.1) = none := by rfl) : PG X (.Tuple es kk pos) (gP X.K (.tp ps)) := by
  unfold gP
  exact pg_tup hc h hn hst
end
theorem p_yes {X : Cx} {W : WX} : PTs X [] (TTT X W tYesM) := ⟨fun pins s σ H Q I ⟨w, G, h, g, r, o⟩ => pts_nil.run pins s σ H Q I (o w H (Le.refl _) r)⟩
theorem ints_rep {K : PySem.W.Frag} {w : Wd} : ∀ (ns : List Int), Ra K w (ns.map V.int) (ns.map D.int)
  | [] => .nil
  | n :: ns => .cons (.int n) (ints_rep ns)
/-- the end: the mirror of law, from the script -/
def spLaw (K : PySem.W.Frag) : Sp := fun vs H Q _ => ∃ (a : Addr) (ns : List Int), vs = [.ref a] ∧ SqL K H a (ns.map V.int) ∧ ns.length ≤ 63 ∧ ∀ H', Q (.bl true) H'
theorem sp_law {K : PySem.W.Frag} {mg : Str → Option Value} {m : Fn} (ht : ∀ ns : List Int, ns.length ≤ 63 → ∃ h, m [.rol (ns.map D.int)] [] = .ok (.bl true) h) {vs : List V} {H : Hp} {Q : VK} {E : XK} (h : spLaw K vs H Q E) : spM K mg m vs H Q E := by
  obtain ⟨a, ns, rfl, hS, hl, hQ⟩ := h
  obtain ⟨h, e⟩ := ht ns hl
  refine ⟨⟨H, fun _ => none, fun _ => 0, 0⟩, [.rol (ns.map D.int)], [], .cons (.rol hS (ints_rep ns)) .nil, ⟨Ext.refl _, rfl, fun m n hm _ _ => absurd hm (Nat.not_lt_zero _), fun n o e => (by simp at e), fun _ _ e => (by cases e), fun _ _ e => (by cases e)⟩, ?_⟩
  rw [e]
  intro v w' H' l r x
  cases x
  exact hQ H'
end AB
/-! AB: repr in the law's own def, which knows that nothing is guarded. -/
namespace AB
open PySem PySem.Spec PyProof.Rows L2

section
variable {X : Cx} {W : WX} {pos p : Pos} {e : Expr} {as : MeL}
def isSeqP : PyData → Bool
  | .tuple _ => true
  | .list _ => true
  | _ => false
def fRepr (xs : List D) (h : AH) : Res D := match xs with
  | [d] => match toPh h d with
    | some p => if isSeqP p = true ∧ p.showable = true ∧ p.hasDict = false ∧ p.depth ≤ 60 ∧ p.shown.length ≤ big then .ok (.str p.shown) h else .stuck
    | none => .stuck
  | _ => .stuck
def rReprD (K : PySem.W.Frag) : List V → Hp → VK → Prop := fun xs H Q => ∃ x d, xs = [x] ∧ Dp K H x d ∧ isSeqP d = true ∧ d.showable = true ∧ d.hasDict = false ∧ d.depth ≤ 60 ∧ d.shown.length ≤ sizeLine ∧ Q (.str d.shown) H
theorem cr_repr (hg : X.A.guards = some []) (hu : X.A.units + 65 < cLine) : CallR X (.builtin "repr") (rReprD X.K) := by
  intro pins s σ H xs us Q I r h
  obtain ⟨x, d, rfl, hd, hs, h1, h2, h3, h4, q⟩ := h
  obtain ⟨u, rfl, ru⟩ := r.one
  obtain ⟨as, rd⟩ := Dp.reads I d x u hd ru
  have hr : ∃ a, u = .ref a := by
    cases hd with
    | tup _ _ => cases ru; exact ⟨_, rfl⟩
    | lst _ _ => cases ru; exact ⟨_, rfl⟩
    | _ => cases hs
  obtain ⟨a, rfl⟩ := hr
  exact repr_of_reads' rd h1 (fun z => by rw [h2] at z; cases z) hg (by omega) (fun _ _ e => e) (fun h' u tk hk => ⟨.str d.shown, H, I.kept hk, ⟨u, rfl⟩, q⟩) h4
theorem fol_repr : FolN X W fRepr (rReprD X.K) := by
  intro w h H σ Q vs ds rh ra o
  unfold fRepr at o
  split at o
  · obtain ⟨v, rfl, rv⟩ := ra_one ra
    split at o
    · rename_i pd e
      split at o
      · rename_i c
        obtain ⟨c1, c2, c3, c4, c5⟩ := c
        exact ⟨v, pd, rfl, toPh_rep rh rv e, c1, c2, c3, c4, big_le c5, out_ok o rh (.str _)⟩
      · exact o.elim
    · exact o.elim
  · exact o.elim
theorem e_repr (gd : X.A.guards = some []) (hu : X.A.units + 65 < cLine) (hm : X.mg "repr" = none) (ha : PA X [e] (TAr X W as)) (hg : Gl X "repr" := by rfl) (he : starEach [e] X.env = (false, eval e X.env) :: starEach [] X.env := by rfl) :
    PE X (.Call (.Name "repr" p) [e] [] pos) (TM X W (mN fRepr as)) :=
  e_blt (cr_repr gd hu) fol_repr hm ha hg (by decide +kernel) (by decide) (by decide) he rfl
end
/-! != of texts -/
def fNeS (x y : D) (h : AH) : Res D := match x, y with
  | .str i, .str j => .ok (.bl (i != j)) h
  | _, _ => .stuck
theorem op_neS {X : Cx} : OpR X (compareOp .NotEq) (fun x y H Q => ∃ i j, x = .str i ∧ y = .str j ∧ Q (.bl (i != j)) H) := by
  intro pins s σ H x y v u Q I rx ry h
  obtain ⟨i, j, rfl, rfl, q⟩ := h
  obtain ⟨t, rfl⟩ := rx
  obtain ⟨t', rfl⟩ := ry
  exact PyProof.Rows.ne_str ⟨.bl _, H, I, rfl, q⟩
theorem fol_neS {X : Cx} {W : WX} : Fol2 X W fNeS (fun x y H Q => ∃ i j, x = .str i ∧ y = .str j ∧ Q (.bl (i != j)) H) := by
  intro w h H σ Q v1 v2 d1 d2 rh r1 r2 o
  unfold fNeS at o
  split at o
  · cases r1
    cases r2
    exact ⟨_, _, rfl, rfl, out_ok o rh (.bl _)⟩
  · exact o.elim
@[simp] theorem v_neS {h : AH} (x : Str) : fNeS (.str x) (.str x) h = .ok (.bl false) h := by
  show Res.ok (D.bl (x != x)) h = _
  simp
/-- the law's def, called as the claim calls it -/
def LawAt (P : Program) (w : World) (K : PySem.W.Frag) (mg : Str → Option Value) (base : Heap) (CX : CXT) (f : Addr) (fd : FuncData) (ps : List Str) (sp : Sp) : Prop :=
  ∀ (s : Shared) (H : Hp) (args : Args) (us : List Value) (vs : List V) (Q : VK) (E : XK), Env0 P w K mg base callerA [] s H → BindsTo s fd args (ps.zip us) → Vals vs us → sp vs H Q E →
    codeAny (model P w) callerA (.call (.ref f) args) (CR CX [] P w H s Q E) s
/-- .. by its body -/
theorem law_of {CX : CXT} {P : Program} {w : World} {K : PySem.W.Frag} {mg : Str → Option Value} {base : Heap} {k : Nat} {f : Addr} {x qual : Str} {st : Stmt} {fd : FuncData} {N ps : List Str} {sp : Sp}
    (F : Fun K x qual st f fd) (S : FnScope N ps (defScope st)) (hr : Room (k + 1) callerA)
    (len : ∀ vs H Q E, sp vs H Q E → vs.length = ps.length)
    (hbody : ∀ (cdv : Value) (s : Shared) (H : Hp) (vs : List V) (Q : VK) (E : XK), Room k (callerA.deeper (envOfC qual (defScope st) s.heap.objs.size f cdv)) → sp vs H Q E →
      ∃ t, PSs (cxOf CX P w K mg base N qual (defScope st) f cdv callerA [] s H E) (defBody st) t ∧ t { nx := fun _ H' => Q .non H', rt := Q } (L2.start N vs) H) :
    LawAt P w K mg base CX f fd ps sp := by
  obtain ⟨oc, od, kV, doc, pm, an, cdv, ct, osl, rfl, lk, hcd⟩ := F.ex
  intro s H args us vs Q E e0 hb r hsp
  have hl := len _ _ _ _ hsp
  have keepB : ∀ b o, base.get? b = some o → s.heap.get? b = some o := fun b o e => (e0.bs b o e).1
  have KX : K.In s.heap := e0.mod.kin.keeps keepB
  have lim : s.heap.NoLimit := e0.mod.nolimit.keeps keepB
  have kinds : ∀ y ∈ ps.zip us, (defScope st).names.lookup y.1 = some .local ∨ ((defScope st).names.lookup y.1 = some .cell ∧ ((cellsFrom (s.heap.objs.size + 1) (defScope st).names []).lookup y.1).isSome = true) := by
    rintro ⟨n, v⟩ hy
    exact (S.par n (List.of_mem_zip hy).1).imp id fun q => ⟨q, PySem.W.cellsFrom_some _ _ _ (.inl q)⟩
  refine codeAny_call_function hr.depth (KX _ _ lk) rfl S.co S.gen rfl (PySem.W.codeRec_of KX hcd) (hb _ _ _ _ (wpAny_newFunctionEnv_cells S.kind kinds fun env he s1 x => ?_))
  subst he
  refine ⟨lim.keeps x.toInCall.keep, codeAny_func ?_⟩
  obtain ⟨t, ht, hq⟩ := hbody cdv s H vs Q E (hr.deeper _) hsp
  refine wpAny_mono (ht.run [] s1 (L2.start N vs) H _ (inv_start S hr.hd e0 hl r x) hq) (fun fl s' hs => ?_) fun e s' hs => hs
  cases fl with
  | ret u =>
    obtain ⟨v, σ', H', J, rv, q⟩ := hs
    exact ⟨v, H', J.os, J.bare, J.base, J.hok, rv, q⟩
  | next =>
    obtain ⟨σ', H', J, q⟩ := hs
    exact ⟨.non, H', J.os, J.bare, J.base, J.hok, rfl, q⟩
  | brk => obtain ⟨_, _, _, q⟩ := hs; exact q.elim
  | cont => obtain ⟨_, _, _, q⟩ := hs; exact q.elim

/-- the script as the only thing that is tracked, or one of the module's own objects -/
theorem law_callC {P : Program} {w : World} {K : PySem.W.Frag} {mg mb : Str → Option Value} {CX : CXT} {fa a : Addr} {fd : FuncData} {x : Str} {sp : Sp} {s₁ : Shared} {vs : List Value} {ns : List Int}
    (KX : K.In s₁.heap) (hns : s₁.heap.Ns mainGlobals mg) (hb : s₁.heap.Ns builtinsNs mb) (hbb : ∀ x : Str, x ≠ "__name__" → mb x = bootBuiltins x) (hlim : s₁.heap.NoLimit) (hg : s₁.gens = #[])
    (ha : s₁.heap.get? a = some { cls := .type "list", data := .seq vs.toArray }) (hi : IntsAre vs ns) (hl : ns.length ≤ sizeLine)
    (F : ∀ base : Heap, K.In base → base.Ns mainGlobals mg → LawAt P w K mg base CX fa fd [x] sp) (hbind : ∀ (s : Shared) (u : Value), BindsTo s fd ⟨[u], []⟩ [(x, u)])
    (hsp : ∀ H : Hp, Only H → SqL K H a (ns.map V.int) → sp [.ref a] H (fun v _ => v = .bl true) fun _ _ _ => False)
    (hCX : ∀ H e s', CX [] H s₁ (fun _ _ _ => False) e s' → False) :
    codeAny (model P w) callerA (.call (.ref fa) ⟨[.ref a], []⟩) (fun r s' => r = .ok (.ret (.bool true)) ∧ OldK s₁.heap s'.heap ∧ s'.os = s₁.os ∧ AllBare s'.gens) s₁ := by
  have rv := vals_ints hi
  have lenV := hi.length
  have core : ∀ H : Hp, Only H → SqL K H a (ns.map V.int) → HOk P w H s₁.heap → (∀ b, H b ≠ none → b = a) → (H a ≠ none → K.lookup a = none) →
      codeAny (model P w) callerA (.call (.ref fa) ⟨[.ref a], []⟩) (fun r s' => r = .ok (.ret (.bool true)) ∧ OldK s₁.heap s'.heap ∧ s'.os = s₁.os ∧ AllBare s'.gens) s₁ := by
    intro H hO hS hok hA hK
    have none_of : ∀ {b : Addr}, b ≠ a → H b = none := fun {b} hb => by
      cases q : H b with
      | none => rfl
      | some u => exact absurd (hA b (by rw [q]; simp)) hb
    have dict_none : ∀ {b : Addr} {o : Obj} {es : Array DictEntry} {ep : Nat}, s₁.heap.get? b = some o → o.data = .dict es ep → H b = none := fun {b o es ep} e d => none_of fun z => by
      subst z
      rw [ha] at e
      cases e
      have d' : Data.seq vs.toArray _ = Data.dict es ep := d
      cases d'
    have ns_hid : ∀ {b : Addr} {m : Str → Option Value}, s₁.heap.Ns b m → (hidT s₁.heap H).Ns b m := fun {b m} ⟨o, es, ep, e, d, r⟩ => ⟨o, es, ep, hidT_get e (dict_none e d), d, r⟩
    have hKb : K.In (hidT s₁.heap H) := fun b o e => hidT_get (KX b o e) (by
      cases q : H b with
      | none => rfl
      | some u =>
        have z := hA b (by rw [q]; simp)
        subst z
        rw [hK (by rw [q]; simp)] at e
        cases e)
    have hM : Mod K mg (hidT s₁.heap H) := ⟨hKb, ns_hid hns, ⟨mb, ns_hid hb, hbb⟩, let ⟨mc, h1, h2⟩ := hlim; ⟨mc, ns_hid h1, h2⟩⟩
    have e0 : Env0 P w K mg (hidT s₁.heap H) callerA [] s₁ H := ⟨rfl, hM, fun b o e => of_hidT e, Nat.le_of_eq (hidT_size _ _), trivial, fun b hb => absurd (show b ∈ ([] : List Addr) from hb) (by simp), hok, .of_eq hg⟩
    refine codeAny_mono (F _ hKb (ns_hid hns) s₁ H ⟨[.ref a], []⟩ [.ref a] [.ref a] _ _ e0 (hbind s₁ (.ref a)) (.cons rfl .nil) (hsp H hO hS)) fun r s' h => ?_
    cases r with
    | error e => exact (hCX H e s' h).elim
    | ok fl =>
      cases fl with
      | next => exact False.elim h
      | brk => exact False.elim h
      | cont => exact False.elim h
      | ret u =>
        obtain ⟨v, H', os, bare, un, hok', r', q⟩ := h
        have q' : v = .bl true := q
        subst q'
        obtain rfl : u = Value.bool true := r'
        refine ⟨rfl, OldK.of_keep fun b o e => ?_, os, bare⟩
        cases q : H b with
        | none => exact un.keep b o e q (by intro z; exact absurd (show b ∈ ([] : List Addr) from z) (by simp)) (by simp)
        | some u =>
          rcases hO b with z | ⟨ob, xs, z⟩
          · rw [q] at z; cases z
          · obtain ⟨e1, _⟩ := hok b _ z
            obtain ⟨e2, _⟩ := hok' b _ (un.frzs b ob _ z)
            rw [e] at e1
            cases e1
            exact e2
  cases hk : K.lookup a with
  | some o =>
    have e := KX a o hk
    rw [ha] at e
    cases e
    exact core (fun _ => none) (fun _ => .inl rfl) (.inr ⟨_, vs.toArray, _, hk, rfl, rfl, rfl, by rw [List.size_toArray, lenV]; exact hl, by simpa using rv⟩) (fun b u z => by have z' : (none : Option HO) = some u := z; cases z') (fun b z => absurd rfl z) fun z => absurd rfl z
  | none =>
    refine core (fun b => if b = a then some (.frz { cls := .type "list", data := .seq vs.toArray } (.lst (ns.map V.int))) else none) (fun b => ?_) (.inl (.inr ⟨{ cls := .type "list", data := .seq vs.toArray }, if_pos rfl⟩)) (fun b u z => ?_) (fun b z => ?_) fun _ => hk
    · by_cases hb : b = a
      · exact .inr ⟨_, _, if_pos hb⟩
      · exact .inl (if_neg hb)
    · by_cases hb : b = a
      · have z' := (if_pos hb).symm.trans z
        cases z'
        subst hb
        exact ⟨ha, by rw [List.length_map]; exact hl, vs, _, rv, ha⟩
      · have z' := (if_neg hb).symm.trans z
        cases z'
    · by_cases hb : b = a
      · exact hb
      · exact absurd (if_neg hb) z
theorem walk_ofC {l : PySem.W.OpenLaw} {n : Nat} {q : Program} {loose : List Str} {XP : (Str → Option Value) → Heap → Prop} {YP : World → Heap → Prop} {d : DefRec} {K : Params → PySem.W.Frag} {CX : World → CXT} {sp : World → Sp} {x : Str}
    (hn : l.most = some n) (hn2 : n ≤ sizeLine) (hdf : d.params.defaults = [])
    (hY : ∀ (w : World) (h : Heap), YP w h → (K w.params).In h)
    (F : ∀ (w : World) (mg : Str → Option Value) (fa : Addr) (h : Heap), (K w.params).In h → h.Ns mainGlobals mg → mg d.name = some (.ref fa) →
      ∃ fd : FuncData, (∀ (s : Shared) (u : Value), BindsTo s fd ⟨[u], []⟩ [(x, u)]) ∧
        ∀ base : Heap, (K w.params).In base → base.Ns mainGlobals mg → LawAt l.prog w (K w.params) mg base (CX w) fa fd [x] (sp w))
    (hsp : ∀ (w : World) (H : Hp) (a : Addr) (ns : List Int), ns.length ≤ n → Only H → SqL (K w.params) H a (ns.map V.int) → sp w [.ref a] H (fun v _ => v = .bl true) fun _ _ _ => False)
    (hCX : ∀ (w : World) (H : Hp) (s : Shared) (e : Value) (s' : Shared), CX w [] H s (fun _ _ _ => False) e s' → False) :
    PySem.W.WalkO q loose XP YP l.row.toRowW d [] (fun f vs => PySem.call f vs) := by
  refine Att.attach_call hn hdf fun w s₀ s₁ mg mb fa o pm cd doc a vs ns G Y ho hd hcd hmg hobj hints hlen hg => ?_
  have KX := hY w _ Y
  obtain ⟨fd, hb, hF⟩ := F w mg fa _ KX G.T.g hmg
  exact law_callC KX G.T.g G.T.b G.T.builtins G.T.nolimit hg hobj hints (Nat.le_trans hlen hn2) hF hb (fun H hO hS => hsp w H a ns hlen hO hS) fun H e s' => hCX w H s₁ e s'
/-- the law's def by its mirror -/
theorem law_ok {P : Program} {w : World} {K : PySem.W.Frag} {mg : Str → Option Value} {base : Heap} {x qual : Str} {st : Stmt} {f : Addr} {fd : FuncData} {N ps : List Str} {k : Nat} (F : Fun K x qual st f fd) (S : FnScope N ps (defScope st)) (hr : Room (k + 1) callerA) (m : Ms)
    (hb : ∀ (cdv : Value) (s : Shared) (H : Hp) (E : XK), Room k (callerA.deeper (envOfC qual (defScope st) s.heap.objs.size f cdv)) →
      PSs (cxOf (L2.CX P w) P w K mg base N qual (defScope st) f cdv callerA [] s H E) (defBody st) (tS K mg (fun c dd _ H => E c dd H) m)) :
    LawAt P w K mg base (L2.CX P w) f fd ps (spM K mg (mDef ps.length N.length m)) := by
  refine law_of F S hr (fun vs H Q E h => ?_) fun cdv s H vs Q E hr h => ⟨_, hb cdv s H E hr, sp_start h⟩
  exact sp_len h
theorem LawAt.imp {P : Program} {w : World} {K : PySem.W.Frag} {mg : Str → Option Value} {base : Heap} {CX : CXT} {f : Addr} {fd : FuncData} {ps : List Str} {sp sp' : Sp} (F : LawAt P w K mg base CX f fd ps sp) (h : ∀ vs H Q E, sp' vs H Q E → sp vs H Q E) : LawAt P w K mg base CX f fd ps sp' :=
  fun s H args us vs Q E e0 hb r q => F s H args us vs Q E e0 hb r (h vs H Q E q)
theorem cx_false {P : Program} {w : World} {H : Hp} {s : Shared} {e : Value} {s' : Shared} (h : L2.CX P w [] H s (fun _ _ _ => False) e s') : False := by
  obtain ⟨_, _, _, _, _, _, _, _, _, _, _, _, z⟩ := h
  exact z
end AB
/-! AB: how the mirrors go, as rules of simp. -/
namespace AB
open PySem PySem.Spec PyProof.Rows L2

section
variable {G : Env} {h : AH} {i j : Int} {d e : D} {m a b c : Me} {as : MeL} {t u : MeT} {n : Nat}
@[simp] theorem v_mV (i : Nat) : mV i G h = (match G[i]? with | some (some d) => .ok d h | _ => .stuck) := rfl
@[simp] theorem v_mC : mC d G h = .ok d h := rfl
@[simp] theorem v_mOp2 {f : D → D → AH → Res D} : mOp2 f a b G h = (a G h).bind fun x h1 => (b G h1).bind fun y h2 => f x y h2 := rfl
@[simp] theorem v_mOp1 {f : D → AH → Res D} : mOp1 f a G h = (a G h).bind fun x h1 => f x h1 := rfl
@[simp] theorem v_aNil : aNil G h = .ok [] h := rfl
@[simp] theorem v_aCons : aCons a as G h = (a G h).bind fun x h1 => (as G h1).bind fun xs h2 => .ok (x :: xs) h2 := rfl
@[simp] theorem v_mN {f : List D → AH → Res D} : mN f as G h = (as G h).bind fun xs h1 => f xs h1 := rfl
@[simp] theorem v_lN {f : List D → AH → Res (List D)} : lN f as G h = (as G h).bind fun xs h1 => f xs h1 := rfl
@[simp] theorem v_mL : mL as G h = (as G h).bind fun ds h1 => .ok (.lst ds) h1 := rfl
@[simp] theorem v_mNew : mNew as G h = (as G h).bind fun ds h1 => .ok (.loc h1.length) (h1 ++ [.lst ds]) := rfl
@[simp] theorem v_lLst : lLst as G h = (as G h).bind fun xs h1 => if xs.length ≤ big then .ok xs h1 else .stuck := id rfl
@[simp] theorem v_fTup {ds : List D} : fTup ds h = if ds.length ≤ big then .ok (.tup ds) h else .stuck := id rfl
@[simp] theorem v_tOf : tOf m G h = (m G h).bind fun d h1 => match truD h1 d with | some b => .ok b h1 | none => .stuck := rfl
@[simp] theorem v_tBl : tBl m G h = (m G h).bind fun d h1 => match d with | .bl b => .ok b h1 | _ => .stuck := rfl
@[simp] theorem v_tAnd : tAndM t u G h = (t G h).bind fun c h1 => if c = true then u G h1 else .ok false h1 := rfl
@[simp] theorem v_tOr : tOrM t u G h = (t G h).bind fun c h1 => if c = true then .ok true h1 else u G h1 := rfl
@[simp] theorem v_tNot : tNotM t G h = (t G h).bind fun c h1 => .ok (!c) h1 := rfl
@[simp] theorem v_mAnd : mAnd a b G h = (a G h).bind fun d h1 => match truD h1 d with | some true => b G h1 | some false => .ok d h1 | none => .stuck := rfl
@[simp] theorem v_mOr : mOr a b G h = (a G h).bind fun d h1 => match truD h1 d with | some true => .ok d h1 | some false => b G h1 | none => .stuck := rfl
@[simp] theorem v_mNot : mNot a G h = (a G h).bind fun d h1 => match truD h1 d with | some b => .ok (.bl (!b)) h1 | none => .stuck := rfl
@[simp] theorem v_mIf : mIf t a b G h = (t G h).bind fun c h1 => if c = true then a G h1 else b G h1 := rfl
@[simp] theorem v_mChain {f g : D → D → AH → Res D} : mChain f g a b c G h = (a G h).bind fun x h1 => (b G h1).bind fun y h2 => (f x y h2).bind fun z h3 => match z with
  | .bl true => (c G h3).bind fun u h4 => g y u h4
  | .bl false => .ok (.bl false) h3
  | _ => .stuck := rfl
@[simp] theorem v_mIsi (T : Ty) : mIsi T m G h = (m G h).bind fun d h1 => match tyD h1 d with | some t => .ok (.bl (t.sub T)) h1 | none => .stuck := rfl
@[simp] theorem v_oNone : oNone G h = .ok none h := rfl
@[simp] theorem v_oSome : oSome m G h = (m G h).bind fun d h1 => match d with | .int i => .ok (some i) h1 | _ => .stuck := rfl
@[simp] theorem v_yes : tYesM G h = .ok true h := rfl
@[simp] theorem v_sNil : sNil G h = .next G h := rfl
@[simp] theorem v_sSeq {x y : Ms} : sSeq x y G h = (x G h).andThen y := rfl
@[simp] theorem v_sSet (i : Nat) : sSet i m G h = (m G h).toS G fun d h1 => .next (G.set i (some d)) h1 := rfl
@[simp] theorem v_sRet : sRet m G h = (m G h).toS G fun d h1 => .ret d h1 := rfl
@[simp] theorem v_sExpr : sExpr m G h = (m G h).toS G fun _ h1 => .next G h1 := rfl
@[simp] theorem v_sIf {x y : Ms} : sIf t x y G h = (t G h).toS G fun c h1 => if c = true then x G h1 else y G h1 := rfl
@[simp] theorem v_sNever : sNever G h = .stuck := rfl
@[simp] theorem v_sSub : sSub a b m G h = (m G h).toS G fun x h1 => (a G h1).toS G fun d h2 => (b G h2).toS G fun j h3 => match d, j with
  | .loc n, .int k => match h3[n]? with
    | some (.lst ds) => match ixN ds.length k with
      | some m => .next G (h3.set n (.lst (ds.set m x)))
      | none => .stuck
    | _ => .stuck
  | _, _ => .stuck := rfl
@[simp] theorem v_mBM {f : D → List D → AH → Res D} : mBM f m as G h = (m G h).bind fun d h1 => match vL h1 d with | some _ => (as G h1).bind fun xs h2 => f d xs h2 | none => .stuck := rfl
@[simp] theorem v_sFor {p : Pat} {it : Im} {x : Ms} : sFor p it x G h = (it G h).toS G fun a h1 => forGo p x a.2 a.1 a.1 G h1 := rfl
@[simp] theorem v_lComp {p : Pat} {vs : List Nat} {it : Im} : lComp p vs it t m G h = (it G h).bind fun a h1 => if a.1.length ≤ big then compGo p t m a.2 a.1 (wipeG G vs) a.1 h1 else .stuck := id rfl
@[simp] theorem v_iSeq : iSeq m G h = (m G h).bind fun d h1 => match d with
  | .tup ds => .ok (ds, none) h1
  | .lst ds => .ok (ds, none) h1
  | .rol ds => .ok (ds, none) h1
  | .loc n => match h1[n]? with
    | some (.lst ds) => .ok (ds, some n) h1
    | _ => .stuck
  | _ => .stuck := rfl
/-! values -/
@[simp] theorem v_ii : isII (.int i) (.int j) = some (i, j) := rfl
@[simp] theorem v_cLt : cLt (.int i) (.int j) h = .ok (.bl (decide (i < j))) h := rfl
@[simp] theorem v_cLe : cLe (.int i) (.int j) h = .ok (.bl (decide (i ≤ j))) h := rfl
@[simp] theorem v_cGt : cGt (.int i) (.int j) h = .ok (.bl (decide (j < i))) h := rfl
@[simp] theorem v_cGe : cGe (.int i) (.int j) h = .ok (.bl (decide (j ≤ i))) h := rfl
@[simp] theorem v_add : fAdd (.int i) (.int j) h = .ok (.int (i + j)) h := rfl
@[simp] theorem v_sub : fSub (.int i) (.int j) h = .ok (.int (i - j)) h := rfl
@[simp] theorem v_neg : fNeg (.int i) h = .ok (.int (-i)) h := rfl
@[simp] theorem v_mul : fMul (.int i) (.int j) h = if (-(2 ^ 60) ≤ i ∧ i ≤ 2 ^ 60) ∨ (-(2 ^ 60) ≤ j ∧ j ≤ 2 ^ 60) then .ok (.int (i * j)) h else .stuck := id rfl
@[simp] theorem v_mod : fMod (.int i) (.int j) h = if 0 < j then .ok (.int (i % j)) h else .stuck := id rfl
@[simp] theorem v_div : fDiv (.int i) (.int j) h = if 0 < j ∧ j ≤ 2 ^ 60 then .ok (.int (i / j)) h else .stuck := id rfl
@[simp] theorem v_pow : fPow (.int i) (.int j) h = if 0 ≤ j ∧ j ≤ 1000 ∧ 0 ≤ i ∧ i ≤ 1000 then .ok (.int (i ^ j.toNat)) h else .stuck := id rfl
@[simp] theorem v_int : fInt [.int i] h = .ok (.int i) h := rfl
@[simp] theorem v_intB {b : Bool} : fInt [.bl b] h = .ok (.int (if b then 1 else 0)) h := rfl
@[simp] theorem v_abs : fAbs [.int i] h = .ok (.int (if i < 0 then -i else i)) h := rfl
theorem okP_int : okP h (.int i) = some (.int i) := rfl
theorem okP_bl {b : Bool} : okP h (.bl b) = some (.bool b) := rfl
theorem okP_non : okP h .non = some .none := rfl
@[simp] theorem v_eq : fEq (.int i) (.int j) h = .ok (.bl (decide (i = j))) h := by
  show Res.ok (D.bl (PyData.eqv (.int i) (.int j))) h = _
  simp only [PyData.eqv]
  rfl
@[simp] theorem v_ne : fNe (.int i) (.int j) h = .ok (.bl (!decide (i = j))) h := by
  show Res.ok (D.bl (!PyData.eqv (.int i) (.int j))) h = _
  simp only [PyData.eqv]
  rfl
@[simp] theorem v_eqB {b c : Bool} : fEq (.bl b) (.bl c) h = .ok (.bl (decide (b = c))) h := by
  show Res.ok (D.bl (PyData.eqv (.bool b) (.bool c))) h = _
  simp only [PyData.eqv]
  cases b <;> cases c <;> rfl
@[simp] theorem v_isB {b c : Bool} : fIsB (.bl b) (.bl c) h = .ok (.bl (decide (b = c))) h := rfl
@[simp] theorem v_notB {b c : Bool} : fNotB (.bl b) (.bl c) h = .ok (.bl (!decide (b = c))) h := rfl
@[simp] theorem v_truB {b : Bool} : truD h (.bl b) = some b := rfl
@[simp] theorem v_truI : truD h (.int i) = some (i != 0) := rfl
@[simp] theorem v_vSt {ds : List D} : vS h (.tup ds) = some ds := rfl
@[simp] theorem v_vSl {ds : List D} : vS h (.lst ds) = some ds := rfl
@[simp] theorem v_vSr {ds : List D} : vS h (.rol ds) = some ds := rfl
@[simp] theorem v_vSo : vS h (.loc n) = (match h[n]? with | some (.lst ds) => some ds | _ => none) := rfl
@[simp] theorem v_vLl {ds : List D} : vL h (.lst ds) = some ds := rfl
@[simp] theorem v_vLr {ds : List D} : vL h (.rol ds) = some ds := rfl
@[simp] theorem v_vLo : vL h (.loc n) = (match h[n]? with | some (.lst ds) => some ds | _ => none) := rfl
@[simp] theorem v_ix : fIx d (.int i) h = (match vS h d with | some ds => (match atI ds i with | some d => .ok d h | none => .stuck) | none => .stuck) := rfl
@[simp] theorem v_len (hd : ∀ x, d ≠ .str x) : fLen [d] h = (match vS h d with | some ds => .ok (.int ds.length) h | none => .stuck) := by
  cases d with
  | str x => exact absurd rfl (hd x)
  | _ => rfl
@[simp] theorem v_tuple : fTuple [d] h = (match vS h d with | some ds => .ok (.tup ds) h | none => .stuck) := rfl
@[simp] theorem v_list : lList [d] h = (match vS h d with | some ds => .ok ds h | none => .stuck) := rfl
@[simp] theorem v_app : fApp (.loc n) [d] h = (match h[n]? with | some (.lst ds) => if ds.length < big then .ok .non (h.set n (.lst (ds ++ [d]))) else .stuck | _ => .stuck) := id rfl
@[simp] theorem v_tyI : tyD h (.int i) = some .int := rfl
@[simp] theorem v_tyB {b : Bool} : tyD h (.bl b) = some .bl := rfl
@[simp] theorem v_tyT {ds : List D} : tyD h (.tup ds) = some .tup := rfl
@[simp] theorem v_tyN : tyD h .non = some .non := rfl
@[simp] theorem v_range1 : iRange1 as G h = (as G h).bind fun xs h1 => match xs with
  | [.int j] => if okR j then .ok (rangeD 0 j.toNat, none) h1 else .stuck
  | _ => .stuck := rfl
@[simp] theorem v_range2 : iRange2 as G h = (as G h).bind fun xs h1 => match xs with
  | [.int i, .int j] => if okR2 i j then .ok (rangeD i (j - i).toNat, none) h1 else .stuck
  | _ => .stuck := rfl
@[simp] theorem v_down : iDown as G h = (as G h).bind fun xs h1 => match xs with
  | [.int i, .int j, .int k] => if k = -1 ∧ okR2 i j then .ok (downD i (i - j).toNat, none) h1 else .stuck
  | _ => .stuck := rfl
end
theorem big_eq : big = 1000000 := rfl
/-- an index within -/
theorem atI_nat {α : Type} {xs : List α} {i : Int} {x : α} (h0 : 0 ≤ i) (hx : xs[i.toNat]? = some x) : atI xs i = some x := by
  have hl := (List.getElem?_eq_some_iff.mp hx).1
  unfold atI ixN
  rw [if_pos h0, if_pos (by omega)]
  exact hx
theorem atI_map {α β : Type} (f : α → β) (xs : List α) (i : Int) : atI (xs.map f) i = (atI xs i).map f := by
  unfold atI
  rw [List.length_map]
  cases ixN xs.length i with
  | none => rfl
  | some j => simp
theorem atI_some {α : Type} {xs : List α} {i : Int} (h0 : 0 ≤ i) (h1 : i < xs.length) : ∃ x, atI xs i = some x ∧ x ∈ xs := by
  have hl : i.toNat < xs.length := by omega
  exact ⟨xs[i.toNat], atI_nat h0 (List.getElem?_eq_getElem hl), List.getElem_mem hl⟩
section
variable {α : Type} {x0 x1 x2 x3 x4 : α} {xs : List α}
@[simp] theorem atI_0 : atI (x0 :: xs) 0 = some x0 := atI_nat (Int.le_refl _) rfl
@[simp] theorem atI_1 : atI (x0 :: x1 :: xs) 1 = some x1 := atI_nat (by decide) rfl
@[simp] theorem atI_2 : atI (x0 :: x1 :: x2 :: xs) 2 = some x2 := atI_nat (by decide) rfl
@[simp] theorem atI_3 : atI (x0 :: x1 :: x2 :: x3 :: xs) 3 = some x3 := atI_nat (by decide) rfl
@[simp] theorem atI_4 : atI (x0 :: x1 :: x2 :: x3 :: x4 :: xs) 4 = some x4 := atI_nat (by decide) rfl
end
/-- the last -/
theorem atI_last {α : Type} {xs : List α} : atI xs (-1) = xs.getLast? := by
  unfold atI ixN
  rw [if_neg (by decide)]
  cases xs with
  | nil => rfl
  | cons x r =>
    have h : -((x :: r).length : Int) ≤ -1 := by
      rw [List.length_cons]
      omega
    rw [if_pos h]
    have e : (-1 + (((x :: r).length : Nat) : Int)).toNat = (x :: r).length - 1 := by
      rw [List.length_cons]
      omega
    show (x :: r)[(-1 + (((x :: r).length : Nat) : Int)).toNat]? = _
    rw [e, List.getLast?_eq_getElem?]
end AB
/-! AB: loops and comprehensions whose source stays; in, all, any, max; what defs hand back. -/
namespace AB
open PySem PySem.Spec PyProof.Rows L2

section
variable {α : Type} {p : Pat} {t : MeT} {e : Me} {body : Ms} {all0 : List D} {G0 : Env} {h : AH}
theorem comp_ok (enc : α → D) (q : α → Bool) (f : α → D) : ∀ (xs : List α), (∀ x ∈ xs, ∃ G1, asg p (enc x) G0 = some G1 ∧ t G1 h = .ok (q x) h ∧ (q x = true → e G1 h = .ok (f x) h)) →
    compGo p t e none all0 G0 (xs.map enc) h = .ok ((xs.filter q).map f) h
  | [], _ => by simp [compGo, Still]
  | x :: xs, hx => by
    obtain ⟨G1, e1, e2, e3⟩ := hx x List.mem_cons_self
    have ih := comp_ok enc q f xs fun y hy => hx y (List.mem_cons_of_mem _ hy)
    rw [List.map_cons]
    unfold compGo
    rw [if_pos (by trivial), e1]
    simp only [e2, Res.noX_ok, Res.bind_ok]
    cases hq : q x with
    | true =>
      rw [if_pos rfl, e3 hq, List.filter_cons_of_pos hq]
      simp only [Res.noX_ok, Res.bind_ok, ih, List.map_cons]
    | false =>
      rw [if_neg (by simp), ih, List.filter_cons_of_neg (by simp [hq])]
/-- every element, with no test -/
theorem comp_all (enc : α → D) (f : α → D) (xs : List α) (hx : ∀ x ∈ xs, ∃ G1, asg p (enc x) G0 = some G1 ∧ e G1 h = .ok (f x) h) : compGo p tYesM e none all0 G0 (xs.map enc) h = .ok (xs.map f) h := by
  have := comp_ok (p := p) (t := tYesM) (e := e) (all0 := all0) (G0 := G0) (h := h) enc (fun _ => true) f xs fun x hm => by
    obtain ⟨G1, e1, e2⟩ := hx x hm
    exact ⟨G1, e1, rfl, fun _ => e2⟩
  rw [this, List.filter_eq_self.mpr fun _ _ => rfl]
/-- with a heap that goes on: what is taken is a sublist -/
theorem comp_inv {I : AH → Prop} (enc : α → D) (f : α → D) : ∀ (xs : List α), (∀ x ∈ xs, ∀ h, I h → ∃ G1 b h1, asg p (enc x) G0 = some G1 ∧ t G1 h = .ok b h1 ∧ I h1 ∧ (b = true → ∃ h2, e G1 h1 = .ok (f x) h2 ∧ I h2)) →
    ∀ h, I h → ∃ (ys : List α) (h' : AH), compGo p t e none all0 G0 (xs.map enc) h = .ok (ys.map f) h' ∧ I h' ∧ ys.Sublist xs
  | [], _, h, hI => ⟨[], h, by simp [compGo, Still], hI, .slnil⟩
  | x :: xs, hx, h, hI => by
    obtain ⟨G1, b, h1, e1, e2, hI1, e3⟩ := hx x List.mem_cons_self h hI
    rw [List.map_cons]
    unfold compGo
    rw [if_pos (by trivial), e1]
    simp only [e2, Res.noX_ok, Res.bind_ok]
    cases b with
    | true =>
      obtain ⟨h2, e4, hI2⟩ := e3 rfl
      obtain ⟨ys, h', e5, hI', sl⟩ := comp_inv enc f xs (fun y hy => hx y (List.mem_cons_of_mem _ hy)) h2 hI2
      refine ⟨x :: ys, h', ?_, hI', sl.cons₂ x⟩
      rw [if_pos rfl, e4]
      simp only [Res.noX_ok, Res.bind_ok, e5, List.map_cons]
    | false =>
      obtain ⟨ys, h', e5, hI', sl⟩ := comp_inv enc f xs (fun y hy => hx y (List.mem_cons_of_mem _ hy)) h1 hI1
      refine ⟨ys, h', ?_, hI', sl.cons x⟩
      rw [if_neg (by simp), e5]
/-- a loop that goes on -/
theorem for_inv (I : Env → AH → Prop) (enc : α → D) : ∀ (xs : List α), (∀ x ∈ xs, ∀ G h, I G h → ∃ G1 G2 h2, asg p (enc x) G = some G1 ∧ body G1 h = .next G2 h2 ∧ I G2 h2) →
    ∀ G h, I G h → ∃ G' h', forGo p body none all0 (xs.map enc) G h = .next G' h' ∧ I G' h'
  | [], _, G, h, hI => ⟨G, h, by simp [forGo, Still], hI⟩
  | x :: xs, hx, G, h, hI => by
    obtain ⟨G1, G2, h2, e1, e2, hI2⟩ := hx x List.mem_cons_self G h hI
    obtain ⟨G', h', e3, hI'⟩ := for_inv I enc xs (fun y hy => hx y (List.mem_cons_of_mem _ hy)) G2 h2 hI2
    refine ⟨G', h', ?_, hI'⟩
    rw [List.map_cons]
    unfold forGo
    rw [if_pos (by trivial), e1]
    simp only [e2, e3]
/-- a loop with a count of its turns -/
theorem for_invN (I : Nat → Env → AH → Prop) (enc : Nat → D) (n : Nat) : ∀ (k j : Nat), k + j = n → (∀ i, i < n → ∀ G h, I i G h → ∃ G1 G2 h2, asg p (enc i) G = some G1 ∧ body G1 h = .next G2 h2 ∧ I (i + 1) G2 h2) →
    ∀ G h, I k G h → ∃ G' h', forGo p body none all0 ((List.range' k j).map enc) G h = .next G' h' ∧ I n G' h'
  | k, 0, hk, _, G, h, hI => ⟨G, h, by simp [forGo, Still], by
    have : k = n := by omega
    rw [← this]
    exact hI⟩
  | k, j + 1, hk, hx, G, h, hI => by
    obtain ⟨G1, G2, h2, e1, e2, hI2⟩ := hx k (by omega) G h hI
    obtain ⟨G', h', e3, hI'⟩ := for_invN I enc n (k + 1) j (by omega) hx G2 h2 hI2
    refine ⟨G', h', ?_, hI'⟩
    rw [List.range'_succ, List.map_cons]
    unfold forGo
    rw [if_pos (by trivial), e1]
    simp only [e2, e3]
/-- a loop that ends at the first one found -/
theorem for_find (I : Env → Prop) (enc : α → D) (q : α → Bool) (r : α → D) : ∀ (xs : List α), (∀ x ∈ xs, ∀ G, I G → ∃ G1, asg p (enc x) G = some G1 ∧ (q x = true → body G1 h = .ret (r x) h) ∧ (q x = false → ∃ G2, body G1 h = .next G2 h ∧ I G2)) →
    ∀ G, I G → (∀ x, xs.find? q = some x → forGo p body none all0 (xs.map enc) G h = .ret (r x) h) ∧ (xs.find? q = none → ∃ G', forGo p body none all0 (xs.map enc) G h = .next G' h ∧ I G')
  | [], _, G, hI => ⟨fun x hx => by simp at hx, fun _ => ⟨G, by simp [forGo, Still], hI⟩⟩
  | x :: xs, hx, G, hI => by
    obtain ⟨G1, e1, e2, e3⟩ := hx x List.mem_cons_self G hI
    cases hq : q x with
    | true =>
      refine ⟨fun y hy => ?_, fun hn => ?_⟩
      · rw [List.find?_cons_of_pos hq] at hy
        cases hy
        rw [List.map_cons]
        unfold forGo
        rw [if_pos (by trivial), e1]
        simp only [e2 hq]
      · rw [List.find?_cons_of_pos hq] at hn
        cases hn
    | false =>
      obtain ⟨G2, e4, hI2⟩ := e3 hq
      obtain ⟨i1, i2⟩ := for_find I enc q r xs (fun y hy => hx y (List.mem_cons_of_mem _ hy)) G2 hI2
      have hf : (x :: xs).find? q = xs.find? q := List.find?_cons_of_neg (by simp [hq])
      have hgo : forGo p body none all0 ((x :: xs).map enc) G h = forGo p body none all0 (xs.map enc) G2 h := by
        rw [List.map_cons]
        conv => lhs; unfold forGo
        rw [if_pos (by trivial), e1]
        simp only [e4]
      rw [hf, hgo]
      exact ⟨i1, i2⟩
end
/-! lists of ints as data -/
theorem toPs_ints : ∀ ns : List Int, toPs (ns.map D.int) = some (ns.map PyData.int)
  | [] => rfl
  | n :: ns => by
    show (match toP (D.int n), toPs (ns.map D.int) with | some p, some ps => some (p :: ps) | _, _ => none) = _
    rw [toPs_ints ns]
    rfl
theorem lay_ints : ∀ ns : List Int, PyData.canLayAll0 (ns.map PyData.int) = true
  | [] => by simp [PyData.canLayAll0]
  | n :: ns => by simp [PyData.canLayAll0, PyData.canLay0, lay_ints ns]
theorem dep_ints : ∀ ns : List Int, PyData.depthAll (ns.map PyData.int) = 0
  | [] => by simp [PyData.depthAll]
  | n :: ns => by simp [PyData.depthAll, PyData.depth, dep_ints ns]
theorem shaped_ints (ns : List Int) : SeqAt.shaped (.tuple (ns.map PyData.int)) = true := by
  simp [SeqAt.shaped, PyData.canLay0, PyData.depth, lay_ints, dep_ints]
theorem okP_ints {h : AH} (ns : List Int) : okP h (.tup (ns.map D.int)) = some (.tuple (ns.map PyData.int)) := by
  unfold okP
  have e : toPh h (.tup (ns.map D.int)) = some (.tuple (ns.map PyData.int)) := by
    show (toPs (ns.map D.int)).map PyData.tuple = _
    rw [toPs_ints]
    rfl
  rw [e]
  simp only [shaped_ints, if_true]
theorem any_ints (k : Int) (ns : List Int) : ((ns.map PyData.int).any fun z => PyData.eqv z (.int k)) = decide (k ∈ ns) := by
  induction ns with
  | nil => rfl
  | cons n ns ih =>
    rw [List.map_cons, List.any_cons, ih]
    simp only [PyData.eqv, List.mem_cons]
    by_cases h : n = k
    · subst h
      simp
    · have h2 : ¬ k = n := fun e => h e.symm
      simp [h, h2]
@[simp] theorem v_inT {h : AH} (k : Int) (ns : List Int) : fIn (.int k) (.tup (ns.map D.int)) h = .ok (.bl (decide (k ∈ ns))) h := by
  unfold fIn inD
  rw [okP_int, okP_ints]
  simp only [any_ints]
/-! lists of flags -/
theorem bls_map {α : Type} (f : α → Bool) : ∀ xs : List α, blsOf (xs.map fun x => D.bl (f x)) = some (xs.map f)
  | [] => rfl
  | x :: xs => by
    show (blsOf (xs.map fun x => D.bl (f x))).map (f x :: ·) = _
    rw [bls_map f xs]
    rfl
@[simp] theorem v_all {α : Type} {h : AH} (f : α → Bool) (xs : List α) : fAll [.lst (xs.map fun x => D.bl (f x))] h = .ok (.bl (xs.all f)) h := by
  have e : lBls [.lst (xs.map fun x => D.bl (f x))] h = some (xs.map f) := bls_map f xs
  unfold fAll
  rw [e]
  simp [List.all_map, Function.comp_def]
@[simp] theorem v_any {α : Type} {h : AH} (f : α → Bool) (xs : List α) : fAny [.lst (xs.map fun x => D.bl (f x))] h = .ok (.bl (xs.any f)) h := by
  have e : lBls [.lst (xs.map fun x => D.bl (f x))] h = some (xs.map f) := bls_map f xs
  unfold fAny
  rw [e]
  simp [List.any_map, Function.comp_def]
theorem ints_map : ∀ ns : List Int, intsOf (ns.map D.int) = some ns
  | [] => rfl
  | n :: ns => by
    show (intsOf (ns.map D.int)).map (n :: ·) = _
    rw [ints_map ns]
    rfl
theorem v_max {h : AH} (n : Int) (ns : List Int) : fMax [.lst (D.int n :: ns.map D.int)] h = .ok (.int (maxI (n :: ns))) h := by
  have e : lInts [.lst (D.int n :: ns.map D.int)] h = some (n :: ns) := ints_map (n :: ns)
  unfold fMax
  rw [e]
@[simp] theorem v_addL {h : AH} (xs ys : List D) : fAdd (.lst xs) (.lst ys) h = if xs.length + ys.length ≤ big then .ok (.lst (xs ++ ys)) h else .stuck := id rfl
@[simp] theorem v_addT {h : AH} (xs ys : List D) : fAdd (.tup xs) (.tup ys) h = if xs.length + ys.length ≤ big then .ok (.tup (xs ++ ys)) h else .stuck := id rfl
@[simp] theorem v_enum {h : AH} {G : Env} {as : MeL} : iEnum as G h = (as G h).bind fun xs h1 => match xs with
  | [.tup ds] => .ok (enumD ds, none) h1
  | [d] => match vI d with
    | some ds => .ok (enumD ds, none) h1
    | none => .stuck
  | _ => .stuck := rfl
@[simp] theorem v_zip {h : AH} {G : Env} {as : MeL} : iZip as G h = (as G h).bind fun xs h1 => match xs with
  | [.tup ds, .tup es] => .ok (pairsD ds es, none) h1
  | [d, e] => match vI d, vI e with
    | some ds, some es => .ok (pairsD ds es, none) h1
    | _, _ => .stuck
  | _ => .stuck := rfl
@[simp] theorem v_mSlT {h : AH} {G : Env} {m : Me} {lo hi : MeO} : mSl m lo hi G h = (m G h).bind fun x h1 => (lo G h1).bind fun l h2 => (hi G h2).bind fun u h3 => match x with
  | .tup ds => .ok (.tup (cutD ds l u)) h3
  | d => match vL h3 d with
    | some ds => .ok (.lst (cutD ds l u)) h3
    | none => .stuck := rfl
@[simp] theorem v_sAsg {h : AH} {G : Env} {p : Pat} {m : Me} : sAsg p m G h = (m G h).toS G fun d h1 => match asg p d G with
  | some G1 => .next G1 h1
  | none => .stuck := rfl
theorem enumD_eq (ds : List D) : enumD ds = (List.range ds.length).map fun i : Nat => D.tup [.int (i : Int), ds.getD i .non] := by
  unfold enumD pairsD rangeD
  apply List.ext_getElem?
  intro i
  by_cases hi : i < ds.length
  · simp [List.getElem?_zip_eq_some, hi, List.getD_eq_getElem?_getD]
  · simp [hi]
theorem rangeD_eq (n : Nat) : rangeD 0 n = (List.range n).map fun i : Nat => D.int (i : Int) := by
  unfold rangeD
  simp
theorem rangeD_from (a n : Nat) : rangeD (a : Int) n = (List.range' a n).map fun i : Nat => D.int (i : Int) := by
  unfold rangeD
  rw [List.range'_eq_map_range, List.map_map]
  apply List.map_congr_left
  intro i _
  simp
theorem enumD_len (ds : List D) : (enumD ds).length = ds.length := by rw [enumD_eq]; simp
/-! what defs hand back -/
theorem okCells_app (h t : AH) : OkCells h.length h (h ++ t) := fun m o hm e => .inl (by rwa [List.getElem?_append_left hm] at e)
theorem finD_app (h t : AH) (d : D) (hd : d.under h.length = true) : finD h.length h d (h ++ t) = .ok d h := by
  unfold finD
  by_cases q : (h ++ t).length = h.length
  · have : t = [] := by
      rw [List.length_append] at q
      exact List.eq_nil_of_length_eq_zero (by omega)
    subst this
    simp
  · rw [if_neg q, if_pos ⟨hd, okCells_app h t⟩, List.take_left']
    rfl
@[simp] theorem finD_same (h : AH) (d : D) : finD h.length h d h = .ok d h := by
  unfold finD
  rw [if_pos rfl]
theorem finL_new (h : AH) (ds : List D) (hd : underL h.length ds = true) : finL h.length h (.loc h.length) (h ++ [.lst ds]) = .ok ds h := by
  unfold finL
  have e : (h ++ [AO.lst ds])[h.length]? = some (.lst ds) := by
    rw [List.getElem?_append_right (Nat.le_refl _), Nat.sub_self]
    rfl
  simp only [e]
  rw [if_pos ⟨Nat.le_refl _, hd, okCells_app h _⟩, List.take_left']
  rfl
theorem under_ints (n : Nat) (ns : List Int) : underL n (ns.map D.int) = true := by
  induction ns with
  | nil => simp [underL]
  | cons k ns ih => simp [underL, ih, D.under]
theorem under_intF {α : Type} (n : Nat) (f : α → Int) (xs : List α) : underL n (xs.map fun x => D.int (f x)) = true := by
  induction xs with
  | nil => simp [underL]
  | cons k ns ih => simp [underL, ih, D.under]
theorem cut_from1 {α : Type} (f : α → D) (xs : List α) : cutD (xs.map f) (some 1) none = (xs.drop 1).map f := by
  unfold cutD
  have e : HT.sIx (xs.map f).length 0 (some 1) = min 1 (xs.map f).length := HT.sIx_nat _ _ 1
  have e2 : HT.sIx (xs.map f).length (xs.map f).length none = (xs.map f).length := rfl
  rw [e, e2]
  cases xs with
  | nil => rfl
  | cons x r =>
    have e3 : min 1 ((x :: r).map f).length = 1 := by
      rw [List.length_map, List.length_cons]
      omega
    rw [e3, List.take_of_length_le (by rw [List.length_drop]; exact Nat.le_refl _), List.map_drop]
theorem cut_to {α : Type} (f : α → D) (xs : List α) (n : Nat) : cutD (xs.map f) none (some (n : Int)) = (xs.take n).map f := by
  unfold cutD
  have e : HT.sIx (xs.map f).length (xs.map f).length (some (n : Int)) = min n (xs.map f).length := HT.sIx_nat _ _ n
  have e2 : HT.sIx (xs.map f).length 0 none = 0 := rfl
  rw [e, e2]
  simp [List.map_take]
theorem pairsD_map {α β : Type} (f : α → D) (g : β → D) (xs : List α) (ys : List β) : pairsD (xs.map f) (ys.map g) = (xs.zip ys).map fun p => D.tup [f p.1, g p.2] := by
  unfold pairsD
  rw [List.zip_map, List.map_map]
  rfl
end AB
namespace My
open PySem AB
/-- is_integer(thing): slots 0=thing -/
noncomputable def b_is_integer : Ms :=
  (sSeq (sRet (mAnd (mIsi .int (mV 0)) (mNot (mIsi .bl (mV 0))))) sNil)
noncomputable def m_is_integer : Fn := mDef 1 1 b_is_integer
/-- writers(history, key): slots 0=history 1=key 2=index 3=deal -/
noncomputable def b_writers : Ms :=
  (sSeq (sRet (mNew (lComp (.tp [(.nm 2), (.nm 3)]) [2, 3] (iEnum (aCons (mV 0) aNil)) (tBl (mOp2 fIn (mV 1) (mOp2 fIx (mV 3) (mC (.int 1))))) (mV 2)))) sNil)
noncomputable def m_writers : FnL := mDefL 2 4 b_writers
/-- _law_pool(script): slots 0=script 1=cell -/
noncomputable def b__law_pool : Ms :=
  (sSeq (sRet (mNew (lLst (aCons (mL (lComp (.nm 1) [1] (iSeq (mSl (mV 0) oNone (oSome (mC (.int 63))))) tYesM (mN fAbs (aCons (mN fInt (aCons (mV 1) aNil)) aNil)))) (aCons (mC (.int 0)) (aCons (mC (.int 0)) (aCons (mOp2 fAdd (mC (.int 1)) (mN fLen (aCons (mV 0) aNil))) (aCons (mC (.int 0)) aNil)))))))) sNil)
noncomputable def m__law_pool : FnL := mDefL 1 2 b__law_pool
/-- _law_draw(pool, many): slots 0=pool 1=many 2=cell 3=digit 4=mixed -/
noncomputable def b__law_draw : Ms :=
  (sSeq (sIf (tAndM (tBl (mOp2 fEq (mOp2 fIx (mV 0) (mC (.int 2))) (mC (.int 0)))) (tBl (mOp2 cLt (mOp2 fIx (mV 0) (mC (.int 1))) (mN fLen (aCons (mOp2 fIx (mV 0) (mC (.int 0))) aNil))))) (sSeq (sSet 2 (mOp2 fIx (mOp2 fIx (mV 0) (mC (.int 0))) (mOp2 fIx (mV 0) (mC (.int 1))))) (sSeq (sSub (mV 0) (mC (.int 1)) (mOp2 fAdd (mOp2 fIx (mV 0) (mC (.int 1))) (mC (.int 1)))) (sSeq (sIf (tBl (mOp2 cGe (mV 2) (mOp2 fPow (mC (.int 10)) (mC (.int 18))))) (sSeq (sSub (mV 0) (mC (.int 2)) (mV 2)) sNil) (sSeq (sSub (mV 0) (mC (.int 3)) (mOp2 fMod (mN fInt (aCons (mOp2 fAdd (mOp2 fAdd (mOp2 fMul (mOp2 fIx (mV 0) (mC (.int 3))) (mC (.int 48271))) (mOp2 fMul (mOp2 fMod (mN fInt (aCons (mV 2) aNil)) (mC (.int 2147483629))) (mC (.int 69621)))) (mOp2 fIx (mV 0) (mC (.int 1)))) aNil)) (mC (.int 2147483647)))) sNil)) sNil))) sNil) (sSeq (sIf (tBl (mOp2 cGt (mOp2 fIx (mV 0) (mC (.int 2))) (mC (.int 0)))) (sSeq (sSet 3 (mOp2 fMod (mN fInt (aCons (mOp2 fIx (mV 0) (mC (.int 2))) aNil)) (mV 1))) (sSeq (sSub (mV 0) (mC (.int 2)) (mOp2 fDiv (mN fInt (aCons (mOp2 fIx (mV 0) (mC (.int 2))) aNil)) (mV 1))) (sSeq (sRet (mV 3)) sNil))) sNil) (sSeq (sSub (mV 0) (mC (.int 4)) (mOp2 fAdd (mOp2 fIx (mV 0) (mC (.int 4))) (mC (.int 1)))) (sSeq (sSub (mV 0) (mC (.int 3)) (mOp2 fMod (mN fInt (aCons (mOp2 fAdd (mOp2 fAdd (mOp2 fMul (mOp2 fIx (mV 0) (mC (.int 3))) (mC (.int 40692))) (mOp2 fMul (mC (.int 7919)) (mOp2 fIx (mV 0) (mC (.int 4))))) (mC (.int 30103))) aNil)) (mC (.int 2147483399)))) (sSeq (sSet 4 (mOp2 fMod (mN fInt (aCons (mOp2 fMul (mOp2 fIx (mV 0) (mC (.int 3))) (mOp2 fAdd (mOp2 fDiv (mOp2 fIx (mV 0) (mC (.int 3))) (mC (.int 1009))) (mC (.int 69621)))) aNil)) (mC (.int 2147483647)))) (sSeq (sSet 4 (mOp2 fMod (mN fInt (aCons (mOp2 fMul (mV 4) (mOp2 fAdd (mOp2 fDiv (mV 4) (mC (.int 2003))) (mC (.int 48271)))) aNil)) (mC (.int 2147483629)))) (sSeq (sRet (mOp2 fMod (mN fInt (aCons (mOp2 fDiv (mV 4) (mC (.int 16))) aNil)) (mV 1))) sNil)))))))
noncomputable def m__law_draw : Fn := mDef 2 5 b__law_draw
/-- _law_flag(told, due): slots 0=told 1=due -/
noncomputable def b__law_flag : Ms :=
  (sSeq (sRet (mAnd (mIsi .bl (mV 0)) (mOp2 fEq (mV 0) (mV 1)))) sNil)
noncomputable def m__law_flag : Fn := mDef 2 2 b__law_flag
/-- _law_last(told, many, key): slots 0=told 1=many 2=key 3=other -/
noncomputable def b__law_last : Ms :=
  (sSeq (sRet (mN fMax (aCons (mOp2 fAdd (mL (lLst (aCons (mOp1 fNeg (mC (.int 1))) aNil))) (mL (lComp (.nm 3) [3] (iRange1 (aCons (mV 1) aNil)) (tBl (mOp2 fIn (mV 2) (mOp2 fIx (mOp2 fIx (mV 0) (mV 3)) (mC (.int 1))))) (mV 3)))) aNil))) sNil)
noncomputable def m__law_last : Fn := mDef 3 4 b__law_last
/-- is_between(thing, least, most): slots 0=thing 1=least 2=most -/
noncomputable def b_is_between : Ms :=
  (sSeq (sRet (mAnd (mN m_is_integer (aCons (mV 0) aNil)) (mChain cLe cLe (mV 1) (mV 0) (mV 2)))) sNil)
noncomputable def m_is_between : Fn := mDef 3 3 b_is_between
/-- suits(history, index, moment): slots 0=history 1=index 2=moment 3=reads 4=writes 5=key 6=source 7=ahead 8=between 9=other -/
noncomputable def b_suits : Ms :=
  (sSeq (sAsg (.tp [(.nm 3), (.nm 4)]) (mOp2 fIx (mV 0) (mV 1))) (sSeq (sFor (.tp [(.nm 5), (.nm 6)]) (iSeq (mV 3)) (sSeq (sSet 7 (mL (lComp (.nm 9) [9] (iSeq (mL (lN m_writers (aCons (mV 0) (aCons (mV 5) aNil))))) (tBl (mOp2 cLt (mV 9) (mV 2))) (mV 9)))) (sSeq (sIf (tBl (mOp2 fNe (mOp2 fIx (mOp2 fAdd (mL (lLst (aCons (mOp1 fNeg (mC (.int 1))) aNil))) (mV 7)) (mOp1 fNeg (mC (.int 1)))) (mV 6))) (sSeq (sRet (mC (.bl false))) sNil) sNil) sNil))) (sSeq (sSet 8 (mL (lComp (.nm 9) [9] (iRange2 (aCons (mV 2) (aCons (mV 1) aNil))) (tOf (mN fAny (aCons (mL (lComp (.nm 5) [5] (iSeq (mV 4)) tYesM (mOp2 fIn (mV 5) (mOp2 fIx (mOp2 fIx (mV 0) (mV 9)) (mC (.int 1)))))) aNil))) (mV 9)))) (sSeq (sRet (mOp2 fEq (mN fLen (aCons (mV 8) aNil)) (mC (.int 0)))) sNil))))
noncomputable def m_suits : Fn := mDef 3 10 b_suits
/-- _law_any(pool, things): slots 0=pool 1=things -/
noncomputable def b__law_any : Ms :=
  (sSeq (sRet (mOp2 fIx (mV 1) (mN m__law_draw (aCons (mV 0) (aCons (mN fLen (aCons (mV 1) aNil)) aNil))))) sNil)
noncomputable def m__law_any : Fn := mDef 2 2 b__law_any
/-- _law_moment(told, one): slots 0=told 1=one 2=reads 3=writes 4=many 5=wrong 6=clash 7=key 8=source -/
noncomputable def b__law_moment : Ms :=
  (sSeq (sAsg (.tp [(.nm 2), (.nm 3)]) (mOp2 fIx (mV 0) (mV 1))) (sSeq (sFor (.nm 4) (iDown (aCons (mV 1) (aCons (mOp1 fNeg (mC (.int 1))) (aCons (mOp1 fNeg (mC (.int 1))) aNil)))) (sSeq (sSet 5 (mL (lComp (.tp [(.nm 7), (.nm 8)]) [7, 8] (iSeq (mV 2)) (tBl (mOp2 fNe (mN m__law_last (aCons (mV 0) (aCons (mV 4) (aCons (mV 7) aNil)))) (mV 8))) (mV 7)))) (sSeq (sSet 6 (mL (lComp (.nm 7) [7] (iSeq (mV 3)) (tBl (mOp2 cGe (mN m__law_last (aCons (mV 0) (aCons (mV 1) (aCons (mV 7) aNil)))) (mV 4))) (mV 7)))) (sSeq (sIf (tAndM (tBl (mOp2 fEq (mN fLen (aCons (mV 5) aNil)) (mC (.int 0)))) (tBl (mOp2 fEq (mN fLen (aCons (mV 6) aNil)) (mC (.int 0))))) (sSeq (sRet (mV 4)) sNil) sNil) sNil)))) (sSeq (sRet (mC .non)) sNil)))
noncomputable def m__law_moment : Fn := mDef 2 9 b__law_moment
/-- are_writes(thing): slots 0=thing 1=key 2=one 3=other -/
noncomputable def b_are_writes : Ms :=
  (sSeq (sIf (tOrM (tNotM (tOf (mIsi .tup (mV 0)))) (tNotM (tOf (mN fAll (aCons (mL (lComp (.nm 1) [1] (iSeq (mV 0)) tYesM (mN m_is_between (aCons (mV 1) (aCons (mC (.int 0)) (aCons (mC (.int 99)) aNil)))))) aNil))))) (sSeq (sRet (mC (.bl false))) sNil) sNil) (sSeq (sRet (mN fAll (aCons (mL (lComp (.tp [(.nm 2), (.nm 3)]) [2, 3] (iZip (aCons (mV 0) (aCons (mSl (mV 0) (oSome (mC (.int 1))) oNone) aNil))) tYesM (mOp2 cLt (mV 2) (mV 3)))) aNil))) sNil))
noncomputable def m_are_writes : Fn := mDef 1 4 b_are_writes
/-- is_read(thing, history): slots 0=thing 1=history -/
noncomputable def b_is_read : Ms :=
  (sSeq (sIf (tOrM (tNotM (tOf (mIsi .tup (mV 0)))) (tOrM (tBl (mOp2 fNe (mN fLen (aCons (mV 0) aNil)) (mC (.int 2)))) (tNotM (tOf (mN m_is_between (aCons (mOp2 fIx (mV 0) (mC (.int 0))) (aCons (mC (.int 0)) (aCons (mC (.int 99)) aNil)))))))) (sSeq (sRet (mC (.bl false))) sNil) sNil) (sSeq (sIf (tNotM (tOf (mN m_is_between (aCons (mOp2 fIx (mV 0) (mC (.int 1))) (aCons (mOp1 fNeg (mC (.int 1))) (aCons (mOp2 fSub (mN fLen (aCons (mV 1) aNil)) (mC (.int 1))) aNil)))))) (sSeq (sRet (mC (.bl false))) sNil) sNil) (sSeq (sRet (mOr (mOp2 fEq (mOp2 fIx (mV 0) (mC (.int 1))) (mOp1 fNeg (mC (.int 1)))) (mOp2 fIn (mOp2 fIx (mV 0) (mC (.int 0))) (mOp2 fIx (mOp2 fIx (mV 1) (mOp2 fIx (mV 0) (mC (.int 1)))) (mC (.int 1)))))) sNil)))
noncomputable def m_is_read : Fn := mDef 2 2 b_is_read
/-- moment_of(history, index): slots 0=history 1=index 2=found 3=moment -/
noncomputable def b_moment_of : Ms :=
  (sSeq (sSet 2 (mL (lComp (.nm 3) [3] (iRange1 (aCons (mOp2 fAdd (mV 1) (mC (.int 1))) aNil)) (tOf (mN m_suits (aCons (mV 0) (aCons (mV 1) (aCons (mV 3) aNil))))) (mV 3)))) (sSeq (sIf (tBl (mOp2 fEq (mN fLen (aCons (mV 2) aNil)) (mC (.int 0)))) (sSeq (sRet (mC .non)) sNil) sNil) (sSeq (sRet (mOp2 fIx (mV 2) (mOp1 fNeg (mC (.int 1))))) sNil)))
noncomputable def m_moment_of : Fn := mDef 2 4 b_moment_of
/-- _law_history(pool, most): slots 0=pool 1=most 2=many 3=names 4=style 5=wrote 6=k 7=found 8=at 9=reads 10=key 11=some 12=ahead 13=way 14=other -/
noncomputable def b__law_history : Ms :=
  (sSeq (sSet 2 (mN m__law_draw (aCons (mV 0) (aCons (mOp2 fAdd (mV 1) (mC (.int 1))) aNil)))) (sSeq (sSet 3 (mN m__law_any (aCons (mV 0) (aCons (mL (lLst (aCons (mN fTup (aCons (mC (.int 0)) (aCons (mC (.int 1)) (aCons (mC (.int 7)) (aCons (mC (.int 99)) aNil))))) (aCons (mN fTup (aCons (mC (.int 3)) (aCons (mC (.int 4)) aNil))) (aCons (mN fTup (aCons (mC (.int 5)) aNil)) (aCons (mN fTup (aCons (mC (.int 0)) (aCons (mC (.int 2)) (aCons (mC (.int 50)) aNil)))) aNil)))))) aNil)))) (sSeq (sSet 4 (mN m__law_draw (aCons (mV 0) (aCons (mC (.int 4)) aNil)))) (sSeq (sSet 5 (mNew (lLst aNil))) (sSeq (sFor (.nm 6) (iRange1 (aCons (mV 2) aNil)) (sSeq (sExpr (mBM fApp (mV 5) (aCons (mN fTuple (aCons (mL (lComp (.nm 10) [10] (iSeq (mV 3)) (tBl (mOp2 fEq (mN m__law_draw (aCons (mV 0) (aCons (mOp2 fAdd (mC (.int 2)) (mN fInt (aCons (mOp2 cGt (mN fLen (aCons (mV 3) aNil)) (mC (.int 2))) aNil))) aNil))) (mC (.int 0)))) (mV 10))) aNil)) aNil))) sNil)) (sSeq (sSet 7 (mNew (lLst aNil))) (sSeq (sFor (.nm 6) (iRange1 (aCons (mV 2) aNil)) (sSeq (sSet 8 (mIf (tBl (mOp2 fEq (mV 4) (mC (.int 0)))) (mV 6) (mN m__law_draw (aCons (mV 0) (aCons (mOp2 fAdd (mV 6) (mC (.int 1))) aNil))))) (sSeq (sSet 9 (mNew (lLst aNil))) (sSeq (sFor (.nm 10) (iSeq (mV 3)) (sSeq (sSet 11 (mOp2 fAdd (mL (lLst (aCons (mOp1 fNeg (mC (.int 1))) aNil))) (mL (lComp (.nm 14) [14] (iRange1 (aCons (mV 2) aNil)) (tAndM (tBl (mOp2 fNe (mV 14) (mV 6))) (tBl (mOp2 fIn (mV 10) (mOp2 fIx (mV 5) (mV 14))))) (mV 14))))) (sSeq (sSet 12 (mL (lComp (.nm 14) [14] (iSeq (mV 11)) (tBl (mOp2 cLt (mV 14) (mV 8))) (mV 14)))) (sSeq (sSet 13 (mN m__law_draw (aCons (mV 0) (aCons (mC (.int 6)) aNil)))) (sSeq (sIf (tAndM (tBl (mOp2 fEq (mV 13) (mC (.int 0)))) (tBl (mOp2 cGt (mV 4) (mC (.int 1))))) (sSeq (sExpr (mBM fApp (mV 9) (aCons (mN fTup (aCons (mV 10) (aCons (mN m__law_any (aCons (mV 0) (aCons (mV 11) aNil))) aNil))) aNil))) sNil) (sSeq (sIf (tBl (mOp2 cLt (mV 13) (mC (.int 4)))) (sSeq (sExpr (mBM fApp (mV 9) (aCons (mN fTup (aCons (mV 10) (aCons (mN fMax (aCons (mOp2 fAdd (mL (lLst (aCons (mOp1 fNeg (mC (.int 1))) aNil))) (mV 12)) aNil)) aNil))) aNil))) sNil) sNil) sNil)) sNil))))) (sSeq (sExpr (mBM fApp (mV 7) (aCons (mN fTup (aCons (mN fTuple (aCons (mV 9) aNil)) (aCons (mOp2 fIx (mV 5) (mV 6)) aNil))) aNil))) sNil))))) (sSeq (sRet (mN fTuple (aCons (mV 7) aNil))) sNil))))))))
noncomputable def m__law_history : Fn := mDef 2 15 b__law_history
/-- are_reads(thing, index, history): slots 0=thing 1=index 2=history 3=pair 4=one 5=other -/
noncomputable def b_are_reads : Ms :=
  (sSeq (sIf (tOrM (tNotM (tOf (mIsi .tup (mV 0)))) (tNotM (tOf (mN fAll (aCons (mL (lComp (.nm 3) [3] (iSeq (mV 0)) tYesM (mN m_is_read (aCons (mV 3) (aCons (mV 2) aNil))))) aNil))))) (sSeq (sRet (mC (.bl false))) sNil) sNil) (sSeq (sIf (tOf (mN fAny (aCons (mL (lComp (.nm 3) [3] (iSeq (mV 0)) tYesM (mOp2 fEq (mOp2 fIx (mV 3) (mC (.int 1))) (mV 1)))) aNil))) (sSeq (sRet (mC (.bl false))) sNil) sNil) (sSeq (sRet (mN fAll (aCons (mL (lComp (.tp [(.nm 4), (.nm 5)]) [4, 5] (iZip (aCons (mV 0) (aCons (mSl (mV 0) (oSome (mC (.int 1))) oNone) aNil))) tYesM (mOp2 cLt (mOp2 fIx (mV 4) (mC (.int 0))) (mOp2 fIx (mV 5) (mC (.int 0)))))) aNil))) sNil)))
noncomputable def m_are_reads : Fn := mDef 3 6 b_are_reads
/-- is_history(thing): slots 0=thing 1=deal 2=index -/
noncomputable def b_is_history : Ms :=
  (sSeq (sIf (tOrM (tNotM (tOf (mIsi .tup (mV 0)))) (tBl (mOp2 cGt (mN fLen (aCons (mV 0) aNil)) (mC (.int 12))))) (sSeq (sRet (mC (.bl false))) sNil) sNil) (sSeq (sIf (tNotM (tOf (mN fAll (aCons (mL (lComp (.nm 1) [1] (iSeq (mV 0)) tYesM (mAnd (mIsi .tup (mV 1)) (mAnd (mOp2 fEq (mN fLen (aCons (mV 1) aNil)) (mC (.int 2))) (mN m_are_writes (aCons (mOp2 fIx (mV 1) (mC (.int 1))) aNil)))))) aNil)))) (sSeq (sRet (mC (.bl false))) sNil) sNil) (sSeq (sRet (mN fAll (aCons (mL (lComp (.tp [(.nm 2), (.nm 1)]) [2, 1] (iEnum (aCons (mV 0) aNil)) tYesM (mN m_are_reads (aCons (mOp2 fIx (mV 1) (mC (.int 0))) (aCons (mV 2) (aCons (mV 0) aNil)))))) aNil))) sNil)))
noncomputable def m_is_history : Fn := mDef 1 3 b_is_history
/-- check_history(thing): slots 0=thing -/
noncomputable def b_check_history : Ms :=
  (sSeq (sIf (tNotM (tOf (mN m_is_history (aCons (mV 0) aNil)))) (sSeq sNever sNil) sNil) sNil)
noncomputable def m_check_history : Fn := mDef 1 1 b_check_history
/-- moments(history): slots 0=history 1=index -/
noncomputable def b_moments : Ms :=
  (sSeq (sExpr (mN m_check_history (aCons (mV 0) aNil))) (sSeq (sRet (mN fTuple (aCons (mL (lComp (.nm 1) [1] (iRange1 (aCons (mN fLen (aCons (mV 0) aNil)) aNil)) tYesM (mN m_moment_of (aCons (mV 0) (aCons (mV 1) aNil))))) aNil))) sNil))
noncomputable def m_moments : Fn := mDef 1 2 b_moments
/-- by_snapshots(history): slots 0=history 1=index -/
noncomputable def b_by_snapshots : Ms :=
  (sSeq (sExpr (mN m_check_history (aCons (mV 0) aNil))) (sSeq (sRet (mOp2 fNotIn (mC .non) (mL (lComp (.nm 1) [1] (iRange1 (aCons (mN fLen (aCons (mV 0) aNil)) aNil)) tYesM (mN m_moment_of (aCons (mV 0) (aCons (mV 1) aNil))))))) sNil))
noncomputable def m_by_snapshots : Fn := mDef 1 2 b_by_snapshots
/-- law(script): slots 0=script 1=pool 2=turn 3=told 4=due 5=found 6=more 7=skew 8=lost 9=one -/
noncomputable def b_law : Ms :=
  (sSeq (sSet 1 (mNew (lN m__law_pool (aCons (mV 0) aNil)))) (sSeq (sFor (.nm 2) (iRange1 (aCons (mC (.int 5)) aNil)) (sSeq (sSet 3 (mN m__law_history (aCons (mV 1) (aCons (mIf (tBl (mOp2 fEq (mN m__law_draw (aCons (mV 1) (aCons (mC (.int 3)) aNil))) (mC (.int 0)))) (mC (.int 12)) (mC (.int 5))) aNil)))) (sSeq (sSet 4 (mN fTuple (aCons (mL (lComp (.nm 9) [9] (iRange1 (aCons (mN fLen (aCons (mV 3) aNil)) aNil)) tYesM (mN m__law_moment (aCons (mV 3) (aCons (mV 9) aNil))))) aNil))) (sSeq (sSet 5 (mN m_moments (aCons (mV 3) aNil))) (sSeq (sIf (tOrM (tNotM (tOf (mIsi .tup (mV 5)))) (tBl (mOp2 fNeS (mN fRepr (aCons (mV 5) aNil)) (mN fRepr (aCons (mV 4) aNil))))) (sSeq (sRet (mC (.bl false))) sNil) sNil) (sSeq (sIf (tNotM (tOf (mN m__law_flag (aCons (mN m_by_snapshots (aCons (mV 3) aNil)) (aCons (mOp2 fNotIn (mC .non) (mV 4)) aNil))))) (sSeq (sRet (mC (.bl false))) sNil) sNil) (sSeq (sIf (tBl (mOp2 cLt (mN fLen (aCons (mV 3) aNil)) (mC (.int 12)))) (sSeq (sSet 6 (mOp2 fAdd (mV 3) (mN fTup (aCons (mN fTup (aCons (mN fTup aNil) (aCons (mN fTup (aCons (mC (.int 0)) (aCons (mC (.int 1)) (aCons (mC (.int 3)) (aCons (mC (.int 5)) (aCons (mC (.int 99)) aNil)))))) aNil))) aNil)))) (sSeq (sIf (tOrM (tBl (mOp2 fNe (mSl (mN m_moments (aCons (mV 6) aNil)) oNone (oSome (mN fLen (aCons (mV 3) aNil)))) (mV 4))) (tBl (mOp2 fNe (mN m_moments (aCons (mV 6) aNil)) (mOp2 fAdd (mV 4) (mN fTup (aCons (mN m__law_moment (aCons (mV 6) (aCons (mN fLen (aCons (mV 3) aNil)) aNil))) aNil)))))) (sSeq (sRet (mC (.bl false))) sNil) sNil) sNil)) sNil) sNil))))))) (sSeq (sSet 7 (mN fTup (aCons (mN fTup (aCons (mN fTup (aCons (mN fTup (aCons (mC (.int 0)) (aCons (mOp1 fNeg (mC (.int 1))) aNil))) (aCons (mN fTup (aCons (mC (.int 1)) (aCons (mOp1 fNeg (mC (.int 1))) aNil))) aNil))) (aCons (mN fTup (aCons (mC (.int 0)) aNil)) aNil))) (aCons (mN fTup (aCons (mN fTup (aCons (mN fTup (aCons (mC (.int 0)) (aCons (mOp1 fNeg (mC (.int 1))) aNil))) (aCons (mN fTup (aCons (mC (.int 1)) (aCons (mOp1 fNeg (mC (.int 1))) aNil))) aNil))) (aCons (mN fTup (aCons (mC (.int 1)) aNil)) aNil))) aNil)))) (sSeq (sSet 8 (mN fTup (aCons (mN fTup (aCons (mN fTup (aCons (mN fTup (aCons (mC (.int 3)) (aCons (mOp1 fNeg (mC (.int 1))) aNil))) aNil)) (aCons (mN fTup (aCons (mC (.int 3)) aNil)) aNil))) (aCons (mN fTup (aCons (mN fTup (aCons (mN fTup (aCons (mC (.int 3)) (aCons (mOp1 fNeg (mC (.int 1))) aNil))) aNil)) (aCons (mN fTup (aCons (mC (.int 3)) aNil)) aNil))) aNil)))) (sSeq (sIf (tOrM (tBl (mOp2 fNe (mN m_moments (aCons (mV 7) aNil)) (mN fTup (aCons (mC (.int 0)) (aCons (mC (.int 0)) aNil))))) (tOrM (tBl (mOp2 fNotB (mN m_by_snapshots (aCons (mV 7) aNil)) (mC (.bl true)))) (tBl (mOp2 fNe (mN m_moments (aCons (mV 8) aNil)) (mN fTup (aCons (mC (.int 0)) (aCons (mC .non) aNil))))))) (sSeq (sRet (mC (.bl false))) sNil) sNil) (sSeq (sRet (mAnd (mOp2 fEq (mN m_moments (aCons (mN fTup aNil) aNil)) (mN fTup aNil)) (mAnd (mOp2 fIsB (mN m_by_snapshots (aCons (mN fTup aNil) aNil)) (mC (.bl true))) (mOp2 fIsB (mN m_by_snapshots (aCons (mV 8) aNil)) (mC (.bl false)))))) sNil))))))
noncomputable def m_law : Fn := mDef 1 10 b_law
end My
namespace My
open PySem AB L2
def pool (cs : List Int) (a b s t : Int) : AO := .lst [.lst (cs.map .int), .int a, .int b, .int s, .int t]
def IsP (cs : List Int) (o : AO) : Prop := ∃ a b s t, o = pool cs a b s t ∧ 0 ≤ a ∧ a ≤ cs.length ∧ 0 ≤ b
theorem mod_lo (k : Int) (hk : 0 < k) (x : Int) : -1152921504606846976 ≤ x % k := by
  have := Int.emod_nonneg x (show k ≠ 0 by omega)
  omega
theorem mod_hi (k : Int) (hk : 0 < k) (hk2 : k ≤ 2147483647) (x : Int) : x % k ≤ 1152921504606846976 := by
  have := Int.emod_lt_of_pos x hk
  omega
theorem draw_ok {cs : List Int} (hc : ∀ c ∈ cs, 0 ≤ c) {P : AO} (hP : IsP cs P) {many : Int} (h1 : 1 ≤ many) (h2 : many ≤ 1000000) (tl : AH) :
    ∃ r P', m__law_draw [.loc 0, .int many] (P :: tl) = .ok (.int r) (P' :: tl) ∧ IsP cs P' ∧ 0 ≤ r ∧ r < many := by
  have hm : 0 < many := by omega
  have hm60 : many ≤ 1152921504606846976 := by omega
  have mm : ∀ x : Int, 0 ≤ x % many ∧ x % many < many := fun x => ⟨Int.emod_nonneg x (by omega), Int.emod_lt_of_pos x hm⟩
  have l1 := mod_lo 2147483647 (by decide)
  have l2 := mod_lo 2147483399 (by decide)
  have u1 := mod_hi 2147483647 (by decide) (by decide)
  have u2 := mod_hi 2147483399 (by decide) (by decide)
  obtain ⟨a, b, s, t, rfl, ha, ha2, hb⟩ := hP
  by_cases c1 : b = 0 ∧ a < cs.length
  · obtain ⟨rfl, c1⟩ := c1
    obtain ⟨c, hcx, hcm⟩ := atI_some ha c1
    have hc0 := hc c hcm
    by_cases c2 : 1000000000000000000 ≤ c
    · have c3 : 0 < c := by omega
      simp [m__law_draw, mDef, b__law_draw, pool, ixN, c1, atI_map, hcx, c2, c3, hm, hm60, finD]
      exact ⟨_, _, ⟨rfl, rfl⟩, ⟨_, _, _, _, rfl, by omega, by omega, Int.ediv_nonneg hc0 (by omega)⟩, mm _⟩
    · simp [m__law_draw, mDef, b__law_draw, pool, ixN, c1, atI_map, hcx, c2, hm, hm60, finD, l1, l2, u1, u2]
      exact ⟨_, _, ⟨rfl, rfl⟩, ⟨_, _, _, _, rfl, by omega, by omega, by omega⟩, mm _⟩
  · by_cases c2 : 0 < b
    · have c3 : ¬ b = 0 := by omega
      simp [m__law_draw, mDef, b__law_draw, pool, ixN, c3, c2, hm, hm60, finD]
      exact ⟨_, _, ⟨rfl, rfl⟩, ⟨_, _, _, _, rfl, by omega, by omega, Int.ediv_nonneg hb (by omega)⟩, mm _⟩
    · have c3 : b = 0 := by omega
      subst c3
      have c4 : ¬ a < cs.length := fun z => c1 ⟨rfl, z⟩
      simp [m__law_draw, mDef, b__law_draw, pool, ixN, c4, hm, hm60, finD, l1, l2, u1, u2]
      exact ⟨_, _, ⟨rfl, rfl⟩, ⟨_, _, _, _, rfl, by omega, by omega, by omega⟩, mm _⟩
end My
namespace My
open PySem AB L2
abbrev Deal := List (Int × Int) × List Int
def nilD : Deal := ([], [])
def rD (r : Int × Int) : D := .tup [.int r.1, .int r.2]
def dD (d : Deal) : D := .tup [.tup (d.1.map rD), .tup (d.2.map .int)]
def hD (H : List Deal) : D := .tup (H.map dD)
def rd (H : List Deal) (i : Nat) : List (Int × Int) := (H.getD i nilD).1
def wr (H : List Deal) (i : Nat) : List Int := (H.getD i nilD).2
theorem get_deal {H : List Deal} {i : Int} (h0 : 0 ≤ i) (h1 : i < H.length) : atI (H.map dD) i = some (.tup [.tup ((rd H i.toNat).map rD), .tup ((wr H i.toNat).map .int)]) := by
  rw [atI_map]
  have hl : i.toNat < H.length := by omega
  rw [atI_nat h0 (List.getElem?_eq_getElem hl)]
  unfold rd wr
  rw [List.getD_eq_getElem?_getD, List.getElem?_eq_getElem hl]
  rfl
@[simp] theorem is_integer_ok {h : AH} (i : Int) : m_is_integer [.int i] h = .ok (.bl true) h := by
  simp [m_is_integer, mDef, b_is_integer, Ty.sub]
@[simp] theorem is_between_ok {h : AH} (i a b : Int) : m_is_between [.int i, .int a, .int b] h = .ok (.bl (decide (a ≤ i) && decide (i ≤ b))) h := by
  by_cases c : a ≤ i
  · simp [m_is_between, mDef, b_is_between, c]
  · simp [m_is_between, mDef, b_is_between, c]
theorem writers_ok {h : AH} (H : List Deal) (k : Int) (hl : H.length ≤ 1000) : m_writers [hD H, .int k] h = .ok (((List.range H.length).filter fun i => decide (k ∈ wr H i)).map fun i : Nat => .int (i : Int)) h := by
  have hc : ∀ all0, compGo (.tp [.nm 2, .nm 3]) (tBl (mOp2 fIn (mV 1) (mOp2 fIx (mV 3) (mC (.int 1))))) (mV 2) none all0 [some (hD H), some (.int k), none, none] (enumD (H.map dD)) h
      = .ok (((List.range H.length).filter fun i => decide (k ∈ wr H i)).map fun i : Nat => .int (i : Int)) h := by
    intro all0
    rw [enumD_eq, List.length_map]
    refine comp_ok _ _ _ _ fun i hi => ?_
    have hi : i < H.length := List.mem_range.mp hi
    have e : (H.map dD).getD i .non = .tup [.tup ((rd H i).map rD), .tup ((wr H i).map .int)] := by
      unfold rd wr
      rw [List.getD_eq_getElem?_getD, List.getElem?_map, List.getD_eq_getElem?_getD, List.getElem?_eq_getElem hi]
      rfl
    refine ⟨[some (hD H), some (.int k), some (.int (i : Int)), some (.tup [.tup ((rd H i).map rD), .tup ((wr H i).map .int)])], ?_, ?_, ?_⟩
    · rw [e]
      simp [asg, asgs]
    · simp
    · simp
  have hb : (enumD (H.map dD)).length ≤ big := by
    rw [enumD_len, List.length_map, big_eq]
    omega
  simp [m_writers, mDefL, b_writers, wipeG, hD] at hc ⊢
  simp [hb, hc]
  exact finL_new h _ (under_intF _ _ _)
theorem asc_zip {ws : List Int} (h : ws.Pairwise (· < ·)) : ∀ p ∈ ws.zip (ws.drop 1), p.1 < p.2 := by
  induction ws with
  | nil => simp
  | cons w ws ih =>
    cases ws with
    | nil => simp
    | cons x r =>
      intro p hp
      rw [List.drop_succ_cons, List.drop_zero, List.zip_cons_cons] at hp
      rcases List.mem_cons.mp hp with rfl | hp
      · exact (List.pairwise_cons.mp h).1 x List.mem_cons_self
      · exact ih (List.pairwise_cons.mp h).2 p (by simpa using hp)
/-- right writes -/
structure WOk (ws : List Int) : Prop where
  asc : ws.Pairwise (· < ·)
  bd : ∀ k ∈ ws, 0 ≤ k ∧ k ≤ 99
  len : ws.length ≤ 1000
theorem are_writes_ok {h : AH} {ws : List Int} (w : WOk ws) : m_are_writes [.tup (ws.map .int)] h = .ok (.bl true) h := by
  have h1 : ∀ all0, compGo (.nm 1) tYesM (mN m_is_between (aCons (mV 1) (aCons (mC (.int 0)) (aCons (mC (.int 99)) aNil)))) none all0 [some (.tup (ws.map .int)), none, none, none] (ws.map .int) h = .ok (ws.map fun _ => .bl true) h :=
    fun all0 => comp_all _ _ _ fun k hk => ⟨_, rfl, by simp [w.bd k hk]⟩
  have h2 : ∀ all0 G, compGo (.tp [.nm 2, .nm 3]) tYesM (mOp2 cLt (mV 2) (mV 3)) none all0 (some (.tup (ws.map .int)) :: G :: none :: none :: []) (pairsD (ws.map .int) (cutD (ws.map .int) (some 1) none)) h = .ok ((ws.zip (ws.drop 1)).map fun _ => .bl true) h := by
    intro all0 G
    rw [cut_from1, pairsD_map]
    exact comp_all _ _ _ fun p hp => ⟨_, rfl, by simp [asc_zip w.asc p hp]⟩
  have l1 : ws.length ≤ big := by rw [big_eq]; have := w.len; omega
  have l2 : (pairsD (ws.map .int) (cutD (ws.map .int) (some 1) none)).length ≤ big := by
    rw [cut_from1, pairsD_map]
    simp
    omega
  simp [m_are_writes, mDef, b_are_writes, wipeG, Ty.sub, l1, h1, l2, h2]
/-- right reads of deal i -/
structure ROk (H : List Deal) (i : Nat) (rs : List (Int × Int)) : Prop where
  asc : (rs.map (·.1)).Pairwise (· < ·)
  bd : ∀ r ∈ rs, 0 ≤ r.1 ∧ r.1 ≤ 99
  src : ∀ r ∈ rs, r.2 = -1 ∨ (0 ≤ r.2 ∧ r.2 < H.length ∧ r.1 ∈ wr H r.2.toNat)
  own : ∀ r ∈ rs, r.2 ≠ i
  len : rs.length ≤ 1000
theorem is_read_ok {h : AH} {H : List Deal} {r : Int × Int} (b : 0 ≤ r.1 ∧ r.1 ≤ 99) (s : r.2 = -1 ∨ (0 ≤ r.2 ∧ r.2 < H.length ∧ r.1 ∈ wr H r.2.toNat)) : m_is_read [rD r, hD H] h = .ok (.bl true) h := by
  obtain ⟨k, t⟩ := r
  simp only at b s
  rcases s with s | ⟨s0, s1, s2⟩
  · subst s
    have e : ¬ (H.length : Int) - 1 < -1 := by omega
    simp [m_is_read, mDef, b_is_read, rD, hD, Ty.sub, b, e]
  · have e := get_deal s0 s1
    have ne : ¬ t = -1 := by omega
    have l1 : -1 ≤ t := by omega
    have l2 : t ≤ (H.length : Int) - 1 := by omega
    simp [m_is_read, mDef, b_is_read, rD, hD, Ty.sub, b, ne, l1, l2, e, s2]
theorem asc_zipR {rs : List (Int × Int)} (h : (rs.map (·.1)).Pairwise (· < ·)) : ∀ p ∈ rs.zip (rs.drop 1), p.1.1 < p.2.1 := by
  induction rs with
  | nil => simp
  | cons w ws ih =>
    cases ws with
    | nil => simp
    | cons x r =>
      intro p hp
      rw [List.drop_succ_cons, List.drop_zero, List.zip_cons_cons] at hp
      rw [List.map_cons, List.map_cons] at h
      rcases List.mem_cons.mp hp with rfl | hp
      · exact (List.pairwise_cons.mp h).1 _ List.mem_cons_self
      · exact ih (by rw [List.map_cons]; exact (List.pairwise_cons.mp h).2) p (by simpa using hp)
theorem are_reads_ok {h : AH} {H : List Deal} {i : Nat} {rs : List (Int × Int)} (w : ROk H i rs) : m_are_reads [.tup (rs.map rD), .int (i : Int), hD H] h = .ok (.bl true) h := by
  have h1 : ∀ (all0 : List D) (a b d f g : Option D), compGo (.nm 3) tYesM (mN m_is_read (aCons (mV 3) (aCons (mV 2) aNil))) none all0 [a, b, some (hD H), d, f, g] (rs.map rD) h = .ok (rs.map fun _ => .bl true) h :=
    fun all0 a b d f g => comp_all _ _ _ fun r hr => ⟨_, rfl, by simp [is_read_ok (w.bd r hr) (w.src r hr)]⟩
  have h2 : ∀ (all0 : List D) (a c d f g : Option D), compGo (.nm 3) tYesM (mOp2 fEq (mOp2 fIx (mV 3) (mC (.int 1))) (mV 1)) none all0 [a, some (.int (i : Int)), c, d, f, g] (rs.map rD) h = .ok (rs.map fun _ => .bl false) h :=
    fun all0 a c d f g => comp_all _ _ _ fun r hr => ⟨_, rfl, by simp [rD, w.own r hr]⟩
  have h3 : ∀ (all0 : List D) (b c d : Option D), compGo (.tp [.nm 4, .nm 5]) tYesM (mOp2 cLt (mOp2 fIx (mV 4) (mC (.int 0))) (mOp2 fIx (mV 5) (mC (.int 0)))) none all0 [some (.tup (rs.map rD)), b, c, d, none, none] (pairsD (rs.map rD) (cutD (rs.map rD) (some 1) none)) h = .ok ((rs.zip (rs.drop 1)).map fun _ => .bl true) h := by
    intro all0 b c d
    rw [cut_from1, pairsD_map]
    exact comp_all _ _ _ fun p hp => ⟨_, rfl, by simp [rD, asc_zipR w.asc p hp]⟩
  have l1 : rs.length ≤ big := by rw [big_eq]; have := w.len; omega
  have l2 : (pairsD (rs.map rD) (cutD (rs.map rD) (some 1) none)).length ≤ big := by
    rw [cut_from1, pairsD_map]
    simp
    omega
  simp [m_are_reads, mDef, b_are_reads, wipeG, Ty.sub, l1, h1, l2, h2, h3]
/-- a right history -/
structure Wf (H : List Deal) : Prop where
  len : H.length ≤ 12
  w : ∀ i, i < H.length → WOk (wr H i)
  r : ∀ i, i < H.length → ROk H i (rd H i)
theorem dD_getD {H : List Deal} {i : Nat} (hi : i < H.length) : (H.map dD).getD i .non = .tup [.tup ((rd H i).map rD), .tup ((wr H i).map .int)] := by
  unfold rd wr
  rw [List.getD_eq_getElem?_getD, List.getElem?_map, List.getD_eq_getElem?_getD, List.getElem?_eq_getElem hi]
  rfl
theorem hD_range (H : List Deal) : H.map dD = (List.range H.length).map fun i => D.tup [.tup ((rd H i).map rD), .tup ((wr H i).map .int)] := by
  apply List.ext_getElem?
  intro i
  by_cases hi : i < H.length
  · have := dD_getD hi
    rw [List.getD_eq_getElem?_getD] at this
    simp [hi] at this ⊢
    exact this
  · simp [hi]
theorem is_history_ok {h : AH} {H : List Deal} (w : Wf H) : m_is_history [hD H] h = .ok (.bl true) h := by
  have h1 : ∀ (all0 : List D) (a c : Option D), compGo (.nm 1) tYesM (mAnd (mIsi .tup (mV 1)) (mAnd (mOp2 fEq (mN fLen (aCons (mV 1) aNil)) (mC (.int 2))) (mN m_are_writes (aCons (mOp2 fIx (mV 1) (mC (.int 1))) aNil)))) none all0 [a, none, c] (H.map dD) h = .ok ((List.range H.length).map fun _ => .bl true) h := by
    intro all0 a c
    rw [hD_range]
    exact comp_all _ _ _ fun i hi => ⟨_, rfl, by simp [Ty.sub, are_writes_ok (w.w i (List.mem_range.mp hi))]⟩
  have h2 : ∀ (all0 : List D), compGo (.tp [.nm 2, .nm 1]) tYesM (mN m_are_reads (aCons (mOp2 fIx (mV 1) (mC (.int 0))) (aCons (mV 2) (aCons (mV 0) aNil)))) none all0 [some (hD H), none, none] (enumD (H.map dD)) h = .ok ((List.range H.length).map fun _ => .bl true) h := by
    intro all0
    rw [enumD_eq, List.length_map]
    refine comp_all _ _ _ fun i hi => ?_
    have hi := List.mem_range.mp hi
    exact ⟨[some (hD H), some (.tup [.tup ((rd H i).map rD), .tup ((wr H i).map .int)]), some (.int i)], by rw [dD_getD hi]; rfl, by simp [are_reads_ok (w.r i hi)]⟩
  have l1 := w.len
  have l2 : H.length ≤ big := by rw [big_eq]; omega
  have l3 : (enumD (H.map dD)).length ≤ big := by rw [enumD_len, List.length_map]; exact l2
  have l4 : ¬ 12 < (H.length : Int) := by omega
  have e : hD H = .tup (H.map dD) := rfl
  rw [e] at h2 ⊢
  simp [m_is_history, mDef, b_is_history, wipeG, Ty.sub, l2, l3, l4, h1, h2]
theorem check_history_ok {h : AH} {H : List Deal} (w : Wf H) : m_check_history [hD H] h = .ok .non h := by
  simp [m_check_history, mDef, b_check_history, is_history_ok w]
end My
namespace My
open PySem AB L2
abbrev iD (i : Nat) : D := .int (i : Int)
@[simp] theorem vS_hD {h : AH} {H : List Deal} : vS h (hD H) = some (H.map dD) := rfl
@[simp] theorem ty_hD {h : AH} {H : List Deal} : tyD h (hD H) = some .tup := rfl
@[simp] theorem len_hD {h : AH} {H : List Deal} : fLen [hD H] h = .ok (.int H.length) h := by simp [hD]
/-- the writers of a key -/
def ws (H : List Deal) (k : Int) : List Nat := (List.range H.length).filter fun i => decide (k ∈ wr H i)
def lastI (l : List Nat) : Int := match l.getLast? with
  | none => -1
  | some i => i
def ahead (H : List Deal) (m : Nat) (k : Int) : List Nat := (ws H k).filter fun i => decide (i < m)
def goodR (H : List Deal) (i m : Nat) : Bool := (rd H i).all fun r => decide (lastI (ahead H m r.1) = r.2)
def clear (H : List Deal) (i m : Nat) : Bool := ((List.range' m (i - m)).filter fun o => (wr H i).any fun k => decide (k ∈ wr H o)).length == 0
theorem ws_le {H : List Deal} {k : Int} : (ws H k).length ≤ H.length := by
  have := List.length_filter_le (fun i => decide (k ∈ wr H i)) (List.range H.length)
  simpa [ws] using this
theorem last_cons (l : List Nat) : (D.int (-1) :: l.map fun i : Nat => D.int (i : Int)).getLast? = some (.int (lastI l)) := by
  unfold lastI
  cases h : l.getLast? with
  | none =>
    rw [List.getLast?_eq_none_iff] at h
    subst h
    rfl
  | some i =>
    rw [List.getLast?_cons, List.getLast?_map, h]
    rfl
theorem nat_lt (i m : Nat) : decide ((i : Int) < (m : Int)) = decide (i < m) := by
  simp
theorem reads_body {h : AH} {H : List Deal} (w : Wf H) {i m : Nat} (hi : i < H.length) (a b c : Option D) (r : Int × Int) :
    ∃ G1, asg (.tp [.nm 5, .nm 6]) (rD r) [some (hD H), some (iD i), some (iD m), some (.tup ((rd H i).map rD)), some (.tup ((wr H i).map .int)), a, b, c, none, none] = some G1 ∧
      ((sSeq (sSet 7 (mL (lComp (.nm 9) [9] (iSeq (mL (lN m_writers (aCons (mV 0) (aCons (mV 5) aNil))))) (tBl (mOp2 cLt (mV 9) (mV 2))) (mV 9)))) (sSeq (sIf (tBl (mOp2 fNe (mOp2 fIx (mOp2 fAdd (mL (lLst (aCons (mOp1 fNeg (mC (.int 1))) aNil))) (mV 7)) (mOp1 fNeg (mC (.int 1)))) (mV 6))) (sSeq (sRet (mC (.bl false))) sNil) sNil) sNil)) : Ms) G1 h =
        (if lastI (ahead H m r.1) = r.2 then .next [some (hD H), some (iD i), some (iD m), some (.tup ((rd H i).map rD)), some (.tup ((wr H i).map .int)), some (.int r.1), some (.int r.2), some (.lst ((ahead H m r.1).map iD)), none, none] h else .ret (.bl false) h) := by
  have hl := w.len
  refine ⟨[some (hD H), some (iD i), some (iD m), some (.tup ((rd H i).map rD)), some (.tup ((wr H i).map .int)), some (.int r.1), some (.int r.2), c, none, none], rfl, ?_⟩
  have hw := writers_ok (h := h) H r.1 (by omega)
  have hc : ∀ all0 G7, compGo (.nm 9) (tBl (mOp2 cLt (mV 9) (mV 2))) (mV 9) none all0 [some (hD H), some (iD i), some (iD m), some (.tup ((rd H i).map rD)), some (.tup ((wr H i).map .int)), some (.int r.1), some (.int r.2), G7, none, none] ((ws H r.1).map iD) h = .ok ((ahead H m r.1).map iD) h := by
    intro all0 G7
    refine comp_ok _ (fun i => decide (i < m)) _ _ fun o ho => ?_
    exact ⟨_, rfl, by simp [iD, nat_lt], by simp⟩
  have e1 : ((List.range H.length).filter fun i => decide (r.1 ∈ wr H i)).map (fun i : Nat => D.int (i : Int)) = (ws H r.1).map iD := rfl
  rw [e1] at hw
  have l1 : (ws H r.1).length ≤ big := by rw [big_eq]; have := ws_le (H := H) (k := r.1); omega
  have l2 : 1 + (ahead H m r.1).length ≤ big := by
    have h1 : (ahead H m r.1).length ≤ (ws H r.1).length := List.length_filter_le _ _
    rw [big_eq]
    have := ws_le (H := H) (k := r.1)
    omega
  have l3 : atI (D.int (-1) :: (ahead H m r.1).map iD) (-1) = some (.int (lastI (ahead H m r.1))) := by
    rw [AB.atI_last]
    exact last_cons _
  have b1 : (1 : Nat) ≤ big := by decide
  simp [hw, hc, l1, wipeG, l2, l3, b1]
  by_cases q : lastI (ahead H m r.1) = r.2
  · simp [q]
  · simp [q]

def suitsB (H : List Deal) (i m : Nat) : Bool := goodR H i m && clear H i m
theorem suits_ok {h : AH} {H : List Deal} (w : Wf H) {i m : Nat} (hi : i < H.length) (hm : m ≤ i) : m_suits [hD H, .int i, .int m] h = .ok (.bl (suitsB H i m)) h := by
  have hl := w.len
  have e0 : atI (H.map dD) (i : Int) = some (.tup [.tup ((rd H i).map rD), .tup ((wr H i).map .int)]) := by
    have := get_deal (H := H) (i := (i : Int)) (by omega) (by omega)
    simpa using this
  have lr : (rd H i).length ≤ big := by rw [big_eq]; have := (w.r i hi).len; omega
  have lw : (wr H i).length ≤ big := by rw [big_eq]; have := (w.w i hi).len; omega
  -- the reads
  have hf := fun all0 : List D => for_find (p := .tp [.nm 5, .nm 6]) (all0 := all0) (h := h) (body := (sSeq (sSet 7 (mL (lComp (.nm 9) [9] (iSeq (mL (lN m_writers (aCons (mV 0) (aCons (mV 5) aNil))))) (tBl (mOp2 cLt (mV 9) (mV 2))) (mV 9)))) (sSeq (sIf (tBl (mOp2 fNe (mOp2 fIx (mOp2 fAdd (mL (lLst (aCons (mOp1 fNeg (mC (.int 1))) aNil))) (mV 7)) (mOp1 fNeg (mC (.int 1)))) (mV 6))) (sSeq (sRet (mC (.bl false))) sNil) sNil) sNil)))
    (fun G => ∃ a b c, G = [some (hD H), some (iD i), some (iD m), some (.tup ((rd H i).map rD)), some (.tup ((wr H i).map .int)), a, b, c, none, none]) rD (fun r => !decide (lastI (ahead H m r.1) = r.2)) (fun _ => .bl false) (rd H i)
    (by
      rintro r hr G ⟨a, b, c, rfl⟩
      obtain ⟨G1, e1, e2⟩ := reads_body (h := h) w (m := m) hi a b c r
      refine ⟨G1, e1, fun hq => ?_, fun hq => ?_⟩
      · have hq : ¬ lastI (ahead H m r.1) = r.2 := by simpa using hq
        rw [e2, if_neg hq]
      · have hq : lastI (ahead H m r.1) = r.2 := by simpa using hq
        exact ⟨_, by rw [e2, if_pos hq], _, _, _, rfl⟩) _ ⟨none, none, none, rfl⟩
  -- between
  have hb : ∀ (all0 : List D) (a b c : Option D), compGo (.nm 9) (tOf (mN fAny (aCons (mL (lComp (.nm 5) [5] (iSeq (mV 4)) tYesM (mOp2 fIn (mV 5) (mOp2 fIx (mOp2 fIx (mV 0) (mV 9)) (mC (.int 1)))))) aNil))) (mV 9) none all0 [some (hD H), some (iD i), some (iD m), some (.tup ((rd H i).map rD)), some (.tup ((wr H i).map .int)), a, b, c, none, none] ((List.range' m (i - m)).map iD) h
      = .ok (((List.range' m (i - m)).filter fun o => (wr H i).any fun k => decide (k ∈ wr H o)).map iD) h := by
    intro all0 a b c
    refine comp_ok _ (fun o => (wr H i).any fun k => decide (k ∈ wr H o)) _ _ fun o ho => ?_
    have ho : o < H.length := by
      have := List.mem_range'.mp ho
      omega
    have e1 : atI (H.map dD) (o : Int) = some (.tup [.tup ((rd H o).map rD), .tup ((wr H o).map .int)]) := by
      have := get_deal (H := H) (i := (o : Int)) (by omega) (by omega)
      simpa using this
    have hc : ∀ all1 : List D, compGo (.nm 5) tYesM (mOp2 fIn (mV 5) (mOp2 fIx (mOp2 fIx (mV 0) (mV 9)) (mC (.int 1)))) none all1 [some (hD H), some (iD i), some (iD m), some (.tup ((rd H i).map rD)), some (.tup ((wr H i).map .int)), none, b, c, none, some (iD o)] ((wr H i).map .int) h = .ok ((wr H i).map fun k => .bl (decide (k ∈ wr H o))) h := by
      intro all1
      refine comp_all _ _ _ fun k hk => ⟨_, rfl, ?_⟩
      simp [iD, hD, e1]
    refine ⟨[some (hD H), some (iD i), some (iD m), some (.tup ((rd H i).map rD)), some (.tup ((wr H i).map .int)), a, b, c, none, some (iD o)], rfl, ?_, ?_⟩
    · simp [lw, wipeG, hc]
    · simp
  have er : rangeD (m : Int) (i - m) = (List.range' m (i - m)).map iD := rangeD_from m (i - m)
  have c1 : okR2 (m : Int) (i : Int) := ⟨by omega, by omega, by omega, by omega⟩
  have c5 : i - m ≤ big := by rw [big_eq]; omega
  have c6 : ((List.range' m (i - m)).map iD).length ≤ big := by simp [c5]
  cases hfind : (rd H i).find? (fun r => !decide (lastI (ahead H m r.1) = r.2)) with
  | some r =>
    have hg : goodR H i m = false := by
      unfold goodR
      rw [List.all_eq_false]
      have := List.find?_some hfind
      exact ⟨r, List.mem_of_find?_eq_some hfind, by simpa using this⟩
    have h1 := fun all0 => (hf all0).1 r hfind
    simp [m_suits, mDef, b_suits, e0, asg, asgs, h1, suitsB, hg]
  | none =>
    have hg : goodR H i m = true := by
      unfold goodR
      rw [List.all_eq_true]
      intro r hr
      have := List.find?_eq_none.mp hfind r hr
      simpa using this
    obtain ⟨G', h1, a, b, c, rfl⟩ := (hf ((rd H i).map rD)).2 hfind
    have c7 : ∀ x : Nat, ((x : Int) = 0) = (x = 0) := fun x => by simp
    simp [m_suits, mDef, b_suits, e0, asg, asgs, h1, suitsB, hg, c1, er, c5, wipeG, hb]
    unfold clear
    have cc : ∀ n : Nat, decide ((n : Int) = 0) = (n == 0) := fun n => by cases n with | zero => rfl | succ k => exact decide_eq_false (by omega)
    exact cc _
end My
namespace My
open PySem AB L2
def oD : Option Nat → D
  | none => .non
  | some m => iD m
def oP : Option Nat → PyData
  | none => .none
  | some m => .int m
theorem toP_o (o : Option Nat) : toP (oD o) = some (oP o) := by cases o <;> rfl
theorem toPs_o {α : Type} (f : α → Option Nat) : ∀ xs : List α, toPs (xs.map fun x => oD (f x)) = some (xs.map fun x => oP (f x))
  | [] => rfl
  | x :: xs => by
    show (match toP (oD (f x)), toPs (xs.map fun x => oD (f x)) with | some p, some ps => some (p :: ps) | _, _ => none) = _
    rw [toP_o, toPs_o f xs]
    rfl
theorem lay_o {α : Type} (f : α → Option Nat) : ∀ xs : List α, PyData.canLayAll0 (xs.map fun x => oP (f x)) = true
  | [] => by simp [PyData.canLayAll0]
  | x :: xs => by
    have : PyData.canLay0 (oP (f x)) = true := by cases f x <;> simp [oP, PyData.canLay0]
    simp [PyData.canLayAll0, this, lay_o f xs]
theorem dep_o {α : Type} (f : α → Option Nat) : ∀ xs : List α, PyData.depthAll (xs.map fun x => oP (f x)) = 0
  | [] => by simp [PyData.depthAll]
  | x :: xs => by
    have : PyData.depth (oP (f x)) = 0 := by cases f x <;> simp [oP, PyData.depth]
    simp [PyData.depthAll, this, dep_o f xs]
theorem okP_oT {α : Type} {h : AH} (f : α → Option Nat) (xs : List α) : okP h (.tup (xs.map fun x => oD (f x))) = some (.tuple (xs.map fun x => oP (f x))) := by
  unfold okP
  have e : toPh h (.tup (xs.map fun x => oD (f x))) = some (.tuple (xs.map fun x => oP (f x))) := by
    show (toPs (xs.map fun x => oD (f x))).map PyData.tuple = _
    rw [toPs_o]
    rfl
  rw [e]
  simp [SeqAt.shaped, PyData.canLay0, PyData.depth, lay_o, dep_o]
theorem okP_oL {α : Type} {h : AH} (f : α → Option Nat) (xs : List α) : okP h (.lst (xs.map fun x => oD (f x))) = some (.list (xs.map fun x => oP (f x))) := by
  unfold okP
  have e : toPh h (.lst (xs.map fun x => oD (f x))) = some (.list (xs.map fun x => oP (f x))) := by
    show (toPs (xs.map fun x => oD (f x))).map PyData.list = _
    rw [toPs_o]
    rfl
  rw [e]
  simp [SeqAt.shaped, PyData.canLay0, PyData.depth, lay_o, dep_o]
theorem any_o {α : Type} (f : α → Option Nat) (xs : List α) : ((xs.map fun x => oP (f x)).any fun z => PyData.eqv z .none) = !(xs.all fun x => (f x).isSome) := by
  induction xs with
  | nil => rfl
  | cons x xs ih =>
    rw [List.map_cons, List.any_cons, ih, List.all_cons]
    cases f x <;> simp [oP, PyData.eqv]
@[simp] theorem notin_oT {α : Type} {h : AH} (f : α → Option Nat) (xs : List α) : fNotIn .non (.tup (xs.map fun x => oD (f x))) h = .ok (.bl (xs.all fun x => (f x).isSome)) h := by
  unfold fNotIn inD
  rw [okP_non, okP_oT]
  simp only [any_o, Bool.not_not]
@[simp] theorem notin_oL {α : Type} {h : AH} (f : α → Option Nat) (xs : List α) : fNotIn .non (.lst (xs.map fun x => oD (f x))) h = .ok (.bl (xs.all fun x => (f x).isSome)) h := by
  unfold fNotIn inD
  rw [okP_non, okP_oL]
  simp only [any_o, Bool.not_not]
theorem cc0 (n : Nat) : decide ((n : Int) = 0) = (n == 0) := by cases n with | zero => rfl | succ k => exact decide_eq_false (by omega)
def momB (H : List Deal) (i : Nat) : Option Nat := ((List.range (i + 1)).filter (suitsB H i)).getLast?
theorem moment_of_ok {h : AH} {H : List Deal} (w : Wf H) {i : Nat} (hi : i < H.length) : m_moment_of [hD H, .int i] h = .ok (oD (momB H i)) h := by
  have hl := w.len
  have hc : ∀ (all0 : List D) (a : Option D), compGo (.nm 3) (tOf (mN m_suits (aCons (mV 0) (aCons (mV 1) (aCons (mV 3) aNil))))) (mV 3) none all0 [some (hD H), some (.int i), a, none] ((List.range (i + 1)).map iD) h = .ok (((List.range (i + 1)).filter (suitsB H i)).map iD) h := by
    intro all0 a
    refine comp_ok _ (suitsB H i) _ _ fun m hm => ?_
    have hm : m < i + 1 := List.mem_range.mp hm
    exact ⟨[some (hD H), some (.int i), a, some (iD m)], rfl, by simp [suits_ok w hi (show m ≤ i by omega)], by simp⟩
  have er : rangeD 0 (i + 1) = (List.range (i + 1)).map iD := rangeD_eq _
  have c1 : okR ((i : Int) + 1) := ⟨by omega, by omega⟩
  have c3 : ((i : Int) + 1).toNat = i + 1 := by omega
  have c4 : i + 1 ≤ big := by rw [big_eq]; omega
  unfold momB
  generalize (List.range (i + 1)).filter (suitsB H i) = L at hc
  have fin : ∀ x : D, finD h.length h x h = .ok x h := finD_same h
  cases L with
  | nil => simp [m_moment_of, mDef, b_moment_of, c1, c3, er, c4, wipeG, hc, oD]
  | cons x r =>
    have e : atI ((x :: r).map iD) (-1) = (x :: r).getLast?.map iD := by
      rw [AB.atI_last, List.getLast?_map]
    have e2 : ∃ y, (x :: r).getLast? = some y := by
      cases q : (x :: r).getLast? with
      | none => rw [List.getLast?_eq_none_iff] at q; cases q
      | some y => exact ⟨y, rfl⟩
    obtain ⟨y, e2⟩ := e2
    rw [e2] at e ⊢
    have ne : ¬ ((r.length : Int) + 1 = 0) := by omega
    rw [List.map_cons] at e hc
    simp [m_moment_of, mDef, b_moment_of, c1, c3, er, c4, wipeG, hc, ne, e, oD]
/-- the moments -/
def momsB (H : List Deal) : List Nat := List.range H.length
theorem moments_ok {h : AH} {H : List Deal} (w : Wf H) : m_moments [hD H] h = .ok (.tup ((List.range H.length).map fun i => oD (momB H i))) h := by
  have hl := w.len
  have hc : ∀ (all0 : List D), compGo (.nm 1) tYesM (mN m_moment_of (aCons (mV 0) (aCons (mV 1) aNil))) none all0 [some (hD H), none] ((List.range H.length).map iD) h = .ok ((List.range H.length).map fun i => oD (momB H i)) h := by
    intro all0
    exact comp_all _ _ _ fun i hi => ⟨[some (hD H), some (iD i)], rfl, by simp [moment_of_ok w (List.mem_range.mp hi)]⟩
  have er : rangeD 0 H.length = (List.range H.length).map iD := rangeD_eq _
  have c1 : okR (H.length : Int) := ⟨by omega, by omega⟩
  have c4 : H.length ≤ big := by rw [big_eq]; omega
  simp [m_moments, mDef, b_moments, check_history_ok w, c1, er, c4, wipeG, hc]
theorem by_snapshots_ok {h : AH} {H : List Deal} (w : Wf H) : m_by_snapshots [hD H] h = .ok (.bl ((List.range H.length).all fun i => (momB H i).isSome)) h := by
  have hl := w.len
  have hc : ∀ (all0 : List D), compGo (.nm 1) tYesM (mN m_moment_of (aCons (mV 0) (aCons (mV 1) aNil))) none all0 [some (hD H), none] ((List.range H.length).map iD) h = .ok ((List.range H.length).map fun i => oD (momB H i)) h := by
    intro all0
    exact comp_all _ _ _ fun i hi => ⟨[some (hD H), some (iD i)], rfl, by simp [moment_of_ok w (List.mem_range.mp hi)]⟩
  have er : rangeD 0 H.length = (List.range H.length).map iD := rangeD_eq _
  have c1 : okR (H.length : Int) := ⟨by omega, by omega⟩
  have c4 : H.length ≤ big := by rw [big_eq]; omega
  simp [m_by_snapshots, mDef, b_by_snapshots, check_history_ok w, c1, er, c4, wipeG, hc]
end My
namespace My
open PySem AB L2
/-- the writers of a key among the first -/
def wsTo (H : List Deal) (m : Nat) (k : Int) : List Nat := (List.range m).filter fun i => decide (k ∈ wr H i)
theorem range_lt (n m : Nat) (h : m ≤ n) : (List.range n).filter (fun i => decide (i < m)) = List.range m := by
  obtain ⟨d, rfl⟩ : ∃ d, n = m + d := ⟨n - m, by omega⟩
  rw [List.range_add, List.filter_append]
  have h1 : (List.range m).filter (fun i => decide (i < m)) = List.range m := List.filter_eq_self.mpr fun i hi => by simpa using List.mem_range.mp hi
  have h2 : ((List.range d).map (m + ·)).filter (fun i => decide (i < m)) = [] := by
    rw [List.filter_eq_nil_iff]
    intro i hi
    obtain ⟨j, _, rfl⟩ := List.mem_map.mp hi
    simp
  rw [h1, h2, List.append_nil]
theorem ahead_eq (H : List Deal) (m : Nat) (k : Int) (h : m ≤ H.length) : ahead H m k = wsTo H m k := by
  unfold ahead ws wsTo
  rw [List.filter_filter, ← range_lt H.length m h, List.filter_filter]
  apply List.filter_congr
  intro i _
  rw [Bool.and_comm]
theorem lastI_mem {l : List Nat} (h : l ≠ []) : ∃ i ∈ l, lastI l = i := by
  unfold lastI
  cases q : l.getLast? with
  | none =>
    rw [List.getLast?_eq_none_iff] at q
    exact absurd q h
  | some i => exact ⟨i, List.mem_of_getLast? q, rfl⟩
theorem lastI_ge {l : List Nat} (h : l.Pairwise (· < ·)) : ∀ i ∈ l, (i : Int) ≤ lastI l := by
  intro i hi
  unfold lastI
  cases q : l.getLast? with
  | none =>
    rw [List.getLast?_eq_none_iff] at q
    subst q
    cases hi
  | some j =>
    have e : l = l.dropLast ++ [j] := by
      have hne : l ≠ [] := fun z => by subst z; cases hi
      have := List.dropLast_concat_getLast hne
      rw [List.getLast?_eq_some_getLast hne] at q
      cases q
      exact this.symm
    rw [e] at hi h
    rcases List.mem_append.mp hi with hi | hi
    · have := (List.pairwise_append.mp h).2.2 i hi j (by simp)
      show (i : Int) ≤ (j : Int)
      omega
    · simp at hi
      subst hi
      exact Int.le_refl _
theorem lastI_nil : lastI [] = -1 := rfl
theorem maxI_last {l : List Nat} (h : l.Pairwise (· < ·)) : maxI (-1 :: l.map fun i : Nat => (i : Int)) = lastI l := by
  apply Int.le_antisymm
  · have := maxI_mem (ns := -1 :: l.map fun i : Nat => (i : Int)) (by simp)
    rcases List.mem_cons.mp this with e | e
    · rw [e]
      by_cases hn : l = []
      · subst hn
        exact Int.le_refl _
      · obtain ⟨i, _, e⟩ := lastI_mem hn
        rw [e]
        omega
    · obtain ⟨i, hi, e⟩ := List.mem_map.mp e
      rw [← e]
      exact lastI_ge h i hi
  · apply maxI_ge
    by_cases hn : l = []
    · subst hn
      simp [lastI]
    · obtain ⟨i, hi, e⟩ := lastI_mem hn
      rw [e]
      exact List.mem_cons_of_mem _ (List.mem_map.mpr ⟨i, hi, rfl⟩)
theorem wsTo_asc (H : List Deal) (m : Nat) (k : Int) : (wsTo H m k).Pairwise (· < ·) := by
  unfold wsTo
  exact List.Pairwise.filter _ List.pairwise_lt_range
theorem law_last_ok {h : AH} {H : List Deal} (hl : H.length ≤ 1000) {m : Nat} (hm : m ≤ H.length) (k : Int) : m__law_last [hD H, .int m, .int k] h = .ok (.int (lastI (wsTo H m k))) h := by
  have hc : ∀ (all0 : List D), compGo (.nm 3) (tBl (mOp2 fIn (mV 2) (mOp2 fIx (mOp2 fIx (mV 0) (mV 3)) (mC (.int 1))))) (mV 3) none all0 [some (hD H), some (.int m), some (.int k), none] ((List.range m).map iD) h = .ok ((wsTo H m k).map iD) h := by
    intro all0
    refine comp_ok _ (fun i => decide (k ∈ wr H i)) _ _ fun i hi => ?_
    have hi := List.mem_range.mp hi
    have e0 : atI (H.map dD) (i : Int) = some (.tup [.tup ((rd H i).map rD), .tup ((wr H i).map .int)]) := by
      have := get_deal (H := H) (i := (i : Int)) (by omega) (by omega)
      simpa using this
    exact ⟨[some (hD H), some (.int m), some (.int k), some (iD i)], rfl, by simp [e0], by simp⟩
  have er : rangeD 0 m = (List.range m).map iD := rangeD_eq _
  have c1 : okR (m : Int) := ⟨by omega, by omega⟩
  have c4 : m ≤ big := by rw [big_eq]; omega
  have c5 : (wsTo H m k).length ≤ m := by
    have := List.length_filter_le (fun i => decide (k ∈ wr H i)) (List.range m)
    simpa [wsTo] using this
  have c6 : 1 + (wsTo H m k).length ≤ big := by rw [big_eq]; omega
  have e7 : fMax [.lst (D.int (-1) :: (wsTo H m k).map iD)] h = .ok (.int (lastI (wsTo H m k))) h := by
    have := v_max (h := h) (-1) ((wsTo H m k).map fun i : Nat => (i : Int))
    rw [List.map_map, maxI_last (wsTo_asc H m k)] at this
    exact this
  have b1 : (1 : Nat) ≤ big := by decide
  simp [m__law_last, mDef, b__law_last, c1, er, c4, wipeG, hc, c6, e7, b1]
end My
namespace My
open PySem AB L2
def okB (H : List Deal) (i m : Nat) : Bool := ((rd H i).filter fun r : Int × Int => !decide (lastI (wsTo H m r.1) = r.2)).isEmpty && ((wr H i).filter fun k => decide ((m : Int) ≤ lastI (wsTo H i k))).isEmpty
def momL (H : List Deal) (i : Nat) : Option Nat := (List.range (i + 1)).reverse.find? (okB H i)
theorem down_eq (i : Nat) : downD (i : Int) (i + 1) = ((List.range (i + 1)).reverse).map iD := by
  unfold downD
  apply List.ext_getElem?
  intro j
  by_cases hj : j < i + 1
  · rw [List.getElem?_map, List.getElem?_range hj, List.getElem?_map, List.getElem?_reverse (by simpa using hj)]
    have e : (List.range (i + 1)).length - 1 - j = i - j := by simp
    rw [e, List.getElem?_range (by omega)]
    show some (D.int ((i : Int) + (j : Int) * (-1))) = some (D.int ((i - j : Nat) : Int))
    congr 2
    omega
  · rw [List.getElem?_eq_none (by simp; omega), List.getElem?_eq_none (by simp; omega)]
theorem len0 {α β : Type} (f : α → β) (l : List α) : decide (((l.map f).length : Int) = 0) = l.isEmpty := by
  cases l with
  | nil => rfl
  | cons x r => exact decide_eq_false (by rw [List.map_cons, List.length_cons]; omega)
theorem moment_body {h : AH} {H : List Deal} (w : Wf H) {i m : Nat} (hi : i < H.length) (hm : m ≤ i) (a b c : Option D) :
    ((sSeq (sSet 5 (mL (lComp (.tp [(.nm 7), (.nm 8)]) [7, 8] (iSeq (mV 2)) (tBl (mOp2 fNe (mN m__law_last (aCons (mV 0) (aCons (mV 4) (aCons (mV 7) aNil)))) (mV 8))) (mV 7)))) (sSeq (sSet 6 (mL (lComp (.nm 7) [7] (iSeq (mV 3)) (tBl (mOp2 cGe (mN m__law_last (aCons (mV 0) (aCons (mV 1) (aCons (mV 7) aNil)))) (mV 4))) (mV 7)))) (sSeq (sIf (tAndM (tBl (mOp2 fEq (mN fLen (aCons (mV 5) aNil)) (mC (.int 0)))) (tBl (mOp2 fEq (mN fLen (aCons (mV 6) aNil)) (mC (.int 0))))) (sSeq (sRet (mV 4)) sNil) sNil) sNil))) : Ms)
      [some (hD H), some (iD i), some (.tup ((rd H i).map rD)), some (.tup ((wr H i).map .int)), some (iD m), a, b, none, none] h
    = if okB H i m = true then .ret (iD m) h else .next [some (hD H), some (iD i), some (.tup ((rd H i).map rD)), some (.tup ((wr H i).map .int)), some (iD m), some (.lst (((rd H i).filter fun r : Int × Int => !decide (lastI (wsTo H m r.1) = r.2)).map fun r : Int × Int => .int r.1)), some (.lst (((wr H i).filter fun k => decide ((m : Int) ≤ lastI (wsTo H i k))).map .int)), none, none] h := by
  have hl := w.len
  have lr : (rd H i).length ≤ big := by rw [big_eq]; have := (w.r i hi).len; omega
  have lw : (wr H i).length ≤ big := by rw [big_eq]; have := (w.w i hi).len; omega
  have h1 : ∀ (all0 : List D) (a b : Option D), compGo (.tp [(.nm 7), (.nm 8)]) (tBl (mOp2 fNe (mN m__law_last (aCons (mV 0) (aCons (mV 4) (aCons (mV 7) aNil)))) (mV 8))) (mV 7) none all0 [some (hD H), some (iD i), some (.tup ((rd H i).map rD)), some (.tup ((wr H i).map .int)), some (iD m), a, b, none, none] ((rd H i).map rD) h = .ok (((rd H i).filter fun r : Int × Int => !decide (lastI (wsTo H m r.1) = r.2)).map fun r : Int × Int => .int r.1) h := by
    intro all0 a b
    refine comp_ok _ (fun r : Int × Int => !decide (lastI (wsTo H m r.1) = r.2)) _ _ fun r hr => ?_
    exact ⟨[some (hD H), some (iD i), some (.tup ((rd H i).map rD)), some (.tup ((wr H i).map .int)), some (iD m), a, b, some (.int r.1), some (.int r.2)], rfl, by simp [law_last_ok (h := h) (H := H) (by omega) (show m ≤ H.length by omega)], by simp⟩
  have h2 : ∀ (all0 : List D) (a b : Option D), compGo (.nm 7) (tBl (mOp2 cGe (mN m__law_last (aCons (mV 0) (aCons (mV 1) (aCons (mV 7) aNil)))) (mV 4))) (mV 7) none all0 [some (hD H), some (iD i), some (.tup ((rd H i).map rD)), some (.tup ((wr H i).map .int)), some (iD m), a, b, none, none] ((wr H i).map .int) h = .ok (((wr H i).filter fun k => decide ((m : Int) ≤ lastI (wsTo H i k))).map .int) h := by
    intro all0 a b
    refine comp_ok _ (fun k => decide ((m : Int) ≤ lastI (wsTo H i k))) _ _ fun k hk => ?_
    exact ⟨[some (hD H), some (iD i), some (.tup ((rd H i).map rD)), some (.tup ((wr H i).map .int)), some (iD m), a, b, some (.int k), none], rfl, by simp [law_last_ok (h := h) (H := H) (by omega) (show i ≤ H.length by omega)], by simp⟩
  unfold okB
  generalize (rd H i).filter (fun r : Int × Int => !decide (lastI (wsTo H m r.1) = r.2)) = L1 at h1
  generalize (wr H i).filter (fun k => decide ((m : Int) ≤ lastI (wsTo H i k))) = L2 at h2
  have n1 : ∀ n : Nat, ¬ ((n : Int) + 1 = 0) := fun n => by omega
  cases L1 with
  | nil =>
    cases L2 with
    | nil => simp [lr, lw, wipeG, h1, h2]
    | cons x r => simp [lr, lw, wipeG, h1, h2, n1]
  | cons y s => simp [lr, lw, wipeG, h1, h2, n1]
theorem law_moment_ok {h : AH} {H : List Deal} (w : Wf H) {i : Nat} (hi : i < H.length) : m__law_moment [hD H, .int i] h = .ok (oD (momL H i)) h := by
  have hl := w.len
  have e0 : atI (H.map dD) (i : Int) = some (.tup [.tup ((rd H i).map rD), .tup ((wr H i).map .int)]) := by
    have := get_deal (H := H) (i := (i : Int)) (by omega) (by omega)
    simpa using this
  have hf := fun all0 : List D => for_find (p := .nm 4) (all0 := all0) (h := h) (body := (sSeq (sSet 5 (mL (lComp (.tp [(.nm 7), (.nm 8)]) [7, 8] (iSeq (mV 2)) (tBl (mOp2 fNe (mN m__law_last (aCons (mV 0) (aCons (mV 4) (aCons (mV 7) aNil)))) (mV 8))) (mV 7)))) (sSeq (sSet 6 (mL (lComp (.nm 7) [7] (iSeq (mV 3)) (tBl (mOp2 cGe (mN m__law_last (aCons (mV 0) (aCons (mV 1) (aCons (mV 7) aNil)))) (mV 4))) (mV 7)))) (sSeq (sIf (tAndM (tBl (mOp2 fEq (mN fLen (aCons (mV 5) aNil)) (mC (.int 0)))) (tBl (mOp2 fEq (mN fLen (aCons (mV 6) aNil)) (mC (.int 0))))) (sSeq (sRet (mV 4)) sNil) sNil) sNil))))
    (fun G => ∃ x a b, G = [some (hD H), some (iD i), some (.tup ((rd H i).map rD)), some (.tup ((wr H i).map .int)), x, a, b, none, none]) iD (okB H i) iD ((List.range (i + 1)).reverse)
    (by
      rintro m hm G ⟨x, a, b, rfl⟩
      have hm : m < i + 1 := by simpa using hm
      have e := moment_body (h := h) w hi (show m ≤ i by omega) a b none
      refine ⟨_, rfl, fun hq => ?_, fun hq => ?_⟩
      · exact e.trans (if_pos hq)
      · exact ⟨_, e.trans (if_neg (by rw [hq]; decide)), _, _, _, rfl⟩) _ ⟨none, none, none, rfl⟩
  have er : downD (i : Int) (i + 1) = ((List.range (i + 1)).reverse).map iD := down_eq i
  have c1 : okR2 (i : Int) (-1) := ⟨by omega, by omega, by omega, by omega⟩
  have c3 : ((i : Int) - -1).toNat = i + 1 := by omega
  have c4 : ((i : Int) + 1).toNat = i + 1 := by omega
  unfold momL
  cases hfind : (List.range (i + 1)).reverse.find? (okB H i) with
  | some m =>
    have h1 := fun all0 => (hf all0).1 m hfind
    simp [m__law_moment, mDef, b__law_moment, e0, asg, asgs, c1, c3, c4, er, h1, oD] at h1 ⊢
    simp [h1]
  | none =>
    obtain ⟨G', h1, x, a, b, rfl⟩ := (hf (((List.range (i + 1)).reverse).map iD)).2 hfind
    simp [m__law_moment, mDef, b__law_moment, e0, asg, asgs, c1, c3, c4, er, oD] at h1 ⊢
    simp [h1]
theorem filter_last {α : Type} (p : α → Bool) (l : List α) : (l.filter p).getLast? = l.reverse.find? p := by
  rw [List.getLast?_eq_head?_reverse, ← List.filter_reverse, List.head?_filter]
theorem suits_eq {H : List Deal} {i m : Nat} (hi : i < H.length) (hm : m ≤ i) : suitsB H i m = okB H i m := by
  have g1 : goodR H i m = ((rd H i).filter fun r : Int × Int => !decide (lastI (wsTo H m r.1) = r.2)).isEmpty := by
    unfold goodR
    rw [Bool.eq_iff_iff, List.all_eq_true, List.isEmpty_iff, List.filter_eq_nil_iff]
    constructor
    · intro h r hr
      have := h r hr
      rw [ahead_eq H m r.1 (by omega)] at this
      simpa using this
    · intro h r hr
      have := h r hr
      rw [ahead_eq H m r.1 (by omega)]
      simpa using this
  have g2 : clear H i m = ((wr H i).filter fun k => decide ((m : Int) ≤ lastI (wsTo H i k))).isEmpty := by
    unfold clear
    rw [Bool.eq_iff_iff, beq_iff_eq, List.length_eq_zero_iff, List.isEmpty_iff, List.filter_eq_nil_iff, List.filter_eq_nil_iff]
    constructor
    · intro h k hk hq
      have hq : (m : Int) ≤ lastI (wsTo H i k) := of_decide_eq_true hq
      have hne : wsTo H i k ≠ [] := fun z => by
        rw [z, lastI_nil] at hq
        omega
      obtain ⟨o, ho, e⟩ := lastI_mem hne
      rw [e] at hq
      unfold wsTo at ho
      obtain ⟨ho1, ho2⟩ := List.mem_filter.mp ho
      have ho1 := List.mem_range.mp ho1
      refine h o (by rw [List.mem_range'_1]; omega) ?_
      rw [List.any_eq_true]
      exact ⟨k, hk, ho2⟩
    · intro h o ho hq
      rw [List.any_eq_true] at hq
      obtain ⟨k, hk, hq⟩ := hq
      rw [List.mem_range'_1] at ho
      have hmem : o ∈ wsTo H i k := by
        unfold wsTo
        exact List.mem_filter.mpr ⟨List.mem_range.mpr (by omega), hq⟩
      have := lastI_ge (wsTo_asc H i k) o hmem
      exact h k hk (decide_eq_true (by omega))
  unfold suitsB okB
  rw [g1, g2]
theorem find_congr {α : Type} {p q : α → Bool} : ∀ {l : List α}, (∀ x ∈ l, p x = q x) → l.find? p = l.find? q
  | [], _ => rfl
  | x :: l, h => by
    rw [List.find?_cons, List.find?_cons, h x List.mem_cons_self, find_congr fun y hy => h y (List.mem_cons_of_mem _ hy)]
theorem mom_eq {H : List Deal} {i : Nat} (hi : i < H.length) : momL H i = momB H i := by
  unfold momL momB
  rw [filter_last]
  refine find_congr fun m hm => ?_
  have hm : m < i + 1 := by simpa using hm
  exact (suits_eq hi (by omega)).symm
end My
namespace My
open PySem AB L2
def absI (i : Int) : Int := if i < 0 then -i else i
theorem absI_nn (i : Int) : 0 ≤ absI i := by
  unfold absI
  split <;> omega
theorem pool_ok (ns : List Int) (hl : ns.length ≤ 63) : ∃ cs : List Int, (∀ c ∈ cs, 0 ≤ c) ∧ ∃ s, m__law_pool [.rol (ns.map .int)] [] = .ok [.lst (cs.map .int), .int 0, .int 0, .int s, .int 0] [] := by
  refine ⟨ns.map absI, fun c hc => ?_, 1 + ns.length, ?_⟩
  · obtain ⟨i, _, rfl⟩ := List.mem_map.mp hc
    exact absI_nn i
  have hc : ∀ (all0 : List D), compGo (.nm 1) tYesM (mN fAbs (aCons (mN fInt (aCons (mV 1) aNil)) aNil)) none all0 [some (.rol (ns.map .int)), none] (ns.map .int) [] = .ok (ns.map fun i => .int (absI i)) [] := by
    intro all0
    exact comp_all _ _ _ fun i hi => ⟨[some (.rol (ns.map .int)), some (.int i)], rfl, by simp [absI]⟩
  have e1 : cutD (ns.map D.int) none (some 63) = ns.map .int := by
    have := cut_to D.int ns 63
    rw [List.take_of_length_le hl] at this
    exact this
  have l1 : ns.length ≤ big := by rw [big_eq]; omega
  have l2 : (5 : Nat) ≤ big := by decide
  have e2 : underL 0 [D.lst (ns.map fun i => D.int (absI i)), D.int 0, D.int 0, D.int (1 + ns.length), D.int 0] = true := by
    simp [underL, D.under, under_intF]
  have e3 := finL_new [] [D.lst (ns.map fun i => D.int (absI i)), D.int 0, D.int 0, D.int (1 + ns.length), D.int 0] e2
  have e4 : (ns.map absI).map D.int = ns.map fun i => D.int (absI i) := by rw [List.map_map]; rfl
  rw [e4]
  simp [m__law_pool, mDefL, b__law_pool, wipeG, e1, hc, l1, l2]
  simpa using e3
theorem any_ok {cs : List Int} (hc : ∀ c ∈ cs, 0 ≤ c) {P : AO} (hP : IsP cs P) (ds : List D) (h1 : 1 ≤ ds.length) (h2 : ds.length ≤ 1000000) (tl : AH) :
    ∃ x P', m__law_any [.loc 0, .lst ds] (P :: tl) = .ok x (P' :: tl) ∧ IsP cs P' ∧ x ∈ ds := by
  obtain ⟨r, P', e, hP', r0, r1⟩ := draw_ok hc hP (many := ds.length) (by omega) (by omega) tl
  obtain ⟨x, hx, hm⟩ := atI_some r0 r1
  refine ⟨x, P', ?_, hP', hm⟩
  have fin : ∀ x : D, finD (tl.length + 1) (P :: tl) x (P' :: tl) = .ok x (P' :: tl) := fun x => by
    unfold finD
    rw [if_pos (by simp)]
  simp [m__law_any, mDef, b__law_any, e, hx, fin]
def wD (ws : List Int) : D := .tup (ws.map .int)
/-- the texts of names -/
structure Names (nm : List Int) : Prop where
  asc : nm.Pairwise (· < ·)
  bd : ∀ k ∈ nm, 0 ≤ k ∧ k ≤ 99
  len : nm.length ≤ 4
theorem wrote_body {cs : List Int} (hc : ∀ c ∈ cs, 0 ≤ c) {nm : List Int} (hn : Names nm) {P : AO} (hP : IsP cs P) (W : List (List Int)) (hW : W.length ≤ 100) (a b c k : Option D) :
    ∃ ys P', ((sSeq (sExpr (mBM fApp (mV 5) (aCons (mN fTuple (aCons (mL (lComp (.nm 10) [10] (iSeq (mV 3)) (tBl (mOp2 fEq (mN m__law_draw (aCons (mV 0) (aCons (mOp2 fAdd (mC (.int 2)) (mN fInt (aCons (mOp2 cGt (mN fLen (aCons (mV 3) aNil)) (mC (.int 2))) aNil))) aNil))) (mC (.int 0)))) (mV 10))) aNil)) aNil))) sNil) : Ms)
      [some (.loc 0), a, b, some (wD nm), c, some (.loc 1), k, none, none, none, none, none, none, none, none] [P, .lst (W.map wD)]
      = .next [some (.loc 0), a, b, some (wD nm), c, some (.loc 1), k, none, none, none, none, none, none, none, none] [P', .lst ((W ++ [ys]).map wD)] ∧ IsP cs P' ∧ ys.Sublist nm := by
  have hl := hn.len
  obtain ⟨q, hq, hq1, hq2⟩ : ∃ q : Int, q = 2 + (if (2 : Int) < nm.length then 1 else 0) ∧ 1 ≤ q ∧ q ≤ 1000000 := ⟨_, rfl, by split <;> omega, by split <;> omega⟩
  obtain ⟨ys, h', e1, ⟨P', hP', rfl⟩, sl⟩ := comp_inv (p := .nm 10) (t := (tBl (mOp2 fEq (mN m__law_draw (aCons (mV 0) (aCons (mOp2 fAdd (mC (.int 2)) (mN fInt (aCons (mOp2 cGt (mN fLen (aCons (mV 3) aNil)) (mC (.int 2))) aNil))) aNil))) (mC (.int 0))))) (e := mV 10) (all0 := nm.map D.int)
    (G0 := [some (.loc 0), a, b, some (wD nm), c, some (.loc 1), k, none, none, none, none, none, none, none, none]) (I := fun h => ∃ P', IsP cs P' ∧ h = [P', .lst (W.map wD)]) D.int D.int nm
    (by
      rintro x hx h ⟨P1, hP1, rfl⟩
      obtain ⟨r, P2, e, hP2, r0, r1⟩ := draw_ok hc hP1 hq1 hq2 [.lst (W.map wD)]
      refine ⟨[some (.loc 0), a, b, some (wD nm), c, some (.loc 1), k, none, none, none, some (.int x), none, none, none, none], decide (r = 0), [P2, .lst (W.map wD)], rfl, ?_, ⟨P2, hP2, rfl⟩, fun _ => ⟨_, by simp, ⟨P2, hP2, rfl⟩⟩⟩
      have e5 : (2 : Int) + (if decide ((2 : Int) < nm.length) = true then 1 else 0) = q := by rw [hq]; simp
      simp [wD]
      simp at e5
      simp [e5, e])
    [P, .lst (W.map wD)] ⟨P, hP, rfl⟩
  have l1 : nm.length ≤ big := by rw [big_eq]; omega
  have l2 : W.length < big := by rw [big_eq]; omega
  refine ⟨ys, P', ?_, hP', sl⟩
  have e3 : wD nm = .tup (nm.map .int) := rfl
  rw [e3] at e1 ⊢
  simp [l1, l2, wipeG, e1, wD]
end My
namespace My
open PySem AB L2
noncomputable abbrev innerB : Ms := (sSeq (sSet 11 (mOp2 fAdd (mL (lLst (aCons (mOp1 fNeg (mC (.int 1))) aNil))) (mL (lComp (.nm 14) [14] (iRange1 (aCons (mV 2) aNil)) (tAndM (tBl (mOp2 fNe (mV 14) (mV 6))) (tBl (mOp2 fIn (mV 10) (mOp2 fIx (mV 5) (mV 14))))) (mV 14))))) (sSeq (sSet 12 (mL (lComp (.nm 14) [14] (iSeq (mV 11)) (tBl (mOp2 cLt (mV 14) (mV 8))) (mV 14)))) (sSeq (sSet 13 (mN m__law_draw (aCons (mV 0) (aCons (mC (.int 6)) aNil)))) (sSeq (sIf (tAndM (tBl (mOp2 fEq (mV 13) (mC (.int 0)))) (tBl (mOp2 cGt (mV 4) (mC (.int 1))))) (sSeq (sExpr (mBM fApp (mV 9) (aCons (mN fTup (aCons (mV 10) (aCons (mN m__law_any (aCons (mV 0) (aCons (mV 11) aNil))) aNil))) aNil))) sNil) (sSeq (sIf (tBl (mOp2 cLt (mV 13) (mC (.int 4)))) (sSeq (sExpr (mBM fApp (mV 9) (aCons (mN fTup (aCons (mV 10) (aCons (mN fMax (aCons (mOp2 fAdd (mL (lLst (aCons (mOp1 fNeg (mC (.int 1))) aNil))) (mV 12)) aNil)) aNil))) aNil))) sNil) sNil) sNil)) sNil))))
/-- what a read may name -/
def Src (W : List (List Int)) (k : Nat) (x s : Int) : Prop := s = -1 ∨ ∃ o : Nat, o < W.length ∧ o ≠ k ∧ s = o ∧ x ∈ W.getD o []
def somes (W : List (List Int)) (k : Nat) (x : Int) : List Nat := (List.range W.length).filter fun o => !decide (o = k) && decide (x ∈ W.getD o [])
theorem somes_src {W : List (List Int)} {k : Nat} {x s : Int} (h : s ∈ -1 :: (somes W k x).map fun o : Nat => (o : Int)) : Src W k x s := by
  rcases List.mem_cons.mp h with rfl | h
  · exact .inl rfl
  · obtain ⟨o, ho, rfl⟩ := List.mem_map.mp h
    unfold somes at ho
    obtain ⟨h1, h2⟩ := List.mem_filter.mp ho
    rw [Bool.and_eq_true] at h2
    exact .inr ⟨o, List.mem_range.mp h1, by simpa using h2.1, rfl, by simpa using h2.2⟩
theorem inner_body {cs : List Int} (hc : ∀ c ∈ cs, 0 ≤ c) {P : AO} (hP : IsP cs P) {W : List (List Int)} (hW : W.length ≤ 100) (x style atv : Int) (k n : Nat) (Fo : AO) (rest : AH) (hn : n = rest.length + 3) (R : List (Int × Int)) (hR : R.length ≤ 100) (most nmv b11 b12 b13 : Option D) :
    ∃ a11 a12 a13 P' R', innerB [some (.loc 0), most, some (.int W.length), nmv, some (.int style), some (.loc 1), some (.int k), some (.loc 2), some (.int atv), some (.loc n), some (.int x), b11, b12, b13, none] (P :: .lst (W.map wD) :: Fo :: (rest ++ [.lst (R.map rD)]))
      = .next [some (.loc 0), most, some (.int W.length), nmv, some (.int style), some (.loc 1), some (.int k), some (.loc 2), some (.int atv), some (.loc n), some (.int x), a11, a12, a13, none] (P' :: .lst (W.map wD) :: Fo :: (rest ++ [.lst (R'.map rD)]))
      ∧ IsP cs P' ∧ (R' = R ∨ ∃ s, R' = R ++ [(x, s)] ∧ Src W k x s) := by
  have hget : ∀ (P : AO) (o : AO), (P :: .lst (W.map wD) :: Fo :: (rest ++ [o]))[n]? = some o := fun P o => by
    subst hn
    simp
  have hset : ∀ (P : AO) (o o' : AO), (P :: .lst (W.map wD) :: Fo :: (rest ++ [o])).set n o' = P :: .lst (W.map wD) :: Fo :: (rest ++ [o']) := fun P o o' => by
    subst hn
    simp
  have er : rangeD 0 W.length = (List.range W.length).map iD := rangeD_eq _
  have c1 : okR (W.length : Int) := ⟨by omega, by omega⟩
  have c4 : W.length ≤ big := by rw [big_eq]; omega
  have b1 : (1 : Nat) ≤ big := by decide
  have b2 : (2 : Nat) ≤ big := by decide
  have hlen : (somes W k x).length ≤ W.length := by
    have := List.length_filter_le (fun o => !decide (o = k) && decide (x ∈ W.getD o [])) (List.range W.length)
    simpa [somes] using this
  have l1 : 1 + (somes W k x).length ≤ big := by rw [big_eq]; omega
  have l1' : (somes W k x).length + 1 ≤ big := by rw [big_eq]; omega
  have lR : R.length < big := by rw [big_eq]; omega
  -- some
  have h1 : ∀ (all0 : List D) (b11 : Option D), compGo (.nm 14) (tAndM (tBl (mOp2 fNe (mV 14) (mV 6))) (tBl (mOp2 fIn (mV 10) (mOp2 fIx (mV 5) (mV 14))))) (mV 14) none all0 [some (.loc 0), most, some (.int W.length), nmv, some (.int style), some (.loc 1), some (.int k), some (.loc 2), some (.int atv), some (.loc n), some (.int x), b11, b12, b13, none] ((List.range W.length).map iD) (P :: .lst (W.map wD) :: Fo :: (rest ++ [.lst (R.map rD)])) = .ok ((somes W k x).map iD) (P :: .lst (W.map wD) :: Fo :: (rest ++ [.lst (R.map rD)])) := by
    intro all0 b11
    refine comp_ok _ (fun o => !decide (o = k) && decide (x ∈ W.getD o [])) _ _ fun o ho => ?_
    have ho := List.mem_range.mp ho
    have e : atI (W.map wD) (o : Int) = some (.tup ((W.getD o []).map .int)) := by
      rw [atI_map, atI_nat (by omega) (List.getElem?_eq_getElem (by simpa using ho))]
      simp [wD, List.getD_eq_getElem?_getD, ho]
    refine ⟨[some (.loc 0), most, some (.int W.length), nmv, some (.int style), some (.loc 1), some (.int k), some (.loc 2), some (.int atv), some (.loc n), some (.int x), b11, b12, b13, some (iD o)], rfl, ?_, by simp⟩
    by_cases q : o = k
    · simp [q]
    · have q2 : ¬ (o : Int) = (k : Int) := by omega
      simp [q, q2, e]
  -- ahead
  have h2 : ∀ (all0 : List D) (b11 : Option D) (h : AH), compGo (.nm 14) (tBl (mOp2 cLt (mV 14) (mV 8))) (mV 14) none all0 [some (.loc 0), most, some (.int W.length), nmv, some (.int style), some (.loc 1), some (.int k), some (.loc 2), some (.int atv), some (.loc n), some (.int x), b11, b12, b13, none] ((-1 :: (somes W k x).map fun o : Nat => (o : Int)).map .int) h = .ok (((-1 :: (somes W k x).map fun o : Nat => (o : Int)).filter fun i => decide (i < atv)).map .int) h := by
    intro all0 b11 h
    exact comp_ok _ (fun i => decide (i < atv)) _ _ fun i hi => ⟨[some (.loc 0), most, some (.int W.length), nmv, some (.int style), some (.loc 1), some (.int k), some (.loc 2), some (.int atv), some (.loc n), some (.int x), b11, b12, b13, some (.int i)], rfl, by simp, by simp⟩
  have eS : (-1 :: (somes W k x).map fun o : Nat => (o : Int)).map D.int = D.int (-1) :: (somes W k x).map iD := by
    rw [List.map_cons, List.map_map]
    rfl
  obtain ⟨A, hA⟩ : ∃ A, A = (-1 :: (somes W k x).map fun o : Nat => (o : Int)).filter fun i => decide (i < atv) := ⟨_, rfl⟩
  rw [← hA, eS] at h2
  have lA : A.length ≤ (somes W k x).length + 1 := by
    rw [hA]
    have := List.length_filter_le (fun i : Int => decide (i < atv)) (-1 :: (somes W k x).map fun o : Nat => (o : Int))
    simpa using this
  have l3 : 1 + A.length ≤ big := by rw [big_eq]; omega
  have hAm : maxI (-1 :: A) ∈ -1 :: (somes W k x).map fun o : Nat => (o : Int) := by
    have := maxI_mem (ns := -1 :: A) (by simp)
    rcases List.mem_cons.mp this with e | e
    · rw [e]
      exact List.mem_cons_self
    · rw [hA] at e
      have := (List.mem_filter.mp e).1
      rw [hA]
      exact this
  obtain ⟨r, P1, e1, hP1, r0, r1⟩ := draw_ok hc hP (many := 6) (by omega) (by omega) (.lst (W.map wD) :: Fo :: (rest ++ [.lst (R.map rD)]))
  by_cases q1 : r = 0 ∧ 1 < style
  · obtain ⟨rfl, q1⟩ := q1
    obtain ⟨y, P2, e2, hP2, hy⟩ := any_ok hc hP1 (D.int (-1) :: (somes W k x).map iD) (by simp) (by simp; omega) (.lst (W.map wD) :: Fo :: (rest ++ [.lst (R.map rD)]))
    obtain ⟨s, rfl, hs⟩ : ∃ s, y = .int s ∧ s ∈ -1 :: (somes W k x).map fun o : Nat => (o : Int) := by
      rw [← eS] at hy
      obtain ⟨s, hs, rfl⟩ := List.mem_map.mp hy
      exact ⟨s, rfl, hs⟩
    refine ⟨some (.lst (D.int (-1) :: (somes W k x).map iD)), some (.lst (A.map .int)), some (.int 0), P2, R ++ [(x, s)], ?_, hP2, .inr ⟨s, rfl, somes_src hs⟩⟩
    simp [innerB, c1, er, c4, wipeG, h1, l1, l1', h2, e1, q1, e2, hget, hset, lR, b1, b2, rD]
  · by_cases q2 : r < 4
    · refine ⟨some (.lst (D.int (-1) :: (somes W k x).map iD)), some (.lst (A.map .int)), some (.int r), P1, R ++ [(x, maxI (-1 :: A))], ?_, hP1, .inr ⟨_, rfl, somes_src hAm⟩⟩
      have e4 := fun h : AH => v_max (h := h) (-1) A
      by_cases q3 : r = 0
      · have q4 : ¬ 1 < style := fun z => q1 ⟨q3, z⟩
        subst q3
        simp [innerB, c1, er, c4, wipeG, h1, l1, l1', h2, e1, q4, hget, hset, lR, b1, b2, rD, l3, e4]
      · simp [innerB, c1, er, c4, wipeG, h1, l1, l1', h2, e1, q3, q2, hget, hset, lR, b1, b2, rD, l3, e4]
    · have q3 : ¬ r = 0 := by omega
      refine ⟨some (.lst (D.int (-1) :: (somes W k x).map iD)), some (.lst (A.map .int)), some (.int r), P1, R, ?_, hP1, .inl rfl⟩
      simp [innerB, c1, er, c4, wipeG, h1, l1, l1', h2, e1, q3, q2, hget, hset, lR, b1, b2, rD]
end My
namespace My
open PySem AB L2
theorem for_pre {α : Type} {p : Pat} {body : Ms} {all0 : List D} (I : List α → AB.Env → AH → Prop) (enc : α → D) (xs : List α) : ∀ (todo done : List α), done ++ todo = xs →
    (∀ done x rest, done ++ x :: rest = xs → ∀ G h, I done G h → ∃ G1 G2 h2, asg p (enc x) G = some G1 ∧ body G1 h = .next G2 h2 ∧ I (done ++ [x]) G2 h2) →
    ∀ G h, I done G h → ∃ G' h', forGo p body none all0 (todo.map enc) G h = .next G' h' ∧ I xs G' h'
  | [], done, e, _, G, h, hI => by
    rw [List.append_nil] at e
    subst e
    exact ⟨G, h, by simp [forGo, Still], hI⟩
  | x :: r, done, e, hx, G, h, hI => by
    obtain ⟨G1, G2, h2, e1, e2, hI2⟩ := hx done x r e G h hI
    obtain ⟨G', h', e3, hI'⟩ := for_pre (all0 := all0) I enc xs r (done ++ [x]) (by rw [List.append_assoc]; exact e) hx G2 h2 hI2
    refine ⟨G', h', ?_, hI'⟩
    rw [List.map_cons]
    unfold forGo
    rw [if_pos (by trivial), e1]
    simp only [e2, e3]
structure RGood (W : List (List Int)) (nm : List Int) (k : Nat) (R : List (Int × Int)) : Prop where
  sub : (R.map (·.1)).Sublist nm
  src : ∀ r ∈ R, Src W k r.1 r.2
theorem inner_loop {cs : List Int} (hc : ∀ c ∈ cs, 0 ≤ c) {P : AO} (hP : IsP cs P) {W : List (List Int)} (hW : W.length ≤ 100) {nm : List Int} (hn : Names nm) (style atv : Int) (k : Nat) (Fo : AO) (rest : AH) (most : Option D) (b10 b11 b12 b13 : Option D) (all0 : List D) :
    ∃ a10 a11 a12 a13 P' R', forGo (.nm 10) innerB none all0 (nm.map .int) [some (.loc 0), most, some (.int W.length), some (wD nm), some (.int style), some (.loc 1), some (.int k), some (.loc 2), some (.int atv), some (.loc (rest.length + 3)), b10, b11, b12, b13, none] (P :: .lst (W.map wD) :: Fo :: (rest ++ [.lst []]))
      = .next [some (.loc 0), most, some (.int W.length), some (wD nm), some (.int style), some (.loc 1), some (.int k), some (.loc 2), some (.int atv), some (.loc (rest.length + 3)), a10, a11, a12, a13, none] (P' :: .lst (W.map wD) :: Fo :: (rest ++ [.lst (R'.map rD)]))
      ∧ IsP cs P' ∧ RGood W nm k R' := by
  have hl := hn.len
  obtain ⟨G', h', e, a10, a11, a12, a13, P', R', rfl, rfl, hP', s1, s2⟩ := for_pre (p := .nm 10) (body := innerB) (all0 := all0)
    (fun done G h => ∃ a10 a11 a12 a13 P' R', G = [some (.loc 0), most, some (.int W.length), some (wD nm), some (.int style), some (.loc 1), some (.int k), some (.loc 2), some (.int atv), some (.loc (rest.length + 3)), a10, a11, a12, a13, none] ∧ h = P' :: .lst (W.map wD) :: Fo :: (rest ++ [.lst (R'.map rD)]) ∧ IsP cs P' ∧ (R'.map (·.1)).Sublist done ∧ ∀ r ∈ R', Src W k r.1 r.2)
    D.int nm nm [] rfl
    (by
      rintro done x rs hxs G h ⟨a10, a11, a12, a13, P1, R1, rfl, rfl, hP1, s1, s2⟩
      have hR : R1.length ≤ 100 := by
        have h1 := s1.length_le
        rw [List.length_map] at h1
        have h2 : done.length ≤ nm.length := by
          rw [← hxs, List.length_append]
          omega
        omega
      obtain ⟨c11, c12, c13, P2, R2, e, hP2, hR2⟩ := inner_body hc hP1 hW x style atv k (rest.length + 3) Fo rest rfl R1 hR most (some (wD nm)) a11 a12 a13
      refine ⟨_, _, _, rfl, e, some (.int x), c11, c12, c13, P2, R2, rfl, rfl, hP2, ?_, ?_⟩
      · rcases hR2 with rfl | ⟨s, rfl, _⟩
        · exact s1.trans (List.sublist_append_left _ _)
        · rw [List.map_append]
          exact s1.append (List.Sublist.refl _)
      · rcases hR2 with rfl | ⟨s, rfl, hs⟩
        · exact s2
        · intro r hr
          rcases List.mem_append.mp hr with hr | hr
          · exact s2 r hr
          · rw [List.mem_singleton.mp hr]
            exact hs)
    _ _ ⟨b10, b11, b12, b13, P, [], rfl, rfl, hP, by simp, by simp⟩
  exact ⟨a10, a11, a12, a13, P', R', e, hP', s1, s2⟩
noncomputable abbrev outerB : Ms := (sSeq (sSet 8 (mIf (tBl (mOp2 fEq (mV 4) (mC (.int 0)))) (mV 6) (mN m__law_draw (aCons (mV 0) (aCons (mOp2 fAdd (mV 6) (mC (.int 1))) aNil))))) (sSeq (sSet 9 (mNew (lLst aNil))) (sSeq (sFor (.nm 10) (iSeq (mV 3)) (sSeq (sSet 11 (mOp2 fAdd (mL (lLst (aCons (mOp1 fNeg (mC (.int 1))) aNil))) (mL (lComp (.nm 14) [14] (iRange1 (aCons (mV 2) aNil)) (tAndM (tBl (mOp2 fNe (mV 14) (mV 6))) (tBl (mOp2 fIn (mV 10) (mOp2 fIx (mV 5) (mV 14))))) (mV 14))))) (sSeq (sSet 12 (mL (lComp (.nm 14) [14] (iSeq (mV 11)) (tBl (mOp2 cLt (mV 14) (mV 8))) (mV 14)))) (sSeq (sSet 13 (mN m__law_draw (aCons (mV 0) (aCons (mC (.int 6)) aNil)))) (sSeq (sIf (tAndM (tBl (mOp2 fEq (mV 13) (mC (.int 0)))) (tBl (mOp2 cGt (mV 4) (mC (.int 1))))) (sSeq (sExpr (mBM fApp (mV 9) (aCons (mN fTup (aCons (mV 10) (aCons (mN m__law_any (aCons (mV 0) (aCons (mV 11) aNil))) aNil))) aNil))) sNil) (sSeq (sIf (tBl (mOp2 cLt (mV 13) (mC (.int 4)))) (sSeq (sExpr (mBM fApp (mV 9) (aCons (mN fTup (aCons (mV 10) (aCons (mN fMax (aCons (mOp2 fAdd (mL (lLst (aCons (mOp1 fNeg (mC (.int 1))) aNil))) (mV 12)) aNil)) aNil))) aNil))) sNil) sNil) sNil)) sNil))))) (sSeq (sExpr (mBM fApp (mV 7) (aCons (mN fTup (aCons (mN fTuple (aCons (mV 9) aNil)) (aCons (mOp2 fIx (mV 5) (mV 6)) aNil))) aNil))) sNil))))
theorem outer_body {cs : List Int} (hc : ∀ c ∈ cs, 0 ≤ c) {P : AO} (hP : IsP cs P) {W : List (List Int)} (hW : W.length ≤ 100) {nm : List Int} (hn : Names nm) (style : Int) (k : Nat) (hk : k < W.length) (F : List Deal) (hF : F.length ≤ 100) (rest : AH) (most : Option D) (b8 b9 b10 b11 b12 b13 : Option D) :
    ∃ a8 a9 a10 a11 a12 a13 P' o R', outerB [some (.loc 0), most, some (.int W.length), some (wD nm), some (.int style), some (.loc 1), some (.int k), some (.loc 2), b8, b9, b10, b11, b12, b13, none] (P :: .lst (W.map wD) :: .lst (F.map dD) :: rest)
      = .next [some (.loc 0), most, some (.int W.length), some (wD nm), some (.int style), some (.loc 1), some (.int k), some (.loc 2), a8, a9, a10, a11, a12, a13, none] (P' :: .lst (W.map wD) :: .lst ((F ++ [(R', W.getD k [])]).map dD) :: (rest ++ [o]))
      ∧ IsP cs P' ∧ RGood W nm k R' := by
  have hat : ∃ (atv : Int) (P1 : AO), (mIf (tBl (mOp2 fEq (mV 4) (mC (.int 0)))) (mV 6) (mN m__law_draw (aCons (mV 0) (aCons (mOp2 fAdd (mV 6) (mC (.int 1))) aNil)))) [some (.loc 0), most, some (.int W.length), some (wD nm), some (.int style), some (.loc 1), some (.int k), some (.loc 2), b8, b9, b10, b11, b12, b13, none] (P :: .lst (W.map wD) :: .lst (F.map dD) :: rest) = .ok (.int atv) (P1 :: .lst (W.map wD) :: .lst (F.map dD) :: rest) ∧ IsP cs P1 := by
    by_cases q : style = 0
    · exact ⟨k, P, by simp [q], hP⟩
    · obtain ⟨r, P1, e, hP1, _, _⟩ := draw_ok hc hP (many := (k : Int) + 1) (by omega) (by omega) (.lst (W.map wD) :: .lst (F.map dD) :: rest)
      exact ⟨r, P1, by simp [q, e], hP1⟩
  obtain ⟨atv, P1, e1, hP1⟩ := hat
  obtain ⟨a10, a11, a12, a13, P2, R', e2, hP2, hR⟩ := inner_loop hc hP1 hW hn style atv k (.lst (F.map dD)) rest most b10 b11 b12 b13 (nm.map .int)
  have e3 : atI (W.map wD) (k : Int) = some (.tup ((W.getD k []).map .int)) := by
    rw [atI_map, atI_nat (by omega) (List.getElem?_eq_getElem (by simpa using hk))]
    simp [wD, List.getD_eq_getElem?_getD, hk]
  have lF : F.length < big := by rw [big_eq]; omega
  have b2 : (2 : Nat) ≤ big := by decide
  have e4 : wD nm = .tup (nm.map .int) := rfl
  have hget : ∀ (P x y : AO) (o : AO), (P :: x :: y :: (rest ++ [o]))[rest.length + 3]? = some o := fun P x y o => by simp
  refine ⟨some (.int atv), some (.loc (rest.length + 3)), a10, a11, a12, a13, P2, .lst (R'.map rD), R', ?_, hP2, hR⟩
  rw [e4] at e1 e2 ⊢
  simp only [outerB, v_sSeq, v_sSet, e1, Res.toS_ok, SR.andThen_next]
  simp [e2, hget, e3, lF, b2, dD]
end My
namespace My
open PySem AB L2
theorem names_ok {d : D} (h : d ∈ [wD [0, 1, 7, 99], wD [3, 4], wD [5], wD [0, 2, 50]]) : ∃ nm, d = wD nm ∧ Names nm := by
  have key : ∀ nm ∈ [[0, 1, 7, 99], [3, 4], [5], [0, 2, 50]], Names nm := by
    intro nm h
    simp at h
    rcases h with rfl | rfl | rfl | rfl
    · exact ⟨by decide, by decide, by decide⟩
    · exact ⟨by decide, by decide, by decide⟩
    · exact ⟨by decide, by decide, by decide⟩
    · exact ⟨by decide, by decide, by decide⟩
  simp only [List.mem_cons, List.not_mem_nil, or_false] at h
  rcases h with rfl | rfl | rfl | rfl
  · exact ⟨_, rfl, key _ (by simp)⟩
  · exact ⟨_, rfl, key _ (by simp)⟩
  · exact ⟨_, rfl, key _ (by simp)⟩
  · exact ⟨_, rfl, key _ (by simp)⟩
/-- a drawn history -/
structure Made (W : List (List Int)) (nm : List Int) (F : List Deal) : Prop where
  each : ∀ i d, F[i]? = some d → d.2 = W.getD i [] ∧ RGood W nm i d.1
theorem made_wf {W : List (List Int)} {nm : List Int} {F : List Deal} (hn : Names nm) (hW : ∀ w ∈ W, w.Sublist nm) (hl : F.length = W.length) (h12 : F.length ≤ 12) (m : Made W nm F) : Wf F := by
  have hl4 := hn.len
  have get : ∀ i, i < F.length → F[i]? = some (F.getD i nilD) := fun i hi => by
    rw [List.getD_eq_getElem?_getD, List.getElem?_eq_getElem hi]
    rfl
  have hwr : ∀ i, i < F.length → wr F i = W.getD i [] := fun i hi => (m.each i _ (get i hi)).1
  have hmem : ∀ i, i < F.length → (W.getD i []).Sublist nm := fun i hi => by
    have hi : i < W.length := by omega
    apply hW
    rw [List.getD_eq_getElem?_getD, List.getElem?_eq_getElem hi]
    exact List.getElem_mem hi
  refine ⟨h12, fun i hi => ?_, fun i hi => ?_⟩
  · have s := hmem i hi
    rw [hwr i hi]
    have := s.length_le
    exact ⟨hn.asc.sublist s, fun k hk => hn.bd k (s.subset hk), by omega⟩
  · have g := (m.each i _ (get i hi)).2
    have s := g.sub
    have l := s.length_le
    rw [List.length_map] at l
    have e : rd F i = (F.getD i nilD).1 := rfl
    rw [e]
    refine ⟨hn.asc.sublist s, fun r hr => hn.bd _ (s.subset (List.mem_map.mpr ⟨r, hr, rfl⟩)), fun r hr => ?_, fun r hr => ?_, by omega⟩
    · rcases g.src r hr with h | ⟨o, ho, _, e, hx⟩
      · exact .inl h
      · refine .inr ⟨by omega, by omega, ?_⟩
        rw [e, Int.toNat_natCast, hwr o (by omega)]
        exact hx
    · rcases g.src r hr with h | ⟨o, ho, hne, e, hx⟩
      · omega
      · omega
theorem under_rs (n : Nat) (rs : List (Int × Int)) : underL n (rs.map rD) = true := by
  induction rs with
  | nil => simp [underL]
  | cons r rs ih => simp [underL, ih, rD, D.under]
theorem under_hD (n : Nat) (F : List Deal) : (hD F).under n = true := by
  unfold hD
  have : underL n (F.map dD) = true := by
    induction F with
    | nil => simp [underL]
    | cons d F ih => simp [underL, ih, dD, D.under, under_rs, under_ints]
  simpa [D.under] using this
theorem under_P {cs : List Int} {P : AO} (h : IsP cs P) (n : Nat) : P.under n = true := by
  obtain ⟨a, b, s, t, rfl, _⟩ := h
  simp [pool, AO.under, underL, D.under, under_ints]
theorem history_ok {cs : List Int} (hc : ∀ c ∈ cs, 0 ≤ c) {P : AO} (hP : IsP cs P) {most : Nat} (hm : most ≤ 12) :
    ∃ F P', m__law_history [.loc 0, .int most] [P] = .ok (hD F) [P'] ∧ IsP cs P' ∧ Wf F := by
  obtain ⟨many, P1, e1, hP1, r0, r1⟩ := draw_ok hc hP (many := (most : Int) + 1) (by omega) (by omega) []
  obtain ⟨n, rfl⟩ : ∃ n : Nat, many = n := ⟨many.toNat, by omega⟩
  have hn12 : n ≤ 12 := by omega
  obtain ⟨x, P2, e2, hP2, hx⟩ := any_ok hc hP1 [wD [0, 1, 7, 99], wD [3, 4], wD [5], wD [0, 2, 50]] (by simp) (by simp) []
  obtain ⟨nm, rfl, hn⟩ := names_ok hx
  obtain ⟨style, P3, e3, hP3, _, _⟩ := draw_ok hc hP2 (many := 4) (by omega) (by omega) []
  have er : rangeD 0 n = (List.range' 0 n).map iD := by rw [rangeD_eq, List.range_eq_range']
  have c1 : okR (n : Int) := ⟨by omega, by omega⟩
  have c4 : n ≤ big := by rw [big_eq]; omega
  -- the writes
  obtain ⟨G4, h4, e4, k4, P4, W, rfl, rfl, hP4, hWl, hWs⟩ := for_invN (p := .nm 6) (body := (sSeq (sExpr (mBM fApp (mV 5) (aCons (mN fTuple (aCons (mL (lComp (.nm 10) [10] (iSeq (mV 3)) (tBl (mOp2 fEq (mN m__law_draw (aCons (mV 0) (aCons (mOp2 fAdd (mC (.int 2)) (mN fInt (aCons (mOp2 cGt (mN fLen (aCons (mV 3) aNil)) (mC (.int 2))) aNil))) aNil))) (mC (.int 0)))) (mV 10))) aNil)) aNil))) sNil)) (all0 := (List.range' 0 n).map iD)
    (fun j G h => ∃ k P W, G = [some (.loc 0), some (.int most), some (.int n), some (wD nm), some (.int style), some (.loc 1), k, none, none, none, none, none, none, none, none] ∧ h = [P, .lst (W.map wD)] ∧ IsP cs P ∧ W.length = j ∧ ∀ w ∈ W, w.Sublist nm)
    iD n 0 n (by omega)
    (by
      rintro i hi G h ⟨k, P, W, rfl, rfl, hP, hWl, hWs⟩
      obtain ⟨ys, P', e, hP', sl⟩ := wrote_body hc hn hP W (by omega) (some (.int most)) (some (.int n)) (some (.int style)) (some (iD i))
      refine ⟨_, _, _, rfl, e, _, P', W ++ [ys], rfl, rfl, hP', by simp [hWl], fun w hw => ?_⟩
      rcases List.mem_append.mp hw with hw | hw
      · exact hWs w hw
      · rw [List.mem_singleton.mp hw]
        exact sl)
    [some (.loc 0), some (.int most), some (.int n), some (wD nm), some (.int style), some (.loc 1), none, none, none, none, none, none, none, none, none] [P3, .lst []] ⟨none, P3, [], rfl, rfl, hP3, rfl, by simp⟩
  -- the deals
  obtain ⟨G5, h5, e5, k5, a8, a9, a10, a11, a12, a13, P5, rest, F, rfl, rfl, hP5, hFl, hF⟩ := for_invN (p := .nm 6) (body := outerB) (all0 := (List.range' 0 n).map iD)
    (fun j G h => ∃ k a8 a9 a10 a11 a12 a13 P rest F, G = [some (.loc 0), some (.int most), some (.int W.length), some (wD nm), some (.int style), some (.loc 1), k, some (.loc 2), a8, a9, a10, a11, a12, a13, none] ∧ h = P :: .lst (W.map wD) :: .lst (F.map dD) :: rest ∧ IsP cs P ∧ F.length = j ∧ Made W nm F)
    iD n 0 n (by omega)
    (by
      rintro i hi G h ⟨k, a8, a9, a10, a11, a12, a13, P, rest, F, rfl, rfl, hP, hFl, hF⟩
      obtain ⟨b8, b9, b10, b11, b12, b13, P', o, R', e, hP', hR⟩ := outer_body hc hP (W := W) (by omega) hn style i (by omega) F (by omega) rest (some (.int most)) a8 a9 a10 a11 a12 a13
      refine ⟨_, _, _, rfl, e, some (iD i), b8, b9, b10, b11, b12, b13, P', rest ++ [o], F ++ [(R', W.getD i [])], rfl, rfl, hP', by simp [hFl], ⟨fun j d hj => ?_⟩⟩
      by_cases q : j < F.length
      · rw [List.getElem?_append_left q] at hj
        exact hF.each j d hj
      · have hl := (List.getElem?_eq_some_iff.mp hj).1
        rw [List.length_append] at hl
        have ej : j = i := by
          simp at hl
          omega
        subst ej
        rw [List.getElem?_append_right (by omega), hFl] at hj
        simp at hj
        subst hj
        exact ⟨rfl, hR⟩)
    [some (.loc 0), some (.int most), some (.int W.length), some (wD nm), some (.int style), some (.loc 1), k4, some (.loc 2), none, none, none, none, none, none, none] (P4 :: .lst (W.map wD) :: .lst (([] : List Deal).map dD) :: []) ⟨k4, none, none, none, none, none, none, P4, [], [], rfl, rfl, hP4, rfl, ⟨fun i d h => by simp at h⟩⟩
  refine ⟨F, P5, ?_, hP5, made_wf hn hWs (by omega) (by omega) hF⟩
  have hok : OkCells 1 [P] (P5 :: .lst (W.map wD) :: .lst (F.map dD) :: rest) := by
    intro m o hm' e
    have : m = 0 := by omega
    subst this
    simp at e
    subst e
    exact .inr (under_P hP5 1)
  have fin : finD 1 [P] (hD F) (P5 :: .lst (W.map wD) :: .lst (F.map dD) :: rest) = .ok (hD F) [P5] := by
    unfold finD
    rw [if_neg (by simp), if_pos ⟨under_hD 1 F, hok⟩]
    rfl
  have b1 : (1 : Nat) ≤ big := by decide
  have b2 : (2 : Nat) ≤ big := by decide
  have b3 : (3 : Nat) ≤ big := by decide
  have b4 : (4 : Nat) ≤ big := by decide
  have b0 : (0 : Nat) ≤ big := by decide
  rw [hWl] at e5
  simp only [List.map_nil] at e5
  have e2' : m__law_any [D.loc 0, D.lst [D.tup [D.int 0, D.int 1, D.int 7, D.int 99], D.tup [D.int 3, D.int 4], D.tup [D.int 5], D.tup [D.int 0, D.int 2, D.int 50]]] [P1] = Res.ok (wD nm) [P2] := e2
  have ehd : D.tup (F.map dD) = hD F := rfl
  simp [m__law_history, mDef, b__law_history, e1, e2', e3, b0, b1, b2, b3, b4, c1, er, c4, e4, e5, ehd, fin]
end My
namespace My
open PySem AB L2
theorem log2_small {m : Nat} (h : m < 1000) : m.log2 < 1920 := by
  by_cases z : m = 0
  · subst z
    decide
  · rw [Nat.log2_lt z]
    exact Nat.lt_of_lt_of_le h (by
      have : (1000 : Nat) ≤ 2 ^ 10 := by decide
      exact Nat.le_trans this (Nat.pow_le_pow_right (by decide) (by decide)))
theorem shown_o (o : Option Nat) (h : ∀ m, o = some m → m < 1000) : (PyData.shown (oP o)).length ≤ 1921 := by
  cases o with
  | none =>
    show (PyData.shown .none).length ≤ 1921
    simp only [PyData.shown]
    decide
  | some m =>
    show (PyData.shown (.int m)).length ≤ 1921
    simp only [PyData.shown]
    exact PyProof.Rows.int_text_len_1921 (log2_small (h m rfl))
theorem piled_o {α : Type} (f : α → Option Nat) : ∀ xs : List α, (∀ x ∈ xs, ∀ m, f x = some m → m < 1000) → piled (PyData.shownAll (xs.map fun x => oP (f x))) ≤ 1923 * xs.length ∧ PyData.showableAll (xs.map fun x => oP (f x)) = true ∧ PyData.hasDictAll (xs.map fun x => oP (f x)) = false
  | [], _ => by simp [PyData.shownAll, piled, PyData.showableAll, PyData.hasDictAll]
  | x :: xs, h => by
    obtain ⟨i1, i2, i3⟩ := piled_o f xs fun y hy => h y (List.mem_cons_of_mem _ hy)
    have h1 := shown_o (f x) (h x List.mem_cons_self)
    have h2 : PyData.showable (oP (f x)) = true := by
      cases q : f x with
      | none => simp [oP, PyData.showable]
      | some m =>
        have := log2_small (h x List.mem_cons_self m q)
        simp only [oP, PyData.showable]
        simpa using this
    have h3 : PyData.hasDict (oP (f x)) = false := by cases f x <;> simp [oP, PyData.hasDict]
    refine ⟨?_, by simp [PyData.showableAll, h2, i2], by simp [PyData.hasDictAll, h3, i3]⟩
    rw [List.map_cons]
    simp only [PyData.shownAll]
    rw [piled_cons, List.length_cons]
    omega
theorem repr_o {α : Type} {h : AH} (f : α → Option Nat) (xs : List α) (hl : xs.length ≤ 20) (hf : ∀ x ∈ xs, ∀ m, f x = some m → m < 1000) : fRepr [.tup (xs.map fun x => oD (f x))] h = .ok (.str (PyData.shown (.tuple (xs.map fun x => oP (f x))))) h := by
  obtain ⟨i1, i2, i3⟩ := piled_o f xs hf
  have e : toPh h (.tup (xs.map fun x => oD (f x))) = some (.tuple (xs.map fun x => oP (f x))) := by
    show (toPs (xs.map fun x => oD (f x))).map PyData.tuple = _
    rw [toPs_o]
    rfl
  have hs : (PyData.shown (.tuple (xs.map fun x => oP (f x)))).length ≤ big := by
    simp only [PyData.shown, tupleText]
    rw [Str.length_append, Str.length_append]
    have t1 : (Str.join ", " (PyData.shownAll (xs.map fun x => oP (f x)))).length ≤ piled (PyData.shownAll (xs.map fun x => oP (f x))) + 2 := by
      by_cases z : PyData.shownAll (xs.map fun x => oP (f x)) = []
      · rw [z]
        decide
      · have := join_length_add _ z
        omega
    have t2 : ((if (PyData.shownAll (xs.map fun x => oP (f x))).length == 1 then ",)" else ")" : String) : Str).length ≤ 2 := by
      split <;> decide
    have t3 : (("(" : Str)).length ≤ 1 := by decide
    rw [big_eq]
    omega
  unfold fRepr
  simp only [e]
  rw [if_pos]
  refine ⟨rfl, ?_, ?_, ?_, hs⟩
  · simpa [PyData.showable] using i2
  · simpa [PyData.hasDict] using i3
  · simp [PyData.depth, dep_o]
theorem ne_o {α : Type} {h : AH} (f : α → Option Nat) (xs : List α) : fNe (.tup (xs.map fun x => oD (f x))) (.tup (xs.map fun x => oD (f x))) h = .ok (.bl false) h := by
  unfold fNe
  rw [okP_oT]
  have : PyData.eqv (.tuple (xs.map fun x => oP (f x))) (.tuple (xs.map fun x => oP (f x))) = true := PySem.SeqAt.eqv_refl _ (by simp [PyData.canLay0, lay_o])
  simp [this]
theorem eq_o {α : Type} {h : AH} (f : α → Option Nat) (xs : List α) : fEq (.tup (xs.map fun x => oD (f x))) (.tup (xs.map fun x => oD (f x))) h = .ok (.bl true) h := by
  unfold fEq
  rw [okP_oT]
  have : PyData.eqv (.tuple (xs.map fun x => oP (f x))) (.tuple (xs.map fun x => oP (f x))) = true := PySem.SeqAt.eqv_refl _ (by simp [PyData.canLay0, lay_o])
  simp [this]
theorem momB_le {H : List Deal} {i m : Nat} (h : momB H i = some m) : m ≤ i := by
  unfold momB at h
  have := List.mem_of_getLast? h
  have := List.mem_range.mp (List.mem_filter.mp this).1
  omega
def moreD : Deal := ([], [0, 1, 3, 5, 99])
theorem more_get {H : List Deal} {i : Nat} (hi : i < H.length) : (H ++ [moreD]).getD i nilD = H.getD i nilD := by
  rw [List.getD_eq_getElem?_getD, List.getD_eq_getElem?_getD, List.getElem?_append_left hi]
theorem more_last {H : List Deal} : (H ++ [moreD]).getD H.length nilD = moreD := by
  rw [List.getD_eq_getElem?_getD, List.getElem?_append_right (Nat.le_refl _)]
  simp
theorem more_wr {H : List Deal} {i : Nat} (hi : i < H.length) : wr (H ++ [moreD]) i = wr H i := by
  unfold wr
  rw [more_get hi]
theorem more_rd {H : List Deal} {i : Nat} (hi : i < H.length) : rd (H ++ [moreD]) i = rd H i := by
  unfold rd
  rw [more_get hi]
theorem more_wf {H : List Deal} (w : Wf H) (h : H.length < 12) : Wf (H ++ [moreD]) := by
  have lm : (H ++ [moreD]).length = H.length + 1 := by simp
  have cases : ∀ i, i < (H ++ [moreD]).length → i < H.length ∨ i = H.length := fun i hi => by rw [lm] at hi; omega
  refine ⟨by rw [lm]; omega, fun i hi => ?_, fun i hi => ?_⟩
  · rcases cases i hi with q | rfl
    · rw [more_wr q]
      exact w.w i q
    · have : wr (H ++ [moreD]) H.length = [0, 1, 3, 5, 99] := by
        unfold wr
        rw [more_last]
        rfl
      rw [this]
      exact ⟨by decide, by decide, by decide⟩
  · rcases cases i hi with q | rfl
    · rw [more_rd q]
      have r := w.r i q
      refine ⟨r.asc, r.bd, fun x hx => ?_, r.own, r.len⟩
      rcases r.src x hx with z | ⟨z1, z2, z3⟩
      · exact .inl z
      · refine .inr ⟨z1, by rw [lm]; omega, ?_⟩
        rw [more_wr (by omega)]
        exact z3
    · have : rd (H ++ [moreD]) H.length = [] := by
        unfold rd
        rw [more_last]
        rfl
      rw [this]
      exact ⟨.nil, by simp, by simp, by simp, by simp⟩
theorem more_wsTo {H : List Deal} {m : Nat} (hm : m ≤ H.length) (k : Int) : wsTo (H ++ [moreD]) m k = wsTo H m k := by
  unfold wsTo
  apply List.filter_congr
  intro i hi
  rw [more_wr (by have := List.mem_range.mp hi; omega)]
theorem more_mom {H : List Deal} {i : Nat} (hi : i < H.length) : momB (H ++ [moreD]) i = momB H i := by
  rw [← mom_eq hi, ← mom_eq (show i < (H ++ [moreD]).length by simp; omega)]
  unfold momL
  refine find_congr fun m hm => ?_
  have hm : m < i + 1 := by simpa using hm
  unfold okB
  rw [more_rd hi, more_wr hi]
  simp only [more_wsTo (show m ≤ H.length by omega), more_wsTo (show i ≤ H.length by omega)]
theorem add_more {h : AH} {H : List Deal} (hl : H.length < 12) : fAdd (hD H) (.tup [.tup [.tup [], .tup [.int 0, .int 1, .int 3, .int 5, .int 99]]]) h = .ok (hD (H ++ [moreD])) h := by
  have e : hD (H ++ [moreD]) = .tup (H.map dD ++ [.tup [.tup [], .tup [.int 0, .int 1, .int 3, .int 5, .int 99]]]) := by
    unfold hD
    rw [List.map_append]
    rfl
  have l : H.length + 1 ≤ big := by rw [big_eq]; omega
  rw [e]
  unfold hD
  rw [v_addT, if_pos (by simpa using l)]
noncomputable abbrev turnB : Ms := (sSeq (sSet 3 (mN m__law_history (aCons (mV 1) (aCons (mIf (tBl (mOp2 fEq (mN m__law_draw (aCons (mV 1) (aCons (mC (.int 3)) aNil))) (mC (.int 0)))) (mC (.int 12)) (mC (.int 5))) aNil)))) (sSeq (sSet 4 (mN fTuple (aCons (mL (lComp (.nm 9) [9] (iRange1 (aCons (mN fLen (aCons (mV 3) aNil)) aNil)) tYesM (mN m__law_moment (aCons (mV 3) (aCons (mV 9) aNil))))) aNil))) (sSeq (sSet 5 (mN m_moments (aCons (mV 3) aNil))) (sSeq (sIf (tOrM (tNotM (tOf (mIsi .tup (mV 5)))) (tBl (mOp2 fNeS (mN fRepr (aCons (mV 5) aNil)) (mN fRepr (aCons (mV 4) aNil))))) (sSeq (sRet (mC (.bl false))) sNil) sNil) (sSeq (sIf (tNotM (tOf (mN m__law_flag (aCons (mN m_by_snapshots (aCons (mV 3) aNil)) (aCons (mOp2 fNotIn (mC .non) (mV 4)) aNil))))) (sSeq (sRet (mC (.bl false))) sNil) sNil) (sSeq (sIf (tBl (mOp2 cLt (mN fLen (aCons (mV 3) aNil)) (mC (.int 12)))) (sSeq (sSet 6 (mOp2 fAdd (mV 3) (mN fTup (aCons (mN fTup (aCons (mN fTup aNil) (aCons (mN fTup (aCons (mC (.int 0)) (aCons (mC (.int 1)) (aCons (mC (.int 3)) (aCons (mC (.int 5)) (aCons (mC (.int 99)) aNil)))))) aNil))) aNil)))) (sSeq (sIf (tOrM (tBl (mOp2 fNe (mSl (mN m_moments (aCons (mV 6) aNil)) oNone (oSome (mN fLen (aCons (mV 3) aNil)))) (mV 4))) (tBl (mOp2 fNe (mN m_moments (aCons (mV 6) aNil)) (mOp2 fAdd (mV 4) (mN fTup (aCons (mN m__law_moment (aCons (mV 6) (aCons (mN fLen (aCons (mV 3) aNil)) aNil))) aNil)))))) (sSeq (sRet (mC (.bl false))) sNil) sNil) sNil)) sNil) sNil))))))
@[simp] theorem finD_one (P : AO) (d : D) : finD 1 [P] d [P] = .ok d [P] := finD_same [P] d
theorem turn_ok {cs : List Int} (hc : ∀ c ∈ cs, 0 ≤ c) {P : AO} (hP : IsP cs P) (x0 x2 x3 x4 x5 x6 : Option D) :
    ∃ y3 y4 y5 y6 P', turnB [x0, some (.loc 0), x2, x3, x4, x5, x6, none, none, none] [P] = .next [x0, some (.loc 0), x2, y3, y4, y5, y6, none, none, none] [P'] ∧ IsP cs P' := by
  obtain ⟨r, P1, e1, hP1, r0, r1⟩ := draw_ok hc hP (many := 3) (by omega) (by omega) []
  obtain ⟨most, hm, em⟩ : ∃ most : Nat, most ≤ 12 ∧ (mIf (tBl (mOp2 fEq (mN m__law_draw (aCons (mV 1) (aCons (mC (.int 3)) aNil))) (mC (.int 0)))) (mC (.int 12)) (mC (.int 5))) [x0, some (.loc 0), x2, x3, x4, x5, x6, none, none, none] [P] = .ok (.int most) [P1] := by
    by_cases q : r = 0
    · exact ⟨12, by omega, by simp [e1, q]⟩
    · exact ⟨5, by omega, by simp [e1, q]⟩
  obtain ⟨H, P2, e2, hP2, w⟩ := history_ok hc hP1 hm
  have hl := w.len
  have e0 : (mN m__law_history (aCons (mV 1) (aCons (mIf (tBl (mOp2 fEq (mN m__law_draw (aCons (mV 1) (aCons (mC (.int 3)) aNil))) (mC (.int 0)))) (mC (.int 12)) (mC (.int 5))) aNil))) [x0, some (.loc 0), x2, x3, x4, x5, x6, none, none, none] [P] = .ok (hD H) [P2] := by
    have e9 : (mV 1) [x0, some (.loc 0), x2, x3, x4, x5, x6, none, none, none] [P] = .ok (.loc 0) [P] := rfl
    simp only [v_mN, v_aCons, v_aNil, em, e9, Res.bind_ok, e2]
  have er : rangeD 0 H.length = (List.range H.length).map iD := rangeD_eq _
  have c1 : okR (H.length : Int) := ⟨by omega, by omega⟩
  have c4 : H.length ≤ big := by rw [big_eq]; omega
  have hdue : ∀ (all0 : List D) (x4 x5 x6 : Option D), compGo (.nm 9) tYesM (mN m__law_moment (aCons (mV 3) (aCons (mV 9) aNil))) none all0 [x0, some (.loc 0), x2, some (hD H), x4, x5, x6, none, none, none] ((List.range H.length).map iD) [P2] = .ok ((List.range H.length).map fun i => oD (momB H i)) [P2] := by
    intro all0 x4 x5 x6
    refine comp_all _ _ _ fun i hi => ⟨[x0, some (.loc 0), x2, some (hD H), x4, x5, x6, none, none, some (iD i)], rfl, ?_⟩
    have hi := List.mem_range.mp hi
    have := law_moment_ok (h := [P2]) w hi
    rw [mom_eq hi] at this
    simp [this]
  have hrep := repr_o (h := [P2]) (momB H) (List.range H.length) (by simp; omega) fun i hi m hm => by
    have := momB_le hm
    have := List.mem_range.mp hi
    omega
  have hmom := moments_ok (h := [P2]) w
  have hby := by_snapshots_ok (h := [P2]) w
  have hfl : ∀ b : Bool, m__law_flag [.bl b, .bl b] [P2] = .ok (.bl true) [P2] := fun b => by
    cases b <;> simp [m__law_flag, mDef, b__law_flag, Ty.sub]
  have hmore : ∀ G : AB.Env, True := fun _ => trivial
  by_cases q : H.length < 12
  · have w2 := more_wf w q
    have hmom2 := moments_ok (h := [P2]) w2
    have lm : (H ++ [moreD]).length = H.length + 1 := by simp
    have h3 : (List.range (H ++ [moreD]).length).map (fun i => oD (momB (H ++ [moreD]) i)) = (List.range H.length).map (fun i => oD (momB H i)) ++ [oD (momB (H ++ [moreD]) H.length)] := by
      rw [lm, List.range_succ, List.map_append]
      congr 1
      apply List.map_congr_left
      intro i hi
      rw [more_mom (List.mem_range.mp hi)]
    have hlm : m__law_moment [hD (H ++ [moreD]), .int H.length] [P2] = .ok (oD (momB (H ++ [moreD]) H.length)) [P2] := by
      have hi : H.length < (H ++ [moreD]).length := by rw [lm]; omega
      have := law_moment_ok (h := [P2]) w2 hi
      rw [mom_eq hi] at this
      exact this
    have hcut : cutD ((List.range H.length).map (fun i => oD (momB H i)) ++ [oD (momB (H ++ [moreD]) H.length)]) none (some (H.length : Int)) = (List.range H.length).map fun i => oD (momB H i) := by
      unfold cutD
      have a1 : HT.sIx ((List.range H.length).map (fun i => oD (momB H i)) ++ [oD (momB (H ++ [moreD]) H.length)]).length ((List.range H.length).map (fun i => oD (momB H i)) ++ [oD (momB (H ++ [moreD]) H.length)]).length (some (H.length : Int)) = H.length := by
        rw [HT.sIx_nat]
        simp
      have a2 : HT.sIx ((List.range H.length).map (fun i => oD (momB H i)) ++ [oD (momB (H ++ [moreD]) H.length)]).length 0 none = 0 := rfl
      rw [a1, a2]
      simp
    have hne1 := ne_o (h := [P2]) (momB H) (List.range H.length)
    have hne2 := ne_o (h := [P2]) (momB (H ++ [moreD])) (List.range (H ++ [moreD]).length)
    rw [h3] at hne2
    rw [lm] at h3 hmom2
    have l5 : H.length + 1 ≤ big := by rw [big_eq]; omega
    have b1 : (1 : Nat) ≤ big := by decide
    have b2 : (2 : Nat) ≤ big := by decide
    have b5 : (5 : Nat) ≤ big := by decide
    have b0 : (0 : Nat) ≤ big := by decide
    have qi : (H.length : Int) < 12 := by omega
    have ha := add_more (h := [P2]) q
    refine ⟨some (hD H), some (.tup ((List.range H.length).map fun i => oD (momB H i))), some (.tup ((List.range H.length).map fun i => oD (momB H i))), some (hD (H ++ [moreD])), P2, ?_, hP2⟩
    simp only [turnB, v_sSeq, v_sSet, e0, Res.toS_ok, SR.andThen_next]
    simp [c1, er, c4, wipeG, hdue, hmom, hrep, Ty.sub, hby, hfl, qi, b0, b1, b2, b5, ha, hmom2, h3, hcut, hne1, hlm, l5, hne2]
  · have qi : ¬ (H.length : Int) < 12 := by omega
    refine ⟨some (hD H), some (.tup ((List.range H.length).map fun i => oD (momB H i))), some (.tup ((List.range H.length).map fun i => oD (momB H i))), x6, P2, ?_, hP2⟩
    simp only [turnB, v_sSeq, v_sSet, e0, Res.toS_ok, SR.andThen_next]
    simp [c1, er, c4, wipeG, hdue, hmom, hrep, Ty.sub, hby, hfl, qi]
end My
namespace My
open PySem AB L2
def skewH : List Deal := [([(0, -1), (1, -1)], [0]), ([(0, -1), (1, -1)], [1])]
def lostH : List Deal := [([(3, -1)], [3]), ([(3, -1)], [3])]
theorem wf_two {d0 d1 : Deal} (a0 : WOk d0.2) (a1 : WOk d1.2) (b0 : ROk [d0, d1] 0 d0.1) (b1 : ROk [d0, d1] 1 d1.1) : Wf [d0, d1] := by
  refine ⟨by simp, fun i hi => ?_, fun i hi => ?_⟩
  · have : i = 0 ∨ i = 1 := by simp at hi; omega
    rcases this with rfl | rfl
    · exact a0
    · exact a1
  · have : i = 0 ∨ i = 1 := by simp at hi; omega
    rcases this with rfl | rfl
    · exact b0
    · exact b1
theorem skew_wf : Wf skewH := wf_two ⟨by decide, by decide, by decide⟩ ⟨by decide, by decide, by decide⟩
  ⟨by decide, by decide, fun r hr => .inl (by revert r; decide), by decide, by decide⟩ ⟨by decide, by decide, fun r hr => .inl (by revert r; decide), by decide, by decide⟩
theorem lost_wf : Wf lostH := wf_two ⟨by decide, by decide, by decide⟩ ⟨by decide, by decide, by decide⟩
  ⟨by decide, by decide, fun r hr => .inl (by revert r; decide), by decide, by decide⟩ ⟨by decide, by decide, fun r hr => .inl (by revert r; decide), by decide, by decide⟩
theorem nil_wf : Wf [] := ⟨by simp, fun i hi => by simp at hi, fun i hi => by simp at hi⟩
theorem skew_m : (List.range 2).map (momB skewH) = [some 0, some 0] := by decide
theorem lost_m : (List.range 2).map (momB lostH) = [some 0, none] := by decide
theorem eP (h : AH) (os : List (Option Nat)) : fNe (.tup (os.map oD)) (.tup (os.map oD)) h = .ok (.bl false) h := ne_o id os
theorem loop_ok {cs : List Int} (hc : ∀ c ∈ cs, 0 ≤ c) {P : AO} (hP : IsP cs P) (x0 : Option D) (all0 : List D) : ∃ x2 x3 x4 x5 x6 P', forGo (.nm 2) turnB none all0 ((List.range 5).map iD) [x0, some (.loc 0), none, none, none, none, none, none, none, none] [P] = .next [x0, some (.loc 0), x2, x3, x4, x5, x6, none, none, none] [P'] ∧ IsP cs P' := by
  obtain ⟨G', h', e5, x2, x3, x4, x5, x6, P', e1, e2, hP'⟩ := for_inv (p := .nm 2) (body := turnB) (all0 := all0)
    (fun G h => ∃ x2 x3 x4 x5 x6 P, G = [x0, some (.loc 0), x2, x3, x4, x5, x6, none, none, none] ∧ h = [P] ∧ IsP cs P)
    iD (List.range 5)
    (by
      rintro i hi G h ⟨x2, x3, x4, x5, x6, P, rfl, rfl, hP⟩
      obtain ⟨y3, y4, y5, y6, P', e, hP'⟩ := turn_ok hc hP x0 (some (iD i)) x3 x4 x5 x6
      exact ⟨_, _, _, rfl, e, some (iD i), y3, y4, y5, y6, P', rfl, rfl, hP'⟩)
    [x0, some (.loc 0), none, none, none, none, none, none, none, none] [P] ⟨none, none, none, none, none, P, rfl, rfl, hP⟩
  subst e1 e2
  exact ⟨x2, x3, x4, x5, x6, P', e5, hP'⟩
end My
namespace My
open PySem AB L2
theorem f_m1 (h : AH) : m_moments [hD skewH] h = .ok (.tup [.int 0, .int 0]) h := by
  have := moments_ok (h := h) skew_wf
  have e : (List.range skewH.length).map (fun i => oD (momB skewH i)) = [D.int 0, D.int 0] := by
    have := congrArg (List.map oD) skew_m
    rw [List.map_map] at this
    exact this
  rw [e] at this
  exact this
theorem f_m2 (h : AH) : m_moments [hD lostH] h = .ok (.tup [.int 0, .non]) h := by
  have := moments_ok (h := h) lost_wf
  have e : (List.range lostH.length).map (fun i => oD (momB lostH i)) = [D.int 0, D.non] := by
    have := congrArg (List.map oD) lost_m
    rw [List.map_map] at this
    exact this
  rw [e] at this
  exact this
theorem f_m3 (h : AH) : m_moments [D.tup []] h = .ok (.tup []) h := by
  have := moments_ok (h := h) nil_wf
  have e1 : hD [] = D.tup [] := rfl
  rw [e1] at this
  rw [this]
  rfl
theorem f_s1 (h : AH) : m_by_snapshots [hD skewH] h = .ok (.bl true) h := by
  have := by_snapshots_ok (h := h) skew_wf
  have e : ((List.range skewH.length).all fun i => (momB skewH i).isSome) = true := by decide
  rw [e] at this
  exact this
theorem f_s2 (h : AH) : m_by_snapshots [hD lostH] h = .ok (.bl false) h := by
  have := by_snapshots_ok (h := h) lost_wf
  have e : ((List.range lostH.length).all fun i => (momB lostH i).isSome) = false := by decide
  rw [e] at this
  exact this
theorem f_s3 (h : AH) : m_by_snapshots [D.tup []] h = .ok (.bl true) h := by
  have := by_snapshots_ok (h := h) nil_wf
  have e1 : hD [] = D.tup [] := rfl
  rw [e1] at this
  rw [this]
  rfl
theorem f_q1 (h : AH) : fNe (.tup [.int 0, .int 0]) (.tup [.int 0, .int 0]) h = .ok (.bl false) h := eP h [some 0, some 0]
theorem f_q2 (h : AH) : fNe (.tup [.int 0, .non]) (.tup [.int 0, .non]) h = .ok (.bl false) h := eP h [some 0, none]
theorem f_q3 (h : AH) : fEq (.tup []) (.tup []) h = .ok (.bl true) h := eq_o (h := h) (fun x : Nat => some x) []
theorem f_k1 : D.tup [D.tup [D.tup [D.tup [D.int 0, D.int (-1)], D.tup [D.int 1, D.int (-1)]], D.tup [D.int 0]], D.tup [D.tup [D.tup [D.int 0, D.int (-1)], D.tup [D.int 1, D.int (-1)]], D.tup [D.int 1]]] = hD skewH := rfl
theorem f_k2 : D.tup [D.tup [D.tup [D.tup [D.int 3, D.int (-1)]], D.tup [D.int 3]], D.tup [D.tup [D.tup [D.int 3, D.int (-1)]], D.tup [D.int 3]]] = hD lostH := rfl
end My
namespace My
open PySem AB L2
noncomputable def restB : Ms := (sSeq (sSet 7 (mN fTup (aCons (mN fTup (aCons (mN fTup (aCons (mN fTup (aCons (mC (.int 0)) (aCons (mOp1 fNeg (mC (.int 1))) aNil))) (aCons (mN fTup (aCons (mC (.int 1)) (aCons (mOp1 fNeg (mC (.int 1))) aNil))) aNil))) (aCons (mN fTup (aCons (mC (.int 0)) aNil)) aNil))) (aCons (mN fTup (aCons (mN fTup (aCons (mN fTup (aCons (mC (.int 0)) (aCons (mOp1 fNeg (mC (.int 1))) aNil))) (aCons (mN fTup (aCons (mC (.int 1)) (aCons (mOp1 fNeg (mC (.int 1))) aNil))) aNil))) (aCons (mN fTup (aCons (mC (.int 1)) aNil)) aNil))) aNil)))) (sSeq (sSet 8 (mN fTup (aCons (mN fTup (aCons (mN fTup (aCons (mN fTup (aCons (mC (.int 3)) (aCons (mOp1 fNeg (mC (.int 1))) aNil))) aNil)) (aCons (mN fTup (aCons (mC (.int 3)) aNil)) aNil))) (aCons (mN fTup (aCons (mN fTup (aCons (mN fTup (aCons (mC (.int 3)) (aCons (mOp1 fNeg (mC (.int 1))) aNil))) aNil)) (aCons (mN fTup (aCons (mC (.int 3)) aNil)) aNil))) aNil)))) (sSeq (sIf (tOrM (tBl (mOp2 fNe (mN m_moments (aCons (mV 7) aNil)) (mN fTup (aCons (mC (.int 0)) (aCons (mC (.int 0)) aNil))))) (tOrM (tBl (mOp2 fNotB (mN m_by_snapshots (aCons (mV 7) aNil)) (mC (.bl true)))) (tBl (mOp2 fNe (mN m_moments (aCons (mV 8) aNil)) (mN fTup (aCons (mC (.int 0)) (aCons (mC .non) aNil))))))) (sSeq (sRet (mC (.bl false))) sNil) sNil) (sSeq (sRet (mAnd (mOp2 fEq (mN m_moments (aCons (mN fTup aNil) aNil)) (mN fTup aNil)) (mAnd (mOp2 fIsB (mN m_by_snapshots (aCons (mN fTup aNil) aNil)) (mC (.bl true))) (mOp2 fIsB (mN m_by_snapshots (aCons (mV 8) aNil)) (mC (.bl false)))))) sNil))))
theorem rest_ok (x0 x2 x3 x4 x5 x6 : Option D) (P : AO) : restB [x0, some (.loc 0), x2, x3, x4, x5, x6, none, none, none] [P] = .ret (.bl true) [P] := by
  have b0 : (0 : Nat) ≤ big := by decide
  have b1 : (1 : Nat) ≤ big := by decide
  have b2 : (2 : Nat) ≤ big := by decide
  simp only [restB, v_sSeq, v_sSet, v_sIf, v_sRet, v_mN, v_aCons, v_aNil, v_mC, v_mV, v_mOp1, v_mOp2, v_neg, v_fTup, v_tOr, v_tBl, v_mAnd, Res.bind_ok, Res.toS_ok, SR.andThen_next, List.length_cons, List.length_nil, b0, b1, b2, if_true, List.set_cons_succ, List.set_cons_zero, List.getElem?_cons_succ, List.getElem?_cons_zero, Nat.zero_add, Nat.reduceAdd,
    f_k1, f_k2, f_m1, f_m2, f_m3, f_s1, f_s2, f_s3, f_q1, f_q2, f_q3, v_notB, v_isB, v_truB, decide_true, Bool.not_true, Bool.false_eq_true, if_false, SR.andThen_ret, v_sNil]
theorem law_body (cs : List Int) (s : Int) (x0 : Option D) (ns : List Int) (hc : ∀ c ∈ cs, 0 ≤ c) (ep : m__law_pool [.rol (ns.map .int)] [] = .ok [.lst (cs.map .int), .int 0, .int 0, .int s, .int 0] []) :
    ∃ P', b_law [some (.rol (ns.map .int)), none, none, none, none, none, none, none, none, none] [] = .ret (.bl true) [P'] := by
  have hP : IsP cs (.lst [.lst (cs.map .int), .int 0, .int 0, .int s, .int 0]) := ⟨0, 0, s, 0, rfl, by omega, by omega, by omega⟩
  have er : rangeD 0 5 = (List.range 5).map iD := rangeD_eq 5
  have c1 : okR (5 : Int) := ⟨by decide, by decide⟩
  obtain ⟨x2, x3, x4, x5, x6, P', e5, hP'⟩ := loop_ok hc hP (some (.rol (ns.map .int))) ((List.range 5).map iD)
  refine ⟨P', ?_⟩
  have eb : b_law = sSeq (sSet 1 (mNew (lN m__law_pool (aCons (mV 0) aNil)))) (sSeq (sFor (.nm 2) (iRange1 (aCons (mC (.int 5)) aNil)) turnB) restB) := rfl
  have ei : iRange1 (aCons (mC (.int 5)) aNil) [some (.rol (ns.map .int)), some (.loc 0), none, none, none, none, none, none, none, none] [.lst [.lst (cs.map .int), .int 0, .int 0, .int s, .int 0]] = .ok ((List.range 5).map iD, none) [.lst [.lst (cs.map .int), .int 0, .int 0, .int s, .int 0]] := by
    rw [v_range1]
    simp only [v_aCons, v_aNil, v_mC, Res.bind_ok, c1, if_true]
    show Res.ok (rangeD 0 5, none) _ = _
    rw [er]
  have e1 : (mNew (lN m__law_pool (aCons (mV 0) aNil))) [some (.rol (ns.map .int)), none, none, none, none, none, none, none, none, none] [] = .ok (.loc 0) [.lst [.lst (cs.map .int), .int 0, .int 0, .int s, .int 0]] := by
    simp only [v_mNew, v_lN, v_aCons, v_aNil, v_mV, List.getElem?_cons_zero, Res.bind_ok, ep]
    rfl
  rw [eb]
  simp only [v_sSeq, v_sSet, e1, Res.toS_ok, SR.andThen_next, List.set_cons_succ, List.set_cons_zero]
  simp only [v_sFor, ei, Res.toS_ok]
  rw [e5]
  simp only [SR.andThen_next]
  exact rest_ok _ _ _ _ _ _ P'
theorem law_true : ∀ ns : List Int, ns.length ≤ 63 → ∃ h, m_law [.rol (ns.map D.int)] [] = .ok (.bl true) h := by
  intro ns hns
  obtain ⟨cs, hc, s, ep⟩ := pool_ok ns hns
  obtain ⟨P', e⟩ := law_body cs s none ns hc ep
  have fin : finD 0 [] (D.bl true) [P'] = .ok (.bl true) [] := finD_app [] [P'] _ rfl
  refine ⟨[], ?_⟩
  have em : m_law [.rol (ns.map D.int)] [] = (match b_law [some (.rol (ns.map .int)), none, none, none, none, none, none, none, none, none] [] with
    | .next _ h1 => finD 0 [] .non h1
    | .ret d h1 => finD 0 [] d h1
    | .exc c fs _ h1 => finX 0 [] c fs h1
    | _ => .stuck) := by
    unfold m_law mDef
    rw [if_pos (show [D.rol (List.map D.int ns)].length = 1 from rfl)]
    rfl
  rw [em, e]
  exact fin
end My
namespace My
open PySem PySem.Spec PyProof.Rows L2 AB
def topS (i : Nat) : Stmt := PySem.Challenge.pw_tornsectors_k88_whole_moments_of_snapsho.main.body.getD i (.Pass ⟨0, 0, 0, 0⟩)
structure Txt (K : PySem.W.Frag) (mg : Str → Option Value) : Prop where
  b_abs : mg "abs" = none
  b_all : mg "all" = none
  b_any : mg "any" = none
  b_bool : mg "bool" = none
  b_enumerate : mg "enumerate" = none
  b_int : mg "int" = none
  b_isinstance : mg "isinstance" = none
  b_len : mg "len" = none
  b_max : mg "max" = none
  b_range : mg "range" = none
  b_repr : mg "repr" = none
  b_tuple : mg "tuple" = none
  b_zip : mg "zip" = none
  g_MOST_DEALS : ∃ t : Tok, mg "MOST_DEALS" = some (.int 12 t)
  g_MOST_KEY : ∃ t : Tok, mg "MOST_KEY" = some (.int 99 t)
section
variable {P : Program} {w : World} {K : PySem.W.Frag} {mg : Str → Option Value} {base : Heap}
theorem sc_is_integer : FnScope ["thing"] ["thing"] (defScope (topS 4)) := ⟨rfl, rfl, rfl, by decide +kernel, rfl, by decide +kernel, by decide +kernel⟩
theorem ok_is_integer {f : Addr} {fd : FuncData} (F : Fun K "is_integer" "is_integer" (topS 4) f fd) (T : Txt K mg)  : FnOk P w K mg base (L2.CX P w) 1 f fd ["thing"] (spM K mg m_is_integer) :=
  fn_ok F sc_is_integer b_is_integer fun cdv A outer s H E hr =>
    (s_seq (s_ret (e_and (e_isi .int T.b_isinstance T.b_int (e_var 0)) (e_one (e_not (e_isi .bl T.b_isinstance T.b_bool (e_var 0)))))) s_nil)
theorem sc_writers : FnScope ["history", "key", "index", "deal"] ["history", "key"] (defScope (topS 14)) := ⟨rfl, rfl, rfl, by decide +kernel, rfl, by decide +kernel, by decide +kernel⟩
theorem ok_writers {f : Addr} {fd : FuncData} (F : Fun K "writers" "writers" (topS 14) f fd) (T : Txt K mg)  : FnOk P w K mg base (L2.CX P w) 1 f fd ["history", "key"] (spL K mg m_writers) :=
  fn_okL F sc_writers b_writers fun cdv A outer s H E hr =>
    (s_seq (s_ret (e_new (f_lc (own := [("index", 2), ("deal", 3)]) (.tp [(.nm 2), (.nm 3)]) sc_writers.nd (i_enum T.b_enumerate (a_cons (e_var 0) a_nil)) (blkOk_by (by rfl)) (fun _ _ _ _ _ => (pg_tpP rfl (pgs_consP (pg_nmP (i := 2) sc_writers.nd rfl) (pgs_consP (pg_nmP (i := 3) sc_writers.nd rfl) pgs_nilP)))) (fun _ _ _ _ _ => (pts_one (t_cmp (op_inA (hu65 hr)) fol_in (e_var 1) (e_ix (e_var 3) e_int)))) (fun _ _ _ _ _ => (e_var 2)) (by decide)))) s_nil)
theorem sc__law_pool : FnScope ["script", "cell"] ["script"] (defScope (topS 20)) := ⟨rfl, rfl, rfl, by decide +kernel, rfl, by decide +kernel, by decide +kernel⟩
theorem ok__law_pool {f : Addr} {fd : FuncData} (F : Fun K "_law_pool" "_law_pool" (topS 20) f fd) (T : Txt K mg)  : FnOk P w K mg base (L2.CX P w) 1 f fd ["script"] (spL K mg m__law_pool) :=
  fn_okL F sc__law_pool b__law_pool fun cdv A outer s H E hr =>
    (s_seq (s_ret (e_new (f_lst (a_cons (e_L (f_lc (own := [("cell", 1)]) (.nm 1) sc__law_pool.nd (i_seq (e_sl (e_var 0) o_none (o_some e_int))) (blkOk_by (by rfl)) (fun _ _ _ _ _ => (pg_nmP (i := 1) sc__law_pool.nd rfl)) (fun _ _ _ _ _ => p_yes) (fun _ _ _ _ _ => (e_abs T.b_abs (a_cons (e_int1 T.b_int (a_cons (e_var 1) a_nil)) a_nil))) (by decide))) (a_cons e_int (a_cons e_int (a_cons (e_bin op_add3 fol_add e_int (e_len T.b_len (a_cons (e_var 0) a_nil))) (a_cons e_int a_nil)))))))) s_nil)
theorem sc__law_draw : FnScope ["pool", "many", "cell", "digit", "mixed"] ["pool", "many"] (defScope (topS 21)) := ⟨rfl, rfl, rfl, by decide +kernel, rfl, by decide +kernel, by decide +kernel⟩
theorem ok__law_draw {f : Addr} {fd : FuncData} (F : Fun K "_law_draw" "_law_draw" (topS 21) f fd) (T : Txt K mg)  : FnOk P w K mg base (L2.CX P w) 1 f fd ["pool", "many"] (spM K mg m__law_draw) :=
  fn_ok F sc__law_draw b__law_draw fun cdv A outer s H E hr =>
    (s_seq (s_if (w_and (t_cmp (op_eqD (hu64 hr)) fol_eq (e_ix (e_var 0) e_int) e_int) (w_one .And (t_cmp (op_cLt (hu65 hr)) fol_cLt (e_ix (e_var 0) e_int) (e_len T.b_len (a_cons (e_ix (e_var 0) e_int) a_nil))))).pt (s_seq (s_set 2 (e_ix (e_ix (e_var 0) e_int) (e_ix (e_var 0) e_int)) sc__law_draw.nd) (s_seq (s_sub (e_bin op_add3 fol_add (e_ix (e_var 0) e_int) e_int) (e_var 0) e_int) (s_seq (s_if (t_cmp (op_cGe (hu65 hr)) fol_cGe (e_var 2) (e_bin op_pow fol_pow e_int e_int)) (s_seq (s_sub (e_var 2) (e_var 0) e_int) s_nil) (s_seq (s_sub (e_bin op_mod fol_mod (e_int1 T.b_int (a_cons (e_bin op_add3 fol_add (e_bin op_add3 fol_add (e_bin op_mul fol_mul (e_ix (e_var 0) e_int) e_int) (e_bin op_mul fol_mul (e_bin op_mod fol_mod (e_int1 T.b_int (a_cons (e_var 2) a_nil)) e_int) e_int)) (e_ix (e_var 0) e_int)) a_nil)) e_int) (e_var 0) e_int) s_nil)) s_nil))) s_nil) (s_seq (s_if (t_cmp (op_cGt (hu65 hr)) fol_cGt (e_ix (e_var 0) e_int) e_int) (s_seq (s_set 3 (e_bin op_mod fol_mod (e_int1 T.b_int (a_cons (e_ix (e_var 0) e_int) a_nil)) (e_var 1)) sc__law_draw.nd) (s_seq (s_sub (e_bin op_fdivW fol_div (e_int1 T.b_int (a_cons (e_ix (e_var 0) e_int) a_nil)) (e_var 1)) (e_var 0) e_int) (s_seq (s_ret (e_var 3)) s_nil))) s_nil) (s_seq (s_sub (e_bin op_add3 fol_add (e_ix (e_var 0) e_int) e_int) (e_var 0) e_int) (s_seq (s_sub (e_bin op_mod fol_mod (e_int1 T.b_int (a_cons (e_bin op_add3 fol_add (e_bin op_add3 fol_add (e_bin op_mul fol_mul (e_ix (e_var 0) e_int) e_int) (e_bin op_mul fol_mul e_int (e_ix (e_var 0) e_int))) e_int) a_nil)) e_int) (e_var 0) e_int) (s_seq (s_set 4 (e_bin op_mod fol_mod (e_int1 T.b_int (a_cons (e_bin op_mul fol_mul (e_ix (e_var 0) e_int) (e_bin op_add3 fol_add (e_bin op_fdivW fol_div (e_ix (e_var 0) e_int) e_int) e_int)) a_nil)) e_int) sc__law_draw.nd) (s_seq (s_set 4 (e_bin op_mod fol_mod (e_int1 T.b_int (a_cons (e_bin op_mul fol_mul (e_var 4) (e_bin op_add3 fol_add (e_bin op_fdivW fol_div (e_var 4) e_int) e_int)) a_nil)) e_int) sc__law_draw.nd) (s_seq (s_ret (e_bin op_mod fol_mod (e_int1 T.b_int (a_cons (e_bin op_fdivW fol_div (e_var 4) e_int) a_nil)) (e_var 1))) s_nil)))))))
theorem sc__law_flag : FnScope ["told", "due"] ["told", "due"] (defScope (topS 23)) := ⟨rfl, rfl, rfl, by decide +kernel, rfl, by decide +kernel, by decide +kernel⟩
theorem ok__law_flag {f : Addr} {fd : FuncData} (F : Fun K "_law_flag" "_law_flag" (topS 23) f fd) (T : Txt K mg)  : FnOk P w K mg base (L2.CX P w) 1 f fd ["told", "due"] (spM K mg m__law_flag) :=
  fn_ok F sc__law_flag b__law_flag fun cdv A outer s H E hr =>
    (s_seq (s_ret (e_and (e_isi .bl T.b_isinstance T.b_bool (e_var 0)) (e_one (e_cmp (op_eqD (hu64 hr)) fol_eq (e_var 0) (e_var 1))))) s_nil)
theorem sc__law_last : FnScope ["told", "many", "key", "other"] ["told", "many", "key"] (defScope (topS 25)) := ⟨rfl, rfl, rfl, by decide +kernel, rfl, by decide +kernel, by decide +kernel⟩
theorem ok__law_last {f : Addr} {fd : FuncData} (F : Fun K "_law_last" "_law_last" (topS 25) f fd) (T : Txt K mg)  : FnOk P w K mg base (L2.CX P w) 1 f fd ["told", "many", "key"] (spM K mg m__law_last) :=
  fn_ok F sc__law_last b__law_last fun cdv A outer s H E hr =>
    (s_seq (s_ret (e_max T.b_max (a_cons (e_bin op_add3 fol_add (e_L (f_lst (a_cons (e_un un_neg fol_neg e_int) a_nil))) (e_L (f_lc (own := [("other", 3)]) (.nm 3) sc__law_last.nd (i_range1 T.b_range (a_cons (e_var 1) a_nil)) (blkOk_by (by rfl)) (fun _ _ _ _ _ => (pg_nmP (i := 3) sc__law_last.nd rfl)) (fun _ _ _ _ _ => (pts_one (t_cmp (op_inA (hu65 hr)) fol_in (e_var 2) (e_ix (e_ix (e_var 0) (e_var 3)) e_int)))) (fun _ _ _ _ _ => (e_var 3)) (by decide)))) a_nil))) s_nil)
theorem sc_is_between : FnScope ["thing", "least", "most"] ["thing", "least", "most"] (defScope (topS 5)) := ⟨rfl, rfl, rfl, by decide +kernel, rfl, by decide +kernel, by decide +kernel⟩
theorem ok_is_between {f : Addr} {fd : FuncData} (F : Fun K "is_between" "is_between" (topS 5) f fd) (T : Txt K mg) (c_is_integer : Has P w K mg base "is_integer" 1 ["thing"] (spM K mg m_is_integer)) : FnOk P w K mg base (L2.CX P w) 2 f fd ["thing", "least", "most"] (spM K mg m_is_between) :=
  fn_ok F sc_is_between b_is_between fun cdv A outer s H E hr =>
    (s_seq (s_ret (e_and (e_callH c_is_integer hr (takes_of rfl rfl rfl rfl) (a_cons (e_var 0) a_nil)) (e_one (e_chain (op_cLe (hu65 hr)) (op_cLe (hu65 hr)) fol_cLe fol_cLe (e_var 1) (e_var 0) (e_var 2))))) s_nil)
theorem sc_suits : FnScope ["history", "index", "moment", "reads", "writes", "key", "source", "ahead", "between", "other"] ["history", "index", "moment"] (defScope (topS 15)) := ⟨rfl, rfl, rfl, by decide +kernel, rfl, by decide +kernel, by decide +kernel⟩
theorem ok_suits {f : Addr} {fd : FuncData} (F : Fun K "suits" "suits" (topS 15) f fd) (T : Txt K mg) (c_writers : Has P w K mg base "writers" 1 ["history", "key"] (spL K mg m_writers)) : FnOk P w K mg base (L2.CX P w) 2 f fd ["history", "index", "moment"] (spM K mg m_suits) :=
  fn_ok F sc_suits b_suits fun cdv A outer s H E hr =>
    (s_seq (s_asg (.tp [(.nm 3), (.nm 4)]) (e_ix (e_var 0) (e_var 1)) (pg_tpP rfl (pgs_consP (pg_nmP (i := 3) sc_suits.nd rfl) (pgs_consP (pg_nmP (i := 4) sc_suits.nd rfl) pgs_nilP)))) (s_seq (s_for (p := (.tp [(.nm 5), (.nm 6)])) (passes_of rfl) (i_seq (e_var 3)) (pg_tpP rfl (pgs_consP (pg_nmP (i := 5) sc_suits.nd rfl) (pgs_consP (pg_nmP (i := 6) sc_suits.nd rfl) pgs_nilP))) (s_seq (s_setLc (own := [("other", 9)]) 7 (.nm 9) (fun _ _ _ => L_read)  sc_suits.nd (i_seq (e_L (f_callH c_writers hr (takes_of rfl rfl rfl rfl) (a_cons (e_var 0) (a_cons (e_var 5) a_nil))))) (blkOk_by (by rfl)) (fun _ _ _ _ _ => (pg_nmP (i := 9) sc_suits.nd rfl)) (fun _ _ _ _ _ => (pts_one (t_cmp (op_cLt (hu65 hr)) fol_cLt (e_var 9) (e_var 2)))) (fun _ _ _ _ _ => (e_var 9)) (by decide)) (s_seq (s_if (t_cmp (op_neD (hu64 hr)) fol_ne (e_ix (e_bin op_add3 fol_add (e_L (f_lst (a_cons (e_un un_neg fol_neg e_int) a_nil))) (e_var 7)) (e_un un_neg fol_neg e_int)) (e_var 6)) (s_seq (s_ret e_bl) s_nil) s_nil) s_nil))) (s_seq (s_setLc (own := [("other", 9)]) 8 (.nm 9) (fun _ _ _ => L_read)  sc_suits.nd (i_range2 T.b_range (a_cons (e_var 2) (a_cons (e_var 1) a_nil))) (blkOk_by (by rfl)) (fun _ _ _ _ _ => (pg_nmP (i := 9) sc_suits.nd rfl)) (fun _ _ _ _ _ => (pts_one (t_tru (e_any T.b_any (a_cons (e_L (f_lc (own := [("key", 5)]) (.nm 5) sc_suits.nd (i_seq (e_var 4)) (blkOk_by (by rfl)) (fun _ _ _ _ _ => (pg_nmP (i := 5) sc_suits.nd rfl)) (fun _ _ _ _ _ => p_yes) (fun _ _ _ _ _ => (e_cmp (op_inA (hu65 hr)) fol_in (e_var 5) (e_ix (e_ix (e_var 0) (e_var 9)) e_int))) (by decide))) a_nil))))) (fun _ _ _ _ _ => (e_var 9)) (by decide)) (s_seq (s_ret (e_cmp (op_eqD (hu64 hr)) fol_eq (e_len T.b_len (a_cons (e_var 8) a_nil)) e_int)) s_nil))))
theorem sc__law_any : FnScope ["pool", "things"] ["pool", "things"] (defScope (topS 22)) := ⟨rfl, rfl, rfl, by decide +kernel, rfl, by decide +kernel, by decide +kernel⟩
theorem ok__law_any {f : Addr} {fd : FuncData} (F : Fun K "_law_any" "_law_any" (topS 22) f fd) (T : Txt K mg) (c__law_draw : Has P w K mg base "_law_draw" 1 ["pool", "many"] (spM K mg m__law_draw)) : FnOk P w K mg base (L2.CX P w) 2 f fd ["pool", "things"] (spM K mg m__law_any) :=
  fn_ok F sc__law_any b__law_any fun cdv A outer s H E hr =>
    (s_seq (s_ret (e_ix (e_var 1) (e_callH c__law_draw hr (takes_of rfl rfl rfl rfl) (a_cons (e_var 0) (a_cons (e_len T.b_len (a_cons (e_var 1) a_nil)) a_nil))))) s_nil)
theorem sc__law_moment : FnScope ["told", "one", "reads", "writes", "many", "wrong", "clash", "key", "source"] ["told", "one"] (defScope (topS 26)) := ⟨rfl, rfl, rfl, by decide +kernel, rfl, by decide +kernel, by decide +kernel⟩
theorem ok__law_moment {f : Addr} {fd : FuncData} (F : Fun K "_law_moment" "_law_moment" (topS 26) f fd) (T : Txt K mg) (c__law_last : Has P w K mg base "_law_last" 1 ["told", "many", "key"] (spM K mg m__law_last)) : FnOk P w K mg base (L2.CX P w) 2 f fd ["told", "one"] (spM K mg m__law_moment) :=
  fn_ok F sc__law_moment b__law_moment fun cdv A outer s H E hr =>
    (s_seq (s_asg (.tp [(.nm 2), (.nm 3)]) (e_ix (e_var 0) (e_var 1)) (pg_tpP rfl (pgs_consP (pg_nmP (i := 2) sc__law_moment.nd rfl) (pgs_consP (pg_nmP (i := 3) sc__law_moment.nd rfl) pgs_nilP)))) (s_seq (s_for (p := (.nm 4)) (passes_of rfl) (i_down T.b_range (a_cons (e_var 1) (a_cons (e_un un_neg fol_neg e_int) (a_cons (e_un un_neg fol_neg e_int) a_nil)))) (pg_nmP (i := 4) sc__law_moment.nd rfl) (s_seq (s_setLc (own := [("key", 7), ("source", 8)]) 5 (.tp [(.nm 7), (.nm 8)]) (fun _ _ _ => L_read)  sc__law_moment.nd (i_seq (e_var 2)) (blkOk_by (by rfl)) (fun _ _ _ _ _ => (pg_tpP rfl (pgs_consP (pg_nmP (i := 7) sc__law_moment.nd rfl) (pgs_consP (pg_nmP (i := 8) sc__law_moment.nd rfl) pgs_nilP)))) (fun _ _ _ _ _ => (pts_one (t_cmp (op_neD (hu64 hr)) fol_ne (e_callH c__law_last hr takes0 (a_cons (e_var 0) (a_cons (e_var 4) (a_cons (e_var 7) a_nil)))) (e_var 8)))) (fun _ _ _ _ _ => (e_var 7)) (by decide)) (s_seq (s_setLc (own := [("key", 7)]) 6 (.nm 7) (fun _ _ _ => L_read)  sc__law_moment.nd (i_seq (e_var 3)) (blkOk_by (by rfl)) (fun _ _ _ _ _ => (pg_nmP (i := 7) sc__law_moment.nd rfl)) (fun _ _ _ _ _ => (pts_one (t_cmp (op_cGe (hu65 hr)) fol_cGe (e_callH c__law_last hr takes0 (a_cons (e_var 0) (a_cons (e_var 1) (a_cons (e_var 7) a_nil)))) (e_var 4)))) (fun _ _ _ _ _ => (e_var 7)) (by decide)) (s_seq (s_if (w_and (t_cmp (op_eqD (hu64 hr)) fol_eq (e_len T.b_len (a_cons (e_var 5) a_nil)) e_int) (w_one .And (t_cmp (op_eqD (hu64 hr)) fol_eq (e_len T.b_len (a_cons (e_var 6) a_nil)) e_int))).pt (s_seq (s_ret (e_var 4)) s_nil) s_nil) s_nil)))) (s_seq (s_ret e_non) s_nil)))
theorem sc_are_writes : FnScope ["thing", "key", "one", "other"] ["thing"] (defScope (topS 9)) := ⟨rfl, rfl, rfl, by decide +kernel, rfl, by decide +kernel, by decide +kernel⟩
theorem ok_are_writes {f : Addr} {fd : FuncData} (F : Fun K "are_writes" "are_writes" (topS 9) f fd) (T : Txt K mg) (c_is_between : Has P w K mg base "is_between" 2 ["thing", "least", "most"] (spM K mg m_is_between)) : FnOk P w K mg base (L2.CX P w) 3 f fd ["thing"] (spM K mg m_are_writes) :=
  fn_ok F sc_are_writes b_are_writes fun cdv A outer s H E hr =>
    (s_seq (s_if (w_or (t_not (t_tru (e_isi .tup T.b_isinstance T.b_tuple (e_var 0)))) (w_one .Or (t_not (t_tru (e_all T.b_all (a_cons (e_L (f_lc (own := [("key", 1)]) (.nm 1) sc_are_writes.nd (i_seq (e_var 0)) (blkOk_by (by rfl)) (fun _ _ _ _ _ => (pg_nmP (i := 1) sc_are_writes.nd rfl)) (fun _ _ _ _ _ => p_yes) (fun _ _ _ _ _ => (e_callH c_is_between hr takes0 (a_cons (e_var 1) (a_cons e_int (a_cons (e_globI T.g_MOST_KEY) a_nil))))) (by decide))) a_nil)))))).pt (s_seq (s_ret e_bl) s_nil) s_nil) (s_seq (s_ret (e_all T.b_all (a_cons (e_L (f_lc (own := [("one", 2), ("other", 3)]) (.tp [(.nm 2), (.nm 3)]) sc_are_writes.nd (i_zip T.b_zip (a_cons (e_var 0) (a_cons (e_sl (e_var 0) (o_some e_int) o_none) a_nil))) (blkOk_by (by rfl)) (fun _ _ _ _ _ => (pg_tpP rfl (pgs_consP (pg_nmP (i := 2) sc_are_writes.nd rfl) (pgs_consP (pg_nmP (i := 3) sc_are_writes.nd rfl) pgs_nilP)))) (fun _ _ _ _ _ => p_yes) (fun _ _ _ _ _ => (e_cmp (op_cLt (hu65 hr)) fol_cLt (e_var 2) (e_var 3))) (by decide))) a_nil))) s_nil))
theorem sc_is_read : FnScope ["thing", "history"] ["thing", "history"] (defScope (topS 10)) := ⟨rfl, rfl, rfl, by decide +kernel, rfl, by decide +kernel, by decide +kernel⟩
theorem ok_is_read {f : Addr} {fd : FuncData} (F : Fun K "is_read" "is_read" (topS 10) f fd) (T : Txt K mg) (c_is_between : Has P w K mg base "is_between" 2 ["thing", "least", "most"] (spM K mg m_is_between)) : FnOk P w K mg base (L2.CX P w) 3 f fd ["thing", "history"] (spM K mg m_is_read) :=
  fn_ok F sc_is_read b_is_read fun cdv A outer s H E hr =>
    (s_seq (s_if (w_or (t_not (t_tru (e_isi .tup T.b_isinstance T.b_tuple (e_var 0)))) (w_or (t_cmp (op_neD (hu64 hr)) fol_ne (e_len T.b_len (a_cons (e_var 0) a_nil)) e_int) (w_one .Or (t_not (t_tru (e_callH c_is_between hr (takes_of rfl rfl rfl rfl) (a_cons (e_ix (e_var 0) e_int) (a_cons e_int (a_cons (e_globI T.g_MOST_KEY) a_nil))))))))).pt (s_seq (s_ret e_bl) s_nil) s_nil) (s_seq (s_if (t_not (t_tru (e_callH c_is_between hr (takes_of rfl rfl rfl rfl) (a_cons (e_ix (e_var 0) e_int) (a_cons (e_un un_neg fol_neg e_int) (a_cons (e_bin op_sub fol_sub (e_len T.b_len (a_cons (e_var 1) a_nil)) e_int) a_nil)))))) (s_seq (s_ret e_bl) s_nil) s_nil) (s_seq (s_ret (e_or (e_cmp (op_eqD (hu64 hr)) fol_eq (e_ix (e_var 0) e_int) (e_un un_neg fol_neg e_int)) (e_one (e_cmp (op_inA (hu65 hr)) fol_in (e_ix (e_var 0) e_int) (e_ix (e_ix (e_var 1) (e_ix (e_var 0) e_int)) e_int))))) s_nil)))
theorem sc_moment_of : FnScope ["history", "index", "found", "moment"] ["history", "index"] (defScope (topS 16)) := ⟨rfl, rfl, rfl, by decide +kernel, rfl, by decide +kernel, by decide +kernel⟩
theorem ok_moment_of {f : Addr} {fd : FuncData} (F : Fun K "moment_of" "moment_of" (topS 16) f fd) (T : Txt K mg) (c_suits : Has P w K mg base "suits" 2 ["history", "index", "moment"] (spM K mg m_suits)) : FnOk P w K mg base (L2.CX P w) 3 f fd ["history", "index"] (spM K mg m_moment_of) :=
  fn_ok F sc_moment_of b_moment_of fun cdv A outer s H E hr =>
    (s_seq (s_setLc (own := [("moment", 3)]) 2 (.nm 3) (fun _ _ _ => L_read)  sc_moment_of.nd (i_range1 T.b_range (a_cons (e_bin op_add3 fol_add (e_var 1) e_int) a_nil)) (blkOk_by (by rfl)) (fun _ _ _ _ _ => (pg_nmP (i := 3) sc_moment_of.nd rfl)) (fun _ _ _ _ _ => (pts_one (t_tru (e_callH c_suits hr takes0 (a_cons (e_var 0) (a_cons (e_var 1) (a_cons (e_var 3) a_nil))))))) (fun _ _ _ _ _ => (e_var 3)) (by decide)) (s_seq (s_if (t_cmp (op_eqD (hu64 hr)) fol_eq (e_len T.b_len (a_cons (e_var 2) a_nil)) e_int) (s_seq (s_ret e_non) s_nil) s_nil) (s_seq (s_ret (e_ix (e_var 2) (e_un un_neg fol_neg e_int))) s_nil)))
theorem sc__law_history : FnScope ["pool", "most", "many", "names", "style", "wrote", "k", "found", "at", "reads", "key", "some", "ahead", "way", "other"] ["pool", "most"] (defScope (topS 24)) := ⟨rfl, rfl, rfl, by decide +kernel, rfl, by decide +kernel, by decide +kernel⟩
theorem ok__law_history {f : Addr} {fd : FuncData} (F : Fun K "_law_history" "_law_history" (topS 24) f fd) (T : Txt K mg) (c__law_draw : Has P w K mg base "_law_draw" 1 ["pool", "many"] (spM K mg m__law_draw)) (c__law_any : Has P w K mg base "_law_any" 2 ["pool", "things"] (spM K mg m__law_any)) : FnOk P w K mg base (L2.CX P w) 3 f fd ["pool", "most"] (spM K mg m__law_history) :=
  fn_ok F sc__law_history b__law_history fun cdv A outer s H E hr =>
    (s_seq (s_set 2 (e_callH c__law_draw hr (takes_of rfl rfl rfl rfl) (a_cons (e_var 0) (a_cons (e_bin op_add3 fol_add (e_var 1) e_int) a_nil))) sc__law_history.nd) (s_seq (s_set 3 (e_callH c__law_any hr (takes_of rfl rfl rfl rfl) (a_cons (e_var 0) (a_cons (e_L (f_lst (a_cons (e_tup (a_cons e_int (a_cons e_int (a_cons e_int (a_cons e_int a_nil))))) (a_cons (e_tup (a_cons e_int (a_cons e_int a_nil))) (a_cons (e_tup (a_cons e_int a_nil)) (a_cons (e_tup (a_cons e_int (a_cons e_int (a_cons e_int a_nil)))) a_nil)))))) a_nil))) sc__law_history.nd) (s_seq (s_set 4 (e_callH c__law_draw hr (takes_of rfl rfl rfl rfl) (a_cons (e_var 0) (a_cons e_int a_nil))) sc__law_history.nd) (s_seq (s_set 5 (e_new (f_lst a_nil)) sc__law_history.nd) (s_seq (s_for (p := (.nm 6)) (passes_of rfl) (i_range1 T.b_range (a_cons (e_var 2) a_nil)) (pg_nmP (i := 6) sc__law_history.nd rfl) (s_seq (s_expr (e_app (e_var 5) (a_cons (e_tuple T.b_tuple (a_cons (e_L (f_lc (own := [("key", 10)]) (.nm 10) sc__law_history.nd (i_seq (e_var 3)) (blkOk_by (by rfl)) (fun _ _ _ _ _ => (pg_nmP (i := 10) sc__law_history.nd rfl)) (fun _ _ _ _ _ => (pts_one (t_cmp (op_eqD (hu64 hr)) fol_eq (e_callH c__law_draw hr takes0 (a_cons (e_var 0) (a_cons (e_bin op_add3 fol_add e_int (e_int1 T.b_int (a_cons (e_cmp (op_cGt (hu65 hr)) fol_cGt (e_len T.b_len (a_cons (e_var 3) a_nil)) e_int) a_nil))) a_nil))) e_int))) (fun _ _ _ _ _ => (e_var 10)) (by decide))) a_nil)) a_nil))) s_nil)) (s_seq (s_set 7 (e_new (f_lst a_nil)) sc__law_history.nd) (s_seq (s_for (p := (.nm 6)) (passes_of rfl) (i_range1 T.b_range (a_cons (e_var 2) a_nil)) (pg_nmP (i := 6) sc__law_history.nd rfl) (s_seq (s_set 8 (e_if (t_cmp (op_eqD (hu64 hr)) fol_eq (e_var 4) e_int) (e_var 6) (e_callH c__law_draw hr (takes_of rfl rfl rfl rfl) (a_cons (e_var 0) (a_cons (e_bin op_add3 fol_add (e_var 6) e_int) a_nil)))) sc__law_history.nd) (s_seq (s_set 9 (e_new (f_lst a_nil)) sc__law_history.nd) (s_seq (s_for (p := (.nm 10)) (passes_of rfl) (i_seq (e_var 3)) (pg_nmP (i := 10) sc__law_history.nd rfl) (s_seq (s_set 11 (e_bin op_add3 fol_add (e_L (f_lst (a_cons (e_un un_neg fol_neg e_int) a_nil))) (e_L (f_lc (own := [("other", 14)]) (.nm 14) sc__law_history.nd (i_range1 T.b_range (a_cons (e_var 2) a_nil)) (blkOk_by (by rfl)) (fun _ _ _ _ _ => (pg_nmP (i := 14) sc__law_history.nd rfl)) (fun _ _ _ _ _ => (pts_one (w_and (t_cmp (op_neD (hu64 hr)) fol_ne (e_var 14) (e_var 6)) (w_one .And (t_cmp (op_inA (hu65 hr)) fol_in (e_var 10) (e_ix (e_var 5) (e_var 14))))).pt)) (fun _ _ _ _ _ => (e_var 14)) (by decide)))) sc__law_history.nd) (s_seq (s_setLc (own := [("other", 14)]) 12 (.nm 14) (fun _ _ _ => L_read)  sc__law_history.nd (i_seq (e_var 11)) (blkOk_by (by rfl)) (fun _ _ _ _ _ => (pg_nmP (i := 14) sc__law_history.nd rfl)) (fun _ _ _ _ _ => (pts_one (t_cmp (op_cLt (hu65 hr)) fol_cLt (e_var 14) (e_var 8)))) (fun _ _ _ _ _ => (e_var 14)) (by decide)) (s_seq (s_set 13 (e_callH c__law_draw hr (takes_of rfl rfl rfl rfl) (a_cons (e_var 0) (a_cons e_int a_nil))) sc__law_history.nd) (s_seq (s_if (w_and (t_cmp (op_eqD (hu64 hr)) fol_eq (e_var 13) e_int) (w_one .And (t_cmp (op_cGt (hu65 hr)) fol_cGt (e_var 4) e_int))).pt (s_seq (s_expr (e_app (e_var 9) (a_cons (e_tup (a_cons (e_var 10) (a_cons (e_callH c__law_any hr (takes_of rfl rfl rfl rfl) (a_cons (e_var 0) (a_cons (e_var 11) a_nil))) a_nil))) a_nil))) s_nil) (s_seq (s_if (t_cmp (op_cLt (hu65 hr)) fol_cLt (e_var 13) e_int) (s_seq (s_expr (e_app (e_var 9) (a_cons (e_tup (a_cons (e_var 10) (a_cons (e_max T.b_max (a_cons (e_bin op_add3 fol_add (e_L (f_lst (a_cons (e_un un_neg fol_neg e_int) a_nil))) (e_var 12)) a_nil)) a_nil))) a_nil))) s_nil) s_nil) s_nil)) s_nil))))) (s_seq (s_expr (e_app (e_var 7) (a_cons (e_tup (a_cons (e_tuple T.b_tuple (a_cons (e_var 9) a_nil)) (a_cons (e_ix (e_var 5) (e_var 6)) a_nil))) a_nil))) s_nil))))) (s_seq (s_ret (e_tuple T.b_tuple (a_cons (e_var 7) a_nil))) s_nil))))))))
theorem sc_are_reads : FnScope ["thing", "index", "history", "pair", "one", "other"] ["thing", "index", "history"] (defScope (topS 11)) := ⟨rfl, rfl, rfl, by decide +kernel, rfl, by decide +kernel, by decide +kernel⟩
theorem ok_are_reads {f : Addr} {fd : FuncData} (F : Fun K "are_reads" "are_reads" (topS 11) f fd) (T : Txt K mg) (c_is_read : Has P w K mg base "is_read" 3 ["thing", "history"] (spM K mg m_is_read)) : FnOk P w K mg base (L2.CX P w) 4 f fd ["thing", "index", "history"] (spM K mg m_are_reads) :=
  fn_ok F sc_are_reads b_are_reads fun cdv A outer s H E hr =>
    (s_seq (s_if (w_or (t_not (t_tru (e_isi .tup T.b_isinstance T.b_tuple (e_var 0)))) (w_one .Or (t_not (t_tru (e_all T.b_all (a_cons (e_L (f_lc (own := [("pair", 3)]) (.nm 3) sc_are_reads.nd (i_seq (e_var 0)) (blkOk_by (by rfl)) (fun _ _ _ _ _ => (pg_nmP (i := 3) sc_are_reads.nd rfl)) (fun _ _ _ _ _ => p_yes) (fun _ _ _ _ _ => (e_callH c_is_read hr takes0 (a_cons (e_var 3) (a_cons (e_var 2) a_nil)))) (by decide))) a_nil)))))).pt (s_seq (s_ret e_bl) s_nil) s_nil) (s_seq (s_if (t_tru (e_any T.b_any (a_cons (e_L (f_lc (own := [("pair", 3)]) (.nm 3) sc_are_reads.nd (i_seq (e_var 0)) (blkOk_by (by rfl)) (fun _ _ _ _ _ => (pg_nmP (i := 3) sc_are_reads.nd rfl)) (fun _ _ _ _ _ => p_yes) (fun _ _ _ _ _ => (e_cmp (op_eqD (hu64 hr)) fol_eq (e_ix (e_var 3) e_int) (e_var 1))) (by decide))) a_nil))) (s_seq (s_ret e_bl) s_nil) s_nil) (s_seq (s_ret (e_all T.b_all (a_cons (e_L (f_lc (own := [("one", 4), ("other", 5)]) (.tp [(.nm 4), (.nm 5)]) sc_are_reads.nd (i_zip T.b_zip (a_cons (e_var 0) (a_cons (e_sl (e_var 0) (o_some e_int) o_none) a_nil))) (blkOk_by (by rfl)) (fun _ _ _ _ _ => (pg_tpP rfl (pgs_consP (pg_nmP (i := 4) sc_are_reads.nd rfl) (pgs_consP (pg_nmP (i := 5) sc_are_reads.nd rfl) pgs_nilP)))) (fun _ _ _ _ _ => p_yes) (fun _ _ _ _ _ => (e_cmp (op_cLt (hu65 hr)) fol_cLt (e_ix (e_var 4) e_int) (e_ix (e_var 5) e_int))) (by decide))) a_nil))) s_nil)))
theorem sc_is_history : FnScope ["thing", "deal", "index"] ["thing"] (defScope (topS 12)) := ⟨rfl, rfl, rfl, by decide +kernel, rfl, by decide +kernel, by decide +kernel⟩
theorem ok_is_history {f : Addr} {fd : FuncData} (F : Fun K "is_history" "is_history" (topS 12) f fd) (T : Txt K mg) (c_are_reads : Has P w K mg base "are_reads" 4 ["thing", "index", "history"] (spM K mg m_are_reads)) (c_are_writes : Has P w K mg base "are_writes" 3 ["thing"] (spM K mg m_are_writes)) : FnOk P w K mg base (L2.CX P w) 5 f fd ["thing"] (spM K mg m_is_history) :=
  fn_ok F sc_is_history b_is_history fun cdv A outer s H E hr =>
    (s_seq (s_if (w_or (t_not (t_tru (e_isi .tup T.b_isinstance T.b_tuple (e_var 0)))) (w_one .Or (t_cmp (op_cGt (hu65 hr)) fol_cGt (e_len T.b_len (a_cons (e_var 0) a_nil)) (e_globI T.g_MOST_DEALS)))).pt (s_seq (s_ret e_bl) s_nil) s_nil) (s_seq (s_if (t_not (t_tru (e_all T.b_all (a_cons (e_L (f_lc (own := [("deal", 1)]) (.nm 1) sc_is_history.nd (i_seq (e_var 0)) (blkOk_by (by rfl)) (fun _ _ _ _ _ => (pg_nmP (i := 1) sc_is_history.nd rfl)) (fun _ _ _ _ _ => p_yes) (fun _ _ _ _ _ => (e_and (e_isi .tup T.b_isinstance T.b_tuple (e_var 1)) (e_and (e_cmp (op_eqD (hu64 hr)) fol_eq (e_len T.b_len (a_cons (e_var 1) a_nil)) e_int) (e_one (e_callH c_are_writes hr takes0 (a_cons (e_ix (e_var 1) e_int) a_nil)))))) (by decide))) a_nil)))) (s_seq (s_ret e_bl) s_nil) s_nil) (s_seq (s_ret (e_all T.b_all (a_cons (e_L (f_lc (own := [("index", 2), ("deal", 1)]) (.tp [(.nm 2), (.nm 1)]) sc_is_history.nd (i_enum T.b_enumerate (a_cons (e_var 0) a_nil)) (blkOk_by (by rfl)) (fun _ _ _ _ _ => (pg_tpP rfl (pgs_consP (pg_nmP (i := 2) sc_is_history.nd rfl) (pgs_consP (pg_nmP (i := 1) sc_is_history.nd rfl) pgs_nilP)))) (fun _ _ _ _ _ => p_yes) (fun _ _ _ _ _ => (e_callH c_are_reads hr takes0 (a_cons (e_ix (e_var 1) e_int) (a_cons (e_var 2) (a_cons (e_var 0) a_nil))))) (by decide))) a_nil))) s_nil)))
theorem sc_check_history : FnScope ["thing"] ["thing"] (defScope (topS 13)) := ⟨rfl, rfl, rfl, by decide +kernel, rfl, by decide +kernel, by decide +kernel⟩
theorem ok_check_history {f : Addr} {fd : FuncData} (F : Fun K "check_history" "check_history" (topS 13) f fd) (T : Txt K mg) (c_is_history : Has P w K mg base "is_history" 5 ["thing"] (spM K mg m_is_history)) : FnOk P w K mg base (L2.CX P w) 6 f fd ["thing"] (spM K mg m_check_history) :=
  fn_ok F sc_check_history b_check_history fun cdv A outer s H E hr =>
    (s_seq (s_if (t_not (t_tru (e_callH c_is_history hr (takes_of rfl rfl rfl rfl) (a_cons (e_var 0) a_nil)))) (s_seq s_never s_nil) s_nil) s_nil)
theorem sc_moments : FnScope ["history", "index"] ["history"] (defScope (topS 17)) := ⟨rfl, rfl, rfl, by decide +kernel, rfl, by decide +kernel, by decide +kernel⟩
theorem ok_moments {f : Addr} {fd : FuncData} (F : Fun K "moments" "moments" (topS 17) f fd) (T : Txt K mg) (c_check_history : Has P w K mg base "check_history" 6 ["thing"] (spM K mg m_check_history)) (c_moment_of : Has P w K mg base "moment_of" 3 ["history", "index"] (spM K mg m_moment_of)) : FnOk P w K mg base (L2.CX P w) 7 f fd ["history"] (spM K mg m_moments) :=
  fn_ok F sc_moments b_moments fun cdv A outer s H E hr =>
    (s_seq (s_expr (e_callH c_check_history hr (takes_of rfl rfl rfl rfl) (a_cons (e_var 0) a_nil))) (s_seq (s_ret (e_tuple T.b_tuple (a_cons (e_L (f_lc (own := [("index", 1)]) (.nm 1) sc_moments.nd (i_range1 T.b_range (a_cons (e_len T.b_len (a_cons (e_var 0) a_nil)) a_nil)) (blkOk_by (by rfl)) (fun _ _ _ _ _ => (pg_nmP (i := 1) sc_moments.nd rfl)) (fun _ _ _ _ _ => p_yes) (fun _ _ _ _ _ => (e_callH c_moment_of hr takes0 (a_cons (e_var 0) (a_cons (e_var 1) a_nil)))) (by decide))) a_nil))) s_nil))
theorem sc_by_snapshots : FnScope ["history", "index"] ["history"] (defScope (topS 18)) := ⟨rfl, rfl, rfl, by decide +kernel, rfl, by decide +kernel, by decide +kernel⟩
theorem ok_by_snapshots {f : Addr} {fd : FuncData} (F : Fun K "by_snapshots" "by_snapshots" (topS 18) f fd) (T : Txt K mg) (c_check_history : Has P w K mg base "check_history" 6 ["thing"] (spM K mg m_check_history)) (c_moment_of : Has P w K mg base "moment_of" 3 ["history", "index"] (spM K mg m_moment_of)) : FnOk P w K mg base (L2.CX P w) 7 f fd ["history"] (spM K mg m_by_snapshots) :=
  fn_ok F sc_by_snapshots b_by_snapshots fun cdv A outer s H E hr =>
    (s_seq (s_expr (e_callH c_check_history hr (takes_of rfl rfl rfl rfl) (a_cons (e_var 0) a_nil))) (s_seq (s_ret (e_cmp (op_notInA (hu65 hr)) fol_notIn e_non (e_L (f_lc (own := [("index", 1)]) (.nm 1) sc_by_snapshots.nd (i_range1 T.b_range (a_cons (e_len T.b_len (a_cons (e_var 0) a_nil)) a_nil)) (blkOk_by (by rfl)) (fun _ _ _ _ _ => (pg_nmP (i := 1) sc_by_snapshots.nd rfl)) (fun _ _ _ _ _ => p_yes) (fun _ _ _ _ _ => (e_callH c_moment_of hr takes0 (a_cons (e_var 0) (a_cons (e_var 1) a_nil)))) (by decide))))) s_nil))
theorem sc_law : FnScope ["script", "pool", "turn", "told", "due", "found", "more", "skew", "lost", "one"] ["script"] (defScope (topS 27)) := ⟨rfl, rfl, rfl, by decide +kernel, rfl, by decide +kernel, by decide +kernel⟩
theorem ok_law {f : Addr} {fd : FuncData} (F : Fun K "law" "law" (topS 27) f fd) (T : Txt K mg) (c__law_pool : Has P w K mg base "_law_pool" 1 ["script"] (spL K mg m__law_pool)) (c__law_history : Has P w K mg base "_law_history" 3 ["pool", "most"] (spM K mg m__law_history)) (c_moments : Has P w K mg base "moments" 7 ["history"] (spM K mg m_moments)) (c__law_flag : Has P w K mg base "_law_flag" 1 ["told", "due"] (spM K mg m__law_flag)) (c_by_snapshots : Has P w K mg base "by_snapshots" 7 ["history"] (spM K mg m_by_snapshots)) (c__law_moment : Has P w K mg base "_law_moment" 2 ["told", "one"] (spM K mg m__law_moment)) (c__law_draw : Has P w K mg base "_law_draw" 1 ["pool", "many"] (spM K mg m__law_draw)) : LawAt P w K mg base (L2.CX P w) f fd ["script"] (spM K mg m_law) :=
  law_ok (k := 7) F sc_law ⟨rfl, by decide, by decide⟩ b_law fun cdv s H E hr =>
    (s_seq (s_set 1 (e_new (f_callH c__law_pool hr (takes_of rfl rfl rfl rfl) (a_cons (e_var 0) a_nil))) sc_law.nd) (s_seq (s_for (p := (.nm 2)) (passes_of rfl) (i_range1 T.b_range (a_cons e_int a_nil)) (pg_nmP (i := 2) sc_law.nd rfl) (s_seq (s_set 3 (e_callH c__law_history hr (takes_of rfl rfl rfl rfl) (a_cons (e_var 1) (a_cons (e_if (t_cmp (op_eqD (hu64 hr)) fol_eq (e_callH c__law_draw hr (takes_of rfl rfl rfl rfl) (a_cons (e_var 1) (a_cons e_int a_nil))) e_int) e_int e_int) a_nil))) sc_law.nd) (s_seq (s_set 4 (e_tuple T.b_tuple (a_cons (e_L (f_lc (own := [("one", 9)]) (.nm 9) sc_law.nd (i_range1 T.b_range (a_cons (e_len T.b_len (a_cons (e_var 3) a_nil)) a_nil)) (blkOk_by (by rfl)) (fun _ _ _ _ _ => (pg_nmP (i := 9) sc_law.nd rfl)) (fun _ _ _ _ _ => p_yes) (fun _ _ _ _ _ => (e_callH c__law_moment hr takes0 (a_cons (e_var 3) (a_cons (e_var 9) a_nil)))) (by decide))) a_nil)) sc_law.nd) (s_seq (s_set 5 (e_callH c_moments hr (takes_of rfl rfl rfl rfl) (a_cons (e_var 3) a_nil)) sc_law.nd) (s_seq (s_if (w_or (t_not (t_tru (e_isi .tup T.b_isinstance T.b_tuple (e_var 5)))) (w_one .Or (t_cmp op_neS fol_neS (e_repr rfl (hu65 hr) T.b_repr (a_cons (e_var 5) a_nil)) (e_repr rfl (hu65 hr) T.b_repr (a_cons (e_var 4) a_nil))))).pt (s_seq (s_ret e_bl) s_nil) s_nil) (s_seq (s_if (t_not (t_tru (e_callH c__law_flag hr (takes_of rfl rfl rfl rfl) (a_cons (e_callH c_by_snapshots hr (takes_of rfl rfl rfl rfl) (a_cons (e_var 3) a_nil)) (a_cons (e_cmp (op_notInA (hu65 hr)) fol_notIn e_non (e_var 4)) a_nil))))) (s_seq (s_ret e_bl) s_nil) s_nil) (s_seq (s_if (t_cmp (op_cLt (hu65 hr)) fol_cLt (e_len T.b_len (a_cons (e_var 3) a_nil)) e_int) (s_seq (s_set 6 (e_bin op_add3 fol_add (e_var 3) (e_tup (a_cons (e_tup (a_cons (e_tup a_nil) (a_cons (e_tup (a_cons e_int (a_cons e_int (a_cons e_int (a_cons e_int (a_cons e_int a_nil)))))) a_nil))) a_nil))) sc_law.nd) (s_seq (s_if (w_or (t_cmp (op_neD (hu64 hr)) fol_ne (e_sl (e_callH c_moments hr (takes_of rfl rfl rfl rfl) (a_cons (e_var 6) a_nil)) o_none (o_some (e_len T.b_len (a_cons (e_var 3) a_nil)))) (e_var 4)) (w_one .Or (t_cmp (op_neD (hu64 hr)) fol_ne (e_callH c_moments hr (takes_of rfl rfl rfl rfl) (a_cons (e_var 6) a_nil)) (e_bin op_add3 fol_add (e_var 4) (e_tup (a_cons (e_callH c__law_moment hr (takes_of rfl rfl rfl rfl) (a_cons (e_var 6) (a_cons (e_len T.b_len (a_cons (e_var 3) a_nil)) a_nil))) a_nil)))))).pt (s_seq (s_ret e_bl) s_nil) s_nil) s_nil)) s_nil) s_nil))))))) (s_seq (s_set 7 (e_tup (a_cons (e_tup (a_cons (e_tup (a_cons (e_tup (a_cons e_int (a_cons (e_un un_neg fol_neg e_int) a_nil))) (a_cons (e_tup (a_cons e_int (a_cons (e_un un_neg fol_neg e_int) a_nil))) a_nil))) (a_cons (e_tup (a_cons e_int a_nil)) a_nil))) (a_cons (e_tup (a_cons (e_tup (a_cons (e_tup (a_cons e_int (a_cons (e_un un_neg fol_neg e_int) a_nil))) (a_cons (e_tup (a_cons e_int (a_cons (e_un un_neg fol_neg e_int) a_nil))) a_nil))) (a_cons (e_tup (a_cons e_int a_nil)) a_nil))) a_nil))) sc_law.nd) (s_seq (s_set 8 (e_tup (a_cons (e_tup (a_cons (e_tup (a_cons (e_tup (a_cons e_int (a_cons (e_un un_neg fol_neg e_int) a_nil))) a_nil)) (a_cons (e_tup (a_cons e_int a_nil)) a_nil))) (a_cons (e_tup (a_cons (e_tup (a_cons (e_tup (a_cons e_int (a_cons (e_un un_neg fol_neg e_int) a_nil))) a_nil)) (a_cons (e_tup (a_cons e_int a_nil)) a_nil))) a_nil))) sc_law.nd) (s_seq (s_if (w_or (t_cmp (op_neD (hu64 hr)) fol_ne (e_callH c_moments hr (takes_of rfl rfl rfl rfl) (a_cons (e_var 7) a_nil)) (e_tup (a_cons e_int (a_cons e_int a_nil)))) (w_or (t_cmp op_notBl fol_notB (e_callH c_by_snapshots hr (takes_of rfl rfl rfl rfl) (a_cons (e_var 7) a_nil)) e_bl) (w_one .Or (t_cmp (op_neD (hu64 hr)) fol_ne (e_callH c_moments hr (takes_of rfl rfl rfl rfl) (a_cons (e_var 8) a_nil)) (e_tup (a_cons e_int (a_cons e_non a_nil))))))).pt (s_seq (s_ret e_bl) s_nil) s_nil) (s_seq (s_ret (e_and (e_cmp (op_eqD (hu64 hr)) fol_eq (e_callH c_moments hr (takes_of rfl rfl rfl rfl) (a_cons (e_tup a_nil) a_nil)) (e_tup a_nil)) (e_and (e_cmp op_isBl fol_isB (e_callH c_by_snapshots hr (takes_of rfl rfl rfl rfl) (a_cons (e_tup a_nil) a_nil)) e_bl) (e_one (e_cmp op_isBl fol_isB (e_callH c_by_snapshots hr (takes_of rfl rfl rfl rfl) (a_cons (e_var 8) a_nil)) e_bl))))) s_nil))))))
end
end My
namespace My
open PySem PySem.Spec PyProof.Rows L2 AB
theorem all_mk {l : PySem.W.OpenLaw} {w : World} {K : PySem.W.Frag} {h : Heap} {mg : Str → Option Value} {fa : Addr} (X : K.In h) (G : h.Ns mainGlobals mg) (hfa : mg "law" = some (.ref fa))
    (ht : ∀ ns : List Int, ns.length ≤ 63 → ∃ h, m_law [.rol (ns.map D.int)] [] = .ok (.bl true) h)
    {f0 : Addr} {od0 an0 : Option Addr} {sl0 : Array (Option Value)} {oc0 kV0 dc0 pm0 cd0 ct0 : Value}
    {f1 : Addr} {od1 an1 : Option Addr} {sl1 : Array (Option Value)} {oc1 kV1 dc1 pm1 cd1 ct1 : Value}
    {f2 : Addr} {od2 an2 : Option Addr} {sl2 : Array (Option Value)} {oc2 kV2 dc2 pm2 cd2 ct2 : Value}
    {f3 : Addr} {od3 an3 : Option Addr} {sl3 : Array (Option Value)} {oc3 kV3 dc3 pm3 cd3 ct3 : Value}
    {f4 : Addr} {od4 an4 : Option Addr} {sl4 : Array (Option Value)} {oc4 kV4 dc4 pm4 cd4 ct4 : Value}
    {f5 : Addr} {od5 an5 : Option Addr} {sl5 : Array (Option Value)} {oc5 kV5 dc5 pm5 cd5 ct5 : Value}
    {f6 : Addr} {od6 an6 : Option Addr} {sl6 : Array (Option Value)} {oc6 kV6 dc6 pm6 cd6 ct6 : Value}
    {f7 : Addr} {od7 an7 : Option Addr} {sl7 : Array (Option Value)} {oc7 kV7 dc7 pm7 cd7 ct7 : Value}
    {f8 : Addr} {od8 an8 : Option Addr} {sl8 : Array (Option Value)} {oc8 kV8 dc8 pm8 cd8 ct8 : Value}
    {f9 : Addr} {od9 an9 : Option Addr} {sl9 : Array (Option Value)} {oc9 kV9 dc9 pm9 cd9 ct9 : Value}
    {f10 : Addr} {od10 an10 : Option Addr} {sl10 : Array (Option Value)} {oc10 kV10 dc10 pm10 cd10 ct10 : Value}
    {f11 : Addr} {od11 an11 : Option Addr} {sl11 : Array (Option Value)} {oc11 kV11 dc11 pm11 cd11 ct11 : Value}
    {f12 : Addr} {od12 an12 : Option Addr} {sl12 : Array (Option Value)} {oc12 kV12 dc12 pm12 cd12 ct12 : Value}
    {f13 : Addr} {od13 an13 : Option Addr} {sl13 : Array (Option Value)} {oc13 kV13 dc13 pm13 cd13 ct13 : Value}
    {f14 : Addr} {od14 an14 : Option Addr} {sl14 : Array (Option Value)} {oc14 kV14 dc14 pm14 cd14 ct14 : Value}
    {f15 : Addr} {od15 an15 : Option Addr} {sl15 : Array (Option Value)} {oc15 kV15 dc15 pm15 cd15 ct15 : Value}
    {f16 : Addr} {od16 an16 : Option Addr} {sl16 : Array (Option Value)} {oc16 kV16 dc16 pm16 cd16 ct16 : Value}
    {f17 : Addr} {od17 an17 : Option Addr} {sl17 : Array (Option Value)} {oc17 kV17 dc17 pm17 cd17 ct17 : Value}
    {f18 : Addr} {od18 an18 : Option Addr} {sl18 : Array (Option Value)} {oc18 kV18 dc18 pm18 cd18 ct18 : Value}
    {f19 : Addr} {od19 an19 : Option Addr} {sl19 : Array (Option Value)} {oc19 kV19 dc19 pm19 cd19 ct19 : Value}
    {t0 : Tok}
    {t1 : Tok}
    (a0 : PySem.W.nsIn K mainGlobals "is_integer" = some (some (.ref f0))) (l0 : K.lookup f0 = some ⟨oc0, od0, .func (PySem.W.fnOf "is_integer" "is_integer" (defArgs (topS 4)) (defBody (topS 4)) (defScope (topS 4)) .none kV0 dc0 pm0 an0 cd0 ct0), sl0⟩) (c0 : PySem.W.codeIn K cd0 "is_integer" = true) (k0 : PySem.W.keepIn K (.ref f0) = true)
    (a1 : PySem.W.nsIn K mainGlobals "writers" = some (some (.ref f1))) (l1 : K.lookup f1 = some ⟨oc1, od1, .func (PySem.W.fnOf "writers" "writers" (defArgs (topS 14)) (defBody (topS 14)) (defScope (topS 14)) .none kV1 dc1 pm1 an1 cd1 ct1), sl1⟩) (c1 : PySem.W.codeIn K cd1 "writers" = true) (k1 : PySem.W.keepIn K (.ref f1) = true)
    (a2 : PySem.W.nsIn K mainGlobals "_law_pool" = some (some (.ref f2))) (l2 : K.lookup f2 = some ⟨oc2, od2, .func (PySem.W.fnOf "_law_pool" "_law_pool" (defArgs (topS 20)) (defBody (topS 20)) (defScope (topS 20)) .none kV2 dc2 pm2 an2 cd2 ct2), sl2⟩) (c2 : PySem.W.codeIn K cd2 "_law_pool" = true) (k2 : PySem.W.keepIn K (.ref f2) = true)
    (a3 : PySem.W.nsIn K mainGlobals "_law_draw" = some (some (.ref f3))) (l3 : K.lookup f3 = some ⟨oc3, od3, .func (PySem.W.fnOf "_law_draw" "_law_draw" (defArgs (topS 21)) (defBody (topS 21)) (defScope (topS 21)) .none kV3 dc3 pm3 an3 cd3 ct3), sl3⟩) (c3 : PySem.W.codeIn K cd3 "_law_draw" = true) (k3 : PySem.W.keepIn K (.ref f3) = true)
    (a4 : PySem.W.nsIn K mainGlobals "_law_flag" = some (some (.ref f4))) (l4 : K.lookup f4 = some ⟨oc4, od4, .func (PySem.W.fnOf "_law_flag" "_law_flag" (defArgs (topS 23)) (defBody (topS 23)) (defScope (topS 23)) .none kV4 dc4 pm4 an4 cd4 ct4), sl4⟩) (c4 : PySem.W.codeIn K cd4 "_law_flag" = true) (k4 : PySem.W.keepIn K (.ref f4) = true)
    (a5 : PySem.W.nsIn K mainGlobals "_law_last" = some (some (.ref f5))) (l5 : K.lookup f5 = some ⟨oc5, od5, .func (PySem.W.fnOf "_law_last" "_law_last" (defArgs (topS 25)) (defBody (topS 25)) (defScope (topS 25)) .none kV5 dc5 pm5 an5 cd5 ct5), sl5⟩) (c5 : PySem.W.codeIn K cd5 "_law_last" = true) (k5 : PySem.W.keepIn K (.ref f5) = true)
    (a6 : PySem.W.nsIn K mainGlobals "is_between" = some (some (.ref f6))) (l6 : K.lookup f6 = some ⟨oc6, od6, .func (PySem.W.fnOf "is_between" "is_between" (defArgs (topS 5)) (defBody (topS 5)) (defScope (topS 5)) .none kV6 dc6 pm6 an6 cd6 ct6), sl6⟩) (c6 : PySem.W.codeIn K cd6 "is_between" = true) (k6 : PySem.W.keepIn K (.ref f6) = true)
    (a7 : PySem.W.nsIn K mainGlobals "suits" = some (some (.ref f7))) (l7 : K.lookup f7 = some ⟨oc7, od7, .func (PySem.W.fnOf "suits" "suits" (defArgs (topS 15)) (defBody (topS 15)) (defScope (topS 15)) .none kV7 dc7 pm7 an7 cd7 ct7), sl7⟩) (c7 : PySem.W.codeIn K cd7 "suits" = true) (k7 : PySem.W.keepIn K (.ref f7) = true)
    (a8 : PySem.W.nsIn K mainGlobals "_law_any" = some (some (.ref f8))) (l8 : K.lookup f8 = some ⟨oc8, od8, .func (PySem.W.fnOf "_law_any" "_law_any" (defArgs (topS 22)) (defBody (topS 22)) (defScope (topS 22)) .none kV8 dc8 pm8 an8 cd8 ct8), sl8⟩) (c8 : PySem.W.codeIn K cd8 "_law_any" = true) (k8 : PySem.W.keepIn K (.ref f8) = true)
    (a9 : PySem.W.nsIn K mainGlobals "_law_moment" = some (some (.ref f9))) (l9 : K.lookup f9 = some ⟨oc9, od9, .func (PySem.W.fnOf "_law_moment" "_law_moment" (defArgs (topS 26)) (defBody (topS 26)) (defScope (topS 26)) .none kV9 dc9 pm9 an9 cd9 ct9), sl9⟩) (c9 : PySem.W.codeIn K cd9 "_law_moment" = true) (k9 : PySem.W.keepIn K (.ref f9) = true)
    (a10 : PySem.W.nsIn K mainGlobals "are_writes" = some (some (.ref f10))) (l10 : K.lookup f10 = some ⟨oc10, od10, .func (PySem.W.fnOf "are_writes" "are_writes" (defArgs (topS 9)) (defBody (topS 9)) (defScope (topS 9)) .none kV10 dc10 pm10 an10 cd10 ct10), sl10⟩) (c10 : PySem.W.codeIn K cd10 "are_writes" = true) (k10 : PySem.W.keepIn K (.ref f10) = true)
    (a11 : PySem.W.nsIn K mainGlobals "is_read" = some (some (.ref f11))) (l11 : K.lookup f11 = some ⟨oc11, od11, .func (PySem.W.fnOf "is_read" "is_read" (defArgs (topS 10)) (defBody (topS 10)) (defScope (topS 10)) .none kV11 dc11 pm11 an11 cd11 ct11), sl11⟩) (c11 : PySem.W.codeIn K cd11 "is_read" = true) (k11 : PySem.W.keepIn K (.ref f11) = true)
    (a12 : PySem.W.nsIn K mainGlobals "moment_of" = some (some (.ref f12))) (l12 : K.lookup f12 = some ⟨oc12, od12, .func (PySem.W.fnOf "moment_of" "moment_of" (defArgs (topS 16)) (defBody (topS 16)) (defScope (topS 16)) .none kV12 dc12 pm12 an12 cd12 ct12), sl12⟩) (c12 : PySem.W.codeIn K cd12 "moment_of" = true) (k12 : PySem.W.keepIn K (.ref f12) = true)
    (a13 : PySem.W.nsIn K mainGlobals "_law_history" = some (some (.ref f13))) (l13 : K.lookup f13 = some ⟨oc13, od13, .func (PySem.W.fnOf "_law_history" "_law_history" (defArgs (topS 24)) (defBody (topS 24)) (defScope (topS 24)) .none kV13 dc13 pm13 an13 cd13 ct13), sl13⟩) (c13 : PySem.W.codeIn K cd13 "_law_history" = true) (k13 : PySem.W.keepIn K (.ref f13) = true)
    (a14 : PySem.W.nsIn K mainGlobals "are_reads" = some (some (.ref f14))) (l14 : K.lookup f14 = some ⟨oc14, od14, .func (PySem.W.fnOf "are_reads" "are_reads" (defArgs (topS 11)) (defBody (topS 11)) (defScope (topS 11)) .none kV14 dc14 pm14 an14 cd14 ct14), sl14⟩) (c14 : PySem.W.codeIn K cd14 "are_reads" = true) (k14 : PySem.W.keepIn K (.ref f14) = true)
    (a15 : PySem.W.nsIn K mainGlobals "is_history" = some (some (.ref f15))) (l15 : K.lookup f15 = some ⟨oc15, od15, .func (PySem.W.fnOf "is_history" "is_history" (defArgs (topS 12)) (defBody (topS 12)) (defScope (topS 12)) .none kV15 dc15 pm15 an15 cd15 ct15), sl15⟩) (c15 : PySem.W.codeIn K cd15 "is_history" = true) (k15 : PySem.W.keepIn K (.ref f15) = true)
    (a16 : PySem.W.nsIn K mainGlobals "check_history" = some (some (.ref f16))) (l16 : K.lookup f16 = some ⟨oc16, od16, .func (PySem.W.fnOf "check_history" "check_history" (defArgs (topS 13)) (defBody (topS 13)) (defScope (topS 13)) .none kV16 dc16 pm16 an16 cd16 ct16), sl16⟩) (c16 : PySem.W.codeIn K cd16 "check_history" = true) (k16 : PySem.W.keepIn K (.ref f16) = true)
    (a17 : PySem.W.nsIn K mainGlobals "moments" = some (some (.ref f17))) (l17 : K.lookup f17 = some ⟨oc17, od17, .func (PySem.W.fnOf "moments" "moments" (defArgs (topS 17)) (defBody (topS 17)) (defScope (topS 17)) .none kV17 dc17 pm17 an17 cd17 ct17), sl17⟩) (c17 : PySem.W.codeIn K cd17 "moments" = true) (k17 : PySem.W.keepIn K (.ref f17) = true)
    (a18 : PySem.W.nsIn K mainGlobals "by_snapshots" = some (some (.ref f18))) (l18 : K.lookup f18 = some ⟨oc18, od18, .func (PySem.W.fnOf "by_snapshots" "by_snapshots" (defArgs (topS 18)) (defBody (topS 18)) (defScope (topS 18)) .none kV18 dc18 pm18 an18 cd18 ct18), sl18⟩) (c18 : PySem.W.codeIn K cd18 "by_snapshots" = true) (k18 : PySem.W.keepIn K (.ref f18) = true)
    (a19 : PySem.W.nsIn K mainGlobals "law" = some (some (.ref f19))) (l19 : K.lookup f19 = some ⟨oc19, od19, .func (PySem.W.fnOf "law" "law" (defArgs (topS 27)) (defBody (topS 27)) (defScope (topS 27)) .none kV19 dc19 pm19 an19 cd19 ct19), sl19⟩) (c19 : PySem.W.codeIn K cd19 "law" = true) (k19 : PySem.W.keepIn K (.ref f19) = true)
    (z0 : PySem.W.nsIn K mainGlobals "abs" = some none)
    (z1 : PySem.W.nsIn K mainGlobals "all" = some none)
    (z2 : PySem.W.nsIn K mainGlobals "any" = some none)
    (z3 : PySem.W.nsIn K mainGlobals "bool" = some none)
    (z4 : PySem.W.nsIn K mainGlobals "enumerate" = some none)
    (z5 : PySem.W.nsIn K mainGlobals "int" = some none)
    (z6 : PySem.W.nsIn K mainGlobals "isinstance" = some none)
    (z7 : PySem.W.nsIn K mainGlobals "len" = some none)
    (z8 : PySem.W.nsIn K mainGlobals "max" = some none)
    (z9 : PySem.W.nsIn K mainGlobals "range" = some none)
    (z10 : PySem.W.nsIn K mainGlobals "repr" = some none)
    (z11 : PySem.W.nsIn K mainGlobals "tuple" = some none)
    (z12 : PySem.W.nsIn K mainGlobals "zip" = some none)
    (y0 : PySem.W.nsIn K mainGlobals "MOST_DEALS" = some (some (.int 12 t0)))
    (y1 : PySem.W.nsIn K mainGlobals "MOST_KEY" = some (some (.int 99 t1)))
    : ∃ fd : FuncData, (∀ (s : Shared) (v : Value), BindsTo s fd ⟨[v], []⟩ [("script", v)]) ∧ ∀ base : Heap, K.In base → base.Ns mainGlobals mg → LawAt l.prog w K mg base (L2.CX l.prog w) fa fd ["script"] (spLaw K) := by
  have e := hfa.symm.trans (PySem.W.mg_of X G a19)
  cases e
  have T : Txt K mg := ⟨PySem.W.mg_none_of X G z0, PySem.W.mg_none_of X G z1, PySem.W.mg_none_of X G z2, PySem.W.mg_none_of X G z3, PySem.W.mg_none_of X G z4, PySem.W.mg_none_of X G z5, PySem.W.mg_none_of X G z6, PySem.W.mg_none_of X G z7, PySem.W.mg_none_of X G z8, PySem.W.mg_none_of X G z9, PySem.W.mg_none_of X G z10, PySem.W.mg_none_of X G z11, PySem.W.mg_none_of X G z12, ⟨_, PySem.W.mg_of X G y0⟩, ⟨_, PySem.W.mg_of X G y1⟩⟩
  have F0 := fun_mk (st := topS 4) l0 c0 k0
  have F1 := fun_mk (st := topS 14) l1 c1 k1
  have F2 := fun_mk (st := topS 20) l2 c2 k2
  have F3 := fun_mk (st := topS 21) l3 c3 k3
  have F4 := fun_mk (st := topS 23) l4 c4 k4
  have F5 := fun_mk (st := topS 25) l5 c5 k5
  have F6 := fun_mk (st := topS 5) l6 c6 k6
  have F7 := fun_mk (st := topS 15) l7 c7 k7
  have F8 := fun_mk (st := topS 22) l8 c8 k8
  have F9 := fun_mk (st := topS 26) l9 c9 k9
  have F10 := fun_mk (st := topS 9) l10 c10 k10
  have F11 := fun_mk (st := topS 10) l11 c11 k11
  have F12 := fun_mk (st := topS 16) l12 c12 k12
  have F13 := fun_mk (st := topS 24) l13 c13 k13
  have F14 := fun_mk (st := topS 11) l14 c14 k14
  have F15 := fun_mk (st := topS 12) l15 c15 k15
  have F16 := fun_mk (st := topS 13) l16 c16 k16
  have F17 := fun_mk (st := topS 17) l17 c17 k17
  have F18 := fun_mk (st := topS 18) l18 c18 k18
  have F19 := fun_mk (st := topS 27) l19 c19 k19
  refine ⟨PySem.W.fnOf "law" "law" (defArgs (topS 27)) (defBody (topS 27)) (defScope (topS 27)) .none kV19 dc19 pm19 an19 cd19 ct19, fun s v => .of_eq rfl, fun base _ _ => ?_⟩
  have c_is_integer : Has l.prog w K mg base "is_integer" 1 ["thing"] (spM K mg m_is_integer) := ⟨⟨f0, _, PySem.W.mg_of X G a0, k0, F0.binds (ps := ["thing"]) fun _ _ _ _ _ _ us hl => match us, hl with | [_], _ => rfl, ok_is_integer F0 T ⟩⟩
  have c_writers : Has l.prog w K mg base "writers" 1 ["history", "key"] (spL K mg m_writers) := ⟨⟨f1, _, PySem.W.mg_of X G a1, k1, F1.binds (ps := ["history", "key"]) fun _ _ _ _ _ _ us hl => match us, hl with | [_, _], _ => rfl, ok_writers F1 T ⟩⟩
  have c__law_pool : Has l.prog w K mg base "_law_pool" 1 ["script"] (spL K mg m__law_pool) := ⟨⟨f2, _, PySem.W.mg_of X G a2, k2, F2.binds (ps := ["script"]) fun _ _ _ _ _ _ us hl => match us, hl with | [_], _ => rfl, ok__law_pool F2 T ⟩⟩
  have c__law_draw : Has l.prog w K mg base "_law_draw" 1 ["pool", "many"] (spM K mg m__law_draw) := ⟨⟨f3, _, PySem.W.mg_of X G a3, k3, F3.binds (ps := ["pool", "many"]) fun _ _ _ _ _ _ us hl => match us, hl with | [_, _], _ => rfl, ok__law_draw F3 T ⟩⟩
  have c__law_flag : Has l.prog w K mg base "_law_flag" 1 ["told", "due"] (spM K mg m__law_flag) := ⟨⟨f4, _, PySem.W.mg_of X G a4, k4, F4.binds (ps := ["told", "due"]) fun _ _ _ _ _ _ us hl => match us, hl with | [_, _], _ => rfl, ok__law_flag F4 T ⟩⟩
  have c__law_last : Has l.prog w K mg base "_law_last" 1 ["told", "many", "key"] (spM K mg m__law_last) := ⟨⟨f5, _, PySem.W.mg_of X G a5, k5, F5.binds (ps := ["told", "many", "key"]) fun _ _ _ _ _ _ us hl => match us, hl with | [_, _, _], _ => rfl, ok__law_last F5 T ⟩⟩
  have c_is_between : Has l.prog w K mg base "is_between" 2 ["thing", "least", "most"] (spM K mg m_is_between) := ⟨⟨f6, _, PySem.W.mg_of X G a6, k6, F6.binds (ps := ["thing", "least", "most"]) fun _ _ _ _ _ _ us hl => match us, hl with | [_, _, _], _ => rfl, ok_is_between F6 T c_is_integer⟩⟩
  have c_suits : Has l.prog w K mg base "suits" 2 ["history", "index", "moment"] (spM K mg m_suits) := ⟨⟨f7, _, PySem.W.mg_of X G a7, k7, F7.binds (ps := ["history", "index", "moment"]) fun _ _ _ _ _ _ us hl => match us, hl with | [_, _, _], _ => rfl, ok_suits F7 T c_writers⟩⟩
  have c__law_any : Has l.prog w K mg base "_law_any" 2 ["pool", "things"] (spM K mg m__law_any) := ⟨⟨f8, _, PySem.W.mg_of X G a8, k8, F8.binds (ps := ["pool", "things"]) fun _ _ _ _ _ _ us hl => match us, hl with | [_, _], _ => rfl, ok__law_any F8 T c__law_draw⟩⟩
  have c__law_moment : Has l.prog w K mg base "_law_moment" 2 ["told", "one"] (spM K mg m__law_moment) := ⟨⟨f9, _, PySem.W.mg_of X G a9, k9, F9.binds (ps := ["told", "one"]) fun _ _ _ _ _ _ us hl => match us, hl with | [_, _], _ => rfl, ok__law_moment F9 T c__law_last⟩⟩
  have c_are_writes : Has l.prog w K mg base "are_writes" 3 ["thing"] (spM K mg m_are_writes) := ⟨⟨f10, _, PySem.W.mg_of X G a10, k10, F10.binds (ps := ["thing"]) fun _ _ _ _ _ _ us hl => match us, hl with | [_], _ => rfl, ok_are_writes F10 T c_is_between⟩⟩
  have c_is_read : Has l.prog w K mg base "is_read" 3 ["thing", "history"] (spM K mg m_is_read) := ⟨⟨f11, _, PySem.W.mg_of X G a11, k11, F11.binds (ps := ["thing", "history"]) fun _ _ _ _ _ _ us hl => match us, hl with | [_, _], _ => rfl, ok_is_read F11 T c_is_between⟩⟩
  have c_moment_of : Has l.prog w K mg base "moment_of" 3 ["history", "index"] (spM K mg m_moment_of) := ⟨⟨f12, _, PySem.W.mg_of X G a12, k12, F12.binds (ps := ["history", "index"]) fun _ _ _ _ _ _ us hl => match us, hl with | [_, _], _ => rfl, ok_moment_of F12 T c_suits⟩⟩
  have c__law_history : Has l.prog w K mg base "_law_history" 3 ["pool", "most"] (spM K mg m__law_history) := ⟨⟨f13, _, PySem.W.mg_of X G a13, k13, F13.binds (ps := ["pool", "most"]) fun _ _ _ _ _ _ us hl => match us, hl with | [_, _], _ => rfl, ok__law_history F13 T c__law_draw c__law_any⟩⟩
  have c_are_reads : Has l.prog w K mg base "are_reads" 4 ["thing", "index", "history"] (spM K mg m_are_reads) := ⟨⟨f14, _, PySem.W.mg_of X G a14, k14, F14.binds (ps := ["thing", "index", "history"]) fun _ _ _ _ _ _ us hl => match us, hl with | [_, _, _], _ => rfl, ok_are_reads F14 T c_is_read⟩⟩
  have c_is_history : Has l.prog w K mg base "is_history" 5 ["thing"] (spM K mg m_is_history) := ⟨⟨f15, _, PySem.W.mg_of X G a15, k15, F15.binds (ps := ["thing"]) fun _ _ _ _ _ _ us hl => match us, hl with | [_], _ => rfl, ok_is_history F15 T c_are_reads c_are_writes⟩⟩
  have c_check_history : Has l.prog w K mg base "check_history" 6 ["thing"] (spM K mg m_check_history) := ⟨⟨f16, _, PySem.W.mg_of X G a16, k16, F16.binds (ps := ["thing"]) fun _ _ _ _ _ _ us hl => match us, hl with | [_], _ => rfl, ok_check_history F16 T c_is_history⟩⟩
  have c_moments : Has l.prog w K mg base "moments" 7 ["history"] (spM K mg m_moments) := ⟨⟨f17, _, PySem.W.mg_of X G a17, k17, F17.binds (ps := ["history"]) fun _ _ _ _ _ _ us hl => match us, hl with | [_], _ => rfl, ok_moments F17 T c_check_history c_moment_of⟩⟩
  have c_by_snapshots : Has l.prog w K mg base "by_snapshots" 7 ["history"] (spM K mg m_by_snapshots) := ⟨⟨f18, _, PySem.W.mg_of X G a18, k18, F18.binds (ps := ["history"]) fun _ _ _ _ _ _ us hl => match us, hl with | [_], _ => rfl, ok_by_snapshots F18 T c_check_history c_moment_of⟩⟩
  exact (ok_law F19 T c__law_pool c__law_history c_moments c__law_flag c_by_snapshots c__law_moment c__law_draw).imp fun vs H Q E h => sp_law ht h
end My
open PySem PySem.W PyProof.Rows
set_option maxHeartbeats 0 in
theorem PySem.Challenge.cw_tornsectors_k88_whole_moments_of_snapsho_holds : PySem.Challenge.rw_tornsectors_k88_whole_moments_of_snapsho.Holds := by
  w_on; o_law; k_head; (case hw => w_witness2)
  k_fill
  refine AB.walk_ofC (l := PySem.Challenge.rw_tornsectors_k88_whole_moments_of_snapsho) (n := 63) (x := "script") (CX := fun w => L2.CX PySem.Challenge.rw_tornsectors_k88_whole_moments_of_snapsho.prog w) (sp := fun w => AB.spLaw _) rfl (by decide) rfl (fun w h Y => PySem.W.kIn_of Y) ?F (fun _ _ a ns hl _ hS => ⟨a, ns, rfl, hS, hl, fun _ => rfl⟩) (fun _ _ _ _ _ h => AB.cx_false h)
  case F =>
    intro w mg fa h KX G hmg
    refine' My.all_mk KX G hmg My.law_true ?a0 ?l0 ?c0 ?k0 ?a1 ?l1 ?c1 ?k1 ?a2 ?l2 ?c2 ?k2 ?a3 ?l3 ?c3 ?k3 ?a4 ?l4 ?c4 ?k4 ?a5 ?l5 ?c5 ?k5 ?a6 ?l6 ?c6 ?k6 ?a7 ?l7 ?c7 ?k7 ?a8 ?l8 ?c8 ?k8 ?a9 ?l9 ?c9 ?k9 ?a10 ?l10 ?c10 ?k10 ?a11 ?l11 ?c11 ?k11 ?a12 ?l12 ?c12 ?k12 ?a13 ?l13 ?c13 ?k13 ?a14 ?l14 ?c14 ?k14 ?a15 ?l15 ?c15 ?k15 ?a16 ?l16 ?c16 ?k16 ?a17 ?l17 ?c17 ?k17 ?a18 ?l18 ?c18 ?k18 ?a19 ?l19 ?c19 ?k19 ?z0 ?z1 ?z2 ?z3 ?z4 ?z5 ?z6 ?z7 ?z8 ?z9 ?z10 ?z11 ?z12 ?y0 ?y1
    (case a0 => k_is); (case l0 => k_is); (case c0 => k_is); (case k0 => k_is); (case a1 => k_is); (case l1 => k_is); (case c1 => k_is); (case k1 => k_is); (case a2 => k_is); (case l2 => k_is); (case c2 => k_is); (case k2 => k_is); (case a3 => k_is); (case l3 => k_is); (case c3 => k_is); (case k3 => k_is); (case a4 => k_is); (case l4 => k_is); (case c4 => k_is); (case k4 => k_is); (case a5 => k_is); (case l5 => k_is); (case c5 => k_is); (case k5 => k_is); (case a6 => k_is); (case l6 => k_is); (case c6 => k_is); (case k6 => k_is); (case a7 => k_is); (case l7 => k_is); (case c7 => k_is); (case k7 => k_is); (case a8 => k_is); (case l8 => k_is); (case c8 => k_is); (case k8 => k_is); (case a9 => k_is); (case l9 => k_is); (case c9 => k_is); (case k9 => k_is); (case a10 => k_is); (case l10 => k_is); (case c10 => k_is); (case k10 => k_is); (case a11 => k_is); (case l11 => k_is); (case c11 => k_is); (case k11 => k_is); (case a12 => k_is); (case l12 => k_is); (case c12 => k_is); (case k12 => k_is); (case a13 => k_is); (case l13 => k_is); (case c13 => k_is); (case k13 => k_is); (case a14 => k_is); (case l14 => k_is); (case c14 => k_is); (case k14 => k_is); (case a15 => k_is); (case l15 => k_is); (case c15 => k_is); (case k15 => k_is); (case a16 => k_is); (case l16 => k_is); (case c16 => k_is); (case k16 => k_is); (case a17 => k_is); (case l17 => k_is); (case c17 => k_is); (case k17 => k_is); (case a18 => k_is); (case l18 => k_is); (case c18 => k_is); (case k18 => k_is); (case a19 => k_is); (case l19 => k_is); (case c19 => k_is); (case k19 => k_is); (case z0 => k_is); (case z1 => k_is); (case z2 => k_is); (case z3 => k_is); (case z4 => k_is); (case z5 => k_is); (case z6 => k_is); (case z7 => k_is); (case z8 => k_is); (case z9 => k_is); (case z10 => k_is); (case z11 => k_is); (case z12 => k_is); (case y0 => k_is); (case y1 => k_is)
