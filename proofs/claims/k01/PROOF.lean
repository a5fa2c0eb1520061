import PyProof.Rows.All
import Wide.All
import OpenK.AllK
import Wide.FinOn
import HandS.ForMost
import HandS.Wide
import HandS.TupAny
import HandS.TupMul
import HandS.IsInst
import HandS.Deep
import HandS.ForExc
import HandS.Defaults
import HandS.Small
import HandS.SetFor
import HandS.Style
import HandS.HeadHook2
import HandS.EndBits
import PyProof.DictDisplay
import PySem.Challenge.RW_oneseat_k01_numbers_and_errands
import HandS.Head0
import HandS.Head1
import HandS.Head2
import HandS.HeadEnd
import HandS.HeadHook1
set_option Elab.async false
set_option linter.all false
set_option maxRecDepth 100000
namespace DL
open PySem PySem.Spec PyProof.Rows L2
/-! ### data that stands in a heap -/
abbrev D := PyData
abbrev Sg := List (Option V)
def kD : Key → D
  | .inl i => .int i
  | .inr x => .str x
/-- some dict: nothing is told of what it holds -/
def opqO (a : Addr) : HO := .ext fun h => ∃ o, h.get? a = some o ∧ o.cls = .type "dict" ∧ o.dict = none
mutual
inductive Dat (K : PySem.W.Frag) (H : Hp) : V → D → Prop
  | non : Dat K H .non .none
  | bl (b : Bool) : Dat K H (.bl b) (.bool b)
  | int (i : Int) : Dat K H (.int i) (.int i)
  | str (x : Str) : Dat K H (.str x) (.str x)
  | lst {a : Addr} {xs : List V} {ds : List D} : SqL K H a xs → Dats K H xs ds → Dat K H (.ref a) (.list ds)
  | tup {a : Addr} {xs : List V} {ds : List D} : SqT K H a xs → Dats K H xs ds → Dat K H (.ref a) (.tuple ds)
  | dct {a : Addr} {ks : List (Key × V)} {ds : List (D × D)} : Rd H a (.dK ks) → Datp K H ks ds → Dat K H (.ref a) (.dict ds)
  /-- a dict by tuples: nothing is told of what it holds -/
  | dcT {a : Addr} : Rd H a (opqO a) → Dat K H (.ref a) (.dict [(.tuple [], .none)])
inductive Dats (K : PySem.W.Frag) (H : Hp) : List V → List D → Prop
  | nil : Dats K H [] []
  | cons {v : V} {vs : List V} {d : D} {ds : List D} : Dat K H v d → Dats K H vs ds → Dats K H (v :: vs) (d :: ds)
inductive Datp (K : PySem.W.Frag) (H : Hp) : List (Key × V) → List (D × D) → Prop
  | nil : Datp K H [] []
  | cons {k : Key} {v : V} {ks : List (Key × V)} {d : D} {ds : List (D × D)} : Dat K H v d → Datp K H ks ds → Datp K H ((k, v) :: ks) ((kD k, d) :: ds)
end
variable {K : PySem.W.Frag} {F F' H H' H1 : Hp}
/-- what may be read in the one may be read so in the other -/
def Le (H H' : Hp) : Prop := ∀ a u, Rd H a u → Rd H' a u
theorem Le.refl (H : Hp) : Le H H := fun _ _ h => h
theorem Le.trans {H H1 H2 : Hp} (a : Le H H1) (b : Le H1 H2) : Le H H2 := fun c o h => b c o (a c o h)
theorem rd_mono {a : Addr} {u : HO} (e : Same H H') : Rd H a u → Rd H' a u
  | .inl h => .inl (e _ _ h)
  | .inr ⟨o, h⟩ => .inr ⟨o, e _ _ h⟩
theorem Le.of (e : Same H H') : Le H H' := fun _ _ h => rd_mono e h
theorem rd_some {a : Addr} {u : HO} : Rd H a u → H a ≠ none
  | .inl h => by rw [h]; simp
  | .inr ⟨o, h⟩ => by rw [h]; simp
theorem Le.free (e : Le H H') {p : Addr} (np : H' p = none) : H p = none := by
  cases q : H p with
  | none => rfl
  | some o => exact absurd np (rd_some (e p o (.inl q)))
theorem Le.seq {a : Addr} {xs : List V} (e : Le H H') : SqL K H a xs → SqL K H' a xs
  | .inl h => .inl (e _ _ h)
  | .inr h => .inr h
theorem sqt_mono {a : Addr} {xs : List V} (e : Le H H') : SqT K H a xs → SqT K H' a xs
  | .inl h => .inl (e _ _ h)
  | .inr h => .inr h
mutual
theorem Dat.mono (e : Le H H') : ∀ {v : V} {d : D}, Dat K H v d → Dat K H' v d
  | _, _, .non => .non
  | _, _, .bl b => .bl b
  | _, _, .int i => .int i
  | _, _, .str x => .str x
  | _, _, .lst h t => .lst (e.seq h) (Dats.mono e t)
  | _, _, .tup h t => .tup (sqt_mono e h) (Dats.mono e t)
  | _, _, .dct h t => .dct (e _ _ h) (Datp.mono e t)
  | _, _, .dcT h => .dcT (e _ _ h)
theorem Dats.mono (e : Le H H') : ∀ {v : List V} {d : List D}, Dats K H v d → Dats K H' v d
  | _, _, .nil => .nil
  | _, _, .cons h t => .cons (Dat.mono e h) (Dats.mono e t)
theorem Datp.mono (e : Le H H') : ∀ {v : List (Key × V)} {d : List (D × D)}, Datp K H v d → Datp K H' v d
  | _, _, .nil => .nil
  | _, _, .cons h t => .cons (Dat.mono e h) (Datp.mono e t)
end
theorem Dats.length : ∀ {vs : List V} {ds : List D}, Dats K H vs ds → vs.length = ds.length
  | _, _, .nil => rfl
  | _, _, .cons _ t => congrArg (· + 1) (Dats.length t)
theorem Dats.get : ∀ {vs : List V} {ds : List D} {i : Nat} {x : D}, Dats K H vs ds → ds[i]? = some x → ∃ v, vs[i]? = some v ∧ Dat K H v x
  | _, _, _, _, .nil, e => by simp at e
  | _, _, 0, _, .cons h _, e => by simp at e; subst e; exact ⟨_, rfl, h⟩
  | _, _, i + 1, x, .cons _ t, e => by
    obtain ⟨v, h1, h2⟩ := Dats.get (i := i) (x := x) t (by simpa using e)
    exact ⟨v, by simpa using h1, h2⟩
theorem Dats.getV : ∀ {vs : List V} {ds : List D} {i : Nat} {v : V}, Dats K H vs ds → vs[i]? = some v → ∃ x, ds[i]? = some x ∧ Dat K H v x
  | _, _, _, _, .nil, e => by simp at e
  | _, _, 0, _, .cons h _, e => by simp at e; subst e; exact ⟨_, rfl, h⟩
  | _, _, i + 1, x, .cons _ t, e => by
    obtain ⟨v, h1, h2⟩ := Dats.getV (i := i) (v := x) t (by simpa using e)
    exact ⟨v, by simpa using h1, h2⟩
theorem Dats.append : ∀ {vs ws : List V} {ds es : List D}, Dats K H vs ds → Dats K H ws es → Dats K H (vs ++ ws) (ds ++ es)
  | _, _, _, _, .nil, s => s
  | _, _, _, _, .cons h t, s => .cons h (Dats.append t s)
theorem Dats.take : ∀ {vs : List V} {ds : List D} (n : Nat), Dats K H vs ds → Dats K H (vs.take n) (ds.take n)
  | _, _, 0, _ => .nil
  | _, _, _ + 1, .nil => .nil
  | _, _, n + 1, .cons h t => .cons h (Dats.take n t)
theorem Dats.drop : ∀ {vs : List V} {ds : List D} (n : Nat), Dats K H vs ds → Dats K H (vs.drop n) (ds.drop n)
  | _, _, 0, r => r
  | _, _, _ + 1, .nil => .nil
  | _, _, n + 1, .cons _ t => Dats.drop n t
theorem Dats.set {v : V} {d : D} (r : Dat K H v d) : ∀ {vs : List V} {ds : List D} (i : Nat), Dats K H vs ds → Dats K H (vs.set i v) (ds.set i d)
  | _, _, _, .nil => .nil
  | _, _, 0, .cons _ t => .cons r t
  | _, _, i + 1, .cons q t => .cons q (Dats.set r i t)
/-! ### what a slot holds -/
/-- u: not told; d: data that is never changed again; L, M: a list, a dict of the def's own (or, labelled, of a caller's) -/
inductive SV where
  | u
  | d (x : D)
  | L (k : Nat) (xs : List D)
  | M (k : Nat) (ks : List (Key × D))
def SV.own : SV → Bool
  | .L _ _ => true
  | .M _ _ => true
  | _ => false
def SV.lab : SV → Nat
  | .L k _ => k
  | .M k _ => k
  | _ => 0
inductive DKs (K : PySem.W.Frag) (H : Hp) : List (Key × V) → List (Key × D) → Prop
  | nil : DKs K H [] []
  | cons {k : Key} {v : V} {ks : List (Key × V)} {d : D} {ds : List (Key × D)} : Dat K H v d → DKs K H ks ds → DKs K H ((k, v) :: ks) ((k, d) :: ds)
theorem DKs.mono (e : Le H H') : ∀ {v : List (Key × V)} {d : List (Key × D)}, DKs K H v d → DKs K H' v d
  | _, _, .nil => .nil
  | _, _, .cons h t => .cons (h.mono e) (DKs.mono e t)
def kvD (ks : List (Key × D)) : List (D × D) := ks.map fun p => (kD p.1, p.2)
theorem DKs.datp : ∀ {v : List (Key × V)} {d : List (Key × D)}, DKs K H v d → Datp K H v (kvD d)
  | _, _, .nil => .nil
  | _, _, .cons h t => .cons h (DKs.datp t)
/-- what does not change while a def's body runs. H0, F0: the heap and its frozen part at the entry; A0: the callers' objects that the body may change; lm: where they stand -/
structure DC where
  K : PySem.W.Frag
  lm : Nat → Addr
  H0 : Hp
  F0 : Hp
  A0 : Addr → Prop
def SlotOk (C : DC) (F H : Hp) (x : Option V) : SV → Prop
  | .u => True
  | .d y => ∃ v, x = some v ∧ Dat C.K F v y
  | .L k ys => ∃ (a : Addr) (xs : List V), x = some (.ref a) ∧ (k ≠ 0 → C.lm k = a) ∧ H a = some (.lst xs) ∧ F a = none ∧ Dats C.K F xs ys
  | .M k ys => ∃ (a : Addr) (xs : List (Key × V)), x = some (.ref a) ∧ (k ≠ 0 → C.lm k = a) ∧ H a = some (.dK xs) ∧ F a = none ∧ DKs C.K F xs ys
def OwnedAt (σ : Sg) (δ : List SV) (a : Addr) : Prop := ∃ (i : Nat) (s : SV), δ[i]? = some s ∧ s.own = true ∧ σ[i]? = some (some (V.ref a))
structure Rp (C : DC) (F H : Hp) (σ : Sg) (δ : List SV) : Prop where
  ext : Le F H
  len : δ.length = σ.length
  slot : ∀ (i : Nat) x s, σ[i]? = some x → δ[i]? = some s → SlotOk C F H x s
  apart : ∀ (i j : Nat) s t a, δ[i]? = some s → s.own = true → δ[j]? = some t → t.own = true → σ[i]? = some (some (V.ref a)) → σ[j]? = some (some (V.ref a)) → i = j
  own0 : ∀ (i : Nat) s a, δ[i]? = some s → s.own = true → σ[i]? = some (some (V.ref a)) → (s.lab ≠ 0 → C.A0 a) ∧ (s.lab = 0 → C.H0 a = none)
  old : ∀ a o, C.H0 a = some o → ¬ C.A0 a → H a = some o ∧ (C.F0 a = none → F a = none)
  ext0 : Le C.F0 F
  pers : ∀ a, C.H0 a ≠ none → H a ≠ none
/-- what an expression may do -/
structure Stp (F H : Hp) (σ : Sg) (δ : List SV) (F' H' : Hp) (δ' : List SV) : Prop where
  ext : Le F F'
  frm : ∀ a o, H a = some o → ¬ OwnedAt σ δ a → H' a = some o ∧ (F a = none → F' a = none)
  pers : ∀ a, H a ≠ none → H' a ≠ none
  own : ∀ (i : Nat) (s : SV), δ'[i]? = some s → s.own = true → ∃ s0, δ[i]? = some s0 ∧ s0.own = true ∧ s0.lab = s.lab
theorem Stp.refl {σ : Sg} {δ : List SV} : Stp F H σ δ F H δ := ⟨Le.refl _, fun _ _ h _ => ⟨h, id⟩, fun _ h => h, fun _ s h e => ⟨s, h, e, rfl⟩⟩
theorem Stp.owned {σ : Sg} {δ δ' : List SV} (s : Stp F H σ δ F' H' δ') {a : Addr} : OwnedAt σ δ' a → OwnedAt σ δ a := fun ⟨i, t, h1, h2, h3⟩ =>
  let ⟨t0, g1, g2, _⟩ := s.own i t h1 h2
  ⟨i, t0, g1, g2, h3⟩
theorem Stp.trans {F1 F2 H1 H2 : Hp} {σ : Sg} {δ δ1 δ2 : List SV} (a : Stp F H σ δ F1 H1 δ1) (b : Stp F1 H1 σ δ1 F2 H2 δ2) : Stp F H σ δ F2 H2 δ2 where
  ext := a.ext.trans b.ext
  frm := fun c o h n =>
    let ⟨h1, f1⟩ := a.frm c o h n
    let ⟨h2, f2⟩ := b.frm c o h1 fun z => n (a.owned z)
    ⟨h2, fun z => f2 (f1 z)⟩
  pers := fun c h => b.pers c (a.pers c h)
  own := fun i s h e =>
    let ⟨s1, g1, g2, g3⟩ := b.own i s h e
    let ⟨s0, k1, k2, k3⟩ := a.own i s1 g1 g2
    ⟨s0, k1, k2, k3.trans g3⟩
section
variable {C : DC} {σ : Sg} {δ δ' : List SV}
theorem Rp.owned_there (R : Rp C F H σ δ) {a : Addr} : OwnedAt σ δ a → H a ≠ none ∧ F a = none := fun ⟨i, s, h1, h2, h3⟩ => by
  have q := R.slot i _ s h3 h1
  cases s with
  | u => cases h2
  | d x => cases h2
  | L k xs =>
    obtain ⟨b, ys, e, _, hb, fb, _⟩ := q
    cases e
    exact ⟨by rw [hb]; simp, fb⟩
  | M k xs =>
    obtain ⟨b, ys, e, _, hb, fb, _⟩ := q
    cases e
    exact ⟨by rw [hb]; simp, fb⟩
theorem Rp.fresh_own (R : Rp C F H σ δ) {p : Addr} (np : H p = none) : ¬ OwnedAt σ δ p := fun h => (R.owned_there h).1 np
theorem Rp.freshF (R : Rp C F H σ δ) {p : Addr} (np : H p = none) : F p = none := R.ext.free np
theorem Rp.fresh0 (R : Rp C F H σ δ) {p : Addr} (np : H p = none) : C.H0 p = none := by
  cases e : C.H0 p with
  | none => rfl
  | some o => exact absurd np (R.pers p (by rw [e]; simp))
theorem Rp.own_ref (R : Rp C F H σ δ) {i : Nat} {s : SV} (h : δ[i]? = some s) (e : s.own = true) : ∃ a, σ[i]? = some (some (V.ref a)) := by
  have hl := R.len
  have hi : i < σ.length := by
    have := (List.getElem?_eq_some_iff.mp h).1
    omega
  have hx : σ[i]? = some σ[i] := List.getElem?_eq_getElem hi
  have q := R.slot i _ s hx h
  cases s with
  | u => cases e
  | d x => cases e
  | L k xs =>
    obtain ⟨b, ys, e, _⟩ := q
    exact ⟨b, by rw [hx, e]⟩
  | M k xs =>
    obtain ⟨b, ys, e, _⟩ := q
    exact ⟨b, by rw [hx, e]⟩
/-- the state behind a step, from its slots -/
theorem Rp.step (R : Rp C F H σ δ) (S : Stp F H σ δ F' H' δ') (e : Le F' H') (l : δ'.length = δ.length) (sl : ∀ (i : Nat) x s, σ[i]? = some x → δ'[i]? = some s → SlotOk C F' H' x s) : Rp C F' H' σ δ' where
  ext := e
  len := l.trans R.len
  slot := sl
  apart := fun i j s t a h1 h2 h3 h4 h5 h6 =>
    let ⟨s0, g1, g2, _⟩ := S.own i s h1 h2
    let ⟨t0, k1, k2, _⟩ := S.own j t h3 h4
    R.apart i j s0 t0 a g1 g2 k1 k2 h5 h6
  own0 := fun i s a h1 h2 h3 =>
    let ⟨s0, g1, g2, g3⟩ := S.own i s h1 h2
    let ⟨p, q⟩ := R.own0 i s0 a g1 g2 h3
    ⟨fun z => p (by rw [g3]; exact z), fun z => q (by rw [g3]; exact z)⟩
  old := fun a o h n => by
    obtain ⟨h1, f1⟩ := R.old a o h n
    have no : ¬ OwnedAt σ δ a := fun ⟨i, s, q1, q2, q3⟩ => by
      obtain ⟨p, q⟩ := R.own0 i s a q1 q2 q3
      by_cases z : s.lab = 0
      · rw [q z] at h; cases h
      · exact n (p z)
    obtain ⟨h2, f2⟩ := S.frm a o h1 no
    exact ⟨h2, fun z => f2 (f1 z)⟩
  ext0 := R.ext0.trans S.ext
  pers := fun a h => S.pers a (R.pers a h)
theorem SlotOk.mono {x : Option V} {s : SV} (q : SlotOk C F H x s) (e : Le F F') (k : ∀ a, x = some (V.ref a) → s.own = true → ∀ o, H a = some o → H' a = some o ∧ F' a = none) : SlotOk C F' H' x s := by
  cases s with
  | u => trivial
  | d y =>
    obtain ⟨v, e1, h⟩ := q
    exact ⟨v, e1, h.mono e⟩
  | L n ys =>
    obtain ⟨a, xs, e1, l, h, f, d⟩ := q
    obtain ⟨h', f'⟩ := k a e1 rfl _ h
    exact ⟨a, xs, e1, l, h', f', d.mono e⟩
  | M n ys =>
    obtain ⟨a, xs, e1, l, h, f, d⟩ := q
    obtain ⟨h', f'⟩ := k a e1 rfl _ h
    exact ⟨a, xs, e1, l, h', f', d.mono e⟩
theorem le_upd {p : Addr} {o : HO} (np : H p = none) : Le H (upd H p o) := Le.of fun b u e => by rw [upd_ne (ne_of_none e np)]; exact e
theorem le_upd2 {p : Addr} {o : HO} (e : Le F H) : Le (upd F p o) (upd H p o) := fun b u h => by
  by_cases hb : b = p
  · subst hb
    unfold Rd at h ⊢
    rw [upd_same] at h ⊢
    exact h
  · unfold Rd at h ⊢
    rw [upd_ne hb] at h ⊢
    exact e b u h
theorem le_upd1 {p : Addr} {o : HO} (e : Le F H) (hp : H p = some o) : Le (upd F p o) H := fun b u h => by
  by_cases hb : b = p
  · subst hb
    unfold Rd at h ⊢
    rw [upd_same] at h
    rw [hp]
    exact h
  · unfold Rd at h
    rw [upd_ne hb] at h
    exact e b u h
theorem le_updr {p : Addr} {o : HO} (e : Le F H) (hp : F p = none) : Le F (upd H p o) := fun b u h => by
  have hb : b ≠ p := fun z => rd_some h (by rw [z]; exact hp)
  have q := e b u h
  unfold Rd at q ⊢
  rw [upd_ne hb]
  exact q
theorem same_upd {p : Addr} {o : HO} (np : H p = none) : Same H (upd H p o) := fun b u e => by rw [upd_ne (ne_of_none e np)]; exact e
/-- nothing that stands is changed, nothing of it is frozen -/
theorem Rp.grow (R : Rp C F H σ δ) (eF : Le F F') (eH : Same H H') (e : Le F' H') (k : ∀ a, H a ≠ none → F a = none → F' a = none) : Stp F H σ δ F' H' δ ∧ Rp C F' H' σ δ := by
  have S : Stp F H σ δ F' H' δ := ⟨eF, fun a o h _ => ⟨eH _ _ h, k a (by rw [h]; simp)⟩, fun a h z => h (eH.free z), fun _ s h e => ⟨s, h, e, rfl⟩⟩
  refine ⟨S, R.step S e rfl fun i x s hx hs => (R.slot i x s hx hs).mono eF fun a ea es o ho => ⟨eH _ _ ho, ?_⟩⟩
  subst ea
  exact k a (by rw [ho]; simp) (R.owned_there ⟨i, s, hs, es, hx⟩).2
/-- a new object, frozen -/
theorem Rp.newF (R : Rp C F H σ δ) {p : Addr} (o : HO) (np : H p = none) : Stp F H σ δ (upd F p o) (upd H p o) δ ∧ Rp C (upd F p o) (upd H p o) σ δ := by
  have nf := R.freshF np
  refine R.grow (le_upd nf) (same_upd np) (le_upd2 R.ext) fun a h f => ?_
  have : a ≠ p := fun z => h (z ▸ np)
  rw [upd_ne this]; exact f
/-- a new object, not frozen -/
theorem Rp.newG (R : Rp C F H σ δ) {p : Addr} (o : HO) (np : H p = none) : Stp F H σ δ F (upd H p o) δ ∧ Rp C F (upd H p o) σ δ :=
  R.grow (Le.refl _) (same_upd np) (R.ext.trans (le_upd np)) fun _ _ f => f
/-- the frozen part grows by one thing that is no slot's -/
theorem Rp.freeze (R : Rp C F H σ δ) {p : Addr} {o : HO} (hp : H p = some o) (hf : F p = none) (no : ¬ OwnedAt σ δ p) (n0 : C.H0 p = none) : Rp C (upd F p o) H σ δ where
  ext := le_upd1 R.ext hp
  len := R.len
  slot := fun i x s hx hs => (R.slot i x s hx hs).mono (le_upd hf) fun a ea es u hu => ⟨hu, by
    subst ea
    rw [upd_ne (fun z => no (by rw [← z]; exact ⟨i, s, hs, es, hx⟩))]
    exact (R.owned_there ⟨i, s, hs, es, hx⟩).2⟩
  apart := R.apart
  own0 := R.own0
  old := fun a u h n => by
    obtain ⟨h1, f1⟩ := R.old a u h n
    refine ⟨h1, fun z => ?_⟩
    have : a ≠ p := fun q => by rw [q, n0] at h; cases h
    rw [upd_ne this]; exact f1 z
  ext0 := R.ext0.trans (le_upd hf)
  pers := R.pers
theorem get_set {α : Type} {l : List α} {i : Nat} {x y : α} {j : Nat} (h : (l.set i x)[j]? = some y) : (j = i ∧ y = x ∧ i < l.length) ∨ (j ≠ i ∧ l[j]? = some y) := by
  by_cases e : j = i
  · subst e
    have hl : j < l.length := by
      have := (List.getElem?_eq_some_iff.mp h).1
      simpa using this
    rw [List.getElem?_set_self hl] at h
    cases h
    exact .inl ⟨rfl, rfl, hl⟩
  · rw [List.getElem?_set_ne (Ne.symm e)] at h
    exact .inr ⟨e, h⟩
/-- a slot's own object is written -/
theorem Rp.write (R : Rp C F H σ δ) {i : Nat} {s s' : SV} {a : Addr} {o : HO} (hs : δ[i]? = some s) (ho : s.own = true) (ha : σ[i]? = some (some (V.ref a))) (ho' : s'.own = true) (hl : s'.lab = s.lab)
    (new : SlotOk C F (upd H a o) (some (.ref a)) s') : Stp F H σ δ F (upd H a o) (δ.set i s') ∧ Rp C F (upd H a o) σ (δ.set i s') := by
  have own : OwnedAt σ δ a := ⟨i, s, hs, ho, ha⟩
  obtain ⟨hH, hF⟩ := R.owned_there own
  have S : Stp F H σ δ F (upd H a o) (δ.set i s') := by
    refine ⟨Le.refl _, fun b u h n => ⟨?_, id⟩, fun b h => ?_, fun j t ht et => ?_⟩
    · rw [upd_ne (fun z => n (by rw [z]; exact own))]; exact h
    · by_cases hb : b = a
      · subst hb; rw [upd_same]; simp
      · rw [upd_ne hb]; exact h
    · rcases get_set ht with ⟨rfl, rfl, _⟩ | ⟨_, h⟩
      · exact ⟨s, hs, ho, hl.symm⟩
      · exact ⟨t, h, et, rfl⟩
  refine ⟨S, R.step S (le_updr R.ext hF) (by simp) fun j x t hx ht => ?_⟩
  · rcases get_set ht with ⟨rfl, rfl, _⟩ | ⟨hne, h⟩
    · rw [ha] at hx; cases hx; exact new
    · refine (R.slot j x t hx h).mono (Le.refl _) fun b eb et u hu => ?_
      subst eb
      have : b ≠ a := fun z => hne (R.apart j i t s b h et hs ho hx (by rw [z]; exact ha))
      exact ⟨by rw [upd_ne this]; exact hu, (R.owned_there ⟨j, t, h, et, hx⟩).2⟩
/-- a slot's own object is frozen -/
theorem Rp.freezeS (R : Rp C F H σ δ) {i : Nat} {s : SV} {a : Addr} {o : HO} {x : D} (hs : δ[i]? = some s) (ho : s.own = true) (ha : σ[i]? = some (some (V.ref a))) (hH : H a = some o)
    (new : Dat C.K (upd F a o) (.ref a) x) : Stp F H σ δ (upd F a o) H (δ.set i (.d x)) ∧ Rp C (upd F a o) H σ (δ.set i (.d x)) := by
  have own : OwnedAt σ δ a := ⟨i, s, hs, ho, ha⟩
  obtain ⟨_, hF⟩ := R.owned_there own
  have S : Stp F H σ δ (upd F a o) H (δ.set i (.d x)) := by
    refine ⟨le_upd hF, fun b u h n => ⟨h, fun f => ?_⟩, fun b h => h, fun j t ht et => ?_⟩
    · rw [upd_ne (fun z => n (by rw [z]; exact own))]; exact f
    · rcases get_set ht with ⟨rfl, rfl, _⟩ | ⟨_, h⟩
      · cases et
      · exact ⟨t, h, et, rfl⟩
  refine ⟨S, R.step S (le_upd1 R.ext hH) (by simp) fun j y t hx ht => ?_⟩
  · rcases get_set ht with ⟨rfl, rfl, _⟩ | ⟨hne, h⟩
    · rw [ha] at hx; cases hx; exact ⟨_, rfl, new⟩
    · refine (R.slot j y t hx h).mono (le_upd hF) fun b eb et u hu => ?_
      subst eb
      have : b ≠ a := fun z => hne (R.apart j i t s b h et hs ho hx (by rw [z]; exact ha))
      exact ⟨hu, by rw [upd_ne this]; exact (R.owned_there ⟨j, t, h, et, hx⟩).2⟩
/-- a slot is set to data -/
theorem Rp.setD (R : Rp C F H σ δ) {i : Nat} {v : V} {x : D} (h : Dat C.K F v x) : Rp C F H (σ.set i (some v)) (δ.set i (.d x)) where
  ext := R.ext
  len := by simpa using R.len
  slot := fun j y t hy ht => by
    rcases get_set ht with ⟨rfl, rfl, _⟩ | ⟨hne, h2⟩
    · rcases get_set hy with ⟨_, rfl, _⟩ | ⟨q, _⟩
      · exact ⟨v, rfl, h⟩
      · exact absurd rfl q
    · rw [List.getElem?_set_ne (Ne.symm hne)] at hy
      exact R.slot j y t hy h2
  apart := fun j k s t a h1 h2 h3 h4 h5 h6 => by
    rcases get_set h1 with ⟨rfl, rfl, _⟩ | ⟨n1, g1⟩
    · cases h2
    · rcases get_set h3 with ⟨rfl, rfl, _⟩ | ⟨n2, g2⟩
      · cases h4
      · rw [List.getElem?_set_ne (Ne.symm n1)] at h5
        rw [List.getElem?_set_ne (Ne.symm n2)] at h6
        exact R.apart j k s t a g1 h2 g2 h4 h5 h6
  own0 := fun j s a h1 h2 h3 => by
    rcases get_set h1 with ⟨rfl, rfl, _⟩ | ⟨n1, g1⟩
    · cases h2
    · rw [List.getElem?_set_ne (Ne.symm n1)] at h3
      exact R.own0 j s a g1 h2 h3
  old := R.old
  ext0 := R.ext0
  pers := R.pers
/-- a slot is set to something new of one's own -/
theorem Rp.setN (R : Rp C F H σ δ) {i : Nat} {p : Addr} {s : SV} (hs : s.own = true) (hl : s.lab = 0) (n0 : C.H0 p = none) (no : ¬ OwnedAt σ δ p) (new : SlotOk C F H (some (.ref p)) s) : Rp C F H (σ.set i (some (.ref p))) (δ.set i s) where
  ext := R.ext
  len := by simpa using R.len
  slot := fun j y t hy ht => by
    rcases get_set ht with ⟨rfl, rfl, _⟩ | ⟨hne, h2⟩
    · rcases get_set hy with ⟨_, rfl, _⟩ | ⟨q, _⟩
      · exact new
      · exact absurd rfl q
    · rw [List.getElem?_set_ne (Ne.symm hne)] at hy
      exact R.slot j y t hy h2
  apart := fun j k s' t a h1 h2 h3 h4 h5 h6 => by
    rcases get_set h1 with ⟨rfl, rfl, _⟩ | ⟨n1, g1⟩
    · rcases get_set h3 with ⟨rfl, rfl, _⟩ | ⟨n2, g2⟩
      · rfl
      · rw [List.getElem?_set_ne (Ne.symm n2)] at h6
        rcases get_set h5 with ⟨_, e, _⟩ | ⟨q, _⟩
        · cases e
          exact absurd ⟨k, t, g2, h4, h6⟩ no
        · exact absurd rfl q
    · rcases get_set h3 with ⟨rfl, rfl, _⟩ | ⟨n2, g2⟩
      · rw [List.getElem?_set_ne (Ne.symm n1)] at h5
        rcases get_set h6 with ⟨_, e, _⟩ | ⟨q, _⟩
        · cases e
          exact absurd ⟨j, s', g1, h2, h5⟩ no
        · exact absurd rfl q
      · rw [List.getElem?_set_ne (Ne.symm n1)] at h5
        rw [List.getElem?_set_ne (Ne.symm n2)] at h6
        exact R.apart j k s' t a g1 h2 g2 h4 h5 h6
  own0 := fun j s' a h1 h2 h3 => by
    rcases get_set h1 with ⟨rfl, rfl, _⟩ | ⟨n1, g1⟩
    · rcases get_set h3 with ⟨_, e, _⟩ | ⟨q, _⟩
      · cases e
        exact ⟨fun z => absurd hl z, fun _ => n0⟩
      · exact absurd rfl q
    · rw [List.getElem?_set_ne (Ne.symm n1)] at h3
      exact R.own0 j s' a g1 h2 h3
  old := R.old
  ext0 := R.ext0
  pers := R.pers
end
end DL

namespace DL
open PySem PySem.Spec PyProof.Rows L2
/-! ### what an expression gives: data; a slot's own object; a new list, a new dict -/
inductive Res where
  | d (x : D)
  | b (i : Nat)
  | nL (xs : List D)
  | nM (ks : List (Key × D))
def Res.isPk : Res → Bool
  | .d _ => true
  | .b _ => true
  | _ => false
/-- an exception: its class, its fields -/
structure XD where
  cls : Addr
  fs : Option (List (Str × D))
inductive ER (α : Type) where
  | ok (r : α) (δ : List SV)
  | ex (e : XD) (δ : List SV)
abbrev SEa (α : Type) := List SV → Option (ER α)
abbrev SE := SEa Res
abbrev SB := SEa Bool
abbrev SA := SEa (List Res)
def pureE {α : Type} (r : α) : SEa α := fun δ => some (.ok r δ)
def bindE {α β : Type} (f : SEa α) (k : α → SEa β) : SEa β := fun δ =>
  match f δ with
  | none => none
  | some (.ok r δ') => k r δ'
  | some (.ex e δ') => some (.ex e δ')
abbrev XW := Value → Option Addr → Sg → Hp → Prop
def RV (C : DC) (F H : Hp) (σ : Sg) (Hs : Hp) (v : V) : Res → Prop
  | .d x => Dat C.K F v x
  | .b i => σ[i]? = some (some v)
  | .nL xs => ∃ (p : Addr) (vs : List V), v = .ref p ∧ H p = some (.lst vs) ∧ F p = none ∧ Dats C.K F vs xs ∧ Hs p = none
  | .nM ks => ∃ (p : Addr) (vs : List (Key × V)), v = .ref p ∧ H p = some (.dK vs) ∧ F p = none ∧ DKs C.K F vs ks ∧ Hs p = none
inductive Flds (K : PySem.W.Frag) (F : Hp) : List (Str × V) → List (Str × D) → Prop
  | nil : Flds K F [] []
  | cons {f : Str} {v : V} {x : D} {vs : List (Str × V)} {xs : List (Str × D)} : Dat K F v x → Flds K F vs xs → Flds K F ((f, v) :: vs) ((f, x) :: xs)
def XOk (C : DC) (F H : Hp) (e : XD) (od : Option Addr) : Prop :=
  match e.fs with
  | none => od = none
  | some fs => ∃ (d : Addr) (vs : List (Str × V)), od = some d ∧ H d = some (.xd vs) ∧ Flds C.K F vs fs
section
variable {α β γ : Type} {C : DC} {W : XW} {F F' F1 H H' H1 Hs Hs' : Hp} {σ : Sg} {δ δ' δ1 : List SV} {v : V} {r : Res}
theorem RV.hs (h : RV C F H σ Hs v r) (k : ∀ p, Hs p = none → Hs' p = none) : RV C F H σ Hs' v r := by
  cases r with
  | d x => exact h
  | b i => exact h
  | nL xs => obtain ⟨p, vs, a, b, c, d, e⟩ := h; exact ⟨p, vs, a, b, c, d, k p e⟩
  | nM xs => obtain ⟨p, vs, a, b, c, d, e⟩ := h; exact ⟨p, vs, a, b, c, d, k p e⟩
theorem RV.after (h : RV C F H σ Hs v r) (hp : r.isPk = true) (S : Stp F H σ δ F' H' δ') : RV C F' H' σ Hs' v r := by
  cases r with
  | d x => exact Dat.mono S.ext h
  | b i => exact h
  | nL xs => cases hp
  | nM xs => cases hp
def Res.get (r : Res) (δ : List SV) : Option D :=
  match r with
  | .d x => some x
  | .b i => match δ[i]? with
    | some (.d x) => some x
    | some (.L _ xs) => some (.list xs)
    | some (.M _ ks) => some (.dict (kvD ks))
    | _ => none
  | _ => none
/-- data that is looked at: its items are frozen, it may itself be a slot's own -/
def DatP (K : PySem.W.Frag) (F H : Hp) (v : V) (x : D) : Prop :=
  Dat K F v x ∨ (∃ (a : Addr) (vs : List V) (ds : List D), v = .ref a ∧ x = .list ds ∧ H a = some (.lst vs) ∧ Dats K F vs ds) ∨
    ∃ (a : Addr) (ks : List (Key × V)) (ds : List (Key × D)), v = .ref a ∧ x = .dict (kvD ds) ∧ H a = some (.dK ks) ∧ DKs K F ks ds
theorem DatP.dat {K : PySem.W.Frag} {x : D} (e : Le F H) : DatP K F H v x → Dat K H v x
  | .inl h => Dat.mono e h
  | .inr (.inl ⟨a, vs, ds, e1, e2, h, t⟩) => by subst e1 e2; exact .lst (SqL.of h) (t.mono e)
  | .inr (.inr ⟨a, vs, ds, e1, e2, h, t⟩) => by subst e1 e2; exact .dct (.inl h) ((t.mono e).datp)
theorem DatP.lst {K : PySem.W.Frag} {ds : List D} (e : Le F H) : DatP K F H v (.list ds) → ∃ a vs, v = .ref a ∧ SqL K H a vs ∧ Dats K F vs ds
  | .inl (.lst h t) => ⟨_, _, rfl, e.seq h, t⟩
  | .inr (.inl ⟨a, vs, ds, e1, e2, h, t⟩) => by cases e2; exact ⟨a, vs, e1, SqL.of h, t⟩
  | .inr (.inr ⟨a, vs, ds, e1, e2, h, t⟩) => by cases e2
theorem DatP.tup {K : PySem.W.Frag} {ds : List D} (e : Le F H) : DatP K F H v (.tuple ds) → ∃ a vs, v = .ref a ∧ SqT K H a vs ∧ Dats K F vs ds
  | .inl (.tup h t) => ⟨_, _, rfl, sqt_mono e h, t⟩
  | .inr (.inl ⟨a, vs, ds, e1, e2, h, t⟩) => by cases e2
  | .inr (.inr ⟨a, vs, ds, e1, e2, h, t⟩) => by cases e2
def isOpq : List (D × D) → Bool
  | [(.tuple [], .none)] => true
  | _ => false
theorem isOpq_kv (ks : List (Key × D)) : isOpq (ks.map fun p => (kD p.1, p.2)) = false := by
  cases ks with
  | nil => rfl
  | cons p r =>
    obtain ⟨k, x⟩ := p
    cases k <;> rfl
theorem DatP.dct {K : PySem.W.Frag} {ds : List (D × D)} (e : Le F H) (n : isOpq ds = false) : DatP K F H v (.dict ds) → ∃ a ks, v = .ref a ∧ Rd H a (.dK ks) ∧ Datp K F ks ds
  | .inl (.dct h t) => ⟨_, _, rfl, e _ _ h, t⟩
  | .inl (.dcT h) => by cases n
  | .inr (.inl ⟨a, vs, ds, e1, e2, h, t⟩) => by cases e2
  | .inr (.inr ⟨a, vs, ds, e1, e2, h, t⟩) => by cases e2; exact ⟨a, vs, e1, .inl h, t.datp⟩
theorem DatP.int {K : PySem.W.Frag} {i : Int} : DatP K F H v (.int i) → v = .int i
  | .inl (.int _) => rfl
  | .inr (.inl ⟨_, _, _, _, e2, _⟩) => by cases e2
  | .inr (.inr ⟨_, _, _, _, e2, _⟩) => by cases e2
theorem DatP.str {K : PySem.W.Frag} {i : Str} : DatP K F H v (.str i) → v = .str i
  | .inl (.str _) => rfl
  | .inr (.inl ⟨_, _, _, _, e2, _⟩) => by cases e2
  | .inr (.inr ⟨_, _, _, _, e2, _⟩) => by cases e2
theorem DatP.bl {K : PySem.W.Frag} {i : Bool} : DatP K F H v (.bool i) → v = .bl i
  | .inl (.bl _) => rfl
  | .inr (.inl ⟨_, _, _, _, e2, _⟩) => by cases e2
  | .inr (.inr ⟨_, _, _, _, e2, _⟩) => by cases e2
theorem DatP.non {K : PySem.W.Frag} : DatP K F H v .none → v = .non
  | .inl .non => rfl
  | .inr (.inl ⟨_, _, _, _, e2, _⟩) => by cases e2
  | .inr (.inr ⟨_, _, _, _, e2, _⟩) => by cases e2
theorem RV.get {x : D} (h : RV C F H σ Hs v r) (R : Rp C F H σ δ) (e : r.get δ = some x) : DatP C.K F H v x := by
  cases r with
  | d y => cases e; exact .inl h
  | b i =>
    have h : σ[i]? = some (some v) := h
    unfold Res.get at e
    cases q : δ[i]? with
    | none => simp [q] at e
    | some s =>
      have k := R.slot i _ s h q
      cases s with
      | u => simp [q] at e
      | d y =>
        simp [q] at e; subst e
        obtain ⟨w, e1, h1⟩ := k
        cases e1
        exact .inl h1
      | L n ys =>
        simp [q] at e; subst e
        obtain ⟨a, xs, e1, _, h1, _, h2⟩ := k
        cases e1
        exact .inr (.inl ⟨a, xs, ys, rfl, rfl, h1, h2⟩)
      | M n ys =>
        simp [q] at e; subst e
        obtain ⟨a, xs, e1, _, h1, _, h2⟩ := k
        cases e1
        exact .inr (.inr ⟨a, xs, ys, rfl, rfl, h1, h2⟩)
  | nL xs => cases e
  | nM xs => cases e

/-- the reading of a semantic function: RVa ties a value to what the function gives -/
def tX (C : DC) (W : XW) (RVa : Hp → Hp → Sg → Hp → β → α → Prop) (f : SEa α) (F H : Hp) (σ : Sg) (δ : List SV) (Q : β → Hp → Prop) : Prop :=
  Rp C F H σ δ ∧ match f δ with
    | none => False
    | some (.ok r δ') => ∀ v F' H', Stp F H σ δ F' H' δ' → Rp C F' H' σ δ' → RVa F' H' σ H v r → Q v H'
    | some (.ex e δ') => ∀ F' H' od, Stp F H σ δ F' H' δ' → Rp C F' H' σ δ' → XOk C F' H' e od → W (.ref e.cls) od σ H'
theorem tX.bind {RVa : Hp → Hp → Sg → Hp → β → α → Prop} {γ' : Type} {RVb : Hp → Hp → Sg → Hp → γ → γ' → Prop} {f : SEa α} {k : α → SEa γ'} {Q : γ → Hp → Prop}
    (hs : ∀ F H σ v r, RVb F H σ H1 v r → RVb F H σ H1 v r)
    (mb : ∀ (F H : Hp) (σ : Sg) (Hs Hs' : Hp) (v : γ) (r : γ'), (∀ p, Hs p = none → Hs' p = none) → RVb F H σ Hs v r → RVb F H σ Hs' v r)
    (h : tX C W RVb (bindE f k) F H σ δ Q) : tX C W RVa f F H σ δ (fun v H1 => ∃ F1 δ1 r, f δ = some (.ok r δ1) ∧ Stp F H σ δ F1 H1 δ1 ∧ RVa F1 H1 σ H v r ∧ tX C W RVb (k r) F1 H1 σ δ1 Q) := by
  obtain ⟨R, h⟩ := h
  refine ⟨R, ?_⟩
  unfold bindE at h
  cases q : f δ with
  | none => rw [q] at h; exact h
  | some o =>
    rw [q] at h
    cases o with
    | ex e δ' => exact h
    | ok r δ1 =>
      intro v F1 H1 S R1 V1
      refine ⟨F1, δ1, r, rfl, S, V1, R1, ?_⟩
      cases q2 : k r δ1 with
      | none => simp only [q2] at h
      | some o2 =>
        simp only [q2] at h
        cases o2 with
        | ok r2 δ2 => exact fun v2 F2 H2 S2 R2 V2 => h v2 F2 H2 (S.trans S2) R2 (mb _ _ _ _ _ _ _ (fun p np => by
            cases z : H p with
            | none => rfl
            | some o => exact absurd np (S.pers p (by rw [z]; simp))) V2)
        | ex e δ2 => exact fun F2 H2 od S2 R2 X2 => h F2 H2 od (S.trans S2) R2 X2
theorem tX.mono {RVa : Hp → Hp → Sg → Hp → β → α → Prop} {f : SEa α} {Q Q' : β → Hp → Prop} (h : tX C W RVa f F H σ δ Q) (k : ∀ v H, Q v H → Q' v H) : tX C W RVa f F H σ δ Q' := by
  obtain ⟨R, h⟩ := h
  refine ⟨R, ?_⟩
  cases q : f δ with
  | none => rw [q] at h; exact h
  | some o =>
    rw [q] at h
    cases o with
    | ok r δ1 => exact fun v F1 H1 S R1 V1 => k _ _ (h v F1 H1 S R1 V1)
    | ex e δ1 => exact h
/-- the end of a chain: the function is known -/
theorem tX.ok {RVa : Hp → Hp → Sg → Hp → β → α → Prop} {f : SEa α} {Q : β → Hp → Prop} {r : α} (h : tX C W RVa f F H σ δ Q) (e : f δ = some (.ok r δ')) :
    ∀ v F' H', Stp F H σ δ F' H' δ' → Rp C F' H' σ δ' → RVa F' H' σ H v r → Q v H' := by
  obtain ⟨_, h⟩ := h
  rw [e] at h
  exact h
theorem tX.some {RVa : Hp → Hp → Sg → Hp → β → α → Prop} {f : SEa α} {Q : β → Hp → Prop} (h : tX C W RVa f F H σ δ Q) : ∃ o, f δ = some o := by
  obtain ⟨_, h⟩ := h
  cases q : f δ with
  | none => rw [q] at h; exact h.elim
  | some o => exact ⟨o, rfl⟩
end
/-! ### values, tests, argument lists -/
def RB (C : DC) : Hp → Hp → Sg → Hp → Bool → Bool → Prop := fun _ _ _ _ v r => v = r
inductive RVs (C : DC) (F H : Hp) (σ : Sg) (Hs : Hp) : List V → List Res → Prop
  | nil : RVs C F H σ Hs [] []
  | cons {v : V} {r : Res} {vs : List V} {rs : List Res} : RV C F H σ Hs v r → r.isPk = true → RVs C F H σ Hs vs rs → RVs C F H σ Hs (v :: vs) (r :: rs)
abbrev RVl (C : DC) : Hp → Hp → Sg → Hp → V → Res → Prop := RV C
def tD (C : DC) (W : XW) (f : SE) : TE := fun σ H Q => ∃ F δ, tX C W (RVl C) f F H σ δ Q
def tT (C : DC) (W : XW) (f : SB) : TT := fun σ H Q => ∃ F δ, tX C W (RB C) f F H σ δ Q
def tAr (C : DC) (W : XW) (f : SA) : TA := fun σ H Q => ∃ F δ, tX C W (RVs C) f F H σ δ Q
def DE (X : Cx) (C : DC) (W : XW) (e : Expr) (f : SE) : Prop := PE X e (tD C W f)
def DT (X : Cx) (C : DC) (W : XW) (e : Expr) (f : SB) : Prop := PT X e (tT C W f)
def DW (X : Cx) (C : DC) (W : XW) (e : Expr) (f : SB) : Prop := PW X e (tT C W f)
def DA (X : Cx) (C : DC) (W : XW) (es : List Expr) (f : SA) : Prop := PA X es (tAr C W f)
theorem pe_mono {X : Cx} {e : Expr} {t t' : TE} (h : PE X e t) (k : ∀ σ H Q, t' σ H Q → t σ H Q) : PE X e t' := ⟨fun pins s σ H Q I q => h.run pins s σ H Q I (k σ H Q q)⟩
theorem pt_mono {X : Cx} {e : Expr} {t t' : TT} (h : PT X e t) (k : ∀ σ H Q, t' σ H Q → t σ H Q) : PT X e t' := ⟨fun pins s σ H Q I q => h.run pins s σ H Q I (k σ H Q q)⟩
theorem pw_mono {X : Cx} {e : Expr} {t t' : TT} (h : PW X e t) (k : ∀ σ H Q, t' σ H Q → t σ H Q) : PW X e t' := ⟨fun wh pins s σ H Q I q => h.run wh pins s σ H Q I (k σ H Q q)⟩
theorem pa_mono {X : Cx} {e : List Expr} {t t' : TA} (h : PA X e t) (k : ∀ σ H Q, t' σ H Q → t σ H Q) : PA X e t' := ⟨fun pos pins s σ H Q I q => h.run pos pins s σ H Q I (k σ H Q q)⟩
theorem ps_mono {X : Cx} {e : Stmt} {t t' : TS} (h : PS X e t) (k : ∀ D σ H, t' D σ H → t D σ H) : PS X e t' := ⟨fun pins s σ H D I q => h.run pins s σ H D I (k D σ H q)⟩
theorem pss_mono {X : Cx} {e : List Stmt} {t t' : TS} (h : PSs X e t) (k : ∀ D σ H, t' D σ H → t D σ H) : PSs X e t' := ⟨fun pins s σ H D I q => h.run pins s σ H D I (k D σ H q)⟩
section
variable {X : Cx} {C : DC} {W : XW} {a b e : Expr} {fa fb f : SE} {pos : Pos}
theorem RV.hs' {F H : Hp} {σ : Sg} {Hs Hs' : Hp} {v : V} {r : Res} (k : ∀ p, Hs p = none → Hs' p = none) (h : RVl C F H σ Hs v r) : RVl C F H σ Hs' v r := RV.hs h k
/-- a bind, read from the left (values) -/
theorem bindV {α γ : Type} {F H : Hp} {σ : Sg} {δ : List SV} {RVb : Hp → Hp → Sg → Hp → γ → α → Prop} {k : Res → SEa α} {Q : γ → Hp → Prop}
    (mb : ∀ (F H : Hp) (σ : Sg) (Hs Hs' : Hp) (v : γ) (r : α), (∀ p, Hs p = none → Hs' p = none) → RVb F H σ Hs v r → RVb F H σ Hs' v r)
    (h : tX C W RVb (bindE f k) F H σ δ Q) {Q' : V → Hp → Prop}
    (c : ∀ v F1 H1 δ1 r, f δ = some (.ok r δ1) → Stp F H σ δ F1 H1 δ1 → Rp C F1 H1 σ δ1 → RV C F1 H1 σ H v r → tX C W RVb (k r) F1 H1 σ δ1 Q → Q' v H1) : tD C W f σ H Q' :=
  ⟨F, δ, (tX.bind (RVa := RVl C) (H1 := H) (fun _ _ _ _ _ z => z) mb h).mono fun v H1 ⟨F1, δ1, r, q1, q2, q3, q4⟩ => c v F1 H1 δ1 r q1 q2 q4.1 q3 q4⟩
theorem bindT {α γ : Type} {F H : Hp} {σ : Sg} {δ : List SV} {RVb : Hp → Hp → Sg → Hp → γ → α → Prop} {g : SB} {k : Bool → SEa α} {Q : γ → Hp → Prop}
    (mb : ∀ (F H : Hp) (σ : Sg) (Hs Hs' : Hp) (v : γ) (r : α), (∀ p, Hs p = none → Hs' p = none) → RVb F H σ Hs v r → RVb F H σ Hs' v r)
    (h : tX C W RVb (bindE g k) F H σ δ Q) {Q' : Bool → Hp → Prop}
    (c : ∀ v F1 H1 δ1, g δ = some (.ok v δ1) → Stp F H σ δ F1 H1 δ1 → Rp C F1 H1 σ δ1 → tX C W RVb (k v) F1 H1 σ δ1 Q → Q' v H1) : tT C W g σ H Q' :=
  ⟨F, δ, (tX.bind (RVa := RB C) (H1 := H) (fun _ _ _ _ _ z => z) mb h).mono fun v H1 ⟨F1, δ1, r, q1, q2, q3, q4⟩ => by
    have q3 : v = r := q3
    subst q3
    exact c v F1 H1 δ1 q1 q2 q4.1 q4⟩
theorem bindA {α γ : Type} {F H : Hp} {σ : Sg} {δ : List SV} {RVb : Hp → Hp → Sg → Hp → γ → α → Prop} {g : SA} {k : List Res → SEa α} {Q : γ → Hp → Prop}
    (mb : ∀ (F H : Hp) (σ : Sg) (Hs Hs' : Hp) (v : γ) (r : α), (∀ p, Hs p = none → Hs' p = none) → RVb F H σ Hs v r → RVb F H σ Hs' v r)
    (h : tX C W RVb (bindE g k) F H σ δ Q) {Q' : List V → Hp → Prop}
    (c : ∀ v F1 H1 δ1 r, g δ = some (.ok r δ1) → Stp F H σ δ F1 H1 δ1 → Rp C F1 H1 σ δ1 → RVs C F1 H1 σ H v r → tX C W RVb (k r) F1 H1 σ δ1 Q → Q' v H1) : tAr C W g σ H Q' :=
  ⟨F, δ, (tX.bind (RVa := RVs C) (H1 := H) (fun _ _ _ _ _ z => z) mb h).mono fun v H1 ⟨F1, δ1, r, q1, q2, q3, q4⟩ => c v F1 H1 δ1 r q1 q2 q4.1 q3 q4⟩
theorem mbV (F H : Hp) (σ : Sg) (Hs Hs' : Hp) (v : V) (r : Res) (k : ∀ p, Hs p = none → Hs' p = none) (h : RVl C F H σ Hs v r) : RVl C F H σ Hs' v r := RV.hs h k
theorem mbB (F H : Hp) (σ : Sg) (Hs Hs' : Hp) (v : Bool) (r : Bool) (_ : ∀ p, Hs p = none → Hs' p = none) (h : RB C F H σ Hs v r) : RB C F H σ Hs' v r := h
theorem RVs.hs {F H : Hp} {σ : Sg} {Hs Hs' : Hp} (k : ∀ p, Hs p = none → Hs' p = none) : ∀ {v : List V} {r : List Res}, RVs C F H σ Hs v r → RVs C F H σ Hs' v r
  | _, _, .nil => .nil
  | _, _, .cons h p t => .cons (h.hs k) p (RVs.hs k t)
theorem mbA (F H : Hp) (σ : Sg) (Hs Hs' : Hp) (v : List V) (r : List Res) (k : ∀ p, Hs p = none → Hs' p = none) (h : RVs C F H σ Hs v r) : RVs C F H σ Hs' v r := h.hs k
theorem RVs.after {F H F' H' Hs Hs' : Hp} {σ : Sg} {δ δ' : List SV} (S : Stp F H σ δ F' H' δ') : ∀ {v : List V} {r : List Res}, RVs C F H σ Hs v r → RVs C F' H' σ Hs' v r
  | _, _, .nil => .nil
  | _, _, .cons h p t => .cons (h.after p S) p (RVs.after S t)

/-! ### escape (data that is told on), peek (data that is looked at) -/
def esc : Res → SE
  | .d x => pureE (.d x)
  | .nL xs => pureE (.d (.list xs))
  | .nM ks => pureE (.d (.dict (kvD ks)))
  | .b i => fun δ => match δ[i]? with
    | some (.d x) => some (.ok (.d x) δ)
    | some (.L _ xs) => some (.ok (.d (.list xs)) (δ.set i (.d (.list xs))))
    | some (.M _ ks) => some (.ok (.d (.dict (kvD ks))) (δ.set i (.d (.dict (kvD ks)))))
    | _ => none
def escE (f : SE) : SE := bindE f esc
def pk : Res → SE
  | .b i => pureE (.b i)
  | .d x => pureE (.d x)
  | .nL xs => pureE (.d (.list xs))
  | .nM ks => pureE (.d (.dict (kvD ks)))
def pkE (f : SE) : SE := bindE f pk
theorem new_frozen {F H Hs F1 : Hp} {σ : Sg} {δ δ1 : List SV} {p : Addr} {o : HO} (R : Rp C F Hs σ δ) (S : Stp F Hs σ δ F1 H δ1) (R1 : Rp C F1 H σ δ1) (hp : H p = some o) (hf : F1 p = none) (hs : Hs p = none) :
    Stp F Hs σ δ (upd F1 p o) H δ1 ∧ Rp C (upd F1 p o) H σ δ1 := by
  have no : ¬ OwnedAt σ δ1 p := fun z => R.fresh_own hs (S.owned z)
  refine ⟨⟨S.ext.trans (le_upd hf), fun a u h n => ?_, S.pers, S.own⟩, R1.freeze hp hf no (R.fresh0 hs)⟩
  obtain ⟨h1, f1⟩ := S.frm a u h n
  refine ⟨h1, fun z => ?_⟩
  have : a ≠ p := fun q => by rw [q, hs] at h; cases h
  rw [upd_ne this]; exact f1 z
theorem frz_lst {F H : Hp} {p : Addr} {vs : List V} {xs : List D} (hf : F p = none) (h : Dats C.K F vs xs) : Dat C.K (upd F p (.lst vs)) (.ref p) (.list xs) :=
  .lst (SqL.of upd_same) (h.mono (le_upd hf))
theorem frz_dct {F H : Hp} {p : Addr} {vs : List (Key × V)} {xs : List (Key × D)} (hf : F p = none) (h : DKs C.K F vs xs) : Dat C.K (upd F p (.dK vs)) (.ref p) (.dict (kvD xs)) :=
  .dct (.inl upd_same) ((h.mono (le_upd hf)).datp)
/-- behind an escape: from what the expression gives to what is told on -/
theorem esc_back {F H F1 H1 : Hp} {σ : Sg} {δ δ1 : List SV} {v : V} {r : Res} {Q : V → Hp → Prop} (R : Rp C F H σ δ) (S : Stp F H σ δ F1 H1 δ1) (R1 : Rp C F1 H1 σ δ1) (V1 : RV C F1 H1 σ H v r)
    (h : match esc r δ1 with
      | none => False
      | some (.ok r δ') => ∀ v F' H', Stp F H σ δ F' H' δ' → Rp C F' H' σ δ' → RVl C F' H' σ H v r → Q v H'
      | some (.ex e δ') => True) : Q v H1 := by
  cases r with
  | d x => exact h v F1 H1 S R1 V1
  | nL xs =>
    obtain ⟨p, vs, rfl, hp, hf, hd, hs⟩ := V1
    obtain ⟨S2, R2⟩ := new_frozen R S R1 hp hf hs
    exact h _ _ _ S2 R2 (frz_lst (H := H) hf hd)
  | nM xs =>
    obtain ⟨p, vs, rfl, hp, hf, hd, hs⟩ := V1
    obtain ⟨S2, R2⟩ := new_frozen R S R1 hp hf hs
    exact h _ _ _ S2 R2 (frz_dct (H := H) hf hd)
  | b i =>
    have V1 : σ[i]? = some (some v) := V1
    cases q : δ1[i]? with
    | none => simp [esc, q] at h
    | some s =>
      have k := R1.slot i _ s V1 q
      cases s with
      | u => simp [esc, q] at h
      | d x =>
        simp only [esc, q] at h
        obtain ⟨w, e1, h1⟩ := k
        cases e1
        exact h v F1 H1 S R1 h1
      | L n xs =>
        simp only [esc, q] at h
        obtain ⟨a, vs, e1, _, h1, h2, h3⟩ := k
        cases e1
        obtain ⟨S2, R2⟩ := R1.freezeS q rfl V1 h1 (frz_lst (H := H) h2 h3)
        exact h _ _ _ (S.trans S2) R2 (frz_lst (H := H) h2 h3)
      | M n xs =>
        simp only [esc, q] at h
        obtain ⟨a, vs, e1, _, h1, h2, h3⟩ := k
        cases e1
        obtain ⟨S2, R2⟩ := R1.freezeS q rfl V1 h1 (frz_dct (H := H) h2 h3)
        exact h _ _ _ (S.trans S2) R2 (frz_dct (H := H) h2 h3)
theorem de_esc (h : DE X C W e f) : DE X C W e (escE f) := by
  refine pe_mono h fun σ H Q ⟨F, δ, R, z⟩ => ⟨F, δ, R, ?_⟩
  unfold escE bindE at z
  cases q : f δ with
  | none => rw [q] at z; exact z
  | some o =>
    rw [q] at z
    cases o with
    | ex e δ' => exact z
    | ok r δ1 =>
      intro v F1 H1 S R1 V1
      refine esc_back (Q := Q) R S R1 V1 ?_
      cases q2 : esc r δ1 with
      | none => simp only [q2] at z
      | some o2 =>
        simp only [q2] at z
        cases o2 with
        | ok r2 δ2 => exact z
        | ex e2 δ2 => trivial
theorem de_pk (h : DE X C W e f) : DE X C W e (pkE f) := by
  refine pe_mono h fun σ H Q ⟨F, δ, R, z⟩ => ⟨F, δ, R, ?_⟩
  unfold pkE bindE at z
  cases q : f δ with
  | none => rw [q] at z; exact z
  | some o =>
    rw [q] at z
    cases o with
    | ex e δ' => exact z
    | ok r δ1 =>
      intro v F1 H1 S R1 V1
      cases r with
      | d x => exact z v F1 H1 S R1 V1
      | b i => exact z v F1 H1 S R1 V1
      | nL xs =>
        obtain ⟨p, vs, rfl, hp, hf, hd, hs⟩ := V1
        obtain ⟨S2, R2⟩ := new_frozen R S R1 hp hf hs
        exact z _ _ _ S2 R2 (frz_lst (H := H) hf hd)
      | nM xs =>
        obtain ⟨p, vs, rfl, hp, hf, hd, hs⟩ := V1
        obtain ⟨S2, R2⟩ := new_frozen R S R1 hp hf hs
        exact z _ _ _ S2 R2 (frz_dct (H := H) hf hd)
theorem pk_isPk {δ δ1 : List SV} {r : Res} (h : pkE f δ = some (.ok r δ1)) : r.isPk = true := by
  unfold pkE bindE at h
  cases q : f δ with
  | none => rw [q] at h; cases h
  | some o =>
    rw [q] at h
    cases o with
    | ex e δ' => cases h
    | ok r0 δ0 => cases r0 <;> (simp only [pk, pureE, Option.some.injEq, ER.ok.injEq] at h; obtain ⟨rfl, _⟩ := h; rfl)
theorem esc_isD {δ δ1 : List SV} {r : Res} (h : escE f δ = some (.ok r δ1)) : ∃ x, r = .d x := by
  unfold escE bindE at h
  cases q : f δ with
  | none => rw [q] at h; cases h
  | some o =>
    rw [q] at h
    cases o with
    | ex e δ' => cases h
    | ok r0 δ0 =>
      cases r0 with
      | d x => simp only [esc, pureE, Option.some.injEq, ER.ok.injEq] at h; exact ⟨_, h.1.symm⟩
      | nL x => simp only [esc, pureE, Option.some.injEq, ER.ok.injEq] at h; exact ⟨_, h.1.symm⟩
      | nM x => simp only [esc, pureE, Option.some.injEq, ER.ok.injEq] at h; exact ⟨_, h.1.symm⟩
      | b i =>
        simp only [esc] at h
        split at h <;> first | (simp only [Option.some.injEq, ER.ok.injEq] at h; exact ⟨_, h.1.symm⟩) | cases h
end
end DL

namespace DL
open PySem PySem.Spec PyProof.Rows L2
section
variable {X : Cx} {C : DC} {W : XW} {a b e : Expr} {fa fb f : SE} {pos : Pos} {F H F' H' : Hp} {σ : Sg} {δ δ' : List SV}
/-! ### names, constants -/
def varE (i : Nat) : SE := fun δ => match δ[i]? with
  | some (.d x) => some (.ok (.d x) δ)
  | some (.L _ _) => some (.ok (.b i) δ)
  | some (.M _ _) => some (.ok (.b i) δ)
  | _ => none
def conE (x : D) : SE := pureE (.d x)
theorem tX.use {α β : Type} {RVa : Hp → Hp → Sg → Hp → β → α → Prop} {f : SEa α} {Q : β → Hp → Prop} (h : tX C W RVa f F H σ δ Q) {r : α} (e : f δ = Option.some (ER.ok r δ')) (S : Stp F H σ δ F' H' δ') (R : Rp C F' H' σ δ') {v : β} (V : RVa F' H' σ H v r) : Q v H' := h.ok e v F' H' S R V
theorem de_var {i : Nat} {x : Str} (hN : X.N[i]? = some x) (hv : Vis X.env.scope x) (hd : (x == ("__debug__" : Str)) = false := by decide) (hcd : (x == ("__classdict__" : Str)) = false := by decide) : DE X C W (.Name x pos) (varE i) := by
  refine pe_mono (pe_var hN hv hd hcd) fun σ H Q ⟨F, δ, h⟩ => ?_
  have R := h.1
  obtain ⟨o, ho⟩ := h.some
  have ho' := ho
  unfold varE at ho
  cases q : δ[i]? with
  | none => simp [q] at ho
  | some s =>
    have hi : i < σ.length := by
      have h1 := (List.getElem?_eq_some_iff.mp q).1
      have h2 := R.len
      omega
    have hx : σ[i]? = some σ[i] := List.getElem?_eq_getElem hi
    have k := R.slot i _ s hx q
    cases s with
    | u => simp [q] at ho
    | d y =>
      simp [q] at ho; subst ho
      obtain ⟨v, e1, h1⟩ := k
      exact ⟨v, by rw [hx, e1], h.use ho' Stp.refl R h1⟩
    | L n ys =>
      simp [q] at ho; subst ho
      obtain ⟨p, vs, e1, _⟩ := k
      exact ⟨_, by rw [hx, e1], h.use ho' Stp.refl R (show RV C F H σ H _ (.b i) from by rw [e1] at hx; exact hx)⟩
    | M n ys =>
      simp [q] at ho; subst ho
      obtain ⟨p, vs, e1, _⟩ := k
      exact ⟨_, by rw [hx, e1], h.use ho' Stp.refl R (show RV C F H σ H _ (.b i) from by rw [e1] at hx; exact hx)⟩
theorem de_tC {v : V} {x : D} (h : PE X e (tC v)) (d : ∀ F, Dat C.K F v x) : DE X C W e (conE x) :=
  pe_mono h fun σ H Q ⟨F, δ, h⟩ => h.use (δ' := δ) rfl Stp.refl h.1 (d F)
theorem de_int {i : Int} {j pos} : DE X C W (.Constant (.int i) j pos) (conE (.int i)) := de_tC pe_int fun _ => .int i
theorem de_bl {i : Bool} {j pos} : DE X C W (.Constant (.bool i) j pos) (conE (.bool i)) := de_tC pe_bl fun _ => .bl i
theorem de_non {j pos} : DE X C W (.Constant .none j pos) (conE .none) := de_tC pe_non fun _ => .non
theorem de_str {i : Str} {j pos} : DE X C W (.Constant (.str i) j pos) (conE (.str i)) := de_tC pe_str fun _ => .str i
/-! ### two operands -/
def op2E (g : D → D → Option Res) (fa fb : SE) : SE := bindE (pkE fa) fun ra => bindE (pkE fb) fun rb => fun δ =>
  match ra.get δ, rb.get δ with
  | some x, some y => (g x y).map fun r => .ok r δ
  | _, _ => none
/-- what an operator gives of data -/
def OpD (C : DC) (r : R2) (g : D → D → Option Res) : Prop := ∀ (F H : Hp) (σ : Sg) (δ : List SV) (v w : V) (x y : D) (res : Res) (Q : VK), Rp C F H σ δ → DatP C.K F H v x → DatP C.K F H w y → g x y = some res →
  (∀ u F' H', Stp F H σ δ F' H' δ → Rp C F' H' σ δ → RV C F' H' σ H u res → Q u H') → r v w H Q
theorem op2_read {r : R2} {g : D → D → Option Res} (hg : OpD C r g) {Q : VK} (h : tD C W (op2E g fa fb) σ H Q) : tOp r (tD C W (pkE fa)) (tD C W (pkE fb)) σ H Q := by
  obtain ⟨F, δ, h⟩ := h
  refine bindV (mbV) h fun v F1 H1 δ1 r1 e1 S1 R1 V1 h1 => ?_
  refine bindV (mbV) h1 fun w F2 H2 δ2 r2 e2 S2 R2 V2 h2 => ?_
  obtain ⟨o, ho⟩ := h2.some
  have ho' := ho
  cases q1 : r1.get δ2 with
  | none => simp only [q1] at ho; cases ho
  | some x =>
    cases q2 : r2.get δ2 with
    | none => simp only [q1, q2] at ho; cases ho
    | some y =>
      simp only [q1, q2] at ho
      cases q3 : g x y with
      | none => rw [q3] at ho; cases ho
      | some res =>
        rw [q3] at ho
        have ho : some (ER.ok res δ2) = some o := ho
        cases ho
        exact hg F2 H2 σ δ2 v w x y res Q R2 ((V1.after (Hs' := H) (pk_isPk e1) S2).get R2 q1) (V2.get R2 q2) q3 fun u F' H' S R V => h2.use ho' S R V
theorem de_op {op : Operator} {r : R2} {g : D → D → Option Res} (ho : OpR X (binaryOp op) r) (hg : OpD C r g) (ha : DE X C W a fa) (hb : DE X C W b fb) : DE X C W (.BinOp a op b pos) (op2E g fa fb) :=
  pe_mono (pe_op ho (de_pk ha) (de_pk hb)) fun σ H Q h => op2_read hg h
theorem de_cmp {op : CmpOp} {r : R2} {g : D → D → Option Res} (ho : OpR X (compareOp op) r) (hg : OpD C r g) (ha : DE X C W a fa) (hb : DE X C W b fb) (hm : behindInMarks op b = false) : DE X C W (.Compare a [op] [b] pos) (op2E g fa fb) :=
  pe_mono (pe_cmpR ho (de_pk ha) (de_pk hb) hm) fun σ H Q h => op2_read hg h
theorem de_ix {r : R2} {g : D → D → Option Res} (ho : IxR X r) (hg : OpD C r g) (ha : DE X C W a fa) (hb : DE X C W b fb) (hs : PlainIx b) : DE X C W (.Subscript a b pos) (op2E g fa fb) :=
  pe_mono (pe_ix ho (de_pk ha) (de_pk hb) hs) fun σ H Q h => op2_read hg h
/-! values as tests -/
def toB (f : SE) : SB := bindE f fun r => fun δ => match r with
  | .d (.bool b) => some (.ok b δ)
  | _ => none
theorem toB_read {f : SE} {Q : Bool → Hp → Prop} (h : tT C W (toB f) σ H Q) : tD C W f σ H fun x H' => ∃ k, x = .bl k ∧ Q k H' := by
  obtain ⟨F, δ, h⟩ := h
  refine bindV (RVb := RB C) (mbB) h fun v F1 H1 δ1 r1 e1 S1 R1 V1 h1 => ?_
  obtain ⟨o, ho⟩ := h1.some
  have ho' := ho
  cases r1 with
  | d x =>
    cases x with
    | bool k =>
      cases ho
      cases V1
      exact ⟨k, rfl, h1.use ho' Stp.refl R1 rfl⟩
    | _ => cases ho
  | _ => cases ho
theorem dt_cmp {op : CmpOp} {r : R2} {g : D → D → Option Res} (ho : OpR X (compareOp op) r) (hg : OpD C r g) (ha : DE X C W a fa) (hb : DE X C W b fb) (hm : behindInMarks op b = false) : DT X C W (.Compare a [op] [b] pos) (toB (op2E g fa fb)) :=
  pt_mono (pt_cmpR ho (de_pk ha) (de_pk hb) hm) fun σ H Q h => op2_read hg (toB_read h)
theorem dt_val (h : DE X C W e f) (he : ∀ whole, isTrue e X.env whole = (do let v ← whole; standAt e.pos; holding [v] (truthy v)) := by intro _; rfl) : DT X C W e (toB f) :=
  pt_mono (pt_val h he) fun σ H Q h => toB_read h
/-! and, or, not, if else -/
def andB (f g : SB) : SB := bindE f fun k => if k = true then g else pureE false
def orB (f g : SB) : SB := bindE f fun k => if k = true then pureE true else g
def notB (f : SB) : SB := bindE f fun k => pureE (!k)
def ofB (f : SB) : SE := bindE f fun k => pureE (.d (.bool k))
def ifE (c : SB) (f g : SE) : SE := bindE c fun k => if k = true then f else g
theorem dw_and1 {g : SB} (h : DT X C W a g) : DW X C W (.BoolOp .And [a] pos) g := pw_and1 h
theorem dw_or1 {g : SB} (h : DT X C W a g) : DW X C W (.BoolOp .Or [a] pos) g := pw_or1 h
theorem DW.dt {g : SB} (h : DW X C W e g) : DT X C W e g := PW.pt h
theorem tT_mk {g : SB} {Q : Bool → Hp → Prop} (h : tX C W (RB C) g F H σ δ Q) : tT C W g σ H Q := ⟨F, δ, h⟩
theorem dw_and {g k : SB} {rest : List Expr} (ha : DT X C W a g) (hb : DW X C W (.BoolOp .And (b :: rest) pos) k) : DW X C W (.BoolOp .And (a :: b :: rest) pos) (andB g k) := by
  refine pw_mono (pw_and ha hb) fun σ H Q ⟨F, δ, h⟩ => ?_
  refine bindT (RVb := RB C) (mbB) h fun c F1 H1 δ1 e1 S1 R1 h1 => ?_
  cases c with
  | true => exact ⟨F1, δ1, h1⟩
  | false => exact h1.use (δ' := δ1) rfl Stp.refl R1 rfl
theorem dw_or {g k : SB} {rest : List Expr} (ha : DT X C W a g) (hb : DW X C W (.BoolOp .Or (b :: rest) pos) k) : DW X C W (.BoolOp .Or (a :: b :: rest) pos) (orB g k) := by
  refine pw_mono (pw_or ha hb) fun σ H Q ⟨F, δ, h⟩ => ?_
  refine bindT (RVb := RB C) (mbB) h fun c F1 H1 δ1 e1 S1 R1 h1 => ?_
  cases c with
  | false => exact ⟨F1, δ1, h1⟩
  | true => exact h1.use (δ' := δ1) rfl Stp.refl R1 rfl
theorem dt_not {g : SB} (ha : DT X C W a g) : DT X C W (.UnaryOp .Not a pos) (notB g) := by
  refine pt_mono (pt_not ha) fun σ H Q ⟨F, δ, h⟩ => ?_
  refine bindT (RVb := RB C) (mbB) h fun c F1 H1 δ1 e1 S1 R1 h1 => ?_
  exact h1.use (δ' := δ1) rfl Stp.refl R1 rfl
def andV (f g : SE) : SE := bindE (toB f) fun k => if k = true then g else pureE (.d (.bool false))
def orV (f g : SE) : SE := bindE (toB f) fun k => if k = true then pureE (.d (.bool true)) else g
def notV (f : SE) : SE := ofB (notB (toB f))
theorem toB_bind {α γ : Type} {RVb : Hp → Hp → Sg → Hp → γ → α → Prop} {k : Bool → SEa α} {Q : γ → Hp → Prop} {f : SE}
    (mb : ∀ (F H : Hp) (σ : Sg) (Hs Hs' : Hp) (v : γ) (r : α), (∀ p, Hs p = none → Hs' p = none) → RVb F H σ Hs v r → RVb F H σ Hs' v r)
    (h : tX C W RVb (bindE (toB f) k) F H σ δ Q) {Q' : Bool → Hp → Prop}
    (c : ∀ v F1 H1 δ1, Stp F H σ δ F1 H1 δ1 → Rp C F1 H1 σ δ1 → tX C W RVb (k v) F1 H1 σ δ1 Q → Q' v H1) : tD C W f σ H fun x H1 => ∃ c, x = .bl c ∧ Q' c H1 :=
  toB_read (bindT mb h fun v F1 H1 δ1 _ S R h => c v F1 H1 δ1 S R h)
theorem de_one {op} (h : DE X C W a fa) : DE X C W (.BoolOp op [a] pos) fa := pe_one h
theorem de_and {rest : List Expr} (ha : DE X C W a fa) (hb : DE X C W (.BoolOp .And (b :: rest) pos) fb) : DE X C W (.BoolOp .And (a :: b :: rest) pos) (andV fa fb) := by
  refine pe_mono (pe_and ha hb) fun σ H Q ⟨F, δ, h⟩ => ?_
  refine toB_bind (RVb := RVl C) (mbV) h fun c F1 H1 δ1 S1 R1 h1 => ?_
  cases c with
  | true => exact ⟨F1, δ1, h1⟩
  | false => exact h1.use (δ' := δ1) rfl Stp.refl R1 (Dat.bl false)
theorem de_or {rest : List Expr} (ha : DE X C W a fa) (hb : DE X C W (.BoolOp .Or (b :: rest) pos) fb) : DE X C W (.BoolOp .Or (a :: b :: rest) pos) (orV fa fb) := by
  refine pe_mono (pe_or ha hb) fun σ H Q ⟨F, δ, h⟩ => ?_
  refine toB_bind (RVb := RVl C) (mbV) h fun c F1 H1 δ1 S1 R1 h1 => ?_
  cases c with
  | false => exact ⟨F1, δ1, h1⟩
  | true => exact h1.use (δ' := δ1) rfl Stp.refl R1 (Dat.bl true)
theorem de_not (ha : DE X C W a fa) : DE X C W (.UnaryOp .Not a pos) (notV fa) := by
  refine pe_mono (pe_not ha) fun σ H Q ⟨F, δ, h⟩ => ?_
  have h' : tD C W (notV fa) σ H Q := ⟨F, δ, h⟩
  refine toB_read ?_
  obtain ⟨R, z⟩ := h
  refine ⟨F, δ, R, ?_⟩
  unfold notV ofB notB bindE at z
  cases q : toB fa δ with
  | none => rw [q] at z; exact z
  | some o =>
    rw [q] at z
    cases o with
    | ex e δ' => exact z
    | ok k δ1 =>
      intro v F1 H1 S1 R1 V1
      have V1 : v = k := V1
      subst V1
      exact z _ F1 H1 S1 R1 (Dat.bl (!v))
theorem de_if {c : Expr} {g : SB} (hc : DT X C W c g) (ha : DE X C W a fa) (hb : DE X C W b fb) : DE X C W (.IfExp c a b pos) (ifE g fa fb) := by
  refine pe_mono (pe_ifExp hc ha hb) fun σ H Q ⟨F, δ, h⟩ => ?_
  refine bindT (RVb := RVl C) (mbV) h fun c F1 H1 δ1 e1 S1 R1 h1 => ?_
  cases c with
  | true => exact ⟨F1, δ1, h1⟩
  | false => exact ⟨F1, δ1, h1⟩
/-! ### argument lists, displays -/
def nilA : SA := pureE []
def consA (f : SE) (g : SA) : SA := bindE f fun r => bindE g fun rs => pureE (r :: rs)
theorem da_nil : DA X C W [] nilA := pa_mono pa_nil fun σ H Q ⟨F, δ, h⟩ => h.use (δ' := δ) rfl Stp.refl h.1 .nil
theorem da_cons {es : List Expr} {g : SA} (hp : ∀ δ r δ', f δ = some (.ok r δ') → r.isPk = true) (ha : DE X C W e f) (hr : DA X C W es g) (hs : starEach (e :: es) X.env = (false, eval e X.env) :: starEach es X.env := by rfl) : DA X C W (e :: es) (consA f g) := by
  refine pa_mono (pa_cons ha hr hs) fun σ H Q ⟨F, δ, h⟩ => ?_
  refine bindV (RVb := RVs C) (mbA) h fun v F1 H1 δ1 r1 e1 S1 R1 V1 h1 => ?_
  refine bindA (RVb := RVs C) (mbA) h1 fun vs F2 H2 δ2 rs e2 S2 R2 V2 h2 => ?_
  exact h2.use (δ' := δ2) rfl Stp.refl R2 (.cons (V1.after (hp _ _ _ e1) S2) (hp _ _ _ e1) (V2.after (Stp.refl (δ := δ2))))
theorem esc_pk {g : SE} {δ : List SV} {r : Res} {δ' : List SV} (h : escE g δ = some (.ok r δ')) : r.isPk = true := by
  obtain ⟨x, rfl⟩ := esc_isD h
  rfl
/-- an argument that is told on; one that is looked at -/
theorem da_e {es : List Expr} {g : SA} (ha : DE X C W e f) (hr : DA X C W es g) (hs : starEach (e :: es) X.env = (false, eval e X.env) :: starEach es X.env := by rfl) : DA X C W (e :: es) (consA (escE f) g) := da_cons (fun _ _ _ => esc_pk) (de_esc ha) hr hs
theorem da_p {es : List Expr} {g : SA} (ha : DE X C W e f) (hr : DA X C W es g) (hs : starEach (e :: es) X.env = (false, eval e X.env) :: starEach es X.env := by rfl) : DA X C W (e :: es) (consA (pkE f) g) := da_cons (fun _ _ _ => pk_isPk) (de_pk ha) hr hs
def gets (rs : List Res) (δ : List SV) : Option (List D) := rs.mapM fun r => r.get δ
inductive DatPs (K : PySem.W.Frag) (F H : Hp) : List V → List D → Prop
  | nil : DatPs K F H [] []
  | cons {v : V} {vs : List V} {d : D} {ds : List D} : DatP K F H v d → DatPs K F H vs ds → DatPs K F H (v :: vs) (d :: ds)
theorem RVs.gets {Hs : Hp} : ∀ {rs : List Res} {xs : List D} {vs : List V}, RVs C F H σ Hs vs rs → Rp C F H σ δ → DL.gets rs δ = some xs → DatPs C.K F H vs xs
  | [], xs, _, .nil, R, e => by
    simp [DL.gets] at e; subst e; exact .nil
  | r :: rs, xs, _, .cons h p t, R, e => by
    unfold DL.gets at e
    rw [List.mapM_cons] at e
    cases q : r.get δ with
    | none => simp [q] at e
    | some x =>
      cases q2 : List.mapM (fun r => Res.get r δ) rs with
      | none => simp [q, q2] at e
      | some ys =>
        simp [q, q2] at e; subst e
        exact .cons (h.get R q) (RVs.gets t R q2)
/-- all of them data -/
def datas (rs : List Res) : Option (List D) := rs.mapM fun r => match r with
  | .d x => some x
  | _ => none
theorem RVs.datas {Hs : Hp} : ∀ {rs : List Res} {xs : List D} {vs : List V}, RVs C F H σ Hs vs rs → DL.datas rs = some xs → Dats C.K F vs xs
  | [], xs, _, .nil, e => by
    simp [DL.datas] at e; subst e; exact .nil
  | r :: rs, xs, _, .cons h p t, e => by
    unfold DL.datas at e
    rw [List.mapM_cons] at e
    cases r with
    | d x =>
      cases q2 : List.mapM (fun r : Res => (match r with | .d x => some x | _ => none : Option D)) rs with
      | none => simp [q2] at e
      | some ys =>
        simp [q2] at e; subst e
        exact .cons h (RVs.datas t q2)
    | _ => simp at e
def tupE (g : SA) : SE := bindE g fun rs => fun δ => match datas rs with
  | some xs => if xs.length ≤ sizeLine then some (.ok (.d (.tuple xs)) δ) else none
  | none => none
def lstE (g : SA) : SE := bindE g fun rs => fun δ => match datas rs with
  | some xs => if xs.length ≤ sizeLine then some (.ok (.nL xs) δ) else none
  | none => none
theorem de_tup {es : List Expr} {g : SA} {x1} (ha : DA X C W es g) : DE X C W (.Tuple es x1 pos) (tupE g) := by
  refine pe_mono (pe_tup ha) fun σ H Q ⟨F, δ, h⟩ => ?_
  refine bindA (RVb := RVl C) (mbV) h fun vs F1 H1 δ1 rs e1 S1 R1 V1 h1 => ?_
  obtain ⟨o, ho⟩ := h1.some
  have ho' := ho
  cases q : datas rs with
  | none => simp only [q] at ho; cases ho
  | some xs =>
    simp only [q] at ho
    by_cases hl : xs.length ≤ sizeLine
    · rw [if_pos hl] at ho
      cases ho
      have dd := V1.datas q
      refine ⟨by rw [dd.length]; exact hl, fun p np => ?_⟩
      obtain ⟨S2, R2⟩ := R1.newF (.tup vs) np
      exact h1.use ho' S2 R2 (Dat.tup (SqT.of upd_same) (dd.mono S2.ext))
    · rw [if_neg hl] at ho; cases ho
theorem de_lst {es : List Expr} {g : SA} (ha : DA X C W es g) : DE X C W (.List es pos) (lstE g) := by
  refine pe_mono (pe_lst ha) fun σ H Q ⟨F, δ, h⟩ => ?_
  refine bindA (RVb := RVl C) (mbV) h fun vs F1 H1 δ1 rs e1 S1 R1 V1 h1 => ?_
  obtain ⟨o, ho⟩ := h1.some
  have ho' := ho
  cases q : datas rs with
  | none => simp only [q] at ho; cases ho
  | some xs =>
    simp only [q] at ho
    by_cases hl : xs.length ≤ sizeLine
    · rw [if_pos hl] at ho
      cases ho
      have dd := V1.datas q
      refine ⟨by rw [dd.length]; exact hl, fun p np => ?_⟩
      obtain ⟨S2, R2⟩ := R1.newG (.lst vs) np
      exact h1.use ho' S2 R2 (show RV C F1 _ σ H1 (V.ref p) (.nL xs) from ⟨p, vs, rfl, upd_same, R1.freshF np, dd, np⟩)
    · rw [if_neg hl] at ho; cases ho
end
end DL

namespace DL
open PySem PySem.Spec PyProof.Rows L2
/-! ### data that == takes -/
def lay : Nat → D → Bool
  | _, .none => true
  | _, .bool _ => true
  | _, .int _ => true
  | _, .str x => PyData.strOk x
  | n + 1, .list xs => xs.all (lay n)
  | n + 1, .tuple xs => xs.all (lay n)
  | _, _ => false
theorem lay_can : ∀ (n : Nat) (d : D), lay n d = true → d.canLay0 = true ∧ d.depth ≤ n := by
  intro n
  induction n with
  | zero =>
    intro d h
    cases d <;> simp_all [lay, PyData.canLay0, PyData.depth]
  | succ n ih =>
    have all : ∀ xs : List D, xs.all (lay n) = true → PyData.canLayAll0 xs = true ∧ PyData.depthAll xs ≤ n := by
      intro xs
      induction xs with
      | nil => intro _; simp [PyData.canLayAll0, PyData.depthAll]
      | cons x r ihr =>
        intro h
        rw [List.all_cons, Bool.and_eq_true] at h
        obtain ⟨h1, h2⟩ := ih x h.1
        obtain ⟨h3, h4⟩ := ihr h.2
        simp only [PyData.canLayAll0, PyData.depthAll, h1, h3, Bool.and_true, true_and]
        omega
    intro d h
    cases d with
    | list xs =>
      obtain ⟨h1, h2⟩ := all xs (by simpa [lay] using h)
      exact ⟨by simpa [PyData.canLay0] using h1, by simp only [PyData.depth]; omega⟩
    | tuple xs =>
      obtain ⟨h1, h2⟩ := all xs (by simpa [lay] using h)
      exact ⟨by simpa [PyData.canLay0] using h1, by simp only [PyData.depth]; omega⟩
    | str x => exact ⟨by simpa [lay, PyData.canLay0] using h, by simp [PyData.depth]⟩
    | dict k => simp [lay] at h
    | none => simp [PyData.canLay0, PyData.depth]
    | bool b => simp [PyData.canLay0, PyData.depth]
    | int i => simp [PyData.canLay0, PyData.depth]
def layD (d : D) : Bool := lay 8 d
theorem lay_shaped {d : D} (h : layD d = true) : SeqAt.shaped d = true := by
  obtain ⟨h1, h2⟩ := lay_can 8 d h
  show (d.canLay0 && decide (d.depth ≤ 64)) = true
  rw [h1, Bool.true_and]
  exact decide_eq_true (by omega)
theorem lay_no : ∀ {n : Nat} {d : D}, lay n d = true → ∀ ks, d ≠ .dict ks
  | n, .dict ks, h, _ => by cases n <;> simp [lay] at h
  | _, .none, _, _ => by simp
  | _, .bool _, _, _ => by simp
  | _, .int _, _, _ => by simp
  | _, .str _, _, _ => by simp
  | _, .list _, _, _ => by simp
  | _, .tuple _, _, _ => by simp
mutual
theorem Dat.dp {K : PySem.W.Frag} {H : Hp} : ∀ {v : V} {d : D}, Dat K H v d → d.canLay0 = true → Dp K H v d
  | _, _, .non, _ => .non
  | _, _, .bl b, _ => .bl b
  | _, _, .int i, _ => .int i
  | _, _, .str x, _ => .str x
  | _, _, .lst h t, z => .lst h (Dats.dp t (by simpa [PyData.canLay0] using z))
  | _, _, .tup h t, z => .tup h (Dats.dp t (by simpa [PyData.canLay0] using z))
  | _, _, .dct h t, z => by simp [PyData.canLay0] at z
  | _, _, .dcT h, z => by simp [PyData.canLay0] at z
theorem Dats.dp {K : PySem.W.Frag} {H : Hp} : ∀ {v : List V} {d : List D}, Dats K H v d → PyData.canLayAll0 d = true → DpAll K H v d
  | _, _, .nil, _ => .nil
  | _, _, .cons h t, z => by
    simp only [PyData.canLayAll0, Bool.and_eq_true] at z
    exact .cons (Dat.dp h z.1) (Dats.dp t z.2)
end
theorem Dat.dpl {K : PySem.W.Frag} {H : Hp} {v : V} {d : D} (h : Dat K H v d) (l : layD d = true) : Dp K H v d := h.dp (lay_can 8 d l).1
section
variable {X : Cx} {C : DC} {W : XW}
/-- an operator whose answer changes nothing -/
theorem opd_pure {r : R2} {g : D → D → Option Res} (h : ∀ (F H : Hp) (v w : V) (x y : D) (res : Res) (Q : VK), Le F H → DatP C.K F H v x → DatP C.K F H w y → g x y = some res → (∀ u z, res = .d z → Dat C.K F u z → Q u H) → (∃ z, res = .d z) ∧ r v w H Q) : OpD C r g := by
  intro F H σ δ v w x y res Q R hx hy hg k
  refine (h F H v w x y res Q R.ext hx hy hg fun u z e hz => k u F H Stp.refl R (by subst e; exact hz)).2
def op2I (f : Int → Int → Option Int) : D → D → Option Res
  | .int i, .int j => (f i j).map fun z => .d (.int z)
  | _, _ => none
theorem opd_int {P : Int → Int → Prop} {f : Int → Int → Int} {g : Int → Int → Option Int} (h : ∀ i j z, g i j = some z → P i j ∧ z = f i j) : OpD C (rI P fun i j => .int (f i j)) (op2I g) := by
  intro F H σ δ v w x y res Q R hx hy e k
  cases x with
  | int i =>
    cases y with
    | int j =>
      cases q : g i j with
      | none => simp [op2I, q] at e
      | some z =>
        simp only [op2I, q, Option.map_some, Option.some.injEq] at e
        subst e
        obtain ⟨h1, rfl⟩ := h i j z q
        exact ⟨i, j, hx.int, hy.int, h1, k _ F H Stp.refl R (Dat.int _)⟩
    | _ => simp [op2I] at e
  | _ => simp [op2I] at e
theorem opd_int0 {f : Int → Int → Int} : OpD C (rI0 fun i j => .int (f i j)) (op2I fun i j => some (f i j)) := by
  intro F H σ δ v w x y res Q R hx hy e k
  cases x with
  | int i =>
    cases y with
    | int j =>
      simp only [op2I, Option.map_some, Option.some.injEq] at e
      subst e
      exact ⟨i, j, hx.int, hy.int, k _ F H Stp.refl R (Dat.int _)⟩
    | _ => simp [op2I] at e
  | _ => simp [op2I] at e
def op2B (f : Int → Int → Bool) : D → D → Option Res
  | .int i, .int j => some (.d (.bool (f i j)))
  | _, _ => none
theorem opd_bool0 {f : Int → Int → Bool} : OpD C (rI0 fun i j => .bl (f i j)) (op2B f) := by
  intro F H σ δ v w x y res Q R hx hy e k
  cases x with
  | int i =>
    cases y with
    | int j =>
      simp only [op2B, Option.some.injEq] at e
      subst e
      exact ⟨i, j, hx.int, hy.int, k _ F H Stp.refl R (Dat.bl _)⟩
    | _ => simp [op2B] at e
  | _ => simp [op2B] at e
theorem OpD.or {r r' : R2} {g g' : D → D → Option Res} (h : OpD C r g) (h' : OpD C r' g') : OpD C (fun x y H Q => r x y H Q ∨ r' x y H Q) (fun x y => (g x y).or (g' x y)) := by
  intro F H σ δ v w x y res Q R hx hy e k
  have e : (g x y).or (g' x y) = some res := e
  cases q : g x y with
  | some z =>
    rw [q] at e
    have e : some z = some res := e
    cases e
    exact .inl (h F H σ δ v w x y _ Q R hx hy q k)
  | none =>
    rw [q] at e
    exact .inr (h' F H σ δ v w x y res Q R hx hy e k)
/-! the int operators -/
def subG : D → D → Option Res := op2I fun i j => some (i - j)
def fdivG : D → D → Option Res := op2I fun i j => if 0 < j ∧ j.natAbs.log2 < 9000 then some (i / j) else none
def modG : D → D → Option Res := op2I fun i j => if 0 < j then some (i % j) else none
def powG : D → D → Option Res := op2I fun i j => if 0 ≤ j ∧ j ≤ 1000000 ∧ i.natAbs < 2 ^ 64 then some (i ^ j.toNat) else none
def shlG : D → D → Option Res := op2I fun i j => if 0 ≤ j ∧ j ≤ 1000000 ∧ i.natAbs < 2 ^ 64 then some (i * 2 ^ j.toNat) else none
def shrG : D → D → Option Res := op2I fun i j => if 0 ≤ j then some (i / 2 ^ j.toNat) else none
def bandG : D → D → Option Res := op2I fun i j => some (Builtin.bitAnd i j)
theorem od_sub : OpD C (rI0 fun i j => .int (i - j)) subG := opd_int0
theorem od_fdiv : OpD C (rI CDivW fun i j => .int (i / j)) fdivG := opd_int fun i j z h => by
  split at h
  · rename_i c
    cases h
    exact ⟨c, rfl⟩
  · cases h
theorem od_mod : OpD C (rI (fun _ j => 0 < j) fun i j => .int (i % j)) modG := opd_int fun i j z h => by
  split at h
  · rename_i c
    cases h
    exact ⟨c, rfl⟩
  · cases h
theorem od_pow : OpD C (rI CPow fun i j => .int (i ^ j.toNat)) powG := opd_int fun i j z h => by
  split at h
  · rename_i c
    cases h
    exact ⟨c, rfl⟩
  · cases h
theorem od_shl : OpD C (rI CPow fun i j => .int (i * 2 ^ j.toNat)) shlG := opd_int fun i j z h => by
  split at h
  · rename_i c
    cases h
    exact ⟨c, rfl⟩
  · cases h
theorem od_shr : OpD C (rI (fun _ j => 0 ≤ j) fun i j => .int (i / 2 ^ j.toNat)) shrG := opd_int fun i j z h => by
  split at h
  · rename_i c
    cases h
    exact ⟨c, rfl⟩
  · cases h
theorem od_band : OpD C (rI0 fun i j => .int (Builtin.bitAnd i j)) bandG := opd_int0
/-! + -/
def addS : D → D → Option Res
  | .str x, .str y => if x.length + y.length ≤ sizeLine then some (.d (.str (x ++ y))) else none
  | _, _ => none
def addL : D → D → Option Res
  | .list xs, .list ys => if xs.length + ys.length ≤ sizeLine then some (.nL (xs ++ ys)) else none
  | _, _ => none
def addT : D → D → Option Res
  | .tuple xs, .tuple ys => if xs.length + ys.length ≤ sizeLine then some (.d (.tuple (xs ++ ys))) else none
  | _, _ => none
def rCatL (K : PySem.W.Frag) : R2 := fun x y H Q => ∃ l b xs zs, x = .ref l ∧ y = .ref b ∧ SqL K H l xs ∧ SqL K H b zs ∧ xs.length + zs.length ≤ sizeLine ∧ ∀ p, H p = none → Q (.ref p) (upd H p (.lst (xs ++ zs)))
theorem op_catL : OpR X (binaryOp .Add) (rCatL X.K) := by
  intro pins s σ H x y v u Q I rx ry h
  obtain ⟨l, b, xs, zs, rfl, rfl, h1, h2, hz, q⟩ := h
  cases rx
  cases ry
  obtain ⟨its, r, ⟨⟨cls, dd, data, sl⟩, n, ho, hc, hdn, hd⟩, _⟩ := I.list h1
  obtain ⟨its2, r2, ⟨⟨cls2, dd2, data2, sl2⟩, n2, ho2, hc2, hdn2, hd2⟩, _⟩ := I.list h2
  simp only at hc hd hdn hc2 hd2 hdn2
  subst hc hd hdn hc2 hd2 hdn2
  have l1 := r.length
  have l2 := r2.length
  have sz : its.toArray.size + its2.toArray.size ≤ sizeLine := by rw [List.size_toArray, List.size_toArray]; omega
  refine concat_meets ⟨_, ho, rfl⟩ ⟨_, ho2, rfl⟩ noFill_list_add seq_list_add PySem.F.slot_list_add PySem.F.entry_list_add (PySem.F.args_list_add_2 _ _)
    (PyProof.Rows.list_addW l b its.toArray its2.toArray n n2 none none sl sl2 sz) ⟨ho, ho2, ?_⟩
  rw [show its.toArray ++ its2.toArray = (its ++ its2).toArray by simp]
  exact ⟨.ref _, _, I.lnew (t' := s.toks) (r.append r2) (by rw [List.length_append]; omega), rfl, q _ I.fresh⟩
theorem od_addS : OpD C (fun x y H Q => ∃ i j, x = .str i ∧ y = .str j ∧ i.length + j.length ≤ sizeLine ∧ Q (.str (i ++ j)) H) addS := by
  intro F H σ δ v w x y res Q R hx hy e k
  cases x with
  | str i =>
    cases y with
    | str j =>
      simp only [addS] at e
      split at e
      · rename_i c
        cases e
        exact ⟨i, j, hx.str, hy.str, c, k _ F H Stp.refl R (Dat.str _)⟩
      · cases e
    | _ => simp [addS] at e
  | _ => simp [addS] at e
theorem od_addL : OpD C (rCatL C.K) addL := by
  intro F H σ δ v w x y res Q R hx hy e k
  cases x with
  | list xs =>
    cases y with
    | list ys =>
      simp only [addL] at e
      split at e
      · rename_i c
        cases e
        obtain ⟨a, vs, rfl, h1, t1⟩ := hx.lst R.ext
        obtain ⟨b, ws, rfl, h2, t2⟩ := hy.lst R.ext
        refine ⟨a, b, vs, ws, rfl, rfl, h1, h2, by rw [t1.length, t2.length]; exact c, fun p np => ?_⟩
        obtain ⟨S2, R2⟩ := R.newG (.lst (vs ++ ws)) np
        exact k _ _ _ S2 R2 (show RV C F _ σ H _ (.nL (xs ++ ys)) from ⟨p, _, rfl, upd_same, R.freshF np, t1.append t2, np⟩)
      · cases e
    | _ => simp [addL] at e
  | _ => simp [addL] at e
theorem Dats.nil_iff {K : PySem.W.Frag} {H : Hp} {vs : List V} {ds : List D} (h : Dats K H vs ds) : vs = [] ↔ ds = [] := by
  cases h with
  | nil => simp
  | cons _ _ => simp
theorem od_addT : OpD C (rCatA C.K) addT := by
  intro F H σ δ v w x y res Q R hx hy e k
  cases x with
  | tuple xs =>
    cases y with
    | tuple ys =>
      simp only [addT] at e
      split at e
      · rename_i c
        cases e
        have hx' := hx
        have hy' := hy
        have tupd : ∀ {v : V} {xs : List D}, DatP C.K F H v (.tuple xs) → Dat C.K F v (.tuple xs) := fun h => by
          rcases h with h | ⟨_, _, _, _, e2, _⟩ | ⟨_, _, _, _, e2, _⟩
          · exact h
          · cases e2
          · cases e2
        obtain ⟨a, vs, rfl, h1, t1⟩ := hx.tup R.ext
        obtain ⟨b, ws, rfl, h2, t2⟩ := hy.tup R.ext
        refine ⟨a, b, vs, ws, rfl, rfl, h1, h2, by rw [t1.length, t2.length]; exact c, fun z => ?_, fun _ z => ?_, fun _ _ p np => ?_⟩
        · have : xs = [] := t1.nil_iff.mp z
          subst this
          exact k _ F H Stp.refl R (tupd hy')
        · have : ys = [] := t2.nil_iff.mp z
          subst this
          exact k _ F H Stp.refl R (by rw [List.append_nil]; exact tupd hx')
        · obtain ⟨S2, R2⟩ := R.newF (.tup (vs ++ ws)) np
          exact k _ _ _ S2 R2 (Dat.tup (SqT.of upd_same) ((t1.append t2).mono S2.ext))
      · cases e
    | _ => simp [addT] at e
  | _ => simp [addT] at e
def addI : D → D → Option Res := op2I fun i j => some (i + j)
def addG (x y : D) : Option Res := (addI x y).or ((addS x y).or ((addL x y).or (addT x y)))
abbrev rAddG (K : PySem.W.Frag) : R2 := fun x y H Q => rI0 (fun i j => .int (i + j)) x y H Q ∨ (∃ i j, x = .str i ∧ y = .str j ∧ i.length + j.length ≤ sizeLine ∧ Q (.str (i ++ j)) H) ∨ rCatL K x y H Q ∨ rCatA K x y H Q
theorem or_addG : OpR X (binaryOp .Add) (rAddG X.K) := op_add.or (op_add_str.or (op_catL.or op_catA))
theorem od_addG : OpD C (rAddG C.K) addG := (opd_int0 (f := fun i j => i + j)).or (od_addS.or (od_addL.or od_addT))
/-! * -/
def mulI : D → D → Option Res := op2I fun i j => if i.natAbs.log2 + j.natAbs.log2 < 1000000 then some (i * j) else none
def mulL : D → D → Option Res
  | .list xs, .int k => if -(2 ^ 63) ≤ k ∧ k < 2 ^ 63 ∧ xs.length * k.toNat ≤ sizeLine then some (.nL (List.replicate k.toNat xs).flatten) else none
  | _, _ => none
theorem Dats.rep {K : PySem.W.Frag} {H : Hp} {vs : List V} {ds : List D} (h : Dats K H vs ds) : ∀ n : Nat, Dats K H (List.replicate n vs).flatten (List.replicate n ds).flatten
  | 0 => .nil
  | n + 1 => by
    rw [List.replicate_succ, List.replicate_succ, List.flatten_cons, List.flatten_cons]
    exact h.append (Dats.rep h n)
/-- [..] * n -/
def mulNE (fa fb : SE) : SE := bindE fa fun ra => bindE (pkE fb) fun rb => fun δ =>
  match ra, rb.get δ with
  | .nL xs, some (.int k) => if -(2 ^ 63) ≤ k ∧ k < 2 ^ 63 ∧ xs.length * k.toNat ≤ sizeLine then some (.ok (.nL (List.replicate k.toNat xs).flatten) δ) else none
  | _, _ => none
theorem de_mulN {a b : Expr} {fa fb : SE} {pos : Pos} (ha : DE X C W a fa) (hb : DE X C W b fb) : DE X C W (.BinOp a .Mult b pos) (mulNE fa fb) := by
  refine pe_mono (pe_op op_rep ha (de_pk hb)) fun σ H Q ⟨F, δ, h⟩ => ?_
  have R := h.1
  refine bindV (RVb := RVl C) (mbV) h fun v F1 H1 δ1 r1 e1 S1 R1 V1 h1 => ?_
  refine bindV (RVb := RVl C) (mbV) h1 fun w F2 H2 δ2 r2 e2 S2 R2 V2 h2 => ?_
  obtain ⟨o, ho⟩ := h2.some
  have ho' := ho
  cases r1 with
  | nL xs =>
    cases q2 : r2.get δ2 with
    | none => simp only [q2] at ho; cases ho
    | some y =>
      simp only [q2] at ho
      cases y with
      | int k =>
        simp only at ho
        split at ho
        · rename_i c
          cases ho
          obtain ⟨p, vs, rfl, hp, hf, hd, hs⟩ := V1
          have no : ¬ OwnedAt σ δ1 p := fun z => R.fresh_own hs (S1.owned z)
          obtain ⟨hp2, hf2⟩ := S2.frm p _ hp no
          have t := hd.mono S2.ext
          refine ⟨p, k, vs, rfl, (V2.get R2 q2).int, hp2, c.1, c.2.1, by rw [t.length]; exact c.2.2, fun p' np => ?_⟩
          obtain ⟨S3, R3⟩ := R2.newG (.lst (List.replicate k.toNat vs).flatten) np
          exact h2.use ho' S3 R3 (show RV C F2 _ σ H2 _ (.nL _) from ⟨p', _, rfl, upd_same, R2.freshF np, t.rep _, np⟩)
        · cases ho
      | _ => cases ho
  | _ => cases ho
def mulT : D → D → Option Res
  | .tuple xs, .int k => if xs ≠ [] ∧ 2 ≤ k ∧ k ≤ 1000 ∧ xs.length ≤ 1000 then some (.d (.tuple (List.replicate k.toNat xs).flatten)) else none
  | _, _ => none
theorem od_mulT : OpD C (rRepT C.K) mulT := by
  intro F H σ δ v w x y res Q R hx hy e k
  cases x with
  | tuple xs =>
    cases y with
    | int n =>
      simp only [mulT] at e
      split at e
      · rename_i c
        cases e
        obtain ⟨a, vs, rfl, h1, t1⟩ := hx.tup R.ext
        refine ⟨a, n, vs, rfl, hy.int, h1, fun z => c.1 (t1.nil_iff.mp z), c.2.1, c.2.2.1, by rw [t1.length]; exact c.2.2.2, fun p np => ?_⟩
        obtain ⟨S2, R2⟩ := R.newF (.tup (List.replicate n.toNat vs).flatten) np
        exact k _ _ _ S2 R2 (Dat.tup (SqT.of upd_same) ((t1.rep _).mono S2.ext))
      · cases e
    | _ => simp [mulT] at e
  | _ => simp [mulT] at e
theorem od_mulI : OpD C (rI CMulW fun i j => .int (i * j)) mulI := opd_int fun i j z h => by
  split at h
  · rename_i c
    cases h
    exact ⟨c, rfl⟩
  · cases h
def mulG (x y : D) : Option Res := (mulI x y).or (mulT x y)
theorem or_mulG : OpR X (binaryOp .Mult) (fun x y H Q => rI CMulW (fun i j => .int (i * j)) x y H Q ∨ rRepT X.K x y H Q) := op_mulW.or op_repT
theorem od_mulG : OpD C (fun x y H Q => rI CMulW (fun i j => .int (i * j)) x y H Q ∨ rRepT C.K x y H Q) mulG := od_mulI.or od_mulT
/-! comparisons -/
def eqG (x y : D) : Option Res := if layD x = true ∧ layD y = true then some (.d (.bool (PyData.eqv x y))) else none
def neG (x y : D) : Option Res := if layD x = true ∧ layD y = true then some (.d (.bool (!PyData.eqv x y))) else none
theorem od_eq : OpD C (rEqD C.K) eqG := by
  intro F H σ δ v w x y res Q R hx hy e k
  unfold eqG at e
  split at e
  · rename_i c
    cases e
    exact ⟨x, y, (hx.dat R.ext).dpl c.1, (hy.dat R.ext).dpl c.2, lay_shaped c.1, lay_shaped c.2, k _ F H Stp.refl R (Dat.bl _)⟩
  · cases e
theorem od_ne : OpD C (rNeD C.K) neG := by
  intro F H σ δ v w x y res Q R hx hy e k
  unfold neG at e
  split at e
  · rename_i c
    cases e
    exact ⟨x, y, (hx.dat R.ext).dpl c.1, (hy.dat R.ext).dpl c.2, lay_shaped c.1, lay_shaped c.2, k _ F H Stp.refl R (Dat.bl _)⟩
  · cases e
def ltG : D → D → Option Res := op2B fun i j => decide (i < j)
def leG : D → D → Option Res := op2B fun i j => decide (i ≤ j)
def gtG : D → D → Option Res := op2B fun i j => decide (j < i)
def geG : D → D → Option Res := op2B fun i j => decide (j ≤ i)
theorem od_lt : OpD C (rI0 fun i j => .bl (decide (i < j))) ltG := opd_bool0
theorem od_le : OpD C (rI0 fun i j => .bl (decide (i ≤ j))) leG := opd_bool0
theorem od_gt : OpD C (rI0 fun i j => .bl (decide (j < i))) gtG := opd_bool0
theorem od_ge : OpD C (rI0 fun i j => .bl (decide (j ≤ i))) geG := opd_bool0
/-! is None, is not None -/
def isD : D → Bool
  | .none => true
  | _ => false
def isG (x y : D) : Option Res := match y with
  | .none => some (.d (.bool (isD x)))
  | _ => none
def isnG (x y : D) : Option Res := match y with
  | .none => some (.d (.bool (!isD x)))
  | _ => none
theorem isD_non {F H : Hp} {v : V} {x : D} (h : DatP C.K F H v x) : decide (v = V.non) = isD x := by
  rcases h with h | ⟨a, vs, ds, rfl, rfl, _⟩ | ⟨a, vs, ds, rfl, rfl, _⟩
  · cases h <;> simp [isD]
  · simp [isD]
  · simp [isD]
theorem od_is : OpD C (fun x y H Q => y = .non ∧ Q (.bl (decide (x = .non))) H) isG := by
  intro F H σ δ v w x y res Q R hx hy e k
  cases y with
  | none =>
    simp only [isG, Option.some.injEq] at e
    subst e
    refine ⟨hy.non, ?_⟩
    rw [isD_non hx]
    exact k _ F H Stp.refl R (Dat.bl _)
  | _ => simp [isG] at e
theorem od_isn : OpD C (fun x y H Q => y = .non ∧ Q (.bl (!decide (x = .non))) H) isnG := by
  intro F H σ δ v w x y res Q R hx hy e k
  cases y with
  | none =>
    simp only [isnG, Option.some.injEq] at e
    subst e
    refine ⟨hy.non, ?_⟩
    rw [isD_non hx]
    exact k _ F H Stp.refl R (Dat.bl _)
  | _ => simp [isnG] at e
/-! a chain of two comparisons -/
def chainE (g g' : D → D → Option Res) (fa fb fc : SE) : SE := bindE (pkE fa) fun ra => bindE (pkE fb) fun rb => fun δ =>
  match ra.get δ, rb.get δ with
  | some x, some y => match g x y with
    | some (.d (.bool true)) => (bindE (pkE fc) fun rc => fun δ' => match rb.get δ', rc.get δ' with
      | some y, some z => (g' y z).map fun r => .ok r δ'
      | _, _ => none) δ
    | some (.d (.bool false)) => some (.ok (.d (.bool false)) δ)
    | _ => none
  | _, _ => none
/-- an operator that gives a truth and changes nothing -/
def OpB (C : DC) (r : R2) (g : D → D → Option Res) : Prop := ∀ (F H : Hp) (v w : V) (x y : D) (b : Bool) (Q : VK), Le F H → DatP C.K F H v x → DatP C.K F H w y → g x y = some (.d (.bool b)) → Q (.bl b) H → r v w H Q
theorem opb_i {f : Int → Int → Bool} : OpB C (rI0 fun i j => .bl (f i j)) (op2B f) := by
  intro F H v w x y b Q R hx hy e k
  cases x with
  | int i =>
    cases y with
    | int j =>
      simp only [op2B, Option.some.injEq, Res.d.injEq, PyData.bool.injEq] at e
      subst e
      exact ⟨i, j, hx.int, hy.int, k⟩
    | _ => simp [op2B] at e
  | _ => simp [op2B] at e
theorem chain_read {r r' : R2} {g g' : D → D → Option Res} {fa fb fc : SE} {σ : Sg} {H : Hp} {Q : VK} (hg : OpB C r g) (hg' : OpD C r' g') (h : tD C W (chainE g g' fa fb fc) σ H Q) : tChain r r' (tD C W (pkE fa)) (tD C W (pkE fb)) (tD C W (pkE fc)) σ H Q := by
  obtain ⟨F, δ, h⟩ := h
  refine bindV (RVb := RVl C) (mbV) h fun v F1 H1 δ1 r1 e1 S1 R1 V1 h1 => ?_
  refine bindV (RVb := RVl C) (mbV) h1 fun w F2 H2 δ2 r2 e2 S2 R2 V2 h2 => ?_
  obtain ⟨o, ho⟩ := h2.some
  have ho' := ho
  cases q1 : r1.get δ2 with
  | none => simp only [q1] at ho; cases ho
  | some x =>
    cases q2 : r2.get δ2 with
    | none => simp only [q1, q2] at ho; cases ho
    | some y =>
      simp only [q1, q2] at ho
      have d1 := (V1.after (Hs' := H) (pk_isPk e1) S2).get R2 q1
      have d2 := V2.get R2 q2
      cases q3 : g x y with
      | none => simp only [q3] at ho; cases ho
      | some res =>
        simp only [q3] at ho
        cases res with
        | d z =>
          cases z with
          | bool b =>
            refine hg F2 H2 v w x y b _ R2.ext d1 d2 q3 ⟨b, rfl, ?_⟩
            cases b with
            | false =>
              cases ho
              rw [if_neg (by decide)]
              exact h2.use ho' Stp.refl R2 (Dat.bl false)
            | true =>
              rw [if_pos rfl]
              have h3 : tX C W (RVl C) (bindE (pkE fc) fun rc => fun δ' => match r2.get δ', rc.get δ' with
                | some y, some z => (g' y z).map fun r => ER.ok r δ'
                | _, _ => none) F2 H2 σ δ2 Q := by
                obtain ⟨_, hh⟩ := h2
                refine ⟨R2, ?_⟩
                simp only [q1, q2, q3] at hh
                exact hh
              refine bindV (RVb := RVl C) (mbV) h3 fun u F3 H3 δ3 r3 e3 S3 R3 V3 h4 => ?_
              obtain ⟨o4, ho4⟩ := h4.some
              have ho4' := ho4
              cases q4 : r2.get δ3 with
              | none => simp only [q4] at ho4; cases ho4
              | some y' =>
                cases q5 : r3.get δ3 with
                | none => simp only [q4, q5] at ho4; cases ho4
                | some z' =>
                  simp only [q4, q5] at ho4
                  cases q6 : g' y' z' with
                  | none => rw [q6] at ho4; cases ho4
                  | some res' =>
                    rw [q6] at ho4
                    have ho4 : some (ER.ok res' δ3) = some o4 := ho4
                    cases ho4
                    exact hg' F3 H3 σ δ3 w u y' z' res' Q R3 ((V2.after (Hs' := H) (pk_isPk e2) S3).get R3 q4) (V3.get R3 q5) q6 fun u' F' H' S R V => h4.use ho4' S R V
          | _ => cases ho
        | _ => cases ho
theorem de_chain {op op' : CmpOp} {r r' : R2} {g g' : D → D → Option Res} {a b c : Expr} {fa fb fc : SE} {pos : Pos} (ho : OpR X (compareOp op) r) (ho' : OpR X (compareOp op') r') (hg : OpB C r g) (hg' : OpD C r' g') (ha : DE X C W a fa) (hb : DE X C W b fb) (hc : DE X C W c fc)
    (hm : lastMarks [op, op'] [b, c] = false := by with_unfolding_all rfl) : DE X C W (.Compare a [op, op'] [b, c] pos) (chainE g g' fa fb fc) :=
  pe_mono (pe_chain ho ho' (de_pk ha) (de_pk hb) (de_pk hc) hm) fun σ H Q h => chain_read hg hg' h
theorem dt_chain {op op' : CmpOp} {r r' : R2} {g g' : D → D → Option Res} {a b c : Expr} {fa fb fc : SE} {pos : Pos} (ho : OpR X (compareOp op) r) (ho' : OpR X (compareOp op') r') (hg : OpB C r g) (hg' : OpD C r' g') (ha : DE X C W a fa) (hb : DE X C W b fb) (hc : DE X C W c fc)
    (hm : lastMarks [op, op'] [b, c] = false := by with_unfolding_all rfl) : DT X C W (.Compare a [op, op'] [b, c] pos) (toB (chainE g g' fa fb fc)) :=
  pt_mono (pt_chain ho ho' (de_pk ha) (de_pk hb) (de_pk hc) hm) fun σ H Q h => chain_read hg hg' (toB_read h)
end
end DL

namespace DL
open PySem PySem.Spec PyProof.Rows L2
/-! ### statements -/
inductive SO where
  | nx (δ : List SV)
  | rt (r : Res) (δ : List SV)
  | bk (δ : List SV)
  | ct (δ : List SV)
  | ex (e : XD) (δ : List SV)
abbrev SS := List SV → Option SO
def Res.isR : Res → Bool
  | .b _ => false
  | _ => true
/-- what is wanted behind an outcome -/
def SOk (C : DC) (W : XW) (D : Ends) (F : Hp) : Option SO → Prop
  | none => False
  | some (.nx δ') => ∀ σ' F' H', Le F F' → Rp C F' H' σ' δ' → D.nx σ' H'
  | some (.bk δ') => ∀ σ' F' H', Le F F' → Rp C F' H' σ' δ' → D.bk σ' H'
  | some (.ct δ') => ∀ σ' F' H', Le F F' → Rp C F' H' σ' δ' → D.ct σ' H'
  | some (.rt r δ') => r.isR = true ∧ ∀ v σ' F' H', Le F F' → Rp C F' H' σ' δ' → RV C F' H' σ' C.H0 v r → D.rt v H'
  | some (.ex e δ') => ∀ σ' F' H' od, Le F F' → Rp C F' H' σ' δ' → XOk C F' H' e od → W (.ref e.cls) od σ' H'
def tS (C : DC) (W : XW) (s : SS) : TS := fun D σ H => ∃ F δ, Rp C F H σ δ ∧ SOk C W D F (s δ)
def DS (X : Cx) (C : DC) (W : XW) (st : Stmt) (s : SS) : Prop := PS X st (tS C W s)
def DB (X : Cx) (C : DC) (W : XW) (st : List Stmt) (s : SS) : Prop := PSs X st (tS C W s)
section
variable {X : Cx} {C : DC} {W : XW} {D : Ends} {F F' H H' : Hp} {σ : Sg} {δ δ' : List SV} {o : Option SO}
theorem SOk.le (h : SOk C W D F o) (e : Le F F') : SOk C W D F' o := by
  cases o with
  | none => exact h
  | some o =>
    cases o with
    | nx δ => exact fun σ F2 H l => h σ F2 H (e.trans l)
    | bk δ => exact fun σ F2 H l => h σ F2 H (e.trans l)
    | ct δ => exact fun σ F2 H l => h σ F2 H (e.trans l)
    | rt r δ => exact ⟨h.1, fun v σ F2 H l => h.2 v σ F2 H (e.trans l)⟩
    | ex x δ => exact fun σ F2 H od l => h σ F2 H od (e.trans l)
theorem SOk.imp {D' : Ends} (h : SOk C W D F o) (h1 : ∀ σ H, D.nx σ H → D'.nx σ H) (h2 : ∀ σ H, D.bk σ H → D'.bk σ H) (h3 : ∀ σ H, D.ct σ H → D'.ct σ H) (h4 : ∀ v H, D.rt v H → D'.rt v H) : SOk C W D' F o := by
  cases o with
  | none => exact h
  | some o =>
    cases o with
    | nx δ => exact fun σ F2 H l r => h1 _ _ (h σ F2 H l r)
    | bk δ => exact fun σ F2 H l r => h2 _ _ (h σ F2 H l r)
    | ct δ => exact fun σ F2 H l r => h3 _ _ (h σ F2 H l r)
    | rt r δ => exact ⟨h.1, fun v σ F2 H l q z => h4 _ _ (h.2 v σ F2 H l q z)⟩
    | ex x δ => exact h
/-- an expression, then what is done with it -/
def bindS {α : Type} (f : SEa α) (k : α → SS) : SS := fun δ =>
  match f δ with
  | none => none
  | some (.ok r δ') => k r δ'
  | some (.ex e δ') => some (.ex e δ')
theorem bindS_read {α β : Type} {RVa : Hp → Hp → Sg → Hp → β → α → Prop} {f : SEa α} {k : α → SS} (R : Rp C F H σ δ) (h : SOk C W D F (bindS f k δ)) :
    tX C W RVa f F H σ δ (fun v H1 => ∃ F1 δ1 r, f δ = some (.ok r δ1) ∧ Stp F H σ δ F1 H1 δ1 ∧ Rp C F1 H1 σ δ1 ∧ RVa F1 H1 σ H v r ∧ SOk C W D F1 (k r δ1)) := by
  refine ⟨R, ?_⟩
  unfold bindS at h
  cases q : f δ with
  | none => rw [q] at h; exact h
  | some o =>
    rw [q] at h
    cases o with
    | ex e δ' => exact fun F1 H1 od S R1 x => h σ F1 H1 od S.ext R1 x
    | ok r δ1 => exact fun v F1 H1 S R1 V => ⟨F1, δ1, r, rfl, S, R1, V, SOk.le h S.ext⟩
theorem bindSV {f : SE} {k : Res → SS} (h : tS C W (bindS f k) D σ H) {Q : V → Hp → Prop}
    (c : ∀ v F1 H1 δ1 r, Rp C F1 H1 σ δ1 → RV C F1 H1 σ C.H0 v r → SOk C W D F1 (k r δ1) → Q v H1) : tD C W f σ H Q := by
  obtain ⟨F, δ, R, h⟩ := h
  refine ⟨F, δ, (bindS_read R h).mono fun v H1 ⟨F1, δ1, r, _, S, R1, V, q⟩ => c v F1 H1 δ1 r R1 (V.hs fun p np => R.fresh0 np) q⟩
theorem bindST {f : SB} {k : Bool → SS} (h : tS C W (bindS f k) D σ H) {Q : Bool → Hp → Prop}
    (c : ∀ v F1 H1 δ1, Rp C F1 H1 σ δ1 → SOk C W D F1 (k v δ1) → Q v H1) : tT C W f σ H Q := by
  obtain ⟨F, δ, R, h⟩ := h
  refine ⟨F, δ, (bindS_read R h).mono fun v H1 ⟨F1, δ1, r, _, S, R1, V, q⟩ => ?_⟩
  have V : v = r := V
  subst V
  exact c v F1 H1 δ1 R1 q
theorem bindSA {f : SA} {k : List Res → SS} (h : tS C W (bindS f k) D σ H) {Q : List V → Hp → Prop}
    (c : ∀ v F1 H1 δ1 r, Rp C F1 H1 σ δ1 → RVs C F1 H1 σ C.H0 v r → SOk C W D F1 (k r δ1) → Q v H1) : tAr C W f σ H Q := by
  obtain ⟨F, δ, R, h⟩ := h
  refine ⟨F, δ, (bindS_read R h).mono fun v H1 ⟨F1, δ1, r, _, S, R1, V, q⟩ => c v F1 H1 δ1 r R1 (RVs.hs (fun p np => R.fresh0 np) V) q⟩
/-! blocks -/
def skipS : SS := fun δ => some (.nx δ)
def seqS (s t : SS) : SS := fun δ =>
  match s δ with
  | some (.nx δ') => t δ'
  | o => o
theorem db_nil : DB X C W [] skipS := pss_mono pss_nil fun D σ H ⟨F, δ, R, h⟩ => h σ F H (Le.refl _) R
theorem seq_read {s t : SS} {u : TS} (hu : u = tS C W t) (h : tS C W (seqS s t) D σ H) : tS C W s { D with nx := u D } σ H := by
  subst hu
  obtain ⟨F, δ, R, h⟩ := h
  refine ⟨F, δ, R, ?_⟩
  unfold seqS at h
  cases q : s δ with
  | none => rw [q] at h; exact h
  | some o =>
    rw [q] at h
    cases o with
    | nx δ' => exact fun σ' F' H' l R' => ⟨F', δ', R', SOk.le h l⟩
    | bk δ => exact h
    | ct δ => exact h
    | rt r δ => exact h
    | ex x δ => exact h
theorem db_cons {st : Stmt} {rest : List Stmt} {s t : SS} (h1 : DS X C W st s) (h2 : DB X C W rest t) : DB X C W (st :: rest) (seqS s t) := pss_mono (pss_cons h1 h2) fun D σ H h => seq_read rfl h
theorem db_one {st : Stmt} {s : SS} (h1 : DS X C W st s) : DB X C W [st] s := pss_one h1
/-! small statements -/
variable {e c : Expr} {f : SE} {g : SB} {pos : Pos}
def failS : SS := fun _ => none
theorem ds_never {st : Stmt} : DS X C W st failS := ps_mono ps_never fun D σ H ⟨F, δ, R, h⟩ => h
theorem ds_pass : DS X C W (.Pass pos) skipS := ps_mono ps_pass fun D σ H ⟨F, δ, R, h⟩ => h σ F H (Le.refl _) R
theorem ds_doc {x j pos pos'} : DS X C W (.Expr (.Constant (.str x) j pos) pos') skipS := ps_mono ps_doc fun D σ H ⟨F, δ, R, h⟩ => h σ F H (Le.refl _) R
def brkS : SS := fun δ => some (.bk δ)
def cntS : SS := fun δ => some (.ct δ)
theorem ds_break : DS X C W (.Break pos) brkS := ps_mono ps_break fun D σ H ⟨F, δ, R, h⟩ => h σ F H (Le.refl _) R
theorem ds_continue : DS X C W (.Continue pos) cntS := ps_mono ps_continue fun D σ H ⟨F, δ, R, h⟩ => h σ F H (Le.refl _) R
def exprS (f : SE) : SS := bindS f fun _ δ => some (.nx δ)
theorem ds_expr (he : DE X C W e f) (hs : swapsWith e none pos.line X.env = pure false := by rfl) : DS X C W (.Expr e pos) (exprS f) :=
  ps_mono (ps_expr he hs) fun D σ H h => bindSV h fun v F1 H1 δ1 r R1 V q => q σ F1 H1 (Le.refl _) R1
/-- what is handed back: data, a new thing, a list or dict of the def's own -/
def retK (r : Res) : SS := fun δ => match r with
  | .b i => match δ[i]? with
    | some (.d x) => some (.rt (.d x) δ)
    | some (.L 0 xs) => some (.rt (.nL xs) (δ.set i .u))
    | some (.M 0 ks) => some (.rt (.nM ks) (δ.set i .u))
    | _ => none
  | r => some (.rt r δ)
def retS (f : SE) : SS := bindS f retK
theorem Rp.drop (R : Rp C F H σ δ) (i : Nat) : Rp C F H σ (δ.set i .u) where
  ext := R.ext
  len := by simpa using R.len
  slot := fun j y t hy ht => by
    rcases get_set ht with ⟨rfl, rfl, _⟩ | ⟨hne, h2⟩
    · trivial
    · exact R.slot j y t hy h2
  apart := fun j k s t a h1 h2 h3 h4 h5 h6 => by
    rcases get_set h1 with ⟨rfl, rfl, _⟩ | ⟨n1, g1⟩
    · cases h2
    · rcases get_set h3 with ⟨rfl, rfl, _⟩ | ⟨n2, g2⟩
      · cases h4
      · exact R.apart j k s t a g1 h2 g2 h4 h5 h6
  own0 := fun j s a h1 h2 h3 => by
    rcases get_set h1 with ⟨rfl, rfl, _⟩ | ⟨n1, g1⟩
    · cases h2
    · exact R.own0 j s a g1 h2 h3
  old := R.old
  ext0 := R.ext0
  pers := R.pers
theorem ds_ret (he : DE X C W e f) : DS X C W (.Return (some e) pos) (retS f) := by
  refine ps_mono (ps_ret he) fun D σ H h => bindSV h fun v F1 H1 δ1 r R1 V q => ?_
  cases r with
  | d x => exact q.2 v σ F1 H1 (Le.refl _) R1 V
  | nL x => exact q.2 v σ F1 H1 (Le.refl _) R1 V
  | nM x => exact q.2 v σ F1 H1 (Le.refl _) R1 V
  | b i =>
    have V : σ[i]? = some (some v) := V
    cases z : δ1[i]? with
    | none => simp only [retK, z] at q; exact q.elim
    | some s =>
      have k := R1.slot i _ s V z
      cases s with
      | u => simp only [retK, z] at q; exact q.elim
      | d x =>
        simp only [retK, z] at q
        obtain ⟨w, e1, h1⟩ := k
        cases e1
        exact q.2 v σ F1 H1 (Le.refl _) R1 h1
      | L n xs =>
        cases n with
        | succ n => simp only [retK, z] at q; exact q.elim
        | zero =>
          simp only [retK, z] at q
          obtain ⟨a, vs, e1, _, h1, h2, h3⟩ := k
          cases e1
          exact q.2 _ σ F1 H1 (Le.refl _) (R1.drop i) (show RV C F1 H1 σ C.H0 _ (.nL xs) from ⟨a, vs, rfl, h1, h2, h3, (R1.own0 i _ a z rfl V).2 rfl⟩)
      | M n xs =>
        cases n with
        | succ n => simp only [retK, z] at q; exact q.elim
        | zero =>
          simp only [retK, z] at q
          obtain ⟨a, vs, e1, _, h1, h2, h3⟩ := k
          cases e1
          exact q.2 _ σ F1 H1 (Le.refl _) (R1.drop i) (show RV C F1 H1 σ C.H0 _ (.nM xs) from ⟨a, vs, rfl, h1, h2, h3, (R1.own0 i _ a z rfl V).2 rfl⟩)
def retN : SS := fun δ => some (.rt (.d .none) δ)
theorem ds_retN : DS X C W (.Return none pos) retN := ps_mono ps_retN fun D σ H ⟨F, δ, R, h⟩ => h.2 .non σ F H (Le.refl _) R Dat.non
def ifS (g : SB) (s t : SS) : SS := bindS g fun k => if k = true then s else t
theorem ds_if {a b : List Stmt} {s t : SS} (hc : DT X C W c g) (ha : DB X C W a s) (hb : DB X C W b t) : DS X C W (.If c a b pos) (ifS g s t) := by
  refine ps_mono (ps_if hc ha hb) fun D σ H h => bindST h fun v F1 H1 δ1 R1 q => ?_
  cases v with
  | true => exact ⟨F1, δ1, R1, q⟩
  | false => exact ⟨F1, δ1, R1, q⟩
/-! ### x = e -/
def putV (i : Nat) (r : Res) : List SV → Option (List SV) := fun δ => match r with
  | .d x => some (δ.set i (.d x))
  | .nL xs => some (δ.set i (.L 0 xs))
  | .nM ks => some (δ.set i (.M 0 ks))
  | .b _ => none
def setS (i : Nat) (f : SE) : SS := bindS f fun r δ => (putV i r δ).map .nx
theorem put_read {i : Nat} {v : V} {r : Res} (R : Rp C F H σ δ) (V : RV C F H σ C.H0 v r) (no : ∀ p, v = .ref p → r.isPk = false → ¬ OwnedAt σ δ p) (e : putV i r δ = some δ') : Rp C F H (σ.set i (some v)) δ' := by
  cases r with
  | d x => cases e; exact R.setD V
  | b j => cases e
  | nL xs =>
    cases e
    obtain ⟨p, vs, rfl, hp, hf, hd, hs⟩ := V
    exact R.setN rfl rfl hs (no p rfl rfl) ⟨p, vs, rfl, fun z => absurd rfl z, hp, hf, hd⟩
  | nM xs =>
    cases e
    obtain ⟨p, vs, rfl, hp, hf, hd, hs⟩ := V
    exact R.setN rfl rfl hs (no p rfl rfl) ⟨p, vs, rfl, fun z => absurd rfl z, hp, hf, hd⟩
theorem RV.fresh_no {F1 H1 : Hp} {δ1 : List SV} {v : V} {r : Res} (R : Rp C F H σ δ) (S : Stp F H σ δ F1 H1 δ1) (V : RV C F1 H1 σ H v r) : ∀ p, v = .ref p → r.isPk = false → ¬ OwnedAt σ δ1 p := by
  intro p e hp
  cases r with
  | d x => cases hp
  | b j => cases hp
  | nL xs =>
    obtain ⟨p', vs, e2, _, _, _, hs⟩ := V
    rw [e] at e2; cases e2
    exact fun z => R.fresh_own hs (S.owned z)
  | nM xs =>
    obtain ⟨p', vs, e2, _, _, _, hs⟩ := V
    rw [e] at e2; cases e2
    exact fun z => R.fresh_own hs (S.owned z)
theorem bindSV' {f : SE} {k : Res → SS} (h : tS C W (bindS f k) D σ H) {Q : V → Hp → Prop}
    (c : ∀ v F1 H1 δ1 r, Rp C F1 H1 σ δ1 → RV C F1 H1 σ C.H0 v r → (∀ p, v = .ref p → r.isPk = false → ¬ OwnedAt σ δ1 p) → SOk C W D F1 (k r δ1) → Q v H1) : tD C W f σ H Q := by
  obtain ⟨F, δ, R, h⟩ := h
  refine ⟨F, δ, (bindS_read R h).mono fun v H1 ⟨F1, δ1, r, _, S, R1, V, q⟩ => c v F1 H1 δ1 r R1 (V.hs fun p np => R.fresh0 np) (V.fresh_no R S) q⟩
theorem ds_set {i : Nat} {x : Str} {pos' : Pos} (hN : X.N.Nodup) (hi : X.N[i]? = some x) (hx : Loc X.env.scope x) (he : DE X C W e f) (hs : swapsWith e (some (.Name x pos')) pos.line X.env = pure false := by rfl)
    (hf : X.fn x = true ∨ X.env.scope.names.lookup x = some .local := by first | exact .inl rfl | exact .inr rfl | assumption) : DS X C W (.Assign [.Name x pos'] e pos) (setS i f) := by
  refine ps_mono (ps_set hN hi hx he hs hf) fun D σ H h => bindSV' h fun v F1 H1 δ1 r R1 V no q => ?_
  cases z : putV i r δ1 with
  | none => simp only [z] at q; exact q.elim
  | some δ2 =>
    simp only [z] at q
    exact q _ F1 H1 (Le.refl _) (put_read R1 V no z)
/-! ### targets -/
abbrev STg := PyData → List SV → Option (List SV)
def tG (C : DC) (t : STg) : TG := fun v σ H Q => ∃ F δ x δ', Rp C F H σ δ ∧ Dat C.K F v x ∧ t x δ = some δ' ∧ ∀ σ', Rp C F H σ' δ' → Q σ' H
def DG (X : Cx) (C : DC) (tg : Expr) (t : STg) : Prop := PG X tg (tG C t)
abbrev STs := List PyData → List SV → Option (List SV)
def tGs (C : DC) (t : STs) : TGs := fun vs σ H Q => ∃ F δ xs δ', Rp C F H σ δ ∧ Dats C.K F vs xs ∧ t xs δ = some δ' ∧ ∀ σ', Rp C F H σ' δ' → Q σ' H
def DGs (X : Cx) (C : DC) (ts : List Expr) (t : STs) : Prop := PGs X ts (tGs C t)
theorem pg_mono {tg : Expr} {t t' : TG} (h : PG X tg t) (k : ∀ v σ H Q, t' v σ H Q → t v σ H Q) : PG X tg t' := ⟨fun pins s σ H v u Q I r q => h.run pins s σ H v u Q I r (k v σ H Q q)⟩
theorem pgs_mono {tg : List Expr} {t t' : TGs} (h : PGs X tg t) (k : ∀ v σ H Q, t' v σ H Q → t v σ H Q) : PGs X tg t' := ⟨fun pins s σ H v u Q I r q => h.run pins s σ H v u Q I r (k v σ H Q q)⟩
def nameT (i : Nat) : STg := fun x δ => some (δ.set i (.d x))
theorem dg_name {i : Nat} {x : Str} (hN : X.N.Nodup) (hi : X.N[i]? = some x) (hx : Loc X.env.scope x) (hf : X.fn x = true ∨ X.env.scope.names.lookup x = some .local := by first | exact .inl rfl | exact .inr rfl | assumption) : DG X C (.Name x pos) (nameT i) :=
  pg_mono (pg_name hN hi hx hf) fun v σ H Q ⟨F, δ, x, δ', R, d, e, k⟩ => by
    cases e
    exact k _ (R.setD d)
def nilT : STs := fun xs δ => match xs with
  | [] => some δ
  | _ => none
def consT (t : STg) (u : STs) : STs := fun xs δ => match xs with
  | x :: r => (t x δ).bind (u r)
  | [] => none
theorem dgs_nil : DGs X C [] nilT := pgs_mono pgs_nil fun v σ H Q ⟨F, δ, xs, δ', R, d, e, k⟩ => by
  cases d with
  | nil => cases e; exact ⟨rfl, k _ R⟩
  | cons h t => cases e
theorem dgs_cons {a : Expr} {es : List Expr} {t : STg} {u : STs} (h1 : DG X C a t) (h2 : DGs X C es u) (hs : (assignEach (a :: es) X.env).map (·.2) = assign a X.env :: (assignEach es X.env).map (·.2) := by rfl) : DGs X C (a :: es) (consT t u) := by
  refine pgs_mono (pgs_cons h1 h2 hs) fun v σ H Q ⟨F, δ, xs, δ', R, d, e, k⟩ => ?_
  cases d with
  | nil => cases e
  | @cons v vs x xs h r =>
    simp only [consT] at e
    cases q : t x δ with
    | none => rw [q] at e; cases e
    | some δ1 =>
      rw [q] at e
      exact ⟨v, vs, rfl, F, δ, x, δ1, R, h, q, fun σ1 R1 => ⟨F, δ1, xs, δ', R1, r, e, k⟩⟩
def tupT (n : Nat) (u : STs) : STg := fun x δ => match x with
  | .tuple xs => if xs.length = n then u xs δ else none
  | _ => none
theorem dg_tup {es : List Expr} {k n : Nat} {u : STs} (hc : X.calm = true) (hK : X.K = C.K) (h : DGs X C es u) (hn : (assignEach es X.env).length = n := by rfl) (hst : (assignEach es X.env).findIdx? (·.1) = none := by rfl) : DG X C (.Tuple es k pos) (tupT n u) := by
  refine pg_mono (pg_tup hc h hn hst) fun v σ H Q ⟨F, δ, x, δ', R, d, e, kk⟩ => ?_
  cases x with
  | tuple xs =>
    simp only [tupT] at e
    split at e
    · rename_i hl
      obtain ⟨a, vs, rfl, h1, t1⟩ := DatP.tup R.ext (.inl d)
      exact ⟨a, vs, rfl, by rw [hK]; exact h1, by rw [t1.length]; exact hl, F, δ, xs, δ', R, t1, e, kk⟩
    · cases e
  | _ => cases e
/-- a, b = e: data told apart -/
def unpS (t : STg) (f : SE) : SS := bindS (escE f) fun r δ => match r with
  | .d x => (t x δ).map .nx
  | _ => none
theorem ds_asg {tg : Expr} {t : STg} (he : DE X C W e f) (hg : DG X C tg t) (hs : swapsWithSole [tg] e pos.line X.env = pure false := by rfl) (hw : swappedStores [tg] e X.env = pure none := by rfl)
    (h1 : (assignEach [tg] X.env).map (·.2) = [assign tg X.env] := by rfl) : DS X C W (.Assign [tg] e pos) (unpS t f) := by
  refine ps_mono (ps_asg (de_esc he) hg hs hw h1) fun D σ H h => bindSV h fun v F1 H1 δ1 r R1 V q => ?_
  cases r with
  | d x =>
    simp only at q
    cases z : t x δ1 with
    | none => rw [z] at q; exact q.elim
    | some δ2 =>
      rw [z] at q
      exact ⟨F1, δ1, x, δ2, R1, V, z, fun σ' R' => q σ' F1 H1 (Le.refl _) R'⟩
  | _ => exact q.elim
/-! ### what is walked -/
structure ItOk (C : DC) (F0 : Hp) (J : It) (items : List PyData) : Prop where
  go : ∀ (i : Nat) F H σ δ, Le F0 F → Rp C F H σ δ → i < items.length → J.go i H
  yld : ∀ (i : Nat) F H σ δ x H' z, Le F0 F → Rp C F H σ δ → J.yld i H x H' → items[i]? = some z → ∃ F', Stp F H σ δ F' H' δ ∧ Rp C F' H' σ δ ∧ Dat C.K F' x z
  stop : ∀ F H σ δ, Le F0 F → Rp C F H σ δ → J.stop items.length H
def RIt (C : DC) : Hp → Hp → Sg → Hp → It → List PyData → Prop := fun F _ _ _ J items => ItOk C F J items
abbrev SI := SEa (List PyData)
def tI (C : DC) (W : XW) (src : SI) : TI := fun σ H R => ∃ F δ, tX C W (RIt C) src F H σ δ R
def DI (X : Cx) (C : DC) (W : XW) (tg iter : Expr) (src : SI) : Prop := PI X tg iter (tI C W src)
theorem pi_mono {tg iter : Expr} {t t' : TI} (h : PI X tg iter t) (k : ∀ σ H R, t' σ H R → t σ H R) : PI X tg iter t' := ⟨fun pins s σ H R I q => h.run pins s σ H R I (k σ H R q)⟩
theorem ItOk.le {F0 F1 : Hp} {J : It} {items : List PyData} (h : ItOk C F0 J items) (e : Le F0 F1) : ItOk C F1 J items :=
  ⟨fun i F H σ δ l => h.go i F H σ δ (e.trans l), fun i F H σ δ x H' z l => h.yld i F H σ δ x H' z (e.trans l), fun F H σ δ l => h.stop F H σ δ (e.trans l)⟩
/-! ### for -/
def forGo (t : STg) (s : SS) : List PyData → SS
  | [], δ => some (.nx δ)
  | x :: r, δ => match t x δ with
    | none => none
    | some δ1 => match s δ1 with
      | some (.nx δ2) => forGo t s r δ2
      | some (.ct δ2) => forGo t s r δ2
      | some (.bk δ2) => some (.nx δ2)
      | o => o
def forS (src : SI) (t : STg) (s : SS) : SS := bindS src fun items => forGo t s items
theorem ds_for {tg iter : Expr} {body : List Stmt} {src : SI} {t : STg} {s : SS} (hp : PassesOwn (model X.prog X.w) X.A X.env X.xe) (hc : X.calm = true) (hi : DI X C W tg iter src) (hg : DG X C tg t) (hb : DB X C W body s)
    (hs : ∀ x, foldedSetIterable iter X.env x = pure x := by intro _; rfl) : DS X C W (.For tg iter body [] pos) (forS src t s) := by
  refine ps_mono (ps_for hp hc hi hg hb hs) fun D σ H h => ?_
  obtain ⟨F, δ, R, h⟩ := h
  refine ⟨F, δ, (bindS_read R h).mono fun J H1 ⟨F1, δ1, items, _, S, R1, IT, q⟩ => ?_⟩
  have IT : ItOk C F1 J items := IT
  refine ⟨fun i m σ H => m = items.length - i ∧ i ≤ items.length ∧ ∃ F δ, Le F1 F ∧ Rp C F H σ δ ∧ SOk C W D F (forGo t s (items.drop i) δ), ⟨_, rfl, Nat.zero_le _, F1, δ1, Le.refl _, R1, by simpa using q⟩, ?_⟩
  rintro i m σ2 H2 ⟨rfl, hi2, F2, δ2, l2, R2, q2⟩
  by_cases hlt : i < items.length
  · refine .inr ⟨IT.go i F2 H2 σ2 δ2 l2 R2 hlt, fun σ' H' => ∃ F δ, Le F1 F ∧ Rp C F H' σ' δ ∧ SOk C W D F (forGo t s (items.drop (i + 1)) δ), fun σ' H' z => ⟨items.length - (i + 1), by omega, rfl, hlt, z⟩, fun x H' y => ?_⟩
    obtain ⟨F3, S3, R3, d3⟩ := IT.yld i F2 H2 σ2 δ2 x H' items[i] l2 R2 y (by simp [hlt])
    rw [List.drop_eq_getElem_cons hlt] at q2
    simp only [forGo] at q2
    cases z1 : t items[i] δ2 with
    | none => rw [z1] at q2; exact q2.elim
    | some δ3 =>
      rw [z1] at q2
      simp only at q2
      refine ⟨F3, δ2, items[i], δ3, R3, d3, z1, fun σ3 R4 => ⟨F3, δ3, R4, ?_⟩⟩
      have q3 := SOk.le q2 S3.ext
      have l3 := l2.trans S3.ext
      cases z2 : s δ3 with
      | none => rw [z2] at q3; exact q3.elim
      | some o =>
        rw [z2] at q3
        cases o with
        | nx δ4 => exact fun σ' F' H'' l R' => ⟨F', δ4, l3.trans l, R', SOk.le q3 l⟩
        | ct δ4 => exact fun σ' F' H'' l R' => ⟨F', δ4, l3.trans l, R', SOk.le q3 l⟩
        | bk δ4 => exact q3
        | rt r δ4 => exact q3
        | ex x δ4 => exact q3
  · have : i = items.length := by omega
    subst this
    refine .inl ⟨IT.stop F2 H2 σ2 δ2 l2 R2, ?_⟩
    rw [List.drop_length] at q2
    exact q2 σ2 F2 H2 (Le.refl _) R2
/-! ### while -/
def whileGo (g : SB) (s : SS) : Nat → SS
  | 0, _ => none
  | n + 1, δ => match g δ with
    | none => none
    | some (.ex e δ1) => some (.ex e δ1)
    | some (.ok false δ1) => some (.nx δ1)
    | some (.ok true δ1) => match s δ1 with
      | some (.nx δ2) => whileGo g s n δ2
      | some (.ct δ2) => whileGo g s n δ2
      | some (.bk δ2) => some (.nx δ2)
      | o => o
def whileS (n : Nat) (g : SB) (s : SS) : SS := whileGo g s n
theorem ds_while {body : List Stmt} {s : SS} {n : Nat} (hp : PassesOwn (model X.prog X.w) X.A X.env X.xe) (hc : DT X C W c g) (hb : DB X C W body s) : DS X C W (.While c body [] pos) (whileS n g s) := by
  refine ps_mono (ps_while hp hc hb) fun D σ H ⟨F, δ, R, h⟩ => ?_
  refine ⟨fun m σ H => ∃ F δ, Rp C F H σ δ ∧ SOk C W D F (whileGo g s m δ), ⟨n, F, δ, R, h⟩, ?_⟩
  rintro m σ1 H1 ⟨F1, δ1, R1, q1⟩
  cases m with
  | zero => exact q1.elim
  | succ m =>
    have q1' : SOk C W D F1 (bindS g (fun k δ1 => if k = true then (match s δ1 with
      | some (.nx δ2) => whileGo g s m δ2
      | some (.ct δ2) => whileGo g s m δ2
      | some (.bk δ2) => some (.nx δ2)
      | o => o) else some (.nx δ1)) δ1) := by
      simp only [whileGo] at q1
      unfold bindS
      cases z : g δ1 with
      | none => rw [z] at q1; exact q1
      | some o =>
        rw [z] at q1
        cases o with
        | ex e δ2 => exact q1
        | ok k δ2 => cases k <;> exact q1
    refine bindST (D := D) ⟨F1, δ1, R1, q1'⟩ fun v F2 H2 δ2 R2 q2 => ?_
    cases v with
    | false =>
      rw [if_neg (by decide)]
      rw [if_neg (by decide)] at q2
      exact q2 σ1 F2 H2 (Le.refl _) R2
    | true =>
      rw [if_pos rfl]
      rw [if_pos rfl] at q2
      refine ⟨fun σ' H' => ∃ F δ, Rp C F H' σ' δ ∧ SOk C W D F (whileGo g s m δ), fun σ' H' z => ⟨m, by omega, z⟩, F2, δ2, R2, ?_⟩
      cases z2 : s δ2 with
      | none => rw [z2] at q2; exact q2.elim
      | some o =>
        rw [z2] at q2
        cases o with
        | nx δ4 => exact fun σ' F' H'' l R' => ⟨F', δ4, R', SOk.le q2 l⟩
        | ct δ4 => exact fun σ' F' H'' l R' => ⟨F', δ4, R', SOk.le q2 l⟩
        | bk δ4 => exact q2
        | rt r δ4 => exact q2
        | ex x δ4 => exact q2
end
end DL

namespace DL
open PySem PySem.Spec PyProof.Rows L2
/-! ### defs and their calls -/
/-- nothing is known of the def's own entry -/
def C1 (K : PySem.W.Frag) : DC := ⟨K, fun _ => 0, fun _ => none, fun _ => none, fun _ => True⟩
def WO (E : XK) : XW := fun c od _ H => E c od H
def spD (K : PySem.W.Frag) (Fs : SE) : Sp := fun vs H Q E => tD (C1 K) (WO E) Fs (vs.map some) H Q
structure FnG (P : Program) (w : World) (K : PySem.W.Frag) (mg : Str → Option Value) (base : Heap) (k : Nat) (f : Addr) (fd : FuncData) (ps : List Str) (Fs : SE) : Prop where
  len : ∀ args o, Fs args = some o → args.length = ps.length
  run : ∀ (A : Around) (outer : List Env) (s : Shared) (H : Hp) (args : Args) (us : List Value) (vs : List V) (Q : VK) (E : XK), A.guards = some [] → Room k A → Env0 P w K mg base A outer s H →
    BindsTo s fd args (ps.zip us) → Vals vs us → spD K Fs vs H Q E → codeAny (model P w) A (.call (.ref f) args) (CR (CX P w) outer P w H s Q E) s
theorem FnG.mono {P : Program} {w : World} {K : PySem.W.Frag} {mg : Str → Option Value} {base : Heap} {j k : Nat} {f : Addr} {fd : FuncData} {ps : List Str} {Fs : SE} (G : FnG P w K mg base j f fd ps Fs) (h : j ≤ k) : FnG P w K mg base k f fd ps Fs :=
  ⟨G.len, fun A outer s H args us vs Q E hg hr => G.run A outer s H args us vs Q E hg (hr.mono h)⟩
theorem spD_len {K : PySem.W.Frag} {Fs : SE} {n : Nat} (h : ∀ args o, Fs args = some o → args.length = n) {vs : List V} {H : Hp} {Q : VK} {E : XK} (s : spD K Fs vs H Q E) : vs.length = n := by
  obtain ⟨F, δ, z⟩ := s
  obtain ⟨o, ho⟩ := z.some
  have := z.1.len
  rw [List.length_map] at this
  rw [← this]
  exact h _ _ ho
theorem FnG.imp {P : Program} {w : World} {K : PySem.W.Frag} {mg : Str → Option Value} {base : Heap} {k : Nat} {f : Addr} {fd : FuncData} {ps : List Str} {Fs Fs' : SE} (G : FnG P w K mg base k f fd ps Fs) (h : ∀ args o, Fs' args = some o → Fs args = some o) : FnG P w K mg base k f fd ps Fs' :=
  ⟨fun args o e => G.len args o (h args o e), fun A outer s H args us vs Q E hg hr e0 hb hv ⟨F, δ, R, z⟩ => G.run A outer s H args us vs Q E hg hr e0 hb hv ⟨F, δ, R, by
    cases q : Fs' δ with
    | none => rw [q] at z; exact z.elim
    | some o => rw [h _ _ q]; rw [q] at z; exact z⟩⟩
section
variable {X : Cx} {C : DC} {W : XW} {F F' H H' : Hp} {σ : Sg} {δ δ' : List SV}
theorem takes_no : Takes X (fun _ _ _ _ => False) := fun u s' ⟨_, _, _, _, _, _, _, _, _, _, _, _, _, _, _, _, z⟩ => z.elim
theorem run_g {pins : List (Addr × Obj)} {s : Shared} {Q : VK} {us all : List Value} {kw : List (Str × Value)} {vs : List V} {k : Nat} {f : Addr} {fd : FuncData} {ps : List Str} {Fs : SE}
    (G : FnG X.prog X.w X.K X.mg X.base k f fd ps Fs) (hg : X.A.guards = some []) (hr : Room k X.A) (tk : Takes X W) (I : Inv X pins σ H s) (hb : BindsTo s fd ⟨us, kw⟩ (ps.zip all)) (r : Vals vs all)
    (h : spD X.K Fs vs H Q (WE W σ)) : wpAny (model X.prog X.w) X.A (call (.ref f) us kw) (EP X pins σ Q) X.xe s := by
  refine wpAny_call (codeAny_mono (G.run X.A X.stack s H ⟨us, kw⟩ all vs Q _ hg hr I.env0 hb r h) fun r s' hq => ?_)
  cases r with
  | error e => exact passAt tk σ pins H s e s' I hq
  | ok fl =>
    cases fl with
    | ret u => exact I.after hq
    | next => exact False.elim hq
    | brk => exact False.elim hq
    | cont => exact False.elim hq
/-! from what was evaluated to a callee's arguments, and back -/
def argOf (δ : List SV) : Res → Option SV
  | .d x => some (.d x)
  | .b i => match δ[i]? with
    | some (.L _ xs) => some (.L 0 xs)
    | some (.M _ ks) => some (.M 0 ks)
    | some (.d x) => some (.d x)
    | _ => none
  | _ => none
def bIx : Res → Option Nat
  | .b i => some i
  | _ => none
def backOf : List Res → List SV → List SV → Option (List SV)
  | [], [], δ => some δ
  | .d _ :: rs, _ :: os, δ => backOf rs os δ
  | .b i :: rs, o :: os, δ => match o, δ[i]? with
    | .L _ xs, some (.L k _) => backOf rs os (δ.set i (.L k xs))
    | .M _ xs, some (.M k _) => backOf rs os (δ.set i (.M k xs))
    | .d _, some (.d _) => backOf rs os δ
    | _, _ => none
  | _, _, _ => none
def argsOf (rs : List Res) (δ : List SV) : Option (List SV) := if (rs.filterMap bIx).Nodup then rs.mapM (argOf δ) else none
theorem mapM_cons_some {α β : Type} {f : α → Option β} {x : α} {r : List α} {ys : List β} (h : (x :: r).mapM f = some ys) : ∃ y zs, f x = some y ∧ r.mapM f = some zs ∧ ys = y :: zs := by
  rw [List.mapM_cons] at h
  cases q : f x with
  | none => simp [q] at h
  | some y =>
    cases q2 : r.mapM f with
    | none => simp [q, q2] at h
    | some zs => simp [q, q2] at h; exact ⟨y, zs, rfl, rfl, h.symm⟩
theorem mapM_get {α β : Type} {f : α → Option β} : ∀ {l : List α} {ys : List β}, l.mapM f = some ys → ∀ (i : Nat) y, ys[i]? = some y → ∃ x, l[i]? = some x ∧ f x = some y
  | [], ys, h, i, y, e => by simp at h; subst h; simp at e
  | x :: r, ys, h, i, y, e => by
    obtain ⟨y0, zs, h1, h2, rfl⟩ := mapM_cons_some h
    cases i with
    | zero => simp at e; subst e; exact ⟨x, rfl, h1⟩
    | succ i =>
      obtain ⟨x', h3, h4⟩ := mapM_get h2 i y (by simpa using e)
      exact ⟨x', by simpa using h3, h4⟩
theorem mapM_len {α β : Type} {f : α → Option β} : ∀ {l : List α} {ys : List β}, l.mapM f = some ys → ys.length = l.length
  | [], ys, h => by simp at h; subst h; rfl
  | x :: r, ys, h => by
    obtain ⟨y0, zs, h1, h2, rfl⟩ := mapM_cons_some h
    simp [mapM_len h2]
theorem RVs.at {Hs : Hp} : ∀ {vs : List V} {rs : List Res}, RVs C F H σ Hs vs rs → ∀ (i : Nat) v, vs[i]? = some v → ∃ r, rs[i]? = some r ∧ RV C F H σ Hs v r ∧ r.isPk = true
  | _, _, .nil, i, v, e => by simp at e
  | _, _, .cons h p t, 0, v, e => by simp at e; subst e; exact ⟨_, rfl, h, p⟩
  | _, _, .cons h p t, i + 1, v, e => by
    obtain ⟨r, h1, h2⟩ := RVs.at t i v (by simpa using e)
    exact ⟨r, by simpa using h1, h2⟩
theorem RVs.len {Hs : Hp} : ∀ {vs : List V} {rs : List Res}, RVs C F H σ Hs vs rs → vs.length = rs.length
  | _, _, .nil => rfl
  | _, _, .cons _ _ t => congrArg (· + 1) (RVs.len t)
theorem bIx_inj : ∀ {rs : List Res}, (rs.filterMap bIx).Nodup → ∀ (p q : Nat) i, rs[p]? = some (.b i) → rs[q]? = some (.b i) → p = q
  | [], _, p, q, i, e, _ => by simp at e
  | r :: rs, nd, p, q, i, e1, e2 => by
    have mem : ∀ (p : Nat), rs[p]? = some (.b i) → i ∈ rs.filterMap bIx := fun p h => List.mem_filterMap.mpr ⟨_, List.mem_of_getElem? h, rfl⟩
    have tl : (rs.filterMap bIx).Nodup := by
      cases r with
      | b j => simp only [List.filterMap_cons, bIx] at nd; exact (List.nodup_cons.mp nd).2
      | d x => simpa [List.filterMap_cons, bIx] using nd
      | nL x => simpa [List.filterMap_cons, bIx] using nd
      | nM x => simpa [List.filterMap_cons, bIx] using nd
    cases p with
    | zero =>
      cases q with
      | zero => rfl
      | succ q =>
        simp at e1 e2
        subst e1
        simp only [List.filterMap_cons, bIx] at nd
        exact absurd (mem q e2) (List.nodup_cons.mp nd).1
    | succ p =>
      cases q with
      | zero =>
        simp at e1 e2
        subst e2
        simp only [List.filterMap_cons, bIx] at nd
        exact absurd (mem p e1) (List.nodup_cons.mp nd).1
      | succ q =>
        simp at e1 e2
        exact congrArg (· + 1) (bIx_inj tl p q i e1 e2)
/-- what stands behind the call: the slots handed in, and the others -/
theorem back_spec : ∀ {rs : List Res} {os δ δ2 : List SV}, backOf rs os δ = some δ2 → (rs.filterMap bIx).Nodup →
    δ2.length = δ.length ∧ os.length = rs.length ∧ (∀ j, (∀ p : Nat, rs[p]? ≠ some (.b j)) → δ2[j]? = δ[j]?) ∧
    (∀ (p : Nat) i o, rs[p]? = some (.b i) → os[p]? = some o → (∃ n k xs ys, o = .L n xs ∧ δ[i]? = some (.L k ys) ∧ δ2[i]? = some (.L k xs)) ∨ (∃ n k xs ys, o = .M n xs ∧ δ[i]? = some (.M k ys) ∧ δ2[i]? = some (.M k xs)) ∨ (∃ x y, o = .d x ∧ δ[i]? = some (.d y) ∧ δ2[i]? = some (.d y)))
  | [], [], δ, δ2, h, _ => by
    simp [backOf] at h; subst h
    exact ⟨rfl, rfl, fun _ _ => rfl, fun p i o e => by simp at e⟩
  | [], _ :: _, _, _, h, _ => by simp [backOf] at h
  | .d x :: rs, [], _, _, h, _ => by simp [backOf] at h
  | .b i :: rs, [], _, _, h, _ => by simp [backOf] at h
  | .nL x :: rs, [], _, _, h, _ => by simp [backOf] at h
  | .nM x :: rs, [], _, _, h, _ => by simp [backOf] at h
  | .nL x :: rs, _ :: _, _, _, h, _ => by simp [backOf] at h
  | .nM x :: rs, _ :: _, _, _, h, _ => by simp [backOf] at h
  | .d x :: rs, o :: os, δ, δ2, h, nd => by
    simp only [backOf] at h
    obtain ⟨l1, l2, h1, h2⟩ := back_spec h (by simpa [List.filterMap_cons, bIx] using nd)
    refine ⟨l1, by simp [l2], fun j hj => h1 j fun p => by simpa using hj (p + 1), fun p i o' e1 e2 => ?_⟩
    cases p with
    | zero => simp at e1
    | succ p => exact h2 p i o' (by simpa using e1) (by simpa using e2)
  | .b i :: rs, o :: os, δ, δ2, h, nd => by
    have nd' := nd
    simp only [List.filterMap_cons, bIx] at nd
    obtain ⟨ni, tl⟩ := List.nodup_cons.mp nd
    have noti : ∀ p : Nat, rs[p]? ≠ some (.b i) := fun p e => ni (List.mem_filterMap.mpr ⟨_, List.mem_of_getElem? e, rfl⟩)
    have key : ∀ (δ1 : List SV) (s : SV), δ1.length = δ.length → (∀ j, j ≠ i → δ1[j]? = δ[j]?) → backOf rs os δ1 = some δ2 → 
        (δ1[i]? = some s → ((∃ n k xs ys, o = .L n xs ∧ δ[i]? = some (.L k ys) ∧ s = .L k xs) ∨ (∃ n k xs ys, o = .M n xs ∧ δ[i]? = some (.M k ys) ∧ s = .M k xs) ∨ (∃ x y, o = .d x ∧ δ[i]? = some (.d y) ∧ s = .d y))) → δ1[i]? = some s →
        δ2.length = δ.length ∧ (o :: os).length = (Res.b i :: rs).length ∧ (∀ j, (∀ p : Nat, (Res.b i :: rs)[p]? ≠ some (.b j)) → δ2[j]? = δ[j]?) ∧
        (∀ (p : Nat) i' o', (Res.b i :: rs)[p]? = some (.b i') → (o :: os)[p]? = some o' → (∃ n k xs ys, o' = .L n xs ∧ δ[i']? = some (.L k ys) ∧ δ2[i']? = some (.L k xs)) ∨ (∃ n k xs ys, o' = .M n xs ∧ δ[i']? = some (.M k ys) ∧ δ2[i']? = some (.M k xs)) ∨ (∃ x y, o' = .d x ∧ δ[i']? = some (.d y) ∧ δ2[i']? = some (.d y))) := by
      intro δ1 s hl hj hb hs hi
      obtain ⟨l1, l2, h1, h2⟩ := back_spec hb tl
      have hi2 : δ2[i]? = some s := by rw [h1 i noti]; exact hi
      refine ⟨l1.trans hl, by simp [l2], fun j hjj => ?_, fun p i' o' e1 e2 => ?_⟩
      · have nj : j ≠ i := fun z => hjj 0 (by simp [z])
        rw [h1 j fun p => by simpa using hjj (p + 1), hj j nj]
      · cases p with
        | zero =>
          simp at e1 e2
          subst e1 e2
          rcases hs hi with ⟨n, k, xs, ys, a, b, c⟩ | ⟨n, k, xs, ys, a, b, c⟩ | ⟨x, y, a, b, c⟩
          · exact .inl ⟨n, k, xs, ys, a, b, by rw [hi2, c]⟩
          · exact .inr (.inl ⟨n, k, xs, ys, a, b, by rw [hi2, c]⟩)
          · exact .inr (.inr ⟨x, y, a, b, by rw [hi2, c]⟩)
        | succ p =>
          have e1' : rs[p]? = some (.b i') := by simpa using e1
          have ne : i' ≠ i := fun z => noti p (by rw [← z]; exact e1')
          have := h2 p i' o' e1' (by simpa using e2)
          rw [hj i' ne] at this
          exact this
    simp only [backOf] at h
    cases q : δ[i]? with
    | none => cases o <;> simp [q] at h
    | some t =>
      have hil : i < δ.length := (List.getElem?_eq_some_iff.mp q).1
      cases o with
      | u => simp [q] at h
      | d x =>
        cases t with
        | d y =>
          simp only [q] at h
          exact key δ (.d y) rfl (fun _ _ => rfl) h (fun _ => .inr (.inr ⟨x, y, rfl, q, rfl⟩)) q
        | _ => simp [q] at h
      | L n xs =>
        cases t with
        | L k ys =>
          simp only [q] at h
          exact key (δ.set i (.L k xs)) (.L k xs) (by simp) (fun j nj => List.getElem?_set_ne (Ne.symm nj)) h (fun _ => .inl ⟨n, k, xs, ys, rfl, q, rfl⟩) (by rw [List.getElem?_set_self hil])
        | _ => simp [q] at h
      | M n xs =>
        cases t with
        | M k ys =>
          simp only [q] at h
          exact key (δ.set i (.M k xs)) (.M k xs) (by simp) (fun j nj => List.getElem?_set_ne (Ne.symm nj)) h (fun _ => .inr (.inl ⟨n, k, xs, ys, rfl, q, rfl⟩)) (by rw [List.getElem?_set_self hil])
        | _ => simp [q] at h
/-- a call of a def whose function is known -/
def applyE (Fs : SE) (rs : List Res) : SE := fun δ =>
  match argsOf rs δ with
  | none => none
  | some args => match Fs args with
    | none => none
    | some (.ok r os) => if r.isR = true then (backOf rs os δ).map (.ok r) else none
    | some (.ex e os) => (backOf rs os δ).map (.ex e)
theorem call_core {K : PySem.W.Frag} {Fs : SE} {rs : List Res} {vs : List V} {Q : VK} {Hs : Hp} (hK : C.K = K) (V1 : RVs C F H σ Hs vs rs) (h : tX C W (RVl C) (applyE Fs rs) F H σ δ Q) : spD K Fs vs H Q (WE W σ) := by
  subst hK
  have R := h.1
  obtain ⟨o, ho⟩ := h.some
  have ho' := ho
  unfold applyE at ho
  cases qa : argsOf rs δ with
  | none => simp only [qa] at ho; cases ho
  | some args =>
    simp only [qa] at ho
    unfold argsOf at qa
    split at qa
    · rename_i nd
      have len1 := mapM_len qa
      have vl := V1.len
      -- the place of an argument
      have argAt : ∀ (p : Nat) s, args[p]? = some s → ∃ r v, rs[p]? = some r ∧ vs[p]? = some v ∧ RV C F H σ Hs v r ∧ argOf δ r = some s := fun p s e => by
        obtain ⟨r, h1, h2⟩ := mapM_get qa p s e
        have hp : p < rs.length := (List.getElem?_eq_some_iff.mp h1).1
        have hv : vs[p]? = some (vs[p]'(by omega)) := List.getElem?_eq_getElem (by omega)
        obtain ⟨r', h3, h4, _⟩ := V1.at p _ hv
        rw [h1] at h3; cases h3
        exact ⟨r, _, h1, hv, h4, h2⟩
      have vmap : ∀ (p : Nat) v, vs[p]? = some v → (vs.map some)[p]? = some (some v) := fun p v e => by rw [List.getElem?_map, e]; rfl
      have vmap' : ∀ (p : Nat) x, (vs.map some)[p]? = some x → ∃ v, vs[p]? = some v ∧ x = some v := fun p x e => by
        rw [List.getElem?_map] at e
        cases z : vs[p]? with
        | none => rw [z] at e; cases e
        | some v => rw [z] at e; cases e; exact ⟨v, rfl, rfl⟩
      -- an owned argument is a slot's own
      have ownArg : ∀ (p : Nat) s a, args[p]? = some s → s.own = true → (vs.map some)[p]? = some (some (.ref a)) → ∃ i t, rs[p]? = some (.b i) ∧ δ[i]? = some t ∧ t.own = true ∧ σ[i]? = some (some (V.ref a)) := fun p s a e1 e2 e3 => by
        obtain ⟨r, v, h1, h2, h3, h4⟩ := argAt p s e1
        obtain ⟨v', h5, h6⟩ := vmap' p _ e3
        rw [h2] at h5; cases h5; cases h6
        cases r with
        | d x => cases h4; cases e2
        | nL x => cases h4
        | nM x => cases h4
        | b i =>
          simp only [argOf] at h4
          cases z : δ[i]? with
          | none => rw [z] at h4; cases h4
          | some t =>
            rw [z] at h4
            cases t with
            | u => cases h4
            | d x => cases h4; cases e2
            | L k xs => exact ⟨i, _, h1, z, rfl, h3⟩
            | M k xs => exact ⟨i, _, h1, z, rfl, h3⟩
      have R1 : Rp (C1 C.K) F H (vs.map some) args := by
        refine ⟨R.ext, by rw [len1, List.length_map, vl], fun p x s hx hs => ?_, fun p q s t a h1 h2 h3 h4 h5 h6 => ?_, fun p s a h1 h2 h3 => ⟨fun _ => trivial, fun _ => rfl⟩, fun a o e => (by cases e), fun a u e => (by rcases e with e | ⟨_, e⟩ <;> cases e), fun a e => absurd rfl e⟩
        · obtain ⟨v, hv, rfl⟩ := vmap' p x hx
          obtain ⟨r, v', h1, h2, h3, h4⟩ := argAt p s hs
          rw [hv] at h2; cases h2
          cases r with
          | d x => cases h4; exact ⟨v, rfl, h3⟩
          | nL x => cases h4
          | nM x => cases h4
          | b i =>
            have h3 : σ[i]? = some (some v) := h3
            simp only [argOf] at h4
            cases z : δ[i]? with
            | none => rw [z] at h4; cases h4
            | some t =>
              have k := R.slot i _ t h3 z
              rw [z] at h4
              cases t with
              | u => cases h4
              | d x => cases h4; exact k
              | L n xs =>
                cases h4
                obtain ⟨a, ys, e1, _, k2⟩ := k
                exact ⟨a, ys, e1, fun z => absurd rfl z, k2⟩
              | M n xs =>
                cases h4
                obtain ⟨a, ys, e1, _, k2⟩ := k
                exact ⟨a, ys, e1, fun z => absurd rfl z, k2⟩
        · obtain ⟨i, t1, g1, g2, g3, g4⟩ := ownArg p s a h1 h2 h5
          obtain ⟨j, t2, k1, k2, k3, k4⟩ := ownArg q t a h3 h4 h6
          have : i = j := R.apart i j t1 t2 a g2 g3 k2 k3 g4 k4
          subst this
          exact bIx_inj nd p q i g1 k1
      have ownIn : ∀ a, OwnedAt (vs.map some) args a → OwnedAt σ δ a := fun a ⟨p, s, h1, h2, h3⟩ =>
        let ⟨i, t, _, g2, g3, g4⟩ := ownArg p s a h1 h2 h3
        ⟨i, t, g2, g3, g4⟩
      -- from the callee's end to ours
      have fin : ∀ (os δ2 : List SV) (F2 H2 : Hp), backOf rs os δ = some δ2 → Stp F H (vs.map some) args F2 H2 os → Rp (C1 C.K) F2 H2 (vs.map some) os → Stp F H σ δ F2 H2 δ2 ∧ Rp C F2 H2 σ δ2 := fun os δ2 F2 H2 hb S2 R2 => by
        obtain ⟨l1, l2, sp1, sp2⟩ := back_spec hb nd
        have isB : ∀ j, (∃ p : Nat, rs[p]? = some (.b j)) ∨ ∀ p : Nat, rs[p]? ≠ some (.b j) := fun j => by
          by_cases z : ∃ p : Nat, rs[p]? = some (.b j)
          · exact .inl z
          · exact .inr fun p e => z ⟨p, e⟩
        have osAt : ∀ (p : Nat) j, rs[p]? = some (.b j) → ∃ o, os[p]? = some o := fun p j e => by
          have hp : p < rs.length := (List.getElem?_eq_some_iff.mp e).1
          exact ⟨os[p]'(by omega), List.getElem?_eq_getElem (by omega)⟩
        have S3 : Stp F H σ δ F2 H2 δ2 := by
          refine ⟨S2.ext, fun a o e n => S2.frm a o e fun z => n (ownIn a z), S2.pers, fun i s e1 e2 => ?_⟩
          rcases isB i with ⟨p, hp⟩ | hn
          · obtain ⟨o, ho⟩ := osAt p i hp
            rcases sp2 p i o hp ho with ⟨n, k, xs, ys, _, b, c⟩ | ⟨n, k, xs, ys, _, b, c⟩ | ⟨x, y, _, b, c⟩
            · rw [c] at e1; cases e1; exact ⟨_, b, rfl, rfl⟩
            · rw [c] at e1; cases e1; exact ⟨_, b, rfl, rfl⟩
            · rw [c] at e1; cases e1; cases e2
          · rw [sp1 i hn] at e1
            exact ⟨s, e1, e2, rfl⟩
        refine ⟨S3, R.step S3 R2.ext l1 fun i x s hx hs => ?_⟩
        rcases isB i with ⟨p, hp⟩ | hn
        · obtain ⟨o, ho⟩ := osAt p i hp
          have hpl : p < vs.length := by
            have := (List.getElem?_eq_some_iff.mp hp).1
            omega
          have hv : vs[p]? = some vs[p] := List.getElem?_eq_getElem hpl
          obtain ⟨r', g1, g2, _⟩ := V1.at p _ hv
          rw [hp] at g1; cases g1
          have g2 : σ[i]? = some (some vs[p]) := g2
          rw [hx] at g2; cases g2
          have k := R2.slot p _ o (vmap p _ hv) ho
          rcases sp2 p i o hp ho with ⟨n, k', xs, ys, eo, b, c⟩ | ⟨n, k', xs, ys, eo, b, c⟩ | ⟨y, z, eo, b, c⟩
          · rw [c] at hs; cases hs
            subst eo
            obtain ⟨a, zs, e1, _, k2⟩ := k
            obtain ⟨a', zs', e1', lb, _⟩ := R.slot i _ _ hx b
            rw [e1] at e1'; cases e1'
            exact ⟨a, zs, e1, lb, k2⟩
          · rw [c] at hs; cases hs
            subst eo
            obtain ⟨a, zs, e1, _, k2⟩ := k
            obtain ⟨a', zs', e1', lb, _⟩ := R.slot i _ _ hx b
            rw [e1] at e1'; cases e1'
            exact ⟨a, zs, e1, lb, k2⟩
          · rw [c] at hs; cases hs
            exact (R.slot i _ _ hx b).mono S2.ext fun _ _ z => by cases z
        · rw [sp1 i hn] at hs
          refine (R.slot i x s hx hs).mono S2.ext fun a ea es o ho => ?_
          subst ea
          have no : ¬ OwnedAt (vs.map some) args a := fun ⟨p, t, h1, h2, h3⟩ => by
            obtain ⟨j, t', g1, g2, g3, g4⟩ := ownArg p t a h1 h2 h3
            have := R.apart i j s t' a hs es g2 g3 hx g4
            exact hn p (by rw [this]; exact g1)
          obtain ⟨z1, z2⟩ := S2.frm a o ho no
          exact ⟨z1, z2 (R.owned_there ⟨i, s, hs, es, hx⟩).2⟩
      refine ⟨F, args, R1, ?_⟩
      cases qf : Fs args with
      | none => simp only [qf] at ho; cases ho
      | some o2 =>
        simp only [qf] at ho
        cases o2 with
        | ok r os =>
          simp only at ho
          split at ho
          · rename_i hr
            cases qb : backOf rs os δ with
            | none => rw [qb] at ho; cases ho
            | some δ2 =>
              rw [qb] at ho
              cases ho
              intro v F2 H2 S2 R2 V2
              obtain ⟨S3, R3⟩ := fin os δ2 F2 H2 qb S2 R2
              refine h.use ho' S3 R3 ?_
              cases r with
              | d x => exact V2
              | b i => cases hr
              | nL x => exact V2
              | nM x => exact V2
          · cases ho
        | ex e os =>
          simp only at ho
          cases qb : backOf rs os δ with
          | none => rw [qb] at ho; cases ho
          | some δ2 =>
            rw [qb] at ho
            cases ho
            intro F2 H2 od S2 R2 x2
            obtain ⟨S3, R3⟩ := fin os δ2 F2 H2 qb S2 R2
            obtain ⟨_, hh⟩ := h
            rw [ho'] at hh
            exact hh F2 H2 od S3 R3 x2
    · cases qa
/-! the calls -/
def DK (X : Cx) (C : DC) (W : XW) (kws : List Keyword) (g : SA) : Prop := PK X kws (tAr C W g)
theorem pk_mono {kws : List Keyword} {t t' : TA} (h : PK X kws t) (k : ∀ σ H Q, t' σ H Q → t σ H Q) : PK X kws t' := ⟨fun pos pins s σ H Q I q => h.run pos pins s σ H Q I (k σ H Q q)⟩
theorem dk_nil : DK X C W [] nilA := pk_mono pk_nil fun σ H Q ⟨F, δ, h⟩ => h.use (δ' := δ) rfl Stp.refl h.1 .nil
theorem dk_cons {nm : Option Str} {e : Expr} {kpos : Pos} {kws : List Keyword} {f : SE} {g : SA} (hp : ∀ δ r δ', f δ = some (.ok r δ') → r.isPk = true) (ha : DE X C W e f) (hr : DK X C W kws g) : DK X C W (⟨nm, e, kpos⟩ :: kws) (consA f g) := by
  refine pk_mono (pk_cons ha hr) fun σ H Q ⟨F, δ, h⟩ => ?_
  refine bindV (RVb := RVs C) (mbA) h fun v F1 H1 δ1 r1 e1 S1 R1 V1 h1 => ?_
  refine bindA (RVb := RVs C) (mbA) h1 fun vs F2 H2 δ2 rs e2 S2 R2 V2 h2 => ?_
  exact h2.use (δ' := δ2) rfl Stp.refl R2 (.cons (V1.after (hp _ _ _ e1) S2) (hp _ _ _ e1) (V2.after (Stp.refl (δ := δ2))))
theorem dk_e {nm : Option Str} {e : Expr} {kpos : Pos} {kws : List Keyword} {f : SE} {g : SA} (ha : DE X C W e f) (hr : DK X C W kws g) : DK X C W (⟨nm, e, kpos⟩ :: kws) (consA (escE f) g) := dk_cons (fun _ _ _ => esc_pk) (de_esc ha) hr
theorem dk_p {nm : Option Str} {e : Expr} {kpos : Pos} {kws : List Keyword} {f : SE} {g : SA} (ha : DE X C W e f) (hr : DK X C W kws g) : DK X C W (⟨nm, e, kpos⟩ :: kws) (consA (pkE f) g) := dk_cons (fun _ _ _ => pk_isPk) (de_pk ha) hr
/-- how a call's values are put into the parameters' order: us the written ones, ws the keywords'; dv: values that stand for what is left out -/
structure KB (K : PySem.W.Frag) (fd : FuncData) (ps ks : List Str) (n : Nat) (put : {α : Type} → List α → List α → List α → List α) (dv : List V) (dx : List D) : Prop where
  to : ∃ ds : List Value, Vals dv ds ∧ ∀ (s : Shared) (us ws : List Value), K.In s.heap → us.length = n → ws.length = ks.length → BindsTo s fd ⟨us, ks.zip ws⟩ (ps.zip (put us ws ds))
  rel : ∀ {us : List V} {us' : List Value} {ws : List V} {ws' : List Value} {ds : List V} {ds' : List Value}, Vals us us' → Vals ws ws' → Vals ds ds' → Vals (put us ws ds) (put us' ws' ds')
  res : ∀ (C : DC) (F H : Hp) (σ : Sg) (Hs : Hp) (us ws ds : List V) (rs qs es : List Res), RVs C F H σ Hs us rs → RVs C F H σ Hs ws qs → RVs C F H σ Hs ds es → RVs C F H σ Hs (put us ws ds) (put rs qs es)
  dat : ∀ (C : DC) (F H : Hp) (σ : Sg) (Hs : Hp), RVs C F H σ Hs dv (dx.map Res.d)
def callE (Fs : SE) (n m : Nat) (put : {α : Type} → List α → List α → List α → List α) (dx : List D) (g k : SA) : SE := bindE g fun rs => if rs.length = n then bindE k fun qs => if qs.length = m then applyE Fs (put rs qs (dx.map Res.d)) else fun _ => none else fun _ => none
variable {k n : Nat} {f : Addr} {fd : FuncData} {ps ks : List Str} {Fs : SE} {x : Str} {p pos : Pos} {e : Expr} {es : List Expr} {kws : List Keyword} {g gk : SA} {put : {α : Type} → List α → List α → List α → List α} {dv : List V} {dx : List D}
theorem tX.none_f {α β : Type} {RVa : Hp → Hp → Sg → Hp → β → α → Prop} {Q : β → Hp → Prop} (h : tX C W RVa (fun _ => none) F H σ δ Q) : False := h.2
theorem call_read {σ : Sg} {H : Hp} {Q : VK} (hK : C.K = X.K) (B : KB X.K fd ps ks n put dv dx) (h : tD C W (callE Fs n ks.length put dx g gk) σ H Q) :
    tAr C W g σ H fun vs H1 => vs.length = n ∧ tAr C W gk σ H1 fun zs H2 => zs.length = ks.length ∧ spD X.K Fs (put vs zs dv) H2 Q (WE W σ) := by
  obtain ⟨F, δ, h⟩ := h
  refine bindA (RVb := RVl C) (mbV) h fun vs F1 H1 δ1 rs e1 S1 R1 V1 h1 => ?_
  by_cases hn : rs.length = n
  · rw [if_pos hn] at h1
    refine ⟨V1.len.trans hn, ?_⟩
    refine bindA (RVb := RVl C) (mbV) h1 fun zs F2 H2 δ2 qs e2 S2 R2 V2 h2 => ?_
    by_cases hm : qs.length = ks.length
    · rw [if_pos hm] at h2
      exact ⟨V2.len.trans hm, call_core hK (B.res C F2 H2 σ H1 _ _ _ _ _ _ (V1.after S2) V2 (B.dat C F2 H2 σ H1)) h2⟩
    · rw [if_neg hm] at h2
      exact (tX.none_f h2).elim
  · rw [if_neg hn] at h1
    exact (tX.none_f h1).elim
theorem run_kb {pins : List (Addr × Obj)} {s : Shared} {Q : VK} {us ws : List Value} {vs zs : List V} (G : FnG X.prog X.w X.K X.mg X.base k f fd ps Fs) (hgd : X.A.guards = some []) (hr : Room k X.A) (tk : Takes X W) (B : KB X.K fd ps ks n put dv dx)
    (I : Inv X pins σ H s) (r : Vals vs us) (rz : Vals zs ws) (l1 : vs.length = n) (l2 : zs.length = ks.length) (h : spD X.K Fs (put vs zs dv) H Q (WE W σ)) : wpAny (model X.prog X.w) X.A (call (.ref f) us (ks.zip ws)) (EP X pins σ Q) X.xe s := by
  obtain ⟨ds, hd, hb⟩ := B.to
  exact run_g G hgd hr tk I (hb s us ws I.kIn (r.length.symm.trans l1) (rz.length.symm.trans l2)) (B.rel r rz hd) h
/-- f(e, ..) -/
theorem de_call (hK : C.K = X.K) (G : FnG X.prog X.w X.K X.mg X.base k f fd ps Fs) (hgd : X.A.guards = some []) (hr : Room k X.A) (tk : Takes X W) (hg : Gl X x) (hm : X.mg x = some (.ref f)) (hk : PySem.W.keepIn X.K (.ref f) = true) (B : KB X.K fd ps [] n put dv dx) (ha : DA X C W (e :: es) g)
    (hdb : (x == ("__debug__" : Str)) = false := by decide) (he : starEach (e :: es) X.env = (false, eval e X.env) :: starEach es X.env := by rfl) (hpl : (backTo pos (starEach es X.env)).any (·.1) = false := by rfl) :
    DE X C W (.Call (.Name x p) (e :: es) [] pos) (callE Fs n 0 put dx g nilA) := by
  refine ⟨fun pins s σ H Q I h => ?_⟩
  have h' := call_read (ks := []) hK B h
  refine wpAny_Call_Name_kw (ld_glob I hg hm ?_ hdb)
  refine PySem.W.callWith_K (h₀ := X.base) I.ok.mod.kin hk (thn (ha.run pos pins s σ H _ I h') fun us s1 ⟨vs, H1, I1, r, l1, q⟩ => ⟨I1.kIn, ?_⟩) he hpl
  have q' : ∃ zs H2, H2 = H1 ∧ zs = ([] : List V) ∧ spD X.K Fs (put vs zs dv) H2 Q (WE W σ) := by
    obtain ⟨F, δ, R, z⟩ := q
    obtain ⟨_, z2⟩ := z [] F H1 Stp.refl R .nil
    exact ⟨[], H1, rfl, rfl, z2⟩
  obtain ⟨zs, H2, rfl, rfl, q2⟩ := q'
  exact run_kb (ks := []) (ws := []) G hgd hr tk B I1 r .nil l1 rfl q2
/-- f() -/
theorem de_call0 (hK : C.K = X.K) (G : FnG X.prog X.w X.K X.mg X.base k f fd ps Fs) (hgd : X.A.guards = some []) (hr : Room k X.A) (tk : Takes X W) (hg : Gl X x) (hm : X.mg x = some (.ref f)) (hk : PySem.W.keepIn X.K (.ref f) = true) (B : KB X.K fd ps [] 0 put dv dx)
    (hdb : (x == ("__debug__" : Str)) = false := by decide) : DE X C W (.Call (.Name x p) [] [] pos) (callE Fs 0 0 put dx nilA nilA) := by
  refine ⟨fun pins s σ H Q I h => ?_⟩
  have h' := call_read (ks := []) hK B h
  refine wpAny_Call_Name_kw (ld_glob I hg hm ?_ hdb)
  obtain ⟨F, δ, R, z⟩ := h'
  obtain ⟨_, F', δ', R', z'⟩ := z [] F H Stp.refl R .nil
  obtain ⟨_, z2⟩ := z' [] F' H Stp.refl R' .nil
  exact PySem.W.callWith_K0 I.kIn hk (run_kb (ks := []) (us := []) (ws := []) G hgd hr tk B I .nil .nil rfl rfl z2)
/-- f(e, .., k = v, ..) -/
theorem de_callK {m : Nat} (hK : C.K = X.K) (G : FnG X.prog X.w X.K X.mg X.base k f fd ps Fs) (hgd : X.A.guards = some []) (hr : Room k X.A) (tk : Takes X W) (hg : Gl X x) (hm : X.mg x = some (.ref f)) (hk : PySem.W.keepIn X.K (.ref f) = true) (B : KB X.K fd ps ks n put dv dx) (ha : DA X C W (e :: es) g) (hkw : DK X C W kws gk)
    (hall : (backToKw pos (keywordEach kws X.env)).all (·.1.isSome) = true := by rfl) (hks : (backToKw pos (keywordEach kws X.env)).filterMap (·.1) = ks := by rfl)
    (hdb : (x == ("__debug__" : Str)) = false := by decide) (he : starEach (e :: es) X.env = (false, eval e X.env) :: starEach es X.env := by rfl)
    (hpl : ((backTo pos (starEach (e :: es) X.env)).any (·.1) || (backToKw pos (keywordEach kws X.env)).any (·.1.isNone)) = false := by rfl) (hml : ks.length = m := by rfl) :
    DE X C W (.Call (.Name x p) (e :: es) kws pos) (callE Fs n m put dx g gk) := by
  subst hml
  refine ⟨fun pins s σ H Q I h => ?_⟩
  have h' := call_read hK B h
  refine wpAny_Call_Name_kw (ld_glob I hg hm ?_ hdb)
  refine PySem.W.callWith_KW (h₀ := X.base) I.ok.mod.kin hk hall (thn (ha.run pos pins s σ H _ I h') fun us s1 ⟨vs, H1, I1, r, l1, q⟩ => ?_) hpl he
  refine thn (hkw.run pos pins s1 σ H1 _ I1 q) fun ws s2 ⟨zs, H2, I2, rz, l2, q2⟩ => ⟨I2.kIn, ?_⟩
  rw [hks]
  exact run_kb G hgd hr tk B I2 r rz l1 l2 q2
/-- f(k = v, ..) -/
theorem de_callK0 {m : Nat} (hK : C.K = X.K) (G : FnG X.prog X.w X.K X.mg X.base k f fd ps Fs) (hgd : X.A.guards = some []) (hr : Room k X.A) (tk : Takes X W) (hg : Gl X x) (hm : X.mg x = some (.ref f)) (hk : PySem.W.keepIn X.K (.ref f) = true) (B : KB X.K fd ps ks 0 put dv dx) (hkw : DK X C W kws gk)
    (hall : (backToKw pos (keywordEach kws X.env)).all (·.1.isSome) = true := by rfl) (hks : (backToKw pos (keywordEach kws X.env)).filterMap (·.1) = ks := by rfl)
    (hdb : (x == ("__debug__" : Str)) = false := by decide)
    (hpl : ((backTo pos (starEach [] X.env)).any (·.1) || (backToKw pos (keywordEach kws X.env)).any (·.1.isNone)) = false := by rfl) (hml : ks.length = m := by rfl) :
    DE X C W (.Call (.Name x p) [] kws pos) (callE Fs 0 m put dx nilA gk) := by
  subst hml
  refine ⟨fun pins s σ H Q I h => ?_⟩
  have h' := call_read hK B h
  refine wpAny_Call_Name_kw (ld_glob I hg hm ?_ hdb)
  obtain ⟨F, δ, R, z⟩ := h'
  obtain ⟨_, h2⟩ := z [] F H Stp.refl R .nil
  refine PySem.W.callWith_KW0 (h₀ := X.base) I.ok.mod.kin hk hall ?_ hpl
  refine thn (hkw.run pos pins s σ H _ I h2) fun ws s2 ⟨zs, H2, I2, rz, l2, q2⟩ => ⟨I2.kIn, ?_⟩
  rw [hks]
  exact run_kb (us := []) G hgd hr tk B I2 .nil rz rfl l2 q2
end
/-! ### a def's body -/
def relab (k : Nat) : SV → SV
  | .L _ xs => .L k xs
  | .M _ xs => .M k xs
  | s => s
def labG : Nat → List SV → List SV
  | _, [] => []
  | j, s :: r => relab (j + 1) s :: labG (j + 1) r
/-- what stands in the parameters at the end -/
def outsG : Nat → List SV → List SV → Option (List SV)
  | _, [], _ => some []
  | _, _ :: _, [] => none
  | j, s :: r, t :: δ => match s, t with
    | .L n _, .L k xs => if k = j + 1 then (outsG (j + 1) r δ).map (.L n xs :: ·) else none
    | .M n _, .M k xs => if k = j + 1 then (outsG (j + 1) r δ).map (.M n xs :: ·) else none
    | .d x, _ => (outsG (j + 1) r δ).map (.d x :: ·)
    | _, _ => none
def defE (n m : Nat) (s : SS) : SE := fun args => if args.length = n then
    match s (labG 0 args ++ List.replicate (m - n) .u) with
    | some (.nx δ) => (outsG 0 args δ).map (.ok (.d .none))
    | some (.rt r δ) => if r.isR = true then (outsG 0 args δ).map (.ok r) else none
    | some (.ex e δ) => (outsG 0 args δ).map (.ex e)
    | _ => none
  else none
theorem labG_len : ∀ (j : Nat) (l : List SV), (labG j l).length = l.length
  | _, [] => rfl
  | j, s :: r => by simp [labG, labG_len (j + 1) r]
theorem labG_get : ∀ (j : Nat) (l : List SV) (i : Nat), (labG j l)[i]? = (l[i]?).map (relab (j + i + 1))
  | _, [], i => by simp [labG]
  | j, s :: r, 0 => by simp [labG]
  | j, s :: r, i + 1 => by
    simp only [labG, List.getElem?_cons_succ]
    rw [labG_get (j + 1) r i]
    congr 2
    omega
theorem outs_spec : ∀ {j : Nat} {l δ os : List SV}, outsG j l δ = some os → os.length = l.length ∧ ∀ (i : Nat) o, os[i]? = some o →
    (∃ n xs ys, l[i]? = some (.L n ys) ∧ δ[i]? = some (.L (j + i + 1) xs) ∧ o = .L n xs) ∨ (∃ n xs ys, l[i]? = some (.M n ys) ∧ δ[i]? = some (.M (j + i + 1) xs) ∧ o = .M n xs) ∨ ∃ x, l[i]? = some (.d x) ∧ o = .d x
  | j, [], δ, os, h => by
    simp [outsG] at h; subst h
    exact ⟨rfl, fun i o e => by simp at e⟩
  | j, s :: r, [], os, h => by simp [outsG] at h
  | j, s :: r, t :: δ, os, h => by
    have step : ∀ o rs, outsG (j + 1) r δ = some rs → os = o :: rs → ((∃ n xs ys, s = .L n ys ∧ t = .L (j + 1) xs ∧ o = .L n xs) ∨ (∃ n xs ys, s = .M n ys ∧ t = .M (j + 1) xs ∧ o = .M n xs) ∨ ∃ x, s = .d x ∧ o = .d x) →
        os.length = (s :: r).length ∧ ∀ (i : Nat) o, os[i]? = some o →
        (∃ n xs ys, (s :: r)[i]? = some (.L n ys) ∧ (t :: δ)[i]? = some (.L (j + i + 1) xs) ∧ o = .L n xs) ∨ (∃ n xs ys, (s :: r)[i]? = some (.M n ys) ∧ (t :: δ)[i]? = some (.M (j + i + 1) xs) ∧ o = .M n xs) ∨ ∃ x, (s :: r)[i]? = some (.d x) ∧ o = .d x := by
      intro o rs hr eo ho
      subst eo
      obtain ⟨l1, sp⟩ := outs_spec hr
      refine ⟨by simp [l1], fun i o' e => ?_⟩
      cases i with
      | zero =>
        simp at e; subst e
        rcases ho with ⟨n, xs, ys, rfl, rfl, rfl⟩ | ⟨n, xs, ys, rfl, rfl, rfl⟩ | ⟨x, rfl, rfl⟩
        · exact .inl ⟨n, xs, ys, rfl, rfl, rfl⟩
        · exact .inr (.inl ⟨n, xs, ys, rfl, rfl, rfl⟩)
        · exact .inr (.inr ⟨x, rfl, rfl⟩)
      | succ i =>
        have := sp i o' (by simpa using e)
        simp only [List.getElem?_cons_succ]
        rw [show j + (i + 1) + 1 = j + 1 + i + 1 by omega]
        exact this
    cases s with
    | u => simp [outsG] at h
    | d x =>
      simp only [outsG] at h
      cases q : outsG (j + 1) r δ with
      | none => rw [q] at h; cases h
      | some rs =>
        rw [q] at h
        exact step (.d x) rs q (by simpa using h.symm) (.inr (.inr ⟨x, rfl, rfl⟩))
    | L n ys =>
      cases t with
      | L k xs =>
        simp only [outsG] at h
        split at h
        · rename_i hk
          subst hk
          cases q : outsG (j + 1) r δ with
          | none => rw [q] at h; cases h
          | some rs =>
            rw [q] at h
            exact step (.L n xs) rs q (by simpa using h.symm) (.inl ⟨n, xs, ys, rfl, rfl, rfl⟩)
        · cases h
      | _ => simp [outsG] at h
    | M n ys =>
      cases t with
      | M k xs =>
        simp only [outsG] at h
        split at h
        · rename_i hk
          subst hk
          cases q : outsG (j + 1) r δ with
          | none => rw [q] at h; cases h
          | some rs =>
            rw [q] at h
            exact step (.M n xs) rs q (by simpa using h.symm) (.inr (.inl ⟨n, xs, ys, rfl, rfl, rfl⟩))
        · cases h
      | _ => simp [outsG] at h
section
variable {K : PySem.W.Frag} {F H : Hp} {vs : List V} {args : List SV}
def lmOf (vs : List V) : Nat → Addr := fun k => match vs[k - 1]? with
  | some (.ref a) => a
  | _ => 0
def CB (K : PySem.W.Frag) (F H : Hp) (vs : List V) (args : List SV) : DC := ⟨K, lmOf vs, H, F, OwnedAt (vs.map some) args⟩
theorem relab_own (k : Nat) (s : SV) : (relab k s).own = s.own := by cases s <;> rfl
theorem start_get {N : List Str} {vs : List V} (i : Nat) (h : i < vs.length) : (L2.start N vs)[i]? = (vs.map some)[i]? := by
  unfold L2.start
  rw [List.getElem?_append_left (by simpa using h)]
theorem body_start {N : List Str} {m : Nat} (hm : N.length = m) (hn : vs.length ≤ m) (R : Rp (C1 K) F H (vs.map some) args) : Rp (CB K F H vs args) F H (L2.start N vs) (labG 0 args ++ List.replicate (m - args.length) .u) := by
  have la : args.length = vs.length := by have := R.len; rw [List.length_map] at this; exact this
  have own : ∀ (i : Nat) s, (labG 0 args ++ List.replicate (m - args.length) SV.u)[i]? = some s → s.own = true → ∃ t, i < vs.length ∧ args[i]? = some t ∧ s = relab (i + 1) t ∧ t.own = true := fun i s h e => by
    by_cases hi : i < args.length
    · rw [List.getElem?_append_left (by rw [labG_len]; exact hi), labG_get] at h
      cases q : args[i]? with
      | none => rw [q] at h; cases h
      | some t =>
        rw [q] at h
        cases h
        rw [Nat.zero_add] at e
        rw [relab_own] at e
        exact ⟨t, by omega, rfl, by rw [Nat.zero_add], e⟩
    · rw [List.getElem?_append_right (by rw [labG_len]; omega), List.getElem?_replicate] at h
      split at h
      · cases h; cases e
      · cases h
  refine ⟨R.ext, ?_, fun i x s hx hs => ?_, fun i j s t a h1 h2 h3 h4 h5 h6 => ?_, fun i s a h1 h2 h3 => ?_, fun a o h _ => ⟨h, id⟩, Le.refl _, fun a h => h⟩
  · unfold L2.start
    rw [List.length_append, labG_len, List.length_replicate, List.length_append, List.length_map, List.length_replicate, hm]
    omega
  · by_cases hi : i < args.length
    · rw [List.getElem?_append_left (by rw [labG_len]; exact hi), labG_get, Nat.zero_add] at hs
      rw [start_get i (by omega)] at hx
      cases q : args[i]? with
      | none => rw [q] at hs; cases hs
      | some t =>
        rw [q] at hs
        cases hs
        have k := R.slot i x t hx q
        have lb : ∀ a, x = some (V.ref a) → lmOf vs (i + 1) = a := fun a e => by
          subst e
          rw [List.getElem?_map] at hx
          cases z : vs[i]? with
          | none => rw [z] at hx; cases hx
          | some v =>
            rw [z] at hx
            cases hx
            unfold lmOf
            rw [show i + 1 - 1 = i by omega, z]
        cases t with
        | u => trivial
        | d y => exact k
        | L n ys => obtain ⟨a, xs, e1, _, k2⟩ := k; exact ⟨a, xs, e1, fun _ => lb a e1, k2⟩
        | M n ys => obtain ⟨a, xs, e1, _, k2⟩ := k; exact ⟨a, xs, e1, fun _ => lb a e1, k2⟩
    · rw [List.getElem?_append_right (by rw [labG_len]; omega), List.getElem?_replicate] at hs
      split at hs
      · cases hs; trivial
      · cases hs
  · obtain ⟨s0, l1, g1, _, g2⟩ := own i s h1 h2
    obtain ⟨t0, l2, k1, _, k2⟩ := own j t h3 h4
    rw [start_get i l1] at h5
    rw [start_get j l2] at h6
    exact R.apart i j s0 t0 a g1 g2 k1 k2 h5 h6
  · obtain ⟨s0, l1, g1, rfl, g2⟩ := own i s h1 h2
    rw [start_get i l1] at h3
    refine ⟨fun _ => ⟨i, s0, g1, g2, h3⟩, fun z => ?_⟩
    cases s0 with
    | u => cases g2
    | d x => cases g2
    | L n x => cases z
    | M n x => cases z
theorem body_end {F' H' : Hp} {σ' : Sg} {δ' os : List SV} (R : Rp (C1 K) F H (vs.map some) args) (R' : Rp (CB K F H vs args) F' H' σ' δ') (ho : outsG 0 args δ' = some os) :
    Stp F H (vs.map some) args F' H' os ∧ Rp (C1 K) F' H' (vs.map some) os := by
  obtain ⟨l1, sp⟩ := outs_spec ho
  have S : Stp F H (vs.map some) args F' H' os := by
    refine ⟨R'.ext0, fun a o h n => R'.old a o h n, R'.pers, fun i s h e => ?_⟩
    rcases sp i s h with ⟨n, xs, ys, a, b, rfl⟩ | ⟨n, xs, ys, a, b, rfl⟩ | ⟨x, a, rfl⟩
    · exact ⟨_, a, rfl, rfl⟩
    · exact ⟨_, a, rfl, rfl⟩
    · cases e
  refine ⟨S, R.step S R'.ext l1 fun i x s hx hs => ?_⟩
  have lb : ∀ a, x = some (V.ref a) → lmOf vs (i + 1) = a := fun a e => by
    subst e
    rw [List.getElem?_map] at hx
    cases z : vs[i]? with
    | none => rw [z] at hx; cases hx
    | some v =>
      rw [z] at hx
      cases hx
      unfold lmOf
      rw [show i + 1 - 1 = i by omega, z]
  rcases sp i s hs with ⟨n, xs, ys, a, b, rfl⟩ | ⟨n, xs, ys, a, b, rfl⟩ | ⟨y, a, rfl⟩
  · obtain ⟨p, zs, e1, _, _⟩ := R.slot i x _ hx a
    rw [Nat.zero_add] at b
    have hi : i < σ'.length := by
      have := (List.getElem?_eq_some_iff.mp b).1
      have := R'.len
      omega
    obtain ⟨q, ws, e2, l2, k2⟩ := R'.slot i _ _ (List.getElem?_eq_getElem hi) b
    have : q = p := (l2 (by omega)).symm.trans (lb p e1)
    subst this
    exact ⟨q, ws, e1, fun z => by
      obtain ⟨p', _, e1', l', _⟩ := R.slot i x _ hx a
      rw [e1] at e1'; cases e1'
      exact l' z, k2⟩
  · obtain ⟨p, zs, e1, _, _⟩ := R.slot i x _ hx a
    rw [Nat.zero_add] at b
    have hi : i < σ'.length := by
      have := (List.getElem?_eq_some_iff.mp b).1
      have := R'.len
      omega
    obtain ⟨q, ws, e2, l2, k2⟩ := R'.slot i _ _ (List.getElem?_eq_getElem hi) b
    have : q = p := (l2 (by omega)).symm.trans (lb p e1)
    subst this
    exact ⟨q, ws, e1, fun z => by
      obtain ⟨p', _, e1', l', _⟩ := R.slot i x _ hx a
      rw [e1] at e1'; cases e1'
      exact l' z, k2⟩
  · exact (R.slot i x _ hx a).mono S.ext fun _ _ z => by cases z
end
/-- what a def's frame brings: its context, by the entry -/
structure BodyAt (P : Program) (w : World) (K : PySem.W.Frag) (mg : Str → Option Value) (base : Heap) (k : Nat) (X : Cx) (C : DC) (W : XW) (N : List Str) (sc : Scope) : Prop where
  pr : X.prog = P
  ww : X.w = w
  kk : X.K = K
  ck : C.K = X.K
  mm : X.mg = mg
  bb : X.base = base
  gd : X.A.guards = some []
  rm : Room k X.A
  tk : Takes X W
  nn : X.N = N
  cm : X.calm = true
  sc : X.env.scope = sc
  fn : X.fn = fun _ => true
  po : PassesOwn (model X.prog X.w) X.A X.env X.xe
theorem fn_body {P : Program} {w : World} {K : PySem.W.Frag} {mg : Str → Option Value} {base : Heap} {k : Nat} {f : Addr} {name qual : Str} {params : Arguments} {body : List Stmt} {scope : Scope} {dV kV doc pm cdv ct oc : Value} {an od : Option Addr}
    {osl : Array (Option Value)} {N ps : List Str} {s : SS} {n m : Nat} (lk : K.lookup f = some ⟨oc, od, .func (PySem.W.fnOf name qual params body scope dV kV doc pm an cdv ct), osl⟩) (hcd : PySem.W.codeIn K cdv qual = true) (S : FnScope N ps scope)
    (hn : ps.length = n) (hm : N.length = m)
    (hbody : ∀ (A : Around) (outer : List Env) (s0 : Shared) (H : Hp) (E : XK) (C : DC), C.K = K → A.guards = some [] → Room k (A.deeper (envOfC qual scope s0.heap.objs.size f cdv)) →
      DB (cxOf (CX P w) P w K mg base N qual scope f cdv A outer s0 H E) C (WO E) body s) :
    FnG P w K mg base (k + 1) f (PySem.W.fnOf name qual params body scope dV kV doc pm an cdv ct) ps (defE n m s) := by
  have hlen : ∀ args o, defE n m s args = some o → args.length = ps.length := fun args o e => by
    unfold defE at e
    split at e
    · rename_i h; omega
    · cases e
  refine ⟨hlen, fun A outer s0 H args us vs Q E hg hr e0 hb r hsp => ?_⟩
  have hl := spD_len hlen hsp
  have KX : K.In s0.heap := e0.mod.kin.keeps fun b o e => (e0.bs b o e).1
  have lim : s0.heap.NoLimit := e0.mod.nolimit.keeps fun b o e => (e0.bs b o e).1
  have hpre : ps.length ≤ N.length := by
    have := congrArg List.length S.pre
    rw [List.length_take] at this
    omega
  have hkind : ∀ y ∈ ps.zip us, scope.names.lookup y.1 = some .local ∨ (scope.names.lookup y.1 = some .cell ∧ ((cellsFrom (s0.heap.objs.size + 1) scope.names []).lookup y.1).isSome = true) := fun y hy => by
    obtain ⟨x1, v1⟩ := y
    rcases S.par x1 (List.of_mem_zip hy).1 with q | q
    · exact .inl q
    · exact .inr ⟨q, PySem.W.cellsFrom_some _ _ _ (.inl q)⟩
  refine codeAny_call_function hr.depth (KX _ _ lk) rfl S.co S.gen rfl (PySem.W.codeRec_of KX hcd) (hb _ _ _ _ ?_)
  refine wpAny_newFunctionEnv_cells S.kind hkind fun env he s1 x => ?_
  subst he
  refine ⟨lim.keeps x.toInCall.keep, codeAny_func ?_⟩
  obtain ⟨F, δ, R, z⟩ := hsp
  have hd := hbody A outer s0 H E (CB K F H vs δ) rfl hg (hr.deeper _)
  have I : Inv (cxOf (CX P w) P w K mg base N qual scope f cdv A outer s0 H E) [] (L2.start N vs) H s1 := inv_start S hr.hd e0 hl r x
  have RB := body_start (N := N) (m := m) hm (by omega) R
  have la : δ.length = n := by
    have := R.len
    rw [List.length_map] at this
    omega
  have want : tS (CB K F H vs δ) (WO E) s { nx := fun _ H' => Q .non H', rt := Q } (L2.start N vs) H := by
    refine ⟨F, _, RB, ?_⟩
    unfold defE at z
    rw [if_pos la] at z
    rw [la]
    cases q : s (labG 0 δ ++ List.replicate (m - n) .u) with
    | none => rw [q] at z; exact z
    | some o =>
      rw [q] at z
      cases o with
      | nx δ' =>
        simp only at z
        intro σ' F' H' l R'
        cases q2 : outsG 0 δ δ' with
        | none => rw [q2] at z; exact z.elim
        | some os =>
          rw [q2] at z
          obtain ⟨S2, R2⟩ := body_end R R' q2
          exact z .non F' H' S2 R2 Dat.non
      | rt r δ' =>
        simp only at z
        cases hr : r.isR with
        | false => rw [hr] at z; exact z.elim
        | true =>
          rw [hr, if_pos rfl] at z
          refine ⟨hr, fun v σ' F' H' l R' V => ?_⟩
          cases q2 : outsG 0 δ δ' with
          | none => rw [q2] at z; exact z.elim
          | some os =>
            rw [q2] at z
            obtain ⟨S2, R2⟩ := body_end R R' q2
            refine z v F' H' S2 R2 ?_
            cases r with
            | d x => exact V
            | b i => cases hr
            | nL x => exact V
            | nM x => exact V
      | bk δ' => exact z.elim
      | ct δ' => exact z.elim
      | ex e δ' =>
        simp only at z
        intro σ' F' H' od l R' x
        cases q2 : outsG 0 δ δ' with
        | none => rw [q2] at z; exact z.elim
        | some os =>
          rw [q2] at z
          obtain ⟨S2, R2⟩ := body_end R R' q2
          exact z F' H' od S2 R2 x
  refine wpAny_mono (hd.run [] s1 (L2.start N vs) H _ I want) (fun fl s' hs => ?_) fun e s' hs => hs
  have fin : ∀ {σ' : Sg} {H' : Hp} {v : V} {u : Value}, Inv (cxOf (CX P w) P w K mg base N qual scope f cdv A outer s0 H E) [] σ' H' s' → RelV v u → Q v H' → CE outer P w H s0 Q u s' :=
    fun {σ' H' v u} J rv q => ⟨v, H', J.os, J.bare, J.base, J.hok, rv, q⟩
  cases fl with
  | ret u =>
    obtain ⟨v, σ', H', J, rv, q⟩ := hs
    exact fin J rv q
  | next =>
    obtain ⟨σ', H', J, q⟩ := hs
    exact fin (v := V.non) (u := Value.none) J rfl q
  | brk =>
    obtain ⟨_, _, _, q⟩ := hs
    exact q.elim
  | cont =>
    obtain ⟨_, _, _, q⟩ := hs
    exact q.elim
end DL

namespace DL
open PySem PySem.Spec PyProof.Rows L2
section
variable {X : Cx} {C : DC} {W : XW} {F F' H H' : Hp} {σ : Sg} {δ δ' : List SV} {e a b : Expr} {f fa fb : SE} {pos : Pos}
/-! ### subscripts -/
def ixS : D → D → Option Res
  | .list xs, .int i => (atI xs i).map Res.d
  | .tuple xs, .int i => (atI xs i).map Res.d
  | .str z, .int i => if z.length ≤ sizeLine then (atI z.cps.toList i).map fun c => .d (.str ⟨#[c]⟩) else none
  | _, _ => none
theorem Dats.atI {K : PySem.W.Frag} {vs : List V} {ds : List D} {i : Int} {x : D} (h : Dats K F vs ds) (e : L2.atI ds i = some x) : ∃ v, L2.atI vs i = some v ∧ Dat K F v x := by
  unfold L2.atI at e ⊢
  rw [h.length]
  cases q : ixN ds.length i with
  | none => rw [q] at e; cases e
  | some j =>
    rw [q] at e
    exact h.get e
theorem od_ix : OpD C (rIx C.K) ixS := by
  intro F H σ δ v w x y res Q R hx hy e k
  cases y with
  | int i =>
    cases x with
    | list xs =>
      simp only [ixS] at e
      cases q : L2.atI xs i with
      | none => rw [q] at e; cases e
      | some z =>
        rw [q] at e; cases e
        obtain ⟨a, vs, rfl, h1, t1⟩ := hx.lst R.ext
        obtain ⟨u, h2, h3⟩ := t1.atI q
        exact .inl ⟨a, vs, i, u, rfl, hy.int, h1, h2, k u F H Stp.refl R h3⟩
    | tuple xs =>
      simp only [ixS] at e
      cases q : L2.atI xs i with
      | none => rw [q] at e; cases e
      | some z =>
        rw [q] at e; cases e
        obtain ⟨a, vs, rfl, h1, t1⟩ := hx.tup R.ext
        obtain ⟨u, h2, h3⟩ := t1.atI q
        exact .inr (.inl ⟨a, vs, i, u, rfl, hy.int, h1, h2, k u F H Stp.refl R h3⟩)
    | str z =>
      simp only [ixS] at e
      split at e
      · rename_i hz
        cases q : L2.atI z.cps.toList i with
        | none => rw [q] at e; cases e
        | some c =>
          rw [q] at e; cases e
          exact .inr (.inr ⟨z, i, c, hx.str, hy.int, hz, q, k _ F H Stp.refl R (Dat.str _)⟩)
      · cases e
    | _ => simp [ixS] at e
  | _ => cases x <;> simp [ixS] at e
theorem de_ixS (hK : C.K = X.K) (ha : DE X C W a fa) (hb : DE X C W b fb) (hs : PlainIx b) : DE X C W (.Subscript a b pos) (op2E ixS fa fb) := de_ix (r := rIx C.K) (by rw [hK]; exact ix_seq) od_ix ha hb hs
/-! slices -/
def cutD (xs : List D) (lo hi : Option Int) : List D := (xs.drop (HT.sIx xs.length 0 lo)).take (HT.sIx xs.length xs.length hi - HT.sIx xs.length 0 lo)
def slD : D → Option Int → Option Int → Option Res
  | .list xs, lo, hi => some (.nL (cutD xs lo hi))
  | .tuple xs, lo, hi => some (.d (.tuple (cutD xs lo hi)))
  | _, _, _ => none
abbrev SO' := SEa (Option Int)
def noPart : SO' := pureE none
def isPart (f : SE) : SO' := bindE f fun r δ => match r with
  | .d (.int i) => some (.ok (some i) δ)
  | _ => none
def RP (C : DC) : Hp → Hp → Sg → Hp → Option Int → Option Int → Prop := fun _ _ _ _ v r => v = r
def tPt (C : DC) (W : XW) (f : SO') : TO := fun σ H Q => ∃ F δ, tX C W (RP C) f F H σ δ Q
def DP (X : Cx) (C : DC) (W : XW) (e : Option Expr) (f : SO') : Prop := PO X e (tPt C W f)
theorem po_mono {e : Option Expr} {t t' : TO} (h : PO X e t) (k : ∀ σ H Q, t' σ H Q → t σ H Q) : PO X e t' := ⟨fun pins s σ H Q I q => h.run pins s σ H Q I (k σ H Q q)⟩
theorem dp_none : DP X C W none noPart := po_mono po_none fun σ H Q ⟨F, δ, h⟩ => h.use (δ' := δ) rfl Stp.refl h.1 rfl
theorem mbP (F H : Hp) (σ : Sg) (Hs Hs' : Hp) (v : Option Int) (r : Option Int) (_ : ∀ p, Hs p = none → Hs' p = none) (h : RP C F H σ Hs v r) : RP C F H σ Hs' v r := h
theorem dp_some (h : DE X C W e f) : DP X C W (some e) (isPart f) := by
  refine po_mono (po_some h) fun σ H Q ⟨F, δ, h⟩ => ?_
  refine bindV (RVb := RP C) (mbP) h fun v F1 H1 δ1 r1 e1 S1 R1 V1 h1 => ?_
  obtain ⟨o, ho⟩ := h1.some
  have ho' := ho
  cases r1 with
  | d x =>
    cases x with
    | int i =>
      cases ho
      exact ⟨i, Dat.int_inv' V1, h1.use ho' Stp.refl R1 rfl⟩
    | _ => cases ho
  | _ => cases ho
where Dat.int_inv' {K : PySem.W.Frag} {F : Hp} {v : V} {i : Int} (h : Dat K F v (.int i)) : v = .int i := by cases h; rfl
theorem bindP {α γ : Type} {RVb : Hp → Hp → Sg → Hp → γ → α → Prop} {g : SO'} {k : Option Int → SEa α} {Q : γ → Hp → Prop}
    (mb : ∀ (F H : Hp) (σ : Sg) (Hs Hs' : Hp) (v : γ) (r : α), (∀ p, Hs p = none → Hs' p = none) → RVb F H σ Hs v r → RVb F H σ Hs' v r)
    (h : tX C W RVb (bindE g k) F H σ δ Q) {Q' : Option Int → Hp → Prop}
    (c : ∀ v F1 H1 δ1, Stp F H σ δ F1 H1 δ1 → Rp C F1 H1 σ δ1 → tX C W RVb (k v) F1 H1 σ δ1 Q → Q' v H1) : tPt C W g σ H Q' :=
  ⟨F, δ, (tX.bind (RVa := RP C) (H1 := H) (fun _ _ _ _ _ z => z) mb h).mono fun v H1 ⟨F1, δ1, r, q1, q2, q3, q4⟩ => by
    have q3 : v = r := q3
    subst q3
    exact c v F1 H1 δ1 q2 q4.1 q4⟩
def sliceE (fa : SE) (lo hi : SO') : SE := bindE (pkE fa) fun ra => bindE lo fun l => bindE hi fun h => fun δ => match ra.get δ with
  | some x => (slD x l h).map fun r => .ok r δ
  | none => none
theorem Dats.cut {K : PySem.W.Frag} {vs : List V} {ds : List D} (h : Dats K F vs ds) (lo hi : Option Int) : Dats K F (cutV vs lo hi) (cutD ds lo hi) := by
  unfold cutV cutD
  rw [h.length]
  exact (h.drop _).take _
theorem cut_whole (xs : List D) (lo hi : Option Int) (h : HT.sIx xs.length 0 lo = 0 ∧ HT.sIx xs.length xs.length hi = xs.length) : cutD xs lo hi = xs := by
  unfold cutD
  rw [h.1, h.2]
  simp
theorem de_slice {lo hi : Option Expr} {gl gh : SO'} {p2 : Pos} (hK : C.K = X.K) (ha : DE X C W a fa) (hl : DP X C W lo gl) (hh : DP X C W hi gh) : DE X C W (.Subscript a (.Slice lo hi none p2) pos) (sliceE fa gl gh) := by
  refine pe_mono (pe_slice (sl_list.or sl_tupA) (de_pk ha) hl hh) fun σ H Q ⟨F, δ, h⟩ => ?_
  refine bindV (RVb := RVl C) (mbV) h fun v F1 H1 δ1 r1 e1 S1 R1 V1 h1 => ?_
  refine bindP (RVb := RVl C) (mbV) h1 fun l F2 H2 δ2 S2 R2 h2 => ?_
  refine bindP (RVb := RVl C) (mbV) h2 fun u F3 H3 δ3 S3 R3 h3 => ?_
  obtain ⟨o, ho⟩ := h3.some
  have ho' := ho
  cases q1 : r1.get δ3 with
  | none => simp only [q1] at ho; cases ho
  | some x =>
    simp only [q1] at ho
    have d1 := (V1.after (Hs' := H) (pk_isPk e1) (S2.trans S3)).get R3 q1
    have d1' := d1
    cases x with
    | list xs =>
      cases ho
      obtain ⟨p, vs, rfl, hp, t⟩ := d1.lst R3.ext
      refine .inl ⟨p, vs, rfl, by rw [← hK]; exact hp, fun p' np => ?_⟩
      obtain ⟨S4, R4⟩ := R3.newG (.lst (cutV vs l u)) np
      exact h3.use ho' S4 R4 (show RV C F3 _ σ H3 _ (.nL _) from ⟨p', _, rfl, upd_same, R3.freshF np, t.cut l u, np⟩)
    | tuple xs =>
      cases ho
      have tupd : Dat C.K F3 v (.tuple xs) := by
        rcases d1' with h | ⟨_, _, _, _, e2, _⟩ | ⟨_, _, _, _, e2, _⟩
        · exact h
        · cases e2
        · cases e2
      obtain ⟨p, vs, rfl, hp, t⟩ := d1.tup R3.ext
      refine .inr ⟨p, vs, rfl, by rw [← hK]; exact hp, fun w => ?_, fun _ p' np => ?_⟩
      · refine h3.use ho' Stp.refl R3 ?_
        rw [t.length] at w
        rw [cut_whole xs l u w]
        exact tupd
      · obtain ⟨S4, R4⟩ := R3.newF (.tup (cutV vs l u)) np
        exact h3.use ho' S4 R4 (Dat.tup (SqT.of upd_same) ((t.cut l u).mono S4.ext))
    | _ => cases ho
/-! ### calls of built-ins -/
def callBE (g : List D → Option Res) (fa : SA) : SE := bindE fa fun rs => fun δ => match gets rs δ with
  | some xs => (g xs).map fun r => .ok r δ
  | none => none
def CallD (C : DC) (r : List V → Hp → VK → Prop) (g : List D → Option Res) : Prop := ∀ (F H : Hp) (σ : Sg) (δ : List SV) (vs : List V) (xs : List D) (res : Res) (Q : VK), Rp C F H σ δ → DatPs C.K F H vs xs → g xs = some res →
  (∀ u F' H', Stp F H σ δ F' H' δ → Rp C F' H' σ δ → RV C F' H' σ H u res → Q u H') → r vs H Q
theorem callB_read {r : List V → Hp → VK → Prop} {g : List D → Option Res} {ga : SA} {Q : VK} (hg : CallD C r g) (h : tD C W (callBE g ga) σ H Q) : tCB r (tAr C W ga) σ H Q := by
  obtain ⟨F, δ, h⟩ := h
  refine bindA (RVb := RVl C) (mbV) h fun vs F1 H1 δ1 rs e1 S1 R1 V1 h1 => ?_
  obtain ⟨o, ho⟩ := h1.some
  have ho' := ho
  cases q1 : gets rs δ1 with
  | none => simp only [q1] at ho; cases ho
  | some xs =>
    simp only [q1] at ho
    cases q2 : g xs with
    | none => rw [q2] at ho; cases ho
    | some res =>
      rw [q2] at ho
      have ho : some (ER.ok res δ1) = some o := ho
      cases ho
      exact hg F1 H1 σ δ1 vs xs res Q R1 (V1.gets R1 q1) q2 fun u F' H' S R V => h1.use ho' S R V
theorem de_callB {id : String} {x : Str} {p : Pos} {es : List Expr} {r : List V → Hp → VK → Prop} {g : List D → Option Res} {ga : SA} (hc : CallR X (.builtin id) r) (hd : CallD C r g) (hg : Gl X x) (hm : X.mg x = none) (hv : bootBuiltins x = some (.builtin id)) (ha : DA X C W (e :: es) ga)
    (hn : x ≠ "__name__" := by decide) (hdb : (x == ("__debug__" : Str)) = false := by decide) (he : starEach (e :: es) X.env = (false, eval e X.env) :: starEach es X.env := by rfl) (hpl : (backTo pos (starEach es X.env)).any (·.1) = false := by rfl) :
    DE X C W (.Call (.Name x p) (e :: es) [] pos) (callBE g ga) := pe_mono (pe_callB hc hg hm hv ha hn hdb he hpl) fun σ H Q h => callB_read hd h
theorem de_callTy {T : String} {x : Str} {p : Pos} {es : List Expr} {r : List V → Hp → VK → Prop} {g : List D → Option Res} {ga : SA} (hc : CallR X (.type T) r) (hd : CallD C r g) (hg : Gl X x) (hm : X.mg x = none) (hv : bootBuiltins x = some (.type T)) (ha : DA X C W (e :: es) ga)
    (hn : x ≠ "__name__" := by decide) (hdb : (x == ("__debug__" : Str)) = false := by decide) (he : starEach (e :: es) X.env = (false, eval e X.env) :: starEach es X.env := by rfl) (hpl : (backTo pos (starEach es X.env)).any (·.1) = false := by rfl) :
    DE X C W (.Call (.Name x p) (e :: es) [] pos) (callBE g ga) := pe_mono (pe_callTy hc hg hm hv ha hn hdb he hpl) fun σ H Q h => callB_read hd h
theorem DatPs.one {K : PySem.W.Frag} {vs : List V} {x : D} (h : DatPs K F H vs [x]) : ∃ v, vs = [v] ∧ DatP K F H v x := by
  cases h with
  | cons h t => cases t; exact ⟨_, rfl, h⟩
theorem DatPs.two {K : PySem.W.Frag} {vs : List V} {x y : D} (h : DatPs K F H vs [x, y]) : ∃ v w, vs = [v, w] ∧ DatP K F H v x ∧ DatP K F H w y := by
  cases h with
  | cons h t =>
    obtain ⟨w, e, t'⟩ := t.one
    subst e
    exact ⟨_, w, rfl, h, t'⟩
/-! len -/
def lenG : List D → Option Res
  | [.list xs] => some (.d (.int xs.length))
  | [.tuple xs] => some (.d (.int xs.length))
  | [.str z] => if z.length ≤ sizeLine then some (.d (.int z.length)) else none
  | _ => none
def rLenG (K : PySem.W.Frag) : List V → Hp → VK → Prop := fun xs H Q => (∃ p ys, xs = [.ref p] ∧ (SqL K H p ys ∨ SqT K H p ys) ∧ Q (.int ys.length) H) ∨ ∃ z, xs = [.str z] ∧ z.length ≤ sizeLine ∧ Q (.int z.length) H
theorem cr_lenG : CallR X (.builtin "len") (rLenG X.K) := call_len_seq.or call_len_str
theorem cd_lenG : CallD C (rLenG C.K) lenG := by
  intro F H σ δ vs xs res Q R hx e k
  unfold lenG at e
  split at e
  · cases e
    obtain ⟨v, rfl, h⟩ := hx.one
    obtain ⟨a, ys, rfl, h1, t⟩ := h.lst R.ext
    refine .inl ⟨a, ys, rfl, .inl h1, ?_⟩
    rw [t.length]
    exact k _ F H Stp.refl R (Dat.int _)
  · cases e
    obtain ⟨v, rfl, h⟩ := hx.one
    obtain ⟨a, ys, rfl, h1, t⟩ := h.tup R.ext
    refine .inl ⟨a, ys, rfl, .inr h1, ?_⟩
    rw [t.length]
    exact k _ F H Stp.refl R (Dat.int _)
  · split at e
    · rename_i hz
      cases e
      obtain ⟨v, rfl, h⟩ := hx.one
      exact .inr ⟨_, by rw [h.str], hz, k _ F H Stp.refl R (Dat.int _)⟩
    · cases e
  · cases e
/-! max, min of two; list, tuple of a sequence; int of a truth; str of a number -/
def max2G : List D → Option Res
  | [.int i, .int j] => some (.d (.int (if j > i then j else i)))
  | _ => none
def min2G : List D → Option Res
  | [.int i, .int j] => some (.d (.int (if j < i then j else i)))
  | _ => none
theorem cd_max2 : CallD C (fun xs H Q => ∃ i j, xs = [.int i, .int j] ∧ Q (.int (if j > i then j else i)) H) max2G := by
  intro F H σ δ vs xs res Q R hx e k
  unfold max2G at e
  split at e
  · cases e
    obtain ⟨v, w, rfl, h1, h2⟩ := hx.two
    exact ⟨_, _, by rw [h1.int, h2.int], k _ F H Stp.refl R (Dat.int _)⟩
  · cases e
theorem cd_min2 : CallD C (fun xs H Q => ∃ i j, xs = [.int i, .int j] ∧ Q (.int (if j < i then j else i)) H) min2G := by
  intro F H σ δ vs xs res Q R hx e k
  unfold min2G at e
  split at e
  · cases e
    obtain ⟨v, w, rfl, h1, h2⟩ := hx.two
    exact ⟨_, _, by rw [h1.int, h2.int], k _ F H Stp.refl R (Dat.int _)⟩
  · cases e
def listG : List D → Option Res
  | [.list xs] => some (.nL xs)
  | [.tuple xs] => some (.nL xs)
  | _ => none
def tupleG : List D → Option Res
  | [.list xs] => some (.d (.tuple xs))
  | [.tuple xs] => some (.d (.tuple xs))
  | _ => none
theorem cd_list : CallD C (fun xs H Q => ∃ p ys, xs = [.ref p] ∧ (SqL C.K H p ys ∨ SqT C.K H p ys) ∧ ∀ l, H l = none → Q (.ref l) (upd H l (.lst ys))) listG := by
  intro F H σ δ vs xs res Q R hx e k
  have new : ∀ {ys : List V} {ds : List D}, Dats C.K F ys ds → res = .nL ds → ∀ l, H l = none → Q (.ref l) (upd H l (.lst ys)) := fun {ys ds} t er l nl => by
    subst er
    obtain ⟨S4, R4⟩ := R.newG (.lst ys) nl
    exact k _ _ _ S4 R4 (show RV C F _ σ H _ (.nL _) from ⟨l, _, rfl, upd_same, R.freshF nl, t, nl⟩)
  unfold listG at e
  split at e
  · cases e
    obtain ⟨v, rfl, h⟩ := hx.one
    obtain ⟨a, ys, rfl, h1, t⟩ := h.lst R.ext
    exact ⟨a, ys, rfl, .inl h1, new t rfl⟩
  · cases e
    obtain ⟨v, rfl, h⟩ := hx.one
    obtain ⟨a, ys, rfl, h1, t⟩ := h.tup R.ext
    exact ⟨a, ys, rfl, .inr h1, new t rfl⟩
  · cases e
theorem DatP.tupF {K : PySem.W.Frag} {v : V} {xs : List D} (h : DatP K F H v (.tuple xs)) : Dat K F v (.tuple xs) := by
  rcases h with h | ⟨_, _, _, _, e2, _⟩ | ⟨_, _, _, _, e2, _⟩
  · exact h
  · cases e2
  · cases e2
theorem cd_tuple : CallD C (fun xs H Q => ∃ p ys, xs = [.ref p] ∧ ((SqL C.K H p ys ∧ ∀ l, H l = none → Q (.ref l) (upd H l (.tup ys))) ∨ (SqT C.K H p ys ∧ Q (.ref p) H))) tupleG := by
  intro F H σ δ vs xs res Q R hx e k
  unfold tupleG at e
  split at e
  · cases e
    obtain ⟨v, rfl, h⟩ := hx.one
    obtain ⟨a, ys, rfl, h1, t⟩ := h.lst R.ext
    refine ⟨a, ys, rfl, .inl ⟨h1, fun l nl => ?_⟩⟩
    obtain ⟨S4, R4⟩ := R.newF (.tup ys) nl
    exact k _ _ _ S4 R4 (Dat.tup (SqT.of upd_same) (t.mono S4.ext))
  · cases e
    obtain ⟨v, rfl, h⟩ := hx.one
    have h' := h.tupF
    obtain ⟨a, ys, rfl, h1, t⟩ := h.tup R.ext
    exact ⟨a, ys, rfl, .inr ⟨h1, k _ F H Stp.refl R h'⟩⟩
  · cases e
def intG : List D → Option Res
  | [.int i] => some (.d (.int i))
  | [.bool k] => some (.d (.int (if k then 1 else 0)))
  | _ => none
theorem cd_int : CallD C (fun xs H Q => (∃ i, xs = [.int i] ∧ Q (.int i) H) ∨ ∃ k, xs = [.bl k] ∧ Q (.int (if k then 1 else 0)) H) intG := by
  intro F H σ δ vs xs res Q R hx e k
  unfold intG at e
  split at e
  · cases e
    obtain ⟨v, rfl, h⟩ := hx.one
    exact .inl ⟨_, by rw [h.int], k _ F H Stp.refl R (Dat.int _)⟩
  · cases e
    obtain ⟨v, rfl, h⟩ := hx.one
    exact .inr ⟨_, by rw [h.bl], k _ F H Stp.refl R (Dat.int _)⟩
  · cases e
def strG : List D → Option Res
  | [.int i] => if i.natAbs.log2 < 1920 then some (.d (.str (toString i))) else none
  | _ => none
theorem cd_str : CallD C (fun xs H Q => ∃ i, xs = [.int i] ∧ i.natAbs.log2 < 1920 ∧ Q (.str (toString i)) H) strG := by
  intro F H σ δ vs xs res Q R hx e k
  unfold strG at e
  split at e
  · split at e
    · rename_i hz
      cases e
      obtain ⟨v, rfl, h⟩ := hx.one
      exact ⟨_, by rw [h.int], hz, k _ F H Stp.refl R (Dat.str _)⟩
    · cases e
  · cases e
def divmodG : List D → Option Res
  | [.int i, .int j] => if 0 < j ∧ j < 1073741824 then some (.d (.tuple [.int (i / j), .int (i % j)])) else none
  | _ => none
theorem cd_divmod : CallD C (fun xs H Q => ∃ i j, xs = [.int i, .int j] ∧ CDiv i j ∧ ∀ p, H p = none → Q (.ref p) (upd H p (.tup [.int (i / j), .int (i % j)]))) divmodG := by
  intro F H σ δ vs xs res Q R hx e k
  unfold divmodG at e
  split at e
  · split at e
    · rename_i c
      cases e
      obtain ⟨v, w, rfl, h1, h2⟩ := hx.two
      refine ⟨_, _, by rw [h1.int, h2.int], c, fun p np => ?_⟩
      obtain ⟨S4, R4⟩ := R.newF (.tup [.int _, .int _]) np
      exact k _ _ _ S4 R4 (Dat.tup (SqT.of upd_same) (.cons (.int _) (.cons (.int _) .nil)))
    · cases e
  · cases e
/-! sum, any, all over lists -/
def toInts (xs : List D) : Option (List Int) := xs.mapM fun x => match x with
  | .int i => some i
  | _ => none
theorem ints_of {K : PySem.W.Frag} : ∀ {xs : List D} {ns : List Int} {vs : List V}, Dats K F vs xs → toInts xs = some ns → vs = ns.map V.int
  | [], ns, vs, h, e => by
    simp [toInts] at e; subst e; cases h; rfl
  | x :: xs, ns, vs, h, e => by
    obtain ⟨y, zs, h1, h2, rfl⟩ := mapM_cons_some e
    cases h with
    | cons h t =>
      cases x with
      | int i =>
        cases h1
        cases h
        rw [ints_of t h2]
        rfl
      | _ => cases h1
def sumG : List D → Option Res
  | [.list xs] => (toInts xs).map fun ns => .d (.int ns.sum)
  | _ => none
theorem cd_sum : CallD C (rSum C.K) sumG := by
  intro F H σ δ vs xs res Q R hx e k
  unfold sumG at e
  split at e
  · rename_i ds
    cases q : toInts ds with
    | none => rw [q] at e; cases e
    | some ns =>
      rw [q] at e; cases e
      obtain ⟨v, rfl, h⟩ := hx.one
      obtain ⟨a, ys, rfl, h1, t⟩ := h.lst R.ext
      refine ⟨a, ns, rfl, ?_, k _ F H Stp.refl R (Dat.int _)⟩
      rw [← ints_of t q]
      exact h1
  · cases e
/-! ### isinstance -/
def tyN : D → String
  | .none => "NoneType"
  | .bool _ => "bool"
  | .int _ => "int"
  | .str _ => "str"
  | .list _ => "list"
  | .tuple _ => "tuple"
  | .dict _ => "dict"
/-- a value's type: the kit's, or a dict by tuples -/
def TyY (K : PySem.W.Frag) (H : Hp) (x : V) (t : Value) : Prop := TyX K H x t ∨ (t = .type "dict" ∧ ∃ a : Addr, x = .ref a ∧ Rd H a (opqO a))
theorem call_isiY : CallR X (.builtin "isinstance") (fun xs H Q => ∃ (x c : V) (t u : Value) (b : Bool), xs = [x, c] ∧ ClsV c u ∧ TyY X.K H x t ∧ PySem.W.kitOne X.K t u = some b ∧ Q (.bl b) H) := by
  intro pins s σ H xs us Q I r h
  obtain ⟨x, c, t, u, b, rfl, k, ty, e, q⟩ := h
  rcases ty with ty | ⟨rfl, a, rfl, hd⟩
  · exact call_isi pins s σ H _ us Q I r ⟨x, c, t, u, b, rfl, k, ty, e, q⟩
  · obtain ⟨u1, u2, rfl, r1, r2⟩ := Vals.two r
    have e2 := k.eq r2
    subst e2
    cases (show u1 = Value.ref a from r1)
    obtain ⟨⟨o, h1, h2, _⟩, _⟩ := (show ObjOk X.prog X.w H s.heap a (opqO a) from rd_of I.hok hd)
    exact PySem.W.kia_one PySem.W.kitx_dict I.kIn ⟨o, h1, h2⟩ e (fun z => nomatch z) fun tk => ⟨.bl b, H, I.tok tk, rfl, q⟩
theorem tyX_of {K : PySem.W.Frag} {v : V} {x : D} (e : Le F H) (h : DatP K F H v x) : TyY K H v (.type (tyN x)) := by
  cases x with
  | none => rw [h.non]; exact .inl (.base .non)
  | bool b => rw [h.bl]; exact .inl (.base (.bl b))
  | int i => rw [h.int]; exact .inl (.base (.int i))
  | str z => rw [h.str]; exact .inl (.base (.str z))
  | list xs =>
    obtain ⟨a, vs, rfl, h1, _⟩ := h.lst e
    rcases h1 with (h1 | ⟨o, h1⟩) | ⟨o, its, n, h1, h2, _⟩
    · exact .inl (.base (.lst h1))
    · exact .inl (.base (.frz h1))
    · exact .inl (.kList h1 h2)
  | tuple xs =>
    obtain ⟨a, vs, rfl, h1, _⟩ := h.tup e
    rcases h1 with (h1 | ⟨o, h1⟩) | ⟨o, its, n, h1, h2, _⟩
    · exact .inl (.base (.tup h1))
    · exact .inl (.fTuple h1)
    · exact .inl (.kTuple h1 h2)
  | dict xs =>
    cases z : isOpq xs with
    | false =>
      obtain ⟨a, ks, rfl, h1, _⟩ := h.dct e z
      rcases h1 with h1 | ⟨o, h1⟩
      · exact .inl (.base (.dK h1))
      · exact .inl (.fDict h1)
    | true =>
      rcases h with h | ⟨a, vs, ds, e1, e2, _⟩ | ⟨a, ks, ds, e1, e2, hd, _⟩
      · cases h with
        | dct h1 _ =>
          rcases e _ _ h1 with h1 | ⟨o, h1⟩
          · exact .inl (.base (.dK h1))
          · exact .inl (.fDict h1)
        | dcT h1 => exact .inr ⟨rfl, _, rfl, e _ _ h1⟩
      · cases e2
      · subst e1
        exact .inl (.base (.dK hd))
def isiG (T : String) (x : D) : Option Bool := kitB (tyN x) T
def isiE (T : String) (f : SE) : SE := bindE (pkE f) fun r => fun δ => match r.get δ with
  | some x => (isiG T x).map fun b => .ok (.d (.bool b)) δ
  | none => none
theorem de_isi {T : String} {tx : Str} {p q : Pos} (hK : C.K = X.K) (hg : Gl X "isinstance") (hm : X.mg "isinstance" = none) (hg2 : Gl X tx) (hm2 : X.mg tx = none) (hv2 : bootBuiltins tx = some (.type T)) (ha : DE X C W e f)
    (hn : tx ≠ "__name__" := by decide) (hd : (tx == ("__debug__" : Str)) = false := by decide)
    (hs : starEach [e, .Name tx q] X.env = (false, eval e X.env) :: starEach [.Name tx q] X.env := by rfl) (hs2 : starEach [.Name tx q] X.env = (false, eval (.Name tx q) X.env) :: starEach [] X.env := by rfl) (hpl : (backTo pos (starEach [.Name tx q] X.env)).any (·.1) = false := by rfl) :
    DE X C W (.Call (.Name "isinstance" p) [e, .Name tx q] [] pos) (isiE T f) := by
  have A : PA X [e, .Name tx q] _ := pa_cons (de_pk ha) (pa_cons (pe_bltn (v := .ty T) hg2 hm2 hv2 rfl hn hd) pa_nil hs2) hs
  refine pe_mono (pe_callB call_isiY hg hm (by decide +kernel) A (he := hs) (hpl := hpl)) fun σ H Q ⟨F, δ, h⟩ => ?_
  refine bindV (RVb := RVl C) (mbV) h fun v F1 H1 δ1 r1 e1 S1 R1 V1 h1 => ?_
  obtain ⟨o, ho⟩ := h1.some
  have ho' := ho
  cases q1 : r1.get δ1 with
  | none => simp only [q1] at ho; cases ho
  | some x =>
    simp only [q1] at ho
    cases q2 : isiG T x with
    | none => rw [q2] at ho; cases ho
    | some k =>
      rw [q2] at ho
      cases ho
      refine ⟨v, .ty T, .type (tyN x), .type T, k, rfl, .ty T, ?_, kit_ty q2, h1.use ho' Stp.refl R1 (Dat.bl k)⟩
      rw [← hK]
      exact tyX_of R1.ext (V1.get R1 q1)
end
end DL

namespace DL
open PySem PySem.Spec PyProof.Rows L2
section
variable {X : Cx} {C : DC} {W : XW} {F F' H H' : Hp} {σ : Sg} {δ δ' : List SV} {e a b o : Expr} {f fa fb fo : SE} {pos apos : Pos} {k : Nat}
/-! ### names of the module -/
theorem de_glob {x : Str} {v : V} {u : Value} {y : D} (hg : Gl X x) (hm : X.mg x = some u) (r : RelV v u) (d : ∀ F, Dat C.K F v y) (hd : (x == ("__debug__" : Str)) = false := by decide) : DE X C W (.Name x pos) (conE y) := de_tC (pe_glob hg hm r hd) d
theorem de_globI {x : Str} {i : Int} {t : Tok} (hg : Gl X x) (hm : X.mg x = some (.int i t)) (hd : (x == ("__debug__" : Str)) = false := by decide) : DE X C W (.Name x pos) (conE (.int i)) := de_glob (v := .int i) hg hm ⟨t, rfl⟩ (fun _ => .int i) hd
/-! ### keys -/
def keyD : D → Option Key
  | .int i => some (.inl i)
  | .str x => some (.inr x)
  | _ => none
theorem key_of {v : V} {x : D} {k : Key} (h : DatP C.K F H v x) (e : keyD x = some k) : v = kV k := by
  cases x with
  | int i => cases e; exact h.int
  | str i => cases e; exact h.str
  | _ => cases e
theorem keyD_kD (k : Key) : keyD (kD k) = some k := by cases k <;> rfl
/-- a key's value in data -/
def lookD (ds : List (D × D)) (k : Key) : Option D := (ds.find? fun p => decide (keyD p.1 = some k)).map (·.2)
def valD (ks : List (Key × D)) (k : Key) : Option D := (ks.find? fun p => decide (p.1 = k)).map (·.2)
def putD (ks : List (Key × D)) (k : Key) (v : D) : List (Key × D) := if (ks.any fun p => decide (p.1 = k)) = true then ks.map (fun p => if p.1 = k then (p.1, v) else p) else ks ++ [(k, v)]
def dropD (ks : List (Key × D)) (k : Key) : List (Key × D) := ks.filter fun p => decide (p.1 ≠ k)
theorem lookD_kv (ks : List (Key × D)) (k : Key) : lookD (kvD ks) k = valD ks k := by
  unfold lookD valD kvD
  rw [List.find?_map]
  cases h : List.find? ((fun p : D × D => decide (keyD p.1 = some k)) ∘ fun p : Key × D => (kD p.1, p.2)) ks with
  | none =>
    have : List.find? (fun p : Key × D => decide (p.1 = k)) ks = none := by
      rw [List.find?_eq_none] at h ⊢
      intro x hx
      have := h x hx
      simpa [keyD_kD] using this
    rw [this]; rfl
  | some p =>
    have : List.find? (fun p : Key × D => decide (p.1 = k)) ks = some p := by
      rw [← h]
      congr 1
      funext q
      simp [keyD_kD]
    rw [this]; rfl
theorem Datp.val {K : PySem.W.Frag} {k : Key} : ∀ {vs : List (Key × V)} {ds : List (D × D)}, Datp K F vs ds → (valV vs k = none ∧ lookD ds k = none) ∨ ∃ v x, valV vs k = some v ∧ lookD ds k = some x ∧ Dat K F v x
  | _, _, .nil => .inl ⟨rfl, rfl⟩
  | _, _, @Datp.cons _ _ k0 v ks d ds h t => by
    by_cases e : k0 = k
    · exact .inr ⟨v, d, valV_pos e, by unfold lookD; rw [List.find?_cons_of_pos (by simp [keyD_kD, e])]; rfl, h⟩
    · rw [valV_neg (p := (k0, v)) e]
      have : lookD ((kD k0, d) :: ds) k = lookD ds k := by unfold lookD; rw [List.find?_cons_of_neg (by simp [keyD_kD, e])]
      rw [this]
      exact Datp.val t
theorem DKs.any {K : PySem.W.Frag} {k : Key} : ∀ {vs : List (Key × V)} {ds : List (Key × D)}, DKs K F vs ds → (vs.any fun p => decide (p.1 = k)) = ds.any fun p => decide (p.1 = k)
  | _, _, .nil => rfl
  | _, _, .cons h t => by simp only [List.any_cons, DKs.any t]
theorem DKs.app {K : PySem.W.Frag} : ∀ {vs ws : List (Key × V)} {ds es : List (Key × D)}, DKs K F vs ds → DKs K F ws es → DKs K F (vs ++ ws) (ds ++ es)
  | _, _, _, _, .nil, s => s
  | _, _, _, _, .cons h t, s => .cons h (DKs.app t s)
theorem DKs.repl {K : PySem.W.Frag} {k : Key} {v : V} {d : D} (hv : Dat K F v d) : ∀ {vs : List (Key × V)} {ds : List (Key × D)}, DKs K F vs ds → DKs K F (vs.map fun kv => if kv.1 = k then (kv.1, v) else kv) (ds.map fun p => if p.1 = k then (p.1, d) else p)
  | _, _, .nil => .nil
  | _, _, @DKs.cons _ _ k0 v0 ks d0 ds h t => by
    have ih := DKs.repl (k := k) hv t
    simp only [List.map_cons]
    by_cases e : k0 = k
    · rw [if_pos e, if_pos e]; exact .cons hv ih
    · rw [if_neg e, if_neg e]; exact .cons h ih
theorem DKs.put {K : PySem.W.Frag} {k : Key} {v : V} {d : D} (hv : Dat K F v d) {vs : List (Key × V)} {ds : List (Key × D)} (h : DKs K F vs ds) : DKs K F (putK vs k v) (putD ds k d) := by
  unfold putK putD
  rw [h.any]
  split
  · exact h.repl hv
  · exact h.app (.cons hv .nil)
theorem DKs.len {K : PySem.W.Frag} : ∀ {vs : List (Key × V)} {ds : List (Key × D)}, DKs K F vs ds → vs.length = ds.length
  | _, _, .nil => rfl
  | _, _, .cons _ t => congrArg (· + 1) (DKs.len t)
/-! ### d[k] -/
def rIxK (H0 : Unit) : R2 := fun x y H Q => ∃ a v, x = .ref a ∧ DGet H a y (some v) ∧ Q v H
theorem ix_own (hu : X.A.units + 1 < cLine) : IxR X (rIxK ()) := by
  intro value slice pins s σ H x y v u Q I rx ry h hs
  obtain ⟨p, w, rfl, g, q⟩ := h
  obtain rfl : v = Value.ref p := rx
  exact tail_any (dict_typeIs I g) PySem.F.slot_dict_getitem.lookup (d_getItem hu I g ry fun w' s3 I3 rw' => ⟨w, H, I3, rw', q⟩) hs
def ixK : D → D → Option Res
  | .dict ds, y => (keyD y).bind fun k => (lookD ds k).map Res.d
  | _, _ => none
theorem od_ixK : OpD C (rIxK ()) ixK := by
  intro F H σ δ v w x y res Q R hx hy e k
  cases x with
  | dict ds =>
    simp only [ixK] at e
    cases q : keyD y with
    | none => rw [q] at e; cases e
    | some ky =>
      rw [q] at e
      simp only [Option.bind_some] at e
      cases q2 : lookD ds ky with
      | none => rw [q2] at e; cases e
      | some z =>
        rw [q2] at e; cases e
        have no : isOpq ds = false := by
          cases z : isOpq ds with
          | false => rfl
          | true =>
            unfold isOpq at z
            split at z
            · simp [lookD, keyD] at q2
            · cases z
        obtain ⟨a, ks, rfl, h1, t1⟩ := hx.dct R.ext no
        rcases t1.val (k := ky) with ⟨_, z2⟩ | ⟨u, x', z1, z2, z3⟩
        · rw [q2] at z2; cases z2
        · rw [q2] at z2; cases z2
          exact ⟨a, u, rfl, .inl ⟨ks, ky, h1, key_of hy q, z1.symm⟩, k u F H Stp.refl R z3⟩
  | _ => cases e
def ixG (x y : D) : Option Res := (ixS x y).or (ixK x y)
theorem de_ixG (hK : C.K = X.K) (hr : Room k X.A) (ha : DE X C W a fa) (hb : DE X C W b fb) (hs : PlainIx b) : DE X C W (.Subscript a b pos) (op2E ixG fa fb) := de_ix (r := fun x y H Q => rIx C.K x y H Q ∨ rIxK () x y H Q) (by rw [hK]; exact ix_seq.or (ix_own (by have := hr.un; omega))) (od_ix.or od_ixK) ha hb hs
/-! ### x in y -/
def rInK (n : Bool) : R2 := fun x y H Q => ∃ a o, y = .ref a ∧ DGet H a x o ∧ Q (.bl (if n then !o.isSome else o.isSome)) H
theorem op_inK (hu : X.A.units + 1 < cLine) : OpR X (compareOp .In) (rInK false) := by
  intro pins s σ H x y v u Q I rx ry h
  obtain ⟨p, w, rfl, g, q⟩ := h
  obtain rfl : u = Value.ref p := ry
  exact d_in hu I g rx fun s3 I3 => ⟨.bl w.isSome, H, I3, rfl, q⟩
theorem op_ninK (hu : X.A.units + 1 < cLine) : OpR X (compareOp .NotIn) (rInK true) := by
  intro pins s σ H x y v u Q I rx ry h
  obtain ⟨p, w, rfl, g, q⟩ := h
  obtain rfl : u = Value.ref p := ry
  exact d_notIn hu I g rx fun s3 I3 => ⟨.bl (!w.isSome), H, I3, rfl, q⟩
def inK (n : Bool) : D → D → Option Res
  | x, .dict ds => if isOpq ds = true then none else (keyD x).map fun k => .d (.bool (if n then !(lookD ds k).isSome else (lookD ds k).isSome))
  | _, _ => none
theorem od_inK {n : Bool} : OpD C (rInK n) (inK n) := by
  intro F H σ δ v w x y res Q R hx hy e k
  cases y with
  | dict ds =>
    simp only [inK] at e
    cases z : isOpq ds with
    | true => rw [if_pos z] at e; cases e
    | false =>
    rw [if_neg (by rw [z]; decide)] at e
    cases q : keyD x with
    | none => rw [q] at e; cases e
    | some ky =>
      rw [q] at e
      cases e
      obtain ⟨a, ks, rfl, h1, t1⟩ := hy.dct R.ext z
      refine ⟨a, _, rfl, .inl ⟨ks, ky, h1, key_of hx q, rfl⟩, ?_⟩
      have : (valV ks ky).isSome = (lookD ds ky).isSome := by
        rcases t1.val (k := ky) with ⟨z1, z2⟩ | ⟨u, x', z1, z2, z3⟩
        · rw [z1, z2]; rfl
        · rw [z1, z2]; rfl
      rw [this]
      exact k _ F H Stp.refl R (Dat.bl _)
  | _ => cases e
def inL (n : Bool) : D → D → Option Res
  | x, .list ds => if layD x = true ∧ layD (.list ds) = true then some (.d (.bool (if n then !ds.any fun z => PyData.eqv z x else ds.any fun z => PyData.eqv z x))) else none
  | _, _ => none
theorem od_inL {n : Bool} : OpD C (fun x y H Q => ∃ d ds, Dp C.K H x d ∧ Dp C.K H y (.list ds) ∧ SeqAt.shaped d = true ∧ SeqAt.shaped (.list ds) = true ∧ Q (.bl (if n then !ds.any fun z => PyData.eqv z d else ds.any fun z => PyData.eqv z d)) H) (inL n) := by
  intro F H σ δ v w x y res Q R hx hy e k
  cases y with
  | list ds =>
    simp only [inL] at e
    split at e
    · rename_i hl
      cases e
      exact ⟨x, ds, (hx.dat R.ext).dpl hl.1, (hy.dat R.ext).dpl hl.2, lay_shaped hl.1, lay_shaped hl.2, k _ F H Stp.refl R (Dat.bl _)⟩
    · cases e
  | _ => cases e
def inG (x y : D) : Option Res := (inK false x y).or (inL false x y)
def notInG (x y : D) : Option Res := (inK true x y).or (inL true x y)
theorem op_inG (hr : Room k X.A) : OpR X (compareOp .In) (fun x y H Q => rInK false x y H Q ∨ rInD X.K x y H Q) := (op_inK (by have := hr.un; omega)).or (op_inD (by have := hr.un; omega))
theorem op_notInG (hr : Room k X.A) : OpR X (compareOp .NotIn) (fun x y H Q => rInK true x y H Q ∨ rNotInD X.K x y H Q) := (op_ninK (by have := hr.un; omega)).or (op_notInD (by have := hr.un; omega))
theorem od_inG : OpD C (fun x y H Q => rInK false x y H Q ∨ rInD C.K x y H Q) inG := od_inK.or (od_inL (n := false))
theorem od_notInG : OpD C (fun x y H Q => rInK true x y H Q ∨ rNotInD C.K x y H Q) notInG := od_inK.or (od_inL (n := true))
/-! ### o[i] = v -/
def setIS (fv fo fi : SE) : SS := bindS (escE fv) fun rv => bindS fo fun ro => bindS (pkE fi) fun ri δ =>
  match rv, ro, ri.get δ with
  | .d v, .b j, some ix => match δ[j]?, ix with
    | some (.L k xs), .int i => (ixN xs.length i).map fun n => .nx (δ.set j (.L k (xs.set n v)))
    | some (.M k ks), ix => (keyD ix).bind fun ky => if ks.length < sizeLine then some (.nx (δ.set j (.M k (putD ks ky v)))) else none
    | _, _ => none
  | _, _, _ => none
theorem setI_read {g : Unit} {fi : SE} {D : Ends} {fv : SE} (h : tS C W (setIS fv fo fi) D σ H) :
    tD C W (escE fv) σ H fun v H1 => tD C W fo σ H1 fun x H2 => tD C W (pkE fi) σ H2 fun y H3 => (rSetL x y v H3 fun H4 => D.nx σ H4) ∨ rSetD x y v H3 fun H4 => D.nx σ H4 := by
  obtain ⟨F, δ, R, h⟩ := h
  refine ⟨F, δ, (bindS_read (RVa := RVl C) R h).mono fun v H1 ⟨F1, δ1, r1, e1, S1, R1, V1, q1⟩ => ?_⟩
  refine ⟨F1, δ1, (bindS_read (RVa := RVl C) R1 q1).mono fun x H2 ⟨F2, δ2, r2, e2, S2, R2, V2, q2⟩ => ?_⟩
  refine ⟨F2, δ2, (bindS_read (RVa := RVl C) R2 q2).mono fun y H3 ⟨F3, δ3, r3, e3, S3, R3, V3, q3⟩ => ?_⟩
  obtain ⟨z, rfl⟩ := esc_isD e1
  have V1' : Dat C.K F3 v z := Dat.mono (S2.trans S3).ext V1
  cases r2 with
  | b j =>
    have V2 : σ[j]? = some (some x) := V2
    cases q4 : r3.get δ3 with
    | none => simp only [q4] at q3; exact q3.elim
    | some ix =>
      simp only [q4] at q3
      have dy := RV.get V3 R3 q4
      cases q5 : δ3[j]? with
      | none => simp only [q5] at q3; exact q3.elim
      | some s =>
        have sl := R3.slot j _ s V2 q5
        cases s with
        | u => simp only [q5] at q3; exact q3.elim
        | d x => simp only [q5] at q3; exact q3.elim
        | L k xs =>
          cases ix with
          | int i =>
            simp only [q5] at q3
            cases q6 : ixN xs.length i with
            | none => rw [q6] at q3; exact q3.elim
            | some n =>
              rw [q6] at q3
              obtain ⟨p, vs, e4, lb, h4, f4, t4⟩ := sl
              cases e4
              refine .inl ⟨p, vs, i, n, rfl, dy.int, h4, by rw [t4.length]; exact q6, ?_⟩
              obtain ⟨S4, R4⟩ := R3.write (s' := .L k (xs.set n z)) (o := .lst (vs.set n v)) q5 rfl V2 rfl rfl ⟨p, _, rfl, lb, upd_same, f4, t4.set V1' n⟩
              exact q3 σ F3 _ (Le.refl _) R4
          | _ => simp only [q5] at q3; exact q3.elim
        | M k ks =>
          simp only [q5] at q3
          cases q6 : keyD ix with
          | none => rw [q6] at q3; exact q3.elim
          | some ky =>
            rw [q6] at q3
            simp only [Option.bind_some] at q3
            obtain ⟨p, vs, e4, lb, h4, f4, t4⟩ := sl
            cases e4
            by_cases hl : ks.length < sizeLine
            · rw [if_pos hl] at q3
              refine .inr ⟨p, _, rfl, .inl ⟨vs, ky, h4, key_of dy q6, by rw [t4.len]; exact hl, rfl⟩, ?_⟩
              obtain ⟨S4, R4⟩ := R3.write (s' := .M k (putD ks ky z)) (o := .dK (putK vs ky v)) q5 rfl V2 rfl rfl ⟨p, _, rfl, lb, upd_same, f4, t4.put V1'⟩
              exact q3 σ F3 _ (Le.refl _) R4
            · rw [if_neg hl] at q3; exact q3.elim
  | _ => exact q3.elim
theorem PSet.or {t t' : TSet} (h : PSet X t) (h' : PSet X t') : PSet X fun o i v H Q => t o i v H Q ∨ t' o i v H Q := by
  intro pins s σ H o i v ov iv u Q I ro ri rv q
  rcases q with q | q
  · exact h pins s σ H o i v ov iv u Q I ro ri rv q
  · exact h' pins s σ H o i v ov iv u Q I ro ri rv q
theorem ds_setI {i v : Expr} {fi fv : SE} {spos : Pos} (hr : Room k X.A) (hv : DE X C W v fv) (ho : DE X C W o fo) (hi : DE X C W i fi)
    (hs : swapsWithSole [.Subscript o i pos] v spos.line X.env = pure false := by rfl) (hw : swappedStores [.Subscript o i pos] v X.env = pure none := by rfl)
    (h1 : (assignEach [.Subscript o i pos] X.env).map (·.2) = [assign (.Subscript o i pos) X.env] := by rfl)
    (ha : ∀ v, assign (.Subscript o i pos) X.env v = (do
      let ov ← holding [v] (eval o X.env)
      let iv ← holding [v, ov] (eval i X.env)
      standAt pos
      holding [v, ov, iv] (setItem ov iv v)
      release [v, ov, iv] []) := by intro _; rfl) : DS X C W (.Assign [.Subscript o i pos] v spos) (setIS fv fo fi) :=
  ps_mono (ps_asg (de_esc hv) (pg_sub ho (de_pk hi) (PSet.or set_list (set_dict (by have := hr.un; omega))) ha) hs hw h1) fun D σ H h => setI_read (g := ()) h
end
end DL

namespace DL
open PySem PySem.Spec PyProof.Rows L2
section
variable {X : Cx} {C : DC} {W : XW} {F F' F1 Fs H H' H1 Hs : Hp} {σ : Sg} {δ δ' δ1 δs : List SV} {e a b o : Expr} {f fa fb fo : SE} {pos apos : Pos} {k : Nat} {α β γ : Type}
/-! ### a reading from an earlier start -/
def tZ (C : DC) (W : XW) (RVa : Hp → Hp → Sg → Hp → β → α → Prop) (g : SEa α) (Fs Hs : Hp) (σ : Sg) (δs δ : List SV) (Q : β → Hp → Prop) : Prop :=
  match g δ with
    | none => False
    | some (.ok r δ') => ∀ v F' H', Stp Fs Hs σ δs F' H' δ' → Rp C F' H' σ δ' → RVa F' H' σ Hs v r → Q v H'
    | some (.ex e δ') => ∀ F' H' od, Stp Fs Hs σ δs F' H' δ' → Rp C F' H' σ δ' → XOk C F' H' e od → W (.ref e.cls) od σ H'
theorem tX.z {RVa : Hp → Hp → Sg → Hp → β → α → Prop} {g : SEa α} {Q : β → Hp → Prop} (h : tX C W RVa g F H σ δ Q) : tZ C W RVa g F H σ δ δ Q := h.2
theorem tZ.bind {RVa : Hp → Hp → Sg → Hp → β → α → Prop} {α' γ' : Type} {RVb : Hp → Hp → Sg → Hp → γ' → α' → Prop} {f : SEa α} {k : α → SEa α'} {Q : γ' → Hp → Prop}
    (h : tZ C W RVb (bindE f k) Fs Hs σ δs δ Q) (S : Stp Fs Hs σ δs F H δ) (R : Rp C F H σ δ) :
    tX C W RVa f F H σ δ (fun v H1 => ∃ F1 δ1 r, f δ = some (.ok r δ1) ∧ Stp F H σ δ F1 H1 δ1 ∧ Stp Fs Hs σ δs F1 H1 δ1 ∧ Rp C F1 H1 σ δ1 ∧ RVa F1 H1 σ H v r ∧ tZ C W RVb (k r) Fs Hs σ δs δ1 Q) := by
  refine ⟨R, ?_⟩
  unfold tZ bindE at h
  cases q : f δ with
  | none => rw [q] at h; exact h
  | some o =>
    rw [q] at h
    cases o with
    | ex e δ' => exact fun F' H' od S' R' x => h F' H' od (S.trans S') R' x
    | ok r δ1 => exact fun v F1 H1 S1 R1 V1 => ⟨F1, δ1, r, rfl, S1, S.trans S1, R1, V1, h⟩
theorem tZ.some {RVa : Hp → Hp → Sg → Hp → β → α → Prop} {g : SEa α} {Q : β → Hp → Prop} (h : tZ C W RVa g Fs Hs σ δs δ Q) : ∃ o, g δ = some o := by
  unfold tZ at h
  cases q : g δ with
  | none => rw [q] at h; exact h.elim
  | some o => exact ⟨o, rfl⟩
theorem tZ.use {RVa : Hp → Hp → Sg → Hp → β → α → Prop} {g : SEa α} {Q : β → Hp → Prop} (h : tZ C W RVa g Fs Hs σ δs δ Q) {r : α} (e : g δ = Option.some (ER.ok r δ')) (S : Stp Fs Hs σ δs F H δ') (R : Rp C F H σ δ') {v : β} (V : RVa F H σ Hs v r) : Q v H := by
  unfold tZ at h
  rw [e] at h
  exact h v F H S R V
/-- a thing that was made since the start is written -/
theorem Stp.poke (S : Stp Fs Hs σ δs F H δ) {p : Addr} (o : HO) (np : Hs p = none) : Stp Fs Hs σ δs F (upd H p o) δ :=
  ⟨S.ext, fun a u h n => by
    obtain ⟨h1, f1⟩ := S.frm a u h n
    have : a ≠ p := fun z => by rw [z, np] at h; cases h
    exact ⟨by rw [upd_ne this]; exact h1, f1⟩, fun a h => by
      by_cases z : a = p
      · rw [z, upd_same]; simp
      · rw [upd_ne z]; exact S.pers a h, S.own⟩
theorem Rp.poke (R : Rp C F H σ δ) {p : Addr} (o : HO) (hf : F p = none) (no : ¬ OwnedAt σ δ p) (n0 : C.H0 p = none) : Rp C F (upd H p o) σ δ where
  ext := le_updr R.ext hf
  len := R.len
  slot := fun i x s hx hs => (R.slot i x s hx hs).mono (Le.refl _) fun a ea es u hu => by
    subst ea
    have : a ≠ p := fun z => no (by rw [← z]; exact ⟨i, s, hs, es, hx⟩)
    exact ⟨by rw [upd_ne this]; exact hu, (R.owned_there ⟨i, s, hs, es, hx⟩).2⟩
  apart := R.apart
  own0 := R.own0
  old := fun a u h n => by
    obtain ⟨h1, f1⟩ := R.old a u h n
    have : a ≠ p := fun z => by rw [z, n0] at h; cases h
    exact ⟨by rw [upd_ne this]; exact h1, f1⟩
  ext0 := R.ext0
  pers := fun a h => by
    by_cases z : a = p
    · rw [z, upd_same]; simp
    · rw [upd_ne z]; exact R.pers a h
/-! ### {k: v, ..} -/
def mergeD (acc more : List (Key × D)) : List (Key × D) := more.foldl (fun acc p => putD acc p.1 p.2) acc
theorem DKs.merge {K : PySem.W.Frag} : ∀ {more : List (Key × V)} {more' : List (Key × D)} {vs : List (Key × V)} {ds : List (Key × D)}, DKs K F more more' → DKs K F vs ds → DKs K F (mergeK vs more) (mergeD ds more')
  | _, _, _, _, .nil, h => h
  | _ :: more, _ :: more', vs, ds, .cons hv t, h => DKs.merge (more := more) (more' := more') t (h.put hv)
def dispGo : List (SE × SE) → List (Key × D) → SE
  | [], acc => pureE (.nM (mergeD [] acc))
  | (fk, fv) :: r, acc => bindE (pkE fk) fun rk => bindE (escE fv) fun rv => match rk, rv with
    | .d x, .d y => match keyD x with
      | some ky => dispGo r (acc ++ [(ky, y)])
      | none => fun _ => none
    | _, _ => fun _ => none
def dispE (prs : List (SE × SE)) : SE := if prs.length ≤ 15 then dispGo prs [] else fun _ => none
inductive DPs (X : Cx) (C : DC) (W : XW) (pos : Pos) : List (Option Expr) → List Expr → List (SE × SE) → Prop
  | nil : DPs X C W pos [] [] []
  | cons {k v : Expr} {ks : List (Option Expr)} {vs : List Expr} {fk fv : SE} {prs : List (SE × SE)} : DE X C W k fk → DE X C W v fv → DPs X C W pos ks vs prs → DPs X C W pos (some k :: ks) (v :: vs) ((fk, fv) :: prs)
theorem DPs.pps : ∀ {ks : List (Option Expr)} {vs : List Expr} {prs : List (SE × SE)}, DPs X C W pos ks vs prs → PPs X pos ks vs (prs.map fun p => (tD C W (pkE p.1), tD C W (escE p.2)))
  | _, _, _, .nil => pps_nil
  | _, _, _, .cons h1 h2 t => pps_cons (de_pk h1) (de_esc h2) t.pps
theorem disp_go {n : Nat} {p : Addr} {G : List (V × V) → Hp → Prop} {Q : V → Hp → Prop} (R0 : Rp C Fs Hs σ δs) (np : Hs p = none)
    (hG : ∀ kvs H2 F2 δ2 ks, ks.length = n → Stp Fs Hs σ δs F2 H2 δ2 → Rp C F2 H2 σ δ2 → H2 p = some (.dK []) → F2 p = none → DKs C.K F2 kvs ks → tZ C W (RVl C) (pureE (.nM (mergeD [] ks))) Fs Hs σ δs δ2 Q → G (kvs.map fun kv => (kV kv.1, kv.2)) H2) :
    ∀ (prs : List (SE × SE)) (acc : List (Key × D)) (kvs : List (Key × V)) (F H : Hp) (δ : List SV), acc.length + prs.length = n → Stp Fs Hs σ δs F H δ → Rp C F H σ δ → H p = some (.dK []) → F p = none → DKs C.K F kvs acc → tZ C W (RVl C) (dispGo prs acc) Fs Hs σ δs δ Q →
      tPairs (prs.map fun p => (tD C W (pkE p.1), tD C W (escE p.2))) σ H fun ps H2 => G (kvs.map (fun kv => (kV kv.1, kv.2)) ++ ps) H2
  | [], acc, kvs, F, H, δ, hn, S, R, hp, fp, dk, h => by
    show G _ _
    rw [List.append_nil]
    exact hG kvs H F δ acc hn S R hp fp dk h
  | (fk, fv) :: r, acc, kvs, F, H, δ, hn, S, R, hp, fp, dk, h => by
    have no : ¬ OwnedAt σ δ p := fun z => R0.fresh_own np (S.owned z)
    refine ⟨F, δ, (tZ.bind (RVa := RVl C) h S R).mono fun x H1 ⟨F1, δ1, r1, e1, S1, S1', R1, V1, h1⟩ => ?_⟩
    refine ⟨F1, δ1, (tZ.bind (RVa := RVl C) h1 S1' R1).mono fun y H2 ⟨F2, δ2, r2, e2, S2, S2', R2, V2, h2⟩ => ?_⟩
    obtain ⟨z, rfl⟩ := esc_isD e2
    cases r1 with
    | d x0 =>
      simp only at h2
      cases q : keyD x0 with
      | none => rw [q] at h2; exact h2.elim
      | some ky =>
        rw [q] at h2
        obtain ⟨h3, f3⟩ := S1.frm p _ hp no
        obtain ⟨h4, f4⟩ := S2.frm p _ h3 fun z => R0.fresh_own np (S1'.owned z)
        have kx : x = kV ky := key_of (F := F1) (H := H1) (C := C) (.inl V1) q
        have := disp_go R0 np hG r (acc ++ [(ky, z)]) (kvs ++ [(ky, y)]) F2 H2 δ2 (by simp at hn ⊢; omega) S2' R2 h4 (f4 (f3 fp)) ((dk.mono (S1.trans S2).ext).app (.cons V2 .nil)) h2
        rw [List.map_append] at this
        simp only [List.map_cons, List.map_nil, List.append_assoc, List.singleton_append, ← kx] at this
        exact this
    | b j => exact h2.elim
    | nL xs => exact h2.elim
    | nM xs => exact h2.elim
theorem DPs.len : ∀ {ks : List (Option Expr)} {vs : List Expr} {prs : List (SE × SE)}, DPs X C W pos ks vs prs → ks.length = prs.length ∧ ks.length = vs.length ∧ ks.all (·.isSome) = true
  | _, _, _, .nil => ⟨rfl, rfl, rfl⟩
  | _, _, _, .cons _ _ t => by
    obtain ⟨h1, h2, h3⟩ := t.len
    exact ⟨by simp [h1], by simp [h2], by simp [h3]⟩
theorem de_disp {ks : List (Option Expr)} {vs : List Expr} {prs : List (SE × SE)} (h : DPs X C W pos ks vs prs) (h0 : ks ≠ []) (h15 : ks.length ≤ 15 := by decide) : DE X C W (.Dict ks vs pos) (dispE prs) := by
  obtain ⟨l1, l2, l3⟩ := h.len
  refine pe_mono (pe_disp h.pps l3 l2 h0 h15) fun σ H Q ⟨F, δ, hx⟩ => ?_
  intro p np
  have R := hx.1
  have hz := hx.z
  unfold dispE at hz
  rw [if_pos (by rw [← l1]; exact h15)] at hz
  obtain ⟨S1, R1⟩ := R.newG (.dK []) np
  have := disp_go (G := fun ps H2 => H2 p = some (.dK []) ∧ ∃ kvs : List (Key × V), ps = kvs.map (fun kv => (kV kv.1, kv.2)) ∧ kvs.length ≤ 15 ∧ Q (.ref p) (upd H2 p (.dK (mergeK [] kvs)))) (Q := Q) (p := p) R np ?_ prs [] [] F _ δ rfl S1 R1 upd_same (R.freshF np) .nil hz
  · simpa using this
  · intro kvs H2 F2 δ2 ks2 hn S2 R2 hp fp dk z
    refine ⟨hp, kvs, rfl, ?_, ?_⟩
    · rw [dk.len, hn]; simp; omega
    · have no : ¬ OwnedAt σ δ2 p := fun z => R.fresh_own np (S2.owned z)
      have dm := (dk.merge (.nil (K := C.K) (H := F2)))
      exact tZ.use (r := .nM (mergeD [] ks2)) z rfl (S2.poke _ np) (R2.poke _ fp no (R.fresh0 np)) ⟨p, _, rfl, upd_same, fp, dm, np⟩
theorem de_disp0 : DE X C W (.Dict [] [] pos) (pureE (.nM [])) := pe_mono pe_dnewK fun σ H Q ⟨F, δ, h⟩ => fun p np => by
  obtain ⟨S1, R1⟩ := h.1.newG (.dK []) np
  exact h.use (δ' := δ) rfl S1 R1 ⟨p, [], rfl, upd_same, h.1.freshF np, .nil, np⟩
end
end DL

namespace DL
open PySem PySem.Spec PyProof.Rows L2
section
variable {X : Cx} {C : DC} {W : XW} {F F' F1 Fs H H' H1 Hs : Hp} {σ : Sg} {δ δ' δ1 δs : List SV} {e a b o : Expr} {es : List Expr} {f fa fb fo : SE} {pos apos cpos : Pos} {k : Nat}
/-! ### methods of a list of one's own -/
def selL (fo : SE) : SEa Nat := bindE fo fun r => fun δ => match r with
  | .b j => match δ[j]? with
    | some (.L _ _) => some (.ok j δ)
    | _ => none
  | _ => none
def MetD (C : DC) (r : V → List V → Hp → VK → Prop) (g : List D → List D → Option (D × List D)) : Prop :=
  ∀ (F H : Hp) (a : Addr) (vs ws : List V) (xs args ys : List D) (x : D) (Q : VK), Le F H → H a = some (.lst vs) → F a = none → Dats C.K F vs xs → Dats C.K F ws args → g xs args = some (x, ys) →
    (∀ u vs', Dats C.K F vs' ys → Dat C.K F u x → Q u (upd H a (.lst vs'))) → r (.ref a) ws H Q
def metE (g : List D → List D → Option (D × List D)) (fo : SE) (fa : SA) : SE := bindE (selL fo) fun j => bindE fa fun rs => fun δ =>
  match δ[j]?, datas rs with
  | some (.L k xs), some args => (g xs args).map fun q => .ok (.d q.1) (δ.set j (.L k q.2))
  | _, _ => none
def RJ (C : DC) : Hp → Hp → Sg → Hp → V → Nat → Prop := fun _ _ σ _ v j => σ[j]? = some (some v)
theorem sel_read {Q : V → Hp → Prop} (h : tX C W (RJ C) (selL fo) F H σ δ Q) : tD C W fo σ H fun x H1 => tyV C.K "list" x H1 ∧ Q x H1 := by
  refine bindV (RVb := RJ C) (fun _ _ _ _ _ _ _ _ z => z) h fun v F1 H1 δ1 r1 e1 S1 R1 V1 h1 => ?_
  obtain ⟨o, ho⟩ := h1.some
  have ho' := ho
  cases r1 with
  | b j =>
    have V1 : σ[j]? = some (some v) := V1
    cases q : δ1[j]? with
    | none => simp only [q] at ho; cases ho
    | some s =>
      have sl := R1.slot j _ s V1 q
      cases s with
      | L k xs =>
        simp only [q] at ho
        cases ho
        obtain ⟨p, vs, e2, _, hp, _⟩ := sl
        cases e2
        exact ⟨.inl ⟨rfl, vs, SqL.of hp⟩, h1.use ho' Stp.refl R1 V1⟩
      | _ => simp only [q] at ho; cases ho
  | _ => cases ho
theorem met_core {r : V → List V → Hp → VK → Prop} {g : List D → List D → Option (D × List D)} {fa : SA} {Q : VK} (hm : MetD C r g) (h : tD C W (metE g fo fa) σ H Q) :
    tD C W fo σ H fun x H1 => tyV C.K "list" x H1 ∧ tAr C W fa σ H1 fun ws H2 => r x ws H2 Q := by
  obtain ⟨F, δ, h⟩ := h
  refine sel_read (F := F) (δ := δ) ((tX.bind (RVa := RJ C) (H1 := H) (RVb := RVl C) (fun _ _ _ _ _ z => z) (mbV) h).mono fun v H1 ⟨F1, δ1, j, e1, S1, V1, h1⟩ => ?_)
  have R1 := h1.1
  have V1 : σ[j]? = some (some v) := V1
  refine bindA (RVb := RVl C) (mbV) h1 fun ws F2 H2 δ2 rs e2 S2 R2 V2 h2 => ?_
  obtain ⟨o, ho⟩ := h2.some
  have ho' := ho
  cases q : δ2[j]? with
  | none => simp only [q] at ho; cases ho
  | some s =>
    have sl := R2.slot j _ s V1 q
    cases s with
    | L k xs =>
      cases q2 : datas rs with
      | none => simp only [q, q2] at ho; cases ho
      | some args =>
        simp only [q, q2] at ho
        cases q3 : g xs args with
        | none => rw [q3] at ho; cases ho
        | some y =>
          rw [q3] at ho
          have ho : some (ER.ok (.d y.1) (δ2.set j (.L k y.2))) = some o := ho
          cases ho
          obtain ⟨p, vs, e3, lb, hp, fp, t⟩ := sl
          cases e3
          refine hm F2 H2 p vs ws xs args y.2 y.1 Q R2.ext hp fp t (V2.datas q2) q3 fun u vs' d1 d2 => ?_
          obtain ⟨S3, R3⟩ := R2.write (s' := .L k y.2) (o := .lst vs') q rfl V1 rfl rfl ⟨p, _, rfl, lb, upd_same, fp, d1⟩
          exact h2.use ho' S3 R3 d2
    | _ => simp only [q] at ho; cases ho
theorem de_met {r : V → List V → Hp → VK → Prop} {g : List D → List D → Option (D × List D)} {fa : SA} {name : Str} {id : String} (hK : C.K = X.K) (slot : Slot "list" name id) (hty : typeOf (.builtin id) = pure (.type "method_descriptor")) (hm : MtR X id r) (hd : MetD C r g) (ho : DE X C W o fo) (ha : DA X C W (e :: es) fa)
    (hbase : attributeBase o name X.env (eval o X.env) = eval o X.env := by rfl)
    (hfew : ((backTo cpos (starEach (e :: es) X.env)).all (fun x => !x.1) && (backToKw cpos (keywordEach [] X.env)).all (fun x => x.1.isSome)
      && decide ((e :: es).length + ([] : List Keyword).length + (if ([] : List Keyword).isEmpty then 0 else 1) < 30)) = true := by rfl)
    (hline : (apos.endLine == cpos.line) = true := by rfl) (hs : starEach (e :: es) X.env = (false, eval e X.env) :: starEach es X.env := by rfl) (hplain : (backTo cpos (starEach es X.env)).any (·.1) = false := by rfl) :
    DE X C W (.Call (.Attribute o name apos) (e :: es) [] cpos) (metE g fo fa) :=
  pe_mono (pe_bm PySem.F.plainAttrs_list slot hty hm ho ha hbase hfew hline hs hplain) fun σ H Q h => by rw [← hK]; exact met_core hd h
theorem de_met0 {r : V → List V → Hp → VK → Prop} {g : List D → List D → Option (D × List D)} {name : Str} {id : String} (hK : C.K = X.K) (slot : Slot "list" name id) (hty : typeOf (.builtin id) = pure (.type "method_descriptor")) (hm : MtR X id r) (hd : MetD C r g) (ho : DE X C W o fo)
    (hbase : attributeBase o name X.env (eval o X.env) = eval o X.env := by rfl) (hline : (apos.endLine == cpos.line) = true := by rfl) :
    DE X C W (.Call (.Attribute o name apos) [] [] cpos) (metE g fo nilA) := by
  refine pe_mono (pe_bm0 PySem.F.plainAttrs_list slot hty hm ho hbase hline) fun σ H Q h => ?_
  have h2 := met_core hd h
  obtain ⟨F, δ, h2⟩ := h2
  refine ⟨F, δ, h2.mono fun x H1 ⟨t, F1, δ1, R1, z⟩ => ⟨by rw [← hK]; exact t, ?_⟩⟩
  exact z [] F1 H1 Stp.refl R1 .nil
def appG : List D → List D → Option (D × List D)
  | xs, [y] => if xs.length < sizeLine then some (.none, xs ++ [y]) else none
  | _, _ => none
theorem md_append : MetD C rAppend appG := by
  intro F H a vs ws xs args ys x Q l h f t ta e k
  match args, ta, e with
  | [y], .cons hy .nil, e =>
    simp only [appG] at e
    split at e
    · rename_i hl
      cases e
      exact ⟨a, vs, _, rfl, rfl, h, by rw [t.length]; exact hl, k .non _ (t.append (.cons hy .nil)) .non⟩
    · cases e
  | [], _, e => cases e
  | y :: _ :: _, _, e => (cases y <;> cases e)
def popG : List D → List D → Option (D × List D)
  | xs, [] => (xs[xs.length - 1]?).map fun y => (y, xs.dropLast)
  | _, _ => none
theorem Dats.dropLast {K : PySem.W.Frag} {vs : List V} {ds : List D} (h : Dats K F vs ds) : Dats K F vs.dropLast ds.dropLast := by
  rw [List.dropLast_eq_take, List.dropLast_eq_take, h.length]
  exact h.take _
theorem md_pop : MetD C rPop popG := by
  intro F H a vs ws xs args ys x Q l h f t ta e k
  match args, ta, e with
  | [], .nil, e =>
    simp only [popG] at e
    cases q : xs[xs.length - 1]? with
    | none => rw [q] at e; cases e
    | some y =>
      rw [q] at e
      cases e
      obtain ⟨v, h1, h2⟩ := t.get q
      rw [← t.length] at h1
      exact ⟨a, vs, v, rfl, rfl, h, h1, k v _ t.dropLast h2⟩
  | _ :: _, _, e => cases e
def popAtG : List D → List D → Option (D × List D)
  | xs, [.int i] => if -(2 ^ 63) ≤ i ∧ i < 2 ^ 63 then (seqIndex? i xs.length).bind fun n => (xs[n]?).map fun y => (y, xs.eraseIdx n) else none
  | _, _ => none
theorem Dats.erase {K : PySem.W.Frag} : ∀ {vs : List V} {ds : List D} (n : Nat), Dats K F vs ds → Dats K F (vs.eraseIdx n) (ds.eraseIdx n)
  | _, _, _, .nil => .nil
  | _, _, 0, .cons _ t => t
  | _, _, n + 1, .cons h t => .cons h (Dats.erase n t)
theorem md_popAt : MetD C rPopAt popAtG := by
  intro F H a vs ws xs args ys x Q l h f t ta e k
  match args, ta, e with
  | [y], .cons hy .nil, e =>
    cases y with
    | int i =>
      cases hy
      simp only [popAtG] at e
      split at e
      · rename_i hb
        cases q : seqIndex? i xs.length with
        | none => rw [q] at e; cases e
        | some n =>
          rw [q] at e
          simp only [Option.bind_some] at e
          cases q2 : xs[n]? with
          | none => rw [q2] at e; cases e
          | some z =>
            rw [q2] at e
            cases e
            obtain ⟨v, h1, h2⟩ := t.get q2
            exact ⟨a, vs, i, n, v, rfl, rfl, h, hb.1, hb.2, by rw [t.length]; exact q, h1, k v _ (t.erase n) h2⟩
      · cases e
    | _ => cases e
  | [], _, e => cases e
  | y :: _ :: _, _, e => (cases y <;> cases e)
def removeG : List D → List D → Option (D × List D)
  | xs, [.int i] => (toInts xs).bind fun ns => if i ∈ ns then some (.none, (ns.erase i).map PyData.int) else none
  | _, _ => none
theorem Dats.ofInts {K : PySem.W.Frag} : ∀ (ns : List Int), Dats K F (ns.map V.int) (ns.map PyData.int)
  | [] => .nil
  | n :: ns => .cons (.int n) (Dats.ofInts ns)
theorem erase_ix : ∀ {ns : List Int} {i : Int}, i ∈ ns → ∃ j, ns[j]? = some i ∧ (∀ m : Nat, m < j → ns[m]? ≠ some i) ∧ ns.erase i = ns.eraseIdx j
  | n :: ns, i, h => by
    by_cases e : n = i
    · subst e
      exact ⟨0, rfl, fun m hm => absurd hm (Nat.not_lt_zero m), by simp⟩
    · obtain ⟨j, h1, h2, h3⟩ := erase_ix (show i ∈ ns by
        rcases List.mem_cons.mp h with z | z
        · exact absurd z.symm e
        · exact z)
      refine ⟨j + 1, by simpa using h1, fun m hm => ?_, ?_⟩
      · cases m with
        | zero => simpa using e
        | succ m => simpa using h2 m (by omega)
      · rw [List.erase_cons_tail (by simpa using e), h3]; rfl
theorem md_remove : MetD C rRemI removeG := by
  intro F H a vs ws xs args ys x Q l h f t ta e k
  match args, ta, e with
  | [y], .cons hy .nil, e =>
    cases y with
    | int i =>
      cases hy
      simp only [removeG] at e
      cases q : toInts xs with
      | none => rw [q] at e; cases e
      | some ns =>
        rw [q] at e
        simp only [Option.bind_some] at e
        split at e
        · rename_i hm
          cases e
          have := ints_of t q
          subst this
          obtain ⟨j, h1, h2, h3⟩ := erase_ix hm
          refine ⟨a, ns, i, j, rfl, rfl, h, h1, h2, ?_⟩
          rw [h3] at k
          exact k .non _ (Dats.ofInts _) .non
        · cases e
    | _ => cases e
  | [], _, e => cases e
  | y :: _ :: _, _, e => (cases y <;> cases e)
/-! ### methods that look at a list -/
def LookD (C : DC) (r : V → List V → Hp → VK → Prop) (g : List D → List D → Option D) : Prop :=
  ∀ (F H : Hp) (v : V) (ws : List V) (xs args : List D) (x : D) (Q : VK), Le F H → DatP C.K F H v (.list xs) → Dats C.K F ws args → g xs args = some x → (∀ u, Dat C.K F u x → Q u H) → r v ws H Q
def lookE (g : List D → List D → Option D) (fo : SE) (fa : SA) : SE := bindE (pkE fo) fun r => fun δ => match r.get δ with
  | some (.list _) => bindE fa (fun rs => fun δ => match r.get δ, datas rs with
    | some (.list xs), some args => (g xs args).map fun q => .ok (.d q) δ
    | _, _ => none) δ
  | _ => none
theorem tyV_list {v : V} {xs : List D} (e : Le F H) (h : DatP C.K F H v (.list xs)) : tyV C.K "list" v H := by
  obtain ⟨p, vs, rfl, h, _⟩ := h.lst e
  exact .inl ⟨rfl, vs, h⟩
theorem look_core {r : V → List V → Hp → VK → Prop} {g : List D → List D → Option D} {fa : SA} {Q : VK} (hm : LookD C r g) (h : tD C W (lookE g fo fa) σ H Q) :
    tD C W (pkE fo) σ H fun x H1 => tyV C.K "list" x H1 ∧ tAr C W fa σ H1 fun ws H2 => r x ws H2 Q := by
  obtain ⟨F, δ, h⟩ := h
  refine bindV (RVb := RVl C) (mbV) h fun v F1 H1 δ1 r1 e1 S1 R1 V1 h1 => ?_
  obtain ⟨o, ho⟩ := h1.some
  cases q : r1.get δ1 with
  | none => simp only [q] at ho; cases ho
  | some x =>
    cases x with
    | list xs0 =>
      refine ⟨tyV_list R1.ext (V1.get R1 q), ?_⟩
      have h1' : tX C W (RVl C) (bindE fa (fun rs => fun δ => match r1.get δ, datas rs with
        | some (.list xs), some args => (g xs args).map fun q => .ok (.d q) δ
        | _, _ => none)) F1 H1 σ δ1 Q := by
        obtain ⟨a, b⟩ := h1
        refine ⟨a, ?_⟩
        simp only [q] at b
        exact b
      refine bindA (RVb := RVl C) (mbV) h1' fun ws F2 H2 δ2 rs e2 S2 R2 V2 h2 => ?_
      obtain ⟨o2, ho2⟩ := h2.some
      have ho2' := ho2
      cases q2 : r1.get δ2 with
      | none => simp only [q2] at ho2; cases ho2
      | some y =>
        cases y with
        | list xs =>
          cases q3 : datas rs with
          | none => simp only [q2, q3] at ho2; cases ho2
          | some args =>
            simp only [q2, q3] at ho2
            cases q4 : g xs args with
            | none => rw [q4] at ho2; cases ho2
            | some z =>
              rw [q4] at ho2
              have ho2 : some (ER.ok (.d z) δ2) = some o2 := ho2
              cases ho2
              exact hm F2 H2 v ws xs args z Q R2.ext ((V1.after (Hs' := H) (pk_isPk e1) S2).get R2 q2) (V2.datas q3) q4 fun u du => h2.use ho2' Stp.refl R2 du
        | _ => simp only [q2] at ho2; cases ho2
    | _ => simp only [q] at ho; cases ho
theorem de_look {r : V → List V → Hp → VK → Prop} {g : List D → List D → Option D} {fa : SA} {name : Str} {id : String} (hK : C.K = X.K) (slot : Slot "list" name id) (hty : typeOf (.builtin id) = pure (.type "method_descriptor")) (hm : MtR X id r) (hd : LookD C r g) (ho : DE X C W o fo) (ha : DA X C W (e :: es) fa)
    (hbase : attributeBase o name X.env (eval o X.env) = eval o X.env := by rfl)
    (hfew : ((backTo cpos (starEach (e :: es) X.env)).all (fun x => !x.1) && (backToKw cpos (keywordEach [] X.env)).all (fun x => x.1.isSome)
      && decide ((e :: es).length + ([] : List Keyword).length + (if ([] : List Keyword).isEmpty then 0 else 1) < 30)) = true := by rfl)
    (hline : (apos.endLine == cpos.line) = true := by rfl) (hs : starEach (e :: es) X.env = (false, eval e X.env) :: starEach es X.env := by rfl) (hplain : (backTo cpos (starEach es X.env)).any (·.1) = false := by rfl) :
    DE X C W (.Call (.Attribute o name apos) (e :: es) [] cpos) (lookE g fo fa) :=
  pe_mono (pe_bm PySem.F.plainAttrs_list slot hty hm (de_pk ho) ha hbase hfew hline hs hplain) fun σ H Q h => by rw [← hK]; exact look_core hd h
def countG : List D → List D → Option D
  | xs, [.int i] => (toInts xs).map fun ns => .int (ns.count i : Nat)
  | _, _ => none
theorem ld_count : LookD C (rCntI C.K) countG := by
  intro F H v ws xs args x Q l h ta e k
  match args, ta, e with
  | [y], .cons hy .nil, e =>
    cases y with
    | int i =>
      cases hy
      simp only [countG] at e
      cases q : toInts xs with
      | none => rw [q] at e; cases e
      | some ns =>
        rw [q] at e
        cases e
        obtain ⟨p, vs, rfl, h1, t1⟩ := h.lst l
        have := ints_of t1 q
        subst this
        exact ⟨p, ns, i, rfl, rfl, h1, k _ (.int _)⟩
    | _ => cases e
  | [], _, e => cases e
  | y :: _ :: _, _, e => (cases y <;> cases e)
end
end DL

namespace DL
open PySem PySem.Spec PyProof.Rows L2
section
variable {X : Cx} {C : DC} {W : XW} {F F' F1 Fs H H' H1 Hs : Hp} {σ : Sg} {δ δ' δ1 δs : List SV} {e a b c o tg : Expr} {es : List Expr} {f fa fb fo : SE} {pos apos cpos p : Pos} {k : Nat}
/-! ### sources -/
def datS (f : SE) : SI := bindE (escE f) fun r => match r with
  | .d (.list xs) => pureE xs
  | .d (.tuple xs) => pureE xs
  | _ => fun _ => none
theorem itok_list {K : PySem.W.Frag} {a : Addr} {vs : List V} {xs : List D} (hK : K = C.K) (h : SqL K F a vs) (t : Dats C.K F vs xs) : ItOk C F (Itl K a) xs := by
  subst hK
  refine ⟨fun i F1 H σ δ l R hi => ?_, fun i F1 H σ δ x H' z l R y hz => ?_, fun F1 H σ δ l R => ?_⟩
  · obtain ⟨v, h1, _⟩ := t.get (List.getElem?_eq_getElem hi)
    exact ⟨vs, v, (l.trans R.ext).seq h, h1⟩
  · obtain ⟨rfl, y⟩ := y
    obtain ⟨v, h1, h2⟩ := t.get hz
    have := y vs ((l.trans R.ext).seq h)
    rw [h1] at this; cases this
    exact ⟨F1, Stp.refl, R, h2.mono l⟩
  · exact ⟨vs, (l.trans R.ext).seq h, by rw [t.length]; exact Nat.le_refl _⟩
theorem itok_tup {K : PySem.W.Frag} {a : Addr} {vs : List V} {xs : List D} (hK : K = C.K) (h : SqT K F a vs) (t : Dats C.K F vs xs) : ItOk C F (Itt K a) xs := by
  subst hK
  refine ⟨fun i F1 H σ δ l R hi => ?_, fun i F1 H σ δ x H' z l R y hz => ?_, fun F1 H σ δ l R => ?_⟩
  · obtain ⟨v, h1, _⟩ := t.get (List.getElem?_eq_getElem hi)
    exact ⟨vs, v, sqt_mono (l.trans R.ext) h, h1⟩
  · obtain ⟨rfl, y⟩ := y
    obtain ⟨v, h1, h2⟩ := t.get hz
    have := y vs (sqt_mono (l.trans R.ext) h)
    rw [h1] at this; cases this
    exact ⟨F1, Stp.refl, R, h2.mono l⟩
  · exact ⟨vs, sqt_mono (l.trans R.ext) h, by rw [t.length]; exact Nat.le_refl _⟩
theorem di_dat (hK : C.K = X.K) (h : DE X C W e f) : DI X C W tg e (datS f) := by
  refine ⟨fun pins s σ H R I ⟨F, δ, hh⟩ => ?_⟩
  have hl := pi_list (tg := tg) (de_esc h)
  have ht := pi_tup (tg := tg) (de_esc h)
  have key : ∀ (T : Bool), (∀ δ1 x, escE f δ = some (.ok (.d x) δ1) → ∃ xs, x = (if T then .tuple xs else .list xs)) →
      (if T then iTup X.K (tD C W (escE f)) else iList X.K (tD C W (escE f))) σ H R := by
    intro T hT
    have main : tD C W (escE f) σ H (fun v H1 => if T then (∃ a, v = V.ref a ∧ (∃ xs, SqT X.K H1 a xs) ∧ R (Itt X.K a) H1) else (∃ a, v = V.ref a ∧ (∃ xs, SqL X.K H1 a xs) ∧ R (Itl X.K a) H1)) := by
      refine bindV (RVb := RIt C) (fun _ _ _ _ _ _ _ _ z => z) hh fun v F1 H1 δ1 r1 e1 S1 R1 V1 h1 => ?_
      obtain ⟨x, rfl⟩ := esc_isD e1
      obtain ⟨xs, hx⟩ := hT δ1 x e1
      cases T with
      | true =>
        simp only [if_true] at hx ⊢
        subst hx
        have V1 : Dat C.K F1 v (.tuple xs) := V1
        cases V1 with
        | @tup a vs _ hs hd => exact ⟨a, rfl, ⟨vs, by rw [← hK]; exact sqt_mono R1.ext hs⟩, h1.use (δ' := δ1) (r := xs) rfl Stp.refl R1 (itok_tup hK.symm (by rw [← hK]; exact hs) hd)⟩
      | false =>
        simp only [Bool.false_eq_true, if_false] at hx ⊢
        subst hx
        have V1 : Dat C.K F1 v (.list xs) := V1
        cases V1 with
        | @lst a vs _ hs hd => exact ⟨a, rfl, ⟨vs, by rw [← hK]; exact R1.ext.seq hs⟩, h1.use (δ' := δ1) (r := xs) rfl Stp.refl R1 (itok_list hK.symm (by rw [← hK]; exact hs) hd)⟩
    cases T with
    | true => exact main
    | false => exact main
  obtain ⟨oo, ho⟩ := hh.some
  unfold datS bindE at ho
  cases q : escE f δ with
  | none => rw [q] at ho; cases ho
  | some o2 =>
    cases o2 with
    | ex x δ1 =>
      have := key false (fun δ1 x e1 => by rw [q] at e1; cases e1)
      exact hl.run pins s σ H R I this
    | ok r δ1 =>
      rw [q] at ho
      obtain ⟨x, rfl⟩ := esc_isD q
      cases x with
      | list xs =>
        have := key false (fun δ2 x e1 => by rw [q] at e1; cases e1; exact ⟨xs, rfl⟩)
        exact hl.run pins s σ H R I this
      | tuple xs =>
        have := key true (fun δ2 x e1 => by rw [q] at e1; cases e1; exact ⟨xs, rfl⟩)
        exact ht.run pins s σ H R I this
      | _ => cases ho
/-! ranges -/
def rngD (lo : Int) (n : Nat) : List D := (List.range n).map fun (i : Nat) => PyData.int (lo + (i : Int))
theorem rngD_len (lo : Int) (n : Nat) : (rngD lo n).length = n := by simp [rngD]
theorem rngD_get {lo : Int} {n i : Nat} {z : D} (h : (rngD lo n)[i]? = some z) : z = .int (lo + i) ∧ i < n := by
  unfold rngD at h
  rw [List.getElem?_map] at h
  cases q : (List.range n)[i]? with
  | none => rw [q] at h; cases h
  | some j =>
    rw [q] at h
    have hi : i < n := by
      have := (List.getElem?_eq_some_iff.mp q).1
      simpa using this
    rw [List.getElem?_range hi] at q
    cases q; cases h
    exact ⟨rfl, hi⟩
theorem itok_rng {lo : Int} {n : Nat} : ItOk C F (Itr lo n) (rngD lo n) :=
  ⟨fun i F1 H σ δ l R hi => by rw [rngD_len] at hi; exact hi, fun i F1 H σ δ x H' z l R y hz => by
    obtain ⟨rfl, rfl⟩ := y
    obtain ⟨rfl, _⟩ := rngD_get hz
    exact ⟨F1, Stp.refl, R, .int _⟩, fun F1 H σ δ l R => by rw [rngD_len]; exact Nat.le_refl _⟩
def rng1S (fa : SA) : SI := bindE fa fun rs => match datas rs with
  | some [.int j] => if -(2 ^ 62) ≤ j ∧ j < 2 ^ 62 then pureE (rngD 0 j.toNat) else fun _ => none
  | _ => fun _ => none
def rng2S (fa : SA) : SI := bindE fa fun rs => match datas rs with
  | some [.int i, .int j] => if -(2 ^ 62) ≤ i ∧ i < 2 ^ 62 ∧ -(2 ^ 62) ≤ j ∧ j < 2 ^ 62 then pureE (rngD i (j - i).toNat) else fun _ => none
  | _ => fun _ => none
theorem di_range1 {fa : SA} (hg : Gl X "range") (hm : X.mg "range" = none) (ha : DA X C W [a] fa) (hs : starEach [a] X.env = [(false, eval a X.env)] := by rfl) : DI X C W tg (.Call (.Name "range" p) [a] [] pos) (rng1S fa) := by
  refine pi_mono (pi_range1 hg hm ha hs) fun σ H R ⟨F, δ, h⟩ => ?_
  refine bindA (RVb := RIt C) (fun _ _ _ _ _ _ _ _ z => z) h fun vs F1 H1 δ1 rs e1 S1 R1 V1 h1 => ?_
  obtain ⟨o, ho⟩ := h1.some
  cases q : datas rs with
  | none => simp only [q] at ho; cases ho
  | some xs =>
    have d := V1.datas q
    simp only [q] at ho h1
    match xs, d, ho, h1 with
    | [.int j], .cons (.int _) .nil, ho, h1 =>
      simp only at ho h1
      by_cases hb : -(2 ^ 62) ≤ j ∧ j < 2 ^ 62
      · rw [if_pos hb] at h1
        exact ⟨j, rfl, hb.1, hb.2, h1.use (δ' := δ1) rfl Stp.refl R1 itok_rng⟩
      · rw [if_neg hb] at ho; cases ho
    | [], _, ho, _ => cases ho
    | x :: y :: r, _, ho, _ => cases x <;> cases ho
    | [.none], _, ho, _ => cases ho
    | [.bool _], _, ho, _ => cases ho
    | [.str _], _, ho, _ => cases ho
    | [.list _], _, ho, _ => cases ho
    | [.tuple _], _, ho, _ => cases ho
    | [.dict _], _, ho, _ => cases ho
theorem dats2 {vs : List V} {x y : D} (h : Dats C.K F vs [x, y]) : ∃ v w, vs = [v, w] ∧ Dat C.K F v x ∧ Dat C.K F w y := by
  cases h with
  | cons h1 t => cases t with
    | cons h2 t => cases t; exact ⟨_, _, rfl, h1, h2⟩
theorem di_range2 {fa : SA} (hg : Gl X "range") (hm : X.mg "range" = none) (ha : DA X C W [a, b] fa) (hs : starEach [a, b] X.env = [(false, eval a X.env), (false, eval b X.env)] := by rfl) (hs2 : starEach [b] X.env = [(false, eval b X.env)] := by rfl) : DI X C W tg (.Call (.Name "range" p) [a, b] [] pos) (rng2S fa) := by
  refine pi_mono (pi_range2 hg hm ha hs hs2) fun σ H R ⟨F, δ, h⟩ => ?_
  refine bindA (RVb := RIt C) (fun _ _ _ _ _ _ _ _ z => z) h fun vs F1 H1 δ1 rs e1 S1 R1 V1 h1 => ?_
  obtain ⟨o, ho⟩ := h1.some
  have key : ∃ i j : Int, datas rs = some [.int i, .int j] ∧ -(2 ^ 62) ≤ i ∧ i < 2 ^ 62 ∧ -(2 ^ 62) ≤ j ∧ j < 2 ^ 62 := by
    clear h1
    generalize datas rs = dr at ho
    revert ho
    split
    all_goals intro ho
    next i j =>
      by_cases hb : -(2 ^ 62) ≤ i ∧ i < 2 ^ 62 ∧ -(2 ^ 62) ≤ j ∧ j < 2 ^ 62
      · exact ⟨i, j, rfl, hb⟩
      · rw [if_neg hb] at ho; cases ho
    next => cases ho
  obtain ⟨i, j, q, hb⟩ := key
  obtain ⟨v, w, rfl, h1', h2'⟩ := dats2 (V1.datas q)
  cases h1'; cases h2'
  simp only [q] at h1
  rw [if_pos hb] at h1
  exact ⟨i, j, rfl, hb, h1.use (δ' := δ1) rfl Stp.refl R1 itok_rng⟩
/-! ### targets of a block of its own -/
def tGw (C : DC) (vs : List Nat) (t : STg) : TG := fun v σ H Q => ∃ F δ x δ', Rp C F H σ δ ∧ Dat C.K F v x ∧ t x δ = some δ' ∧ ∀ σ', Rp C F H σ' δ' → wipe σ' vs = wipe σ vs → Q σ' H
structure DGw (vs : List Nat) (X : Cx) (C : DC) (tg : Expr) (t : STg) : Prop where
  pg : PG X tg (tGw C vs t)
  ok : ∀ x δ δ', t x δ = some δ' → δ'.length = δ.length ∧ (∀ i, i ∉ vs → δ'[i]? = δ[i]?) ∧ ∀ i s, i ∈ vs → δ'[i]? = some s → s.own = false ∨ δ[i]? = some s
def tGsw (C : DC) (vs : List Nat) (t : STs) : TGs := fun vv σ H Q => ∃ F δ xs δ', Rp C F H σ δ ∧ Dats C.K F vv xs ∧ t xs δ = some δ' ∧ ∀ σ', Rp C F H σ' δ' → wipe σ' vs = wipe σ vs → Q σ' H
structure DGsw (vs : List Nat) (X : Cx) (C : DC) (ts : List Expr) (t : STs) : Prop where
  pg : PGs X ts (tGsw C vs t)
  ok : ∀ x δ δ', t x δ = some δ' → δ'.length = δ.length ∧ (∀ i, i ∉ vs → δ'[i]? = δ[i]?) ∧ ∀ i s, i ∈ vs → δ'[i]? = some s → s.own = false ∨ δ[i]? = some s
theorem wipe_get {σ : Sg} {i : Nat} : ∀ {vs : List Nat}, (wipe σ vs)[i]? = if i ∈ vs ∧ i < σ.length then some none else σ[i]?
  | [] => by simp [wipe]
  | v :: vs => by
    unfold wipe
    by_cases e : v = i
    · subst e
      by_cases hl : v < σ.length
      · rw [List.getElem?_set_self (by rw [wipe_length]; exact hl), if_pos ⟨by simp, hl⟩]
      · rw [if_neg (fun z => hl z.2), List.getElem?_eq_none (by simp [wipe_length]; omega), List.getElem?_eq_none (by omega)]
    · rw [List.getElem?_set_ne e, wipe_get (vs := vs)]
      by_cases h2 : i ∈ vs ∧ i < σ.length
      · rw [if_pos h2, if_pos ⟨List.mem_cons_of_mem _ h2.1, h2.2⟩]
      · rw [if_neg h2, if_neg]
        rintro ⟨z, l⟩
        rcases List.mem_cons.mp z with q | q
        · exact e q.symm
        · exact h2 ⟨q, l⟩
theorem wipe_ext {σ σ' : Sg} {vs : List Nat} (l : σ'.length = σ.length) (h : ∀ i, i ∉ vs → σ'[i]? = σ[i]?) : wipe σ' vs = wipe σ vs := by
  apply List.ext_getElem?
  intro i
  rw [wipe_get, wipe_get, l]
  by_cases e : i ∈ vs
  · by_cases hl : i < σ.length
    · rw [if_pos ⟨e, hl⟩, if_pos ⟨e, hl⟩]
    · rw [if_neg (fun z => hl z.2), if_neg (fun z => hl z.2), List.getElem?_eq_none (by omega), List.getElem?_eq_none (by omega)]
  · rw [if_neg (fun z => e z.1), if_neg (fun z => e z.1)]
    exact h i e
theorem wipe_get_eq {σ σ' : Sg} {vs : List Nat} (h : wipe σ' vs = wipe σ vs) {i : Nat} (hi : i ∉ vs) : σ'[i]? = σ[i]? := by
  have := congrArg (·[i]?) h
  simp only [wipe_get] at this
  rw [if_neg (fun z => hi z.1), if_neg (fun z => hi z.1)] at this
  exact this
theorem dgw_name {vs : List Nat} {i : Nat} {x : Str} (hv : i ∈ vs) (hN : X.N.Nodup) (hi : X.N[i]? = some x) (hx : Loc X.env.scope x) (hf : X.fn x = true ∨ X.env.scope.names.lookup x = some .local := by first | exact .inl rfl | exact .inr rfl | assumption) : DGw vs X C (.Name x pos) (nameT i) where
  pg := pg_mono (pg_name hN hi hx hf) fun v σ H Q ⟨F, δ, x, δ', R, d, e, k⟩ => by
    cases e
    exact k _ (R.setD d) (wipe_ext (by simp) fun j hj => List.getElem?_set_ne (fun z => hj (by rw [← z]; exact hv)))
  ok := fun x δ δ' e => by
    cases e
    exact ⟨by simp, fun j hj => List.getElem?_set_ne (fun z => hj (by rw [← z]; exact hv)), fun j s hj h => by
      rcases get_set h with ⟨_, rfl, _⟩ | ⟨_, h⟩
      · exact .inl rfl
      · exact .inr h⟩
theorem dgsw_nil {vs : List Nat} : DGsw vs X C [] nilT where
  pg := pgs_mono pgs_nil fun v σ H Q ⟨F, δ, xs, δ', R, d, e, k⟩ => by
    cases d with
    | nil => cases e; exact ⟨rfl, k _ R rfl⟩
    | cons h t => cases e
  ok := fun x δ δ' e => by
    cases x with
    | nil => cases e; exact ⟨rfl, fun _ _ => rfl, fun i s _ h => .inr h⟩
    | cons _ _ => cases e
theorem dgsw_cons {vs : List Nat} {a : Expr} {es : List Expr} {t : STg} {u : STs} (h1 : DGw vs X C a t) (h2 : DGsw vs X C es u) (hs : (assignEach (a :: es) X.env).map (·.2) = assign a X.env :: (assignEach es X.env).map (·.2) := by rfl) : DGsw vs X C (a :: es) (consT t u) where
  pg := by
    refine pgs_mono (pgs_cons h1.pg h2.pg hs) fun v σ H Q ⟨F, δ, xs, δ', R, d, e, k⟩ => ?_
    cases d with
    | nil => cases e
    | @cons v vs' x xs h r =>
      simp only [consT] at e
      cases q : t x δ with
      | none => rw [q] at e; cases e
      | some δ1 =>
        rw [q] at e
        exact ⟨v, vs', rfl, F, δ, x, δ1, R, h, q, fun σ1 R1 w1 => ⟨F, δ1, xs, δ', R1, r, e, fun σ2 R2 w2 => k σ2 R2 (w2.trans w1)⟩⟩
  ok := fun x δ δ' e => by
    cases x with
    | nil => cases e
    | cons x xs =>
      simp only [consT] at e
      cases q : t x δ with
      | none => rw [q] at e; cases e
      | some δ1 =>
        rw [q] at e
        obtain ⟨a1, a2, a3⟩ := h1.ok x δ δ1 q
        obtain ⟨b1, b2, b3⟩ := h2.ok xs δ1 δ' e
        refine ⟨b1.trans a1, fun i hi => (b2 i hi).trans (a2 i hi), fun i s hi h => ?_⟩
        rcases b3 i s hi h with z | z
        · exact .inl z
        · exact a3 i s hi z
theorem dgw_tup {vs : List Nat} {es : List Expr} {k n : Nat} {u : STs} (hc : X.calm = true) (hK : X.K = C.K) (h : DGsw vs X C es u) (hn : (assignEach es X.env).length = n := by rfl) (hst : (assignEach es X.env).findIdx? (·.1) = none := by rfl) : DGw vs X C (.Tuple es k pos) (tupT n u) where
  pg := by
    refine pg_mono (pg_tup hc h.pg hn hst) fun v σ H Q ⟨F, δ, x, δ', R, d, e, kk⟩ => ?_
    cases x with
    | tuple xs =>
      simp only [tupT] at e
      split at e
      · rename_i hl
        obtain ⟨a, vs, rfl, h1, t1⟩ := DatP.tup R.ext (.inl d)
        exact ⟨a, vs, rfl, by rw [hK]; exact h1, by rw [t1.length]; exact hl, F, δ, xs, δ', R, t1, e, kk⟩
      · cases e
    | _ => cases e
  ok := fun x δ δ' e => by
    cases x with
    | tuple xs =>
      simp only [tupT] at e
      split at e
      · exact h.ok xs δ δ' e
      · cases e
    | _ => cases e
end
end DL

namespace DL
open PySem PySem.Spec PyProof.Rows L2
/-! ### list comprehensions -/
def wipeD : List Nat → List SV → List SV
  | [], δ => δ
  | v :: vs, δ => (wipeD vs δ).set v .u
def backD : List Nat → List SV → List SV → List SV
  | [], _, δ => δ
  | v :: vs, δ0, δ => match δ0[v]? with
    | some s => (backD vs δ0 δ).set v s
    | none => backD vs δ0 δ
theorem wipeD_len (δ : List SV) : ∀ vs : List Nat, (wipeD vs δ).length = δ.length
  | [] => rfl
  | v :: vs => by unfold wipeD; rw [List.length_set, wipeD_len δ vs]
theorem backD_len (δ0 δ : List SV) : ∀ vs : List Nat, (backD vs δ0 δ).length = δ.length
  | [] => rfl
  | v :: vs => by
    unfold backD
    split
    · rw [List.length_set, backD_len δ0 δ vs]
    · exact backD_len δ0 δ vs
theorem wipeD_get {δ : List SV} {i : Nat} : ∀ {vs : List Nat}, (wipeD vs δ)[i]? = if i ∈ vs ∧ i < δ.length then some .u else δ[i]?
  | [] => by simp [wipeD]
  | v :: vs => by
    unfold wipeD
    by_cases e : v = i
    · subst e
      by_cases hl : v < δ.length
      · rw [List.getElem?_set_self (by rw [wipeD_len]; exact hl), if_pos ⟨by simp, hl⟩]
      · rw [if_neg (fun z => hl z.2), List.getElem?_eq_none (by simp [wipeD_len]; omega), List.getElem?_eq_none (by omega)]
    · rw [List.getElem?_set_ne e, wipeD_get (vs := vs)]
      by_cases h2 : i ∈ vs ∧ i < δ.length
      · rw [if_pos h2, if_pos ⟨List.mem_cons_of_mem _ h2.1, h2.2⟩]
      · rw [if_neg h2, if_neg]
        rintro ⟨z, l⟩
        rcases List.mem_cons.mp z with q | q
        · exact e q.symm
        · exact h2 ⟨q, l⟩
theorem backD_get {δ0 δ : List SV} (l : δ.length = δ0.length) {i : Nat} : ∀ {vs : List Nat}, (backD vs δ0 δ)[i]? = if i ∈ vs then δ0[i]? else δ[i]?
  | [] => by simp [backD]
  | v :: vs => by
    unfold backD
    by_cases e : v = i
    · subst e
      rw [if_pos (List.mem_cons_self ..)]
      cases q : δ0[v]? with
      | none =>
        have h0 : δ0.length ≤ v := by simpa using q
        exact List.getElem?_eq_none (by rw [backD_len, l]; exact h0)
      | some s =>
        have h0 : v < δ0.length := (List.getElem?_eq_some_iff.mp q).1
        exact List.getElem?_set_self (by rw [backD_len, l]; exact h0)
    · have : (match δ0[v]? with | some s => (backD vs δ0 δ).set v s | none => backD vs δ0 δ)[i]? = (backD vs δ0 δ)[i]? := by
        split
        · exact List.getElem?_set_ne e
        · rfl
      rw [this, backD_get l (vs := vs)]
      by_cases h2 : i ∈ vs
      · rw [if_pos h2, if_pos (List.mem_cons_of_mem _ h2)]
      · rw [if_neg h2, if_neg fun z => by
          rcases List.mem_cons.mp z with q | q
          · exact e q.symm
          · exact h2 q]
def noOwn (vs : List Nat) (δ : List SV) : Bool := vs.all fun v => match δ[v]? with
  | some s => !s.own
  | none => true
theorem noOwn_at {vs : List Nat} {δ : List SV} (h : noOwn vs δ = true) {i : Nat} {s : SV} (hi : i ∈ vs) (hs : δ[i]? = some s) : s.own = false := by
  have := List.all_eq_true.mp h i hi
  rw [hs] at this
  simpa using this
theorem noOwn_of {vs : List Nat} {δ : List SV} (h : ∀ i s, i ∈ vs → δ[i]? = some s → s.own = false) : noOwn vs δ = true := List.all_eq_true.mpr fun i hi => by
  cases q : δ[i]? with
  | none => rfl
  | some s => simp [h i s hi q]
section
variable {X : Cx} {C : DC} {W : XW} {F F' F1 Fs H H' H1 Hs : Hp} {σ σ2 : Sg} {δ δ' δ1 δ2 δs : List SV} {vs : List Nat}
theorem Rp.enter (R : Rp C F H σ δ) (n : noOwn vs δ = true) : Rp C F H (wipe σ vs) (wipeD vs δ) := by
  have hown : ∀ (i : Nat) s, (wipeD vs δ)[i]? = some s → s.own = true → i ∉ vs ∧ δ[i]? = some s := fun i s h e => by
    rw [wipeD_get] at h
    split at h
    · cases h; cases e
    · rename_i z
      by_cases hv : i ∈ vs
      · have := noOwn_at n hv h
        rw [this] at e; cases e
      · exact ⟨hv, h⟩
  have hσ : ∀ (i : Nat), i ∉ vs → (wipe σ vs)[i]? = σ[i]? := fun i hv => by rw [wipe_get, if_neg fun z => hv z.1]
  refine ⟨R.ext, by rw [wipeD_len, wipe_length]; exact R.len, fun i x s hx hs => ?_, fun i j s t a h1 h2 h3 h4 h5 h6 => ?_, fun i s a h1 h2 h3 => ?_, R.old, R.ext0, R.pers⟩
  · rw [wipe_get] at hx
    rw [wipeD_get] at hs
    have := R.len
    by_cases hv : i ∈ vs
    · by_cases hl : i < δ.length
      · rw [if_pos ⟨hv, hl⟩] at hs
        cases hs; trivial
      · rw [if_neg fun z => hl z.2, List.getElem?_eq_none (by omega)] at hs
        cases hs
    · rw [if_neg fun z => hv z.1] at hx hs
      exact R.slot i x s hx hs
  · obtain ⟨n1, g1⟩ := hown i s h1 h2
    obtain ⟨n2, g2⟩ := hown j t h3 h4
    rw [hσ i n1] at h5
    rw [hσ j n2] at h6
    exact R.apart i j s t a g1 h2 g2 h4 h5 h6
  · obtain ⟨n1, g1⟩ := hown i s h1 h2
    rw [hσ i n1] at h3
    exact R.own0 i s a g1 h2 h3
theorem Rp.leave (R : Rp C F H σ δ) (n : noOwn vs δ = true) (l1 : δ1.length = δ.length) (o1 : ∀ i, i ∉ vs → δ1[i]? = δ[i]?) (o2 : ∀ i s, i ∈ vs → δ1[i]? = some s → s.own = false) (w : wipe σ2 vs = wipe σ vs)
    (S : Stp F H σ2 δ1 F' H' δ2) (R2 : Rp C F' H' σ2 δ2) : Stp F H σ δ F' H' (backD vs δ δ2) ∧ Rp C F' H' σ (backD vs δ δ2) ∧ noOwn vs (backD vs δ δ2) = true := by
  have lσ : σ2.length = σ.length := by
    have := congrArg List.length w
    rwa [wipe_length, wipe_length] at this
  have l2 : δ2.length = δ.length := by
    have h1 := R.len
    have h2 := R2.len
    omega
  have hown : ∀ (i : Nat) s, (backD vs δ δ2)[i]? = some s → s.own = true → i ∉ vs ∧ δ2[i]? = some s := fun i s h e => by
    rw [backD_get l2] at h
    by_cases hv : i ∈ vs
    · rw [if_pos hv] at h
      have := noOwn_at n hv h
      rw [this] at e; cases e
    · rw [if_neg hv] at h
      exact ⟨hv, h⟩
  have back1 : ∀ (i : Nat) s, δ1[i]? = some s → s.own = true → i ∉ vs ∧ δ[i]? = some s := fun i s h e => by
    by_cases hv : i ∈ vs
    · have := o2 i s hv h
      rw [this] at e; cases e
    · exact ⟨hv, by rw [← o1 i hv]; exact h⟩
  have SS : Stp F H σ δ F' H' (backD vs δ δ2) := by
    refine ⟨S.ext, fun a o h nn => S.frm a o h fun ⟨i, s, h1, h2, h3⟩ => ?_, S.pers, fun i s h e => ?_⟩
    · obtain ⟨hv, g⟩ := back1 i s h1 h2
      rw [wipe_get_eq w hv] at h3
      exact nn ⟨i, s, g, h2, h3⟩
    · obtain ⟨hv, g⟩ := hown i s h e
      obtain ⟨s0, k1, k2, k3⟩ := S.own i s g e
      obtain ⟨_, g1⟩ := back1 i s0 k1 k2
      exact ⟨s0, g1, k2, k3⟩
  refine ⟨SS, R.step SS R2.ext (by rw [backD_len]; exact l2) fun i x s hx hs => ?_, noOwn_of fun i s hi hs => ?_⟩
  · rw [backD_get l2] at hs
    by_cases hv : i ∈ vs
    · rw [if_pos hv] at hs
      refine (R.slot i x s hx hs).mono S.ext fun a _ e => ?_
      rw [noOwn_at n hv hs] at e; cases e
    · rw [if_neg hv] at hs
      rw [← wipe_get_eq w hv] at hx
      exact R2.slot i x s hx hs
  · rw [backD_get l2, if_pos hi] at hs
    exact noOwn_at n hi hs
def lcGo (vs : List Nat) (t : STg) (tt : SB) (te : SE) : List D → List D → SEa (List D)
  | [], acc => pureE acc
  | x :: r, acc => fun δ => match t x (wipeD vs δ) with
    | none => none
    | some δ1 => match tt δ1 with
      | none => none
      | some (.ex e δ2) => none
      | some (.ok false δ2) => lcGo vs t tt te r acc (backD vs δ δ2)
      | some (.ok true δ2) => match escE te δ2 with
        | none => none
        | some (.ex e δ3) => none
        | some (.ok (.d y) δ3) => if acc.length < sizeLine then lcGo vs t tt te r (acc ++ [y]) (backD vs δ δ3) else none
        | some (.ok _ _) => none
def lcE (vs : List Nat) (src : SI) (t : STg) (tt : SB) (te : SE) : SE := bindE src fun items => fun δ => if noOwn vs δ = true then (bindE (lcGo vs t tt te items []) fun acc => pureE (.nL acc)) δ else none
theorem wipe_wipe (σ : Sg) (vs : List Nat) : wipe (wipe σ vs) vs = wipe σ vs := wipe_ext (by rw [wipe_length]) fun i hi => by rw [wipe_get, if_neg fun z => hi z.1]
theorem pts_monoT {ifs : List Expr} {t t' : TT} (h : PTs X ifs t) (k : ∀ σ H Q, t' σ H Q → t σ H Q) : PTs X ifs t' := ⟨fun pins s σ H Q I q => h.run pins s σ H Q I (k σ H Q q)⟩
def yesB : SB := pureE true
/-- no exception leaves a block of its own -/
def W0 : XW := fun _ _ _ _ => False
theorem dts_nil : PTs X [] (tT C W yesB) := pts_monoT pts_nil fun σ H Q ⟨F, δ, h⟩ => h.use (δ' := δ) rfl Stp.refl h.1 rfl
theorem dts_one {c : Expr} {g : SB} (h : DT X C W c g) : PTs X [c] (tT C W g) := pts_one h
theorem lc_read {src : SI} {t : STg} {tt : SB} {te : SE} {Q : VK} (hok : ∀ x δ δ', t x δ = some δ' → δ'.length = δ.length ∧ (∀ i, i ∉ vs → δ'[i]? = δ[i]?) ∧ ∀ i s, i ∈ vs → δ'[i]? = some s → s.own = false ∨ δ[i]? = some s)
    (h : tD C W (lcE vs src t tt te) σ H Q) : tLc (tI C W src) (tGw C vs t) (tT C W0 tt) (tD C W0 (escE te)) vs σ H Q := by
  obtain ⟨F, δ, h⟩ := h
  refine ⟨F, δ, (tX.bind (RVa := RIt C) (H1 := H) (RVb := RVl C) (fun _ _ _ _ _ z => z) (mbV) h).mono fun J H1 ⟨F1, δ1, items, e1, S1, IT, h1⟩ => ?_⟩
  have IT : ItOk C F1 J items := IT
  intro D hD
  have R1 := h1.1
  have n1 : noOwn vs δ1 = true := by
    obtain ⟨o, ho⟩ := h1.some
    by_cases z : noOwn vs δ1 = true
    · exact z
    · have ho : (if noOwn vs δ1 = true then (bindE (lcGo vs t tt te items []) fun acc => pureE (Res.nL acc)) δ1 else none) = some o := ho
      rw [if_neg z] at ho
      cases ho
  have z1 : tZ C W (RVl C) (bindE (lcGo vs t tt te items []) fun acc => pureE (.nL acc)) F1 H1 σ δ1 δ1 Q := by
    have := h1.z
    unfold tZ at this ⊢
    simp only [n1, if_true] at this
    exact this
  obtain ⟨SD, RD⟩ := R1.newG (.lst []) hD
  refine ⟨fun i m H => m = items.length - i ∧ i ≤ items.length ∧ ∃ F δ acc ws, Stp F1 H1 σ δ1 F H δ ∧ Rp C F H σ δ ∧ H D = some (.lst ws) ∧ F D = none ∧ Dats C.K F ws acc ∧ noOwn vs δ = true ∧ tZ C W (RVl C) (bindE (lcGo vs t tt te (items.drop i) acc) fun acc => pureE (.nL acc)) F1 H1 σ δ1 δ Q,
    ⟨_, rfl, Nat.zero_le _, F1, δ1, [], [], SD, RD, upd_same, R1.freshF hD, .nil, n1, by simpa using z1⟩, ?_⟩
  rintro i m H2 ⟨rfl, hi, F2, δ2, acc, ws, S2, R2, hp, fp, dd, n2, z2⟩
  by_cases hlt : i < items.length
  · refine .inr ⟨IT.go i F2 H2 σ δ2 S2.ext R2 hlt, fun H' => ∃ F δ acc ws, Stp F1 H1 σ δ1 F H' δ ∧ Rp C F H' σ δ ∧ H' D = some (.lst ws) ∧ F D = none ∧ Dats C.K F ws acc ∧ noOwn vs δ = true ∧ tZ C W (RVl C) (bindE (lcGo vs t tt te (items.drop (i + 1)) acc) fun acc => pureE (.nL acc)) F1 H1 σ δ1 δ Q,
      fun H' z => ⟨items.length - (i + 1), by omega, rfl, hlt, z⟩, fun x H' y => ?_⟩
    obtain ⟨F3, S3, R3, d3⟩ := IT.yld i F2 H2 σ δ2 x H' items[i] S2.ext R2 y (by simp [hlt])
    have no : ∀ {F H : Hp} {δ : List SV}, Stp F1 H1 σ δ1 F H δ → ¬ OwnedAt σ δ D := fun S z => R1.fresh_own hD (S.owned z)
    have S23 := S2.trans S3
    obtain ⟨hp3, f3⟩ := S3.frm D _ hp (no S2)
    have fp3 := f3 fp
    rw [List.drop_eq_getElem_cons hlt] at z2
    unfold tZ bindE at z2
    simp only [lcGo] at z2
    cases q1 : t items[i] (wipeD vs δ2) with
    | none => rw [q1] at z2; exact z2.elim
    | some δ3 =>
      rw [q1] at z2
      simp only at z2
      obtain ⟨l3, o1, o2⟩ := hok _ _ _ q1
      have l3' : δ3.length = δ2.length := by rw [l3, wipeD_len]
      have o1' : ∀ j, j ∉ vs → δ3[j]? = δ2[j]? := fun j hj => by rw [o1 j hj, wipeD_get, if_neg fun z => hj z.1]
      have o2' : ∀ j s, j ∈ vs → δ3[j]? = some s → s.own = false := fun j s hj hs => by
        rcases o2 j s hj hs with z | z
        · exact z
        · rw [wipeD_get] at z
          by_cases hl : j < δ2.length
          · rw [if_pos ⟨hj, hl⟩] at z; cases z; rfl
          · rw [if_neg fun q => hl q.2, List.getElem?_eq_none (by omega)] at z; cases z
      refine ⟨F3, wipeD vs δ2, items[i], δ3, R3.enter n2, d3, q1, fun σ2 R4 w2 => ?_⟩
      rw [wipe_wipe] at w2
      refine ⟨w2, F3, δ3, R4, ?_⟩
      cases q2 : tt δ3 with
      | none => rw [q2] at z2; exact z2.elim
      | some o =>
        rw [q2] at z2
        cases o with
        | ex e δ4 =>
          exact z2.elim
        | ok bb δ4 =>
          intro v F5 H5 S5 R5 V5
          have V5 : v = bb := V5
          subst V5
          obtain ⟨SS, RR, nn⟩ := R3.leave n2 l3' o1' o2' w2 S5 R5
          have SS' := S23.trans SS
          obtain ⟨hp5, f5⟩ := SS.frm D _ hp3 (no S23)
          cases v with
          | false =>
            simp only at z2
            rw [if_neg (by decide)]
            exact ⟨F5, backD vs δ2 δ4, acc, ws, SS', RR, hp5, f5 fp3, dd.mono (S3.ext.trans SS.ext), nn, z2⟩
          | true =>
            simp only at z2
            rw [if_pos rfl]
            refine ⟨F5, δ4, R5, ?_⟩
            cases q3 : escE te δ4 with
            | none => rw [q3] at z2; exact z2.elim
            | some o =>
              rw [q3] at z2
              cases o with
              | ex e δ5 =>
                exact z2.elim
              | ok r δ5 =>
                obtain ⟨yy, rfl⟩ := esc_isD q3
                simp only at z2
                intro v F6 H6 S6 R6 V6
                obtain ⟨SS6, RR6, nn6⟩ := R3.leave n2 l3' o1' o2' w2 (S5.trans S6) R6
                have SS6' := S23.trans SS6
                obtain ⟨hp6, f6⟩ := SS6.frm D _ hp3 (no S23)
                have dd6 := dd.mono (S3.ext.trans SS6.ext)
                by_cases hl : acc.length < sizeLine
                · rw [if_pos hl] at z2
                  refine ⟨ws, hp6, by rw [dd.length]; exact hl, F6, backD vs δ2 δ5, acc ++ [yy], ws ++ [v], SS6'.poke _ hD, RR6.poke _ (f6 fp3) (no SS6') (R1.fresh0 hD), upd_same, f6 fp3, dd6.append (.cons V6 .nil), nn6, z2⟩
                · rw [if_neg hl] at z2; exact z2.elim
  · have : i = items.length := by omega
    subst this
    refine .inl ⟨IT.stop F2 H2 σ δ2 S2.ext R2, ?_⟩
    rw [List.drop_length] at z2
    exact tZ.use (r := .nL acc) (δ' := δ2) z2 rfl S2 R2 ⟨D, ws, rfl, hp, fp, dd, hD⟩
theorem de_lc {elt tg iter : Expr} {ifs : List Expr} {scope : Scope} {own : List (Str × Nat)} {pos : Pos} {src : SI} {t : STg} {tt : SB} {te : SE} (hc : X.calm = true) (hN : X.N.Nodup) (hi : DI X C W tg iter src) (ok : BlkOk X.N X.env.scope scope own)
    (hg : ∀ (s : Shared) (H : Hp) (c : Addr) (cl : List (Str × Addr)) (fp : List Addr), DGw (own.map (·.2)) (X.blk s H scope (compEnvC scope cl c X.env) fp) C tg t) (ht : ∀ (s : Shared) (H : Hp) (c : Addr) (cl : List (Str × Addr)) (fp : List Addr), PTs (X.blk s H scope (compEnvC scope cl c X.env) fp) ifs (tT C W0 tt))
    (he : ∀ (s : Shared) (H : Hp) (c : Addr) (cl : List (Str × Addr)) (fp : List Addr), DE (X.blk s H scope (compEnvC scope cl c X.env) fp) C W0 elt te) (hs : ∀ x, foldedSetIterable iter X.env x = pure x := by intro _; rfl) :
    DE X C W (.ListComp elt [⟨tg, iter, ifs, 0⟩] scope pos) (lcE (own.map (·.2)) src t tt te) :=
  pe_mono (pe_lc hc hN hi ok (fun s H c cl fp => (hg s H c cl fp).pg) ht (fun s H c cl fp => de_esc (he s H c cl fp)) hs) fun σ H Q h => lc_read (hg X.s_0 X.H_0 0 [] []).ok h
end
end DL

namespace DL
open PySem PySem.Spec PyProof.Rows L2
section
variable {X : Cx} {C : DC} {W : XW} {F F' F1 Fs H H' H1 Hs : Hp} {σ : Sg} {δ δ' δ1 δs : List SV} {e a b c o : Expr} {f fa fb fc : SE} {pos p : Pos} {k i j l : Nat}
/-! ### a, b = x, y -/
def parS2 (i j : Nat) (fa fb : SE) : SS := bindS fa fun ra => bindS fb fun rb => fun δ => (putV i ra δ).bind fun δ1 => (putV j rb δ1).map .nx
theorem OwnedAt.put {i : Nat} {v : V} {r : Res} {q : Addr} (e : putV i r δ = some δ') (h : OwnedAt (σ.set i (some v)) δ' q) : (r.isPk = false ∧ v = .ref q) ∨ OwnedAt σ δ q := by
  obtain ⟨m, s, h1, h2, h3⟩ := h
  have key : ∀ s', δ' = δ.set i s' → (s'.own = true → r.isPk = false) → (r.isPk = false ∧ v = .ref q) ∨ OwnedAt σ δ q := fun s' es hs => by
    subst es
    rcases get_set h1 with ⟨rfl, rfl, _⟩ | ⟨n, h1⟩
    · rcases get_set h3 with ⟨_, e3, _⟩ | ⟨n, _⟩
      · cases e3; exact .inl ⟨hs h2, rfl⟩
      · exact absurd rfl n
    · rw [List.getElem?_set_ne (Ne.symm n)] at h3
      exact .inr ⟨m, s, h1, h2, h3⟩
  cases r with
  | d x => cases e; exact key _ rfl fun z => by cases z
  | b m => cases e
  | nL x => cases e; exact key _ rfl fun _ => rfl
  | nM x => cases e; exact key _ rfl fun _ => rfl
theorem RV.keep {F1 H1 F2 H2 : Hp} {δ1 δ2 : List SV} {v : V} {r : Res} (V1 : RV C F1 H1 σ Hs v r) (no : ∀ p, v = .ref p → r.isPk = false → ¬ OwnedAt σ δ1 p) (S : Stp F1 H1 σ δ1 F2 H2 δ2) : RV C F2 H2 σ Hs v r := by
  cases r with
  | d x => exact Dat.mono S.ext V1
  | b i => exact V1
  | nL xs =>
    obtain ⟨p, vs, rfl, hp, hf, hd, hs⟩ := V1
    obtain ⟨h1, f1⟩ := S.frm p _ hp (no p rfl rfl)
    exact ⟨p, vs, rfl, h1, f1 hf, hd.mono S.ext, hs⟩
  | nM xs =>
    obtain ⟨p, vs, rfl, hp, hf, hd, hs⟩ := V1
    obtain ⟨h1, f1⟩ := S.frm p _ hp (no p rfl rfl)
    exact ⟨p, vs, rfl, h1, f1 hf, hd.mono S.ext, hs⟩
theorem RV.setσ {F H : Hp} {i : Nat} {u v : V} {r : Res} (h : RV C F H σ Hs v r) (hb : ∀ j, r ≠ .b j) : RV C F H (σ.set i (some u)) Hs v r := by
  cases r with
  | d x => exact h
  | b j => exact absurd rfl (hb j)
  | nL x => exact h
  | nM x => exact h
theorem RV.there {F H : Hp} {v : V} {r : Res} (h : RV C F H σ Hs v r) (hp : r.isPk = false) : ∃ p, v = .ref p ∧ H p ≠ none ∧ Hs p = none := by
  cases r with
  | d x => cases hp
  | b i => cases hp
  | nL xs => obtain ⟨p, vs, rfl, h1, _, _, hs⟩ := h; exact ⟨p, rfl, by rw [h1]; simp, hs⟩
  | nM xs => obtain ⟨p, vs, rfl, h1, _, _, hs⟩ := h; exact ⟨p, rfl, by rw [h1]; simp, hs⟩
theorem ds_par2 {i j : Nat} {x y : Str} {px py pt : Pos} {kt k2 pt2} (hc : X.calm = true) (hN : X.N.Nodup) (hi : X.N[i]? = some x) (hj : X.N[j]? = some y) (hij : i ≠ j)
    (hx : X.env.scope.names.lookup x = some .local) (hy : X.env.scope.names.lookup y = some .local) (ha : DE X C W a fa) (hb : DE X C W b fb)
    (hw : swappedStores [.Tuple [.Name x px, .Name y py] kt pt] (.Tuple [a, b] k2 pt2) X.env = pure (some [x, y]) := by rfl)
    (hs : swapsWithSole [.Tuple [.Name x px, .Name y py] kt pt] (.Tuple [a, b] k2 pt2) pos.line X.env = pure false := by rfl)
    (hs1 : starEach [a, b] X.env = (false, eval a X.env) :: starEach [b] X.env := by rfl) (hs2 : starEach [b] X.env = (false, eval b X.env) :: starEach [] X.env := by rfl) :
    DS X C W (.Assign [.Tuple [.Name x px, .Name y py] kt pt] (.Tuple [a, b] k2 pt2) pos) (parS2 i j fa fb) := by
  refine ps_mono (ps_par hc hN hi hj hij hx hy (pa_cons ha (pa_cons hb pa_nil hs2) hs1) hw hs) fun D σ H ⟨F, δ, R, h⟩ => ?_
  refine ⟨F, δ, (bindS_read (RVa := RVl C) R h).mono fun v H1 ⟨F1, δ1, r1, e1, S1, R1, V1, q1⟩ => ?_⟩
  refine ⟨F1, δ1, (bindS_read (RVa := RVl C) R1 q1).mono fun w H2 ⟨F2, δ2, r2, e2, S2, R2, V2, q2⟩ => ?_⟩
  refine ⟨v, w, rfl, ?_⟩
  have no1 := RV.fresh_no R S1 V1
  have no2 := RV.fresh_no R1 S2 V2
  have V1k := RV.keep V1 no1 S2
  have no1' : ∀ p, v = .ref p → r1.isPk = false → ¬ OwnedAt σ δ2 p := fun p e h z => no1 p e h (S2.owned z)
  cases z1 : putV i r1 δ2 with
  | none => rw [z1] at q2; exact q2.elim
  | some δ3 =>
    rw [z1] at q2
    simp only [Option.bind_some] at q2
    have R3 := put_read R2 (V1k.hs fun p np => R.fresh0 np) no1' z1
    cases z2 : putV j r2 δ3 with
    | none => rw [z2] at q2; exact q2.elim
    | some δ4 =>
      rw [z2] at q2
      have nb : ∀ m, r2 ≠ .b m := fun m e => by subst e; cases z2
      refine q2 _ F2 H2 (Le.refl _) (put_read R3 ((RV.hs V2 fun p np => R1.fresh0 np).setσ nb) (fun q e h z => ?_) z2)
      rcases OwnedAt.put z1 z with ⟨g1, g2⟩ | z
      · obtain ⟨p1, f1, f2, f3⟩ := RV.there V1 g1
        obtain ⟨p2, k1, k2, k3⟩ := RV.there V2 h
        rw [f1] at g2
        rw [k1] at e
        cases g2; cases e
        exact f2 k3
      · exact no2 q e h z
/-! ### repr -/
theorem call_reprD (hg : X.A.guards = some []) (hr : Room k X.A) : CallR X (.builtin "repr") (fun xs H Q => ∃ v d, xs = [v] ∧ Dp X.K H v d ∧ layD d = true ∧ d.showable = true ∧ d.shown.length ≤ sizeLine ∧ Q (.str d.shown) H) := by
  intro pins s σ H xs us Q I r h
  obtain ⟨v, d, rfl, hd, hl, hs, hz, q⟩ := h
  obtain ⟨u, rfl, ru⟩ := Vals.one r
  obtain ⟨as, rd⟩ := Dp.reads I d v u hd ru
  obtain ⟨l1, l2⟩ := lay_can 8 d hl
  have hnd := PyData.hasDict_of_canLay d l1
  have big : ∀ a, u = .ref a → wpAny (model X.prog X.w) X.A (call (.builtin "repr") [u]) (EP X pins σ Q) X.xe s := fun a e => by
    subst e
    exact repr_of_reads' rd hs (PyData.noDict_hsm hnd) hg (by have := hr.un; omega) (fun _ _ e => e) (fun h' u' tk hk => ⟨.str d.shown, H, I.kept (t' := tk) hk, ⟨_, rfl⟩, q⟩) hz
  cases d with
  | none =>
    cases hd
    obtain rfl : u = Value.none := ru
    exact PySem.P.repr_of_none ⟨.str _, H, I.tok _, ⟨_, rfl⟩, q⟩
  | bool b =>
    cases hd
    obtain rfl : u = Value.bool b := ru
    refine PySem.P.repr_of_bool ⟨.str (PyData.bool b).shown, H, I.tok _, ⟨s.toks, ?_⟩, q⟩
    cases b <;> rfl
  | int i =>
    cases hd
    obtain ⟨t, rfl⟩ := ru
    exact PySem.P.repr_of_int (by simpa [PyData.showable] using hs) ⟨.str _, H, I.tok _, ⟨_, rfl⟩, q⟩
  | str x =>
    cases hd
    obtain ⟨t, rfl⟩ := ru
    exact PySem.P.repr_of_str ⟨.str _, H, I.tok _, ⟨_, rfl⟩, q⟩ (by simpa [PyData.shown] using hz)
  | list xs =>
    cases hd
    cases ru
    exact big _ rfl
  | tuple xs =>
    cases hd
    cases ru
    exact big _ rfl
  | dict ks => simp [layD, lay] at hl
def reprG : List D → Option Res
  | [x] => if layD x = true ∧ x.showable = true ∧ x.shown.length ≤ sizeLine then some (.d (.str x.shown)) else none
  | _ => none
theorem cd_repr : CallD C (fun xs H Q => ∃ v d, xs = [v] ∧ Dp C.K H v d ∧ layD d = true ∧ d.showable = true ∧ d.shown.length ≤ sizeLine ∧ Q (.str d.shown) H) reprG := by
  intro F H σ δ vs xs res Q R hx e kk
  match xs, hx, e with
  | [x], hx, e =>
    obtain ⟨v, rfl, hv⟩ := hx.one
    simp only [reprG] at e
    split at e
    · rename_i hl
      cases e
      exact ⟨v, x, rfl, (hv.dat R.ext).dpl hl.1, hl.1, hl.2.1, hl.2.2, kk _ F H Stp.refl R (Dat.str _)⟩
    · cases e
  | [], _, e => cases e
  | _ :: _ :: _, _, e => cases e
end
/-! ### defs by the head's facts -/
section
variable {P : Program} {w : World} {K : PySem.W.Frag} {mg : Str → Option Value} {base : Heap} {x qual : Str} {params : Arguments} {body : List Stmt} {scope : Scope} {dvs : List V} {kws : List (Str × V)} {f : Addr} {fd : FuncData} {N ps : List Str} {s : SS} {k n m : Nat}
theorem fn_D (Fd : FunD K x qual params body scope dvs kws f fd) (S : FnScope N ps scope) (hn : ps.length = n) (hm : N.length = m)
    (hbody : ∀ (cdv : Value) (A : Around) (outer : List Env) (s0 : Shared) (H : Hp) (E : XK) (C : DC), C.K = K → A.guards = some [] → Room k (A.deeper (envOfC qual scope s0.heap.objs.size f cdv)) →
      DB (cxOf (CX P w) P w K mg base N qual scope f cdv A outer s0 H E) C (WO E) body s) : FnG P w K mg base (k + 1) f fd ps (defE n m s) := by
  obtain ⟨oc, od, dV, kV, doc, pm, an, cdv, ct, osl, rfl, lk, hcd, _, _⟩ := Fd.ex
  exact fn_body lk hcd S hn hm fun A outer s0 H E C h1 h2 h3 => hbody cdv A outer s0 H E C h1 h2 h3
structure PutOk (put : {α : Type} → List α → List α → List α → List α) : Prop where
  rel : ∀ {us : List V} {us' : List Value} {ws : List V} {ws' : List Value} {ds : List V} {ds' : List Value}, Vals us us' → Vals ws ws' → Vals ds ds' → Vals (put us ws ds) (put us' ws' ds')
  res : ∀ (C : DC) (F H : Hp) (σ : Sg) (Hs : Hp) (us ws ds : List V) (rs qs es : List Res), RVs C F H σ Hs us rs → RVs C F H σ Hs ws qs → RVs C F H σ Hs ds es → RVs C F H σ Hs (put us ws ds) (put rs qs es)
/-- nothing is left out -/
theorem kb_all {ks : List Str} {put : {α : Type} → List α → List α → List α → List α} (Fd : FunD K x qual params body scope [] kws f fd) (pk : PutOk put)
    (h : ∀ (kV doc pm : Value) (an : Option Addr) (cdv ct : Value) (us ws : List Value), us.length = n → ws.length = ks.length → bindArgs (PySem.W.fnOf x qual params body scope .none kV doc pm an cdv ct) ⟨us, ks.zip ws⟩ = pure (ps.zip (put us ws []))) : KB K fd ps ks n put [] [] := by
  obtain ⟨oc, od, dV, kV, doc, pm, an, cdv, ct, osl, rfl, lk, hcd, hD, hK⟩ := Fd.ex
  rcases hD with ⟨_, rfl⟩ | ⟨e, _⟩
  · exact ⟨⟨[], .nil, fun s us ws X l1 l2 => .of_eq (h kV doc pm an cdv ct us ws l1 l2)⟩, pk.rel, pk.res, fun C F H σ Hs => .nil⟩
  · exact absurd rfl e
/-- keyword-only ones left out -/
theorem kb_kw {ks : List Str} {ms : List (Str × V)} {dx : List D} {put : {α : Type} → List α → List α → List α → List α} (Fd : FunD K x qual params body scope [] kws f fd) (pk : PutOk put) (hk : kws ≠ []) (hms : ∀ q ∈ ms, q ∈ kws)
    (hd : ∀ (C : DC) (F H : Hp) (σ : Sg) (Hs : Hp), RVs C F H σ Hs (ms.map (·.2)) (dx.map Res.d))
    (h : ∀ (D : Addr) (doc pm : Value) (an : Option Addr) (cdv ct : Value) (us mv ws : List Value), us.length = n → mv.length = ms.length → ws.length = ks.length →
      KwChain D ((ms.map (·.1)).zip mv) (bindArgs (PySem.W.fnOf x qual params body scope .none (.ref D) doc pm an cdv ct) ⟨us, ks.zip ws⟩) (ps.zip (put us ws mv))) : KB K fd ps ks n put (ms.map (·.2)) dx := by
  obtain ⟨oc, od, dV, kV, doc, pm, an, cdv, ct, osl, rfl, lk, hcd, hD, hK⟩ := Fd.ex
  rcases hD with ⟨_, rfl⟩ | ⟨e, _⟩
  · rcases hK with e | ⟨D, rfl, hq⟩
    · exact absurd e hk
    · obtain ⟨mv, hl, rk, hks⟩ := kwd_vals (ms := ms) fun q hm => hq q (hms q hm)
      exact ⟨⟨mv, rk, fun s us ws X l1 l2 => BindsTo.of_looks fun M => KwChain.looks X hks (h D doc pm an cdv ct us mv ws l1 hl l2)⟩, pk.rel, pk.res, hd⟩
  · exact absurd rfl e
/-- defaults of the others -/
theorem kb_df {ks : List Str} {dx : List D} {put : {α : Type} → List α → List α → List α → List α} (Fd : FunD K x qual params body scope dvs kws f fd) (pk : PutOk put) (hdv : dvs ≠ [])
    (hd : ∀ (C : DC) (F H : Hp) (σ : Sg) (Hs : Hp), RVs C F H σ Hs dvs (dx.map Res.d))
    (h : ∀ (T : Addr) (kV doc pm : Value) (an : Option Addr) (cdv ct : Value) (us its ws : List Value), us.length = n → its.length = dvs.length → ws.length = ks.length →
      ∃ k, bindArgs (PySem.W.fnOf x qual params body scope (.ref T) kV doc pm an cdv ct) ⟨us, ks.zip ws⟩ = seqItems? (.ref T) >>= k ∧ k (some its.toArray) = pure (ps.zip (put us ws its))) : KB K fd ps ks n put dvs dx := by
  obtain ⟨oc, od, dV, kV, doc, pm, an, cdv, ct, osl, rfl, lk, hcd, hD, hK⟩ := Fd.ex
  rcases hD with ⟨e, _⟩ | ⟨_, T, o, its, m, rfl, lT, oT, rT⟩
  · exact absurd e hdv
  · refine ⟨⟨its, rT, fun s us ws X l1 l2 => ?_⟩, pk.rel, pk.res, hd⟩
    obtain ⟨k, e1, e2⟩ := h T kV doc pm an cdv ct us its ws l1 rT.length.symm l2
    refine BindsTo.of_looks fun M => ?_
    rw [e1]
    exact looks_items X lT oT (PySem.W.Looks.of_pure e2)
end
end DL

namespace DL
open PySem PySem.Spec PyProof.Rows L2
/-! ### the end of a law -/
theorem Dats.ofInts' {K : PySem.W.Frag} {H : Hp} : ∀ (ns : List Int), Dats K H (ns.map V.int) (ns.map PyData.int)
  | [] => .nil
  | n :: ns => .cons (.int n) (Dats.ofInts' ns)
def scriptD (ns : List Int) : D := .list (ns.map PyData.int)
theorem spD_law {K : PySem.W.Frag} {Fs : SE} {H : Hp} {a : Addr} {ns : List Int} {δ : List SV} {E : XK} (hS : SqL K H a (ns.map V.int)) (h : Fs [.d (scriptD ns)] = some (.ok (.d (.bool true)) δ)) : spD K Fs [.ref a] H (fun v _ => v = .bl true) E := by
  have no : ∀ (i : Nat) (s : SV), [SV.d (scriptD ns)][i]? = some s → s.own = true → False := fun i s e z => by
    cases i with
    | zero => simp at e; subst e; cases z
    | succ i => simp at e
  refine ⟨H, [.d (scriptD ns)], ⟨Le.refl _, rfl, fun i x s hx hs => ?_, fun i j s t a h1 h2 => (no i s h1 h2).elim, fun i s a h1 h2 => (no i s h1 h2).elim, fun a o e => (by cases e), fun a u e => (by rcases e with e | ⟨_, e⟩ <;> cases e), fun a e => absurd rfl e⟩, ?_⟩
  · cases i with
    | zero =>
      simp at hx hs
      subst hx hs
      exact ⟨_, rfl, .lst hS (Dats.ofInts' ns)⟩
    | succ i => simp at hs
  · rw [h]
    intro v F' H' S R V
    have V : Dat K F' v (.bool true) := V
    cases V
    rfl
section
variable {P : Program} {w : World} {K : PySem.W.Frag} {mg mb : Str → Option Value} {k : Nat} {fa a : Addr} {fd : FuncData} {x : Str} {Fs : SE} {s₁ : Shared} {us : List Value} {ns : List Int}
/-- the call of the law's def, at the heap behind the top -/
theorem end_call (KX : K.In s₁.heap) (nsG : s₁.heap.Ns mainGlobals mg) (nsB : s₁.heap.Ns builtinsNs mb) (bbB : ∀ y : Str, y ≠ "__name__" → mb y = bootBuiltins y) (nolim : s₁.heap.NoLimit) (nogen : s₁.gens = #[])
    (objA : s₁.heap.get? a = some { cls := .type "list", data := .seq us.toArray }) (intA : IntsAre us ns) (lenA : ns.length ≤ sizeLine) (rm : Room k callerA)
    (G : ∀ base : Heap, K.In base → base.Ns mainGlobals mg → FnG P w K mg base k fa fd [x] Fs) (bind1 : ∀ (s : Shared) (u : Value), BindsTo s fd ⟨[u], []⟩ [(x, u)])
    (want : ∃ δ, Fs [.d (scriptD ns)] = some (.ok (.d (.bool true)) δ)) :
    codeAny (model P w) callerA (.call (.ref fa) ⟨[.ref a], []⟩) (fun r s' => r = .ok (.ret (.bool true)) ∧ OldK s₁.heap s'.heap ∧ s'.os = s₁.os ∧ AllBare s'.gens) s₁ := by
  obtain ⟨δ, want⟩ := want
  have valsI := vals_ints intA
  have lenI := intA.length
  have main : ∀ H : Hp, (∀ c, H c = none ∨ ∃ o xs, H c = some (.frz o (.lst xs))) → SqL K H a (ns.map V.int) → HOk P w H s₁.heap → (∀ c, H c ≠ none → c = a) → (H a ≠ none → K.lookup a = none) →
      codeAny (model P w) callerA (.call (.ref fa) ⟨[.ref a], []⟩) (fun r s' => r = .ok (.ret (.bool true)) ∧ OldK s₁.heap s'.heap ∧ s'.os = s₁.os ∧ AllBare s'.gens) s₁ := by
    intro H only seqA hokH justA freeK
    have lift : ∀ {c : Addr} {o : Obj}, s₁.heap.get? c = some o → H c = none → (hidT s₁.heap H).get? c = some o := fun e n => hidT_get e n
    have notDict : ∀ {c : Addr} {o : Obj} {es : Array DictEntry} {ep : Nat}, s₁.heap.get? c = some o → o.data = .dict es ep → H c = none := by
      intro c o es ep e d
      cases q : H c with
      | none => rfl
      | some u =>
        have ca : c = a := justA c (by rw [q]; simp)
        subst ca
        rw [objA] at e
        cases e
        cases (show Data.seq us.toArray _ = Data.dict es ep from d)
    have liftN : ∀ {c : Addr} {m : Str → Option Value}, s₁.heap.Ns c m → (hidT s₁.heap H).Ns c m := by
      rintro c m ⟨o, es, ep, e, d, r⟩
      exact ⟨o, es, ep, lift e (notDict e d), d, r⟩
    have inK : K.In (hidT s₁.heap H) := by
      intro c o e
      refine lift (KX c o e) ?_
      cases q : H c with
      | none => rfl
      | some u =>
        have ca : c = a := justA c (by rw [q]; simp)
        subst ca
        rw [freeK (by rw [q]; simp)] at e
        cases e
    have modH : Mod K mg (hidT s₁.heap H) := by
      refine ⟨inK, liftN nsG, ⟨mb, liftN nsB, bbB⟩, ?_⟩
      obtain ⟨mc, h1, h2⟩ := nolim
      exact ⟨mc, liftN h1, h2⟩
    have env0 : Env0 P w K mg (hidT s₁.heap H) callerA [] s₁ H := by
      refine ⟨rfl, modH, fun c o e => of_hidT e, Nat.le_of_eq (hidT_size _ _), trivial, fun c hc => ?_, hokH, .of_eq nogen⟩
      exact absurd (show c ∈ ([] : List Addr) from hc) (by simp)
    have ran := (G _ inK (liftN nsG)).run callerA [] s₁ H ⟨[.ref a], []⟩ [.ref a] [.ref a] (fun v _ => v = .bl true) (fun _ _ _ => False) rfl rm env0 (bind1 s₁ (.ref a)) (.cons rfl .nil) (spD_law seqA want)
    refine codeAny_mono ran fun r s' h => ?_
    match r, h with
    | .error e, h =>
      obtain ⟨_, _, _, _, _, _, _, _, _, _, _, _, z⟩ := h
      exact z.elim
    | .ok .next, h => exact False.elim h
    | .ok .brk, h => exact False.elim h
    | .ok .cont, h => exact False.elim h
    | .ok (.ret u), h =>
      obtain ⟨v, H', eos, bare, un, hok', rv, ev⟩ := h
      have ev : v = .bl true := ev
      subst ev
      obtain rfl : u = Value.bool true := rv
      refine ⟨rfl, OldK.of_keep fun c o e => ?_, eos, bare⟩
      cases q : H c with
      | none => exact un.keep c o e q (fun z => absurd (show c ∈ ([] : List Addr) from z) (by simp)) (by simp)
      | some u =>
        rcases only c with z | ⟨ob, xs, z⟩
        · rw [q] at z
          cases z
        · have there := un.frzs c ob _ z
          obtain ⟨g1, _⟩ := hokH c _ z
          obtain ⟨g2, _⟩ := hok' c _ there
          rw [e] at g1
          cases g1
          exact g2
  cases inmod : K.lookup a with
  | some o =>
    have e := KX a o inmod
    rw [objA] at e
    cases e
    refine main (fun _ => none) (fun _ => .inl rfl) (.inr ⟨_, us.toArray, _, inmod, rfl, rfl, rfl, ?_, by simpa using valsI⟩) (fun c u z => nomatch z) (fun c z => absurd rfl z) fun z => absurd rfl z
    rw [List.size_toArray, lenI]
    exact lenA
  | none =>
    have at_ : ∀ c, (if c = a then some (HO.frz { cls := .type "list", data := .seq us.toArray } (.lst (ns.map V.int))) else none) ≠ none → c = a := fun c z => by
      by_cases hc : c = a
      · exact hc
      · exact absurd (if_neg hc) z
    refine main (fun c => if c = a then some (.frz { cls := .type "list", data := .seq us.toArray } (.lst (ns.map V.int))) else none) (fun c => ?_) (.inl (.inr ⟨{ cls := .type "list", data := .seq us.toArray }, if_pos rfl⟩)) (fun c u z => ?_) at_ fun _ => inmod
    · by_cases hc : c = a
      · exact .inr ⟨_, _, if_pos hc⟩
      · exact .inl (if_neg hc)
    · obtain rfl : c = a := at_ c (by rw [show (if c = a then some (HO.frz { cls := .type "list", data := .seq us.toArray } (.lst (ns.map V.int))) else none) = some u from z]; simp)
      have z2 := (if_pos rfl).symm.trans z
      cases z2
      exact ⟨objA, by rw [List.length_map]; exact lenA, us, _, valsI, objA⟩
end
/-- a law: the facts of the head, then what its def's function gives of a script -/
theorem walk_G {l : PySem.W.OpenLaw} {n k : Nat} {q : Program} {loose : List Str} {XP : (Str → Option Value) → Heap → Prop} {YP : World → Heap → Prop} {d : DefRec} {x : Str} {Fs : SE}
    (hn : l.most = some n) (hn2 : n ≤ sizeLine) (hdf : d.params.defaults = []) (hr : Room k callerA)
    (want : ∀ ns : List Int, ns.length ≤ n → (∀ z ∈ ns, Builtin.Int.intBits z ≤ 1048576) → ∃ δ, Fs [.d (scriptD ns)] = some (.ok (.d (.bool true)) δ))
    (facts : ∀ (w : World) (mg : Str → Option Value) (fa : Addr) (h : Heap), YP w h → h.Ns mainGlobals mg → mg d.name = some (.ref fa) →
      ∃ (K : PySem.W.Frag) (fd : FuncData), K.In h ∧ (∀ (s : Shared) (u : Value), BindsTo s fd ⟨[u], []⟩ [(x, u)]) ∧ ∀ base : Heap, K.In base → base.Ns mainGlobals mg → FnG l.prog w K mg base k fa fd [x] Fs) :
    PySem.W.WalkO q loose XP YP l.row.toRowW d [] (fun f vs => PySem.call f vs) := by
  refine Att.attach_callB hn hdf fun w s₀ s₁ mg mb fa o pm cd doc a us ns G Y ho hd hcd hmg hobj hints hlen hbits hg => ?_
  obtain ⟨K, fd, KX, hb, hF⟩ := facts w mg fa _ Y G.T.g hmg
  exact end_call KX G.T.g G.T.b G.T.builtins G.T.nolimit hg hobj hints (Nat.le_trans hlen hn2) hr hF hb (want ns hlen hbits)
end DL

namespace DL
open PySem PySem.Spec PyProof.Rows L2
section
variable {X : Cx} {C : DC} {W : XW} {a b c e : Expr} {es : List Expr} {fa fb fc f : SE} {ga : SA} {pos p : Pos} {k : Nat}
theorem dx_sub (ha : DE X C W a fa) (hb : DE X C W b fb) : DE X C W (.BinOp a .Sub b pos) (op2E subG fa fb) := de_op op_sub od_sub ha hb
theorem dx_add (hK : C.K = X.K) (ha : DE X C W a fa) (hb : DE X C W b fb) : DE X C W (.BinOp a .Add b pos) (op2E addG fa fb) := de_op (by rw [hK]; exact or_addG) od_addG ha hb
theorem dx_mul (hK : C.K = X.K) (ha : DE X C W a fa) (hb : DE X C W b fb) : DE X C W (.BinOp a .Mult b pos) (op2E mulG fa fb) := de_op (by rw [hK]; exact or_mulG) od_mulG ha hb
theorem dx_fdiv (ha : DE X C W a fa) (hb : DE X C W b fb) : DE X C W (.BinOp a .FloorDiv b pos) (op2E fdivG fa fb) := de_op op_fdivW od_fdiv ha hb
theorem dx_mod (ha : DE X C W a fa) (hb : DE X C W b fb) : DE X C W (.BinOp a .Mod b pos) (op2E modG fa fb) := de_op op_mod od_mod ha hb
theorem dx_pow (ha : DE X C W a fa) (hb : DE X C W b fb) : DE X C W (.BinOp a .Pow b pos) (op2E powG fa fb) := de_op op_pow od_pow ha hb
theorem dx_shl (ha : DE X C W a fa) (hb : DE X C W b fb) : DE X C W (.BinOp a .LShift b pos) (op2E shlG fa fb) := de_op op_shl od_shl ha hb
theorem dx_shr (ha : DE X C W a fa) (hb : DE X C W b fb) : DE X C W (.BinOp a .RShift b pos) (op2E shrG fa fb) := de_op op_shr od_shr ha hb
theorem dx_band (ha : DE X C W a fa) (hb : DE X C W b fb) : DE X C W (.BinOp a .BitAnd b pos) (op2E bandG fa fb) := de_op op_and od_band ha hb
def negG : D → Option Res
  | .int i => some (.d (.int (-i)))
  | _ => none
def op1E (g : D → Option Res) (fa : SE) : SE := bindE (pkE fa) fun r => fun δ => match r.get δ with
  | some x => (g x).map fun y => .ok y δ
  | none => none
theorem dx_neg (ha : DE X C W a fa) : DE X C W (.UnaryOp .USub a pos) (op1E negG fa) := by
  refine pe_mono (pe_un un_neg (de_pk ha)) fun σ H Q ⟨F, δ, h⟩ => ?_
  refine bindV (RVb := RVl C) (mbV) h fun v F1 H1 δ1 r1 e1 S1 R1 V1 h1 => ?_
  obtain ⟨o, ho⟩ := h1.some
  have ho' := ho
  cases q : r1.get δ1 with
  | none => simp only [q] at ho; cases ho
  | some x =>
    simp only [q] at ho
    cases x with
    | int i =>
      cases ho
      exact ⟨i, (V1.get R1 q).int, h1.use ho' Stp.refl R1 (Dat.int _)⟩
    | _ => cases ho
/-! comparisons -/
theorem dx_lt (ha : DE X C W a fa) (hb : DE X C W b fb) : DE X C W (.Compare a [.Lt] [b] pos) (op2E ltG fa fb) := de_cmp op_lt od_lt ha hb (nomark _)
theorem dx_le (ha : DE X C W a fa) (hb : DE X C W b fb) : DE X C W (.Compare a [.LtE] [b] pos) (op2E leG fa fb) := de_cmp op_le od_le ha hb (nomark _)
theorem dx_gt (ha : DE X C W a fa) (hb : DE X C W b fb) : DE X C W (.Compare a [.Gt] [b] pos) (op2E gtG fa fb) := de_cmp op_gt od_gt ha hb (nomark _)
theorem dx_ge (ha : DE X C W a fa) (hb : DE X C W b fb) : DE X C W (.Compare a [.GtE] [b] pos) (op2E geG fa fb) := de_cmp op_ge od_ge ha hb (nomark _)
theorem dx_is (ha : DE X C W a fa) (hb : DE X C W b fb) : DE X C W (.Compare a [.Is] [b] pos) (op2E isG fa fb) := de_cmp op_isN od_is ha hb (nomark _)
theorem dx_isn (ha : DE X C W a fa) (hb : DE X C W b fb) : DE X C W (.Compare a [.IsNot] [b] pos) (op2E isnG fa fb) := de_cmp op_notN od_isn ha hb (nomark _)
theorem dx_eq (hK : C.K = X.K) (hr : Room k X.A) (ha : DE X C W a fa) (hb : DE X C W b fb) : DE X C W (.Compare a [.Eq] [b] pos) (op2E eqG fa fb) := de_cmp (by rw [hK]; exact op_eqD (by have := hr.un; omega)) od_eq ha hb (nomark _)
theorem dx_ne (hK : C.K = X.K) (hr : Room k X.A) (ha : DE X C W a fa) (hb : DE X C W b fb) : DE X C W (.Compare a [.NotEq] [b] pos) (op2E neG fa fb) := de_cmp (by rw [hK]; exact op_neD (by have := hr.un; omega)) od_ne ha hb (nomark _)
theorem dx_in (hK : C.K = X.K) (hr : Room k X.A) (ha : DE X C W a fa) (hb : DE X C W b fb) (hm : behindInMarks .In b = false := by rfl) : DE X C W (.Compare a [.In] [b] pos) (op2E inG fa fb) := de_cmp (by rw [hK]; exact op_inG hr) od_inG ha hb hm
theorem dx_nin (hK : C.K = X.K) (hr : Room k X.A) (ha : DE X C W a fa) (hb : DE X C W b fb) (hm : behindInMarks .NotIn b = false := by rfl) : DE X C W (.Compare a [.NotIn] [b] pos) (op2E notInG fa fb) := de_cmp (by rw [hK]; exact op_notInG hr) od_notInG ha hb hm
theorem dy_lt (ha : DE X C W a fa) (hb : DE X C W b fb) : DT X C W (.Compare a [.Lt] [b] pos) (toB (op2E ltG fa fb)) := dt_cmp op_lt od_lt ha hb (nomark _)
theorem dy_le (ha : DE X C W a fa) (hb : DE X C W b fb) : DT X C W (.Compare a [.LtE] [b] pos) (toB (op2E leG fa fb)) := dt_cmp op_le od_le ha hb (nomark _)
theorem dy_gt (ha : DE X C W a fa) (hb : DE X C W b fb) : DT X C W (.Compare a [.Gt] [b] pos) (toB (op2E gtG fa fb)) := dt_cmp op_gt od_gt ha hb (nomark _)
theorem dy_ge (ha : DE X C W a fa) (hb : DE X C W b fb) : DT X C W (.Compare a [.GtE] [b] pos) (toB (op2E geG fa fb)) := dt_cmp op_ge od_ge ha hb (nomark _)
theorem dy_is (ha : DE X C W a fa) (hb : DE X C W b fb) : DT X C W (.Compare a [.Is] [b] pos) (toB (op2E isG fa fb)) := dt_cmp op_isN od_is ha hb (nomark _)
theorem dy_isn (ha : DE X C W a fa) (hb : DE X C W b fb) : DT X C W (.Compare a [.IsNot] [b] pos) (toB (op2E isnG fa fb)) := dt_cmp op_notN od_isn ha hb (nomark _)
theorem dy_eq (hK : C.K = X.K) (hr : Room k X.A) (ha : DE X C W a fa) (hb : DE X C W b fb) : DT X C W (.Compare a [.Eq] [b] pos) (toB (op2E eqG fa fb)) := dt_cmp (by rw [hK]; exact op_eqD (by have := hr.un; omega)) od_eq ha hb (nomark _)
theorem dy_ne (hK : C.K = X.K) (hr : Room k X.A) (ha : DE X C W a fa) (hb : DE X C W b fb) : DT X C W (.Compare a [.NotEq] [b] pos) (toB (op2E neG fa fb)) := dt_cmp (by rw [hK]; exact op_neD (by have := hr.un; omega)) od_ne ha hb (nomark _)
theorem dy_in (hK : C.K = X.K) (hr : Room k X.A) (ha : DE X C W a fa) (hb : DE X C W b fb) (hm : behindInMarks .In b = false := by rfl) : DT X C W (.Compare a [.In] [b] pos) (toB (op2E inG fa fb)) := dt_cmp (by rw [hK]; exact op_inG hr) od_inG ha hb hm
theorem dy_nin (hK : C.K = X.K) (hr : Room k X.A) (ha : DE X C W a fa) (hb : DE X C W b fb) (hm : behindInMarks .NotIn b = false := by rfl) : DT X C W (.Compare a [.NotIn] [b] pos) (toB (op2E notInG fa fb)) := dt_cmp (by rw [hK]; exact op_notInG hr) od_notInG ha hb hm
/-! calls of built-ins -/
theorem b_repr : bootBuiltins "repr" = some (.builtin "repr") := by decide +kernel
theorem b_max : bootBuiltins "max" = some (.builtin "max") := by decide +kernel
theorem b_min : bootBuiltins "min" = some (.builtin "min") := by decide +kernel
theorem b_sum : bootBuiltins "sum" = some (.builtin "sum") := by decide +kernel
theorem b_len : bootBuiltins "len" = some (.builtin "len") := by decide +kernel
theorem b_divmod : bootBuiltins "divmod" = some (.builtin "divmod") := by decide +kernel
theorem b_list : bootBuiltins "list" = some (.type "list") := by decide +kernel
theorem b_tuple : bootBuiltins "tuple" = some (.type "tuple") := by decide +kernel
theorem b_int : bootBuiltins "int" = some (.type "int") := by decide +kernel
theorem b_str : bootBuiltins "str" = some (.type "str") := by decide +kernel
theorem b_bool : bootBuiltins "bool" = some (.type "bool") := by decide +kernel
theorem b_dict : bootBuiltins "dict" = some (.type "dict") := by decide +kernel
abbrev St1 (X : Cx) (e : Expr) (es : List Expr) : Prop := starEach (e :: es) X.env = (false, eval e X.env) :: starEach es X.env
theorem dx_len (hK : C.K = X.K) (hg : Gl X "len") (hm : X.mg "len" = none) (ha : DA X C W (e :: es) ga) (he : St1 X e es := by rfl) (hpl : (backTo pos (starEach es X.env)).any (·.1) = false := by rfl) : DE X C W (.Call (.Name "len" p) (e :: es) [] pos) (callBE lenG ga) := de_callB (by rw [hK]; exact cr_lenG) cd_lenG hg hm b_len ha (by decide) (by decide) he hpl
theorem dx_repr (hK : C.K = X.K) (hgd : X.A.guards = some []) (hr : Room k X.A) (hg : Gl X "repr") (hm : X.mg "repr" = none) (ha : DA X C W (e :: es) ga) (he : St1 X e es := by rfl) (hpl : (backTo pos (starEach es X.env)).any (·.1) = false := by rfl) : DE X C W (.Call (.Name "repr" p) (e :: es) [] pos) (callBE reprG ga) := de_callB (by rw [hK]; exact call_reprD hgd hr) cd_repr hg hm b_repr ha (by decide) (by decide) he hpl
theorem dx_min2 (hc : X.calm = true) (hg : Gl X "min") (hm : X.mg "min" = none) (ha : DA X C W (e :: es) ga) (he : St1 X e es := by rfl) (hpl : (backTo pos (starEach es X.env)).any (·.1) = false := by rfl) : DE X C W (.Call (.Name "min" p) (e :: es) [] pos) (callBE min2G ga) := de_callB (call_min2 hc) cd_min2 hg hm b_min ha (by decide) (by decide) he hpl
theorem dx_max2 (hc : X.calm = true) (hg : Gl X "max") (hm : X.mg "max" = none) (ha : DA X C W (e :: es) ga) (he : St1 X e es := by rfl) (hpl : (backTo pos (starEach es X.env)).any (·.1) = false := by rfl) : DE X C W (.Call (.Name "max" p) (e :: es) [] pos) (callBE max2G ga) := de_callB (call_max2 hc) cd_max2 hg hm b_max ha (by decide) (by decide) he hpl
theorem dx_sum (hK : C.K = X.K) (hc : X.calm = true) (hg : Gl X "sum") (hm : X.mg "sum" = none) (ha : DA X C W (e :: es) ga) (he : St1 X e es := by rfl) (hpl : (backTo pos (starEach es X.env)).any (·.1) = false := by rfl) : DE X C W (.Call (.Name "sum" p) (e :: es) [] pos) (callBE sumG ga) := de_callB (by rw [hK]; exact cr_sum hc) cd_sum hg hm b_sum ha (by decide) (by decide) he hpl
theorem dx_divmod (hg : Gl X "divmod") (hm : X.mg "divmod" = none) (ha : DA X C W (e :: es) ga) (he : St1 X e es := by rfl) (hpl : (backTo pos (starEach es X.env)).any (·.1) = false := by rfl) : DE X C W (.Call (.Name "divmod" p) (e :: es) [] pos) (callBE divmodG ga) := de_callB call_divmod cd_divmod hg hm b_divmod ha (by decide) (by decide) he hpl
theorem dx_list (hK : C.K = X.K) (hg : Gl X "list") (hm : X.mg "list" = none) (ha : DA X C W (e :: es) ga) (he : St1 X e es := by rfl) (hpl : (backTo pos (starEach es X.env)).any (·.1) = false := by rfl) : DE X C W (.Call (.Name "list" p) (e :: es) [] pos) (callBE listG ga) := de_callTy (by rw [hK]; exact call_list_of) cd_list hg hm b_list ha (by decide) (by decide) he hpl
theorem dx_tuple (hK : C.K = X.K) (hg : Gl X "tuple") (hm : X.mg "tuple" = none) (ha : DA X C W (e :: es) ga) (he : St1 X e es := by rfl) (hpl : (backTo pos (starEach es X.env)).any (·.1) = false := by rfl) : DE X C W (.Call (.Name "tuple" p) (e :: es) [] pos) (callBE tupleG ga) := de_callTy (by rw [hK]; exact call_tuple_of) cd_tuple hg hm b_tuple ha (by decide) (by decide) he hpl
theorem dx_int (hg : Gl X "int") (hm : X.mg "int" = none) (ha : DA X C W (e :: es) ga) (he : St1 X e es := by rfl) (hpl : (backTo pos (starEach es X.env)).any (·.1) = false := by rfl) : DE X C W (.Call (.Name "int" p) (e :: es) [] pos) (callBE intG ga) := de_callTy call_int1 cd_int hg hm b_int ha (by decide) (by decide) he hpl
theorem dx_str (hg : Gl X "str") (hm : X.mg "str" = none) (ha : DA X C W (e :: es) ga) (he : St1 X e es := by rfl) (hpl : (backTo pos (starEach es X.env)).any (·.1) = false := by rfl) : DE X C W (.Call (.Name "str" p) (e :: es) [] pos) (callBE strG ga) := de_callTy call_str_int cd_str hg hm b_str ha (by decide) (by decide) he hpl
end
/-! ### arguments, put into the parameters' order -/
def pick (idx : List Nat) {α : Type} (us ws ds : List α) : List α := idx.filterMap fun j => (us ++ ws ++ ds)[j]?
theorem vals_at {xs : List V} {us : List Value} (h : Vals xs us) (j : Nat) : (xs[j]? = none ∧ us[j]? = none) ∨ ∃ v u, xs[j]? = some v ∧ us[j]? = some u ∧ RelV v u := by
  induction h generalizing j with
  | nil => exact .inl ⟨by simp, by simp⟩
  | cons h t ih =>
    cases j with
    | zero => exact .inr ⟨_, _, rfl, rfl, h⟩
    | succ j => simpa using ih j
theorem vals_app {xs ys : List V} {us ws : List Value} (h : Vals xs us) (k : Vals ys ws) : Vals (xs ++ ys) (us ++ ws) := by
  induction h with
  | nil => exact k
  | cons h t ih => exact .cons h ih
theorem rvs_at {C : DC} {F H : Hp} {σ : Sg} {Hs : Hp} {xs : List V} {us : List Res} (h : RVs C F H σ Hs xs us) (j : Nat) : (xs[j]? = none ∧ us[j]? = none) ∨ ∃ v u, xs[j]? = some v ∧ us[j]? = some u ∧ RV C F H σ Hs v u ∧ u.isPk = true := by
  induction h generalizing j with
  | nil => exact .inl ⟨by simp, by simp⟩
  | cons h p t ih =>
    cases j with
    | zero => exact .inr ⟨_, _, rfl, rfl, h, p⟩
    | succ j => simpa using ih j
theorem rvs_app {C : DC} {F H : Hp} {σ : Sg} {Hs : Hp} {xs ys : List V} {us ws : List Res} (h : RVs C F H σ Hs xs us) (k : RVs C F H σ Hs ys ws) : RVs C F H σ Hs (xs ++ ys) (us ++ ws) := by
  induction h with
  | nil => exact k
  | cons h p t ih => exact .cons h p ih
theorem pick_ok (idx : List Nat) : PutOk (pick idx) where
  rel := by
    intro us us' ws ws' ds ds' h1 h2 h3
    have h := vals_app (vals_app h1 h2) h3
    unfold pick
    induction idx with
    | nil => exact .nil
    | cons j r ih =>
      rcases vals_at h j with ⟨e1, e2⟩ | ⟨v, u, e1, e2, rel⟩
      · rw [List.filterMap_cons_none e1, List.filterMap_cons_none e2]; exact ih
      · rw [List.filterMap_cons_some e1, List.filterMap_cons_some e2]; exact .cons rel ih
  res := by
    intro C F H σ Hs us ws ds rs qs es h1 h2 h3
    have h := rvs_app (rvs_app h1 h2) h3
    unfold pick
    induction idx with
    | nil => exact .nil
    | cons j r ih =>
      rcases rvs_at h j with ⟨e1, e2⟩ | ⟨v, u, e1, e2, rel, p⟩
      · rw [List.filterMap_cons_none e1, List.filterMap_cons_none e2]; exact ih
      · rw [List.filterMap_cons_some e1, List.filterMap_cons_some e2]; exact .cons rel p ih
end DL

namespace DL
open PySem PySem.Spec PyProof.Rows L2
def isFree (k : NameKind) : Bool := match k with
  | .free => true
  | _ => false
def isLoc (k : NameKind) : Bool := match k with
  | .local => true
  | .cell => true
  | _ => false
def memS (x : Str) (l : List Str) : Bool := l.any fun y => decide (y = x)
/-- a block's scope fits its def's names -/
def blkB (N : List Str) (sc scope : Scope) (own : List (Str × Nat)) : Bool :=
  (match scope.kind with | .function => true | _ => false) && (scope.names.all fun y => decide (scope.names.lookup y.1 = some y.2)) && (own.all fun p => decide (N[p.2]? = some p.1)) &&
  (scope.names.all fun y => !isFree y.2 || decide (sc.names.lookup y.1 = some .cell) || decide (sc.names.lookup y.1 = some .free)) &&
  (scope.names.all fun y => !isLoc y.2 || memS y.1 (own.map (·.1)) || !memS y.1 N)
theorem memS_ok {x : Str} {l : List Str} : memS x l = true ↔ x ∈ l := by
  unfold memS
  rw [List.any_eq_true]
  exact ⟨fun ⟨y, h, e⟩ => of_decide_eq_true e ▸ h, fun h => ⟨x, h, decide_eq_true rfl⟩⟩
theorem blk_of {N : List Str} {sc scope : Scope} {own : List (Str × Nat)} (h : blkB N sc scope own = true) : BlkOk N sc scope own := by
  unfold blkB at h
  simp only [Bool.and_eq_true] at h
  obtain ⟨⟨⟨⟨h1, h2⟩, h3⟩, h4⟩, h5⟩ := h
  refine ⟨?_, fun y hy => of_decide_eq_true (List.all_eq_true.mp h2 y hy), fun p hp => of_decide_eq_true (List.all_eq_true.mp h3 p hp), fun y hy e => ?_, fun y hy e => ?_⟩
  · cases q : scope.kind with
    | function => rfl
    | _ => rw [q] at h1; cases h1
  · have := List.all_eq_true.mp h4 y hy
    rw [e] at this
    simp only [isFree, Bool.not_true, Bool.false_or, Bool.or_eq_true, decide_eq_true_eq] at this
    exact this
  · have := List.all_eq_true.mp h5 y hy
    have l : isLoc y.2 = true := by
      rcases e with e | e <;> rw [e] <;> rfl
    rw [l] at this
    simp only [Bool.not_true, Bool.false_or, Bool.or_eq_true, Bool.not_eq_true', ← Bool.not_eq_true, memS_ok] at this
    exact this
end DL

namespace DL
open PySem PySem.Spec PyProof.Rows L2
/-! ### {t: v}, t a tuple -/
section
variable {X : Cx} {C : DC} {W : XW} {kx vx : Expr} {fk fv : SE} {pos : Pos} {k : Nat}
def newO (a : Addr) : HO := .ext fun h => h.get? a = some { cls := .type "dict", data := .dict #[] }
def tDispT (K : PySem.W.Frag) (tk tv : TE) : TE := fun σ H Q => ∀ p, H p = none → tk σ (upd H p (newO p)) fun x H1 => tv σ H1 fun y H2 => H2 p = some (newO p) ∧ ∃ (b : Addr) (ks : List Key), x = .ref b ∧ SqT K H2 b (ks.map kV) ∧ Q (.ref p) (upd H2 p (opqO p))
theorem pe_dispT {tk tv : TE} (hu : X.A.units + 1 < cLine) (hk : PE X kx tk) (hv : PE X vx tv) : PE X (.Dict [some kx] [vx] pos) (tDispT X.K tk tv) := by
  refine ⟨fun pins s σ H Q I q => ?_⟩
  have hn := I.hok.fresh (Nat.le_refl s.heap.objs.size)
  have I1 := I.laid (a := s.heap.objs.size) (o := newO s.heap.objs.size) (h' := s.heap.push { cls := .type "dict", data := .dict #[] }) (t' := s.toks) (fun _ _ q => Heap.get?_push_of_some _ q) (Nat.le_refl _)
    ⟨Heap.get?_push_size _ rfl, ⟨_, Heap.get?_push_size _ rfl⟩, fun h1 h2 e k => k _ e⟩
  rw [arm_eval_Dict, zip_pairTrees [some kx] [vx] X.env pos rfl rfl, dictDisplay_pairs (pairTrees [some kx] [vx] X.env pos) (by simp [pairTrees]) (by simp [pairTrees])]
  refine wpAny_bind (wpAny_standAt (wpAny_bind ?_))
  unfold subDict
  refine wpAny_bind (wpAny_alloc (wpAny_bind (wpAny_holding ?_)))
  rw [if_pos (by simp [pairTrees])]
  refine wpAny_bind (pairTrees_cons_walk (thn (hk.run pins _ σ _ _ I1 (q _ hn)) fun u s1 ⟨x, H1, I2, rx, q1⟩ => thn (hv.run pins s1 σ H1 _ I2 q1) fun w2 s2 ⟨y, H2, I3, ry, hp, b, ks, ex, hb, q2⟩ => pairTrees_nil_walk ?_))
  subst ex
  cases (show u = Value.ref b from rx)
  obtain ⟨hg, _, _⟩ := (show ObjOk X.prog X.w H2 s2.heap s.heap.objs.size (newO s.heap.objs.size) from I3.hok _ _ hp)
  have dd : s2.heap.DictOfH (tupleKind (mixKind X.prog X.w)) s.heap.objs.size [] := ⟨_, #[], 0, hg, ⟨rfl, rfl, rfl⟩, rfl, rfl, fun x hx => absurd hx (by simp), List.nodup_nil⟩
  obtain ⟨its, r, ⟨ot, h1, h2, n, h3⟩, _⟩ := I3.tuple hb
  have key : (tupleKind (mixKind X.prog X.w)).is s2.heap ks b := ⟨ot, its.toArray, n, h1, h2, h3, by simpa using items_are r⟩
  refine wpAny_holding ?_
  rw [List.forIn_cons]
  refine wpAny_bind (wpAny_bind (wpAny_bind (wpAny_dictSet_heap (knd := tupleKind (mixKind X.prog X.w)) (hsz := Nat.zero_le _) (by show X.A.units < cLine; omega) key dd fun h' dd' hs => wpAny_pure ?_)))
  simp only [List.forIn_nil]
  refine wpAny_pure (wpAny_pure (wpAny_pure (wpAny_pure ⟨.ref s.heap.objs.size, _, ?_, rfl, q2⟩)))
  obtain ⟨o, es, ep, hq, hx, _⟩ := dd'
  exact d_write I3 (by rw [hp]; exact True.intro) hs ⟨o, hq⟩ ⟨⟨o, hq, hx.1, hx.2.1⟩, ⟨o, hq⟩, fun h1 h2 ⟨o, e, c⟩ k => ⟨o, k _ e, c⟩⟩
def keysD (xs : List D) : Option (List Key) := xs.mapM keyD
theorem keysD_of {K : PySem.W.Frag} {F : Hp} : ∀ {vs : List V} {xs : List D} {ks : List Key}, Dats K F vs xs → keysD xs = some ks → vs = ks.map kV
  | _, [], ks, .nil, e => by
    simp [keysD] at e; subst e; rfl
  | _, x :: xs, ks, .cons h t, e => by
    unfold keysD at e
    rw [List.mapM_cons] at e
    cases q : keyD x with
    | none => simp [q] at e
    | some ky =>
      cases q2 : xs.mapM keyD with
      | none => simp [q, q2] at e
      | some kr =>
        simp [q, q2] at e; subst e
        rw [List.map_cons, ← keysD_of t q2]
        congr 1
        cases x with
        | int i => cases q; cases h; rfl
        | str i => cases q; cases h; rfl
        | _ => cases q
/-- what it holds is not told -/
def dispTE (fk fv : SE) : SE := bindE (pkE fk) fun rk => bindE (escE fv) fun _ => fun δ => match rk.get δ with
  | some (.tuple xs) => match keysD xs with
    | some _ => some (.ok (.d (.dict [(.tuple [], .none)])) δ)
    | none => none
  | _ => none
theorem de_dispT (hK : C.K = X.K) (hr : Room k X.A) (hk : DE X C W kx fk) (hv : DE X C W vx fv) : DE X C W (.Dict [some kx] [vx] pos) (dispTE fk fv) := by
  refine pe_mono (pe_dispT (by have := hr.un; omega) (de_pk hk) (de_esc hv)) fun σ H Q ⟨F, δ, h⟩ => ?_
  intro p np
  have R := h.1
  have hz := h.z
  obtain ⟨S0, R0⟩ := R.newG (newO p) np
  refine ⟨F, δ, (tZ.bind (RVa := RVl C) hz S0 R0).mono fun x H1 ⟨F1, δ1, r1, e1, S1, S1', R1, V1, h1⟩ => ?_⟩
  refine ⟨F1, δ1, (tZ.bind (RVa := RVl C) h1 S1' R1).mono fun y H2 ⟨F2, δ2, r2, e2, S2, S2', R2, V2, h2⟩ => ?_⟩
  obtain ⟨o, ho⟩ := h2.some
  have no : ∀ {F H : Hp} {δ' : List SV}, Stp F H σ δ F H δ' → True := fun _ => trivial
  have n1 : ¬ OwnedAt σ δ p := R.fresh_own np
  obtain ⟨g1, f1⟩ := S1.frm p _ upd_same n1
  obtain ⟨g2, f2⟩ := S2.frm p _ g1 fun z => n1 (S1'.owned z)
  have fp := f2 (f1 (R.freshF np))
  cases q : r1.get δ2 with
  | none => simp only [q] at ho; cases ho
  | some z =>
    cases z with
    | tuple xs =>
      cases q2 : keysD xs with
      | none => simp only [q, q2] at ho; cases ho
      | some ks =>
        obtain ⟨b, vs, rfl, hs, t⟩ := ((V1.after (Hs' := H) (pk_isPk e1) S2).get R2 q).tup R2.ext
        refine ⟨g2, b, ks, rfl, by rw [← hK, ← keysD_of t q2]; exact hs, ?_⟩
        have R3 := R2.poke (opqO p) fp (fun z => n1 (S2'.owned z)) (R.fresh0 np)
        have S3 := S2'.poke (opqO p) np
        have Rf := R3.freeze upd_same fp (fun z => n1 (S2'.owned z)) (R.fresh0 np)
        have Sf : Stp F H σ δ (upd F2 p (opqO p)) (upd H2 p (opqO p)) δ2 := ⟨S3.ext.trans (le_upd fp), fun a u hh n => by
          obtain ⟨k1, k2⟩ := S3.frm a u hh n
          refine ⟨k1, fun z => ?_⟩
          have : a ≠ p := fun q => by rw [q, np] at hh; cases hh
          rw [upd_ne this]; exact k2 z, S3.pers, S3.own⟩
        refine h2.use (r := .d (.dict [(.tuple [], .none)])) (δ' := δ2) ?_ Sf Rf (Dat.dcT (.inl upd_same))
        simp only [q, q2]
    | _ => simp only [q] at ho; cases ho
end
theorem fd_uniq {K : PySem.W.Frag} {x qual : Str} {params : Arguments} {body : List Stmt} {scope : Scope} {dvs : List V} {kws : List (Str × V)} {f : Addr} {fd fd' : FuncData} (F : FunD K x qual params body scope dvs kws f fd) (F' : FunD K x qual params body scope dvs kws f fd') : fd' = fd := by
  obtain ⟨_, _, _, _, _, _, _, _, _, _, e1, lk, _⟩ := F.ex
  obtain ⟨_, _, _, _, _, _, _, _, _, _, e2, lk', _⟩ := F'.ex
  rw [lk] at lk'
  cases lk'
  rfl
end DL

namespace DL
open PySem PySem.Spec PyProof.Rows L2
/-! ### plain reckoning -/
theorem log2_lt_of {n a : Nat} (h : n < 2 ^ a) (ha : 0 < a) : n.log2 < a := by
  by_cases e : n = 0
  · subst e; simpa using ha
  · exact (Nat.log2_lt e).mpr h
theorem log2_mul_le (a b : Int) : (a * b).natAbs.log2 ≤ a.natAbs.log2 + b.natAbs.log2 + 1 := by
  rw [Int.natAbs_mul]
  have h1 : a.natAbs < 2 ^ (a.natAbs.log2 + 1) := Nat.lt_log2_self
  have h2 : b.natAbs < 2 ^ (b.natAbs.log2 + 1) := Nat.lt_log2_self
  have h3 : a.natAbs * b.natAbs < 2 ^ (a.natAbs.log2 + b.natAbs.log2 + 2) := by
    have : a.natAbs * b.natAbs < 2 ^ (a.natAbs.log2 + 1) * 2 ^ (b.natAbs.log2 + 1) := Nat.mul_lt_mul_of_lt_of_lt h1 h2
    rw [← Nat.pow_add] at this
    rw [show a.natAbs.log2 + b.natAbs.log2 + 2 = a.natAbs.log2 + 1 + (b.natAbs.log2 + 1) by omega]
    exact this
  have := log2_lt_of h3 (by omega)
  omega
theorem log2_of_lt {i : Int} {a : Nat} (h1 : -(2 ^ a : Nat) < i) (h2 : i < (2 ^ a : Nat)) (ha : 0 < a) : i.natAbs.log2 < a := log2_lt_of (by omega) ha
theorem mod_log (i : Int) {m : Int} (h0 : 0 < m) (h : m < 2 ^ 60) : (i % m).natAbs.log2 < 60 := by
  have h1 := Int.emod_nonneg i (show m ≠ 0 by omega)
  have h2 := Int.emod_lt_of_pos i h0
  refine log2_of_lt ?_ ?_ (by decide)
  · have : ((2 ^ 60 : Nat) : Int) = 1152921504606846976 := by decide
    omega
  · have : ((2 ^ 60 : Nat) : Int) = 1152921504606846976 := by decide
    omega
@[simp] theorem mulG_ii {i j : Int} (h : i.natAbs.log2 + j.natAbs.log2 < 1000000) : mulG (.int i) (.int j) = some (.d (.int (i * j))) := by
  simp [mulG, mulI, op2I, h]
@[simp] theorem addG_ii (i j : Int) : addG (.int i) (.int j) = some (.d (.int (i + j))) := by simp [addG, addI, op2I]
@[simp] theorem subG_ii (i j : Int) : subG (.int i) (.int j) = some (.d (.int (i - j))) := by simp [subG, op2I]
@[simp] theorem modG_ii {i j : Int} (h : 0 < j) : modG (.int i) (.int j) = some (.d (.int (i % j))) := by simp [modG, op2I, h]
@[simp] theorem fdivG_ii {i j : Int} (h : 0 < j) (h2 : j.natAbs.log2 < 9000) : fdivG (.int i) (.int j) = some (.d (.int (i / j))) := by simp [fdivG, op2I, h, h2]
@[simp] theorem ltG_ii (i j : Int) : ltG (.int i) (.int j) = some (.d (.bool (decide (i < j)))) := by simp [ltG, op2B]
@[simp] theorem leG_ii (i j : Int) : leG (.int i) (.int j) = some (.d (.bool (decide (i ≤ j)))) := by simp [leG, op2B]
@[simp] theorem gtG_ii (i j : Int) : gtG (.int i) (.int j) = some (.d (.bool (decide (j < i)))) := by simp [gtG, op2B]
@[simp] theorem geG_ii (i j : Int) : geG (.int i) (.int j) = some (.d (.bool (decide (j ≤ i)))) := by simp [geG, op2B]
/-! ### running -/
section
variable {δ δ1 δ2 : List SV} {α : Type}
theorem varE_d {i : Nat} {x : D} (h : δ[i]? = some (.d x)) : varE i δ = some (.ok (.d x) δ) := by unfold varE; rw [h]
theorem varE_L {i k : Nat} {x : List D} (h : δ[i]? = some (.L k x)) : varE i δ = some (.ok (.b i) δ) := by unfold varE; rw [h]
theorem varE_M {i k : Nat} {x : List (Key × D)} (h : δ[i]? = some (.M k x)) : varE i δ = some (.ok (.b i) δ) := by unfold varE; rw [h]
@[simp] theorem conE_run (x : D) : conE x δ = some (.ok (.d x) δ) := rfl
@[simp] theorem pureE_run (x : α) : pureE x δ = some (.ok x δ) := rfl
end
theorem size_big : (1000000 : Nat) ≤ sizeLine := by decide
@[simp] theorem le_size {n : Nat} (h : n ≤ 1000000) : (n ≤ sizeLine) = True := eq_true (Nat.le_trans h size_big)
@[simp] theorem lt_size {n : Nat} (h : n < 1000000) : (n < sizeLine) = True := eq_true (Nat.lt_of_lt_of_le h size_big)
/-! ### loops -/
theorem forGo_inv {t : STg} {s : SS} {P : Nat → List SV → Prop} : ∀ (items : List D) (i : Nat) (δ : List SV), P i δ → (∀ j x δ, items[j]? = some x → P (i + j) δ → ∃ δ1 δ2, t x δ = some δ1 ∧ (s δ1 = some (.nx δ2) ∨ s δ1 = some (.ct δ2)) ∧ P (i + j + 1) δ2) → ∃ δ', forGo t s items δ = some (.nx δ') ∧ P (i + items.length) δ'
  | [], i, δ, h, _ => ⟨δ, rfl, h⟩
  | x :: r, i, δ, h, hs => by
    obtain ⟨δ1, δ2, e1, e2, h2⟩ := hs 0 x δ rfl h
    have ih := forGo_inv r (i + 1) δ2 h2 fun j y δ3 ey h3 => by
      have := hs (j + 1) y δ3 (by simpa using ey) (by rw [show i + (j + 1) = i + 1 + j by omega]; exact h3)
      rw [show i + (j + 1) + 1 = i + 1 + j + 1 by omega] at this
      exact this
    obtain ⟨δ', e3, h4⟩ := ih
    refine ⟨δ', ?_, by rw [show i + (x :: r).length = i + 1 + r.length by simp; omega]; exact h4⟩
    simp only [forGo, e1]
    rcases e2 with e2 | e2 <;> simp only [e2] <;> exact e3
end DL

set_option maxHeartbeats 4000000
namespace K01
open PySem PySem.Spec PyProof.Rows L2 DL
def topS (i : Nat) : Stmt := PySem.Challenge.pw_oneseat_k01_numbers_and_errands.main.body.getD i (.Pass ⟨0, 0, 0, 0⟩)
abbrev s__law_begin : Stmt := topS 10
theorem sc__law_begin : FnScope ["script"] ["script"] (defScope s__law_begin) := ⟨rfl, rfl, rfl, by decide +kernel, rfl, by decide +kernel, by decide +kernel⟩
abbrev s__law_mixed : Stmt := topS 11
theorem sc__law_mixed : FnScope ["cell", "k", "number"] ["cell", "k"] (defScope s__law_mixed) := ⟨rfl, rfl, rfl, by decide +kernel, rfl, by decide +kernel, by decide +kernel⟩
abbrev s__law_next : Stmt := topS 12
theorem sc__law_next : FnScope ["draw", "many", "found", "cells", "cell"] ["draw", "many"] (defScope s__law_next) := ⟨rfl, rfl, rfl, by decide +kernel, rfl, by decide +kernel, by decide +kernel⟩
abbrev s__law_odd : Stmt := topS 13
theorem sc__law_odd : FnScope ["draw", "some"] ["draw"] (defScope s__law_odd) := ⟨rfl, rfl, rfl, by decide +kernel, rfl, by decide +kernel, by decide +kernel⟩
abbrev s_is_number : Stmt := topS 6
theorem sc_is_number : FnScope ["thing"] ["thing"] (defScope s_is_number) := ⟨rfl, rfl, rfl, by decide +kernel, rfl, by decide +kernel, by decide +kernel⟩
abbrev s_is_whole : Stmt := topS 7
theorem sc_is_whole : FnScope ["thing", "least", "most"] ["thing", "least", "most"] (defScope s_is_whole) := ⟨rfl, rfl, rfl, by decide +kernel, rfl, by decide +kernel, by decide +kernel⟩
abbrev s__law_bounds_right : Stmt := topS 14
theorem sc__law_bounds_right : FnScope ["draw", "low", "high", "great", "k", "number", "got", "due", "odd", "one"] ["draw"] (defScope s__law_bounds_right) := ⟨rfl, rfl, rfl, by decide +kernel, rfl, by decide +kernel, by decide +kernel⟩
abbrev s_is_errand : Stmt := topS 8
theorem sc_is_errand : FnScope ["thing", "floors", "begin", "steps"] ["thing", "floors"] (defScope s_is_errand) := ⟨rfl, rfl, rfl, by decide +kernel, rfl, by decide +kernel, by decide +kernel⟩
abbrev s__law_errands_right : Stmt := topS 15
theorem sc__law_errands_right : FnScope ["draw", "size", "odd", "begins", "steps", "j", "k", "good", "some", "one"] ["draw", "size"] (defScope s__law_errands_right) := ⟨rfl, rfl, rfl, by decide +kernel, rfl, by decide +kernel, by decide +kernel⟩
abbrev s_law : Stmt := topS 16
theorem sc_law : FnScope ["script", "draw", "turn"] ["script"] (defScope s_law) := ⟨rfl, rfl, rfl, by decide +kernel, rfl, by decide +kernel, by decide +kernel⟩
structure Top (K : PySem.W.Frag) (mg : Str → Option Value) : Prop where
  d__law_begin : ∃ fd, FunD K "_law_begin" "_law_begin" (defArgs s__law_begin) (defBody s__law_begin) (defScope s__law_begin) [] [] (He.ga K "_law_begin") fd
  m__law_begin : mg "_law_begin" = some (.ref (He.ga K "_law_begin"))
  d__law_mixed : ∃ fd, FunD K "_law_mixed" "_law_mixed" (defArgs s__law_mixed) (defBody s__law_mixed) (defScope s__law_mixed) [] [] (He.ga K "_law_mixed") fd
  m__law_mixed : mg "_law_mixed" = some (.ref (He.ga K "_law_mixed"))
  d__law_next : ∃ fd, FunD K "_law_next" "_law_next" (defArgs s__law_next) (defBody s__law_next) (defScope s__law_next) [] [] (He.ga K "_law_next") fd
  m__law_next : mg "_law_next" = some (.ref (He.ga K "_law_next"))
  d__law_odd : ∃ fd, FunD K "_law_odd" "_law_odd" (defArgs s__law_odd) (defBody s__law_odd) (defScope s__law_odd) [] [] (He.ga K "_law_odd") fd
  m__law_odd : mg "_law_odd" = some (.ref (He.ga K "_law_odd"))
  d_is_number : ∃ fd, FunD K "is_number" "is_number" (defArgs s_is_number) (defBody s_is_number) (defScope s_is_number) [] [] (He.ga K "is_number") fd
  m_is_number : mg "is_number" = some (.ref (He.ga K "is_number"))
  d_is_whole : ∃ fd, FunD K "is_whole" "is_whole" (defArgs s_is_whole) (defBody s_is_whole) (defScope s_is_whole) [] [("least", .int 0), ("most", .non)] (He.ga K "is_whole") fd
  m_is_whole : mg "is_whole" = some (.ref (He.ga K "is_whole"))
  d__law_bounds_right : ∃ fd, FunD K "_law_bounds_right" "_law_bounds_right" (defArgs s__law_bounds_right) (defBody s__law_bounds_right) (defScope s__law_bounds_right) [] [] (He.ga K "_law_bounds_right") fd
  m__law_bounds_right : mg "_law_bounds_right" = some (.ref (He.ga K "_law_bounds_right"))
  d_is_errand : ∃ fd, FunD K "is_errand" "is_errand" (defArgs s_is_errand) (defBody s_is_errand) (defScope s_is_errand) [] [] (He.ga K "is_errand") fd
  m_is_errand : mg "is_errand" = some (.ref (He.ga K "is_errand"))
  d__law_errands_right : ∃ fd, FunD K "_law_errands_right" "_law_errands_right" (defArgs s__law_errands_right) (defBody s__law_errands_right) (defScope s__law_errands_right) [] [] (He.ga K "_law_errands_right") fd
  m__law_errands_right : mg "_law_errands_right" = some (.ref (He.ga K "_law_errands_right"))
  d_law : ∃ fd, FunD K "law" "law" (defArgs s_law) (defBody s_law) (defScope s_law) [] [] (He.ga K "law") fd
  m_law : mg "law" = some (.ref (He.ga K "law"))
  n_bool : mg "bool" = none
  n_int : mg "int" = none
  n_isinstance : mg "isinstance" = none
  n_len : mg "len" = none
  n_list : mg "list" = none
  n_min : mg "min" = none
  n_range : mg "range" = none
  n_repr : mg "repr" = none
  n_tuple : mg "tuple" = none
  c_MOST_ERRANDS : ∃ t, mg "MOST_ERRANDS" = some (.int 40 t)
  c_MOST_FLOORS : ∃ t, mg "MOST_FLOORS" = some (.int 16 t)
  c_MOST_ROUNDS : ∃ t, mg "MOST_ROUNDS" = some (.int 130 t)
  c_MOST_SEATS : ∃ t, mg "MOST_SEATS" = some (.int 6 t)
  c_MOST_TURNS : ∃ t, mg "MOST_TURNS" = some (.int 3 t)
def b__law_begin : SS := (retS (dispE [((conE (.str "cells")), (op2E addG (varE 0) (lstE (consA (escE (conE (.int 0))) nilA)))), ((conE (.str "at")), (conE (.int 0))), ((conE (.str "left")), (conE (.int 0))), ((conE (.str "used")), (conE (.int 0)))]))
def f__law_begin : SE := defE 1 1 b__law_begin
theorem g__law_begin {P : Program} {w : World} {K : PySem.W.Frag} {mg : Str → Option Value} {base : Heap} (T : Top K mg) : ∃ fd, FunD K "_law_begin" "_law_begin" (defArgs s__law_begin) (defBody s__law_begin) (defScope s__law_begin) [] [] (He.ga K "_law_begin") fd ∧ FnG P w K mg base 1 (He.ga K "_law_begin") fd ["script"] f__law_begin := by
  obtain ⟨fd, F⟩ := T.d__law_begin
  refine ⟨fd, F, fn_D (k := 0) F sc__law_begin rfl rfl fun cdv A outer s0 H E C hC hgd hr => ?_⟩
  subst hC
  unfold b__law_begin
  exact (db_one (ds_ret (de_disp (.cons de_str (dx_add rfl (de_var (i := 0) rfl (by first | exact .inl rfl | exact .inr (.inl rfl) | exact .inr (.inr rfl))) (de_lst (da_e de_int da_nil))) (.cons de_str de_int (.cons de_str de_int (.cons de_str de_int .nil)))) (by simp))))
def b__law_mixed : SS := (seqS (setS 2 (op2E modG (op2E addG (op2E addG (op2E addG (op2E modG (varE 0) (conE (.int 1000000007))) (op2E mulG (op2E mulG (conE (.int 7919)) (varE 1)) (varE 1))) (op2E mulG (conE (.int 31)) (varE 1))) (conE (.int 7))) (conE (.int 2147483647)))) (seqS (setS 2 (op2E modG (op2E mulG (op2E modG (op2E mulG (varE 2) (varE 2)) (conE (.int 2147483647))) (varE 2)) (conE (.int 2147483629)))) (retS (op2E fdivG (op2E modG (op2E mulG (varE 2) (op2E addG (conE (.int 69621)) (op2E mulG (conE (.int 2)) (op2E modG (varE 1) (conE (.int 1000)))))) (conE (.int 2147483647))) (conE (.int 7))))))
def f__law_mixed : SE := defE 2 3 b__law_mixed
theorem g__law_mixed {P : Program} {w : World} {K : PySem.W.Frag} {mg : Str → Option Value} {base : Heap} (T : Top K mg) : ∃ fd, FunD K "_law_mixed" "_law_mixed" (defArgs s__law_mixed) (defBody s__law_mixed) (defScope s__law_mixed) [] [] (He.ga K "_law_mixed") fd ∧ FnG P w K mg base 1 (He.ga K "_law_mixed") fd ["cell", "k"] f__law_mixed := by
  obtain ⟨fd, F⟩ := T.d__law_mixed
  refine ⟨fd, F, fn_D (k := 0) F sc__law_mixed rfl rfl fun cdv A outer s0 H E C hC hgd hr => ?_⟩
  subst hC
  unfold b__law_mixed
  exact (db_cons (ds_set (i := 2) sc__law_mixed.nd rfl (by first | exact .inl rfl | exact .inr rfl) (dx_mod (dx_add rfl (dx_add rfl (dx_add rfl (dx_mod (de_var (i := 0) rfl (by first | exact .inl rfl | exact .inr (.inl rfl) | exact .inr (.inr rfl))) de_int) (dx_mul rfl (dx_mul rfl de_int (de_var (i := 1) rfl (by first | exact .inl rfl | exact .inr (.inl rfl) | exact .inr (.inr rfl)))) (de_var (i := 1) rfl (by first | exact .inl rfl | exact .inr (.inl rfl) | exact .inr (.inr rfl))))) (dx_mul rfl de_int (de_var (i := 1) rfl (by first | exact .inl rfl | exact .inr (.inl rfl) | exact .inr (.inr rfl))))) de_int) de_int))
    (db_cons (ds_set (i := 2) sc__law_mixed.nd rfl (by first | exact .inl rfl | exact .inr rfl) (dx_mod (dx_mul rfl (dx_mod (dx_mul rfl (de_var (i := 2) rfl (by first | exact .inl rfl | exact .inr (.inl rfl) | exact .inr (.inr rfl))) (de_var (i := 2) rfl (by first | exact .inl rfl | exact .inr (.inl rfl) | exact .inr (.inr rfl)))) de_int) (de_var (i := 2) rfl (by first | exact .inl rfl | exact .inr (.inl rfl) | exact .inr (.inr rfl)))) de_int))
    (db_one (ds_ret (dx_fdiv (dx_mod (dx_mul rfl (de_var (i := 2) rfl (by first | exact .inl rfl | exact .inr (.inl rfl) | exact .inr (.inr rfl))) (dx_add rfl de_int (dx_mul rfl de_int (dx_mod (de_var (i := 1) rfl (by first | exact .inl rfl | exact .inr (.inl rfl) | exact .inr (.inr rfl))) de_int)))) de_int) de_int)))))
def b__law_next : SS := (seqS (ifS (toB (op2E gtG (op2E ixG (varE 0) (conE (.str "left"))) (conE (.int 0)))) (seqS (setS 2 (op2E modG (op2E ixG (varE 0) (conE (.str "left"))) (varE 1))) (seqS (setIS (op2E fdivG (op2E ixG (varE 0) (conE (.str "left"))) (varE 1)) (varE 0) (conE (.str "left"))) (retS (varE 2)))) skipS) (seqS (setS 3 (op2E ixG (varE 0) (conE (.str "cells")))) (seqS (setS 4 (op2E ixG (varE 3) (op2E modG (op2E ixG (varE 0) (conE (.str "at"))) (callBE lenG (consA (pkE (varE 3)) nilA))))) (seqS (setIS (op2E addG (op2E ixG (varE 0) (conE (.str "at"))) (conE (.int 1))) (varE 0) (conE (.str "at"))) (seqS (ifS (andB (toB (op2E geG (varE 4) (op2E powG (conE (.int 10)) (conE (.int 18))))) (toB (op2E leG (op2E ixG (varE 0) (conE (.str "at"))) (callBE lenG (consA (pkE (varE 3)) nilA))))) (seqS (setIS (op2E fdivG (varE 4) (varE 1)) (varE 0) (conE (.str "left"))) (retS (op2E modG (varE 4) (varE 1)))) skipS) (seqS (setIS (op2E addG (op2E ixG (varE 0) (conE (.str "used"))) (conE (.int 1))) (varE 0) (conE (.str "used"))) (retS (op2E modG (callE f__law_mixed 2 0 (pick [0, 1]) [] (consA (escE (callE f__law_mixed 2 0 (pick [0, 1]) [] (consA (escE (varE 4)) (consA (escE (op2E ixG (varE 0) (conE (.str "at")))) nilA)) nilA)) (consA (escE (op2E ixG (varE 0) (conE (.str "used")))) nilA)) nilA) (varE 1)))))))))
def f__law_next : SE := defE 2 5 b__law_next
theorem g__law_next {P : Program} {w : World} {K : PySem.W.Frag} {mg : Str → Option Value} {base : Heap} (T : Top K mg) : ∃ fd, FunD K "_law_next" "_law_next" (defArgs s__law_next) (defBody s__law_next) (defScope s__law_next) [] [] (He.ga K "_law_next") fd ∧ FnG P w K mg base 2 (He.ga K "_law_next") fd ["draw", "many"] f__law_next := by
  obtain ⟨fd, F⟩ := T.d__law_next
  obtain ⟨fd__law_mixed, F__law_mixed, G__law_mixed⟩ := g__law_mixed (P := P) (w := w) (base := base) T
  have kb0 : KB K fd__law_mixed ["cell", "k"] [] 2 (pick [0, 1]) [] [] := kb_all F__law_mixed (pick_ok _) fun kV doc pm an cdv ct us ws h1 h2 => match us, ws, h1, h2 with | [_, _], [], _, _ => rfl
  have kb1 : KB K fd__law_mixed ["cell", "k"] [] 2 (pick [0, 1]) [] [] := kb_all F__law_mixed (pick_ok _) fun kV doc pm an cdv ct us ws h1 h2 => match us, ws, h1, h2 with | [_, _], [], _, _ => rfl
  refine ⟨fd, F, fn_D (k := 1) F sc__law_next rfl rfl fun cdv A outer s0 H E C hC hgd hr => ?_⟩
  subst hC
  unfold b__law_next
  exact (db_cons (ds_if (dy_gt (de_ixG rfl hr (de_var (i := 0) rfl (by first | exact .inl rfl | exact .inr (.inl rfl) | exact .inr (.inr rfl))) de_str (by intro _ _; rfl)) de_int)
    (db_cons (ds_set (i := 2) sc__law_next.nd rfl (by first | exact .inl rfl | exact .inr rfl) (dx_mod (de_ixG rfl hr (de_var (i := 0) rfl (by first | exact .inl rfl | exact .inr (.inl rfl) | exact .inr (.inr rfl))) de_str (by intro _ _; rfl)) (de_var (i := 1) rfl (by first | exact .inl rfl | exact .inr (.inl rfl) | exact .inr (.inr rfl)))))
    (db_cons (ds_setI hr (dx_fdiv (de_ixG rfl hr (de_var (i := 0) rfl (by first | exact .inl rfl | exact .inr (.inl rfl) | exact .inr (.inr rfl))) de_str (by intro _ _; rfl)) (de_var (i := 1) rfl (by first | exact .inl rfl | exact .inr (.inl rfl) | exact .inr (.inr rfl)))) (de_var (i := 0) rfl (by first | exact .inl rfl | exact .inr (.inl rfl) | exact .inr (.inr rfl))) de_str)
    (db_one (ds_ret (de_var (i := 2) rfl (by first | exact .inl rfl | exact .inr (.inl rfl) | exact .inr (.inr rfl)))))))
    db_nil)
    (db_cons (ds_set (i := 3) sc__law_next.nd rfl (by first | exact .inl rfl | exact .inr rfl) (de_ixG rfl hr (de_var (i := 0) rfl (by first | exact .inl rfl | exact .inr (.inl rfl) | exact .inr (.inr rfl))) de_str (by intro _ _; rfl)))
    (db_cons (ds_set (i := 4) sc__law_next.nd rfl (by first | exact .inl rfl | exact .inr rfl) (de_ixG rfl hr (de_var (i := 3) rfl (by first | exact .inl rfl | exact .inr (.inl rfl) | exact .inr (.inr rfl))) (dx_mod (de_ixG rfl hr (de_var (i := 0) rfl (by first | exact .inl rfl | exact .inr (.inl rfl) | exact .inr (.inr rfl))) de_str (by intro _ _; rfl)) (dx_len rfl rfl T.n_len (da_p (de_var (i := 3) rfl (by first | exact .inl rfl | exact .inr (.inl rfl) | exact .inr (.inr rfl))) da_nil))) (by intro _ _; rfl)))
    (db_cons (ds_setI hr (dx_add rfl (de_ixG rfl hr (de_var (i := 0) rfl (by first | exact .inl rfl | exact .inr (.inl rfl) | exact .inr (.inr rfl))) de_str (by intro _ _; rfl)) de_int) (de_var (i := 0) rfl (by first | exact .inl rfl | exact .inr (.inl rfl) | exact .inr (.inr rfl))) de_str)
    (db_cons (ds_if (DW.dt (dw_and (dy_ge (de_var (i := 4) rfl (by first | exact .inl rfl | exact .inr (.inl rfl) | exact .inr (.inr rfl))) (dx_pow de_int de_int)) (dw_and1 (dy_le (de_ixG rfl hr (de_var (i := 0) rfl (by first | exact .inl rfl | exact .inr (.inl rfl) | exact .inr (.inr rfl))) de_str (by intro _ _; rfl)) (dx_len rfl rfl T.n_len (da_p (de_var (i := 3) rfl (by first | exact .inl rfl | exact .inr (.inl rfl) | exact .inr (.inr rfl))) da_nil))))))
    (db_cons (ds_setI hr (dx_fdiv (de_var (i := 4) rfl (by first | exact .inl rfl | exact .inr (.inl rfl) | exact .inr (.inr rfl))) (de_var (i := 1) rfl (by first | exact .inl rfl | exact .inr (.inl rfl) | exact .inr (.inr rfl)))) (de_var (i := 0) rfl (by first | exact .inl rfl | exact .inr (.inl rfl) | exact .inr (.inr rfl))) de_str)
    (db_one (ds_ret (dx_mod (de_var (i := 4) rfl (by first | exact .inl rfl | exact .inr (.inl rfl) | exact .inr (.inr rfl))) (de_var (i := 1) rfl (by first | exact .inl rfl | exact .inr (.inl rfl) | exact .inr (.inr rfl)))))))
    db_nil)
    (db_cons (ds_setI hr (dx_add rfl (de_ixG rfl hr (de_var (i := 0) rfl (by first | exact .inl rfl | exact .inr (.inl rfl) | exact .inr (.inr rfl))) de_str (by intro _ _; rfl)) de_int) (de_var (i := 0) rfl (by first | exact .inl rfl | exact .inr (.inl rfl) | exact .inr (.inr rfl))) de_str)
    (db_one (ds_ret (dx_mod (de_call rfl (G__law_mixed.mono (by decide)) hgd hr (takes_of rfl rfl rfl rfl) rfl T.m__law_mixed F__law_mixed.kp kb0 (da_e (de_call rfl (G__law_mixed.mono (by decide)) hgd hr (takes_of rfl rfl rfl rfl) rfl T.m__law_mixed F__law_mixed.kp kb1 (da_e (de_var (i := 4) rfl (by first | exact .inl rfl | exact .inr (.inl rfl) | exact .inr (.inr rfl))) (da_e (de_ixG rfl hr (de_var (i := 0) rfl (by first | exact .inl rfl | exact .inr (.inl rfl) | exact .inr (.inr rfl))) de_str (by intro _ _; rfl)) da_nil))) (da_e (de_ixG rfl hr (de_var (i := 0) rfl (by first | exact .inl rfl | exact .inr (.inl rfl) | exact .inr (.inr rfl))) de_str (by intro _ _; rfl)) da_nil))) (de_var (i := 1) rfl (by first | exact .inl rfl | exact .inr (.inl rfl) | exact .inr (.inr rfl))))))))))))
def b__law_odd : SS := (seqS (setS 1 (lstE (consA (escE (conE .none)) (consA (escE (conE (.bool true))) (consA (escE (conE (.bool false))) (consA (escE (conE (.str "1"))) (consA (escE (conE (.str ""))) (consA (escE (lstE (consA (escE (conE (.int 1))) nilA))) (consA (escE (tupE (consA (escE (conE (.int 1))) nilA))) (consA (escE (tupE nilA)) (consA (escE (pureE (.nM []))) (consA (escE (dispE [((conE (.int 1)), (conE (.int 2)))])) (consA (escE (conE (.str "one"))) (consA (escE (tupE (consA (escE (conE .none)) (consA (escE (conE (.int 1))) nilA)))) (consA (escE (lstE (consA (escE (conE (.int 1))) (consA (escE (conE (.int 2))) nilA)))) nilA))))))))))))))) (retS (op2E ixG (varE 1) (callE f__law_next 2 0 (pick [0, 1]) [] (consA (pkE (varE 0)) (consA (escE (conE (.int 13))) nilA)) nilA))))
def f__law_odd : SE := defE 1 2 b__law_odd
theorem g__law_odd {P : Program} {w : World} {K : PySem.W.Frag} {mg : Str → Option Value} {base : Heap} (T : Top K mg) : ∃ fd, FunD K "_law_odd" "_law_odd" (defArgs s__law_odd) (defBody s__law_odd) (defScope s__law_odd) [] [] (He.ga K "_law_odd") fd ∧ FnG P w K mg base 3 (He.ga K "_law_odd") fd ["draw"] f__law_odd := by
  obtain ⟨fd, F⟩ := T.d__law_odd
  obtain ⟨fd__law_next, F__law_next, G__law_next⟩ := g__law_next (P := P) (w := w) (base := base) T
  have kb0 : KB K fd__law_next ["draw", "many"] [] 2 (pick [0, 1]) [] [] := kb_all F__law_next (pick_ok _) fun kV doc pm an cdv ct us ws h1 h2 => match us, ws, h1, h2 with | [_, _], [], _, _ => rfl
  refine ⟨fd, F, fn_D (k := 2) F sc__law_odd rfl rfl fun cdv A outer s0 H E C hC hgd hr => ?_⟩
  subst hC
  unfold b__law_odd
  exact (db_cons (ds_set (i := 1) sc__law_odd.nd rfl (by first | exact .inl rfl | exact .inr rfl) (de_lst (da_e de_non (da_e de_bl (da_e de_bl (da_e de_str (da_e de_str (da_e (de_lst (da_e de_int da_nil)) (da_e (de_tup (da_e de_int da_nil)) (da_e (de_tup da_nil) (da_e de_disp0 (da_e (de_disp (.cons de_int de_int .nil) (by simp)) (da_e de_str (da_e (de_tup (da_e de_non (da_e de_int da_nil))) (da_e (de_lst (da_e de_int (da_e de_int da_nil))) da_nil)))))))))))))))
    (db_one (ds_ret (de_ixG rfl hr (de_var (i := 1) rfl (by first | exact .inl rfl | exact .inr (.inl rfl) | exact .inr (.inr rfl))) (de_call rfl (G__law_next.mono (by decide)) hgd hr (takes_of rfl rfl rfl rfl) rfl T.m__law_next F__law_next.kp kb0 (da_p (de_var (i := 0) rfl (by first | exact .inl rfl | exact .inr (.inl rfl) | exact .inr (.inr rfl))) (da_e de_int da_nil))) (by intro _ _; rfl)))))
def b_is_number : SS := (retS (andV (isiE "int" (varE 0)) (notV (isiE "bool" (varE 0)))))
def f_is_number : SE := defE 1 1 b_is_number
theorem g_is_number {P : Program} {w : World} {K : PySem.W.Frag} {mg : Str → Option Value} {base : Heap} (T : Top K mg) : ∃ fd, FunD K "is_number" "is_number" (defArgs s_is_number) (defBody s_is_number) (defScope s_is_number) [] [] (He.ga K "is_number") fd ∧ FnG P w K mg base 1 (He.ga K "is_number") fd ["thing"] f_is_number := by
  obtain ⟨fd, F⟩ := T.d_is_number
  refine ⟨fd, F, fn_D (k := 0) F sc_is_number rfl rfl fun cdv A outer s0 H E C hC hgd hr => ?_⟩
  subst hC
  unfold b_is_number
  exact (db_one (ds_ret (de_and (de_isi rfl rfl T.n_isinstance rfl T.n_int b_int (de_var (i := 0) rfl (by first | exact .inl rfl | exact .inr (.inl rfl) | exact .inr (.inr rfl)))) (de_one (de_not (de_isi rfl rfl T.n_isinstance rfl T.n_bool b_bool (de_var (i := 0) rfl (by first | exact .inl rfl | exact .inr (.inl rfl) | exact .inr (.inr rfl)))))))))
def b_is_whole : SS := (retS (andV (callE f_is_number 1 0 (pick [0]) [] (consA (escE (varE 0)) nilA) nilA) (andV (op2E geG (varE 0) (varE 1)) (orV (op2E isG (varE 2) (conE .none)) (op2E leG (varE 0) (varE 2))))))
def f_is_whole : SE := defE 3 3 b_is_whole
theorem g_is_whole {P : Program} {w : World} {K : PySem.W.Frag} {mg : Str → Option Value} {base : Heap} (T : Top K mg) : ∃ fd, FunD K "is_whole" "is_whole" (defArgs s_is_whole) (defBody s_is_whole) (defScope s_is_whole) [] [("least", .int 0), ("most", .non)] (He.ga K "is_whole") fd ∧ FnG P w K mg base 2 (He.ga K "is_whole") fd ["thing", "least", "most"] f_is_whole := by
  obtain ⟨fd, F⟩ := T.d_is_whole
  obtain ⟨fd_is_number, F_is_number, G_is_number⟩ := g_is_number (P := P) (w := w) (base := base) T
  have kb0 : KB K fd_is_number ["thing"] [] 1 (pick [0]) [] [] := kb_all F_is_number (pick_ok _) fun kV doc pm an cdv ct us ws h1 h2 => match us, ws, h1, h2 with | [_], [], _, _ => rfl
  refine ⟨fd, F, fn_D (k := 1) F sc_is_whole rfl rfl fun cdv A outer s0 H E C hC hgd hr => ?_⟩
  subst hC
  unfold b_is_whole
  exact (db_one (ds_ret (de_and (de_call rfl (G_is_number.mono (by decide)) hgd hr (takes_of rfl rfl rfl rfl) rfl T.m_is_number F_is_number.kp kb0 (da_e (de_var (i := 0) rfl (by first | exact .inl rfl | exact .inr (.inl rfl) | exact .inr (.inr rfl))) da_nil)) (de_and (dx_ge (de_var (i := 0) rfl (by first | exact .inl rfl | exact .inr (.inl rfl) | exact .inr (.inr rfl))) (de_var (i := 1) rfl (by first | exact .inl rfl | exact .inr (.inl rfl) | exact .inr (.inr rfl)))) (de_one (de_or (dx_is (de_var (i := 2) rfl (by first | exact .inl rfl | exact .inr (.inl rfl) | exact .inr (.inr rfl))) de_non) (de_one (dx_le (de_var (i := 0) rfl (by first | exact .inl rfl | exact .inr (.inl rfl) | exact .inr (.inr rfl))) (de_var (i := 2) rfl (by first | exact .inl rfl | exact .inr (.inl rfl) | exact .inr (.inr rfl)))))))))))
def b__law_bounds_right_l1 : SS := (setS 3 (op2E mulG (varE 3) (op2E powG (conE (.int 10)) (conE (.int 11)))))
def b__law_bounds_right_l2 : SS := (seqS (setS 6 (lstE (consA (escE (callE f_is_whole 1 0 (pick [0, 1, 2]) [.int 0, .none] (consA (escE (varE 5)) nilA) nilA)) (consA (escE (callE f_is_whole 0 2 (pick [0, 1, 2]) [.none] nilA (consA (escE (varE 5)) (consA (escE (varE 1)) nilA)))) (consA (escE (callE f_is_whole 1 1 (pick [0, 2, 1]) [.int 0] (consA (escE (varE 5)) nilA) (consA (escE (varE 2)) nilA))) nilA))))) (seqS (setS 7 (lstE (consA (escE (op2E geG (varE 5) (conE (.int 0)))) (consA (escE (op2E geG (varE 5) (varE 1))) (consA (escE (chainE leG leG (conE (.int 0)) (varE 5) (varE 2))) nilA))))) (seqS (exprS (metE appG (varE 6) (consA (escE (callE f_is_whole 0 3 (pick [2, 1, 0]) [] nilA (consA (escE (varE 2)) (consA (escE (varE 1)) (consA (escE (varE 5)) nilA))))) nilA))) (ifS (orB (toB (op2E neG (varE 6) (op2E addG (varE 7) (lstE (consA (escE (chainE leG leG (varE 1) (varE 5) (varE 2))) nilA))))) (toB (op2E neG (lcE [9] (datS (varE 6)) (nameT 9) (notB (toB (isiE "bool" (varE 9)))) (varE 9)) (lstE nilA)))) (retS (conE (.bool false))) skipS))))
def b__law_bounds_right : SS := (seqS (parS2 1 2 (op2E subG (callE f__law_next 2 0 (pick [0, 1]) [] (consA (pkE (varE 0)) (consA (escE (conE (.int 41))) nilA)) nilA) (conE (.int 20))) (op2E subG (callE f__law_next 2 0 (pick [0, 1]) [] (consA (pkE (varE 0)) (consA (escE (conE (.int 41))) nilA)) nilA) (conE (.int 20)))) (seqS (setS 3 (conE (.int 1))) (seqS (forS (rng1S (consA (pkE (conE (.int 90))) nilA)) (nameT 4) b__law_bounds_right_l1) (seqS (forS (datS (lstE (consA (escE (op2E subG (varE 1) (conE (.int 1)))) (consA (escE (varE 1)) (consA (escE (op2E addG (varE 1) (conE (.int 1)))) (consA (escE (op2E subG (varE 2) (conE (.int 1)))) (consA (escE (varE 2)) (consA (escE (op2E addG (varE 2) (conE (.int 1)))) (consA (escE (conE (.int 0))) (consA (escE (conE (.int 1))) (consA (escE (op2E subG (conE (.int 0)) (conE (.int 1)))) (consA (escE (varE 3)) (consA (escE (op2E subG (conE (.int 0)) (varE 3))) nilA))))))))))))) (nameT 5) b__law_bounds_right_l2) (seqS (setS 8 (callE f__law_odd 1 0 (pick [0]) [] (consA (pkE (varE 0)) nilA) nilA)) (retS (op2E eqG (lstE (consA (escE (callE f_is_whole 1 0 (pick [0, 1, 2]) [.int 0, .none] (consA (escE (varE 8)) nilA) nilA)) (consA (escE (callE f_is_whole 1 2 (pick [0, 1, 2]) [] (consA (escE (varE 8)) nilA) (consA (escE (varE 1)) (consA (escE (varE 2)) nilA)))) (consA (escE (callE f_is_whole 1 1 (pick [0, 2, 1]) [.int 0] (consA (escE (varE 8)) nilA) (consA (escE (conE (.int 9))) nilA))) nilA)))) (mulNE (lstE (consA (escE (conE (.bool false))) nilA)) (conE (.int 3))))))))))
def f__law_bounds_right : SE := defE 1 10 b__law_bounds_right
theorem g__law_bounds_right {P : Program} {w : World} {K : PySem.W.Frag} {mg : Str → Option Value} {base : Heap} (T : Top K mg) : ∃ fd, FunD K "_law_bounds_right" "_law_bounds_right" (defArgs s__law_bounds_right) (defBody s__law_bounds_right) (defScope s__law_bounds_right) [] [] (He.ga K "_law_bounds_right") fd ∧ FnG P w K mg base 4 (He.ga K "_law_bounds_right") fd ["draw"] f__law_bounds_right := by
  obtain ⟨fd, F⟩ := T.d__law_bounds_right
  obtain ⟨fd__law_next, F__law_next, G__law_next⟩ := g__law_next (P := P) (w := w) (base := base) T
  obtain ⟨fd_is_whole, F_is_whole, G_is_whole⟩ := g_is_whole (P := P) (w := w) (base := base) T
  obtain ⟨fd__law_odd, F__law_odd, G__law_odd⟩ := g__law_odd (P := P) (w := w) (base := base) T
  have kb0 : KB K fd__law_next ["draw", "many"] [] 2 (pick [0, 1]) [] [] := kb_all F__law_next (pick_ok _) fun kV doc pm an cdv ct us ws h1 h2 => match us, ws, h1, h2 with | [_, _], [], _, _ => rfl
  have kb1 : KB K fd__law_next ["draw", "many"] [] 2 (pick [0, 1]) [] [] := kb_all F__law_next (pick_ok _) fun kV doc pm an cdv ct us ws h1 h2 => match us, ws, h1, h2 with | [_, _], [], _, _ => rfl
  have kb2 : KB K fd_is_whole ["thing", "least", "most"] ["most"] 1 (pick [0, 2, 1]) (([("least", .int 0)] : List (Str × V)).map (·.2)) [.int 0] := kb_kw F_is_whole (pick_ok _) (by simp) (by simp) (fun C F H σ Hs => .cons (show Dat _ _ _ _ from .int _) rfl (.nil)) fun D doc pm an cdv ct us mv ws h1 h2 h3 => match us, mv, ws, h1, h2, h3 with | [_], [_], [_], _, _, _ => ⟨_, _, _, _, _, _, rfl, rfl, rfl⟩
  have kb3 : KB K fd_is_whole ["thing", "least", "most"] ["thing", "least"] 0 (pick [0, 1, 2]) (([("most", .non)] : List (Str × V)).map (·.2)) [.none] := kb_kw F_is_whole (pick_ok _) (by simp) (by simp) (fun C F H σ Hs => .cons (show Dat _ _ _ _ from .non) rfl (.nil)) fun D doc pm an cdv ct us mv ws h1 h2 h3 => match us, mv, ws, h1, h2, h3 with | [], [_], [_, _], _, _, _ => ⟨_, _, _, _, _, _, rfl, rfl, rfl⟩
  have kb4 : KB K fd_is_whole ["thing", "least", "most"] [] 1 (pick [0, 1, 2]) (([("least", .int 0), ("most", .non)] : List (Str × V)).map (·.2)) [.int 0, .none] := kb_kw F_is_whole (pick_ok _) (by simp) (by simp) (fun C F H σ Hs => .cons (show Dat _ _ _ _ from .int _) rfl (.cons (show Dat _ _ _ _ from .non) rfl (.nil))) fun D doc pm an cdv ct us mv ws h1 h2 h3 => match us, mv, ws, h1, h2, h3 with | [_], [_, _], [], _, _, _ => ⟨_, _, _, _, _, _, rfl, rfl, ⟨_, _, _, _, _, _, rfl, rfl, rfl⟩⟩
  have kb5 : KB K fd_is_whole ["thing", "least", "most"] ["most", "least", "thing"] 0 (pick [2, 1, 0]) [] [] := kb_all F_is_whole (pick_ok _) fun kV doc pm an cdv ct us ws h1 h2 => match us, ws, h1, h2 with | [], [_, _, _], _, _ => rfl
  have kb6 : KB K fd__law_odd ["draw"] [] 1 (pick [0]) [] [] := kb_all F__law_odd (pick_ok _) fun kV doc pm an cdv ct us ws h1 h2 => match us, ws, h1, h2 with | [_], [], _, _ => rfl
  have kb7 : KB K fd_is_whole ["thing", "least", "most"] ["most"] 1 (pick [0, 2, 1]) (([("least", .int 0)] : List (Str × V)).map (·.2)) [.int 0] := kb_kw F_is_whole (pick_ok _) (by simp) (by simp) (fun C F H σ Hs => .cons (show Dat _ _ _ _ from .int _) rfl (.nil)) fun D doc pm an cdv ct us mv ws h1 h2 h3 => match us, mv, ws, h1, h2, h3 with | [_], [_], [_], _, _, _ => ⟨_, _, _, _, _, _, rfl, rfl, rfl⟩
  have kb8 : KB K fd_is_whole ["thing", "least", "most"] ["least", "most"] 1 (pick [0, 1, 2]) [] [] := kb_all F_is_whole (pick_ok _) fun kV doc pm an cdv ct us ws h1 h2 => match us, ws, h1, h2 with | [_], [_, _], _, _ => rfl
  have kb9 : KB K fd_is_whole ["thing", "least", "most"] [] 1 (pick [0, 1, 2]) (([("least", .int 0), ("most", .non)] : List (Str × V)).map (·.2)) [.int 0, .none] := kb_kw F_is_whole (pick_ok _) (by simp) (by simp) (fun C F H σ Hs => .cons (show Dat _ _ _ _ from .int _) rfl (.cons (show Dat _ _ _ _ from .non) rfl (.nil))) fun D doc pm an cdv ct us mv ws h1 h2 h3 => match us, mv, ws, h1, h2, h3 with | [_], [_, _], [], _, _, _ => ⟨_, _, _, _, _, _, rfl, rfl, ⟨_, _, _, _, _, _, rfl, rfl, rfl⟩⟩
  refine ⟨fd, F, fn_D (k := 3) F sc__law_bounds_right rfl rfl fun cdv A outer s0 H E C hC hgd hr => ?_⟩
  subst hC
  unfold b__law_bounds_right
  exact (db_cons (ds_par2 (i := 1) (j := 2) rfl sc__law_bounds_right.nd rfl rfl (by decide) rfl rfl (dx_sub (de_call rfl (G__law_next.mono (by decide)) hgd hr (takes_of rfl rfl rfl rfl) rfl T.m__law_next F__law_next.kp kb0 (da_p (de_var (i := 0) rfl (by first | exact .inl rfl | exact .inr (.inl rfl) | exact .inr (.inr rfl))) (da_e de_int da_nil))) de_int) (dx_sub (de_call rfl (G__law_next.mono (by decide)) hgd hr (takes_of rfl rfl rfl rfl) rfl T.m__law_next F__law_next.kp kb1 (da_p (de_var (i := 0) rfl (by first | exact .inl rfl | exact .inr (.inl rfl) | exact .inr (.inr rfl))) (da_e de_int da_nil))) de_int))
    (db_cons (ds_set (i := 3) sc__law_bounds_right.nd rfl (by first | exact .inl rfl | exact .inr rfl) de_int)
    (db_cons (ds_for (passes_of rfl) rfl (di_range1 rfl T.n_range (da_p de_int da_nil)) (dg_name (i := 4) sc__law_bounds_right.nd rfl (by first | exact .inl rfl | exact .inr rfl))
    (db_one (ds_set (i := 3) sc__law_bounds_right.nd rfl (by first | exact .inl rfl | exact .inr rfl) (dx_mul rfl (de_var (i := 3) rfl (by first | exact .inl rfl | exact .inr (.inl rfl) | exact .inr (.inr rfl))) (dx_pow de_int de_int)))))
    (db_cons (ds_for (passes_of rfl) rfl (di_dat rfl (de_lst (da_e (dx_sub (de_var (i := 1) rfl (by first | exact .inl rfl | exact .inr (.inl rfl) | exact .inr (.inr rfl))) de_int) (da_e (de_var (i := 1) rfl (by first | exact .inl rfl | exact .inr (.inl rfl) | exact .inr (.inr rfl))) (da_e (dx_add rfl (de_var (i := 1) rfl (by first | exact .inl rfl | exact .inr (.inl rfl) | exact .inr (.inr rfl))) de_int) (da_e (dx_sub (de_var (i := 2) rfl (by first | exact .inl rfl | exact .inr (.inl rfl) | exact .inr (.inr rfl))) de_int) (da_e (de_var (i := 2) rfl (by first | exact .inl rfl | exact .inr (.inl rfl) | exact .inr (.inr rfl))) (da_e (dx_add rfl (de_var (i := 2) rfl (by first | exact .inl rfl | exact .inr (.inl rfl) | exact .inr (.inr rfl))) de_int) (da_e de_int (da_e de_int (da_e (dx_sub de_int de_int) (da_e (de_var (i := 3) rfl (by first | exact .inl rfl | exact .inr (.inl rfl) | exact .inr (.inr rfl))) (da_e (dx_sub de_int (de_var (i := 3) rfl (by first | exact .inl rfl | exact .inr (.inl rfl) | exact .inr (.inr rfl)))) da_nil))))))))))))) (dg_name (i := 5) sc__law_bounds_right.nd rfl (by first | exact .inl rfl | exact .inr rfl))
    (db_cons (ds_set (i := 6) sc__law_bounds_right.nd rfl (by first | exact .inl rfl | exact .inr rfl) (de_lst (da_e (de_call rfl (G_is_whole.mono (by decide)) hgd hr (takes_of rfl rfl rfl rfl) rfl T.m_is_whole F_is_whole.kp kb4 (da_e (de_var (i := 5) rfl (by first | exact .inl rfl | exact .inr (.inl rfl) | exact .inr (.inr rfl))) da_nil)) (da_e (de_callK0 rfl (G_is_whole.mono (by decide)) hgd hr (takes_of rfl rfl rfl rfl) rfl T.m_is_whole F_is_whole.kp kb3 (dk_e (de_var (i := 5) rfl (by first | exact .inl rfl | exact .inr (.inl rfl) | exact .inr (.inr rfl))) (dk_e (de_var (i := 1) rfl (by first | exact .inl rfl | exact .inr (.inl rfl) | exact .inr (.inr rfl))) dk_nil))) (da_e (de_callK rfl (G_is_whole.mono (by decide)) hgd hr (takes_of rfl rfl rfl rfl) rfl T.m_is_whole F_is_whole.kp kb2 (da_e (de_var (i := 5) rfl (by first | exact .inl rfl | exact .inr (.inl rfl) | exact .inr (.inr rfl))) da_nil) (dk_e (de_var (i := 2) rfl (by first | exact .inl rfl | exact .inr (.inl rfl) | exact .inr (.inr rfl))) dk_nil)) da_nil)))))
    (db_cons (ds_set (i := 7) sc__law_bounds_right.nd rfl (by first | exact .inl rfl | exact .inr rfl) (de_lst (da_e (dx_ge (de_var (i := 5) rfl (by first | exact .inl rfl | exact .inr (.inl rfl) | exact .inr (.inr rfl))) de_int) (da_e (dx_ge (de_var (i := 5) rfl (by first | exact .inl rfl | exact .inr (.inl rfl) | exact .inr (.inr rfl))) (de_var (i := 1) rfl (by first | exact .inl rfl | exact .inr (.inl rfl) | exact .inr (.inr rfl)))) (da_e (de_chain op_le op_le opb_i od_le de_int (de_var (i := 5) rfl (by first | exact .inl rfl | exact .inr (.inl rfl) | exact .inr (.inr rfl))) (de_var (i := 2) rfl (by first | exact .inl rfl | exact .inr (.inl rfl) | exact .inr (.inr rfl)))) da_nil)))))
    (db_cons (ds_expr (de_met rfl PySem.F.slot_list_append PySem.F.type_list_append mt_append md_append (de_var (i := 6) rfl (by first | exact .inl rfl | exact .inr (.inl rfl) | exact .inr (.inr rfl))) (da_e (de_callK0 rfl (G_is_whole.mono (by decide)) hgd hr (takes_of rfl rfl rfl rfl) rfl T.m_is_whole F_is_whole.kp kb5 (dk_e (de_var (i := 2) rfl (by first | exact .inl rfl | exact .inr (.inl rfl) | exact .inr (.inr rfl))) (dk_e (de_var (i := 1) rfl (by first | exact .inl rfl | exact .inr (.inl rfl) | exact .inr (.inr rfl))) (dk_e (de_var (i := 5) rfl (by first | exact .inl rfl | exact .inr (.inl rfl) | exact .inr (.inr rfl))) dk_nil)))) da_nil)))
    (db_one (ds_if (DW.dt (dw_or (dy_ne rfl hr (de_var (i := 6) rfl (by first | exact .inl rfl | exact .inr (.inl rfl) | exact .inr (.inr rfl))) (dx_add rfl (de_var (i := 7) rfl (by first | exact .inl rfl | exact .inr (.inl rfl) | exact .inr (.inr rfl))) (de_lst (da_e (de_chain op_le op_le opb_i od_le (de_var (i := 1) rfl (by first | exact .inl rfl | exact .inr (.inl rfl) | exact .inr (.inr rfl))) (de_var (i := 5) rfl (by first | exact .inl rfl | exact .inr (.inl rfl) | exact .inr (.inr rfl))) (de_var (i := 2) rfl (by first | exact .inl rfl | exact .inr (.inl rfl) | exact .inr (.inr rfl)))) da_nil)))) (dw_or1 (dy_ne rfl hr (de_lc (own := [("one", 9)]) rfl sc__law_bounds_right.nd (di_dat rfl (de_var (i := 6) rfl (by first | exact .inl rfl | exact .inr (.inl rfl) | exact .inr (.inr rfl)))) (blk_of rfl)
      (fun s H c cl fp => (dgw_name (i := 9) (by decide) sc__law_bounds_right.nd rfl (by first | exact .inl rfl | exact .inr rfl))) (fun s H c cl fp => (dts_one (dt_not (dt_val (de_isi rfl rfl T.n_isinstance rfl T.n_bool b_bool (de_var (i := 9) rfl (by first | exact .inl rfl | exact .inr (.inl rfl) | exact .inr (.inr rfl)))))))) (fun s H c cl fp => (de_var (i := 9) rfl (by first | exact .inl rfl | exact .inr (.inl rfl) | exact .inr (.inr rfl))))) (de_lst da_nil)))))
    (db_one (ds_ret de_bl))
    db_nil))))))
    (db_cons (ds_set (i := 8) sc__law_bounds_right.nd rfl (by first | exact .inl rfl | exact .inr rfl) (de_call rfl (G__law_odd.mono (by decide)) hgd hr (takes_of rfl rfl rfl rfl) rfl T.m__law_odd F__law_odd.kp kb6 (da_p (de_var (i := 0) rfl (by first | exact .inl rfl | exact .inr (.inl rfl) | exact .inr (.inr rfl))) da_nil)))
    (db_one (ds_ret (dx_eq rfl hr (de_lst (da_e (de_call rfl (G_is_whole.mono (by decide)) hgd hr (takes_of rfl rfl rfl rfl) rfl T.m_is_whole F_is_whole.kp kb9 (da_e (de_var (i := 8) rfl (by first | exact .inl rfl | exact .inr (.inl rfl) | exact .inr (.inr rfl))) da_nil)) (da_e (de_callK rfl (G_is_whole.mono (by decide)) hgd hr (takes_of rfl rfl rfl rfl) rfl T.m_is_whole F_is_whole.kp kb8 (da_e (de_var (i := 8) rfl (by first | exact .inl rfl | exact .inr (.inl rfl) | exact .inr (.inr rfl))) da_nil) (dk_e (de_var (i := 1) rfl (by first | exact .inl rfl | exact .inr (.inl rfl) | exact .inr (.inr rfl))) (dk_e (de_var (i := 2) rfl (by first | exact .inl rfl | exact .inr (.inl rfl) | exact .inr (.inr rfl))) dk_nil))) (da_e (de_callK rfl (G_is_whole.mono (by decide)) hgd hr (takes_of rfl rfl rfl rfl) rfl T.m_is_whole F_is_whole.kp kb7 (da_e (de_var (i := 8) rfl (by first | exact .inl rfl | exact .inr (.inl rfl) | exact .inr (.inr rfl))) da_nil) (dk_e de_int dk_nil)) da_nil)))) (de_mulN (de_lst (da_e de_bl da_nil)) de_int)))))))))
def b_is_errand : SS := (seqS (ifS (orB (notB (toB (isiE "tuple" (varE 0)))) (toB (op2E neG (callBE lenG (consA (pkE (varE 0)) nilA)) (conE (.int 2))))) (retS (conE (.bool false))) skipS) (seqS (unpS (tupT 2 (consT (nameT 2) (consT (nameT 3) nilT))) (varE 0)) (retS (andV (callE f_is_whole 1 1 (pick [0, 2, 1]) [.int 0] (consA (escE (varE 2)) nilA) (consA (escE (op2E subG (varE 1) (conE (.int 1)))) nilA)) (callE f_is_whole 1 2 (pick [0, 1, 2]) [] (consA (escE (varE 3)) nilA) (consA (escE (conE (.int 1))) (consA (escE (op2E mulG (conE (.int 3)) (varE 1))) nilA)))))))
def f_is_errand : SE := defE 2 4 b_is_errand
theorem g_is_errand {P : Program} {w : World} {K : PySem.W.Frag} {mg : Str → Option Value} {base : Heap} (T : Top K mg) : ∃ fd, FunD K "is_errand" "is_errand" (defArgs s_is_errand) (defBody s_is_errand) (defScope s_is_errand) [] [] (He.ga K "is_errand") fd ∧ FnG P w K mg base 3 (He.ga K "is_errand") fd ["thing", "floors"] f_is_errand := by
  obtain ⟨fd, F⟩ := T.d_is_errand
  obtain ⟨fd_is_whole, F_is_whole, G_is_whole⟩ := g_is_whole (P := P) (w := w) (base := base) T
  obtain ⟨t_MOST_TURNS, c_MOST_TURNS⟩ := T.c_MOST_TURNS
  have kb0 : KB K fd_is_whole ["thing", "least", "most"] ["most"] 1 (pick [0, 2, 1]) (([("least", .int 0)] : List (Str × V)).map (·.2)) [.int 0] := kb_kw F_is_whole (pick_ok _) (by simp) (by simp) (fun C F H σ Hs => .cons (show Dat _ _ _ _ from .int _) rfl (.nil)) fun D doc pm an cdv ct us mv ws h1 h2 h3 => match us, mv, ws, h1, h2, h3 with | [_], [_], [_], _, _, _ => ⟨_, _, _, _, _, _, rfl, rfl, rfl⟩
  have kb1 : KB K fd_is_whole ["thing", "least", "most"] ["least", "most"] 1 (pick [0, 1, 2]) [] [] := kb_all F_is_whole (pick_ok _) fun kV doc pm an cdv ct us ws h1 h2 => match us, ws, h1, h2 with | [_], [_, _], _, _ => rfl
  refine ⟨fd, F, fn_D (k := 2) F sc_is_errand rfl rfl fun cdv A outer s0 H E C hC hgd hr => ?_⟩
  subst hC
  unfold b_is_errand
  exact (db_cons (ds_if (DW.dt (dw_or (dt_not (dt_val (de_isi rfl rfl T.n_isinstance rfl T.n_tuple b_tuple (de_var (i := 0) rfl (by first | exact .inl rfl | exact .inr (.inl rfl) | exact .inr (.inr rfl)))))) (dw_or1 (dy_ne rfl hr (dx_len rfl rfl T.n_len (da_p (de_var (i := 0) rfl (by first | exact .inl rfl | exact .inr (.inl rfl) | exact .inr (.inr rfl))) da_nil)) de_int))))
    (db_one (ds_ret de_bl))
    db_nil)
    (db_cons (ds_asg (de_var (i := 0) rfl (by first | exact .inl rfl | exact .inr (.inl rfl) | exact .inr (.inr rfl))) (dg_tup rfl rfl (dgs_cons (dg_name (i := 2) sc_is_errand.nd rfl (by first | exact .inl rfl | exact .inr rfl)) (dgs_cons (dg_name (i := 3) sc_is_errand.nd rfl (by first | exact .inl rfl | exact .inr rfl)) dgs_nil))))
    (db_one (ds_ret (de_and (de_callK rfl (G_is_whole.mono (by decide)) hgd hr (takes_of rfl rfl rfl rfl) rfl T.m_is_whole F_is_whole.kp kb0 (da_e (de_var (i := 2) rfl (by first | exact .inl rfl | exact .inr (.inl rfl) | exact .inr (.inr rfl))) da_nil) (dk_e (dx_sub (de_var (i := 1) rfl (by first | exact .inl rfl | exact .inr (.inl rfl) | exact .inr (.inr rfl))) de_int) dk_nil)) (de_one (de_callK rfl (G_is_whole.mono (by decide)) hgd hr (takes_of rfl rfl rfl rfl) rfl T.m_is_whole F_is_whole.kp kb1 (da_e (de_var (i := 3) rfl (by first | exact .inl rfl | exact .inr (.inl rfl) | exact .inr (.inr rfl))) da_nil) (dk_e de_int (dk_e (dx_mul rfl (de_globI rfl c_MOST_TURNS) (de_var (i := 1) rfl (by first | exact .inl rfl | exact .inr (.inl rfl) | exact .inr (.inr rfl)))) dk_nil)))))))))
def b__law_errands_right_l1 : SS := (ifS (toB (op2E neG (callBE reprG (consA (pkE (callE f_is_errand 1 1 (pick [0, 1]) [] (consA (escE (tupE (consA (escE (op2E ixG (varE 3) (varE 5))) (consA (escE (op2E ixG (varE 4) (varE 6))) nilA)))) nilA) (consA (escE (varE 1)) nilA))) nilA)) (callBE reprG (consA (pkE (andV (op2E ltG (varE 5) (conE (.int 3))) (op2E ltG (varE 6) (conE (.int 3))))) nilA)))) (retS (conE (.bool false))) skipS)
def b__law_errands_right_l2 : SS := (forS (rng1S (consA (pkE (conE (.int 8))) nilA)) (nameT 6) b__law_errands_right_l1)
def b__law_errands_right : SS := (seqS (setS 2 (callE f__law_odd 1 0 (pick [0]) [] (consA (pkE (varE 0)) nilA) nilA)) (seqS (setS 3 (lstE (consA (escE (conE (.int 0))) (consA (escE (op2E subG (varE 1) (conE (.int 1)))) (consA (escE (callE f__law_next 2 0 (pick [0, 1]) [] (consA (pkE (varE 0)) (consA (escE (varE 1)) nilA)) nilA)) (consA (escE (op2E subG (conE (.int 0)) (conE (.int 1)))) (consA (escE (varE 1)) (consA (escE (conE (.bool true))) (consA (escE (conE (.bool false))) (consA (escE (varE 2)) nilA)))))))))) (seqS (setS 4 (lstE (consA (escE (conE (.int 1))) (consA (escE (op2E mulG (conE (.int 3)) (varE 1))) (consA (escE (op2E addG (conE (.int 1)) (callE f__law_next 2 0 (pick [0, 1]) [] (consA (pkE (varE 0)) (consA (escE (op2E mulG (conE (.int 3)) (varE 1))) nilA)) nilA))) (consA (escE (conE (.int 0))) (consA (escE (op2E addG (op2E mulG (conE (.int 3)) (varE 1)) (conE (.int 1)))) (consA (escE (op2E subG (conE (.int 0)) (conE (.int 1)))) (consA (escE (conE (.bool true))) (consA (escE (varE 2)) nilA)))))))))) (seqS (forS (rng1S (consA (pkE (conE (.int 8))) nilA)) (nameT 5) b__law_errands_right_l2) (seqS (setS 7 (tupE (consA (escE (op2E ixG (varE 3) (conE (.int 2)))) (consA (escE (op2E ixG (varE 4) (conE (.int 2)))) nilA)))) (seqS (setS 8 (lstE (consA (escE (varE 2)) (consA (escE (op2E addG (varE 7) (tupE (consA (escE (conE (.int 1))) nilA)))) (consA (escE (sliceE (varE 7) noPart (isPart (conE (.int 1))))) (consA (escE (callBE listG (consA (pkE (varE 7)) nilA))) (consA (escE (tupE (consA (escE (varE 7)) nilA))) (consA (escE (dispTE (varE 7) (conE (.int 1)))) (consA (escE (tupE (consA (escE (varE 7)) (consA (escE (varE 7)) nilA)))) (consA (escE (conE (.int 5))) nilA)))))))))) (retS (op2E eqG (lcE [9] (datS (varE 8)) (nameT 9) yesB (callE f_is_errand 0 2 (pick [0, 1]) [] nilA (consA (escE (varE 9)) (consA (escE (varE 1)) nilA)))) (mulNE (lstE (consA (escE (conE (.bool false))) nilA)) (conE (.int 8)))))))))))
def f__law_errands_right : SE := defE 2 10 b__law_errands_right
theorem g__law_errands_right {P : Program} {w : World} {K : PySem.W.Frag} {mg : Str → Option Value} {base : Heap} (T : Top K mg) : ∃ fd, FunD K "_law_errands_right" "_law_errands_right" (defArgs s__law_errands_right) (defBody s__law_errands_right) (defScope s__law_errands_right) [] [] (He.ga K "_law_errands_right") fd ∧ FnG P w K mg base 4 (He.ga K "_law_errands_right") fd ["draw", "size"] f__law_errands_right := by
  obtain ⟨fd, F⟩ := T.d__law_errands_right
  obtain ⟨fd__law_odd, F__law_odd, G__law_odd⟩ := g__law_odd (P := P) (w := w) (base := base) T
  obtain ⟨fd__law_next, F__law_next, G__law_next⟩ := g__law_next (P := P) (w := w) (base := base) T
  obtain ⟨fd_is_errand, F_is_errand, G_is_errand⟩ := g_is_errand (P := P) (w := w) (base := base) T
  have kb0 : KB K fd__law_odd ["draw"] [] 1 (pick [0]) [] [] := kb_all F__law_odd (pick_ok _) fun kV doc pm an cdv ct us ws h1 h2 => match us, ws, h1, h2 with | [_], [], _, _ => rfl
  have kb1 : KB K fd__law_next ["draw", "many"] [] 2 (pick [0, 1]) [] [] := kb_all F__law_next (pick_ok _) fun kV doc pm an cdv ct us ws h1 h2 => match us, ws, h1, h2 with | [_, _], [], _, _ => rfl
  have kb2 : KB K fd__law_next ["draw", "many"] [] 2 (pick [0, 1]) [] [] := kb_all F__law_next (pick_ok _) fun kV doc pm an cdv ct us ws h1 h2 => match us, ws, h1, h2 with | [_, _], [], _, _ => rfl
  have kb3 : KB K fd_is_errand ["thing", "floors"] ["floors"] 1 (pick [0, 1]) [] [] := kb_all F_is_errand (pick_ok _) fun kV doc pm an cdv ct us ws h1 h2 => match us, ws, h1, h2 with | [_], [_], _, _ => rfl
  have kb4 : KB K fd_is_errand ["thing", "floors"] ["thing", "floors"] 0 (pick [0, 1]) [] [] := kb_all F_is_errand (pick_ok _) fun kV doc pm an cdv ct us ws h1 h2 => match us, ws, h1, h2 with | [], [_, _], _, _ => rfl
  refine ⟨fd, F, fn_D (k := 3) F sc__law_errands_right rfl rfl fun cdv A outer s0 H E C hC hgd hr => ?_⟩
  subst hC
  unfold b__law_errands_right
  exact (db_cons (ds_set (i := 2) sc__law_errands_right.nd rfl (by first | exact .inl rfl | exact .inr rfl) (de_call rfl (G__law_odd.mono (by decide)) hgd hr (takes_of rfl rfl rfl rfl) rfl T.m__law_odd F__law_odd.kp kb0 (da_p (de_var (i := 0) rfl (by first | exact .inl rfl | exact .inr (.inl rfl) | exact .inr (.inr rfl))) da_nil)))
    (db_cons (ds_set (i := 3) sc__law_errands_right.nd rfl (by first | exact .inl rfl | exact .inr rfl) (de_lst (da_e de_int (da_e (dx_sub (de_var (i := 1) rfl (by first | exact .inl rfl | exact .inr (.inl rfl) | exact .inr (.inr rfl))) de_int) (da_e (de_call rfl (G__law_next.mono (by decide)) hgd hr (takes_of rfl rfl rfl rfl) rfl T.m__law_next F__law_next.kp kb1 (da_p (de_var (i := 0) rfl (by first | exact .inl rfl | exact .inr (.inl rfl) | exact .inr (.inr rfl))) (da_e (de_var (i := 1) rfl (by first | exact .inl rfl | exact .inr (.inl rfl) | exact .inr (.inr rfl))) da_nil))) (da_e (dx_sub de_int de_int) (da_e (de_var (i := 1) rfl (by first | exact .inl rfl | exact .inr (.inl rfl) | exact .inr (.inr rfl))) (da_e de_bl (da_e de_bl (da_e (de_var (i := 2) rfl (by first | exact .inl rfl | exact .inr (.inl rfl) | exact .inr (.inr rfl))) da_nil))))))))))
    (db_cons (ds_set (i := 4) sc__law_errands_right.nd rfl (by first | exact .inl rfl | exact .inr rfl) (de_lst (da_e de_int (da_e (dx_mul rfl de_int (de_var (i := 1) rfl (by first | exact .inl rfl | exact .inr (.inl rfl) | exact .inr (.inr rfl)))) (da_e (dx_add rfl de_int (de_call rfl (G__law_next.mono (by decide)) hgd hr (takes_of rfl rfl rfl rfl) rfl T.m__law_next F__law_next.kp kb2 (da_p (de_var (i := 0) rfl (by first | exact .inl rfl | exact .inr (.inl rfl) | exact .inr (.inr rfl))) (da_e (dx_mul rfl de_int (de_var (i := 1) rfl (by first | exact .inl rfl | exact .inr (.inl rfl) | exact .inr (.inr rfl)))) da_nil)))) (da_e de_int (da_e (dx_add rfl (dx_mul rfl de_int (de_var (i := 1) rfl (by first | exact .inl rfl | exact .inr (.inl rfl) | exact .inr (.inr rfl)))) de_int) (da_e (dx_sub de_int de_int) (da_e de_bl (da_e (de_var (i := 2) rfl (by first | exact .inl rfl | exact .inr (.inl rfl) | exact .inr (.inr rfl))) da_nil))))))))))
    (db_cons (ds_for (passes_of rfl) rfl (di_range1 rfl T.n_range (da_p de_int da_nil)) (dg_name (i := 5) sc__law_errands_right.nd rfl (by first | exact .inl rfl | exact .inr rfl))
    (db_one (ds_for (passes_of rfl) rfl (di_range1 rfl T.n_range (da_p de_int da_nil)) (dg_name (i := 6) sc__law_errands_right.nd rfl (by first | exact .inl rfl | exact .inr rfl))
    (db_one (ds_if (dy_ne rfl hr (dx_repr rfl hgd hr rfl T.n_repr (da_p (de_callK rfl (G_is_errand.mono (by decide)) hgd hr (takes_of rfl rfl rfl rfl) rfl T.m_is_errand F_is_errand.kp kb3 (da_e (de_tup (da_e (de_ixG rfl hr (de_var (i := 3) rfl (by first | exact .inl rfl | exact .inr (.inl rfl) | exact .inr (.inr rfl))) (de_var (i := 5) rfl (by first | exact .inl rfl | exact .inr (.inl rfl) | exact .inr (.inr rfl))) (by intro _ _; rfl)) (da_e (de_ixG rfl hr (de_var (i := 4) rfl (by first | exact .inl rfl | exact .inr (.inl rfl) | exact .inr (.inr rfl))) (de_var (i := 6) rfl (by first | exact .inl rfl | exact .inr (.inl rfl) | exact .inr (.inr rfl))) (by intro _ _; rfl)) da_nil))) da_nil) (dk_e (de_var (i := 1) rfl (by first | exact .inl rfl | exact .inr (.inl rfl) | exact .inr (.inr rfl))) dk_nil)) da_nil)) (dx_repr rfl hgd hr rfl T.n_repr (da_p (de_and (dx_lt (de_var (i := 5) rfl (by first | exact .inl rfl | exact .inr (.inl rfl) | exact .inr (.inr rfl))) de_int) (de_one (dx_lt (de_var (i := 6) rfl (by first | exact .inl rfl | exact .inr (.inl rfl) | exact .inr (.inr rfl))) de_int))) da_nil)))
    (db_one (ds_ret de_bl))
    db_nil)))))
    (db_cons (ds_set (i := 7) sc__law_errands_right.nd rfl (by first | exact .inl rfl | exact .inr rfl) (de_tup (da_e (de_ixG rfl hr (de_var (i := 3) rfl (by first | exact .inl rfl | exact .inr (.inl rfl) | exact .inr (.inr rfl))) de_int (by intro _ _; rfl)) (da_e (de_ixG rfl hr (de_var (i := 4) rfl (by first | exact .inl rfl | exact .inr (.inl rfl) | exact .inr (.inr rfl))) de_int (by intro _ _; rfl)) da_nil))))
    (db_cons (ds_set (i := 8) sc__law_errands_right.nd rfl (by first | exact .inl rfl | exact .inr rfl) (de_lst (da_e (de_var (i := 2) rfl (by first | exact .inl rfl | exact .inr (.inl rfl) | exact .inr (.inr rfl))) (da_e (dx_add rfl (de_var (i := 7) rfl (by first | exact .inl rfl | exact .inr (.inl rfl) | exact .inr (.inr rfl))) (de_tup (da_e de_int da_nil))) (da_e (de_slice rfl (de_var (i := 7) rfl (by first | exact .inl rfl | exact .inr (.inl rfl) | exact .inr (.inr rfl))) dp_none (dp_some de_int)) (da_e (dx_list rfl rfl T.n_list (da_p (de_var (i := 7) rfl (by first | exact .inl rfl | exact .inr (.inl rfl) | exact .inr (.inr rfl))) da_nil)) (da_e (de_tup (da_e (de_var (i := 7) rfl (by first | exact .inl rfl | exact .inr (.inl rfl) | exact .inr (.inr rfl))) da_nil)) (da_e (de_dispT rfl hr (de_var (i := 7) rfl (by first | exact .inl rfl | exact .inr (.inl rfl) | exact .inr (.inr rfl))) de_int) (da_e (de_tup (da_e (de_var (i := 7) rfl (by first | exact .inl rfl | exact .inr (.inl rfl) | exact .inr (.inr rfl))) (da_e (de_var (i := 7) rfl (by first | exact .inl rfl | exact .inr (.inl rfl) | exact .inr (.inr rfl))) da_nil))) (da_e de_int da_nil))))))))))
    (db_one (ds_ret (dx_eq rfl hr (de_lc (own := [("one", 9)]) rfl sc__law_errands_right.nd (di_dat rfl (de_var (i := 8) rfl (by first | exact .inl rfl | exact .inr (.inl rfl) | exact .inr (.inr rfl)))) (blk_of rfl)
      (fun s H c cl fp => (dgw_name (i := 9) (by decide) sc__law_errands_right.nd rfl (by first | exact .inl rfl | exact .inr rfl))) (fun s H c cl fp => dts_nil) (fun s H c cl fp => (de_callK0 rfl (G_is_errand.mono (by decide)) hgd hr takes_no rfl T.m_is_errand F_is_errand.kp kb4 (dk_e (de_var (i := 9) rfl (by first | exact .inl rfl | exact .inr (.inl rfl) | exact .inr (.inr rfl))) (dk_e (de_var (i := 1) rfl (by first | exact .inl rfl | exact .inr (.inl rfl) | exact .inr (.inr rfl))) dk_nil))))) (de_mulN (de_lst (da_e de_bl da_nil)) de_int))))))))))
def b_law_l1 : SS := (ifS (orB (notB (toB (callE f__law_bounds_right 1 0 (pick [0]) [] (consA (pkE (varE 1)) nilA) nilA))) (notB (toB (callE f__law_errands_right 2 0 (pick [0, 1]) [] (consA (pkE (varE 1)) (consA (escE (op2E addG (conE (.int 2)) (callE f__law_next 2 0 (pick [0, 1]) [] (consA (pkE (varE 1)) (consA (escE (conE (.int 15))) nilA)) nilA))) nilA)) nilA)))) (retS (conE (.bool false))) skipS)
def b_law : SS := (seqS (setS 1 (callE f__law_begin 1 0 (pick [0]) [] (consA (escE (varE 0)) nilA) nilA)) (seqS (ifS (toB (op2E neG (lstE (consA (escE (conE (.int 16))) (consA (escE (conE (.int 40))) (consA (escE (conE (.int 130))) (consA (escE (conE (.int 6))) nilA))))) (lstE (consA (escE (conE (.int 16))) (consA (escE (conE (.int 40))) (consA (escE (conE (.int 130))) (consA (escE (conE (.int 6))) nilA))))))) (retS (conE (.bool false))) skipS) (seqS (forS (rng1S (consA (pkE (callBE min2G (consA (pkE (conE (.int 12))) (consA (pkE (op2E addG (conE (.int 3)) (callBE lenG (consA (pkE (varE 0)) nilA)))) nilA)))) nilA)) (nameT 2) b_law_l1) (retS (conE (.bool true))))))
def f_law : SE := defE 1 3 b_law
theorem g_law {P : Program} {w : World} {K : PySem.W.Frag} {mg : Str → Option Value} {base : Heap} (T : Top K mg) : ∃ fd, FunD K "law" "law" (defArgs s_law) (defBody s_law) (defScope s_law) [] [] (He.ga K "law") fd ∧ FnG P w K mg base 5 (He.ga K "law") fd ["script"] f_law := by
  obtain ⟨fd, F⟩ := T.d_law
  obtain ⟨fd__law_begin, F__law_begin, G__law_begin⟩ := g__law_begin (P := P) (w := w) (base := base) T
  obtain ⟨fd__law_bounds_right, F__law_bounds_right, G__law_bounds_right⟩ := g__law_bounds_right (P := P) (w := w) (base := base) T
  obtain ⟨fd__law_errands_right, F__law_errands_right, G__law_errands_right⟩ := g__law_errands_right (P := P) (w := w) (base := base) T
  obtain ⟨fd__law_next, F__law_next, G__law_next⟩ := g__law_next (P := P) (w := w) (base := base) T
  obtain ⟨t_MOST_ERRANDS, c_MOST_ERRANDS⟩ := T.c_MOST_ERRANDS
  obtain ⟨t_MOST_FLOORS, c_MOST_FLOORS⟩ := T.c_MOST_FLOORS
  obtain ⟨t_MOST_ROUNDS, c_MOST_ROUNDS⟩ := T.c_MOST_ROUNDS
  obtain ⟨t_MOST_SEATS, c_MOST_SEATS⟩ := T.c_MOST_SEATS
  have kb0 : KB K fd__law_begin ["script"] [] 1 (pick [0]) [] [] := kb_all F__law_begin (pick_ok _) fun kV doc pm an cdv ct us ws h1 h2 => match us, ws, h1, h2 with | [_], [], _, _ => rfl
  have kb1 : KB K fd__law_bounds_right ["draw"] [] 1 (pick [0]) [] [] := kb_all F__law_bounds_right (pick_ok _) fun kV doc pm an cdv ct us ws h1 h2 => match us, ws, h1, h2 with | [_], [], _, _ => rfl
  have kb2 : KB K fd__law_errands_right ["draw", "size"] [] 2 (pick [0, 1]) [] [] := kb_all F__law_errands_right (pick_ok _) fun kV doc pm an cdv ct us ws h1 h2 => match us, ws, h1, h2 with | [_, _], [], _, _ => rfl
  have kb3 : KB K fd__law_next ["draw", "many"] [] 2 (pick [0, 1]) [] [] := kb_all F__law_next (pick_ok _) fun kV doc pm an cdv ct us ws h1 h2 => match us, ws, h1, h2 with | [_, _], [], _, _ => rfl
  refine ⟨fd, F, fn_D (k := 4) F sc_law rfl rfl fun cdv A outer s0 H E C hC hgd hr => ?_⟩
  subst hC
  unfold b_law
  exact (db_cons (ds_set (i := 1) sc_law.nd rfl (by first | exact .inl rfl | exact .inr rfl) (de_call rfl (G__law_begin.mono (by decide)) hgd hr (takes_of rfl rfl rfl rfl) rfl T.m__law_begin F__law_begin.kp kb0 (da_e (de_var (i := 0) rfl (by first | exact .inl rfl | exact .inr (.inl rfl) | exact .inr (.inr rfl))) da_nil)))
    (db_cons (ds_if (dy_ne rfl hr (de_lst (da_e (de_globI rfl c_MOST_FLOORS) (da_e (de_globI rfl c_MOST_ERRANDS) (da_e (de_globI rfl c_MOST_ROUNDS) (da_e (de_globI rfl c_MOST_SEATS) da_nil))))) (de_lst (da_e de_int (da_e de_int (da_e de_int (da_e de_int da_nil))))))
    (db_one (ds_ret de_bl))
    db_nil)
    (db_cons (ds_for (passes_of rfl) rfl (di_range1 rfl T.n_range (da_p (dx_min2 rfl rfl T.n_min (da_p de_int (da_p (dx_add rfl de_int (dx_len rfl rfl T.n_len (da_p (de_var (i := 0) rfl (by first | exact .inl rfl | exact .inr (.inl rfl) | exact .inr (.inr rfl))) da_nil))) da_nil))) da_nil)) (dg_name (i := 2) sc_law.nd rfl (by first | exact .inl rfl | exact .inr rfl))
    (db_one (ds_if (DW.dt (dw_or (dt_not (dt_val (de_call rfl (G__law_bounds_right.mono (by decide)) hgd hr (takes_of rfl rfl rfl rfl) rfl T.m__law_bounds_right F__law_bounds_right.kp kb1 (da_p (de_var (i := 1) rfl (by first | exact .inl rfl | exact .inr (.inl rfl) | exact .inr (.inr rfl))) da_nil)))) (dw_or1 (dt_not (dt_val (de_call rfl (G__law_errands_right.mono (by decide)) hgd hr (takes_of rfl rfl rfl rfl) rfl T.m__law_errands_right F__law_errands_right.kp kb2 (da_p (de_var (i := 1) rfl (by first | exact .inl rfl | exact .inr (.inl rfl) | exact .inr (.inr rfl))) (da_e (dx_add rfl de_int (de_call rfl (G__law_next.mono (by decide)) hgd hr (takes_of rfl rfl rfl rfl) rfl T.m__law_next F__law_next.kp kb3 (da_p (de_var (i := 1) rfl (by first | exact .inl rfl | exact .inr (.inl rfl) | exact .inr (.inr rfl))) (da_e de_int da_nil)))) da_nil))))))))
    (db_one (ds_ret de_bl))
    db_nil)))
    (db_one (ds_ret de_bl)))))
end K01

set_option maxHeartbeats 0
namespace K01
open PySem PySem.Spec PyProof.Rows L2 DL
def d__law_begin : He.DefD := ⟨("_law_begin", none), "_law_begin", "_law_begin", defArgs s__law_begin, defBody s__law_begin, defScope s__law_begin, [], []⟩
def d__law_mixed : He.DefD := ⟨("_law_mixed", none), "_law_mixed", "_law_mixed", defArgs s__law_mixed, defBody s__law_mixed, defScope s__law_mixed, [], []⟩
def d__law_next : He.DefD := ⟨("_law_next", none), "_law_next", "_law_next", defArgs s__law_next, defBody s__law_next, defScope s__law_next, [], []⟩
def d__law_odd : He.DefD := ⟨("_law_odd", none), "_law_odd", "_law_odd", defArgs s__law_odd, defBody s__law_odd, defScope s__law_odd, [], []⟩
def d_is_number : He.DefD := ⟨("is_number", none), "is_number", "is_number", defArgs s_is_number, defBody s_is_number, defScope s_is_number, [], []⟩
def d_is_whole : He.DefD := ⟨("is_whole", none), "is_whole", "is_whole", defArgs s_is_whole, defBody s_is_whole, defScope s_is_whole, [], [("least", .int 0), ("most", .non)]⟩
def d__law_bounds_right : He.DefD := ⟨("_law_bounds_right", none), "_law_bounds_right", "_law_bounds_right", defArgs s__law_bounds_right, defBody s__law_bounds_right, defScope s__law_bounds_right, [], []⟩
def d_is_errand : He.DefD := ⟨("is_errand", none), "is_errand", "is_errand", defArgs s_is_errand, defBody s_is_errand, defScope s_is_errand, [], []⟩
def d__law_errands_right : He.DefD := ⟨("_law_errands_right", none), "_law_errands_right", "_law_errands_right", defArgs s__law_errands_right, defBody s__law_errands_right, defScope s__law_errands_right, [], []⟩
def d_law : He.DefD := ⟨("law", none), "law", "law", defArgs s_law, defBody s_law, defScope s_law, [], []⟩
def fn : List He.DefD := [d__law_begin, d__law_mixed, d__law_next, d__law_odd, d_is_number, d_is_whole, d__law_bounds_right, d_is_errand, d__law_errands_right, d_law]
def fa : List He.Fa := [.glo "_law_begin", .glo "_law_mixed", .glo "_law_next", .glo "_law_odd", .glo "is_number", .glo "is_whole", .glo "_law_bounds_right", .glo "is_errand", .glo "_law_errands_right", .glo "law", .free "bool", .free "int", .free "isinstance", .free "len", .free "list", .free "min", .free "range", .free "repr", .free "tuple", .int "MOST_ERRANDS" 40, .int "MOST_FLOORS" 16, .int "MOST_ROUNDS" 130, .int "MOST_SEATS" 6, .int "MOST_TURNS" 3]
def names0 : List Str := ["MOST_FLOORS", "MOST_ERRANDS", "MOST_ROUNDS", "MOST_SEATS", "MOST_TURNS", "is_number", "is_whole", "is_errand", "_law_begin", "_law_mixed", "_law_next", "_law_odd", "_law_bounds_right", "_law_errands_right"]
def names : List Str := names0
abbrev R : PySem.W.OpenRow := PySem.W.OpenLaw.row PySem.Challenge.rw_oneseat_k01_numbers_and_errands
abbrev hk : PySem.W.Hook := He.hookD 4 fa fn
def ob (s : PySem.W.SharedT) : He.AlD := He.obsDG 4 fa fn (HandSHeadRun.getT s)
theorem ob_eq (s : PySem.W.SharedT) : ob s = hk.obs s.abs := He.obsDG_eq (HandSHeadRun.getT_eq s)
theorem run (w : World) : HandSHeadRun.RunEq R (PySem.W.view R.prog [16]) hk ob 2000 names w := by
  intro os
  kernel_rfl
theorem top_of {K : PySem.W.Frag} {h : Heap} {mg : Str → Option Value} (X : K.In h) (G : h.Ns mainGlobals mg) (c : He.SaysD fa fn K) : Top K mg where
  d__law_begin := c.def_ 0 (d := d__law_begin) rfl
  m__law_begin := He.glo_ok X G (c.fact 0 (f := .glo "_law_begin") rfl)
  d__law_mixed := c.def_ 1 (d := d__law_mixed) rfl
  m__law_mixed := He.glo_ok X G (c.fact 1 (f := .glo "_law_mixed") rfl)
  d__law_next := c.def_ 2 (d := d__law_next) rfl
  m__law_next := He.glo_ok X G (c.fact 2 (f := .glo "_law_next") rfl)
  d__law_odd := c.def_ 3 (d := d__law_odd) rfl
  m__law_odd := He.glo_ok X G (c.fact 3 (f := .glo "_law_odd") rfl)
  d_is_number := c.def_ 4 (d := d_is_number) rfl
  m_is_number := He.glo_ok X G (c.fact 4 (f := .glo "is_number") rfl)
  d_is_whole := c.def_ 5 (d := d_is_whole) rfl
  m_is_whole := He.glo_ok X G (c.fact 5 (f := .glo "is_whole") rfl)
  d__law_bounds_right := c.def_ 6 (d := d__law_bounds_right) rfl
  m__law_bounds_right := He.glo_ok X G (c.fact 6 (f := .glo "_law_bounds_right") rfl)
  d_is_errand := c.def_ 7 (d := d_is_errand) rfl
  m_is_errand := He.glo_ok X G (c.fact 7 (f := .glo "is_errand") rfl)
  d__law_errands_right := c.def_ 8 (d := d__law_errands_right) rfl
  m__law_errands_right := He.glo_ok X G (c.fact 8 (f := .glo "_law_errands_right") rfl)
  d_law := c.def_ 9 (d := d_law) rfl
  m_law := He.glo_ok X G (c.fact 9 (f := .glo "law") rfl)
  n_bool := He.free_ok X G (c.fact 10 (f := .free "bool") rfl)
  n_int := He.free_ok X G (c.fact 11 (f := .free "int") rfl)
  n_isinstance := He.free_ok X G (c.fact 12 (f := .free "isinstance") rfl)
  n_len := He.free_ok X G (c.fact 13 (f := .free "len") rfl)
  n_list := He.free_ok X G (c.fact 14 (f := .free "list") rfl)
  n_min := He.free_ok X G (c.fact 15 (f := .free "min") rfl)
  n_range := He.free_ok X G (c.fact 16 (f := .free "range") rfl)
  n_repr := He.free_ok X G (c.fact 17 (f := .free "repr") rfl)
  n_tuple := He.free_ok X G (c.fact 18 (f := .free "tuple") rfl)
  c_MOST_ERRANDS := He.int_ok X G (c.fact 19 (f := .int "MOST_ERRANDS" 40) rfl)
  c_MOST_FLOORS := He.int_ok X G (c.fact 20 (f := .int "MOST_FLOORS" 16) rfl)
  c_MOST_ROUNDS := He.int_ok X G (c.fact 21 (f := .int "MOST_ROUNDS" 130) rfl)
  c_MOST_SEATS := He.int_ok X G (c.fact 22 (f := .int "MOST_SEATS" 6) rfl)
  c_MOST_TURNS := He.int_ok X G (c.fact 23 (f := .int "MOST_TURNS" 3) rfl)
end K01

set_option maxHeartbeats 1000000
namespace K01
open PySem PySem.Spec PyProof.Rows L2 DL
theorem mul_ok {i j : Int} {a b : Nat} (h1 : i.natAbs.log2 ≤ a) (h2 : j.natAbs.log2 ≤ b) (h : a + b < 1000000) : mulG (.int i) (.int j) = some (.d (.int (i * j))) := mulG_ii (by omega)
theorem f_mixed (c k : Int) (hk : k.natAbs.log2 < 100000) : ∃ r, f__law_mixed [.d (.int c), .d (.int k)] = some (.ok (.d (.int r)) [.d (.int c), .d (.int k)]) := by
  have m1 : mulG (.int 7919) (.int k) = some (.d (.int (7919 * k))) := mulG_ii (by have : (7919 : Int).natAbs.log2 = 12 := by decide
                                                                                   omega)
  have b1 : (7919 * k).natAbs.log2 ≤ 13 + k.natAbs.log2 := by
    have := log2_mul_le 7919 k
    have e : (7919 : Int).natAbs.log2 = 12 := by decide
    omega
  have m2 : mulG (.int (7919 * k)) (.int k) = some (.d (.int (7919 * k * k))) := mulG_ii (by omega)
  have m3 : mulG (.int 31) (.int k) = some (.d (.int (31 * k))) := mulG_ii (by have : (31 : Int).natAbs.log2 = 4 := by decide
                                                                               omega)
  have m4 : ∀ x y : Int, mulG (.int (x % 2147483647)) (.int (y % 2147483647)) = some (.d (.int ((x % 2147483647) * (y % 2147483647)))) := fun x y => mulG_ii (by
    have := mod_log x (m := 2147483647) (by decide) (by decide)
    have := mod_log y (m := 2147483647) (by decide) (by decide)
    omega)
  have m5 : ∀ x : Int, mulG (.int 2) (.int (x % 1000)) = some (.d (.int (2 * (x % 1000)))) := fun x => mulG_ii (by
    have := mod_log x (m := 1000) (by decide) (by decide)
    have : (2 : Int).natAbs.log2 = 1 := by decide
    omega)
  have m6 : ∀ x y : Int, mulG (.int (x % 2147483629)) (.int (69621 + 2 * (y % 1000))) = some (.d (.int (x % 2147483629 * (69621 + 2 * (y % 1000))))) := fun x y => mulG_ii (by
    have := mod_log x (m := 2147483629) (by decide) (by decide)
    have h1 := Int.emod_nonneg y (show (1000 : Int) ≠ 0 by decide)
    have h2 := Int.emod_lt_of_pos y (show (0 : Int) < 1000 by decide)
    have : (69621 + 2 * (y % 1000)).natAbs.log2 < 60 := log2_of_lt (by have : ((2 ^ 60 : Nat) : Int) = 1152921504606846976 := by decide
                                                                       omega) (by have : ((2 ^ 60 : Nat) : Int) = 1152921504606846976 := by decide
                                                                                  omega) (by decide)
    omega)
  have d7 : ∀ x : Int, fdivG (.int x) (.int 7) = some (.d (.int (x / 7))) := fun x => fdivG_ii (by decide) (by decide)
  have e1 : ∀ x : Int, modG (.int x) (.int 1000000007) = some (.d (.int (x % 1000000007))) := fun x => modG_ii (by decide)
  have e2 : ∀ x : Int, modG (.int x) (.int 2147483647) = some (.d (.int (x % 2147483647))) := fun x => modG_ii (by decide)
  have e3 : ∀ x : Int, modG (.int x) (.int 2147483629) = some (.d (.int (x % 2147483629))) := fun x => modG_ii (by decide)
  have e4 : ∀ x : Int, modG (.int x) (.int 1000) = some (.d (.int (x % 1000))) := fun x => modG_ii (by decide)
  unfold f__law_mixed b__law_mixed
  exact ⟨_, by simp [varE, defE, labG, relab, seqS, setS, retS, bindS, bindE, op2E, pkE, pk, Res.get, putV, retK, m1, m2, m3, m4, m5, m6, d7, e1, e2, e3, e4, outsG, Res.isR]; rfl⟩
structure St where
  cells : List Int
  at_ : Int
  left : Int
  used : Int
def St.k (s : St) : List (Key × D) := [(.inr "cells", .list (s.cells.map .int)), (.inr "at", .int s.at_), (.inr "left", .int s.left), (.inr "used", .int s.used)]
/-- m: more than the numbers that were drawn -/
structure St.Ok (m : Nat) (s : St) : Prop where
  ne : s.cells ≠ []
  at0 : 0 ≤ s.at_
  at1 : s.at_ ≤ m
  l0 : 0 ≤ s.left
  u0 : 0 ≤ s.used
  u1 : s.used ≤ m
theorem v_cells (s : St) : ixG (.dict (kvD s.k)) (.str "cells") = some (.d (.list (s.cells.map .int))) := rfl
theorem v_at (s : St) : ixG (.dict (kvD s.k)) (.str "at") = some (.d (.int s.at_)) := rfl
theorem v_left (s : St) : ixG (.dict (kvD s.k)) (.str "left") = some (.d (.int s.left)) := rfl
theorem v_used (s : St) : ixG (.dict (kvD s.k)) (.str "used") = some (.d (.int s.used)) := rfl
theorem p_at (s : St) (i : Int) : putD s.k (.inr "at") (.int i) = St.k { s with at_ := i } := rfl
theorem p_left (s : St) (i : Int) : putD s.k (.inr "left") (.int i) = St.k { s with left := i } := rfl
theorem p_used (s : St) (i : Int) : putD s.k (.inr "used") (.int i) = St.k { s with used := i } := rfl
theorem k_len (s : St) : s.k.length < sizeLine := by
  show 4 < sizeLine
  decide
theorem ix_ints {l : List Int} {i : Int} (h0 : 0 ≤ i) (h1 : i < l.length) : ixG (.list (l.map .int)) (.int i) = some (.d (.int (l[i.toNat]'(by omega)))) := by
  have e : L2.atI (l.map PyData.int) i = some (.int (l[i.toNat]'(by omega))) := by
    unfold L2.atI L2.ixN
    rw [List.length_map, if_pos h0, if_pos h1]
    simp
  unfold ixG ixS
  simp only [e]
  rfl
theorem next_spec {s : St} {m n : Nat} {many : Int} (h : s.Ok m) (hm : m < 1000000) (h0 : 0 < many) (h1 : many < 2 ^ 60) :
    ∃ (r : Int) (s' : St), f__law_next [.M n s.k, .d (.int many)] = some (.ok (.d (.int r)) [.M n s'.k, .d (.int many)]) ∧ 0 ≤ r ∧ r < many ∧ s'.Ok (m + 1) ∧ s'.cells = s.cells := by
  have ml : many.natAbs.log2 < 9000 := by
    have : many.natAbs.log2 < 60 := log2_of_lt (by have : ((2 ^ 60 : Nat) : Int) = 1152921504606846976 := by decide
                                                   omega) (by have : ((2 ^ 60 : Nat) : Int) = 1152921504606846976 := by decide
                                                              omega) (by decide)
    omega
  have e1 : ∀ x : Int, modG (.int x) (.int many) = some (.d (.int (x % many))) := fun x => modG_ii h0
  have e2 : ∀ x : Int, fdivG (.int x) (.int many) = some (.d (.int (x / many))) := fun x => fdivG_ii h0 ml
  have r0 : ∀ x : Int, 0 ≤ x % many := fun x => Int.emod_nonneg x (by omega)
  have r1 : ∀ x : Int, x % many < many := fun x => Int.emod_lt_of_pos x h0
  unfold f__law_next b__law_next
  have a1 : s.at_ ≤ ((m + 1 : Nat) : Int) := by have := h.at1; omega
  have a2 : s.used ≤ ((m + 1 : Nat) : Int) := by have := h.u1; omega
  have a3 : 0 ≤ s.used + 1 := by have := h.u0; omega
  have a4 : s.used + 1 ≤ ((m + 1 : Nat) : Int) := by have := h.u1; omega
  by_cases c1 : 0 < s.left
  · refine ⟨s.left % many, { s with left := s.left / many }, ?_, r0 _, r1 _, ⟨h.ne, h.at0, a1, ?_, h.u0, a2⟩, rfl⟩
    · simp [varE, defE, labG, relab, seqS, setS, retS, bindS, bindE, op2E, pkE, pk, Res.get, putV, retK, e1, e2, outsG, Res.isR, ifS, toB, v_left, c1, setIS, escE, esc, keyD, k_len, p_left]
    · exact Int.ediv_nonneg h.l0 (by omega)
  · have hl : 0 < (s.cells.length : Int) := by
      have := List.length_pos_iff.mpr h.ne
      omega
    have i0 : 0 ≤ s.at_ % (s.cells.length : Int) := Int.emod_nonneg _ (by omega)
    have i1 : s.at_ % (s.cells.length : Int) < s.cells.length := Int.emod_lt_of_pos _ hl
    have e3 : modG (.int s.at_) (.int s.cells.length) = some (.d (.int (s.at_ % s.cells.length))) := modG_ii hl
    have e4 := ix_ints i0 i1
    generalize s.cells[(s.at_ % (s.cells.length : Int)).toNat]'(by omega) = cell at e4
    have e5 : powG (.int 10) (.int 18) = some (.d (.int 1000000000000000000)) := by simp [powG, op2I]
    have g1 : 0 ≤ s.at_ + 1 := by have := h.at0; omega
    have g2 : s.at_ + 1 ≤ (m + 1 : Nat) := by have := h.at1; omega
    by_cases c2 : 1000000000000000000 ≤ cell ∧ s.at_ + 1 ≤ s.cells.length
    · refine ⟨cell % many, { s with at_ := s.at_ + 1, left := cell / many }, ?_, r0 _, r1 _, ⟨h.ne, g1, g2, Int.ediv_nonneg (by omega) (by omega), h.u0, a2⟩, rfl⟩
      have c3 := c2.1
      have c4 := c2.2
      simp [varE, defE, labG, relab, seqS, setS, retS, bindS, bindE, op2E, pkE, pk, Res.get, putV, retK, e1, e2, e3, e4, e5, outsG, Res.isR, ifS, toB, andB, v_left, v_cells, v_at, c1, c3, c4, setIS, escE, esc, keyD, k_len, p_left, p_at, skipS, callBE, consA, nilA, gets, lenG]
    · have hu : (s.used + 1).natAbs.log2 < 100000 := by
        have := h.u0; have := h.u1
        have : (s.used + 1).natAbs.log2 < 60 := log2_of_lt (by have : ((2 ^ 60 : Nat) : Int) = 1152921504606846976 := by decide
                                                               omega) (by have : ((2 ^ 60 : Nat) : Int) = 1152921504606846976 := by decide
                                                                          omega) (by decide)
        omega
      have ha : (s.at_ + 1).natAbs.log2 < 100000 := by
        have := h.at0; have := h.at1
        have : (s.at_ + 1).natAbs.log2 < 60 := log2_of_lt (by have : ((2 ^ 60 : Nat) : Int) = 1152921504606846976 := by decide
                                                              omega) (by have : ((2 ^ 60 : Nat) : Int) = 1152921504606846976 := by decide
                                                                         omega) (by decide)
        omega
      obtain ⟨x, hx⟩ := f_mixed cell (s.at_ + 1) ha
      obtain ⟨y, hy⟩ := f_mixed x (s.used + 1) hu
      refine ⟨y % many, { s with at_ := s.at_ + 1, used := s.used + 1 }, ?_, r0 _, r1 _, ⟨h.ne, g1, g2, h.l0, a3, a4⟩, rfl⟩
      by_cases c3 : 1000000000000000000 ≤ cell
      · have c4 : ¬ s.at_ + 1 ≤ s.cells.length := fun z => c2 ⟨c3, z⟩
        simp [varE, defE, labG, relab, seqS, setS, retS, bindS, bindE, op2E, pkE, pk, Res.get, putV, retK, e1, e2, e3, e4, e5, outsG, Res.isR, ifS, toB, andB, v_left, v_cells, v_at, v_used, c1, c3, c4, setIS, escE, esc, keyD, k_len, p_left, p_at, p_used, skipS, callBE, consA, nilA, gets, lenG, callE, applyE, argsOf, argOf, backOf, bIx, pick, List.filterMap_cons, List.filterMap_nil, hx, hy]
      · simp [varE, defE, labG, relab, seqS, setS, retS, bindS, bindE, op2E, pkE, pk, Res.get, putV, retK, e1, e2, e3, e4, e5, outsG, Res.isR, ifS, toB, andB, v_left, v_cells, v_at, v_used, c1, c3, setIS, escE, esc, keyD, k_len, p_left, p_at, p_used, skipS, callBE, consA, nilA, gets, lenG, callE, applyE, argsOf, argOf, backOf, bIx, pick, List.filterMap_cons, List.filterMap_nil, hx, hy]
/-! ### numbers, errands -/
def numB : D → Bool
  | .int _ => true
  | _ => false
def wholeB (x : D) (l : Int) (m : Option Int) : Bool := match x with
  | .int i => decide (l ≤ i) && (match m with | none => true | some h => decide (i ≤ h))
  | _ => false
def mostD : Option Int → D
  | none => .none
  | some h => .int h
theorem number_spec (x : D) : f_is_number [.d x] = some (.ok (.d (.bool (numB x))) [.d x]) := by
  unfold f_is_number b_is_number
  cases x <;> simp [varE, defE, labG, relab, seqS, setS, retS, retN, exprS, bindS, bindE, pureE, op2E, op1E, pkE, pk, Res.get, putV, retK, outsG, Res.isR, ifS, ifE, toB, ofB, andB, orB, notB, andV, orV, notV, setIS, escE, esc, keyD, skipS, callBE, consA, nilA, gets, datas, tupE, lstE, callE, applyE, argsOf, argOf, backOf, bIx, pick, List.filterMap_cons, List.filterMap_nil, chainE, isiE, metE, selL, lookE, unpS, nameT, tupT, consT, nilT, parS2, sliceE, noPart, isPart, mulNE, brkS, cntS, conE, isiG, tyN, numB] <;> rfl
theorem whole_spec (x : D) (l : Int) (m : Option Int) : f_is_whole [.d x, .d (.int l), .d (mostD m)] = some (.ok (.d (.bool (wholeB x l m))) [.d x, .d (.int l), .d (mostD m)]) := by
  unfold f_is_whole b_is_whole
  cases x with
  | int i =>
    cases m with
    | none =>
      by_cases h : l ≤ i <;> simp [varE, defE, labG, relab, seqS, setS, retS, retN, exprS, bindS, bindE, pureE, op2E, op1E, pkE, pk, Res.get, putV, retK, outsG, Res.isR, ifS, ifE, toB, ofB, andB, orB, notB, andV, orV, notV, setIS, escE, esc, keyD, skipS, callBE, consA, nilA, gets, datas, tupE, lstE, callE, applyE, argsOf, argOf, backOf, bIx, pick, List.filterMap_cons, List.filterMap_nil, chainE, isiE, metE, selL, lookE, unpS, nameT, tupT, consT, nilT, parS2, sliceE, noPart, isPart, mulNE, brkS, cntS, conE, number_spec, numB, wholeB, mostD, isG, isD, h]
    | some q =>
      by_cases h : l ≤ i <;> simp [varE, defE, labG, relab, seqS, setS, retS, retN, exprS, bindS, bindE, pureE, op2E, op1E, pkE, pk, Res.get, putV, retK, outsG, Res.isR, ifS, ifE, toB, ofB, andB, orB, notB, andV, orV, notV, setIS, escE, esc, keyD, skipS, callBE, consA, nilA, gets, datas, tupE, lstE, callE, applyE, argsOf, argOf, backOf, bIx, pick, List.filterMap_cons, List.filterMap_nil, chainE, isiE, metE, selL, lookE, unpS, nameT, tupT, consT, nilT, parS2, sliceE, noPart, isPart, mulNE, brkS, cntS, conE, number_spec, numB, wholeB, mostD, isG, isD, h]
  | _ => simp [varE, defE, labG, relab, seqS, setS, retS, retN, exprS, bindS, bindE, pureE, op2E, op1E, pkE, pk, Res.get, putV, retK, outsG, Res.isR, ifS, ifE, toB, ofB, andB, orB, notB, andV, orV, notV, setIS, escE, esc, keyD, skipS, callBE, consA, nilA, gets, datas, tupE, lstE, callE, applyE, argsOf, argOf, backOf, bIx, pick, List.filterMap_cons, List.filterMap_nil, chainE, isiE, metE, selL, lookE, unpS, nameT, tupT, consT, nilT, parS2, sliceE, noPart, isPart, mulNE, brkS, cntS, conE, number_spec, numB, wholeB]
def errandB (x : D) (n : Int) : Bool := match x with
  | .tuple [a, b] => wholeB a 0 (some (n - 1)) && wholeB b 1 (some (3 * n))
  | _ => false
def isTupB : D → Bool
  | .tuple _ => true
  | _ => false
theorem isi_tuple (x : D) : isiG "tuple" x = some (isTupB x) := by cases x <;> rfl
theorem errand_spec (x : D) (n : Int) (h0 : 0 ≤ n) (h1 : n < 1000000) : f_is_errand [.d x, .d (.int n)] = some (.ok (.d (.bool (errandB x n))) [.d x, .d (.int n)]) := by
  have m1 : mulG (.int 3) (.int n) = some (.d (.int (3 * n))) := mulG_ii (by
    have : (3 : Int).natAbs.log2 = 1 := by decide
    have : n.natAbs.log2 < 60 := log2_of_lt (by have : ((2 ^ 60 : Nat) : Int) = 1152921504606846976 := by decide
                                                omega) (by have : ((2 ^ 60 : Nat) : Int) = 1152921504606846976 := by decide
                                                           omega) (by decide)
    omega)
  have w1 := fun a => whole_spec a 0 (some (n - 1))
  have w2 := fun a => whole_spec a 1 (some (3 * n))
  simp only [mostD] at w1 w2
  unfold f_is_errand b_is_errand
  cases x with
  | tuple xs =>
    match xs with
    | [a, b] =>
      cases q : wholeB a 0 (some (n - 1)) <;> simp [varE, defE, labG, relab, seqS, setS, retS, retN, exprS, bindS, bindE, pureE, op2E, op1E, pkE, pk, Res.get, putV, retK, outsG, Res.isR, ifS, ifE, toB, ofB, andB, orB, notB, andV, orV, notV, setIS, escE, esc, keyD, skipS, callBE, consA, nilA, gets, datas, tupE, lstE, callE, applyE, argsOf, argOf, backOf, bIx, pick, List.filterMap_cons, List.filterMap_nil, chainE, isiE, metE, selL, lookE, unpS, nameT, tupT, consT, nilT, parS2, sliceE, noPart, isPart, mulNE, brkS, cntS, conE, isi_tuple, isTupB, lenG, neG, m1, w1, w2, errandB, q, layD, lay, PyData.eqv]
    | [] => simp [varE, defE, labG, relab, seqS, setS, retS, retN, exprS, bindS, bindE, pureE, op2E, op1E, pkE, pk, Res.get, putV, retK, outsG, Res.isR, ifS, ifE, toB, ofB, andB, orB, notB, andV, orV, notV, setIS, escE, esc, keyD, skipS, callBE, consA, nilA, gets, datas, tupE, lstE, callE, applyE, argsOf, argOf, backOf, bIx, pick, List.filterMap_cons, List.filterMap_nil, chainE, isiE, metE, selL, lookE, unpS, nameT, tupT, consT, nilT, parS2, sliceE, noPart, isPart, mulNE, brkS, cntS, conE, isi_tuple, isTupB, lenG, neG, errandB, layD, lay, PyData.eqv]
    | [a] => simp [varE, defE, labG, relab, seqS, setS, retS, retN, exprS, bindS, bindE, pureE, op2E, op1E, pkE, pk, Res.get, putV, retK, outsG, Res.isR, ifS, ifE, toB, ofB, andB, orB, notB, andV, orV, notV, setIS, escE, esc, keyD, skipS, callBE, consA, nilA, gets, datas, tupE, lstE, callE, applyE, argsOf, argOf, backOf, bIx, pick, List.filterMap_cons, List.filterMap_nil, chainE, isiE, metE, selL, lookE, unpS, nameT, tupT, consT, nilT, parS2, sliceE, noPart, isPart, mulNE, brkS, cntS, conE, isi_tuple, isTupB, lenG, neG, errandB, layD, lay, PyData.eqv]
    | a :: b :: c :: r =>
      have nl : ¬ ((r.length : Int) + 1 + 1 + 1 = 2) := by omega
      simp [varE, defE, labG, relab, seqS, setS, retS, retN, exprS, bindS, bindE, pureE, op2E, op1E, pkE, pk, Res.get, putV, retK, outsG, Res.isR, ifS, ifE, toB, ofB, andB, orB, notB, andV, orV, notV, setIS, escE, esc, keyD, skipS, callBE, consA, nilA, gets, datas, tupE, lstE, callE, applyE, argsOf, argOf, backOf, bIx, pick, List.filterMap_cons, List.filterMap_nil, chainE, isiE, metE, selL, lookE, unpS, nameT, tupT, consT, nilT, parS2, sliceE, noPart, isPart, mulNE, brkS, cntS, conE, nl, isi_tuple, isTupB, lenG, neG, errandB, layD, lay, PyData.eqv]
  | _ => simp [varE, defE, labG, relab, seqS, setS, retS, retN, exprS, bindS, bindE, pureE, op2E, op1E, pkE, pk, Res.get, putV, retK, outsG, Res.isR, ifS, ifE, toB, ofB, andB, orB, notB, andV, orV, notV, setIS, escE, esc, keyD, skipS, callBE, consA, nilA, gets, datas, tupE, lstE, callE, applyE, argsOf, argOf, backOf, bIx, pick, List.filterMap_cons, List.filterMap_nil, chainE, isiE, metE, selL, lookE, unpS, nameT, tupT, consT, nilT, parS2, sliceE, noPart, isPart, mulNE, brkS, cntS, conE, isi_tuple, isTupB, errandB]
/-! ### drawing -/
theorem begin_spec (ns : List Int) (h : ns.length ≤ 63) : ∃ s : St, f__law_begin [.d (scriptD ns)] = some (.ok (.nM s.k) [.d (scriptD ns)]) ∧ s.Ok 0 ∧ s.cells = ns ++ [0] := by
  refine ⟨⟨ns ++ [0], 0, 0, 0⟩, ?_, ⟨by simp, Int.le_refl _, Int.le_refl _, Int.le_refl _, Int.le_refl _, Int.le_refl _⟩, rfl⟩
  have e : addG (.list (ns.map PyData.int)) (.list [.int 0]) = some (.nL ((ns ++ [0]).map PyData.int)) := by
    have hl : ns.length + 1 ≤ sizeLine := by
      have : (64 : Nat) ≤ sizeLine := by decide
      omega
    simp [addG, addI, op2I, addS, addL, hl]
  unfold f__law_begin b__law_begin scriptD
  have e9 : (ns ++ [0]).map PyData.int = ns.map PyData.int ++ [.int 0] := by simp
  simp only [St.k, e9]
  simp [varE, defE, labG, relab, seqS, setS, retS, retN, exprS, bindS, bindE, pureE, op2E, op1E, pkE, pk, Res.get, putV, retK, outsG, Res.isR, ifS, ifE, toB, ofB, andB, orB, notB, andV, orV, notV, setIS, escE, esc, keyD, skipS, callBE, consA, nilA, gets, datas, tupE, lstE, callE, applyE, argsOf, argOf, backOf, bIx, pick, List.filterMap_cons, List.filterMap_nil, chainE, isiE, metE, selL, lookE, unpS, nameT, tupT, consT, nilT, parS2, sliceE, noPart, isPart, mulNE, brkS, cntS, conE, dispE, dispGo, e, mergeD]
  rfl
/-- a draw, as a call -/
def drawE (i : Nat) (e : SE) : SE := callE f__law_next 2 0 (pick [0, 1]) [] (consA (pkE (varE i)) (consA (escE e) nilA)) nilA
theorem draw_spec {s : St} {m k i : Nat} {many : Int} {δ : List SV} {e : SE} (h : s.Ok m) (hm : m < 1000000) (h0 : 0 < many) (h1 : many < 2 ^ 60) (hi : δ[i]? = some (.M k s.k)) (he : e δ = some (.ok (.d (.int many)) δ)) :
    ∃ (r : Int) (s' : St), drawE i e δ = some (.ok (.d (.int r)) (δ.set i (.M k s'.k))) ∧ 0 ≤ r ∧ r < many ∧ s'.Ok (m + 1) ∧ s'.cells = s.cells := by
  obtain ⟨r, s', e1, p⟩ := next_spec (n := 0) h hm h0 h1
  refine ⟨r, s', ?_, p⟩
  unfold drawE
  simp [varE, defE, labG, relab, seqS, setS, retS, retN, exprS, bindS, bindE, pureE, op2E, op1E, pkE, pk, Res.get, putV, retK, outsG, Res.isR, ifS, ifE, toB, ofB, andB, orB, notB, andV, orV, notV, setIS, escE, esc, keyD, skipS, callBE, consA, nilA, gets, datas, tupE, lstE, callE, applyE, argsOf, argOf, backOf, bIx, pick, List.filterMap_cons, List.filterMap_nil, chainE, isiE, metE, selL, lookE, unpS, nameT, tupT, consT, nilT, parS2, sliceE, noPart, isPart, mulNE, brkS, cntS, conE, hi, he, e1]
def oddL : List D := [.none, .bool true, .bool false, .str "1", .str "", .list [.int 1], .tuple [.int 1], .tuple [], .dict [], .dict [(.int 1, .int 2)], .str "one", .tuple [.none, .int 1], .list [.int 1, .int 2]]
theorem odd_ix {r : Int} (h0 : 0 ≤ r) (h1 : r < 13) : ∃ x ∈ oddL, ixG (.list oddL) (.int r) = some (.d x) := by
  have e : r = 0 ∨ r = 1 ∨ r = 2 ∨ r = 3 ∨ r = 4 ∨ r = 5 ∨ r = 6 ∨ r = 7 ∨ r = 8 ∨ r = 9 ∨ r = 10 ∨ r = 11 ∨ r = 12 := by omega
  rcases e with e | e | e | e | e | e | e | e | e | e | e | e | e <;> subst e <;> exact ⟨_, by simp [oddL], rfl⟩
theorem odd_spec {s : St} {m n : Nat} (h : s.Ok m) (hm : m < 1000000) : ∃ (x : D) (s' : St), f__law_odd [.M n s.k] = some (.ok (.d x) [.M n s'.k]) ∧ x ∈ oddL ∧ s'.Ok (m + 1) ∧ s'.cells = s.cells := by
  obtain ⟨r, s', e1, r0, r1, p⟩ := next_spec (n := 0) (many := 13) h hm (by decide) (by decide)
  obtain ⟨x, hx, e2⟩ := odd_ix r0 r1
  refine ⟨x, s', ?_, hx, p⟩
  unfold f__law_odd b__law_odd
  unfold oddL at e2
  simp [varE, defE, labG, relab, seqS, setS, retS, retN, exprS, bindS, bindE, pureE, op2E, op1E, pkE, pk, Res.get, putV, retK, outsG, Res.isR, ifS, ifE, toB, ofB, andB, orB, notB, andV, orV, notV, setIS, escE, esc, keyD, skipS, callBE, consA, nilA, gets, datas, tupE, lstE, callE, applyE, argsOf, argOf, backOf, bIx, pick, List.filterMap_cons, List.filterMap_nil, chainE, isiE, metE, selL, lookE, unpS, nameT, tupT, consT, nilT, parS2, sliceE, noPart, isPart, mulNE, brkS, cntS, conE, dispE, dispGo, mergeD, putD, kvD, kD, e1, e2]
/-! ### numbers within bounds -/
theorem great_spec (s : St) (low high : D) : ∃ (x4 : SV) (g : Int), forGo (nameT 4) b__law_bounds_right_l1 (rngD 0 90) [.M 1 s.k, .d low, .d high, .d (.int 1), .u, .u, .u, .u, .u, .u] = some (.nx [.M 1 s.k, .d low, .d high, .d (.int g), x4, .u, .u, .u, .u, .u]) := by
  have pw : powG (.int 10) (.int 11) = some (.d (.int 100000000000)) := by simp [powG, op2I]
  obtain ⟨δ', e, x4, g, rfl, _⟩ := forGo_inv (t := nameT 4) (s := b__law_bounds_right_l1) (P := fun i δ => ∃ (x4 : SV) (g : Int), δ = [.M 1 s.k, .d low, .d high, .d (.int g), x4, .u, .u, .u, .u, .u] ∧ g.natAbs.log2 ≤ 40 * i) (rngD 0 90) 0 [.M 1 s.k, .d low, .d high, .d (.int 1), .u, .u, .u, .u, .u, .u] ⟨.u, 1, rfl, by decide⟩ (by
    intro j x δ hx h
    obtain ⟨x4, g, rfl, hg⟩ := h
    have hj : j < 90 := by
      have := (List.getElem?_eq_some_iff.mp hx).1
      rwa [rngD_len] at this
    have lw : (100000000000 : Int).natAbs.log2 = 36 := by decide
    have m1 : mulG (.int g) (.int 100000000000) = some (.d (.int (g * 100000000000))) := mulG_ii (by omega)
    have := log2_mul_le g 100000000000
    refine ⟨_, _, rfl, .inl ?_, .d x, g * 100000000000, rfl, by omega⟩
    unfold b__law_bounds_right_l1
    simp [varE, defE, labG, relab, seqS, setS, retS, retN, exprS, bindS, bindE, pureE, op2E, op1E, pkE, pk, Res.get, putV, retK, outsG, Res.isR, ifS, ifE, toB, ofB, andB, orB, notB, andV, orV, notV, setIS, escE, esc, keyD, skipS, callBE, consA, nilA, gets, datas, tupE, lstE, callE, applyE, argsOf, argOf, backOf, bIx, pick, List.filterMap_cons, List.filterMap_nil, chainE, isiE, metE, selL, lookE, unpS, nameT, tupT, consT, nilT, parS2, sliceE, noPart, isPart, mulNE, brkS, cntS, conE, pw, m1])
  exact ⟨x4, g, e⟩
theorem isi_bool (b : Bool) : isiG "bool" (.bool b) = some true := rfl
theorem turn_spec (s : St) (low high number : Int) (g x4 x6 x7 : SV) : ∃ y6 y7, b__law_bounds_right_l2 [.M 1 s.k, .d (.int low), .d (.int high), g, x4, .d (.int number), x6, x7, .u, .u] = some (.nx [.M 1 s.k, .d (.int low), .d (.int high), g, x4, .d (.int number), y6, y7, .u, .u]) := by
  have w1 := whole_spec (.int number) 0 none
  have w2 := whole_spec (.int number) low none
  have w3 := whole_spec (.int number) 0 (some high)
  have w4 := whole_spec (.int number) low (some high)
  simp only [mostD, wholeB] at w1 w2 w3 w4
  unfold b__law_bounds_right_l2
  by_cases c1 : 0 ≤ number <;> by_cases c2 : low ≤ number <;> by_cases c3 : number ≤ high <;>
    simp [varE, defE, labG, relab, seqS, setS, retS, retN, exprS, bindS, bindE, pureE, op2E, op1E, pkE, pk, Res.get, putV, retK, outsG, Res.isR, ifS, ifE, toB, ofB, andB, orB, notB, andV, orV, notV, setIS, escE, esc, keyD, skipS, callBE, consA, nilA, gets, datas, tupE, lstE, callE, applyE, argsOf, argOf, backOf, bIx, pick, List.filterMap_cons, List.filterMap_nil, chainE, isiE, metE, selL, lookE, unpS, nameT, tupT, consT, nilT, parS2, sliceE, noPart, isPart, mulNE, brkS, cntS, conE, w1, w2, w3, w4, c1, c2, c3, appG, addG, addI, op2I, addS, addL, neG, layD, lay, PyData.eqv, PyData.eqvAll, lcE, datS, lcGo, noOwn, wipeD, backD, isi_bool, SV.own]
theorem loop2 (s : St) (low high : Int) (g x4 : SV) : ∀ (items : List Int) (x5 x6 x7 : SV), ∃ y5 y6 y7, forGo (nameT 5) b__law_bounds_right_l2 (items.map PyData.int) [.M 1 s.k, .d (.int low), .d (.int high), g, x4, x5, x6, x7, .u, .u] = some (.nx [.M 1 s.k, .d (.int low), .d (.int high), g, x4, y5, y6, y7, .u, .u])
  | [], x5, x6, x7 => ⟨x5, x6, x7, rfl⟩
  | i :: r, x5, x6, x7 => by
    obtain ⟨y6, y7, e⟩ := turn_spec s low high i g x4 x6 x7
    obtain ⟨z5, z6, z7, e2⟩ := loop2 s low high g x4 r (.d (.int i)) y6 y7
    refine ⟨z5, z6, z7, ?_⟩
    simp only [List.map_cons, forGo, nameT, List.set_cons_succ, List.set_cons_zero, e]
    exact e2
theorem odd_whole {x : D} (h : x ∈ oddL) (l : Int) (m : Option Int) : wholeB x l m = false := by
  simp only [oddL, List.mem_cons, List.not_mem_nil, or_false] at h
  rcases h with h | h | h | h | h | h | h | h | h | h | h | h | h <;> subst h <;> rfl
theorem odd_errand {x : D} (h : x ∈ oddL) (n : Int) : errandB x n = false := by
  simp only [oddL, List.mem_cons, List.not_mem_nil, or_false] at h
  rcases h with h | h | h | h | h | h | h | h | h | h | h | h | h <;> subst h <;> rfl
theorem bounds_spec {s : St} {m n : Nat} (h : s.Ok m) (hm : m < 900000) : ∃ s' : St, f__law_bounds_right [.M n s.k] = some (.ok (.d (.bool true)) [.M n s'.k]) ∧ s'.Ok (m + 3) := by
  obtain ⟨a, s1, e1, a0, a1, h1, _⟩ := next_spec (n := 0) (many := 41) h (by omega) (by decide) (by decide)
  obtain ⟨b, s2, e2, b0, b1, h2, _⟩ := next_spec (n := 0) (many := 41) h1 (by omega) (by decide) (by decide)
  obtain ⟨x, s3, e3, hx, h3, _⟩ := odd_spec (n := 0) h2 (by omega)
  obtain ⟨x4, g, e4⟩ := great_spec s2 (.int (a - 20)) (.int (b - 20))
  obtain ⟨y5, y6, y7, e5⟩ := loop2 s2 (a - 20) (b - 20) (.d (.int g)) x4 [a - 20 - 1, a - 20, a - 20 + 1, b - 20 - 1, b - 20, b - 20 + 1, 0, 1, 0 - 1, g, 0 - g] .u .u .u
  refine ⟨s3, ?_, h3⟩
  have w1 := whole_spec x 0 none
  have w2 := whole_spec x (a - 20) (some (b - 20))
  have w3 := whole_spec x 0 (some 9)
  simp only [mostD, odd_whole hx] at w1 w2 w3
  simp at e5
  unfold f__law_bounds_right b__law_bounds_right
  simp [varE, defE, labG, relab, seqS, setS, retS, retN, exprS, bindS, bindE, pureE, op2E, op1E, pkE, pk, Res.get, putV, retK, outsG, Res.isR, ifS, ifE, toB, ofB, andB, orB, notB, andV, orV, notV, setIS, escE, esc, keyD, skipS, callBE, consA, nilA, gets, datas, tupE, lstE, callE, applyE, argsOf, argOf, backOf, bIx, pick, List.filterMap_cons, List.filterMap_nil, chainE, isiE, metE, selL, lookE, unpS, nameT, tupT, consT, nilT, parS2, sliceE, noPart, isPart, mulNE, brkS, cntS, conE, e1, e2, e3, e4, e5, w1, w2, w3, forS, rng1S, datS, eqG, layD, lay, PyData.eqv, PyData.eqvAll]
/-! ### errands -/
theorem repr_b (b : Bool) : reprG [.bool b] = some (.d (.str (if b then "True" else "False"))) := by cases b <;> rfl
theorem ne_T : neG (.str "True") (.str "True") = some (.d (.bool false)) := by
  have : PyData.strOk "True" = true := by decide +kernel
  simp [neG, layD, lay, PyData.eqv, this]
theorem ne_F : neG (.str "False") (.str "False") = some (.d (.bool false)) := by
  have : PyData.strOk "False" = true := by decide +kernel
  simp [neG, layD, lay, PyData.eqv, this]
theorem turnE {B S : List D} {m : List (Key × D)} {size : Int} {j k : Int} {x2 : SV} {bj sk : D} (h0 : 0 ≤ size) (h1 : size < 1000000) (hb : ixG (.list B) (.int j) = some (.d bj)) (hs : ixG (.list S) (.int k) = some (.d sk)) (h : errandB (.tuple [bj, sk]) size = (decide (j < 3) && decide (k < 3))) :
    b__law_errands_right_l1 [.M 1 m, .d (.int size), x2, .L 0 B, .L 0 S, .d (.int j), .d (.int k), .u, .u, .u] = some (.nx [.M 1 m, .d (.int size), x2, .L 0 B, .L 0 S, .d (.int j), .d (.int k), .u, .u, .u]) := by
  have w := errand_spec (.tuple [bj, sk]) size h0 h1
  rw [h] at w
  unfold b__law_errands_right_l1
  by_cases c1 : j < 3 <;> by_cases c2 : k < 3 <;>
    simp only [c1, c2, decide_true, decide_false, Bool.and_true, Bool.and_false, Bool.true_and, Bool.false_and] at w <;>
    simp [varE, defE, labG, relab, seqS, setS, retS, retN, exprS, bindS, bindE, pureE, op2E, op1E, pkE, pk, Res.get, putV, retK, outsG, Res.isR, ifS, ifE, toB, ofB, andB, orB, notB, andV, orV, notV, setIS, escE, esc, keyD, skipS, callBE, consA, nilA, gets, datas, tupE, lstE, callE, applyE, argsOf, argOf, backOf, bIx, pick, List.filterMap_cons, List.filterMap_nil, chainE, isiE, metE, selL, lookE, unpS, nameT, tupT, consT, nilT, parS2, sliceE, noPart, isPart, mulNE, brkS, cntS, conE, hb, hs, w, c1, c2, repr_b, ne_T, ne_F]
theorem rng8 {j : Nat} {x : D} (h : (rngD 0 8)[j]? = some x) : x = .int (j : Int) ∧ (j : Int) < 8 := by
  obtain ⟨h1, h2⟩ := rngD_get h
  exact ⟨by rw [h1]; simp, by omega⟩
theorem loopE {B S : List D} {m : List (Key × D)} {size : Int} {x2 : SV} (h0 : 0 ≤ size) (h1 : size < 1000000)
    (hB : ∀ j : Int, 0 ≤ j → j < 8 → ∃ b, ixG (.list B) (.int j) = some (.d b) ∧ wholeB b 0 (some (size - 1)) = decide (j < 3)) (hS : ∀ j : Int, 0 ≤ j → j < 8 → ∃ b, ixG (.list S) (.int j) = some (.d b) ∧ wholeB b 1 (some (3 * size)) = decide (j < 3)) :
    ∃ x5 x6, forGo (nameT 5) b__law_errands_right_l2 (rngD 0 8) [.M 1 m, .d (.int size), x2, .L 0 B, .L 0 S, .u, .u, .u, .u, .u] = some (.nx [.M 1 m, .d (.int size), x2, .L 0 B, .L 0 S, x5, x6, .u, .u, .u]) := by
  obtain ⟨δ', e, x5, x6, rfl⟩ := forGo_inv (t := nameT 5) (s := b__law_errands_right_l2) (P := fun i δ => ∃ x5 x6, δ = [.M 1 m, .d (.int size), x2, .L 0 B, .L 0 S, x5, x6, .u, .u, .u]) (rngD 0 8) 0 _ ⟨.u, .u, rfl⟩ (by
    intro j x δ hx h
    obtain ⟨x5, x6, rfl⟩ := h
    obtain ⟨rfl, hj⟩ := rng8 hx
    obtain ⟨b, hb, wb⟩ := hB j (by omega) hj
    obtain ⟨δ2, e2, y6, rfl⟩ := forGo_inv (t := nameT 6) (s := b__law_errands_right_l1) (P := fun i δ => ∃ x6, δ = [.M 1 m, .d (.int size), x2, .L 0 B, .L 0 S, .d (.int j), x6, .u, .u, .u]) (rngD 0 8) 0 [.M 1 m, .d (.int size), x2, .L 0 B, .L 0 S, .d (.int j), x6, .u, .u, .u] ⟨x6, rfl⟩ (by
      intro k y δ hy h
      obtain ⟨x6, rfl⟩ := h
      obtain ⟨rfl, hk⟩ := rng8 hy
      obtain ⟨c, hc, wc⟩ := hS k (by omega) hk
      exact ⟨_, _, rfl, .inl (turnE h0 h1 hb hc (by simp only [errandB, wb, wc])), .d (.int k), rfl⟩)
    refine ⟨_, _, rfl, .inl ?_, .d (.int j), y6, rfl⟩
    unfold b__law_errands_right_l2
    simp [varE, defE, labG, relab, seqS, setS, retS, retN, exprS, bindS, bindE, pureE, op2E, op1E, pkE, pk, Res.get, putV, retK, outsG, Res.isR, ifS, ifE, toB, ofB, andB, orB, notB, andV, orV, notV, setIS, escE, esc, keyD, skipS, callBE, consA, nilA, gets, datas, tupE, lstE, callE, applyE, argsOf, argOf, backOf, bIx, pick, List.filterMap_cons, List.filterMap_nil, chainE, isiE, metE, selL, lookE, unpS, nameT, tupT, consT, nilT, parS2, sliceE, noPart, isPart, mulNE, brkS, cntS, conE, forS, rng1S, e2])
  exact ⟨x5, x6, e⟩
theorem errands_spec {s : St} {m n : Nat} {size : Int} (h : s.Ok m) (hm : m < 900000) (z0 : 2 ≤ size) (z1 : size ≤ 16) : ∃ s' : St, f__law_errands_right [.M n s.k, .d (.int size)] = some (.ok (.d (.bool true)) [.M n s'.k, .d (.int size)]) ∧ s'.Ok (m + 3) := by
  obtain ⟨x, s1, e1, hx, h1, _⟩ := odd_spec (n := 0) h (by omega)
  obtain ⟨a, s2, e2, a0, a1, h2, _⟩ := next_spec (n := 0) (many := size) h1 (by omega) (by omega) (by omega)
  obtain ⟨b, s3, e3, b0, b1, h3, _⟩ := next_spec (n := 0) (many := 3 * size) h2 (by omega) (by omega) (by omega)
  have m1 : mulG (.int 3) (.int size) = some (.d (.int (3 * size))) := mulG_ii (by
    have : (3 : Int).natAbs.log2 = 1 := by decide
    have : size.natAbs.log2 < 60 := log2_of_lt (by have : ((2 ^ 60 : Nat) : Int) = 1152921504606846976 := by decide
                                                   omega) (by have : ((2 ^ 60 : Nat) : Int) = 1152921504606846976 := by decide
                                                              omega) (by decide)
    omega)
  have cases8 : ∀ j : Int, 0 ≤ j → j < 8 → j = 0 ∨ j = 1 ∨ j = 2 ∨ j = 3 ∨ j = 4 ∨ j = 5 ∨ j = 6 ∨ j = 7 := fun j _ _ => by omega
  obtain ⟨x5, x6, e4⟩ := loopE (B := [.int 0, .int (size - 1), .int a, .int (0 - 1), .int size, .bool true, .bool false, x]) (S := [.int 1, .int (3 * size), .int (1 + b), .int 0, .int (3 * size + 1), .int (0 - 1), .bool true, x]) (m := s3.k) (size := size) (x2 := .d x) (by omega) (by omega) (fun j j0 j1 => by
      rcases cases8 j j0 j1 with e | e | e | e | e | e | e | e <;> subst e
      · exact ⟨_, rfl, by simp [wholeB]; omega⟩
      · exact ⟨_, rfl, by simp [wholeB]; omega⟩
      · exact ⟨_, rfl, by simp [wholeB]; omega⟩
      · exact ⟨_, rfl, by simp [wholeB]⟩
      · exact ⟨_, rfl, by simp [wholeB]; omega⟩
      · exact ⟨_, rfl, by simp [wholeB]⟩
      · exact ⟨_, rfl, by simp [wholeB]⟩
      · exact ⟨_, rfl, by rw [odd_whole hx]; rfl⟩) (fun j j0 j1 => by
      rcases cases8 j j0 j1 with e | e | e | e | e | e | e | e <;> subst e
      · exact ⟨_, rfl, by simp [wholeB]; omega⟩
      · exact ⟨_, rfl, by simp [wholeB]; omega⟩
      · exact ⟨_, rfl, by simp [wholeB]; omega⟩
      · exact ⟨_, rfl, by simp [wholeB]⟩
      · exact ⟨_, rfl, by simp [wholeB]; omega⟩
      · exact ⟨_, rfl, by simp [wholeB]⟩
      · exact ⟨_, rfl, by simp [wholeB]⟩
      · exact ⟨_, rfl, by rw [odd_whole hx]; rfl⟩)
  refine ⟨s3, ?_, h3⟩
  have w := fun y => errand_spec y size (by omega) (by omega)
  have v1 := w x
  rw [odd_errand hx] at v1
  have v2 := w (.tuple [.int a, .int (1 + b), .int 1])
  have v3 := w (.tuple [.int a])
  have v4 := w (.list [.int a, .int (1 + b)])
  have v5 := w (.tuple [.tuple [.int a, .int (1 + b)]])
  have v6 := w (.dict [(.tuple [], .none)])
  have v7 := w (.tuple [.tuple [.int a, .int (1 + b)], .tuple [.int a, .int (1 + b)]])
  have v8 := w (.int 5)
  simp only [errandB, wholeB, Bool.false_and] at v2 v3 v4 v5 v6 v7 v8
  have i1 : ixG (.list [.int 0, .int (size - 1), .int a, .int (0 - 1), .int size, .bool true, .bool false, x]) (.int 2) = some (.d (.int a)) := rfl
  have i2 : ixG (.list [.int 1, .int (3 * size), .int (1 + b), .int 0, .int (3 * size + 1), .int (0 - 1), .bool true, x]) (.int 2) = some (.d (.int (1 + b))) := rfl
  have s1' : slD (.tuple [.int a, .int (1 + b)]) none (some 1) = some (.d (.tuple [.int a])) := rfl
  simp at e4 i1 i2
  unfold f__law_errands_right b__law_errands_right
  simp [varE, defE, labG, relab, seqS, setS, retS, retN, exprS, bindS, bindE, pureE, op2E, op1E, pkE, pk, Res.get, putV, retK, outsG, Res.isR, ifS, ifE, toB, ofB, andB, orB, notB, andV, orV, notV, setIS, escE, esc, keyD, skipS, callBE, consA, nilA, gets, datas, tupE, lstE, callE, applyE, argsOf, argOf, backOf, bIx, pick, List.filterMap_cons, List.filterMap_nil, chainE, isiE, metE, selL, lookE, unpS, nameT, tupT, consT, nilT, parS2, sliceE, noPart, isPart, mulNE, brkS, cntS, conE, e1, e2, e3, e4, m1, forS, rng1S, i1, i2, addG, addI, addS, addL, addT, op2I, s1', listG, dispTE, keysD, datS, lcE, lcGo, noOwn, wipeD, backD, yesB, v1, v2, v3, v4, v5, v6, v7, v8, eqG, layD, lay, PyData.eqv, PyData.eqvAll, SV.own]
theorem law_true (ns : List Int) (hn : ns.length ≤ 63) (hb : ∀ z ∈ ns, Builtin.Int.intBits z ≤ 1048576) : ∃ δ, f_law [.d (scriptD ns)] = some (.ok (.d (.bool true)) δ) := by
  obtain ⟨s, e1, h1, _⟩ := begin_spec ns hn
  obtain ⟨N, mn, n0, n1⟩ : ∃ N : Int, min2G [.int 12, .int (3 + (ns.length : Int))] = some (.d (.int N)) ∧ 0 ≤ N ∧ N ≤ 12 := by
    refine ⟨_, rfl, ?_, ?_⟩ <;> split <;> omega
  have b1 : -4611686018427387904 ≤ N := by omega
  have b2 : N < 4611686018427387904 := by omega
  obtain ⟨δ', e2, s', x2, rfl, _⟩ := forGo_inv (t := nameT 2) (s := b_law_l1) (P := fun i δ => ∃ (s' : St) (x2 : SV), δ = [.d (scriptD ns), .M 0 s'.k, x2] ∧ s'.Ok (7 * i)) (rngD 0 N.toNat) 0 [.d (scriptD ns), .M 0 s.k, .u] ⟨s, .u, rfl, h1⟩ (by
    intro j x δ hx h
    obtain ⟨s', x2, rfl, hs⟩ := h
    have hj : j < 12 := by
      have := (rngD_get hx).2
      omega
    obtain ⟨s1, g1, k1⟩ := bounds_spec (n := 0) hs (by omega)
    obtain ⟨r, s2, g2, r0, r1, k2, _⟩ := next_spec (n := 0) (many := 15) k1 (by omega) (by decide) (by decide)
    obtain ⟨s3, g3, k3⟩ := errands_spec (n := 0) (size := 2 + r) k2 (by omega) (by omega) (by omega)
    refine ⟨_, _, rfl, .inl ?_, s3, .d x, rfl, by rw [show 7 * (0 + j + 1) = 7 * (0 + j) + 3 + 1 + 3 by omega]; exact k3⟩
    unfold b_law_l1
    simp [varE, defE, labG, relab, seqS, setS, retS, retN, exprS, bindS, bindE, pureE, op2E, op1E, pkE, pk, Res.get, putV, retK, outsG, Res.isR, ifS, ifE, toB, ofB, andB, orB, notB, andV, orV, notV, setIS, escE, esc, keyD, skipS, callBE, consA, nilA, gets, datas, tupE, lstE, callE, applyE, argsOf, argOf, backOf, bIx, pick, List.filterMap_cons, List.filterMap_nil, chainE, isiE, metE, selL, lookE, unpS, nameT, tupT, consT, nilT, parS2, sliceE, noPart, isPart, mulNE, brkS, cntS, conE, g1, g2, g3])
  refine ⟨[.d (scriptD ns)], ?_⟩
  unfold f_law b_law
  unfold scriptD at e1 e2 ⊢
  simp [varE, defE, labG, relab, seqS, setS, retS, retN, exprS, bindS, bindE, pureE, op2E, op1E, pkE, pk, Res.get, putV, retK, outsG, Res.isR, ifS, ifE, toB, ofB, andB, orB, notB, andV, orV, notV, setIS, escE, esc, keyD, skipS, callBE, consA, nilA, gets, datas, tupE, lstE, callE, applyE, argsOf, argOf, backOf, bIx, pick, List.filterMap_cons, List.filterMap_nil, chainE, isiE, metE, selL, lookE, unpS, nameT, tupT, consT, nilT, parS2, sliceE, noPart, isPart, mulNE, brkS, cntS, conE, e1, e2, mn, b1, b2, forS, rng1S, lenG, neG, layD, lay, PyData.eqv, PyData.eqvAll]
end K01

set_option maxHeartbeats 0
open PySem PySem.W PySem.Calls PyProof.Rows in
theorem PySem.Challenge.cw_oneseat_k01_numbers_and_errands_holds : PySem.Challenge.rw_oneseat_k01_numbers_and_errands.Holds := by
  w_on; o_law
  refine HandSHeadRun.head_any (r := OpenLaw.row PySem.Challenge.rw_oneseat_k01_numbers_and_errands) (q := view (OpenLaw.row PySem.Challenge.rw_oneseat_k01_numbers_and_errands).prog [16]) (H := K01.hk) (ob := K01.ob) (M := 2000) (loose := K01.names) (d := HandSHeadRun.topDef (OpenLaw.row PySem.Challenge.rw_oneseat_k01_numbers_and_errands).prog 16) (kwd := []) K01.ob_eq
    (by kernel_rfl) (fun s => by kernel_rfl) K01.run (by kernel_rfl) (by kernel_rfl) (by kernel_rfl) (by rfl) (by first | assumption | decide +kernel) (by decide +kernel) ⟨rfl, rfl, rfl, rfl, rfl, by decide +kernel⟩ ?hw ?hc
  case hw => w_witness2
  case hc =>
    refine DL.walk_G (l := PySem.Challenge.rw_oneseat_k01_numbers_and_errands) (n := 63) (k := 5) (x := "script") (Fs := K01.f_law) rfl (by decide) (by kernel_rfl) ⟨rfl, by decide, by decide⟩ K01.law_true fun w mg fa h Y G hmg0 => ?_
    obtain ⟨K, KX, c⟩ := Y
    have T := K01.top_of KX G c
    have hmg : mg ("law" : PySem.Str) = some (.ref fa) := by
      have e : (HandSHeadRun.topDef (OpenLaw.row PySem.Challenge.rw_oneseat_k01_numbers_and_errands).prog 16).name = ("law" : PySem.Str) := by kernel_rfl
      rw [← e]
      exact hmg0
    have e := hmg.symm.trans T.m_law
    cases e
    obtain ⟨fd, F⟩ := T.d_law
    have b := L2.FunD.bindsA (ps := ["script"]) F fun _ _ _ _ _ _ us hl => match us, hl with | [_], _ => rfl
    refine ⟨K, fd, KX, fun s u => b s [u] rfl, fun base inb nsb => ?_⟩
    obtain ⟨fd', F', Gf⟩ := K01.g_law (P := (PySem.Challenge.rw_oneseat_k01_numbers_and_errands).prog) (w := w) (base := base) T
    rw [DL.fd_uniq F F'] at Gf
    exact Gf
