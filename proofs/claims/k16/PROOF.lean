import PyProof.Rows.All
import Wide.All
import OpenK.AllK
import Wide.FinOn
import HandS.ForMost
import HandS.HeadHook1
import HandS.Wide
import HandS.TupAny
import HandS.TupMul
import HandS.IsInst
import HandS.Deep
import HandS.ForExc
import HandS.Defaults
import HandS.Small
import HandS.SetFor
import HandS.Style
import HandS.HeadHook2
import HandS.EndBits
import PyProof.DictDisplay
import KE.KTryMore
import HandS.ExcInit
import KE.KExcIs
import HandS.ExcIs
import HandS.ExcField
import KE.GoesMore
import KE.KDictZip
import KE.GoesEnum
import KE.GoesEnumKw
import HandS.SortKw
import HandS.Dict
import KE.KExcInit
import HandS.Conv
import PySem.Challenge.RW_oneseat_k16_told_of_rides
import HandS.Head0
import HandS.Head1
import HandS.Head2
import HandS.HeadEnd
set_option Elab.async false
set_option linter.all false
set_option maxRecDepth 100000
namespace DL
open PySem PySem.Spec PyProof.Rows L2
/-! ### data that stands in a heap -/
abbrev D := PyData
abbrev Sg := List (Option V)
def kD : Key → D
  | .inl i => .int i
  | .inr x => .str x
/-- some dict: nothing is told of what it holds -/
def opqO (a : Addr) : HO := .ext fun h => ∃ o, h.get? a = some o ∧ o.cls = .type "dict" ∧ o.dict = none
/-- an exception that was caught: its class at C, its dict -/
def excO (a C : Addr) (d : Option Addr) : HO := .ext fun h => ∃ (o : Obj) (vs : Array Value), h.get? a = some o ∧ o.cls = .ref C ∧ o.dict = d ∧ o.data = .fields vs
/-- an exception as data: its class's name, its fields -/
def excD (cls : Str) (fs : List (Str × D)) : D := .dict ((.tuple [], .str cls) :: fs.map fun p => (.str p.1, p.2))
mutual
inductive Dat (K : PySem.W.Frag) (H : Hp) : V → D → Prop
  | non : Dat K H .non .none
  | bl (b : Bool) : Dat K H (.bl b) (.bool b)
  | int (i : Int) : Dat K H (.int i) (.int i)
  | str (x : Str) : Dat K H (.str x) (.str x)
  | lst {a : Addr} {xs : List V} {ds : List D} : SqL K H a xs → Dats K H xs ds → Dat K H (.ref a) (.list ds)
  | tup {a : Addr} {xs : List V} {ds : List D} : SqT K H a xs → Dats K H xs ds → Dat K H (.ref a) (.tuple ds)
  | dct {a : Addr} {ks : List (Key × V)} {ds : List (D × D)} : Rd H a (.dK ks) → Datp K H ks ds → Dat K H (.ref a) (.dict ds)
  /-- a dict by tuples: nothing is told of what it holds -/
  | dcT {a : Addr} : Rd H a (opqO a) → Dat K H (.ref a) (.dict [(.tuple [], .none)])
  | exc0 {a : Addr} {cls : Str} : Rd H a (excO a (He.ga K cls) none) → Dat K H (.ref a) (excD cls [])
  | exc1 {a d : Addr} {cls : Str} {vs : List (Str × V)} {fs : List (Str × D)} : Rd H a (excO a (He.ga K cls) (some d)) → Rd H d (.xd vs) → Flds K H vs fs → Dat K H (.ref a) (excD cls fs)
inductive Dats (K : PySem.W.Frag) (H : Hp) : List V → List D → Prop
  | nil : Dats K H [] []
  | cons {v : V} {vs : List V} {d : D} {ds : List D} : Dat K H v d → Dats K H vs ds → Dats K H (v :: vs) (d :: ds)
inductive Flds (K : PySem.W.Frag) (H : Hp) : List (Str × V) → List (Str × D) → Prop
  | nil : Flds K H [] []
  | cons {f : Str} {v : V} {x : D} {vs : List (Str × V)} {xs : List (Str × D)} : Dat K H v x → Flds K H vs xs → Flds K H ((f, v) :: vs) ((f, x) :: xs)
inductive Datp (K : PySem.W.Frag) (H : Hp) : List (Key × V) → List (D × D) → Prop
  | nil : Datp K H [] []
  | cons {k : Key} {v : V} {ks : List (Key × V)} {d : D} {ds : List (D × D)} : Dat K H v d → Datp K H ks ds → Datp K H ((k, v) :: ks) ((kD k, d) :: ds)
end
variable {K : PySem.W.Frag} {F F' H H' H1 : Hp}
/-- what may be read in the one may be read so in the other -/
def Le (H H' : Hp) : Prop := ∀ a u, Rd H a u → Rd H' a u
theorem Le.refl (H : Hp) : Le H H := fun _ _ h => h
theorem Le.trans {H H1 H2 : Hp} (a : Le H H1) (b : Le H1 H2) : Le H H2 := fun c o h => b c o (a c o h)
theorem rd_mono {a : Addr} {u : HO} (e : Same H H') : Rd H a u → Rd H' a u
  | .inl h => .inl (e _ _ h)
  | .inr ⟨o, h⟩ => .inr ⟨o, e _ _ h⟩
theorem Le.of (e : Same H H') : Le H H' := fun _ _ h => rd_mono e h
theorem rd_some {a : Addr} {u : HO} : Rd H a u → H a ≠ none
  | .inl h => by rw [h]; simp
  | .inr ⟨o, h⟩ => by rw [h]; simp
theorem Le.free (e : Le H H') {p : Addr} (np : H' p = none) : H p = none := by
  cases q : H p with
  | none => rfl
  | some o => exact absurd np (rd_some (e p o (.inl q)))
theorem Le.seq {a : Addr} {xs : List V} (e : Le H H') : SqL K H a xs → SqL K H' a xs
  | .inl h => .inl (e _ _ h)
  | .inr h => .inr h
theorem sqt_mono {a : Addr} {xs : List V} (e : Le H H') : SqT K H a xs → SqT K H' a xs
  | .inl h => .inl (e _ _ h)
  | .inr h => .inr h
mutual
theorem Dat.mono (e : Le H H') : ∀ {v : V} {d : D}, Dat K H v d → Dat K H' v d
  | _, _, .non => .non
  | _, _, .bl b => .bl b
  | _, _, .int i => .int i
  | _, _, .str x => .str x
  | _, _, .lst h t => .lst (e.seq h) (Dats.mono e t)
  | _, _, .tup h t => .tup (sqt_mono e h) (Dats.mono e t)
  | _, _, .dct h t => .dct (e _ _ h) (Datp.mono e t)
  | _, _, .dcT h => .dcT (e _ _ h)
  | _, _, .exc0 h => .exc0 (e _ _ h)
  | _, _, .exc1 h h2 t => .exc1 (e _ _ h) (e _ _ h2) (Flds.mono e t)
theorem Flds.mono (e : Le H H') : ∀ {v : List (Str × V)} {d : List (Str × D)}, Flds K H v d → Flds K H' v d
  | _, _, .nil => .nil
  | _, _, .cons h t => .cons (Dat.mono e h) (Flds.mono e t)
theorem Dats.mono (e : Le H H') : ∀ {v : List V} {d : List D}, Dats K H v d → Dats K H' v d
  | _, _, .nil => .nil
  | _, _, .cons h t => .cons (Dat.mono e h) (Dats.mono e t)
theorem Datp.mono (e : Le H H') : ∀ {v : List (Key × V)} {d : List (D × D)}, Datp K H v d → Datp K H' v d
  | _, _, .nil => .nil
  | _, _, .cons h t => .cons (Dat.mono e h) (Datp.mono e t)
end
theorem Dats.length : ∀ {vs : List V} {ds : List D}, Dats K H vs ds → vs.length = ds.length
  | _, _, .nil => rfl
  | _, _, .cons _ t => congrArg (· + 1) (Dats.length t)
theorem Dats.get : ∀ {vs : List V} {ds : List D} {i : Nat} {x : D}, Dats K H vs ds → ds[i]? = some x → ∃ v, vs[i]? = some v ∧ Dat K H v x
  | _, _, _, _, .nil, e => by simp at e
  | _, _, 0, _, .cons h _, e => by simp at e; subst e; exact ⟨_, rfl, h⟩
  | _, _, i + 1, x, .cons _ t, e => by
    obtain ⟨v, h1, h2⟩ := Dats.get (i := i) (x := x) t (by simpa using e)
    exact ⟨v, by simpa using h1, h2⟩
theorem Dats.getV : ∀ {vs : List V} {ds : List D} {i : Nat} {v : V}, Dats K H vs ds → vs[i]? = some v → ∃ x, ds[i]? = some x ∧ Dat K H v x
  | _, _, _, _, .nil, e => by simp at e
  | _, _, 0, _, .cons h _, e => by simp at e; subst e; exact ⟨_, rfl, h⟩
  | _, _, i + 1, x, .cons _ t, e => by
    obtain ⟨v, h1, h2⟩ := Dats.getV (i := i) (v := x) t (by simpa using e)
    exact ⟨v, by simpa using h1, h2⟩
theorem Dats.append : ∀ {vs ws : List V} {ds es : List D}, Dats K H vs ds → Dats K H ws es → Dats K H (vs ++ ws) (ds ++ es)
  | _, _, _, _, .nil, s => s
  | _, _, _, _, .cons h t, s => .cons h (Dats.append t s)
theorem Dats.take : ∀ {vs : List V} {ds : List D} (n : Nat), Dats K H vs ds → Dats K H (vs.take n) (ds.take n)
  | _, _, 0, _ => .nil
  | _, _, _ + 1, .nil => .nil
  | _, _, n + 1, .cons h t => .cons h (Dats.take n t)
theorem Dats.drop : ∀ {vs : List V} {ds : List D} (n : Nat), Dats K H vs ds → Dats K H (vs.drop n) (ds.drop n)
  | _, _, 0, r => r
  | _, _, _ + 1, .nil => .nil
  | _, _, n + 1, .cons _ t => Dats.drop n t
theorem Dats.set {v : V} {d : D} (r : Dat K H v d) : ∀ {vs : List V} {ds : List D} (i : Nat), Dats K H vs ds → Dats K H (vs.set i v) (ds.set i d)
  | _, _, _, .nil => .nil
  | _, _, 0, .cons _ t => .cons r t
  | _, _, i + 1, .cons q t => .cons q (Dats.set r i t)
/-! ### what a slot holds -/
/-- u: not told; d: data that is never changed again; L, M: a list, a dict of the def's own (or, labelled, of a caller's) -/
inductive SV where
  | u
  | d (x : D)
  | L (k : Nat) (xs : List D)
  | M (k : Nat) (ks : List (Key × D))
def SV.own : SV → Bool
  | .L _ _ => true
  | .M _ _ => true
  | _ => false
def SV.lab : SV → Nat
  | .L k _ => k
  | .M k _ => k
  | _ => 0
inductive DKs (K : PySem.W.Frag) (H : Hp) : List (Key × V) → List (Key × D) → Prop
  | nil : DKs K H [] []
  | cons {k : Key} {v : V} {ks : List (Key × V)} {d : D} {ds : List (Key × D)} : Dat K H v d → DKs K H ks ds → DKs K H ((k, v) :: ks) ((k, d) :: ds)
theorem DKs.mono (e : Le H H') : ∀ {v : List (Key × V)} {d : List (Key × D)}, DKs K H v d → DKs K H' v d
  | _, _, .nil => .nil
  | _, _, .cons h t => .cons (h.mono e) (DKs.mono e t)
def kvD (ks : List (Key × D)) : List (D × D) := ks.map fun p => (kD p.1, p.2)
theorem DKs.datp : ∀ {v : List (Key × V)} {d : List (Key × D)}, DKs K H v d → Datp K H v (kvD d)
  | _, _, .nil => .nil
  | _, _, .cons h t => .cons h (DKs.datp t)
/-- what does not change while a def's body runs. H0, F0: the heap and its frozen part at the entry; A0: the callers' objects that the body may change; lm: where they stand -/
structure DC where
  K : PySem.W.Frag
  lm : Nat → Addr
  H0 : Hp
  F0 : Hp
  A0 : Addr → Prop
def SlotOk (C : DC) (F H : Hp) (x : Option V) : SV → Prop
  | .u => True
  | .d y => ∃ v, x = some v ∧ Dat C.K F v y
  | .L k ys => ∃ (a : Addr) (xs : List V), x = some (.ref a) ∧ (k ≠ 0 → C.lm k = a) ∧ H a = some (.lst xs) ∧ F a = none ∧ Dats C.K F xs ys
  | .M k ys => ∃ (a : Addr) (xs : List (Key × V)), x = some (.ref a) ∧ (k ≠ 0 → C.lm k = a) ∧ H a = some (.dK xs) ∧ F a = none ∧ DKs C.K F xs ys
def OwnedAt (σ : Sg) (δ : List SV) (a : Addr) : Prop := ∃ (i : Nat) (s : SV), δ[i]? = some s ∧ s.own = true ∧ σ[i]? = some (some (V.ref a))
structure Rp (C : DC) (F H : Hp) (σ : Sg) (δ : List SV) : Prop where
  ext : Le F H
  len : δ.length = σ.length
  slot : ∀ (i : Nat) x s, σ[i]? = some x → δ[i]? = some s → SlotOk C F H x s
  apart : ∀ (i j : Nat) s t a, δ[i]? = some s → s.own = true → δ[j]? = some t → t.own = true → σ[i]? = some (some (V.ref a)) → σ[j]? = some (some (V.ref a)) → i = j
  own0 : ∀ (i : Nat) s a, δ[i]? = some s → s.own = true → σ[i]? = some (some (V.ref a)) → (s.lab ≠ 0 → C.A0 a) ∧ (s.lab = 0 → C.H0 a = none)
  old : ∀ a o, C.H0 a = some o → ¬ C.A0 a → H a = some o ∧ (C.F0 a = none → F a = none)
  ext0 : Le C.F0 F
  pers : ∀ a, C.H0 a ≠ none → H a ≠ none
/-- what an expression may do -/
structure Stp (F H : Hp) (σ : Sg) (δ : List SV) (F' H' : Hp) (δ' : List SV) : Prop where
  ext : Le F F'
  frm : ∀ a o, H a = some o → ¬ OwnedAt σ δ a → H' a = some o ∧ (F a = none → F' a = none)
  pers : ∀ a, H a ≠ none → H' a ≠ none
  own : ∀ (i : Nat) (s : SV), δ'[i]? = some s → s.own = true → ∃ s0, δ[i]? = some s0 ∧ s0.own = true ∧ s0.lab = s.lab
theorem Stp.refl {σ : Sg} {δ : List SV} : Stp F H σ δ F H δ := ⟨Le.refl _, fun _ _ h _ => ⟨h, id⟩, fun _ h => h, fun _ s h e => ⟨s, h, e, rfl⟩⟩
theorem Stp.owned {σ : Sg} {δ δ' : List SV} (s : Stp F H σ δ F' H' δ') {a : Addr} : OwnedAt σ δ' a → OwnedAt σ δ a := fun ⟨i, t, h1, h2, h3⟩ =>
  let ⟨t0, g1, g2, _⟩ := s.own i t h1 h2
  ⟨i, t0, g1, g2, h3⟩
theorem Stp.trans {F1 F2 H1 H2 : Hp} {σ : Sg} {δ δ1 δ2 : List SV} (a : Stp F H σ δ F1 H1 δ1) (b : Stp F1 H1 σ δ1 F2 H2 δ2) : Stp F H σ δ F2 H2 δ2 where
  ext := a.ext.trans b.ext
  frm := fun c o h n =>
    let ⟨h1, f1⟩ := a.frm c o h n
    let ⟨h2, f2⟩ := b.frm c o h1 fun z => n (a.owned z)
    ⟨h2, fun z => f2 (f1 z)⟩
  pers := fun c h => b.pers c (a.pers c h)
  own := fun i s h e =>
    let ⟨s1, g1, g2, g3⟩ := b.own i s h e
    let ⟨s0, k1, k2, k3⟩ := a.own i s1 g1 g2
    ⟨s0, k1, k2, k3.trans g3⟩
section
variable {C : DC} {σ : Sg} {δ δ' : List SV}
theorem Rp.owned_there (R : Rp C F H σ δ) {a : Addr} : OwnedAt σ δ a → H a ≠ none ∧ F a = none := fun ⟨i, s, h1, h2, h3⟩ => by
  have q := R.slot i _ s h3 h1
  cases s with
  | u => cases h2
  | d x => cases h2
  | L k xs =>
    obtain ⟨b, ys, e, _, hb, fb, _⟩ := q
    cases e
    exact ⟨by rw [hb]; simp, fb⟩
  | M k xs =>
    obtain ⟨b, ys, e, _, hb, fb, _⟩ := q
    cases e
    exact ⟨by rw [hb]; simp, fb⟩
theorem Rp.fresh_own (R : Rp C F H σ δ) {p : Addr} (np : H p = none) : ¬ OwnedAt σ δ p := fun h => (R.owned_there h).1 np
theorem Rp.freshF (R : Rp C F H σ δ) {p : Addr} (np : H p = none) : F p = none := R.ext.free np
theorem Rp.fresh0 (R : Rp C F H σ δ) {p : Addr} (np : H p = none) : C.H0 p = none := by
  cases e : C.H0 p with
  | none => rfl
  | some o => exact absurd np (R.pers p (by rw [e]; simp))
theorem Rp.own_ref (R : Rp C F H σ δ) {i : Nat} {s : SV} (h : δ[i]? = some s) (e : s.own = true) : ∃ a, σ[i]? = some (some (V.ref a)) := by
  have hl := R.len
  have hi : i < σ.length := by
    have := (List.getElem?_eq_some_iff.mp h).1
    omega
  have hx : σ[i]? = some σ[i] := List.getElem?_eq_getElem hi
  have q := R.slot i _ s hx h
  cases s with
  | u => cases e
  | d x => cases e
  | L k xs =>
    obtain ⟨b, ys, e, _⟩ := q
    exact ⟨b, by rw [hx, e]⟩
  | M k xs =>
    obtain ⟨b, ys, e, _⟩ := q
    exact ⟨b, by rw [hx, e]⟩
/-- the state behind a step, from its slots -/
theorem Rp.step (R : Rp C F H σ δ) (S : Stp F H σ δ F' H' δ') (e : Le F' H') (l : δ'.length = δ.length) (sl : ∀ (i : Nat) x s, σ[i]? = some x → δ'[i]? = some s → SlotOk C F' H' x s) : Rp C F' H' σ δ' where
  ext := e
  len := l.trans R.len
  slot := sl
  apart := fun i j s t a h1 h2 h3 h4 h5 h6 =>
    let ⟨s0, g1, g2, _⟩ := S.own i s h1 h2
    let ⟨t0, k1, k2, _⟩ := S.own j t h3 h4
    R.apart i j s0 t0 a g1 g2 k1 k2 h5 h6
  own0 := fun i s a h1 h2 h3 =>
    let ⟨s0, g1, g2, g3⟩ := S.own i s h1 h2
    let ⟨p, q⟩ := R.own0 i s0 a g1 g2 h3
    ⟨fun z => p (by rw [g3]; exact z), fun z => q (by rw [g3]; exact z)⟩
  old := fun a o h n => by
    obtain ⟨h1, f1⟩ := R.old a o h n
    have no : ¬ OwnedAt σ δ a := fun ⟨i, s, q1, q2, q3⟩ => by
      obtain ⟨p, q⟩ := R.own0 i s a q1 q2 q3
      by_cases z : s.lab = 0
      · rw [q z] at h; cases h
      · exact n (p z)
    obtain ⟨h2, f2⟩ := S.frm a o h1 no
    exact ⟨h2, fun z => f2 (f1 z)⟩
  ext0 := R.ext0.trans S.ext
  pers := fun a h => S.pers a (R.pers a h)
theorem SlotOk.mono {x : Option V} {s : SV} (q : SlotOk C F H x s) (e : Le F F') (k : ∀ a, x = some (V.ref a) → s.own = true → ∀ o, H a = some o → H' a = some o ∧ F' a = none) : SlotOk C F' H' x s := by
  cases s with
  | u => trivial
  | d y =>
    obtain ⟨v, e1, h⟩ := q
    exact ⟨v, e1, h.mono e⟩
  | L n ys =>
    obtain ⟨a, xs, e1, l, h, f, d⟩ := q
    obtain ⟨h', f'⟩ := k a e1 rfl _ h
    exact ⟨a, xs, e1, l, h', f', d.mono e⟩
  | M n ys =>
    obtain ⟨a, xs, e1, l, h, f, d⟩ := q
    obtain ⟨h', f'⟩ := k a e1 rfl _ h
    exact ⟨a, xs, e1, l, h', f', d.mono e⟩
theorem le_upd {p : Addr} {o : HO} (np : H p = none) : Le H (upd H p o) := Le.of fun b u e => by rw [upd_ne (ne_of_none e np)]; exact e
theorem le_upd2 {p : Addr} {o : HO} (e : Le F H) : Le (upd F p o) (upd H p o) := fun b u h => by
  by_cases hb : b = p
  · subst hb
    unfold Rd at h ⊢
    rw [upd_same] at h ⊢
    exact h
  · unfold Rd at h ⊢
    rw [upd_ne hb] at h ⊢
    exact e b u h
theorem le_upd1 {p : Addr} {o : HO} (e : Le F H) (hp : H p = some o) : Le (upd F p o) H := fun b u h => by
  by_cases hb : b = p
  · subst hb
    unfold Rd at h ⊢
    rw [upd_same] at h
    rw [hp]
    exact h
  · unfold Rd at h
    rw [upd_ne hb] at h
    exact e b u h
theorem le_updr {p : Addr} {o : HO} (e : Le F H) (hp : F p = none) : Le F (upd H p o) := fun b u h => by
  have hb : b ≠ p := fun z => rd_some h (by rw [z]; exact hp)
  have q := e b u h
  unfold Rd at q ⊢
  rw [upd_ne hb]
  exact q
theorem same_upd {p : Addr} {o : HO} (np : H p = none) : Same H (upd H p o) := fun b u e => by rw [upd_ne (ne_of_none e np)]; exact e
/-- nothing that stands is changed, nothing of it is frozen -/
theorem Rp.grow (R : Rp C F H σ δ) (eF : Le F F') (eH : Same H H') (e : Le F' H') (k : ∀ a, H a ≠ none → F a = none → F' a = none) : Stp F H σ δ F' H' δ ∧ Rp C F' H' σ δ := by
  have S : Stp F H σ δ F' H' δ := ⟨eF, fun a o h _ => ⟨eH _ _ h, k a (by rw [h]; simp)⟩, fun a h z => h (eH.free z), fun _ s h e => ⟨s, h, e, rfl⟩⟩
  refine ⟨S, R.step S e rfl fun i x s hx hs => (R.slot i x s hx hs).mono eF fun a ea es o ho => ⟨eH _ _ ho, ?_⟩⟩
  subst ea
  exact k a (by rw [ho]; simp) (R.owned_there ⟨i, s, hs, es, hx⟩).2
/-- a new object, frozen -/
theorem Rp.newF (R : Rp C F H σ δ) {p : Addr} (o : HO) (np : H p = none) : Stp F H σ δ (upd F p o) (upd H p o) δ ∧ Rp C (upd F p o) (upd H p o) σ δ := by
  have nf := R.freshF np
  refine R.grow (le_upd nf) (same_upd np) (le_upd2 R.ext) fun a h f => ?_
  have : a ≠ p := fun z => h (z ▸ np)
  rw [upd_ne this]; exact f
/-- a new object, not frozen -/
theorem Rp.newG (R : Rp C F H σ δ) {p : Addr} (o : HO) (np : H p = none) : Stp F H σ δ F (upd H p o) δ ∧ Rp C F (upd H p o) σ δ :=
  R.grow (Le.refl _) (same_upd np) (R.ext.trans (le_upd np)) fun _ _ f => f
/-- the frozen part grows by one thing that is no slot's -/
theorem Rp.freeze (R : Rp C F H σ δ) {p : Addr} {o : HO} (hp : H p = some o) (hf : F p = none) (no : ¬ OwnedAt σ δ p) (n0 : C.H0 p = none) : Rp C (upd F p o) H σ δ where
  ext := le_upd1 R.ext hp
  len := R.len
  slot := fun i x s hx hs => (R.slot i x s hx hs).mono (le_upd hf) fun a ea es u hu => ⟨hu, by
    subst ea
    rw [upd_ne (fun z => no (by rw [← z]; exact ⟨i, s, hs, es, hx⟩))]
    exact (R.owned_there ⟨i, s, hs, es, hx⟩).2⟩
  apart := R.apart
  own0 := R.own0
  old := fun a u h n => by
    obtain ⟨h1, f1⟩ := R.old a u h n
    refine ⟨h1, fun z => ?_⟩
    have : a ≠ p := fun q => by rw [q, n0] at h; cases h
    rw [upd_ne this]; exact f1 z
  ext0 := R.ext0.trans (le_upd hf)
  pers := R.pers
theorem get_set {α : Type} {l : List α} {i : Nat} {x y : α} {j : Nat} (h : (l.set i x)[j]? = some y) : (j = i ∧ y = x ∧ i < l.length) ∨ (j ≠ i ∧ l[j]? = some y) := by
  by_cases e : j = i
  · subst e
    have hl : j < l.length := by
      have := (List.getElem?_eq_some_iff.mp h).1
      simpa using this
    rw [List.getElem?_set_self hl] at h
    cases h
    exact .inl ⟨rfl, rfl, hl⟩
  · rw [List.getElem?_set_ne (Ne.symm e)] at h
    exact .inr ⟨e, h⟩
/-- a slot's own object is written -/
theorem Rp.write (R : Rp C F H σ δ) {i : Nat} {s s' : SV} {a : Addr} {o : HO} (hs : δ[i]? = some s) (ho : s.own = true) (ha : σ[i]? = some (some (V.ref a))) (ho' : s'.own = true) (hl : s'.lab = s.lab)
    (new : SlotOk C F (upd H a o) (some (.ref a)) s') : Stp F H σ δ F (upd H a o) (δ.set i s') ∧ Rp C F (upd H a o) σ (δ.set i s') := by
  have own : OwnedAt σ δ a := ⟨i, s, hs, ho, ha⟩
  obtain ⟨hH, hF⟩ := R.owned_there own
  have S : Stp F H σ δ F (upd H a o) (δ.set i s') := by
    refine ⟨Le.refl _, fun b u h n => ⟨?_, id⟩, fun b h => ?_, fun j t ht et => ?_⟩
    · rw [upd_ne (fun z => n (by rw [z]; exact own))]; exact h
    · by_cases hb : b = a
      · subst hb; rw [upd_same]; simp
      · rw [upd_ne hb]; exact h
    · rcases get_set ht with ⟨rfl, rfl, _⟩ | ⟨_, h⟩
      · exact ⟨s, hs, ho, hl.symm⟩
      · exact ⟨t, h, et, rfl⟩
  refine ⟨S, R.step S (le_updr R.ext hF) (by simp) fun j x t hx ht => ?_⟩
  · rcases get_set ht with ⟨rfl, rfl, _⟩ | ⟨hne, h⟩
    · rw [ha] at hx; cases hx; exact new
    · refine (R.slot j x t hx h).mono (Le.refl _) fun b eb et u hu => ?_
      subst eb
      have : b ≠ a := fun z => hne (R.apart j i t s b h et hs ho hx (by rw [z]; exact ha))
      exact ⟨by rw [upd_ne this]; exact hu, (R.owned_there ⟨j, t, h, et, hx⟩).2⟩
/-- a slot's own object is frozen -/
theorem Rp.freezeS (R : Rp C F H σ δ) {i : Nat} {s : SV} {a : Addr} {o : HO} {x : D} (hs : δ[i]? = some s) (ho : s.own = true) (ha : σ[i]? = some (some (V.ref a))) (hH : H a = some o)
    (new : Dat C.K (upd F a o) (.ref a) x) : Stp F H σ δ (upd F a o) H (δ.set i (.d x)) ∧ Rp C (upd F a o) H σ (δ.set i (.d x)) := by
  have own : OwnedAt σ δ a := ⟨i, s, hs, ho, ha⟩
  obtain ⟨_, hF⟩ := R.owned_there own
  have S : Stp F H σ δ (upd F a o) H (δ.set i (.d x)) := by
    refine ⟨le_upd hF, fun b u h n => ⟨h, fun f => ?_⟩, fun b h => h, fun j t ht et => ?_⟩
    · rw [upd_ne (fun z => n (by rw [z]; exact own))]; exact f
    · rcases get_set ht with ⟨rfl, rfl, _⟩ | ⟨_, h⟩
      · cases et
      · exact ⟨t, h, et, rfl⟩
  refine ⟨S, R.step S (le_upd1 R.ext hH) (by simp) fun j y t hx ht => ?_⟩
  · rcases get_set ht with ⟨rfl, rfl, _⟩ | ⟨hne, h⟩
    · rw [ha] at hx; cases hx; exact ⟨_, rfl, new⟩
    · refine (R.slot j y t hx h).mono (le_upd hF) fun b eb et u hu => ?_
      subst eb
      have : b ≠ a := fun z => hne (R.apart j i t s b h et hs ho hx (by rw [z]; exact ha))
      exact ⟨hu, by rw [upd_ne this]; exact (R.owned_there ⟨j, t, h, et, hx⟩).2⟩
/-- a slot is set to data -/
theorem Rp.setD (R : Rp C F H σ δ) {i : Nat} {v : V} {x : D} (h : Dat C.K F v x) : Rp C F H (σ.set i (some v)) (δ.set i (.d x)) where
  ext := R.ext
  len := by simpa using R.len
  slot := fun j y t hy ht => by
    rcases get_set ht with ⟨rfl, rfl, _⟩ | ⟨hne, h2⟩
    · rcases get_set hy with ⟨_, rfl, _⟩ | ⟨q, _⟩
      · exact ⟨v, rfl, h⟩
      · exact absurd rfl q
    · rw [List.getElem?_set_ne (Ne.symm hne)] at hy
      exact R.slot j y t hy h2
  apart := fun j k s t a h1 h2 h3 h4 h5 h6 => by
    rcases get_set h1 with ⟨rfl, rfl, _⟩ | ⟨n1, g1⟩
    · cases h2
    · rcases get_set h3 with ⟨rfl, rfl, _⟩ | ⟨n2, g2⟩
      · cases h4
      · rw [List.getElem?_set_ne (Ne.symm n1)] at h5
        rw [List.getElem?_set_ne (Ne.symm n2)] at h6
        exact R.apart j k s t a g1 h2 g2 h4 h5 h6
  own0 := fun j s a h1 h2 h3 => by
    rcases get_set h1 with ⟨rfl, rfl, _⟩ | ⟨n1, g1⟩
    · cases h2
    · rw [List.getElem?_set_ne (Ne.symm n1)] at h3
      exact R.own0 j s a g1 h2 h3
  old := R.old
  ext0 := R.ext0
  pers := R.pers
/-- a slot is set to something new of one's own -/
theorem Rp.setN (R : Rp C F H σ δ) {i : Nat} {p : Addr} {s : SV} (hs : s.own = true) (hl : s.lab = 0) (n0 : C.H0 p = none) (no : ¬ OwnedAt σ δ p) (new : SlotOk C F H (some (.ref p)) s) : Rp C F H (σ.set i (some (.ref p))) (δ.set i s) where
  ext := R.ext
  len := by simpa using R.len
  slot := fun j y t hy ht => by
    rcases get_set ht with ⟨rfl, rfl, _⟩ | ⟨hne, h2⟩
    · rcases get_set hy with ⟨_, rfl, _⟩ | ⟨q, _⟩
      · exact new
      · exact absurd rfl q
    · rw [List.getElem?_set_ne (Ne.symm hne)] at hy
      exact R.slot j y t hy h2
  apart := fun j k s' t a h1 h2 h3 h4 h5 h6 => by
    rcases get_set h1 with ⟨rfl, rfl, _⟩ | ⟨n1, g1⟩
    · rcases get_set h3 with ⟨rfl, rfl, _⟩ | ⟨n2, g2⟩
      · rfl
      · rw [List.getElem?_set_ne (Ne.symm n2)] at h6
        rcases get_set h5 with ⟨_, e, _⟩ | ⟨q, _⟩
        · cases e
          exact absurd ⟨k, t, g2, h4, h6⟩ no
        · exact absurd rfl q
    · rcases get_set h3 with ⟨rfl, rfl, _⟩ | ⟨n2, g2⟩
      · rw [List.getElem?_set_ne (Ne.symm n1)] at h5
        rcases get_set h6 with ⟨_, e, _⟩ | ⟨q, _⟩
        · cases e
          exact absurd ⟨j, s', g1, h2, h5⟩ no
        · exact absurd rfl q
      · rw [List.getElem?_set_ne (Ne.symm n1)] at h5
        rw [List.getElem?_set_ne (Ne.symm n2)] at h6
        exact R.apart j k s' t a g1 h2 g2 h4 h5 h6
  own0 := fun j s' a h1 h2 h3 => by
    rcases get_set h1 with ⟨rfl, rfl, _⟩ | ⟨n1, g1⟩
    · rcases get_set h3 with ⟨_, e, _⟩ | ⟨q, _⟩
      · cases e
        exact ⟨fun z => absurd hl z, fun _ => n0⟩
      · exact absurd rfl q
    · rw [List.getElem?_set_ne (Ne.symm n1)] at h3
      exact R.own0 j s' a g1 h2 h3
  old := R.old
  ext0 := R.ext0
  pers := R.pers
end
end DL

namespace DL
open PySem PySem.Spec PyProof.Rows L2
/-! ### what an expression gives: data; a slot's own object; a new list, a new dict -/
inductive Res where
  | d (x : D)
  | b (i : Nat)
  | nL (xs : List D)
  | nM (ks : List (Key × D))
def Res.isPk : Res → Bool
  | .d _ => true
  | .b _ => true
  | _ => false
/-- an exception: its class, its fields -/
structure XD where
  cls : Str
  fs : Option (List (Str × D))
inductive ER (α : Type) where
  | ok (r : α) (δ : List SV)
  | ex (e : XD) (δ : List SV)
abbrev SEa (α : Type) := List SV → Option (ER α)
abbrev SE := SEa Res
abbrev SB := SEa Bool
abbrev SA := SEa (List Res)
def pureE {α : Type} (r : α) : SEa α := fun δ => some (.ok r δ)
def bindE {α β : Type} (f : SEa α) (k : α → SEa β) : SEa β := fun δ =>
  match f δ with
  | none => none
  | some (.ok r δ') => k r δ'
  | some (.ex e δ') => some (.ex e δ')
abbrev XW := Value → Option Addr → Sg → Hp → Prop
def RV (C : DC) (F H : Hp) (σ : Sg) (Hs : Hp) (v : V) : Res → Prop
  | .d x => Dat C.K F v x
  | .b i => σ[i]? = some (some v)
  | .nL xs => ∃ (p : Addr) (vs : List V), v = .ref p ∧ H p = some (.lst vs) ∧ F p = none ∧ Dats C.K F vs xs ∧ Hs p = none
  | .nM ks => ∃ (p : Addr) (vs : List (Key × V)), v = .ref p ∧ H p = some (.dK vs) ∧ F p = none ∧ DKs C.K F vs ks ∧ Hs p = none
def XOk (C : DC) (F H : Hp) (e : XD) (od : Option Addr) : Prop :=
  match e.fs with
  | none => od = none
  | some fs => ∃ (d : Addr) (vs : List (Str × V)), od = some d ∧ Rd F d (.xd vs) ∧ Flds C.K F vs fs
section
variable {α β γ : Type} {C : DC} {W : XW} {F F' F1 H H' H1 Hs Hs' : Hp} {σ : Sg} {δ δ' δ1 : List SV} {v : V} {r : Res}
theorem RV.hs (h : RV C F H σ Hs v r) (k : ∀ p, Hs p = none → Hs' p = none) : RV C F H σ Hs' v r := by
  cases r with
  | d x => exact h
  | b i => exact h
  | nL xs => obtain ⟨p, vs, a, b, c, d, e⟩ := h; exact ⟨p, vs, a, b, c, d, k p e⟩
  | nM xs => obtain ⟨p, vs, a, b, c, d, e⟩ := h; exact ⟨p, vs, a, b, c, d, k p e⟩
theorem RV.after (h : RV C F H σ Hs v r) (hp : r.isPk = true) (S : Stp F H σ δ F' H' δ') : RV C F' H' σ Hs' v r := by
  cases r with
  | d x => exact Dat.mono S.ext h
  | b i => exact h
  | nL xs => cases hp
  | nM xs => cases hp
def Res.get (r : Res) (δ : List SV) : Option D :=
  match r with
  | .d x => some x
  | .b i => match δ[i]? with
    | some (.d x) => some x
    | some (.L _ xs) => some (.list xs)
    | some (.M _ ks) => some (.dict (kvD ks))
    | _ => none
  | _ => none
/-- data that is looked at: its items are frozen, it may itself be a slot's own -/
def DatP (K : PySem.W.Frag) (F H : Hp) (v : V) (x : D) : Prop :=
  Dat K F v x ∨ (∃ (a : Addr) (vs : List V) (ds : List D), v = .ref a ∧ x = .list ds ∧ H a = some (.lst vs) ∧ Dats K F vs ds) ∨
    ∃ (a : Addr) (ks : List (Key × V)) (ds : List (Key × D)), v = .ref a ∧ x = .dict (kvD ds) ∧ H a = some (.dK ks) ∧ DKs K F ks ds
theorem DatP.dat {K : PySem.W.Frag} {x : D} (e : Le F H) : DatP K F H v x → Dat K H v x
  | .inl h => Dat.mono e h
  | .inr (.inl ⟨a, vs, ds, e1, e2, h, t⟩) => by subst e1 e2; exact .lst (SqL.of h) (t.mono e)
  | .inr (.inr ⟨a, vs, ds, e1, e2, h, t⟩) => by subst e1 e2; exact .dct (.inl h) ((t.mono e).datp)
theorem DatP.lst {K : PySem.W.Frag} {ds : List D} (e : Le F H) : DatP K F H v (.list ds) → ∃ a vs, v = .ref a ∧ SqL K H a vs ∧ Dats K F vs ds
  | .inl (.lst h t) => ⟨_, _, rfl, e.seq h, t⟩
  | .inr (.inl ⟨a, vs, ds, e1, e2, h, t⟩) => by cases e2; exact ⟨a, vs, e1, SqL.of h, t⟩
  | .inr (.inr ⟨a, vs, ds, e1, e2, h, t⟩) => by cases e2
theorem DatP.tup {K : PySem.W.Frag} {ds : List D} (e : Le F H) : DatP K F H v (.tuple ds) → ∃ a vs, v = .ref a ∧ SqT K H a vs ∧ Dats K F vs ds
  | .inl (.tup h t) => ⟨_, _, rfl, sqt_mono e h, t⟩
  | .inr (.inl ⟨a, vs, ds, e1, e2, h, t⟩) => by cases e2
  | .inr (.inr ⟨a, vs, ds, e1, e2, h, t⟩) => by cases e2
def isOpq : List (D × D) → Bool
  | (.tuple [], _) :: _ => true
  | _ => false
theorem isOpq_kv (ks : List (Key × D)) : isOpq (ks.map fun p => (kD p.1, p.2)) = false := by
  cases ks with
  | nil => rfl
  | cons p r =>
    obtain ⟨k, x⟩ := p
    cases k <;> rfl
theorem DatP.dct {K : PySem.W.Frag} {ds : List (D × D)} (e : Le F H) (n : isOpq ds = false) : DatP K F H v (.dict ds) → ∃ a ks, v = .ref a ∧ Rd H a (.dK ks) ∧ Datp K F ks ds
  | .inl (.dct h t) => ⟨_, _, rfl, e _ _ h, t⟩
  | .inl (.dcT h) => by cases n
  | .inl (.exc0 h) => by cases n
  | .inl (.exc1 h _ _) => by cases n
  | .inr (.inl ⟨a, vs, ds, e1, e2, h, t⟩) => by cases e2
  | .inr (.inr ⟨a, vs, ds, e1, e2, h, t⟩) => by cases e2; exact ⟨a, vs, e1, .inl h, t.datp⟩
theorem DatP.int {K : PySem.W.Frag} {i : Int} : DatP K F H v (.int i) → v = .int i
  | .inl (.int _) => rfl
  | .inr (.inl ⟨_, _, _, _, e2, _⟩) => by cases e2
  | .inr (.inr ⟨_, _, _, _, e2, _⟩) => by cases e2
theorem DatP.str {K : PySem.W.Frag} {i : Str} : DatP K F H v (.str i) → v = .str i
  | .inl (.str _) => rfl
  | .inr (.inl ⟨_, _, _, _, e2, _⟩) => by cases e2
  | .inr (.inr ⟨_, _, _, _, e2, _⟩) => by cases e2
theorem DatP.bl {K : PySem.W.Frag} {i : Bool} : DatP K F H v (.bool i) → v = .bl i
  | .inl (.bl _) => rfl
  | .inr (.inl ⟨_, _, _, _, e2, _⟩) => by cases e2
  | .inr (.inr ⟨_, _, _, _, e2, _⟩) => by cases e2
theorem DatP.non {K : PySem.W.Frag} : DatP K F H v .none → v = .non
  | .inl .non => rfl
  | .inr (.inl ⟨_, _, _, _, e2, _⟩) => by cases e2
  | .inr (.inr ⟨_, _, _, _, e2, _⟩) => by cases e2
theorem RV.get {x : D} (h : RV C F H σ Hs v r) (R : Rp C F H σ δ) (e : r.get δ = some x) : DatP C.K F H v x := by
  cases r with
  | d y => cases e; exact .inl h
  | b i =>
    have h : σ[i]? = some (some v) := h
    unfold Res.get at e
    cases q : δ[i]? with
    | none => simp [q] at e
    | some s =>
      have k := R.slot i _ s h q
      cases s with
      | u => simp [q] at e
      | d y =>
        simp [q] at e; subst e
        obtain ⟨w, e1, h1⟩ := k
        cases e1
        exact .inl h1
      | L n ys =>
        simp [q] at e; subst e
        obtain ⟨a, xs, e1, _, h1, _, h2⟩ := k
        cases e1
        exact .inr (.inl ⟨a, xs, ys, rfl, rfl, h1, h2⟩)
      | M n ys =>
        simp [q] at e; subst e
        obtain ⟨a, xs, e1, _, h1, _, h2⟩ := k
        cases e1
        exact .inr (.inr ⟨a, xs, ys, rfl, rfl, h1, h2⟩)
  | nL xs => cases e
  | nM xs => cases e

/-- the reading of a semantic function: RVa ties a value to what the function gives -/
def tX (C : DC) (W : XW) (RVa : Hp → Hp → Sg → Hp → β → α → Prop) (f : SEa α) (F H : Hp) (σ : Sg) (δ : List SV) (Q : β → Hp → Prop) : Prop :=
  Rp C F H σ δ ∧ match f δ with
    | none => False
    | some (.ok r δ') => ∀ v F' H', Stp F H σ δ F' H' δ' → Rp C F' H' σ δ' → RVa F' H' σ H v r → Q v H'
    | some (.ex e δ') => ∀ F' H' od, Stp F H σ δ F' H' δ' → Rp C F' H' σ δ' → XOk C F' H' e od → W (.ref (He.ga C.K e.cls)) od σ H'
theorem tX.bind {RVa : Hp → Hp → Sg → Hp → β → α → Prop} {γ' : Type} {RVb : Hp → Hp → Sg → Hp → γ → γ' → Prop} {f : SEa α} {k : α → SEa γ'} {Q : γ → Hp → Prop}
    (hs : ∀ F H σ v r, RVb F H σ H1 v r → RVb F H σ H1 v r)
    (mb : ∀ (F H : Hp) (σ : Sg) (Hs Hs' : Hp) (v : γ) (r : γ'), (∀ p, Hs p = none → Hs' p = none) → RVb F H σ Hs v r → RVb F H σ Hs' v r)
    (h : tX C W RVb (bindE f k) F H σ δ Q) : tX C W RVa f F H σ δ (fun v H1 => ∃ F1 δ1 r, f δ = some (.ok r δ1) ∧ Stp F H σ δ F1 H1 δ1 ∧ RVa F1 H1 σ H v r ∧ tX C W RVb (k r) F1 H1 σ δ1 Q) := by
  obtain ⟨R, h⟩ := h
  refine ⟨R, ?_⟩
  unfold bindE at h
  cases q : f δ with
  | none => rw [q] at h; exact h
  | some o =>
    rw [q] at h
    cases o with
    | ex e δ' => exact h
    | ok r δ1 =>
      intro v F1 H1 S R1 V1
      refine ⟨F1, δ1, r, rfl, S, V1, R1, ?_⟩
      cases q2 : k r δ1 with
      | none => simp only [q2] at h
      | some o2 =>
        simp only [q2] at h
        cases o2 with
        | ok r2 δ2 => exact fun v2 F2 H2 S2 R2 V2 => h v2 F2 H2 (S.trans S2) R2 (mb _ _ _ _ _ _ _ (fun p np => by
            cases z : H p with
            | none => rfl
            | some o => exact absurd np (S.pers p (by rw [z]; simp))) V2)
        | ex e δ2 => exact fun F2 H2 od S2 R2 X2 => h F2 H2 od (S.trans S2) R2 X2
theorem tX.mono {RVa : Hp → Hp → Sg → Hp → β → α → Prop} {f : SEa α} {Q Q' : β → Hp → Prop} (h : tX C W RVa f F H σ δ Q) (k : ∀ v H, Q v H → Q' v H) : tX C W RVa f F H σ δ Q' := by
  obtain ⟨R, h⟩ := h
  refine ⟨R, ?_⟩
  cases q : f δ with
  | none => rw [q] at h; exact h
  | some o =>
    rw [q] at h
    cases o with
    | ok r δ1 => exact fun v F1 H1 S R1 V1 => k _ _ (h v F1 H1 S R1 V1)
    | ex e δ1 => exact h
/-- the end of a chain: the function is known -/
theorem tX.ok {RVa : Hp → Hp → Sg → Hp → β → α → Prop} {f : SEa α} {Q : β → Hp → Prop} {r : α} (h : tX C W RVa f F H σ δ Q) (e : f δ = some (.ok r δ')) :
    ∀ v F' H', Stp F H σ δ F' H' δ' → Rp C F' H' σ δ' → RVa F' H' σ H v r → Q v H' := by
  obtain ⟨_, h⟩ := h
  rw [e] at h
  exact h
theorem tX.some {RVa : Hp → Hp → Sg → Hp → β → α → Prop} {f : SEa α} {Q : β → Hp → Prop} (h : tX C W RVa f F H σ δ Q) : ∃ o, f δ = some o := by
  obtain ⟨_, h⟩ := h
  cases q : f δ with
  | none => rw [q] at h; exact h.elim
  | some o => exact ⟨o, rfl⟩
end
/-! ### values, tests, argument lists -/
def RB (C : DC) : Hp → Hp → Sg → Hp → Bool → Bool → Prop := fun _ _ _ _ v r => v = r
inductive RVs (C : DC) (F H : Hp) (σ : Sg) (Hs : Hp) : List V → List Res → Prop
  | nil : RVs C F H σ Hs [] []
  | cons {v : V} {r : Res} {vs : List V} {rs : List Res} : RV C F H σ Hs v r → r.isPk = true → RVs C F H σ Hs vs rs → RVs C F H σ Hs (v :: vs) (r :: rs)
abbrev RVl (C : DC) : Hp → Hp → Sg → Hp → V → Res → Prop := RV C
def tD (C : DC) (W : XW) (f : SE) : TE := fun σ H Q => ∃ F δ, tX C W (RVl C) f F H σ δ Q
def tT (C : DC) (W : XW) (f : SB) : TT := fun σ H Q => ∃ F δ, tX C W (RB C) f F H σ δ Q
def tAr (C : DC) (W : XW) (f : SA) : TA := fun σ H Q => ∃ F δ, tX C W (RVs C) f F H σ δ Q
def DE (X : Cx) (C : DC) (W : XW) (e : Expr) (f : SE) : Prop := PE X e (tD C W f)
def DT (X : Cx) (C : DC) (W : XW) (e : Expr) (f : SB) : Prop := PT X e (tT C W f)
def DW (X : Cx) (C : DC) (W : XW) (e : Expr) (f : SB) : Prop := PW X e (tT C W f)
def DA (X : Cx) (C : DC) (W : XW) (es : List Expr) (f : SA) : Prop := PA X es (tAr C W f)
theorem pe_mono {X : Cx} {e : Expr} {t t' : TE} (h : PE X e t) (k : ∀ σ H Q, t' σ H Q → t σ H Q) : PE X e t' := ⟨fun pins s σ H Q I q => h.run pins s σ H Q I (k σ H Q q)⟩
theorem pt_mono {X : Cx} {e : Expr} {t t' : TT} (h : PT X e t) (k : ∀ σ H Q, t' σ H Q → t σ H Q) : PT X e t' := ⟨fun pins s σ H Q I q => h.run pins s σ H Q I (k σ H Q q)⟩
theorem pw_mono {X : Cx} {e : Expr} {t t' : TT} (h : PW X e t) (k : ∀ σ H Q, t' σ H Q → t σ H Q) : PW X e t' := ⟨fun wh pins s σ H Q I q => h.run wh pins s σ H Q I (k σ H Q q)⟩
theorem pa_mono {X : Cx} {e : List Expr} {t t' : TA} (h : PA X e t) (k : ∀ σ H Q, t' σ H Q → t σ H Q) : PA X e t' := ⟨fun pos pins s σ H Q I q => h.run pos pins s σ H Q I (k σ H Q q)⟩
theorem ps_mono {X : Cx} {e : Stmt} {t t' : TS} (h : PS X e t) (k : ∀ D σ H, t' D σ H → t D σ H) : PS X e t' := ⟨fun pins s σ H D I q => h.run pins s σ H D I (k D σ H q)⟩
theorem pss_mono {X : Cx} {e : List Stmt} {t t' : TS} (h : PSs X e t) (k : ∀ D σ H, t' D σ H → t D σ H) : PSs X e t' := ⟨fun pins s σ H D I q => h.run pins s σ H D I (k D σ H q)⟩
section
variable {X : Cx} {C : DC} {W : XW} {a b e : Expr} {fa fb f : SE} {pos : Pos}
theorem RV.hs' {F H : Hp} {σ : Sg} {Hs Hs' : Hp} {v : V} {r : Res} (k : ∀ p, Hs p = none → Hs' p = none) (h : RVl C F H σ Hs v r) : RVl C F H σ Hs' v r := RV.hs h k
/-- a bind, read from the left (values) -/
theorem bindV {α γ : Type} {F H : Hp} {σ : Sg} {δ : List SV} {RVb : Hp → Hp → Sg → Hp → γ → α → Prop} {k : Res → SEa α} {Q : γ → Hp → Prop}
    (mb : ∀ (F H : Hp) (σ : Sg) (Hs Hs' : Hp) (v : γ) (r : α), (∀ p, Hs p = none → Hs' p = none) → RVb F H σ Hs v r → RVb F H σ Hs' v r)
    (h : tX C W RVb (bindE f k) F H σ δ Q) {Q' : V → Hp → Prop}
    (c : ∀ v F1 H1 δ1 r, f δ = some (.ok r δ1) → Stp F H σ δ F1 H1 δ1 → Rp C F1 H1 σ δ1 → RV C F1 H1 σ H v r → tX C W RVb (k r) F1 H1 σ δ1 Q → Q' v H1) : tD C W f σ H Q' :=
  ⟨F, δ, (tX.bind (RVa := RVl C) (H1 := H) (fun _ _ _ _ _ z => z) mb h).mono fun v H1 ⟨F1, δ1, r, q1, q2, q3, q4⟩ => c v F1 H1 δ1 r q1 q2 q4.1 q3 q4⟩
theorem bindT {α γ : Type} {F H : Hp} {σ : Sg} {δ : List SV} {RVb : Hp → Hp → Sg → Hp → γ → α → Prop} {g : SB} {k : Bool → SEa α} {Q : γ → Hp → Prop}
    (mb : ∀ (F H : Hp) (σ : Sg) (Hs Hs' : Hp) (v : γ) (r : α), (∀ p, Hs p = none → Hs' p = none) → RVb F H σ Hs v r → RVb F H σ Hs' v r)
    (h : tX C W RVb (bindE g k) F H σ δ Q) {Q' : Bool → Hp → Prop}
    (c : ∀ v F1 H1 δ1, g δ = some (.ok v δ1) → Stp F H σ δ F1 H1 δ1 → Rp C F1 H1 σ δ1 → tX C W RVb (k v) F1 H1 σ δ1 Q → Q' v H1) : tT C W g σ H Q' :=
  ⟨F, δ, (tX.bind (RVa := RB C) (H1 := H) (fun _ _ _ _ _ z => z) mb h).mono fun v H1 ⟨F1, δ1, r, q1, q2, q3, q4⟩ => by
    have q3 : v = r := q3
    subst q3
    exact c v F1 H1 δ1 q1 q2 q4.1 q4⟩
theorem bindA {α γ : Type} {F H : Hp} {σ : Sg} {δ : List SV} {RVb : Hp → Hp → Sg → Hp → γ → α → Prop} {g : SA} {k : List Res → SEa α} {Q : γ → Hp → Prop}
    (mb : ∀ (F H : Hp) (σ : Sg) (Hs Hs' : Hp) (v : γ) (r : α), (∀ p, Hs p = none → Hs' p = none) → RVb F H σ Hs v r → RVb F H σ Hs' v r)
    (h : tX C W RVb (bindE g k) F H σ δ Q) {Q' : List V → Hp → Prop}
    (c : ∀ v F1 H1 δ1 r, g δ = some (.ok r δ1) → Stp F H σ δ F1 H1 δ1 → Rp C F1 H1 σ δ1 → RVs C F1 H1 σ H v r → tX C W RVb (k r) F1 H1 σ δ1 Q → Q' v H1) : tAr C W g σ H Q' :=
  ⟨F, δ, (tX.bind (RVa := RVs C) (H1 := H) (fun _ _ _ _ _ z => z) mb h).mono fun v H1 ⟨F1, δ1, r, q1, q2, q3, q4⟩ => c v F1 H1 δ1 r q1 q2 q4.1 q3 q4⟩
theorem mbV (F H : Hp) (σ : Sg) (Hs Hs' : Hp) (v : V) (r : Res) (k : ∀ p, Hs p = none → Hs' p = none) (h : RVl C F H σ Hs v r) : RVl C F H σ Hs' v r := RV.hs h k
theorem mbB (F H : Hp) (σ : Sg) (Hs Hs' : Hp) (v : Bool) (r : Bool) (_ : ∀ p, Hs p = none → Hs' p = none) (h : RB C F H σ Hs v r) : RB C F H σ Hs' v r := h
theorem RVs.hs {F H : Hp} {σ : Sg} {Hs Hs' : Hp} (k : ∀ p, Hs p = none → Hs' p = none) : ∀ {v : List V} {r : List Res}, RVs C F H σ Hs v r → RVs C F H σ Hs' v r
  | _, _, .nil => .nil
  | _, _, .cons h p t => .cons (h.hs k) p (RVs.hs k t)
theorem mbA (F H : Hp) (σ : Sg) (Hs Hs' : Hp) (v : List V) (r : List Res) (k : ∀ p, Hs p = none → Hs' p = none) (h : RVs C F H σ Hs v r) : RVs C F H σ Hs' v r := h.hs k
theorem RVs.after {F H F' H' Hs Hs' : Hp} {σ : Sg} {δ δ' : List SV} (S : Stp F H σ δ F' H' δ') : ∀ {v : List V} {r : List Res}, RVs C F H σ Hs v r → RVs C F' H' σ Hs' v r
  | _, _, .nil => .nil
  | _, _, .cons h p t => .cons (h.after p S) p (RVs.after S t)

/-! ### escape (data that is told on), peek (data that is looked at) -/
def esc : Res → SE
  | .d x => pureE (.d x)
  | .nL xs => pureE (.d (.list xs))
  | .nM ks => pureE (.d (.dict (kvD ks)))
  | .b i => fun δ => match δ[i]? with
    | some (.d x) => some (.ok (.d x) δ)
    | some (.L _ xs) => some (.ok (.d (.list xs)) (δ.set i (.d (.list xs))))
    | some (.M _ ks) => some (.ok (.d (.dict (kvD ks))) (δ.set i (.d (.dict (kvD ks)))))
    | _ => none
def escE (f : SE) : SE := bindE f esc
def pk : Res → SE
  | .b i => pureE (.b i)
  | .d x => pureE (.d x)
  | .nL xs => pureE (.d (.list xs))
  | .nM ks => pureE (.d (.dict (kvD ks)))
def pkE (f : SE) : SE := bindE f pk
theorem new_frozen {F H Hs F1 : Hp} {σ : Sg} {δ δ1 : List SV} {p : Addr} {o : HO} (R : Rp C F Hs σ δ) (S : Stp F Hs σ δ F1 H δ1) (R1 : Rp C F1 H σ δ1) (hp : H p = some o) (hf : F1 p = none) (hs : Hs p = none) :
    Stp F Hs σ δ (upd F1 p o) H δ1 ∧ Rp C (upd F1 p o) H σ δ1 := by
  have no : ¬ OwnedAt σ δ1 p := fun z => R.fresh_own hs (S.owned z)
  refine ⟨⟨S.ext.trans (le_upd hf), fun a u h n => ?_, S.pers, S.own⟩, R1.freeze hp hf no (R.fresh0 hs)⟩
  obtain ⟨h1, f1⟩ := S.frm a u h n
  refine ⟨h1, fun z => ?_⟩
  have : a ≠ p := fun q => by rw [q, hs] at h; cases h
  rw [upd_ne this]; exact f1 z
theorem frz_lst {F H : Hp} {p : Addr} {vs : List V} {xs : List D} (hf : F p = none) (h : Dats C.K F vs xs) : Dat C.K (upd F p (.lst vs)) (.ref p) (.list xs) :=
  .lst (SqL.of upd_same) (h.mono (le_upd hf))
theorem frz_dct {F H : Hp} {p : Addr} {vs : List (Key × V)} {xs : List (Key × D)} (hf : F p = none) (h : DKs C.K F vs xs) : Dat C.K (upd F p (.dK vs)) (.ref p) (.dict (kvD xs)) :=
  .dct (.inl upd_same) ((h.mono (le_upd hf)).datp)
/-- behind an escape: from what the expression gives to what is told on -/
theorem esc_back {F H F1 H1 : Hp} {σ : Sg} {δ δ1 : List SV} {v : V} {r : Res} {Q : V → Hp → Prop} (R : Rp C F H σ δ) (S : Stp F H σ δ F1 H1 δ1) (R1 : Rp C F1 H1 σ δ1) (V1 : RV C F1 H1 σ H v r)
    (h : match esc r δ1 with
      | none => False
      | some (.ok r δ') => ∀ v F' H', Stp F H σ δ F' H' δ' → Rp C F' H' σ δ' → RVl C F' H' σ H v r → Q v H'
      | some (.ex e δ') => True) : Q v H1 := by
  cases r with
  | d x => exact h v F1 H1 S R1 V1
  | nL xs =>
    obtain ⟨p, vs, rfl, hp, hf, hd, hs⟩ := V1
    obtain ⟨S2, R2⟩ := new_frozen R S R1 hp hf hs
    exact h _ _ _ S2 R2 (frz_lst (H := H) hf hd)
  | nM xs =>
    obtain ⟨p, vs, rfl, hp, hf, hd, hs⟩ := V1
    obtain ⟨S2, R2⟩ := new_frozen R S R1 hp hf hs
    exact h _ _ _ S2 R2 (frz_dct (H := H) hf hd)
  | b i =>
    have V1 : σ[i]? = some (some v) := V1
    cases q : δ1[i]? with
    | none => simp [esc, q] at h
    | some s =>
      have k := R1.slot i _ s V1 q
      cases s with
      | u => simp [esc, q] at h
      | d x =>
        simp only [esc, q] at h
        obtain ⟨w, e1, h1⟩ := k
        cases e1
        exact h v F1 H1 S R1 h1
      | L n xs =>
        simp only [esc, q] at h
        obtain ⟨a, vs, e1, _, h1, h2, h3⟩ := k
        cases e1
        obtain ⟨S2, R2⟩ := R1.freezeS q rfl V1 h1 (frz_lst (H := H) h2 h3)
        exact h _ _ _ (S.trans S2) R2 (frz_lst (H := H) h2 h3)
      | M n xs =>
        simp only [esc, q] at h
        obtain ⟨a, vs, e1, _, h1, h2, h3⟩ := k
        cases e1
        obtain ⟨S2, R2⟩ := R1.freezeS q rfl V1 h1 (frz_dct (H := H) h2 h3)
        exact h _ _ _ (S.trans S2) R2 (frz_dct (H := H) h2 h3)
theorem de_esc (h : DE X C W e f) : DE X C W e (escE f) := by
  refine pe_mono h fun σ H Q ⟨F, δ, R, z⟩ => ⟨F, δ, R, ?_⟩
  unfold escE bindE at z
  cases q : f δ with
  | none => rw [q] at z; exact z
  | some o =>
    rw [q] at z
    cases o with
    | ex e δ' => exact z
    | ok r δ1 =>
      intro v F1 H1 S R1 V1
      refine esc_back (Q := Q) R S R1 V1 ?_
      cases q2 : esc r δ1 with
      | none => simp only [q2] at z
      | some o2 =>
        simp only [q2] at z
        cases o2 with
        | ok r2 δ2 => exact z
        | ex e2 δ2 => trivial
theorem de_pk (h : DE X C W e f) : DE X C W e (pkE f) := by
  refine pe_mono h fun σ H Q ⟨F, δ, R, z⟩ => ⟨F, δ, R, ?_⟩
  unfold pkE bindE at z
  cases q : f δ with
  | none => rw [q] at z; exact z
  | some o =>
    rw [q] at z
    cases o with
    | ex e δ' => exact z
    | ok r δ1 =>
      intro v F1 H1 S R1 V1
      cases r with
      | d x => exact z v F1 H1 S R1 V1
      | b i => exact z v F1 H1 S R1 V1
      | nL xs =>
        obtain ⟨p, vs, rfl, hp, hf, hd, hs⟩ := V1
        obtain ⟨S2, R2⟩ := new_frozen R S R1 hp hf hs
        exact z _ _ _ S2 R2 (frz_lst (H := H) hf hd)
      | nM xs =>
        obtain ⟨p, vs, rfl, hp, hf, hd, hs⟩ := V1
        obtain ⟨S2, R2⟩ := new_frozen R S R1 hp hf hs
        exact z _ _ _ S2 R2 (frz_dct (H := H) hf hd)
theorem pk_isPk {δ δ1 : List SV} {r : Res} (h : pkE f δ = some (.ok r δ1)) : r.isPk = true := by
  unfold pkE bindE at h
  cases q : f δ with
  | none => rw [q] at h; cases h
  | some o =>
    rw [q] at h
    cases o with
    | ex e δ' => cases h
    | ok r0 δ0 => cases r0 <;> (simp only [pk, pureE, Option.some.injEq, ER.ok.injEq] at h; obtain ⟨rfl, _⟩ := h; rfl)
theorem esc_isD {δ δ1 : List SV} {r : Res} (h : escE f δ = some (.ok r δ1)) : ∃ x, r = .d x := by
  unfold escE bindE at h
  cases q : f δ with
  | none => rw [q] at h; cases h
  | some o =>
    rw [q] at h
    cases o with
    | ex e δ' => cases h
    | ok r0 δ0 =>
      cases r0 with
      | d x => simp only [esc, pureE, Option.some.injEq, ER.ok.injEq] at h; exact ⟨_, h.1.symm⟩
      | nL x => simp only [esc, pureE, Option.some.injEq, ER.ok.injEq] at h; exact ⟨_, h.1.symm⟩
      | nM x => simp only [esc, pureE, Option.some.injEq, ER.ok.injEq] at h; exact ⟨_, h.1.symm⟩
      | b i =>
        simp only [esc] at h
        split at h <;> first | (simp only [Option.some.injEq, ER.ok.injEq] at h; exact ⟨_, h.1.symm⟩) | cases h
end
end DL

namespace DL
open PySem PySem.Spec PyProof.Rows L2
section
variable {X : Cx} {C : DC} {W : XW} {a b e : Expr} {fa fb f : SE} {pos : Pos} {F H F' H' : Hp} {σ : Sg} {δ δ' : List SV}
/-! ### names, constants -/
def varE (i : Nat) : SE := fun δ => match δ[i]? with
  | some (.d x) => some (.ok (.d x) δ)
  | some (.L _ _) => some (.ok (.b i) δ)
  | some (.M _ _) => some (.ok (.b i) δ)
  | _ => none
def conE (x : D) : SE := pureE (.d x)
theorem tX.use {α β : Type} {RVa : Hp → Hp → Sg → Hp → β → α → Prop} {f : SEa α} {Q : β → Hp → Prop} (h : tX C W RVa f F H σ δ Q) {r : α} (e : f δ = Option.some (ER.ok r δ')) (S : Stp F H σ δ F' H' δ') (R : Rp C F' H' σ δ') {v : β} (V : RVa F' H' σ H v r) : Q v H' := h.ok e v F' H' S R V
theorem de_var {i : Nat} {x : Str} (hN : X.N[i]? = some x) (hv : Vis X.env.scope x) (hd : (x == ("__debug__" : Str)) = false := by decide) (hcd : (x == ("__classdict__" : Str)) = false := by decide) : DE X C W (.Name x pos) (varE i) := by
  refine pe_mono (pe_var hN hv hd hcd) fun σ H Q ⟨F, δ, h⟩ => ?_
  have R := h.1
  obtain ⟨o, ho⟩ := h.some
  have ho' := ho
  unfold varE at ho
  cases q : δ[i]? with
  | none => simp [q] at ho
  | some s =>
    have hi : i < σ.length := by
      have h1 := (List.getElem?_eq_some_iff.mp q).1
      have h2 := R.len
      omega
    have hx : σ[i]? = some σ[i] := List.getElem?_eq_getElem hi
    have k := R.slot i _ s hx q
    cases s with
    | u => simp [q] at ho
    | d y =>
      simp [q] at ho; subst ho
      obtain ⟨v, e1, h1⟩ := k
      exact ⟨v, by rw [hx, e1], h.use ho' Stp.refl R h1⟩
    | L n ys =>
      simp [q] at ho; subst ho
      obtain ⟨p, vs, e1, _⟩ := k
      exact ⟨_, by rw [hx, e1], h.use ho' Stp.refl R (show RV C F H σ H _ (.b i) from by rw [e1] at hx; exact hx)⟩
    | M n ys =>
      simp [q] at ho; subst ho
      obtain ⟨p, vs, e1, _⟩ := k
      exact ⟨_, by rw [hx, e1], h.use ho' Stp.refl R (show RV C F H σ H _ (.b i) from by rw [e1] at hx; exact hx)⟩
theorem de_tC {v : V} {x : D} (h : PE X e (tC v)) (d : ∀ F, Dat C.K F v x) : DE X C W e (conE x) :=
  pe_mono h fun σ H Q ⟨F, δ, h⟩ => h.use (δ' := δ) rfl Stp.refl h.1 (d F)
theorem de_int {i : Int} {j pos} : DE X C W (.Constant (.int i) j pos) (conE (.int i)) := de_tC pe_int fun _ => .int i
theorem de_bl {i : Bool} {j pos} : DE X C W (.Constant (.bool i) j pos) (conE (.bool i)) := de_tC pe_bl fun _ => .bl i
theorem de_non {j pos} : DE X C W (.Constant .none j pos) (conE .none) := de_tC pe_non fun _ => .non
theorem de_str {i : Str} {j pos} : DE X C W (.Constant (.str i) j pos) (conE (.str i)) := de_tC pe_str fun _ => .str i
/-! ### two operands -/
def op2E (g : D → D → Option Res) (fa fb : SE) : SE := bindE (pkE fa) fun ra => bindE (pkE fb) fun rb => fun δ =>
  match ra.get δ, rb.get δ with
  | some x, some y => (g x y).map fun r => .ok r δ
  | _, _ => none
/-- what an operator gives of data -/
def OpD (C : DC) (r : R2) (g : D → D → Option Res) : Prop := ∀ (F H : Hp) (σ : Sg) (δ : List SV) (v w : V) (x y : D) (res : Res) (Q : VK), Rp C F H σ δ → DatP C.K F H v x → DatP C.K F H w y → g x y = some res →
  (∀ u F' H', Stp F H σ δ F' H' δ → Rp C F' H' σ δ → RV C F' H' σ H u res → Q u H') → r v w H Q
theorem op2_read {r : R2} {g : D → D → Option Res} (hg : OpD C r g) {Q : VK} (h : tD C W (op2E g fa fb) σ H Q) : tOp r (tD C W (pkE fa)) (tD C W (pkE fb)) σ H Q := by
  obtain ⟨F, δ, h⟩ := h
  refine bindV (mbV) h fun v F1 H1 δ1 r1 e1 S1 R1 V1 h1 => ?_
  refine bindV (mbV) h1 fun w F2 H2 δ2 r2 e2 S2 R2 V2 h2 => ?_
  obtain ⟨o, ho⟩ := h2.some
  have ho' := ho
  cases q1 : r1.get δ2 with
  | none => simp only [q1] at ho; cases ho
  | some x =>
    cases q2 : r2.get δ2 with
    | none => simp only [q1, q2] at ho; cases ho
    | some y =>
      simp only [q1, q2] at ho
      cases q3 : g x y with
      | none => rw [q3] at ho; cases ho
      | some res =>
        rw [q3] at ho
        have ho : some (ER.ok res δ2) = some o := ho
        cases ho
        exact hg F2 H2 σ δ2 v w x y res Q R2 ((V1.after (Hs' := H) (pk_isPk e1) S2).get R2 q1) (V2.get R2 q2) q3 fun u F' H' S R V => h2.use ho' S R V
theorem de_op {op : Operator} {r : R2} {g : D → D → Option Res} (ho : OpR X (binaryOp op) r) (hg : OpD C r g) (ha : DE X C W a fa) (hb : DE X C W b fb) : DE X C W (.BinOp a op b pos) (op2E g fa fb) :=
  pe_mono (pe_op ho (de_pk ha) (de_pk hb)) fun σ H Q h => op2_read hg h
theorem de_cmp {op : CmpOp} {r : R2} {g : D → D → Option Res} (ho : OpR X (compareOp op) r) (hg : OpD C r g) (ha : DE X C W a fa) (hb : DE X C W b fb) (hm : behindInMarks op b = false) : DE X C W (.Compare a [op] [b] pos) (op2E g fa fb) :=
  pe_mono (pe_cmpR ho (de_pk ha) (de_pk hb) hm) fun σ H Q h => op2_read hg h
theorem de_ix {r : R2} {g : D → D → Option Res} (ho : IxR X r) (hg : OpD C r g) (ha : DE X C W a fa) (hb : DE X C W b fb) (hs : PlainIx b) : DE X C W (.Subscript a b pos) (op2E g fa fb) :=
  pe_mono (pe_ix ho (de_pk ha) (de_pk hb) hs) fun σ H Q h => op2_read hg h
/-! values as tests -/
def toB (f : SE) : SB := bindE f fun r => fun δ => match r with
  | .d (.bool b) => some (.ok b δ)
  | _ => none
theorem toB_read {f : SE} {Q : Bool → Hp → Prop} (h : tT C W (toB f) σ H Q) : tD C W f σ H fun x H' => ∃ k, x = .bl k ∧ Q k H' := by
  obtain ⟨F, δ, h⟩ := h
  refine bindV (RVb := RB C) (mbB) h fun v F1 H1 δ1 r1 e1 S1 R1 V1 h1 => ?_
  obtain ⟨o, ho⟩ := h1.some
  have ho' := ho
  cases r1 with
  | d x =>
    cases x with
    | bool k =>
      cases ho
      cases V1
      exact ⟨k, rfl, h1.use ho' Stp.refl R1 rfl⟩
    | _ => cases ho
  | _ => cases ho
theorem dt_cmp {op : CmpOp} {r : R2} {g : D → D → Option Res} (ho : OpR X (compareOp op) r) (hg : OpD C r g) (ha : DE X C W a fa) (hb : DE X C W b fb) (hm : behindInMarks op b = false) : DT X C W (.Compare a [op] [b] pos) (toB (op2E g fa fb)) :=
  pt_mono (pt_cmpR ho (de_pk ha) (de_pk hb) hm) fun σ H Q h => op2_read hg (toB_read h)
theorem dt_val (h : DE X C W e f) (he : ∀ whole, isTrue e X.env whole = (do let v ← whole; standAt e.pos; holding [v] (truthy v)) := by intro _; rfl) : DT X C W e (toB f) :=
  pt_mono (pt_val h he) fun σ H Q h => toB_read h
/-! and, or, not, if else -/
def andB (f g : SB) : SB := bindE f fun k => if k = true then g else pureE false
def orB (f g : SB) : SB := bindE f fun k => if k = true then pureE true else g
def notB (f : SB) : SB := bindE f fun k => pureE (!k)
def ofB (f : SB) : SE := bindE f fun k => pureE (.d (.bool k))
def ifE (c : SB) (f g : SE) : SE := bindE c fun k => if k = true then f else g
theorem dw_and1 {g : SB} (h : DT X C W a g) : DW X C W (.BoolOp .And [a] pos) g := pw_and1 h
theorem dw_or1 {g : SB} (h : DT X C W a g) : DW X C W (.BoolOp .Or [a] pos) g := pw_or1 h
theorem DW.dt {g : SB} (h : DW X C W e g) : DT X C W e g := PW.pt h
theorem tT_mk {g : SB} {Q : Bool → Hp → Prop} (h : tX C W (RB C) g F H σ δ Q) : tT C W g σ H Q := ⟨F, δ, h⟩
theorem dw_and {g k : SB} {rest : List Expr} (ha : DT X C W a g) (hb : DW X C W (.BoolOp .And (b :: rest) pos) k) : DW X C W (.BoolOp .And (a :: b :: rest) pos) (andB g k) := by
  refine pw_mono (pw_and ha hb) fun σ H Q ⟨F, δ, h⟩ => ?_
  refine bindT (RVb := RB C) (mbB) h fun c F1 H1 δ1 e1 S1 R1 h1 => ?_
  cases c with
  | true => exact ⟨F1, δ1, h1⟩
  | false => exact h1.use (δ' := δ1) rfl Stp.refl R1 rfl
theorem dw_or {g k : SB} {rest : List Expr} (ha : DT X C W a g) (hb : DW X C W (.BoolOp .Or (b :: rest) pos) k) : DW X C W (.BoolOp .Or (a :: b :: rest) pos) (orB g k) := by
  refine pw_mono (pw_or ha hb) fun σ H Q ⟨F, δ, h⟩ => ?_
  refine bindT (RVb := RB C) (mbB) h fun c F1 H1 δ1 e1 S1 R1 h1 => ?_
  cases c with
  | false => exact ⟨F1, δ1, h1⟩
  | true => exact h1.use (δ' := δ1) rfl Stp.refl R1 rfl
theorem dt_not {g : SB} (ha : DT X C W a g) : DT X C W (.UnaryOp .Not a pos) (notB g) := by
  refine pt_mono (pt_not ha) fun σ H Q ⟨F, δ, h⟩ => ?_
  refine bindT (RVb := RB C) (mbB) h fun c F1 H1 δ1 e1 S1 R1 h1 => ?_
  exact h1.use (δ' := δ1) rfl Stp.refl R1 rfl
def andV (f g : SE) : SE := bindE (toB f) fun k => if k = true then g else pureE (.d (.bool false))
def orV (f g : SE) : SE := bindE (toB f) fun k => if k = true then pureE (.d (.bool true)) else g
def notV (f : SE) : SE := ofB (notB (toB f))
theorem toB_bind {α γ : Type} {RVb : Hp → Hp → Sg → Hp → γ → α → Prop} {k : Bool → SEa α} {Q : γ → Hp → Prop} {f : SE}
    (mb : ∀ (F H : Hp) (σ : Sg) (Hs Hs' : Hp) (v : γ) (r : α), (∀ p, Hs p = none → Hs' p = none) → RVb F H σ Hs v r → RVb F H σ Hs' v r)
    (h : tX C W RVb (bindE (toB f) k) F H σ δ Q) {Q' : Bool → Hp → Prop}
    (c : ∀ v F1 H1 δ1, Stp F H σ δ F1 H1 δ1 → Rp C F1 H1 σ δ1 → tX C W RVb (k v) F1 H1 σ δ1 Q → Q' v H1) : tD C W f σ H fun x H1 => ∃ c, x = .bl c ∧ Q' c H1 :=
  toB_read (bindT mb h fun v F1 H1 δ1 _ S R h => c v F1 H1 δ1 S R h)
theorem de_one {op} (h : DE X C W a fa) : DE X C W (.BoolOp op [a] pos) fa := pe_one h
theorem de_and {rest : List Expr} (ha : DE X C W a fa) (hb : DE X C W (.BoolOp .And (b :: rest) pos) fb) : DE X C W (.BoolOp .And (a :: b :: rest) pos) (andV fa fb) := by
  refine pe_mono (pe_and ha hb) fun σ H Q ⟨F, δ, h⟩ => ?_
  refine toB_bind (RVb := RVl C) (mbV) h fun c F1 H1 δ1 S1 R1 h1 => ?_
  cases c with
  | true => exact ⟨F1, δ1, h1⟩
  | false => exact h1.use (δ' := δ1) rfl Stp.refl R1 (Dat.bl false)
theorem de_or {rest : List Expr} (ha : DE X C W a fa) (hb : DE X C W (.BoolOp .Or (b :: rest) pos) fb) : DE X C W (.BoolOp .Or (a :: b :: rest) pos) (orV fa fb) := by
  refine pe_mono (pe_or ha hb) fun σ H Q ⟨F, δ, h⟩ => ?_
  refine toB_bind (RVb := RVl C) (mbV) h fun c F1 H1 δ1 S1 R1 h1 => ?_
  cases c with
  | false => exact ⟨F1, δ1, h1⟩
  | true => exact h1.use (δ' := δ1) rfl Stp.refl R1 (Dat.bl true)
theorem de_not (ha : DE X C W a fa) : DE X C W (.UnaryOp .Not a pos) (notV fa) := by
  refine pe_mono (pe_not ha) fun σ H Q ⟨F, δ, h⟩ => ?_
  have h' : tD C W (notV fa) σ H Q := ⟨F, δ, h⟩
  refine toB_read ?_
  obtain ⟨R, z⟩ := h
  refine ⟨F, δ, R, ?_⟩
  unfold notV ofB notB bindE at z
  cases q : toB fa δ with
  | none => rw [q] at z; exact z
  | some o =>
    rw [q] at z
    cases o with
    | ex e δ' => exact z
    | ok k δ1 =>
      intro v F1 H1 S1 R1 V1
      have V1 : v = k := V1
      subst V1
      exact z _ F1 H1 S1 R1 (Dat.bl (!v))
theorem de_if {c : Expr} {g : SB} (hc : DT X C W c g) (ha : DE X C W a fa) (hb : DE X C W b fb) : DE X C W (.IfExp c a b pos) (ifE g fa fb) := by
  refine pe_mono (pe_ifExp hc ha hb) fun σ H Q ⟨F, δ, h⟩ => ?_
  refine bindT (RVb := RVl C) (mbV) h fun c F1 H1 δ1 e1 S1 R1 h1 => ?_
  cases c with
  | true => exact ⟨F1, δ1, h1⟩
  | false => exact ⟨F1, δ1, h1⟩
/-! ### argument lists, displays -/
def nilA : SA := pureE []
def consA (f : SE) (g : SA) : SA := bindE f fun r => bindE g fun rs => pureE (r :: rs)
theorem da_nil : DA X C W [] nilA := pa_mono pa_nil fun σ H Q ⟨F, δ, h⟩ => h.use (δ' := δ) rfl Stp.refl h.1 .nil
theorem da_cons {es : List Expr} {g : SA} (hp : ∀ δ r δ', f δ = some (.ok r δ') → r.isPk = true) (ha : DE X C W e f) (hr : DA X C W es g) (hs : starEach (e :: es) X.env = (false, eval e X.env) :: starEach es X.env := by rfl) : DA X C W (e :: es) (consA f g) := by
  refine pa_mono (pa_cons ha hr hs) fun σ H Q ⟨F, δ, h⟩ => ?_
  refine bindV (RVb := RVs C) (mbA) h fun v F1 H1 δ1 r1 e1 S1 R1 V1 h1 => ?_
  refine bindA (RVb := RVs C) (mbA) h1 fun vs F2 H2 δ2 rs e2 S2 R2 V2 h2 => ?_
  exact h2.use (δ' := δ2) rfl Stp.refl R2 (.cons (V1.after (hp _ _ _ e1) S2) (hp _ _ _ e1) (V2.after (Stp.refl (δ := δ2))))
theorem esc_pk {g : SE} {δ : List SV} {r : Res} {δ' : List SV} (h : escE g δ = some (.ok r δ')) : r.isPk = true := by
  obtain ⟨x, rfl⟩ := esc_isD h
  rfl
/-- an argument that is told on; one that is looked at -/
theorem da_e {es : List Expr} {g : SA} (ha : DE X C W e f) (hr : DA X C W es g) (hs : starEach (e :: es) X.env = (false, eval e X.env) :: starEach es X.env := by rfl) : DA X C W (e :: es) (consA (escE f) g) := da_cons (fun _ _ _ => esc_pk) (de_esc ha) hr hs
theorem da_p {es : List Expr} {g : SA} (ha : DE X C W e f) (hr : DA X C W es g) (hs : starEach (e :: es) X.env = (false, eval e X.env) :: starEach es X.env := by rfl) : DA X C W (e :: es) (consA (pkE f) g) := da_cons (fun _ _ _ => pk_isPk) (de_pk ha) hr hs
def gets (rs : List Res) (δ : List SV) : Option (List D) := rs.mapM fun r => r.get δ
inductive DatPs (K : PySem.W.Frag) (F H : Hp) : List V → List D → Prop
  | nil : DatPs K F H [] []
  | cons {v : V} {vs : List V} {d : D} {ds : List D} : DatP K F H v d → DatPs K F H vs ds → DatPs K F H (v :: vs) (d :: ds)
theorem RVs.gets {Hs : Hp} : ∀ {rs : List Res} {xs : List D} {vs : List V}, RVs C F H σ Hs vs rs → Rp C F H σ δ → DL.gets rs δ = some xs → DatPs C.K F H vs xs
  | [], xs, _, .nil, R, e => by
    simp [DL.gets] at e; subst e; exact .nil
  | r :: rs, xs, _, .cons h p t, R, e => by
    unfold DL.gets at e
    rw [List.mapM_cons] at e
    cases q : r.get δ with
    | none => simp [q] at e
    | some x =>
      cases q2 : List.mapM (fun r => Res.get r δ) rs with
      | none => simp [q, q2] at e
      | some ys =>
        simp [q, q2] at e; subst e
        exact .cons (h.get R q) (RVs.gets t R q2)
/-- all of them data -/
def datas (rs : List Res) : Option (List D) := rs.mapM fun r => match r with
  | .d x => some x
  | _ => none
theorem RVs.datas {Hs : Hp} : ∀ {rs : List Res} {xs : List D} {vs : List V}, RVs C F H σ Hs vs rs → DL.datas rs = some xs → Dats C.K F vs xs
  | [], xs, _, .nil, e => by
    simp [DL.datas] at e; subst e; exact .nil
  | r :: rs, xs, _, .cons h p t, e => by
    unfold DL.datas at e
    rw [List.mapM_cons] at e
    cases r with
    | d x =>
      cases q2 : List.mapM (fun r : Res => (match r with | .d x => some x | _ => none : Option D)) rs with
      | none => simp [q2] at e
      | some ys =>
        simp [q2] at e; subst e
        exact .cons h (RVs.datas t q2)
    | _ => simp at e
def tupE (g : SA) : SE := bindE g fun rs => fun δ => match datas rs with
  | some xs => if xs.length ≤ sizeLine then some (.ok (.d (.tuple xs)) δ) else none
  | none => none
def lstE (g : SA) : SE := bindE g fun rs => fun δ => match datas rs with
  | some xs => if xs.length ≤ sizeLine then some (.ok (.nL xs) δ) else none
  | none => none
theorem de_tup {es : List Expr} {g : SA} {x1} (ha : DA X C W es g) : DE X C W (.Tuple es x1 pos) (tupE g) := by
  refine pe_mono (pe_tup ha) fun σ H Q ⟨F, δ, h⟩ => ?_
  refine bindA (RVb := RVl C) (mbV) h fun vs F1 H1 δ1 rs e1 S1 R1 V1 h1 => ?_
  obtain ⟨o, ho⟩ := h1.some
  have ho' := ho
  cases q : datas rs with
  | none => simp only [q] at ho; cases ho
  | some xs =>
    simp only [q] at ho
    by_cases hl : xs.length ≤ sizeLine
    · rw [if_pos hl] at ho
      cases ho
      have dd := V1.datas q
      refine ⟨by rw [dd.length]; exact hl, fun p np => ?_⟩
      obtain ⟨S2, R2⟩ := R1.newF (.tup vs) np
      exact h1.use ho' S2 R2 (Dat.tup (SqT.of upd_same) (dd.mono S2.ext))
    · rw [if_neg hl] at ho; cases ho
theorem de_lst {es : List Expr} {g : SA} (ha : DA X C W es g) : DE X C W (.List es pos) (lstE g) := by
  refine pe_mono (pe_lst ha) fun σ H Q ⟨F, δ, h⟩ => ?_
  refine bindA (RVb := RVl C) (mbV) h fun vs F1 H1 δ1 rs e1 S1 R1 V1 h1 => ?_
  obtain ⟨o, ho⟩ := h1.some
  have ho' := ho
  cases q : datas rs with
  | none => simp only [q] at ho; cases ho
  | some xs =>
    simp only [q] at ho
    by_cases hl : xs.length ≤ sizeLine
    · rw [if_pos hl] at ho
      cases ho
      have dd := V1.datas q
      refine ⟨by rw [dd.length]; exact hl, fun p np => ?_⟩
      obtain ⟨S2, R2⟩ := R1.newG (.lst vs) np
      exact h1.use ho' S2 R2 (show RV C F1 _ σ H1 (V.ref p) (.nL xs) from ⟨p, vs, rfl, upd_same, R1.freshF np, dd, np⟩)
    · rw [if_neg hl] at ho; cases ho
end
end DL

namespace DL
open PySem PySem.Spec PyProof.Rows L2
/-! ### data that == takes -/
def lay : Nat → D → Bool
  | _, .none => true
  | _, .bool _ => true
  | _, .int _ => true
  | _, .str x => PyData.strOk x
  | n + 1, .list xs => xs.all (lay n)
  | n + 1, .tuple xs => xs.all (lay n)
  | _, _ => false
theorem lay_can : ∀ (n : Nat) (d : D), lay n d = true → d.canLay0 = true ∧ d.depth ≤ n := by
  intro n
  induction n with
  | zero =>
    intro d h
    cases d <;> simp_all [lay, PyData.canLay0, PyData.depth]
  | succ n ih =>
    have all : ∀ xs : List D, xs.all (lay n) = true → PyData.canLayAll0 xs = true ∧ PyData.depthAll xs ≤ n := by
      intro xs
      induction xs with
      | nil => intro _; simp [PyData.canLayAll0, PyData.depthAll]
      | cons x r ihr =>
        intro h
        rw [List.all_cons, Bool.and_eq_true] at h
        obtain ⟨h1, h2⟩ := ih x h.1
        obtain ⟨h3, h4⟩ := ihr h.2
        simp only [PyData.canLayAll0, PyData.depthAll, h1, h3, Bool.and_true, true_and]
        omega
    intro d h
    cases d with
    | list xs =>
      obtain ⟨h1, h2⟩ := all xs (by simpa [lay] using h)
      exact ⟨by simpa [PyData.canLay0] using h1, by simp only [PyData.depth]; omega⟩
    | tuple xs =>
      obtain ⟨h1, h2⟩ := all xs (by simpa [lay] using h)
      exact ⟨by simpa [PyData.canLay0] using h1, by simp only [PyData.depth]; omega⟩
    | str x => exact ⟨by simpa [lay, PyData.canLay0] using h, by simp [PyData.depth]⟩
    | dict k => simp [lay] at h
    | none => simp [PyData.canLay0, PyData.depth]
    | bool b => simp [PyData.canLay0, PyData.depth]
    | int i => simp [PyData.canLay0, PyData.depth]
def layD (d : D) : Bool := lay 8 d
theorem lay_shaped {d : D} (h : layD d = true) : SeqAt.shaped d = true := by
  obtain ⟨h1, h2⟩ := lay_can 8 d h
  show (d.canLay0 && decide (d.depth ≤ 64)) = true
  rw [h1, Bool.true_and]
  exact decide_eq_true (by omega)
theorem lay_no : ∀ {n : Nat} {d : D}, lay n d = true → ∀ ks, d ≠ .dict ks
  | n, .dict ks, h, _ => by cases n <;> simp [lay] at h
  | _, .none, _, _ => by simp
  | _, .bool _, _, _ => by simp
  | _, .int _, _, _ => by simp
  | _, .str _, _, _ => by simp
  | _, .list _, _, _ => by simp
  | _, .tuple _, _, _ => by simp
mutual
theorem Dat.dp {K : PySem.W.Frag} {H : Hp} : ∀ {v : V} {d : D}, Dat K H v d → d.canLay0 = true → Dp K H v d
  | _, _, .non, _ => .non
  | _, _, .bl b, _ => .bl b
  | _, _, .int i, _ => .int i
  | _, _, .str x, _ => .str x
  | _, _, .lst h t, z => .lst h (Dats.dp t (by simpa [PyData.canLay0] using z))
  | _, _, .tup h t, z => .tup h (Dats.dp t (by simpa [PyData.canLay0] using z))
  | _, _, .dct h t, z => by simp [PyData.canLay0] at z
  | _, _, .dcT h, z => by simp [PyData.canLay0] at z
  | _, _, .exc0 h, z => by simp [excD, PyData.canLay0] at z
  | _, _, .exc1 h _ _, z => by simp [excD, PyData.canLay0] at z
theorem Dats.dp {K : PySem.W.Frag} {H : Hp} : ∀ {v : List V} {d : List D}, Dats K H v d → PyData.canLayAll0 d = true → DpAll K H v d
  | _, _, .nil, _ => .nil
  | _, _, .cons h t, z => by
    simp only [PyData.canLayAll0, Bool.and_eq_true] at z
    exact .cons (Dat.dp h z.1) (Dats.dp t z.2)
end
theorem Dat.dpl {K : PySem.W.Frag} {H : Hp} {v : V} {d : D} (h : Dat K H v d) (l : layD d = true) : Dp K H v d := h.dp (lay_can 8 d l).1
section
variable {X : Cx} {C : DC} {W : XW}
/-- an operator whose answer changes nothing -/
theorem opd_pure {r : R2} {g : D → D → Option Res} (h : ∀ (F H : Hp) (v w : V) (x y : D) (res : Res) (Q : VK), Le F H → DatP C.K F H v x → DatP C.K F H w y → g x y = some res → (∀ u z, res = .d z → Dat C.K F u z → Q u H) → (∃ z, res = .d z) ∧ r v w H Q) : OpD C r g := by
  intro F H σ δ v w x y res Q R hx hy hg k
  refine (h F H v w x y res Q R.ext hx hy hg fun u z e hz => k u F H Stp.refl R (by subst e; exact hz)).2
def op2I (f : Int → Int → Option Int) : D → D → Option Res
  | .int i, .int j => (f i j).map fun z => .d (.int z)
  | _, _ => none
theorem opd_int {P : Int → Int → Prop} {f : Int → Int → Int} {g : Int → Int → Option Int} (h : ∀ i j z, g i j = some z → P i j ∧ z = f i j) : OpD C (rI P fun i j => .int (f i j)) (op2I g) := by
  intro F H σ δ v w x y res Q R hx hy e k
  cases x with
  | int i =>
    cases y with
    | int j =>
      cases q : g i j with
      | none => simp [op2I, q] at e
      | some z =>
        simp only [op2I, q, Option.map_some, Option.some.injEq] at e
        subst e
        obtain ⟨h1, rfl⟩ := h i j z q
        exact ⟨i, j, hx.int, hy.int, h1, k _ F H Stp.refl R (Dat.int _)⟩
    | _ => simp [op2I] at e
  | _ => simp [op2I] at e
theorem opd_int0 {f : Int → Int → Int} : OpD C (rI0 fun i j => .int (f i j)) (op2I fun i j => some (f i j)) := by
  intro F H σ δ v w x y res Q R hx hy e k
  cases x with
  | int i =>
    cases y with
    | int j =>
      simp only [op2I, Option.map_some, Option.some.injEq] at e
      subst e
      exact ⟨i, j, hx.int, hy.int, k _ F H Stp.refl R (Dat.int _)⟩
    | _ => simp [op2I] at e
  | _ => simp [op2I] at e
def op2B (f : Int → Int → Bool) : D → D → Option Res
  | .int i, .int j => some (.d (.bool (f i j)))
  | _, _ => none
theorem opd_bool0 {f : Int → Int → Bool} : OpD C (rI0 fun i j => .bl (f i j)) (op2B f) := by
  intro F H σ δ v w x y res Q R hx hy e k
  cases x with
  | int i =>
    cases y with
    | int j =>
      simp only [op2B, Option.some.injEq] at e
      subst e
      exact ⟨i, j, hx.int, hy.int, k _ F H Stp.refl R (Dat.bl _)⟩
    | _ => simp [op2B] at e
  | _ => simp [op2B] at e
theorem OpD.or {r r' : R2} {g g' : D → D → Option Res} (h : OpD C r g) (h' : OpD C r' g') : OpD C (fun x y H Q => r x y H Q ∨ r' x y H Q) (fun x y => (g x y).or (g' x y)) := by
  intro F H σ δ v w x y res Q R hx hy e k
  have e : (g x y).or (g' x y) = some res := e
  cases q : g x y with
  | some z =>
    rw [q] at e
    have e : some z = some res := e
    cases e
    exact .inl (h F H σ δ v w x y _ Q R hx hy q k)
  | none =>
    rw [q] at e
    exact .inr (h' F H σ δ v w x y res Q R hx hy e k)
/-! the int operators -/
def subG : D → D → Option Res := op2I fun i j => some (i - j)
def fdivG : D → D → Option Res := op2I fun i j => if 0 < j ∧ j.natAbs.log2 < 9000 then some (i / j) else none
def modG : D → D → Option Res := op2I fun i j => if 0 < j then some (i % j) else none
def powG : D → D → Option Res := op2I fun i j => if 0 ≤ j ∧ j ≤ 1000000 ∧ i.natAbs < 2 ^ 64 then some (i ^ j.toNat) else none
def shlG : D → D → Option Res := op2I fun i j => if 0 ≤ j ∧ j ≤ 1000000 ∧ i.natAbs < 2 ^ 64 then some (i * 2 ^ j.toNat) else none
def shrG : D → D → Option Res := op2I fun i j => if 0 ≤ j then some (i / 2 ^ j.toNat) else none
def bandG : D → D → Option Res := op2I fun i j => some (Builtin.bitAnd i j)
theorem od_sub : OpD C (rI0 fun i j => .int (i - j)) subG := opd_int0
theorem od_fdiv : OpD C (rI CDivW fun i j => .int (i / j)) fdivG := opd_int fun i j z h => by
  split at h
  · rename_i c
    cases h
    exact ⟨c, rfl⟩
  · cases h
theorem od_mod : OpD C (rI (fun _ j => 0 < j) fun i j => .int (i % j)) modG := opd_int fun i j z h => by
  split at h
  · rename_i c
    cases h
    exact ⟨c, rfl⟩
  · cases h
theorem od_pow : OpD C (rI CPow fun i j => .int (i ^ j.toNat)) powG := opd_int fun i j z h => by
  split at h
  · rename_i c
    cases h
    exact ⟨c, rfl⟩
  · cases h
theorem od_shl : OpD C (rI CPow fun i j => .int (i * 2 ^ j.toNat)) shlG := opd_int fun i j z h => by
  split at h
  · rename_i c
    cases h
    exact ⟨c, rfl⟩
  · cases h
theorem od_shr : OpD C (rI (fun _ j => 0 ≤ j) fun i j => .int (i / 2 ^ j.toNat)) shrG := opd_int fun i j z h => by
  split at h
  · rename_i c
    cases h
    exact ⟨c, rfl⟩
  · cases h
theorem od_band : OpD C (rI0 fun i j => .int (Builtin.bitAnd i j)) bandG := opd_int0
/-! + -/
def addS : D → D → Option Res
  | .str x, .str y => if x.length + y.length ≤ sizeLine then some (.d (.str (x ++ y))) else none
  | _, _ => none
def addL : D → D → Option Res
  | .list xs, .list ys => if xs.length + ys.length ≤ sizeLine then some (.nL (xs ++ ys)) else none
  | _, _ => none
def addT : D → D → Option Res
  | .tuple xs, .tuple ys => if xs.length + ys.length ≤ sizeLine then some (.d (.tuple (xs ++ ys))) else none
  | _, _ => none
def rCatL (K : PySem.W.Frag) : R2 := fun x y H Q => ∃ l b xs zs, x = .ref l ∧ y = .ref b ∧ SqL K H l xs ∧ SqL K H b zs ∧ xs.length + zs.length ≤ sizeLine ∧ ∀ p, H p = none → Q (.ref p) (upd H p (.lst (xs ++ zs)))
theorem op_catL : OpR X (binaryOp .Add) (rCatL X.K) := by
  intro pins s σ H x y v u Q I rx ry h
  obtain ⟨l, b, xs, zs, rfl, rfl, h1, h2, hz, q⟩ := h
  cases rx
  cases ry
  obtain ⟨its, r, ⟨⟨cls, dd, data, sl⟩, n, ho, hc, hdn, hd⟩, _⟩ := I.list h1
  obtain ⟨its2, r2, ⟨⟨cls2, dd2, data2, sl2⟩, n2, ho2, hc2, hdn2, hd2⟩, _⟩ := I.list h2
  simp only at hc hd hdn hc2 hd2 hdn2
  subst hc hd hdn hc2 hd2 hdn2
  have l1 := r.length
  have l2 := r2.length
  have sz : its.toArray.size + its2.toArray.size ≤ sizeLine := by rw [List.size_toArray, List.size_toArray]; omega
  refine concat_meets ⟨_, ho, rfl⟩ ⟨_, ho2, rfl⟩ noFill_list_add seq_list_add PySem.F.slot_list_add PySem.F.entry_list_add (PySem.F.args_list_add_2 _ _)
    (PyProof.Rows.list_addW l b its.toArray its2.toArray n n2 none none sl sl2 sz) ⟨ho, ho2, ?_⟩
  rw [show its.toArray ++ its2.toArray = (its ++ its2).toArray by simp]
  exact ⟨.ref _, _, I.lnew (t' := s.toks) (r.append r2) (by rw [List.length_append]; omega), rfl, q _ I.fresh⟩
theorem od_addS : OpD C (fun x y H Q => ∃ i j, x = .str i ∧ y = .str j ∧ i.length + j.length ≤ sizeLine ∧ Q (.str (i ++ j)) H) addS := by
  intro F H σ δ v w x y res Q R hx hy e k
  cases x with
  | str i =>
    cases y with
    | str j =>
      simp only [addS] at e
      split at e
      · rename_i c
        cases e
        exact ⟨i, j, hx.str, hy.str, c, k _ F H Stp.refl R (Dat.str _)⟩
      · cases e
    | _ => simp [addS] at e
  | _ => simp [addS] at e
theorem od_addL : OpD C (rCatL C.K) addL := by
  intro F H σ δ v w x y res Q R hx hy e k
  cases x with
  | list xs =>
    cases y with
    | list ys =>
      simp only [addL] at e
      split at e
      · rename_i c
        cases e
        obtain ⟨a, vs, rfl, h1, t1⟩ := hx.lst R.ext
        obtain ⟨b, ws, rfl, h2, t2⟩ := hy.lst R.ext
        refine ⟨a, b, vs, ws, rfl, rfl, h1, h2, by rw [t1.length, t2.length]; exact c, fun p np => ?_⟩
        obtain ⟨S2, R2⟩ := R.newG (.lst (vs ++ ws)) np
        exact k _ _ _ S2 R2 (show RV C F _ σ H _ (.nL (xs ++ ys)) from ⟨p, _, rfl, upd_same, R.freshF np, t1.append t2, np⟩)
      · cases e
    | _ => simp [addL] at e
  | _ => simp [addL] at e
theorem Dats.nil_iff {K : PySem.W.Frag} {H : Hp} {vs : List V} {ds : List D} (h : Dats K H vs ds) : vs = [] ↔ ds = [] := by
  cases h with
  | nil => simp
  | cons _ _ => simp
theorem od_addT : OpD C (rCatA C.K) addT := by
  intro F H σ δ v w x y res Q R hx hy e k
  cases x with
  | tuple xs =>
    cases y with
    | tuple ys =>
      simp only [addT] at e
      split at e
      · rename_i c
        cases e
        have hx' := hx
        have hy' := hy
        have tupd : ∀ {v : V} {xs : List D}, DatP C.K F H v (.tuple xs) → Dat C.K F v (.tuple xs) := fun h => by
          rcases h with h | ⟨_, _, _, _, e2, _⟩ | ⟨_, _, _, _, e2, _⟩
          · exact h
          · cases e2
          · cases e2
        obtain ⟨a, vs, rfl, h1, t1⟩ := hx.tup R.ext
        obtain ⟨b, ws, rfl, h2, t2⟩ := hy.tup R.ext
        refine ⟨a, b, vs, ws, rfl, rfl, h1, h2, by rw [t1.length, t2.length]; exact c, fun z => ?_, fun _ z => ?_, fun _ _ p np => ?_⟩
        · have : xs = [] := t1.nil_iff.mp z
          subst this
          exact k _ F H Stp.refl R (tupd hy')
        · have : ys = [] := t2.nil_iff.mp z
          subst this
          exact k _ F H Stp.refl R (by rw [List.append_nil]; exact tupd hx')
        · obtain ⟨S2, R2⟩ := R.newF (.tup (vs ++ ws)) np
          exact k _ _ _ S2 R2 (Dat.tup (SqT.of upd_same) ((t1.append t2).mono S2.ext))
      · cases e
    | _ => simp [addT] at e
  | _ => simp [addT] at e
def addI : D → D → Option Res := op2I fun i j => some (i + j)
def addG (x y : D) : Option Res := (addI x y).or ((addS x y).or ((addL x y).or (addT x y)))
abbrev rAddG (K : PySem.W.Frag) : R2 := fun x y H Q => rI0 (fun i j => .int (i + j)) x y H Q ∨ (∃ i j, x = .str i ∧ y = .str j ∧ i.length + j.length ≤ sizeLine ∧ Q (.str (i ++ j)) H) ∨ rCatL K x y H Q ∨ rCatA K x y H Q
theorem or_addG : OpR X (binaryOp .Add) (rAddG X.K) := op_add.or (op_add_str.or (op_catL.or op_catA))
theorem od_addG : OpD C (rAddG C.K) addG := (opd_int0 (f := fun i j => i + j)).or (od_addS.or (od_addL.or od_addT))
/-! * -/
def mulI : D → D → Option Res := op2I fun i j => if i.natAbs.log2 + j.natAbs.log2 < 1000000 then some (i * j) else none
def mulL : D → D → Option Res
  | .list xs, .int k => if -(2 ^ 63) ≤ k ∧ k < 2 ^ 63 ∧ xs.length * k.toNat ≤ sizeLine then some (.nL (List.replicate k.toNat xs).flatten) else none
  | _, _ => none
theorem Dats.rep {K : PySem.W.Frag} {H : Hp} {vs : List V} {ds : List D} (h : Dats K H vs ds) : ∀ n : Nat, Dats K H (List.replicate n vs).flatten (List.replicate n ds).flatten
  | 0 => .nil
  | n + 1 => by
    rw [List.replicate_succ, List.replicate_succ, List.flatten_cons, List.flatten_cons]
    exact h.append (Dats.rep h n)
/-- [..] * n -/
def mulNE (fa fb : SE) : SE := bindE fa fun ra => bindE (pkE fb) fun rb => fun δ =>
  match ra, rb.get δ with
  | .nL xs, some (.int k) => if -(2 ^ 63) ≤ k ∧ k < 2 ^ 63 ∧ xs.length * k.toNat ≤ sizeLine then some (.ok (.nL (List.replicate k.toNat xs).flatten) δ) else none
  | _, _ => none
theorem de_mulN {a b : Expr} {fa fb : SE} {pos : Pos} (ha : DE X C W a fa) (hb : DE X C W b fb) : DE X C W (.BinOp a .Mult b pos) (mulNE fa fb) := by
  refine pe_mono (pe_op op_rep ha (de_pk hb)) fun σ H Q ⟨F, δ, h⟩ => ?_
  have R := h.1
  refine bindV (RVb := RVl C) (mbV) h fun v F1 H1 δ1 r1 e1 S1 R1 V1 h1 => ?_
  refine bindV (RVb := RVl C) (mbV) h1 fun w F2 H2 δ2 r2 e2 S2 R2 V2 h2 => ?_
  obtain ⟨o, ho⟩ := h2.some
  have ho' := ho
  cases r1 with
  | nL xs =>
    cases q2 : r2.get δ2 with
    | none => simp only [q2] at ho; cases ho
    | some y =>
      simp only [q2] at ho
      cases y with
      | int k =>
        simp only at ho
        split at ho
        · rename_i c
          cases ho
          obtain ⟨p, vs, rfl, hp, hf, hd, hs⟩ := V1
          have no : ¬ OwnedAt σ δ1 p := fun z => R.fresh_own hs (S1.owned z)
          obtain ⟨hp2, hf2⟩ := S2.frm p _ hp no
          have t := hd.mono S2.ext
          refine ⟨p, k, vs, rfl, (V2.get R2 q2).int, hp2, c.1, c.2.1, by rw [t.length]; exact c.2.2, fun p' np => ?_⟩
          obtain ⟨S3, R3⟩ := R2.newG (.lst (List.replicate k.toNat vs).flatten) np
          exact h2.use ho' S3 R3 (show RV C F2 _ σ H2 _ (.nL _) from ⟨p', _, rfl, upd_same, R2.freshF np, t.rep _, np⟩)
        · cases ho
      | _ => cases ho
  | _ => cases ho
/-- tuple * int: as much as a million things -/
def rMuT (K : PySem.W.Frag) : R2 := fun x y H Q => ∃ a n us, x = .ref a ∧ y = .int n ∧ SqT K H a us ∧ us ≠ [] ∧ 2 ≤ n ∧ us.length * n.toNat ≤ 1000000 ∧ ∀ b, H b = none → Q (.ref b) (upd H b (.tup (List.replicate n.toNat us).flatten))
theorem op_muT : OpR X (binaryOp .Mult) (rMuT X.K) := by
  intro pins s σ H x y v u Q I rx ry h
  obtain ⟨l, n, us, rfl, rfl, hT, hne, h1, hz, q⟩ := h
  cases rx
  obtain ⟨t, rfl⟩ := ry
  obtain ⟨ws, r, ⟨⟨cls, dd, data, sl⟩, ho, hc, m, hd⟩, hs⟩ := I.tuple hT
  simp only at hc hd
  subst hc hd
  have len : ws.length = us.length := r.length.symm
  have some_ : ws ≠ [] := by
    intro e
    subst e
    exact hne (List.eq_nil_of_length_eq_zero len.symm)
  have full : ws.toArray.isEmpty = false := by
    cases ws with
    | nil => exact absurd rfl some_
    | cons _ _ => rfl
  have n0 : ((n.toNat : Nat) : Int) = n := Int.toNat_of_nonneg (by omega)
  have many : ((ws.toArray.size : Nat) : Int) * n ≤ 1000000 := by
    have z : (((us.length * n.toNat : Nat)) : Int) ≤ ((1000000 : Nat) : Int) := Int.ofNat_le.mpr hz
    rw [Int.natCast_mul, n0] at z
    rw [List.size_toArray, len]
    exact z
  have n9 : n ≤ 1000000 := by
    have z : 1 * n.toNat ≤ us.length * n.toNat := Nat.mul_le_mul_right _ (by have := List.length_pos_iff.mpr hne; omega)
    omega
  have flat : (List.replicate n.toNat ws).flatten.length ≤ sizeLine := by
    rw [PyProof.Rows.lm_len_rep_flat, len, sizeLine_eq, Nat.mul_comm]
    omega
  have c0 : (decide (n < -(2 ^ 63)) || decide (n ≥ 2 ^ 63)) = false := by
    rw [decide_eq_false (by omega), decide_eq_false (by omega)] <;> rfl
  have c1 : (ws.toArray.isEmpty || n == 1) = false := by
    rw [full]
    exact beq_eq_false_iff_ne.mpr (by omega)
  have c2 : (decide (n ≤ 0) || ws.toArray.isEmpty) = false := by
    rw [full, decide_eq_false (by omega)]
    rfl
  have c4 : Builtin.Tuple.tupleTooMany (((ws.toArray.size : Nat) : Int) * n) = false := by
    show decide (_ > (sizeLine : Int)) = false
    rw [sizeLine_eq]
    exact decide_eq_false (by omega)
  refine wpAny_binaryOp_repeat_ref (T := "tuple") (U := "int") (by decide) ⟨_, ho, rfl⟩ (fun s2 => typeIs_int s2 n t) noFill_tuple_mul F.fills_int_mul
    F.slot_int_rmul repeat_tuple F.slot_int_index.lookup ?_
  refine call_meets F.slot_int_rmul (typeIs_int s n t) F.entry_int_rmul (F.args_int_rmul_2 _ _) (int_rmul_tuple n t l ws.toArray m dd sl) ⟨ho, rfl, ⟨_, ho, rfl⟩, ?_⟩
  refine call_meets F.slot_tuple_mul ⟨_, ho, rfl⟩ F.entry_tuple_mul (F.args_tuple_mul_2 _ _) (tuple_mulW l ws.toArray m dd sl n t c0 c1 c2 (by omega) c4 (by
    rw [size_rep, List.size_toArray]
    exact flat)) ⟨ho, ?_⟩
  rw [size_rep]
  have fl : (List.replicate n.toNat us).flatten.length ≤ sizeLine := by
    rw [PyProof.Rows.lm_len_rep_flat, sizeLine_eq, Nat.mul_comm]
    omega
  refine ⟨.ref s.heap.objs.size, _, I.laid (t' := s.toks) (o := .tup (List.replicate n.toNat us).flatten) (fun _ _ z => Heap.get?_push_of_some _ z) (Nat.le_refl _) ?_, rfl, q _ (I.hok.fresh (Nat.le_refl _))⟩
  exact ⟨fl, _, r.rep n.toNat, IsTup.new _ _⟩
def mulT : D → D → Option Res
  | .tuple xs, .int k => if xs ≠ [] ∧ 2 ≤ k ∧ (k ≤ 1000 ∧ xs.length ≤ 1000 ∨ k ≤ 10000 ∧ xs.length ≤ 100) then some (.d (.tuple (List.replicate k.toNat xs).flatten)) else none
  | _, _ => none
theorem mul_fits {k : Int} {m : Nat} (h : k ≤ 1000 ∧ m ≤ 1000 ∨ k ≤ 10000 ∧ m ≤ 100) : m * k.toNat ≤ 1000000 := by
  rcases h with h | h
  · exact Nat.le_trans (Nat.mul_le_mul h.2 (show k.toNat ≤ 1000 by omega)) (by decide)
  · exact Nat.le_trans (Nat.mul_le_mul h.2 (show k.toNat ≤ 10000 by omega)) (by decide)
theorem od_mulT : OpD C (rMuT C.K) mulT := by
  intro F H σ δ v w x y res Q R hx hy e k
  cases x with
  | tuple xs =>
    cases y with
    | int n =>
      simp only [mulT] at e
      split at e
      · rename_i c
        cases e
        obtain ⟨a, vs, rfl, h1, t1⟩ := hx.tup R.ext
        refine ⟨a, n, vs, rfl, hy.int, h1, fun z => c.1 (t1.nil_iff.mp z), c.2.1, by rw [t1.length]; exact mul_fits c.2.2, fun p np => ?_⟩
        obtain ⟨S2, R2⟩ := R.newF (.tup (List.replicate n.toNat vs).flatten) np
        exact k _ _ _ S2 R2 (Dat.tup (SqT.of upd_same) ((t1.rep _).mono S2.ext))
      · cases e
    | _ => simp [mulT] at e
  | _ => simp [mulT] at e
theorem od_mulI : OpD C (rI CMulW fun i j => .int (i * j)) mulI := opd_int fun i j z h => by
  split at h
  · rename_i c
    cases h
    exact ⟨c, rfl⟩
  · cases h
def mulG (x y : D) : Option Res := (mulI x y).or (mulT x y)
theorem or_mulG : OpR X (binaryOp .Mult) (fun x y H Q => rI CMulW (fun i j => .int (i * j)) x y H Q ∨ rMuT X.K x y H Q) := op_mulW.or op_muT
theorem od_mulG : OpD C (fun x y H Q => rI CMulW (fun i j => .int (i * j)) x y H Q ∨ rMuT C.K x y H Q) mulG := od_mulI.or od_mulT
/-! comparisons -/
def eqG (x y : D) : Option Res := if layD x = true ∧ layD y = true then some (.d (.bool (PyData.eqv x y))) else none
def neG (x y : D) : Option Res := if layD x = true ∧ layD y = true then some (.d (.bool (!PyData.eqv x y))) else none
theorem od_eq : OpD C (rEqD C.K) eqG := by
  intro F H σ δ v w x y res Q R hx hy e k
  unfold eqG at e
  split at e
  · rename_i c
    cases e
    exact ⟨x, y, (hx.dat R.ext).dpl c.1, (hy.dat R.ext).dpl c.2, lay_shaped c.1, lay_shaped c.2, k _ F H Stp.refl R (Dat.bl _)⟩
  · cases e
theorem od_ne : OpD C (rNeD C.K) neG := by
  intro F H σ δ v w x y res Q R hx hy e k
  unfold neG at e
  split at e
  · rename_i c
    cases e
    exact ⟨x, y, (hx.dat R.ext).dpl c.1, (hy.dat R.ext).dpl c.2, lay_shaped c.1, lay_shaped c.2, k _ F H Stp.refl R (Dat.bl _)⟩
  · cases e
def ltG : D → D → Option Res := op2B fun i j => decide (i < j)
def leG : D → D → Option Res := op2B fun i j => decide (i ≤ j)
def gtG : D → D → Option Res := op2B fun i j => decide (j < i)
def geG : D → D → Option Res := op2B fun i j => decide (j ≤ i)
theorem od_lt : OpD C (rI0 fun i j => .bl (decide (i < j))) ltG := opd_bool0
theorem od_le : OpD C (rI0 fun i j => .bl (decide (i ≤ j))) leG := opd_bool0
theorem od_gt : OpD C (rI0 fun i j => .bl (decide (j < i))) gtG := opd_bool0
theorem od_ge : OpD C (rI0 fun i j => .bl (decide (j ≤ i))) geG := opd_bool0
/-! is None, is not None -/
def isD : D → Bool
  | .none => true
  | _ => false
def isG (x y : D) : Option Res := match y with
  | .none => some (.d (.bool (isD x)))
  | _ => none
def isnG (x y : D) : Option Res := match y with
  | .none => some (.d (.bool (!isD x)))
  | _ => none
theorem isD_non {F H : Hp} {v : V} {x : D} (h : DatP C.K F H v x) : decide (v = V.non) = isD x := by
  rcases h with h | ⟨a, vs, ds, rfl, rfl, _⟩ | ⟨a, vs, ds, rfl, rfl, _⟩
  · cases h <;> simp [isD, excD]
  · simp [isD]
  · simp [isD]
theorem od_is : OpD C (fun x y H Q => y = .non ∧ Q (.bl (decide (x = .non))) H) isG := by
  intro F H σ δ v w x y res Q R hx hy e k
  cases y with
  | none =>
    simp only [isG, Option.some.injEq] at e
    subst e
    refine ⟨hy.non, ?_⟩
    rw [isD_non hx]
    exact k _ F H Stp.refl R (Dat.bl _)
  | _ => simp [isG] at e
theorem od_isn : OpD C (fun x y H Q => y = .non ∧ Q (.bl (!decide (x = .non))) H) isnG := by
  intro F H σ δ v w x y res Q R hx hy e k
  cases y with
  | none =>
    simp only [isnG, Option.some.injEq] at e
    subst e
    refine ⟨hy.non, ?_⟩
    rw [isD_non hx]
    exact k _ F H Stp.refl R (Dat.bl _)
  | _ => simp [isnG] at e
/-! a chain of two comparisons -/
def chainE (g g' : D → D → Option Res) (fa fb fc : SE) : SE := bindE (pkE fa) fun ra => bindE (pkE fb) fun rb => fun δ =>
  match ra.get δ, rb.get δ with
  | some x, some y => match g x y with
    | some (.d (.bool true)) => (bindE (pkE fc) fun rc => fun δ' => match rb.get δ', rc.get δ' with
      | some y, some z => (g' y z).map fun r => .ok r δ'
      | _, _ => none) δ
    | some (.d (.bool false)) => some (.ok (.d (.bool false)) δ)
    | _ => none
  | _, _ => none
/-- an operator that gives a truth and changes nothing -/
def OpB (C : DC) (r : R2) (g : D → D → Option Res) : Prop := ∀ (F H : Hp) (v w : V) (x y : D) (b : Bool) (Q : VK), Le F H → DatP C.K F H v x → DatP C.K F H w y → g x y = some (.d (.bool b)) → Q (.bl b) H → r v w H Q
theorem opb_i {f : Int → Int → Bool} : OpB C (rI0 fun i j => .bl (f i j)) (op2B f) := by
  intro F H v w x y b Q R hx hy e k
  cases x with
  | int i =>
    cases y with
    | int j =>
      simp only [op2B, Option.some.injEq, Res.d.injEq, PyData.bool.injEq] at e
      subst e
      exact ⟨i, j, hx.int, hy.int, k⟩
    | _ => simp [op2B] at e
  | _ => simp [op2B] at e
theorem chain_read {r r' : R2} {g g' : D → D → Option Res} {fa fb fc : SE} {σ : Sg} {H : Hp} {Q : VK} (hg : OpB C r g) (hg' : OpD C r' g') (h : tD C W (chainE g g' fa fb fc) σ H Q) : tChain r r' (tD C W (pkE fa)) (tD C W (pkE fb)) (tD C W (pkE fc)) σ H Q := by
  obtain ⟨F, δ, h⟩ := h
  refine bindV (RVb := RVl C) (mbV) h fun v F1 H1 δ1 r1 e1 S1 R1 V1 h1 => ?_
  refine bindV (RVb := RVl C) (mbV) h1 fun w F2 H2 δ2 r2 e2 S2 R2 V2 h2 => ?_
  obtain ⟨o, ho⟩ := h2.some
  have ho' := ho
  cases q1 : r1.get δ2 with
  | none => simp only [q1] at ho; cases ho
  | some x =>
    cases q2 : r2.get δ2 with
    | none => simp only [q1, q2] at ho; cases ho
    | some y =>
      simp only [q1, q2] at ho
      have d1 := (V1.after (Hs' := H) (pk_isPk e1) S2).get R2 q1
      have d2 := V2.get R2 q2
      cases q3 : g x y with
      | none => simp only [q3] at ho; cases ho
      | some res =>
        simp only [q3] at ho
        cases res with
        | d z =>
          cases z with
          | bool b =>
            refine hg F2 H2 v w x y b _ R2.ext d1 d2 q3 ⟨b, rfl, ?_⟩
            cases b with
            | false =>
              cases ho
              rw [if_neg (by decide)]
              exact h2.use ho' Stp.refl R2 (Dat.bl false)
            | true =>
              rw [if_pos rfl]
              have h3 : tX C W (RVl C) (bindE (pkE fc) fun rc => fun δ' => match r2.get δ', rc.get δ' with
                | some y, some z => (g' y z).map fun r => ER.ok r δ'
                | _, _ => none) F2 H2 σ δ2 Q := by
                obtain ⟨_, hh⟩ := h2
                refine ⟨R2, ?_⟩
                simp only [q1, q2, q3] at hh
                exact hh
              refine bindV (RVb := RVl C) (mbV) h3 fun u F3 H3 δ3 r3 e3 S3 R3 V3 h4 => ?_
              obtain ⟨o4, ho4⟩ := h4.some
              have ho4' := ho4
              cases q4 : r2.get δ3 with
              | none => simp only [q4] at ho4; cases ho4
              | some y' =>
                cases q5 : r3.get δ3 with
                | none => simp only [q4, q5] at ho4; cases ho4
                | some z' =>
                  simp only [q4, q5] at ho4
                  cases q6 : g' y' z' with
                  | none => rw [q6] at ho4; cases ho4
                  | some res' =>
                    rw [q6] at ho4
                    have ho4 : some (ER.ok res' δ3) = some o4 := ho4
                    cases ho4
                    exact hg' F3 H3 σ δ3 w u y' z' res' Q R3 ((V2.after (Hs' := H) (pk_isPk e2) S3).get R3 q4) (V3.get R3 q5) q6 fun u' F' H' S R V => h4.use ho4' S R V
          | _ => cases ho
        | _ => cases ho
theorem de_chain {op op' : CmpOp} {r r' : R2} {g g' : D → D → Option Res} {a b c : Expr} {fa fb fc : SE} {pos : Pos} (ho : OpR X (compareOp op) r) (ho' : OpR X (compareOp op') r') (hg : OpB C r g) (hg' : OpD C r' g') (ha : DE X C W a fa) (hb : DE X C W b fb) (hc : DE X C W c fc)
    (hm : lastMarks [op, op'] [b, c] = false := by with_unfolding_all rfl) : DE X C W (.Compare a [op, op'] [b, c] pos) (chainE g g' fa fb fc) :=
  pe_mono (pe_chain ho ho' (de_pk ha) (de_pk hb) (de_pk hc) hm) fun σ H Q h => chain_read hg hg' h
theorem dt_chain {op op' : CmpOp} {r r' : R2} {g g' : D → D → Option Res} {a b c : Expr} {fa fb fc : SE} {pos : Pos} (ho : OpR X (compareOp op) r) (ho' : OpR X (compareOp op') r') (hg : OpB C r g) (hg' : OpD C r' g') (ha : DE X C W a fa) (hb : DE X C W b fb) (hc : DE X C W c fc)
    (hm : lastMarks [op, op'] [b, c] = false := by with_unfolding_all rfl) : DT X C W (.Compare a [op, op'] [b, c] pos) (toB (chainE g g' fa fb fc)) :=
  pt_mono (pt_chain ho ho' (de_pk ha) (de_pk hb) (de_pk hc) hm) fun σ H Q h => chain_read hg hg' (toB_read h)
end
end DL

namespace DL
open PySem PySem.Spec PyProof.Rows L2
/-! ### statements -/
inductive SO where
  | nx (δ : List SV)
  | rt (r : Res) (δ : List SV)
  | bk (δ : List SV)
  | ct (δ : List SV)
  | ex (e : XD) (δ : List SV)
abbrev SS := List SV → Option SO
def Res.isR : Res → Bool
  | .b _ => false
  | _ => true
/-- what is wanted behind an outcome -/
def SOk (C : DC) (W : XW) (D : Ends) (F : Hp) : Option SO → Prop
  | none => False
  | some (.nx δ') => ∀ σ' F' H', Le F F' → Rp C F' H' σ' δ' → D.nx σ' H'
  | some (.bk δ') => ∀ σ' F' H', Le F F' → Rp C F' H' σ' δ' → D.bk σ' H'
  | some (.ct δ') => ∀ σ' F' H', Le F F' → Rp C F' H' σ' δ' → D.ct σ' H'
  | some (.rt r δ') => r.isR = true ∧ ∀ v σ' F' H', Le F F' → Rp C F' H' σ' δ' → RV C F' H' σ' C.H0 v r → D.rt v H'
  | some (.ex e δ') => ∀ σ' F' H' od, Le F F' → Rp C F' H' σ' δ' → XOk C F' H' e od → W (.ref (He.ga C.K e.cls)) od σ' H'
def tS (C : DC) (W : XW) (s : SS) : TS := fun D σ H => ∃ F δ, Rp C F H σ δ ∧ SOk C W D F (s δ)
def DS (X : Cx) (C : DC) (W : XW) (st : Stmt) (s : SS) : Prop := PS X st (tS C W s)
def DB (X : Cx) (C : DC) (W : XW) (st : List Stmt) (s : SS) : Prop := PSs X st (tS C W s)
section
variable {X : Cx} {C : DC} {W : XW} {D : Ends} {F F' H H' : Hp} {σ : Sg} {δ δ' : List SV} {o : Option SO}
theorem SOk.le (h : SOk C W D F o) (e : Le F F') : SOk C W D F' o := by
  cases o with
  | none => exact h
  | some o =>
    cases o with
    | nx δ => exact fun σ F2 H l => h σ F2 H (e.trans l)
    | bk δ => exact fun σ F2 H l => h σ F2 H (e.trans l)
    | ct δ => exact fun σ F2 H l => h σ F2 H (e.trans l)
    | rt r δ => exact ⟨h.1, fun v σ F2 H l => h.2 v σ F2 H (e.trans l)⟩
    | ex x δ => exact fun σ F2 H od l => h σ F2 H od (e.trans l)
theorem SOk.imp {D' : Ends} (h : SOk C W D F o) (h1 : ∀ σ H, D.nx σ H → D'.nx σ H) (h2 : ∀ σ H, D.bk σ H → D'.bk σ H) (h3 : ∀ σ H, D.ct σ H → D'.ct σ H) (h4 : ∀ v H, D.rt v H → D'.rt v H) : SOk C W D' F o := by
  cases o with
  | none => exact h
  | some o =>
    cases o with
    | nx δ => exact fun σ F2 H l r => h1 _ _ (h σ F2 H l r)
    | bk δ => exact fun σ F2 H l r => h2 _ _ (h σ F2 H l r)
    | ct δ => exact fun σ F2 H l r => h3 _ _ (h σ F2 H l r)
    | rt r δ => exact ⟨h.1, fun v σ F2 H l q z => h4 _ _ (h.2 v σ F2 H l q z)⟩
    | ex x δ => exact h
/-- an expression, then what is done with it -/
def bindS {α : Type} (f : SEa α) (k : α → SS) : SS := fun δ =>
  match f δ with
  | none => none
  | some (.ok r δ') => k r δ'
  | some (.ex e δ') => some (.ex e δ')
theorem bindS_read {α β : Type} {RVa : Hp → Hp → Sg → Hp → β → α → Prop} {f : SEa α} {k : α → SS} (R : Rp C F H σ δ) (h : SOk C W D F (bindS f k δ)) :
    tX C W RVa f F H σ δ (fun v H1 => ∃ F1 δ1 r, f δ = some (.ok r δ1) ∧ Stp F H σ δ F1 H1 δ1 ∧ Rp C F1 H1 σ δ1 ∧ RVa F1 H1 σ H v r ∧ SOk C W D F1 (k r δ1)) := by
  refine ⟨R, ?_⟩
  unfold bindS at h
  cases q : f δ with
  | none => rw [q] at h; exact h
  | some o =>
    rw [q] at h
    cases o with
    | ex e δ' => exact fun F1 H1 od S R1 x => h σ F1 H1 od S.ext R1 x
    | ok r δ1 => exact fun v F1 H1 S R1 V => ⟨F1, δ1, r, rfl, S, R1, V, SOk.le h S.ext⟩
theorem bindSV {f : SE} {k : Res → SS} (h : tS C W (bindS f k) D σ H) {Q : V → Hp → Prop}
    (c : ∀ v F1 H1 δ1 r, Rp C F1 H1 σ δ1 → RV C F1 H1 σ C.H0 v r → SOk C W D F1 (k r δ1) → Q v H1) : tD C W f σ H Q := by
  obtain ⟨F, δ, R, h⟩ := h
  refine ⟨F, δ, (bindS_read R h).mono fun v H1 ⟨F1, δ1, r, _, S, R1, V, q⟩ => c v F1 H1 δ1 r R1 (V.hs fun p np => R.fresh0 np) q⟩
theorem bindST {f : SB} {k : Bool → SS} (h : tS C W (bindS f k) D σ H) {Q : Bool → Hp → Prop}
    (c : ∀ v F1 H1 δ1, Rp C F1 H1 σ δ1 → SOk C W D F1 (k v δ1) → Q v H1) : tT C W f σ H Q := by
  obtain ⟨F, δ, R, h⟩ := h
  refine ⟨F, δ, (bindS_read R h).mono fun v H1 ⟨F1, δ1, r, _, S, R1, V, q⟩ => ?_⟩
  have V : v = r := V
  subst V
  exact c v F1 H1 δ1 R1 q
theorem bindSA {f : SA} {k : List Res → SS} (h : tS C W (bindS f k) D σ H) {Q : List V → Hp → Prop}
    (c : ∀ v F1 H1 δ1 r, Rp C F1 H1 σ δ1 → RVs C F1 H1 σ C.H0 v r → SOk C W D F1 (k r δ1) → Q v H1) : tAr C W f σ H Q := by
  obtain ⟨F, δ, R, h⟩ := h
  refine ⟨F, δ, (bindS_read R h).mono fun v H1 ⟨F1, δ1, r, _, S, R1, V, q⟩ => c v F1 H1 δ1 r R1 (RVs.hs (fun p np => R.fresh0 np) V) q⟩
/-! blocks -/
def skipS : SS := fun δ => some (.nx δ)
def seqS (s t : SS) : SS := fun δ =>
  match s δ with
  | some (.nx δ') => t δ'
  | o => o
theorem db_nil : DB X C W [] skipS := pss_mono pss_nil fun D σ H ⟨F, δ, R, h⟩ => h σ F H (Le.refl _) R
theorem seq_read {s t : SS} {u : TS} (hu : u = tS C W t) (h : tS C W (seqS s t) D σ H) : tS C W s { D with nx := u D } σ H := by
  subst hu
  obtain ⟨F, δ, R, h⟩ := h
  refine ⟨F, δ, R, ?_⟩
  unfold seqS at h
  cases q : s δ with
  | none => rw [q] at h; exact h
  | some o =>
    rw [q] at h
    cases o with
    | nx δ' => exact fun σ' F' H' l R' => ⟨F', δ', R', SOk.le h l⟩
    | bk δ => exact h
    | ct δ => exact h
    | rt r δ => exact h
    | ex x δ => exact h
theorem db_cons {st : Stmt} {rest : List Stmt} {s t : SS} (h1 : DS X C W st s) (h2 : DB X C W rest t) : DB X C W (st :: rest) (seqS s t) := pss_mono (pss_cons h1 h2) fun D σ H h => seq_read rfl h
theorem db_one {st : Stmt} {s : SS} (h1 : DS X C W st s) : DB X C W [st] s := pss_one h1
/-! small statements -/
variable {e c : Expr} {f : SE} {g : SB} {pos : Pos}
def failS : SS := fun _ => none
theorem ds_never {st : Stmt} : DS X C W st failS := ps_mono ps_never fun D σ H ⟨F, δ, R, h⟩ => h
theorem ds_pass : DS X C W (.Pass pos) skipS := ps_mono ps_pass fun D σ H ⟨F, δ, R, h⟩ => h σ F H (Le.refl _) R
theorem ds_doc {x j pos pos'} : DS X C W (.Expr (.Constant (.str x) j pos) pos') skipS := ps_mono ps_doc fun D σ H ⟨F, δ, R, h⟩ => h σ F H (Le.refl _) R
def brkS : SS := fun δ => some (.bk δ)
def cntS : SS := fun δ => some (.ct δ)
theorem ds_break : DS X C W (.Break pos) brkS := ps_mono ps_break fun D σ H ⟨F, δ, R, h⟩ => h σ F H (Le.refl _) R
theorem ds_continue : DS X C W (.Continue pos) cntS := ps_mono ps_continue fun D σ H ⟨F, δ, R, h⟩ => h σ F H (Le.refl _) R
def exprS (f : SE) : SS := bindS f fun _ δ => some (.nx δ)
theorem ds_expr (he : DE X C W e f) (hs : swapsWith e none pos.line X.env = pure false := by rfl) : DS X C W (.Expr e pos) (exprS f) :=
  ps_mono (ps_expr he hs) fun D σ H h => bindSV h fun v F1 H1 δ1 r R1 V q => q σ F1 H1 (Le.refl _) R1
/-- what is handed back: data, a new thing, a list or dict of the def's own -/
def retK (r : Res) : SS := fun δ => match r with
  | .b i => match δ[i]? with
    | some (.d x) => some (.rt (.d x) δ)
    | some (.L 0 xs) => some (.rt (.nL xs) (δ.set i .u))
    | some (.M 0 ks) => some (.rt (.nM ks) (δ.set i .u))
    | _ => none
  | r => some (.rt r δ)
def retS (f : SE) : SS := bindS f retK
theorem Rp.drop (R : Rp C F H σ δ) (i : Nat) : Rp C F H σ (δ.set i .u) where
  ext := R.ext
  len := by simpa using R.len
  slot := fun j y t hy ht => by
    rcases get_set ht with ⟨rfl, rfl, _⟩ | ⟨hne, h2⟩
    · trivial
    · exact R.slot j y t hy h2
  apart := fun j k s t a h1 h2 h3 h4 h5 h6 => by
    rcases get_set h1 with ⟨rfl, rfl, _⟩ | ⟨n1, g1⟩
    · cases h2
    · rcases get_set h3 with ⟨rfl, rfl, _⟩ | ⟨n2, g2⟩
      · cases h4
      · exact R.apart j k s t a g1 h2 g2 h4 h5 h6
  own0 := fun j s a h1 h2 h3 => by
    rcases get_set h1 with ⟨rfl, rfl, _⟩ | ⟨n1, g1⟩
    · cases h2
    · exact R.own0 j s a g1 h2 h3
  old := R.old
  ext0 := R.ext0
  pers := R.pers
theorem ds_ret (he : DE X C W e f) : DS X C W (.Return (some e) pos) (retS f) := by
  refine ps_mono (ps_ret he) fun D σ H h => bindSV h fun v F1 H1 δ1 r R1 V q => ?_
  cases r with
  | d x => exact q.2 v σ F1 H1 (Le.refl _) R1 V
  | nL x => exact q.2 v σ F1 H1 (Le.refl _) R1 V
  | nM x => exact q.2 v σ F1 H1 (Le.refl _) R1 V
  | b i =>
    have V : σ[i]? = some (some v) := V
    cases z : δ1[i]? with
    | none => simp only [retK, z] at q; exact q.elim
    | some s =>
      have k := R1.slot i _ s V z
      cases s with
      | u => simp only [retK, z] at q; exact q.elim
      | d x =>
        simp only [retK, z] at q
        obtain ⟨w, e1, h1⟩ := k
        cases e1
        exact q.2 v σ F1 H1 (Le.refl _) R1 h1
      | L n xs =>
        cases n with
        | succ n => simp only [retK, z] at q; exact q.elim
        | zero =>
          simp only [retK, z] at q
          obtain ⟨a, vs, e1, _, h1, h2, h3⟩ := k
          cases e1
          exact q.2 _ σ F1 H1 (Le.refl _) (R1.drop i) (show RV C F1 H1 σ C.H0 _ (.nL xs) from ⟨a, vs, rfl, h1, h2, h3, (R1.own0 i _ a z rfl V).2 rfl⟩)
      | M n xs =>
        cases n with
        | succ n => simp only [retK, z] at q; exact q.elim
        | zero =>
          simp only [retK, z] at q
          obtain ⟨a, vs, e1, _, h1, h2, h3⟩ := k
          cases e1
          exact q.2 _ σ F1 H1 (Le.refl _) (R1.drop i) (show RV C F1 H1 σ C.H0 _ (.nM xs) from ⟨a, vs, rfl, h1, h2, h3, (R1.own0 i _ a z rfl V).2 rfl⟩)
def retN : SS := fun δ => some (.rt (.d .none) δ)
theorem ds_retN : DS X C W (.Return none pos) retN := ps_mono ps_retN fun D σ H ⟨F, δ, R, h⟩ => h.2 .non σ F H (Le.refl _) R Dat.non
def ifS (g : SB) (s t : SS) : SS := bindS g fun k => if k = true then s else t
theorem ds_if {a b : List Stmt} {s t : SS} (hc : DT X C W c g) (ha : DB X C W a s) (hb : DB X C W b t) : DS X C W (.If c a b pos) (ifS g s t) := by
  refine ps_mono (ps_if hc ha hb) fun D σ H h => bindST h fun v F1 H1 δ1 R1 q => ?_
  cases v with
  | true => exact ⟨F1, δ1, R1, q⟩
  | false => exact ⟨F1, δ1, R1, q⟩
/-! ### x = e -/
def putV (i : Nat) (r : Res) : List SV → Option (List SV) := fun δ => match r with
  | .d x => some (δ.set i (.d x))
  | .nL xs => some (δ.set i (.L 0 xs))
  | .nM ks => some (δ.set i (.M 0 ks))
  | .b _ => none
def setS (i : Nat) (f : SE) : SS := bindS f fun r δ => (putV i r δ).map .nx
theorem put_read {i : Nat} {v : V} {r : Res} (R : Rp C F H σ δ) (V : RV C F H σ C.H0 v r) (no : ∀ p, v = .ref p → r.isPk = false → ¬ OwnedAt σ δ p) (e : putV i r δ = some δ') : Rp C F H (σ.set i (some v)) δ' := by
  cases r with
  | d x => cases e; exact R.setD V
  | b j => cases e
  | nL xs =>
    cases e
    obtain ⟨p, vs, rfl, hp, hf, hd, hs⟩ := V
    exact R.setN rfl rfl hs (no p rfl rfl) ⟨p, vs, rfl, fun z => absurd rfl z, hp, hf, hd⟩
  | nM xs =>
    cases e
    obtain ⟨p, vs, rfl, hp, hf, hd, hs⟩ := V
    exact R.setN rfl rfl hs (no p rfl rfl) ⟨p, vs, rfl, fun z => absurd rfl z, hp, hf, hd⟩
theorem RV.fresh_no {F1 H1 : Hp} {δ1 : List SV} {v : V} {r : Res} (R : Rp C F H σ δ) (S : Stp F H σ δ F1 H1 δ1) (V : RV C F1 H1 σ H v r) : ∀ p, v = .ref p → r.isPk = false → ¬ OwnedAt σ δ1 p := by
  intro p e hp
  cases r with
  | d x => cases hp
  | b j => cases hp
  | nL xs =>
    obtain ⟨p', vs, e2, _, _, _, hs⟩ := V
    rw [e] at e2; cases e2
    exact fun z => R.fresh_own hs (S.owned z)
  | nM xs =>
    obtain ⟨p', vs, e2, _, _, _, hs⟩ := V
    rw [e] at e2; cases e2
    exact fun z => R.fresh_own hs (S.owned z)
theorem bindSV' {f : SE} {k : Res → SS} (h : tS C W (bindS f k) D σ H) {Q : V → Hp → Prop}
    (c : ∀ v F1 H1 δ1 r, Rp C F1 H1 σ δ1 → RV C F1 H1 σ C.H0 v r → (∀ p, v = .ref p → r.isPk = false → ¬ OwnedAt σ δ1 p) → SOk C W D F1 (k r δ1) → Q v H1) : tD C W f σ H Q := by
  obtain ⟨F, δ, R, h⟩ := h
  refine ⟨F, δ, (bindS_read R h).mono fun v H1 ⟨F1, δ1, r, _, S, R1, V, q⟩ => c v F1 H1 δ1 r R1 (V.hs fun p np => R.fresh0 np) (V.fresh_no R S) q⟩
theorem ds_set {i : Nat} {x : Str} {pos' : Pos} (hN : X.N.Nodup) (hi : X.N[i]? = some x) (hx : Loc X.env.scope x) (he : DE X C W e f) (hs : swapsWith e (some (.Name x pos')) pos.line X.env = pure false := by rfl)
    (hf : X.fn x = true ∨ X.env.scope.names.lookup x = some .local := by first | exact .inl rfl | exact .inr rfl | assumption) : DS X C W (.Assign [.Name x pos'] e pos) (setS i f) := by
  refine ps_mono (ps_set hN hi hx he hs hf) fun D σ H h => bindSV' h fun v F1 H1 δ1 r R1 V no q => ?_
  cases z : putV i r δ1 with
  | none => simp only [z] at q; exact q.elim
  | some δ2 =>
    simp only [z] at q
    exact q _ F1 H1 (Le.refl _) (put_read R1 V no z)
/-! ### targets -/
abbrev STg := PyData → List SV → Option (List SV)
def tG (C : DC) (t : STg) : TG := fun v σ H Q => ∃ F δ x δ', Rp C F H σ δ ∧ Dat C.K F v x ∧ t x δ = some δ' ∧ ∀ σ', Rp C F H σ' δ' → Q σ' H
def DG (X : Cx) (C : DC) (tg : Expr) (t : STg) : Prop := PG X tg (tG C t)
abbrev STs := List PyData → List SV → Option (List SV)
def tGs (C : DC) (t : STs) : TGs := fun vs σ H Q => ∃ F δ xs δ', Rp C F H σ δ ∧ Dats C.K F vs xs ∧ t xs δ = some δ' ∧ ∀ σ', Rp C F H σ' δ' → Q σ' H
def DGs (X : Cx) (C : DC) (ts : List Expr) (t : STs) : Prop := PGs X ts (tGs C t)
theorem pg_mono {tg : Expr} {t t' : TG} (h : PG X tg t) (k : ∀ v σ H Q, t' v σ H Q → t v σ H Q) : PG X tg t' := ⟨fun pins s σ H v u Q I r q => h.run pins s σ H v u Q I r (k v σ H Q q)⟩
theorem pgs_mono {tg : List Expr} {t t' : TGs} (h : PGs X tg t) (k : ∀ v σ H Q, t' v σ H Q → t v σ H Q) : PGs X tg t' := ⟨fun pins s σ H v u Q I r q => h.run pins s σ H v u Q I r (k v σ H Q q)⟩
def nameT (i : Nat) : STg := fun x δ => some (δ.set i (.d x))
theorem dg_name {i : Nat} {x : Str} (hN : X.N.Nodup) (hi : X.N[i]? = some x) (hx : Loc X.env.scope x) (hf : X.fn x = true ∨ X.env.scope.names.lookup x = some .local := by first | exact .inl rfl | exact .inr rfl | assumption) : DG X C (.Name x pos) (nameT i) :=
  pg_mono (pg_name hN hi hx hf) fun v σ H Q ⟨F, δ, x, δ', R, d, e, k⟩ => by
    cases e
    exact k _ (R.setD d)
def nilT : STs := fun xs δ => match xs with
  | [] => some δ
  | _ => none
def consT (t : STg) (u : STs) : STs := fun xs δ => match xs with
  | x :: r => (t x δ).bind (u r)
  | [] => none
theorem dgs_nil : DGs X C [] nilT := pgs_mono pgs_nil fun v σ H Q ⟨F, δ, xs, δ', R, d, e, k⟩ => by
  cases d with
  | nil => cases e; exact ⟨rfl, k _ R⟩
  | cons h t => cases e
theorem dgs_cons {a : Expr} {es : List Expr} {t : STg} {u : STs} (h1 : DG X C a t) (h2 : DGs X C es u) (hs : (assignEach (a :: es) X.env).map (·.2) = assign a X.env :: (assignEach es X.env).map (·.2) := by rfl) : DGs X C (a :: es) (consT t u) := by
  refine pgs_mono (pgs_cons h1 h2 hs) fun v σ H Q ⟨F, δ, xs, δ', R, d, e, k⟩ => ?_
  cases d with
  | nil => cases e
  | @cons v vs x xs h r =>
    simp only [consT] at e
    cases q : t x δ with
    | none => rw [q] at e; cases e
    | some δ1 =>
      rw [q] at e
      exact ⟨v, vs, rfl, F, δ, x, δ1, R, h, q, fun σ1 R1 => ⟨F, δ1, xs, δ', R1, r, e, k⟩⟩
def tupT (n : Nat) (u : STs) : STg := fun x δ => match x with
  | .tuple xs => if xs.length = n then u xs δ else none
  | _ => none
theorem dg_tup {es : List Expr} {k n : Nat} {u : STs} (hc : X.calm = true) (hK : X.K = C.K) (h : DGs X C es u) (hn : (assignEach es X.env).length = n := by rfl) (hst : (assignEach es X.env).findIdx? (·.1) = none := by rfl) : DG X C (.Tuple es k pos) (tupT n u) := by
  refine pg_mono (pg_tup hc h hn hst) fun v σ H Q ⟨F, δ, x, δ', R, d, e, kk⟩ => ?_
  cases x with
  | tuple xs =>
    simp only [tupT] at e
    split at e
    · rename_i hl
      obtain ⟨a, vs, rfl, h1, t1⟩ := DatP.tup R.ext (.inl d)
      exact ⟨a, vs, rfl, by rw [hK]; exact h1, by rw [t1.length]; exact hl, F, δ, xs, δ', R, t1, e, kk⟩
    · cases e
  | _ => cases e
/-- a, b = e: data told apart -/
def unpS (t : STg) (f : SE) : SS := bindS (escE f) fun r δ => match r with
  | .d x => (t x δ).map .nx
  | _ => none
theorem ds_asg {tg : Expr} {t : STg} (he : DE X C W e f) (hg : DG X C tg t) (hs : swapsWithSole [tg] e pos.line X.env = pure false := by rfl) (hw : swappedStores [tg] e X.env = pure none := by rfl)
    (h1 : (assignEach [tg] X.env).map (·.2) = [assign tg X.env] := by rfl) : DS X C W (.Assign [tg] e pos) (unpS t f) := by
  refine ps_mono (ps_asg (de_esc he) hg hs hw h1) fun D σ H h => bindSV h fun v F1 H1 δ1 r R1 V q => ?_
  cases r with
  | d x =>
    simp only at q
    cases z : t x δ1 with
    | none => rw [z] at q; exact q.elim
    | some δ2 =>
      rw [z] at q
      exact ⟨F1, δ1, x, δ2, R1, V, z, fun σ' R' => q σ' F1 H1 (Le.refl _) R'⟩
  | _ => exact q.elim
/-! ### what is walked -/
structure ItOk (C : DC) (F0 : Hp) (J : It) (items : List PyData) : Prop where
  go : ∀ (i : Nat) F H σ δ, Le F0 F → Rp C F H σ δ → i < items.length → J.go i H
  yld : ∀ (i : Nat) F H σ δ x H' z, Le F0 F → Rp C F H σ δ → J.yld i H x H' → items[i]? = some z → ∃ F', Stp F H σ δ F' H' δ ∧ Rp C F' H' σ δ ∧ Dat C.K F' x z
  stop : ∀ F H σ δ, Le F0 F → Rp C F H σ δ → J.stop items.length H
def RIt (C : DC) : Hp → Hp → Sg → Hp → It → List PyData → Prop := fun F _ _ _ J items => ItOk C F J items
abbrev SI := SEa (List PyData)
def tI (C : DC) (W : XW) (src : SI) : TI := fun σ H R => ∃ F δ, tX C W (RIt C) src F H σ δ R
def DI (X : Cx) (C : DC) (W : XW) (tg iter : Expr) (src : SI) : Prop := PI X tg iter (tI C W src)
theorem pi_mono {tg iter : Expr} {t t' : TI} (h : PI X tg iter t) (k : ∀ σ H R, t' σ H R → t σ H R) : PI X tg iter t' := ⟨fun pins s σ H R I q => h.run pins s σ H R I (k σ H R q)⟩
theorem ItOk.le {F0 F1 : Hp} {J : It} {items : List PyData} (h : ItOk C F0 J items) (e : Le F0 F1) : ItOk C F1 J items :=
  ⟨fun i F H σ δ l => h.go i F H σ δ (e.trans l), fun i F H σ δ x H' z l => h.yld i F H σ δ x H' z (e.trans l), fun F H σ δ l => h.stop F H σ δ (e.trans l)⟩
/-! ### for -/
def forGo (t : STg) (s : SS) : List PyData → SS
  | [], δ => some (.nx δ)
  | x :: r, δ => match t x δ with
    | none => none
    | some δ1 => match s δ1 with
      | some (.nx δ2) => forGo t s r δ2
      | some (.ct δ2) => forGo t s r δ2
      | some (.bk δ2) => some (.nx δ2)
      | o => o
def forS (src : SI) (t : STg) (s : SS) : SS := bindS src fun items => forGo t s items
theorem ds_for {tg iter : Expr} {body : List Stmt} {src : SI} {t : STg} {s : SS} (hp : PassesOwn (model X.prog X.w) X.A X.env X.xe) (hc : X.calm = true) (hi : DI X C W tg iter src) (hg : DG X C tg t) (hb : DB X C W body s)
    (hs : ∀ x, foldedSetIterable iter X.env x = pure x := by intro _; rfl) : DS X C W (.For tg iter body [] pos) (forS src t s) := by
  refine ps_mono (ps_for hp hc hi hg hb hs) fun D σ H h => ?_
  obtain ⟨F, δ, R, h⟩ := h
  refine ⟨F, δ, (bindS_read R h).mono fun J H1 ⟨F1, δ1, items, _, S, R1, IT, q⟩ => ?_⟩
  have IT : ItOk C F1 J items := IT
  refine ⟨fun i m σ H => m = items.length - i ∧ i ≤ items.length ∧ ∃ F δ, Le F1 F ∧ Rp C F H σ δ ∧ SOk C W D F (forGo t s (items.drop i) δ), ⟨_, rfl, Nat.zero_le _, F1, δ1, Le.refl _, R1, by simpa using q⟩, ?_⟩
  rintro i m σ2 H2 ⟨rfl, hi2, F2, δ2, l2, R2, q2⟩
  by_cases hlt : i < items.length
  · refine .inr ⟨IT.go i F2 H2 σ2 δ2 l2 R2 hlt, fun σ' H' => ∃ F δ, Le F1 F ∧ Rp C F H' σ' δ ∧ SOk C W D F (forGo t s (items.drop (i + 1)) δ), fun σ' H' z => ⟨items.length - (i + 1), by omega, rfl, hlt, z⟩, fun x H' y => ?_⟩
    obtain ⟨F3, S3, R3, d3⟩ := IT.yld i F2 H2 σ2 δ2 x H' items[i] l2 R2 y (by simp [hlt])
    rw [List.drop_eq_getElem_cons hlt] at q2
    simp only [forGo] at q2
    cases z1 : t items[i] δ2 with
    | none => rw [z1] at q2; exact q2.elim
    | some δ3 =>
      rw [z1] at q2
      simp only at q2
      refine ⟨F3, δ2, items[i], δ3, R3, d3, z1, fun σ3 R4 => ⟨F3, δ3, R4, ?_⟩⟩
      have q3 := SOk.le q2 S3.ext
      have l3 := l2.trans S3.ext
      cases z2 : s δ3 with
      | none => rw [z2] at q3; exact q3.elim
      | some o =>
        rw [z2] at q3
        cases o with
        | nx δ4 => exact fun σ' F' H'' l R' => ⟨F', δ4, l3.trans l, R', SOk.le q3 l⟩
        | ct δ4 => exact fun σ' F' H'' l R' => ⟨F', δ4, l3.trans l, R', SOk.le q3 l⟩
        | bk δ4 => exact q3
        | rt r δ4 => exact q3
        | ex x δ4 => exact q3
  · have : i = items.length := by omega
    subst this
    refine .inl ⟨IT.stop F2 H2 σ2 δ2 l2 R2, ?_⟩
    rw [List.drop_length] at q2
    exact q2 σ2 F2 H2 (Le.refl _) R2
/-! ### while -/
def whileGo (g : SB) (s : SS) : Nat → SS
  | 0, _ => none
  | n + 1, δ => match g δ with
    | none => none
    | some (.ex e δ1) => some (.ex e δ1)
    | some (.ok false δ1) => some (.nx δ1)
    | some (.ok true δ1) => match s δ1 with
      | some (.nx δ2) => whileGo g s n δ2
      | some (.ct δ2) => whileGo g s n δ2
      | some (.bk δ2) => some (.nx δ2)
      | o => o
def whileS (n : Nat) (g : SB) (s : SS) : SS := whileGo g s n
theorem ds_while {body : List Stmt} {s : SS} {n : Nat} (hp : PassesOwn (model X.prog X.w) X.A X.env X.xe) (hc : DT X C W c g) (hb : DB X C W body s) : DS X C W (.While c body [] pos) (whileS n g s) := by
  refine ps_mono (ps_while hp hc hb) fun D σ H ⟨F, δ, R, h⟩ => ?_
  refine ⟨fun m σ H => ∃ F δ, Rp C F H σ δ ∧ SOk C W D F (whileGo g s m δ), ⟨n, F, δ, R, h⟩, ?_⟩
  rintro m σ1 H1 ⟨F1, δ1, R1, q1⟩
  cases m with
  | zero => exact q1.elim
  | succ m =>
    have q1' : SOk C W D F1 (bindS g (fun k δ1 => if k = true then (match s δ1 with
      | some (.nx δ2) => whileGo g s m δ2
      | some (.ct δ2) => whileGo g s m δ2
      | some (.bk δ2) => some (.nx δ2)
      | o => o) else some (.nx δ1)) δ1) := by
      simp only [whileGo] at q1
      unfold bindS
      cases z : g δ1 with
      | none => rw [z] at q1; exact q1
      | some o =>
        rw [z] at q1
        cases o with
        | ex e δ2 => exact q1
        | ok k δ2 => cases k <;> exact q1
    refine bindST (D := D) ⟨F1, δ1, R1, q1'⟩ fun v F2 H2 δ2 R2 q2 => ?_
    cases v with
    | false =>
      rw [if_neg (by decide)]
      rw [if_neg (by decide)] at q2
      exact q2 σ1 F2 H2 (Le.refl _) R2
    | true =>
      rw [if_pos rfl]
      rw [if_pos rfl] at q2
      refine ⟨fun σ' H' => ∃ F δ, Rp C F H' σ' δ ∧ SOk C W D F (whileGo g s m δ), fun σ' H' z => ⟨m, by omega, z⟩, F2, δ2, R2, ?_⟩
      cases z2 : s δ2 with
      | none => rw [z2] at q2; exact q2.elim
      | some o =>
        rw [z2] at q2
        cases o with
        | nx δ4 => exact fun σ' F' H'' l R' => ⟨F', δ4, R', SOk.le q2 l⟩
        | ct δ4 => exact fun σ' F' H'' l R' => ⟨F', δ4, R', SOk.le q2 l⟩
        | bk δ4 => exact q2
        | rt r δ4 => exact q2
        | ex x δ4 => exact q2
end
end DL

namespace DL
open PySem PySem.Spec PyProof.Rows L2
/-! ### defs and their calls -/
/-- nothing is known of the def's own entry -/
def C1 (K : PySem.W.Frag) : DC := ⟨K, fun _ => 0, fun _ => none, fun _ => none, fun _ => True⟩
def WO (E : XK) : XW := fun c od _ H => E c od H
def spD (K : PySem.W.Frag) (Fs : SE) : Sp := fun vs H Q E => tD (C1 K) (WO E) Fs (vs.map some) H Q
structure FnG (P : Program) (w : World) (K : PySem.W.Frag) (mg : Str → Option Value) (base : Heap) (k : Nat) (f : Addr) (fd : FuncData) (ps : List Str) (Fs : SE) : Prop where
  len : ∀ args o, Fs args = some o → args.length = ps.length
  run : ∀ (A : Around) (outer : List Env) (s : Shared) (H : Hp) (args : Args) (us : List Value) (vs : List V) (Q : VK) (E : XK), A.guards = some [] → Room k A → Env0 P w K mg base A outer s H →
    BindsTo s fd args (ps.zip us) → Vals vs us → spD K Fs vs H Q E → codeAny (model P w) A (.call (.ref f) args) (CR (CX P w) outer P w H s Q E) s
theorem FnG.mono {P : Program} {w : World} {K : PySem.W.Frag} {mg : Str → Option Value} {base : Heap} {j k : Nat} {f : Addr} {fd : FuncData} {ps : List Str} {Fs : SE} (G : FnG P w K mg base j f fd ps Fs) (h : j ≤ k) : FnG P w K mg base k f fd ps Fs :=
  ⟨G.len, fun A outer s H args us vs Q E hg hr => G.run A outer s H args us vs Q E hg (hr.mono h)⟩
theorem spD_len {K : PySem.W.Frag} {Fs : SE} {n : Nat} (h : ∀ args o, Fs args = some o → args.length = n) {vs : List V} {H : Hp} {Q : VK} {E : XK} (s : spD K Fs vs H Q E) : vs.length = n := by
  obtain ⟨F, δ, z⟩ := s
  obtain ⟨o, ho⟩ := z.some
  have := z.1.len
  rw [List.length_map] at this
  rw [← this]
  exact h _ _ ho
theorem FnG.imp {P : Program} {w : World} {K : PySem.W.Frag} {mg : Str → Option Value} {base : Heap} {k : Nat} {f : Addr} {fd : FuncData} {ps : List Str} {Fs Fs' : SE} (G : FnG P w K mg base k f fd ps Fs) (h : ∀ args o, Fs' args = some o → Fs args = some o) : FnG P w K mg base k f fd ps Fs' :=
  ⟨fun args o e => G.len args o (h args o e), fun A outer s H args us vs Q E hg hr e0 hb hv ⟨F, δ, R, z⟩ => G.run A outer s H args us vs Q E hg hr e0 hb hv ⟨F, δ, R, by
    cases q : Fs' δ with
    | none => rw [q] at z; exact z.elim
    | some o => rw [h _ _ q]; rw [q] at z; exact z⟩⟩
section
variable {X : Cx} {C : DC} {W : XW} {F F' H H' : Hp} {σ : Sg} {δ δ' : List SV}
theorem takes_no : Takes X (fun _ _ _ _ => False) := fun u s' ⟨_, _, _, _, _, _, _, _, _, _, _, _, _, _, _, _, z⟩ => z.elim
theorem run_g {pins : List (Addr × Obj)} {s : Shared} {Q : VK} {us all : List Value} {kw : List (Str × Value)} {vs : List V} {k : Nat} {f : Addr} {fd : FuncData} {ps : List Str} {Fs : SE}
    (G : FnG X.prog X.w X.K X.mg X.base k f fd ps Fs) (hg : X.A.guards = some []) (hr : Room k X.A) (tk : Takes X W) (I : Inv X pins σ H s) (hb : BindsTo s fd ⟨us, kw⟩ (ps.zip all)) (r : Vals vs all)
    (h : spD X.K Fs vs H Q (WE W σ)) : wpAny (model X.prog X.w) X.A (call (.ref f) us kw) (EP X pins σ Q) X.xe s := by
  refine wpAny_call (codeAny_mono (G.run X.A X.stack s H ⟨us, kw⟩ all vs Q _ hg hr I.env0 hb r h) fun r s' hq => ?_)
  cases r with
  | error e => exact passAt tk σ pins H s e s' I hq
  | ok fl =>
    cases fl with
    | ret u => exact I.after hq
    | next => exact False.elim hq
    | brk => exact False.elim hq
    | cont => exact False.elim hq
/-! from what was evaluated to a callee's arguments, and back -/
def argOf (δ : List SV) : Res → Option SV
  | .d x => some (.d x)
  | .b i => match δ[i]? with
    | some (.L _ xs) => some (.L 0 xs)
    | some (.M _ ks) => some (.M 0 ks)
    | some (.d x) => some (.d x)
    | _ => none
  | _ => none
def bIx : Res → Option Nat
  | .b i => some i
  | _ => none
def backOf : List Res → List SV → List SV → Option (List SV)
  | [], [], δ => some δ
  | .d _ :: rs, _ :: os, δ => backOf rs os δ
  | .b i :: rs, o :: os, δ => match o, δ[i]? with
    | .L _ xs, some (.L k _) => backOf rs os (δ.set i (.L k xs))
    | .M _ xs, some (.M k _) => backOf rs os (δ.set i (.M k xs))
    | .d _, some (.d _) => backOf rs os δ
    | _, _ => none
  | _, _, _ => none
def argsOf (rs : List Res) (δ : List SV) : Option (List SV) := if (rs.filterMap bIx).Nodup then rs.mapM (argOf δ) else none
theorem mapM_cons_some {α β : Type} {f : α → Option β} {x : α} {r : List α} {ys : List β} (h : (x :: r).mapM f = some ys) : ∃ y zs, f x = some y ∧ r.mapM f = some zs ∧ ys = y :: zs := by
  rw [List.mapM_cons] at h
  cases q : f x with
  | none => simp [q] at h
  | some y =>
    cases q2 : r.mapM f with
    | none => simp [q, q2] at h
    | some zs => simp [q, q2] at h; exact ⟨y, zs, rfl, rfl, h.symm⟩
theorem mapM_get {α β : Type} {f : α → Option β} : ∀ {l : List α} {ys : List β}, l.mapM f = some ys → ∀ (i : Nat) y, ys[i]? = some y → ∃ x, l[i]? = some x ∧ f x = some y
  | [], ys, h, i, y, e => by simp at h; subst h; simp at e
  | x :: r, ys, h, i, y, e => by
    obtain ⟨y0, zs, h1, h2, rfl⟩ := mapM_cons_some h
    cases i with
    | zero => simp at e; subst e; exact ⟨x, rfl, h1⟩
    | succ i =>
      obtain ⟨x', h3, h4⟩ := mapM_get h2 i y (by simpa using e)
      exact ⟨x', by simpa using h3, h4⟩
theorem mapM_len {α β : Type} {f : α → Option β} : ∀ {l : List α} {ys : List β}, l.mapM f = some ys → ys.length = l.length
  | [], ys, h => by simp at h; subst h; rfl
  | x :: r, ys, h => by
    obtain ⟨y0, zs, h1, h2, rfl⟩ := mapM_cons_some h
    simp [mapM_len h2]
theorem RVs.at {Hs : Hp} : ∀ {vs : List V} {rs : List Res}, RVs C F H σ Hs vs rs → ∀ (i : Nat) v, vs[i]? = some v → ∃ r, rs[i]? = some r ∧ RV C F H σ Hs v r ∧ r.isPk = true
  | _, _, .nil, i, v, e => by simp at e
  | _, _, .cons h p t, 0, v, e => by simp at e; subst e; exact ⟨_, rfl, h, p⟩
  | _, _, .cons h p t, i + 1, v, e => by
    obtain ⟨r, h1, h2⟩ := RVs.at t i v (by simpa using e)
    exact ⟨r, by simpa using h1, h2⟩
theorem RVs.len {Hs : Hp} : ∀ {vs : List V} {rs : List Res}, RVs C F H σ Hs vs rs → vs.length = rs.length
  | _, _, .nil => rfl
  | _, _, .cons _ _ t => congrArg (· + 1) (RVs.len t)
theorem bIx_inj : ∀ {rs : List Res}, (rs.filterMap bIx).Nodup → ∀ (p q : Nat) i, rs[p]? = some (.b i) → rs[q]? = some (.b i) → p = q
  | [], _, p, q, i, e, _ => by simp at e
  | r :: rs, nd, p, q, i, e1, e2 => by
    have mem : ∀ (p : Nat), rs[p]? = some (.b i) → i ∈ rs.filterMap bIx := fun p h => List.mem_filterMap.mpr ⟨_, List.mem_of_getElem? h, rfl⟩
    have tl : (rs.filterMap bIx).Nodup := by
      cases r with
      | b j => simp only [List.filterMap_cons, bIx] at nd; exact (List.nodup_cons.mp nd).2
      | d x => simpa [List.filterMap_cons, bIx] using nd
      | nL x => simpa [List.filterMap_cons, bIx] using nd
      | nM x => simpa [List.filterMap_cons, bIx] using nd
    cases p with
    | zero =>
      cases q with
      | zero => rfl
      | succ q =>
        simp at e1 e2
        subst e1
        simp only [List.filterMap_cons, bIx] at nd
        exact absurd (mem q e2) (List.nodup_cons.mp nd).1
    | succ p =>
      cases q with
      | zero =>
        simp at e1 e2
        subst e2
        simp only [List.filterMap_cons, bIx] at nd
        exact absurd (mem p e1) (List.nodup_cons.mp nd).1
      | succ q =>
        simp at e1 e2
        exact congrArg (· + 1) (bIx_inj tl p q i e1 e2)
/-- what stands behind the call: the slots handed in, and the others -/
theorem back_spec : ∀ {rs : List Res} {os δ δ2 : List SV}, backOf rs os δ = some δ2 → (rs.filterMap bIx).Nodup →
    δ2.length = δ.length ∧ os.length = rs.length ∧ (∀ j, (∀ p : Nat, rs[p]? ≠ some (.b j)) → δ2[j]? = δ[j]?) ∧
    (∀ (p : Nat) i o, rs[p]? = some (.b i) → os[p]? = some o → (∃ n k xs ys, o = .L n xs ∧ δ[i]? = some (.L k ys) ∧ δ2[i]? = some (.L k xs)) ∨ (∃ n k xs ys, o = .M n xs ∧ δ[i]? = some (.M k ys) ∧ δ2[i]? = some (.M k xs)) ∨ (∃ x y, o = .d x ∧ δ[i]? = some (.d y) ∧ δ2[i]? = some (.d y)))
  | [], [], δ, δ2, h, _ => by
    simp [backOf] at h; subst h
    exact ⟨rfl, rfl, fun _ _ => rfl, fun p i o e => by simp at e⟩
  | [], _ :: _, _, _, h, _ => by simp [backOf] at h
  | .d x :: rs, [], _, _, h, _ => by simp [backOf] at h
  | .b i :: rs, [], _, _, h, _ => by simp [backOf] at h
  | .nL x :: rs, [], _, _, h, _ => by simp [backOf] at h
  | .nM x :: rs, [], _, _, h, _ => by simp [backOf] at h
  | .nL x :: rs, _ :: _, _, _, h, _ => by simp [backOf] at h
  | .nM x :: rs, _ :: _, _, _, h, _ => by simp [backOf] at h
  | .d x :: rs, o :: os, δ, δ2, h, nd => by
    simp only [backOf] at h
    obtain ⟨l1, l2, h1, h2⟩ := back_spec h (by simpa [List.filterMap_cons, bIx] using nd)
    refine ⟨l1, by simp [l2], fun j hj => h1 j fun p => by simpa using hj (p + 1), fun p i o' e1 e2 => ?_⟩
    cases p with
    | zero => simp at e1
    | succ p => exact h2 p i o' (by simpa using e1) (by simpa using e2)
  | .b i :: rs, o :: os, δ, δ2, h, nd => by
    have nd' := nd
    simp only [List.filterMap_cons, bIx] at nd
    obtain ⟨ni, tl⟩ := List.nodup_cons.mp nd
    have noti : ∀ p : Nat, rs[p]? ≠ some (.b i) := fun p e => ni (List.mem_filterMap.mpr ⟨_, List.mem_of_getElem? e, rfl⟩)
    have key : ∀ (δ1 : List SV) (s : SV), δ1.length = δ.length → (∀ j, j ≠ i → δ1[j]? = δ[j]?) → backOf rs os δ1 = some δ2 → 
        (δ1[i]? = some s → ((∃ n k xs ys, o = .L n xs ∧ δ[i]? = some (.L k ys) ∧ s = .L k xs) ∨ (∃ n k xs ys, o = .M n xs ∧ δ[i]? = some (.M k ys) ∧ s = .M k xs) ∨ (∃ x y, o = .d x ∧ δ[i]? = some (.d y) ∧ s = .d y))) → δ1[i]? = some s →
        δ2.length = δ.length ∧ (o :: os).length = (Res.b i :: rs).length ∧ (∀ j, (∀ p : Nat, (Res.b i :: rs)[p]? ≠ some (.b j)) → δ2[j]? = δ[j]?) ∧
        (∀ (p : Nat) i' o', (Res.b i :: rs)[p]? = some (.b i') → (o :: os)[p]? = some o' → (∃ n k xs ys, o' = .L n xs ∧ δ[i']? = some (.L k ys) ∧ δ2[i']? = some (.L k xs)) ∨ (∃ n k xs ys, o' = .M n xs ∧ δ[i']? = some (.M k ys) ∧ δ2[i']? = some (.M k xs)) ∨ (∃ x y, o' = .d x ∧ δ[i']? = some (.d y) ∧ δ2[i']? = some (.d y))) := by
      intro δ1 s hl hj hb hs hi
      obtain ⟨l1, l2, h1, h2⟩ := back_spec hb tl
      have hi2 : δ2[i]? = some s := by rw [h1 i noti]; exact hi
      refine ⟨l1.trans hl, by simp [l2], fun j hjj => ?_, fun p i' o' e1 e2 => ?_⟩
      · have nj : j ≠ i := fun z => hjj 0 (by simp [z])
        rw [h1 j fun p => by simpa using hjj (p + 1), hj j nj]
      · cases p with
        | zero =>
          simp at e1 e2
          subst e1 e2
          rcases hs hi with ⟨n, k, xs, ys, a, b, c⟩ | ⟨n, k, xs, ys, a, b, c⟩ | ⟨x, y, a, b, c⟩
          · exact .inl ⟨n, k, xs, ys, a, b, by rw [hi2, c]⟩
          · exact .inr (.inl ⟨n, k, xs, ys, a, b, by rw [hi2, c]⟩)
          · exact .inr (.inr ⟨x, y, a, b, by rw [hi2, c]⟩)
        | succ p =>
          have e1' : rs[p]? = some (.b i') := by simpa using e1
          have ne : i' ≠ i := fun z => noti p (by rw [← z]; exact e1')
          have := h2 p i' o' e1' (by simpa using e2)
          rw [hj i' ne] at this
          exact this
    simp only [backOf] at h
    cases q : δ[i]? with
    | none => cases o <;> simp [q] at h
    | some t =>
      have hil : i < δ.length := (List.getElem?_eq_some_iff.mp q).1
      cases o with
      | u => simp [q] at h
      | d x =>
        cases t with
        | d y =>
          simp only [q] at h
          exact key δ (.d y) rfl (fun _ _ => rfl) h (fun _ => .inr (.inr ⟨x, y, rfl, q, rfl⟩)) q
        | _ => simp [q] at h
      | L n xs =>
        cases t with
        | L k ys =>
          simp only [q] at h
          exact key (δ.set i (.L k xs)) (.L k xs) (by simp) (fun j nj => List.getElem?_set_ne (Ne.symm nj)) h (fun _ => .inl ⟨n, k, xs, ys, rfl, q, rfl⟩) (by rw [List.getElem?_set_self hil])
        | _ => simp [q] at h
      | M n xs =>
        cases t with
        | M k ys =>
          simp only [q] at h
          exact key (δ.set i (.M k xs)) (.M k xs) (by simp) (fun j nj => List.getElem?_set_ne (Ne.symm nj)) h (fun _ => .inr (.inl ⟨n, k, xs, ys, rfl, q, rfl⟩)) (by rw [List.getElem?_set_self hil])
        | _ => simp [q] at h
/-- a call of a def whose function is known -/
def applyE (Fs : SE) (rs : List Res) : SE := fun δ =>
  match argsOf rs δ with
  | none => none
  | some args => match Fs args with
    | none => none
    | some (.ok r os) => if r.isR = true then (backOf rs os δ).map (.ok r) else none
    | some (.ex e os) => (backOf rs os δ).map (.ex e)
theorem call_core {K : PySem.W.Frag} {Fs : SE} {rs : List Res} {vs : List V} {Q : VK} {Hs : Hp} (hK : C.K = K) (V1 : RVs C F H σ Hs vs rs) (h : tX C W (RVl C) (applyE Fs rs) F H σ δ Q) : spD K Fs vs H Q (WE W σ) := by
  subst hK
  have R := h.1
  obtain ⟨o, ho⟩ := h.some
  have ho' := ho
  unfold applyE at ho
  cases qa : argsOf rs δ with
  | none => simp only [qa] at ho; cases ho
  | some args =>
    simp only [qa] at ho
    unfold argsOf at qa
    split at qa
    · rename_i nd
      have len1 := mapM_len qa
      have vl := V1.len
      -- the place of an argument
      have argAt : ∀ (p : Nat) s, args[p]? = some s → ∃ r v, rs[p]? = some r ∧ vs[p]? = some v ∧ RV C F H σ Hs v r ∧ argOf δ r = some s := fun p s e => by
        obtain ⟨r, h1, h2⟩ := mapM_get qa p s e
        have hp : p < rs.length := (List.getElem?_eq_some_iff.mp h1).1
        have hv : vs[p]? = some (vs[p]'(by omega)) := List.getElem?_eq_getElem (by omega)
        obtain ⟨r', h3, h4, _⟩ := V1.at p _ hv
        rw [h1] at h3; cases h3
        exact ⟨r, _, h1, hv, h4, h2⟩
      have vmap : ∀ (p : Nat) v, vs[p]? = some v → (vs.map some)[p]? = some (some v) := fun p v e => by rw [List.getElem?_map, e]; rfl
      have vmap' : ∀ (p : Nat) x, (vs.map some)[p]? = some x → ∃ v, vs[p]? = some v ∧ x = some v := fun p x e => by
        rw [List.getElem?_map] at e
        cases z : vs[p]? with
        | none => rw [z] at e; cases e
        | some v => rw [z] at e; cases e; exact ⟨v, rfl, rfl⟩
      -- an owned argument is a slot's own
      have ownArg : ∀ (p : Nat) s a, args[p]? = some s → s.own = true → (vs.map some)[p]? = some (some (.ref a)) → ∃ i t, rs[p]? = some (.b i) ∧ δ[i]? = some t ∧ t.own = true ∧ σ[i]? = some (some (V.ref a)) := fun p s a e1 e2 e3 => by
        obtain ⟨r, v, h1, h2, h3, h4⟩ := argAt p s e1
        obtain ⟨v', h5, h6⟩ := vmap' p _ e3
        rw [h2] at h5; cases h5; cases h6
        cases r with
        | d x => cases h4; cases e2
        | nL x => cases h4
        | nM x => cases h4
        | b i =>
          simp only [argOf] at h4
          cases z : δ[i]? with
          | none => rw [z] at h4; cases h4
          | some t =>
            rw [z] at h4
            cases t with
            | u => cases h4
            | d x => cases h4; cases e2
            | L k xs => exact ⟨i, _, h1, z, rfl, h3⟩
            | M k xs => exact ⟨i, _, h1, z, rfl, h3⟩
      have R1 : Rp (C1 C.K) F H (vs.map some) args := by
        refine ⟨R.ext, by rw [len1, List.length_map, vl], fun p x s hx hs => ?_, fun p q s t a h1 h2 h3 h4 h5 h6 => ?_, fun p s a h1 h2 h3 => ⟨fun _ => trivial, fun _ => rfl⟩, fun a o e => (by cases e), fun a u e => (by rcases e with e | ⟨_, e⟩ <;> cases e), fun a e => absurd rfl e⟩
        · obtain ⟨v, hv, rfl⟩ := vmap' p x hx
          obtain ⟨r, v', h1, h2, h3, h4⟩ := argAt p s hs
          rw [hv] at h2; cases h2
          cases r with
          | d x => cases h4; exact ⟨v, rfl, h3⟩
          | nL x => cases h4
          | nM x => cases h4
          | b i =>
            have h3 : σ[i]? = some (some v) := h3
            simp only [argOf] at h4
            cases z : δ[i]? with
            | none => rw [z] at h4; cases h4
            | some t =>
              have k := R.slot i _ t h3 z
              rw [z] at h4
              cases t with
              | u => cases h4
              | d x => cases h4; exact k
              | L n xs =>
                cases h4
                obtain ⟨a, ys, e1, _, k2⟩ := k
                exact ⟨a, ys, e1, fun z => absurd rfl z, k2⟩
              | M n xs =>
                cases h4
                obtain ⟨a, ys, e1, _, k2⟩ := k
                exact ⟨a, ys, e1, fun z => absurd rfl z, k2⟩
        · obtain ⟨i, t1, g1, g2, g3, g4⟩ := ownArg p s a h1 h2 h5
          obtain ⟨j, t2, k1, k2, k3, k4⟩ := ownArg q t a h3 h4 h6
          have : i = j := R.apart i j t1 t2 a g2 g3 k2 k3 g4 k4
          subst this
          exact bIx_inj nd p q i g1 k1
      have ownIn : ∀ a, OwnedAt (vs.map some) args a → OwnedAt σ δ a := fun a ⟨p, s, h1, h2, h3⟩ =>
        let ⟨i, t, _, g2, g3, g4⟩ := ownArg p s a h1 h2 h3
        ⟨i, t, g2, g3, g4⟩
      -- from the callee's end to ours
      have fin : ∀ (os δ2 : List SV) (F2 H2 : Hp), backOf rs os δ = some δ2 → Stp F H (vs.map some) args F2 H2 os → Rp (C1 C.K) F2 H2 (vs.map some) os → Stp F H σ δ F2 H2 δ2 ∧ Rp C F2 H2 σ δ2 := fun os δ2 F2 H2 hb S2 R2 => by
        obtain ⟨l1, l2, sp1, sp2⟩ := back_spec hb nd
        have isB : ∀ j, (∃ p : Nat, rs[p]? = some (.b j)) ∨ ∀ p : Nat, rs[p]? ≠ some (.b j) := fun j => by
          by_cases z : ∃ p : Nat, rs[p]? = some (.b j)
          · exact .inl z
          · exact .inr fun p e => z ⟨p, e⟩
        have osAt : ∀ (p : Nat) j, rs[p]? = some (.b j) → ∃ o, os[p]? = some o := fun p j e => by
          have hp : p < rs.length := (List.getElem?_eq_some_iff.mp e).1
          exact ⟨os[p]'(by omega), List.getElem?_eq_getElem (by omega)⟩
        have S3 : Stp F H σ δ F2 H2 δ2 := by
          refine ⟨S2.ext, fun a o e n => S2.frm a o e fun z => n (ownIn a z), S2.pers, fun i s e1 e2 => ?_⟩
          rcases isB i with ⟨p, hp⟩ | hn
          · obtain ⟨o, ho⟩ := osAt p i hp
            rcases sp2 p i o hp ho with ⟨n, k, xs, ys, _, b, c⟩ | ⟨n, k, xs, ys, _, b, c⟩ | ⟨x, y, _, b, c⟩
            · rw [c] at e1; cases e1; exact ⟨_, b, rfl, rfl⟩
            · rw [c] at e1; cases e1; exact ⟨_, b, rfl, rfl⟩
            · rw [c] at e1; cases e1; cases e2
          · rw [sp1 i hn] at e1
            exact ⟨s, e1, e2, rfl⟩
        refine ⟨S3, R.step S3 R2.ext l1 fun i x s hx hs => ?_⟩
        rcases isB i with ⟨p, hp⟩ | hn
        · obtain ⟨o, ho⟩ := osAt p i hp
          have hpl : p < vs.length := by
            have := (List.getElem?_eq_some_iff.mp hp).1
            omega
          have hv : vs[p]? = some vs[p] := List.getElem?_eq_getElem hpl
          obtain ⟨r', g1, g2, _⟩ := V1.at p _ hv
          rw [hp] at g1; cases g1
          have g2 : σ[i]? = some (some vs[p]) := g2
          rw [hx] at g2; cases g2
          have k := R2.slot p _ o (vmap p _ hv) ho
          rcases sp2 p i o hp ho with ⟨n, k', xs, ys, eo, b, c⟩ | ⟨n, k', xs, ys, eo, b, c⟩ | ⟨y, z, eo, b, c⟩
          · rw [c] at hs; cases hs
            subst eo
            obtain ⟨a, zs, e1, _, k2⟩ := k
            obtain ⟨a', zs', e1', lb, _⟩ := R.slot i _ _ hx b
            rw [e1] at e1'; cases e1'
            exact ⟨a, zs, e1, lb, k2⟩
          · rw [c] at hs; cases hs
            subst eo
            obtain ⟨a, zs, e1, _, k2⟩ := k
            obtain ⟨a', zs', e1', lb, _⟩ := R.slot i _ _ hx b
            rw [e1] at e1'; cases e1'
            exact ⟨a, zs, e1, lb, k2⟩
          · rw [c] at hs; cases hs
            exact (R.slot i _ _ hx b).mono S2.ext fun _ _ z => by cases z
        · rw [sp1 i hn] at hs
          refine (R.slot i x s hx hs).mono S2.ext fun a ea es o ho => ?_
          subst ea
          have no : ¬ OwnedAt (vs.map some) args a := fun ⟨p, t, h1, h2, h3⟩ => by
            obtain ⟨j, t', g1, g2, g3, g4⟩ := ownArg p t a h1 h2 h3
            have := R.apart i j s t' a hs es g2 g3 hx g4
            exact hn p (by rw [this]; exact g1)
          obtain ⟨z1, z2⟩ := S2.frm a o ho no
          exact ⟨z1, z2 (R.owned_there ⟨i, s, hs, es, hx⟩).2⟩
      refine ⟨F, args, R1, ?_⟩
      cases qf : Fs args with
      | none => simp only [qf] at ho; cases ho
      | some o2 =>
        simp only [qf] at ho
        cases o2 with
        | ok r os =>
          simp only at ho
          split at ho
          · rename_i hr
            cases qb : backOf rs os δ with
            | none => rw [qb] at ho; cases ho
            | some δ2 =>
              rw [qb] at ho
              cases ho
              intro v F2 H2 S2 R2 V2
              obtain ⟨S3, R3⟩ := fin os δ2 F2 H2 qb S2 R2
              refine h.use ho' S3 R3 ?_
              cases r with
              | d x => exact V2
              | b i => cases hr
              | nL x => exact V2
              | nM x => exact V2
          · cases ho
        | ex e os =>
          simp only at ho
          cases qb : backOf rs os δ with
          | none => rw [qb] at ho; cases ho
          | some δ2 =>
            rw [qb] at ho
            cases ho
            intro F2 H2 od S2 R2 x2
            obtain ⟨S3, R3⟩ := fin os δ2 F2 H2 qb S2 R2
            obtain ⟨_, hh⟩ := h
            rw [ho'] at hh
            exact hh F2 H2 od S3 R3 x2
    · cases qa
/-! the calls -/
def DK (X : Cx) (C : DC) (W : XW) (kws : List Keyword) (g : SA) : Prop := PK X kws (tAr C W g)
theorem pk_mono {kws : List Keyword} {t t' : TA} (h : PK X kws t) (k : ∀ σ H Q, t' σ H Q → t σ H Q) : PK X kws t' := ⟨fun pos pins s σ H Q I q => h.run pos pins s σ H Q I (k σ H Q q)⟩
theorem dk_nil : DK X C W [] nilA := pk_mono pk_nil fun σ H Q ⟨F, δ, h⟩ => h.use (δ' := δ) rfl Stp.refl h.1 .nil
theorem dk_cons {nm : Option Str} {e : Expr} {kpos : Pos} {kws : List Keyword} {f : SE} {g : SA} (hp : ∀ δ r δ', f δ = some (.ok r δ') → r.isPk = true) (ha : DE X C W e f) (hr : DK X C W kws g) : DK X C W (⟨nm, e, kpos⟩ :: kws) (consA f g) := by
  refine pk_mono (pk_cons ha hr) fun σ H Q ⟨F, δ, h⟩ => ?_
  refine bindV (RVb := RVs C) (mbA) h fun v F1 H1 δ1 r1 e1 S1 R1 V1 h1 => ?_
  refine bindA (RVb := RVs C) (mbA) h1 fun vs F2 H2 δ2 rs e2 S2 R2 V2 h2 => ?_
  exact h2.use (δ' := δ2) rfl Stp.refl R2 (.cons (V1.after (hp _ _ _ e1) S2) (hp _ _ _ e1) (V2.after (Stp.refl (δ := δ2))))
theorem dk_e {nm : Option Str} {e : Expr} {kpos : Pos} {kws : List Keyword} {f : SE} {g : SA} (ha : DE X C W e f) (hr : DK X C W kws g) : DK X C W (⟨nm, e, kpos⟩ :: kws) (consA (escE f) g) := dk_cons (fun _ _ _ => esc_pk) (de_esc ha) hr
theorem dk_p {nm : Option Str} {e : Expr} {kpos : Pos} {kws : List Keyword} {f : SE} {g : SA} (ha : DE X C W e f) (hr : DK X C W kws g) : DK X C W (⟨nm, e, kpos⟩ :: kws) (consA (pkE f) g) := dk_cons (fun _ _ _ => pk_isPk) (de_pk ha) hr
/-- how a call's values are put into the parameters' order: us the written ones, ws the keywords'; dv: values that stand for what is left out -/
structure KB (K : PySem.W.Frag) (fd : FuncData) (ps ks : List Str) (n : Nat) (put : {α : Type} → List α → List α → List α → List α) (dv : List V) (dx : List D) : Prop where
  to : ∃ ds : List Value, Vals dv ds ∧ ∀ (s : Shared) (us ws : List Value), K.In s.heap → us.length = n → ws.length = ks.length → BindsTo s fd ⟨us, ks.zip ws⟩ (ps.zip (put us ws ds))
  rel : ∀ {us : List V} {us' : List Value} {ws : List V} {ws' : List Value} {ds : List V} {ds' : List Value}, Vals us us' → Vals ws ws' → Vals ds ds' → Vals (put us ws ds) (put us' ws' ds')
  res : ∀ (C : DC) (F H : Hp) (σ : Sg) (Hs : Hp) (us ws ds : List V) (rs qs es : List Res), RVs C F H σ Hs us rs → RVs C F H σ Hs ws qs → RVs C F H σ Hs ds es → RVs C F H σ Hs (put us ws ds) (put rs qs es)
  dat : ∀ (C : DC) (F H : Hp) (σ : Sg) (Hs : Hp), RVs C F H σ Hs dv (dx.map Res.d)
def callE (Fs : SE) (n m : Nat) (put : {α : Type} → List α → List α → List α → List α) (dx : List D) (g k : SA) : SE := bindE g fun rs => if rs.length = n then bindE k fun qs => if qs.length = m then applyE Fs (put rs qs (dx.map Res.d)) else fun _ => none else fun _ => none
variable {k n : Nat} {f : Addr} {fd : FuncData} {ps ks : List Str} {Fs : SE} {x : Str} {p pos : Pos} {e : Expr} {es : List Expr} {kws : List Keyword} {g gk : SA} {put : {α : Type} → List α → List α → List α → List α} {dv : List V} {dx : List D}
theorem tX.none_f {α β : Type} {RVa : Hp → Hp → Sg → Hp → β → α → Prop} {Q : β → Hp → Prop} (h : tX C W RVa (fun _ => none) F H σ δ Q) : False := h.2
theorem call_read {σ : Sg} {H : Hp} {Q : VK} (hK : C.K = X.K) (B : KB X.K fd ps ks n put dv dx) (h : tD C W (callE Fs n ks.length put dx g gk) σ H Q) :
    tAr C W g σ H fun vs H1 => vs.length = n ∧ tAr C W gk σ H1 fun zs H2 => zs.length = ks.length ∧ spD X.K Fs (put vs zs dv) H2 Q (WE W σ) := by
  obtain ⟨F, δ, h⟩ := h
  refine bindA (RVb := RVl C) (mbV) h fun vs F1 H1 δ1 rs e1 S1 R1 V1 h1 => ?_
  by_cases hn : rs.length = n
  · rw [if_pos hn] at h1
    refine ⟨V1.len.trans hn, ?_⟩
    refine bindA (RVb := RVl C) (mbV) h1 fun zs F2 H2 δ2 qs e2 S2 R2 V2 h2 => ?_
    by_cases hm : qs.length = ks.length
    · rw [if_pos hm] at h2
      exact ⟨V2.len.trans hm, call_core hK (B.res C F2 H2 σ H1 _ _ _ _ _ _ (V1.after S2) V2 (B.dat C F2 H2 σ H1)) h2⟩
    · rw [if_neg hm] at h2
      exact (tX.none_f h2).elim
  · rw [if_neg hn] at h1
    exact (tX.none_f h1).elim
theorem run_kb {pins : List (Addr × Obj)} {s : Shared} {Q : VK} {us ws : List Value} {vs zs : List V} (G : FnG X.prog X.w X.K X.mg X.base k f fd ps Fs) (hgd : X.A.guards = some []) (hr : Room k X.A) (tk : Takes X W) (B : KB X.K fd ps ks n put dv dx)
    (I : Inv X pins σ H s) (r : Vals vs us) (rz : Vals zs ws) (l1 : vs.length = n) (l2 : zs.length = ks.length) (h : spD X.K Fs (put vs zs dv) H Q (WE W σ)) : wpAny (model X.prog X.w) X.A (call (.ref f) us (ks.zip ws)) (EP X pins σ Q) X.xe s := by
  obtain ⟨ds, hd, hb⟩ := B.to
  exact run_g G hgd hr tk I (hb s us ws I.kIn (r.length.symm.trans l1) (rz.length.symm.trans l2)) (B.rel r rz hd) h
/-- f(e, ..) -/
theorem de_call (hK : C.K = X.K) (G : FnG X.prog X.w X.K X.mg X.base k f fd ps Fs) (hgd : X.A.guards = some []) (hr : Room k X.A) (tk : Takes X W) (hg : Gl X x) (hm : X.mg x = some (.ref f)) (hk : PySem.W.keepIn X.K (.ref f) = true) (B : KB X.K fd ps [] n put dv dx) (ha : DA X C W (e :: es) g)
    (hdb : (x == ("__debug__" : Str)) = false := by decide) (he : starEach (e :: es) X.env = (false, eval e X.env) :: starEach es X.env := by rfl) (hpl : (backTo pos (starEach es X.env)).any (·.1) = false := by rfl) :
    DE X C W (.Call (.Name x p) (e :: es) [] pos) (callE Fs n 0 put dx g nilA) := by
  refine ⟨fun pins s σ H Q I h => ?_⟩
  have h' := call_read (ks := []) hK B h
  refine wpAny_Call_Name_kw (ld_glob I hg hm ?_ hdb)
  refine PySem.W.callWith_K (h₀ := X.base) I.ok.mod.kin hk (thn (ha.run pos pins s σ H _ I h') fun us s1 ⟨vs, H1, I1, r, l1, q⟩ => ⟨I1.kIn, ?_⟩) he hpl
  have q' : ∃ zs H2, H2 = H1 ∧ zs = ([] : List V) ∧ spD X.K Fs (put vs zs dv) H2 Q (WE W σ) := by
    obtain ⟨F, δ, R, z⟩ := q
    obtain ⟨_, z2⟩ := z [] F H1 Stp.refl R .nil
    exact ⟨[], H1, rfl, rfl, z2⟩
  obtain ⟨zs, H2, rfl, rfl, q2⟩ := q'
  exact run_kb (ks := []) (ws := []) G hgd hr tk B I1 r .nil l1 rfl q2
/-- f() -/
theorem de_call0 (hK : C.K = X.K) (G : FnG X.prog X.w X.K X.mg X.base k f fd ps Fs) (hgd : X.A.guards = some []) (hr : Room k X.A) (tk : Takes X W) (hg : Gl X x) (hm : X.mg x = some (.ref f)) (hk : PySem.W.keepIn X.K (.ref f) = true) (B : KB X.K fd ps [] 0 put dv dx)
    (hdb : (x == ("__debug__" : Str)) = false := by decide) : DE X C W (.Call (.Name x p) [] [] pos) (callE Fs 0 0 put dx nilA nilA) := by
  refine ⟨fun pins s σ H Q I h => ?_⟩
  have h' := call_read (ks := []) hK B h
  refine wpAny_Call_Name_kw (ld_glob I hg hm ?_ hdb)
  obtain ⟨F, δ, R, z⟩ := h'
  obtain ⟨_, F', δ', R', z'⟩ := z [] F H Stp.refl R .nil
  obtain ⟨_, z2⟩ := z' [] F' H Stp.refl R' .nil
  exact PySem.W.callWith_K0 I.kIn hk (run_kb (ks := []) (us := []) (ws := []) G hgd hr tk B I .nil .nil rfl rfl z2)
/-- f(e, .., k = v, ..) -/
theorem de_callK {m : Nat} (hK : C.K = X.K) (G : FnG X.prog X.w X.K X.mg X.base k f fd ps Fs) (hgd : X.A.guards = some []) (hr : Room k X.A) (tk : Takes X W) (hg : Gl X x) (hm : X.mg x = some (.ref f)) (hk : PySem.W.keepIn X.K (.ref f) = true) (B : KB X.K fd ps ks n put dv dx) (ha : DA X C W (e :: es) g) (hkw : DK X C W kws gk)
    (hall : (backToKw pos (keywordEach kws X.env)).all (·.1.isSome) = true := by rfl) (hks : (backToKw pos (keywordEach kws X.env)).filterMap (·.1) = ks := by rfl)
    (hdb : (x == ("__debug__" : Str)) = false := by decide) (he : starEach (e :: es) X.env = (false, eval e X.env) :: starEach es X.env := by rfl)
    (hpl : ((backTo pos (starEach (e :: es) X.env)).any (·.1) || (backToKw pos (keywordEach kws X.env)).any (·.1.isNone)) = false := by rfl) (hml : ks.length = m := by rfl) :
    DE X C W (.Call (.Name x p) (e :: es) kws pos) (callE Fs n m put dx g gk) := by
  subst hml
  refine ⟨fun pins s σ H Q I h => ?_⟩
  have h' := call_read hK B h
  refine wpAny_Call_Name_kw (ld_glob I hg hm ?_ hdb)
  refine PySem.W.callWith_KW (h₀ := X.base) I.ok.mod.kin hk hall (thn (ha.run pos pins s σ H _ I h') fun us s1 ⟨vs, H1, I1, r, l1, q⟩ => ?_) hpl he
  refine thn (hkw.run pos pins s1 σ H1 _ I1 q) fun ws s2 ⟨zs, H2, I2, rz, l2, q2⟩ => ⟨I2.kIn, ?_⟩
  rw [hks]
  exact run_kb G hgd hr tk B I2 r rz l1 l2 q2
/-- f(k = v, ..) -/
theorem de_callK0 {m : Nat} (hK : C.K = X.K) (G : FnG X.prog X.w X.K X.mg X.base k f fd ps Fs) (hgd : X.A.guards = some []) (hr : Room k X.A) (tk : Takes X W) (hg : Gl X x) (hm : X.mg x = some (.ref f)) (hk : PySem.W.keepIn X.K (.ref f) = true) (B : KB X.K fd ps ks 0 put dv dx) (hkw : DK X C W kws gk)
    (hall : (backToKw pos (keywordEach kws X.env)).all (·.1.isSome) = true := by rfl) (hks : (backToKw pos (keywordEach kws X.env)).filterMap (·.1) = ks := by rfl)
    (hdb : (x == ("__debug__" : Str)) = false := by decide)
    (hpl : ((backTo pos (starEach [] X.env)).any (·.1) || (backToKw pos (keywordEach kws X.env)).any (·.1.isNone)) = false := by rfl) (hml : ks.length = m := by rfl) :
    DE X C W (.Call (.Name x p) [] kws pos) (callE Fs 0 m put dx nilA gk) := by
  subst hml
  refine ⟨fun pins s σ H Q I h => ?_⟩
  have h' := call_read hK B h
  refine wpAny_Call_Name_kw (ld_glob I hg hm ?_ hdb)
  obtain ⟨F, δ, R, z⟩ := h'
  obtain ⟨_, h2⟩ := z [] F H Stp.refl R .nil
  refine PySem.W.callWith_KW0 (h₀ := X.base) I.ok.mod.kin hk hall ?_ hpl
  refine thn (hkw.run pos pins s σ H _ I h2) fun ws s2 ⟨zs, H2, I2, rz, l2, q2⟩ => ⟨I2.kIn, ?_⟩
  rw [hks]
  exact run_kb (us := []) G hgd hr tk B I2 .nil rz rfl l2 q2
end
/-! ### a def's body -/
def relab (k : Nat) : SV → SV
  | .L _ xs => .L k xs
  | .M _ xs => .M k xs
  | s => s
def labG : Nat → List SV → List SV
  | _, [] => []
  | j, s :: r => relab (j + 1) s :: labG (j + 1) r
/-- what stands in the parameters at the end -/
def outsG : Nat → List SV → List SV → Option (List SV)
  | _, [], _ => some []
  | _, _ :: _, [] => none
  | j, s :: r, t :: δ => match s, t with
    | .L n _, .L k xs => if k = j + 1 then (outsG (j + 1) r δ).map (.L n xs :: ·) else none
    | .M n _, .M k xs => if k = j + 1 then (outsG (j + 1) r δ).map (.M n xs :: ·) else none
    | .d x, _ => (outsG (j + 1) r δ).map (.d x :: ·)
    | _, _ => none
def defE (n m : Nat) (s : SS) : SE := fun args => if args.length = n then
    match s (labG 0 args ++ List.replicate (m - n) .u) with
    | some (.nx δ) => (outsG 0 args δ).map (.ok (.d .none))
    | some (.rt r δ) => if r.isR = true then (outsG 0 args δ).map (.ok r) else none
    | some (.ex e δ) => (outsG 0 args δ).map (.ex e)
    | _ => none
  else none
theorem labG_len : ∀ (j : Nat) (l : List SV), (labG j l).length = l.length
  | _, [] => rfl
  | j, s :: r => by simp [labG, labG_len (j + 1) r]
theorem labG_get : ∀ (j : Nat) (l : List SV) (i : Nat), (labG j l)[i]? = (l[i]?).map (relab (j + i + 1))
  | _, [], i => by simp [labG]
  | j, s :: r, 0 => by simp [labG]
  | j, s :: r, i + 1 => by
    simp only [labG, List.getElem?_cons_succ]
    rw [labG_get (j + 1) r i]
    congr 2
    omega
theorem outs_spec : ∀ {j : Nat} {l δ os : List SV}, outsG j l δ = some os → os.length = l.length ∧ ∀ (i : Nat) o, os[i]? = some o →
    (∃ n xs ys, l[i]? = some (.L n ys) ∧ δ[i]? = some (.L (j + i + 1) xs) ∧ o = .L n xs) ∨ (∃ n xs ys, l[i]? = some (.M n ys) ∧ δ[i]? = some (.M (j + i + 1) xs) ∧ o = .M n xs) ∨ ∃ x, l[i]? = some (.d x) ∧ o = .d x
  | j, [], δ, os, h => by
    simp [outsG] at h; subst h
    exact ⟨rfl, fun i o e => by simp at e⟩
  | j, s :: r, [], os, h => by simp [outsG] at h
  | j, s :: r, t :: δ, os, h => by
    have step : ∀ o rs, outsG (j + 1) r δ = some rs → os = o :: rs → ((∃ n xs ys, s = .L n ys ∧ t = .L (j + 1) xs ∧ o = .L n xs) ∨ (∃ n xs ys, s = .M n ys ∧ t = .M (j + 1) xs ∧ o = .M n xs) ∨ ∃ x, s = .d x ∧ o = .d x) →
        os.length = (s :: r).length ∧ ∀ (i : Nat) o, os[i]? = some o →
        (∃ n xs ys, (s :: r)[i]? = some (.L n ys) ∧ (t :: δ)[i]? = some (.L (j + i + 1) xs) ∧ o = .L n xs) ∨ (∃ n xs ys, (s :: r)[i]? = some (.M n ys) ∧ (t :: δ)[i]? = some (.M (j + i + 1) xs) ∧ o = .M n xs) ∨ ∃ x, (s :: r)[i]? = some (.d x) ∧ o = .d x := by
      intro o rs hr eo ho
      subst eo
      obtain ⟨l1, sp⟩ := outs_spec hr
      refine ⟨by simp [l1], fun i o' e => ?_⟩
      cases i with
      | zero =>
        simp at e; subst e
        rcases ho with ⟨n, xs, ys, rfl, rfl, rfl⟩ | ⟨n, xs, ys, rfl, rfl, rfl⟩ | ⟨x, rfl, rfl⟩
        · exact .inl ⟨n, xs, ys, rfl, rfl, rfl⟩
        · exact .inr (.inl ⟨n, xs, ys, rfl, rfl, rfl⟩)
        · exact .inr (.inr ⟨x, rfl, rfl⟩)
      | succ i =>
        have := sp i o' (by simpa using e)
        simp only [List.getElem?_cons_succ]
        rw [show j + (i + 1) + 1 = j + 1 + i + 1 by omega]
        exact this
    cases s with
    | u => simp [outsG] at h
    | d x =>
      simp only [outsG] at h
      cases q : outsG (j + 1) r δ with
      | none => rw [q] at h; cases h
      | some rs =>
        rw [q] at h
        exact step (.d x) rs q (by simpa using h.symm) (.inr (.inr ⟨x, rfl, rfl⟩))
    | L n ys =>
      cases t with
      | L k xs =>
        simp only [outsG] at h
        split at h
        · rename_i hk
          subst hk
          cases q : outsG (j + 1) r δ with
          | none => rw [q] at h; cases h
          | some rs =>
            rw [q] at h
            exact step (.L n xs) rs q (by simpa using h.symm) (.inl ⟨n, xs, ys, rfl, rfl, rfl⟩)
        · cases h
      | _ => simp [outsG] at h
    | M n ys =>
      cases t with
      | M k xs =>
        simp only [outsG] at h
        split at h
        · rename_i hk
          subst hk
          cases q : outsG (j + 1) r δ with
          | none => rw [q] at h; cases h
          | some rs =>
            rw [q] at h
            exact step (.M n xs) rs q (by simpa using h.symm) (.inr (.inl ⟨n, xs, ys, rfl, rfl, rfl⟩))
        · cases h
      | _ => simp [outsG] at h
section
variable {K : PySem.W.Frag} {F H : Hp} {vs : List V} {args : List SV}
def lmOf (vs : List V) : Nat → Addr := fun k => match vs[k - 1]? with
  | some (.ref a) => a
  | _ => 0
def CB (K : PySem.W.Frag) (F H : Hp) (vs : List V) (args : List SV) : DC := ⟨K, lmOf vs, H, F, OwnedAt (vs.map some) args⟩
theorem relab_own (k : Nat) (s : SV) : (relab k s).own = s.own := by cases s <;> rfl
theorem start_get {N : List Str} {vs : List V} (i : Nat) (h : i < vs.length) : (L2.start N vs)[i]? = (vs.map some)[i]? := by
  unfold L2.start
  rw [List.getElem?_append_left (by simpa using h)]
theorem body_start {N : List Str} {m : Nat} (hm : N.length = m) (hn : vs.length ≤ m) (R : Rp (C1 K) F H (vs.map some) args) : Rp (CB K F H vs args) F H (L2.start N vs) (labG 0 args ++ List.replicate (m - args.length) .u) := by
  have la : args.length = vs.length := by have := R.len; rw [List.length_map] at this; exact this
  have own : ∀ (i : Nat) s, (labG 0 args ++ List.replicate (m - args.length) SV.u)[i]? = some s → s.own = true → ∃ t, i < vs.length ∧ args[i]? = some t ∧ s = relab (i + 1) t ∧ t.own = true := fun i s h e => by
    by_cases hi : i < args.length
    · rw [List.getElem?_append_left (by rw [labG_len]; exact hi), labG_get] at h
      cases q : args[i]? with
      | none => rw [q] at h; cases h
      | some t =>
        rw [q] at h
        cases h
        rw [Nat.zero_add] at e
        rw [relab_own] at e
        exact ⟨t, by omega, rfl, by rw [Nat.zero_add], e⟩
    · rw [List.getElem?_append_right (by rw [labG_len]; omega), List.getElem?_replicate] at h
      split at h
      · cases h; cases e
      · cases h
  refine ⟨R.ext, ?_, fun i x s hx hs => ?_, fun i j s t a h1 h2 h3 h4 h5 h6 => ?_, fun i s a h1 h2 h3 => ?_, fun a o h _ => ⟨h, id⟩, Le.refl _, fun a h => h⟩
  · unfold L2.start
    rw [List.length_append, labG_len, List.length_replicate, List.length_append, List.length_map, List.length_replicate, hm]
    omega
  · by_cases hi : i < args.length
    · rw [List.getElem?_append_left (by rw [labG_len]; exact hi), labG_get, Nat.zero_add] at hs
      rw [start_get i (by omega)] at hx
      cases q : args[i]? with
      | none => rw [q] at hs; cases hs
      | some t =>
        rw [q] at hs
        cases hs
        have k := R.slot i x t hx q
        have lb : ∀ a, x = some (V.ref a) → lmOf vs (i + 1) = a := fun a e => by
          subst e
          rw [List.getElem?_map] at hx
          cases z : vs[i]? with
          | none => rw [z] at hx; cases hx
          | some v =>
            rw [z] at hx
            cases hx
            unfold lmOf
            rw [show i + 1 - 1 = i by omega, z]
        cases t with
        | u => trivial
        | d y => exact k
        | L n ys => obtain ⟨a, xs, e1, _, k2⟩ := k; exact ⟨a, xs, e1, fun _ => lb a e1, k2⟩
        | M n ys => obtain ⟨a, xs, e1, _, k2⟩ := k; exact ⟨a, xs, e1, fun _ => lb a e1, k2⟩
    · rw [List.getElem?_append_right (by rw [labG_len]; omega), List.getElem?_replicate] at hs
      split at hs
      · cases hs; trivial
      · cases hs
  · obtain ⟨s0, l1, g1, _, g2⟩ := own i s h1 h2
    obtain ⟨t0, l2, k1, _, k2⟩ := own j t h3 h4
    rw [start_get i l1] at h5
    rw [start_get j l2] at h6
    exact R.apart i j s0 t0 a g1 g2 k1 k2 h5 h6
  · obtain ⟨s0, l1, g1, rfl, g2⟩ := own i s h1 h2
    rw [start_get i l1] at h3
    refine ⟨fun _ => ⟨i, s0, g1, g2, h3⟩, fun z => ?_⟩
    cases s0 with
    | u => cases g2
    | d x => cases g2
    | L n x => cases z
    | M n x => cases z
theorem body_end {F' H' : Hp} {σ' : Sg} {δ' os : List SV} (R : Rp (C1 K) F H (vs.map some) args) (R' : Rp (CB K F H vs args) F' H' σ' δ') (ho : outsG 0 args δ' = some os) :
    Stp F H (vs.map some) args F' H' os ∧ Rp (C1 K) F' H' (vs.map some) os := by
  obtain ⟨l1, sp⟩ := outs_spec ho
  have S : Stp F H (vs.map some) args F' H' os := by
    refine ⟨R'.ext0, fun a o h n => R'.old a o h n, R'.pers, fun i s h e => ?_⟩
    rcases sp i s h with ⟨n, xs, ys, a, b, rfl⟩ | ⟨n, xs, ys, a, b, rfl⟩ | ⟨x, a, rfl⟩
    · exact ⟨_, a, rfl, rfl⟩
    · exact ⟨_, a, rfl, rfl⟩
    · cases e
  refine ⟨S, R.step S R'.ext l1 fun i x s hx hs => ?_⟩
  have lb : ∀ a, x = some (V.ref a) → lmOf vs (i + 1) = a := fun a e => by
    subst e
    rw [List.getElem?_map] at hx
    cases z : vs[i]? with
    | none => rw [z] at hx; cases hx
    | some v =>
      rw [z] at hx
      cases hx
      unfold lmOf
      rw [show i + 1 - 1 = i by omega, z]
  rcases sp i s hs with ⟨n, xs, ys, a, b, rfl⟩ | ⟨n, xs, ys, a, b, rfl⟩ | ⟨y, a, rfl⟩
  · obtain ⟨p, zs, e1, _, _⟩ := R.slot i x _ hx a
    rw [Nat.zero_add] at b
    have hi : i < σ'.length := by
      have := (List.getElem?_eq_some_iff.mp b).1
      have := R'.len
      omega
    obtain ⟨q, ws, e2, l2, k2⟩ := R'.slot i _ _ (List.getElem?_eq_getElem hi) b
    have : q = p := (l2 (by omega)).symm.trans (lb p e1)
    subst this
    exact ⟨q, ws, e1, fun z => by
      obtain ⟨p', _, e1', l', _⟩ := R.slot i x _ hx a
      rw [e1] at e1'; cases e1'
      exact l' z, k2⟩
  · obtain ⟨p, zs, e1, _, _⟩ := R.slot i x _ hx a
    rw [Nat.zero_add] at b
    have hi : i < σ'.length := by
      have := (List.getElem?_eq_some_iff.mp b).1
      have := R'.len
      omega
    obtain ⟨q, ws, e2, l2, k2⟩ := R'.slot i _ _ (List.getElem?_eq_getElem hi) b
    have : q = p := (l2 (by omega)).symm.trans (lb p e1)
    subst this
    exact ⟨q, ws, e1, fun z => by
      obtain ⟨p', _, e1', l', _⟩ := R.slot i x _ hx a
      rw [e1] at e1'; cases e1'
      exact l' z, k2⟩
  · exact (R.slot i x _ hx a).mono S.ext fun _ _ z => by cases z
end
/-- what a def's frame brings: its context, by the entry -/
structure BodyAt (P : Program) (w : World) (K : PySem.W.Frag) (mg : Str → Option Value) (base : Heap) (k : Nat) (X : Cx) (C : DC) (W : XW) (N : List Str) (sc : Scope) : Prop where
  pr : X.prog = P
  ww : X.w = w
  kk : X.K = K
  ck : C.K = X.K
  mm : X.mg = mg
  bb : X.base = base
  gd : X.A.guards = some []
  rm : Room k X.A
  tk : Takes X W
  nn : X.N = N
  cm : X.calm = true
  sc : X.env.scope = sc
  fn : X.fn = fun _ => true
  po : PassesOwn (model X.prog X.w) X.A X.env X.xe
theorem fn_body {P : Program} {w : World} {K : PySem.W.Frag} {mg : Str → Option Value} {base : Heap} {k : Nat} {f : Addr} {name qual : Str} {params : Arguments} {body : List Stmt} {scope : Scope} {dV kV doc pm cdv ct oc : Value} {an od : Option Addr}
    {osl : Array (Option Value)} {N ps : List Str} {s : SS} {n m : Nat} (lk : K.lookup f = some ⟨oc, od, .func (PySem.W.fnOf name qual params body scope dV kV doc pm an cdv ct), osl⟩) (hcd : PySem.W.codeIn K cdv qual = true) (S : FnScope N ps scope)
    (hn : ps.length = n) (hm : N.length = m)
    (hbody : ∀ (A : Around) (outer : List Env) (s0 : Shared) (H : Hp) (E : XK) (C : DC), C.K = K → A.guards = some [] → Room k (A.deeper (envOfC qual scope s0.heap.objs.size f cdv)) →
      DB (cxOf (CX P w) P w K mg base N qual scope f cdv A outer s0 H E) C (WO E) body s) :
    FnG P w K mg base (k + 1) f (PySem.W.fnOf name qual params body scope dV kV doc pm an cdv ct) ps (defE n m s) := by
  have hlen : ∀ args o, defE n m s args = some o → args.length = ps.length := fun args o e => by
    unfold defE at e
    split at e
    · rename_i h; omega
    · cases e
  refine ⟨hlen, fun A outer s0 H args us vs Q E hg hr e0 hb r hsp => ?_⟩
  have hl := spD_len hlen hsp
  have KX : K.In s0.heap := e0.mod.kin.keeps fun b o e => (e0.bs b o e).1
  have lim : s0.heap.NoLimit := e0.mod.nolimit.keeps fun b o e => (e0.bs b o e).1
  have hpre : ps.length ≤ N.length := by
    have := congrArg List.length S.pre
    rw [List.length_take] at this
    omega
  have hkind : ∀ y ∈ ps.zip us, scope.names.lookup y.1 = some .local ∨ (scope.names.lookup y.1 = some .cell ∧ ((cellsFrom (s0.heap.objs.size + 1) scope.names []).lookup y.1).isSome = true) := fun y hy => by
    obtain ⟨x1, v1⟩ := y
    rcases S.par x1 (List.of_mem_zip hy).1 with q | q
    · exact .inl q
    · exact .inr ⟨q, PySem.W.cellsFrom_some _ _ _ (.inl q)⟩
  refine codeAny_call_function hr.depth (KX _ _ lk) rfl S.co S.gen rfl (PySem.W.codeRec_of KX hcd) (hb _ _ _ _ ?_)
  refine wpAny_newFunctionEnv_cells S.kind hkind fun env he s1 x => ?_
  subst he
  refine ⟨lim.keeps x.toInCall.keep, codeAny_func ?_⟩
  obtain ⟨F, δ, R, z⟩ := hsp
  have hd := hbody A outer s0 H E (CB K F H vs δ) rfl hg (hr.deeper _)
  have I : Inv (cxOf (CX P w) P w K mg base N qual scope f cdv A outer s0 H E) [] (L2.start N vs) H s1 := inv_start S hr.hd e0 hl r x
  have RB := body_start (N := N) (m := m) hm (by omega) R
  have la : δ.length = n := by
    have := R.len
    rw [List.length_map] at this
    omega
  have want : tS (CB K F H vs δ) (WO E) s { nx := fun _ H' => Q .non H', rt := Q } (L2.start N vs) H := by
    refine ⟨F, _, RB, ?_⟩
    unfold defE at z
    rw [if_pos la] at z
    rw [la]
    cases q : s (labG 0 δ ++ List.replicate (m - n) .u) with
    | none => rw [q] at z; exact z
    | some o =>
      rw [q] at z
      cases o with
      | nx δ' =>
        simp only at z
        intro σ' F' H' l R'
        cases q2 : outsG 0 δ δ' with
        | none => rw [q2] at z; exact z.elim
        | some os =>
          rw [q2] at z
          obtain ⟨S2, R2⟩ := body_end R R' q2
          exact z .non F' H' S2 R2 Dat.non
      | rt r δ' =>
        simp only at z
        cases hr : r.isR with
        | false => rw [hr] at z; exact z.elim
        | true =>
          rw [hr, if_pos rfl] at z
          refine ⟨hr, fun v σ' F' H' l R' V => ?_⟩
          cases q2 : outsG 0 δ δ' with
          | none => rw [q2] at z; exact z.elim
          | some os =>
            rw [q2] at z
            obtain ⟨S2, R2⟩ := body_end R R' q2
            refine z v F' H' S2 R2 ?_
            cases r with
            | d x => exact V
            | b i => cases hr
            | nL x => exact V
            | nM x => exact V
      | bk δ' => exact z.elim
      | ct δ' => exact z.elim
      | ex e δ' =>
        simp only at z
        intro σ' F' H' od l R' x
        cases q2 : outsG 0 δ δ' with
        | none => rw [q2] at z; exact z.elim
        | some os =>
          rw [q2] at z
          obtain ⟨S2, R2⟩ := body_end R R' q2
          exact z F' H' od S2 R2 x
  refine wpAny_mono (hd.run [] s1 (L2.start N vs) H _ I want) (fun fl s' hs => ?_) fun e s' hs => hs
  have fin : ∀ {σ' : Sg} {H' : Hp} {v : V} {u : Value}, Inv (cxOf (CX P w) P w K mg base N qual scope f cdv A outer s0 H E) [] σ' H' s' → RelV v u → Q v H' → CE outer P w H s0 Q u s' :=
    fun {σ' H' v u} J rv q => ⟨v, H', J.os, J.bare, J.base, J.hok, rv, q⟩
  cases fl with
  | ret u =>
    obtain ⟨v, σ', H', J, rv, q⟩ := hs
    exact fin J rv q
  | next =>
    obtain ⟨σ', H', J, q⟩ := hs
    exact fin (v := V.non) (u := Value.none) J rfl q
  | brk =>
    obtain ⟨_, _, _, q⟩ := hs
    exact q.elim
  | cont =>
    obtain ⟨_, _, _, q⟩ := hs
    exact q.elim
end DL

namespace DL
open PySem PySem.Spec PyProof.Rows L2
section
variable {X : Cx} {C : DC} {W : XW} {F F' H H' : Hp} {σ : Sg} {δ δ' : List SV} {e a b : Expr} {f fa fb : SE} {pos : Pos}
/-! ### subscripts -/
def ixS : D → D → Option Res
  | .list xs, .int i => (atI xs i).map Res.d
  | .tuple xs, .int i => (atI xs i).map Res.d
  | .str z, .int i => if z.length ≤ sizeLine then (atI z.cps.toList i).map fun c => .d (.str ⟨#[c]⟩) else none
  | _, _ => none
theorem Dats.atI {K : PySem.W.Frag} {vs : List V} {ds : List D} {i : Int} {x : D} (h : Dats K F vs ds) (e : L2.atI ds i = some x) : ∃ v, L2.atI vs i = some v ∧ Dat K F v x := by
  unfold L2.atI at e ⊢
  rw [h.length]
  cases q : ixN ds.length i with
  | none => rw [q] at e; cases e
  | some j =>
    rw [q] at e
    exact h.get e
theorem od_ix : OpD C (rIx C.K) ixS := by
  intro F H σ δ v w x y res Q R hx hy e k
  cases y with
  | int i =>
    cases x with
    | list xs =>
      simp only [ixS] at e
      cases q : L2.atI xs i with
      | none => rw [q] at e; cases e
      | some z =>
        rw [q] at e; cases e
        obtain ⟨a, vs, rfl, h1, t1⟩ := hx.lst R.ext
        obtain ⟨u, h2, h3⟩ := t1.atI q
        exact .inl ⟨a, vs, i, u, rfl, hy.int, h1, h2, k u F H Stp.refl R h3⟩
    | tuple xs =>
      simp only [ixS] at e
      cases q : L2.atI xs i with
      | none => rw [q] at e; cases e
      | some z =>
        rw [q] at e; cases e
        obtain ⟨a, vs, rfl, h1, t1⟩ := hx.tup R.ext
        obtain ⟨u, h2, h3⟩ := t1.atI q
        exact .inr (.inl ⟨a, vs, i, u, rfl, hy.int, h1, h2, k u F H Stp.refl R h3⟩)
    | str z =>
      simp only [ixS] at e
      split at e
      · rename_i hz
        cases q : L2.atI z.cps.toList i with
        | none => rw [q] at e; cases e
        | some c =>
          rw [q] at e; cases e
          exact .inr (.inr ⟨z, i, c, hx.str, hy.int, hz, q, k _ F H Stp.refl R (Dat.str _)⟩)
      · cases e
    | _ => simp [ixS] at e
  | _ => cases x <;> simp [ixS] at e
theorem de_ixS (hK : C.K = X.K) (ha : DE X C W a fa) (hb : DE X C W b fb) (hs : PlainIx b) : DE X C W (.Subscript a b pos) (op2E ixS fa fb) := de_ix (r := rIx C.K) (by rw [hK]; exact ix_seq) od_ix ha hb hs
/-! slices -/
def cutD (xs : List D) (lo hi : Option Int) : List D := (xs.drop (HT.sIx xs.length 0 lo)).take (HT.sIx xs.length xs.length hi - HT.sIx xs.length 0 lo)
def slD : D → Option Int → Option Int → Option Res
  | .list xs, lo, hi => some (.nL (cutD xs lo hi))
  | .tuple xs, lo, hi => some (.d (.tuple (cutD xs lo hi)))
  | _, _, _ => none
abbrev SO' := SEa (Option Int)
def noPart : SO' := pureE none
def isPart (f : SE) : SO' := bindE f fun r δ => match r with
  | .d (.int i) => some (.ok (some i) δ)
  | _ => none
def RP (C : DC) : Hp → Hp → Sg → Hp → Option Int → Option Int → Prop := fun _ _ _ _ v r => v = r
def tPt (C : DC) (W : XW) (f : SO') : TO := fun σ H Q => ∃ F δ, tX C W (RP C) f F H σ δ Q
def DP (X : Cx) (C : DC) (W : XW) (e : Option Expr) (f : SO') : Prop := PO X e (tPt C W f)
theorem po_mono {e : Option Expr} {t t' : TO} (h : PO X e t) (k : ∀ σ H Q, t' σ H Q → t σ H Q) : PO X e t' := ⟨fun pins s σ H Q I q => h.run pins s σ H Q I (k σ H Q q)⟩
theorem dp_none : DP X C W none noPart := po_mono po_none fun σ H Q ⟨F, δ, h⟩ => h.use (δ' := δ) rfl Stp.refl h.1 rfl
theorem mbP (F H : Hp) (σ : Sg) (Hs Hs' : Hp) (v : Option Int) (r : Option Int) (_ : ∀ p, Hs p = none → Hs' p = none) (h : RP C F H σ Hs v r) : RP C F H σ Hs' v r := h
theorem dp_some (h : DE X C W e f) : DP X C W (some e) (isPart f) := by
  refine po_mono (po_some h) fun σ H Q ⟨F, δ, h⟩ => ?_
  refine bindV (RVb := RP C) (mbP) h fun v F1 H1 δ1 r1 e1 S1 R1 V1 h1 => ?_
  obtain ⟨o, ho⟩ := h1.some
  have ho' := ho
  cases r1 with
  | d x =>
    cases x with
    | int i =>
      cases ho
      exact ⟨i, Dat.int_inv' V1, h1.use ho' Stp.refl R1 rfl⟩
    | _ => cases ho
  | _ => cases ho
where Dat.int_inv' {K : PySem.W.Frag} {F : Hp} {v : V} {i : Int} (h : Dat K F v (.int i)) : v = .int i := by cases h; rfl
theorem bindP {α γ : Type} {RVb : Hp → Hp → Sg → Hp → γ → α → Prop} {g : SO'} {k : Option Int → SEa α} {Q : γ → Hp → Prop}
    (mb : ∀ (F H : Hp) (σ : Sg) (Hs Hs' : Hp) (v : γ) (r : α), (∀ p, Hs p = none → Hs' p = none) → RVb F H σ Hs v r → RVb F H σ Hs' v r)
    (h : tX C W RVb (bindE g k) F H σ δ Q) {Q' : Option Int → Hp → Prop}
    (c : ∀ v F1 H1 δ1, Stp F H σ δ F1 H1 δ1 → Rp C F1 H1 σ δ1 → tX C W RVb (k v) F1 H1 σ δ1 Q → Q' v H1) : tPt C W g σ H Q' :=
  ⟨F, δ, (tX.bind (RVa := RP C) (H1 := H) (fun _ _ _ _ _ z => z) mb h).mono fun v H1 ⟨F1, δ1, r, q1, q2, q3, q4⟩ => by
    have q3 : v = r := q3
    subst q3
    exact c v F1 H1 δ1 q2 q4.1 q4⟩
def sliceE (fa : SE) (lo hi : SO') : SE := bindE (pkE fa) fun ra => bindE lo fun l => bindE hi fun h => fun δ => match ra.get δ with
  | some x => (slD x l h).map fun r => .ok r δ
  | none => none
theorem Dats.cut {K : PySem.W.Frag} {vs : List V} {ds : List D} (h : Dats K F vs ds) (lo hi : Option Int) : Dats K F (cutV vs lo hi) (cutD ds lo hi) := by
  unfold cutV cutD
  rw [h.length]
  exact (h.drop _).take _
theorem cut_whole (xs : List D) (lo hi : Option Int) (h : HT.sIx xs.length 0 lo = 0 ∧ HT.sIx xs.length xs.length hi = xs.length) : cutD xs lo hi = xs := by
  unfold cutD
  rw [h.1, h.2]
  simp
theorem de_slice {lo hi : Option Expr} {gl gh : SO'} {p2 : Pos} (hK : C.K = X.K) (ha : DE X C W a fa) (hl : DP X C W lo gl) (hh : DP X C W hi gh) : DE X C W (.Subscript a (.Slice lo hi none p2) pos) (sliceE fa gl gh) := by
  refine pe_mono (pe_slice (sl_list.or sl_tupA) (de_pk ha) hl hh) fun σ H Q ⟨F, δ, h⟩ => ?_
  refine bindV (RVb := RVl C) (mbV) h fun v F1 H1 δ1 r1 e1 S1 R1 V1 h1 => ?_
  refine bindP (RVb := RVl C) (mbV) h1 fun l F2 H2 δ2 S2 R2 h2 => ?_
  refine bindP (RVb := RVl C) (mbV) h2 fun u F3 H3 δ3 S3 R3 h3 => ?_
  obtain ⟨o, ho⟩ := h3.some
  have ho' := ho
  cases q1 : r1.get δ3 with
  | none => simp only [q1] at ho; cases ho
  | some x =>
    simp only [q1] at ho
    have d1 := (V1.after (Hs' := H) (pk_isPk e1) (S2.trans S3)).get R3 q1
    have d1' := d1
    cases x with
    | list xs =>
      cases ho
      obtain ⟨p, vs, rfl, hp, t⟩ := d1.lst R3.ext
      refine .inl ⟨p, vs, rfl, by rw [← hK]; exact hp, fun p' np => ?_⟩
      obtain ⟨S4, R4⟩ := R3.newG (.lst (cutV vs l u)) np
      exact h3.use ho' S4 R4 (show RV C F3 _ σ H3 _ (.nL _) from ⟨p', _, rfl, upd_same, R3.freshF np, t.cut l u, np⟩)
    | tuple xs =>
      cases ho
      have tupd : Dat C.K F3 v (.tuple xs) := by
        rcases d1' with h | ⟨_, _, _, _, e2, _⟩ | ⟨_, _, _, _, e2, _⟩
        · exact h
        · cases e2
        · cases e2
      obtain ⟨p, vs, rfl, hp, t⟩ := d1.tup R3.ext
      refine .inr ⟨p, vs, rfl, by rw [← hK]; exact hp, fun w => ?_, fun _ p' np => ?_⟩
      · refine h3.use ho' Stp.refl R3 ?_
        rw [t.length] at w
        rw [cut_whole xs l u w]
        exact tupd
      · obtain ⟨S4, R4⟩ := R3.newF (.tup (cutV vs l u)) np
        exact h3.use ho' S4 R4 (Dat.tup (SqT.of upd_same) ((t.cut l u).mono S4.ext))
    | _ => cases ho
/-! ### calls of built-ins -/
def callBE (g : List D → Option Res) (fa : SA) : SE := bindE fa fun rs => fun δ => match gets rs δ with
  | some xs => (g xs).map fun r => .ok r δ
  | none => none
def CallD (C : DC) (r : List V → Hp → VK → Prop) (g : List D → Option Res) : Prop := ∀ (F H : Hp) (σ : Sg) (δ : List SV) (vs : List V) (xs : List D) (res : Res) (Q : VK), Rp C F H σ δ → DatPs C.K F H vs xs → g xs = some res →
  (∀ u F' H', Stp F H σ δ F' H' δ → Rp C F' H' σ δ → RV C F' H' σ H u res → Q u H') → r vs H Q
theorem callB_read {r : List V → Hp → VK → Prop} {g : List D → Option Res} {ga : SA} {Q : VK} (hg : CallD C r g) (h : tD C W (callBE g ga) σ H Q) : tCB r (tAr C W ga) σ H Q := by
  obtain ⟨F, δ, h⟩ := h
  refine bindA (RVb := RVl C) (mbV) h fun vs F1 H1 δ1 rs e1 S1 R1 V1 h1 => ?_
  obtain ⟨o, ho⟩ := h1.some
  have ho' := ho
  cases q1 : gets rs δ1 with
  | none => simp only [q1] at ho; cases ho
  | some xs =>
    simp only [q1] at ho
    cases q2 : g xs with
    | none => rw [q2] at ho; cases ho
    | some res =>
      rw [q2] at ho
      have ho : some (ER.ok res δ1) = some o := ho
      cases ho
      exact hg F1 H1 σ δ1 vs xs res Q R1 (V1.gets R1 q1) q2 fun u F' H' S R V => h1.use ho' S R V
theorem de_callB {id : String} {x : Str} {p : Pos} {es : List Expr} {r : List V → Hp → VK → Prop} {g : List D → Option Res} {ga : SA} (hc : CallR X (.builtin id) r) (hd : CallD C r g) (hg : Gl X x) (hm : X.mg x = none) (hv : bootBuiltins x = some (.builtin id)) (ha : DA X C W (e :: es) ga)
    (hn : x ≠ "__name__" := by decide) (hdb : (x == ("__debug__" : Str)) = false := by decide) (he : starEach (e :: es) X.env = (false, eval e X.env) :: starEach es X.env := by rfl) (hpl : (backTo pos (starEach es X.env)).any (·.1) = false := by rfl) :
    DE X C W (.Call (.Name x p) (e :: es) [] pos) (callBE g ga) := pe_mono (pe_callB hc hg hm hv ha hn hdb he hpl) fun σ H Q h => callB_read hd h
theorem de_callTy {T : String} {x : Str} {p : Pos} {es : List Expr} {r : List V → Hp → VK → Prop} {g : List D → Option Res} {ga : SA} (hc : CallR X (.type T) r) (hd : CallD C r g) (hg : Gl X x) (hm : X.mg x = none) (hv : bootBuiltins x = some (.type T)) (ha : DA X C W (e :: es) ga)
    (hn : x ≠ "__name__" := by decide) (hdb : (x == ("__debug__" : Str)) = false := by decide) (he : starEach (e :: es) X.env = (false, eval e X.env) :: starEach es X.env := by rfl) (hpl : (backTo pos (starEach es X.env)).any (·.1) = false := by rfl) :
    DE X C W (.Call (.Name x p) (e :: es) [] pos) (callBE g ga) := pe_mono (pe_callTy hc hg hm hv ha hn hdb he hpl) fun σ H Q h => callB_read hd h
theorem DatPs.one {K : PySem.W.Frag} {vs : List V} {x : D} (h : DatPs K F H vs [x]) : ∃ v, vs = [v] ∧ DatP K F H v x := by
  cases h with
  | cons h t => cases t; exact ⟨_, rfl, h⟩
theorem DatPs.two {K : PySem.W.Frag} {vs : List V} {x y : D} (h : DatPs K F H vs [x, y]) : ∃ v w, vs = [v, w] ∧ DatP K F H v x ∧ DatP K F H w y := by
  cases h with
  | cons h t =>
    obtain ⟨w, e, t'⟩ := t.one
    subst e
    exact ⟨_, w, rfl, h, t'⟩
/-! len -/
def lenG : List D → Option Res
  | [.list xs] => some (.d (.int xs.length))
  | [.tuple xs] => some (.d (.int xs.length))
  | [.str z] => if z.length ≤ sizeLine then some (.d (.int z.length)) else none
  | _ => none
def rLenG (K : PySem.W.Frag) : List V → Hp → VK → Prop := fun xs H Q => (∃ p ys, xs = [.ref p] ∧ (SqL K H p ys ∨ SqT K H p ys) ∧ Q (.int ys.length) H) ∨ ∃ z, xs = [.str z] ∧ z.length ≤ sizeLine ∧ Q (.int z.length) H
theorem cr_lenG : CallR X (.builtin "len") (rLenG X.K) := call_len_seq.or call_len_str
theorem cd_lenG : CallD C (rLenG C.K) lenG := by
  intro F H σ δ vs xs res Q R hx e k
  unfold lenG at e
  split at e
  · cases e
    obtain ⟨v, rfl, h⟩ := hx.one
    obtain ⟨a, ys, rfl, h1, t⟩ := h.lst R.ext
    refine .inl ⟨a, ys, rfl, .inl h1, ?_⟩
    rw [t.length]
    exact k _ F H Stp.refl R (Dat.int _)
  · cases e
    obtain ⟨v, rfl, h⟩ := hx.one
    obtain ⟨a, ys, rfl, h1, t⟩ := h.tup R.ext
    refine .inl ⟨a, ys, rfl, .inr h1, ?_⟩
    rw [t.length]
    exact k _ F H Stp.refl R (Dat.int _)
  · split at e
    · rename_i hz
      cases e
      obtain ⟨v, rfl, h⟩ := hx.one
      exact .inr ⟨_, by rw [h.str], hz, k _ F H Stp.refl R (Dat.int _)⟩
    · cases e
  · cases e
/-! max, min of two; list, tuple of a sequence; int of a truth; str of a number -/
def max2G : List D → Option Res
  | [.int i, .int j] => some (.d (.int (if j > i then j else i)))
  | _ => none
def min2G : List D → Option Res
  | [.int i, .int j] => some (.d (.int (if j < i then j else i)))
  | _ => none
theorem cd_max2 : CallD C (fun xs H Q => ∃ i j, xs = [.int i, .int j] ∧ Q (.int (if j > i then j else i)) H) max2G := by
  intro F H σ δ vs xs res Q R hx e k
  unfold max2G at e
  split at e
  · cases e
    obtain ⟨v, w, rfl, h1, h2⟩ := hx.two
    exact ⟨_, _, by rw [h1.int, h2.int], k _ F H Stp.refl R (Dat.int _)⟩
  · cases e
theorem cd_min2 : CallD C (fun xs H Q => ∃ i j, xs = [.int i, .int j] ∧ Q (.int (if j < i then j else i)) H) min2G := by
  intro F H σ δ vs xs res Q R hx e k
  unfold min2G at e
  split at e
  · cases e
    obtain ⟨v, w, rfl, h1, h2⟩ := hx.two
    exact ⟨_, _, by rw [h1.int, h2.int], k _ F H Stp.refl R (Dat.int _)⟩
  · cases e
def listG : List D → Option Res
  | [.list xs] => some (.nL xs)
  | [.tuple xs] => some (.nL xs)
  | _ => none
def tupleG : List D → Option Res
  | [.list xs] => some (.d (.tuple xs))
  | [.tuple xs] => some (.d (.tuple xs))
  | _ => none
theorem cd_list : CallD C (fun xs H Q => ∃ p ys, xs = [.ref p] ∧ (SqL C.K H p ys ∨ SqT C.K H p ys) ∧ ∀ l, H l = none → Q (.ref l) (upd H l (.lst ys))) listG := by
  intro F H σ δ vs xs res Q R hx e k
  have new : ∀ {ys : List V} {ds : List D}, Dats C.K F ys ds → res = .nL ds → ∀ l, H l = none → Q (.ref l) (upd H l (.lst ys)) := fun {ys ds} t er l nl => by
    subst er
    obtain ⟨S4, R4⟩ := R.newG (.lst ys) nl
    exact k _ _ _ S4 R4 (show RV C F _ σ H _ (.nL _) from ⟨l, _, rfl, upd_same, R.freshF nl, t, nl⟩)
  unfold listG at e
  split at e
  · cases e
    obtain ⟨v, rfl, h⟩ := hx.one
    obtain ⟨a, ys, rfl, h1, t⟩ := h.lst R.ext
    exact ⟨a, ys, rfl, .inl h1, new t rfl⟩
  · cases e
    obtain ⟨v, rfl, h⟩ := hx.one
    obtain ⟨a, ys, rfl, h1, t⟩ := h.tup R.ext
    exact ⟨a, ys, rfl, .inr h1, new t rfl⟩
  · cases e
theorem DatP.tupF {K : PySem.W.Frag} {v : V} {xs : List D} (h : DatP K F H v (.tuple xs)) : Dat K F v (.tuple xs) := by
  rcases h with h | ⟨_, _, _, _, e2, _⟩ | ⟨_, _, _, _, e2, _⟩
  · exact h
  · cases e2
  · cases e2
theorem cd_tuple : CallD C (fun xs H Q => ∃ p ys, xs = [.ref p] ∧ ((SqL C.K H p ys ∧ ∀ l, H l = none → Q (.ref l) (upd H l (.tup ys))) ∨ (SqT C.K H p ys ∧ Q (.ref p) H))) tupleG := by
  intro F H σ δ vs xs res Q R hx e k
  unfold tupleG at e
  split at e
  · cases e
    obtain ⟨v, rfl, h⟩ := hx.one
    obtain ⟨a, ys, rfl, h1, t⟩ := h.lst R.ext
    refine ⟨a, ys, rfl, .inl ⟨h1, fun l nl => ?_⟩⟩
    obtain ⟨S4, R4⟩ := R.newF (.tup ys) nl
    exact k _ _ _ S4 R4 (Dat.tup (SqT.of upd_same) (t.mono S4.ext))
  · cases e
    obtain ⟨v, rfl, h⟩ := hx.one
    have h' := h.tupF
    obtain ⟨a, ys, rfl, h1, t⟩ := h.tup R.ext
    exact ⟨a, ys, rfl, .inr ⟨h1, k _ F H Stp.refl R h'⟩⟩
  · cases e
def intG : List D → Option Res
  | [.int i] => some (.d (.int i))
  | [.bool k] => some (.d (.int (if k then 1 else 0)))
  | _ => none
theorem cd_int : CallD C (fun xs H Q => (∃ i, xs = [.int i] ∧ Q (.int i) H) ∨ ∃ k, xs = [.bl k] ∧ Q (.int (if k then 1 else 0)) H) intG := by
  intro F H σ δ vs xs res Q R hx e k
  unfold intG at e
  split at e
  · cases e
    obtain ⟨v, rfl, h⟩ := hx.one
    exact .inl ⟨_, by rw [h.int], k _ F H Stp.refl R (Dat.int _)⟩
  · cases e
    obtain ⟨v, rfl, h⟩ := hx.one
    exact .inr ⟨_, by rw [h.bl], k _ F H Stp.refl R (Dat.int _)⟩
  · cases e
def strG : List D → Option Res
  | [.int i] => if i.natAbs.log2 < 1920 then some (.d (.str (toString i))) else none
  | _ => none
theorem cd_str : CallD C (fun xs H Q => ∃ i, xs = [.int i] ∧ i.natAbs.log2 < 1920 ∧ Q (.str (toString i)) H) strG := by
  intro F H σ δ vs xs res Q R hx e k
  unfold strG at e
  split at e
  · split at e
    · rename_i hz
      cases e
      obtain ⟨v, rfl, h⟩ := hx.one
      exact ⟨_, by rw [h.int], hz, k _ F H Stp.refl R (Dat.str _)⟩
    · cases e
  · cases e
def divmodG : List D → Option Res
  | [.int i, .int j] => if 0 < j ∧ j < 1073741824 then some (.d (.tuple [.int (i / j), .int (i % j)])) else none
  | _ => none
theorem cd_divmod : CallD C (fun xs H Q => ∃ i j, xs = [.int i, .int j] ∧ CDiv i j ∧ ∀ p, H p = none → Q (.ref p) (upd H p (.tup [.int (i / j), .int (i % j)]))) divmodG := by
  intro F H σ δ vs xs res Q R hx e k
  unfold divmodG at e
  split at e
  · split at e
    · rename_i c
      cases e
      obtain ⟨v, w, rfl, h1, h2⟩ := hx.two
      refine ⟨_, _, by rw [h1.int, h2.int], c, fun p np => ?_⟩
      obtain ⟨S4, R4⟩ := R.newF (.tup [.int _, .int _]) np
      exact k _ _ _ S4 R4 (Dat.tup (SqT.of upd_same) (.cons (.int _) (.cons (.int _) .nil)))
    · cases e
  · cases e
/-! sum, any, all over lists -/
def toInts (xs : List D) : Option (List Int) := xs.mapM fun x => match x with
  | .int i => some i
  | _ => none
theorem ints_of {K : PySem.W.Frag} : ∀ {xs : List D} {ns : List Int} {vs : List V}, Dats K F vs xs → toInts xs = some ns → vs = ns.map V.int
  | [], ns, vs, h, e => by
    simp [toInts] at e; subst e; cases h; rfl
  | x :: xs, ns, vs, h, e => by
    obtain ⟨y, zs, h1, h2, rfl⟩ := mapM_cons_some e
    cases h with
    | cons h t =>
      cases x with
      | int i =>
        cases h1
        cases h
        rw [ints_of t h2]
        rfl
      | _ => cases h1
def sumG : List D → Option Res
  | [.list xs] => (toInts xs).map fun ns => .d (.int ns.sum)
  | _ => none
theorem cd_sum : CallD C (rSum C.K) sumG := by
  intro F H σ δ vs xs res Q R hx e k
  unfold sumG at e
  split at e
  · rename_i ds
    cases q : toInts ds with
    | none => rw [q] at e; cases e
    | some ns =>
      rw [q] at e; cases e
      obtain ⟨v, rfl, h⟩ := hx.one
      obtain ⟨a, ys, rfl, h1, t⟩ := h.lst R.ext
      refine ⟨a, ns, rfl, ?_, k _ F H Stp.refl R (Dat.int _)⟩
      rw [← ints_of t q]
      exact h1
  · cases e
/-! ### isinstance -/
def tyN : D → String
  | .none => "NoneType"
  | .bool _ => "bool"
  | .int _ => "int"
  | .str _ => "str"
  | .list _ => "list"
  | .tuple _ => "tuple"
  | .dict _ => "dict"
/-- a value's type: the kit's, or a dict by tuples -/
def TyY (K : PySem.W.Frag) (H : Hp) (x : V) (t : Value) : Prop := TyX K H x t ∨ (t = .type "dict" ∧ ∃ a : Addr, x = .ref a ∧ Rd H a (opqO a))
theorem call_isiY : CallR X (.builtin "isinstance") (fun xs H Q => ∃ (x c : V) (t u : Value) (b : Bool), xs = [x, c] ∧ ClsV c u ∧ TyY X.K H x t ∧ PySem.W.kitOne X.K t u = some b ∧ Q (.bl b) H) := by
  intro pins s σ H xs us Q I r h
  obtain ⟨x, c, t, u, b, rfl, k, ty, e, q⟩ := h
  rcases ty with ty | ⟨rfl, a, rfl, hd⟩
  · exact call_isi pins s σ H _ us Q I r ⟨x, c, t, u, b, rfl, k, ty, e, q⟩
  · obtain ⟨u1, u2, rfl, r1, r2⟩ := Vals.two r
    have e2 := k.eq r2
    subst e2
    cases (show u1 = Value.ref a from r1)
    obtain ⟨⟨o, h1, h2, _⟩, _⟩ := (show ObjOk X.prog X.w H s.heap a (opqO a) from rd_of I.hok hd)
    exact PySem.W.kia_one PySem.W.kitx_dict I.kIn ⟨o, h1, h2⟩ e (fun z => nomatch z) fun tk => ⟨.bl b, H, I.tok tk, rfl, q⟩
def isExc : D → Bool
  | .dict ((.tuple [], .str _) :: _) => true
  | _ => false
theorem tyX_of {K : PySem.W.Frag} {v : V} {x : D} (e : Le F H) (ne : isExc x = false) (h : DatP K F H v x) : TyY K H v (.type (tyN x)) := by
  cases x with
  | none => rw [h.non]; exact .inl (.base .non)
  | bool b => rw [h.bl]; exact .inl (.base (.bl b))
  | int i => rw [h.int]; exact .inl (.base (.int i))
  | str z => rw [h.str]; exact .inl (.base (.str z))
  | list xs =>
    obtain ⟨a, vs, rfl, h1, _⟩ := h.lst e
    rcases h1 with (h1 | ⟨o, h1⟩) | ⟨o, its, n, h1, h2, _⟩
    · exact .inl (.base (.lst h1))
    · exact .inl (.base (.frz h1))
    · exact .inl (.kList h1 h2)
  | tuple xs =>
    obtain ⟨a, vs, rfl, h1, _⟩ := h.tup e
    rcases h1 with (h1 | ⟨o, h1⟩) | ⟨o, its, n, h1, h2, _⟩
    · exact .inl (.base (.tup h1))
    · exact .inl (.fTuple h1)
    · exact .inl (.kTuple h1 h2)
  | dict xs =>
    cases z : isOpq xs with
    | false =>
      obtain ⟨a, ks, rfl, h1, _⟩ := h.dct e z
      rcases h1 with h1 | ⟨o, h1⟩
      · exact .inl (.base (.dK h1))
      · exact .inl (.fDict h1)
    | true =>
      rcases h with h | ⟨a, vs, ds, e1, e2, _⟩ | ⟨a, ks, ds, e1, e2, hd, _⟩
      · cases h with
        | dct h1 _ =>
          rcases e _ _ h1 with h1 | ⟨o, h1⟩
          · exact .inl (.base (.dK h1))
          · exact .inl (.fDict h1)
        | dcT h1 => exact .inr ⟨rfl, _, rfl, e _ _ h1⟩
        | exc0 h1 => cases ne
        | exc1 h1 _ _ => cases ne
      · cases e2
      · subst e1
        exact .inl (.base (.dK hd))
def isiG (T : String) (x : D) : Option Bool := if isExc x = true then none else kitB (tyN x) T
def isiE (T : String) (f : SE) : SE := bindE (pkE f) fun r => fun δ => match r.get δ with
  | some x => (isiG T x).map fun b => .ok (.d (.bool b)) δ
  | none => none
theorem de_isi {T : String} {tx : Str} {p q : Pos} (hK : C.K = X.K) (hg : Gl X "isinstance") (hm : X.mg "isinstance" = none) (hg2 : Gl X tx) (hm2 : X.mg tx = none) (hv2 : bootBuiltins tx = some (.type T)) (ha : DE X C W e f)
    (hn : tx ≠ "__name__" := by decide) (hd : (tx == ("__debug__" : Str)) = false := by decide)
    (hs : starEach [e, .Name tx q] X.env = (false, eval e X.env) :: starEach [.Name tx q] X.env := by rfl) (hs2 : starEach [.Name tx q] X.env = (false, eval (.Name tx q) X.env) :: starEach [] X.env := by rfl) (hpl : (backTo pos (starEach [.Name tx q] X.env)).any (·.1) = false := by rfl) :
    DE X C W (.Call (.Name "isinstance" p) [e, .Name tx q] [] pos) (isiE T f) := by
  have A : PA X [e, .Name tx q] _ := pa_cons (de_pk ha) (pa_cons (pe_bltn (v := .ty T) hg2 hm2 hv2 rfl hn hd) pa_nil hs2) hs
  refine pe_mono (pe_callB call_isiY hg hm (by decide +kernel) A (he := hs) (hpl := hpl)) fun σ H Q ⟨F, δ, h⟩ => ?_
  refine bindV (RVb := RVl C) (mbV) h fun v F1 H1 δ1 r1 e1 S1 R1 V1 h1 => ?_
  obtain ⟨o, ho⟩ := h1.some
  have ho' := ho
  cases q1 : r1.get δ1 with
  | none => simp only [q1] at ho; cases ho
  | some x =>
    simp only [q1] at ho
    cases q2 : isiG T x with
    | none => rw [q2] at ho; cases ho
    | some k =>
      rw [q2] at ho
      cases ho
      unfold isiG at q2
      cases ne : isExc x with
      | true => rw [if_pos ne] at q2; cases q2
      | false =>
        rw [if_neg (by rw [ne]; decide)] at q2
        refine ⟨v, .ty T, .type (tyN x), .type T, k, rfl, .ty T, ?_, kit_ty q2, h1.use ho' Stp.refl R1 (Dat.bl k)⟩
        rw [← hK]
        exact tyX_of R1.ext ne (V1.get R1 q1)
end
end DL

namespace DL
open PySem PySem.Spec PyProof.Rows L2
section
variable {X : Cx} {C : DC} {W : XW} {F F' H H' : Hp} {σ : Sg} {δ δ' : List SV} {e a b o : Expr} {f fa fb fo : SE} {pos apos : Pos} {k : Nat}
/-! ### names of the module -/
theorem de_glob {x : Str} {v : V} {u : Value} {y : D} (hg : Gl X x) (hm : X.mg x = some u) (r : RelV v u) (d : ∀ F, Dat C.K F v y) (hd : (x == ("__debug__" : Str)) = false := by decide) : DE X C W (.Name x pos) (conE y) := de_tC (pe_glob hg hm r hd) d
theorem de_globI {x : Str} {i : Int} {t : Tok} (hg : Gl X x) (hm : X.mg x = some (.int i t)) (hd : (x == ("__debug__" : Str)) = false := by decide) : DE X C W (.Name x pos) (conE (.int i)) := de_glob (v := .int i) hg hm ⟨t, rfl⟩ (fun _ => .int i) hd
/-! ### keys -/
def keyD : D → Option Key
  | .int i => some (.inl i)
  | .str x => some (.inr x)
  | _ => none
theorem key_of {v : V} {x : D} {k : Key} (h : DatP C.K F H v x) (e : keyD x = some k) : v = kV k := by
  cases x with
  | int i => cases e; exact h.int
  | str i => cases e; exact h.str
  | _ => cases e
theorem keyD_kD (k : Key) : keyD (kD k) = some k := by cases k <;> rfl
/-- a key's value in data -/
def lookD (ds : List (D × D)) (k : Key) : Option D := (ds.find? fun p => decide (keyD p.1 = some k)).map (·.2)
def valD (ks : List (Key × D)) (k : Key) : Option D := (ks.find? fun p => decide (p.1 = k)).map (·.2)
def putD (ks : List (Key × D)) (k : Key) (v : D) : List (Key × D) := if (ks.any fun p => decide (p.1 = k)) = true then ks.map (fun p => if p.1 = k then (p.1, v) else p) else ks ++ [(k, v)]
def dropD (ks : List (Key × D)) (k : Key) : List (Key × D) := ks.filter fun p => decide (p.1 ≠ k)
theorem lookD_kv (ks : List (Key × D)) (k : Key) : lookD (kvD ks) k = valD ks k := by
  unfold lookD valD kvD
  rw [List.find?_map]
  cases h : List.find? ((fun p : D × D => decide (keyD p.1 = some k)) ∘ fun p : Key × D => (kD p.1, p.2)) ks with
  | none =>
    have : List.find? (fun p : Key × D => decide (p.1 = k)) ks = none := by
      rw [List.find?_eq_none] at h ⊢
      intro x hx
      have := h x hx
      simpa [keyD_kD] using this
    rw [this]; rfl
  | some p =>
    have : List.find? (fun p : Key × D => decide (p.1 = k)) ks = some p := by
      rw [← h]
      congr 1
      funext q
      simp [keyD_kD]
    rw [this]; rfl
theorem Datp.val {K : PySem.W.Frag} {k : Key} : ∀ {vs : List (Key × V)} {ds : List (D × D)}, Datp K F vs ds → (valV vs k = none ∧ lookD ds k = none) ∨ ∃ v x, valV vs k = some v ∧ lookD ds k = some x ∧ Dat K F v x
  | _, _, .nil => .inl ⟨rfl, rfl⟩
  | _, _, @Datp.cons _ _ k0 v ks d ds h t => by
    by_cases e : k0 = k
    · exact .inr ⟨v, d, valV_pos e, by unfold lookD; rw [List.find?_cons_of_pos (by simp [keyD_kD, e])]; rfl, h⟩
    · rw [valV_neg (p := (k0, v)) e]
      have : lookD ((kD k0, d) :: ds) k = lookD ds k := by unfold lookD; rw [List.find?_cons_of_neg (by simp [keyD_kD, e])]
      rw [this]
      exact Datp.val t
theorem DKs.any {K : PySem.W.Frag} {k : Key} : ∀ {vs : List (Key × V)} {ds : List (Key × D)}, DKs K F vs ds → (vs.any fun p => decide (p.1 = k)) = ds.any fun p => decide (p.1 = k)
  | _, _, .nil => rfl
  | _, _, .cons h t => by simp only [List.any_cons, DKs.any t]
theorem DKs.app {K : PySem.W.Frag} : ∀ {vs ws : List (Key × V)} {ds es : List (Key × D)}, DKs K F vs ds → DKs K F ws es → DKs K F (vs ++ ws) (ds ++ es)
  | _, _, _, _, .nil, s => s
  | _, _, _, _, .cons h t, s => .cons h (DKs.app t s)
theorem DKs.repl {K : PySem.W.Frag} {k : Key} {v : V} {d : D} (hv : Dat K F v d) : ∀ {vs : List (Key × V)} {ds : List (Key × D)}, DKs K F vs ds → DKs K F (vs.map fun kv => if kv.1 = k then (kv.1, v) else kv) (ds.map fun p => if p.1 = k then (p.1, d) else p)
  | _, _, .nil => .nil
  | _, _, @DKs.cons _ _ k0 v0 ks d0 ds h t => by
    have ih := DKs.repl (k := k) hv t
    simp only [List.map_cons]
    by_cases e : k0 = k
    · rw [if_pos e, if_pos e]; exact .cons hv ih
    · rw [if_neg e, if_neg e]; exact .cons h ih
theorem DKs.put {K : PySem.W.Frag} {k : Key} {v : V} {d : D} (hv : Dat K F v d) {vs : List (Key × V)} {ds : List (Key × D)} (h : DKs K F vs ds) : DKs K F (putK vs k v) (putD ds k d) := by
  unfold putK putD
  rw [h.any]
  split
  · exact h.repl hv
  · exact h.app (.cons hv .nil)
theorem DKs.len {K : PySem.W.Frag} : ∀ {vs : List (Key × V)} {ds : List (Key × D)}, DKs K F vs ds → vs.length = ds.length
  | _, _, .nil => rfl
  | _, _, .cons _ t => congrArg (· + 1) (DKs.len t)
/-! ### d[k] -/
def rIxK (H0 : Unit) : R2 := fun x y H Q => ∃ a v, x = .ref a ∧ DGet H a y (some v) ∧ Q v H
theorem ix_own (hu : X.A.units + 1 < cLine) : IxR X (rIxK ()) := by
  intro value slice pins s σ H x y v u Q I rx ry h hs
  obtain ⟨p, w, rfl, g, q⟩ := h
  obtain rfl : v = Value.ref p := rx
  exact tail_any (dict_typeIs I g) PySem.F.slot_dict_getitem.lookup (d_getItem hu I g ry fun w' s3 I3 rw' => ⟨w, H, I3, rw', q⟩) hs
def ixK : D → D → Option Res
  | .dict ds, y => if isOpq ds = true then none else (keyD y).bind fun k => (lookD ds k).map Res.d
  | _, _ => none
theorem od_ixK : OpD C (rIxK ()) ixK := by
  intro F H σ δ v w x y res Q R hx hy e k
  cases x with
  | dict ds =>
    simp only [ixK] at e
    cases no : isOpq ds with
    | true => rw [if_pos no] at e; cases e
    | false =>
    rw [if_neg (by rw [no]; decide)] at e
    cases q : keyD y with
    | none => rw [q] at e; cases e
    | some ky =>
      rw [q] at e
      simp only [Option.bind_some] at e
      cases q2 : lookD ds ky with
      | none => rw [q2] at e; cases e
      | some z =>
        rw [q2] at e; cases e
        obtain ⟨a, ks, rfl, h1, t1⟩ := hx.dct R.ext no
        rcases t1.val (k := ky) with ⟨_, z2⟩ | ⟨u, x', z1, z2, z3⟩
        · rw [q2] at z2; cases z2
        · rw [q2] at z2; cases z2
          exact ⟨a, u, rfl, .inl ⟨ks, ky, h1, key_of hy q, z1.symm⟩, k u F H Stp.refl R z3⟩
  | _ => cases e
def ixG (x y : D) : Option Res := (ixS x y).or (ixK x y)
theorem de_ixG (hK : C.K = X.K) (hr : Room k X.A) (ha : DE X C W a fa) (hb : DE X C W b fb) (hs : PlainIx b) : DE X C W (.Subscript a b pos) (op2E ixG fa fb) := de_ix (r := fun x y H Q => rIx C.K x y H Q ∨ rIxK () x y H Q) (by rw [hK]; exact ix_seq.or (ix_own (by have := hr.un; omega))) (od_ix.or od_ixK) ha hb hs
/-! ### x in y -/
def rInK (n : Bool) : R2 := fun x y H Q => ∃ a o, y = .ref a ∧ DGet H a x o ∧ Q (.bl (if n then !o.isSome else o.isSome)) H
theorem op_inK (hu : X.A.units + 1 < cLine) : OpR X (compareOp .In) (rInK false) := by
  intro pins s σ H x y v u Q I rx ry h
  obtain ⟨p, w, rfl, g, q⟩ := h
  obtain rfl : u = Value.ref p := ry
  exact d_in hu I g rx fun s3 I3 => ⟨.bl w.isSome, H, I3, rfl, q⟩
theorem op_ninK (hu : X.A.units + 1 < cLine) : OpR X (compareOp .NotIn) (rInK true) := by
  intro pins s σ H x y v u Q I rx ry h
  obtain ⟨p, w, rfl, g, q⟩ := h
  obtain rfl : u = Value.ref p := ry
  exact d_notIn hu I g rx fun s3 I3 => ⟨.bl (!w.isSome), H, I3, rfl, q⟩
def inK (n : Bool) : D → D → Option Res
  | x, .dict ds => if isOpq ds = true then none else (keyD x).map fun k => .d (.bool (if n then !(lookD ds k).isSome else (lookD ds k).isSome))
  | _, _ => none
theorem od_inK {n : Bool} : OpD C (rInK n) (inK n) := by
  intro F H σ δ v w x y res Q R hx hy e k
  cases y with
  | dict ds =>
    simp only [inK] at e
    cases z : isOpq ds with
    | true => rw [if_pos z] at e; cases e
    | false =>
    rw [if_neg (by rw [z]; decide)] at e
    cases q : keyD x with
    | none => rw [q] at e; cases e
    | some ky =>
      rw [q] at e
      cases e
      obtain ⟨a, ks, rfl, h1, t1⟩ := hy.dct R.ext z
      refine ⟨a, _, rfl, .inl ⟨ks, ky, h1, key_of hx q, rfl⟩, ?_⟩
      have : (valV ks ky).isSome = (lookD ds ky).isSome := by
        rcases t1.val (k := ky) with ⟨z1, z2⟩ | ⟨u, x', z1, z2, z3⟩
        · rw [z1, z2]; rfl
        · rw [z1, z2]; rfl
      rw [this]
      exact k _ F H Stp.refl R (Dat.bl _)
  | _ => cases e
def inL (n : Bool) : D → D → Option Res
  | x, .list ds => if layD x = true ∧ layD (.list ds) = true then some (.d (.bool (if n then !ds.any fun z => PyData.eqv z x else ds.any fun z => PyData.eqv z x))) else none
  | _, _ => none
theorem od_inL {n : Bool} : OpD C (fun x y H Q => ∃ d ds, Dp C.K H x d ∧ Dp C.K H y (.list ds) ∧ SeqAt.shaped d = true ∧ SeqAt.shaped (.list ds) = true ∧ Q (.bl (if n then !ds.any fun z => PyData.eqv z d else ds.any fun z => PyData.eqv z d)) H) (inL n) := by
  intro F H σ δ v w x y res Q R hx hy e k
  cases y with
  | list ds =>
    simp only [inL] at e
    split at e
    · rename_i hl
      cases e
      exact ⟨x, ds, (hx.dat R.ext).dpl hl.1, (hy.dat R.ext).dpl hl.2, lay_shaped hl.1, lay_shaped hl.2, k _ F H Stp.refl R (Dat.bl _)⟩
    · cases e
  | _ => cases e
def inG (x y : D) : Option Res := (inK false x y).or (inL false x y)
def notInG (x y : D) : Option Res := (inK true x y).or (inL true x y)
theorem op_inG (hr : Room k X.A) : OpR X (compareOp .In) (fun x y H Q => rInK false x y H Q ∨ rInD X.K x y H Q) := (op_inK (by have := hr.un; omega)).or (op_inD (by have := hr.un; omega))
theorem op_notInG (hr : Room k X.A) : OpR X (compareOp .NotIn) (fun x y H Q => rInK true x y H Q ∨ rNotInD X.K x y H Q) := (op_ninK (by have := hr.un; omega)).or (op_notInD (by have := hr.un; omega))
theorem od_inG : OpD C (fun x y H Q => rInK false x y H Q ∨ rInD C.K x y H Q) inG := od_inK.or (od_inL (n := false))
theorem od_notInG : OpD C (fun x y H Q => rInK true x y H Q ∨ rNotInD C.K x y H Q) notInG := od_inK.or (od_inL (n := true))
/-! ### o[i] = v -/
def setIS (fv fo fi : SE) : SS := bindS (escE fv) fun rv => bindS fo fun ro => bindS (pkE fi) fun ri δ =>
  match rv, ro, ri.get δ with
  | .d v, .b j, some ix => match δ[j]?, ix with
    | some (.L k xs), .int i => (ixN xs.length i).map fun n => .nx (δ.set j (.L k (xs.set n v)))
    | some (.M k ks), ix => (keyD ix).bind fun ky => if ks.length < sizeLine then some (.nx (δ.set j (.M k (putD ks ky v)))) else none
    | _, _ => none
  | _, _, _ => none
theorem setI_read {g : Unit} {fi : SE} {D : Ends} {fv : SE} (h : tS C W (setIS fv fo fi) D σ H) :
    tD C W (escE fv) σ H fun v H1 => tD C W fo σ H1 fun x H2 => tD C W (pkE fi) σ H2 fun y H3 => (rSetL x y v H3 fun H4 => D.nx σ H4) ∨ rSetD x y v H3 fun H4 => D.nx σ H4 := by
  obtain ⟨F, δ, R, h⟩ := h
  refine ⟨F, δ, (bindS_read (RVa := RVl C) R h).mono fun v H1 ⟨F1, δ1, r1, e1, S1, R1, V1, q1⟩ => ?_⟩
  refine ⟨F1, δ1, (bindS_read (RVa := RVl C) R1 q1).mono fun x H2 ⟨F2, δ2, r2, e2, S2, R2, V2, q2⟩ => ?_⟩
  refine ⟨F2, δ2, (bindS_read (RVa := RVl C) R2 q2).mono fun y H3 ⟨F3, δ3, r3, e3, S3, R3, V3, q3⟩ => ?_⟩
  obtain ⟨z, rfl⟩ := esc_isD e1
  have V1' : Dat C.K F3 v z := Dat.mono (S2.trans S3).ext V1
  cases r2 with
  | b j =>
    have V2 : σ[j]? = some (some x) := V2
    cases q4 : r3.get δ3 with
    | none => simp only [q4] at q3; exact q3.elim
    | some ix =>
      simp only [q4] at q3
      have dy := RV.get V3 R3 q4
      cases q5 : δ3[j]? with
      | none => simp only [q5] at q3; exact q3.elim
      | some s =>
        have sl := R3.slot j _ s V2 q5
        cases s with
        | u => simp only [q5] at q3; exact q3.elim
        | d x => simp only [q5] at q3; exact q3.elim
        | L k xs =>
          cases ix with
          | int i =>
            simp only [q5] at q3
            cases q6 : ixN xs.length i with
            | none => rw [q6] at q3; exact q3.elim
            | some n =>
              rw [q6] at q3
              obtain ⟨p, vs, e4, lb, h4, f4, t4⟩ := sl
              cases e4
              refine .inl ⟨p, vs, i, n, rfl, dy.int, h4, by rw [t4.length]; exact q6, ?_⟩
              obtain ⟨S4, R4⟩ := R3.write (s' := .L k (xs.set n z)) (o := .lst (vs.set n v)) q5 rfl V2 rfl rfl ⟨p, _, rfl, lb, upd_same, f4, t4.set V1' n⟩
              exact q3 σ F3 _ (Le.refl _) R4
          | _ => simp only [q5] at q3; exact q3.elim
        | M k ks =>
          simp only [q5] at q3
          cases q6 : keyD ix with
          | none => rw [q6] at q3; exact q3.elim
          | some ky =>
            rw [q6] at q3
            simp only [Option.bind_some] at q3
            obtain ⟨p, vs, e4, lb, h4, f4, t4⟩ := sl
            cases e4
            by_cases hl : ks.length < sizeLine
            · rw [if_pos hl] at q3
              refine .inr ⟨p, _, rfl, .inl ⟨vs, ky, h4, key_of dy q6, by rw [t4.len]; exact hl, rfl⟩, ?_⟩
              obtain ⟨S4, R4⟩ := R3.write (s' := .M k (putD ks ky z)) (o := .dK (putK vs ky v)) q5 rfl V2 rfl rfl ⟨p, _, rfl, lb, upd_same, f4, t4.put V1'⟩
              exact q3 σ F3 _ (Le.refl _) R4
            · rw [if_neg hl] at q3; exact q3.elim
  | _ => exact q3.elim
theorem PSet.or {t t' : TSet} (h : PSet X t) (h' : PSet X t') : PSet X fun o i v H Q => t o i v H Q ∨ t' o i v H Q := by
  intro pins s σ H o i v ov iv u Q I ro ri rv q
  rcases q with q | q
  · exact h pins s σ H o i v ov iv u Q I ro ri rv q
  · exact h' pins s σ H o i v ov iv u Q I ro ri rv q
theorem ds_setI {i v : Expr} {fi fv : SE} {spos : Pos} (hr : Room k X.A) (hv : DE X C W v fv) (ho : DE X C W o fo) (hi : DE X C W i fi)
    (hs : swapsWithSole [.Subscript o i pos] v spos.line X.env = pure false := by rfl) (hw : swappedStores [.Subscript o i pos] v X.env = pure none := by rfl)
    (h1 : (assignEach [.Subscript o i pos] X.env).map (·.2) = [assign (.Subscript o i pos) X.env] := by rfl)
    (ha : ∀ v, assign (.Subscript o i pos) X.env v = (do
      let ov ← holding [v] (eval o X.env)
      let iv ← holding [v, ov] (eval i X.env)
      standAt pos
      holding [v, ov, iv] (setItem ov iv v)
      release [v, ov, iv] []) := by intro _; rfl) : DS X C W (.Assign [.Subscript o i pos] v spos) (setIS fv fo fi) :=
  ps_mono (ps_asg (de_esc hv) (pg_sub ho (de_pk hi) (PSet.or set_list (set_dict (by have := hr.un; omega))) ha) hs hw h1) fun D σ H h => setI_read (g := ()) h
end
end DL

namespace DL
open PySem PySem.Spec PyProof.Rows L2
section
variable {X : Cx} {C : DC} {W : XW} {F F' F1 Fs H H' H1 Hs : Hp} {σ : Sg} {δ δ' δ1 δs : List SV} {e a b o : Expr} {f fa fb fo : SE} {pos apos : Pos} {k : Nat} {α β γ : Type}
/-! ### a reading from an earlier start -/
def tZ (C : DC) (W : XW) (RVa : Hp → Hp → Sg → Hp → β → α → Prop) (g : SEa α) (Fs Hs : Hp) (σ : Sg) (δs δ : List SV) (Q : β → Hp → Prop) : Prop :=
  match g δ with
    | none => False
    | some (.ok r δ') => ∀ v F' H', Stp Fs Hs σ δs F' H' δ' → Rp C F' H' σ δ' → RVa F' H' σ Hs v r → Q v H'
    | some (.ex e δ') => ∀ F' H' od, Stp Fs Hs σ δs F' H' δ' → Rp C F' H' σ δ' → XOk C F' H' e od → W (.ref (He.ga C.K e.cls)) od σ H'
theorem tX.z {RVa : Hp → Hp → Sg → Hp → β → α → Prop} {g : SEa α} {Q : β → Hp → Prop} (h : tX C W RVa g F H σ δ Q) : tZ C W RVa g F H σ δ δ Q := h.2
theorem tZ.bind {RVa : Hp → Hp → Sg → Hp → β → α → Prop} {α' γ' : Type} {RVb : Hp → Hp → Sg → Hp → γ' → α' → Prop} {f : SEa α} {k : α → SEa α'} {Q : γ' → Hp → Prop}
    (h : tZ C W RVb (bindE f k) Fs Hs σ δs δ Q) (S : Stp Fs Hs σ δs F H δ) (R : Rp C F H σ δ) :
    tX C W RVa f F H σ δ (fun v H1 => ∃ F1 δ1 r, f δ = some (.ok r δ1) ∧ Stp F H σ δ F1 H1 δ1 ∧ Stp Fs Hs σ δs F1 H1 δ1 ∧ Rp C F1 H1 σ δ1 ∧ RVa F1 H1 σ H v r ∧ tZ C W RVb (k r) Fs Hs σ δs δ1 Q) := by
  refine ⟨R, ?_⟩
  unfold tZ bindE at h
  cases q : f δ with
  | none => rw [q] at h; exact h
  | some o =>
    rw [q] at h
    cases o with
    | ex e δ' => exact fun F' H' od S' R' x => h F' H' od (S.trans S') R' x
    | ok r δ1 => exact fun v F1 H1 S1 R1 V1 => ⟨F1, δ1, r, rfl, S1, S.trans S1, R1, V1, h⟩
theorem tZ.some {RVa : Hp → Hp → Sg → Hp → β → α → Prop} {g : SEa α} {Q : β → Hp → Prop} (h : tZ C W RVa g Fs Hs σ δs δ Q) : ∃ o, g δ = some o := by
  unfold tZ at h
  cases q : g δ with
  | none => rw [q] at h; exact h.elim
  | some o => exact ⟨o, rfl⟩
theorem tZ.use {RVa : Hp → Hp → Sg → Hp → β → α → Prop} {g : SEa α} {Q : β → Hp → Prop} (h : tZ C W RVa g Fs Hs σ δs δ Q) {r : α} (e : g δ = Option.some (ER.ok r δ')) (S : Stp Fs Hs σ δs F H δ') (R : Rp C F H σ δ') {v : β} (V : RVa F H σ Hs v r) : Q v H := by
  unfold tZ at h
  rw [e] at h
  exact h v F H S R V
/-- a thing that was made since the start is written -/
theorem Stp.poke (S : Stp Fs Hs σ δs F H δ) {p : Addr} (o : HO) (np : Hs p = none) : Stp Fs Hs σ δs F (upd H p o) δ :=
  ⟨S.ext, fun a u h n => by
    obtain ⟨h1, f1⟩ := S.frm a u h n
    have : a ≠ p := fun z => by rw [z, np] at h; cases h
    exact ⟨by rw [upd_ne this]; exact h1, f1⟩, fun a h => by
      by_cases z : a = p
      · rw [z, upd_same]; simp
      · rw [upd_ne z]; exact S.pers a h, S.own⟩
theorem Rp.poke (R : Rp C F H σ δ) {p : Addr} (o : HO) (hf : F p = none) (no : ¬ OwnedAt σ δ p) (n0 : C.H0 p = none) : Rp C F (upd H p o) σ δ where
  ext := le_updr R.ext hf
  len := R.len
  slot := fun i x s hx hs => (R.slot i x s hx hs).mono (Le.refl _) fun a ea es u hu => by
    subst ea
    have : a ≠ p := fun z => no (by rw [← z]; exact ⟨i, s, hs, es, hx⟩)
    exact ⟨by rw [upd_ne this]; exact hu, (R.owned_there ⟨i, s, hs, es, hx⟩).2⟩
  apart := R.apart
  own0 := R.own0
  old := fun a u h n => by
    obtain ⟨h1, f1⟩ := R.old a u h n
    have : a ≠ p := fun z => by rw [z, n0] at h; cases h
    exact ⟨by rw [upd_ne this]; exact h1, f1⟩
  ext0 := R.ext0
  pers := fun a h => by
    by_cases z : a = p
    · rw [z, upd_same]; simp
    · rw [upd_ne z]; exact R.pers a h
/-! ### {k: v, ..} -/
def mergeD (acc more : List (Key × D)) : List (Key × D) := more.foldl (fun acc p => putD acc p.1 p.2) acc
theorem DKs.merge {K : PySem.W.Frag} : ∀ {more : List (Key × V)} {more' : List (Key × D)} {vs : List (Key × V)} {ds : List (Key × D)}, DKs K F more more' → DKs K F vs ds → DKs K F (mergeK vs more) (mergeD ds more')
  | _, _, _, _, .nil, h => h
  | _ :: more, _ :: more', vs, ds, .cons hv t, h => DKs.merge (more := more) (more' := more') t (h.put hv)
def dispGo : List (SE × SE) → List (Key × D) → SE
  | [], acc => pureE (.nM (mergeD [] acc))
  | (fk, fv) :: r, acc => bindE (pkE fk) fun rk => bindE (escE fv) fun rv => match rk, rv with
    | .d x, .d y => match keyD x with
      | some ky => dispGo r (acc ++ [(ky, y)])
      | none => fun _ => none
    | _, _ => fun _ => none
def dispE (prs : List (SE × SE)) : SE := if prs.length ≤ 15 then dispGo prs [] else fun _ => none
inductive DPs (X : Cx) (C : DC) (W : XW) (pos : Pos) : List (Option Expr) → List Expr → List (SE × SE) → Prop
  | nil : DPs X C W pos [] [] []
  | cons {k v : Expr} {ks : List (Option Expr)} {vs : List Expr} {fk fv : SE} {prs : List (SE × SE)} : DE X C W k fk → DE X C W v fv → DPs X C W pos ks vs prs → DPs X C W pos (some k :: ks) (v :: vs) ((fk, fv) :: prs)
theorem DPs.pps : ∀ {ks : List (Option Expr)} {vs : List Expr} {prs : List (SE × SE)}, DPs X C W pos ks vs prs → PPs X pos ks vs (prs.map fun p => (tD C W (pkE p.1), tD C W (escE p.2)))
  | _, _, _, .nil => pps_nil
  | _, _, _, .cons h1 h2 t => pps_cons (de_pk h1) (de_esc h2) t.pps
theorem disp_go {n : Nat} {p : Addr} {G : List (V × V) → Hp → Prop} {Q : V → Hp → Prop} (R0 : Rp C Fs Hs σ δs) (np : Hs p = none)
    (hG : ∀ kvs H2 F2 δ2 ks, ks.length = n → Stp Fs Hs σ δs F2 H2 δ2 → Rp C F2 H2 σ δ2 → H2 p = some (.dK []) → F2 p = none → DKs C.K F2 kvs ks → tZ C W (RVl C) (pureE (.nM (mergeD [] ks))) Fs Hs σ δs δ2 Q → G (kvs.map fun kv => (kV kv.1, kv.2)) H2) :
    ∀ (prs : List (SE × SE)) (acc : List (Key × D)) (kvs : List (Key × V)) (F H : Hp) (δ : List SV), acc.length + prs.length = n → Stp Fs Hs σ δs F H δ → Rp C F H σ δ → H p = some (.dK []) → F p = none → DKs C.K F kvs acc → tZ C W (RVl C) (dispGo prs acc) Fs Hs σ δs δ Q →
      tPairs (prs.map fun p => (tD C W (pkE p.1), tD C W (escE p.2))) σ H fun ps H2 => G (kvs.map (fun kv => (kV kv.1, kv.2)) ++ ps) H2
  | [], acc, kvs, F, H, δ, hn, S, R, hp, fp, dk, h => by
    show G _ _
    rw [List.append_nil]
    exact hG kvs H F δ acc hn S R hp fp dk h
  | (fk, fv) :: r, acc, kvs, F, H, δ, hn, S, R, hp, fp, dk, h => by
    have no : ¬ OwnedAt σ δ p := fun z => R0.fresh_own np (S.owned z)
    refine ⟨F, δ, (tZ.bind (RVa := RVl C) h S R).mono fun x H1 ⟨F1, δ1, r1, e1, S1, S1', R1, V1, h1⟩ => ?_⟩
    refine ⟨F1, δ1, (tZ.bind (RVa := RVl C) h1 S1' R1).mono fun y H2 ⟨F2, δ2, r2, e2, S2, S2', R2, V2, h2⟩ => ?_⟩
    obtain ⟨z, rfl⟩ := esc_isD e2
    cases r1 with
    | d x0 =>
      simp only at h2
      cases q : keyD x0 with
      | none => rw [q] at h2; exact h2.elim
      | some ky =>
        rw [q] at h2
        obtain ⟨h3, f3⟩ := S1.frm p _ hp no
        obtain ⟨h4, f4⟩ := S2.frm p _ h3 fun z => R0.fresh_own np (S1'.owned z)
        have kx : x = kV ky := key_of (F := F1) (H := H1) (C := C) (.inl V1) q
        have := disp_go R0 np hG r (acc ++ [(ky, z)]) (kvs ++ [(ky, y)]) F2 H2 δ2 (by simp at hn ⊢; omega) S2' R2 h4 (f4 (f3 fp)) ((dk.mono (S1.trans S2).ext).app (.cons V2 .nil)) h2
        rw [List.map_append] at this
        simp only [List.map_cons, List.map_nil, List.append_assoc, List.singleton_append, ← kx] at this
        exact this
    | b j => exact h2.elim
    | nL xs => exact h2.elim
    | nM xs => exact h2.elim
theorem DPs.len : ∀ {ks : List (Option Expr)} {vs : List Expr} {prs : List (SE × SE)}, DPs X C W pos ks vs prs → ks.length = prs.length ∧ ks.length = vs.length ∧ ks.all (·.isSome) = true
  | _, _, _, .nil => ⟨rfl, rfl, rfl⟩
  | _, _, _, .cons _ _ t => by
    obtain ⟨h1, h2, h3⟩ := t.len
    exact ⟨by simp [h1], by simp [h2], by simp [h3]⟩
theorem de_disp {ks : List (Option Expr)} {vs : List Expr} {prs : List (SE × SE)} (h : DPs X C W pos ks vs prs) (h0 : ks ≠ []) (h15 : ks.length ≤ 15 := by decide) : DE X C W (.Dict ks vs pos) (dispE prs) := by
  obtain ⟨l1, l2, l3⟩ := h.len
  refine pe_mono (pe_disp h.pps l3 l2 h0 h15) fun σ H Q ⟨F, δ, hx⟩ => ?_
  intro p np
  have R := hx.1
  have hz := hx.z
  unfold dispE at hz
  rw [if_pos (by rw [← l1]; exact h15)] at hz
  obtain ⟨S1, R1⟩ := R.newG (.dK []) np
  have := disp_go (G := fun ps H2 => H2 p = some (.dK []) ∧ ∃ kvs : List (Key × V), ps = kvs.map (fun kv => (kV kv.1, kv.2)) ∧ kvs.length ≤ 15 ∧ Q (.ref p) (upd H2 p (.dK (mergeK [] kvs)))) (Q := Q) (p := p) R np ?_ prs [] [] F _ δ rfl S1 R1 upd_same (R.freshF np) .nil hz
  · simpa using this
  · intro kvs H2 F2 δ2 ks2 hn S2 R2 hp fp dk z
    refine ⟨hp, kvs, rfl, ?_, ?_⟩
    · rw [dk.len, hn]; simp; omega
    · have no : ¬ OwnedAt σ δ2 p := fun z => R.fresh_own np (S2.owned z)
      have dm := (dk.merge (.nil (K := C.K) (H := F2)))
      exact tZ.use (r := .nM (mergeD [] ks2)) z rfl (S2.poke _ np) (R2.poke _ fp no (R.fresh0 np)) ⟨p, _, rfl, upd_same, fp, dm, np⟩
theorem de_disp0 : DE X C W (.Dict [] [] pos) (pureE (.nM [])) := pe_mono pe_dnewK fun σ H Q ⟨F, δ, h⟩ => fun p np => by
  obtain ⟨S1, R1⟩ := h.1.newG (.dK []) np
  exact h.use (δ' := δ) rfl S1 R1 ⟨p, [], rfl, upd_same, h.1.freshF np, .nil, np⟩
end
end DL

namespace DL
open PySem PySem.Spec PyProof.Rows L2
section
variable {X : Cx} {C : DC} {W : XW} {F F' F1 Fs H H' H1 Hs : Hp} {σ : Sg} {δ δ' δ1 δs : List SV} {e a b o : Expr} {es : List Expr} {f fa fb fo : SE} {pos apos cpos : Pos} {k : Nat}
/-! ### methods of a list of one's own -/
def selL (fo : SE) : SEa Nat := bindE fo fun r => fun δ => match r with
  | .b j => match δ[j]? with
    | some (.L _ _) => some (.ok j δ)
    | _ => none
  | _ => none
def MetD (C : DC) (r : V → List V → Hp → VK → Prop) (g : List D → List D → Option (D × List D)) : Prop :=
  ∀ (F H : Hp) (a : Addr) (vs ws : List V) (xs args ys : List D) (x : D) (Q : VK), Le F H → H a = some (.lst vs) → F a = none → Dats C.K F vs xs → Dats C.K F ws args → g xs args = some (x, ys) →
    (∀ u vs', Dats C.K F vs' ys → Dat C.K F u x → Q u (upd H a (.lst vs'))) → r (.ref a) ws H Q
def metE (g : List D → List D → Option (D × List D)) (fo : SE) (fa : SA) : SE := bindE (selL fo) fun j => bindE fa fun rs => fun δ =>
  match δ[j]?, datas rs with
  | some (.L k xs), some args => (g xs args).map fun q => .ok (.d q.1) (δ.set j (.L k q.2))
  | _, _ => none
def RJ (C : DC) : Hp → Hp → Sg → Hp → V → Nat → Prop := fun _ _ σ _ v j => σ[j]? = some (some v)
theorem sel_read {Q : V → Hp → Prop} (h : tX C W (RJ C) (selL fo) F H σ δ Q) : tD C W fo σ H fun x H1 => tyV C.K "list" x H1 ∧ Q x H1 := by
  refine bindV (RVb := RJ C) (fun _ _ _ _ _ _ _ _ z => z) h fun v F1 H1 δ1 r1 e1 S1 R1 V1 h1 => ?_
  obtain ⟨o, ho⟩ := h1.some
  have ho' := ho
  cases r1 with
  | b j =>
    have V1 : σ[j]? = some (some v) := V1
    cases q : δ1[j]? with
    | none => simp only [q] at ho; cases ho
    | some s =>
      have sl := R1.slot j _ s V1 q
      cases s with
      | L k xs =>
        simp only [q] at ho
        cases ho
        obtain ⟨p, vs, e2, _, hp, _⟩ := sl
        cases e2
        exact ⟨.inl ⟨rfl, vs, SqL.of hp⟩, h1.use ho' Stp.refl R1 V1⟩
      | _ => simp only [q] at ho; cases ho
  | _ => cases ho
theorem met_core {r : V → List V → Hp → VK → Prop} {g : List D → List D → Option (D × List D)} {fa : SA} {Q : VK} (hm : MetD C r g) (h : tD C W (metE g fo fa) σ H Q) :
    tD C W fo σ H fun x H1 => tyV C.K "list" x H1 ∧ tAr C W fa σ H1 fun ws H2 => r x ws H2 Q := by
  obtain ⟨F, δ, h⟩ := h
  refine sel_read (F := F) (δ := δ) ((tX.bind (RVa := RJ C) (H1 := H) (RVb := RVl C) (fun _ _ _ _ _ z => z) (mbV) h).mono fun v H1 ⟨F1, δ1, j, e1, S1, V1, h1⟩ => ?_)
  have R1 := h1.1
  have V1 : σ[j]? = some (some v) := V1
  refine bindA (RVb := RVl C) (mbV) h1 fun ws F2 H2 δ2 rs e2 S2 R2 V2 h2 => ?_
  obtain ⟨o, ho⟩ := h2.some
  have ho' := ho
  cases q : δ2[j]? with
  | none => simp only [q] at ho; cases ho
  | some s =>
    have sl := R2.slot j _ s V1 q
    cases s with
    | L k xs =>
      cases q2 : datas rs with
      | none => simp only [q, q2] at ho; cases ho
      | some args =>
        simp only [q, q2] at ho
        cases q3 : g xs args with
        | none => rw [q3] at ho; cases ho
        | some y =>
          rw [q3] at ho
          have ho : some (ER.ok (.d y.1) (δ2.set j (.L k y.2))) = some o := ho
          cases ho
          obtain ⟨p, vs, e3, lb, hp, fp, t⟩ := sl
          cases e3
          refine hm F2 H2 p vs ws xs args y.2 y.1 Q R2.ext hp fp t (V2.datas q2) q3 fun u vs' d1 d2 => ?_
          obtain ⟨S3, R3⟩ := R2.write (s' := .L k y.2) (o := .lst vs') q rfl V1 rfl rfl ⟨p, _, rfl, lb, upd_same, fp, d1⟩
          exact h2.use ho' S3 R3 d2
    | _ => simp only [q] at ho; cases ho
theorem de_met {r : V → List V → Hp → VK → Prop} {g : List D → List D → Option (D × List D)} {fa : SA} {name : Str} {id : String} (hK : C.K = X.K) (slot : Slot "list" name id) (hty : typeOf (.builtin id) = pure (.type "method_descriptor")) (hm : MtR X id r) (hd : MetD C r g) (ho : DE X C W o fo) (ha : DA X C W (e :: es) fa)
    (hbase : attributeBase o name X.env (eval o X.env) = eval o X.env := by rfl)
    (hfew : ((backTo cpos (starEach (e :: es) X.env)).all (fun x => !x.1) && (backToKw cpos (keywordEach [] X.env)).all (fun x => x.1.isSome)
      && decide ((e :: es).length + ([] : List Keyword).length + (if ([] : List Keyword).isEmpty then 0 else 1) < 30)) = true := by rfl)
    (hline : (apos.endLine == cpos.line) = true := by rfl) (hs : starEach (e :: es) X.env = (false, eval e X.env) :: starEach es X.env := by rfl) (hplain : (backTo cpos (starEach es X.env)).any (·.1) = false := by rfl) :
    DE X C W (.Call (.Attribute o name apos) (e :: es) [] cpos) (metE g fo fa) :=
  pe_mono (pe_bm PySem.F.plainAttrs_list slot hty hm ho ha hbase hfew hline hs hplain) fun σ H Q h => by rw [← hK]; exact met_core hd h
theorem de_met0 {r : V → List V → Hp → VK → Prop} {g : List D → List D → Option (D × List D)} {name : Str} {id : String} (hK : C.K = X.K) (slot : Slot "list" name id) (hty : typeOf (.builtin id) = pure (.type "method_descriptor")) (hm : MtR X id r) (hd : MetD C r g) (ho : DE X C W o fo)
    (hbase : attributeBase o name X.env (eval o X.env) = eval o X.env := by rfl) (hline : (apos.endLine == cpos.line) = true := by rfl) :
    DE X C W (.Call (.Attribute o name apos) [] [] cpos) (metE g fo nilA) := by
  refine pe_mono (pe_bm0 PySem.F.plainAttrs_list slot hty hm ho hbase hline) fun σ H Q h => ?_
  have h2 := met_core hd h
  obtain ⟨F, δ, h2⟩ := h2
  refine ⟨F, δ, h2.mono fun x H1 ⟨t, F1, δ1, R1, z⟩ => ⟨by rw [← hK]; exact t, ?_⟩⟩
  exact z [] F1 H1 Stp.refl R1 .nil
def appG : List D → List D → Option (D × List D)
  | xs, [y] => if xs.length < sizeLine then some (.none, xs ++ [y]) else none
  | _, _ => none
theorem md_append : MetD C rAppend appG := by
  intro F H a vs ws xs args ys x Q l h f t ta e k
  match args, ta, e with
  | [y], .cons hy .nil, e =>
    simp only [appG] at e
    split at e
    · rename_i hl
      cases e
      exact ⟨a, vs, _, rfl, rfl, h, by rw [t.length]; exact hl, k .non _ (t.append (.cons hy .nil)) .non⟩
    · cases e
  | [], _, e => cases e
  | y :: _ :: _, _, e => (cases y <;> cases e)
def popG : List D → List D → Option (D × List D)
  | xs, [] => (xs[xs.length - 1]?).map fun y => (y, xs.dropLast)
  | _, _ => none
theorem Dats.dropLast {K : PySem.W.Frag} {vs : List V} {ds : List D} (h : Dats K F vs ds) : Dats K F vs.dropLast ds.dropLast := by
  rw [List.dropLast_eq_take, List.dropLast_eq_take, h.length]
  exact h.take _
theorem md_pop : MetD C rPop popG := by
  intro F H a vs ws xs args ys x Q l h f t ta e k
  match args, ta, e with
  | [], .nil, e =>
    simp only [popG] at e
    cases q : xs[xs.length - 1]? with
    | none => rw [q] at e; cases e
    | some y =>
      rw [q] at e
      cases e
      obtain ⟨v, h1, h2⟩ := t.get q
      rw [← t.length] at h1
      exact ⟨a, vs, v, rfl, rfl, h, h1, k v _ t.dropLast h2⟩
  | _ :: _, _, e => cases e
def popAtG : List D → List D → Option (D × List D)
  | xs, [.int i] => if -(2 ^ 63) ≤ i ∧ i < 2 ^ 63 then (seqIndex? i xs.length).bind fun n => (xs[n]?).map fun y => (y, xs.eraseIdx n) else none
  | _, _ => none
theorem Dats.erase {K : PySem.W.Frag} : ∀ {vs : List V} {ds : List D} (n : Nat), Dats K F vs ds → Dats K F (vs.eraseIdx n) (ds.eraseIdx n)
  | _, _, _, .nil => .nil
  | _, _, 0, .cons _ t => t
  | _, _, n + 1, .cons h t => .cons h (Dats.erase n t)
theorem md_popAt : MetD C rPopAt popAtG := by
  intro F H a vs ws xs args ys x Q l h f t ta e k
  match args, ta, e with
  | [y], .cons hy .nil, e =>
    cases y with
    | int i =>
      cases hy
      simp only [popAtG] at e
      split at e
      · rename_i hb
        cases q : seqIndex? i xs.length with
        | none => rw [q] at e; cases e
        | some n =>
          rw [q] at e
          simp only [Option.bind_some] at e
          cases q2 : xs[n]? with
          | none => rw [q2] at e; cases e
          | some z =>
            rw [q2] at e
            cases e
            obtain ⟨v, h1, h2⟩ := t.get q2
            exact ⟨a, vs, i, n, v, rfl, rfl, h, hb.1, hb.2, by rw [t.length]; exact q, h1, k v _ (t.erase n) h2⟩
      · cases e
    | _ => cases e
  | [], _, e => cases e
  | y :: _ :: _, _, e => (cases y <;> cases e)
def removeG : List D → List D → Option (D × List D)
  | xs, [.int i] => (toInts xs).bind fun ns => if i ∈ ns then some (.none, (ns.erase i).map PyData.int) else none
  | _, _ => none
theorem Dats.ofInts {K : PySem.W.Frag} : ∀ (ns : List Int), Dats K F (ns.map V.int) (ns.map PyData.int)
  | [] => .nil
  | n :: ns => .cons (.int n) (Dats.ofInts ns)
theorem erase_ix : ∀ {ns : List Int} {i : Int}, i ∈ ns → ∃ j, ns[j]? = some i ∧ (∀ m : Nat, m < j → ns[m]? ≠ some i) ∧ ns.erase i = ns.eraseIdx j
  | n :: ns, i, h => by
    by_cases e : n = i
    · subst e
      exact ⟨0, rfl, fun m hm => absurd hm (Nat.not_lt_zero m), by simp⟩
    · obtain ⟨j, h1, h2, h3⟩ := erase_ix (show i ∈ ns by
        rcases List.mem_cons.mp h with z | z
        · exact absurd z.symm e
        · exact z)
      refine ⟨j + 1, by simpa using h1, fun m hm => ?_, ?_⟩
      · cases m with
        | zero => simpa using e
        | succ m => simpa using h2 m (by omega)
      · rw [List.erase_cons_tail (by simpa using e), h3]; rfl
theorem md_remove : MetD C rRemI removeG := by
  intro F H a vs ws xs args ys x Q l h f t ta e k
  match args, ta, e with
  | [y], .cons hy .nil, e =>
    cases y with
    | int i =>
      cases hy
      simp only [removeG] at e
      cases q : toInts xs with
      | none => rw [q] at e; cases e
      | some ns =>
        rw [q] at e
        simp only [Option.bind_some] at e
        split at e
        · rename_i hm
          cases e
          have := ints_of t q
          subst this
          obtain ⟨j, h1, h2, h3⟩ := erase_ix hm
          refine ⟨a, ns, i, j, rfl, rfl, h, h1, h2, ?_⟩
          rw [h3] at k
          exact k .non _ (Dats.ofInts _) .non
        · cases e
    | _ => cases e
  | [], _, e => cases e
  | y :: _ :: _, _, e => (cases y <;> cases e)
/-! ### methods that look at a list -/
def LookD (C : DC) (r : V → List V → Hp → VK → Prop) (g : List D → List D → Option D) : Prop :=
  ∀ (F H : Hp) (v : V) (ws : List V) (xs args : List D) (x : D) (Q : VK), Le F H → DatP C.K F H v (.list xs) → Dats C.K F ws args → g xs args = some x → (∀ u, Dat C.K F u x → Q u H) → r v ws H Q
def lookE (g : List D → List D → Option D) (fo : SE) (fa : SA) : SE := bindE (pkE fo) fun r => fun δ => match r.get δ with
  | some (.list _) => bindE fa (fun rs => fun δ => match r.get δ, datas rs with
    | some (.list xs), some args => (g xs args).map fun q => .ok (.d q) δ
    | _, _ => none) δ
  | _ => none
theorem tyV_list {v : V} {xs : List D} (e : Le F H) (h : DatP C.K F H v (.list xs)) : tyV C.K "list" v H := by
  obtain ⟨p, vs, rfl, h, _⟩ := h.lst e
  exact .inl ⟨rfl, vs, h⟩
theorem look_core {r : V → List V → Hp → VK → Prop} {g : List D → List D → Option D} {fa : SA} {Q : VK} (hm : LookD C r g) (h : tD C W (lookE g fo fa) σ H Q) :
    tD C W (pkE fo) σ H fun x H1 => tyV C.K "list" x H1 ∧ tAr C W fa σ H1 fun ws H2 => r x ws H2 Q := by
  obtain ⟨F, δ, h⟩ := h
  refine bindV (RVb := RVl C) (mbV) h fun v F1 H1 δ1 r1 e1 S1 R1 V1 h1 => ?_
  obtain ⟨o, ho⟩ := h1.some
  cases q : r1.get δ1 with
  | none => simp only [q] at ho; cases ho
  | some x =>
    cases x with
    | list xs0 =>
      refine ⟨tyV_list R1.ext (V1.get R1 q), ?_⟩
      have h1' : tX C W (RVl C) (bindE fa (fun rs => fun δ => match r1.get δ, datas rs with
        | some (.list xs), some args => (g xs args).map fun q => .ok (.d q) δ
        | _, _ => none)) F1 H1 σ δ1 Q := by
        obtain ⟨a, b⟩ := h1
        refine ⟨a, ?_⟩
        simp only [q] at b
        exact b
      refine bindA (RVb := RVl C) (mbV) h1' fun ws F2 H2 δ2 rs e2 S2 R2 V2 h2 => ?_
      obtain ⟨o2, ho2⟩ := h2.some
      have ho2' := ho2
      cases q2 : r1.get δ2 with
      | none => simp only [q2] at ho2; cases ho2
      | some y =>
        cases y with
        | list xs =>
          cases q3 : datas rs with
          | none => simp only [q2, q3] at ho2; cases ho2
          | some args =>
            simp only [q2, q3] at ho2
            cases q4 : g xs args with
            | none => rw [q4] at ho2; cases ho2
            | some z =>
              rw [q4] at ho2
              have ho2 : some (ER.ok (.d z) δ2) = some o2 := ho2
              cases ho2
              exact hm F2 H2 v ws xs args z Q R2.ext ((V1.after (Hs' := H) (pk_isPk e1) S2).get R2 q2) (V2.datas q3) q4 fun u du => h2.use ho2' Stp.refl R2 du
        | _ => simp only [q2] at ho2; cases ho2
    | _ => simp only [q] at ho; cases ho
theorem de_look {r : V → List V → Hp → VK → Prop} {g : List D → List D → Option D} {fa : SA} {name : Str} {id : String} (hK : C.K = X.K) (slot : Slot "list" name id) (hty : typeOf (.builtin id) = pure (.type "method_descriptor")) (hm : MtR X id r) (hd : LookD C r g) (ho : DE X C W o fo) (ha : DA X C W (e :: es) fa)
    (hbase : attributeBase o name X.env (eval o X.env) = eval o X.env := by rfl)
    (hfew : ((backTo cpos (starEach (e :: es) X.env)).all (fun x => !x.1) && (backToKw cpos (keywordEach [] X.env)).all (fun x => x.1.isSome)
      && decide ((e :: es).length + ([] : List Keyword).length + (if ([] : List Keyword).isEmpty then 0 else 1) < 30)) = true := by rfl)
    (hline : (apos.endLine == cpos.line) = true := by rfl) (hs : starEach (e :: es) X.env = (false, eval e X.env) :: starEach es X.env := by rfl) (hplain : (backTo cpos (starEach es X.env)).any (·.1) = false := by rfl) :
    DE X C W (.Call (.Attribute o name apos) (e :: es) [] cpos) (lookE g fo fa) :=
  pe_mono (pe_bm PySem.F.plainAttrs_list slot hty hm (de_pk ho) ha hbase hfew hline hs hplain) fun σ H Q h => by rw [← hK]; exact look_core hd h
def countG : List D → List D → Option D
  | xs, [.int i] => (toInts xs).map fun ns => .int (ns.count i : Nat)
  | _, _ => none
theorem ld_count : LookD C (rCntI C.K) countG := by
  intro F H v ws xs args x Q l h ta e k
  match args, ta, e with
  | [y], .cons hy .nil, e =>
    cases y with
    | int i =>
      cases hy
      simp only [countG] at e
      cases q : toInts xs with
      | none => rw [q] at e; cases e
      | some ns =>
        rw [q] at e
        cases e
        obtain ⟨p, vs, rfl, h1, t1⟩ := h.lst l
        have := ints_of t1 q
        subst this
        exact ⟨p, ns, i, rfl, rfl, h1, k _ (.int _)⟩
    | _ => cases e
  | [], _, e => cases e
  | y :: _ :: _, _, e => (cases y <;> cases e)
end
end DL

namespace DL
open PySem PySem.Spec PyProof.Rows L2
section
variable {X : Cx} {C : DC} {W : XW} {F F' F1 Fs H H' H1 Hs : Hp} {σ : Sg} {δ δ' δ1 δs : List SV} {e a b c o tg : Expr} {es : List Expr} {f fa fb fo : SE} {pos apos cpos p : Pos} {k : Nat}
/-! ### sources -/
def datS (f : SE) : SI := bindE (escE f) fun r => match r with
  | .d (.list xs) => pureE xs
  | .d (.tuple xs) => pureE xs
  | _ => fun _ => none
theorem itok_list {K : PySem.W.Frag} {a : Addr} {vs : List V} {xs : List D} (hK : K = C.K) (h : SqL K F a vs) (t : Dats C.K F vs xs) : ItOk C F (Itl K a) xs := by
  subst hK
  refine ⟨fun i F1 H σ δ l R hi => ?_, fun i F1 H σ δ x H' z l R y hz => ?_, fun F1 H σ δ l R => ?_⟩
  · obtain ⟨v, h1, _⟩ := t.get (List.getElem?_eq_getElem hi)
    exact ⟨vs, v, (l.trans R.ext).seq h, h1⟩
  · obtain ⟨rfl, y⟩ := y
    obtain ⟨v, h1, h2⟩ := t.get hz
    have := y vs ((l.trans R.ext).seq h)
    rw [h1] at this; cases this
    exact ⟨F1, Stp.refl, R, h2.mono l⟩
  · exact ⟨vs, (l.trans R.ext).seq h, by rw [t.length]; exact Nat.le_refl _⟩
theorem itok_tup {K : PySem.W.Frag} {a : Addr} {vs : List V} {xs : List D} (hK : K = C.K) (h : SqT K F a vs) (t : Dats C.K F vs xs) : ItOk C F (Itt K a) xs := by
  subst hK
  refine ⟨fun i F1 H σ δ l R hi => ?_, fun i F1 H σ δ x H' z l R y hz => ?_, fun F1 H σ δ l R => ?_⟩
  · obtain ⟨v, h1, _⟩ := t.get (List.getElem?_eq_getElem hi)
    exact ⟨vs, v, sqt_mono (l.trans R.ext) h, h1⟩
  · obtain ⟨rfl, y⟩ := y
    obtain ⟨v, h1, h2⟩ := t.get hz
    have := y vs (sqt_mono (l.trans R.ext) h)
    rw [h1] at this; cases this
    exact ⟨F1, Stp.refl, R, h2.mono l⟩
  · exact ⟨vs, sqt_mono (l.trans R.ext) h, by rw [t.length]; exact Nat.le_refl _⟩
theorem di_dat (hK : C.K = X.K) (h : DE X C W e f) : DI X C W tg e (datS f) := by
  refine ⟨fun pins s σ H R I ⟨F, δ, hh⟩ => ?_⟩
  have hl := pi_list (tg := tg) (de_esc h)
  have ht := pi_tup (tg := tg) (de_esc h)
  have key : ∀ (T : Bool), (∀ δ1 x, escE f δ = some (.ok (.d x) δ1) → ∃ xs, x = (if T then .tuple xs else .list xs)) →
      (if T then iTup X.K (tD C W (escE f)) else iList X.K (tD C W (escE f))) σ H R := by
    intro T hT
    have main : tD C W (escE f) σ H (fun v H1 => if T then (∃ a, v = V.ref a ∧ (∃ xs, SqT X.K H1 a xs) ∧ R (Itt X.K a) H1) else (∃ a, v = V.ref a ∧ (∃ xs, SqL X.K H1 a xs) ∧ R (Itl X.K a) H1)) := by
      refine bindV (RVb := RIt C) (fun _ _ _ _ _ _ _ _ z => z) hh fun v F1 H1 δ1 r1 e1 S1 R1 V1 h1 => ?_
      obtain ⟨x, rfl⟩ := esc_isD e1
      obtain ⟨xs, hx⟩ := hT δ1 x e1
      cases T with
      | true =>
        simp only [if_true] at hx ⊢
        subst hx
        have V1 : Dat C.K F1 v (.tuple xs) := V1
        cases V1 with
        | @tup a vs _ hs hd => exact ⟨a, rfl, ⟨vs, by rw [← hK]; exact sqt_mono R1.ext hs⟩, h1.use (δ' := δ1) (r := xs) rfl Stp.refl R1 (itok_tup hK.symm (by rw [← hK]; exact hs) hd)⟩
      | false =>
        simp only [Bool.false_eq_true, if_false] at hx ⊢
        subst hx
        have V1 : Dat C.K F1 v (.list xs) := V1
        cases V1 with
        | @lst a vs _ hs hd => exact ⟨a, rfl, ⟨vs, by rw [← hK]; exact R1.ext.seq hs⟩, h1.use (δ' := δ1) (r := xs) rfl Stp.refl R1 (itok_list hK.symm (by rw [← hK]; exact hs) hd)⟩
    cases T with
    | true => exact main
    | false => exact main
  obtain ⟨oo, ho⟩ := hh.some
  unfold datS bindE at ho
  cases q : escE f δ with
  | none => rw [q] at ho; cases ho
  | some o2 =>
    cases o2 with
    | ex x δ1 =>
      have := key false (fun δ1 x e1 => by rw [q] at e1; cases e1)
      exact hl.run pins s σ H R I this
    | ok r δ1 =>
      rw [q] at ho
      obtain ⟨x, rfl⟩ := esc_isD q
      cases x with
      | list xs =>
        have := key false (fun δ2 x e1 => by rw [q] at e1; cases e1; exact ⟨xs, rfl⟩)
        exact hl.run pins s σ H R I this
      | tuple xs =>
        have := key true (fun δ2 x e1 => by rw [q] at e1; cases e1; exact ⟨xs, rfl⟩)
        exact ht.run pins s σ H R I this
      | _ => cases ho
/-! ranges -/
def rngD (lo : Int) (n : Nat) : List D := (List.range n).map fun (i : Nat) => PyData.int (lo + (i : Int))
theorem rngD_len (lo : Int) (n : Nat) : (rngD lo n).length = n := by simp [rngD]
theorem rngD_get {lo : Int} {n i : Nat} {z : D} (h : (rngD lo n)[i]? = some z) : z = .int (lo + i) ∧ i < n := by
  unfold rngD at h
  rw [List.getElem?_map] at h
  cases q : (List.range n)[i]? with
  | none => rw [q] at h; cases h
  | some j =>
    rw [q] at h
    have hi : i < n := by
      have := (List.getElem?_eq_some_iff.mp q).1
      simpa using this
    rw [List.getElem?_range hi] at q
    cases q; cases h
    exact ⟨rfl, hi⟩
theorem itok_rng {lo : Int} {n : Nat} : ItOk C F (Itr lo n) (rngD lo n) :=
  ⟨fun i F1 H σ δ l R hi => by rw [rngD_len] at hi; exact hi, fun i F1 H σ δ x H' z l R y hz => by
    obtain ⟨rfl, rfl⟩ := y
    obtain ⟨rfl, _⟩ := rngD_get hz
    exact ⟨F1, Stp.refl, R, .int _⟩, fun F1 H σ δ l R => by rw [rngD_len]; exact Nat.le_refl _⟩
def rng1S (fa : SA) : SI := bindE fa fun rs => match datas rs with
  | some [.int j] => if -(2 ^ 62) ≤ j ∧ j < 2 ^ 62 then pureE (rngD 0 j.toNat) else fun _ => none
  | _ => fun _ => none
def rng2S (fa : SA) : SI := bindE fa fun rs => match datas rs with
  | some [.int i, .int j] => if -(2 ^ 62) ≤ i ∧ i < 2 ^ 62 ∧ -(2 ^ 62) ≤ j ∧ j < 2 ^ 62 then pureE (rngD i (j - i).toNat) else fun _ => none
  | _ => fun _ => none
theorem di_range1 {fa : SA} (hg : Gl X "range") (hm : X.mg "range" = none) (ha : DA X C W [a] fa) (hs : starEach [a] X.env = [(false, eval a X.env)] := by rfl) : DI X C W tg (.Call (.Name "range" p) [a] [] pos) (rng1S fa) := by
  refine pi_mono (pi_range1 hg hm ha hs) fun σ H R ⟨F, δ, h⟩ => ?_
  refine bindA (RVb := RIt C) (fun _ _ _ _ _ _ _ _ z => z) h fun vs F1 H1 δ1 rs e1 S1 R1 V1 h1 => ?_
  obtain ⟨o, ho⟩ := h1.some
  cases q : datas rs with
  | none => simp only [q] at ho; cases ho
  | some xs =>
    have d := V1.datas q
    simp only [q] at ho h1
    match xs, d, ho, h1 with
    | [.int j], .cons (.int _) .nil, ho, h1 =>
      simp only at ho h1
      by_cases hb : -(2 ^ 62) ≤ j ∧ j < 2 ^ 62
      · rw [if_pos hb] at h1
        exact ⟨j, rfl, hb.1, hb.2, h1.use (δ' := δ1) rfl Stp.refl R1 itok_rng⟩
      · rw [if_neg hb] at ho; cases ho
    | [], _, ho, _ => cases ho
    | x :: y :: r, _, ho, _ => cases x <;> cases ho
    | [.none], _, ho, _ => cases ho
    | [.bool _], _, ho, _ => cases ho
    | [.str _], _, ho, _ => cases ho
    | [.list _], _, ho, _ => cases ho
    | [.tuple _], _, ho, _ => cases ho
    | [.dict _], _, ho, _ => cases ho
theorem dats2 {vs : List V} {x y : D} (h : Dats C.K F vs [x, y]) : ∃ v w, vs = [v, w] ∧ Dat C.K F v x ∧ Dat C.K F w y := by
  cases h with
  | cons h1 t => cases t with
    | cons h2 t => cases t; exact ⟨_, _, rfl, h1, h2⟩
theorem di_range2 {fa : SA} (hg : Gl X "range") (hm : X.mg "range" = none) (ha : DA X C W [a, b] fa) (hs : starEach [a, b] X.env = [(false, eval a X.env), (false, eval b X.env)] := by rfl) (hs2 : starEach [b] X.env = [(false, eval b X.env)] := by rfl) : DI X C W tg (.Call (.Name "range" p) [a, b] [] pos) (rng2S fa) := by
  refine pi_mono (pi_range2 hg hm ha hs hs2) fun σ H R ⟨F, δ, h⟩ => ?_
  refine bindA (RVb := RIt C) (fun _ _ _ _ _ _ _ _ z => z) h fun vs F1 H1 δ1 rs e1 S1 R1 V1 h1 => ?_
  obtain ⟨o, ho⟩ := h1.some
  have key : ∃ i j : Int, datas rs = some [.int i, .int j] ∧ -(2 ^ 62) ≤ i ∧ i < 2 ^ 62 ∧ -(2 ^ 62) ≤ j ∧ j < 2 ^ 62 := by
    clear h1
    generalize datas rs = dr at ho
    revert ho
    split
    all_goals intro ho
    next i j =>
      by_cases hb : -(2 ^ 62) ≤ i ∧ i < 2 ^ 62 ∧ -(2 ^ 62) ≤ j ∧ j < 2 ^ 62
      · exact ⟨i, j, rfl, hb⟩
      · rw [if_neg hb] at ho; cases ho
    next => cases ho
  obtain ⟨i, j, q, hb⟩ := key
  obtain ⟨v, w, rfl, h1', h2'⟩ := dats2 (V1.datas q)
  cases h1'; cases h2'
  simp only [q] at h1
  rw [if_pos hb] at h1
  exact ⟨i, j, rfl, hb, h1.use (δ' := δ1) rfl Stp.refl R1 itok_rng⟩
/-! ### targets of a block of its own -/
def tGw (C : DC) (vs : List Nat) (t : STg) : TG := fun v σ H Q => ∃ F δ x δ', Rp C F H σ δ ∧ Dat C.K F v x ∧ t x δ = some δ' ∧ ∀ σ', Rp C F H σ' δ' → wipe σ' vs = wipe σ vs → Q σ' H
structure DGw (vs : List Nat) (X : Cx) (C : DC) (tg : Expr) (t : STg) : Prop where
  pg : PG X tg (tGw C vs t)
  ok : ∀ x δ δ', t x δ = some δ' → δ'.length = δ.length ∧ (∀ i, i ∉ vs → δ'[i]? = δ[i]?) ∧ ∀ i s, i ∈ vs → δ'[i]? = some s → s.own = false ∨ δ[i]? = some s
def tGsw (C : DC) (vs : List Nat) (t : STs) : TGs := fun vv σ H Q => ∃ F δ xs δ', Rp C F H σ δ ∧ Dats C.K F vv xs ∧ t xs δ = some δ' ∧ ∀ σ', Rp C F H σ' δ' → wipe σ' vs = wipe σ vs → Q σ' H
structure DGsw (vs : List Nat) (X : Cx) (C : DC) (ts : List Expr) (t : STs) : Prop where
  pg : PGs X ts (tGsw C vs t)
  ok : ∀ x δ δ', t x δ = some δ' → δ'.length = δ.length ∧ (∀ i, i ∉ vs → δ'[i]? = δ[i]?) ∧ ∀ i s, i ∈ vs → δ'[i]? = some s → s.own = false ∨ δ[i]? = some s
theorem wipe_get {σ : Sg} {i : Nat} : ∀ {vs : List Nat}, (wipe σ vs)[i]? = if i ∈ vs ∧ i < σ.length then some none else σ[i]?
  | [] => by simp [wipe]
  | v :: vs => by
    unfold wipe
    by_cases e : v = i
    · subst e
      by_cases hl : v < σ.length
      · rw [List.getElem?_set_self (by rw [wipe_length]; exact hl), if_pos ⟨by simp, hl⟩]
      · rw [if_neg (fun z => hl z.2), List.getElem?_eq_none (by simp [wipe_length]; omega), List.getElem?_eq_none (by omega)]
    · rw [List.getElem?_set_ne e, wipe_get (vs := vs)]
      by_cases h2 : i ∈ vs ∧ i < σ.length
      · rw [if_pos h2, if_pos ⟨List.mem_cons_of_mem _ h2.1, h2.2⟩]
      · rw [if_neg h2, if_neg]
        rintro ⟨z, l⟩
        rcases List.mem_cons.mp z with q | q
        · exact e q.symm
        · exact h2 ⟨q, l⟩
theorem wipe_ext {σ σ' : Sg} {vs : List Nat} (l : σ'.length = σ.length) (h : ∀ i, i ∉ vs → σ'[i]? = σ[i]?) : wipe σ' vs = wipe σ vs := by
  apply List.ext_getElem?
  intro i
  rw [wipe_get, wipe_get, l]
  by_cases e : i ∈ vs
  · by_cases hl : i < σ.length
    · rw [if_pos ⟨e, hl⟩, if_pos ⟨e, hl⟩]
    · rw [if_neg (fun z => hl z.2), if_neg (fun z => hl z.2), List.getElem?_eq_none (by omega), List.getElem?_eq_none (by omega)]
  · rw [if_neg (fun z => e z.1), if_neg (fun z => e z.1)]
    exact h i e
theorem wipe_get_eq {σ σ' : Sg} {vs : List Nat} (h : wipe σ' vs = wipe σ vs) {i : Nat} (hi : i ∉ vs) : σ'[i]? = σ[i]? := by
  have := congrArg (·[i]?) h
  simp only [wipe_get] at this
  rw [if_neg (fun z => hi z.1), if_neg (fun z => hi z.1)] at this
  exact this
theorem dgw_name {vs : List Nat} {i : Nat} {x : Str} (hv : i ∈ vs) (hN : X.N.Nodup) (hi : X.N[i]? = some x) (hx : Loc X.env.scope x) (hf : X.fn x = true ∨ X.env.scope.names.lookup x = some .local := by first | exact .inl rfl | exact .inr rfl | assumption) : DGw vs X C (.Name x pos) (nameT i) where
  pg := pg_mono (pg_name hN hi hx hf) fun v σ H Q ⟨F, δ, x, δ', R, d, e, k⟩ => by
    cases e
    exact k _ (R.setD d) (wipe_ext (by simp) fun j hj => List.getElem?_set_ne (fun z => hj (by rw [← z]; exact hv)))
  ok := fun x δ δ' e => by
    cases e
    exact ⟨by simp, fun j hj => List.getElem?_set_ne (fun z => hj (by rw [← z]; exact hv)), fun j s hj h => by
      rcases get_set h with ⟨_, rfl, _⟩ | ⟨_, h⟩
      · exact .inl rfl
      · exact .inr h⟩
theorem dgsw_nil {vs : List Nat} : DGsw vs X C [] nilT where
  pg := pgs_mono pgs_nil fun v σ H Q ⟨F, δ, xs, δ', R, d, e, k⟩ => by
    cases d with
    | nil => cases e; exact ⟨rfl, k _ R rfl⟩
    | cons h t => cases e
  ok := fun x δ δ' e => by
    cases x with
    | nil => cases e; exact ⟨rfl, fun _ _ => rfl, fun i s _ h => .inr h⟩
    | cons _ _ => cases e
theorem dgsw_cons {vs : List Nat} {a : Expr} {es : List Expr} {t : STg} {u : STs} (h1 : DGw vs X C a t) (h2 : DGsw vs X C es u) (hs : (assignEach (a :: es) X.env).map (·.2) = assign a X.env :: (assignEach es X.env).map (·.2) := by rfl) : DGsw vs X C (a :: es) (consT t u) where
  pg := by
    refine pgs_mono (pgs_cons h1.pg h2.pg hs) fun v σ H Q ⟨F, δ, xs, δ', R, d, e, k⟩ => ?_
    cases d with
    | nil => cases e
    | @cons v vs' x xs h r =>
      simp only [consT] at e
      cases q : t x δ with
      | none => rw [q] at e; cases e
      | some δ1 =>
        rw [q] at e
        exact ⟨v, vs', rfl, F, δ, x, δ1, R, h, q, fun σ1 R1 w1 => ⟨F, δ1, xs, δ', R1, r, e, fun σ2 R2 w2 => k σ2 R2 (w2.trans w1)⟩⟩
  ok := fun x δ δ' e => by
    cases x with
    | nil => cases e
    | cons x xs =>
      simp only [consT] at e
      cases q : t x δ with
      | none => rw [q] at e; cases e
      | some δ1 =>
        rw [q] at e
        obtain ⟨a1, a2, a3⟩ := h1.ok x δ δ1 q
        obtain ⟨b1, b2, b3⟩ := h2.ok xs δ1 δ' e
        refine ⟨b1.trans a1, fun i hi => (b2 i hi).trans (a2 i hi), fun i s hi h => ?_⟩
        rcases b3 i s hi h with z | z
        · exact .inl z
        · exact a3 i s hi z
theorem dgw_tup {vs : List Nat} {es : List Expr} {k n : Nat} {u : STs} (hc : X.calm = true) (hK : X.K = C.K) (h : DGsw vs X C es u) (hn : (assignEach es X.env).length = n := by rfl) (hst : (assignEach es X.env).findIdx? (·.1) = none := by rfl) : DGw vs X C (.Tuple es k pos) (tupT n u) where
  pg := by
    refine pg_mono (pg_tup hc h.pg hn hst) fun v σ H Q ⟨F, δ, x, δ', R, d, e, kk⟩ => ?_
    cases x with
    | tuple xs =>
      simp only [tupT] at e
      split at e
      · rename_i hl
        obtain ⟨a, vs, rfl, h1, t1⟩ := DatP.tup R.ext (.inl d)
        exact ⟨a, vs, rfl, by rw [hK]; exact h1, by rw [t1.length]; exact hl, F, δ, xs, δ', R, t1, e, kk⟩
      · cases e
    | _ => cases e
  ok := fun x δ δ' e => by
    cases x with
    | tuple xs =>
      simp only [tupT] at e
      split at e
      · exact h.ok xs δ δ' e
      · cases e
    | _ => cases e
end
end DL

namespace DL
open PySem PySem.Spec PyProof.Rows L2
/-! ### list comprehensions -/
def wipeD : List Nat → List SV → List SV
  | [], δ => δ
  | v :: vs, δ => (wipeD vs δ).set v .u
def backD : List Nat → List SV → List SV → List SV
  | [], _, δ => δ
  | v :: vs, δ0, δ => match δ0[v]? with
    | some s => (backD vs δ0 δ).set v s
    | none => backD vs δ0 δ
theorem wipeD_len (δ : List SV) : ∀ vs : List Nat, (wipeD vs δ).length = δ.length
  | [] => rfl
  | v :: vs => by unfold wipeD; rw [List.length_set, wipeD_len δ vs]
theorem backD_len (δ0 δ : List SV) : ∀ vs : List Nat, (backD vs δ0 δ).length = δ.length
  | [] => rfl
  | v :: vs => by
    unfold backD
    split
    · rw [List.length_set, backD_len δ0 δ vs]
    · exact backD_len δ0 δ vs
theorem wipeD_get {δ : List SV} {i : Nat} : ∀ {vs : List Nat}, (wipeD vs δ)[i]? = if i ∈ vs ∧ i < δ.length then some .u else δ[i]?
  | [] => by simp [wipeD]
  | v :: vs => by
    unfold wipeD
    by_cases e : v = i
    · subst e
      by_cases hl : v < δ.length
      · rw [List.getElem?_set_self (by rw [wipeD_len]; exact hl), if_pos ⟨by simp, hl⟩]
      · rw [if_neg (fun z => hl z.2), List.getElem?_eq_none (by simp [wipeD_len]; omega), List.getElem?_eq_none (by omega)]
    · rw [List.getElem?_set_ne e, wipeD_get (vs := vs)]
      by_cases h2 : i ∈ vs ∧ i < δ.length
      · rw [if_pos h2, if_pos ⟨List.mem_cons_of_mem _ h2.1, h2.2⟩]
      · rw [if_neg h2, if_neg]
        rintro ⟨z, l⟩
        rcases List.mem_cons.mp z with q | q
        · exact e q.symm
        · exact h2 ⟨q, l⟩
theorem backD_get {δ0 δ : List SV} (l : δ.length = δ0.length) {i : Nat} : ∀ {vs : List Nat}, (backD vs δ0 δ)[i]? = if i ∈ vs then δ0[i]? else δ[i]?
  | [] => by simp [backD]
  | v :: vs => by
    unfold backD
    by_cases e : v = i
    · subst e
      rw [if_pos (List.mem_cons_self ..)]
      cases q : δ0[v]? with
      | none =>
        have h0 : δ0.length ≤ v := by simpa using q
        exact List.getElem?_eq_none (by rw [backD_len, l]; exact h0)
      | some s =>
        have h0 : v < δ0.length := (List.getElem?_eq_some_iff.mp q).1
        exact List.getElem?_set_self (by rw [backD_len, l]; exact h0)
    · have : (match δ0[v]? with | some s => (backD vs δ0 δ).set v s | none => backD vs δ0 δ)[i]? = (backD vs δ0 δ)[i]? := by
        split
        · exact List.getElem?_set_ne e
        · rfl
      rw [this, backD_get l (vs := vs)]
      by_cases h2 : i ∈ vs
      · rw [if_pos h2, if_pos (List.mem_cons_of_mem _ h2)]
      · rw [if_neg h2, if_neg fun z => by
          rcases List.mem_cons.mp z with q | q
          · exact e q.symm
          · exact h2 q]
def noOwn (vs : List Nat) (δ : List SV) : Bool := vs.all fun v => match δ[v]? with
  | some s => !s.own
  | none => true
theorem noOwn_at {vs : List Nat} {δ : List SV} (h : noOwn vs δ = true) {i : Nat} {s : SV} (hi : i ∈ vs) (hs : δ[i]? = some s) : s.own = false := by
  have := List.all_eq_true.mp h i hi
  rw [hs] at this
  simpa using this
theorem noOwn_of {vs : List Nat} {δ : List SV} (h : ∀ i s, i ∈ vs → δ[i]? = some s → s.own = false) : noOwn vs δ = true := List.all_eq_true.mpr fun i hi => by
  cases q : δ[i]? with
  | none => rfl
  | some s => simp [h i s hi q]
section
variable {X : Cx} {C : DC} {W : XW} {F F' F1 Fs H H' H1 Hs : Hp} {σ σ2 : Sg} {δ δ' δ1 δ2 δs : List SV} {vs : List Nat}
theorem Rp.enter (R : Rp C F H σ δ) (n : noOwn vs δ = true) : Rp C F H (wipe σ vs) (wipeD vs δ) := by
  have hown : ∀ (i : Nat) s, (wipeD vs δ)[i]? = some s → s.own = true → i ∉ vs ∧ δ[i]? = some s := fun i s h e => by
    rw [wipeD_get] at h
    split at h
    · cases h; cases e
    · rename_i z
      by_cases hv : i ∈ vs
      · have := noOwn_at n hv h
        rw [this] at e; cases e
      · exact ⟨hv, h⟩
  have hσ : ∀ (i : Nat), i ∉ vs → (wipe σ vs)[i]? = σ[i]? := fun i hv => by rw [wipe_get, if_neg fun z => hv z.1]
  refine ⟨R.ext, by rw [wipeD_len, wipe_length]; exact R.len, fun i x s hx hs => ?_, fun i j s t a h1 h2 h3 h4 h5 h6 => ?_, fun i s a h1 h2 h3 => ?_, R.old, R.ext0, R.pers⟩
  · rw [wipe_get] at hx
    rw [wipeD_get] at hs
    have := R.len
    by_cases hv : i ∈ vs
    · by_cases hl : i < δ.length
      · rw [if_pos ⟨hv, hl⟩] at hs
        cases hs; trivial
      · rw [if_neg fun z => hl z.2, List.getElem?_eq_none (by omega)] at hs
        cases hs
    · rw [if_neg fun z => hv z.1] at hx hs
      exact R.slot i x s hx hs
  · obtain ⟨n1, g1⟩ := hown i s h1 h2
    obtain ⟨n2, g2⟩ := hown j t h3 h4
    rw [hσ i n1] at h5
    rw [hσ j n2] at h6
    exact R.apart i j s t a g1 h2 g2 h4 h5 h6
  · obtain ⟨n1, g1⟩ := hown i s h1 h2
    rw [hσ i n1] at h3
    exact R.own0 i s a g1 h2 h3
theorem Rp.leave (R : Rp C F H σ δ) (n : noOwn vs δ = true) (l1 : δ1.length = δ.length) (o1 : ∀ i, i ∉ vs → δ1[i]? = δ[i]?) (o2 : ∀ i s, i ∈ vs → δ1[i]? = some s → s.own = false) (w : wipe σ2 vs = wipe σ vs)
    (S : Stp F H σ2 δ1 F' H' δ2) (R2 : Rp C F' H' σ2 δ2) : Stp F H σ δ F' H' (backD vs δ δ2) ∧ Rp C F' H' σ (backD vs δ δ2) ∧ noOwn vs (backD vs δ δ2) = true := by
  have lσ : σ2.length = σ.length := by
    have := congrArg List.length w
    rwa [wipe_length, wipe_length] at this
  have l2 : δ2.length = δ.length := by
    have h1 := R.len
    have h2 := R2.len
    omega
  have hown : ∀ (i : Nat) s, (backD vs δ δ2)[i]? = some s → s.own = true → i ∉ vs ∧ δ2[i]? = some s := fun i s h e => by
    rw [backD_get l2] at h
    by_cases hv : i ∈ vs
    · rw [if_pos hv] at h
      have := noOwn_at n hv h
      rw [this] at e; cases e
    · rw [if_neg hv] at h
      exact ⟨hv, h⟩
  have back1 : ∀ (i : Nat) s, δ1[i]? = some s → s.own = true → i ∉ vs ∧ δ[i]? = some s := fun i s h e => by
    by_cases hv : i ∈ vs
    · have := o2 i s hv h
      rw [this] at e; cases e
    · exact ⟨hv, by rw [← o1 i hv]; exact h⟩
  have SS : Stp F H σ δ F' H' (backD vs δ δ2) := by
    refine ⟨S.ext, fun a o h nn => S.frm a o h fun ⟨i, s, h1, h2, h3⟩ => ?_, S.pers, fun i s h e => ?_⟩
    · obtain ⟨hv, g⟩ := back1 i s h1 h2
      rw [wipe_get_eq w hv] at h3
      exact nn ⟨i, s, g, h2, h3⟩
    · obtain ⟨hv, g⟩ := hown i s h e
      obtain ⟨s0, k1, k2, k3⟩ := S.own i s g e
      obtain ⟨_, g1⟩ := back1 i s0 k1 k2
      exact ⟨s0, g1, k2, k3⟩
  refine ⟨SS, R.step SS R2.ext (by rw [backD_len]; exact l2) fun i x s hx hs => ?_, noOwn_of fun i s hi hs => ?_⟩
  · rw [backD_get l2] at hs
    by_cases hv : i ∈ vs
    · rw [if_pos hv] at hs
      refine (R.slot i x s hx hs).mono S.ext fun a _ e => ?_
      rw [noOwn_at n hv hs] at e; cases e
    · rw [if_neg hv] at hs
      rw [← wipe_get_eq w hv] at hx
      exact R2.slot i x s hx hs
  · rw [backD_get l2, if_pos hi] at hs
    exact noOwn_at n hi hs
def lcGo (vs : List Nat) (t : STg) (tt : SB) (te : SE) : List D → List D → SEa (List D)
  | [], acc => pureE acc
  | x :: r, acc => fun δ => match t x (wipeD vs δ) with
    | none => none
    | some δ1 => match tt δ1 with
      | none => none
      | some (.ex e δ2) => none
      | some (.ok false δ2) => lcGo vs t tt te r acc (backD vs δ δ2)
      | some (.ok true δ2) => match escE te δ2 with
        | none => none
        | some (.ex e δ3) => none
        | some (.ok (.d y) δ3) => if acc.length < sizeLine then lcGo vs t tt te r (acc ++ [y]) (backD vs δ δ3) else none
        | some (.ok _ _) => none
def lcE (vs : List Nat) (src : SI) (t : STg) (tt : SB) (te : SE) : SE := bindE src fun items => fun δ => if noOwn vs δ = true then (bindE (lcGo vs t tt te items []) fun acc => pureE (.nL acc)) δ else none
theorem wipe_wipe (σ : Sg) (vs : List Nat) : wipe (wipe σ vs) vs = wipe σ vs := wipe_ext (by rw [wipe_length]) fun i hi => by rw [wipe_get, if_neg fun z => hi z.1]
theorem pts_monoT {ifs : List Expr} {t t' : TT} (h : PTs X ifs t) (k : ∀ σ H Q, t' σ H Q → t σ H Q) : PTs X ifs t' := ⟨fun pins s σ H Q I q => h.run pins s σ H Q I (k σ H Q q)⟩
def yesB : SB := pureE true
/-- no exception leaves a block of its own -/
def W0 : XW := fun _ _ _ _ => False
theorem dts_nil : PTs X [] (tT C W yesB) := pts_monoT pts_nil fun σ H Q ⟨F, δ, h⟩ => h.use (δ' := δ) rfl Stp.refl h.1 rfl
theorem dts_one {c : Expr} {g : SB} (h : DT X C W c g) : PTs X [c] (tT C W g) := pts_one h
theorem lc_read {src : SI} {t : STg} {tt : SB} {te : SE} {Q : VK} (hok : ∀ x δ δ', t x δ = some δ' → δ'.length = δ.length ∧ (∀ i, i ∉ vs → δ'[i]? = δ[i]?) ∧ ∀ i s, i ∈ vs → δ'[i]? = some s → s.own = false ∨ δ[i]? = some s)
    (h : tD C W (lcE vs src t tt te) σ H Q) : tLc (tI C W src) (tGw C vs t) (tT C W0 tt) (tD C W0 (escE te)) vs σ H Q := by
  obtain ⟨F, δ, h⟩ := h
  refine ⟨F, δ, (tX.bind (RVa := RIt C) (H1 := H) (RVb := RVl C) (fun _ _ _ _ _ z => z) (mbV) h).mono fun J H1 ⟨F1, δ1, items, e1, S1, IT, h1⟩ => ?_⟩
  have IT : ItOk C F1 J items := IT
  intro D hD
  have R1 := h1.1
  have n1 : noOwn vs δ1 = true := by
    obtain ⟨o, ho⟩ := h1.some
    by_cases z : noOwn vs δ1 = true
    · exact z
    · have ho : (if noOwn vs δ1 = true then (bindE (lcGo vs t tt te items []) fun acc => pureE (Res.nL acc)) δ1 else none) = some o := ho
      rw [if_neg z] at ho
      cases ho
  have z1 : tZ C W (RVl C) (bindE (lcGo vs t tt te items []) fun acc => pureE (.nL acc)) F1 H1 σ δ1 δ1 Q := by
    have := h1.z
    unfold tZ at this ⊢
    simp only [n1, if_true] at this
    exact this
  obtain ⟨SD, RD⟩ := R1.newG (.lst []) hD
  refine ⟨fun i m H => m = items.length - i ∧ i ≤ items.length ∧ ∃ F δ acc ws, Stp F1 H1 σ δ1 F H δ ∧ Rp C F H σ δ ∧ H D = some (.lst ws) ∧ F D = none ∧ Dats C.K F ws acc ∧ noOwn vs δ = true ∧ tZ C W (RVl C) (bindE (lcGo vs t tt te (items.drop i) acc) fun acc => pureE (.nL acc)) F1 H1 σ δ1 δ Q,
    ⟨_, rfl, Nat.zero_le _, F1, δ1, [], [], SD, RD, upd_same, R1.freshF hD, .nil, n1, by simpa using z1⟩, ?_⟩
  rintro i m H2 ⟨rfl, hi, F2, δ2, acc, ws, S2, R2, hp, fp, dd, n2, z2⟩
  by_cases hlt : i < items.length
  · refine .inr ⟨IT.go i F2 H2 σ δ2 S2.ext R2 hlt, fun H' => ∃ F δ acc ws, Stp F1 H1 σ δ1 F H' δ ∧ Rp C F H' σ δ ∧ H' D = some (.lst ws) ∧ F D = none ∧ Dats C.K F ws acc ∧ noOwn vs δ = true ∧ tZ C W (RVl C) (bindE (lcGo vs t tt te (items.drop (i + 1)) acc) fun acc => pureE (.nL acc)) F1 H1 σ δ1 δ Q,
      fun H' z => ⟨items.length - (i + 1), by omega, rfl, hlt, z⟩, fun x H' y => ?_⟩
    obtain ⟨F3, S3, R3, d3⟩ := IT.yld i F2 H2 σ δ2 x H' items[i] S2.ext R2 y (by simp [hlt])
    have no : ∀ {F H : Hp} {δ : List SV}, Stp F1 H1 σ δ1 F H δ → ¬ OwnedAt σ δ D := fun S z => R1.fresh_own hD (S.owned z)
    have S23 := S2.trans S3
    obtain ⟨hp3, f3⟩ := S3.frm D _ hp (no S2)
    have fp3 := f3 fp
    rw [List.drop_eq_getElem_cons hlt] at z2
    unfold tZ bindE at z2
    simp only [lcGo] at z2
    cases q1 : t items[i] (wipeD vs δ2) with
    | none => rw [q1] at z2; exact z2.elim
    | some δ3 =>
      rw [q1] at z2
      simp only at z2
      obtain ⟨l3, o1, o2⟩ := hok _ _ _ q1
      have l3' : δ3.length = δ2.length := by rw [l3, wipeD_len]
      have o1' : ∀ j, j ∉ vs → δ3[j]? = δ2[j]? := fun j hj => by rw [o1 j hj, wipeD_get, if_neg fun z => hj z.1]
      have o2' : ∀ j s, j ∈ vs → δ3[j]? = some s → s.own = false := fun j s hj hs => by
        rcases o2 j s hj hs with z | z
        · exact z
        · rw [wipeD_get] at z
          by_cases hl : j < δ2.length
          · rw [if_pos ⟨hj, hl⟩] at z; cases z; rfl
          · rw [if_neg fun q => hl q.2, List.getElem?_eq_none (by omega)] at z; cases z
      refine ⟨F3, wipeD vs δ2, items[i], δ3, R3.enter n2, d3, q1, fun σ2 R4 w2 => ?_⟩
      rw [wipe_wipe] at w2
      refine ⟨w2, F3, δ3, R4, ?_⟩
      cases q2 : tt δ3 with
      | none => rw [q2] at z2; exact z2.elim
      | some o =>
        rw [q2] at z2
        cases o with
        | ex e δ4 =>
          exact z2.elim
        | ok bb δ4 =>
          intro v F5 H5 S5 R5 V5
          have V5 : v = bb := V5
          subst V5
          obtain ⟨SS, RR, nn⟩ := R3.leave n2 l3' o1' o2' w2 S5 R5
          have SS' := S23.trans SS
          obtain ⟨hp5, f5⟩ := SS.frm D _ hp3 (no S23)
          cases v with
          | false =>
            simp only at z2
            rw [if_neg (by decide)]
            exact ⟨F5, backD vs δ2 δ4, acc, ws, SS', RR, hp5, f5 fp3, dd.mono (S3.ext.trans SS.ext), nn, z2⟩
          | true =>
            simp only at z2
            rw [if_pos rfl]
            refine ⟨F5, δ4, R5, ?_⟩
            cases q3 : escE te δ4 with
            | none => rw [q3] at z2; exact z2.elim
            | some o =>
              rw [q3] at z2
              cases o with
              | ex e δ5 =>
                exact z2.elim
              | ok r δ5 =>
                obtain ⟨yy, rfl⟩ := esc_isD q3
                simp only at z2
                intro v F6 H6 S6 R6 V6
                obtain ⟨SS6, RR6, nn6⟩ := R3.leave n2 l3' o1' o2' w2 (S5.trans S6) R6
                have SS6' := S23.trans SS6
                obtain ⟨hp6, f6⟩ := SS6.frm D _ hp3 (no S23)
                have dd6 := dd.mono (S3.ext.trans SS6.ext)
                by_cases hl : acc.length < sizeLine
                · rw [if_pos hl] at z2
                  refine ⟨ws, hp6, by rw [dd.length]; exact hl, F6, backD vs δ2 δ5, acc ++ [yy], ws ++ [v], SS6'.poke _ hD, RR6.poke _ (f6 fp3) (no SS6') (R1.fresh0 hD), upd_same, f6 fp3, dd6.append (.cons V6 .nil), nn6, z2⟩
                · rw [if_neg hl] at z2; exact z2.elim
  · have : i = items.length := by omega
    subst this
    refine .inl ⟨IT.stop F2 H2 σ δ2 S2.ext R2, ?_⟩
    rw [List.drop_length] at z2
    exact tZ.use (r := .nL acc) (δ' := δ2) z2 rfl S2 R2 ⟨D, ws, rfl, hp, fp, dd, hD⟩
theorem de_lc {elt tg iter : Expr} {ifs : List Expr} {scope : Scope} {own : List (Str × Nat)} {pos : Pos} {src : SI} {t : STg} {tt : SB} {te : SE} (hc : X.calm = true) (hN : X.N.Nodup) (hi : DI X C W tg iter src) (ok : BlkOk X.N X.env.scope scope own)
    (hg : ∀ (s : Shared) (H : Hp) (c : Addr) (cl : List (Str × Addr)) (fp : List Addr), DGw (own.map (·.2)) (X.blk s H scope (compEnvC scope cl c X.env) fp) C tg t) (ht : ∀ (s : Shared) (H : Hp) (c : Addr) (cl : List (Str × Addr)) (fp : List Addr), PTs (X.blk s H scope (compEnvC scope cl c X.env) fp) ifs (tT C W0 tt))
    (he : ∀ (s : Shared) (H : Hp) (c : Addr) (cl : List (Str × Addr)) (fp : List Addr), DE (X.blk s H scope (compEnvC scope cl c X.env) fp) C W0 elt te) (hs : ∀ x, foldedSetIterable iter X.env x = pure x := by intro _; rfl) :
    DE X C W (.ListComp elt [⟨tg, iter, ifs, 0⟩] scope pos) (lcE (own.map (·.2)) src t tt te) :=
  pe_mono (pe_lc hc hN hi ok (fun s H c cl fp => (hg s H c cl fp).pg) ht (fun s H c cl fp => de_esc (he s H c cl fp)) hs) fun σ H Q h => lc_read (hg X.s_0 X.H_0 0 [] []).ok h
end
end DL

namespace DL
open PySem PySem.Spec PyProof.Rows L2
section
variable {X : Cx} {C : DC} {W : XW} {F F' F1 Fs H H' H1 Hs : Hp} {σ : Sg} {δ δ' δ1 δs : List SV} {e a b c o : Expr} {f fa fb fc : SE} {pos p : Pos} {k i j l : Nat}
/-! ### a, b = x, y -/
def parS2 (i j : Nat) (fa fb : SE) : SS := bindS fa fun ra => bindS fb fun rb => fun δ => (putV i ra δ).bind fun δ1 => (putV j rb δ1).map .nx
theorem OwnedAt.put {i : Nat} {v : V} {r : Res} {q : Addr} (e : putV i r δ = some δ') (h : OwnedAt (σ.set i (some v)) δ' q) : (r.isPk = false ∧ v = .ref q) ∨ OwnedAt σ δ q := by
  obtain ⟨m, s, h1, h2, h3⟩ := h
  have key : ∀ s', δ' = δ.set i s' → (s'.own = true → r.isPk = false) → (r.isPk = false ∧ v = .ref q) ∨ OwnedAt σ δ q := fun s' es hs => by
    subst es
    rcases get_set h1 with ⟨rfl, rfl, _⟩ | ⟨n, h1⟩
    · rcases get_set h3 with ⟨_, e3, _⟩ | ⟨n, _⟩
      · cases e3; exact .inl ⟨hs h2, rfl⟩
      · exact absurd rfl n
    · rw [List.getElem?_set_ne (Ne.symm n)] at h3
      exact .inr ⟨m, s, h1, h2, h3⟩
  cases r with
  | d x => cases e; exact key _ rfl fun z => by cases z
  | b m => cases e
  | nL x => cases e; exact key _ rfl fun _ => rfl
  | nM x => cases e; exact key _ rfl fun _ => rfl
theorem RV.keep {F1 H1 F2 H2 : Hp} {δ1 δ2 : List SV} {v : V} {r : Res} (V1 : RV C F1 H1 σ Hs v r) (no : ∀ p, v = .ref p → r.isPk = false → ¬ OwnedAt σ δ1 p) (S : Stp F1 H1 σ δ1 F2 H2 δ2) : RV C F2 H2 σ Hs v r := by
  cases r with
  | d x => exact Dat.mono S.ext V1
  | b i => exact V1
  | nL xs =>
    obtain ⟨p, vs, rfl, hp, hf, hd, hs⟩ := V1
    obtain ⟨h1, f1⟩ := S.frm p _ hp (no p rfl rfl)
    exact ⟨p, vs, rfl, h1, f1 hf, hd.mono S.ext, hs⟩
  | nM xs =>
    obtain ⟨p, vs, rfl, hp, hf, hd, hs⟩ := V1
    obtain ⟨h1, f1⟩ := S.frm p _ hp (no p rfl rfl)
    exact ⟨p, vs, rfl, h1, f1 hf, hd.mono S.ext, hs⟩
theorem RV.setσ {F H : Hp} {i : Nat} {u v : V} {r : Res} (h : RV C F H σ Hs v r) (hb : ∀ j, r ≠ .b j) : RV C F H (σ.set i (some u)) Hs v r := by
  cases r with
  | d x => exact h
  | b j => exact absurd rfl (hb j)
  | nL x => exact h
  | nM x => exact h
theorem RV.there {F H : Hp} {v : V} {r : Res} (h : RV C F H σ Hs v r) (hp : r.isPk = false) : ∃ p, v = .ref p ∧ H p ≠ none ∧ Hs p = none := by
  cases r with
  | d x => cases hp
  | b i => cases hp
  | nL xs => obtain ⟨p, vs, rfl, h1, _, _, hs⟩ := h; exact ⟨p, rfl, by rw [h1]; simp, hs⟩
  | nM xs => obtain ⟨p, vs, rfl, h1, _, _, hs⟩ := h; exact ⟨p, rfl, by rw [h1]; simp, hs⟩
theorem ds_par2 {i j : Nat} {x y : Str} {px py pt : Pos} {kt k2 pt2} (hc : X.calm = true) (hN : X.N.Nodup) (hi : X.N[i]? = some x) (hj : X.N[j]? = some y) (hij : i ≠ j)
    (hx : X.env.scope.names.lookup x = some .local) (hy : X.env.scope.names.lookup y = some .local) (ha : DE X C W a fa) (hb : DE X C W b fb)
    (hw : swappedStores [.Tuple [.Name x px, .Name y py] kt pt] (.Tuple [a, b] k2 pt2) X.env = pure (some [x, y]) := by rfl)
    (hs : swapsWithSole [.Tuple [.Name x px, .Name y py] kt pt] (.Tuple [a, b] k2 pt2) pos.line X.env = pure false := by rfl)
    (hs1 : starEach [a, b] X.env = (false, eval a X.env) :: starEach [b] X.env := by rfl) (hs2 : starEach [b] X.env = (false, eval b X.env) :: starEach [] X.env := by rfl) :
    DS X C W (.Assign [.Tuple [.Name x px, .Name y py] kt pt] (.Tuple [a, b] k2 pt2) pos) (parS2 i j fa fb) := by
  refine ps_mono (ps_par hc hN hi hj hij hx hy (pa_cons ha (pa_cons hb pa_nil hs2) hs1) hw hs) fun D σ H ⟨F, δ, R, h⟩ => ?_
  refine ⟨F, δ, (bindS_read (RVa := RVl C) R h).mono fun v H1 ⟨F1, δ1, r1, e1, S1, R1, V1, q1⟩ => ?_⟩
  refine ⟨F1, δ1, (bindS_read (RVa := RVl C) R1 q1).mono fun w H2 ⟨F2, δ2, r2, e2, S2, R2, V2, q2⟩ => ?_⟩
  refine ⟨v, w, rfl, ?_⟩
  have no1 := RV.fresh_no R S1 V1
  have no2 := RV.fresh_no R1 S2 V2
  have V1k := RV.keep V1 no1 S2
  have no1' : ∀ p, v = .ref p → r1.isPk = false → ¬ OwnedAt σ δ2 p := fun p e h z => no1 p e h (S2.owned z)
  cases z1 : putV i r1 δ2 with
  | none => rw [z1] at q2; exact q2.elim
  | some δ3 =>
    rw [z1] at q2
    simp only [Option.bind_some] at q2
    have R3 := put_read R2 (V1k.hs fun p np => R.fresh0 np) no1' z1
    cases z2 : putV j r2 δ3 with
    | none => rw [z2] at q2; exact q2.elim
    | some δ4 =>
      rw [z2] at q2
      have nb : ∀ m, r2 ≠ .b m := fun m e => by subst e; cases z2
      refine q2 _ F2 H2 (Le.refl _) (put_read R3 ((RV.hs V2 fun p np => R1.fresh0 np).setσ nb) (fun q e h z => ?_) z2)
      rcases OwnedAt.put z1 z with ⟨g1, g2⟩ | z
      · obtain ⟨p1, f1, f2, f3⟩ := RV.there V1 g1
        obtain ⟨p2, k1, k2, k3⟩ := RV.there V2 h
        rw [f1] at g2
        rw [k1] at e
        cases g2; cases e
        exact f2 k3
      · exact no2 q e h z
/-! ### repr -/
theorem call_reprD (hg : X.A.guards = some []) (hr : Room k X.A) : CallR X (.builtin "repr") (fun xs H Q => ∃ v d, xs = [v] ∧ Dp X.K H v d ∧ layD d = true ∧ d.showable = true ∧ d.shown.length ≤ sizeLine ∧ Q (.str d.shown) H) := by
  intro pins s σ H xs us Q I r h
  obtain ⟨v, d, rfl, hd, hl, hs, hz, q⟩ := h
  obtain ⟨u, rfl, ru⟩ := Vals.one r
  obtain ⟨as, rd⟩ := Dp.reads I d v u hd ru
  obtain ⟨l1, l2⟩ := lay_can 8 d hl
  have hnd := PyData.hasDict_of_canLay d l1
  have big : ∀ a, u = .ref a → wpAny (model X.prog X.w) X.A (call (.builtin "repr") [u]) (EP X pins σ Q) X.xe s := fun a e => by
    subst e
    exact repr_of_reads' rd hs (PyData.noDict_hsm hnd) hg (by have := hr.un; omega) (fun _ _ e => e) (fun h' u' tk hk => ⟨.str d.shown, H, I.kept (t' := tk) hk, ⟨_, rfl⟩, q⟩) hz
  cases d with
  | none =>
    cases hd
    obtain rfl : u = Value.none := ru
    exact PySem.P.repr_of_none ⟨.str _, H, I.tok _, ⟨_, rfl⟩, q⟩
  | bool b =>
    cases hd
    obtain rfl : u = Value.bool b := ru
    refine PySem.P.repr_of_bool ⟨.str (PyData.bool b).shown, H, I.tok _, ⟨s.toks, ?_⟩, q⟩
    cases b <;> rfl
  | int i =>
    cases hd
    obtain ⟨t, rfl⟩ := ru
    exact PySem.P.repr_of_int (by simpa [PyData.showable] using hs) ⟨.str _, H, I.tok _, ⟨_, rfl⟩, q⟩
  | str x =>
    cases hd
    obtain ⟨t, rfl⟩ := ru
    exact PySem.P.repr_of_str ⟨.str _, H, I.tok _, ⟨_, rfl⟩, q⟩ (by simpa [PyData.shown] using hz)
  | list xs =>
    cases hd
    cases ru
    exact big _ rfl
  | tuple xs =>
    cases hd
    cases ru
    exact big _ rfl
  | dict ks => simp [layD, lay] at hl
def reprG : List D → Option Res
  | [x] => if layD x = true ∧ x.showable = true ∧ x.shown.length ≤ sizeLine then some (.d (.str x.shown)) else none
  | _ => none
theorem cd_repr : CallD C (fun xs H Q => ∃ v d, xs = [v] ∧ Dp C.K H v d ∧ layD d = true ∧ d.showable = true ∧ d.shown.length ≤ sizeLine ∧ Q (.str d.shown) H) reprG := by
  intro F H σ δ vs xs res Q R hx e kk
  match xs, hx, e with
  | [x], hx, e =>
    obtain ⟨v, rfl, hv⟩ := hx.one
    simp only [reprG] at e
    split at e
    · rename_i hl
      cases e
      exact ⟨v, x, rfl, (hv.dat R.ext).dpl hl.1, hl.1, hl.2.1, hl.2.2, kk _ F H Stp.refl R (Dat.str _)⟩
    · cases e
  | [], _, e => cases e
  | _ :: _ :: _, _, e => cases e
end
/-! ### defs by the head's facts -/
section
variable {P : Program} {w : World} {K : PySem.W.Frag} {mg : Str → Option Value} {base : Heap} {x qual : Str} {params : Arguments} {body : List Stmt} {scope : Scope} {dvs : List V} {kws : List (Str × V)} {f : Addr} {fd : FuncData} {N ps : List Str} {s : SS} {k n m : Nat}
theorem fn_D (Fd : FunD K x qual params body scope dvs kws f fd) (S : FnScope N ps scope) (hn : ps.length = n) (hm : N.length = m)
    (hbody : ∀ (cdv : Value) (A : Around) (outer : List Env) (s0 : Shared) (H : Hp) (E : XK) (C : DC), C.K = K → A.guards = some [] → Room k (A.deeper (envOfC qual scope s0.heap.objs.size f cdv)) →
      DB (cxOf (CX P w) P w K mg base N qual scope f cdv A outer s0 H E) C (WO E) body s) : FnG P w K mg base (k + 1) f fd ps (defE n m s) := by
  obtain ⟨oc, od, dV, kV, doc, pm, an, cdv, ct, osl, rfl, lk, hcd, _, _⟩ := Fd.ex
  exact fn_body lk hcd S hn hm fun A outer s0 H E C h1 h2 h3 => hbody cdv A outer s0 H E C h1 h2 h3
structure PutOk (put : {α : Type} → List α → List α → List α → List α) : Prop where
  rel : ∀ {us : List V} {us' : List Value} {ws : List V} {ws' : List Value} {ds : List V} {ds' : List Value}, Vals us us' → Vals ws ws' → Vals ds ds' → Vals (put us ws ds) (put us' ws' ds')
  res : ∀ (C : DC) (F H : Hp) (σ : Sg) (Hs : Hp) (us ws ds : List V) (rs qs es : List Res), RVs C F H σ Hs us rs → RVs C F H σ Hs ws qs → RVs C F H σ Hs ds es → RVs C F H σ Hs (put us ws ds) (put rs qs es)
/-- nothing is left out -/
theorem kb_all {ks : List Str} {put : {α : Type} → List α → List α → List α → List α} (Fd : FunD K x qual params body scope [] kws f fd) (pk : PutOk put)
    (h : ∀ (kV doc pm : Value) (an : Option Addr) (cdv ct : Value) (us ws : List Value), us.length = n → ws.length = ks.length → bindArgs (PySem.W.fnOf x qual params body scope .none kV doc pm an cdv ct) ⟨us, ks.zip ws⟩ = pure (ps.zip (put us ws []))) : KB K fd ps ks n put [] [] := by
  obtain ⟨oc, od, dV, kV, doc, pm, an, cdv, ct, osl, rfl, lk, hcd, hD, hK⟩ := Fd.ex
  rcases hD with ⟨_, rfl⟩ | ⟨e, _⟩
  · exact ⟨⟨[], .nil, fun s us ws X l1 l2 => .of_eq (h kV doc pm an cdv ct us ws l1 l2)⟩, pk.rel, pk.res, fun C F H σ Hs => .nil⟩
  · exact absurd rfl e
/-- keyword-only ones left out -/
theorem kb_kw {ks : List Str} {ms : List (Str × V)} {dx : List D} {put : {α : Type} → List α → List α → List α → List α} (Fd : FunD K x qual params body scope [] kws f fd) (pk : PutOk put) (hk : kws ≠ []) (hms : ∀ q ∈ ms, q ∈ kws)
    (hd : ∀ (C : DC) (F H : Hp) (σ : Sg) (Hs : Hp), RVs C F H σ Hs (ms.map (·.2)) (dx.map Res.d))
    (h : ∀ (D : Addr) (doc pm : Value) (an : Option Addr) (cdv ct : Value) (us mv ws : List Value), us.length = n → mv.length = ms.length → ws.length = ks.length →
      KwChain D ((ms.map (·.1)).zip mv) (bindArgs (PySem.W.fnOf x qual params body scope .none (.ref D) doc pm an cdv ct) ⟨us, ks.zip ws⟩) (ps.zip (put us ws mv))) : KB K fd ps ks n put (ms.map (·.2)) dx := by
  obtain ⟨oc, od, dV, kV, doc, pm, an, cdv, ct, osl, rfl, lk, hcd, hD, hK⟩ := Fd.ex
  rcases hD with ⟨_, rfl⟩ | ⟨e, _⟩
  · rcases hK with e | ⟨D, rfl, hq⟩
    · exact absurd e hk
    · obtain ⟨mv, hl, rk, hks⟩ := kwd_vals (ms := ms) fun q hm => hq q (hms q hm)
      exact ⟨⟨mv, rk, fun s us ws X l1 l2 => BindsTo.of_looks fun M => KwChain.looks X hks (h D doc pm an cdv ct us mv ws l1 hl l2)⟩, pk.rel, pk.res, hd⟩
  · exact absurd rfl e
/-- defaults of the others -/
theorem kb_df {ks : List Str} {dx : List D} {put : {α : Type} → List α → List α → List α → List α} (Fd : FunD K x qual params body scope dvs kws f fd) (pk : PutOk put) (hdv : dvs ≠ [])
    (hd : ∀ (C : DC) (F H : Hp) (σ : Sg) (Hs : Hp), RVs C F H σ Hs dvs (dx.map Res.d))
    (h : ∀ (T : Addr) (kV doc pm : Value) (an : Option Addr) (cdv ct : Value) (us its ws : List Value), us.length = n → its.length = dvs.length → ws.length = ks.length →
      ∃ k, bindArgs (PySem.W.fnOf x qual params body scope (.ref T) kV doc pm an cdv ct) ⟨us, ks.zip ws⟩ = seqItems? (.ref T) >>= k ∧ k (some its.toArray) = pure (ps.zip (put us ws its))) : KB K fd ps ks n put dvs dx := by
  obtain ⟨oc, od, dV, kV, doc, pm, an, cdv, ct, osl, rfl, lk, hcd, hD, hK⟩ := Fd.ex
  rcases hD with ⟨e, _⟩ | ⟨_, T, o, its, m, rfl, lT, oT, rT⟩
  · exact absurd e hdv
  · refine ⟨⟨its, rT, fun s us ws X l1 l2 => ?_⟩, pk.rel, pk.res, hd⟩
    obtain ⟨k, e1, e2⟩ := h T kV doc pm an cdv ct us its ws l1 rT.length.symm l2
    refine BindsTo.of_looks fun M => ?_
    rw [e1]
    exact looks_items X lT oT (PySem.W.Looks.of_pure e2)
end
end DL

namespace DL
open PySem PySem.Spec PyProof.Rows L2
/-! ### the end of a law -/
theorem Dats.ofInts' {K : PySem.W.Frag} {H : Hp} : ∀ (ns : List Int), Dats K H (ns.map V.int) (ns.map PyData.int)
  | [] => .nil
  | n :: ns => .cons (.int n) (Dats.ofInts' ns)
def scriptD (ns : List Int) : D := .list (ns.map PyData.int)
theorem spD_law {K : PySem.W.Frag} {Fs : SE} {H : Hp} {a : Addr} {ns : List Int} {δ : List SV} {E : XK} (hS : SqL K H a (ns.map V.int)) (h : Fs [.d (scriptD ns)] = some (.ok (.d (.bool true)) δ)) : spD K Fs [.ref a] H (fun v _ => v = .bl true) E := by
  have no : ∀ (i : Nat) (s : SV), [SV.d (scriptD ns)][i]? = some s → s.own = true → False := fun i s e z => by
    cases i with
    | zero => simp at e; subst e; cases z
    | succ i => simp at e
  refine ⟨H, [.d (scriptD ns)], ⟨Le.refl _, rfl, fun i x s hx hs => ?_, fun i j s t a h1 h2 => (no i s h1 h2).elim, fun i s a h1 h2 => (no i s h1 h2).elim, fun a o e => (by cases e), fun a u e => (by rcases e with e | ⟨_, e⟩ <;> cases e), fun a e => absurd rfl e⟩, ?_⟩
  · cases i with
    | zero =>
      simp at hx hs
      subst hx hs
      exact ⟨_, rfl, .lst hS (Dats.ofInts' ns)⟩
    | succ i => simp at hs
  · rw [h]
    intro v F' H' S R V
    have V : Dat K F' v (.bool true) := V
    cases V
    rfl
section
variable {P : Program} {w : World} {K : PySem.W.Frag} {mg mb : Str → Option Value} {k : Nat} {fa a : Addr} {fd : FuncData} {x : Str} {Fs : SE} {s₁ : Shared} {us : List Value} {ns : List Int}
/-- the call of the law's def, at the heap behind the top -/
theorem end_call (KX : K.In s₁.heap) (nsG : s₁.heap.Ns mainGlobals mg) (nsB : s₁.heap.Ns builtinsNs mb) (bbB : ∀ y : Str, y ≠ "__name__" → mb y = bootBuiltins y) (nolim : s₁.heap.NoLimit) (nogen : s₁.gens = #[])
    (objA : s₁.heap.get? a = some { cls := .type "list", data := .seq us.toArray }) (intA : IntsAre us ns) (lenA : ns.length ≤ sizeLine) (rm : Room k callerA)
    (G : ∀ base : Heap, K.In base → base.Ns mainGlobals mg → FnG P w K mg base k fa fd [x] Fs) (bind1 : ∀ (s : Shared) (u : Value), BindsTo s fd ⟨[u], []⟩ [(x, u)])
    (want : ∃ δ, Fs [.d (scriptD ns)] = some (.ok (.d (.bool true)) δ)) :
    codeAny (model P w) callerA (.call (.ref fa) ⟨[.ref a], []⟩) (fun r s' => r = .ok (.ret (.bool true)) ∧ OldK s₁.heap s'.heap ∧ s'.os = s₁.os ∧ AllBare s'.gens) s₁ := by
  obtain ⟨δ, want⟩ := want
  have valsI := vals_ints intA
  have lenI := intA.length
  have main : ∀ H : Hp, (∀ c, H c = none ∨ ∃ o xs, H c = some (.frz o (.lst xs))) → SqL K H a (ns.map V.int) → HOk P w H s₁.heap → (∀ c, H c ≠ none → c = a) → (H a ≠ none → K.lookup a = none) →
      codeAny (model P w) callerA (.call (.ref fa) ⟨[.ref a], []⟩) (fun r s' => r = .ok (.ret (.bool true)) ∧ OldK s₁.heap s'.heap ∧ s'.os = s₁.os ∧ AllBare s'.gens) s₁ := by
    intro H only seqA hokH justA freeK
    have lift : ∀ {c : Addr} {o : Obj}, s₁.heap.get? c = some o → H c = none → (hidT s₁.heap H).get? c = some o := fun e n => hidT_get e n
    have notDict : ∀ {c : Addr} {o : Obj} {es : Array DictEntry} {ep : Nat}, s₁.heap.get? c = some o → o.data = .dict es ep → H c = none := by
      intro c o es ep e d
      cases q : H c with
      | none => rfl
      | some u =>
        have ca : c = a := justA c (by rw [q]; simp)
        subst ca
        rw [objA] at e
        cases e
        cases (show Data.seq us.toArray _ = Data.dict es ep from d)
    have liftN : ∀ {c : Addr} {m : Str → Option Value}, s₁.heap.Ns c m → (hidT s₁.heap H).Ns c m := by
      rintro c m ⟨o, es, ep, e, d, r⟩
      exact ⟨o, es, ep, lift e (notDict e d), d, r⟩
    have inK : K.In (hidT s₁.heap H) := by
      intro c o e
      refine lift (KX c o e) ?_
      cases q : H c with
      | none => rfl
      | some u =>
        have ca : c = a := justA c (by rw [q]; simp)
        subst ca
        rw [freeK (by rw [q]; simp)] at e
        cases e
    have modH : Mod K mg (hidT s₁.heap H) := by
      refine ⟨inK, liftN nsG, ⟨mb, liftN nsB, bbB⟩, ?_⟩
      obtain ⟨mc, h1, h2⟩ := nolim
      exact ⟨mc, liftN h1, h2⟩
    have env0 : Env0 P w K mg (hidT s₁.heap H) callerA [] s₁ H := by
      refine ⟨rfl, modH, fun c o e => of_hidT e, Nat.le_of_eq (hidT_size _ _), trivial, fun c hc => ?_, hokH, .of_eq nogen⟩
      exact absurd (show c ∈ ([] : List Addr) from hc) (by simp)
    have ran := (G _ inK (liftN nsG)).run callerA [] s₁ H ⟨[.ref a], []⟩ [.ref a] [.ref a] (fun v _ => v = .bl true) (fun _ _ _ => False) rfl rm env0 (bind1 s₁ (.ref a)) (.cons rfl .nil) (spD_law seqA want)
    refine codeAny_mono ran fun r s' h => ?_
    match r, h with
    | .error e, h =>
      obtain ⟨_, _, _, _, _, _, _, _, _, _, _, _, z⟩ := h
      exact z.elim
    | .ok .next, h => exact False.elim h
    | .ok .brk, h => exact False.elim h
    | .ok .cont, h => exact False.elim h
    | .ok (.ret u), h =>
      obtain ⟨v, H', eos, bare, un, hok', rv, ev⟩ := h
      have ev : v = .bl true := ev
      subst ev
      obtain rfl : u = Value.bool true := rv
      refine ⟨rfl, OldK.of_keep fun c o e => ?_, eos, bare⟩
      cases q : H c with
      | none => exact un.keep c o e q (fun z => absurd (show c ∈ ([] : List Addr) from z) (by simp)) (by simp)
      | some u =>
        rcases only c with z | ⟨ob, xs, z⟩
        · rw [q] at z
          cases z
        · have there := un.frzs c ob _ z
          obtain ⟨g1, _⟩ := hokH c _ z
          obtain ⟨g2, _⟩ := hok' c _ there
          rw [e] at g1
          cases g1
          exact g2
  cases inmod : K.lookup a with
  | some o =>
    have e := KX a o inmod
    rw [objA] at e
    cases e
    refine main (fun _ => none) (fun _ => .inl rfl) (.inr ⟨_, us.toArray, _, inmod, rfl, rfl, rfl, ?_, by simpa using valsI⟩) (fun c u z => nomatch z) (fun c z => absurd rfl z) fun z => absurd rfl z
    rw [List.size_toArray, lenI]
    exact lenA
  | none =>
    have at_ : ∀ c, (if c = a then some (HO.frz { cls := .type "list", data := .seq us.toArray } (.lst (ns.map V.int))) else none) ≠ none → c = a := fun c z => by
      by_cases hc : c = a
      · exact hc
      · exact absurd (if_neg hc) z
    refine main (fun c => if c = a then some (.frz { cls := .type "list", data := .seq us.toArray } (.lst (ns.map V.int))) else none) (fun c => ?_) (.inl (.inr ⟨{ cls := .type "list", data := .seq us.toArray }, if_pos rfl⟩)) (fun c u z => ?_) at_ fun _ => inmod
    · by_cases hc : c = a
      · exact .inr ⟨_, _, if_pos hc⟩
      · exact .inl (if_neg hc)
    · obtain rfl : c = a := at_ c (by rw [show (if c = a then some (HO.frz { cls := .type "list", data := .seq us.toArray } (.lst (ns.map V.int))) else none) = some u from z]; simp)
      have z2 := (if_pos rfl).symm.trans z
      cases z2
      exact ⟨objA, by rw [List.length_map]; exact lenA, us, _, valsI, objA⟩
end
/-- a law: the facts of the head, then what its def's function gives of a script -/
theorem walk_G {l : PySem.W.OpenLaw} {n k : Nat} {q : Program} {loose : List Str} {XP : (Str → Option Value) → Heap → Prop} {YP : World → Heap → Prop} {d : DefRec} {x : Str} {Fs : SE}
    (hn : l.most = some n) (hn2 : n ≤ sizeLine) (hdf : d.params.defaults = []) (hr : Room k callerA)
    (want : ∀ ns : List Int, ns.length ≤ n → (∀ z ∈ ns, Builtin.Int.intBits z ≤ 1048576) → ∃ δ, Fs [.d (scriptD ns)] = some (.ok (.d (.bool true)) δ))
    (facts : ∀ (w : World) (mg : Str → Option Value) (fa : Addr) (h : Heap), YP w h → h.Ns mainGlobals mg → mg d.name = some (.ref fa) →
      ∃ (K : PySem.W.Frag) (fd : FuncData), K.In h ∧ (∀ (s : Shared) (u : Value), BindsTo s fd ⟨[u], []⟩ [(x, u)]) ∧ ∀ base : Heap, K.In base → base.Ns mainGlobals mg → FnG l.prog w K mg base k fa fd [x] Fs) :
    PySem.W.WalkO q loose XP YP l.row.toRowW d [] (fun f vs => PySem.call f vs) := by
  refine Att.attach_callB hn hdf fun w s₀ s₁ mg mb fa o pm cd doc a us ns G Y ho hd hcd hmg hobj hints hlen hbits hg => ?_
  obtain ⟨K, fd, KX, hb, hF⟩ := facts w mg fa _ Y G.T.g hmg
  exact end_call KX G.T.g G.T.b G.T.builtins G.T.nolimit hg hobj hints (Nat.le_trans hlen hn2) hr hF hb (want ns hlen hbits)
end DL

namespace DL
open PySem PySem.Spec PyProof.Rows L2
section
variable {X : Cx} {C : DC} {W : XW} {a b c e : Expr} {es : List Expr} {fa fb fc f : SE} {ga : SA} {pos p : Pos} {k : Nat}
theorem dx_sub (ha : DE X C W a fa) (hb : DE X C W b fb) : DE X C W (.BinOp a .Sub b pos) (op2E subG fa fb) := de_op op_sub od_sub ha hb
theorem dx_add (hK : C.K = X.K) (ha : DE X C W a fa) (hb : DE X C W b fb) : DE X C W (.BinOp a .Add b pos) (op2E addG fa fb) := de_op (by rw [hK]; exact or_addG) od_addG ha hb
theorem dx_mul (hK : C.K = X.K) (ha : DE X C W a fa) (hb : DE X C W b fb) : DE X C W (.BinOp a .Mult b pos) (op2E mulG fa fb) := de_op (by rw [hK]; exact or_mulG) od_mulG ha hb
theorem dx_fdiv (ha : DE X C W a fa) (hb : DE X C W b fb) : DE X C W (.BinOp a .FloorDiv b pos) (op2E fdivG fa fb) := de_op op_fdivW od_fdiv ha hb
theorem dx_mod (ha : DE X C W a fa) (hb : DE X C W b fb) : DE X C W (.BinOp a .Mod b pos) (op2E modG fa fb) := de_op op_mod od_mod ha hb
theorem dx_pow (ha : DE X C W a fa) (hb : DE X C W b fb) : DE X C W (.BinOp a .Pow b pos) (op2E powG fa fb) := de_op op_pow od_pow ha hb
theorem dx_shl (ha : DE X C W a fa) (hb : DE X C W b fb) : DE X C W (.BinOp a .LShift b pos) (op2E shlG fa fb) := de_op op_shl od_shl ha hb
theorem dx_shr (ha : DE X C W a fa) (hb : DE X C W b fb) : DE X C W (.BinOp a .RShift b pos) (op2E shrG fa fb) := de_op op_shr od_shr ha hb
theorem dx_band (ha : DE X C W a fa) (hb : DE X C W b fb) : DE X C W (.BinOp a .BitAnd b pos) (op2E bandG fa fb) := de_op op_and od_band ha hb
def negG : D → Option Res
  | .int i => some (.d (.int (-i)))
  | _ => none
def op1E (g : D → Option Res) (fa : SE) : SE := bindE (pkE fa) fun r => fun δ => match r.get δ with
  | some x => (g x).map fun y => .ok y δ
  | none => none
theorem dx_neg (ha : DE X C W a fa) : DE X C W (.UnaryOp .USub a pos) (op1E negG fa) := by
  refine pe_mono (pe_un un_neg (de_pk ha)) fun σ H Q ⟨F, δ, h⟩ => ?_
  refine bindV (RVb := RVl C) (mbV) h fun v F1 H1 δ1 r1 e1 S1 R1 V1 h1 => ?_
  obtain ⟨o, ho⟩ := h1.some
  have ho' := ho
  cases q : r1.get δ1 with
  | none => simp only [q] at ho; cases ho
  | some x =>
    simp only [q] at ho
    cases x with
    | int i =>
      cases ho
      exact ⟨i, (V1.get R1 q).int, h1.use ho' Stp.refl R1 (Dat.int _)⟩
    | _ => cases ho
/-! comparisons -/
theorem dx_lt (ha : DE X C W a fa) (hb : DE X C W b fb) : DE X C W (.Compare a [.Lt] [b] pos) (op2E ltG fa fb) := de_cmp op_lt od_lt ha hb (nomark _)
theorem dx_le (ha : DE X C W a fa) (hb : DE X C W b fb) : DE X C W (.Compare a [.LtE] [b] pos) (op2E leG fa fb) := de_cmp op_le od_le ha hb (nomark _)
theorem dx_gt (ha : DE X C W a fa) (hb : DE X C W b fb) : DE X C W (.Compare a [.Gt] [b] pos) (op2E gtG fa fb) := de_cmp op_gt od_gt ha hb (nomark _)
theorem dx_ge (ha : DE X C W a fa) (hb : DE X C W b fb) : DE X C W (.Compare a [.GtE] [b] pos) (op2E geG fa fb) := de_cmp op_ge od_ge ha hb (nomark _)
theorem dx_is (ha : DE X C W a fa) (hb : DE X C W b fb) : DE X C W (.Compare a [.Is] [b] pos) (op2E isG fa fb) := de_cmp op_isN od_is ha hb (nomark _)
theorem dx_isn (ha : DE X C W a fa) (hb : DE X C W b fb) : DE X C W (.Compare a [.IsNot] [b] pos) (op2E isnG fa fb) := de_cmp op_notN od_isn ha hb (nomark _)
theorem dx_eq (hK : C.K = X.K) (hr : Room k X.A) (ha : DE X C W a fa) (hb : DE X C W b fb) : DE X C W (.Compare a [.Eq] [b] pos) (op2E eqG fa fb) := de_cmp (by rw [hK]; exact op_eqD (by have := hr.un; omega)) od_eq ha hb (nomark _)
theorem dx_ne (hK : C.K = X.K) (hr : Room k X.A) (ha : DE X C W a fa) (hb : DE X C W b fb) : DE X C W (.Compare a [.NotEq] [b] pos) (op2E neG fa fb) := de_cmp (by rw [hK]; exact op_neD (by have := hr.un; omega)) od_ne ha hb (nomark _)
theorem dx_in (hK : C.K = X.K) (hr : Room k X.A) (ha : DE X C W a fa) (hb : DE X C W b fb) (hm : behindInMarks .In b = false := by rfl) : DE X C W (.Compare a [.In] [b] pos) (op2E inG fa fb) := de_cmp (by rw [hK]; exact op_inG hr) od_inG ha hb hm
theorem dx_nin (hK : C.K = X.K) (hr : Room k X.A) (ha : DE X C W a fa) (hb : DE X C W b fb) (hm : behindInMarks .NotIn b = false := by rfl) : DE X C W (.Compare a [.NotIn] [b] pos) (op2E notInG fa fb) := de_cmp (by rw [hK]; exact op_notInG hr) od_notInG ha hb hm
theorem dy_lt (ha : DE X C W a fa) (hb : DE X C W b fb) : DT X C W (.Compare a [.Lt] [b] pos) (toB (op2E ltG fa fb)) := dt_cmp op_lt od_lt ha hb (nomark _)
theorem dy_le (ha : DE X C W a fa) (hb : DE X C W b fb) : DT X C W (.Compare a [.LtE] [b] pos) (toB (op2E leG fa fb)) := dt_cmp op_le od_le ha hb (nomark _)
theorem dy_gt (ha : DE X C W a fa) (hb : DE X C W b fb) : DT X C W (.Compare a [.Gt] [b] pos) (toB (op2E gtG fa fb)) := dt_cmp op_gt od_gt ha hb (nomark _)
theorem dy_ge (ha : DE X C W a fa) (hb : DE X C W b fb) : DT X C W (.Compare a [.GtE] [b] pos) (toB (op2E geG fa fb)) := dt_cmp op_ge od_ge ha hb (nomark _)
theorem dy_is (ha : DE X C W a fa) (hb : DE X C W b fb) : DT X C W (.Compare a [.Is] [b] pos) (toB (op2E isG fa fb)) := dt_cmp op_isN od_is ha hb (nomark _)
theorem dy_isn (ha : DE X C W a fa) (hb : DE X C W b fb) : DT X C W (.Compare a [.IsNot] [b] pos) (toB (op2E isnG fa fb)) := dt_cmp op_notN od_isn ha hb (nomark _)
theorem dy_eq (hK : C.K = X.K) (hr : Room k X.A) (ha : DE X C W a fa) (hb : DE X C W b fb) : DT X C W (.Compare a [.Eq] [b] pos) (toB (op2E eqG fa fb)) := dt_cmp (by rw [hK]; exact op_eqD (by have := hr.un; omega)) od_eq ha hb (nomark _)
theorem dy_ne (hK : C.K = X.K) (hr : Room k X.A) (ha : DE X C W a fa) (hb : DE X C W b fb) : DT X C W (.Compare a [.NotEq] [b] pos) (toB (op2E neG fa fb)) := dt_cmp (by rw [hK]; exact op_neD (by have := hr.un; omega)) od_ne ha hb (nomark _)
theorem dy_in (hK : C.K = X.K) (hr : Room k X.A) (ha : DE X C W a fa) (hb : DE X C W b fb) (hm : behindInMarks .In b = false := by rfl) : DT X C W (.Compare a [.In] [b] pos) (toB (op2E inG fa fb)) := dt_cmp (by rw [hK]; exact op_inG hr) od_inG ha hb hm
theorem dy_nin (hK : C.K = X.K) (hr : Room k X.A) (ha : DE X C W a fa) (hb : DE X C W b fb) (hm : behindInMarks .NotIn b = false := by rfl) : DT X C W (.Compare a [.NotIn] [b] pos) (toB (op2E notInG fa fb)) := dt_cmp (by rw [hK]; exact op_notInG hr) od_notInG ha hb hm
/-! calls of built-ins -/
theorem b_repr : bootBuiltins "repr" = some (.builtin "repr") := by decide +kernel
theorem b_max : bootBuiltins "max" = some (.builtin "max") := by decide +kernel
theorem b_min : bootBuiltins "min" = some (.builtin "min") := by decide +kernel
theorem b_sum : bootBuiltins "sum" = some (.builtin "sum") := by decide +kernel
theorem b_len : bootBuiltins "len" = some (.builtin "len") := by decide +kernel
theorem b_divmod : bootBuiltins "divmod" = some (.builtin "divmod") := by decide +kernel
theorem b_list : bootBuiltins "list" = some (.type "list") := by decide +kernel
theorem b_tuple : bootBuiltins "tuple" = some (.type "tuple") := by decide +kernel
theorem b_int : bootBuiltins "int" = some (.type "int") := by decide +kernel
theorem b_str : bootBuiltins "str" = some (.type "str") := by decide +kernel
theorem b_bool : bootBuiltins "bool" = some (.type "bool") := by decide +kernel
theorem b_dict : bootBuiltins "dict" = some (.type "dict") := by decide +kernel
abbrev St1 (X : Cx) (e : Expr) (es : List Expr) : Prop := starEach (e :: es) X.env = (false, eval e X.env) :: starEach es X.env
theorem dx_len (hK : C.K = X.K) (hg : Gl X "len") (hm : X.mg "len" = none) (ha : DA X C W (e :: es) ga) (he : St1 X e es := by rfl) (hpl : (backTo pos (starEach es X.env)).any (·.1) = false := by rfl) : DE X C W (.Call (.Name "len" p) (e :: es) [] pos) (callBE lenG ga) := de_callB (by rw [hK]; exact cr_lenG) cd_lenG hg hm b_len ha (by decide) (by decide) he hpl
theorem dx_repr (hK : C.K = X.K) (hgd : X.A.guards = some []) (hr : Room k X.A) (hg : Gl X "repr") (hm : X.mg "repr" = none) (ha : DA X C W (e :: es) ga) (he : St1 X e es := by rfl) (hpl : (backTo pos (starEach es X.env)).any (·.1) = false := by rfl) : DE X C W (.Call (.Name "repr" p) (e :: es) [] pos) (callBE reprG ga) := de_callB (by rw [hK]; exact call_reprD hgd hr) cd_repr hg hm b_repr ha (by decide) (by decide) he hpl
theorem dx_min2 (hc : X.calm = true) (hg : Gl X "min") (hm : X.mg "min" = none) (ha : DA X C W (e :: es) ga) (he : St1 X e es := by rfl) (hpl : (backTo pos (starEach es X.env)).any (·.1) = false := by rfl) : DE X C W (.Call (.Name "min" p) (e :: es) [] pos) (callBE min2G ga) := de_callB (call_min2 hc) cd_min2 hg hm b_min ha (by decide) (by decide) he hpl
theorem dx_max2 (hc : X.calm = true) (hg : Gl X "max") (hm : X.mg "max" = none) (ha : DA X C W (e :: es) ga) (he : St1 X e es := by rfl) (hpl : (backTo pos (starEach es X.env)).any (·.1) = false := by rfl) : DE X C W (.Call (.Name "max" p) (e :: es) [] pos) (callBE max2G ga) := de_callB (call_max2 hc) cd_max2 hg hm b_max ha (by decide) (by decide) he hpl
theorem dx_sum (hK : C.K = X.K) (hc : X.calm = true) (hg : Gl X "sum") (hm : X.mg "sum" = none) (ha : DA X C W (e :: es) ga) (he : St1 X e es := by rfl) (hpl : (backTo pos (starEach es X.env)).any (·.1) = false := by rfl) : DE X C W (.Call (.Name "sum" p) (e :: es) [] pos) (callBE sumG ga) := de_callB (by rw [hK]; exact cr_sum hc) cd_sum hg hm b_sum ha (by decide) (by decide) he hpl
theorem dx_divmod (hg : Gl X "divmod") (hm : X.mg "divmod" = none) (ha : DA X C W (e :: es) ga) (he : St1 X e es := by rfl) (hpl : (backTo pos (starEach es X.env)).any (·.1) = false := by rfl) : DE X C W (.Call (.Name "divmod" p) (e :: es) [] pos) (callBE divmodG ga) := de_callB call_divmod cd_divmod hg hm b_divmod ha (by decide) (by decide) he hpl
theorem dx_list (hK : C.K = X.K) (hg : Gl X "list") (hm : X.mg "list" = none) (ha : DA X C W (e :: es) ga) (he : St1 X e es := by rfl) (hpl : (backTo pos (starEach es X.env)).any (·.1) = false := by rfl) : DE X C W (.Call (.Name "list" p) (e :: es) [] pos) (callBE listG ga) := de_callTy (by rw [hK]; exact call_list_of) cd_list hg hm b_list ha (by decide) (by decide) he hpl
theorem dx_tuple (hK : C.K = X.K) (hg : Gl X "tuple") (hm : X.mg "tuple" = none) (ha : DA X C W (e :: es) ga) (he : St1 X e es := by rfl) (hpl : (backTo pos (starEach es X.env)).any (·.1) = false := by rfl) : DE X C W (.Call (.Name "tuple" p) (e :: es) [] pos) (callBE tupleG ga) := de_callTy (by rw [hK]; exact call_tuple_of) cd_tuple hg hm b_tuple ha (by decide) (by decide) he hpl
theorem dx_int (hg : Gl X "int") (hm : X.mg "int" = none) (ha : DA X C W (e :: es) ga) (he : St1 X e es := by rfl) (hpl : (backTo pos (starEach es X.env)).any (·.1) = false := by rfl) : DE X C W (.Call (.Name "int" p) (e :: es) [] pos) (callBE intG ga) := de_callTy call_int1 cd_int hg hm b_int ha (by decide) (by decide) he hpl
theorem dx_str (hg : Gl X "str") (hm : X.mg "str" = none) (ha : DA X C W (e :: es) ga) (he : St1 X e es := by rfl) (hpl : (backTo pos (starEach es X.env)).any (·.1) = false := by rfl) : DE X C W (.Call (.Name "str" p) (e :: es) [] pos) (callBE strG ga) := de_callTy call_str_int cd_str hg hm b_str ha (by decide) (by decide) he hpl
end
/-! ### arguments, put into the parameters' order -/
def pick (idx : List Nat) {α : Type} (us ws ds : List α) : List α := idx.filterMap fun j => (us ++ ws ++ ds)[j]?
theorem vals_at {xs : List V} {us : List Value} (h : Vals xs us) (j : Nat) : (xs[j]? = none ∧ us[j]? = none) ∨ ∃ v u, xs[j]? = some v ∧ us[j]? = some u ∧ RelV v u := by
  induction h generalizing j with
  | nil => exact .inl ⟨by simp, by simp⟩
  | cons h t ih =>
    cases j with
    | zero => exact .inr ⟨_, _, rfl, rfl, h⟩
    | succ j => simpa using ih j
theorem vals_app {xs ys : List V} {us ws : List Value} (h : Vals xs us) (k : Vals ys ws) : Vals (xs ++ ys) (us ++ ws) := by
  induction h with
  | nil => exact k
  | cons h t ih => exact .cons h ih
theorem rvs_at {C : DC} {F H : Hp} {σ : Sg} {Hs : Hp} {xs : List V} {us : List Res} (h : RVs C F H σ Hs xs us) (j : Nat) : (xs[j]? = none ∧ us[j]? = none) ∨ ∃ v u, xs[j]? = some v ∧ us[j]? = some u ∧ RV C F H σ Hs v u ∧ u.isPk = true := by
  induction h generalizing j with
  | nil => exact .inl ⟨by simp, by simp⟩
  | cons h p t ih =>
    cases j with
    | zero => exact .inr ⟨_, _, rfl, rfl, h, p⟩
    | succ j => simpa using ih j
theorem rvs_app {C : DC} {F H : Hp} {σ : Sg} {Hs : Hp} {xs ys : List V} {us ws : List Res} (h : RVs C F H σ Hs xs us) (k : RVs C F H σ Hs ys ws) : RVs C F H σ Hs (xs ++ ys) (us ++ ws) := by
  induction h with
  | nil => exact k
  | cons h p t ih => exact .cons h p ih
theorem pick_ok (idx : List Nat) : PutOk (pick idx) where
  rel := by
    intro us us' ws ws' ds ds' h1 h2 h3
    have h := vals_app (vals_app h1 h2) h3
    unfold pick
    induction idx with
    | nil => exact .nil
    | cons j r ih =>
      rcases vals_at h j with ⟨e1, e2⟩ | ⟨v, u, e1, e2, rel⟩
      · rw [List.filterMap_cons_none e1, List.filterMap_cons_none e2]; exact ih
      · rw [List.filterMap_cons_some e1, List.filterMap_cons_some e2]; exact .cons rel ih
  res := by
    intro C F H σ Hs us ws ds rs qs es h1 h2 h3
    have h := rvs_app (rvs_app h1 h2) h3
    unfold pick
    induction idx with
    | nil => exact .nil
    | cons j r ih =>
      rcases rvs_at h j with ⟨e1, e2⟩ | ⟨v, u, e1, e2, rel, p⟩
      · rw [List.filterMap_cons_none e1, List.filterMap_cons_none e2]; exact ih
      · rw [List.filterMap_cons_some e1, List.filterMap_cons_some e2]; exact .cons rel p ih
end DL

namespace DL
open PySem PySem.Spec PyProof.Rows L2
def isFree (k : NameKind) : Bool := match k with
  | .free => true
  | _ => false
def isLoc (k : NameKind) : Bool := match k with
  | .local => true
  | .cell => true
  | _ => false
def memS (x : Str) (l : List Str) : Bool := l.any fun y => decide (y = x)
/-- a block's scope fits its def's names -/
def blkB (N : List Str) (sc scope : Scope) (own : List (Str × Nat)) : Bool :=
  (match scope.kind with | .function => true | _ => false) && (scope.names.all fun y => decide (scope.names.lookup y.1 = some y.2)) && (own.all fun p => decide (N[p.2]? = some p.1)) &&
  (scope.names.all fun y => !isFree y.2 || decide (sc.names.lookup y.1 = some .cell) || decide (sc.names.lookup y.1 = some .free)) &&
  (scope.names.all fun y => !isLoc y.2 || memS y.1 (own.map (·.1)) || !memS y.1 N)
theorem memS_ok {x : Str} {l : List Str} : memS x l = true ↔ x ∈ l := by
  unfold memS
  rw [List.any_eq_true]
  exact ⟨fun ⟨y, h, e⟩ => of_decide_eq_true e ▸ h, fun h => ⟨x, h, decide_eq_true rfl⟩⟩
theorem blk_of {N : List Str} {sc scope : Scope} {own : List (Str × Nat)} (h : blkB N sc scope own = true) : BlkOk N sc scope own := by
  unfold blkB at h
  simp only [Bool.and_eq_true] at h
  obtain ⟨⟨⟨⟨h1, h2⟩, h3⟩, h4⟩, h5⟩ := h
  refine ⟨?_, fun y hy => of_decide_eq_true (List.all_eq_true.mp h2 y hy), fun p hp => of_decide_eq_true (List.all_eq_true.mp h3 p hp), fun y hy e => ?_, fun y hy e => ?_⟩
  · cases q : scope.kind with
    | function => rfl
    | _ => rw [q] at h1; cases h1
  · have := List.all_eq_true.mp h4 y hy
    rw [e] at this
    simp only [isFree, Bool.not_true, Bool.false_or, Bool.or_eq_true, decide_eq_true_eq] at this
    exact this
  · have := List.all_eq_true.mp h5 y hy
    have l : isLoc y.2 = true := by
      rcases e with e | e <;> rw [e] <;> rfl
    rw [l] at this
    simp only [Bool.not_true, Bool.false_or, Bool.or_eq_true, Bool.not_eq_true', ← Bool.not_eq_true, memS_ok] at this
    exact this
end DL

namespace DL
open PySem PySem.Spec PyProof.Rows L2
/-! ### {t: v}, t a tuple -/
section
variable {X : Cx} {C : DC} {W : XW} {kx vx : Expr} {fk fv : SE} {pos : Pos} {k : Nat}
def newO (a : Addr) : HO := .ext fun h => h.get? a = some { cls := .type "dict", data := .dict #[] }
def tDispT (K : PySem.W.Frag) (tk tv : TE) : TE := fun σ H Q => ∀ p, H p = none → tk σ (upd H p (newO p)) fun x H1 => tv σ H1 fun y H2 => H2 p = some (newO p) ∧ ∃ (b : Addr) (ks : List Key), x = .ref b ∧ SqT K H2 b (ks.map kV) ∧ Q (.ref p) (upd H2 p (opqO p))
theorem pe_dispT {tk tv : TE} (hu : X.A.units + 1 < cLine) (hk : PE X kx tk) (hv : PE X vx tv) : PE X (.Dict [some kx] [vx] pos) (tDispT X.K tk tv) := by
  refine ⟨fun pins s σ H Q I q => ?_⟩
  have hn := I.hok.fresh (Nat.le_refl s.heap.objs.size)
  have I1 := I.laid (a := s.heap.objs.size) (o := newO s.heap.objs.size) (h' := s.heap.push { cls := .type "dict", data := .dict #[] }) (t' := s.toks) (fun _ _ q => Heap.get?_push_of_some _ q) (Nat.le_refl _)
    ⟨Heap.get?_push_size _ rfl, ⟨_, Heap.get?_push_size _ rfl⟩, fun h1 h2 e k => k _ e⟩
  rw [arm_eval_Dict, zip_pairTrees [some kx] [vx] X.env pos rfl rfl, dictDisplay_pairs (pairTrees [some kx] [vx] X.env pos) (by simp [pairTrees]) (by simp [pairTrees])]
  refine wpAny_bind (wpAny_standAt (wpAny_bind ?_))
  unfold subDict
  refine wpAny_bind (wpAny_alloc (wpAny_bind (wpAny_holding ?_)))
  rw [if_pos (by simp [pairTrees])]
  refine wpAny_bind (pairTrees_cons_walk (thn (hk.run pins _ σ _ _ I1 (q _ hn)) fun u s1 ⟨x, H1, I2, rx, q1⟩ => thn (hv.run pins s1 σ H1 _ I2 q1) fun w2 s2 ⟨y, H2, I3, ry, hp, b, ks, ex, hb, q2⟩ => pairTrees_nil_walk ?_))
  subst ex
  cases (show u = Value.ref b from rx)
  obtain ⟨hg, _, _⟩ := (show ObjOk X.prog X.w H2 s2.heap s.heap.objs.size (newO s.heap.objs.size) from I3.hok _ _ hp)
  have dd : s2.heap.DictOfH (tupleKind (mixKind X.prog X.w)) s.heap.objs.size [] := ⟨_, #[], 0, hg, ⟨rfl, rfl, rfl⟩, rfl, rfl, fun x hx => absurd hx (by simp), List.nodup_nil⟩
  obtain ⟨its, r, ⟨ot, h1, h2, n, h3⟩, _⟩ := I3.tuple hb
  have key : (tupleKind (mixKind X.prog X.w)).is s2.heap ks b := ⟨ot, its.toArray, n, h1, h2, h3, by simpa using items_are r⟩
  refine wpAny_holding ?_
  rw [List.forIn_cons]
  refine wpAny_bind (wpAny_bind (wpAny_bind (wpAny_dictSet_heap (knd := tupleKind (mixKind X.prog X.w)) (hsz := Nat.zero_le _) (by show X.A.units < cLine; omega) key dd fun h' dd' hs => wpAny_pure ?_)))
  simp only [List.forIn_nil]
  refine wpAny_pure (wpAny_pure (wpAny_pure (wpAny_pure ⟨.ref s.heap.objs.size, _, ?_, rfl, q2⟩)))
  obtain ⟨o, es, ep, hq, hx, _⟩ := dd'
  exact d_write I3 (by rw [hp]; exact True.intro) hs ⟨o, hq⟩ ⟨⟨o, hq, hx.1, hx.2.1⟩, ⟨o, hq⟩, fun h1 h2 ⟨o, e, c⟩ k => ⟨o, k _ e, c⟩⟩
def keysD (xs : List D) : Option (List Key) := xs.mapM keyD
theorem keysD_of {K : PySem.W.Frag} {F : Hp} : ∀ {vs : List V} {xs : List D} {ks : List Key}, Dats K F vs xs → keysD xs = some ks → vs = ks.map kV
  | _, [], ks, .nil, e => by
    simp [keysD] at e; subst e; rfl
  | _, x :: xs, ks, .cons h t, e => by
    unfold keysD at e
    rw [List.mapM_cons] at e
    cases q : keyD x with
    | none => simp [q] at e
    | some ky =>
      cases q2 : xs.mapM keyD with
      | none => simp [q, q2] at e
      | some kr =>
        simp [q, q2] at e; subst e
        rw [List.map_cons, ← keysD_of t q2]
        congr 1
        cases x with
        | int i => cases q; cases h; rfl
        | str i => cases q; cases h; rfl
        | _ => cases q
/-- what it holds is not told -/
def dispTE (fk fv : SE) : SE := bindE (pkE fk) fun rk => bindE (escE fv) fun _ => fun δ => match rk.get δ with
  | some (.tuple xs) => match keysD xs with
    | some _ => some (.ok (.d (.dict [(.tuple [], .none)])) δ)
    | none => none
  | _ => none
theorem de_dispT (hK : C.K = X.K) (hr : Room k X.A) (hk : DE X C W kx fk) (hv : DE X C W vx fv) : DE X C W (.Dict [some kx] [vx] pos) (dispTE fk fv) := by
  refine pe_mono (pe_dispT (by have := hr.un; omega) (de_pk hk) (de_esc hv)) fun σ H Q ⟨F, δ, h⟩ => ?_
  intro p np
  have R := h.1
  have hz := h.z
  obtain ⟨S0, R0⟩ := R.newG (newO p) np
  refine ⟨F, δ, (tZ.bind (RVa := RVl C) hz S0 R0).mono fun x H1 ⟨F1, δ1, r1, e1, S1, S1', R1, V1, h1⟩ => ?_⟩
  refine ⟨F1, δ1, (tZ.bind (RVa := RVl C) h1 S1' R1).mono fun y H2 ⟨F2, δ2, r2, e2, S2, S2', R2, V2, h2⟩ => ?_⟩
  obtain ⟨o, ho⟩ := h2.some
  have no : ∀ {F H : Hp} {δ' : List SV}, Stp F H σ δ F H δ' → True := fun _ => trivial
  have n1 : ¬ OwnedAt σ δ p := R.fresh_own np
  obtain ⟨g1, f1⟩ := S1.frm p _ upd_same n1
  obtain ⟨g2, f2⟩ := S2.frm p _ g1 fun z => n1 (S1'.owned z)
  have fp := f2 (f1 (R.freshF np))
  cases q : r1.get δ2 with
  | none => simp only [q] at ho; cases ho
  | some z =>
    cases z with
    | tuple xs =>
      cases q2 : keysD xs with
      | none => simp only [q, q2] at ho; cases ho
      | some ks =>
        obtain ⟨b, vs, rfl, hs, t⟩ := ((V1.after (Hs' := H) (pk_isPk e1) S2).get R2 q).tup R2.ext
        refine ⟨g2, b, ks, rfl, by rw [← hK, ← keysD_of t q2]; exact hs, ?_⟩
        have R3 := R2.poke (opqO p) fp (fun z => n1 (S2'.owned z)) (R.fresh0 np)
        have S3 := S2'.poke (opqO p) np
        have Rf := R3.freeze upd_same fp (fun z => n1 (S2'.owned z)) (R.fresh0 np)
        have Sf : Stp F H σ δ (upd F2 p (opqO p)) (upd H2 p (opqO p)) δ2 := ⟨S3.ext.trans (le_upd fp), fun a u hh n => by
          obtain ⟨k1, k2⟩ := S3.frm a u hh n
          refine ⟨k1, fun z => ?_⟩
          have : a ≠ p := fun q => by rw [q, np] at hh; cases hh
          rw [upd_ne this]; exact k2 z, S3.pers, S3.own⟩
        refine h2.use (r := .d (.dict [(.tuple [], .none)])) (δ' := δ2) ?_ Sf Rf (Dat.dcT (.inl upd_same))
        simp only [q, q2]
    | _ => simp only [q] at ho; cases ho
end
theorem fd_uniq {K : PySem.W.Frag} {x qual : Str} {params : Arguments} {body : List Stmt} {scope : Scope} {dvs : List V} {kws : List (Str × V)} {f : Addr} {fd fd' : FuncData} (F : FunD K x qual params body scope dvs kws f fd) (F' : FunD K x qual params body scope dvs kws f fd') : fd' = fd := by
  obtain ⟨_, _, _, _, _, _, _, _, _, _, e1, lk, _⟩ := F.ex
  obtain ⟨_, _, _, _, _, _, _, _, _, _, e2, lk', _⟩ := F'.ex
  rw [lk] at lk'
  cases lk'
  rfl
end DL

namespace DL
open PySem PySem.Spec PyProof.Rows L2
/-! ### an exception that was caught is kept -/
section
variable {X : Cx} {pins : List (Addr × Obj)} {σ : Sg} {H : Hp} {s : Shared}
/-- a thing that came since the entry is told of from here on -/
theorem adopt {a : Addr} {o : HO} (I : Inv X pins σ H s) (na : H a = none) (n0 : X.s_0.heap.get? a = none) (nL : a ≠ X.env.locals) (nC : ∀ x c, X.env.cells.lookup x = some c → c ≠ a) (nP : ∀ p ∈ X.pn ++ pins, p.1 ≠ a)
    (new : ObjOk X.prog X.w (upd H a o) s.heap a o) : Inv X pins σ (upd H a o) s := by
  have other : ∀ {b : Addr} {u : HO}, H b = some u → b ≠ a := fun {b u} e z => by rw [z, na] at e; cases e
  refine ⟨I.ok, I.os, I.bare, ⟨I.base.keep, I.base.slot, fun b u e n hx => ?_, I.base.there, fun b xs e => ?_, fun b u v e => ?_, fun b ps e => ?_⟩, I.loc, I.cell, ?_, fun x c e => ?_, fun p hp => ?_, fun b u e => ?_, I.len⟩
  · rw [upd_ne (fun z => by rw [z, n0] at e; cases e)]
    exact I.base.free b u e n hx
  · have q := I.base.tups b xs e
    rw [upd_ne (other q)]; exact q
  · have q := I.base.frzs b u v e
    rw [upd_ne (other q)]; exact q
  · obtain ⟨more, q⟩ := I.base.tbls b ps e
    exact ⟨more, by rw [upd_ne (other q)]; exact q⟩
  · rw [upd_ne (Ne.symm nL)]; exact I.free
  · rw [upd_ne (nC x c e)]; exact I.freeC x c e
  · obtain ⟨k1, k2, k3⟩ := I.pin p hp
    exact ⟨k1, by rw [upd_ne (nP p hp)]; exact k2, k3⟩
  · by_cases hb : b = a
    · subst hb
      rw [upd_same] at e
      cases e
      exact new
    · rw [upd_ne hb] at e
      exact (I.hok b u e).stay (fun c w' _ q => q) (fun c q => by rw [upd_ne (other q)]; exact q) (fun c xs q => by rw [upd_ne (other q)]; exact q)
theorem flying_kept {base h h' : Heap} {l : List Env} {e : Addr} {Z : Obj → Prop} (x : HandSPX.FlyingZ base l e Z h) (k : ∀ b o, h.get? b = some o → h'.get? b = some o) : HandSPX.FlyingZ base l e Z h' := by
  obtain ⟨st, n, ff, oe, vs, T, oT, ts, h1, h2, h3, h4, h5, h6, h7, h8, h9⟩ := x
  exact ⟨fun b o q => k b o (st b o q), n, Heap.FunFrames.of_keeps (fun b o q _ => ⟨o, k b o q, rfl⟩) ff, oe, vs, T, oT, ts, k _ _ h1, h2, h3, h4, h5, h6, k _ _ h7, h8, h9⟩
/-- what stands behind `except`: m tells of a class whether it is taken -/
def ExT (X : Cx) (te : Expr) (m : Value → Option Bool) : Prop :=
  ∀ (a : Addr) (oe : Obj) (pn : List (Addr × Obj)) (s : Shared) (σ : Sg) (H : Hp) (b : Bool) (Q : Value → Shared → Prop) (E : Value → Shared → Prop), Inv (X.suite a ((a, oe) :: pn)) [] σ H s → s.heap.get? a = some oe → m oe.cls = some b →
    (∀ c h' t', (∀ b o, s.heap.get? b = some o → h'.get? b = some o) → PySem.W.Looks (model X.prog X.w) h' (excMatches (.ref a) c) b → Q c { s with heap := h', toks := t' }) → wpAny (model X.prog X.w) (X.A.mark (some (.ref a))) (eval te X.env) Q E s
theorem type_at {M : Model} {h : Heap} {a : Addr} {o : Obj} (e : h.get? a = some o) : PySem.W.Looks M h (typeOf (.ref a)) o.cls := fun A Q E s k q => wpAny_typeOf_ref (k _ _ e) q
theorem ext_name {x : Str} {C : Addr} {p : Pos} (hg : Gl X x) (hm : X.mg x = some (.ref C)) (hd : (x == ("__debug__" : Str)) = false := by decide) : ExT X (.Name x p) (fun cls => PySem.W.exmOne X.K cls (.ref C)) := by
  intro a oe pn s σ H b Q E I ha hb hq
  have hq' := hq (.ref C) s.heap s.toks (fun _ _ e => e) (PySem.W.exm_one I.kIn (type_at ha) hb)
  exact ld_glob (X := X.suite a ((a, oe) :: pn)) I hg hm hq' hd
theorem ext_tup3 {x y z : Str} {C1 C2 C3 : Addr} {p1 p2 p3 p : Pos} {k : Nat} (g1 : Gl X x) (m1 : X.mg x = some (.ref C1)) (g2 : Gl X y) (m2 : X.mg y = some (.ref C2)) (g3 : Gl X z) (m3 : X.mg z = some (.ref C3))
    (d1 : (x == ("__debug__" : Str)) = false := by decide) (d2 : (y == ("__debug__" : Str)) = false := by decide) (d3 : (z == ("__debug__" : Str)) = false := by decide) :
    ExT X (.Tuple [.Name x p1, .Name y p2, .Name z p3] k p) (fun cls => PySem.W.exmAny X.K cls [.ref C1, .ref C2, .ref C3]) := by
  intro a oe pn s σ H b Q E I ha hb hq
  have l1 := fun {Q E} => ld_glob (E := E) (pos := p1) (Q := Q) I g1 m1 (hd := d1)
  have l2 := fun {Q E} => ld_glob (E := E) (pos := p2) (Q := Q) I g2 m2 (hd := d2)
  have l3 := fun {Q E} => ld_glob (E := E) (pos := p3) (Q := Q) I g3 m3 (hd := d3)
  refine Tuple_ ?_
  show wpAny _ _ (spliced [(false, eval (.Name x p1) X.env), (false, eval (.Name y p2) X.env), (false, eval (.Name z p3) X.env)]) _ _ _
  refine Calls.spliced_cons (l1 (Calls.spliced_cons (l2 (Calls.spliced_cons (l3 (Calls.spliced_nil ?_))))))
  refine wpAny_newObj_type ?_ (by show 3 ≤ sizeLine; decide)
  refine hq _ _ _ (fun b o e => Heap.get?_push_of_some _ e) (PySem.W.exm_tup3 (I.kIn.keeps fun b o e => Heap.get?_push_of_some _ e) (type_at (Heap.get?_push_of_some _ ha)) (Heap.get?_push_size _ rfl) hb)
/-- what `except .. as n` wishes of an exception of the body; i: n's slot -/
def wK (m : Value → Option Bool) (i : Nat) (ts : Addr → TS) (Wout : WX) (D : Ends) : WX := fun cls d σ H =>
  ∃ b, m cls = some b ∧ (b = true → ∃ C, cls = .ref C ∧ ∀ a, H a = none → ts a { nx := fun σ' H' => D.nx (σ'.set i none) (upd H' a (excO a C d)), rt := fun _ _ => False, bk := fun _ _ => False, ct := fun _ _ => False } (σ.set i (some (.ref a))) H) ∧
    (b = false → Wout cls d σ H)
theorem ps_tryK {n : Str} {i : Nat} {te : Expr} {m : Value → Option Bool} {body rest : List Stmt} {st : Stmt} {pos hpos : Pos} {tb : WX → TS} {ts : Addr → TS} {Wout : WX}
    (hs : X.stack = X.env :: X.outer) (hf : X.env.frame = some X.env.locals) (hN : X.N.Nodup) (hi : X.N[i]? = some n) (hl : X.env.kindOf n = some .local) (hex : X.ex = []) (ht : ExT X te m) (tk : Takes X Wout)
    (hb : ∀ (W : WX) (pn : List (Addr × Obj)) (xe : Value → Shared → Prop), Takes (X.tr pn xe) W → PassesOwn (model X.prog X.w) X.A X.env xe → PSs (X.tr pn xe) body (tb W))
    (hsu : ∀ (a : Addr) (o : Obj) (pn : List (Addr × Obj)), PSs (X.suite a ((a, o) :: pn)) (st :: rest) (ts a)) :
    PS X (.Try body [.ExceptHandler (some te) (some n) (st :: rest) hpos] [] [] pos) (fun D σ H => tb (wK m i ts Wout D) D σ H) := by
  refine ⟨fun pins s σ H D I h => ?_⟩
  have okX := I.ok
  have frames : X.A.frames = some (X.env :: X.outer) := by rw [okX.frames, hs]
  refine wpAny_Try_except ?_
  refine wpAny_mono ((hb (wK m i ts Wout D) (X.pn ++ pins) (fun u s1 => wpAny (model X.prog X.w) X.A (noteFrame u X.env) (fun _ s2 => wpAny (model X.prog X.w) X.A (setFlight u none) (fun _ s3 =>
    wpAny (model X.prog X.w) X.A (handleBy u X.env [.ExceptHandler (some te) (some n) (st :: rest) hpos]) (SP X pins D) X.xe s3) X.xe s2) X.xe s1) (fun u s1 air => ?_) PassesOwn.looking).run [] s σ H D (I.toTry _) h) (fun fl s1 done => ?_) (fun u s1 z => z)
  · obtain ⟨a, B, sI, pinsI, σ1, H1, cls, d, rfl, Jtr, ground, up, sky, na, eos, ebare, b, hm, hyes, hno⟩ := air
    have JI : Inv X pins σ1 H1 sI := Jtr.ofTry okX
    rw [show X.stack = X.env :: X.outer from hs] at sky
    show wpAny (model X.prog X.w) X.A (noteFrame (.ref a) X.env) _ _ _
    refine Sky.land Zc.steady frames hf sky fun hA flA upA => ?_
    have JA : Inv X pins σ1 H1 { s1 with heap := hA } := JI.landed ground flA.1 (up.trans upA) eos ebare
    obtain ⟨oA, vA, getA, zA, dA⟩ := flA.there
    have noFrame : a ∉ frs (X.env :: X.outer) := fun hm => by
      obtain ⟨_, o', e', hnf⟩ := flA.2.2.1.mem hm
      rw [getA] at e'
      cases e'
      exact hnf _ dA
    have nL : a ≠ X.env.locals := fun z => noFrame (List.mem_filterMap.mpr ⟨X.env, List.mem_cons_self, by rw [hf, z]⟩)
    have nF : a ∉ X.fs := fun hm => by
      obtain ⟨e, he, q⟩ := List.mem_filterMap.mp hm
      exact noFrame (List.mem_filterMap.mpr ⟨e, List.mem_cons_of_mem _ he, q⟩)
    -- the exception is younger than the state without it
    have gone : sI.heap.get? a = none := by
      cases q : sI.heap.get? a with
      | none => rfl
      | some o =>
        have z := ground a o q (by rw [hs]; exact noFrame)
        rw [flA.2.1] at z
        cases z
    have n0 : X.s_0.heap.get? a = none := by
      cases q : X.s_0.heap.get? a with
      | none => rfl
      | some o =>
        obtain ⟨o', z⟩ := JI.base.there a o q (by rw [hex]; simp)
        rw [gone] at z
        cases z
    have nP : ∀ p ∈ X.pn ++ pins, p.1 ≠ a := fun p hp z => by
      have q := (JI.pin p hp).1
      rw [z, gone] at q
      cases q
    have SA := JA.suite getA dA na nL nF
    refine wpAny_handleBy_cons (codeAny_handlers_test ?_) (by intro q; cases q)
    refine ht a oA (X.pn ++ pins) { s1 with heap := hA } σ1 H1 b _ _ SA getA (by rw [zA.1]; exact hm) fun c hB tB kB LB => ?_
    have flB := flying_kept flA kB
    refine LB.here ?_
    cases b with
    | true =>
      obtain ⟨C, eC, suiteOk⟩ := hyes rfl
      subst eC
      refine codeAny_handlers_suite_as ?_
      refine HandSPX.lands_againZ flB fun hC flC upC => ?_
      have upAll : sI.heap.UpToSlots hC := ((up.trans upA).trans (Heap.UpToSlots.of_keeps kB)).trans upC
      have JC : Inv X pins σ1 H1 { s1 with heap := hC, toks := tB } := JI.landed ground flC.1 upAll eos ebare
      obtain ⟨oC, vC, getC, zC, dC⟩ := flC.there
      have SC := JC.suite getC dC na nL nF
      refine store_ok (X := X.suite a ((a, oC) :: (X.pn ++ pins))) (v := .ref a) SC hN hi (.inl hl) rfl (fun sD SD => ?_) (.inr hl)
      refine wpAny_mono ((hsu a oC (X.pn ++ pins)).run [] sD _ H1 _ SD (suiteOk a na)) (fun fl sE hsp => ?_) (fun _ _ z => False.elim z)
      cases fl with
      | next =>
        obtain ⟨σE, HE, SE, qE⟩ := hsp
        have pinE := SE.pin (a, oC) (List.mem_append_left _ List.mem_cons_self)
        have JE : Inv X ((a, oC) :: pins) σE HE sE := ⟨okX, SE.os, SE.bare, SE.base, SE.loc, SE.cell, SE.free, SE.freeC, fun p hp => by
          rcases List.mem_append.mp hp with z | z
          · exact SE.pin p (List.mem_append_left _ (List.mem_cons_of_mem _ (List.mem_append_left _ z)))
          · rcases List.mem_cons.mp z with z | z
            · subst z; exact pinE
            · exact SE.pin p (List.mem_append_left _ (List.mem_cons_of_mem _ (List.mem_append_right _ z))), SE.hok, SE.len⟩
        refine gone_ok JE hN hi hl fun sG JG => ?_
        obtain ⟨getG, nG, _, _, ncG⟩ := JG.pin (a, oC) (List.mem_append_right _ List.mem_cons_self)
        have JG' : Inv X pins (σE.set i none) HE sG := ⟨okX, JG.os, JG.bare, JG.base, JG.loc, JG.cell, JG.free, JG.freeC, fun p hp => by
          rcases List.mem_append.mp hp with z | z
          · exact JG.pin p (List.mem_append_left _ z)
          · exact JG.pin p (List.mem_append_right _ (List.mem_cons_of_mem _ z)), JG.hok, JG.len⟩
        refine ⟨_, _, adopt (a := a) (o := excO a C d) JG' nG n0 nL (fun x c e z => ?_) nP ?_, qE⟩
        · obtain ⟨v, oc, hc, hd⟩ := JG.cell x c e
          rw [z, getG] at hc
          cases hc
          exact ncG _ hd
        · exact ⟨⟨oC, vC, getG, zC.1, zC.2, dC⟩, ⟨oC, getG⟩, fun g1 g2 ⟨o, vs, e, r⟩ k => ⟨o, vs, k _ e, r⟩⟩
      | brk =>
        obtain ⟨_, _, _, z⟩ := hsp
        exact z.elim
      | cont =>
        obtain ⟨_, _, _, z⟩ := hsp
        exact z.elim
      | ret u =>
        obtain ⟨_, _, _, _, _, z⟩ := hsp
        exact z.elim
    | false =>
      show wpAny _ X.A (handleBy (.ref a) X.env []) _ _ _
      refine wpAny_handleBy_nil ?_
      obtain ⟨_, _, _, oe, vs, T, oT, ts', he, hz, hd, h1, _⟩ := id flB
      unfold PySem.passOn
      refine wpAny_bind (wpAny_field he hd h1 ?_)
      rw [if_neg (show ¬ ((Value.ref T == Value.none) = true) by simp)]
      have on : wpAny (model X.prog X.w) X.A (setFlight (.ref a) X.env.frame) (fun _ s4 => wpAny (model X.prog X.w) X.A (throw (.ref a) : Sem Flow) (SP X pins D) X.xe s4) X.xe { s1 with heap := hB, toks := tB } := by
        rw [hf]
        refine HandSPX.setFlight_upZ flB fun hC heldC upC => wpAny_throw (tk _ _ ?_)
        exact ⟨a, B, sI, pins, σ1, H1, cls, d, rfl, JI, ground, ((up.trans upA).trans (Heap.UpToSlots.of_keeps kB)).trans upC, .inr (.inr (by rw [hs]; exact heldC)), na, eos, ebare, hno rfl⟩
      first
        | exact wpAny_bind (wpAny_pure (wpAny_bind on))
        | exact wpAny_bind on
  · cases fl with
    | next =>
      obtain ⟨σ1, H1, J1, q⟩ := done
      exact wpAny_execs_nil ⟨σ1, H1, J1.ofTry okX, q⟩
    | brk =>
      obtain ⟨σ1, H1, J1, q⟩ := done
      exact ⟨σ1, H1, J1.ofTry okX, q⟩
    | cont =>
      obtain ⟨σ1, H1, J1, q⟩ := done
      exact ⟨σ1, H1, J1.ofTry okX, q⟩
    | ret u =>
      obtain ⟨v, σ1, H1, J1, r, q⟩ := done
      exact ⟨v, σ1, H1, J1.ofTry okX, r, q⟩
end
end DL

namespace DL
open PySem PySem.Spec PyProof.Rows L2
section
variable {X : Cx} {C : DC} {W : XW} {F F' H H' : Hp} {σ : Sg} {δ δ' : List SV}
/-- a slot is forgotten -/
theorem Rp.setU (R : Rp C F H σ δ) (i : Nat) (x : Option V) : Rp C F H (σ.set i x) (δ.set i .u) where
  ext := R.ext
  len := by simpa using R.len
  slot := fun j y t hy ht => by
    rcases get_set ht with ⟨rfl, rfl, _⟩ | ⟨hne, h2⟩
    · trivial
    · rw [List.getElem?_set_ne (Ne.symm hne)] at hy
      exact R.slot j y t hy h2
  apart := fun j k s t a h1 h2 h3 h4 h5 h6 => by
    rcases get_set h1 with ⟨rfl, rfl, _⟩ | ⟨n1, g1⟩
    · cases h2
    · rcases get_set h3 with ⟨rfl, rfl, _⟩ | ⟨n2, g2⟩
      · cases h4
      · rw [List.getElem?_set_ne (Ne.symm n1)] at h5
        rw [List.getElem?_set_ne (Ne.symm n2)] at h6
        exact R.apart j k s t a g1 h2 g2 h4 h5 h6
  own0 := fun j s a h1 h2 h3 => by
    rcases get_set h1 with ⟨rfl, rfl, _⟩ | ⟨n1, g1⟩
    · cases h2
    · rw [List.getElem?_set_ne (Ne.symm n1)] at h3
      exact R.own0 j s a g1 h2 h3
  old := R.old
  ext0 := R.ext0
  pers := R.pers
/-- what an exception is as data -/
def XD.data (e : XD) : D := excD e.cls (e.fs.getD [])
/-- try: s; except .. as n: y = n. i: n's slot, j: y's -/
def tryK (m : Str → Option Bool) (i j : Nat) (s : SS) : SS := fun δ => match s δ with
  | some (.ex e δ') => match m e.cls with
    | some true => if i < δ'.length then some (.nx (((δ'.set i .u).set j (.d e.data)).set i .u)) else none
    | some false => some (.ex e δ')
    | none => none
  | o => o
theorem ds_tryK {n y : Str} {i j : Nat} {te : Expr} {m : Value → Option Bool} {ms : Str → Option Bool} {body : List Stmt} {s : SS} {pos hpos apos npos ypos : Pos} 
    (hs : X.stack = X.env :: X.outer) (hf : X.env.frame = some X.env.locals) (hN : X.N.Nodup) (hi : X.N[i]? = some n) (hl : X.env.scope.names.lookup n = some .local) (hj : X.N[j]? = some y) (hy : Loc X.env.scope y) (hex : X.ex = []) (ht : ExT X te m) (tk : Takes X W)
    (hm : ∀ cls b, ms cls = some b → m (.ref (He.ga C.K cls)) = some b)
    (hb : ∀ (W' : XW) (pn : List (Addr × Obj)) (xe : Value → Shared → Prop), Takes (X.tr pn xe) W' → PassesOwn (model X.prog X.w) X.A X.env xe → DB (X.tr pn xe) C W' body s)
    (hsw : swapsWith (.Name n npos) (some (.Name y ypos)) apos.line X.env = pure false := by rfl) (hfy : X.fn y = true ∨ X.env.scope.names.lookup y = some .local := by first | exact .inl rfl | exact .inr rfl | assumption)
    (hdn : (n == ("__debug__" : Str)) = false := by decide) (hcn : (n == ("__classdict__" : Str)) = false := by decide) :
    DS X C W (.Try body [.ExceptHandler (some te) (some n) [.Assign [.Name y ypos] (.Name n npos) apos] hpos] [] [] pos) (tryK ms i j s) := by
  refine ps_mono (ps_tryK (ts := fun _ => tAsg (tVar i) (gName j)) (tb := fun W' => tS C W' s) hs hf hN hi hl hex ht tk (fun W' pn xe t p => hb W' pn xe t p) fun a o pn => ?_) fun D σ H ⟨F, δ, R, h⟩ => ⟨F, δ, R, ?_⟩
  · exact pss_one (ps_set (X := X.suite a ((a, o) :: pn)) (i := j) hN hj hy (pe_var (X := X.suite a ((a, o) :: pn)) hi (.inl hl) hdn hcn) hsw hfy)
  · unfold tryK at h
    cases q : s δ with
    | none => rw [q] at h; exact h
    | some o =>
      rw [q] at h
      cases o with
      | nx δ1 => exact h
      | rt r δ1 => exact h
      | bk δ1 => exact h
      | ct δ1 => exact h
      | ex e δ1 =>
        simp only at h
        cases q2 : ms e.cls with
        | none => rw [q2] at h; exact h.elim
        | some b =>
          rw [q2] at h
          intro σ1 F1 H1 od l1 R1 x1
          refine ⟨b, hm _ _ q2, fun eb => ?_, fun eb => ?_⟩
          · subst eb
            simp only at h
            by_cases hil : i < δ1.length
            case neg => rw [if_neg hil] at h; exact h.elim
            rw [if_pos hil] at h
            refine ⟨_, rfl, fun a na => ⟨.ref a, ?_, ?_⟩⟩
            · exact List.getElem?_set_self (by rw [← R1.len]; exact hil)
            · obtain ⟨S2, R2⟩ := R1.newF (excO a (He.ga C.K e.cls) od) na
              have dat : Dat C.K (upd F1 a (excO a (He.ga C.K e.cls) od)) (.ref a) e.data := by
                unfold XD.data
                unfold XOk at x1
                cases ef : e.fs with
                | none =>
                  rw [ef] at x1
                  subst x1
                  exact .exc0 (.inl upd_same)
                | some fs =>
                  rw [ef] at x1
                  obtain ⟨d, vs, rfl, hd, fl⟩ := x1
                  exact .exc1 (.inl upd_same) (S2.ext _ _ hd) (fl.mono S2.ext)
              have R3 := ((R2.setU i (some (.ref a))).setD (i := j) dat).setU i none
              exact h _ _ _ (l1.trans S2.ext) R3
          · subst eb
            exact h σ1 F1 H1 od l1 R1 x1
end
end DL

namespace DL
open PySem PySem.Spec PyProof.Rows L2
section
variable {X : Cx} {e : Expr} {es : List Expr} {ta : TA} {p1 p2 pos : Pos}
/-- B.__init__(self, ..), B an own class that has ValueError's -/
theorem pe_baseI {x : Str} {B : Addr} {pl : Sem Bool} (hg : Gl X x) (hm : X.mg x = some (.ref B)) (sp : PySem.W.specialIn X.K (.ref B) "__getattribute__" = some (some (.builtin "type.__getattribute__"))) (rd : PySem.W.readsIn X.K B (.type "type") = true)
    (vV : PySem.W.findCls X.K (.ref B) (.type "type") "__init__" = some (.val (.builtin "ValueError.__init__"))) (ha : PA X (e :: es) ta)
    (hc : eval (.Call (.Attribute (.Name x p1) "__init__" p2) (e :: es) [] pos) X.env = (do
      let ov ← eval (.Name x p1) X.env
      standAt p2.atName
      let (f, first) ← holding [ov] (getMethod ov "__init__" pl)
      callWith pos f first (backTo pos (starEach (e :: es) X.env)) (backToKw pos (keywordEach [] X.env))) := by rfl)
    (hdb : (x == ("__debug__" : Str)) = false := by decide) (he : starEach (e :: es) X.env = (false, eval e X.env) :: starEach es X.env := by rfl) (hpl : (backTo pos (starEach es X.env)).any (·.1) = false := by rfl) :
    PE X (.Call (.Attribute (.Name x p1) "__init__" p2) (e :: es) [] pos) (tVeI X.K ta) := by
  refine ⟨fun pins s σ H Q I h => ?_⟩
  refine PySem.W.methodCall_KW (ld_glob I hg hm ?_ hdb) hc
  refine PySem.W.method_cls I.kIn sp (PySem.W.cls_value I.kIn rd vV (by decide +kernel) ?_)
  show wpAny _ _ (callWith pos (Value.builtin "ValueError.__init__") [] (backTo pos (starEach (e :: es) X.env)) []) _ _ _
  refine PyProof.Rows.callWith_method1 (thn (ha.run pos pins _ σ H _ (I.tok _) h) fun us s1 ⟨vs, H1, I1, r1, a, C, ws, ev, hl, T, ea, q⟩ => ?_) he hpl
  subst ev
  cases r1 with
  | @cons _ u0 _ ur ra rest =>
    obtain rfl : u0 = Value.ref a := ra
    have hlen : ur.length ≤ sizeLine := by
      rw [← Paired.length rest, sizeLine_eq]
      omega
    exact oinit_ok T I1 ea hlen fun s' J => ⟨.non, H1, J, rfl, q⟩
end
/-- what an own __init__ does: the base's, then a field after the other -/
def spI (C : Addr) (fields : List Str) : Sp := fun vs H Q _ => ∃ (a : Addr) (ys : List V), vs = .ref a :: ys ∧ ys.length = fields.length ∧ H a = some (exo a C none) ∧ ∀ d, H d = none → d ≠ a → Q .non (upd (upd H d (exd d (fields.zip ys).reverse)) a (exo a C (some d)))
section
variable {P : Program} {w : World} {K : PySem.W.Frag} {mg : Str → Option Value} {base : Heap} {qual : Str} {params : Arguments} {scope : Scope} {dvs : List V} {kws : List (Str × V)} {f C B : Addr} {fd : FuncData} {x y msg : Str} {body : List Stmt}
theorem init1_read {msg : Str} {vs : List V} {H : Hp} {Q : VK} {E : XK} (T : OexC K C) (hno : PySem.W.findIn K (.ref C) y = some none) (h : spI C [y] vs H Q E) :
    tSeq (tDrop (tVeI K (tCons (tVar 0) (tCons (tC (.str msg)) tNil)))) (tOst K y (tVar 0) (tVar 1)) { nx := fun _ H' => Q .non H', rt := Q } (start ["self", y] vs) H := by
  obtain ⟨a, ys, rfl, hl, ea, q⟩ := h
  match ys, hl with
  | [v], _ =>
    refine ⟨.ref a, rfl, a, C, [.str msg], rfl, Nat.le_of_ble_eq_true rfl, T, ea, ?_⟩
    exact ⟨v, rfl, .ref a, rfl, a, C, rfl, T, hno, .inl ⟨ea, fun d nd ne => q d nd ne⟩⟩
theorem spI_len {fields : List Str} {vs : List V} {H : Hp} {Q : VK} {E : XK} (h : spI C fields vs H Q E) : vs.length = fields.length + 1 := by
  obtain ⟨a, ys, rfl, hl, _⟩ := h
  simp [hl]
end
/-! ### raise C(..) -/
section
variable {X : Cx} {C : DC} {W : XW} {F F' H H' : Hp} {σ : Sg} {δ δ' : List SV}
theorem Flds.app {K : PySem.W.Frag} : ∀ {vs ws : List (Str × V)} {ds es : List (Str × D)}, Flds K F vs ds → Flds K F ws es → Flds K F (vs ++ ws) (ds ++ es)
  | _, _, _, _, .nil, s => s
  | _, _, _, _, .cons h t, s => .cons h (Flds.app t s)
theorem Flds.zipR {K : PySem.W.Frag} : ∀ (fields : List Str) {vs : List V} {ds : List D}, Dats K F vs ds → Flds K F (fields.zip vs).reverse (fields.zip ds).reverse
  | [], _, _, _ => by simpa using Flds.nil
  | f :: fs, _, _, .nil => by simpa using Flds.nil
  | f :: fs, _, _, .cons h t => by
    simp only [List.zip_cons_cons, List.reverse_cons]
    exact (Flds.zipR fs t).app (.cons h .nil)
def raiseF (cls : Str) (fields : List Str) (dfl : List D) (fa : SA) : SS := bindS fa fun rs δ => match datas rs with
  | some xs => if (xs ++ dfl).length = fields.length ∧ xs.length ≤ 1000 then some (.ex ⟨cls, some (fields.zip (xs ++ dfl)).reverse⟩ δ) else none
  | none => none
theorem ds_raiseF {es : List Expr} {call : Expr} {cls : Str} {fields : List Str} {dfl : List D} {dvs : List V} {fa : SA} {pos : Pos} (hc : X.calm = true) (tk : Takes X W) (ha : DA X C W es fa) (hd : ∀ F, Dats C.K F dvs dfl)
    (mk : ∀ ta, PA X es ta → PMk X call (tMkO (He.ga C.K cls) (spI (He.ga C.K cls) fields) dvs ta)) : DS X C W (.Raise (some call) none pos) (raiseF cls fields dfl fa) := by
  refine ps_mono (ps_raise hc tk (mk _ ha)) fun D σ H h => ?_
  refine bindSA h fun vs F1 H1 δ1 rs R1 V1 q => ?_
  cases q1 : datas rs with
  | none => simp only [q1] at q; exact q.elim
  | some xs =>
    simp only [q1] at q
    by_cases hl : (xs ++ dfl).length = fields.length ∧ xs.length ≤ 1000
    case neg => rw [if_neg hl] at q; exact q.elim
    rw [if_pos hl] at q
    have dv := V1.datas q1
    have dall := dv.append (hd F1)
    refine ⟨by rw [dv.length]; exact hl.2, fun a na => ⟨a, vs ++ dvs, rfl, dall.length.trans hl.1, upd_same, fun d nd ne => ⟨rfl, d, _, upd_same, by rw [upd_ne ne, upd_same], ?_, ?_⟩⟩⟩
    · rw [upd_ne ne] at nd; exact nd
    · have nd1 : H1 d = none := by rw [upd_ne ne] at nd; exact nd
      have eqH : upd (del (upd (upd (upd H1 a (exo a (He.ga C.K cls) none)) d (exd d (fields.zip (vs ++ dvs)).reverse)) a (exo a (He.ga C.K cls) (some d))) a) d (.xd (fields.zip (vs ++ dvs)).reverse) = upd H1 d (.xd (fields.zip (vs ++ dvs)).reverse) := by
        funext b
        by_cases hb : b = d
        · rw [hb, upd_same, upd_same]
        · rw [upd_ne hb, upd_ne hb]
          by_cases hb2 : b = a
          · rw [hb2, del_same, na]
          · rw [del_ne hb2, upd_ne hb2, upd_ne hb, upd_ne hb2]
      rw [eqH]
      obtain ⟨S2, R2⟩ := R1.newF (.xd (fields.zip (vs ++ dvs)).reverse) nd1
      exact q σ _ _ (some d) S2.ext R2 ⟨d, _, rfl, .inl upd_same, (Flds.zipR fields dall).mono S2.ext⟩
end
end DL

namespace DL
open PySem PySem.Spec PyProof.Rows L2
/-! ### an exception that is held -/
section
variable {X : Cx} {C : DC} {W : XW} {F F' H H' : Hp} {σ : Sg} {δ δ' : List SV}
/-- at a: an exception of the class at D -/
inductive ExAt (H : Hp) (a D : Addr) : Option (List (Str × V)) → Prop
  | no : Rd H a (excO a D none) → ExAt H a D none
  | yes {d : Addr} {vs : List (Str × V)} : Rd H a (excO a D (some d)) → Rd H d (.xd vs) → ExAt H a D (some vs)
theorem ExAt.inst {o : Option (List (Str × V))} {a D : Addr} {pins : List (Addr × Obj)} {s : Shared} (I : Inv X pins σ H s) (x : ExAt H a D o) : ∃ (oe : Obj) (od : Option Obj), PySem.W.InstAt s.heap a oe D od ∧ ∀ vs, o = some vs → ∃ (dd : Addr) (obj : Obj), od = some obj ∧ s.heap.get? dd = some obj ∧ ObjOk X.prog X.w H s.heap dd (.xd vs) := by
  cases x with
  | no h =>
    obtain ⟨⟨oe, vs, e, hc, hd, hf⟩, _⟩ := (show ObjOk X.prog X.w H s.heap a (excO a D none) from rd_of I.hok h)
    exact ⟨oe, none, ⟨e, hc, by unfold PySem.W.notCls; rw [hf] <;> rfl, by rw [hd]; trivial⟩, fun vs z => by cases z⟩
  | @yes d vs h h2 =>
    obtain ⟨⟨oe, fv, e, hc, hd, hf⟩, _⟩ := (show ObjOk X.prog X.w H s.heap a (excO a D (some d)) from rd_of I.hok h)
    have hx := (show ObjOk X.prog X.w H s.heap d (.xd vs) from rd_of I.hok h2)
    obtain ⟨mA, hns, hr⟩ := id hx
    obtain ⟨od, ho, hl⟩ := lookIn_ns hns
    exact ⟨oe, some od, ⟨e, hc, by unfold PySem.W.notCls; rw [hf] <;> rfl, by rw [hd]; exact ho⟩, fun vs' z => by cases z; exact ⟨d, od, rfl, ho, hx⟩⟩
theorem call_isX : CallR X (.builtin "isinstance") (fun xs H Q => ∃ (a D : Addr) (o : Option (List (Str × V))) (c : V) (u : Value) (b : Bool), xs = [.ref a, c] ∧ ExAt H a D o ∧ ExcC X.K D ∧ ClsV c u ∧ PySem.W.kitOne X.K (.ref D) u = some b ∧ Q (.bl b) H) := by
  intro pins s σ H xs us Q I r h
  obtain ⟨a, D, o, c, u, b, rfl, x, T, k, e, q⟩ := h
  obtain ⟨u1, u2, rfl, r1, r2⟩ := Vals.two r
  have e2 := k.eq r2
  subst e2
  cases (show u1 = Value.ref a from r1)
  obtain ⟨oe, od, J, _⟩ := x.inst I
  obtain ⟨cd, hc, _⟩ := PySem.W.any_some T.hd
  exact PySem.W.kia_one (PySem.W.kitx_exc (by rw [hc]; rfl) T.hg T.hk T.hs T.ha T.hn T.ht T.hm) I.kIn J e (fun z => nomatch z) fun tk => ⟨.bl b, H, I.tok tk, rfl, q⟩
theorem call_isXT : CallR X (.builtin "isinstance") (fun xs H Q => ∃ (a D tp : Addr) (o : Option (List (Str × V))) (cs : List V) (ws : List Value) (b : Bool), xs = [.ref a, .ref tp] ∧ H tp = some (.tup cs) ∧ ExAt H a D o ∧ ExcC X.K D ∧ Paired ClsV cs ws ∧ PySem.W.kitAny X.K (.ref D) ws = some b ∧ Q (.bl b) H) := by
  intro pins s σ H xs us Q I r h
  obtain ⟨a, D, tp, o, cs, ws, b, rfl, hT, x, T, k, e, q⟩ := h
  obtain ⟨u1, u2, rfl, r1, r2⟩ := Vals.two r
  cases (show u1 = Value.ref a from r1)
  cases (show u2 = Value.ref tp from r2)
  obtain ⟨oe, od, J, _⟩ := x.inst I
  obtain ⟨cd, hc, _⟩ := PySem.W.any_some T.hd
  obtain ⟨_, its, rv, ob, h1, h2, n, h3⟩ := (show ObjOk X.prog X.w H s.heap tp (.tup cs) from I.hok tp _ hT)
  have e3 := ClsV.all k rv
  subst e3
  obtain ⟨oc, odx, dt, sl⟩ := ob
  simp only at h2 h3
  subst h2 h3
  exact PySem.W.kia_tup (PySem.W.kitx_exc (by rw [hc]; rfl) T.hg T.hk T.hs T.ha T.hn T.ht T.hm) I.kIn J h1 e (fun z => nomatch z) fun tk => ⟨.bl b, H, I.tok tk, rfl, q⟩
/-- the fields of an exception as data -/
def excF : List (D × D) → Option (List (Str × D))
  | [] => some []
  | (.str f, x) :: r => (excF r).map ((f, x) :: ·)
  | _ => none
def excOf : D → Option (Str × List (Str × D))
  | .dict ((.tuple [], .str cls) :: r) => (excF r).map fun fs => (cls, fs)
  | _ => none
theorem excF_map : ∀ fs : List (Str × D), excF (fs.map fun p => (.str p.1, p.2)) = some fs
  | [] => rfl
  | p :: r => by simp [excF, excF_map r]
theorem excOf_D (cls : Str) (fs : List (Str × D)) : excOf (excD cls fs) = some (cls, fs) := by
  unfold excD excOf
  simp only
  rw [excF_map]
  rfl
theorem exc_at {v : V} {x : D} {cls : Str} {fs : List (Str × D)} (e : Le F H) (h : DatP C.K F H v x) (ex : excOf x = some (cls, fs)) : ∃ (a : Addr) (o : Option (List (Str × V))), v = .ref a ∧ ExAt H a (He.ga C.K cls) o ∧ (fs = [] ∨ ∃ vs, o = some vs ∧ Flds C.K F vs fs) := by
  rcases h with h | ⟨_, _, _, _, e2, _⟩ | ⟨a, ks, ds, e1, e2, _⟩
  · cases h with
    | dct h1 t =>
      cases t with
      | nil => cases ex
      | @cons k => cases k <;> cases ex
    | dcT h1 => cases ex
    | @exc0 a c h1 =>
      rw [excOf_D] at ex; cases ex
      exact ⟨a, none, rfl, .no (e _ _ h1), .inl rfl⟩
    | @exc1 a d c vs fs' h1 h2 t =>
      rw [excOf_D] at ex; cases ex
      exact ⟨a, some vs, rfl, .yes (e _ _ h1) (e _ _ h2), .inr ⟨vs, rfl, t⟩⟩
    | _ => cases ex
  · subst e2; cases ex
  · subst e2
    cases ds with
    | nil => cases ex
    | cons p r =>
      obtain ⟨k, y⟩ := p
      cases k <;> cases ex
def isxE (tbl : Str → Option Bool) (f : SE) : SE := bindE (pkE f) fun r => fun δ => match (r.get δ).bind excOf with
  | some (cls, _) => (tbl cls).map fun b => .ok (.d (.bool b)) δ
  | none => none
theorem isx_read {tbl : Str → Option Bool} {f : SE} {Q : VK} (h : tD C W (isxE tbl f) σ H Q) : tD C W (pkE f) σ H fun v H1 => ∃ (a : Addr) (cls : Str) (o : Option (List (Str × V))) (b : Bool), v = .ref a ∧ ExAt H1 a (He.ga C.K cls) o ∧ tbl cls = some b ∧ ∃ F1 δ1, Rp C F1 H1 σ δ1 ∧ ∀ F2 H2, Stp F1 H1 σ δ1 F2 H2 δ1 → Rp C F2 H2 σ δ1 → Q (.bl b) H2 := by
  obtain ⟨F, δ, h⟩ := h
  refine bindV (RVb := RVl C) (mbV) h fun v F1 H1 δ1 r1 e1 S1 R1 V1 h1 => ?_
  obtain ⟨o, ho⟩ := h1.some
  have ho' := ho
  cases q : r1.get δ1 with
  | none => simp only [q] at ho; cases ho
  | some x =>
    cases q2 : excOf x with
    | none => simp only [q, Option.bind_some, q2] at ho; cases ho
    | some p =>
      obtain ⟨cls, fs⟩ := p
      simp only [q, Option.bind_some, q2] at ho
      cases q3 : tbl cls with
      | none => rw [q3] at ho; cases ho
      | some b =>
        rw [q3] at ho
        cases ho
        obtain ⟨a, o, rfl, x1, _⟩ := exc_at R1.ext (V1.get R1 q) q2
        exact ⟨a, cls, o, b, rfl, x1, q3, F1, δ1, R1, fun F2 H2 S2 R2 => h1.use ho' S2 R2 (Dat.bl b)⟩
theorem de_isx {tbl : Str → Option Bool} {e ce : Expr} {f : SE} {cv : V} {u : Value} {p pos : Pos} (hK : C.K = X.K) (hg : Gl X "isinstance") (hm : X.mg "isinstance" = none) (hc : PE X ce (tC cv)) (kc : ClsV cv u)
    (ht : ∀ cls b, tbl cls = some b → PySem.W.kitOne C.K (.ref (He.ga C.K cls)) u = some b ∧ ExcC C.K (He.ga C.K cls)) (ha : DE X C W e f)
    (hs : starEach [e, ce] X.env = (false, eval e X.env) :: starEach [ce] X.env := by rfl) (hs2 : starEach [ce] X.env = (false, eval ce X.env) :: starEach [] X.env := by rfl) (hpl : (backTo pos (starEach [ce] X.env)).any (·.1) = false := by rfl) :
    DE X C W (.Call (.Name "isinstance" p) [e, ce] [] pos) (isxE tbl f) := by
  have A : PA X [e, ce] _ := pa_cons (de_pk ha) (pa_cons hc pa_nil hs2) hs
  refine pe_mono (pe_callB call_isX hg hm (by decide +kernel) A (he := hs) (hpl := hpl)) fun σ H Q h => ?_
  obtain ⟨F, δ, h2⟩ := isx_read h
  refine ⟨F, δ, h2.mono fun v H1 ⟨a, cls, o, b, ev, x, q, F1, δ1, R1, k⟩ => ?_⟩
  subst ev
  obtain ⟨k1, k2⟩ := ht cls b q
  exact ⟨a, _, o, cv, u, b, rfl, x, by rw [← hK]; exact k2, kc, by rw [← hK]; exact k1, k F1 H1 Stp.refl R1⟩
/-- classes, one behind the other -/
inductive CsT (X : Cx) : List Expr → TA → List V → List Value → Prop
  | nil : CsT X [] tNil [] []
  | cons {ce : Expr} {es : List Expr} {t : TA} {cv : V} {u : Value} {cs : List V} {us : List Value} : PE X ce (tC cv) → ClsV cv u → CsT X es t cs us → starEach (ce :: es) X.env = (false, eval ce X.env) :: starEach es X.env → CsT X (ce :: es) (tCons (tC cv) t) (cv :: cs) (u :: us)
theorem CsT.pa : ∀ {es : List Expr} {t : TA} {cs : List V} {us : List Value}, CsT X es t cs us → PA X es t ∧ Paired ClsV cs us ∧ ∀ (σ : Sg) (H : Hp) (Q : List V → Hp → Prop), Q cs H → t σ H Q
  | _, _, _, _, .nil => ⟨pa_nil, .nil, fun _ _ _ q => q⟩
  | _, _, _, _, .cons h k r s => by
    obtain ⟨a, b, c⟩ := r.pa
    exact ⟨pa_cons h a s, .cons k b, fun σ H Q q => c σ H _ q⟩
theorem de_isxT {tbl : Str → Option Bool} {e : Expr} {ces : List Expr} {f : SE} {t : TA} {cs : List V} {us : List Value} {p pos tpos : Pos} {kk : Nat} (hK : C.K = X.K) (hg : Gl X "isinstance") (hm : X.mg "isinstance" = none) (hc : CsT X ces t cs us) (hz : cs.length ≤ sizeLine)
    (ht : ∀ cls b, tbl cls = some b → PySem.W.kitAny C.K (.ref (He.ga C.K cls)) us = some b ∧ ExcC C.K (He.ga C.K cls)) (ha : DE X C W e f)
    (hs : starEach [e, .Tuple ces kk tpos] X.env = (false, eval e X.env) :: starEach [.Tuple ces kk tpos] X.env := by rfl) (hs2 : starEach [.Tuple ces kk tpos] X.env = (false, eval (.Tuple ces kk tpos) X.env) :: starEach [] X.env := by rfl) (hpl : (backTo pos (starEach [.Tuple ces kk tpos] X.env)).any (·.1) = false := by rfl) :
    DE X C W (.Call (.Name "isinstance" p) [e, .Tuple ces kk tpos] [] pos) (isxE tbl f) := by
  obtain ⟨a1, a2, a3⟩ := hc.pa
  have A : PA X [e, .Tuple ces kk tpos] _ := pa_cons (de_pk ha) (pa_cons (pe_tup a1) pa_nil hs2) hs
  refine pe_mono (pe_callB call_isXT hg hm (by decide +kernel) A (he := hs) (hpl := hpl)) fun σ H Q h => ?_
  obtain ⟨F, δ, h2⟩ := isx_read h
  refine ⟨F, δ, h2.mono fun v H1 ⟨a, cls, o, b, ev, x, q, F1, δ1, R1, k⟩ => ?_⟩
  subst ev
  obtain ⟨k1, k2⟩ := ht cls b q
  refine a3 σ H1 _ ⟨hz, fun tp np => ?_⟩
  obtain ⟨S2, R2⟩ := R1.newF (.tup cs) np
  have up : ∀ {b : Addr} {u : HO}, Rd H1 b u → Rd (upd H1 tp (.tup cs)) b u := fun h => le_upd np _ _ h
  have x2 : ExAt (upd H1 tp (.tup cs)) a (He.ga C.K cls) o := by
    cases x with
    | no h => exact .no (up h)
    | yes h h' => exact .yes (up h) (up h')
  exact ⟨a, _, tp, o, cs, us, b, rfl, upd_same, x2, by rw [← hK]; exact k2, a2, by rw [← hK]; exact k1, k _ _ S2 R2⟩
/-- e.f -/
def attE (ok : Str → Bool) (f : Str) (fe : SE) : SE := bindE (pkE fe) fun r => fun δ => match (r.get δ).bind excOf with
  | some (cls, fs) => if ok cls = true then (fs.lookup f).map fun x => .ok (.d x) δ else none
  | none => none
theorem Flds.look {K : PySem.W.Frag} {f : Str} {x : D} : ∀ {vs : List (Str × V)} {ds : List (Str × D)}, Flds K F vs ds → ds.lookup f = some x → ∃ v, vs.lookup f = some v ∧ Dat K F v x
  | _, _, .nil, e => by cases e
  | _, _, @Flds.cons _ _ g v y vs ds h t, e => by
    rw [List.lookup_cons] at e ⊢
    cases q : (f == g) with
    | true => simp only [q] at e ⊢; cases e; exact ⟨v, rfl, h⟩
    | false => simp only [q] at e ⊢; exact Flds.look t e
theorem de_att {ok : Str → Bool} {f : Str} {e : Expr} {fe : SE} {pos : Pos} (hK : C.K = X.K) (ht : ∀ cls, ok cls = true → XfC C.K (He.ga C.K cls) ∧ PySem.W.findIn C.K (.ref (He.ga C.K cls)) f = some none) (ha : DE X C W e fe)
    (hb : attributeBase e f X.env (eval e X.env) = eval e X.env := by rfl) : DE X C W (.Attribute e f pos) (attE ok f fe) := by
  refine ⟨fun pins s σ H Q I ⟨F, δ, h⟩ => ?_⟩
  have main : tD C W (pkE fe) σ H fun v H1 => ∃ (a : Addr) (cls : Str) (vs : List (Str × V)) (w : V), v = .ref a ∧ ExAt H1 a (He.ga C.K cls) (some vs) ∧ ok cls = true ∧ vs.lookup f = some w ∧ Q w H1 := by
    refine bindV (RVb := RVl C) (mbV) h fun v F1 H1 δ1 r1 e1 S1 R1 V1 h1 => ?_
    obtain ⟨o, ho⟩ := h1.some
    have ho' := ho
    cases q : r1.get δ1 with
    | none => simp only [q] at ho; cases ho
    | some x =>
      cases q2 : excOf x with
      | none => simp only [q, Option.bind_some, q2] at ho; cases ho
      | some p =>
        obtain ⟨cls, fs⟩ := p
        simp only [q, Option.bind_some, q2] at ho
        by_cases hok : ok cls = true
        case neg => rw [if_neg hok] at ho; cases ho
        rw [if_pos hok] at ho
        cases q3 : fs.lookup f with
        | none => rw [q3] at ho; cases ho
        | some y =>
          rw [q3] at ho
          cases ho
          obtain ⟨a, o, rfl, x1, x2⟩ := exc_at R1.ext (V1.get R1 q) q2
          rcases x2 with x2 | ⟨vs, rfl, fl⟩
          · subst x2; cases q3
          · obtain ⟨w, l1, l2⟩ := fl.look q3
            exact ⟨a, cls, vs, w, rfl, x1, hok, l1, h1.use ho' Stp.refl R1 l2⟩
  refine attr_of hb (thn ((de_pk ha).run pins s σ H _ I main) fun u s1 ⟨v, H1, I1, rx, a, cls, vs, w, ev, x, hok, l, q⟩ => ?_)
  subst ev
  obtain rfl : u = Value.ref a := rx
  obtain ⟨T, hno⟩ := ht cls hok
  rw [hK] at T hno
  obtain ⟨oe, od, J, k⟩ := x.inst I1
  rw [hK] at J
  obtain ⟨dd, obj, rfl, ho, hx⟩ := k vs rfl
  obtain ⟨mA, hns, hr⟩ := hx
  obtain ⟨ob, ho2, hl⟩ := lookIn_ns hns
  rw [ho] at ho2
  cases ho2
  obtain ⟨uv, hu, ru⟩ := RelO.some_of (v := w) (o := mA f) (by rw [← l]; exact hr f)
  exact PySem.HandSPX.exc_get I1.kIn J T.ga T.gg T.exC (PySem.W.findObj_own T.hdC hno rfl (by rw [hl, hu])) (handed_of ru) ⟨w, H1, I1.tok _, ru, q⟩
end
end DL

namespace DL
open PySem PySem.Spec PyProof.Rows L2
/-! ### facts of one's own, told by the head -/
abbrev XFa := PySem.W.Frag → Bool
def obsX (fa : List He.Fa) (fn : List He.DefD) (xs : List XFa) (K : PySem.W.Frag) : He.AlD := ((fa.all fun f => f.ok K) && (fn.all fun d => d.ok K) && xs.all fun f => f K, fn.map fun d => He.fnW K d.at_)
def SaysX (fa : List He.Fa) (fn : List He.DefD) (xs : List XFa) (K : PySem.W.Frag) : Prop := obsX fa fn xs K = He.valD fn
def obsXG (n : Nat) (fa : List He.Fa) (fn : List He.DefD) (xs : List XFa) (g : Addr → Option Obj) : He.AlD := obsX fa fn xs (He.frG g (sysModules :: cStatics :: He.asD g n))
def hookX (n : Nat) (fa : List He.Fa) (fn : List He.DefD) (xs : List XFa) : PySem.W.Hook where
  α := He.AlD
  obs := fun s => obsXG n fa fn xs s.heap.get?
  val := fun _ => He.valD fn
  says := fun _ h => ∃ K : PySem.W.Frag, K.In h ∧ SaysX fa fn xs K
  of := fun _ _ e => ⟨_, He.frG_in, e⟩
  keeps := fun _ _ _ ⟨K, hK, c⟩ k => ⟨K, PySem.W.Frag.In.keeps hK k, c⟩
theorem obsXG_eq {n : Nat} {fa : List He.Fa} {fn : List He.DefD} {xs : List XFa} {g : Addr → Option Obj} {s : Shared} (h : ∀ a, g a = s.heap.get? a) : obsXG n fa fn xs g = (hookX n fa fn xs).obs s := by
  have e : g = s.heap.get? := funext h
  rw [e] <;> rfl
section
variable {fa : List He.Fa} {fn : List He.DefD} {xs : List XFa} {K : PySem.W.Frag}
theorem SaysX.d (c : SaysX fa fn xs K) : He.SaysD fa fn K := by
  have h1 : ((fa.all fun f => f.ok K) && (fn.all fun d => d.ok K) && xs.all fun f => f K) = true := congrArg Prod.fst c
  have h2 : fn.map (fun d => He.fnW K d.at_) = fn.map He.DefD.val := congrArg Prod.snd c
  rw [Bool.and_eq_true] at h1
  exact Prod.ext h1.1 h2
theorem SaysX.x (c : SaysX fa fn xs K) (i : Nat) {f : XFa} (h : xs[i]? = some f := by rfl) : f K = true := by
  have h1 : ((fa.all fun f => f.ok K) && (fn.all fun d => d.ok K) && xs.all fun f => f K) = true := congrArg Prod.fst c
  rw [Bool.and_eq_true] at h1
  exact List.all_eq_true.mp h1.2 f (List.mem_of_getElem? h)
end
/-! ### an exception class -/
def oexB (K : PySem.W.Frag) (C : Addr) : Bool := (match K.lookup C with
    | some ⟨.type t, _, .cls cd, sl⟩ => (match cd.mro, sl.toList with
      | .ref C' :: bm, [_, _, _, _, some (.builtin n), _] => decide (t = "type") && decide (C' = C) && decide (n = "ValueError.__new__") && !cd.hasDel && cd.hasDict && PySem.HandSPX.refsVE bm
      | _, _ => false)
    | _ => false) && decide (PySem.W.findIn K (.ref C) "__setattr__" = some (some (.builtin "object.__setattr__"))) && decide (PySem.W.subIn K (.ref C) (.type "BaseException") = some true) && decide (PySem.W.typeIn K (.ref C) = some (.type "type")) && PySem.W.keepIn K (.ref C)
theorem oexB_ok {K : PySem.W.Frag} {C : Addr} (h : oexB K C = true) : OexC K C := by
  unfold oexB at h
  simp only [Bool.and_eq_true, decide_eq_true_eq] at h
  obtain ⟨⟨⟨⟨h1, h2⟩, h3⟩, h4⟩, h5⟩ := h
  refine ⟨?_, h2, h3, h4, h5⟩
  split at h1
  · rename_i t dd cd sl ho
    split at h1
    · rename_i C' bm k0 k1 k2 k3 n k5 hm hs
      simp only [Bool.and_eq_true, decide_eq_true_eq, Bool.not_eq_true'] at h1
      obtain ⟨⟨⟨⟨⟨rfl, rfl⟩, rfl⟩, hdel⟩, hdict⟩, hv⟩ := h1
      obtain ⟨nm, bs, mro, ns, qn, hd, sn, sub, ab, col, del⟩ := cd
      dsimp only at hm hdel hdict
      subst hm hdel hdict
      have hsl : sl = #[k0, k1, k2, k3, some (.builtin "ValueError.__new__"), k5] := by
        obtain ⟨l⟩ := sl
        simp only at hs
        rw [hs]
      subst hsl
      exact ⟨nm, qn, ns, bs, bm, sn, sub, ab, col, dd, k0, k1, k2, k3, k5, ho, hv⟩
    · cases h1
  · cases h1
def excCB (K : PySem.W.Frag) (D : Addr) : Bool := decide (PySem.W.findIn K (.ref D) "__getattribute__" = some (some (.builtin "BaseException.__getattribute__"))) && decide (PySem.W.findIn K (.ref D) "__getattr__" = some none) && decide (PySem.W.subIn K (.ref D) (.type "BaseException") = some true) && PySem.W.hasDictIn K D &&
  decide (PySem.W.findIn K (.ref D) "__class__" = some (some (.builtin "object.__class__"))) && decide (PySem.W.specialIn K (.builtin "object.__class__") "__get__" = some (some (.builtin "getset_descriptor.__get__"))) && decide (PySem.W.takesIn K (.builtin "object.__class__") = some true) && decide (PySem.W.mroIn K D (.type "object") = some true)
theorem excCB_ok {K : PySem.W.Frag} {D : Addr} (h : excCB K D = true) : ExcC K D := by
  unfold excCB at h
  simp only [Bool.and_eq_true, decide_eq_true_eq] at h
  obtain ⟨⟨⟨⟨⟨⟨⟨h1, h2⟩, h3⟩, h4⟩, h5⟩, h6⟩, h7⟩, h8⟩ := h
  exact ⟨h1, h2, h3, h4, h5, h6, h7, h8⟩
theorem xf_of {K : PySem.W.Frag} {D : Addr} (h : ExcC K D) : XfC K D := ⟨h.hg, h.hk, h.hs, h.hd⟩
/-- what its base must say, so that B.__init__(self, ..) is ValueError's -/
def basB (K : PySem.W.Frag) (B : Addr) : Bool := decide (PySem.W.specialIn K (.ref B) "__getattribute__" = some (some (.builtin "type.__getattribute__"))) && PySem.W.readsIn K B (.type "type") && (match PySem.W.findCls K (.ref B) (.type "type") "__init__" with
  | some (.val (.builtin n)) => decide (n = "ValueError.__init__")
  | _ => false)
theorem basB_ok {K : PySem.W.Frag} {B : Addr} (h : basB K B = true) : PySem.W.specialIn K (.ref B) "__getattribute__" = some (some (.builtin "type.__getattribute__")) ∧ PySem.W.readsIn K B (.type "type") = true ∧ PySem.W.findCls K (.ref B) (.type "type") "__init__" = some (.val (.builtin "ValueError.__init__")) := by
  unfold basB at h
  simp only [Bool.and_eq_true, decide_eq_true_eq] at h
  obtain ⟨⟨h1, h2⟩, h3⟩ := h
  refine ⟨h1, h2, ?_⟩
  split at h3
  · rename_i n e
    rw [e, of_decide_eq_true h3]
  · cases h3
/-- its __init__, its fields -/
def iniB (K : PySem.W.Frag) (C : Addr) (fields : List Str) : Bool := decide (PySem.W.findIn K (.ref C) "__init__" = some (some (.ref (He.ma K C "__init__")))) && decide (PySem.W.typeIn K (.ref (He.ma K C "__init__")) = some (.type "function")) && fields.all fun f => decide (PySem.W.findIn K (.ref C) f = some none)
def clsBody (s : Stmt) : List Stmt := match s with
  | .ClassDef _ _ _ b _ _ _ _ _ _ _ => b
  | _ => []
end DL

set_option maxHeartbeats 1000000
namespace DL
open PySem PySem.Spec PyProof.Rows L2
/-! ### zip(a, b, strict=True), a and b as long as each other -/
section
variable {prog : Program} {w : World} {A : Around} {E : Value → Shared → Prop} {s : Shared} {z TI TO i1 i2 T : Addr} {fp1 fp2 : List Addr} {n i : Nat} {P1 P2 : Nat → Value → Prop} {St1 St2 : Nat → Heap → Prop} {a1 a2 : Value}
/-- what is drawn in any surroundings where nothing is being handled -/
abbrev Drw (prog : Program) (w : World) (it : Addr) (fp : List Addr) (n : Nat) (P : Nat → Value → Prop) (St : Nat → Heap → Prop) : Prop := ∀ A : Around, A.handled = none → Draws prog w A it fp n P St
theorem nextOrEnd_item {it : Addr} {fp : List Addr} {P : Nat → Value → Prop} {St : Nat → Heap → Prop} {Q : Option Value → Shared → Prop} (hh : A.handled = none) (D : Drw prog w it fp n P St) (hlt : i < n) (st : St i s.heap)
    (hQ : ∀ x h' tk, P i x → St (i + 1) h' → Heap.SameBut it s.heap h' → Q (some x) { s with heap := h', toks := tk }) : wpAny (model prog w) A (Builtin.SmallTypes.nextOrEnd (.ref it)) Q E s := by
  unfold Builtin.SmallTypes.nextOrEnd
  exact wpAny_bind (wpAny_attempt ((D A hh).item i s _ _ hlt st fun x h' tk hx sn hp => wpAny_pure (hQ x h' tk hx sn hp)))
theorem nextOrEnd_end {it : Addr} {fp : List Addr} {P : Nat → Value → Prop} {St : Nat → Heap → Prop} {Q : Option Value → Shared → Prop} (hh : A.handled = none) (D : Drw prog w it fp n P St) (st : St n s.heap)
    (hQ : ∀ h', Heap.ExtBut it s.heap h' → Q none { s with heap := h' }) : wpAny (model prog w) A (Builtin.SmallTypes.nextOrEnd (.ref it)) Q E s := by
  unfold Builtin.SmallTypes.nextOrEnd
  refine wpAny_bind (wpAny_attempt ((D A hh).done s _ _ st fun h' e he hx => ?_))
  obtain ⟨o, ho, hc⟩ := hx
  exact wpAny_bind (wpAny_isInstance (T := "StopIteration") (b := true) ⟨o, ho, hc⟩ isSubtype_stop (wpAny_pure (hQ _ he)))
abbrev IsZs (h : Heap) (z TI TO : Addr) (f0 : Value) (f1 : Bool) : Prop := h.get? z = some { cls := .type "zip", dict := none, data := .fields #[f0, .bool f1, .bool true, .ref TI, .ref TO], slots := #[] }
theorem zipS_item {Q : Value → Shared → Prop} (hh : A.handled = none) (S : ZipSep2 z TI TO i1 i2 fp1 fp2) (D1 : Drw prog w i1 fp1 n P1 St1) (D2 : Drw prog w i2 fp2 n P2 St2) {f1 : Bool}
    (hz : IsZs s.heap z TI TO .none f1) (hTI : IsTupOf2 s.heap TI (.ref i1) (.ref i2)) (hTO : IsTupOf2 s.heap TO a1 a2) (st1 : St1 i s.heap) (st2 : St2 i s.heap) (hlt : i < n)
    (hQ : ∀ x1 x2 h' tk, P1 i x1 → P2 i x2 → IsZs h' z TI TO (rawInt s.heap.objs.size) false → IsTupOf2 h' TO x1 x2 → St1 (i + 1) h' → St2 (i + 1) h' → IsTupOf2 h' s.heap.objs.size x1 x2 → h'.objs.size = s.heap.objs.size + 1 →
      (∀ c o, c ≠ z → c ≠ TO → c ≠ i1 → c ≠ i2 → s.heap.get? c = some o → h'.get? c = some o) → Q (.ref s.heap.objs.size) { s with heap := h', toks := tk }) :
    wpAny (model prog w) A (Builtin.«zip.__next__» ⟨[.ref z], []⟩) (fun fin s' => ∃ v, fin = .done (.ret v) ∧ Q v s') E s := by
  obtain ⟨hp, g, d, tk0, os⟩ := s
  show wpAny _ _ (field (.ref z) 2 >>= _) _ _ _
  refine wpAny_bind (wpAny_field hz rfl (x := .bool true) rfl ?_)
  show wpAny _ _ (field (.ref z) 3 >>= _) _ _ _
  refine wpAny_bind (wpAny_field hz rfl (x := .ref TI) rfl ?_)
  refine wpAny_bind (wpAny_seqItems hTI rfl ?_)
  show wpAny _ _ (Builtin.SmallTypes.ownedTupleIsFree (.ref z) >>= _) _ _ _
  refine wpAny_bind ?_
  unfold Builtin.SmallTypes.ownedTupleIsFree
  refine wpAny_bind (wpAny_field hz rfl (x := .none) rfl (wpAny_pure ?_))
  simp only [if_true]
  refine wpAny_bind (wpAny_rule ?_)
  refine wpAny_bind (wpAny_field hz rfl (x := .ref TO) rfl ?_)
  refine wpAny_bind (wpAny_setField_rec hz (by simp) fun g0 hz0 hs0 => ?_)
  replace hz0 : IsZs g0 z TI TO .ellipsis f1 := hz0
  replace hs0 : Heap.SameBut z hp g0 := hs0
  refine wpAny_bind ?_
  simp only [List.zipIdx_cons, List.zipIdx_nil, List.forIn_cons, List.forIn_nil]
  refine wpAny_bind (wpAny_bind (wpAny_onRaise ?_))
  show wpAny _ _ (Builtin.SmallTypes.nextOrEnd (.ref i1)) _ _ ⟨g0, g, d, tk0, os⟩
  refine nextOrEnd_item hh D1 hlt ((D1 A hh).over st1 hs0 S.zf1) fun x1 p1 tk1 hx1 sn1 hp1 => ?_
  replace hp1 : Heap.SameBut i1 g0 p1 := hp1
  have hU1 : IsTupOf2 p1 TO a1 a2 := hp1.extBut _ _ S.Ti1 (hs0.extBut _ _ S.TOz hTO)
  refine wpAny_bind (wpAny_seqItems (s := ⟨p1, g, d, tk1, os⟩) hU1 rfl ?_)
  refine wpAny_bind (updateSeq_IsTupOf2 (s := ⟨p1, g, d, tk1, os⟩) hU1 fun g1 hT1 hs1 => ?_)
  replace hT1 : IsTupOf2 g1 TO x1 a2 := hT1
  replace hs1 : Heap.SameBut TO p1 g1 := hs1
  refine wpAny_bind (wpAny_letGo (wpAny_pure ?_))
  refine wpAny_bind (wpAny_bind (wpAny_onRaise ?_))
  show wpAny _ _ (Builtin.SmallTypes.nextOrEnd (.ref i2)) _ _ ⟨g1, g, d, tk1, os⟩
  refine nextOrEnd_item hh D2 hlt ((D2 A hh).over ((D2 A hh).over ((D2 A hh).over st2 hs0 S.zf2) hp1 S.sep1_2) hs1 S.Tf2) fun x2 p2 tk2 hx2 sn2 hp2 => ?_
  replace hp2 : Heap.SameBut i2 g1 p2 := hp2
  have hU2 : IsTupOf2 p2 TO x1 a2 := hp2.extBut _ _ S.Ti2 hT1
  refine wpAny_bind (wpAny_seqItems (s := ⟨p2, g, d, tk2, os⟩) hU2 rfl ?_)
  refine wpAny_bind (updateSeq_IsTupOf2 (s := ⟨p2, g, d, tk2, os⟩) hU2 fun g2 hT2 hs2 => ?_)
  replace hT2 : IsTupOf2 g2 TO x1 x2 := hT2
  replace hs2 : Heap.SameBut TO p2 g2 := hs2
  refine wpAny_bind (wpAny_letGo (wpAny_pure (wpAny_pure ?_)))
  refine wpAny_bind (wpAny_seqItems (s := ⟨g2, g, d, tk2, os⟩) hT2 rfl ?_)
  refine wpAny_bind (wpAny_newTuple ?_)
  have hsz : g2.objs.size = hp.objs.size := by rw [hs2.1, hp2.1, hs1.1, hp1.1, hs0.1]
  have hzz : IsZs g2 z TI TO .ellipsis f1 := (hs2.extBut _ _ S.TOz.symm (hp2.extBut _ _ S.zi2 (hs1.extBut _ _ S.TOz.symm (hp1.extBut _ _ S.zi1 hz0))))
  have hkk : ∀ c o, c ≠ z → c ≠ TO → c ≠ i1 → c ≠ i2 → hp.get? c = some o → g2.get? c = some o := fun c o cz cT c1 c2 e =>
    (hs2.extBut _ _ cT (hp2.extBut _ _ c2 (hs1.extBut _ _ cT (hp1.extBut _ _ c1 (hs0.extBut _ _ cz e)))))
  have hj1 : St1 (i + 1) g2 := ((D1 A hh).over ((D1 A hh).over ((D1 A hh).over sn1 hs1 S.Tf1) hp2 S.sep2_1) hs2 S.Tf1)
  have hj2 : St2 (i + 1) g2 := ((D2 A hh).over sn2 hs2 S.Tf2)
  have hzlt : z < g2.objs.size := Heap.lt_size hzz
  show wpAny _ _ (Builtin.SmallTypes.ownedTupleHandOut (.ref z) (.ref g2.objs.size) >>= _) _ _ ⟨g2.push { cls := .type "tuple", data := .seq #[x1, x2] }, g, d, tk2, os⟩
  refine wpAny_bind ?_
  unfold Builtin.SmallTypes.ownedTupleHandOut
  have hz₆ : IsZs (g2.push { cls := .type "tuple", data := .seq #[x1, x2] }) z TI TO .ellipsis f1 := Heap.get?_push_of_some _ hzz
  refine wpAny_bind (wpAny_setField_rec hz₆ (by simp) fun h₇ hz₇ hs₇ => ?_)
  replace hz₇ : IsZs h₇ z TI TO (rawInt g2.objs.size) f1 := hz₇
  refine wpAny_setField_rec hz₇ (by simp) fun h₈ hz₈ hs₈ => ?_
  replace hz₈ : IsZs h₈ z TI TO (rawInt g2.objs.size) false := hz₈
  replace hs₇ : Heap.SameBut z (g2.push { cls := .type "tuple", data := .seq #[x1, x2] }) h₇ := hs₇
  replace hs₈ : Heap.SameBut z h₇ h₈ := hs₈
  have up : ∀ c o, c ≠ z → g2.get? c = some o → h₈.get? c = some o := fun c o c1 e => hs₈.extBut _ _ c1 (hs₇.extBut _ _ c1 (Heap.get?_push_of_some _ e))
  have hT₈ : IsTupOf2 h₈ g2.objs.size x1 x2 := hs₈.extBut _ _ (Nat.ne_of_gt hzlt) (hs₇.extBut _ _ (Nat.ne_of_gt hzlt) (Heap.get?_push_size _ rfl))
  have hz8 : h₈.objs.size = g2.objs.size + 1 := by rw [hs₈.1, hs₇.1, Heap.size_push]
  rw [hsz] at hz₈ hT₈ hz8
  refine wpAny_pure ⟨_, rfl, ?_⟩
  show Q (.ref g2.objs.size) ⟨h₈, g, d, tk2, os⟩
  rw [hsz]
  exact hQ x1 x2 h₈ tk2 hx1 hx2 hz₈ (up _ _ S.TOz hT2) ((D1 A hh).frame _ _ _ hj1 fun b hb o e => up b o (fun q => S.zf1 (q ▸ hb)) e) ((D2 A hh).frame _ _ _ hj2 fun b hb o e => up b o (fun q => S.zf2 (q ▸ hb)) e) hT₈ hz8 fun c o cz cT c1 c2 e => up c o cz (hkk c o cz cT c1 c2 e)

theorem zipS_free_end {Q : Fin → Shared → Prop} (hh : A.handled = none) (S : ZipSep2 z TI TO i1 i2 fp1 fp2) (D1 : Drw prog w i1 fp1 n P1 St1) (D2 : Drw prog w i2 fp2 n P2 St2) {f1 : Bool}
    (hz : IsZs s.heap z TI TO .none f1) (hTI : IsTupOf2 s.heap TI (.ref i1) (.ref i2)) (hTO : IsTupOf2 s.heap TO a1 a2) (st1 : St1 n s.heap) (st2 : St2 n s.heap)
    (hE : ∀ h' tk e, (∀ c o, c ≠ z → c ≠ TO → c ≠ i1 → c ≠ i2 → s.heap.get? c = some o → h'.get? c = some o) → (∃ o, h'.get? e = some o ∧ o.cls = .type "StopIteration") → E (.ref e) { s with heap := h', toks := tk }) :
    wpAny (model prog w) A (Builtin.«zip.__next__» ⟨[.ref z], []⟩) Q E s := by
  obtain ⟨hp, g, d, tk0, os⟩ := s
  show wpAny _ _ (field (.ref z) 2 >>= _) _ _ _
  refine wpAny_bind (wpAny_field hz rfl (x := .bool true) rfl ?_)
  show wpAny _ _ (field (.ref z) 3 >>= _) _ _ _
  refine wpAny_bind (wpAny_field hz rfl (x := .ref TI) rfl ?_)
  refine wpAny_bind (wpAny_seqItems hTI rfl ?_)
  show wpAny _ _ (Builtin.SmallTypes.ownedTupleIsFree (.ref z) >>= _) _ _ _
  refine wpAny_bind ?_
  unfold Builtin.SmallTypes.ownedTupleIsFree
  refine wpAny_bind (wpAny_field hz rfl (x := .none) rfl (wpAny_pure ?_))
  simp only [if_true]
  refine wpAny_bind (wpAny_rule ?_)
  refine wpAny_bind (wpAny_field hz rfl (x := .ref TO) rfl ?_)
  refine wpAny_bind (wpAny_setField_rec hz (by simp) fun g0 hz0 hs0 => ?_)
  replace hz0 : IsZs g0 z TI TO .ellipsis f1 := hz0
  replace hs0 : Heap.SameBut z hp g0 := hs0
  refine wpAny_bind ?_
  simp only [List.zipIdx_cons, List.zipIdx_nil, List.forIn_cons, List.forIn_nil]
  refine wpAny_bind (wpAny_bind (wpAny_onRaise ?_))
  show wpAny _ _ (Builtin.SmallTypes.nextOrEnd (.ref i1)) _ _ ⟨g0, g, d, tk0, os⟩
  refine nextOrEnd_end hh D1 ((D1 A hh).over st1 hs0 S.zf1) fun q hq => ?_
  replace hq : Heap.ExtBut i1 g0 q := hq
  have hzq : IsZs q z TI TO .ellipsis f1 := hq _ _ S.zi1 hz0
  refine wpAny_bind (wpAny_setField_rec (s := ⟨q, g, d, tk0, os⟩) hzq (by simp) fun q' hzq' hq' => ?_)
  replace hq' : Heap.SameBut z q q' := hq'
  refine wpAny_bind (wpAny_bind ?_)
  simp only [List.drop_succ_cons, List.drop_zero, List.zipIdx_cons, List.zipIdx_nil, List.forIn_cons, List.forIn_nil]
  refine wpAny_bind (wpAny_bind (nextOrEnd_end (s := ⟨q', g, d, tk0, os⟩) hh D2 ((D2 A hh).over ((D2 A hh).frame _ _ _ ((D2 A hh).over st2 hs0 S.zf2) fun b hb o e => hq b o (fun x => S.sep1_2 (by rw [← x]; exact hb)) e) hq' S.zf2) fun r hr => ?_))
  replace hr : Heap.ExtBut i2 q' r := hr
  simp only [Option.isSome_none, Bool.false_eq_true, if_false]
  refine wpAny_pure (wpAny_pure ?_)
  refine wpAny_bind (wpAny_rule ?_)
  show wpAny _ _ (newExc (.type "StopIteration") [] >>= _) _ _ _
  refine wpAny_bind ?_
  simp only [newExc, newTuple]
  refine wpAny_bind (wpAny_newObj_type ?_ (by size_fits))
  refine wpAny_bind (m := firstArgMember _ _) (wpAny_of_eq (a := Value.none) (by first | rfl | (simp only [firstArgMember]; rfl)) ?_)
  refine wpAny_newObj_type ?_ (by size_fits)
  simp only [raiseNew]
  refine wpAny_bind (wpAny_handled ?_)
  first | rw [show A.in1.handled = none from hh] | rw [hh]
  refine wpAny_bind (wpAny_pure (wpAny_throw ?_))
  refine hE _ _ _ (fun c o cz cT c1 c2 x => Heap.get?_push_of_some _ (Heap.get?_push_of_some _ (hr _ _ c2 (hq'.extBut _ _ cz (hq _ _ c1 (hs0.extBut _ _ cz x)))))) ⟨_, Heap.get?_push_size _ rfl, rfl⟩
end
end DL

set_option maxHeartbeats 1000000
namespace DL
open PySem PySem.Spec PyProof.Rows L2
section
variable {prog : Program} {w : World} {A : Around} {E : Value → Shared → Prop} {s : Shared} {z TI TO i1 i2 T : Addr} {fp1 fp2 : List Addr} {n i : Nat} {P1 P2 : Nat → Value → Prop} {St1 St2 : Nat → Heap → Prop} {a1 a2 : Value}
theorem pyNext_zipS_item {Q : Option Value → Shared → Prop} (hh : A.handled = none) (S : ZipSep2 z TI TO i1 i2 fp1 fp2) (D1 : Drw prog w i1 fp1 n P1 St1) (D2 : Drw prog w i2 fp2 n P2 St2) {f1 : Bool}
    (hz : IsZs s.heap z TI TO .none f1) (hTI : IsTupOf2 s.heap TI (.ref i1) (.ref i2)) (hTO : IsTupOf2 s.heap TO a1 a2) (st1 : St1 i s.heap) (st2 : St2 i s.heap) (hlt : i < n)
    (hQ : ∀ x1 x2 h' tk, P1 i x1 → P2 i x2 → IsZs h' z TI TO (rawInt s.heap.objs.size) false → IsTupOf2 h' TO x1 x2 → St1 (i + 1) h' → St2 (i + 1) h' → IsTupOf2 h' s.heap.objs.size x1 x2 → h'.objs.size = s.heap.objs.size + 1 →
      (∀ c o, c ≠ z → c ≠ TO → c ≠ i1 → c ≠ i2 → s.heap.get? c = some o → h'.get? c = some o) → Q (some (.ref s.heap.objs.size)) { s with heap := h', toks := tk }) :
    wpAny (model prog w) A (pyNext (.ref z)) Q E s := by
  have hT : s.TypeIs (.ref z) "zip" := ⟨_, hz, rfl⟩
  unfold pyNext
  exact wpAny_bind (wpAny_attempt (wpAny_callSpecial?_slot (name := Str.ofString "__next__") hT F.slot_zip_next
    (wpAny_call_entry F.slot_zip_next hT F.entry_zip_next
      (zipS_item hh S D1 D2 hz hTI hTO st1 st2 hlt fun x1 x2 h' tk y1 y2 b1 b2 d1 d2 b5 b6 b7 => wpAny_pure (hQ x1 x2 h' tk y1 y2 b1 b2 d1 d2 b5 b6 b7)) (F.args_zip_next_1 _))))
theorem pyNext_zipS_end {Q : Option Value → Shared → Prop} (hh : A.handled = none) (S : ZipSep2 z TI TO i1 i2 fp1 fp2) (D1 : Drw prog w i1 fp1 n P1 St1) (D2 : Drw prog w i2 fp2 n P2 St2) {f1 : Bool}
    (hz : IsZs s.heap z TI TO .none f1) (hTI : IsTupOf2 s.heap TI (.ref i1) (.ref i2)) (hTO : IsTupOf2 s.heap TO a1 a2) (st1 : St1 n s.heap) (st2 : St2 n s.heap)
    (hQ : ∀ h' tk, (∀ c o, c ≠ z → c ≠ TO → c ≠ i1 → c ≠ i2 → s.heap.get? c = some o → h'.get? c = some o) → Q none { s with heap := h', toks := tk }) : wpAny (model prog w) A (pyNext (.ref z)) Q E s := by
  have hT : s.TypeIs (.ref z) "zip" := ⟨_, hz, rfl⟩
  unfold pyNext
  refine wpAny_bind (wpAny_attempt (wpAny_callSpecial?_slot (name := Str.ofString "__next__") hT F.slot_zip_next
    (wpAny_call_entry F.slot_zip_next hT F.entry_zip_next (zipS_free_end hh S D1 D2 hz hTI hTO st1 st2 fun h' tk e hk he => ?_) (F.args_zip_next_1 _))))
  obtain ⟨o, ho, hc⟩ := he
  refine wpAny_bind (wpAny_isInstance (T := "StopIteration") (b := true) ⟨o, ho, hc⟩ isSubtype_stop ?_)
  exact wpAny_pure (hQ _ _ hk)
theorem letGo_zipS {elts : List Expr} {k : Nat} {pos : Pos} {Q : Unit → Shared → Prop} {f1 : Bool} (hz : IsZs s.heap z TI TO (rawInt T) f1)
    (h : ∀ h', IsZs h' z TI TO .none f1 → Heap.SameBut z s.heap h' → Q () { s with heap := h' }) : wpAny (model prog w) A (letOwnedTupleGo (.Tuple elts k pos) (.ref z) (.ref T)) Q E s := by
  unfold letOwnedTupleGo
  refine wpAny_bind (wpAny_load hz ?_)
  show wpAny _ _ (if (["enumerate", "zip", "dict_itemiterator", "dict_reverseitemiterator", "odict_iterator", "itertools.zip_longest", "itertools.pairwise"].contains "zip" &&
      (#[rawInt T, .bool f1, .bool true, .ref TI, .ref TO] : Array Value)[0]? == some (rawInt T)) = true then _ else _) Q E s
  rw [if_pos (by simp)]
  refine wpAny_bind (wpAny_rule ?_)
  show wpAny _ _ (setField (.ref z) 0 .none) Q E s
  exact wpAny_setField_rec hz (by simp) fun h' hz' hs' => h h' hz' hs'
theorem pyIter_zipS {f0 : Value} {f1 : Bool} {Q : Value → Shared → Prop} (hz : IsZs s.heap z TI TO f0 f1) (h : Q (.ref z) s) : wpAny (model prog w) A (pyIter (.ref z)) Q E s := by
  have hT : s.TypeIs (.ref z) "zip" := ⟨_, hz, rfl⟩
  refine wpAny_pyIter_slot hT F.slot_zip_iter (wpAny_call_entry F.slot_zip_iter hT F.entry_zip_iter ?_ (F.args_zip_iter_1 _))
  show wpAny _ _ (ret (.ref z)) _ _ s
  exact wpAny_pure ⟨_, rfl, "zip", _, hT, F.slot_zip_next.lookup, h⟩
theorem walks_zipS (hh : A.handled = none) (S : ZipSep2 z TI TO i1 i2 fp1 fp2) (D1 : Drw prog w i1 fp1 n P1 St1) (D2 : Drw prog w i2 fp2 n P2 St2) :
    WalksT prog w A z (z :: TI :: TO :: (fp1 ++ fp2)) [z, TO, i1, i2] n
      (fun i vals => ∃ x1 x2, P1 i x1 ∧ P2 i x2 ∧ vals = #[x1, x2])
      (fun i h => IsZs h z TI TO .none false ∧ IsTupOf2 h TI (.ref i1) (.ref i2) ∧ (∃ a1 a2, IsTupOf2 h TO a1 a2) ∧ St1 i h ∧ St2 i h)
      (fun i T h => IsZs h z TI TO (rawInt T) false ∧ IsTupOf2 h TI (.ref i1) (.ref i2) ∧ (∃ a1 a2, IsTupOf2 h TO a1 a2) ∧ St1 (i + 1) h ∧ St2 (i + 1) h ∧ T ≠ z ∧ T ≠ TO ∧ T ≠ i1 ∧ T ≠ i2) where
  sub := fun c hc => by
    have hc' : c = z ∨ c = TO ∨ c = i1 ∨ c = i2 := by simpa using hc
    rcases hc' with rfl | rfl | rfl | rfl
    · exact List.mem_cons_self ..
    · exact List.mem_cons_of_mem _ (List.mem_cons_of_mem _ (List.mem_cons_self ..))
    · exact List.mem_cons_of_mem _ (List.mem_cons_of_mem _ (List.mem_cons_of_mem _ (List.mem_append_left _ S.mem1)))
    · exact List.mem_cons_of_mem _ (List.mem_cons_of_mem _ (List.mem_cons_of_mem _ (List.mem_append_right _ S.mem2)))
  frame := fun i h h' hst hk => by
    obtain ⟨hz, hTI, ⟨a1, a2, hTO⟩, st1, st2⟩ := hst
    exact ⟨hk z (List.mem_cons_self ..) _ hz, hk TI (List.mem_cons_of_mem _ (List.mem_cons_self ..)) _ hTI, ⟨a1, a2, hk TO (List.mem_cons_of_mem _ (List.mem_cons_of_mem _ (List.mem_cons_self ..))) _ hTO⟩,
      (D1 A hh).frame _ _ _ st1 fun b hb o e => hk b (List.mem_cons_of_mem _ (List.mem_cons_of_mem _ (List.mem_cons_of_mem _ (List.mem_append_left _ hb)))) o e, (D2 A hh).frame _ _ _ st2 fun b hb o e => hk b (List.mem_cons_of_mem _ (List.mem_cons_of_mem _ (List.mem_cons_of_mem _ (List.mem_append_right _ hb)))) o e⟩
  item := fun i s Q E hi hst hQ => by
    obtain ⟨hz, hTI, ⟨a1, a2, hTO⟩, st1, st2⟩ := hst
    refine pyNext_zipS_item hh S D1 D2 hz hTI hTO st1 st2 hi fun x1 x2 h' tk y1 y2 b1 b2 d1 d2 b5 b6 hk => ?_
    have lt : ∀ {c o}, s.heap.get? c = some o → s.heap.objs.size ≠ c := fun e => Nat.ne_of_gt (Heap.lt_size e)
    have l1 : s.heap.objs.size ≠ i1 := by obtain ⟨_, e⟩ := (D1 A hh).live _ _ st1; exact lt e
    have l2 : s.heap.objs.size ≠ i2 := by obtain ⟨_, e⟩ := (D2 A hh).live _ _ st2; exact lt e
    exact hQ s.heap.objs.size #[x1, x2] h' tk ⟨x1, x2, y1, y2, rfl⟩ (Nat.le_refl _) ⟨_, b5, rfl, _, rfl⟩
      ⟨b1, hk _ _ S.TIz S.TITO S.TIi1 S.TIi2 hTI, ⟨_, _, b2⟩, d1, d2, lt hz, lt hTO, l1, l2⟩
      fun c o hc e => hk c o (fun x => hc (by simp [x])) (fun x => hc (by simp [x])) (fun x => hc (by simp [x])) (fun x => hc (by simp [x])) e
  go := fun elts k pos i T s Q E hm hQ => by
    obtain ⟨hz, hTI, ⟨a1, a2, hTO⟩, st1, st2, _⟩ := hm
    refine letGo_zipS hz fun h' hz' hs' => hQ h' ⟨hz', hs'.extBut _ _ S.TIz hTI, ⟨a1, a2, hs'.extBut _ _ S.TOz hTO⟩, (D1 A hh).over st1 hs' S.zf1, (D2 A hh).over st2 hs' S.zf2⟩ fun c o hc e => hs'.extBut _ _ (fun x => hc (by simp [x])) e
  apart := fun i T h hm hT => by
    obtain ⟨_, _, _, _, _, tz, tT, t1, t2⟩ := hm
    have hT' : T = z ∨ T = TO ∨ T = i1 ∨ T = i2 := by simpa using hT
    rcases hT' with e | e | e | e
    · exact tz e
    · exact tT e
    · exact t1 e
    · exact t2 e
  done := fun s Q E hst hQ => by
    obtain ⟨hz, hTI, ⟨a1, a2, hTO⟩, st1, st2⟩ := hst
    exact pyNext_zipS_end hh S D1 D2 hz hTI hTO st1 st2 fun h' tk hk => hQ h' tk fun c o hc e =>
      hk c o (fun x => hc (by simp [x])) (fun x => hc (by simp [x])) (fun x => hc (by simp [x])) (fun x => hc (by simp [x])) e
  self := fun i s Q E hst hQ => by
    obtain ⟨hz, _⟩ := hst
    exact pyIter_zipS hz hQ
end
/-! ### how it is made -/
theorem typeCall_zipS (a b c : Value) : checkTypeCall "zip" ⟨[a, b], [(Str.ofString "strict", c)]⟩ = pure () := by kernel_rfl
theorem newCall_zipS (a b c : Value) : checkBuiltinCall "zip.__new__" ⟨[.type "zip", a, b], [(Str.ofString "strict", c)]⟩ = pure () := by kernel_rfl
theorem args_object_init_zipS (obj a b c : Value) : argsOk "object.__init__" ⟨[obj, a, b], [(Str.ofString "strict", c)]⟩ := by unfold argsOk; kernel_rfl
abbrev gsZ2 (h : Heap) (o1 o2 : Obj) : Heap := (gzO2 h o1 o2).push { cls := .type "zip", data := .fields #[.none, .bool false, .bool true, .ref ((h.push o1).push o2).objs.size, .ref (gzT2 h o1 o2).objs.size] }
theorem meets_zipS {v1 v2 : Value} {o1 o2 : Obj} {H1 H2 : Heap → Prop} (B1 : Begins v1 o1 H1) (B2 : Begins v2 o2 H2) :
    Meets (Builtin.«zip.__new__» ⟨[.type "zip", v1, v2], [(Str.ofString "strict", .bool true)]⟩) (fun _ R s => (H1 s.heap ∧ H2 s.heap) ∧
      R (.ok (.ret (.ref (gzO2 s.heap o1 o2).objs.size))) { s with heap := gsZ2 s.heap o1 o2 }) :=
  .of_wp fun prog w A R s h => by
    obtain ⟨hp, g, d, tk, os⟩ := s; obtain ⟨⟨h1, h2⟩, h⟩ := h
    have hsub := sub_zip
    have q1 : ∀ {A' : Around} {E : Value → Shared → Prop} {Q : Value → Shared → Prop}, Q (.ref hp.objs.size) ⟨(hp.push o1), g, d, tk, os⟩ → wpAny (model prog w) A' (pyIter v1) Q E ⟨hp, g, d, tk, os⟩ :=
      fun q => B1.iter prog w _ _ ⟨hp, g, d, tk, os⟩ _ (B1.keeps _ _ h1 fun b o' e => e) q
    have q2 : ∀ {A' : Around} {E : Value → Shared → Prop} {Q : Value → Shared → Prop}, Q (.ref (hp.push o1).objs.size) ⟨((hp.push o1).push o2), g, d, tk, os⟩ → wpAny (model prog w) A' (pyIter v2) Q E ⟨(hp.push o1), g, d, tk, os⟩ :=
      fun q => B2.iter prog w _ _ ⟨(hp.push o1), g, d, tk, os⟩ _ (B2.keeps _ _ h2 fun b o' e => (Heap.get?_push_of_some _ e)) q
    have e2 : (Str.ofString "strict" != ("strict" : Str)) = false := by decide +kernel
    wp_walk using q1, q2
    exact ⟨_, rfl, h⟩
section
variable {prog : Program} {w : World} {A : Around} {E : Value → Shared → Prop} {s : Shared}
theorem zipS_begins {v1 v2 : Value} {o1 o2 : Obj} {H1 H2 : Heap → Prop} {Q : Value → Shared → Prop} (B1 : Begins v1 o1 H1) (B2 : Begins v2 o2 H2) (h1 : H1 s.heap) (h2 : H2 s.heap)
    (h : ∀ h', IsZs h' (s.heap.objs.size + 4) (s.heap.objs.size + 2) (s.heap.objs.size + 3) .none false → IsTupOf2 h' (s.heap.objs.size + 2) (.ref s.heap.objs.size) (.ref (s.heap.objs.size + 1)) →
      IsTupOf2 h' (s.heap.objs.size + 3) .none .none → h'.get? s.heap.objs.size = some o1 → h'.get? (s.heap.objs.size + 1) = some o2 → h'.objs.size = s.heap.objs.size + 5 →
      (∀ c o, s.heap.get? c = some o → h'.get? c = some o) → Q (.ref (s.heap.objs.size + 4)) { s with heap := h' }) :
    wpAny (model prog w) A (call (.type "zip") [v1, v2] [(Str.ofString "strict", .bool true)]) Q E s := by
  refine callType_newKw F.called_zip (by decide) (typeCall_zipS _ _ _) (newCall_zipS _ _ _) (fun obj => args_object_init_zipS obj _ _ _) F.entry_zip_new
    (meets_zipS B1 B2) ⟨⟨h1, h2⟩, ?_⟩
  have z1 : (s.heap.push o1).objs.size = s.heap.objs.size + 1 := by rw [Heap.size_push]
  have z2 : ((s.heap.push o1).push o2).objs.size = s.heap.objs.size + 2 := by rw [Heap.size_push, z1]
  have zT : (gzT2 s.heap o1 o2).objs.size = s.heap.objs.size + 3 := by rw [Heap.size_push, z2]
  have zO : (gzO2 s.heap o1 o2).objs.size = s.heap.objs.size + 4 := by rw [Heap.size_push, zT]
  have zZ : (gsZ2 s.heap o1 o2).objs.size = s.heap.objs.size + 5 := by rw [Heap.size_push, zO]
  have gZ : (gsZ2 s.heap o1 o2).get? (gzO2 s.heap o1 o2).objs.size = some { cls := .type "zip", data := .fields #[.none, .bool false, .bool true, .ref ((s.heap.push o1).push o2).objs.size, .ref (gzT2 s.heap o1 o2).objs.size] } := Heap.get?_push_size _ rfl
  have gO : (gsZ2 s.heap o1 o2).get? (gzT2 s.heap o1 o2).objs.size = some { cls := .type "tuple", data := .seq #[.none, .none] } := Heap.get?_push_of_some _ (Heap.get?_push_size _ rfl)
  have gT : (gsZ2 s.heap o1 o2).get? ((s.heap.push o1).push o2).objs.size = some { cls := .type "tuple", data := .seq #[.ref s.heap.objs.size, .ref (s.heap.push o1).objs.size] } := Heap.get?_push_of_some _ (Heap.get?_push_of_some _ (Heap.get?_push_size _ rfl))
  have g1 : (gsZ2 s.heap o1 o2).get? s.heap.objs.size = some o1 := Heap.get?_push_of_some _ (Heap.get?_push_of_some _ (Heap.get?_push_of_some _ (Heap.get?_push_of_some _ (Heap.get?_push_size _ B1.free))))
  have g2 : (gsZ2 s.heap o1 o2).get? (s.heap.push o1).objs.size = some o2 := Heap.get?_push_of_some _ (Heap.get?_push_of_some _ (Heap.get?_push_of_some _ (Heap.get?_push_size _ B2.free)))
  rw [zO, zT, z2] at gZ
  rw [zT] at gO
  rw [z2, z1] at gT
  rw [z1] at g2
  show _ ∧ _
  rw [zO]
  exact ⟨⟨_, gZ, rfl⟩, h _ gZ gT gO g1 g2 zZ fun c o e => Heap.get?_push_of_some _ (Heap.get?_push_of_some _ (Heap.get?_push_of_some _ (Heap.get?_push_of_some _ (Heap.get?_push_of_some _ e))))⟩
end
section
variable {M : Model} {A : Around} {E : Value → Shared → Prop} {s : Shared} {env : Env}
theorem callWith_type_kw {pos : Pos} {T : String} {e : Expr} {rest : List Expr} {kws : List Keyword} {Q : Value → Shared → Prop}
    (h : wpAny M A (spliced (backTo pos (starEach (e :: rest) env))) (fun vs s₁ => wpAny M A (evalAll ((backToKw pos (keywordEach kws env)).map (·.2)))
      (fun kvs s₂ => wpAny M A (call (.type T) vs (((backToKw pos (keywordEach kws env)).filterMap (·.1)).zip kvs)) Q E s₂) E s₁) E s)
    (he : backTo pos (starEach (e :: rest) env) = (false, eval e env) :: backTo pos (starEach rest env) := by rfl)
    (hplain : (backTo pos (starEach (e :: rest) env)).any (·.1) = false := by rfl)
    (hall : (backToKw pos (keywordEach kws env)).all (·.1.isSome) = true := by rfl)
    (hkw : (backToKw pos (keywordEach kws env)).any (·.1.isNone) = false := by rfl) :
    wpAny M A (callWith pos (.type T) [] (backTo pos (starEach (e :: rest) env)) (backToKw pos (keywordEach kws env))) Q E s := by
  have g : wpAny M A (evalArgs (.type T) true (backTo pos (starEach (e :: rest) env)) (backToKw pos (keywordEach kws env))) (fun a s₁ => wpAny M A (call (.type T) ([] ++ a.pos) a.kw) Q E s₁) E s := by
    rw [he] at h ⊢
    exact PyProof.Rows.evalArgs_kwB hall h
  unfold callWith
  refine wpAny_bind (wpAny_holding (wpAny_mono g (fun a s₁ h₁ => wpAny_bind (wpAny_standAt ?_)) fun _ _ x => x))
  simp only [hplain, hkw, Bool.or_false]
  refine wpAny_bind (wpAny_pure ?_)
  exact wpAny_bind (wpAny_mono h₁ (fun r s₂ hr => wpAny_bind (wpAny_holding (wpAny_point (wpAny_pure hr)))) fun _ _ x => x)
end
end DL

set_option maxHeartbeats 1000000
namespace DL
open PySem PySem.Spec PyProof.Rows L2
/-! ### tuples that an iterator keeps and hands out -/
/-- the tuples tv 0, .., while U stands -/
def Itw (n : Nat) (U : Hp → Prop) (tv : Nat → List V) : It := ⟨fun i H => i < n ∧ U H, fun i H v H' => ∃ T, v = .ref T ∧ H T = none ∧ H' = upd H T (.tup (tv i)), fun i H => i = n ∧ U H⟩
theorem turn_w {P : Program} {w : World} {K : PySem.W.Frag} {elts : List Expr} {kk : Nat} {tpos : Pos} {I0 : Addr} {fp wr : List Addr} {n : Nat} {tn : Nat → Heap → Prop} {U : Hp → Prop} {tv : Nat → List V}
    (mem : I0 ∈ fp) (hwr : ∀ b ∈ wr, b ∈ fp) (obj : ∀ i h, tn i h → ∀ b ∈ fp, ∃ o, h.get? b = some o ∧ ∀ v, o.data ≠ .cell v) (keep : ∀ i h h', tn i h → (∀ b ∈ fp, ∀ o, h.get? b = some o → h'.get? b = some o) → tn i h')
    (hz : ∀ i, (tv i).length ≤ sizeLine)
    (walk : ∀ (X : Cx), X.prog = P → X.w = w → X.K = K → X.A.handled = none → ∀ (pins : List (Addr × Obj)) (s : Shared) (σ : Sg) (H : Hp), Inv X pins σ H s → (∀ b ∈ fp, FpOk X pins H b) → U H →
      ∃ (fpW : List Addr) (Pt : Nat → Array Value → Prop) (S : Nat → Heap → Prop) (Mid : Nat → Addr → Heap → Prop), WalksT P w X.A I0 fpW wr n Pt S Mid ∧ (∀ i, tn i s.heap → S i s.heap) ∧ (∀ i h, S i h → tn i h) ∧ (∀ i vals, i < n → Pt i vals → ∃ us : List Value, vals = us.toArray ∧ Vals (tv i) us))
    (self : ∀ (A : Around) (i : Nat) (s : Shared) (Q : Value → Shared → Prop) (E : Value → Shared → Prop), tn i s.heap → Q (.ref I0) s → wpAny (model P w) A (pyIter (.ref I0)) Q E s) : Turn P w K (.Tuple elts kk tpos) (Itw n U tv) fp I0 tn where
  mem := mem
  obj := obj
  keep := keep
  item := by
    intro X hP hw hK hc i pins s σ H E I hf st ⟨hi, hU⟩
    obtain ⟨fpW, Pt, S, Mid, W, a1, a2, a3⟩ := walk X hP hw hK (I.ok.hd hc) pins s σ H I hf hU
    refine W.item i s _ _ hi (a1 i st) fun T vals h' tk pt hT hTup hmid hk => ?_
    obtain ⟨us, rfl, rv⟩ := a3 i vals hi pt
    refine ⟨_, rfl, W.go elts kk tpos i T { s with heap := h', toks := tk } _ _ hmid fun h'' st' hk' => ?_⟩
    have nT := W.apart i T h' hmid
    have hT2 : h''.IsTuple T us.toArray := hTup.at fun o e => hk' T o nT e
    have new : ObjOk X.prog X.w (upd H T (.tup (tv i))) h'' T (.tup (tv i)) := ⟨hz i, us, rv, hT2⟩
    have I1 : Inv X pins σ (upd H T (.tup (tv i))) { s with heap := h'', toks := tk } :=
      I.turnedNew (ch := wr) (fun b ob hb q => hk' b ob hb (hk b ob hb q)) (fun b hb => hf b (hwr b hb)) hT new
    refine ⟨.ref T, _, I1, rfl, ⟨T, rfl, I.hok.fresh hT, rfl⟩, a2 _ _ st', fun b hb => ?_⟩
    obtain ⟨o, ho, _⟩ := obj i _ st b hb
    have : b ≠ T := Nat.ne_of_lt (Nat.lt_of_lt_of_le (Heap.lt_size ho) hT)
    rw [upd_ne this]
    exact (hf b hb).1
  done := by
    intro X hP hw hK hc i pins s σ H E I hf st ⟨hi, hU⟩
    subst hi
    obtain ⟨fpW, Pt, S, Mid, W, a1, a2, a3⟩ := walk X hP hw hK (I.ok.hd hc) pins s σ H I hf hU
    exact W.done s _ _ (a1 i st) fun h' tk hk => ⟨rfl, I.turnedL (ch := wr) (fun b o hb q => hk b o hb q) fun b hb => hf b (hwr b hb)⟩
  self := self
/-! lists and tuples alike -/
def SqB (b : Bool) (K : PySem.W.Frag) (H : Hp) (a : Addr) (xs : List V) : Prop := if b then SqT K H a xs else SqL K H a xs
def ItB (b : Bool) (h : Heap) (it a : Addr) (i : Nat) : Prop := if b then h.IsTupleIter it a i else h.IsListIter it a i
def IsB (b : Bool) (h : Heap) (a : Addr) (its : Array Value) : Prop := if b then h.IsTuple a its else h.IsList a its
def objB (b : Bool) (a : Addr) : Obj := { cls := .type (if b then "tuple_iterator" else "list_iterator"), data := .fields #[.ref a, .int 0 0] }
section
variable {prog : Program} {w : World} {A : Around} {b : Bool} {X : Cx} {pins : List (Addr × Obj)} {σ : Sg} {H : Hp} {s : Shared} {a it : Addr} {xs : List V} {its : Array Value}
theorem drw_B (hne : a ≠ it) : Drw prog w it [it, a] its.size (fun i v => its[i]? = some v) (fun i h => ItB b h it a i ∧ IsB b h a its) := fun A hh => by
  cases b with
  | true => exact Draws.tuple hh it a hne its
  | false => exact Draws.list hh it a hne its
theorem begins_B : Begins (.ref a) (objB b a) (fun h => IsB b h a its) := by
  cases b with
  | true => exact begins_tuple a its
  | false => exact begins_list a its
theorem SqB.vals (I : Inv X pins σ H s) (h : SqB b X.K H a xs) : ∃ its : List Value, Vals xs its ∧ IsB b s.heap a its.toArray ∧ xs.length ≤ sizeLine := by
  cases b with
  | true =>
    obtain ⟨its, r, p, z⟩ := I.tuple h
    exact ⟨its, r, p, z⟩
  | false =>
    obtain ⟨its, r, p, z⟩ := I.list h
    exact ⟨its, r, p.isList, z⟩
theorem IsB.lt {h : Heap} (p : IsB b h a its) : a < h.objs.size := by
  cases b with
  | true => obtain ⟨o, e, _⟩ := p; exact Heap.lt_size e
  | false => obtain ⟨o, e, _⟩ := p; exact Heap.lt_size e
theorem ItB.obj {h : Heap} {i : Nat} (p : ItB b h it a i) : ∃ o, h.get? it = some o ∧ ∀ v, o.data ≠ .cell v := by
  cases b with
  | true => obtain ⟨o, e, _, d⟩ := p; exact ⟨o, e, fun v z => by rw [d] at z; cases z⟩
  | false => obtain ⟨o, e, _, d⟩ := p; exact ⟨o, e, fun v z => by rw [d] at z; cases z⟩
theorem ItB.at {h h' : Heap} {i : Nat} (p : ItB b h it a i) (k : ∀ o, h.get? it = some o → h'.get? it = some o) : ItB b h' it a i := by
  cases b with
  | true => obtain ⟨o, e, r⟩ := p; exact ⟨o, k o e, r⟩
  | false => obtain ⟨o, e, r⟩ := p; exact ⟨o, k o e, r⟩
theorem ItB.new {h : Heap} (e : h.get? it = some (objB b a)) : ItB b h it a 0 := by
  cases b with
  | true => exact ⟨_, e, rfl, rfl⟩
  | false => exact ⟨_, e, rfl, rfl⟩
end
/-! ### enumerate -/
def etv (k₀ : Int) (xs : List V) (i : Nat) : List V := match xs[i]? with
  | some x => [.int (k₀ + (i : Int)), x]
  | none => []
theorem turn_enumB {P : Program} {w : World} {K : PySem.W.Frag} {elts : List Expr} {kk : Nat} {tpos : Pos} {b : Bool} {k₀ : Int} {a e it : Addr} {xs : List V} (h1 : e ≠ it) (h2 : a ≠ it) (h3 : e ≠ a) :
    Turn P w K (.Tuple elts kk tpos) (Itw xs.length (fun H => SqB b K H a xs) (etv k₀ xs)) [e, it] e (fun i h => (∃ old, IsEnum h e it (k₀ + (i : Int)) old) ∧ ItB b h it a i) := by
  refine turn_w (wr := [e, it]) (by simp) (fun _ h => h) (fun i h st c hc => ?_) (fun i h h' st k => ?_) (fun i => ?_) (fun X hP hw hK hh pins s σ H I hf hU => ?_) (fun A i s Q E st h => let ⟨⟨_, he⟩, _⟩ := st; wpAny_pyIter_enum he h)
  · obtain ⟨⟨old, he⟩, hi⟩ := st
    have hc' : c = e ∨ c = it := by simpa using hc
    rcases hc' with rfl | rfl
    · exact ⟨_, he, fun v q => nomatch q⟩
    · exact hi.obj
  · obtain ⟨⟨old, he⟩, hi⟩ := st
    exact ⟨⟨old, k e (by simp) _ he⟩, hi.at fun o q => k it (by simp) o q⟩
  · unfold etv
    cases xs[i]? with
    | none => exact Nat.zero_le _
    | some x => show 2 ≤ sizeLine; decide
  · subst hP hw hK
    obtain ⟨its, rv, p, _⟩ := SqB.vals I hU
    have ln : its.toArray.size = xs.length := by rw [List.size_toArray]; exact rv.length.symm
    have W := WalksT.enumFrom (A := X.A) k₀ ((drw_B (prog := X.prog) (w := X.w) (b := b) (its := its.toArray) h2) X.A.in1 hh) e h1 (by simp [h1, h3]) (by simp)
    rw [ln] at W
    refine ⟨_, _, _, _, W, fun i st => ⟨st.1, st.2, p⟩, fun i h st => ⟨st.1, st.2.1⟩, fun i vals hi ⟨t, x, hx, ev⟩ => ⟨[.int (k₀ + (i : Int)) t, x], ev, ?_⟩⟩
    have hx : its[i]? = some x := by simpa using hx
    have hxs : xs[i]? = some xs[i] := List.getElem?_eq_getElem hi
    obtain ⟨u, hu, ru⟩ := rv.get hxs
    rw [hx] at hu
    cases hu
    unfold etv
    rw [hxs]
    exact .cons ⟨t, rfl⟩ (.cons ru .nil)
set_option maxHeartbeats 2000000 in
theorem meets_enumB {v : Value} {o : Obj} {H : Heap → Prop} (B : Begins v o H) :
    Meets (Builtin.«enumerate.__new__» ⟨[.type "enumerate", v], []⟩) (fun _ R s => H s.heap ∧
      R (.ok (.ret (.ref (s.heap.push o).objs.size))) { s with heap := (s.heap.push o).push { cls := .type "enumerate", data := .fields #[.none, .bool false, .ref s.heap.objs.size, rawInt 0, .none, .none] } }) :=
  .of_wp fun prog w A R s h => by
    obtain ⟨hp, g, d, tk, os⟩ := s; obtain ⟨h1, h⟩ := h
    have hsub := sub_enumerate
    have q1 : ∀ {A' : Around} {E : Value → Shared → Prop} {Q : Value → Shared → Prop}, Q (.ref hp.objs.size) ⟨hp.push o, g, d, tk, os⟩ → wpAny (model prog w) A' (pyIter v) Q E ⟨hp, g, d, tk, os⟩ :=
      fun q => B.iter prog w _ _ ⟨hp, g, d, tk, os⟩ _ h1 q
    wp_walk using q1
    refine wpAny_stack_any fun st => wpAny_pure ?_
    split
    · rename_i c _ _ _ _ _
      cases (c == Value.type "enumerate")
      · wp_walk using q1
        exact ⟨_, rfl, h⟩
      · wp_walk using q1
        exact ⟨_, rfl, h⟩
    · wp_walk using q1
      exact ⟨_, rfl, h⟩
theorem enumB_begins {prog : Program} {w : World} {A : Around} {E : Value → Shared → Prop} {s : Shared} {v : Value} {o : Obj} {H : Heap → Prop} {Q : Value → Shared → Prop} (B : Begins v o H) (h1 : H s.heap)
    (h : ∀ h', IsEnum h' (s.heap.objs.size + 1) s.heap.objs.size 0 .none → h'.get? s.heap.objs.size = some o → h'.objs.size = s.heap.objs.size + 2 →
      (∀ b o, s.heap.get? b = some o → h'.get? b = some o) → Q (.ref (s.heap.objs.size + 1)) { s with heap := h' }) :
    wpAny (model prog w) A (call (.type "enumerate") [v]) Q E s := by
  refine callType_new F.called_enumerate (by decide) (F.typeCall_enumerate_1 _) (F.newCall_enumerate_1 _) (fun obj => F.args_object_init_2 obj _) F.entry_enumerate_new
    (meets_enumB B) ⟨h1, ?_⟩
  have hz : (s.heap.push o).objs.size = s.heap.objs.size + 1 := Heap.size_push ..
  show _ ∧ _
  rw [hz]
  have he : IsEnum ((s.heap.push o).push { cls := .type "enumerate", data := .fields #[.none, .bool false, .ref s.heap.objs.size, rawInt 0, .none, .none] }) (s.heap.objs.size + 1) s.heap.objs.size 0 .none := by
    have := Heap.get?_push_size (s.heap.push o) (o := { cls := .type "enumerate", data := .fields #[.none, .bool false, .ref s.heap.objs.size, rawInt 0, .none, .none] }) rfl
    rw [hz] at this; exact this
  refine ⟨⟨_, he, rfl⟩, h _ he (Heap.get?_push_of_some _ (Heap.get?_push_size _ B.free)) (by rw [Heap.size_push, hz]) fun b o x => Heap.get?_push_of_some _ (Heap.get?_push_of_some _ x)⟩
end DL

set_option maxHeartbeats 1000000
namespace DL
open PySem PySem.Spec PyProof.Rows L2
/-! ### zip -/
def ztv (xs ys : List V) (i : Nat) : List V := match xs[i]?, ys[i]? with
  | some x, some y => [x, y]
  | _, _ => []
theorem turn_zipS {P : Program} {w : World} {K : PySem.W.Frag} {elts : List Expr} {kk : Nat} {tpos : Pos} {b1 b2 : Bool} {z TI TO i1 i2 a c : Addr} {xs ys : List V} (hl : ys.length = xs.length) (S : ZipSep2 z TI TO i1 i2 [i1, a] [i2, c]) (h1 : a ≠ i1) (h2 : c ≠ i2) :
    Turn P w K (.Tuple elts kk tpos) (Itw xs.length (fun H => SqB b1 K H a xs ∧ SqB b2 K H c ys) (ztv xs ys)) [z, TI, TO, i1, i2] z (fun i h => IsZs h z TI TO .none false ∧ IsTupOf2 h TI (.ref i1) (.ref i2) ∧ (∃ a1 a2, IsTupOf2 h TO a1 a2) ∧ ItB b1 h i1 a i ∧ ItB b2 h i2 c i) := by
  refine turn_w (wr := [z, TO, i1, i2]) (by simp) (fun b h => by simp at h ⊢; rcases h with h | h | h | h <;> simp [h]) (fun i h st d hc => ?_) (fun i h h' st k => ?_) (fun i => ?_) (fun X hP hw hK hh pins s σ H I hf hU => ?_) (fun A i s Q E st h => pyIter_zipS st.1 h)
  · obtain ⟨hz, hTI, ⟨a1, a2, hTO⟩, q1, q2⟩ := st
    have hc' : d = z ∨ d = TI ∨ d = TO ∨ d = i1 ∨ d = i2 := by simpa using hc
    rcases hc' with rfl | rfl | rfl | rfl | rfl
    · exact ⟨_, hz, fun v q => nomatch q⟩
    · exact ⟨_, hTI, fun v q => nomatch q⟩
    · exact ⟨_, hTO, fun v q => nomatch q⟩
    · exact q1.obj
    · exact q2.obj
  · obtain ⟨hz, hTI, ⟨a1, a2, hTO⟩, q1, q2⟩ := st
    exact ⟨k z (by simp) _ hz, k TI (by simp) _ hTI, ⟨a1, a2, k TO (by simp) _ hTO⟩, q1.at fun o q => k i1 (by simp) o q, q2.at fun o q => k i2 (by simp) o q⟩
  · unfold ztv
    split
    · show 2 ≤ sizeLine; decide
    · exact Nat.zero_le _
  · subst hP hw hK
    obtain ⟨its, rv, p, _⟩ := SqB.vals I hU.1
    obtain ⟨its2, rv2, p2, _⟩ := SqB.vals I hU.2
    have l1 : its.toArray.size = xs.length := by rw [List.size_toArray]; exact rv.length.symm
    have l2 : its2.toArray.size = ys.length := by rw [List.size_toArray]; exact rv2.length.symm
    have D1 := drw_B (prog := X.prog) (w := X.w) (b := b1) (its := its.toArray) h1
    have D2 := drw_B (prog := X.prog) (w := X.w) (b := b2) (its := its2.toArray) h2
    rw [l1] at D1
    rw [l2, hl] at D2
    have W := walks_zipS (A := X.A) hh S D1 D2
    refine ⟨_, _, _, _, W, fun i st => ⟨st.1, st.2.1, st.2.2.1, ⟨st.2.2.2.1, p⟩, st.2.2.2.2, p2⟩, fun i h st => ⟨st.1, st.2.1, st.2.2.1, st.2.2.2.1.1, st.2.2.2.2.1⟩, fun i vals hi ⟨x, y, hx, hy, ev⟩ => ⟨[x, y], ev, ?_⟩⟩
    have hx : its[i]? = some x := by simpa using hx
    have hy : its2[i]? = some y := by simpa using hy
    have hi1 : i < xs.length := by omega
    have hi2 : i < ys.length := by omega
    have hxs : xs[i]? = some xs[i] := List.getElem?_eq_getElem hi1
    have hys : ys[i]? = some ys[i] := List.getElem?_eq_getElem hi2
    obtain ⟨u, hu, ru⟩ := rv.get hxs
    obtain ⟨u2, hu2, ru2⟩ := rv2.get hys
    rw [hx] at hu
    cases hu
    rw [hy] at hu2
    cases hu2
    unfold ztv
    rw [hxs, hys]
    exact .cons ru (.cons ru2 .nil)
theorem turn_zipN {P : Program} {w : World} {K : PySem.W.Frag} {elts : List Expr} {kk : Nat} {tpos : Pos} {b1 b2 : Bool} {z TI TO i1 i2 a c : Addr} {xs ys : List V} (S : ZipSep2 z TI TO i1 i2 [i1, a] [i2, c]) (h1 : a ≠ i1) (h2 : c ≠ i2) :
    Turn P w K (.Tuple elts kk tpos) (Itw (min xs.length ys.length) (fun H => SqB b1 K H a xs ∧ SqB b2 K H c ys) (ztv xs ys)) [z, TI, TO, i1, i2] z (fun i h => IsZip h z TI TO .none ∧ IsTupOf2 h TI (.ref i1) (.ref i2) ∧ (∃ a1 a2, IsTupOf2 h TO a1 a2) ∧ ItB b1 h i1 a i ∧ ItB b2 h i2 c i) := by
  refine turn_w (wr := [z, TO, i1, i2]) (by simp) (fun b h => by simp at h ⊢; rcases h with h | h | h | h <;> simp [h]) (fun i h st d hc => ?_) (fun i h h' st k => ?_) (fun i => ?_) (fun X hP hw hK hh pins s σ H I hf hU => ?_) (fun A i s Q E st h => wpAny_pyIter_zip st.1 h)
  · obtain ⟨hz, hTI, ⟨a1, a2, hTO⟩, q1, q2⟩ := st
    have hc' : d = z ∨ d = TI ∨ d = TO ∨ d = i1 ∨ d = i2 := by simpa using hc
    rcases hc' with rfl | rfl | rfl | rfl | rfl
    · exact ⟨_, hz, fun v q => nomatch q⟩
    · exact ⟨_, hTI, fun v q => nomatch q⟩
    · exact ⟨_, hTO, fun v q => nomatch q⟩
    · exact q1.obj
    · exact q2.obj
  · obtain ⟨hz, hTI, ⟨a1, a2, hTO⟩, q1, q2⟩ := st
    exact ⟨k z (by simp) _ hz, k TI (by simp) _ hTI, ⟨a1, a2, k TO (by simp) _ hTO⟩, q1.at fun o q => k i1 (by simp) o q, q2.at fun o q => k i2 (by simp) o q⟩
  · unfold ztv
    split
    · show 2 ≤ sizeLine; decide
    · exact Nat.zero_le _
  · subst hP hw hK
    obtain ⟨its, rv, p, _⟩ := SqB.vals I hU.1
    obtain ⟨its2, rv2, p2, _⟩ := SqB.vals I hU.2
    have l1 : its.toArray.size = xs.length := by rw [List.size_toArray]; exact rv.length.symm
    have l2 : its2.toArray.size = ys.length := by rw [List.size_toArray]; exact rv2.length.symm
    have D1 := drw_B (prog := X.prog) (w := X.w) (b := b1) (its := its.toArray) h1
    have D2 := drw_B (prog := X.prog) (w := X.w) (b := b2) (its := its2.toArray) h2
    have W := WalksT.zipD2 (A := X.A) S (D1 X.A.in1 hh) (D2 X.A.in1 hh)
    rw [l1, l2] at W
    refine ⟨_, _, _, _, W, fun i st => ⟨st.1, st.2.1, st.2.2.1, ⟨st.2.2.2.1, p⟩, st.2.2.2.2, p2⟩, fun i h st => ⟨st.1, st.2.1, st.2.2.1, st.2.2.2.1.1, st.2.2.2.2.1⟩, fun i vals hi ⟨x, y, hx, hy, ev⟩ => ⟨[x, y], ev, ?_⟩⟩
    have hx : its[i]? = some x := by simpa using hx
    have hy : its2[i]? = some y := by simpa using hy
    have hi1 : i < xs.length := by omega
    have hi2 : i < ys.length := by omega
    have hxs : xs[i]? = some xs[i] := List.getElem?_eq_getElem hi1
    have hys : ys[i]? = some ys[i] := List.getElem?_eq_getElem hi2
    obtain ⟨u, hu, ru⟩ := rv.get hxs
    obtain ⟨u2, hu2, ru2⟩ := rv2.get hys
    rw [hx] at hu
    cases hu
    rw [hy] at hu2
    cases hu2
    unfold ztv
    rw [hxs, hys]
    exact .cons ru (.cons ru2 .nil)
/-! ### as data -/
section
variable {X : Cx} {C : DC} {W : XW} {F H : Hp} {σ : Sg} {δ : List SV} {elts : List Expr} {kk : Nat} {p pos tpos : Pos} {e e2 : Expr} {fa fb : SE}
theorem itok_w {n : Nat} {U : Hp → Prop} {tv : Nat → List V} {items : List D} (hn : n = items.length) (hU : ∀ H, Le F H → U H) (hd : ∀ i z, items[i]? = some z → ∃ ds, z = .tuple ds ∧ Dats C.K F (tv i) ds) : ItOk C F (Itw n U tv) items := by
  subst hn
  refine ⟨fun i F1 H σ δ l R hi => ⟨hi, hU H (l.trans R.ext)⟩, fun i F1 H σ δ x H' z l R y hz => ?_, fun F1 H σ δ l R => ⟨rfl, hU H (l.trans R.ext)⟩⟩
  obtain ⟨T, rfl, hT, rfl⟩ := y
  obtain ⟨ds, rfl, dd⟩ := hd i z hz
  obtain ⟨S2, R2⟩ := R.newF (.tup (tv i)) hT
  exact ⟨_, S2, R2, .tup (SqT.of upd_same) ((dd.mono l).mono S2.ext)⟩
def seqD : D → Option (List D)
  | .list xs => some xs
  | .tuple xs => some xs
  | _ => none
theorem seq_at {K : PySem.W.Frag} {v : V} {x : D} {xs : List D} (h : Dat K F v x) (e : seqD x = some xs) : ∃ b a vs, v = .ref a ∧ SqB b K F a vs ∧ Dats K F vs xs := by
  cases h with
  | lst h t => cases e; exact ⟨false, _, _, rfl, h, t⟩
  | tup h t => cases e; exact ⟨true, _, _, rfl, h, t⟩
  | _ => cases e
theorem sqb_mono {b : Bool} {K : PySem.W.Frag} {a : Addr} {xs : List V} (e : Le F H) (h : SqB b K F a xs) : SqB b K H a xs := by
  cases b with
  | true => exact sqt_mono e h
  | false => exact e.seq h
def enumD (k : Int) (xs : List D) : List D := xs.mapIdx fun i x => .tuple [.int (k + (i : Int)), x]
def zipD (xs ys : List D) : List D := List.zipWith (fun x y => .tuple [x, y]) xs ys
def enumS (k : Int) (f : SE) : SI := bindE (escE f) fun r => fun δ => match r with
  | .d x => (seqD x).map fun xs => .ok (enumD k xs) δ
  | _ => none
def zipSS (st : Bool) (fa fb : SE) : SI := bindE (escE fa) fun ra => bindE (escE fb) fun rb => fun δ => match ra, rb with
  | .d x, .d y => match seqD x, seqD y with
    | some xs, some ys => if st = true → ys.length = xs.length then some (.ok (zipD xs ys) δ) else none
    | _, _ => none
  | _, _ => none
theorem dats_etv {K : PySem.W.Frag} {k : Int} {vs : List V} {xs : List D} (t : Dats K F vs xs) (i : Nat) (z : D) (h : (enumD k xs)[i]? = some z) : ∃ ds, z = .tuple ds ∧ Dats K F (etv k vs i) ds := by
  unfold enumD at h
  rw [List.getElem?_mapIdx] at h
  cases q : xs[i]? with
  | none => rw [q] at h; cases h
  | some x =>
    rw [q] at h
    cases h
    obtain ⟨v, h1, h2⟩ := t.get q
    refine ⟨_, rfl, ?_⟩
    unfold etv
    rw [h1]
    exact .cons (.int _) (.cons h2 .nil)
theorem dats_ztv {K : PySem.W.Frag} {vs ws : List V} {xs ys : List D} (t : Dats K F vs xs) (u : Dats K F ws ys) (i : Nat) (z : D) (h : (zipD xs ys)[i]? = some z) : ∃ ds, z = .tuple ds ∧ Dats K F (ztv vs ws i) ds := by
  unfold zipD at h
  rw [List.getElem?_zipWith] at h
  cases q : xs[i]? with
  | none => rw [q] at h; simp at h
  | some x =>
    cases q2 : ys[i]? with
    | none => rw [q, q2] at h; simp at h
    | some y =>
      rw [q, q2] at h
      simp at h
      subst h
      obtain ⟨v, h1, h2⟩ := t.get q
      obtain ⟨v', h3, h4⟩ := u.get q2
      refine ⟨_, rfl, ?_⟩
      unfold ztv
      rw [h1, h3]
      exact .cons h2 (.cons h4 .nil)
theorem di_enum (hK : C.K = X.K) (hg : Gl X "enumerate") (hm : X.mg "enumerate" = none) (ha : DE X C W e fa) (hs : starEach [e] X.env = [(false, eval e X.env)] := by rfl) :
    DI X C W (.Tuple elts kk tpos) (.Call (.Name "enumerate" p) [e] [] pos) (enumS 0 fa) := by
  refine ⟨fun pins s σ H R I ⟨F, δ, h⟩ => ?_⟩
  have main : tD C W (escE fa) σ H fun v H1 => ∃ b a vs, [v] = [V.ref a] ∧ SqB b X.K H1 a vs ∧ R (Itw vs.length (fun H => SqB b X.K H a vs) (etv 0 vs)) H1 := by
    refine bindV (RVb := RIt C) (fun _ _ _ _ _ _ _ _ z => z) h fun v F1 H1 δ1 r1 e1 S1 R1 V1 h1 => ?_
    obtain ⟨x, rfl⟩ := esc_isD e1
    obtain ⟨o, ho⟩ := h1.some
    have ho' := ho
    cases q : seqD x with
    | none => simp only [q] at ho; cases ho
    | some xs =>
      simp only [q, Option.map_some] at ho
      cases ho
      obtain ⟨b, a, vs, rfl, hq, t⟩ := seq_at (V1 : Dat C.K F1 v x) q
      rw [← hK]
      refine ⟨b, a, vs, rfl, sqb_mono R1.ext hq, h1.use ho' Stp.refl R1 (itok_w (by unfold enumD; rw [List.length_mapIdx, t.length]) (fun H l => sqb_mono l hq) (dats_etv t))⟩
  have A : PA X [e] _ := pa_cons (de_esc ha) pa_nil hs
  refine Call_ (ld_blt I hg hm boot_enumerate (PyProof.Rows.callWith_type1 (thn (A.run pos pins s σ H (fun ws H1 => ∃ b a vs, ws = [V.ref a] ∧ SqB b X.K H1 a vs ∧ R (Itw vs.length (fun H => SqB b X.K H a vs) (etv 0 vs)) H1) I main) fun us s1 ⟨vs, H1, I1, r1, q1⟩ => ?_) hs rfl))
  obtain ⟨b, a, xs, ex, hq, q⟩ := q1
  subst ex
  cases r1 with
  | cons r rr =>
    cases rr
    cases r
    obtain ⟨its, rv, p', hz⟩ := SqB.vals I1 hq
    refine enumB_begins (begins_B (b := b) (its := its.toArray)) p' fun h' he hit hsz hk => wpAny_pyIter_enum he ?_
    have I2 : Inv X pins σ H1 { s1 with heap := h' } := I1.kept (t' := s1.toks) hk
    have la := p'.lt
    refine ⟨s1.heap.objs.size + 1, [s1.heap.objs.size + 1, s1.heap.objs.size], _, _, H1, rfl, I2, turn_enumB (b := b) (k₀ := 0) (xs := xs) (a := a) (e := s1.heap.objs.size + 1) (it := s1.heap.objs.size) (Nat.succ_ne_self _) (Nat.ne_of_lt la) (Nat.ne_of_gt (Nat.lt_succ_of_lt la)), ⟨⟨.none, by simpa using he⟩, ItB.new hit⟩, fun b hb => ?_, q⟩
    have e' : b = s1.heap.objs.size + 1 ∨ b = s1.heap.objs.size := by simpa using hb
    have hle : s1.heap.objs.size ≤ b := by
      rcases e' with z | z
      · rw [z]; exact Nat.le_add_right _ _
      · rw [z]; exact Nat.le_refl _
    exact I1.fpOk hle (I1.hok.fresh hle)
theorem zip_main {st : Bool} {R : It → Hp → Prop} (hK : C.K = X.K) (h : tX C W (RIt C) (zipSS st fa fb) F H σ δ R) : tCons (tD C W (escE fa)) (tCons (tD C W (escE fb)) tNil) σ H fun ws H1 => ∃ b1 b2 a c vs us, ws = [V.ref a, V.ref c] ∧ SqB b1 X.K H1 a vs ∧ SqB b2 X.K H1 c us ∧ (st = true → us.length = vs.length) ∧
    R (Itw (min vs.length us.length) (fun H => SqB b1 X.K H a vs ∧ SqB b2 X.K H c us) (ztv vs us)) H1 := by
  refine bindV (RVb := RIt C) (fun _ _ _ _ _ _ _ _ z => z) h fun v F1 H1 δ1 r1 e1 S1 R1 V1 h1 => ?_
  obtain ⟨x, rfl⟩ := esc_isD e1
  refine bindV (RVb := RIt C) (fun _ _ _ _ _ _ _ _ z => z) h1 fun w F2 H2 δ2 r2 e2 S2 R2 V2 h2 => ?_
  obtain ⟨y, rfl⟩ := esc_isD e2
  obtain ⟨o, ho⟩ := h2.some
  have ho' := ho
  cases q : seqD x with
  | none => simp only [q] at ho; cases ho
  | some xs =>
    cases q2 : seqD y with
    | none => simp only [q, q2] at ho; cases ho
    | some ys =>
      simp only [q, q2] at ho
      split at ho
      case isFalse => cases ho
      case isTrue hst =>
        cases ho
        obtain ⟨b1, a, vs, rfl, hq, t⟩ := seq_at (Dat.mono S2.ext (V1 : Dat C.K F1 v x)) q
        obtain ⟨b2, c, us, rfl, hq2, t2⟩ := seq_at (V2 : Dat C.K F2 w y) q2
        rw [← hK]
        refine ⟨b1, b2, a, c, vs, us, rfl, sqb_mono R2.ext hq, sqb_mono R2.ext hq2, by rw [t.length, t2.length]; exact hst, h2.use ho' Stp.refl R2 (itok_w (by unfold zipD; rw [List.length_zipWith, t.length, t2.length]) (fun H l => ⟨sqb_mono l hq, sqb_mono l hq2⟩) (dats_ztv t t2))⟩
theorem fresh5 {pins : List (Addr × Obj)} {s1 : Shared} {H1 : Hp} (I1 : Inv X pins σ H1 s1) : ∀ c, c ∈ [s1.heap.objs.size + 4, s1.heap.objs.size + 2, s1.heap.objs.size + 3, s1.heap.objs.size, s1.heap.objs.size + 1] → FpOk X pins H1 c := fun c hcm => by
  have e' : c = s1.heap.objs.size + 4 ∨ c = s1.heap.objs.size + 2 ∨ c = s1.heap.objs.size + 3 ∨ c = s1.heap.objs.size ∨ c = s1.heap.objs.size + 1 := by simpa using hcm
  have hle : s1.heap.objs.size ≤ c := by
    rcases e' with z | z | z | z | z
    · rw [z]; exact Nat.le_add_right _ _
    · rw [z]; exact Nat.le_add_right _ _
    · rw [z]; exact Nat.le_add_right _ _
    · rw [z]; exact Nat.le_refl _
    · rw [z]; exact Nat.le_add_right _ _
  exact I1.fpOk hle (I1.hok.fresh hle)
theorem di_zip (hK : C.K = X.K) (hg : Gl X "zip") (hm : X.mg "zip" = none) (ha : DE X C W e fa) (hb : DE X C W e2 fb) (hs : starEach [e, e2] X.env = (false, eval e X.env) :: starEach [e2] X.env := by rfl) (hs2 : starEach [e2] X.env = (false, eval e2 X.env) :: starEach [] X.env := by rfl)
    (hpl : (backTo pos (starEach [e2] X.env)).any (·.1) = false := by rfl) : DI X C W (.Tuple elts kk tpos) (.Call (.Name "zip" p) [e, e2] [] pos) (zipSS false fa fb) := by
  refine ⟨fun pins s σ H R I ⟨F, δ, h⟩ => ?_⟩
  have A : PA X [e, e2] _ := pa_cons (de_esc ha) (pa_cons (de_esc hb) pa_nil hs2) hs
  refine Call_ (ld_blt I hg hm PyProof.Rows.boot_zip (PyProof.Rows.callWith_type1 (thn (A.run pos pins s σ H _ I (zip_main hK h)) fun us s1 ⟨vs, H1, I1, r1, q1⟩ => ?_) hs hpl))
  obtain ⟨b1, b2, a, c, xs, ys, ex, hqx, hqy, _, q⟩ := q1
  subst ex
  cases r1 with
  | cons r rr =>
    cases rr with
    | cons r' rr =>
      cases rr
      cases r
      cases r'
      obtain ⟨its, rv, p1, _⟩ := SqB.vals I1 hqx
      obtain ⟨its2, rv2, p2, _⟩ := SqB.vals I1 hqy
      have la := p1.lt
      have lb := p2.lt
      refine zip_begins2 (begins_B (b := b1) (its := its.toArray)) (begins_B (b := b2) (its := its2.toArray)) p1 p2 fun h' hz hTI hTO h1 h2 hsz hk => wpAny_pyIter_zip hz ?_
      have I2 : Inv X pins σ H1 { s1 with heap := h' } := I1.kept (t' := s1.toks) hk
      exact ⟨s1.heap.objs.size + 4, [s1.heap.objs.size + 4, s1.heap.objs.size + 2, s1.heap.objs.size + 3, s1.heap.objs.size, s1.heap.objs.size + 1], _, _, H1, rfl, I2, turn_zipN (b1 := b1) (b2 := b2) (xs := xs) (ys := ys) (zip_sep2 (by simpa using la) (by simpa using lb)) (Nat.ne_of_lt la) (Nat.ne_of_lt (Nat.lt_succ_of_lt lb)), ⟨hz, hTI, ⟨_, _, hTO⟩, ItB.new h1, ItB.new h2⟩, fresh5 I1, q⟩
theorem di_zipS {j : Nat} {p3 kp : Pos} (hK : C.K = X.K) (hg : Gl X "zip") (hm : X.mg "zip" = none) (ha : DE X C W e fa) (hb : DE X C W e2 fb) (hs : starEach [e, e2] X.env = (false, eval e X.env) :: starEach [e2] X.env := by rfl) (hs2 : starEach [e2] X.env = (false, eval e2 X.env) :: starEach [] X.env := by rfl)
    (hpl : (backTo pos (starEach [e2] X.env)).any (·.1) = false := by rfl) : DI X C W (.Tuple elts kk tpos) (.Call (.Name "zip" p) [e, e2] [⟨some (Str.ofString "strict"), .Constant (.bool true) j p3, kp⟩] pos) (zipSS true fa fb) := by
  refine ⟨fun pins s σ H R I ⟨F, δ, h⟩ => ?_⟩
  have A : PA X [e, e2] _ := pa_cons (de_esc ha) (pa_cons (de_esc hb) pa_nil hs2) hs
  refine wpAny_Call_Name_kw (ld_blt I hg hm PyProof.Rows.boot_zip ?_)
  refine callWith_type_kw (thn (A.run pos pins s σ H _ I (zip_main hK h)) fun us s1 ⟨vs, H1, I1, r1, q1⟩ => ?_) (by rw [hs] <;> rfl) (by rw [hs]; exact hpl)
  have KW : PK X [⟨some (Str.ofString "strict"), .Constant (.bool true) j p3, kp⟩] _ := pk_cons pe_bl pk_nil
  refine thn (KW.run pos pins s1 σ H1 (fun zs H2 => zs = [V.bl true] ∧ H2 = H1) I1 ⟨rfl, rfl⟩) fun kvs s2 ⟨zs, H2, I2, rz, ez, eH⟩ => ?_
  subst ez eH
  obtain ⟨b1, b2, a, c, xs, ys, ex, hqx, hqy, hl, q⟩ := q1
  subst ex
  obtain ⟨kv, rfl, rkv⟩ := Vals.one rz
  cases (show kv = Value.bool true from rkv)
  cases r1 with
  | cons r rr =>
    cases rr with
    | cons r' rr =>
      cases rr
      cases r
      cases r'
      have hl := hl rfl
      rw [hl, Nat.min_self] at q
      obtain ⟨its, rv, p1, _⟩ := SqB.vals I2 hqx
      obtain ⟨its2, rv2, p2, _⟩ := SqB.vals I2 hqy
      have la := p1.lt
      have lb := p2.lt
      refine zipS_begins (begins_B (b := b1) (its := its.toArray)) (begins_B (b := b2) (its := its2.toArray)) p1 p2 fun h' hz hTI hTO h1 h2 hsz hk => pyIter_zipS hz ?_
      have I3 : Inv X pins σ H2 { s2 with heap := h' } := I2.kept (t' := s2.toks) hk
      exact ⟨s2.heap.objs.size + 4, [s2.heap.objs.size + 4, s2.heap.objs.size + 2, s2.heap.objs.size + 3, s2.heap.objs.size, s2.heap.objs.size + 1], _, _, H2, rfl, I3, turn_zipS (b1 := b1) (b2 := b2) (xs := xs) (ys := ys) hl (zip_sep2 (by simpa using la) (by simpa using lb)) (Nat.ne_of_lt la) (Nat.ne_of_lt (Nat.lt_succ_of_lt lb)), ⟨hz, hTI, ⟨_, _, hTO⟩, ItB.new h1, ItB.new h2⟩, fresh5 I2, q⟩
end
end DL

set_option maxHeartbeats 1000000
namespace DL
open PySem PySem.Spec PyProof.Rows L2
/-! ### sum, max, min, any, all of lists and tuples -/
section
variable {prog : Program} {w : World} {A : Around} {E : Value → Shared → Prop} {s : Shared} {b : Bool} {a : Addr} {its : List Value} {ns : List Int} {bs : List Bool} {Q : Value → Shared → Prop}
theorem walks_B {it : Addr} (hh : A.handled = none) (hne : a ≠ it) : Walks prog w A it [it, a] [it] its.toArray.size (fun i v => its.toArray[i]? = some v) (fun i h => ItB b h it a i ∧ IsB b h a its.toArray) := by
  cases b with
  | true => exact Walks.tuple hh it a hne its.toArray
  | false => exact Walks.list hh it a hne its.toArray
theorem IsB.push {h : Heap} {o : Obj} (p : IsB b h a its.toArray) : IsB b (h.push o) a its.toArray := by
  cases b with
  | true => exact p.at fun _ e => Heap.get?_push_of_some _ e
  | false => exact p.at fun _ e => Heap.get?_push_of_some _ e
theorem iter_B (hl : IsB b s.heap a its.toArray)
    (h : ∀ s₂ : Shared, s₂ = { s with heap := s.heap.push (objB b a) } → (ItB b s₂.heap s.heap.objs.size a 0 ∧ IsB b s₂.heap a its.toArray) → (∀ c ∈ [s.heap.objs.size, a], c < s₂.heap.objs.size) → a ≠ s.heap.objs.size → Q (.ref s.heap.objs.size) s₂) :
    wpAny (model prog w) A (pyIter (.ref a)) Q E s := by
  have hlt : a < s.heap.objs.size := hl.lt
  refine (begins_B (b := b) (a := a) (its := its.toArray)).iter prog w A E s Q hl (h _ rfl ⟨ItB.new (Heap.get?_push_size _ (by cases b <;> rfl)), hl.push⟩ (fun c hc => ?_) (Nat.ne_of_lt hlt))
  show c < (s.heap.push _).objs.size
  rw [Heap.size_push]
  rcases List.mem_cons.mp hc with rfl | hc
  · exact Nat.lt_succ_self _
  · rcases List.mem_cons.mp hc with rfl | hc
    · exact Nat.lt_succ_of_lt hlt
    · cases hc
theorem old_B {h' : Heap} (hk : ∀ c o, c ∉ [s.heap.objs.size] → (s.heap.push (objB b a)).get? c = some o → h'.get? c = some o) : ∀ c o, s.heap.get? c = some o → h'.get? c = some o := fun c o e => by
  refine hk c o (fun hm => ?_) (Heap.get?_push_of_some _ e)
  rcases List.mem_cons.mp hm with e1 | hm
  · exact absurd (e1 ▸ Heap.lt_size e) (Nat.lt_irrefl _)
  · cases hm
theorem ints_val (hi : IntsAre its ns) (i : Nat) (v : Value) (h : its.toArray[i]? = some v) : ∃ t, v = .int (ns.getD i 0) t := by
  have h : its[i]? = some v := by simpa using h
  have hl : i < ns.length := by
    have := (List.getElem?_eq_some_iff.mp h).1
    have := hi.length
    omega
  obtain ⟨t, e⟩ := hi.get i _ (List.getElem?_eq_getElem hl)
  rw [h] at e
  cases e
  exact ⟨t, by rw [List.getD_eq_getElem?_getD, List.getElem?_eq_getElem hl] <;> rfl⟩
theorem preSum_take (ns : List Int) : ∀ k, k ≤ ns.length → preSum (fun i => ns.getD i 0) k = (ns.take k).sum
  | 0, _ => by simp [preSum]
  | k + 1, h => by
    have ih := preSum_take ns k (by omega)
    have hk : k < ns.length := h
    rw [List.take_add_one, List.getElem?_eq_getElem hk, List.sum_append]
    simp only [Option.toList_some, List.sum_cons, List.sum_nil, Int.add_zero]
    rw [← ih]
    show preSum _ k + ns.getD k 0 = _
    rw [List.getD_eq_getElem?_getD, List.getElem?_eq_getElem hk]
    rfl
theorem sum_B (hh : A.handled = none) (hl : IsB b s.heap a its.toArray) (hi : IntsAre its ns)
    (h : ∀ h' tk t', (∀ c o, s.heap.get? c = some o → h'.get? c = some o) → Q (.int ns.sum t') { s with heap := h', toks := tk }) : wpAny (model prog w) A (call (.builtin "sum") [.ref a]) Q E s := by
  refine call_sum_walkG (iter_B hl fun s₂ e st hfp hne => ?_)
  subst e
  refine ⟨_, _, _, _, _, _, fun i => ns.getD i 0, rfl, walks_B (b := b) (A := A.in1) hh hne, st, hfp, ints_val hi, fun h' tk t' hk => ?_⟩
  have := h h' tk t' (old_B hk)
  have hlen : its.toArray.size = ns.length := by rw [List.size_toArray]; exact hi.length
  rw [hlen, preSum_take ns ns.length (Nat.le_refl _), List.take_length]
  exact this
theorem getD_in {ns : List Int} {i : Nat} (h : i < ns.length) : ns.getD i 0 ∈ ns := by
  rw [List.getD_eq_getElem?_getD, List.getElem?_eq_getElem h]
  exact List.getElem_mem h
theorem max_B (hh : A.handled = none) (hl : IsB b s.heap a its.toArray) (hi : IntsAre its ns) (hne : 0 < ns.length)
    (h : ∀ h' tk M t', (∀ c o, s.heap.get? c = some o → h'.get? c = some o) → M ∈ ns → (∀ y, y ∈ ns → y ≤ M) → Q (.int M t') { s with heap := h', toks := tk }) : wpAny (model prog w) A (call (.builtin "max") [.ref a]) Q E s := by
  have hlen : its.toArray.size = ns.length := by rw [List.size_toArray]; exact hi.length
  refine call_max_walk (iter_B hl fun s₂ e st hfp hne' => ?_)
  subst e
  refine ⟨_, _, _, _, _, _, _, rfl, walks_B (b := b) (A := A.in1) hh hne', st, hfp, by rw [hlen]; exact hne, CmpOf.ints_gt (fun i => ns.getD i 0) (ints_val hi), fun v h' tk hP hk => ?_⟩
  obtain ⟨t, rfl⟩ := ints_val hi _ _ hP
  obtain ⟨h1, h2⟩ := argBest_gt (fun i => ns.getD i 0) (its.toArray.size - 1)
  refine h h' tk _ t (old_B hk) (getD_in (by omega)) fun y hy => ?_
  obtain ⟨j, hj, rfl⟩ := List.getElem_of_mem hy
  have := h2 j (by omega)
  rw [show ns[j] = (fun i => ns.getD i 0) j by simp only; rw [List.getD_eq_getElem?_getD, List.getElem?_eq_getElem hj]; rfl]
  exact this
theorem min_B (hh : A.handled = none) (hl : IsB b s.heap a its.toArray) (hi : IntsAre its ns) (hne : 0 < ns.length)
    (h : ∀ h' tk M t', (∀ c o, s.heap.get? c = some o → h'.get? c = some o) → M ∈ ns → (∀ y, y ∈ ns → M ≤ y) → Q (.int M t') { s with heap := h', toks := tk }) : wpAny (model prog w) A (call (.builtin "min") [.ref a]) Q E s := by
  have hlen : its.toArray.size = ns.length := by rw [List.size_toArray]; exact hi.length
  refine call_min_walk (iter_B hl fun s₂ e st hfp hne' => ?_)
  subst e
  refine ⟨_, _, _, _, _, _, _, rfl, walks_B (b := b) (A := A.in1) hh hne', st, hfp, by rw [hlen]; exact hne, CmpOf.ints_lt (fun i => ns.getD i 0) (ints_val hi), fun v h' tk hP hk => ?_⟩
  obtain ⟨t, rfl⟩ := ints_val hi _ _ hP
  obtain ⟨h1, h2⟩ := argBest_lt (fun i => ns.getD i 0) (its.toArray.size - 1)
  refine h h' tk _ t (old_B hk) (getD_in (by omega)) fun y hy => ?_
  obtain ⟨j, hj, rfl⟩ := List.getElem_of_mem hy
  have := h2 j (by omega)
  rw [show ns[j] = (fun i => ns.getD i 0) j by simp only; rw [List.getD_eq_getElem?_getD, List.getElem?_eq_getElem hj]; rfl]
  exact this
theorem any_B (hh : A.handled = none) (hl : IsB b s.heap a its.toArray) (hb : its = bs.map Value.bool) (h : ∀ h' tk, (∀ c o, s.heap.get? c = some o → h'.get? c = some o) → Q (.bool (bs.any id)) { s with heap := h', toks := tk }) : wpAny (model prog w) A (call (.builtin "any") [.ref a]) Q E s := by
  refine call_any_walk (iter_B hl fun s₂ e st hfp hne => ?_)
  subst e
  refine ⟨_, _, _, _, _, _, _, rfl, walks_B (b := b) (A := A.in1) hh hne, st, truth_bools hb, fun h' tk hk => ?_⟩
  have := h h' tk (old_B hk)
  rw [← L2.any_range] at this
  rw [hb, List.size_toArray, List.length_map]
  exact this
theorem all_B (hh : A.handled = none) (hl : IsB b s.heap a its.toArray) (hb : its = bs.map Value.bool) (h : ∀ h' tk, (∀ c o, s.heap.get? c = some o → h'.get? c = some o) → Q (.bool (bs.all id)) { s with heap := h', toks := tk }) : wpAny (model prog w) A (call (.builtin "all") [.ref a]) Q E s := by
  refine call_all_walk (iter_B hl fun s₂ e st hfp hne => ?_)
  subst e
  refine ⟨_, _, _, _, _, _, _, rfl, walks_B (b := b) (A := A.in1) hh hne, st, truth_bools hb, fun h' tk hk => ?_⟩
  have := h h' tk (old_B hk)
  rw [← L2.all_range] at this
  rw [hb, List.size_toArray, List.length_map]
  exact this
end
section
variable {X : Cx} {C : DC} {W : XW} {F H : Hp} {σ : Sg} {δ : List SV}
def rSumB (K : PySem.W.Frag) : List V → Hp → VK → Prop := fun vs H Q => ∃ (b : Bool) (a : Addr) (ns : List Int), vs = [V.ref a] ∧ SqB b K H a (ns.map V.int) ∧ Q (.int ns.sum) H
def rMaxB (K : PySem.W.Frag) : List V → Hp → VK → Prop := fun vs H Q => ∃ (b : Bool) (a : Addr) (ns : List Int), vs = [V.ref a] ∧ SqB b K H a (ns.map V.int) ∧ 0 < ns.length ∧ ∀ m, m ∈ ns → (∀ y, y ∈ ns → y ≤ m) → Q (.int m) H
def rMinB (K : PySem.W.Frag) : List V → Hp → VK → Prop := fun vs H Q => ∃ (b : Bool) (a : Addr) (ns : List Int), vs = [V.ref a] ∧ SqB b K H a (ns.map V.int) ∧ 0 < ns.length ∧ ∀ m, m ∈ ns → (∀ y, y ∈ ns → m ≤ y) → Q (.int m) H
def rAnyB (K : PySem.W.Frag) : List V → Hp → VK → Prop := fun vs H Q => ∃ (b : Bool) (a : Addr) (bs : List Bool), vs = [V.ref a] ∧ SqB b K H a (bs.map V.bl) ∧ Q (.bl (bs.any id)) H
def rAllB (K : PySem.W.Frag) : List V → Hp → VK → Prop := fun vs H Q => ∃ (b : Bool) (a : Addr) (bs : List Bool), vs = [V.ref a] ∧ SqB b K H a (bs.map V.bl) ∧ Q (.bl (bs.all id)) H
theorem cr_sumB (hc : X.calm = true) : CallR X (.builtin "sum") (rSumB X.K) := by
  intro pins s σ H vs us Q I r h
  obtain ⟨b, a, ns, rfl, hs, q⟩ := h
  obtain ⟨its, rv, hl, _⟩ := SqB.vals I hs
  rw [Vals.ref1 r]
  exact sum_B (I.ok.hd hc) hl rv.ints fun h' tk t' hk => ⟨.int _, H, I.kept hk, ⟨_, rfl⟩, q⟩
theorem cr_maxB (hc : X.calm = true) : CallR X (.builtin "max") (rMaxB X.K) := by
  intro pins s σ H vs us Q I r h
  obtain ⟨b, a, ns, rfl, hs, hne, q⟩ := h
  obtain ⟨its, rv, hl, _⟩ := SqB.vals I hs
  rw [Vals.ref1 r]
  exact max_B (I.ok.hd hc) hl rv.ints hne fun h' tk m t' hk h1 h2 => ⟨.int _, H, I.kept hk, ⟨_, rfl⟩, q m h1 h2⟩
theorem cr_minB (hc : X.calm = true) : CallR X (.builtin "min") (rMinB X.K) := by
  intro pins s σ H vs us Q I r h
  obtain ⟨b, a, ns, rfl, hs, hne, q⟩ := h
  obtain ⟨its, rv, hl, _⟩ := SqB.vals I hs
  rw [Vals.ref1 r]
  exact min_B (I.ok.hd hc) hl rv.ints hne fun h' tk m t' hk h1 h2 => ⟨.int _, H, I.kept hk, ⟨_, rfl⟩, q m h1 h2⟩
theorem cr_anyB (hc : X.calm = true) : CallR X (.builtin "any") (rAnyB X.K) := by
  intro pins s σ H vs us Q I r h
  obtain ⟨b, a, bs, rfl, hs, q⟩ := h
  obtain ⟨its, rv, hl, _⟩ := SqB.vals I hs
  rw [Vals.ref1 r]
  exact any_B (I.ok.hd hc) hl rv.bls fun h' tk hk => ⟨.bl _, H, I.kept hk, rfl, q⟩
theorem cr_allB (hc : X.calm = true) : CallR X (.builtin "all") (rAllB X.K) := by
  intro pins s σ H vs us Q I r h
  obtain ⟨b, a, bs, rfl, hs, q⟩ := h
  obtain ⟨its, rv, hl, _⟩ := SqB.vals I hs
  rw [Vals.ref1 r]
  exact all_B (I.ok.hd hc) hl rv.bls fun h' tk hk => ⟨.bl _, H, I.kept hk, rfl, q⟩
theorem DatP.seq {K : PySem.W.Frag} {v : V} {x : D} {ds : List D} (e : Le F H) (h : DatP K F H v x) (q : seqD x = some ds) : ∃ b a vs, v = .ref a ∧ SqB b K H a vs ∧ Dats K F vs ds := by
  cases x with
  | list xs =>
    cases q
    obtain ⟨a, vs, rfl, h1, t⟩ := h.lst e
    exact ⟨false, a, vs, rfl, h1, t⟩
  | tuple xs =>
    cases q
    obtain ⟨a, vs, rfl, h1, t⟩ := h.tup e
    exact ⟨true, a, vs, rfl, h1, t⟩
  | _ => cases q
def toBools (xs : List D) : Option (List Bool) := xs.mapM fun x => match x with
  | .bool i => some i
  | _ => none
theorem bools_of {K : PySem.W.Frag} : ∀ {xs : List D} {ns : List Bool} {vs : List V}, Dats K F vs xs → toBools xs = some ns → vs = ns.map V.bl
  | [], ns, vs, h, e => by
    simp [toBools] at e; subst e
    cases h
    rfl
  | x :: xs, ns, vs, h, e => by
    obtain ⟨n, ms, h1, h2, rfl⟩ := mapM_cons_some e
    cases h with
    | cons hx t =>
      cases x with
      | bool i =>
        cases h1
        cases hx
        rw [bools_of t h2]
        rfl
      | _ => cases h1
def maxI : List Int → Option Int
  | [] => none
  | x :: r => some (r.foldl (fun m y => if m < y then y else m) x)
def minI : List Int → Option Int
  | [] => none
  | x :: r => some (r.foldl (fun m y => if y < m then y else m) x)
theorem fold_max : ∀ (r : List Int) (x : Int), r.foldl (fun m y => if m < y then y else m) x ∈ x :: r ∧ ∀ y ∈ x :: r, y ≤ r.foldl (fun m y => if m < y then y else m) x
  | [], x => by simp
  | z :: r, x => by
    obtain ⟨h1, h2⟩ := fold_max r (if x < z then z else x)
    have k1 : x ≤ (if x < z then z else x) := by split <;> omega
    have k2 : z ≤ (if x < z then z else x) := by split <;> omega
    refine ⟨?_, fun y hy => ?_⟩
    · rw [List.foldl_cons]
      rcases List.mem_cons.mp h1 with e | e
      · rw [e]; split <;> simp
      · simp [e]
    · rw [List.foldl_cons]
      have h3 := h2 _ List.mem_cons_self
      rcases List.mem_cons.mp hy with e | e
      · subst e; exact Int.le_trans k1 h3
      · rcases List.mem_cons.mp e with e | e
        · subst e; exact Int.le_trans k2 h3
        · exact h2 y (List.mem_cons_of_mem _ e)
theorem fold_min : ∀ (r : List Int) (x : Int), r.foldl (fun m y => if y < m then y else m) x ∈ x :: r ∧ ∀ y ∈ x :: r, r.foldl (fun m y => if y < m then y else m) x ≤ y
  | [], x => by simp
  | z :: r, x => by
    obtain ⟨h1, h2⟩ := fold_min r (if z < x then z else x)
    have k1 : (if z < x then z else x) ≤ x := by split <;> omega
    have k2 : (if z < x then z else x) ≤ z := by split <;> omega
    refine ⟨?_, fun y hy => ?_⟩
    · rw [List.foldl_cons]
      rcases List.mem_cons.mp h1 with e | e
      · rw [e]; split <;> simp
      · simp [e]
    · rw [List.foldl_cons]
      have h3 := h2 _ List.mem_cons_self
      rcases List.mem_cons.mp hy with e | e
      · subst e; exact Int.le_trans h3 k1
      · rcases List.mem_cons.mp e with e | e
        · subst e; exact Int.le_trans h3 k2
        · exact h2 y (List.mem_cons_of_mem _ e)
def seqInts (x : D) : Option (List Int) := (seqD x).bind toInts
def seqBools (x : D) : Option (List Bool) := (seqD x).bind toBools
def sumGB : List D → Option Res
  | [x] => (seqInts x).map fun ns => .d (.int ns.sum)
  | _ => none
def maxGB : List D → Option Res
  | [x] => ((seqInts x).bind maxI).map fun m => .d (.int m)
  | _ => none
def minGB : List D → Option Res
  | [x] => ((seqInts x).bind minI).map fun m => .d (.int m)
  | _ => none
def anyGB : List D → Option Res
  | [x] => (seqBools x).map fun bs => .d (.bool (bs.any id))
  | _ => none
def allGB : List D → Option Res
  | [x] => (seqBools x).map fun bs => .d (.bool (bs.all id))
  | _ => none
theorem ints_at {K : PySem.W.Frag} {v : V} {x : D} {ns : List Int} (e : Le F H) (h : DatP K F H v x) (q : seqInts x = some ns) : ∃ b a, v = .ref a ∧ SqB b K H a (ns.map V.int) := by
  unfold seqInts at q
  cases q1 : seqD x with
  | none => rw [q1] at q; cases q
  | some ds =>
    rw [q1] at q
    obtain ⟨b, a, vs, rfl, h1, t⟩ := h.seq e q1
    exact ⟨b, a, rfl, by rw [← ints_of t q]; exact h1⟩
theorem bools_at {K : PySem.W.Frag} {v : V} {x : D} {ns : List Bool} (e : Le F H) (h : DatP K F H v x) (q : seqBools x = some ns) : ∃ b a, v = .ref a ∧ SqB b K H a (ns.map V.bl) := by
  unfold seqBools at q
  cases q1 : seqD x with
  | none => rw [q1] at q; cases q
  | some ds =>
    rw [q1] at q
    obtain ⟨b, a, vs, rfl, h1, t⟩ := h.seq e q1
    exact ⟨b, a, rfl, by rw [← bools_of t q]; exact h1⟩
theorem cd_sumB : CallD C (rSumB C.K) sumGB := by
  intro F H σ δ vs xs res Q R hx e k
  unfold sumGB at e
  split at e
  · rename_i x
    cases q : seqInts x with
    | none => rw [q] at e; cases e
    | some ns =>
      rw [q] at e; cases e
      obtain ⟨v, rfl, h⟩ := hx.one
      obtain ⟨b, a, rfl, h1⟩ := ints_at R.ext h q
      exact ⟨b, a, ns, rfl, h1, k _ F H Stp.refl R (Dat.int _)⟩
  · cases e
theorem cd_maxB : CallD C (rMaxB C.K) maxGB := by
  intro F H σ δ vs xs res Q R hx e k
  unfold maxGB at e
  split at e
  · rename_i x
    cases q : seqInts x with
    | none => rw [q] at e; cases e
    | some ns =>
      rw [q] at e
      obtain ⟨v, rfl, h⟩ := hx.one
      obtain ⟨b, a, rfl, h1⟩ := ints_at R.ext h q
      cases ns with
      | nil => cases e
      | cons n r =>
        cases e
        obtain ⟨m1, m2⟩ := fold_max r n
        refine ⟨b, a, n :: r, rfl, h1, by simp, fun m hm hy => ?_⟩
        have : m = r.foldl (fun m y => if m < y then y else m) n := Int.le_antisymm (m2 m hm) (hy _ m1)
        subst this
        exact k _ F H Stp.refl R (Dat.int _)
  · cases e
theorem cd_minB : CallD C (rMinB C.K) minGB := by
  intro F H σ δ vs xs res Q R hx e k
  unfold minGB at e
  split at e
  · rename_i x
    cases q : seqInts x with
    | none => rw [q] at e; cases e
    | some ns =>
      rw [q] at e
      obtain ⟨v, rfl, h⟩ := hx.one
      obtain ⟨b, a, rfl, h1⟩ := ints_at R.ext h q
      cases ns with
      | nil => cases e
      | cons n r =>
        cases e
        obtain ⟨m1, m2⟩ := fold_min r n
        refine ⟨b, a, n :: r, rfl, h1, by simp, fun m hm hy => ?_⟩
        have : m = r.foldl (fun m y => if y < m then y else m) n := Int.le_antisymm (hy _ m1) (m2 m hm)
        subst this
        exact k _ F H Stp.refl R (Dat.int _)
  · cases e
theorem cd_anyB : CallD C (rAnyB C.K) anyGB := by
  intro F H σ δ vs xs res Q R hx e k
  unfold anyGB at e
  split at e
  · rename_i x
    cases q : seqBools x with
    | none => rw [q] at e; cases e
    | some ns =>
      rw [q] at e; cases e
      obtain ⟨v, rfl, h⟩ := hx.one
      obtain ⟨b, a, rfl, h1⟩ := bools_at R.ext h q
      exact ⟨b, a, ns, rfl, h1, k _ F H Stp.refl R (Dat.bl _)⟩
  · cases e
theorem cd_allB : CallD C (rAllB C.K) allGB := by
  intro F H σ δ vs xs res Q R hx e k
  unfold allGB at e
  split at e
  · rename_i x
    cases q : seqBools x with
    | none => rw [q] at e; cases e
    | some ns =>
      rw [q] at e; cases e
      obtain ⟨v, rfl, h⟩ := hx.one
      obtain ⟨b, a, rfl, h1⟩ := bools_at R.ext h q
      exact ⟨b, a, ns, rfl, h1, k _ F H Stp.refl R (Dat.bl _)⟩
  · cases e
variable {e : Expr} {es : List Expr} {p pos : Pos} {ga : SA}
theorem b_any : bootBuiltins "any" = some (.builtin "any") := by decide +kernel
theorem b_all : bootBuiltins "all" = some (.builtin "all") := by decide +kernel
theorem dx_sumB (hK : C.K = X.K) (hc : X.calm = true) (hg : Gl X "sum") (hm : X.mg "sum" = none) (ha : DA X C W (e :: es) ga) (he : St1 X e es := by rfl) (hpl : (backTo pos (starEach es X.env)).any (·.1) = false := by rfl) : DE X C W (.Call (.Name "sum" p) (e :: es) [] pos) (callBE sumGB ga) := de_callB (by rw [hK]; exact cr_sumB hc) cd_sumB hg hm b_sum ha (by decide) (by decide) he hpl
theorem dx_maxB (hK : C.K = X.K) (hc : X.calm = true) (hg : Gl X "max") (hm : X.mg "max" = none) (ha : DA X C W (e :: es) ga) (he : St1 X e es := by rfl) (hpl : (backTo pos (starEach es X.env)).any (·.1) = false := by rfl) : DE X C W (.Call (.Name "max" p) (e :: es) [] pos) (callBE maxGB ga) := de_callB (by rw [hK]; exact cr_maxB hc) cd_maxB hg hm b_max ha (by decide) (by decide) he hpl
theorem dx_minB (hK : C.K = X.K) (hc : X.calm = true) (hg : Gl X "min") (hm : X.mg "min" = none) (ha : DA X C W (e :: es) ga) (he : St1 X e es := by rfl) (hpl : (backTo pos (starEach es X.env)).any (·.1) = false := by rfl) : DE X C W (.Call (.Name "min" p) (e :: es) [] pos) (callBE minGB ga) := de_callB (by rw [hK]; exact cr_minB hc) cd_minB hg hm b_min ha (by decide) (by decide) he hpl
theorem dx_anyB (hK : C.K = X.K) (hc : X.calm = true) (hg : Gl X "any") (hm : X.mg "any" = none) (ha : DA X C W (e :: es) ga) (he : St1 X e es := by rfl) (hpl : (backTo pos (starEach es X.env)).any (·.1) = false := by rfl) : DE X C W (.Call (.Name "any" p) (e :: es) [] pos) (callBE anyGB ga) := de_callB (by rw [hK]; exact cr_anyB hc) cd_anyB hg hm b_any ha (by decide) (by decide) he hpl
theorem dx_allB (hK : C.K = X.K) (hc : X.calm = true) (hg : Gl X "all") (hm : X.mg "all" = none) (ha : DA X C W (e :: es) ga) (he : St1 X e es := by rfl) (hpl : (backTo pos (starEach es X.env)).any (·.1) = false := by rfl) : DE X C W (.Call (.Name "all" p) (e :: es) [] pos) (callBE allGB ga) := de_callB (by rw [hK]; exact cr_allB hc) cd_allB hg hm b_all ha (by decide) (by decide) he hpl
end
end DL

set_option maxHeartbeats 1000000
namespace DL
open PySem PySem.Spec PyProof.Rows L2
section
variable {X : Cx} {C : DC} {W : XW} {F F' F1 Fs H H' H1 Hs : Hp} {σ : Sg} {δ δ' δ1 δs : List SV} {e a b c o : Expr} {f fa fb fc : SE} {pos p : Pos} {k i j l : Nat}
/-! ### a, b, c = x, y, z -/
def parS3 (i j l : Nat) (fa fb fc : SE) : SS := bindS fa fun ra => bindS fb fun rb => bindS fc fun rc => fun δ => (putV i ra δ).bind fun δ1 => (putV j rb δ1).bind fun δ2 => (putV l rc δ2).map .nx
theorem put_nb {i j : Nat} {r : Res} (e : putV i r δ = some δ') : r ≠ .b j := fun z => by subst z; cases e
/-- what was new ahead of it is nothing that is new now -/
theorem new_apart {Hs Hs2 F1 H1 F2 H2 : Hp} {v w : V} {r r2 : Res} {q : Addr} (V1 : RV C F1 H1 σ Hs v r) (h1 : r.isPk = false) (e1 : v = .ref q) (V2 : RV C F2 H2 σ Hs2 w r2) (h2 : r2.isPk = false) (e2 : w = .ref q) (up : ∀ p, H1 p ≠ none → Hs2 p ≠ none) : False := by
  obtain ⟨p1, f1, f2, f3⟩ := RV.there V1 h1
  obtain ⟨p2, k1, k2, k3⟩ := RV.there V2 h2
  rw [e1] at f1
  rw [e2] at k1
  cases f1; cases k1
  exact up _ f2 k3
theorem ds_par3 {x y z : Str} {px py pz pt : Pos} {kt k2 pt2} (hc : X.calm = true) (hN : X.N.Nodup) (hi : X.N[i]? = some x) (hj : X.N[j]? = some y) (hl : X.N[l]? = some z) (hij : i ≠ j) (hil : i ≠ l) (hjl : j ≠ l)
    (hx : X.env.scope.names.lookup x = some .local) (hy : X.env.scope.names.lookup y = some .local) (hz : X.env.scope.names.lookup z = some .local) (ha : DE X C W a fa) (hb : DE X C W b fb) (hcc : DE X C W c fc)
    (hw : swappedStores [.Tuple [.Name x px, .Name y py, .Name z pz] kt pt] (.Tuple [a, b, c] k2 pt2) X.env = pure (some [x, y, z]) := by rfl)
    (hs : swapsWithSole [.Tuple [.Name x px, .Name y py, .Name z pz] kt pt] (.Tuple [a, b, c] k2 pt2) pos.line X.env = pure false := by rfl)
    (hs1 : starEach [a, b, c] X.env = (false, eval a X.env) :: starEach [b, c] X.env := by rfl) (hs2 : starEach [b, c] X.env = (false, eval b X.env) :: starEach [c] X.env := by rfl) (hs3 : starEach [c] X.env = (false, eval c X.env) :: starEach [] X.env := by rfl) :
    DS X C W (.Assign [.Tuple [.Name x px, .Name y py, .Name z pz] kt pt] (.Tuple [a, b, c] k2 pt2) pos) (parS3 i j l fa fb fc) := by
  refine ps_mono (ps_par3 hc hN hi hj hl hij hil hjl hx hy hz (pa_cons ha (pa_cons hb (pa_cons hcc pa_nil hs3) hs2) hs1) hw hs) fun D σ H ⟨F, δ, R, h⟩ => ?_
  refine ⟨F, δ, (bindS_read (RVa := RVl C) R h).mono fun v H1 ⟨F1, δ1, r1, e1, S1, R1, V1, q1⟩ => ?_⟩
  refine ⟨F1, δ1, (bindS_read (RVa := RVl C) R1 q1).mono fun w H2 ⟨F2, δ2, r2, e2, S2, R2, V2, q2⟩ => ?_⟩
  refine ⟨F2, δ2, (bindS_read (RVa := RVl C) R2 q2).mono fun u H3 ⟨F3, δ3, r3, e3, S3, R3, V3, q3⟩ => ?_⟩
  refine ⟨v, w, u, rfl, ?_⟩
  have no1 := RV.fresh_no R S1 V1
  have no2 := RV.fresh_no R1 S2 V2
  have no3 := RV.fresh_no R2 S3 V3
  have V1k := RV.keep V1 no1 (S2.trans S3)
  have V2k := RV.keep V2 no2 S3
  have no1' : ∀ p, v = .ref p → r1.isPk = false → ¬ OwnedAt σ δ3 p := fun p e h z => no1 p e h (S2.owned (S3.owned z))
  have no2' : ∀ p, w = .ref p → r2.isPk = false → ¬ OwnedAt σ δ3 p := fun p e h z => no2 p e h (S3.owned z)
  cases z1 : putV i r1 δ3 with
  | none => rw [z1] at q3; exact q3.elim
  | some δ4 =>
    rw [z1] at q3
    simp only [Option.bind_some] at q3
    have R4 := put_read R3 (V1k.hs fun p np => R.fresh0 np) no1' z1
    cases z2 : putV j r2 δ4 with
    | none => rw [z2] at q3; exact q3.elim
    | some δ5 =>
      rw [z2] at q3
      simp only [Option.bind_some] at q3
      have no2'' : ∀ p, w = .ref p → r2.isPk = false → ¬ OwnedAt (σ.set i (some v)) δ4 p := fun q e h z => by
        rcases OwnedAt.put z1 z with ⟨g1, g2⟩ | z
        · exact new_apart V1 g1 g2 V2 h e fun p h => h
        · exact no2' q e h z
      have R5 := put_read R4 ((RV.hs V2k fun p np => R1.fresh0 np).setσ fun m => put_nb z2) no2'' z2
      cases z3 : putV l r3 δ5 with
      | none => rw [z3] at q3; exact q3.elim
      | some δ6 =>
        rw [z3] at q3
        have no3'' : ∀ p, u = .ref p → r3.isPk = false → ¬ OwnedAt ((σ.set i (some v)).set j (some w)) δ5 p := fun q e h z => by
          rcases OwnedAt.put z2 z with ⟨g1, g2⟩ | z
          · exact new_apart V2 g1 g2 V3 h e fun p h => h
          · rcases OwnedAt.put z1 z with ⟨g1, g2⟩ | z
            · exact new_apart V1 g1 g2 V3 h e fun p h => S2.pers p h
            · exact no3 q e h z
        exact q3 _ F3 H3 (Le.refl _) (put_read R5 (((RV.hs V3 fun p np => R2.fresh0 np).setσ fun m => put_nb z3).setσ fun m => put_nb z3) no3'' z3)
/-! ### count, index of data -/
theorem mt_countD (hu : X.A.units + 65 < cLine) : MtR X "list.count" (fun x xs H Q => ∃ (a : Addr) (y : V) (d : PyData) (ds : List PyData), x = V.ref a ∧ xs = [y] ∧ Dp X.K H (V.ref a) (.list ds) ∧ Dp X.K H y d ∧ SeqAt.shaped (.list ds) = true ∧ SeqAt.shaped d = true ∧ Q (.int (ds.countP fun z => PyData.eqv z d : Nat)) H) := by
  intro pins s σ H x xs v us Q I rx rxs h
  obtain ⟨a, y, d, ds, rfl, rfl, hl, hy, sl, sd, q⟩ := h
  cases rx
  cases rxs with
  | cons ry rt =>
    rename_i uy ut
    cases rt
    obtain ⟨bs, r1⟩ := Dp.reads I d y uy hy ry
    have hxs : PyData.canLayAll0 ds = true := SeqAt.canLay_of_shaped sl
    have hroom : X.A.units + 1 + min (PyData.depthAll ds) d.depth < cLine := room_in_shaped sd hu
    cases hl with
    | lst hs ha =>
      obtain ⟨its, rv, ⟨⟨cls, dd, data, sls⟩, n, ho, hc, hdn, hdt⟩, hlen⟩ := I.list hs
      simp only at hc hdt
      subst hc hdt
      obtain ⟨as, h4⟩ := Dp.readsAll I ds _ its ha rv
      have hmap : its.map (SeqAt.readOf s.heap) = ds := SeqAt.readsAll_map ds its as hxs h4
      refine call_meets PySem.F.slot_list_count ⟨_, ho, rfl⟩ PySem.F.entry_list_count (PySem.F.args_list_count_2 _ _)
        (SeqAt.list_countAt a its.toArray n dd sls uy (fun u => PyData.eqv (SeqAt.readOf s.heap u) d)) ⟨ho, SeqAt.items_eqAt (vs := its.toArray) (show ReadsAll s.heap its.toArray.toList ds as from h4) r1 hxs (SeqAt.canLay_of_shaped sd) hroom, ?_⟩
      refine ⟨.int (ds.countP fun z => PyData.eqv z d : Nat), H, I.tok _, ⟨s.toks, ?_⟩, q⟩
      have e : its.toArray.toList.countP (fun u => PyData.eqv (SeqAt.readOf s.heap u) d) = ds.countP fun z => PyData.eqv z d := by
        rw [← hmap, List.countP_map] <;> rfl
      rw [← e]
def countDG : List D → List D → Option D
  | xs, [d] => if layD (.list xs) = true ∧ layD d = true then some (.int (xs.countP fun z => PyData.eqv z d : Nat)) else none
  | _, _ => none
/-- the first place of an equal one -/
def ixOf (d : D) : List D → Nat → Option Nat
  | [], _ => none
  | x :: r, n => if PyData.eqv x d = true then some n else ixOf d r (n + 1)
theorem ixOf_spec {d : D} : ∀ {xs : List D} {n m : Nat}, ixOf d xs n = some m → ∃ j z, m = n + j ∧ xs[j]? = some z ∧ PyData.eqv z d = true ∧ ∀ (i : Nat) (z' : D), i < j → xs[i]? = some z' → PyData.eqv z' d = false
  | [], n, m, h => by cases h
  | x :: r, n, m, h => by
    unfold ixOf at h
    split at h
    · rename_i e
      cases h
      exact ⟨0, x, rfl, rfl, e, fun i z' hi => absurd hi (Nat.not_lt_zero _)⟩
    · rename_i e
      obtain ⟨j, z, e1, e2, e3, e4⟩ := ixOf_spec h
      refine ⟨j + 1, z, by omega, by simpa using e2, e3, fun i z' hi hz => ?_⟩
      cases i with
      | zero => simp at hz; subst hz; simpa using e
      | succ i => exact e4 i z' (by omega) (by simpa using hz)
def indexDG : List D → List D → Option D
  | xs, [d] => if layD (.list xs) = true ∧ layD d = true then (ixOf d xs 0).map fun n => .int (n : Nat) else none
  | _, _ => none
theorem dats_dp {K : PySem.W.Frag} {v : V} {xs : List D} (e : Le F H) (h : DatP K F H v (.list xs)) (l : layD (.list xs) = true) : ∃ a, v = .ref a ∧ Dp K H v (.list xs) := by
  obtain ⟨a, vs, rfl, h1, t⟩ := h.lst e
  exact ⟨a, rfl, (h.dat e).dpl l⟩
theorem ld_countD : LookD C (fun x xs H Q => ∃ (a : Addr) (y : V) (d : PyData) (ds : List PyData), x = V.ref a ∧ xs = [y] ∧ Dp C.K H (V.ref a) (.list ds) ∧ Dp C.K H y d ∧ SeqAt.shaped (.list ds) = true ∧ SeqAt.shaped d = true ∧ Q (.int (ds.countP fun z => PyData.eqv z d : Nat)) H) countDG := by
  intro F H v ws xs args x Q l h ta e k
  match args, ta, e with
  | [d], .cons hd .nil, e =>
    simp only [countDG] at e
    split at e
    case isFalse => cases e
    case isTrue hl =>
      cases e
      obtain ⟨a, rfl, dp⟩ := dats_dp l h hl.1
      exact ⟨a, _, d, xs, rfl, rfl, dp, (hd.mono l).dpl hl.2, lay_shaped hl.1, lay_shaped hl.2, k _ (.int _)⟩
  | [], _, e => cases e
  | _ :: _ :: _, _, e => cases e
theorem ld_indexD : LookD C (rIndexD C.K) indexDG := by
  intro F H v ws xs args x Q l h ta e k
  match args, ta, e with
  | [d], .cons hd .nil, e =>
    simp only [indexDG] at e
    split at e
    case isFalse => cases e
    case isTrue hl =>
      cases q : ixOf d xs 0 with
      | none => rw [q] at e; cases e
      | some m =>
        rw [q] at e
        cases e
        obtain ⟨j, z, e1, e2, e3, e4⟩ := ixOf_spec q
        rw [Nat.zero_add] at e1
        subst e1
        obtain ⟨a, rfl, dp⟩ := dats_dp l h hl.1
        exact ⟨a, _, d, xs, m, z, rfl, rfl, dp, (hd.mono l).dpl hl.2, lay_shaped hl.1, lay_shaped hl.2, e2, e3, e4, k _ (.int _)⟩
  | [], _, e => cases e
  | _ :: _ :: _, _, e => cases e
variable {es : List Expr} {ga : SA} {apos cpos : Pos}
end
end DL

set_option maxHeartbeats 1000000
namespace DL
open PySem PySem.Spec PyProof.Rows L2
/-! ### repr of data with dicts in it -/
def lay2 : Nat → D → Bool
  | _, .none => true
  | _, .bool _ => true
  | _, .int _ => true
  | _, .str _ => true
  | n + 1, .list xs => xs.all (lay2 n)
  | n + 1, .tuple xs => xs.all (lay2 n)
  | n + 1, .dict ks => !isOpq ks && ks.all fun p => lay2 n p.2
  | _, _ => false
def lay2D (d : D) : Bool := lay2 8 d
/-- what the head must tell -/
def sysB (K : PySem.W.Frag) : Bool := match K.lookup sysModules with
  | some o => match o.cls with
    | .type t => decide (t = "dict")
    | _ => false
  | none => false
theorem sysB_ok {K : PySem.W.Frag} {h : Heap} (e : sysB K = true) (X : K.In h) : ∃ o, h.get? sysModules = some o ∧ o.cls = .type "dict" := by
  unfold sysB at e
  cases q : K.lookup sysModules with
  | none => rw [q] at e; cases e
  | some o =>
    rw [q] at e
    refine ⟨o, X _ _ q, ?_⟩
    simp only at e
    cases c : o.cls with
    | type t => rw [c] at e; simp only [decide_eq_true_eq] at e; rw [e]
    | _ => rw [c] at e; cases e
section
variable {X : Cx} {pins : List (Addr × Obj)} {σ : Sg} {H : Hp} {s : Shared} {C : DC} {W : XW} {F : Hp} {δ : List SV}
theorem key_reads {h : Heap} {k : Key} {v : Value} (e : keyIs k v = true) : Reads h v (kD k) [] := by
  rcases keyIs_shape e with ⟨i, t, rfl, rfl⟩ | ⟨x, t, rfl, rfl⟩
  · exact Reads.int i t
  · exact Reads.str x t
theorem depth_kD (k : Key) : (kD k).depth = 0 := by cases k <;> simp [kD, PyData.depth]
theorem pairs_keys {P : Program} {w : World} {h : Heap} {ds : List (D × D)} : ∀ {es : List DictEntry} {vs : List (Key × Value)} {kvs : List (Key × V)}, Pairs (mixKind P w) es vs → KV kvs vs → ∀ {K : PySem.W.Frag} {F : Hp} {ds : List (D × D)}, Datp K F kvs ds → ReadsAll h (es.map (·.key)) (ds.map (·.1)) []
  | _, _, _, .nil, kv, K, F, ds, d => by
    cases kv
    cases d
    exact .nil
  | _, _, _, .cons hk hv t, kv, K, F, ds, d => by
    cases kv with
    | cons e kv =>
      cases d with
      | cons h1 d =>
        obtain ⟨e1, e2⟩ := e
        simp only at e1
        subst e1
        exact .cons (key_reads hk) (pairs_keys (ds := ds) t kv d)
theorem reads2 (hs : sysB X.K = true) (I : Inv X pins σ H s) : ∀ (n : Nat) {d : D} {v : V} {u : Value}, lay2 n d = true → Dat X.K H v d → RelV v u → d.depth ≤ n ∧ ∃ as, Reads s.heap u d as ∧ sysModules ∉ as := by
  obtain ⟨os, h1, h2⟩ := sysB_ok hs I.kIn
  intro n
  induction n with
  | zero =>
    intro d v u l h r
    cases h with
    | non => cases r; exact ⟨Nat.zero_le _, _, Reads.none, by simp⟩
    | bl b => cases r; exact ⟨Nat.zero_le _, _, Reads.bool b, by simp⟩
    | int i => obtain ⟨t, rfl⟩ := r; exact ⟨Nat.zero_le _, _, Reads.int i t, by simp⟩
    | str x => obtain ⟨t, rfl⟩ := r; exact ⟨Nat.zero_le _, _, Reads.str x t, by simp⟩
    | _ => simp [lay2, excD] at l
  | succ n ih =>
    have all : ∀ {ds : List D} {vs : List V} {us : List Value}, ds.all (lay2 n) = true → Dats X.K H vs ds → Vals vs us → PyData.depthAll ds ≤ n ∧ ∃ as, ReadsAll s.heap us ds as ∧ sysModules ∉ as := by
      intro ds
      induction ds with
      | nil =>
        intro vs us l h r
        cases h
        cases r
        exact ⟨by simp [PyData.depthAll], _, .nil, by simp⟩
      | cons d ds ihd =>
        intro vs us l h r
        rw [List.all_cons, Bool.and_eq_true] at l
        cases h with
        | cons hd t =>
          cases r with
          | cons r1 r2 =>
            obtain ⟨k1, as, q1, n1⟩ := ih l.1 hd r1
            obtain ⟨k2, bs, q2, n2⟩ := ihd l.2 t r2
            refine ⟨by simp only [PyData.depthAll]; omega, _, .cons q1 q2, ?_⟩
            simp only [List.mem_append, not_or]
            exact ⟨n1, n2⟩
    have vals : ∀ {ds : List (D × D)} {kvs : List (Key × V)} {vs : List (Key × Value)} {es : List DictEntry}, (ds.all fun p => lay2 n p.2) = true → Datp X.K H kvs ds → KV kvs vs → Pairs (mixKind X.prog X.w) es vs →
        PyData.depthKv ds ≤ n ∧ ∃ as, ReadsAll s.heap (es.map (·.val)) (ds.map (·.2)) as ∧ sysModules ∉ as := by
      intro ds
      induction ds with
      | nil =>
        intro kvs vs es l h r p
        cases h
        cases r
        cases p
        exact ⟨by simp [PyData.depthKv], _, .nil, by simp⟩
      | cons d ds ihd =>
        intro kvs vs es l h r p
        rw [List.all_cons, Bool.and_eq_true] at l
        cases h with
        | cons hd t =>
          cases r with
          | cons r1 r2 =>
            cases p with
            | cons p1 p2 p3 =>
              obtain ⟨k1, as, q1, n1⟩ := ih l.1 hd r1.2
              obtain ⟨k2, bs, q2, n2⟩ := ihd l.2 t r2 p3
              refine ⟨?_, _, .cons (by show Reads s.heap _ _ as; simp only; rw [p2]; exact q1) q2, ?_⟩
              · simp only [PyData.depthKv, depth_kD]; simp only at k1; omega
              · simp only [List.mem_append, not_or]
                exact ⟨n1, n2⟩
    intro d v u l h r
    cases h with
    | non => cases r; exact ⟨Nat.zero_le _, _, Reads.none, by simp⟩
    | bl b => cases r; exact ⟨Nat.zero_le _, _, Reads.bool b, by simp⟩
    | int i => obtain ⟨t, rfl⟩ := r; exact ⟨Nat.zero_le _, _, Reads.int i t, by simp⟩
    | str x => obtain ⟨t, rfl⟩ := r; exact ⟨Nat.zero_le _, _, Reads.str x t, by simp⟩
    | lst hq ha =>
      cases r
      obtain ⟨its, rv, ⟨o, m, ho, hc, _, hd⟩, _⟩ := I.list hq
      obtain ⟨k, as, hr, nr⟩ := all (by simpa [lay2] using l) ha rv
      refine ⟨by simp only [PyData.depth]; omega, _, Reads.list ho hc hd hr, ?_⟩
      rintro (_ | ⟨_, z⟩)
      · rw [h1] at ho; cases ho; rw [h2] at hc; exact absurd hc (by decide)
      · exact nr z
    | tup hq ha =>
      cases r
      obtain ⟨its, rv, ⟨o, ho, hc, m, hd⟩, _⟩ := I.tuple hq
      obtain ⟨k, as, hr, nr⟩ := all (by simpa [lay2] using l) ha rv
      exact ⟨by simp only [PyData.depth]; omega, _, Reads.tuple ho hc hd hr, nr⟩
    | dct hq ha =>
      cases r
      obtain ⟨hz, hsm, vs, kv, o, es, ep, ho, hx, hd, _, hp, _⟩ := dk_rd I.hok hq
      simp only [lay2, Bool.and_eq_true] at l
      obtain ⟨k, as, hr, nr⟩ := vals l.2 ha kv hp
      refine ⟨by simp only [PyData.depth]; omega, _, Reads.dict ho hx.1 hd (pairs_keys (ds := []) hp kv ha) hr, ?_⟩
      simp only [List.cons_append, List.nil_append, List.mem_cons, not_or]
      refine ⟨fun z => ?_, nr⟩
      rw [← z] at hsm
      simp at hsm
    | dcT hq => simp [lay2, isOpq] at l
    | exc0 hq => simp [lay2, isOpq, excD] at l
    | exc1 hq _ _ => simp [lay2, isOpq, excD] at l
theorem call_repr2 {k : Nat} (hs : sysB X.K = true) (hg : X.A.guards = some []) (hr : Room k X.A) : CallR X (.builtin "repr") (fun xs H Q => ∃ v d, xs = [v] ∧ Dat X.K H v d ∧ lay2D d = true ∧ d.showable = true ∧ d.shown.length ≤ sizeLine ∧ Q (.str d.shown) H) := by
  intro pins s σ H xs us Q I r h
  obtain ⟨v, d, rfl, hd, hl, hsh, hz, q⟩ := h
  obtain ⟨u, rfl, ru⟩ := Vals.one r
  obtain ⟨l2, as, rd, nr⟩ := reads2 hs I 8 hl hd ru
  have big : ∀ a, u = .ref a → wpAny (model X.prog X.w) X.A (call (.builtin "repr") [u]) (EP X pins σ Q) X.xe s := fun a e => by
    subst e
    exact repr_of_reads' rd hsh (fun _ => nr) hg (by have := hr.un; omega) (fun _ _ e => e) (fun h' u' tk hk => ⟨.str d.shown, H, I.kept (t' := tk) hk, ⟨_, rfl⟩, q⟩) hz
  cases hd with
  | non =>
    obtain rfl : u = Value.none := ru
    exact PySem.P.repr_of_none ⟨.str _, H, I.tok _, ⟨_, rfl⟩, q⟩
  | bl b =>
    obtain rfl : u = Value.bool b := ru
    refine PySem.P.repr_of_bool ⟨.str (PyData.bool b).shown, H, I.tok _, ⟨s.toks, ?_⟩, q⟩
    cases b <;> rfl
  | int i =>
    obtain ⟨t, rfl⟩ := ru
    exact PySem.P.repr_of_int (by simpa [PyData.showable] using hsh) ⟨.str _, H, I.tok _, ⟨_, rfl⟩, q⟩
  | str x =>
    obtain ⟨t, rfl⟩ := ru
    exact PySem.P.repr_of_str ⟨.str _, H, I.tok _, ⟨_, rfl⟩, q⟩ (by simpa [PyData.shown] using hz)
  | lst _ _ => cases ru; exact big _ rfl
  | tup _ _ => cases ru; exact big _ rfl
  | dct _ _ => cases ru; exact big _ rfl
  | dcT _ => cases ru; exact big _ rfl
  | exc0 _ => cases ru; exact big _ rfl
  | exc1 _ _ _ => cases ru; exact big _ rfl
def repr2G : List D → Option Res
  | [x] => if lay2D x = true ∧ x.showable = true ∧ x.shown.length ≤ sizeLine then some (.d (.str x.shown)) else none
  | _ => none
theorem cd_repr2 : CallD C (fun xs H Q => ∃ v d, xs = [v] ∧ Dat C.K H v d ∧ lay2D d = true ∧ d.showable = true ∧ d.shown.length ≤ sizeLine ∧ Q (.str d.shown) H) repr2G := by
  intro F H σ δ vs xs res Q R hx e kk
  match xs, hx, e with
  | [x], hx, e =>
    simp only [repr2G] at e
    split at e
    case isFalse => cases e
    case isTrue hl =>
      cases e
      obtain ⟨v, rfl, h⟩ := hx.one
      exact ⟨v, x, rfl, h.dat R.ext, hl.1, hl.2.1, hl.2.2, kk _ F H Stp.refl R (Dat.str _)⟩
  | [], _, e => cases e
  | _ :: _ :: _, _, e => cases e
variable {e : Expr} {es : List Expr} {p pos : Pos} {ga : SA} {k : Nat}
theorem dx_repr2 (hK : C.K = X.K) (hs : sysB X.K = true) (hgd : X.A.guards = some []) (hr : Room k X.A) (hg : Gl X "repr") (hm : X.mg "repr" = none) (ha : DA X C W (e :: es) ga) (he : St1 X e es := by rfl) (hpl : (backTo pos (starEach es X.env)).any (·.1) = false := by rfl) : DE X C W (.Call (.Name "repr" p) (e :: es) [] pos) (callBE repr2G ga) := de_callB (by rw [hK]; exact call_repr2 hs hgd hr) cd_repr2 hg hm b_repr ha (by decide) (by decide) he hpl
end
end DL

namespace DL
open PySem PySem.Spec PyProof.Rows L2
/-! ### tables of classes -/
theorem all_nil {α : Type} {P : α → Prop} : ∀ p ∈ ([] : List α), P p := fun p h => by cases h
theorem all_cons {α : Type} {P : α → Prop} {a : α} {l : List α} (h : P a) (t : ∀ p ∈ l, P p) : ∀ p ∈ a :: l, P p := fun p hp => by
  rcases List.mem_cons.mp hp with rfl | hp
  · exact h
  · exact t p hp
theorem tbl_ok {α : Type} {P : Str → α → Prop} {l : List (Str × α)} (h : ∀ p ∈ l, P p.1 p.2) : ∀ c b, l.lookup c = some b → P c b := by
  intro c b e
  induction l with
  | nil => cases e
  | cons p r ih =>
    obtain ⟨k, v⟩ := p
    rw [List.lookup_cons] at e
    cases q : (c == k) with
    | true =>
      simp only [q, Option.some.injEq] at e
      subst e
      have : c = k := by simpa using q
      subst this
      exact h _ List.mem_cons_self
    | false =>
      simp only [q] at e
      exact ih (fun p hp => h p (List.mem_cons_of_mem _ hp)) e
theorem mem_ok {P : Str → Prop} {l : List Str} (h : ∀ p ∈ l, P p) : ∀ c, decide (c ∈ l) = true → P c := fun c e => h c (of_decide_eq_true e)
theorem iniB_ok {K : PySem.W.Frag} {C : Addr} {fields : List Str} (h : iniB K C fields = true) : PySem.W.findIn K (.ref C) "__init__" = some (some (.ref (He.ma K C "__init__"))) ∧ PySem.W.typeIn K (.ref (He.ma K C "__init__")) = some (.type "function") ∧ ∀ f ∈ fields, PySem.W.findIn K (.ref C) f = some none := by
  unfold iniB at h
  simp only [Bool.and_eq_true, decide_eq_true_eq, List.all_eq_true] at h
  exact ⟨h.1.1, h.1.2, h.2⟩
def cx0 : CXT := fun _ _ _ _ _ _ => False
theorem pe_self {X : Cx} {i : Nat} {x : Str} {pos : Pos} (hN : X.N[i]? = some x) (hv : Vis X.env.scope x) (hd : (x == ("__debug__" : Str)) = false := by decide) (hcd : (x == ("__classdict__" : Str)) = false := by decide) : PE X (.Name x pos) (tVar i) := pe_var hN hv hd hcd
end DL

set_option maxHeartbeats 1000000
namespace DL
open PySem PySem.Spec PyProof.Rows L2
section
variable {X : Cx} {C : DC} {W : XW} {F F' F1 Fs H H' H1 Hs : Hp} {σ : Sg} {δ δ' δ1 δs : List SV} {e a b c o : Expr} {f fa fb fc : SE} {pos p : Pos} {k i j l : Nat}
/-! ### name = [..] on one line -/
theorem ds_setLc {y : Str} {py spos : Pos} {elt tg iter : Expr} {ifs : List Expr} {scope : Scope} {own : List (Str × Nat)} {src : SI} {t : STg} {tt : SB} {te : SE} (hc : X.calm = true) (hN : X.N.Nodup) (hy : X.N[i]? = some y) (hyl : X.env.scope.names.lookup y = some .local)
    (hsw : swapsWith (.ListComp elt [⟨tg, iter, ifs, 0⟩] scope pos) (some (.Name y py)) spos.line X.env = pure true) (hi : DI X C W tg iter src) (ok : BlkOk X.N X.env.scope scope own)
    (hg : ∀ (s : Shared) (H : Hp) (c : Addr) (cl : List (Str × Addr)) (fp : List Addr), DGw (own.map (·.2)) (X.blk s H scope (compEnvC scope cl c X.env) fp) C tg t) (ht : ∀ (s : Shared) (H : Hp) (c : Addr) (cl : List (Str × Addr)) (fp : List Addr), PTs (X.blk s H scope (compEnvC scope cl c X.env) fp) ifs (tT C W0 tt))
    (he : ∀ (s : Shared) (H : Hp) (c : Addr) (cl : List (Str × Addr)) (fp : List Addr), DE (X.blk s H scope (compEnvC scope cl c X.env) fp) C W0 elt te) (hs : ∀ x, foldedSetIterable iter X.env x = pure x := by intro _; rfl) :
    DS X C W (.Assign [.Name y py] (.ListComp elt [⟨tg, iter, ifs, 0⟩] scope pos) spos) (setS i (lcE (own.map (·.2)) src t tt te)) := by
  refine ps_mono (ps_setLc hc hN hy hyl hsw hi ok (fun s H c cl fp => (hg s H c cl fp).pg) ht (fun s H c cl fp => de_esc (he s H c cl fp)) hs) fun D σ H h => lc_read (hg X.s_0 X.H_0 0 [] []).ok (bindSV' h fun v F1 H1 δ1 r R1 V no q => ?_)
  cases z : putV i r δ1 with
  | none => simp only [z] at q; exact q.elim
  | some δ2 =>
    simp only [z] at q
    exact q _ F1 H1 (Le.refl _) (put_read R1 V no z)
/-! ### a, b = x, y with names that comprehensions hold, too -/
theorem ds_par2c {x y : Str} {px py pt : Pos} {kt k2 : Nat} {pt2 : Pos} (hc : X.calm = true) (hN : X.N.Nodup) (hi : X.N[i]? = some x) (hj : X.N[j]? = some y)
    (hx : Loc X.env.scope x) (hy : Loc X.env.scope y) (ha : DE X C W a fa) (hb : DE X C W b fb)
    (hw : swappedStores [.Tuple [.Name x px, .Name y py] kt pt] (.Tuple [a, b] k2 pt2) X.env = pure none := by rfl)
    (hs : swapsWithSole [.Tuple [.Name x px, .Name y py] kt pt] (.Tuple [a, b] k2 pt2) pos.line X.env = pure false := by rfl)
    (hs1 : starEach [a, b] X.env = (false, eval a X.env) :: starEach [b] X.env := by rfl) (hs2 : starEach [b] X.env = (false, eval b X.env) :: starEach [] X.env := by rfl)
    (hfx : X.fn x = true ∨ X.env.scope.names.lookup x = some .local := by first | exact .inl rfl | exact .inr rfl) (hfy : X.fn y = true ∨ X.env.scope.names.lookup y = some .local := by first | exact .inl rfl | exact .inr rfl)
    (h1 : (assignEach [.Tuple [.Name x px, .Name y py] kt pt] X.env).map (·.2) = [assign (.Tuple [.Name x px, .Name y py] kt pt) X.env] := by rfl)
    (g1 : (assignEach [.Name x px, .Name y py] X.env).map (·.2) = assign (.Name x px) X.env :: (assignEach [.Name y py] X.env).map (·.2) := by rfl) (g2 : (assignEach [.Name y py] X.env).map (·.2) = assign (.Name y py) X.env :: (assignEach [] X.env).map (·.2) := by rfl)
    (hn : (assignEach [.Name x px, .Name y py] X.env).length = 2 := by rfl) (hst : (assignEach [.Name x px, .Name y py] X.env).findIdx? (·.1) = none := by rfl) :
    DS X C W (.Assign [.Tuple [.Name x px, .Name y py] kt pt] (.Tuple [a, b] k2 pt2) pos) (parS2 i j fa fb) := by
  refine ps_mono (ps_asg (pe_tup (pa_cons ha (pa_cons hb pa_nil hs2) hs1)) (pg_tup hc (pgs_cons (pg_name hN hi hx hfx) (pgs_cons (pg_name hN hj hy hfy) pgs_nil g2) g1) hn hst) hs hw h1) fun D σ H ⟨F, δ, R, h⟩ => ?_
  refine ⟨F, δ, (bindS_read (RVa := RVl C) R h).mono fun v H1 ⟨F1, δ1, r1, e1, S1, R1, V1, q1⟩ => ?_⟩
  refine ⟨F1, δ1, (bindS_read (RVa := RVl C) R1 q1).mono fun w H2 ⟨F2, δ2, r2, e2, S2, R2, V2, q2⟩ => ?_⟩
  refine ⟨by show 2 ≤ sizeLine; decide, fun p np => ⟨p, [v, w], rfl, SqT.of upd_same, rfl, v, [w], rfl, w, [], rfl, rfl, ?_⟩⟩
  obtain ⟨S3, R3⟩ := R2.newG (.tup [v, w]) np
  have no1 := RV.fresh_no R S1 V1
  have no2 := RV.fresh_no R1 S2 V2
  have V1k := RV.keep V1 no1 (S2.trans S3)
  have V2k := RV.keep V2 no2 S3
  have no1' : ∀ p, v = .ref p → r1.isPk = false → ¬ OwnedAt σ δ2 p := fun p e h z => no1 p e h (S2.owned z)
  cases z1 : putV i r1 δ2 with
  | none => rw [z1] at q2; exact q2.elim
  | some δ3 =>
    rw [z1] at q2
    simp only [Option.bind_some] at q2
    have R4 := put_read R3 (V1k.hs fun p np => R.fresh0 np) no1' z1
    cases z2 : putV j r2 δ3 with
    | none => rw [z2] at q2; exact q2.elim
    | some δ4 =>
      rw [z2] at q2
      refine q2 _ F2 _ (Le.refl _) (put_read R4 ((RV.hs V2k fun p np => R1.fresh0 np).setσ fun m => put_nb z2) (fun q e h z => ?_) z2)
      rcases OwnedAt.put z1 z with ⟨g1, g2⟩ | z
      · exact new_apart V1 g1 g2 V2 h e fun p h => h
      · exact no2 q e h z
theorem ds_par3c {x y z : Str} {px py pz pt : Pos} {kt k2 : Nat} {pt2 : Pos} (hc : X.calm = true) (hN : X.N.Nodup) (hi : X.N[i]? = some x) (hj : X.N[j]? = some y) (hl : X.N[l]? = some z)
    (hx : Loc X.env.scope x) (hy : Loc X.env.scope y) (hz : Loc X.env.scope z) (ha : DE X C W a fa) (hb : DE X C W b fb) (hcc : DE X C W c fc)
    (hw : swappedStores [.Tuple [.Name x px, .Name y py, .Name z pz] kt pt] (.Tuple [a, b, c] k2 pt2) X.env = pure none := by rfl)
    (hs : swapsWithSole [.Tuple [.Name x px, .Name y py, .Name z pz] kt pt] (.Tuple [a, b, c] k2 pt2) pos.line X.env = pure false := by rfl)
    (hs1 : starEach [a, b, c] X.env = (false, eval a X.env) :: starEach [b, c] X.env := by rfl) (hs2 : starEach [b, c] X.env = (false, eval b X.env) :: starEach [c] X.env := by rfl) (hs3 : starEach [c] X.env = (false, eval c X.env) :: starEach [] X.env := by rfl)
    (hfx : X.fn x = true ∨ X.env.scope.names.lookup x = some .local := by first | exact .inl rfl | exact .inr rfl) (hfy : X.fn y = true ∨ X.env.scope.names.lookup y = some .local := by first | exact .inl rfl | exact .inr rfl) (hfz : X.fn z = true ∨ X.env.scope.names.lookup z = some .local := by first | exact .inl rfl | exact .inr rfl)
    (h1 : (assignEach [.Tuple [.Name x px, .Name y py, .Name z pz] kt pt] X.env).map (·.2) = [assign (.Tuple [.Name x px, .Name y py, .Name z pz] kt pt) X.env] := by rfl)
    (g1 : (assignEach [.Name x px, .Name y py, .Name z pz] X.env).map (·.2) = assign (.Name x px) X.env :: (assignEach [.Name y py, .Name z pz] X.env).map (·.2) := by rfl) (g2 : (assignEach [.Name y py, .Name z pz] X.env).map (·.2) = assign (.Name y py) X.env :: (assignEach [.Name z pz] X.env).map (·.2) := by rfl) (g3 : (assignEach [.Name z pz] X.env).map (·.2) = assign (.Name z pz) X.env :: (assignEach [] X.env).map (·.2) := by rfl)
    (hn : (assignEach [.Name x px, .Name y py, .Name z pz] X.env).length = 3 := by rfl) (hst : (assignEach [.Name x px, .Name y py, .Name z pz] X.env).findIdx? (·.1) = none := by rfl) :
    DS X C W (.Assign [.Tuple [.Name x px, .Name y py, .Name z pz] kt pt] (.Tuple [a, b, c] k2 pt2) pos) (parS3 i j l fa fb fc) := by
  refine ps_mono (ps_asg (pe_tup (pa_cons ha (pa_cons hb (pa_cons hcc pa_nil hs3) hs2) hs1)) (pg_tup hc (pgs_cons (pg_name hN hi hx hfx) (pgs_cons (pg_name hN hj hy hfy) (pgs_cons (pg_name hN hl hz hfz) pgs_nil g3) g2) g1) hn hst) hs hw h1) fun D σ H ⟨F, δ, R, h⟩ => ?_
  refine ⟨F, δ, (bindS_read (RVa := RVl C) R h).mono fun v H1 ⟨F1, δ1, r1, e1, S1, R1, V1, q1⟩ => ?_⟩
  refine ⟨F1, δ1, (bindS_read (RVa := RVl C) R1 q1).mono fun w H2 ⟨F2, δ2, r2, e2, S2, R2, V2, q2⟩ => ?_⟩
  refine ⟨F2, δ2, (bindS_read (RVa := RVl C) R2 q2).mono fun u H3 ⟨F3, δ3, r3, e3, S3, R3, V3, q3⟩ => ?_⟩
  refine ⟨by show 3 ≤ sizeLine; decide, fun p np => ⟨p, [v, w, u], rfl, SqT.of upd_same, rfl, v, [w, u], rfl, w, [u], rfl, u, [], rfl, rfl, ?_⟩⟩
  obtain ⟨S4, R4⟩ := R3.newG (.tup [v, w, u]) np
  have no1 := RV.fresh_no R S1 V1
  have no2 := RV.fresh_no R1 S2 V2
  have no3 := RV.fresh_no R2 S3 V3
  have V1k := RV.keep V1 no1 ((S2.trans S3).trans S4)
  have V2k := RV.keep V2 no2 (S3.trans S4)
  have V3k := RV.keep V3 no3 S4
  have no1' : ∀ p, v = .ref p → r1.isPk = false → ¬ OwnedAt σ δ3 p := fun p e h z => no1 p e h (S2.owned (S3.owned z))
  have no2' : ∀ p, w = .ref p → r2.isPk = false → ¬ OwnedAt σ δ3 p := fun p e h z => no2 p e h (S3.owned z)
  cases z1 : putV i r1 δ3 with
  | none => rw [z1] at q3; exact q3.elim
  | some δ4 =>
    rw [z1] at q3
    simp only [Option.bind_some] at q3
    have R5 := put_read R4 (V1k.hs fun p np => R.fresh0 np) no1' z1
    cases z2 : putV j r2 δ4 with
    | none => rw [z2] at q3; exact q3.elim
    | some δ5 =>
      rw [z2] at q3
      simp only [Option.bind_some] at q3
      have no2'' : ∀ p, w = .ref p → r2.isPk = false → ¬ OwnedAt (σ.set i (some v)) δ4 p := fun q e h z => by
        rcases OwnedAt.put z1 z with ⟨g1, g2⟩ | z
        · exact new_apart V1 g1 g2 V2 h e fun p h => h
        · exact no2' q e h z
      have R6 := put_read R5 ((RV.hs V2k fun p np => R1.fresh0 np).setσ fun m => put_nb z2) no2'' z2
      cases z3 : putV l r3 δ5 with
      | none => rw [z3] at q3; exact q3.elim
      | some δ6 =>
        rw [z3] at q3
        have no3'' : ∀ p, u = .ref p → r3.isPk = false → ¬ OwnedAt ((σ.set i (some v)).set j (some w)) δ5 p := fun q e h z => by
          rcases OwnedAt.put z2 z with ⟨g1, g2⟩ | z
          · exact new_apart V2 g1 g2 V3 h e fun p h => h
          · rcases OwnedAt.put z1 z with ⟨g1, g2⟩ | z
            · exact new_apart V1 g1 g2 V3 h e fun p h => S2.pers p h
            · exact no3 q e h z
        exact q3 _ F3 _ (Le.refl _) (put_read R6 (((RV.hs V3k fun p np => R2.fresh0 np).setσ fun m => put_nb z3).setσ fun m => put_nb z3) no3'' z3)
theorem dx_countD {es : List Expr} {ga : SA} {apos cpos : Pos} {fo : SE} (hK : C.K = X.K) (hr : Room k X.A) (ho : DE X C W o fo) (ha : DA X C W (e :: es) ga)
    (hbase : attributeBase o "count" X.env (eval o X.env) = eval o X.env := by rfl)
    (hfew : ((backTo cpos (starEach (e :: es) X.env)).all (fun x => !x.1) && (backToKw cpos (keywordEach [] X.env)).all (fun x => x.1.isSome)
      && decide ((e :: es).length + ([] : List Keyword).length + (if ([] : List Keyword).isEmpty then 0 else 1) < 30)) = true := by rfl)
    (hline : (apos.endLine == cpos.line) = true := by rfl) (hs : starEach (e :: es) X.env = (false, eval e X.env) :: starEach es X.env := by rfl) (hplain : (backTo cpos (starEach es X.env)).any (·.1) = false := by rfl) :
    DE X C W (.Call (.Attribute o "count" apos) (e :: es) [] cpos) (lookE countDG fo ga) :=
  de_look hK PySem.F.slot_list_count PySem.F.type_list_count (mt_countD (by have := hr.un; omega)) (by rw [← hK]; exact ld_countD) ho ha hbase hfew hline hs hplain
theorem dx_indexD {es : List Expr} {ga : SA} {apos cpos : Pos} {fo : SE} (hK : C.K = X.K) (hr : Room k X.A) (ho : DE X C W o fo) (ha : DA X C W (e :: es) ga)
    (hbase : attributeBase o "index" X.env (eval o X.env) = eval o X.env := by rfl)
    (hfew : ((backTo cpos (starEach (e :: es) X.env)).all (fun x => !x.1) && (backToKw cpos (keywordEach [] X.env)).all (fun x => x.1.isSome)
      && decide ((e :: es).length + ([] : List Keyword).length + (if ([] : List Keyword).isEmpty then 0 else 1) < 30)) = true := by rfl)
    (hline : (apos.endLine == cpos.line) = true := by rfl) (hs : starEach (e :: es) X.env = (false, eval e X.env) :: starEach es X.env := by rfl) (hplain : (backTo cpos (starEach es X.env)).any (·.1) = false := by rfl) :
    DE X C W (.Call (.Attribute o "index" apos) (e :: es) [] cpos) (lookE indexDG fo ga) :=
  de_look hK PySem.F.slot_list_index PySem.F.type_list_index (mt_indexD (by have := hr.un; omega)) (by rw [← hK]; exact ld_indexD) ho ha hbase hfew hline hs hplain
end
end DL

set_option maxHeartbeats 4000000
/-! own exception classes under other ones of Python's than ValueError; those without an `__init__`; made of nothing -/
namespace DL
open PySem PySem.Spec PyProof.Rows L2
/-! ### a class's row of bases: own ones, then Python's -/
def rowB (tl : List Value) : List Value → Bool
  | .ref _ :: r => rowB tl r
  | l => l == tl
theorem rowB_at {tl : List Value} : ∀ {l : List Value}, rowB tl l = true → ∃ cs : List Addr, l = cs.map Value.ref ++ tl := by
  intro l
  induction l with
  | nil =>
    intro h
    have e : ([] : List Value) = tl := beq_iff_eq.mp h
    exact ⟨[], by simp [← e]⟩
  | cons a r ih =>
    intro h
    by_cases c : ∃ p, a = Value.ref p
    · obtain ⟨p, rfl⟩ := c
      obtain ⟨cs, e⟩ := ih h
      exact ⟨p :: cs, by rw [e]; rfl⟩
    · have h2 : (a :: r) == tl := by
        cases a <;> first | exact h | exact absurd ⟨_, rfl⟩ c
      exact ⟨[], (beq_iff_eq.mp h2)⟩
/-- what Python's class says: N its `__new__`, I its `__init__` -/
structure Bse (N I : String) (tl : List Value) : Prop where
  fc : ∃ B, ExcBaseFacts B N I tl
  ps : ∀ self : Value, refuseLoop self "__setattr__" tl = pure ()
  ob : tl.contains (.type "object") = true
theorem bseV : Bse "ValueError.__new__" "ValueError.__init__" [.type "ValueError", .type "Exception", .type "BaseException", .type "object"] := ⟨⟨_, F.excBase_ValueError⟩, fun s => F.store_ValueError.passes s, by decide +kernel⟩
theorem bseR : Bse "RuntimeError.__new__" "RuntimeError.__init__" [.type "RuntimeError", .type "Exception", .type "BaseException", .type "object"] := ⟨⟨_, F.excBase_RuntimeError⟩, fun s => F.store_RuntimeError.passes s, by decide +kernel⟩
theorem bseL : Bse "LookupError.__new__" "LookupError.__init__" [.type "LookupError", .type "Exception", .type "BaseException", .type "object"] := ⟨⟨_, F.excBase_LookupError⟩, fun s => F.store_LookupError.passes s, by decide +kernel⟩
section
variable {N I : String} {tl l : List Value}
theorem row_has (h : rowB tl l = true) (x : String) : l.contains (.type x) = tl.contains (.type x) := by
  obtain ⟨cs, rfl⟩ := rowB_at h
  induction cs with
  | nil => rfl
  | cons c r ih =>
    have hr : rowB tl (r.map Value.ref ++ tl) = true := h
    rw [List.map_cons, List.cons_append, List.contains_cons, ih hr]
    rfl
theorem row_ps (b : Bse N I tl) (h : rowB tl l = true) (self : Value) : refuseLoop self "__setattr__" l = pure () := by
  obtain ⟨cs, rfl⟩ := rowB_at h
  clear h
  induction cs with
  | nil => exact b.ps self
  | cons c r ih =>
    rw [List.map_cons, List.cons_append, refuseLoop_ref]
    exact ih
end
/-- what the written part says of an own class -/
structure OexW (K : PySem.W.Frag) (C : Addr) (N : String) (tl : List Value) : Prop where
  at_ : ∃ nm q ns bs bm sn sb ab cl dd k0 k1 k2 k3 k5, rowB tl bm = true ∧ K.lookup C = some (excClassObj nm q C ns bs bm true sn sb ab cl dd k0 k1 k2 k3 k5 N)
  sa : PySem.W.findIn K (.ref C) "__setattr__" = some (some (.builtin "object.__setattr__"))
  ex : PySem.W.subIn K (.ref C) (.type "BaseException") = some true
  ty : PySem.W.typeIn K (.ref C) = some (.type "type")
  kp : PySem.W.keepIn K (.ref C) = true
section
open Builtin Builtin.ObjectAttr PySem.W PySem.HandSPX
variable {P : Program} {w : World} {A : Around} {R : Result → Shared → Prop} {hp : Heap} {g : Array GenState} {d : Drawn} {t : Nat} {os : OsState}
/-- the first field: object's own store, the class's row known only so far -/
theorem store1 {K : PySem.W.Frag} {f : Str} {tk : Tok} {v : Value} {x C : Addr} {fv : Array Value} {cd : ClassData} (Y : K.In hp)
    (e : hp.get? x = some { cls := .ref C, data := .fields fv }) (ec : clsIn K C = some cd)
    (n0 : cd.mro.isEmpty = false) (no : cd.mro.contains (.type "object") = true) (np : refuseLoop (.ref x) "__setattr__" cd.mro = pure ())
    (hd : cd.hasDict = true) (nf : findIn K (.ref C) f = some none)
    (go : ∀ h2 t2 dx, (∀ b o, b ≠ x → hp.get? b = some o → h2.get? b = some o) → hp.objs.size ≤ dx → dx ≠ x →
      h2.get? x = some { cls := .ref C, dict := some dx, data := .fields fv } → h2.Ns1 dx (fun y => if y = f then some v else none) →
      R (.ok (.ret .none)) ⟨h2, g, d, t2, os⟩) :
    codeAny (model P w) A (.call (.builtin "object.__setattr__") ⟨[.ref x, .str f tk, v], []⟩) R ⟨hp, g, d, t, os⟩ := by
  have here : InstAt hp x { cls := .ref C, data := .fields fv } C none := ⟨e, rfl, rfl, trivial⟩
  have so := F.store_object
  have new : x ≠ hp.objs.size := Nat.ne_of_lt (Heap.lt_size e)
  have mr : mroIn K C (.type "object") = some true := by
    unfold mroIn
    rw [ec, Option.bind_some, n0, no]
    rfl
  have isO : Looks (model P w) hp (isInstance (.ref x) (.type "object")) true := here.type.andThen (looks_mroIn Y mr)
  have cD : Looks (model P w) hp (classData C) cd := looks_clsIn Y ec
  have cM : Looks (model P w) hp (mroOf (.ref C)) cd.mro := cD.andThen .now
  have tN : Looks (model P w) hp (storeTaker? none) none := .now
  refine codeAny_call_builtin so.slot.plain so.entry ?_
  refine @check_slot (model P w) _ _ ⟨hp, g, d, t, os⟩ "object.__setattr__" "object" "__setattr__" (.ref x)
    [.str f tk, v] [] _ so.kind so.split isO (so.args _ _ _) ?_
  rw [osa_eq, refuse_eq]
  refine wpAny_bind (wpAny_bind (here.type.at (wpAny_bind (cM.at ?_))))
  rw [np]
  refine wpAny_pure (wpAny_bind (here.type.at ?_))
  refine wpAny_bind ((looks_findIn Y nf).at (wpAny_bind (tN.at ?_)))
  show wpAny _ _ (storeInOwnDict (.ref x) (.ref C) (.str f tk) f v false) _ _ _
  obtain ⟨a1, a2, a3, a4, a5, a6, a7, a8, a9, a10, a11⟩ := cd
  dsimp only at hd
  subst hd
  unfold storeInOwnDict ownDictForStores
  repeat (first | with_reducible refine store_in_new ?_ ?_ | with_reducible refine wpAny_loadPart_at e ?_ | with_reducible refine cD.at ?_ | wp_step)
  · exact ⟨_, #[], _, Eq.trans
      (Heap.get?_update_ne _ _ _ _ new.symm)
      (Heap.get?_push_at rfl rfl), rfl, fun q hq => absurd hq (by simp), fun _ => rfl⟩
  · intro h2 t2 ns2 sb
    have e2 : (hp.push { cls := .type "dict", data := .dict #[] }).get? x = some { cls := .ref C, data := .fields fv } := Heap.get?_push_of_some _ e
    refine go h2 t2 hp.objs.size (fun b o nb eb => ?_) (Nat.le_refl _) new.symm ?_ ns2
    · rw [sb.2 b (Nat.ne_of_lt (Heap.lt_size eb)), Heap.get?_update_ne _ _ _ _ nb]
      exact Heap.get?_push_of_some _ eb
    · rw [sb.2 x new]
      exact Heap.get?_update_self _ e2 rfl
end
section
variable {X : Cx} {N I : String} {tl : List Value} {pins : List (Addr × Obj)} {σ : L2.St} {H : Hp} {s : Shared} {a C : Addr} {f : Str} {y : V} {u : Value} {A : Around}
theorem OexW.cl {K : PySem.W.Frag} (T : OexW K C N tl) (b : Bse N I tl) : ∃ cd, PySem.W.clsIn K C = some cd ∧ cd.hasDict = true ∧ cd.mro.isEmpty = false ∧ cd.mro.contains (.type "object") = true ∧ ∀ self : Value, refuseLoop self "__setattr__" cd.mro = pure () := by
  obtain ⟨nm, q, ns, bs, bm, sn, sb, ab, cl, dd, k0, k1, k2, k3, k5, hr, hC⟩ := T.at_
  have hr2 : rowB tl (.ref C :: bm) = true := hr
  refine ⟨_, by unfold PySem.W.clsIn; rw [hC] <;> rfl, rfl, rfl, ?_, fun self => row_ps b hr2 self⟩
  show (Value.ref C :: bm).contains (.type "object") = true
  rw [row_has hr2]
  exact b.ob
theorem ostW (T : OexW X.K C N tl) (b : Bse N I tl) (J : Inv X pins σ H s) (e : H a = some (exo a C none)) (hno : PySem.W.findIn X.K (.ref C) f = some none) (ry : RelV y u)
    {Q : Unit → Shared → Prop} {E : Value → Shared → Prop}
    (go : ∀ dx s', H dx = none → dx ≠ a → Inv X pins σ (upd (upd H dx (exd dx [(f, y)])) a (exo a C (some dx))) s' → Q () s') : wpAny (model X.prog X.w) A (setAttr (.ref a) f u) Q E s := by
  obtain ⟨cd, hc, h1, h2, h3, h4⟩ := T.cl b
  obtain ⟨t1, ho⟩ := exo_at J.hok e
  obtain ⟨hp, g, d, t, os⟩ := s
  refine PySem.W.set_plain J.kIn (od := none) (ox := { cls := .ref C, dict := none, data := .fields #[.ref t1, .none, .none, .none, .bool false, .none] }) ⟨ho, rfl, rfl, trivial⟩ T.sa ?_
  refine store1 J.kIn ho hc h2 h3 (h4 _) h1 hno fun h' tk' dx k dn dne hx hn => ?_
  have free : H dx = none := J.hok.fresh dn
  have notd : ∀ {c : Addr} {o : Obj}, hp.get? c = some o → c ≠ dx := fun {c o} q => Nat.ne_of_lt (Nat.lt_of_lt_of_le (Heap.lt_size q) dn)
  have nota : ∀ {c : Addr}, H c = none → c ≠ a := fun {c} n z => by
    rw [z, e] at n
    cases n
  have both : ∀ {c : Addr} {o : HO}, c ≠ a → H c = some o → upd (upd H dx (exd dx [(f, y)])) a (exo a C (some dx)) c = some o := fun {c o} n q => by
    rw [upd_ne n, upd_ne (ne_of_none q free)]
    exact q
  refine go dx _ free dne (J.un (t' := tk') ?_ fun c o q => ?_)
  · constructor
    · exact fun c o q n _ _ => k c o (nota n) q
    · exact fun c o q n _ _ => ⟨o.slots, k c o (nota n) q⟩
    · intro c o q n _
      rw [upd_ne (nota n), upd_ne (notd q)]
      exact n
    · intro c o q _
      by_cases hb : c = a
      · exact ⟨_, by rw [hb]; exact hx⟩
      · exact ⟨o, k c o hb q⟩
    · exact fun c xs q => both (at_ne e q exo_tup) q
    · exact fun c o v q => both (at_ne e q exo_frz) q
    · exact fun c ps q => ⟨#[], by rw [both (at_ne e q exo_tbl) q]; simp⟩
  · by_cases hb : c = a
    · subst hb
      rw [upd_same] at q
      cases q
      exact exo_ok hx
    · by_cases hd : c = dx
      · subst hd
        rw [upd_ne hb, upd_same] at q
        cases q
        exact exd_ok hn (relO_put (fs := []) ry fun _ => True.intro)
      · rw [upd_ne hb, upd_ne hd] at q
        refine (J.hok c o q).stay (fun c2 v hc2 z => k c2 v ?_ z) (fun c2 q2 => both (at_ne e q2 exo_own) q2) fun c2 xs q2 => both (at_ne e q2 exo_tup) q2
        rcases hc2 with z2 | z2
        · rw [z2]; exact hb
        · exact at_ne e z2 exo_own
theorem oinitW {us : List Value} {Q : Value → Shared → Prop} {E : Value → Shared → Prop} (T : OexW X.K C N tl) (b : Bse N I tl) (J : Inv X pins σ H s) (e : H a = some (exo a C none)) (hl : us.length ≤ sizeLine)
    (go : ∀ s', Inv X pins σ H s' → Q .none s') : wpAny (model X.prog X.w) A (call (.builtin I) (.ref a :: us)) Q E s := by
  obtain ⟨nm, q, ns, bs, bm, sn, sb, ab, cl, dd, k0, k1, k2, k3, k5, hr, hC⟩ := T.at_
  obtain ⟨t1, ho⟩ := exo_at J.hok e
  obtain ⟨B, fb⟩ := b.fc
  obtain ⟨hp, g, d, t, os⟩ := s
  refine wpAny_call (PySem.HandSPX.init_base fb (fun x => row_has hr x) (J.kIn _ _ hC) ho hl fun h' t2 k hx => ?_)
  have K2 := J.write (t' := t) (x := a) (e := a) (o := exo a C none) (by rw [e]; exact True.intro) (.inl rfl) k ⟨_, hx⟩ (exo_ok hx)
  have same : upd H a (exo a C none) = H := by
    funext c
    by_cases hc : c = a
    · subst hc; rw [upd_same, e]
    · exact upd_ne hc
  rw [same] at K2
  exact go _ K2
end
/-! ### C(..): its own `__init__` keeps sp -/
def tMkW (C : Addr) (sp : Sp) (vs : List V) (H1 : Hp) (Q : XK) : Prop := vs.length ≤ 1000 ∧ ∀ a, H1 a = none → sp (.ref a :: vs) (upd H1 a (exo a C none))
  (fun v H2 => v = .non ∧ ∃ (d : Addr) (fs : List (Str × V)), H2 a = some (exo a C (some d)) ∧ H2 d = some (exd d fs) ∧ H1 d = none ∧ Q (.ref C) (some d) (upd (del H2 a) d (.xd fs))) (fun _ _ _ => False)
section
variable {X : Cx} {N I : String} {tl : List Value} {CX : CXT} {x : Str} {C fI : Addr} {k : Nat} {fd : FuncData} {ps : List Str} {sp : Sp} {ds : List Value} {dvs : List V} {e : Expr} {es : List Expr} {ta : TA} {p pos : Pos}
theorem mkW {pins : List (Addr × Obj)} {σ : L2.St} {H1 : Hp} {Q : XK} {s : Shared} {us : List Value} {vs : List V} (T : OexW X.K C N tl) (b : Bse N I tl) (iC : PySem.W.findIn X.K (.ref C) "__init__" = some (some (.ref fI)))
    (tI : PySem.W.typeIn X.K (.ref fI) = some (.type "function")) (G : FnOk X.prog X.w X.K X.mg X.base CX k fI fd ps sp) (room : Room (k + 1) X.A) (hb : Binds X.K fd ps ds) (hd : Vals dvs ds) (hx : Passes CX X (fun _ _ _ => False))
    (J : Inv X pins σ H1 s) (r1 : Vals vs us) (q1 : tMkW C sp (vs ++ dvs) H1 Q) : wpAny (model X.prog X.w) X.A (call (.ref C) us) (MkP X pins σ Q) X.xe s := by
  obtain ⟨nm, q, ns, bs, bm, sn, sb, ab, cl, dd, k0, k1, k2, k3, k5, hr, hC⟩ := T.at_
  obtain ⟨B, fb⟩ := b.fc
  obtain ⟨hz, q2⟩ := q1
  obtain ⟨hp, g, dr, tk, os⟩ := s
  have old : hp.objs.size ≤ hp.objs.size + 1 := Nat.le_succ _
  have free : H1 (hp.objs.size + 1) = none := J.hok.fresh old
  have hq := q2 (hp.objs.size + 1) free
  have keep : ∀ c o, hp.get? c = some o → ((hp.push (PySem.W.kdv_tup us)).push (PySem.HandSPX.excO C hp.objs.size)).get? c = some o :=
    fun c o z => Heap.get?_push_of_some _ (Heap.get?_push_of_some _ z)
  have got : ((hp.push (PySem.W.kdv_tup us)).push (PySem.HandSPX.excO C hp.objs.size)).get? (hp.objs.size + 1) = some (PySem.HandSPX.excO C hp.objs.size) := by
    heap_get
  have J2 := J.laid (t' := tk) (a := hp.objs.size + 1) (o := exo (hp.objs.size + 1) C none) keep old (exo_ok got)
  have r2 : Vals (V.ref (hp.objs.size + 1) :: (vs ++ dvs)) (Value.ref (hp.objs.size + 1) :: (us ++ ds)) := .cons rfl (r1.append hd)
  have nps : (Value.ref (hp.objs.size + 1) :: us ++ ds).length = ps.length := by
    have z := r2.length
    rw [G.len _ _ _ _ hq] at z
    exact z.symm
  have small : us.length ≤ sizeLine := by
    have z := Paired.length r1
    rw [List.length_append] at hz
    rw [← z, sizeLine_eq]
    omega
  have run := G.run _ X.stack _ _ ⟨Value.ref (hp.objs.size + 1) :: us, []⟩ (Value.ref (hp.objs.size + 1) :: (us ++ ds)) _ _ (fun _ _ _ => False)
    (room.make C us []) (J2.env0.make C us []) (hb _ (Value.ref (hp.objs.size + 1) :: us) J2.kIn nps) r2 hq
  refine wpAny_call (PySem.HandSPX.call_own fb (fun y => row_has hr y) (J.kIn _ _ hC) (PySem.W.looks_findIn J.kIn iC) (fun self => PySem.W.bind_fn J.kIn self tI) small (codeAny_mono run fun r s2 back => ?_))
  match r, back with
  | .error er, back => exact hx pins σ _ _ er s2 J2 back
  | .ok (.ret u), back =>
    obtain ⟨v, H2, os2, bare, un, hok, rv, rfl, d, fs, ea, ed, nd, w⟩ := back
    obtain ⟨h2, g2, d2, t2, os'⟩ := s2
    exact ⟨rv, mk_end (raises_own T.ex T.ty) J old keep un hok os2 bare ea ed nd w⟩
/-- of things -/
theorem pmkW (T : OexW X.K C N tl) (b : Bse N I tl) (iC : PySem.W.findIn X.K (.ref C) "__init__" = some (some (.ref fI))) (tI : PySem.W.typeIn X.K (.ref fI) = some (.type "function"))
    (G : FnOk X.prog X.w X.K X.mg X.base CX k fI fd ps sp) (room : Room (k + 1) X.A) (hb : Binds X.K fd ps ds) (hd : Vals dvs ds) (hx : Passes CX X (fun _ _ _ => False)) (hg : Gl X x) (hm : X.mg x = some (.ref C)) (ha : PA X (e :: es) ta)
    (hdb : (x == ("__debug__" : Str)) = false := by decide) (he : starEach (e :: es) X.env = (false, eval e X.env) :: starEach es X.env := by rfl) (hpl : (backTo pos (starEach es X.env)).any (·.1) = false := by rfl) :
    PMk X (.Call (.Name x p) (e :: es) [] pos) (fun σ H Q => ta σ H fun vs H1 => tMkW C sp (vs ++ dvs) H1 Q) := by
  intro pins s σ H Q J h
  refine wpAny_Call_Name_kw (ld_glob J hg hm ?_ hdb)
  refine PySem.W.callWith_K (h₀ := X.base) J.ok.mod.kin T.kp (thn (ha.run pos pins s σ H _ J h) fun us s1 ⟨vs, H1, J1, r1, q1⟩ => ⟨J1.kIn, ?_⟩) he hpl
  exact mkW T b iC tI G room hb hd hx J1 r1 q1
/-- of nothing -/
theorem pmkW0 (T : OexW X.K C N tl) (b : Bse N I tl) (iC : PySem.W.findIn X.K (.ref C) "__init__" = some (some (.ref fI))) (tI : PySem.W.typeIn X.K (.ref fI) = some (.type "function"))
    (G : FnOk X.prog X.w X.K X.mg X.base CX k fI fd ps sp) (room : Room (k + 1) X.A) (hb : Binds X.K fd ps ds) (hd : Vals dvs ds) (hx : Passes CX X (fun _ _ _ => False)) (hg : Gl X x) (hm : X.mg x = some (.ref C))
    (hdb : (x == ("__debug__" : Str)) = false := by decide) : PMk X (.Call (.Name x p) [] [] pos) (fun _ H Q => tMkW C sp dvs H Q) := by
  intro pins s σ H Q J h
  refine wpAny_Call_Name_kw (ld_glob J hg hm ?_ hdb)
  refine PySem.W.callWith_K0 J.kIn T.kp ?_
  exact mkW T b iC tI G room hb hd hx J .nil h
end
/-! ### the body of an own `__init__` -/
def tIniW (K : PySem.W.Frag) (N : String) (tl : List Value) (ta : TA) : TE := fun σ H Q => ta σ H fun vs H1 => ∃ (a C : Addr) (ws : List V), vs = .ref a :: ws ∧ ws.length ≤ 1000 ∧ OexW K C N tl ∧ H1 a = some (exo a C none) ∧ Q .non H1
def tStoW (K : PySem.W.Frag) (N : String) (tl : List Value) (f : Str) (to te : TE) : TS := fun D σ H => te σ H fun y H1 => to σ H1 fun x H2 => ∃ a C : Addr, x = .ref a ∧ OexW K C N tl ∧ PySem.W.findIn K (.ref C) f = some none ∧
  H2 a = some (exo a C none) ∧ ∀ dx, H2 dx = none → dx ≠ a → D.nx σ (upd (upd H2 dx (exd dx [(f, y)])) a (exo a C (some dx)))
section
variable {X : Cx} {N I : String} {tl : List Value} {e o : Expr} {es : List Expr} {ta : TA} {to te : TE} {f : Str} {p1 p2 p pos : Pos}
theorem pe_baseW (b : Bse N I tl) (hI : PySem.W.handedIn (.builtin I) = true) {x : Str} {B : Addr} {pl : Sem Bool} (hg : Gl X x) (hm : X.mg x = some (.ref B)) (sp : PySem.W.specialIn X.K (.ref B) "__getattribute__" = some (some (.builtin "type.__getattribute__"))) (rd : PySem.W.readsIn X.K B (.type "type") = true)
    (vV : PySem.W.findCls X.K (.ref B) (.type "type") "__init__" = some (.val (.builtin I))) (ha : PA X (e :: es) ta)
    (hc : eval (.Call (.Attribute (.Name x p1) "__init__" p2) (e :: es) [] pos) X.env = (do
      let ov ← eval (.Name x p1) X.env
      standAt p2.atName
      let (f, first) ← holding [ov] (getMethod ov "__init__" pl)
      callWith pos f first (backTo pos (starEach (e :: es) X.env)) (backToKw pos (keywordEach [] X.env))) := by rfl)
    (hdb : (x == ("__debug__" : Str)) = false := by decide) (he : starEach (e :: es) X.env = (false, eval e X.env) :: starEach es X.env := by rfl) (hpl : (backTo pos (starEach es X.env)).any (·.1) = false := by rfl) :
    PE X (.Call (.Attribute (.Name x p1) "__init__" p2) (e :: es) [] pos) (tIniW X.K N tl ta) := by
  refine ⟨fun pins s σ H Q J h => ?_⟩
  refine PySem.W.methodCall_KW (ld_glob J hg hm ?_ hdb) hc
  refine PySem.W.method_cls J.kIn sp (PySem.W.cls_value J.kIn rd vV hI ?_)
  show wpAny _ _ (callWith pos (Value.builtin I) [] (backTo pos (starEach (e :: es) X.env)) []) _ _ _
  refine PyProof.Rows.callWith_method1 (thn (ha.run pos pins _ σ H _ (J.tok _) h) fun us s1 ⟨vs, H1, J1, r1, a, C, ws, ev, hl, T, ea, q⟩ => ?_) he hpl
  subst ev
  cases r1 with
  | @cons _ u0 _ ur ra rest =>
    obtain rfl : u0 = Value.ref a := ra
    refine oinitW T b J1 ea ?_ fun s' J2 => ⟨.non, H1, J2, rfl, q⟩
    rw [← Paired.length rest, sizeLine_eq]
    omega
theorem ps_stoW (b : Bse N I tl) (ho : PE X o to) (he : PE X e te) (hs : swapsWith e (some (.Attribute o f p)) pos.line X.env = pure false := by rfl) : PS X (.Assign [.Attribute o f p] e pos) (tStoW X.K N tl f to te) := by
  refine ⟨fun pins s σ H D J h => ?_⟩
  refine plainObj_wpAny_Assign_Attribute (thn (he.run pins s σ H _ J h) fun v s1 ⟨y, H1, J1, r1, q1⟩ => thn (ho.run pins s1 σ H1 _ J1 q1) fun u s2 ⟨x, H2, J2, r2, a, C, ex, T, hno, ea, q⟩ => ?_) hs
  subst ex
  obtain rfl : u = Value.ref a := r2
  exact ostW T b J2 ea hno r1 fun dx s' n ne J3 => ⟨σ, _, J3, q dx n ne⟩
end
theorem init1W {K : PySem.W.Frag} {N : String} {tl : List Value} {C : Addr} {y msg : Str} {vs : List V} {H : Hp} {Q : VK} {E : XK} (T : OexW K C N tl) (hno : PySem.W.findIn K (.ref C) y = some none) (h : spI C [y] vs H Q E) :
    tSeq (tDrop (tIniW K N tl (tCons (tVar 0) (tCons (tC (.str msg)) tNil)))) (tStoW K N tl y (tVar 0) (tVar 1)) { nx := fun _ H' => Q .non H', rt := Q } (start ["self", y] vs) H := by
  obtain ⟨a, ys, rfl, hl, ea, q⟩ := h
  match ys, hl with
  | [v], _ => exact ⟨.ref a, rfl, a, C, [.str msg], rfl, Nat.le_of_ble_eq_true rfl, T, ea, v, rfl, .ref a, rfl, a, C, rfl, T, hno, ea, fun d nd ne => q d nd ne⟩
/-! ### raise -/
section
variable {X : Cx} {C : DC} {W : XW} {F F' H H' : Hp} {σ : Sg} {δ δ' : List SV}
theorem made_end {cls : Str} {fields : List Str} {vs : List V} {xs : List D} (R1 : Rp C F H σ δ) (dall : Dats C.K F vs xs) (hl : xs.length = fields.length) (h1000 : xs.length ≤ 1000) {Q : XK}
    (q : ∀ d, H d = none → Le F (upd F d (.xd (fields.zip vs).reverse)) → Rp C (upd F d (.xd (fields.zip vs).reverse)) (upd H d (.xd (fields.zip vs).reverse)) σ δ → XOk C (upd F d (.xd (fields.zip vs).reverse)) (upd H d (.xd (fields.zip vs).reverse)) ⟨cls, some (fields.zip xs).reverse⟩ (some d) → Q (.ref (He.ga C.K cls)) (some d) (upd H d (.xd (fields.zip vs).reverse))) :
    tMkW (He.ga C.K cls) (spI (He.ga C.K cls) fields) vs H Q := by
  refine ⟨by rw [dall.length]; exact h1000, fun a na => ⟨a, vs, rfl, dall.length.trans hl, upd_same, fun d nd ne => ⟨rfl, d, _, upd_same, by rw [upd_ne ne, upd_same], ?_, ?_⟩⟩⟩
  · rw [upd_ne ne] at nd; exact nd
  · have nd1 : H d = none := by rw [upd_ne ne] at nd; exact nd
    have eqH : upd (del (upd (upd (upd H a (exo a (He.ga C.K cls) none)) d (exd d (fields.zip vs).reverse)) a (exo a (He.ga C.K cls) (some d))) a) d (.xd (fields.zip vs).reverse) = upd H d (.xd (fields.zip vs).reverse) := by
      funext c
      by_cases hb : c = d
      · rw [hb, upd_same, upd_same]
      · rw [upd_ne hb, upd_ne hb]
        by_cases hb2 : c = a
        · rw [hb2, del_same, na]
        · rw [del_ne hb2, upd_ne hb2, upd_ne hb, upd_ne hb2]
    rw [eqH]
    obtain ⟨S2, R2⟩ := R1.newF (.xd (fields.zip vs).reverse) nd1
    exact q d nd1 S2.ext R2 ⟨d, _, rfl, .inl upd_same, (Flds.zipR fields dall).mono S2.ext⟩
theorem ds_raiseW {es : List Expr} {call : Expr} {cls : Str} {fields : List Str} {dfl : List D} {dvs : List V} {fa : SA} {pos : Pos} (hc : X.calm = true) (tk : Takes X W) (ha : DA X C W es fa) (hd : ∀ F, Dats C.K F dvs dfl)
    (mk : ∀ ta, PA X es ta → PMk X call (fun σ H Q => ta σ H fun vs H1 => tMkW (He.ga C.K cls) (spI (He.ga C.K cls) fields) (vs ++ dvs) H1 Q)) (hf : fields.length ≤ 1000 := by decide) : DS X C W (.Raise (some call) none pos) (raiseF cls fields dfl fa) := by
  refine ps_mono (ps_raise hc tk (mk _ ha)) fun D σ H h => ?_
  refine bindSA h fun vs F1 H1 δ1 rs R1 V1 q => ?_
  cases q1 : datas rs with
  | none => simp only [q1] at q; exact q.elim
  | some xs =>
    simp only [q1] at q
    by_cases hl : (xs ++ dfl).length = fields.length ∧ xs.length ≤ 1000
    case neg => rw [if_neg hl] at q; exact q.elim
    rw [if_pos hl] at q
    exact made_end (cls := cls) R1 ((V1.datas q1).append (hd F1)) hl.1 (by rw [hl.1]; exact hf) fun d nd le R2 x => q σ _ _ (some d) le R2 x
theorem ds_raiseW0 {call : Expr} {cls : Str} {fields : List Str} {dfl : List D} {dvs : List V} {pos : Pos} (hc : X.calm = true) (tk : Takes X W) (hd : ∀ F, Dats C.K F dvs dfl)
    (mk : PMk X call (fun _ H Q => tMkW (He.ga C.K cls) (spI (He.ga C.K cls) fields) dvs H Q)) (hf : fields.length ≤ 1000 := by decide) : DS X C W (.Raise (some call) none pos) (raiseF cls fields dfl nilA) := by
  refine ps_mono (ps_raise hc tk mk) fun D σ H h => ?_
  obtain ⟨F, δ, R, h⟩ := h
  have h2 : SOk C W D F (if ([] ++ dfl).length = fields.length ∧ ([] : List DL.D).length ≤ 1000 then some (.ex ⟨cls, some (fields.zip ([] ++ dfl)).reverse⟩ δ) else none) := h
  by_cases hl : ([] ++ dfl).length = fields.length ∧ ([] : List DL.D).length ≤ 1000
  case neg => rw [if_neg hl] at h2; exact h2.elim
  rw [if_pos hl] at h2
  exact made_end (cls := cls) R (hd F) hl.1 (by have := hl.1; simp only [List.nil_append] at this; rw [this]; exact hf) fun d nd le R2 x => h2 σ _ _ (some d) le R2 x
/-- an own class without an `__init__` -/
def raise0 (cls : Str) (fa : SA) : SS := bindS fa fun rs δ => match datas rs with
  | some xs => if xs.length ≤ 1000 then some (.ex ⟨cls, none⟩ δ) else none
  | none => none
theorem ds_raise0 {es : List Expr} {call : Expr} {cls : Str} {fa : SA} {pos : Pos} (hc : X.calm = true) (tk : Takes X W) (ha : DA X C W es fa)
    (mk : ∀ ta, PA X es ta → PMk X call (fun σ H Q => ta σ H fun vs H1 => vs.length ≤ sizeLine ∧ Q (.ref (He.ga C.K cls)) none H1)) : DS X C W (.Raise (some call) none pos) (raise0 cls fa) := by
  refine ps_mono (ps_raise hc tk (mk _ ha)) fun D σ H h => ?_
  refine bindSA h fun vs F1 H1 δ1 rs R1 V1 q => ?_
  cases q1 : datas rs with
  | none => simp only [q1] at q; exact q.elim
  | some xs =>
    simp only [q1] at q
    by_cases hl : xs.length ≤ 1000
    case neg => rw [if_neg hl] at q; exact q.elim
    rw [if_pos hl] at q
    refine ⟨?_, q σ _ _ none (Le.refl _) R1 rfl⟩
    rw [(V1.datas q1).length, sizeLine_eq]
    omega
end
/-! ### what the head must tell of a class -/
def oexWB (N : String) (tl : List Value) (K : PySem.W.Frag) (C : Addr) : Bool := (match K.lookup C with
    | some ⟨.type t, _, .cls cd, sl⟩ => (match cd.mro, sl.toList with
      | .ref C' :: bm, [_, _, _, _, some (.builtin n), _] => decide (t = "type") && decide (C' = C) && decide (n = N) && !cd.hasDel && cd.hasDict && rowB tl bm
      | _, _ => false)
    | _ => false) && decide (PySem.W.findIn K (.ref C) "__setattr__" = some (some (.builtin "object.__setattr__"))) && decide (PySem.W.subIn K (.ref C) (.type "BaseException") = some true) && decide (PySem.W.typeIn K (.ref C) = some (.type "type")) && PySem.W.keepIn K (.ref C)
theorem oexWB_ok {N : String} {tl : List Value} {K : PySem.W.Frag} {C : Addr} (h : oexWB N tl K C = true) : OexW K C N tl := by
  unfold oexWB at h
  simp only [Bool.and_eq_true, decide_eq_true_eq] at h
  obtain ⟨⟨⟨⟨h1, h2⟩, h3⟩, h4⟩, h5⟩ := h
  refine ⟨?_, h2, h3, h4, h5⟩
  split at h1
  · rename_i t dd cd sl ho
    split at h1
    · rename_i C' bm k0 k1 k2 k3 n k5 hm hs
      simp only [Bool.and_eq_true, decide_eq_true_eq, Bool.not_eq_true'] at h1
      obtain ⟨⟨⟨⟨⟨rfl, rfl⟩, rfl⟩, hdel⟩, hdict⟩, hv⟩ := h1
      obtain ⟨nm, bs, mro, ns, qn, hd, sn, sub, ab, col, del⟩ := cd
      dsimp only at hm hdel hdict
      subst hm hdel hdict
      have hsl : sl = #[k0, k1, k2, k3, some (.builtin n), k5] := by
        obtain ⟨l⟩ := sl
        simp only at hs
        rw [hs]
      subst hsl
      exact ⟨nm, qn, ns, bs, bm, sn, sub, ab, col, dd, k0, k1, k2, k3, k5, hv, ho⟩
    · cases h1
  · cases h1
/-- its base's `__init__` is Python's own, I -/
def basWB (I : String) (K : PySem.W.Frag) (B : Addr) : Bool := decide (PySem.W.specialIn K (.ref B) "__getattribute__" = some (some (.builtin "type.__getattribute__"))) && PySem.W.readsIn K B (.type "type") && (match PySem.W.findCls K (.ref B) (.type "type") "__init__" with
  | some (.val (.builtin n)) => decide (n = I)
  | _ => false)
theorem basWB_ok {I : String} {K : PySem.W.Frag} {B : Addr} (h : basWB I K B = true) : PySem.W.specialIn K (.ref B) "__getattribute__" = some (some (.builtin "type.__getattribute__")) ∧ PySem.W.readsIn K B (.type "type") = true ∧ PySem.W.findCls K (.ref B) (.type "type") "__init__" = some (.val (.builtin I)) := by
  unfold basWB at h
  simp only [Bool.and_eq_true, decide_eq_true_eq] at h
  obtain ⟨⟨h1, h2⟩, h3⟩ := h
  refine ⟨h1, h2, ?_⟩
  split at h3
  · rename_i n e
    rw [e, of_decide_eq_true h3]
  · cases h3
abbrev tlV : List Value := [.type "ValueError", .type "Exception", .type "BaseException", .type "object"]
abbrev tlR : List Value := [.type "RuntimeError", .type "Exception", .type "BaseException", .type "object"]
abbrev tlL : List Value := [.type "LookupError", .type "Exception", .type "BaseException", .type "object"]
/-- one without an `__init__` of its own -/
def ex0B (N : String) (tl : List Value) (K : PySem.W.Frag) (C : Addr) : Bool := PySem.W.excIn K C tl N && PySem.W.keepIn K (.ref C) && decide (PySem.W.subIn K (.ref C) (.type "BaseException") = some true) && decide (PySem.W.typeIn K (.ref C) = some (.type "type"))
theorem ex0B_ok {N : String} {tl : List Value} {K : PySem.W.Frag} {C : Addr} (h : ex0B N tl K C = true) : PySem.W.excIn K C tl N = true ∧ PySem.W.keepIn K (.ref C) = true ∧ PySem.W.subIn K (.ref C) (.type "BaseException") = some true ∧ PySem.W.typeIn K (.ref C) = some (.type "type") := by
  unfold ex0B at h
  simp only [Bool.and_eq_true, decide_eq_true_eq] at h
  exact ⟨h.1.1.1, h.1.1.2, h.1.2, h.2⟩
theorem pmk0 {X : Cx} {C : Addr} {N I : String} {tl : List Value} {x : Str} {p pos : Pos} {e : Expr} {es : List Expr} {t : TA} (b : Bse N I tl) (h : ex0B N tl X.K C = true) (gC : X.mg x = some (.ref C)) (hg : Gl X x) (ha : PA X (e :: es) t)
    (hdb : (x == ("__debug__" : Str)) = false := by decide) (he : starEach (e :: es) X.env = (false, eval e X.env) :: starEach es X.env := by rfl) (hpl : (backTo pos (starEach es X.env)).any (·.1) = false := by rfl) :
    PMk X (.Call (.Name x p) (e :: es) [] pos) (fun σ H Q => t σ H fun vs H1 => vs.length ≤ sizeLine ∧ Q (.ref C) none H1) := by
  obtain ⟨B, fb⟩ := b.fc
  obtain ⟨h1, h2, h3, h4⟩ := ex0B_ok h
  exact pmk_ownA fb h1 gC h2 (raises_own h3 h4) hg ha hdb he hpl
end DL

set_option maxHeartbeats 4000000
/-! `x, d[k] = a, b`; len of a dict; tuple(range(..)) -/
namespace DL
open PySem PySem.Spec PyProof.Rows L2
section
variable {X : Cx} {C : DC} {W : XW} {F F' H H' : Hp} {σ : Sg} {δ δ' : List SV} {k : Nat}
/-! ### x, d[k] = e: a name, then a place of an own list or dict -/
def subT (j l : Nat) (y : D) : List SV → Option (List SV) := fun δ => match δ[j]?, δ[l]? with
  | some (.L n xs), some (.d (.int i)) => (ixN xs.length i).map fun m => δ.set j (.L n (xs.set m y))
  | some (.M n ks), some (.d ix) => (keyD ix).bind fun ky => if ks.length < sizeLine then some (δ.set j (.M n (putD ks ky y))) else none
  | _, _ => none
def parNS (i j l : Nat) (f : SE) : SS := bindS (escE f) fun r δ => match r with
  | .d (.tuple [x, y]) => (subT j l y (δ.set i (.d x))).map .nx
  | _ => none
/-- what is written into a place of a slot's own list or dict -/
theorem subT_read {j l : Nat} {w : V} {y : D} {Q : Hp → Prop} (R : Rp C F H σ δ) (dy : Dat C.K F w y) (e : subT j l y δ = some δ') (go : ∀ H', Rp C F H' σ δ' → Q H') :
    ∃ o i : V, σ[j]? = some (some o) ∧ σ[l]? = some (some i) ∧ (rSetL o i w H Q ∨ rSetD o i w H Q) := by
  have at_ : ∀ (m : Nat) (t : SV), δ[m]? = some t → ∃ vt, σ[m]? = some vt ∧ SlotOk C F H vt t := by
    intro m t em
    have lm := (List.getElem?_eq_some_iff.mp em).1
    rw [R.len] at lm
    exact ⟨_, List.getElem?_eq_getElem lm, R.slot m _ t (List.getElem?_eq_getElem lm) em⟩
  cases ej : δ[j]? with
  | none => simp [subT, ej] at e
  | some tj =>
    cases el : δ[l]? with
    | none => cases tj <;> simp [subT, ej, el] at e
    | some tl =>
      obtain ⟨vj, gj, kj⟩ := at_ j tj ej
      obtain ⟨vl, gl, kl⟩ := at_ l tl el
      cases tl with
      | d ix =>
        obtain ⟨u, rfl, du⟩ := kl
        cases tj with
        | L n xs =>
          obtain ⟨p, ws, rfl, lb, hp, fp, tp⟩ := kj
          cases ix with
          | int m =>
            cases e6 : ixN xs.length m with
            | none => simp [subT, ej, el, e6] at e
            | some m2 =>
              simp only [subT, ej, el, e6, Option.map_some, Option.some.injEq] at e
              subst e
              have eu : u = .int m := by cases du; rfl
              subst eu
              obtain ⟨S4, R4⟩ := R.write (s' := .L n (xs.set m2 y)) (o := .lst (ws.set m2 w)) ej rfl gj rfl rfl ⟨p, _, rfl, lb, upd_same, fp, tp.set dy m2⟩
              exact ⟨.ref p, .int m, gj, gl, .inl ⟨p, ws, m, m2, rfl, rfl, hp, by rw [tp.length]; exact e6, go _ R4⟩⟩
          | _ => simp [subT, ej, el] at e
        | M n ks =>
          obtain ⟨p, ws, rfl, lb, hp, fp, tp⟩ := kj
          cases e6 : keyD ix with
          | none => simp [subT, ej, el, e6] at e
          | some ky =>
            by_cases hl : ks.length < sizeLine
            · have e2 : δ' = δ.set j (.M n (putD ks ky y)) := by
                have : subT j l y δ = some (δ.set j (.M n (putD ks ky y))) := by
                  unfold subT
                  rw [ej, el]
                  show (keyD ix).bind _ = _
                  rw [e6, Option.bind_some, if_pos hl]
                rw [this] at e
                exact (Option.some.inj e).symm
              subst e2
              obtain ⟨S4, R4⟩ := R.write (s' := .M n (putD ks ky y)) (o := .dK (putK ws ky w)) ej rfl gj rfl rfl ⟨p, _, rfl, lb, upd_same, fp, tp.put dy⟩
              exact ⟨.ref p, u, gj, gl, .inr ⟨p, _, rfl, .inl ⟨ws, ky, hp, key_of (H := H) (.inl du) e6, by rw [tp.len]; exact hl, rfl⟩, go _ R4⟩⟩
            · have : subT j l y δ = none := by
                unfold subT
                rw [ej, el]
                show (keyD ix).bind _ = _
                rw [e6, Option.bind_some, if_neg hl]
              rw [this] at e
              cases e
        | u => simp [subT, ej, el] at e
        | d x => simp [subT, ej, el] at e
      | u => cases tj <;> simp [subT, ej, el] at e
      | L n xs => cases tj <;> simp [subT, ej, el] at e
      | M n xs => cases tj <;> simp [subT, ej, el] at e
theorem ds_parN {i j l : Nat} {x d q : Str} {e : Expr} {f : SE} {n2 : Nat} {px pd pq ps pt pos : Pos} (hc : X.calm = true) (hK : X.K = C.K) (hr : Room k X.A) (he : DE X C W e f)
    (hN : X.N.Nodup) (hi : X.N[i]? = some x) (hx : Loc X.env.scope x) (hj : X.N[j]? = some d) (hd : Vis X.env.scope d) (hl : X.N[l]? = some q) (hq : Vis X.env.scope q)
    (hs : swapsWithSole [.Tuple [.Name x px, .Subscript (.Name d pd) (.Name q pq) ps] n2 pt] e pos.line X.env = pure false := by rfl)
    (hw : swappedStores [.Tuple [.Name x px, .Subscript (.Name d pd) (.Name q pq) ps] n2 pt] e X.env = pure none := by rfl)
    (h1 : (assignEach [.Tuple [.Name x px, .Subscript (.Name d pd) (.Name q pq) ps] n2 pt] X.env).map (·.2) = [assign (.Tuple [.Name x px, .Subscript (.Name d pd) (.Name q pq) ps] n2 pt) X.env] := by rfl)
    (hn : (assignEach [.Name x px, .Subscript (.Name d pd) (.Name q pq) ps] X.env).length = 2 := by rfl) (hst : (assignEach [.Name x px, .Subscript (.Name d pd) (.Name q pq) ps] X.env).findIdx? (·.1) = none := by rfl)
    (hs1 : (assignEach [.Name x px, .Subscript (.Name d pd) (.Name q pq) ps] X.env).map (·.2) = assign (.Name x px) X.env :: (assignEach [.Subscript (.Name d pd) (.Name q pq) ps] X.env).map (·.2) := by rfl)
    (hs2 : (assignEach [.Subscript (.Name d pd) (.Name q pq) ps] X.env).map (·.2) = assign (.Subscript (.Name d pd) (.Name q pq) ps) X.env :: (assignEach [] X.env).map (·.2) := by rfl)
    (ha : ∀ v, assign (.Subscript (.Name d pd) (.Name q pq) ps) X.env v = (do
      let ov ← holding [v] (eval (.Name d pd) X.env)
      let iv ← holding [v, ov] (eval (.Name q pq) X.env)
      standAt ps
      holding [v, ov, iv] (setItem ov iv v)
      release [v, ov, iv] []) := by intro _; rfl)
    (hf : X.fn x = true ∨ X.env.scope.names.lookup x = some .local := by first | exact .inl rfl | exact .inr rfl | assumption)
    (b1 : (d == ("__debug__" : Str)) = false := by decide) (b2 : (d == ("__classdict__" : Str)) = false := by decide) (b3 : (q == ("__debug__" : Str)) = false := by decide) (b4 : (q == ("__classdict__" : Str)) = false := by decide) :
    DS X C W (.Assign [.Tuple [.Name x px, .Subscript (.Name d pd) (.Name q pq) ps] n2 pt] e pos) (parNS i j l f) := by
  have t1 : PG X (.Name x px) (gName i) := pg_name hN hi hx hf
  have t2 : PG X (.Subscript (.Name d pd) (.Name q pq) ps) (gSub (tVar j) (tVar l) fun o i v H Q => rSetL o i v H Q ∨ rSetD o i v H Q) := pg_sub (pe_var hj hd b1 b2) (pe_var hl hq b3 b4) (PSet.or set_list (set_dict (by have := hr.un; omega))) ha
  have tg : PG X (.Tuple [.Name x px, .Subscript (.Name d pd) (.Name q pq) ps] n2 pt) (gTup X.K 2 (gCons (gName i) (gCons (gSub (tVar j) (tVar l) fun o i v H Q => rSetL o i v H Q ∨ rSetD o i v H Q) gNil))) := pg_tup hc (pgs_cons t1 (pgs_cons t2 pgs_nil hs2) hs1) hn hst
  refine ps_mono (ps_asg (de_esc he) tg hs hw h1) fun D σ H h => bindSV h fun v F1 H1 δ1 r R1 V z => ?_
  clear t1 t2 tg hs hw h1 hn hst hs1 hs2 ha
  have two : ∃ x1 y1, r = .d (.tuple [x1, y1]) := by
    cases r with
    | d t =>
      cases t with
      | tuple us =>
        match us, z with
        | [x1, y1], _ => exact ⟨_, _, rfl⟩
        | [], z => exact z.elim
        | [_], z => exact z.elim
        | _ :: _ :: _ :: _, z => exact z.elim
      | _ => exact z.elim
    | _ => exact z.elim
  obtain ⟨x1, y1, rfl⟩ := two
  have z2 : SOk C W D F1 ((subT j l y1 (δ1.set i (.d x1))).map .nx) := z
  obtain ⟨a, vs, rfl, h2, t2⟩ := DatP.tup R1.ext (.inl V)
  obtain ⟨v1, w1, rfl, d1, d2⟩ : ∃ v1 w1, vs = [v1, w1] ∧ Dat C.K F1 v1 x1 ∧ Dat C.K F1 w1 y1 := by
    cases t2 with
    | cons d1 t3 =>
      cases t3 with
      | cons d2 t4 =>
        cases t4
        exact ⟨_, _, rfl, d1, d2⟩
  have R2 := R1.setD (i := i) d1
  cases e3 : subT j l y1 (δ1.set i (.d x1)) with
  | none => rw [e3] at z2; exact z2.elim
  | some δ2 =>
    rw [e3] at z2
    obtain ⟨o, ii, g1, g2, g3⟩ := subT_read (Q := fun H4 => ([] : List L2.V) = [] ∧ D.nx (σ.set i (some v1)) H4) R2 d2 e3 fun H4 R4 => ⟨rfl, z2 _ F1 H4 (Le.refl _) R4⟩
    refine ⟨a, [v1, w1], rfl, by rw [hK]; exact h2, rfl, v1, [w1], rfl, ?_⟩
    refine ⟨w1, [], rfl, ?_⟩
    exact ⟨o, g1, ii, g2, g3⟩
/-! ### len of a dict -/
def lenDG : List D → Option Res
  | [.dict ks] => if isOpq ks = false then some (.d (.int ks.length)) else none
  | _ => none
theorem call_lenR : CallR X (.builtin "len") (fun xs H Q => ∃ a kvs, xs = [V.ref a] ∧ Rd H a (.dK kvs) ∧ Q (.int kvs.length) H) := by
  intro pins s σ H xs us Q I r h
  obtain ⟨a, kvs, rfl, ha, q⟩ := h
  obtain ⟨u, rfl, ru⟩ := Vals.one r
  cases ru
  exact d_len I ha fun t s' J => ⟨.int _, H, J, ⟨t, rfl⟩, q⟩
theorem datp_len {K : PySem.W.Frag} {H : Hp} : ∀ {ks : List (Key × V)} {ds : List (D × D)}, Datp K H ks ds → ks.length = ds.length
  | _, _, .nil => rfl
  | _, _, .cons _ t => congrArg (· + 1) (datp_len t)
theorem cd_lenD : CallD C (fun xs H Q => ∃ a kvs, xs = [V.ref a] ∧ Rd H a (.dK kvs) ∧ Q (.int kvs.length) H) lenDG := by
  intro F H σ δ vs xs res Q R hx e kk
  match xs, hx, e with
  | [.dict ks], hx, e =>
    simp only [lenDG] at e
    split at e
    · rename_i z
      cases e
      obtain ⟨v, rfl, h⟩ := hx.one
      obtain ⟨a, ws, rfl, h1, t⟩ := h.dct R.ext z
      refine ⟨a, ws, rfl, h1, ?_⟩
      rw [datp_len t]
      exact kk _ F H Stp.refl R (Dat.int _)
    · cases e
theorem dx_lenD {a : Expr} {fa : SA} {p pos : Pos} (hg : Gl X "len") (hm : X.mg "len" = none) (ha : DA X C W [a] fa) (he : St1 X a [] := by rfl) (hpl : (backTo pos (starEach [] X.env)).any (·.1) = false := by rfl) : DE X C W (.Call (.Name "len" p) [a] [] pos) (callBE lenDG fa) := de_callB call_lenR cd_lenD hg hm b_len ha (by decide) (by decide) he hpl
/-! ### tuple(range(..)), list(range(..)) -/
def rangeG : D → Option Res
  | .int j => if 0 ≤ j ∧ j ≤ 1000000 then some (.d (.tuple (rngD 0 j.toNat))) else none
  | _ => none
theorem dats_rg {K : PySem.W.Frag} {H : Hp} (n : Int) : Dats K H (rgV 0 n) (rngD 0 n.toNat) := by
  unfold rgV rngD
  rw [Int.sub_zero]
  induction n.toNat with
  | zero => exact .nil
  | succ m ih =>
    rw [List.range_succ, List.map_append, List.map_append]
    exact Dats.append ih (.cons (.int _) .nil)
theorem dx_tupRg {a : Expr} {fa : SE} {p1 p2 pos1 pos : Pos} (hc : X.calm = true) (hg : Gl X "tuple") (hm : X.mg "tuple" = none) (hg2 : Gl X "range") (hm2 : X.mg "range" = none) (ha : DE X C W a fa)
    (na : starEach [a] X.env = (false, eval a X.env) :: starEach [] X.env := by rfl)
    (na2 : starEach [.Call (.Name "range" p2) [a] [] pos1] X.env = (false, eval (.Call (.Name "range" p2) [a] [] pos1) X.env) :: starEach [] X.env := by rfl) :
    DE X C W (.Call (.Name "tuple" p1) [.Call (.Name "range" p2) [a] [] pos1] [] pos) (op1E rangeG fa) := by
  refine pe_mono (pe_tupRg hc hg hm (prg_1 hg2 hm2 (de_pk ha) na) na2) fun σ H Q ⟨F, δ, h⟩ => ?_
  refine bindV (RVb := RVl C) (mbV) h fun v F1 H1 δ1 r1 e1 S1 R1 V1 h1 => ?_
  obtain ⟨o, ho⟩ := h1.some
  have ho' := ho
  cases q : r1.get δ1 with
  | none => simp only [q] at ho; cases ho
  | some x =>
    simp only [q] at ho
    cases x with
    | int i =>
      simp only [rangeG] at ho
      by_cases hi : 0 ≤ i ∧ i ≤ 1000000
      · rw [if_pos hi] at ho
        cases ho
        refine ⟨i, (V1.get R1 q).int, RgOk.of_le (Int.le_refl _) (by omega) (by decide) hi.1, fun l nl => ?_⟩
        obtain ⟨S4, R4⟩ := R1.newF (.tup (rgV 0 i)) nl
        exact h1.use ho' S4 R4 (Dat.tup (SqT.of upd_same) (dats_rg i))
      · rw [if_neg hi] at ho; cases ho
    | _ => cases ho
/-! ### xs[::-1] of a list -/
def revG : D → Option Res
  | .list xs => some (.nL xs.reverse)
  | _ => none
theorem Dats.rev {K : PySem.W.Frag} {H : Hp} : ∀ {vs : List V} {ds : List D}, Dats K H vs ds → Dats K H vs.reverse ds.reverse
  | _, _, .nil => .nil
  | _, _, .cons h t => by
    rw [List.reverse_cons, List.reverse_cons]
    exact Dats.append (Dats.rev t) (.cons h .nil)
theorem dx_revL {e : Expr} {fa : SE} {k0 : Nat} {p1 p2 p3 pos : Pos} (hK : C.K = X.K) (ha : DE X C W e fa) : DE X C W (.Subscript e (.Slice none none (some (.UnaryOp .USub (.Constant (.int 1) k0 p1) p2)) p3) pos) (op1E revG fa) := by
  refine pe_mono (pe_revL (de_pk ha)) fun σ H Q ⟨F, δ, h⟩ => ?_
  refine bindV (RVb := RVl C) (mbV) h fun v F1 H1 δ1 r1 e1 S1 R1 V1 h1 => ?_
  obtain ⟨o, ho⟩ := h1.some
  have ho' := ho
  cases q : r1.get δ1 with
  | none => simp only [q] at ho; cases ho
  | some x =>
    simp only [q] at ho
    cases x with
    | list xs =>
      cases ho
      obtain ⟨a, ws, rfl, hs, t⟩ := (V1.get R1 q).lst R1.ext
      refine ⟨a, ws, rfl, by rw [← hK]; exact hs, fun l nl => ?_⟩
      obtain ⟨S4, R4⟩ := R1.newG (.lst ws.reverse) nl
      exact h1.use ho' S4 R4 ⟨l, _, rfl, upd_same, R1.freshF nl, t.rev, nl⟩
    | _ => cases ho
end
end DL

set_option maxHeartbeats 4000000
/-! xs[::-1] of a tuple -/
namespace HT
open PySem PySem.Spec PyProof.Rows L2
section
variable {prog : Program} {w : World} {A : Around} {E : Value → Shared → Prop} {s : Shared}
theorem places_back (n : Nat) : Builtin.Slice.slicePlaces ((n : Int) - 1) (-1) (-1) = n := by
  unfold Builtin.Slice.slicePlaces
  have h1 : ¬ ((-1 : Int) > 0) := by omega
  have e : (-(-1 : Int)) = 1 := by decide
  simp only [h1, if_false, e, Int.ediv_one]
  split <;> omega
theorem sliceApplied_back {sl : Addr} {vl vu vs : Value} {n : Nat} {Q : Int × Int × Nat → Shared → Prop} (hs : s.heap.IsSliceOf sl vl vu vs) (pl : IsPart vl none) (pu : IsPart vu none) (ps : IsPart vs (some (-1)))
    (h : Q ((n : Int) - 1, -1, n) s) : wpAny (model prog w) A (Builtin.Slice.sliceApplied (.ref sl) (pure (n : Int))) Q E s := by
  obtain ⟨os, hos, hcs, hds⟩ := id hs
  unfold Builtin.Slice.sliceApplied Builtin.Slice.sliceFields
  refine wpAny_bind (wpAny_bind (wpAny_field hos hds (x := vl) rfl (wpAny_bind (wpAny_field hos hds (x := vu) rfl (wpAny_bind (wpAny_field hos hds (x := vs) rfl (wpAny_pure ?_)))))))
  refine wpAny_bind (slicePart_ ps ?_)
  show wpAny _ _ (if ((-1 : Int) == 0) = true then _ else _) _ _ s
  rw [if_neg (by decide)]
  refine wpAny_bind (slicePart_ pl (wpAny_bind (slicePart_ pu (wpAny_bind (wpAny_pure ?_)))))
  show wpAny _ _ (pure (((n : Int) - 1), (-1 : Int), Builtin.Slice.slicePlaces ((n : Int) - 1) (-1) (-1))) _ _ s
  rw [places_back]
  exact wpAny_pure h
theorem fm_congr {α β : Type} {f g : α → Option β} : ∀ {xs : List α}, (∀ m ∈ xs, f m = g m) → xs.filterMap f = xs.filterMap g
  | [], _ => rfl
  | x :: xs, h => by
    rw [List.filterMap_cons, List.filterMap_cons, h x (List.mem_cons_self ..), fm_congr fun m hm => h m (List.mem_cons_of_mem _ hm)]
theorem pick_back (xs : Array Value) : ((List.range xs.size).filterMap fun (m : Nat) => xs[(((xs.size : Int) - 1) + (m : Int) * (-1)).toNat]?).toArray = xs.toList.reverse.toArray := by
  have e : ∀ m ∈ List.range xs.size, xs[(((xs.size : Int) - 1) + (m : Int) * (-1)).toNat]? = xs[xs.size - 1 - m]? := by
    intro m hm
    have := List.mem_range.mp hm
    have : (((xs.size : Int) - 1) + (m : Int) * (-1)).toNat = xs.size - 1 - m := by omega
    rw [this]
  have e2 : (List.range xs.size).filterMap (fun (m : Nat) => xs[(((xs.size : Int) - 1) + (m : Int) * (-1)).toNat]?) = ((List.range xs.size).map fun m => xs.size - 1 - m).filterMap (xs[·]?) := by
    rw [List.filterMap_map]
    exact fm_congr e
  rw [e2, PySem.W.krv_range, List.filterMap_reverse, PySem.W.krv_all]
theorem getItem_tuple_back {t sl : Addr} {items : Array Value} {vl vu vs : Value} {Q : Value → Shared → Prop} (ht : IsTup s.heap t items) (hs : s.heap.IsSliceOf sl vl vu vs) (pl : IsPart vl none) (pu : IsPart vu none) (ps : IsPart vs (some (-1)))
    (h : Q (.ref s.heap.objs.size) { s with heap := s.heap.push { cls := .type "tuple", data := .seq items.toList.reverse.toArray } })
    (hsz : items.size ≤ sizeLine) : wpAny (model prog w) A (getItem (.ref t) (.ref sl)) Q E s := by
  have htake : sizeOk (.seq items.toList.reverse.toArray) := by
    show items.toList.reverse.toArray.size ≤ sizeLine
    rw [List.size_toArray, List.length_reverse, Array.length_toList]
    exact hsz
  obtain ⟨os, hos, hcs, hds⟩ := id hs
  have hTs : s.TypeIs (.ref sl) "slice" := ⟨os, hos, hcs⟩
  unfold getItem
  try with_reducible refine wpAny_holding ?_
  first | refine wpAny_bind (wpAny_pure ?_) | skip
  refine wpAny_bind (wpAny_sequenceKey ht.typeIs (by decide) ?_)
  refine wpAny_bind (wpAny_callSpecial?_slot (name := Str.ofString "__getitem__") ht.typeIs PyProof.Rows.slot_tuple_getitem
    (wpAny_call_entry PyProof.Rows.slot_tuple_getitem ht.typeIs entry_tuple_getitem ?_ (args_tuple_getitem _ _)))
  show wpAny _ _ (Builtin.Tuple.tupleItemsOf (.ref t) >>= _) _ _ s
  refine wpAny_bind (tupleItemsOf_ ht ?_)
  refine wpAny_bind (wpAny_typeOf hTs ?_)
  rw [if_pos (by decide)]
  refine wpAny_bind (sliceApplied_back hs pl pu ps ?_)
  have hno : ¬ ((((items.size : Int) - 1) == 0 && (-1 : Int) == 1 && items.size == items.size) = true) := by
    rw [show ((-1 : Int) == 1) = false from by decide, Bool.and_false, Bool.false_and]
    exact Bool.false_ne_true
  show wpAny _ _ (if (((items.size : Int) - 1) == 0 && (-1 : Int) == 1 && items.size == items.size) = true then _ else _) _ _ s
  rw [if_neg hno, pick_back]
  first
    | exact wpAny_bind (m := Builtin.Tuple.tupleExact _) (wpAny_newObj_type (wpAny_pure ⟨_, rfl, wpAny_pure h⟩) htake)
    | exact wpAny_bind (m := Builtin.Tuple.tupleExact _) (wpAny_newObj_type (wpAny_bind (wpAny_pure (wpAny_pure ⟨_, rfl, wpAny_pure h⟩))) htake)
    | exact wpAny_bind (wpAny_bind (m := Builtin.Tuple.tupleExact _) (wpAny_newObj_type (wpAny_pure (wpAny_pure ⟨_, rfl, wpAny_pure h⟩)) htake))
    | exact wpAny_bind (wpAny_bind (m := Builtin.Tuple.tupleExact _) (wpAny_newObj_type (wpAny_pure ⟨_, rfl, wpAny_pure h⟩) htake))
end
end HT
namespace L2
open PySem PySem.Spec PyProof.Rows
def tRevT (K : PySem.W.Frag) (te : TE) : TE := fun σ H Q => te σ H fun x H1 => ∃ a xs, x = .ref a ∧ SqT K H1 a xs ∧ ∀ p, H1 p = none → Q (.ref p) (upd H1 p (.tup xs.reverse))
theorem pe_revT {X : Cx} {e : Expr} {te : TE} {k : Nat} {p1 p2 p3 pos : Pos} (he : PE X e te) : PE X (.Subscript e (.Slice none none (some (.UnaryOp .USub (.Constant (.int 1) k p1) p2)) p3) pos) (tRevT X.K te) := by
  refine ⟨fun pins s σ H Q I h => ?_⟩
  refine Subscript_ (thn (he.run pins s σ H _ I h) fun v s1 ⟨x, H1, I1, r1, q1⟩ => ?_)
  obtain ⟨a, xs, ex, hx, q⟩ := q1
  subst ex
  cases r1
  have hst : PO X (some (.UnaryOp .USub (.Constant (.int 1) k p1) p2)) (tPart (tUn (rU fun i => .int (-i)) (tC (.int 1)))) := po_some (pe_un un_neg pe_int)
  refine wpAny_Slice (thn (po_none.run pins s1 σ H1 (fun o H2 => o = none ∧ H2 = H1) I1 ⟨rfl, rfl⟩) fun vl s2 ⟨l, H2, I2, pl, el, e2⟩ => ?_)
  subst el e2
  refine thn (po_none.run pins s2 σ H2 (fun o H3 => o = none ∧ H3 = H2) I2 ⟨rfl, rfl⟩) fun vu s3 ⟨u, H3, I3, pu, eu, e3⟩ => ?_
  subst eu e3
  refine thn (hst.run pins s3 σ H3 (fun o H4 => o = some (-1) ∧ H4 = H3) I3 ⟨1, rfl, -1, rfl, rfl, rfl⟩) fun vs s4 ⟨o, H4, I4, ps, eo, e4⟩ => ?_
  subst eo e4
  have I5 : Inv X pins σ H4 { s4 with heap := s4.heap.push { cls := .type "slice", data := .fields #[vl, vu, vs] } } := I4.kept (t' := s4.toks) fun b ob q => Heap.get?_push_of_some _ q
  obtain ⟨its, r, ht, hz⟩ := I5.tuple hx
  have hlen := r.length
  show wpAny (model X.prog X.w) X.A (subscriptTail e (.Slice none none (some (.UnaryOp .USub (.Constant (.int 1) k p1) p2)) p3) (.ref a) (.ref s4.heap.objs.size)) (EP X pins σ Q) X.xe { s4 with heap := s4.heap.push { cls := .type "slice", data := .fields #[vl, vu, vs] } }
  refine tail_any (ops := [.ref a, .ref s4.heap.objs.size]) ht.typeIs (PyProof.Rows.slot_tuple_getitem.lookup) ?_ (by with_unfolding_all rfl)
  refine HT.getItem_tuple_back ht (Heap.IsSliceOf.new _ vl vu vs) pl pu ps ?_ (by rw [List.size_toArray]; omega)
  refine ⟨.ref _, _, I5.laid (t' := s4.toks) (o := .tup xs.reverse) (fun b ob q => Heap.get?_push_of_some _ q) (Nat.le_refl _) ?_, rfl, q _ (I5.hok.fresh (Nat.le_refl _))⟩
  exact ⟨by rw [List.length_reverse]; exact hz, _, r.reverse, IsTup.new _ _⟩
end L2
namespace DL
open PySem PySem.Spec PyProof.Rows L2
section
variable {X : Cx} {C : DC} {W : XW}
def revTG : D → Option Res
  | .tuple xs => some (.d (.tuple xs.reverse))
  | _ => none
theorem dx_revT {e : Expr} {fa : SE} {k0 : Nat} {p1 p2 p3 pos : Pos} (hK : C.K = X.K) (ha : DE X C W e fa) : DE X C W (.Subscript e (.Slice none none (some (.UnaryOp .USub (.Constant (.int 1) k0 p1) p2)) p3) pos) (op1E revTG fa) := by
  refine pe_mono (pe_revT (de_pk ha)) fun σ H Q ⟨F, δ, h⟩ => ?_
  refine bindV (RVb := RVl C) (mbV) h fun v F1 H1 δ1 r1 e1 S1 R1 V1 h1 => ?_
  obtain ⟨o, ho⟩ := h1.some
  have ho' := ho
  cases q : r1.get δ1 with
  | none => simp only [q] at ho; cases ho
  | some x =>
    simp only [q] at ho
    cases x with
    | tuple xs =>
      cases ho
      obtain ⟨a, ws, rfl, hs, t⟩ := DatP.tup R1.ext (V1.get R1 q)
      refine ⟨a, ws, rfl, by rw [← hK]; exact hs, fun l nl => ?_⟩
      obtain ⟨S4, R4⟩ := R1.newF (.tup ws.reverse) nl
      exact h1.use ho' S4 R4 (Dat.tup (SqT.of upd_same) (t.rev.mono S4.ext))
    | _ => cases ho
end
end DL

namespace DL
open PySem PySem.Spec PyProof.Rows L2
/-! ### plain reckoning -/
theorem log2_lt_of {n a : Nat} (h : n < 2 ^ a) (ha : 0 < a) : n.log2 < a := by
  by_cases e : n = 0
  · subst e; simpa using ha
  · exact (Nat.log2_lt e).mpr h
theorem log2_mul_le (a b : Int) : (a * b).natAbs.log2 ≤ a.natAbs.log2 + b.natAbs.log2 + 1 := by
  rw [Int.natAbs_mul]
  have h1 : a.natAbs < 2 ^ (a.natAbs.log2 + 1) := Nat.lt_log2_self
  have h2 : b.natAbs < 2 ^ (b.natAbs.log2 + 1) := Nat.lt_log2_self
  have h3 : a.natAbs * b.natAbs < 2 ^ (a.natAbs.log2 + b.natAbs.log2 + 2) := by
    have : a.natAbs * b.natAbs < 2 ^ (a.natAbs.log2 + 1) * 2 ^ (b.natAbs.log2 + 1) := Nat.mul_lt_mul_of_lt_of_lt h1 h2
    rw [← Nat.pow_add] at this
    rw [show a.natAbs.log2 + b.natAbs.log2 + 2 = a.natAbs.log2 + 1 + (b.natAbs.log2 + 1) by omega]
    exact this
  have := log2_lt_of h3 (by omega)
  omega
theorem log2_of_lt {i : Int} {a : Nat} (h1 : -(2 ^ a : Nat) < i) (h2 : i < (2 ^ a : Nat)) (ha : 0 < a) : i.natAbs.log2 < a := log2_lt_of (by omega) ha
theorem mod_log (i : Int) {m : Int} (h0 : 0 < m) (h : m < 2 ^ 60) : (i % m).natAbs.log2 < 60 := by
  have h1 := Int.emod_nonneg i (show m ≠ 0 by omega)
  have h2 := Int.emod_lt_of_pos i h0
  refine log2_of_lt ?_ ?_ (by decide)
  · have : ((2 ^ 60 : Nat) : Int) = 1152921504606846976 := by decide
    omega
  · have : ((2 ^ 60 : Nat) : Int) = 1152921504606846976 := by decide
    omega
@[simp] theorem mulG_ii {i j : Int} (h : i.natAbs.log2 + j.natAbs.log2 < 1000000) : mulG (.int i) (.int j) = some (.d (.int (i * j))) := by
  simp [mulG, mulI, op2I, h]
@[simp] theorem addG_ii (i j : Int) : addG (.int i) (.int j) = some (.d (.int (i + j))) := by simp [addG, addI, op2I]
@[simp] theorem subG_ii (i j : Int) : subG (.int i) (.int j) = some (.d (.int (i - j))) := by simp [subG, op2I]
@[simp] theorem modG_ii {i j : Int} (h : 0 < j) : modG (.int i) (.int j) = some (.d (.int (i % j))) := by simp [modG, op2I, h]
@[simp] theorem fdivG_ii {i j : Int} (h : 0 < j) (h2 : j.natAbs.log2 < 9000) : fdivG (.int i) (.int j) = some (.d (.int (i / j))) := by simp [fdivG, op2I, h, h2]
@[simp] theorem ltG_ii (i j : Int) : ltG (.int i) (.int j) = some (.d (.bool (decide (i < j)))) := by simp [ltG, op2B]
@[simp] theorem leG_ii (i j : Int) : leG (.int i) (.int j) = some (.d (.bool (decide (i ≤ j)))) := by simp [leG, op2B]
@[simp] theorem gtG_ii (i j : Int) : gtG (.int i) (.int j) = some (.d (.bool (decide (j < i)))) := by simp [gtG, op2B]
@[simp] theorem geG_ii (i j : Int) : geG (.int i) (.int j) = some (.d (.bool (decide (j ≤ i)))) := by simp [geG, op2B]
/-! ### running -/
section
variable {δ δ1 δ2 : List SV} {α : Type}
theorem varE_d {i : Nat} {x : D} (h : δ[i]? = some (.d x)) : varE i δ = some (.ok (.d x) δ) := by unfold varE; rw [h]
theorem varE_L {i k : Nat} {x : List D} (h : δ[i]? = some (.L k x)) : varE i δ = some (.ok (.b i) δ) := by unfold varE; rw [h]
theorem varE_M {i k : Nat} {x : List (Key × D)} (h : δ[i]? = some (.M k x)) : varE i δ = some (.ok (.b i) δ) := by unfold varE; rw [h]
@[simp] theorem conE_run (x : D) : conE x δ = some (.ok (.d x) δ) := rfl
@[simp] theorem pureE_run (x : α) : pureE x δ = some (.ok x δ) := rfl
end
theorem size_big : (1000000 : Nat) ≤ sizeLine := by decide
@[simp] theorem le_size {n : Nat} (h : n ≤ 1000000) : (n ≤ sizeLine) = True := eq_true (Nat.le_trans h size_big)
@[simp] theorem lt_size {n : Nat} (h : n < 1000000) : (n < sizeLine) = True := eq_true (Nat.lt_of_lt_of_le h size_big)
/-! ### loops -/
theorem forGo_inv {t : STg} {s : SS} {P : Nat → List SV → Prop} : ∀ (items : List D) (i : Nat) (δ : List SV), P i δ → (∀ j x δ, items[j]? = some x → P (i + j) δ → ∃ δ1 δ2, t x δ = some δ1 ∧ (s δ1 = some (.nx δ2) ∨ s δ1 = some (.ct δ2)) ∧ P (i + j + 1) δ2) → ∃ δ', forGo t s items δ = some (.nx δ') ∧ P (i + items.length) δ'
  | [], i, δ, h, _ => ⟨δ, rfl, h⟩
  | x :: r, i, δ, h, hs => by
    obtain ⟨δ1, δ2, e1, e2, h2⟩ := hs 0 x δ rfl h
    have ih := forGo_inv r (i + 1) δ2 h2 fun j y δ3 ey h3 => by
      have := hs (j + 1) y δ3 (by simpa using ey) (by rw [show i + (j + 1) = i + 1 + j by omega]; exact h3)
      rw [show i + (j + 1) + 1 = i + 1 + j + 1 by omega] at this
      exact this
    obtain ⟨δ', e3, h4⟩ := ih
    refine ⟨δ', ?_, by rw [show i + (x :: r).length = i + 1 + r.length by simp; omega]; exact h4⟩
    simp only [forGo, e1]
    rcases e2 with e2 | e2 <;> simp only [e2] <;> exact e3
end DL

set_option maxHeartbeats 1000000
namespace DL
open PySem PySem.Spec PyProof.Rows L2
/-! ### running a meaning: what stands behind each word, where it's applied -/
section
variable {α β γ : Type} {δ : List SV}
/-! what becomes of an outcome: words of their own, so that the kernel compares them part by part -/
def onE (o : Option (ER α)) (k : α → List SV → Option γ) (x : XD → List SV → Option γ) : Option γ := match o with
  | none => none
  | some (.ok r δ) => k r δ
  | some (.ex e δ) => x e δ
@[simp] theorem onE_ok (r : α) (k : α → List SV → Option γ) (x) : onE (some (.ok r δ)) k x = k r δ := (rfl)
@[simp] theorem onE_ex (e : XD) (k : α → List SV → Option γ) (x) : onE (some (.ex e δ)) k x = x e δ := (rfl)
@[simp] theorem onE_no (k : α → List SV → Option γ) (x) : onE (none : Option (ER α)) k x = none := (rfl)
def exE (e : XD) (δ : List SV) : Option (ER α) := some (.ex e δ)
def exS (e : XD) (δ : List SV) : Option SO := some (.ex e δ)
@[simp] theorem exE_run (e : XD) : (exE e δ : Option (ER α)) = some (.ex e δ) := (rfl)
@[simp] theorem exS_run (e : XD) : exS e δ = some (.ex e δ) := (rfl)
def onS (o : Option SO) (t : SS) : Option SO := match o with
  | some (.nx δ) => t δ
  | o => o
@[simp] theorem onS_nx (t : SS) : onS (some (.nx δ)) t = t δ := (rfl)
@[simp] theorem onS_rt (r : Res) (t : SS) : onS (some (.rt r δ)) t = some (.rt r δ) := (rfl)
@[simp] theorem onS_bk (t : SS) : onS (some (.bk δ)) t = some (.bk δ) := (rfl)
@[simp] theorem onS_ct (t : SS) : onS (some (.ct δ)) t = some (.ct δ) := (rfl)
@[simp] theorem onS_ex (e : XD) (t : SS) : onS (some (.ex e δ)) t = some (.ex e δ) := (rfl)
@[simp] theorem onS_no (t : SS) : onS none t = none := (rfl)
def on1 (a : Option D) (k : D → Option γ) : Option γ := match a with
  | some x => k x
  | none => none
@[simp] theorem on1_some (x : D) (k : D → Option γ) : on1 (some x) k = k x := (rfl)
def on2 (a b : Option D) (k : D → D → Option γ) : Option γ := match a, b with
  | some x, some y => k x y
  | _, _ => none
@[simp] theorem on2_some (x y : D) (k : D → D → Option γ) : on2 (some x) (some y) k = k x y := (rfl)
def onV (o : Option SV) (k : D → Option γ) (l : Nat → List D → Option γ) (m : Nat → List (Key × D) → Option γ) : Option γ := match o with
  | some (.d x) => k x
  | some (.L n xs) => l n xs
  | some (.M n ks) => m n ks
  | _ => none
@[simp] theorem onV_d (x : D) (k : D → Option γ) (l) (m) : onV (some (.d x)) k l m = k x := (rfl)
@[simp] theorem onV_L (n : Nat) (xs : List D) (k : D → Option γ) (l) (m) : onV (some (.L n xs)) k l m = l n xs := (rfl)
@[simp] theorem onV_M (n : Nat) (ks : List (Key × D)) (k : D → Option γ) (l) (m) : onV (some (.M n ks)) k l m = m n ks := (rfl)
def onR (r : Res) (k : D → Option γ) : Option γ := match r with
  | .d x => k x
  | _ => none
@[simp] theorem onR_d (x : D) (k : D → Option γ) : onR (.d x) k = k x := (rfl)
def onRb (r : Res) (k : Nat → Option γ) : Option γ := match r with
  | .b x => k x
  | _ => none
@[simp] theorem onRb_b (x : Nat) (k : Nat → Option γ) : onRb (.b x) k = k x := (rfl)
def onRL (r : Res) (k : List D → Option γ) : Option γ := match r with
  | .nL x => k x
  | _ => none
@[simp] theorem onRL_L (x : List D) (k : List D → Option γ) : onRL (.nL x) k = k x := (rfl)
def onBool (x : D) (k : Bool → Option γ) : Option γ := match x with
  | .bool b => k b
  | _ => none
@[simp] theorem onBool_b (b : Bool) (k : Bool → Option γ) : onBool (.bool b) k = k b := (rfl)
def onInt (x : D) (k : Int → Option γ) : Option γ := match x with
  | .int b => k b
  | _ => none
@[simp] theorem onInt_i (b : Int) (k : Int → Option γ) : onInt (.int b) k = k b := (rfl)
def onSeq (x : D) (k : List D → Option γ) : Option γ := match x with
  | .list xs => k xs
  | .tuple xs => k xs
  | _ => none
@[simp] theorem onSeq_l (xs : List D) (k : List D → Option γ) : onSeq (.list xs) k = k xs := (rfl)
@[simp] theorem onSeq_t (xs : List D) (k : List D → Option γ) : onSeq (.tuple xs) k = k xs := (rfl)
def onLst (x : D) (k : List D → Option γ) : Option γ := match x with
  | .list xs => k xs
  | _ => none
@[simp] theorem onLst_l (xs : List D) (k : List D → Option γ) : onLst (.list xs) k = k xs := (rfl)
def onXs (o : Option (List D)) (k : List D → Option γ) : Option γ := match o with
  | some xs => k xs
  | none => none
@[simp] theorem onXs_some (xs : List D) (k : List D → Option γ) : onXs (some xs) k = k xs := (rfl)
def onTF (b : Bool) (x y : Option γ) : Option γ := match b with
  | true => x
  | false => y
@[simp] theorem onTF_t (x y : Option γ) : onTF true x y = x := (rfl)
@[simp] theorem onTF_f (x y : Option γ) : onTF false x y = y := (rfl)
@[simp] theorem onTF_dec (p : Prop) [Decidable p] (x y : Option γ) : onTF (decide p) x y = if p then x else y := by
  by_cases h : p <;> simp [h]
@[simp] theorem onTF_not (b : Bool) (x y : Option γ) : onTF (!b) x y = onTF b y x := by cases b <;> rfl
def okR (δ : List SV) (o : Option Res) : Option (ER Res) := match o with
  | some r => some (.ok r δ)
  | none => none
@[simp] theorem okR_some (r : Res) : okR δ (some r) = some (.ok r δ) := (rfl)
theorem okR_map (o : Option Res) : (o.map fun r => ER.ok r δ) = okR δ o := by cases o <;> rfl
/-! ### running a meaning: what stands behind each word, where it's applied -/
@[simp] theorem r_pureE (r : α) : pureE r δ = some (.ok r δ) := (rfl)
@[simp] theorem r_bindE (f : SEa α) (k : α → SEa β) : bindE f k δ = onE (f δ) k exE := by
  unfold bindE onE
  cases f δ with
  | none => rfl
  | some o => cases o <;> rfl
@[simp] theorem r_bindS (f : SEa α) (k : α → SS) : bindS f k δ = onE (f δ) k exS := by
  unfold bindS onE
  cases f δ with
  | none => rfl
  | some o => cases o <;> rfl
@[simp] theorem r_varE (i : Nat) : varE i δ = onV δ[i]? (fun x => some (.ok (.d x) δ)) (fun _ _ => some (.ok (.b i) δ)) (fun _ _ => some (.ok (.b i) δ)) := by
  unfold varE onV
  cases δ[i]? with
  | none => rfl
  | some s => cases s <;> rfl
@[simp] theorem r_conE (x : D) : conE x δ = some (.ok (.d x) δ) := (rfl)
@[simp] theorem r_esc_d (x : D) : esc (.d x) δ = some (.ok (.d x) δ) := (rfl)
@[simp] theorem r_esc_L (xs : List D) : esc (.nL xs) δ = some (.ok (.d (.list xs)) δ) := (rfl)
@[simp] theorem r_esc_M (ks : List (Key × D)) : esc (.nM ks) δ = some (.ok (.d (.dict (kvD ks))) δ) := (rfl)
@[simp] theorem r_esc_b (i : Nat) : esc (.b i) δ = onV δ[i]? (fun x => some (.ok (.d x) δ)) (fun _ xs => some (.ok (.d (.list xs)) (δ.set i (.d (.list xs))))) (fun _ ks => some (.ok (.d (.dict (kvD ks))) (δ.set i (.d (.dict (kvD ks)))))) := by
  simp only [esc]
  unfold onV
  cases δ[i]? with
  | none => rfl
  | some s => cases s <;> rfl
@[simp] theorem r_escE (f : SE) : escE f δ = onE (f δ) esc exE := r_bindE f esc
@[simp] theorem r_pk_d (x : D) : pk (.d x) δ = some (.ok (.d x) δ) := (rfl)
@[simp] theorem r_pk_L (xs : List D) : pk (.nL xs) δ = some (.ok (.d (.list xs)) δ) := (rfl)
@[simp] theorem r_pk_M (ks : List (Key × D)) : pk (.nM ks) δ = some (.ok (.d (.dict (kvD ks))) δ) := (rfl)
@[simp] theorem r_pk_b (i : Nat) : pk (.b i) δ = some (.ok (.b i) δ) := (rfl)
@[simp] theorem r_pkE (f : SE) : pkE f δ = onE (f δ) pk exE := r_bindE f pk
@[simp] theorem r_get_d (x : D) : Res.get (.d x) δ = some x := (rfl)
@[simp] theorem r_get_b (i : Nat) : Res.get (.b i) δ = onV δ[i]? (fun x => some x) (fun _ xs => some (.list xs)) (fun _ ks => some (.dict (kvD ks))) := by
  simp only [Res.get]
  unfold onV
  cases δ[i]? with
  | none => rfl
  | some s => cases s <;> rfl
def o2 (g : D → D → Option Res) (ra rb : Res) (δ : List SV) : Option (ER Res) := on2 (ra.get δ) (rb.get δ) fun x y => okR δ (g x y)
@[simp] theorem o2_run (g : D → D → Option Res) (ra rb : Res) : o2 g ra rb δ = on2 (ra.get δ) (rb.get δ) fun x y => okR δ (g x y) := (rfl)
@[simp] theorem r_op2E (g : D → D → Option Res) (fa fb : SE) : op2E g fa fb δ = onE (pkE fa δ) (fun ra δ => onE (pkE fb δ) (fun rb δ => o2 g ra rb δ) exE) exE := by
  unfold op2E
  rw [r_bindE]
  congr 1
  funext ra δ
  rw [r_bindE]
  congr 1
  funext rb δ
  simp only [o2, on2]
  cases ra.get δ with
  | none => rfl
  | some x =>
    cases rb.get δ with
    | none => rfl
    | some y => exact okR_map _
@[simp] theorem r_op1E (g : D → Option Res) (fa : SE) : op1E g fa δ = onE (pkE fa δ) (fun ra δ => on1 (ra.get δ) fun x => okR δ (g x)) exE := by
  unfold op1E
  rw [r_bindE]
  congr 1
  funext ra δ
  simp only [on1]
  cases ra.get δ with
  | none => rfl
  | some x => exact okR_map _
def ch2 (g' : D → D → Option Res) (fc : SE) (rb : Res) (δ : List SV) : Option (ER Res) := onE (pkE fc δ) (fun rc δ => o2 g' rb rc δ) exE
def ch1 (fc : SE) (g' : D → D → Option Res) (rb : Res) (δ : List SV) (o : Option Res) : Option (ER Res) := match o with
  | some (.d (.bool true)) => ch2 g' fc rb δ
  | some (.d (.bool false)) => some (.ok (.d (.bool false)) δ)
  | _ => none
@[simp] theorem ch1_t (fc : SE) (g' : D → D → Option Res) (rb : Res) : ch1 fc g' rb δ (some (.d (.bool true))) = onE (pkE fc δ) (fun rc δ => o2 g' rb rc δ) exE := (rfl)
@[simp] theorem ch1_f (fc : SE) (g' : D → D → Option Res) (rb : Res) : ch1 fc g' rb δ (some (.d (.bool false))) = some (.ok (.d (.bool false)) δ) := (rfl)
@[simp] theorem ch1_dec (fc : SE) (g' : D → D → Option Res) (rb : Res) (p : Prop) [Decidable p] : ch1 fc g' rb δ (some (.d (.bool (decide p)))) = if p then onE (pkE fc δ) (fun rc δ => o2 g' rb rc δ) exE else some (.ok (.d (.bool false)) δ) := by
  by_cases h : p
  · simp only [h, decide_true, if_true]; rfl
  · simp only [h, decide_false, if_false]; rfl
@[simp] theorem r_chainE (g g' : D → D → Option Res) (fa fb fc : SE) : chainE g g' fa fb fc δ = onE (pkE fa δ) (fun ra δ => onE (pkE fb δ) (fun rb δ => on2 (ra.get δ) (rb.get δ) fun x y => ch1 fc g' rb δ (g x y)) exE) exE := by
  unfold chainE
  rw [r_bindE]
  congr 1
  funext ra δ
  rw [r_bindE]
  congr 1
  funext rb δ
  simp only [on2, ch1]
  cases ra.get δ with
  | none => rfl
  | some x =>
    cases rb.get δ with
    | none => rfl
    | some y =>
      simp only
      have e : bindE (pkE fc) (fun rc => fun δ' => match rb.get δ', rc.get δ' with
        | some y, some z => (g' y z).map fun r => .ok r δ'
        | _, _ => none) δ = ch2 g' fc rb δ := by
        rw [r_bindE]
        unfold ch2
        congr 1
        funext rc δ
        simp only [o2, on2]
        cases rb.get δ with
        | none => rfl
        | some x =>
          cases rc.get δ with
          | none => rfl
          | some y => exact okR_map _
      cases g x y with
      | none => rfl
      | some r =>
        cases r with
        | d z =>
          cases z with
          | bool b =>
            cases b with
            | true => exact e
            | false => rfl
          | _ => rfl
        | _ => rfl
@[simp] theorem r_toB (f : SE) : toB f δ = onE (f δ) (fun r δ => onR r fun x => onBool x fun b => some (.ok b δ)) exE := by
  unfold toB
  rw [r_bindE]
  congr 1
  funext r δ
  cases r with
  | d x => cases x <;> rfl
  | _ => rfl
@[simp] theorem r_andB (f g : SB) : andB f g δ = onE (f δ) (fun k δ => onTF k (g δ) (some (.ok false δ))) exE := by
  unfold andB
  rw [r_bindE]
  congr 1
  funext k δ
  cases k <;> rfl
@[simp] theorem r_orB (f g : SB) : orB f g δ = onE (f δ) (fun k δ => onTF k (some (.ok true δ)) (g δ)) exE := by
  unfold orB
  rw [r_bindE]
  congr 1
  funext k δ
  cases k <;> rfl
@[simp] theorem r_notB (f : SB) : notB f δ = onE (f δ) (fun k δ => some (.ok (!k) δ)) exE := by
  unfold notB
  rw [r_bindE]
  rfl
@[simp] theorem r_ofB (f : SB) : ofB f δ = onE (f δ) (fun k δ => some (.ok (.d (.bool k)) δ)) exE := by
  unfold ofB
  rw [r_bindE]
  rfl
@[simp] theorem r_ifE (c : SB) (f g : SE) : ifE c f g δ = onE (c δ) (fun k δ => onTF k (f δ) (g δ)) exE := by
  unfold ifE
  rw [r_bindE]
  congr 1
  funext k δ
  cases k <;> rfl
@[simp] theorem r_andV (f g : SE) : andV f g δ = onE (toB f δ) (fun k δ => onTF k (g δ) (some (.ok (.d (.bool false)) δ))) exE := by
  unfold andV
  rw [r_bindE]
  congr 1
  funext k δ
  cases k <;> rfl
@[simp] theorem r_orV (f g : SE) : orV f g δ = onE (toB f δ) (fun k δ => onTF k (some (.ok (.d (.bool true)) δ)) (g δ)) exE := by
  unfold orV
  rw [r_bindE]
  congr 1
  funext k δ
  cases k <;> rfl
@[simp] theorem r_notV (f : SE) : notV f δ = onE (toB f δ) (fun k δ => some (.ok (.d (.bool (!k))) δ)) exE := by
  unfold notV
  rw [r_ofB, r_notB]
  cases toB f δ with
  | none => rfl
  | some o => cases o <;> rfl
@[simp] theorem r_ite {c : Prop} [Decidable c] (f g : List SV → α) : (if c then f else g) δ = if c then f δ else g δ := by split <;> rfl
@[simp] theorem r_nilA : nilA δ = some (.ok [] δ) := (rfl)
@[simp] theorem r_consA (f : SE) (g : SA) : consA f g δ = onE (f δ) (fun r δ => onE (g δ) (fun rs δ => some (.ok (r :: rs) δ)) exE) exE := by
  unfold consA
  rw [r_bindE]
  congr 1
  all_goals try (funext r δ; rw [r_bindE]; rfl)
@[simp] theorem r_gets_nil : gets [] δ = some [] := (rfl)
@[simp] theorem r_gets_cons (r : Res) (rs : List Res) : gets (r :: rs) δ = on1 (r.get δ) fun x => (gets rs δ).map (x :: ·) := by
  unfold gets on1
  rw [List.mapM_cons]
  cases r.get δ with
  | none => rfl
  | some x => cases rs.mapM (fun r => r.get δ) <;> rfl
@[simp] theorem r_datas_nil : datas [] = some [] := (rfl)
@[simp] theorem r_datas_d (x : D) (rs : List Res) : datas (.d x :: rs) = (datas rs).map (x :: ·) := by
  unfold datas
  rw [List.mapM_cons]
  cases List.mapM (fun r : Res => (match r with | .d x => some x | _ => none : Option D)) rs <;> rfl
@[simp] theorem r_tupE (g : SA) : tupE g δ = onE (g δ) (fun rs δ => onXs (datas rs) fun xs => if xs.length ≤ sizeLine then some (.ok (.d (.tuple xs)) δ) else none) exE := by
  unfold tupE
  rw [r_bindE]
  congr 1
  all_goals try (funext rs δ; cases datas rs <;> rfl)
@[simp] theorem r_lstE (g : SA) : lstE g δ = onE (g δ) (fun rs δ => onXs (datas rs) fun xs => if xs.length ≤ sizeLine then some (.ok (.nL xs) δ) else none) exE := by
  unfold lstE
  rw [r_bindE]
  congr 1
  all_goals try (funext rs δ; cases datas rs <;> rfl)
/-! statements -/
@[simp] theorem r_skipS : skipS δ = some (.nx δ) := (rfl)
@[simp] theorem r_seqS (s t : SS) : seqS s t δ = onS (s δ) t := by
  unfold seqS onS
  cases s δ with
  | none => rfl
  | some o => cases o <;> rfl
@[simp] theorem r_brkS : brkS δ = some (.bk δ) := (rfl)
@[simp] theorem r_cntS : cntS δ = some (.ct δ) := (rfl)
@[simp] theorem r_exprS (f : SE) : exprS f δ = onE (f δ) (fun _ δ => some (.nx δ)) exS := r_bindS f _
@[simp] theorem r_retK_d (x : D) : retK (.d x) δ = some (.rt (.d x) δ) := (rfl)
@[simp] theorem r_retK_L (xs : List D) : retK (.nL xs) δ = some (.rt (.nL xs) δ) := (rfl)
@[simp] theorem r_retK_M (ks : List (Key × D)) : retK (.nM ks) δ = some (.rt (.nM ks) δ) := (rfl)
def zer (n : Nat) (x : Option γ) : Option γ := match n with
  | 0 => x
  | _ => none
@[simp] theorem zer_0 (x : Option γ) : zer 0 x = x := (rfl)
@[simp] theorem r_retK_b (i : Nat) : retK (.b i) δ = onV δ[i]? (fun x => some (.rt (.d x) δ)) (fun n xs => zer n (some (.rt (.nL xs) (δ.set i .u)))) (fun n ks => zer n (some (.rt (.nM ks) (δ.set i .u)))) := by
  simp only [retK]
  unfold onV
  cases δ[i]? with
  | none => rfl
  | some s =>
    cases s with
    | u => rfl
    | d x => rfl
    | L n xs => cases n <;> rfl
    | M n xs => cases n <;> rfl
@[simp] theorem r_retS (f : SE) : retS f δ = onE (f δ) retK exS := r_bindS f retK
@[simp] theorem r_retN : retN δ = some (.rt (.d .none) δ) := (rfl)
@[simp] theorem r_ifS (g : SB) (s t : SS) : ifS g s t δ = onE (g δ) (fun k δ => onTF k (s δ) (t δ)) exS := by
  unfold ifS
  rw [r_bindS]
  congr 1
  funext k δ
  cases k <;> rfl
@[simp] theorem r_putV_d (i : Nat) (x : D) : putV i (.d x) δ = some (δ.set i (.d x)) := (rfl)
@[simp] theorem r_putV_L (i : Nat) (xs : List D) : putV i (.nL xs) δ = some (δ.set i (.L 0 xs)) := (rfl)
@[simp] theorem r_putV_M (i : Nat) (ks : List (Key × D)) : putV i (.nM ks) δ = some (δ.set i (.M 0 ks)) := (rfl)
def nxO (o : Option (List SV)) : Option SO := match o with
  | some δ => some (.nx δ)
  | none => none
@[simp] theorem nxO_some : nxO (some δ) = some (.nx δ) := (rfl)
theorem nxO_map (o : Option (List SV)) : o.map SO.nx = nxO o := by cases o <;> rfl
def onD (o : Option (List SV)) (k : List SV → Option γ) : Option γ := match o with
  | some δ => k δ
  | none => none
@[simp] theorem onD_some (k : List SV → Option γ) : onD (some δ) k = k δ := (rfl)
theorem onD_bind (o : Option (List SV)) (k : List SV → Option γ) : o.bind k = onD o k := by cases o <;> rfl
@[simp] theorem r_setS (i : Nat) (f : SE) : setS i f δ = onE (f δ) (fun r δ => nxO (putV i r δ)) exS := by
  unfold setS
  rw [r_bindS]
  congr 1
  funext r δ
  exact nxO_map _
@[simp] theorem r_parS2 (i j : Nat) (fa fb : SE) : parS2 i j fa fb δ = onE (fa δ) (fun ra δ => onE (fb δ) (fun rb δ => onD (putV i ra δ) fun δ1 => nxO (putV j rb δ1)) exS) exS := by
  unfold parS2
  rw [r_bindS]
  congr 1
  funext ra δ
  rw [r_bindS]
  congr 1
  funext rb δ
  rw [onD_bind]
  congr 1
  funext δ1
  exact nxO_map _
@[simp] theorem r_parS3 (i j l : Nat) (fa fb fc : SE) : parS3 i j l fa fb fc δ = onE (fa δ) (fun ra δ => onE (fb δ) (fun rb δ => onE (fc δ) (fun rc δ => onD (putV i ra δ) fun δ1 => onD (putV j rb δ1) fun δ2 => nxO (putV l rc δ2)) exS) exS) exS := by
  unfold parS3
  rw [r_bindS]
  congr 1
  funext ra δ
  rw [r_bindS]
  congr 1
  funext rb δ
  rw [r_bindS]
  congr 1
  funext rc δ
  rw [onD_bind]
  congr 1
  funext δ1
  rw [onD_bind]
  congr 1
  funext δ2
  exact nxO_map _
def stL (j k : Nat) (xs : List D) (v : D) (δ : List SV) (o : Option Nat) : Option SO := match o with
  | some n => some (.nx (δ.set j (.L k (xs.set n v))))
  | none => none
@[simp] theorem stL_some (j k : Nat) (xs : List D) (v : D) (n : Nat) : stL j k xs v δ (some n) = some (.nx (δ.set j (.L k (xs.set n v)))) := (rfl)
def stM (j k : Nat) (ks : List (Key × D)) (v : D) (δ : List SV) (o : Option Key) : Option SO := match o with
  | some ky => if ks.length < sizeLine then some (.nx (δ.set j (.M k (putD ks ky v)))) else none
  | none => none
@[simp] theorem stM_some (j k : Nat) (ks : List (Key × D)) (v : D) (ky : Key) : stM j k ks v δ (some ky) = if ks.length < sizeLine then some (.nx (δ.set j (.M k (putD ks ky v)))) else none := (rfl)
@[simp] theorem r_setIS (fv fo fi : SE) : setIS fv fo fi δ = onE (escE fv δ) (fun rv δ => onE (fo δ) (fun ro δ => onE (pkE fi δ) (fun ri δ => onR rv fun v => onRb ro fun j => on1 (ri.get δ) fun ix => onV δ[j]? (fun _ => none) (fun k xs => onInt ix fun i => stL j k xs v δ (ixN xs.length i)) (fun k ks => stM j k ks v δ (keyD ix))) exS) exS) exS := by
  unfold setIS
  rw [r_bindS]
  congr 1
  funext rv δ
  rw [r_bindS]
  congr 1
  funext ro δ
  rw [r_bindS]
  congr 1
  funext ri δ
  cases rv with
  | d v =>
    cases ro with
    | b j =>
      cases ri.get δ with
      | none => rfl
      | some ix =>
        simp only [onR, onRb, on1, onV]
        cases δ[j]? with
        | none => rfl
        | some s =>
          cases s with
          | L k xs =>
            cases ix <;> try rfl
            simp only [onInt, stL]
            cases ixN xs.length _ <;> rfl
          | M k ks =>
            simp only [stM]
            cases keyD ix <;> rfl
          | _ => rfl
    | _ => rfl
  | _ => rfl
@[simp] theorem r_unpS (t : STg) (f : SE) : unpS t f δ = onE (escE f δ) (fun r δ => onR r fun x => nxO (t x δ)) exS := by
  unfold unpS
  rw [r_bindS]
  congr 1
  funext r δ
  cases r with
  | d x => exact nxO_map _
  | _ => rfl
@[simp] theorem r_nameT (i : Nat) (x : D) : nameT i x δ = some (δ.set i (.d x)) := (rfl)
@[simp] theorem r_tupT (n : Nat) (u : STs) (xs : List D) : tupT n u (.tuple xs) δ = if xs.length = n then u xs δ else none := (rfl)
@[simp] theorem r_consT (t : STg) (u : STs) (x : D) (r : List D) : consT t u (x :: r) δ = onD (t x δ) (u r) := onD_bind _ _
@[simp] theorem r_nilT : nilT [] δ = some δ := (rfl)
@[simp] theorem r_forS (src : SI) (t : STg) (s : SS) : forS src t s δ = onE (src δ) (fun items δ => forGo t s items δ) exS := r_bindS src _
@[simp] theorem r_datS (f : SE) : datS f δ = onE (escE f δ) (fun r δ => onR r fun x => onSeq x fun xs => some (.ok xs δ)) exE := by
  unfold datS
  rw [r_bindE]
  congr 1
  funext r δ
  cases r with
  | d x => cases x <;> rfl
  | _ => rfl
def onI1 (o : Option (List D)) (k : Int → Option γ) : Option γ := match o with
  | some [.int j] => k j
  | _ => none
@[simp] theorem onI1_int (j : Int) (k : Int → Option γ) : onI1 (some [.int j]) k = k j := (rfl)
def onI2 (o : Option (List D)) (k : Int → Int → Option γ) : Option γ := match o with
  | some [.int i, .int j] => k i j
  | _ => none
@[simp] theorem onI2_int (i j : Int) (k : Int → Int → Option γ) : onI2 (some [.int i, .int j]) k = k i j := (rfl)
/-! hidden from the kernel's own reckoning: a bound with many figures is never told apart -/
theorem rngI_ex : ∃ f : Int → SI, f = fun j => if -(2 ^ 62) ≤ j ∧ j < 2 ^ 62 then pureE (rngD 0 j.toNat) else fun _ => none := ⟨_, rfl⟩
noncomputable def rngI : Int → SI := Classical.choose rngI_ex
theorem rngI_eq : rngI = fun j => if -(2 ^ 62) ≤ j ∧ j < 2 ^ 62 then pureE (rngD 0 j.toNat) else fun _ => none := Classical.choose_spec rngI_ex
theorem rngJ_ex : ∃ f : Int → Int → SI, f = fun i j => if -(2 ^ 62) ≤ i ∧ i < 2 ^ 62 ∧ -(2 ^ 62) ≤ j ∧ j < 2 ^ 62 then pureE (rngD i (j - i).toNat) else fun _ => none := ⟨_, rfl⟩
noncomputable def rngJ : Int → Int → SI := Classical.choose rngJ_ex
theorem rngJ_eq : rngJ = fun i j => if -(2 ^ 62) ≤ i ∧ i < 2 ^ 62 ∧ -(2 ^ 62) ≤ j ∧ j < 2 ^ 62 then pureE (rngD i (j - i).toNat) else fun _ => none := Classical.choose_spec rngJ_ex
@[simp] theorem r_rng1S (fa : SA) : rng1S fa δ = onE (fa δ) (fun rs δ => onI1 (datas rs) fun j => rngI j δ) exE := by
  unfold rng1S
  rw [r_bindE, rngI_eq]
  congr 1
  funext rs δ
  cases datas rs with
  | none => rfl
  | some l => match l with
    | [] => rfl
    | [x] => cases x <;> rfl
    | x :: y :: r => cases x <;> rfl
@[simp] theorem r_rng2S (fa : SA) : rng2S fa δ = onE (fa δ) (fun rs δ => onI2 (datas rs) fun i j => rngJ i j δ) exE := by
  unfold rng2S
  rw [r_bindE, rngJ_eq]
  congr 1
  funext rs δ
  cases datas rs with
  | none => rfl
  | some l => match l with
    | [] => rfl
    | [x] => cases x <;> rfl
    | [x, y] => cases x <;> cases y <;> rfl
    | x :: y :: z :: r => cases x <;> cases y <;> rfl
theorem rng_b {j : Int} (h0 : -1000000000 ≤ j) (h1 : j ≤ 1000000000) : -(2 ^ 62) ≤ j ∧ j < 2 ^ 62 := ⟨Int.le_trans (by decide +kernel) h0, Int.lt_of_le_of_lt h1 (by decide +kernel)⟩
theorem rngI_ok {j : Int} (h0 : -1000000000 ≤ j) (h1 : j ≤ 1000000000) : rngI j δ = some (.ok (rngD 0 j.toNat) δ) := by
  rw [rngI_eq]
  show (if -(2 ^ 62) ≤ j ∧ j < 2 ^ 62 then pureE (rngD 0 j.toNat) else fun _ => none) δ = _
  rw [if_pos (rng_b h0 h1)]
  rfl
theorem rngI_nat {m : Nat} (h : m ≤ 1000000) : rngI (m : Int) δ = some (.ok (rngD 0 m) δ) := by
  rw [rngI_ok (by omega) (by omega), Int.toNat_natCast]
theorem rngJ_ok {i j : Int} (h0 : -1000000000 ≤ i) (h1 : i ≤ 1000000000) (h2 : -1000000000 ≤ j) (h3 : j ≤ 1000000000) : rngJ i j δ = some (.ok (rngD i (j - i).toNat) δ) := by
  rw [rngJ_eq]
  show (if -(2 ^ 62) ≤ i ∧ i < 2 ^ 62 ∧ -(2 ^ 62) ≤ j ∧ j < 2 ^ 62 then pureE (rngD i (j - i).toNat) else fun _ => none) δ = _
  rw [if_pos ⟨(rng_b h0 h1).1, (rng_b h0 h1).2, rng_b h2 h3⟩]
  rfl
def okX (δ : List SV) (o : Option (List D)) : Option (ER (List D)) := match o with
  | some r => some (.ok r δ)
  | none => none
@[simp] theorem okX_some (r : List D) : okX δ (some r) = some (.ok r δ) := (rfl)
@[simp] theorem r_enumS (k : Int) (f : SE) : enumS k f δ = onE (escE f δ) (fun r δ => onR r fun x => onXs (seqD x) fun xs => some (.ok (enumD k xs) δ)) exE := by
  unfold enumS
  rw [r_bindE]
  congr 1
  funext r δ
  cases r with
  | d x =>
    simp only [onR, onXs]
    cases seqD x <;> rfl
  | _ => rfl
@[simp] theorem r_zipSS (st : Bool) (fa fb : SE) : zipSS st fa fb δ = onE (escE fa δ) (fun ra δ => onE (escE fb δ) (fun rb δ => onR ra fun x => onR rb fun y => onXs (seqD x) fun xs => onXs (seqD y) fun ys => if st = true → ys.length = xs.length then some (.ok (zipD xs ys) δ) else none) exE) exE := by
  unfold zipSS
  rw [r_bindE]
  congr 1
  funext ra δ
  rw [r_bindE]
  congr 1
  funext rb δ
  cases ra with
  | d x =>
    cases rb with
    | d y =>
      simp only [onR, onXs]
      cases seqD x with
      | none => rfl
      | some xs => cases seqD y <;> rfl
    | _ => rfl
  | _ => rfl
@[simp] theorem r_seqD_l (xs : List D) : seqD (.list xs) = some xs := (rfl)
@[simp] theorem r_seqD_t (xs : List D) : seqD (.tuple xs) = some xs := (rfl)
/-! calls -/
@[simp] theorem r_callBE (g : List D → Option Res) (fa : SA) : callBE g fa δ = onE (fa δ) (fun rs δ => onXs (gets rs δ) fun xs => okR δ (g xs)) exE := by
  unfold callBE
  rw [r_bindE]
  congr 1
  funext rs δ
  simp only [onXs]
  cases gets rs δ with
  | none => rfl
  | some xs => exact okR_map _
def okB (δ : List SV) (o : Option Bool) : Option (ER Res) := match o with
  | some b => some (.ok (.d (.bool b)) δ)
  | none => none
@[simp] theorem okB_some (b : Bool) : okB δ (some b) = some (.ok (.d (.bool b)) δ) := (rfl)
@[simp] theorem r_isiE (T : String) (f : SE) : isiE T f δ = onE (pkE f δ) (fun r δ => on1 (r.get δ) fun x => okB δ (isiG T x)) exE := by
  unfold isiE
  rw [r_bindE]
  congr 1
  funext r δ
  simp only [on1]
  cases r.get δ with
  | none => rfl
  | some x =>
    simp only [okB]
    cases isiG T x <;> rfl
@[simp] theorem r_selL (fo : SE) : selL fo δ = onE (fo δ) (fun r δ => onRb r fun j => onV δ[j]? (fun _ => none) (fun _ _ => some (.ok j δ)) (fun _ _ => none)) exE := by
  unfold selL
  rw [r_bindE]
  congr 1
  funext r δ
  cases r with
  | b j =>
    simp only [onRb, onV]
    cases δ[j]? with
    | none => rfl
    | some s => cases s <;> rfl
  | _ => rfl
def okM (j k : Nat) (δ : List SV) (o : Option (D × List D)) : Option (ER Res) := match o with
  | some q => some (.ok (.d q.1) (δ.set j (.L k q.2)))
  | none => none
@[simp] theorem okM_some (j k : Nat) (x : D) (xs : List D) : okM j k δ (some (x, xs)) = some (.ok (.d x) (δ.set j (.L k xs))) := (rfl)
@[simp] theorem r_metE (g : List D → List D → Option (D × List D)) (fo : SE) (fa : SA) : metE g fo fa δ = onE (selL fo δ) (fun j δ => onE (fa δ) (fun rs δ => onV δ[j]? (fun _ => none) (fun k xs => onXs (datas rs) fun args => okM j k δ (g xs args)) (fun _ _ => none)) exE) exE := by
  unfold metE
  rw [r_bindE]
  congr 1
  funext j δ
  rw [r_bindE]
  congr 1
  funext rs δ
  simp only [onV]
  cases δ[j]? with
  | none => cases datas rs <;> rfl
  | some s =>
    cases s with
    | L k xs =>
      cases datas rs with
      | none => rfl
      | some args =>
        simp only [onXs, okM]
        cases g xs args <;> rfl
    | _ => cases datas rs <;> rfl
def okD (δ : List SV) (o : Option D) : Option (ER Res) := match o with
  | some q => some (.ok (.d q) δ)
  | none => none
@[simp] theorem okD_some (x : D) : okD δ (some x) = some (.ok (.d x) δ) := (rfl)
@[simp] theorem r_lookE (g : List D → List D → Option D) (fo : SE) (fa : SA) : lookE g fo fa δ = onE (pkE fo δ) (fun r δ => on1 (r.get δ) fun y => onLst y fun _ => onE (fa δ) (fun rs δ => on1 (r.get δ) fun z => onLst z fun xs => onXs (datas rs) fun args => okD δ (g xs args)) exE) exE := by
  unfold lookE
  rw [r_bindE]
  congr 1
  funext r δ
  simp only [on1]
  cases r.get δ with
  | none => rfl
  | some y =>
    cases y with
    | list _ =>
      simp only [onLst]
      rw [r_bindE]
      congr 1
      funext rs δ
      cases r.get δ with
      | none => rfl
      | some z =>
        cases z with
        | list xs =>
          simp only [onXs, okD]
          cases datas rs with
          | none => rfl
          | some args =>
            simp only
            cases g xs args <;> rfl
        | _ => rfl
    | _ => rfl
@[simp] theorem r_noPart : noPart δ = some (.ok none δ) := (rfl)
@[simp] theorem r_isPart (f : SE) : isPart f δ = onE (f δ) (fun r δ => onR r fun x => onInt x fun i => some (.ok (some i) δ)) exE := by
  unfold isPart
  rw [r_bindE]
  congr 1
  funext r δ
  cases r with
  | d x => cases x <;> rfl
  | _ => rfl
@[simp] theorem r_sliceE (fa : SE) (lo hi : SO') : sliceE fa lo hi δ = onE (pkE fa δ) (fun ra δ => onE (lo δ) (fun l δ => onE (hi δ) (fun h δ => on1 (ra.get δ) fun x => okR δ (slD x l h)) exE) exE) exE := by
  unfold sliceE
  rw [r_bindE]
  congr 1
  funext ra δ
  rw [r_bindE]
  congr 1
  funext l δ
  rw [r_bindE]
  congr 1
  funext h δ
  simp only [on1]
  cases ra.get δ with
  | none => rfl
  | some x => exact okR_map _
@[simp] theorem r_slD_l (xs : List D) (lo hi : Option Int) : slD (.list xs) lo hi = some (.nL (DL.cutD xs lo hi)) := (rfl)
@[simp] theorem r_slD_t (xs : List D) (lo hi : Option Int) : slD (.tuple xs) lo hi = some (.d (.tuple (DL.cutD xs lo hi))) := (rfl)
theorem repI_ex : ∃ f : List D → Int → SE, f = fun xs k δ => if -(2 ^ 63) ≤ k ∧ k < 2 ^ 63 ∧ xs.length * k.toNat ≤ sizeLine then some (.ok (.nL (List.replicate k.toNat xs).flatten) δ) else none := ⟨_, rfl⟩
noncomputable def repI : List D → Int → SE := Classical.choose repI_ex
theorem repI_eq : repI = fun xs k δ => if -(2 ^ 63) ≤ k ∧ k < 2 ^ 63 ∧ xs.length * k.toNat ≤ sizeLine then some (.ok (.nL (List.replicate k.toNat xs).flatten) δ) else none := Classical.choose_spec repI_ex
@[simp] theorem r_mulNE (fa fb : SE) : mulNE fa fb δ = onE (fa δ) (fun ra δ => onE (pkE fb δ) (fun rb δ => onRL ra fun xs => on1 (rb.get δ) fun y => onInt y fun k => repI xs k δ) exE) exE := by
  unfold mulNE
  rw [r_bindE, repI_eq]
  congr 1
  funext ra δ
  rw [r_bindE]
  congr 1
  funext rb δ
  cases ra with
  | nL xs =>
    simp only [onRL, on1]
    cases rb.get δ with
    | none => rfl
    | some y => cases y <;> rfl
  | _ => rfl
theorem repI_ok {xs : List D} {k : Int} (h0 : 0 ≤ k) (h1 : k ≤ 1000) (h2 : xs.length ≤ 1000) : repI xs k δ = some (.ok (.nL (List.replicate k.toNat xs).flatten) δ) := by
  rw [repI_eq]
  have : xs.length * k.toNat ≤ 1000 * 1000 := Nat.mul_le_mul h2 (by omega)
  show (if -(2 ^ 63) ≤ k ∧ k < 2 ^ 63 ∧ xs.length * k.toNat ≤ sizeLine then some (ER.ok (Res.nL (List.replicate k.toNat xs).flatten) δ) else none) = _
  rw [if_pos ⟨Int.le_trans (by decide +kernel) h0, Int.lt_of_le_of_lt h1 (by decide +kernel), Nat.le_trans this size_big⟩]
def lenIs (xs : List Res) (n : Nat) (x : Option γ) : Option γ := if xs.length = n then x else none
theorem lenIs_ok {xs : List Res} {n : Nat} (h : xs.length = n) (x : Option γ) : lenIs xs n x = x := if_pos h
@[simp] theorem lenIs0 (x : Option γ) : lenIs [] 0 x = x := (rfl)
@[simp] theorem lenIs1 (a : Res) (n : Nat) (xs : List Res) (x : Option γ) : lenIs (a :: xs) (n + 1) x = lenIs xs n x := by
  unfold lenIs
  simp
@[simp] theorem r_callE (Fs : SE) (n m : Nat) (put : {α : Type} → List α → List α → List α → List α) (dx : List D) (g k : SA) : callE Fs n m put dx g k δ = onE (g δ) (fun rs δ => if rs.length = n then onE (k δ) (fun qs δ => if qs.length = m then applyE Fs (put rs qs (dx.map Res.d)) δ else none) exE else none) exE := by
  unfold callE
  rw [r_bindE]
  congr 1
  funext rs δ
  split
  · rw [r_bindE]
    congr 1
    funext qs δ
    split <;> rfl
  · rfl
def onF (o : Option (ER Res)) (rs : List Res) (δ : List SV) : Option (ER Res) := match o with
  | none => none
  | some (.ok r os) => if r.isR = true then (backOf rs os δ).map (.ok r) else none
  | some (.ex e os) => (backOf rs os δ).map (.ex e)
def okO (r : Res) (o : Option (List SV)) : Option (ER Res) := match o with
  | some δ => some (.ok r δ)
  | none => none
@[simp] theorem okO_some (r : Res) : okO r (some δ) = some (.ok r δ) := (rfl)
def exO (e : XD) (o : Option (List SV)) : Option (ER Res) := match o with
  | some δ => some (.ex e δ)
  | none => none
@[simp] theorem exO_some (e : XD) : exO e (some δ) = some (.ex e δ) := (rfl)
@[simp] theorem onF_d (x : D) (os : List SV) (rs : List Res) : onF (some (.ok (.d x) os)) rs δ = okO (.d x) (backOf rs os δ) := by
  show (backOf rs os δ).map (ER.ok (Res.d x)) = _
  cases backOf rs os δ <;> rfl
@[simp] theorem onF_L (x : List D) (os : List SV) (rs : List Res) : onF (some (.ok (.nL x) os)) rs δ = okO (.nL x) (backOf rs os δ) := by
  show (backOf rs os δ).map (ER.ok (Res.nL x)) = _
  cases backOf rs os δ <;> rfl
@[simp] theorem onF_M (x : List (Key × D)) (os : List SV) (rs : List Res) : onF (some (.ok (.nM x) os)) rs δ = okO (.nM x) (backOf rs os δ) := by
  show (backOf rs os δ).map (ER.ok (Res.nM x)) = _
  cases backOf rs os δ <;> rfl
@[simp] theorem onF_ex (e : XD) (os : List SV) (rs : List Res) : onF (some (.ex e os)) rs δ = exO e (backOf rs os δ) := by
  show (backOf rs os δ).map (ER.ex e) = _
  cases backOf rs os δ <;> rfl
def onArgs (o : Option (List SV)) (Fs : SE) (rs : List Res) (δ : List SV) : Option (ER Res) := match o with
  | none => none
  | some args => onF (Fs args) rs δ
@[simp] theorem onArgs_some (args : List SV) (Fs : SE) (rs : List Res) : onArgs (some args) Fs rs δ = onF (Fs args) rs δ := (rfl)
@[simp] theorem r_applyE (Fs : SE) (rs : List Res) : applyE Fs rs δ = onArgs (argsOf rs δ) Fs rs δ := by
  unfold applyE onArgs onF
  cases argsOf rs δ with
  | none => rfl
  | some args =>
    simp only
    all_goals try (cases Fs args with
    | none => rfl
    | some o => cases o <;> rfl)
@[simp] theorem r_argOf_d (x : D) : argOf δ (.d x) = some (.d x) := (rfl)
@[simp] theorem r_argOf_b (i : Nat) : argOf δ (.b i) = onV δ[i]? (fun x => some (.d x)) (fun _ xs => some (.L 0 xs)) (fun _ ks => some (.M 0 ks)) := by
  simp only [argOf, onV]
  cases δ[i]? with
  | none => rfl
  | some s => cases s <;> rfl
@[simp] theorem r_argsOf (rs : List Res) : argsOf rs δ = if (rs.filterMap bIx).Nodup then rs.mapM (argOf δ) else none := (rfl)
@[simp] theorem r_bIx_b (i : Nat) : bIx (.b i) = some i := (rfl)
@[simp] theorem r_bIx_d (x : D) : bIx (.d x) = none := (rfl)
@[simp] theorem r_isR_d (x : D) : Res.isR (.d x) = true := (rfl)
@[simp] theorem r_isR_L (x : List D) : Res.isR (.nL x) = true := (rfl)
@[simp] theorem r_isR_M (x : List (Key × D)) : Res.isR (.nM x) = true := (rfl)
@[simp] theorem r_back_nil : backOf [] [] δ = some δ := (rfl)
@[simp] theorem r_back_d (x : D) (rs : List Res) (o : SV) (os : List SV) : backOf (.d x :: rs) (o :: os) δ = backOf rs os δ := (rfl)
@[simp] theorem r_back_L (i : Nat) (rs : List Res) (k : Nat) (xs : List D) (os : List SV) : backOf (.b i :: rs) (.L k xs :: os) δ = onV δ[i]? (fun _ => none) (fun k _ => backOf rs os (δ.set i (.L k xs))) (fun _ _ => none) := by
  simp only [backOf, onV]
  cases δ[i]? with
  | none => rfl
  | some s => cases s <;> rfl
@[simp] theorem r_back_M (i : Nat) (rs : List Res) (k : Nat) (xs : List (Key × D)) (os : List SV) : backOf (.b i :: rs) (.M k xs :: os) δ = onV δ[i]? (fun _ => none) (fun _ _ => none) (fun k _ => backOf rs os (δ.set i (.M k xs))) := by
  simp only [backOf, onV]
  cases δ[i]? with
  | none => rfl
  | some s => cases s <;> rfl
@[simp] theorem r_back_x (i : Nat) (rs : List Res) (x : D) (os : List SV) : backOf (.b i :: rs) (.d x :: os) δ = onV δ[i]? (fun _ => backOf rs os δ) (fun _ _ => none) (fun _ _ => none) := by
  simp only [backOf, onV]
  cases δ[i]? with
  | none => rfl
  | some s => cases s <;> rfl
@[simp] theorem r_pick (idx : List Nat) (us ws ds : List α) : pick idx us ws ds = idx.filterMap fun j => (us ++ ws ++ ds)[j]? := (rfl)
@[simp] theorem r_relab_d (k : Nat) (x : D) : relab k (.d x) = .d x := (rfl)
@[simp] theorem r_relab_u (k : Nat) : relab k .u = .u := (rfl)
@[simp] theorem r_relab_L (k n : Nat) (x : List D) : relab k (.L n x) = .L k x := (rfl)
@[simp] theorem r_relab_M (k n : Nat) (x : List (Key × D)) : relab k (.M n x) = .M k x := (rfl)
@[simp] theorem r_labG_nil (j : Nat) : labG j [] = [] := (rfl)
@[simp] theorem r_labG_cons (j : Nat) (s : SV) (r : List SV) : labG j (s :: r) = relab (j + 1) s :: labG (j + 1) r := (rfl)
@[simp] theorem r_outs_nil (j : Nat) : outsG j [] δ = some [] := by cases δ <;> rfl
@[simp] theorem r_outs_d (j : Nat) (x : D) (r : List SV) (t : SV) (δ : List SV) : outsG j (.d x :: r) (t :: δ) = (outsG (j + 1) r δ).map (.d x :: ·) := by cases t <;> rfl
@[simp] theorem r_outs_L (j n k : Nat) (ys xs : List D) (r δ : List SV) : outsG j (.L n ys :: r) (.L k xs :: δ) = if k = j + 1 then (outsG (j + 1) r δ).map (.L n xs :: ·) else none := (rfl)
@[simp] theorem r_outs_M (j n k : Nat) (ys xs : List (Key × D)) (r δ : List SV) : outsG j (.M n ys :: r) (.M k xs :: δ) = if k = j + 1 then (outsG (j + 1) r δ).map (.M n xs :: ·) else none := (rfl)
def endD (args : List SV) (o : Option SO) : Option (ER Res) := match o with
  | some (.nx δ) => okO (.d .none) (outsG 0 args δ)
  | some (.rt r δ) => if r.isR = true then okO r (outsG 0 args δ) else none
  | some (.ex e δ) => exO e (outsG 0 args δ)
  | _ => none
@[simp] theorem endD_nx (args : List SV) : endD args (some (.nx δ)) = okO (.d .none) (outsG 0 args δ) := (rfl)
@[simp] theorem endD_rt (args : List SV) (r : Res) : endD args (some (.rt r δ)) = if r.isR = true then okO r (outsG 0 args δ) else none := (rfl)
@[simp] theorem endD_ex (args : List SV) (e : XD) : endD args (some (.ex e δ)) = exO e (outsG 0 args δ) := (rfl)
theorem okO_map (r : Res) (o : Option (List SV)) : o.map (ER.ok r) = okO r o := by cases o <;> rfl
theorem exO_map (e : XD) (o : Option (List SV)) : o.map (ER.ex e) = exO e o := by cases o <;> rfl
@[simp] theorem r_defE (n m : Nat) (s : SS) (args : List SV) : defE n m s args = if args.length = n then endD args (s (labG 0 args ++ List.replicate (m - n) .u)) else none := by
  unfold defE
  split
  · generalize s (labG 0 args ++ List.replicate (m - n) .u) = o
    cases o with
    | none => rfl
    | some o =>
      cases o with
      | nx δ => exact okO_map _ _
      | rt r δ =>
        simp only [endD]
        split
        · exact okO_map _ _
        · rfl
      | ex e δ => exact exO_map _ _
      | _ => rfl
  · rfl
def onO (o : Option γ) (rest : List γ) : List γ := match o with
  | none => rest
  | some b => b :: rest
@[simp] theorem onO_none (rest : List γ) : onO none rest = rest := (rfl)
@[simp] theorem onO_some (b : γ) (rest : List γ) : onO (some b) rest = b :: rest := (rfl)
theorem r_filterMap_cons (f : α → Option γ) (a : α) (l : List α) : (a :: l).filterMap f = onO (f a) (l.filterMap f) := by
  rw [List.filterMap_cons]
  cases f a <;> rfl
@[simp] theorem r_whileS (n : Nat) (g : SB) (s : SS) : whileS n g s δ = whileGo g s n δ := (rfl)
@[simp] theorem r_yesB : yesB δ = some (.ok true δ) := (rfl)
@[simp] theorem r_raiseF (cls : Str) (fields : List Str) (dfl : List D) (fa : SA) : raiseF cls fields dfl fa δ = onE (fa δ) (fun rs δ => onXs (datas rs) fun xs => if (xs ++ dfl).length = fields.length ∧ xs.length ≤ 1000 then some (.ex ⟨cls, some (fields.zip (xs ++ dfl)).reverse⟩ δ) else none) exS := by
  unfold raiseF
  rw [r_bindS]
  congr 1
  all_goals try (funext rs δ; cases datas rs <;> rfl)
@[simp] theorem r_raise0 (cls : Str) (fa : SA) : raise0 cls fa δ = onE (fa δ) (fun rs δ => onXs (datas rs) fun xs => if xs.length ≤ 1000 then some (.ex ⟨cls, none⟩ δ) else none) exS := by
  unfold raise0
  rw [r_bindS]
  congr 1
  all_goals try (funext rs δ; cases datas rs <;> rfl)
def tryO (m : Str → Option Bool) (i j : Nat) (o : Option SO) : Option SO := match o with
  | some (.ex e δ') => match m e.cls with
    | some true => if i < δ'.length then some (.nx (((δ'.set i .u).set j (.d e.data)).set i .u)) else none
    | some false => some (.ex e δ')
    | none => none
  | o => o
def tryX (i j : Nat) (e : XD) (δ : List SV) (o : Option Bool) : Option SO := match o with
  | some true => if i < δ.length then some (.nx (((δ.set i .u).set j (.d e.data)).set i .u)) else none
  | some false => some (.ex e δ)
  | none => none
@[simp] theorem tryX_t (i j : Nat) (e : XD) : tryX i j e δ (some true) = if i < δ.length then some (.nx (((δ.set i .u).set j (.d e.data)).set i .u)) else none := (rfl)
@[simp] theorem tryX_f (i j : Nat) (e : XD) : tryX i j e δ (some false) = some (.ex e δ) := (rfl)
@[simp] theorem tryO_ex (m : Str → Option Bool) (i j : Nat) (e : XD) : tryO m i j (some (.ex e δ)) = tryX i j e δ (m e.cls) := by
  simp only [tryO, tryX]
@[simp] theorem tryO_nx (m : Str → Option Bool) (i j : Nat) : tryO m i j (some (.nx δ)) = some (.nx δ) := (rfl)
@[simp] theorem tryO_rt (m : Str → Option Bool) (i j : Nat) (r : Res) : tryO m i j (some (.rt r δ)) = some (.rt r δ) := (rfl)
@[simp] theorem r_tryK (m : Str → Option Bool) (i j : Nat) (s : SS) : tryK m i j s δ = tryO m i j (s δ) := by
  unfold tryK tryO
  cases s δ with
  | none => rfl
  | some o => cases o <;> rfl
def onX (o : Option (Str × List (Str × D))) (k : Str → List (Str × D) → Option γ) : Option γ := match o with
  | some (c, fs) => k c fs
  | none => none
@[simp] theorem onX_some (c : Str) (fs : List (Str × D)) (k : Str → List (Str × D) → Option γ) : onX (some (c, fs)) k = k c fs := (rfl)
@[simp] theorem r_isxE (tbl : Str → Option Bool) (f : SE) : isxE tbl f δ = onE (pkE f δ) (fun r δ => onX ((r.get δ).bind excOf) fun cls _ => okB δ (tbl cls)) exE := by
  unfold isxE
  rw [r_bindE]
  congr 1
  funext r δ
  simp only [onX, okB]
  cases (r.get δ).bind excOf with
  | none => rfl
  | some q =>
    obtain ⟨c, fs⟩ := q
    simp only
    cases tbl c <;> rfl
@[simp] theorem r_attE (ok : Str → Bool) (f : Str) (fe : SE) : attE ok f fe δ = onE (pkE fe δ) (fun r δ => onX ((r.get δ).bind excOf) fun cls fs => if ok cls = true then okD δ (fs.lookup f) else none) exE := by
  unfold attE
  rw [r_bindE]
  congr 1
  funext r δ
  simp only [onX, okD]
  cases (r.get δ).bind excOf with
  | none => rfl
  | some q =>
    obtain ⟨c, fs⟩ := q
    simp only
    split
    · cases fs.lookup f <;> rfl
    · rfl
@[simp] theorem r_excOf (cls : Str) (fs : List (Str × D)) : excOf (excD cls fs) = some (cls, fs) := excOf_D cls fs
@[simp] theorem r_len_l (xs : List D) : lenG [.list xs] = some (.d (.int xs.length)) := (rfl)
@[simp] theorem r_len_t (xs : List D) : lenG [.tuple xs] = some (.d (.int xs.length)) := (rfl)
@[simp] theorem r_tuple_l (xs : List D) : tupleG [.list xs] = some (.d (.tuple xs)) := (rfl)
@[simp] theorem r_tuple_t (xs : List D) : tupleG [.tuple xs] = some (.d (.tuple xs)) := (rfl)
@[simp] theorem r_list_l (xs : List D) : listG [.list xs] = some (.nL xs) := (rfl)
@[simp] theorem r_list_t (xs : List D) : listG [.tuple xs] = some (.nL xs) := (rfl)
@[simp] theorem r_wipe_nil : wipeD [] δ = δ := (rfl)
@[simp] theorem r_wipe_cons (v : Nat) (vs : List Nat) : wipeD (v :: vs) δ = (wipeD vs δ).set v .u := (rfl)
@[simp] theorem r_bk_nil (δ0 : List SV) : backD [] δ0 δ = δ := (rfl)
def bkO (o : Option SV) (v : Nat) (δ : List SV) : List SV := match o with
  | some s => δ.set v s
  | none => δ
@[simp] theorem bkO_some (s : SV) (v : Nat) : bkO (some s) v δ = δ.set v s := (rfl)
@[simp] theorem r_bk_cons (v : Nat) (vs : List Nat) (δ0 : List SV) : backD (v :: vs) δ0 δ = bkO δ0[v]? v (backD vs δ0 δ) := by
  simp only [backD, bkO]
  all_goals try (cases δ0[v]? <;> rfl)
@[simp] theorem r_ints (i j : Int) : eqG (.int i) (.int j) = some (.d (.bool (decide (i = j)))) := by
  simp [eqG, layD, lay, PyData.eqv]
  try (by_cases h : i = j <;> simp [h])
@[simp] theorem r_intsN (i j : Int) : neG (.int i) (.int j) = some (.d (.bool (decide (i ≠ j)))) := by
  simp [neG, layD, lay, PyData.eqv]
  try (by_cases h : i = j <;> simp [h])
@[simp] theorem r_noOwn_nil : noOwn [] δ = true := (rfl)
def noO (o : Option SV) : Bool := match o with
  | some s => !s.own
  | none => true
@[simp] theorem noO_some (s : SV) : noO (some s) = !s.own := (rfl)
@[simp] theorem r_noOwn_cons (v : Nat) (vs : List Nat) : noOwn (v :: vs) δ = (noO δ[v]? && noOwn vs δ) := (rfl)
@[simp] theorem r_own_d (x : D) : (SV.d x).own = false := (rfl)
@[simp] theorem r_own_u : SV.u.own = false := (rfl)
@[simp] theorem r_isR_b (i : Nat) : Res.isR (.b i) = false := (rfl)
theorem ixl_get {xs : List D} {k : Nat} {x : D} (h : xs[k]? = some x) : ixG (.list xs) (.int (k : Int)) = some (.d x) := by
  have hl := (List.getElem?_eq_some_iff.mp h).1
  have e : L2.atI xs (k : Int) = some x := by
    unfold L2.atI L2.ixN
    rw [if_pos (by omega), if_pos (by omega)]
    exact h
  unfold ixG ixS
  simp only [e]
  rfl
theorem ixt_get {xs : List D} {k : Nat} {x : D} (h : xs[k]? = some x) : ixG (.tuple xs) (.int (k : Int)) = some (.d x) := by
  have hl := (List.getElem?_eq_some_iff.mp h).1
  have e : L2.atI xs (k : Int) = some x := by
    unfold L2.atI L2.ixN
    rw [if_pos (by omega), if_pos (by omega)]
    exact h
  unfold ixG ixS
  simp only [e]
  rfl
@[simp] theorem ixl_0 (a : D) (r : List D) : ixG (.list (a :: r)) (.int 0) = some (.d a) := ixl_get (k := 0) rfl
@[simp] theorem ixt_0 (a : D) (r : List D) : ixG (.tuple (a :: r)) (.int 0) = some (.d a) := ixt_get (k := 0) rfl
@[simp] theorem ixl_1 (a b : D) (r : List D) : ixG (.list (a :: b :: r)) (.int 1) = some (.d b) := ixl_get (k := 1) rfl
@[simp] theorem ixt_1 (a b : D) (r : List D) : ixG (.tuple (a :: b :: r)) (.int 1) = some (.d b) := ixt_get (k := 1) rfl
@[simp] theorem ixl_2 (a b c : D) (r : List D) : ixG (.list (a :: b :: c :: r)) (.int 2) = some (.d c) := ixl_get (k := 2) rfl
@[simp] theorem ixt_2 (a b c : D) (r : List D) : ixG (.tuple (a :: b :: c :: r)) (.int 2) = some (.d c) := ixt_get (k := 2) rfl
@[simp] theorem ixl_3 (a b c d : D) (r : List D) : ixG (.list (a :: b :: c :: d :: r)) (.int 3) = some (.d d) := ixl_get (k := 3) rfl
@[simp] theorem ixt_3 (a b c d : D) (r : List D) : ixG (.tuple (a :: b :: c :: d :: r)) (.int 3) = some (.d d) := ixt_get (k := 3) rfl
@[simp] theorem ixl_4 (a b c d e : D) (r : List D) : ixG (.list (a :: b :: c :: d :: e :: r)) (.int 4) = some (.d e) := ixl_get (k := 4) rfl
@[simp] theorem ixt_4 (a b c d e : D) (r : List D) : ixG (.tuple (a :: b :: c :: d :: e :: r)) (.int 4) = some (.d e) := ixt_get (k := 4) rfl
@[simp] theorem r_kvD_nil : kvD [] = [] := (rfl)
@[simp] theorem r_kvD_cons (k : Key) (v : D) (ks : List (Key × D)) : kvD ((k, v) :: ks) = (kD k, v) :: kvD ks := (rfl)
end
end DL

namespace CM
open PySem PySem.Spec PyProof.Rows L2 DL
def b__law_begin : SS := (retS (dispE [((conE (.str "cells")), (op2E addG (varE 0) (lstE (consA (escE (conE (.int 0))) nilA)))), ((conE (.str "at")), (conE (.int 0))), ((conE (.str "left")), (conE (.int 0))), ((conE (.str "used")), (conE (.int 0)))]))
def f__law_begin : SE := defE 1 1 b__law_begin
def b__law_mixed : SS := (seqS (setS 2 (op2E modG (op2E addG (op2E addG (op2E addG (op2E modG (varE 0) (conE (.int 1000000007))) (op2E mulG (op2E mulG (conE (.int 7919)) (varE 1)) (varE 1))) (op2E mulG (conE (.int 31)) (varE 1))) (conE (.int 7))) (conE (.int 2147483647)))) (seqS (setS 2 (op2E modG (op2E mulG (op2E modG (op2E mulG (varE 2) (varE 2)) (conE (.int 2147483647))) (varE 2)) (conE (.int 2147483629)))) (retS (op2E fdivG (op2E modG (op2E mulG (varE 2) (op2E addG (conE (.int 69621)) (op2E mulG (conE (.int 2)) (op2E modG (varE 1) (conE (.int 1000)))))) (conE (.int 2147483647))) (conE (.int 7))))))
def f__law_mixed : SE := defE 2 3 b__law_mixed
def i__law_next_1 : SS := (ifS (toB (op2E gtG (op2E ixG (varE 0) (conE (.str "left"))) (conE (.int 0)))) (seqS (setS 2 (op2E modG (op2E ixG (varE 0) (conE (.str "left"))) (varE 1))) (seqS (setIS (op2E fdivG (op2E ixG (varE 0) (conE (.str "left"))) (varE 1)) (varE 0) (conE (.str "left"))) (retS (varE 2)))) skipS)
def i__law_next_2 : SS := (ifS (andB (toB (op2E geG (varE 4) (op2E powG (conE (.int 10)) (conE (.int 18))))) (toB (op2E leG (op2E ixG (varE 0) (conE (.str "at"))) (callBE lenG (consA (pkE (varE 3)) nilA))))) (seqS (setIS (op2E fdivG (varE 4) (varE 1)) (varE 0) (conE (.str "left"))) (retS (op2E modG (varE 4) (varE 1)))) skipS)
def b__law_next : SS := (seqS i__law_next_1 (seqS (setS 3 (op2E ixG (varE 0) (conE (.str "cells")))) (seqS (setS 4 (op2E ixG (varE 3) (op2E modG (op2E ixG (varE 0) (conE (.str "at"))) (callBE lenG (consA (pkE (varE 3)) nilA))))) (seqS (setIS (op2E addG (op2E ixG (varE 0) (conE (.str "at"))) (conE (.int 1))) (varE 0) (conE (.str "at"))) (seqS i__law_next_2 (seqS (setIS (op2E addG (op2E ixG (varE 0) (conE (.str "used"))) (conE (.int 1))) (varE 0) (conE (.str "used"))) (retS (op2E modG (callE f__law_mixed 2 0 (pick [0, 1]) [] (consA (escE (callE f__law_mixed 2 0 (pick [0, 1]) [] (consA (escE (varE 4)) (consA (escE (op2E ixG (varE 0) (conE (.str "at")))) nilA)) nilA)) (consA (escE (op2E ixG (varE 0) (conE (.str "used")))) nilA)) nilA) (varE 1)))))))))
def f__law_next : SE := defE 2 5 b__law_next
def b__law_errand : SS := (seqS (setS 2 (lstE (consA (escE (op2E addG (conE (.int 1)) (callE f__law_next 2 0 (pick [0, 1]) [] (consA (pkE (varE 0)) (consA (escE (conE (.int 3))) nilA)) nilA))) (consA (escE (op2E addG (conE (.int 1)) (callE f__law_next 2 0 (pick [0, 1]) [] (consA (pkE (varE 0)) (consA (escE (varE 1)) nilA)) nilA))) (consA (escE (varE 1)) (consA (escE (op2E addG (conE (.int 1)) (callE f__law_next 2 0 (pick [0, 1]) [] (consA (pkE (varE 0)) (consA (escE (op2E mulG (conE (.int 3)) (varE 1))) nilA)) nilA))) nilA)))))) (retS (tupE (consA (escE (callE f__law_next 2 0 (pick [0, 1]) [] (consA (pkE (varE 0)) (consA (escE (varE 1)) nilA)) nilA)) (consA (escE (op2E ixG (varE 2) (callE f__law_next 2 0 (pick [0, 1]) [] (consA (pkE (varE 0)) (consA (escE (conE (.int 4))) nilA)) nilA))) nilA)))))
def f__law_errand : SE := defE 2 3 b__law_errand
def b__law_way_l1 : SS := (seqS (setS 5 (callBE min2G (consA (pkE (varE 3)) (consA (pkE (op2E addG (conE (.int 1)) (callE f__law_next 2 0 (pick [0, 1]) [] (consA (pkE (varE 0)) (consA (escE (varE 1)) nilA)) nilA))) nilA)))) (seqS (exprS (metE appG (varE 4) (consA (escE (tupE (consA (escE (op2E modG (op2E subG (op2E addG (varE 2) (varE 1)) (varE 3)) (varE 1))) (consA (escE (varE 5)) nilA)))) nilA))) (setS 3 (op2E subG (varE 3) (varE 5)))))
def w__law_way_l1 : SB := (toB (op2E gtG (varE 3) (conE (.int 0))))
def b__law_way : SS := (seqS (parS3 2 3 4 (callE f__law_next 2 0 (pick [0, 1]) [] (consA (pkE (varE 0)) (consA (escE (varE 1)) nilA)) nilA) (varE 1) (lstE nilA)) (seqS (whileS 1000000 w__law_way_l1 b__law_way_l1) (retS (varE 4))))
def f__law_way : SE := defE 2 6 b__law_way
def b__law_house_l1 : SS := (setS 5 (op2E addG (varE 5) (callE f__law_way 2 0 (pick [0, 1]) [] (consA (pkE (varE 0)) (consA (escE (varE 1)) nilA)) nilA)))
def i__law_house_1 : SS := (ifS (toB (op2E gtG (varE 3) (conE (.int 0)))) (forS (rng1S (consA (pkE (op2E addG (conE (.int 1)) (callE f__law_next 2 0 (pick [0, 1]) [] (consA (pkE (varE 0)) (consA (escE (conE (.int 4))) nilA)) nilA))) nilA)) (nameT 6) b__law_house_l1) skipS)
def b__law_house_l2 : SS := (exprS (metE appG (varE 5) (consA (escE (callE f__law_errand 2 0 (pick [0, 1]) [] (consA (pkE (varE 0)) (consA (escE (varE 1)) nilA)) nilA)) nilA)))
def i__law_house_2 : SS := (ifS (toB (op2E eqG (varE 3) (conE (.int 3)))) (exprS (metE popAtG (varE 5) (consA (escE (callE f__law_next 2 0 (pick [0, 1]) [] (consA (pkE (varE 0)) (consA (escE (callBE lenG (consA (pkE (varE 5)) nilA))) nilA)) nilA)) nilA))) skipS)
def i__law_house_3 : SS := (ifS (andB (toB (op2E neG (varE 5) (lstE nilA))) (toB (op2E eqG (callE f__law_next 2 0 (pick [0, 1]) [] (consA (pkE (varE 0)) (consA (escE (conE (.int 4))) nilA)) nilA) (conE (.int 0))))) (exprS (metE appG (varE 5) (consA (escE (op2E ixG (varE 5) (callE f__law_next 2 0 (pick [0, 1]) [] (consA (pkE (varE 0)) (consA (escE (callBE lenG (consA (pkE (varE 5)) nilA))) nilA)) nilA))) nilA))) skipS)
def b__law_house : SS := (seqS (parS3 3 4 5 (callE f__law_next 2 0 (pick [0, 1]) [] (consA (pkE (varE 0)) (consA (escE (conE (.int 4))) nilA)) nilA) (callE f__law_next 2 0 (pick [0, 1]) [] (consA (pkE (varE 0)) (consA (escE (varE 1)) nilA)) nilA) (lstE nilA)) (seqS i__law_house_1 (seqS (forS (rng1S (consA (pkE (op2E ixG (lstE (consA (escE (callE f__law_next 2 0 (pick [0, 1]) [] (consA (pkE (varE 0)) (consA (escE (conE (.int 5))) nilA)) nilA)) (consA (escE (conE (.int 0))) (consA (escE (conE (.int 1))) (consA (escE (conE (.int 0))) nilA))))) (varE 3))) nilA)) (nameT 6) b__law_house_l2) (seqS i__law_house_2 (seqS i__law_house_3 (seqS (setS 7 (callE f__law_next 2 0 (pick [0, 1]) [] (consA (pkE (varE 0)) (consA (escE (op2E addG (callBE lenG (consA (pkE (varE 5)) nilA)) (conE (.int 1)))) nilA)) nilA)) (retS (tupE (consA (escE (varE 1)) (consA (escE (varE 4)) (consA (escE (callBE tupleG (consA (pkE (sliceE (op2E addG (sliceE (varE 5) (isPart (varE 7)) noPart) (sliceE (varE 5) noPart (isPart (varE 7)))) noPart (isPart (varE 2)))) nilA))) nilA)))))))))))
def f__law_house : SE := defE 3 8 b__law_house
def b_is_number : SS := (retS (andV (isiE "int" (varE 0)) (notV (isiE "bool" (varE 0)))))
def f_is_number : SE := defE 1 1 b_is_number
def b_is_whole : SS := (retS (andV (callE f_is_number 1 0 (pick [0]) [] (consA (escE (varE 0)) nilA) nilA) (andV (op2E geG (varE 0) (varE 1)) (orV (op2E isG (varE 2) (conE .none)) (op2E leG (varE 0) (varE 2))))))
def f_is_whole : SE := defE 3 3 b_is_whole
def b_is_errand : SS := (seqS (ifS (orB (notB (toB (isiE "tuple" (varE 0)))) (toB (op2E neG (callBE lenG (consA (pkE (varE 0)) nilA)) (conE (.int 2))))) (retS (conE (.bool false))) skipS) (seqS (unpS (tupT 2 (consT (nameT 2) (consT (nameT 3) nilT))) (varE 0)) (retS (andV (callE f_is_whole 1 1 (pick [0, 2, 1]) [.int 0] (consA (escE (varE 2)) nilA) (consA (escE (op2E subG (varE 1) (conE (.int 1)))) nilA)) (callE f_is_whole 1 2 (pick [0, 1, 2]) [] (consA (escE (varE 3)) nilA) (consA (escE (conE (.int 1))) (consA (escE (op2E mulG (conE (.int 3)) (varE 1))) nilA)))))))
def f_is_errand : SE := defE 2 4 b_is_errand
def i_faults_of_1 : SS := (ifS (orB (notB (toB (isiE "tuple" (varE 0)))) (toB (op2E neG (callBE lenG (consA (pkE (varE 0)) nilA)) (conE (.int 3))))) (retS (lstE (consA (escE (conE .none)) nilA))) skipS)
def i_faults_of_2 : SS := (ifS (notB (toB (callE f_is_whole 1 2 (pick [0, 1, 2]) [] (consA (escE (varE 1)) nilA) (consA (escE (conE (.int 2))) (consA (escE (conE (.int 16))) nilA))))) (retS (lstE (consA (escE (conE (.str "floors"))) nilA))) skipS)
def i_faults_of_3 : SS := (ifS (notB (toB (callE f_is_whole 1 1 (pick [0, 2, 1]) [.int 0] (consA (escE (varE 2)) nilA) (consA (escE (op2E subG (varE 1) (conE (.int 1)))) nilA)))) (retS (lstE (consA (escE (conE (.str "start"))) nilA))) skipS)
def i_faults_of_4 : SS := (ifS (orB (notB (toB (isiE "tuple" (varE 3)))) (toB (op2E gtG (callBE lenG (consA (pkE (varE 3)) nilA)) (conE (.int 40))))) (retS (lstE (consA (escE (conE (.str "errands"))) nilA))) skipS)
def c_faults_of_1 : SE := (lcE [4, 5] (enumS 0 (varE 3)) (tupT 2 (consT (nameT 4) (consT (nameT 5) nilT))) (notB (toB (callE f_is_errand 1 1 (pick [0, 1]) [] (consA (escE (varE 5)) nilA) (consA (escE (varE 1)) nilA)))) (varE 4))
def b_faults_of : SS := (seqS i_faults_of_1 (seqS (unpS (tupT 3 (consT (nameT 1) (consT (nameT 2) (consT (nameT 3) nilT)))) (varE 0)) (seqS i_faults_of_2 (seqS i_faults_of_3 (seqS i_faults_of_4 (retS (sliceE c_faults_of_1 noPart (isPart (conE (.int 1))))))))))
def f_faults_of : SE := defE 1 6 b_faults_of
def b_need_house_l1 : SS := (raiseF "BadHouse" ["place"] [] (consA (escE (varE 1)) nilA))
def b_need_house : SS := (forS (datS (callE f_faults_of 1 0 (pick [0]) [] (consA (escE (varE 0)) nilA) nilA)) (nameT 1) b_need_house_l1)
def f_need_house : SE := defE 1 2 b_need_house
def b_end_of : SS := (seqS (unpS (tupT 2 (consT (nameT 2) (consT (nameT 3) nilT))) (varE 1)) (retS (op2E modG (op2E addG (varE 2) (varE 3)) (varE 0))))
def f_end_of : SE := defE 2 4 b_end_of
def c_own_ends_1 : SE := (lcE [4] (datS (varE 3)) (nameT 4) yesB (callE f_end_of 2 0 (pick [0, 1]) [] (consA (escE (varE 1)) (consA (escE (varE 4)) nilA)) nilA))
def b_own_ends : SS := (seqS (unpS (tupT 3 (consT (nameT 1) (consT (nameT 2) (consT (nameT 3) nilT)))) (varE 0)) (retS (callBE tupleG (consA (pkE c_own_ends_1) nilA))))
def f_own_ends : SE := defE 1 5 b_own_ends
def b_ends : SS := (seqS (exprS (callE f_need_house 1 0 (pick [0]) [] (consA (escE (varE 0)) nilA) nilA)) (retS (callE f_own_ends 1 0 (pick [0]) [] (consA (escE (varE 0)) nilA) nilA)))
def f_ends : SE := defE 1 1 b_ends
def i_need_own_number_1 : SS := (ifS (notB (toB (callE f_is_whole 1 1 (pick [0, 2, 1]) [.int 0] (consA (escE (varE 1)) nilA) (consA (escE (op2E subG (callBE lenG (consA (pkE (op2E ixG (varE 0) (conE (.int 2)))) nilA)) (conE (.int 1)))) nilA)))) (raiseF "BadNumber" ["about"] [] (consA (escE (varE 1)) nilA)) skipS)
def b_need_own_number : SS := i_need_own_number_1
def f_need_own_number : SE := defE 2 2 b_need_own_number
def c_over_1 : SE := (lcE [6] (rng1S (consA (pkE (varE 0)) nilA)) (nameT 6) yesB (op2E addG (varE 4) (callBE intG (consA (pkE (op2E ltG (op2E modG (op2E subG (varE 6) (varE 2)) (varE 0)) (varE 5))) nilA))))
def b_over : SS := (seqS (unpS (tupT 2 (consT (nameT 2) (consT (nameT 3) nilT))) (varE 1)) (seqS (unpS (tupT 2 (consT (nameT 4) (consT (nameT 5) nilT))) (callBE divmodG (consA (pkE (varE 3)) (consA (pkE (varE 0)) nilA)))) (retS (callBE tupleG (consA (pkE c_over_1) nilA)))))
def f_over : SE := defE 2 7 b_over
def b_lies_over : SS := (seqS (exprS (callE f_need_house 1 0 (pick [0]) [] (consA (escE (varE 0)) nilA) nilA)) (seqS (exprS (callE f_need_own_number 2 0 (pick [0, 1]) [] (consA (escE (varE 0)) (consA (escE (varE 1)) nilA)) nilA)) (retS (callE f_over 2 0 (pick [0, 1]) [] (consA (escE (op2E ixG (varE 0) (conE (.int 0)))) (consA (escE (op2E ixG (op2E ixG (varE 0) (conE (.int 2))) (varE 1))) nilA)) nilA))))
def f_lies_over : SE := defE 2 2 b_lies_over
def c_own_loads_1 : SE := (lcE [6, 7] (zipSS true (varE 4) (callE f_over 2 0 (pick [0, 1]) [] (consA (escE (varE 1)) (consA (escE (varE 5)) nilA)) nilA)) (tupT 2 (consT (nameT 6) (consT (nameT 7) nilT))) yesB (op2E addG (varE 6) (varE 7)))
def b_own_loads_l1 : SS := (setS 4 c_own_loads_1)
def b_own_loads : SS := (seqS (unpS (tupT 3 (consT (nameT 1) (consT (nameT 2) (consT (nameT 3) nilT)))) (varE 0)) (seqS (setS 4 (mulNE (lstE (consA (escE (conE (.int 0))) nilA)) (varE 1))) (seqS (forS (datS (varE 3)) (nameT 5) b_own_loads_l1) (retS (callBE tupleG (consA (pkE (varE 4)) nilA))))))
def f_own_loads : SE := defE 1 8 b_own_loads
def b_loads : SS := (seqS (exprS (callE f_need_house 1 0 (pick [0]) [] (consA (escE (varE 0)) nilA) nilA)) (retS (callE f_own_loads 1 0 (pick [0]) [] (consA (escE (varE 0)) nilA) nilA)))
def f_loads : SE := defE 1 1 b_loads
def b_greatest : SS := (seqS (exprS (callE f_need_house 1 0 (pick [0]) [] (consA (escE (varE 0)) nilA) nilA)) (retS (callBE maxGB (consA (pkE (callE f_own_loads 1 0 (pick [0]) [] (consA (escE (varE 0)) nilA) nilA)) nilA))))
def f_greatest : SE := defE 1 1 b_greatest
end CM

namespace CM
open PySem PySem.Spec PyProof.Rows L2 DL
def i_need_own_floor_1 : SS := (ifS (notB (toB (callE f_is_whole 1 1 (pick [0, 2, 1]) [.int 0] (consA (escE (varE 1)) nilA) (consA (escE (op2E subG (op2E ixG (varE 0) (conE (.int 0))) (conE (.int 1)))) nilA)))) (raiseF "BadNumber" ["about"] [] (consA (escE (varE 1)) nilA)) skipS)
def b_need_own_floor : SS := i_need_own_floor_1
def f_need_own_floor : SE := defE 2 2 b_need_own_floor
def b_started : SS := (seqS (exprS (callE f_need_house 1 0 (pick [0]) [] (consA (escE (varE 0)) nilA) nilA)) (seqS (exprS (callE f_need_own_floor 2 0 (pick [0, 1]) [] (consA (escE (varE 0)) (consA (escE (varE 1)) nilA)) nilA)) (seqS (unpS (tupT 3 (consT (nameT 2) (consT (nameT 3) (consT (nameT 4) nilT)))) (varE 0)) (retS (tupE (consA (escE (varE 2)) (consA (escE (varE 1)) (consA (escE (varE 4)) nilA))))))))
def f_started : SE := defE 2 5 b_started
def c_rolled_1 : SE := (lcE [6, 7] (datS (varE 4)) (tupT 2 (consT (nameT 6) (consT (nameT 7) nilT))) yesB (tupE (consA (escE (op2E modG (op2E addG (varE 6) (varE 1)) (varE 2))) (consA (escE (varE 7)) nilA))))
def b_rolled : SS := (seqS (exprS (callE f_need_house 1 0 (pick [0]) [] (consA (escE (varE 0)) nilA) nilA)) (seqS (ifS (notB (toB (callE f_is_number 1 0 (pick [0]) [] (consA (escE (varE 1)) nilA) nilA))) (raiseF "BadNumber" ["about"] [] (consA (escE (varE 1)) nilA)) skipS) (seqS (unpS (tupT 3 (consT (nameT 2) (consT (nameT 3) (consT (nameT 4) nilT)))) (varE 0)) (seqS (setS 5 (callBE tupleG (consA (pkE c_rolled_1) nilA))) (retS (tupE (consA (escE (varE 2)) (consA (escE (op2E modG (op2E addG (varE 3) (varE 1)) (varE 2))) (consA (escE (varE 5)) nilA)))))))))
def f_rolled : SE := defE 2 8 b_rolled
def i_need_own_errand_1 : SS := (ifS (notB (toB (callE f_is_errand 1 1 (pick [0, 1]) [] (consA (escE (varE 1)) nilA) (consA (escE (op2E ixG (varE 0) (conE (.int 0)))) nilA)))) (raise0 "BadErrand" (consA (escE (conE (.str "an errand is wanted"))) nilA)) skipS)
def b_need_own_errand : SS := i_need_own_errand_1
def f_need_own_errand : SE := defE 2 2 b_need_own_errand
def i_need_room_1 : SS := (ifS (toB (op2E eqG (callBE lenG (consA (pkE (op2E ixG (varE 0) (conE (.int 2)))) nilA)) (conE (.int 40)))) (raiseF "TooMany" ["most"] [] (consA (escE (conE (.int 40))) nilA)) skipS)
def b_need_room : SS := i_need_room_1
def f_need_room : SE := defE 1 1 b_need_room
def b_with_errand : SS := (seqS (exprS (callE f_need_house 1 0 (pick [0]) [] (consA (escE (varE 0)) nilA) nilA)) (seqS (exprS (callE f_need_own_errand 2 0 (pick [0, 1]) [] (consA (escE (varE 0)) (consA (escE (varE 1)) nilA)) nilA)) (seqS (exprS (callE f_need_room 1 0 (pick [0]) [] (consA (escE (varE 0)) nilA) nilA)) (seqS (unpS (tupT 3 (consT (nameT 2) (consT (nameT 3) (consT (nameT 4) nilT)))) (varE 0)) (retS (tupE (consA (escE (varE 2)) (consA (escE (varE 3)) (consA (escE (op2E addG (varE 4) (tupE (consA (escE (varE 1)) nilA)))) nilA)))))))))
def f_with_errand : SE := defE 2 5 b_with_errand
def b_without : SS := (seqS (exprS (callE f_need_house 1 0 (pick [0]) [] (consA (escE (varE 0)) nilA) nilA)) (seqS (exprS (callE f_need_own_number 2 0 (pick [0, 1]) [] (consA (escE (varE 0)) (consA (escE (varE 1)) nilA)) nilA)) (seqS (unpS (tupT 3 (consT (nameT 2) (consT (nameT 3) (consT (nameT 4) nilT)))) (varE 0)) (retS (tupE (consA (escE (varE 2)) (consA (escE (varE 3)) (consA (escE (op2E addG (sliceE (varE 4) noPart (isPart (varE 1))) (sliceE (varE 4) (isPart (op2E addG (varE 1) (conE (.int 1)))) noPart))) nilA))))))))
def f_without : SE := defE 2 5 b_without
def b_is_house : SS := (retS (op2E eqG (callE f_faults_of 1 0 (pick [0]) [] (consA (escE (varE 0)) nilA) nilA) (lstE nilA)))
def f_is_house : SE := defE 1 1 b_is_house
end CM

namespace CM
open PySem PySem.Spec PyProof.Rows L2 DL
def i_walked_1 : SS := (ifS (orB (notB (toB (callE f_is_whole 1 1 (pick [0, 2, 1]) [.int 0] (consA (escE (varE 9)) nilA) (consA (escE (op2E subG (callBE lenG (consA (pkE (varE 4)) nilA)) (conE (.int 1)))) nilA)))) (orB (toB (op2E inG (varE 9) (varE 6))) (toB (op2E neG (op2E ixG (op2E ixG (varE 4) (varE 9)) (conE (.int 0))) (varE 3))))) (raiseF "BadRide" ["number"] [] (consA (escE (varE 8)) nilA)) skipS)
def i_walked_2 : SS := (ifS (toB (op2E isnG (varE 9) (conE .none))) (seqS i_walked_1 (parNS 10 6 9 (tupE (consA (escE (op2E ixG (op2E ixG (varE 4) (varE 9)) (conE (.int 1)))) (consA (escE (varE 7)) nilA))))) skipS)
def b_walked_l1 : SS := (seqS (setS 10 (conE (.int 1))) (seqS i_walked_2 (seqS (parS2 3 7 (op2E modG (op2E addG (varE 3) (varE 10)) (varE 2)) (op2E addG (varE 7) (varE 10))) (exprS (metE appG (varE 5) (consA (escE (varE 3)) nilA))))))
def b_walked : SS := (seqS (unpS (tupT 3 (consT (nameT 2) (consT (nameT 3) (consT (nameT 4) nilT)))) (varE 0)) (seqS (parS3 5 6 7 (lstE (consA (escE (varE 3)) nilA)) (pureE (.nM [])) (conE (.int 0))) (seqS (forS (enumS 0 (varE 1)) (tupT 2 (consT (nameT 8) (consT (nameT 9) nilT))) b_walked_l1) (retS (tupE (consA (escE (varE 5)) (consA (escE (varE 6)) (consA (escE (varE 7)) nilA))))))))
def f_walked : SE := defE 2 11 b_walked
def i_need_own_ride_1 : SS := (ifS (orB (toB (op2E ltG (callBE lenDG (consA (pkE (varE 3)) nilA)) (callBE lenG (consA (pkE (op2E ixG (varE 0) (conE (.int 2)))) nilA)))) (toB (op2E neG (op2E ixG (varE 2) (op1E negG (conE (.int 1)))) (op2E ixG (varE 0) (conE (.int 1)))))) (raiseF "BadRide" ["number"] [] (consA (escE (callBE lenG (consA (pkE (varE 1)) nilA))) nilA)) skipS)
def b_need_own_ride : SS := (seqS (ifS (notB (toB (isiE "tuple" (varE 1)))) (raiseF "BadRide" ["number"] [.none] nilA) skipS) (seqS (unpS (tupT 3 (consT (nameT 2) (consT (nameT 3) (consT (nameT 4) nilT)))) (callE f_walked 2 0 (pick [0, 1]) [] (consA (escE (varE 0)) (consA (escE (varE 1)) nilA)) nilA)) (seqS i_need_own_ride_1 (retS (tupE (consA (escE (varE 2)) (consA (escE (varE 3)) (consA (escE (varE 4)) nilA))))))))
def f_need_own_ride : SE := defE 2 5 b_need_own_ride
def b_ride_walked : SS := (seqS (exprS (callE f_need_house 1 0 (pick [0]) [] (consA (escE (varE 0)) nilA) nilA)) (retS (callE f_need_own_ride 2 0 (pick [0, 1]) [] (consA (escE (varE 0)) (consA (escE (varE 1)) nilA)) nilA)))
def f_ride_walked : SE := defE 2 2 b_ride_walked
def b_rounds_of : SS := (seqS (unpS (tupT 3 (consT (nameT 2) (consT (nameT 3) (consT (nameT 4) nilT)))) (callE f_ride_walked 2 0 (pick [0, 1]) [] (consA (escE (varE 0)) (consA (escE (varE 1)) nilA)) nilA)) (retS (op2E fdivG (varE 4) (op2E ixG (varE 0) (conE (.int 0))))))
def f_rounds_of : SE := defE 2 5 b_rounds_of
def b_halts : SS := (retS (callBE tupleG (consA (pkE (op2E ixG (callE f_ride_walked 2 0 (pick [0, 1]) [] (consA (escE (varE 0)) (consA (escE (varE 1)) nilA)) nilA) (conE (.int 0)))) nilA)))
def f_halts : SE := defE 2 2 b_halts
def c_taken_at_1 : SE := (lcE [3] (rng1S (consA (pkE (callBE lenG (consA (pkE (op2E ixG (varE 0) (conE (.int 2)))) nilA))) nilA)) (nameT 3) yesB (op2E ixG (varE 2) (varE 3)))
def b_taken_at : SS := (seqS (setS 2 (op2E ixG (callE f_ride_walked 2 0 (pick [0, 1]) [] (consA (escE (varE 0)) (consA (escE (varE 1)) nilA)) nilA) (conE (.int 1)))) (retS (callBE tupleG (consA (pkE c_taken_at_1) nilA))))
def f_taken_at : SE := defE 2 4 b_taken_at
def c_order_of_1 : SE := (lcE [2] (datS (varE 1)) (nameT 2) (toB (op2E isnG (varE 2) (conE .none))) (varE 2))
def b_order_of : SS := (seqS (exprS (callE f_ride_walked 2 0 (pick [0, 1]) [] (consA (escE (varE 0)) (consA (escE (varE 1)) nilA)) nilA)) (retS (callBE tupleG (consA (pkE c_order_of_1) nilA))))
def f_order_of : SE := defE 2 3 b_order_of
def b__law_loads_l1 : SS := (seqS (setS 5 (op2E modG (op2E addG (varE 2) (varE 4)) (op2E ixG (varE 0) (conE (.int 0))))) (setIS (op2E addG (op2E ixG (varE 1) (varE 5)) (conE (.int 1))) (varE 1) (varE 5)))
def b__law_loads_l2 : SS := (forS (rng1S (consA (pkE (varE 3)) nilA)) (nameT 4) b__law_loads_l1)
def b__law_loads : SS := (seqS (setS 1 (mulNE (lstE (consA (escE (conE (.int 0))) nilA)) (op2E ixG (varE 0) (conE (.int 0))))) (seqS (forS (datS (op2E ixG (varE 0) (conE (.int 2)))) (tupT 2 (consT (nameT 2) (consT (nameT 3) nilT))) b__law_loads_l2) (retS (varE 1))))
def f__law_loads : SE := defE 1 6 b__law_loads
def c__law_there_1 : SE := (lcE [4] (datS (varE 3)) (nameT 4) (toB (op2E eqG (op2E ixG (op2E ixG (op2E ixG (varE 0) (conE (.int 2))) (varE 4)) (conE (.int 0))) (varE 1))) (varE 4))
def b__law_there : SS := (retS (op2E addG (mulNE (lstE (consA (escE (conE .none)) nilA)) (callBE intG (consA (pkE (op2E gtG (op2E ixG (varE 2) (varE 1)) (conE (.int 0)))) nilA))) c__law_there_1))
def f__law_there : SE := defE 4 5 b__law_there
def i__law_behind_1 : SS := (ifS (toB (op2E isG (varE 4) (conE .none))) (seqS (setS 5 (op2E addG (op2E addG (sliceE (varE 2) noPart (isPart (varE 1))) (tupE (consA (escE (op2E subG (op2E ixG (varE 2) (varE 1)) (conE (.int 1)))) nilA))) (sliceE (varE 2) (isPart (op2E addG (varE 1) (conE (.int 1)))) noPart))) (retS (tupE (consA (escE (op2E modG (op2E addG (varE 1) (conE (.int 1))) (op2E ixG (varE 0) (conE (.int 0))))) (consA (escE (varE 5)) (consA (escE (varE 3)) nilA)))))) skipS)
def c__law_behind_1 : SE := (lcE [7] (datS (varE 3)) (nameT 7) (toB (op2E neG (varE 7) (varE 4))) (varE 7))
def b__law_behind : SS := (seqS i__law_behind_1 (seqS (setS 6 (callBE tupleG (consA (pkE c__law_behind_1) nilA))) (retS (tupE (consA (escE (op2E modG (callBE sumGB (consA (pkE (op2E ixG (op2E ixG (varE 0) (conE (.int 2))) (varE 4))) nilA)) (op2E ixG (varE 0) (conE (.int 0))))) (consA (escE (varE 2)) (consA (escE (varE 6)) nilA)))))))
def f__law_behind : SE := defE 5 8 b__law_behind
def c__law_hangs_1 : SE := (lcE [9] (rng1S (consA (pkE (varE 3)) nilA)) (nameT 9) (toB (op2E gtG (op2E ixG (varE 1) (varE 9)) (conE (.int 0)))) (tupE (consA (escE (varE 9)) (consA (escE (op2E modG (op2E addG (varE 9) (conE (.int 1))) (varE 3))) nilA))))
def c__law_hangs_2 : SE := (lcE [10] (datS (varE 2)) (nameT 10) yesB (tupE (consA (escE (op2E ixG (op2E ixG (op2E ixG (varE 0) (conE (.int 2))) (varE 10)) (conE (.int 0)))) (consA (escE (op2E modG (callBE sumGB (consA (pkE (op2E ixG (op2E ixG (varE 0) (conE (.int 2))) (varE 10))) nilA)) (varE 3))) nilA))))
def i__law_hangs_1 : SS := (ifS (toB (op2E neG (op2E inG (varE 7) (varE 4)) (op2E inG (varE 8) (varE 4)))) (setS 4 (op2E addG (varE 4) (lstE (consA (escE (varE 7)) (consA (escE (varE 8)) nilA))))) skipS)
def b__law_hangs_l1 : SS := i__law_hangs_1
def b__law_hangs_l2 : SS := (seqS (setS 5 (callBE lenG (consA (pkE (varE 4)) nilA))) (forS (datS (varE 6)) (tupT 2 (consT (nameT 7) (consT (nameT 8) nilT))) b__law_hangs_l1))
def w__law_hangs_l2 : SB := (toB (op2E gtG (callBE lenG (consA (pkE (varE 4)) nilA)) (varE 5)))
def c__law_hangs_3 : SE := (lcE [7, 8] (datS (varE 6)) (tupT 2 (consT (nameT 7) (consT (nameT 8) nilT))) yesB (op2E inG (varE 7) (varE 4)))
def b__law_hangs : SS := (seqS (parS3 3 4 5 (op2E ixG (varE 0) (conE (.int 0))) (lstE (consA (escE (op2E ixG (varE 0) (conE (.int 1)))) nilA)) (conE (.int 0))) (seqS (setS 6 c__law_hangs_1) (seqS (setS 6 (op2E addG (varE 6) c__law_hangs_2)) (seqS (whileS 1000000 w__law_hangs_l2 b__law_hangs_l2) (retS (callBE allGB (consA (pkE c__law_hangs_3) nilA)))))))
def f__law_hangs : SE := defE 3 11 b__law_hangs
def c__law_ride_1 : SE := (lcE [10] (datS (callE f__law_loads 1 0 (pick [0]) [] (consA (escE (varE 1)) nilA) nilA)) (nameT 10) yesB (op2E subG (varE 2) (varE 10)))
def i__law_ride_1 : SS := (ifS (andB (toB (op2E gtG (callBE lenG (consA (pkE (varE 7)) nilA)) (conE (.int 1)))) (notB (toB (callE f__law_hangs 3 0 (pick [0, 1, 2]) [] (consA (escE (varE 1)) (consA (escE (op2E ixG (varE 9) (conE (.int 1)))) (consA (escE (op2E ixG (varE 9) (conE (.int 2)))) nilA))) nilA)))) (seqS (setS 8 (op2E subG (varE 8) (conE (.int 1)))) (setS 9 (callE f__law_behind 5 0 (pick [0, 1, 2, 3, 4]) [] (consA (escE (varE 1)) (consA (escE (varE 3)) (consA (escE (varE 6)) (consA (escE (varE 4)) (consA (escE (op2E ixG (varE 7) (varE 8))) nilA))))) nilA))) skipS)
def b__law_ride_l1 : SS := (seqS (setS 8 (callE f__law_next 2 0 (pick [0, 1]) [] (consA (pkE (varE 0)) (consA (escE (callBE lenG (consA (pkE (varE 7)) nilA))) nilA)) nilA)) (seqS (setS 9 (callE f__law_behind 5 0 (pick [0, 1, 2, 3, 4]) [] (consA (escE (varE 1)) (consA (escE (varE 3)) (consA (escE (varE 6)) (consA (escE (varE 4)) (consA (escE (op2E ixG (varE 7) (varE 8))) nilA))))) nilA)) (seqS i__law_ride_1 (seqS (exprS (metE appG (varE 5) (consA (escE (op2E ixG (varE 7) (varE 8))) nilA))) (seqS (unpS (tupT 3 (consT (nameT 3) (consT (nameT 6) (consT (nameT 4) nilT)))) (varE 9)) (setS 7 (callE f__law_there 4 0 (pick [0, 1, 2, 3]) [] (consA (escE (varE 1)) (consA (escE (varE 3)) (consA (escE (varE 6)) (consA (escE (varE 4)) nilA)))) nilA)))))))
def w__law_ride_l1 : SB := (toB (op2E neG (varE 7) (lstE nilA)))
def b__law_ride : SS := (seqS (parS3 3 4 5 (op2E ixG (varE 1) (conE (.int 1))) (op1E rangeG (callBE lenG (consA (pkE (op2E ixG (varE 1) (conE (.int 2)))) nilA))) (lstE nilA)) (seqS (setS 6 (callBE tupleG (consA (pkE c__law_ride_1) nilA))) (seqS (setS 7 (callE f__law_there 4 0 (pick [0, 1, 2, 3]) [] (consA (escE (varE 1)) (consA (escE (varE 3)) (consA (escE (varE 6)) (consA (escE (varE 4)) nilA)))) nilA)) (seqS (whileS 1000000 w__law_ride_l1 b__law_ride_l1) (retS (ifE (andB (toB (op2E eqG (varE 4) (tupE nilA))) (andB (toB (op2E eqG (callBE sumGB (consA (pkE (varE 6)) nilA)) (conE (.int 0)))) (toB (op2E eqG (varE 3) (op2E ixG (varE 1) (conE (.int 1))))))) (callBE tupleG (consA (pkE (varE 5)) nilA)) (conE .none)))))))
def f__law_ride : SE := defE 3 11 b__law_ride
def i__law_waits_1 : SS := (ifS (orB (notB (toB (isiE "int" (varE 3)))) (orB (toB (isiE "bool" (varE 3))) (notB (toB (chainE leG ltG (conE (.int 0)) (varE 3) (callBE lenG (consA (pkE (op2E ixG (varE 0) (conE (.int 2)))) nilA))))))) (retS (conE (.bool false))) skipS)
def b__law_waits : SS := (seqS i__law_waits_1 (retS (andV (op2E notInG (varE 3) (varE 1)) (op2E eqG (op2E ixG (op2E ixG (op2E ixG (varE 0) (conE (.int 2))) (varE 3)) (conE (.int 0))) (varE 2)))))
def f__law_waits : SE := defE 4 4 b__law_waits
def i__law_gone_1 : SS := (ifS (andB (toB (op2E isnG (varE 8) (conE .none))) (notB (toB (callE f__law_waits 4 0 (pick [0, 1, 2, 3]) [] (consA (escE (varE 0)) (consA (pkE (varE 6)) (consA (escE (varE 3)) (consA (escE (varE 8)) nilA)))) nilA)))) (retS (tupE (consA (escE (varE 5)) (consA (escE (varE 6)) (consA (escE (varE 4)) (consA (escE (varE 7)) nilA)))))) skipS)
def i__law_gone_2 : SS := (ifS (toB (op2E isnG (varE 8) (conE .none))) (seqS (setS 9 (op2E ixG (op2E ixG (op2E ixG (varE 0) (conE (.int 2))) (varE 8)) (conE (.int 1)))) (setIS (varE 4) (varE 6) (varE 8))) skipS)
def b__law_gone_l1 : SS := (seqS i__law_gone_1 (seqS (setS 9 (conE (.int 1))) (seqS i__law_gone_2 (seqS (parS2 3 4 (op2E modG (op2E addG (varE 3) (varE 9)) (varE 2)) (op2E addG (varE 4) (varE 9))) (exprS (metE appG (varE 5) (consA (escE (varE 3)) nilA)))))))
def b__law_gone : SS := (seqS (parS3 2 3 4 (op2E ixG (varE 0) (conE (.int 0))) (op2E ixG (varE 0) (conE (.int 1))) (conE (.int 0))) (seqS (parS2 5 6 (lstE (consA (escE (varE 3)) nilA)) (pureE (.nM []))) (seqS (forS (enumS 0 (varE 1)) (tupT 2 (consT (nameT 7) (consT (nameT 8) nilT))) b__law_gone_l1) (retS (tupE (consA (escE (varE 5)) (consA (escE (varE 6)) (consA (escE (varE 4)) (consA (escE (conE .none)) nilA)))))))))
def f__law_gone : SE := defE 2 10 b__law_gone
end CM

set_option maxHeartbeats 1000000
namespace DL
open PySem PySem.Spec PyProof.Rows L2
/-! ### running `x, d[k] = a, b`, len of a dict, reversal, tuple(range(..)), dicts with int keys -/
section
variable {γ : Type} {δ : List SV}
def onPair (x : D) (k : D → D → Option γ) : Option γ := match x with
  | .tuple [a, b] => k a b
  | _ => none
@[simp] theorem onPair_t (a b : D) (k : D → D → Option γ) : onPair (.tuple [a, b]) k = k a b := (rfl)
@[simp] theorem r_parNS (i j l : Nat) (f : SE) : parNS i j l f δ = onE (escE f δ) (fun r δ => onR r fun x => onPair x fun a b => nxO (subT j l b (δ.set i (.d a)))) exS := by
  unfold parNS
  rw [r_bindS]
  congr 1
  funext r δ
  cases r with
  | d x =>
    cases x with
    | tuple us =>
      match us with
      | [] => rfl
      | [_] => rfl
      | [a, b] =>
        show (subT j l b (δ.set i (.d a))).map _ = nxO (subT j l b (δ.set i (.d a)))
        cases subT j l b (δ.set i (.d a)) <;> rfl
      | _ :: _ :: _ :: _ => rfl
    | _ => rfl
  | _ => rfl
theorem subT_M {j l n : Nat} {ks : List (Key × D)} {y : D} {i : Int} (h1 : δ[j]? = some (.M n ks)) (h2 : δ[l]? = some (.d (.int i))) (h3 : ks.length < sizeLine) : subT j l y δ = some (δ.set j (.M n (putD ks (.inl i) y))) := by
  unfold subT
  rw [h1, h2]
  show (keyD (.int i)).bind _ = _
  rw [show keyD (.int i) = some (.inl i) from rfl, Option.bind_some, if_pos h3]
@[simp] theorem r_lenD (ks : List (Key × D)) : lenDG [.dict (kvD ks)] = some (.d (.int ks.length)) := by
  show (if isOpq (kvD ks) = false then _ else _) = _
  rw [if_pos (show isOpq (kvD ks) = false from isOpq_kv ks)]
  simp [kvD]
@[simp] theorem r_revT (xs : List D) : revTG (.tuple xs) = some (.d (.tuple xs.reverse)) := (rfl)
@[simp] theorem r_revL (xs : List D) : revG (.list xs) = some (.nL xs.reverse) := (rfl)
theorem r_rangeT {n : Nat} (h : n ≤ 1000000) : rangeG (.int (n : Int)) = some (.d (.tuple (rngD 0 n))) := by
  show (if (0 : Int) ≤ n ∧ (n : Int) ≤ 1000000 then _ else _) = _
  rw [if_pos ⟨by omega, by omega⟩, Int.toNat_natCast]
theorem in_kv (ks : List (Key × D)) (i : Int) : inG (.int i) (.dict (kvD ks)) = some (.d (.bool (valD ks (.inl i)).isSome)) := by
  have e : inK false (.int i) (.dict (kvD ks)) = some (.d (.bool (valD ks (.inl i)).isSome)) := by
    show (if isOpq (kvD ks) = true then none else (keyD (.int i)).map _) = _
    rw [if_neg (by rw [show isOpq (kvD ks) = false from isOpq_kv ks]; decide)]
    show some (Res.d (.bool (lookD (kvD ks) (.inl i)).isSome)) = _
    rw [lookD_kv]
  unfold inG
  rw [e]
  rfl
theorem nin_kv (ks : List (Key × D)) (i : Int) : notInG (.int i) (.dict (kvD ks)) = some (.d (.bool !(valD ks (.inl i)).isSome)) := by
  have e : inK true (.int i) (.dict (kvD ks)) = some (.d (.bool !(valD ks (.inl i)).isSome)) := by
    show (if isOpq (kvD ks) = true then none else (keyD (.int i)).map _) = _
    rw [if_neg (by rw [show isOpq (kvD ks) = false from isOpq_kv ks]; decide)]
    show some (Res.d (.bool !(lookD (kvD ks) (.inl i)).isSome)) = _
    rw [lookD_kv]
  unfold notInG
  rw [e]
  rfl
theorem ix_kv {ks : List (Key × D)} {i : Int} {v : D} (h : valD ks (.inl i) = some v) : ixG (.dict (kvD ks)) (.int i) = some (.d v) := by
  have e : ixK (.dict (kvD ks)) (.int i) = some (.d v) := by
    show (if isOpq (kvD ks) = true then none else (keyD (.int i)).bind fun k => (lookD (kvD ks) k).map Res.d) = _
    rw [if_neg (by rw [show isOpq (kvD ks) = false from isOpq_kv ks]; decide)]
    show (lookD (kvD ks) (.inl i)).map Res.d = _
    rw [lookD_kv, h]
    rfl
  unfold ixG
  rw [e]
  rfl
end
end DL

set_option maxHeartbeats 1000000
namespace CP
open PySem PySem.Spec PyProof.Rows L2 DL CM
/-! ### comprehensions, loops: by what an item is -/
theorem lcGo_fil {α : Type} {vs : List Nat} {t : STg} {tt : SB} {te : SE} {δ : List SV} (enc : α → D) (p : α → Bool) (g : α → D) : ∀ (xs : List α) (acc : List D), acc.length + xs.length < 1000000 →
    (∀ x ∈ xs, ∃ δ1, t (enc x) (wipeD vs δ) = some δ1 ∧ backD vs δ δ1 = δ ∧ tt δ1 = some (.ok (p x) δ1) ∧ (p x = true → escE te δ1 = some (.ok (.d (g x)) δ1))) → lcGo vs t tt te (xs.map enc) acc δ = some (.ok (acc ++ (xs.filter p).map g) δ)
  | [], acc, _, _ => by simp [lcGo, pureE]
  | x :: r, acc, hl, h => by
    obtain ⟨δ1, h1, h2, h3, h4⟩ := h x (List.mem_cons_self ..)
    have hl' : acc.length + (r.length + 1) < 1000000 := hl
    have hs : acc.length < sizeLine := Nat.lt_of_lt_of_le (by omega) size_big
    cases hp : p x with
    | false =>
      rw [hp] at h3
      have ih := lcGo_fil enc p g r acc (by omega) fun y hy => h y (List.mem_cons_of_mem _ hy)
      simp only [List.map_cons, lcGo, h1, h3, h2]
      rw [ih, List.filter_cons_of_neg (by simp [hp])]
    | true =>
      rw [hp] at h3
      have ih := lcGo_fil enc p g r (acc ++ [g x]) (by simp; omega) fun y hy => h y (List.mem_cons_of_mem _ hy)
      simp only [List.map_cons, lcGo, h1, h3, h4 hp, h2, hs, if_true]
      rw [ih, List.filter_cons_of_pos hp]
      simp
theorem lc_fil {α : Type} {vs : List Nat} {src : SI} {t : STg} {tt : SB} {te : SE} {δ0 δ : List SV} (enc : α → D) (p : α → Bool) (g : α → D) (xs : List α) (hs : src δ0 = some (.ok (xs.map enc) δ)) (hn : noOwn vs δ = true) (hl : xs.length < 1000000)
    (h : ∀ x ∈ xs, ∃ δ1, t (enc x) (wipeD vs δ) = some δ1 ∧ backD vs δ δ1 = δ ∧ tt δ1 = some (.ok (p x) δ1) ∧ (p x = true → escE te δ1 = some (.ok (.d (g x)) δ1))) : lcE vs src t tt te δ0 = some (.ok (.nL ((xs.filter p).map g)) δ) := by
  unfold lcE bindE
  rw [hs]
  simp only [hn, if_true]
  rw [lcGo_fil enc p g xs [] (by simpa using hl) h]
  rfl
theorem lc_map {α : Type} {vs : List Nat} {src : SI} {t : STg} {te : SE} {δ0 δ : List SV} (enc : α → D) (g : α → D) (xs : List α) (hs : src δ0 = some (.ok (xs.map enc) δ)) (hn : noOwn vs δ = true) (hl : xs.length < 1000000)
    (h : ∀ x ∈ xs, ∃ δ1, t (enc x) (wipeD vs δ) = some δ1 ∧ backD vs δ δ1 = δ ∧ escE te δ1 = some (.ok (.d (g x)) δ1)) : lcE vs src t yesB te δ0 = some (.ok (.nL (xs.map g)) δ) := by
  have := lc_fil (tt := yesB) enc (fun _ => true) g xs hs hn hl fun x hx => by
    obtain ⟨δ1, h1, h2, h3⟩ := h x hx
    exact ⟨δ1, h1, h2, rfl, fun _ => h3⟩
  rw [this, List.filter_eq_self.mpr fun _ _ => rfl]
/-- the first round may freeze what it looks at -/
theorem lc_map2 {α : Type} {vs : List Nat} {src : SI} {t : STg} {te : SE} {δ0 δa δb : List SV} (enc : α → D) (g : α → D) (xs : List α) (hs : src δ0 = some (.ok (xs.map enc) δa)) (ha : noOwn vs δa = true) (hl : xs.length < 1000000) (ne : xs ≠ [])
    (h : ∀ δ, δ = δa ∨ δ = δb → ∀ x ∈ xs, ∃ δ1 δ2, t (enc x) (wipeD vs δ) = some δ1 ∧ escE te δ1 = some (.ok (.d (g x)) δ2) ∧ backD vs δ δ2 = δb) : lcE vs src t yesB te δ0 = some (.ok (.nL (xs.map g)) δb) := by
  have go : ∀ (ys : List α) (acc : List D), acc.length + ys.length < 1000000 → (∀ y ∈ ys, y ∈ xs) → lcGo vs t yesB te (ys.map enc) acc δb = some (.ok (acc ++ ys.map g) δb) := by
    intro ys
    induction ys with
    | nil => intro acc _ _; simp [lcGo]
    | cons y r ih =>
      intro acc hl hm
      obtain ⟨δ1, δ2, h1, h2, h3⟩ := h δb (.inr rfl) y (hm y (by simp))
      have hs : acc.length < sizeLine := Nat.lt_of_lt_of_le (by simp at hl; omega) size_big
      simp only [List.map_cons, lcGo, h1, r_yesB, h2, hs, if_true, h3]
      rw [ih (acc ++ [g y]) (by simp at hl ⊢; omega) fun z hz => hm z (by simp [hz])]
      simp
  cases xs with
  | nil => exact absurd rfl ne
  | cons x r =>
    obtain ⟨δ1, δ2, h1, h2, h3⟩ := h δa (.inl rfl) x (by simp)
    have hs1 : ([] : List D).length < sizeLine := Nat.lt_of_lt_of_le (by decide) size_big
    unfold lcE bindE
    rw [hs]
    simp only [ha, if_true, List.map_cons, lcGo, h1, r_yesB, h2, hs1, h3]
    rw [go r ([] ++ [g x]) (by simp at hl ⊢; omega) fun z hz => by simp [hz]]
    rfl
theorem forGo_fold {α β : Type} {t : STg} {s : SS} (enc : α → D) (step : β → α → β) (P : β → List SV → Prop) : ∀ (xs : List α) (b : β) (δ : List SV), P b δ →
    (∀ b x δ, x ∈ xs → P b δ → ∃ δ1 δ2, t (enc x) δ = some δ1 ∧ (s δ1 = some (.nx δ2) ∨ s δ1 = some (.ct δ2)) ∧ P (step b x) δ2) → ∃ δ', forGo t s (xs.map enc) δ = some (.nx δ') ∧ P (xs.foldl step b) δ'
  | [], b, δ, h, _ => ⟨δ, rfl, h⟩
  | x :: r, b, δ, h, hs => by
    obtain ⟨δ1, δ2, e1, e2, h2⟩ := hs b x δ (List.mem_cons_self ..) h
    obtain ⟨δ', e3, h4⟩ := forGo_fold enc step P r (step b x) δ2 h2 fun b y δ hy hp => hs b y δ (List.mem_cons_of_mem _ hy) hp
    refine ⟨δ', ?_, h4⟩
    simp only [List.map_cons, forGo, e1]
    rcases e2 with e2 | e2 <;> simp only [e2] <;> exact e3
/-- all items: by an invariant -/
theorem forGo_all {α : Type} {t : STg} {s : SS} (enc : α → D) (P : List SV → Prop) (xs : List α) (δ : List SV) (h : P δ)
    (hs : ∀ x δ, x ∈ xs → P δ → ∃ δ1 δ2, t (enc x) δ = some δ1 ∧ (s δ1 = some (.nx δ2) ∨ s δ1 = some (.ct δ2)) ∧ P δ2) : ∃ δ', forGo t s (xs.map enc) δ = some (.nx δ') ∧ P δ' := by
  obtain ⟨δ', e, h'⟩ := forGo_fold (β := Unit) (t := t) (s := s) enc (fun _ _ => ()) (fun _ δ => P δ) xs () δ h fun _ x δ hx hp => hs x δ hx hp
  exact ⟨δ', e, h'⟩
theorem rngD_map (n : Nat) : rngD 0 n = (List.range n).map fun (i : Nat) => PyData.int (i : Int) := by
  unfold rngD
  exact List.map_congr_left fun i _ => by simp
/-! ### texts: repr -/
theorem strOk_ofString (s : String) : PyData.strOk (Str.ofString s) = true := by
  unfold PyData.strOk
  rw [Array.all_eq_true_iff_forall_mem]
  intro c hc
  have h : c ∈ (Str.ofString s).cps.toList := Array.mem_toList_iff.mpr hc
  rw [signs_ofString] at h
  obtain ⟨ch, _, rfl⟩ := List.mem_map.mp h
  have hv := ch.valid
  have : ch.toNat < 0x110000 := by
    rcases hv with h | ⟨_, h⟩
    · exact Nat.lt_trans h (by decide)
    · exact h
  simpa using this
theorem strOk_app {a b : Str} (h1 : PyData.strOk a = true) (h2 : PyData.strOk b = true) : PyData.strOk (a ++ b) = true := by
  unfold PyData.strOk at h1 h2 ⊢
  rw [Array.all_eq_true_iff_forall_mem] at h1 h2 ⊢
  intro c hc
  rcases Array.mem_append.mp (show c ∈ a.cps ++ b.cps from hc) with h | h
  · exact h1 c h
  · exact h2 c h
theorem strOk_join {sep : Str} (hs : PyData.strOk sep = true) : ∀ (ts : List Str), (∀ t ∈ ts, PyData.strOk t = true) → PyData.strOk (Str.join sep ts) = true
  | [], _ => (show PyData.strOk Str.empty = true by decide +kernel)
  | [x], h => h x (by simp)
  | x :: y :: r, h => strOk_app (strOk_app (h x (by simp)) hs) (strOk_join hs (y :: r) fun t ht => h t (by simp [ht]))
theorem strOk_from : ∀ (ts : List Str) (k : Nat) (acc : Str), PyData.strOk acc = true → (∀ t ∈ ts, PyData.strOk t = true) → PyData.strOk (textFrom k acc ts) = true
  | [], _, _, h, _ => h
  | t :: ts, k, acc, h, h2 => by
    refine strOk_from ts (k + 1) _ (strOk_app (strOk_app h ?_) (h2 t (by simp))) fun u hu => h2 u (by simp [hu])
    exact strOk_ofString _
theorem strOk_list {ts : List Str} (h : ∀ t ∈ ts, PyData.strOk t = true) : PyData.strOk (listText ts) = true := strOk_app (strOk_from ts 0 _ (strOk_ofString _) h) (strOk_ofString _)
theorem strOk_tuple {ts : List Str} (h : ∀ t ∈ ts, PyData.strOk t = true) : PyData.strOk (tupleText ts) = true := strOk_app (strOk_app (strOk_ofString _) (strOk_join (strOk_ofString _) ts h)) (strOk_ofString _)
theorem hex_lt {c x : Nat} (h : x ∈ (Nat.toDigits 16 c).map Char.toNat) : x < 0x110000 := by
  obtain ⟨ch, _, rfl⟩ := List.mem_map.mp h
  rcases ch.valid with h | ⟨_, h⟩
  · exact Nat.lt_trans h (by decide)
  · exact h
theorem reprChar_lt {q c x : Nat} (hc : c < 0x110000) (h : x ∈ Builtin.Str.reprChar q c) : x < 0x110000 := by
  unfold Builtin.Str.reprChar at h
  have hh : ∀ w : Nat, x ∈ List.replicate (w - ((Nat.toDigits 16 c).map Char.toNat).length) 48 ++ (Nat.toDigits 16 c).map Char.toNat → x < 0x110000 := fun w hx => by
    rcases List.mem_append.mp hx with h | h
    · have := (List.mem_replicate.mp h).2; omega
    · exact hex_lt h
  simp only at h
  repeat' split at h
  all_goals first
    | (simp only [List.mem_cons, List.not_mem_nil, or_false] at h; omega)
    | (rcases List.mem_append.mp h with h | h
       · simp only [List.mem_cons, List.not_mem_nil, or_false] at h; omega
       · exact hh _ h)
theorem strOk_repr {x : Str} (h : PyData.strOk x = true) : PyData.strOk (reprText x) = true := by
  unfold PyData.strOk at h ⊢
  rw [Array.all_eq_true_iff_forall_mem] at h ⊢
  have hq : reprQuote x < 0x110000 := by unfold reprQuote; split <;> decide
  have key : ∀ (l : List Nat) (acc : Array Nat), (∀ c ∈ l, c < 0x110000) → (∀ c ∈ acc, c < 0x110000) → ∀ c ∈ l.foldl (fun out c => out ++ (Builtin.Str.reprChar (reprQuote x) c).toArray) acc, c < 0x110000 := by
    intro l
    induction l with
    | nil => intro acc _ h; exact h
    | cons y r ih =>
      intro acc hl ha
      refine ih _ (fun c hc => hl c (by simp [hc])) fun c hc => ?_
      rcases Array.mem_append.mp hc with h | h
      · exact ha c h
      · exact reprChar_lt (hl y (by simp)) (by simpa using h)
  intro c hc
  unfold reprText at hc
  rw [← Array.foldl_toList] at hc
  rcases Array.mem_push.mp hc with h2 | h2
  · have := key x.cps.toList #[reprQuote x] (fun c hc => by simpa using h c (Array.mem_toList_iff.mp hc)) (fun c hc => by simp at hc; omega) c h2
    simpa using this
  · subst h2; simpa using hq
/-- data whose text is known to fit; n: how deep, w: how much -/
structure Rk (n w : Nat) (d : D) : Prop where
  lay : lay2 n d = true
  sh : d.showable = true
  lf : d.leavesShort 13 = true
  ok : PyData.strOk d.shown = true
  wt : d.weight ≤ w
theorem rk_none {n w : Nat} : Rk n w .none := ⟨by cases n <;> rfl, rfl, rfl, by decide +kernel, Nat.zero_le _⟩
theorem rk_bool {n w : Nat} (b : Bool) : Rk n w (.bool b) := ⟨by cases n <;> rfl, rfl, rfl, by cases b <;> decide +kernel, Nat.zero_le _⟩
theorem rk_int {n : Nat} {i : Int} (h : i.natAbs < 10 ^ 12) : Rk n 41 (.int i) := by
  have hl : i.natAbs.log2 < 40 := log2_lt_of (Nat.lt_trans h (by decide)) (by decide)
  refine ⟨by cases n <;> rfl, by simp only [PyData.showable]; exact decide_eq_true (by omega), ?_, strOk_ofString _, ?_⟩
  · simp only [PyData.leavesShort]; exact decide_eq_true (PyData.shown_int_le h)
  · simp only [PyData.weight]; split <;> omega
theorem rk_str {n : Nat} {x : Str} (h : PyData.strOk x = true) : Rk n x.cps.size (.str x) := by
  refine ⟨by cases n <;> rfl, rfl, ?_, by simpa only [PyData.shown] using strOk_repr h, Nat.le_refl _⟩
  simp only [PyData.leavesShort, List.all_eq_true, decide_eq_true_eq]
  intro c hc
  unfold PyData.strOk at h
  have := (Array.all_eq_true_iff_forall_mem.mp h) c (Array.mem_toList_iff.mp hc)
  have h2 : c < 0x110000 := by simpa using this
  exact Nat.lt_trans h2 (by decide)
theorem Rk.le {n w v : Nat} {d : D} (h : Rk n w d) (hv : w ≤ v) : Rk n v d := ⟨h.lay, h.sh, h.lf, h.ok, Nat.le_trans h.wt hv⟩
theorem rk_all {n w : Nat} : ∀ {xs : List D}, (∀ x ∈ xs, Rk n w x) → xs.all (lay2 n) = true ∧ PyData.showableAll xs = true ∧ PyData.leavesShortAll 13 xs = true ∧ (∀ t ∈ PyData.shownAll xs, PyData.strOk t = true) ∧ PyData.weightAll xs ≤ xs.length * (w + 1)
  | [], _ => ⟨rfl, rfl, rfl, fun t h => (by simp [PyData.shownAll] at h), Nat.zero_le _⟩
  | x :: r, h => by
    have hx := h x (by simp)
    obtain ⟨a, b, c, d, e⟩ := rk_all (xs := r) fun y hy => h y (by simp [hy])
    refine ⟨by rw [List.all_cons, hx.lay, a]; rfl, by simp only [PyData.showableAll, hx.sh, b]; rfl, by simp only [PyData.leavesShortAll, hx.lf, c]; rfl, ?_, ?_⟩
    · intro t ht
      simp only [PyData.shownAll, List.mem_cons] at ht
      rcases ht with rfl | ht
      · exact hx.ok
      · exact d t ht
    · simp only [PyData.weightAll, List.length_cons]
      have := hx.wt
      rw [Nat.add_mul]
      omega
theorem rk_list {n w : Nat} {xs : List D} (h : ∀ x ∈ xs, Rk n w x) : Rk (n + 1) (xs.length * (w + 1)) (.list xs) := by
  obtain ⟨a, b, c, d, e⟩ := rk_all h
  exact ⟨by simpa only [lay2] using a, by simpa only [PyData.showable] using b, by simpa only [PyData.leavesShort] using c, by simpa only [PyData.shown] using strOk_list d, by simpa only [PyData.weight] using e⟩
theorem rk_tup {n w : Nat} {xs : List D} (h : ∀ x ∈ xs, Rk n w x) : Rk (n + 1) (xs.length * (w + 1)) (.tuple xs) := by
  obtain ⟨a, b, c, d, e⟩ := rk_all h
  exact ⟨by simpa only [lay2] using a, by simpa only [PyData.showable] using b, by simpa only [PyData.leavesShort] using c, by simpa only [PyData.shown] using strOk_tuple d, by simpa only [PyData.weight] using e⟩
theorem lay2_mono : ∀ (n : Nat) {m : Nat} (d : D), n ≤ m → lay2 n d = true → lay2 m d = true := by
  intro n
  induction n with
  | zero =>
    intro m d _ h
    cases d <;> first | (cases m <;> rfl) | (simp [lay2] at h)
  | succ n ih =>
    intro m d hm h
    obtain ⟨k, rfl⟩ : ∃ k, m = k + 1 := ⟨m - 1, by omega⟩
    have all : ∀ xs : List D, xs.all (lay2 n) = true → xs.all (lay2 k) = true := fun xs hx => by
      rw [List.all_eq_true] at hx ⊢
      exact fun x hm' => ih x (by omega) (hx x hm')
    cases d with
    | list xs => simp only [lay2] at h ⊢; exact all xs h
    | tuple xs => simp only [lay2] at h ⊢; exact all xs h
    | dict ks =>
      simp only [lay2, Bool.and_eq_true] at h ⊢
      refine ⟨h.1, ?_⟩
      rw [List.all_eq_true] at h ⊢
      exact fun p hp => ih p.2 (by omega) (h.2 p hp)
    | _ => rfl
theorem Rk.deep {n m w : Nat} {d : D} (h : Rk n w d) (hm : n ≤ m) : Rk m w d := ⟨lay2_mono n d hm h.lay, h.sh, h.lf, h.ok, h.wt⟩
theorem Rk.repr {n w : Nat} {d : D} (h : Rk n w d) (hn : n ≤ 8) (hw : w ≤ 1048576) : repr2G [d] = some (.d (.str d.shown)) := by
  have h1 := (h.deep hn).lay
  have h2 : d.shown.length ≤ sizeLine := PyData.shown_fits (by decide) (by decide) h.lf (Nat.le_trans h.wt hw)
  simp [repr2G, lay2D, h1, h.sh, h2]
theorem ne_str {x : Str} (h : PyData.strOk x = true) : neG (.str x) (.str x) = some (.d (.bool false)) := by
  simp [neG, layD, lay, PyData.eqv, h]
theorem eq_str {x : Str} (h : PyData.strOk x = true) : eqG (.str x) (.str x) = some (.d (.bool true)) := by
  simp [eqG, layD, lay, PyData.eqv, h]
theorem ne_same {d : D} (h : layD d = true) : neG d d = some (.d (.bool false)) := by
  have := PySem.SeqAt.eqv_refl d (lay_can 8 d h).1
  simp [neG, h, this]
theorem eq_same {d : D} (h : layD d = true) : eqG d d = some (.d (.bool true)) := by
  have := PySem.SeqAt.eqv_refl d (lay_can 8 d h).1
  simp [eqG, h, this]
theorem Rk.ne {n w : Nat} {d : D} (h : Rk n w d) : neG (.str d.shown) (.str d.shown) = some (.d (.bool false)) := by
  obtain ⟨_, _, _, ok, _⟩ := h
  generalize d.shown = x at ok
  exact ne_str ok
end CP

set_option maxHeartbeats 1000000
namespace CP
open PySem PySem.Spec PyProof.Rows L2 DL CM
theorem mul_ok {i j : Int} {a b : Nat} (h1 : i.natAbs.log2 ≤ a) (h2 : j.natAbs.log2 ≤ b) (h : a + b < 1000000) : mulG (.int i) (.int j) = some (.d (.int (i * j))) := mulG_ii (by omega)
theorem f_mixed (c k : Int) (hk : k.natAbs.log2 < 100000) : ∃ r, f__law_mixed [.d (.int c), .d (.int k)] = some (.ok (.d (.int r)) [.d (.int c), .d (.int k)]) := by
  have m1 : mulG (.int 7919) (.int k) = some (.d (.int (7919 * k))) := mulG_ii (by have : (7919 : Int).natAbs.log2 = 12 := by decide
                                                                                   omega)
  have b1 : (7919 * k).natAbs.log2 ≤ 13 + k.natAbs.log2 := by
    have := log2_mul_le 7919 k
    have e : (7919 : Int).natAbs.log2 = 12 := by decide
    omega
  have m2 : mulG (.int (7919 * k)) (.int k) = some (.d (.int (7919 * k * k))) := mulG_ii (by omega)
  have m3 : mulG (.int 31) (.int k) = some (.d (.int (31 * k))) := mulG_ii (by have : (31 : Int).natAbs.log2 = 4 := by decide
                                                                               omega)
  have m4 : ∀ x y : Int, mulG (.int (x % 2147483647)) (.int (y % 2147483647)) = some (.d (.int ((x % 2147483647) * (y % 2147483647)))) := fun x y => mulG_ii (by
    have := mod_log x (m := 2147483647) (by decide) (by decide)
    have := mod_log y (m := 2147483647) (by decide) (by decide)
    omega)
  have m5 : ∀ x : Int, mulG (.int 2) (.int (x % 1000)) = some (.d (.int (2 * (x % 1000)))) := fun x => mulG_ii (by
    have := mod_log x (m := 1000) (by decide) (by decide)
    have : (2 : Int).natAbs.log2 = 1 := by decide
    omega)
  have m6 : ∀ x y : Int, mulG (.int (x % 2147483629)) (.int (69621 + 2 * (y % 1000))) = some (.d (.int (x % 2147483629 * (69621 + 2 * (y % 1000))))) := fun x y => mulG_ii (by
    have := mod_log x (m := 2147483629) (by decide) (by decide)
    have h1 := Int.emod_nonneg y (show (1000 : Int) ≠ 0 by decide)
    have h2 := Int.emod_lt_of_pos y (show (0 : Int) < 1000 by decide)
    have : (69621 + 2 * (y % 1000)).natAbs.log2 < 60 := log2_of_lt (by have : ((2 ^ 60 : Nat) : Int) = 1152921504606846976 := by decide
                                                                       omega) (by have : ((2 ^ 60 : Nat) : Int) = 1152921504606846976 := by decide
                                                                                  omega) (by decide)
    omega)
  have d7 : ∀ x : Int, fdivG (.int x) (.int 7) = some (.d (.int (x / 7))) := fun x => fdivG_ii (by decide) (by decide)
  have e1 : ∀ x : Int, modG (.int x) (.int 1000000007) = some (.d (.int (x % 1000000007))) := fun x => modG_ii (by decide)
  have e2 : ∀ x : Int, modG (.int x) (.int 2147483647) = some (.d (.int (x % 2147483647))) := fun x => modG_ii (by decide)
  have e3 : ∀ x : Int, modG (.int x) (.int 2147483629) = some (.d (.int (x % 2147483629))) := fun x => modG_ii (by decide)
  have e4 : ∀ x : Int, modG (.int x) (.int 1000) = some (.d (.int (x % 1000))) := fun x => modG_ii (by decide)
  unfold f__law_mixed b__law_mixed
  exact ⟨_, by simp [m1, m2, m3, m4, m5, m6, d7, e1, e2, e3, e4]; rfl⟩
structure St where
  cells : List Int
  at_ : Int
  left : Int
  used : Int
def St.k (s : St) : List (Key × D) := [(.inr "cells", .list (s.cells.map .int)), (.inr "at", .int s.at_), (.inr "left", .int s.left), (.inr "used", .int s.used)]
/-- m: more than the numbers that were drawn -/
structure St.Ok (m : Nat) (s : St) : Prop where
  ne : s.cells ≠ []
  at0 : 0 ≤ s.at_
  at1 : s.at_ ≤ m
  l0 : 0 ≤ s.left
  u0 : 0 ≤ s.used
  u1 : s.used ≤ m
theorem v_cells (s : St) : ixG (.dict (kvD s.k)) (.str "cells") = some (.d (.list (s.cells.map .int))) := rfl
theorem v_at (s : St) : ixG (.dict (kvD s.k)) (.str "at") = some (.d (.int s.at_)) := rfl
theorem v_left (s : St) : ixG (.dict (kvD s.k)) (.str "left") = some (.d (.int s.left)) := rfl
theorem v_used (s : St) : ixG (.dict (kvD s.k)) (.str "used") = some (.d (.int s.used)) := rfl
theorem p_at (s : St) (i : Int) : putD s.k (.inr "at") (.int i) = St.k { s with at_ := i } := rfl
theorem p_left (s : St) (i : Int) : putD s.k (.inr "left") (.int i) = St.k { s with left := i } := rfl
theorem p_used (s : St) (i : Int) : putD s.k (.inr "used") (.int i) = St.k { s with used := i } := rfl
theorem k_len (s : St) : s.k.length < sizeLine := by
  show 4 < sizeLine
  decide
theorem ix_ints {l : List Int} {i : Int} (h0 : 0 ≤ i) (h1 : i < l.length) : ixG (.list (l.map .int)) (.int i) = some (.d (.int (l[i.toNat]'(by omega)))) := by
  have e : L2.atI (l.map PyData.int) i = some (.int (l[i.toNat]'(by omega))) := by
    unfold L2.atI L2.ixN
    rw [List.length_map, if_pos h0, if_pos h1]
    simp
  unfold ixG ixS
  simp only [e]
  rfl
theorem next_spec {s : St} {m n : Nat} {many : Int} (h : s.Ok m) (hm : m < 1000000) (h0 : 0 < many) (h1 : many < 2 ^ 60) :
    ∃ (r : Int) (s' : St), f__law_next [.M n s.k, .d (.int many)] = some (.ok (.d (.int r)) [.M n s'.k, .d (.int many)]) ∧ 0 ≤ r ∧ r < many ∧ s'.Ok (m + 1) ∧ s'.cells = s.cells := by
  have ml : many.natAbs.log2 < 9000 := by
    have : many.natAbs.log2 < 60 := log2_of_lt (by have : ((2 ^ 60 : Nat) : Int) = 1152921504606846976 := by decide
                                                   omega) (by have : ((2 ^ 60 : Nat) : Int) = 1152921504606846976 := by decide
                                                              omega) (by decide)
    omega
  have e1 : ∀ x : Int, modG (.int x) (.int many) = some (.d (.int (x % many))) := fun x => modG_ii h0
  have e2 : ∀ x : Int, fdivG (.int x) (.int many) = some (.d (.int (x / many))) := fun x => fdivG_ii h0 ml
  have r0 : ∀ x : Int, 0 ≤ x % many := fun x => Int.emod_nonneg x (by omega)
  have r1 : ∀ x : Int, x % many < many := fun x => Int.emod_lt_of_pos x h0
  unfold f__law_next b__law_next i__law_next_1 i__law_next_2
  have a1 : s.at_ ≤ ((m + 1 : Nat) : Int) := by have := h.at1; omega
  have a2 : s.used ≤ ((m + 1 : Nat) : Int) := by have := h.u1; omega
  have a3 : 0 ≤ s.used + 1 := by have := h.u0; omega
  have a4 : s.used + 1 ≤ ((m + 1 : Nat) : Int) := by have := h.u1; omega
  by_cases c1 : 0 < s.left
  · refine ⟨s.left % many, { s with left := s.left / many }, ?_, r0 _, r1 _, ⟨h.ne, h.at0, a1, ?_, h.u0, a2⟩, rfl⟩
    · simp [e1, e2, v_left, c1, keyD, k_len, p_left]
    · exact Int.ediv_nonneg h.l0 (by omega)
  · have hl : 0 < (s.cells.length : Int) := by
      have := List.length_pos_iff.mpr h.ne
      omega
    have i0 : 0 ≤ s.at_ % (s.cells.length : Int) := Int.emod_nonneg _ (by omega)
    have i1 : s.at_ % (s.cells.length : Int) < s.cells.length := Int.emod_lt_of_pos _ hl
    have e3 : modG (.int s.at_) (.int s.cells.length) = some (.d (.int (s.at_ % s.cells.length))) := modG_ii hl
    have e4 := ix_ints i0 i1
    generalize s.cells[(s.at_ % (s.cells.length : Int)).toNat]'(by omega) = cell at e4
    have e5 : powG (.int 10) (.int 18) = some (.d (.int 1000000000000000000)) := by simp [powG, op2I]
    have g1 : 0 ≤ s.at_ + 1 := by have := h.at0; omega
    have g2 : s.at_ + 1 ≤ (m + 1 : Nat) := by have := h.at1; omega
    by_cases c2 : 1000000000000000000 ≤ cell ∧ s.at_ + 1 ≤ s.cells.length
    · refine ⟨cell % many, { s with at_ := s.at_ + 1, left := cell / many }, ?_, r0 _, r1 _, ⟨h.ne, g1, g2, Int.ediv_nonneg (by omega) (by omega), h.u0, a2⟩, rfl⟩
      have c3 := c2.1
      have c4 := c2.2
      simp [e1, e2, e3, e4, e5, v_left, v_cells, v_at, c1, c3, c4, keyD, k_len, p_left, p_at, lenG]
    · have hu : (s.used + 1).natAbs.log2 < 100000 := by
        have := h.u0; have := h.u1
        have : (s.used + 1).natAbs.log2 < 60 := log2_of_lt (by have : ((2 ^ 60 : Nat) : Int) = 1152921504606846976 := by decide
                                                               omega) (by have : ((2 ^ 60 : Nat) : Int) = 1152921504606846976 := by decide
                                                                          omega) (by decide)
        omega
      have ha : (s.at_ + 1).natAbs.log2 < 100000 := by
        have := h.at0; have := h.at1
        have : (s.at_ + 1).natAbs.log2 < 60 := log2_of_lt (by have : ((2 ^ 60 : Nat) : Int) = 1152921504606846976 := by decide
                                                              omega) (by have : ((2 ^ 60 : Nat) : Int) = 1152921504606846976 := by decide
                                                                         omega) (by decide)
        omega
      obtain ⟨x, hx⟩ := f_mixed cell (s.at_ + 1) ha
      obtain ⟨y, hy⟩ := f_mixed x (s.used + 1) hu
      refine ⟨y % many, { s with at_ := s.at_ + 1, used := s.used + 1 }, ?_, r0 _, r1 _, ⟨h.ne, g1, g2, h.l0, a3, a4⟩, rfl⟩
      by_cases c3 : 1000000000000000000 ≤ cell
      · have c4 : ¬ s.at_ + 1 ≤ s.cells.length := fun z => c2 ⟨c3, z⟩
        simp [e1, e2, e3, e4, e5, v_left, v_cells, v_at, v_used, c1, c3, c4, keyD, k_len, p_left, p_at, p_used, lenG, hx, hy]
      · simp [e1, e2, e3, e4, e5, v_left, v_cells, v_at, v_used, c1, c3, keyD, k_len, p_left, p_at, p_used, lenG, hx, hy]
/-! ### numbers, errands -/
def numB : D → Bool
  | .int _ => true
  | _ => false
def wholeB (x : D) (l : Int) (m : Option Int) : Bool := match x with
  | .int i => decide (l ≤ i) && (match m with | none => true | some h => decide (i ≤ h))
  | _ => false
def mostD : Option Int → D
  | none => .none
  | some h => .int h
/-- no exception, down to a depth -/
def nx : Nat → D → Bool
  | n + 1, .tuple xs => xs.all (nx n)
  | n + 1, .list xs => xs.all (nx n)
  | _, x => !isExc x
theorem nx_no {n : Nat} {x : D} (h : nx n x = true) : isExc x = false := by
  cases n <;> cases x <;> first | rfl | (simpa [nx] using h)
theorem nx_tup {n : Nat} {xs : List D} (h : nx (n + 1) (.tuple xs) = true) : ∀ x ∈ xs, nx n x = true := by
  simpa [nx] using h
theorem nx_int (n : Nat) (i : Int) : nx n (.int i) = true := by cases n <;> rfl
theorem number_spec {x : D} (hx : isExc x = false) : f_is_number [.d x] = some (.ok (.d (.bool (numB x))) [.d x]) := by
  unfold f_is_number b_is_number
  cases x <;> simp [isiG, tyN, numB, hx] <;> rfl
theorem whole_spec {x : D} (hx : isExc x = false) (l : Int) (m : Option Int) : f_is_whole [.d x, .d (.int l), .d (mostD m)] = some (.ok (.d (.bool (wholeB x l m))) [.d x, .d (.int l), .d (mostD m)]) := by
  unfold f_is_whole b_is_whole
  cases x with
  | int i =>
    cases m with
    | none =>
      by_cases h : l ≤ i <;> simp [number_spec hx, numB, wholeB, mostD, isG, isD, h]
    | some q =>
      by_cases h : l ≤ i <;> simp [number_spec hx, numB, wholeB, mostD, isG, isD, h]
  | _ => simp [number_spec hx, numB, wholeB]
def errandB (x : D) (n : Int) : Bool := match x with
  | .tuple [a, b] => wholeB a 0 (some (n - 1)) && wholeB b 1 (some (3 * n))
  | _ => false
def isTupB : D → Bool
  | .tuple _ => true
  | _ => false
theorem isi_tuple {x : D} (hx : isExc x = false) : isiG "tuple" x = some (isTupB x) := by cases x <;> simp [isiG, hx, tyN, isTupB] <;> rfl
theorem errand_spec {x : D} (hx : nx 1 x = true) (n : Int) (h0 : 0 ≤ n) (h1 : n < 1000000) : f_is_errand [.d x, .d (.int n)] = some (.ok (.d (.bool (errandB x n))) [.d x, .d (.int n)]) := by
  have m1 : mulG (.int 3) (.int n) = some (.d (.int (3 * n))) := mulG_ii (by
    have : (3 : Int).natAbs.log2 = 1 := by decide
    have : n.natAbs.log2 < 60 := log2_of_lt (by have : ((2 ^ 60 : Nat) : Int) = 1152921504606846976 := by decide
                                                omega) (by have : ((2 ^ 60 : Nat) : Int) = 1152921504606846976 := by decide
                                                           omega) (by decide)
    omega)
  have w1 := fun {a : D} (ha : isExc a = false) => whole_spec ha 0 (some (n - 1))
  have w2 := fun {a : D} (ha : isExc a = false) => whole_spec ha 1 (some (3 * n))
  simp only [mostD] at w1 w2
  have it := isi_tuple (nx_no hx)
  unfold f_is_errand b_is_errand
  cases x with
  | tuple xs =>
    match xs, hx with
    | [a, b], hx =>
      have w1 := w1 (a := a) (nx_no (nx_tup hx a (by simp)))
      have w2 := w2 (a := b) (nx_no (nx_tup hx b (by simp)))
      cases q : wholeB a 0 (some (n - 1)) <;> simp [it, isTupB, m1, w1, w2, errandB, q]
    | [], _ => simp [it, isTupB, errandB]
    | [a], _ => simp [it, isTupB, errandB]
    | a :: b :: c :: r, _ =>
      have nl : ¬ ((r.length : Int) + 1 + 1 + 1 = 2) := by omega
      simp [nl, it, isTupB, errandB]
  | _ => simp [it, isTupB, errandB]
/-! ### drawing -/
theorem begin_spec (ns : List Int) (h : ns.length ≤ 63) : ∃ s : St, f__law_begin [.d (scriptD ns)] = some (.ok (.nM s.k) [.d (scriptD ns)]) ∧ s.Ok 0 ∧ s.cells = ns ++ [0] := by
  refine ⟨⟨ns ++ [0], 0, 0, 0⟩, ?_, ⟨by simp, Int.le_refl _, Int.le_refl _, Int.le_refl _, Int.le_refl _, Int.le_refl _⟩, rfl⟩
  have e : addG (.list (ns.map PyData.int)) (.list [.int 0]) = some (.nL ((ns ++ [0]).map PyData.int)) := by
    have hl : ns.length + 1 ≤ sizeLine := by
      have : (64 : Nat) ≤ sizeLine := by decide
      omega
    simp [addG, addI, op2I, addS, addL, hl]
  unfold f__law_begin b__law_begin scriptD
  have e9 : (ns ++ [0]).map PyData.int = ns.map PyData.int ++ [.int 0] := by simp
  simp only [St.k, e9]
  simp [dispE, dispGo, e, mergeD]
  rfl
/-- a draw, as a call -/
def drawE (i : Nat) (e : SE) : SE := callE f__law_next 2 0 (pick [0, 1]) [] (consA (pkE (varE i)) (consA (escE e) nilA)) nilA
theorem draw_spec {s : St} {m k i : Nat} {many : Int} {δ : List SV} {e : SE} (h : s.Ok m) (hm : m < 1000000) (h0 : 0 < many) (h1 : many < 2 ^ 60) (hi : δ[i]? = some (.M k s.k)) (he : e δ = some (.ok (.d (.int many)) δ)) :
    ∃ (r : Int) (s' : St), drawE i e δ = some (.ok (.d (.int r)) (δ.set i (.M k s'.k))) ∧ 0 ≤ r ∧ r < many ∧ s'.Ok (m + 1) ∧ s'.cells = s.cells := by
  obtain ⟨r, s', e1, p⟩ := next_spec (n := 0) h hm h0 h1
  refine ⟨r, s', ?_, p⟩
  unfold drawE
  simp [hi, he, e1]

/-! ### errands, ways, houses that are drawn -/
abbrev E := Int × Int
def errD (e : E) : D := .tuple [.int e.1, .int e.2]
def houseD (n s : Int) (es : List E) : D := .tuple [.int n, .int s, .tuple (es.map errD)]
def OkE (n : Int) (e : E) : Prop := 0 ≤ e.1 ∧ e.1 < n ∧ 1 ≤ e.2 ∧ e.2 ≤ 3 * n
structure OkH (n s : Int) (es : List E) : Prop where
  n0 : 2 ≤ n
  n1 : n ≤ 16
  s0 : 0 ≤ s
  s1 : s < n
  len : es.length ≤ 40
  ok : ∀ e ∈ es, OkE n e
theorem St.Ok.le {m k : Nat} {s : St} (h : s.Ok m) (hk : m ≤ k) : s.Ok k := ⟨h.ne, h.at0, by have := h.at1; omega, h.l0, h.u0, by have := h.u1; omega⟩
theorem mul3 {n : Int} (h0 : 0 ≤ n) (h1 : n < 1000000) : mulG (.int 3) (.int n) = some (.d (.int (3 * n))) := mulG_ii (by
  have : (3 : Int).natAbs.log2 = 1 := by decide
  have : n.natAbs.log2 < 60 := log2_of_lt (by have : ((2 ^ 60 : Nat) : Int) = 1152921504606846976 := by decide
                                              omega) (by have : ((2 ^ 60 : Nat) : Int) = 1152921504606846976 := by decide
                                                         omega) (by decide)
  omega)
theorem lerrand_spec {s : St} {m n : Nat} {size : Int} (h : s.Ok m) (hm : m < 900000) (z0 : 2 ≤ size) (z1 : size ≤ 16) : ∃ (e : E) (s' : St), f__law_errand [.M n s.k, .d (.int size)] = some (.ok (.d (errD e)) [.M n s'.k, .d (.int size)]) ∧ OkE size e ∧ s'.Ok (m + 5) ∧ s'.cells = s.cells := by
  obtain ⟨a, s1, e1, a0, a1, h1, c1⟩ := next_spec (n := 0) (many := 3) h (by omega) (by decide) (by decide)
  obtain ⟨b, s2, e2, b0, b1, h2, c2⟩ := next_spec (n := 0) (many := size) h1 (by omega) (by omega) (by omega)
  obtain ⟨c, s3, e3, g0, g1, h3, c3⟩ := next_spec (n := 0) (many := 3 * size) h2 (by omega) (by omega) (by omega)
  obtain ⟨d, s4, e4, d0, d1, h4, c4⟩ := next_spec (n := 0) (many := size) h3 (by omega) (by omega) (by omega)
  obtain ⟨f, s5, e5, f0, f1, h5, c5⟩ := next_spec (n := 0) (many := 4) h4 (by omega) (by decide) (by decide)
  have m1 := mul3 (n := size) (by omega) (by omega)
  have ix : ∃ t : Int, ixG (.list [.int (1 + a), .int (1 + b), .int size, .int (1 + c)]) (.int f) = some (.d (.int t)) ∧ 1 ≤ t ∧ t ≤ 3 * size := by
    have e : f = 0 ∨ f = 1 ∨ f = 2 ∨ f = 3 := by omega
    rcases e with e | e | e | e <;> subst e
    · exact ⟨_, rfl, by omega, by omega⟩
    · exact ⟨_, rfl, by omega, by omega⟩
    · exact ⟨_, rfl, by omega, by omega⟩
    · exact ⟨_, rfl, by omega, by omega⟩
  obtain ⟨t, ix, t0, t1⟩ := ix
  refine ⟨(d, t), s5, ?_, ⟨d0, d1, t0, t1⟩, h5, by rw [c5, c4, c3, c2, c1]⟩
  unfold f__law_errand b__law_errand
  simp [e1, e2, e3, e4, e5, m1, ix, errD]
theorem lway_turn {s : St} {m : Nat} {size begin_ left : Int} (es : List E) (x5 : SV) (h : s.Ok m) (hm : m < 900000) (z0 : 2 ≤ size) (z1 : size ≤ 16) (b0 : 0 ≤ begin_) (b1 : begin_ < size) (l0 : 0 < left) (l1 : left ≤ size) (hl : es.length ≤ 1000) :
    ∃ (e : E) (s' : St), b__law_way_l1 [.M 1 s.k, .d (.int size), .d (.int begin_), .d (.int left), .L 0 (es.map errD), x5] = some (.nx [.M 1 s'.k, .d (.int size), .d (.int begin_), .d (.int (left - e.2)), .L 0 ((es ++ [e]).map errD), .d (.int e.2)]) ∧ OkE size e ∧ e.2 ≤ left ∧ s'.Ok (m + 1) ∧ s'.cells = s.cells := by
  obtain ⟨a, s1, e1, a0, a1, h1, c1⟩ := next_spec (n := 0) (many := size) h (by omega) (by omega) (by omega)
  have e2 : modG (.int (begin_ + size - left)) (.int size) = some (.d (.int ((begin_ + size - left) % size))) := modG_ii (by omega)
  have e3 : min2G [.int left, .int (1 + a)] = some (.d (.int (if 1 + a < left then 1 + a else left))) := rfl
  generalize ht : (if 1 + a < left then 1 + a else left) = t at e3
  have t0 : 1 ≤ t ∧ t ≤ left := by subst ht; split <;> omega
  have hl' : es.length < sizeLine := Nat.lt_of_lt_of_le (by omega) size_big
  refine ⟨((begin_ + size - left) % size, t), s1, ?_, ⟨Int.emod_nonneg _ (by omega), Int.emod_lt_of_pos _ (by omega), t0.1, by show t ≤ 3 * size; omega⟩, t0.2, h1, c1⟩
  unfold b__law_way_l1
  simp [e1, e2, e3, appG, hl', errD]
theorem lway_loop : ∀ (k : Nat) {N : Nat} {s : St} {m : Nat} {size begin_ left : Int} (es : List E) (x5 : SV), s.Ok m → m + k < 900000 → 2 ≤ size → size ≤ 16 → 0 ≤ begin_ → begin_ < size → 0 ≤ left → left ≤ k → left ≤ size → k < N → es.length + k ≤ 1000 → (∀ e ∈ es, OkE size e) →
    ∃ (fs : List E) (s' : St) (y3 y5 : SV), whileGo w__law_way_l1 b__law_way_l1 N [.M 1 s.k, .d (.int size), .d (.int begin_), .d (.int left), .L 0 (es.map errD), x5] = some (.nx [.M 1 s'.k, .d (.int size), .d (.int begin_), y3, .L 0 (fs.map errD), y5]) ∧ fs.length ≤ es.length + k ∧ (es.length ≤ fs.length ∧ (0 < left → es.length < fs.length)) ∧ (∀ e ∈ fs, OkE size e) ∧ s'.Ok (m + k) ∧ s'.cells = s.cells
  | 0, N + 1, s, m, size, begin_, left, es, x5, h, _, _, _, _, _, l0, l1, _, _, _, ho => by
    have : left = 0 := by omega
    subst this
    refine ⟨es, s, .d (.int 0), x5, ?_, Nat.le_refl _, ⟨Nat.le_refl _, fun z => absurd z (by decide)⟩, ho, h, rfl⟩
    simp [whileGo, w__law_way_l1]
  | k + 1, N + 1, s, m, size, begin_, left, es, x5, h, hm, z0, z1, b0, b1, l0, l1, l2, hN, hl, ho => by
    by_cases c : 0 < left
    · obtain ⟨e, s1, e1, oe, le, h1, c1⟩ := lway_turn es x5 h (by omega) z0 z1 b0 b1 c l2 (by omega)
      obtain ⟨fs, s2, y3, y5, e2, p1, p2, p3, p4, p5⟩ := lway_loop k (N := N) (left := left - e.2) (es ++ [e]) (.d (.int e.2)) h1 (by omega) z0 z1 b0 b1 (by omega) (by have := oe.2.2.1; omega) (by have := oe.2.2.1; omega) (by omega) (by simp; omega) (fun x hx => by
        rcases List.mem_append.mp hx with hx | hx
        · exact ho x hx
        · rw [List.mem_singleton.mp hx]; exact oe)
      refine ⟨fs, s2, y3, y5, ?_, by simp at p1; omega, ⟨by have := p2.1; simp at this; omega, fun _ => by have := p2.1; simp at this; omega⟩, p3, p4.le (by omega), by rw [p5, c1]⟩
      have g : w__law_way_l1 [.M 1 s.k, .d (.int size), .d (.int begin_), .d (.int left), .L 0 (es.map errD), x5] = some (.ok true [.M 1 s.k, .d (.int size), .d (.int begin_), .d (.int left), .L 0 (es.map errD), x5]) := by
        simp [w__law_way_l1, c]
      unfold whileGo
      simp only [g, e1]
      exact e2
    · have : left = 0 := by omega
      subst this
      refine ⟨es, s, .d (.int 0), x5, ?_, by omega, ⟨Nat.le_refl _, fun z => absurd z (by decide)⟩, ho, h.le (by omega), rfl⟩
      simp [whileGo, w__law_way_l1]
  | _, 0, _, _, _, _, _, _, _, _, _, _, _, _, _, _, _, _, hN, _, _ => absurd hN (by omega)
theorem lway_spec {s : St} {m n : Nat} {size : Int} (h : s.Ok m) (hm : m < 800000) (z0 : 2 ≤ size) (z1 : size ≤ 16) : ∃ (es : List E) (s' : St), f__law_way [.M n s.k, .d (.int size)] = some (.ok (.nL (es.map errD)) [.M n s'.k, .d (.int size)]) ∧ (∀ e ∈ es, OkE size e) ∧ es.length ≤ 16 ∧ es ≠ [] ∧ s'.Ok (m + 17) ∧ s'.cells = s.cells := by
  obtain ⟨b, s1, e1, b0, b1, h1, c1⟩ := next_spec (n := 0) (many := size) h (by omega) (by omega) (by omega)
  obtain ⟨fs, s2, y3, y5, e2, p1, p2, p3, p4, p5⟩ := lway_loop 16 (N := 1000000) (left := size) [] .u h1 (by omega) z0 z1 b0 b1 (by omega) (by omega) (by omega) (by decide) (by decide) (fun _ h => by cases h)
  refine ⟨fs, s2, ?_, p3, by simpa using p1, (by intro hz; have := p2.2 (by omega); rw [hz] at this; simp at this), p4, by rw [p5, c1]⟩
  unfold f__law_way b__law_way
  simp only [List.map_nil] at e2
  simp [e1, e2]
end CP

set_option maxHeartbeats 1000000
namespace CP
open PySem PySem.Spec PyProof.Rows L2 DL CM
/-! ### a house that is drawn -/
theorem take_slice (xs : List D) {k : Int} (h : 0 ≤ k) : DL.cutD xs none (some k) = xs.take k.toNat := by
  unfold DL.cutD
  have e : HT.sIx xs.length 0 none = 0 := rfl
  have e2 : HT.sIx xs.length xs.length (some k) = min k.toNat xs.length := by
    obtain ⟨n, rfl⟩ := Int.eq_ofNat_of_zero_le h
    exact HT.sIx_nat _ _ _
  rw [e, e2, List.drop_zero, Nat.sub_zero]
  by_cases c : k.toNat ≤ xs.length
  · rw [Nat.min_eq_left c]
  · rw [Nat.min_eq_right (by omega), List.take_of_length_le (Nat.le_refl _), List.take_of_length_le (by omega)]
theorem drop_slice (xs : List D) {k : Int} (h : 0 ≤ k) : DL.cutD xs (some k) none = xs.drop k.toNat := by
  unfold DL.cutD
  have e : HT.sIx xs.length xs.length none = xs.length := rfl
  have e2 : HT.sIx xs.length 0 (some k) = min k.toNat xs.length := by
    obtain ⟨n, rfl⟩ := Int.eq_ofNat_of_zero_le h
    exact HT.sIx_nat _ _ _
  rw [e, e2]
  by_cases c : k.toNat ≤ xs.length
  · rw [Nat.min_eq_left c, List.take_of_length_le (by simp)]
  · rw [Nat.min_eq_right (by omega), List.drop_of_length_le (Nat.le_refl _), List.drop_of_length_le (by omega)]
    simp
theorem ix_map {α : Type} {f : α → D} {l : List α} {i : Int} (h0 : 0 ≤ i) (h1 : i < l.length) : ixG (.list (l.map f)) (.int i) = some (.d (f (l[i.toNat]'(by omega)))) := by
  have e : L2.atI (l.map f) i = some (f (l[i.toNat]'(by omega))) := by
    unfold L2.atI L2.ixN
    rw [List.length_map, if_pos h0, if_pos h1]
    show (l.map f)[i.toNat]? = _
    rw [List.getElem?_map, List.getElem?_eq_getElem (by omega)]
    rfl
  unfold ixG ixS
  simp only [e]
  rfl
theorem ixT_map {α : Type} {f : α → D} {l : List α} {i : Int} (h0 : 0 ≤ i) (h1 : i < l.length) : ixG (.tuple (l.map f)) (.int i) = some (.d (f (l[i.toNat]'(by omega)))) := by
  have e : L2.atI (l.map f) i = some (f (l[i.toNat]'(by omega))) := by
    unfold L2.atI L2.ixN
    rw [List.length_map, if_pos h0, if_pos h1]
    show (l.map f)[i.toNat]? = _
    rw [List.getElem?_map, List.getElem?_eq_getElem (by omega)]
    rfl
  unfold ixG ixS
  simp only [e]
  rfl
theorem eraseIdx_map' {α β : Type} (f : α → β) : ∀ (l : List α) (i : Nat), (l.map f).eraseIdx i = (l.eraseIdx i).map f
  | [], _ => rfl
  | _ :: _, 0 => rfl
  | x :: r, i + 1 => by
    show f x :: (r.map f).eraseIdx i = f x :: (r.eraseIdx i).map f
    rw [eraseIdx_map' f r i]
theorem popAt_map {α : Type} {f : α → D} {l : List α} {i : Int} (h0 : 0 ≤ i) (h1 : i < l.length) (hl : l.length < 1000000) : ∃ y, popAtG (l.map f) [.int i] = some (y, (l.eraseIdx i.toNat).map f) := by
  have e : seqIndex? i (l.map f).length = some i.toNat := (L2.ixN_seq (n := (l.map f).length) (i := i) (j := i.toNat) (by
    unfold L2.ixN
    rw [List.length_map, if_pos h0, if_pos h1])).1
  have b : -(2 ^ 63) ≤ i ∧ i < 2 ^ 63 := by omega
  refine ⟨f (l[i.toNat]'(by omega)), ?_⟩
  simp only [popAtG, b, and_self, if_true, e, Option.bind_some, List.getElem?_map]
  rw [List.getElem?_eq_getElem (by omega)]
  simp [eraseIdx_map']
theorem lhouse_ways {size start way : Int} (z0 : 2 ≤ size) (z1 : size ≤ 16) (most : D) : ∀ (k : Nat) {s : St} {m : Nat} (es : List E) (x6 : SV), s.Ok m → m + 17 * k < 800000 → es.length + 16 * k ≤ 1000 → (∀ e ∈ es, OkE size e) → ∀ items : List D, items.length = k →
    ∃ (fs : List E) (s' : St) (y6 : SV), forGo (nameT 6) b__law_house_l1 items [.M 1 s.k, .d (.int size), .d most, .d (.int way), .d (.int start), .L 0 (es.map errD), x6, .u] = some (.nx [.M 1 s'.k, .d (.int size), .d most, .d (.int way), .d (.int start), .L 0 (fs.map errD), y6, .u]) ∧ fs.length ≤ es.length + 16 * k ∧ (0 < k → fs ≠ []) ∧ (∀ e ∈ fs, OkE size e) ∧ s'.Ok (m + 17 * k) ∧ s'.cells = s.cells
  | 0, s, m, es, x6, h, _, _, ho, [], _ => ⟨es, s, x6, rfl, Nat.le_refl _, fun z => absurd z (by decide), ho, h, rfl⟩
  | k + 1, s, m, es, x6, h, hm, hl, ho, x :: r, hk => by
    obtain ⟨ws, s1, e1, o1, l1, n1, h1, c1⟩ := lway_spec (n := 0) h (by omega) z0 z1
    obtain ⟨fs, s2, y6, e2, p1, p2, p3, p4, p5⟩ := lhouse_ways z0 z1 most k (start := start) (way := way) (es ++ ws) (.d x) h1 (by omega) (by simp; omega) (fun e he => by
      rcases List.mem_append.mp he with he | he
      · exact ho e he
      · exact o1 e he) r (by simpa using hk)
    have hs : es.length + ws.length ≤ sizeLine := Nat.le_trans (by omega) size_big
    have hne : fs ≠ [] := by
      by_cases q : 0 < k
      · exact p2 q
      · have k0 : k = 0 := by omega
        subst k0
        have hr : r = [] := List.length_eq_zero_iff.mp (by simpa using hk)
        subst hr
        simp only [forGo, Option.some.injEq, SO.nx.injEq, List.cons.injEq, SV.L.injEq] at e2
        have q5 := e2.2.2.2.2.2.1.2
        intro hz
        rw [hz] at q5
        simp [n1] at q5
    refine ⟨fs, s2, y6, ?_, by simp at p1; omega, fun _ => hne, p3, p4.le (by omega), by rw [p5, c1]⟩
    have st : b__law_house_l1 [.M 1 s.k, .d (.int size), .d most, .d (.int way), .d (.int start), .L 0 (es.map errD), .d x, .u] = some (.nx [.M 1 s1.k, .d (.int size), .d most, .d (.int way), .d (.int start), .L 0 ((es ++ ws).map errD), .d x, .u]) := by
      unfold b__law_house_l1
      simp [e1, addG, addI, op2I, addS, addL, hs]
    simp only [forGo, nameT, List.set_cons_succ, List.set_cons_zero, st]
    exact e2
  | k + 1, s, m, es, x6, _, _, _, _, [], hk => by simp at hk
  | 0, s, m, es, x6, _, _, _, _, x :: r, hk => by simp at hk
theorem lhouse_errs {size start way : Int} (z0 : 2 ≤ size) (z1 : size ≤ 16) (most : D) : ∀ (k : Nat) {s : St} {m : Nat} (es : List E) (x6 : SV), s.Ok m → m + 5 * k < 800000 → es.length + k ≤ 1000 → (∀ e ∈ es, OkE size e) → ∀ items : List D, items.length = k →
    ∃ (fs : List E) (s' : St) (y6 : SV), forGo (nameT 6) b__law_house_l2 items [.M 1 s.k, .d (.int size), .d most, .d (.int way), .d (.int start), .L 0 (es.map errD), x6, .u] = some (.nx [.M 1 s'.k, .d (.int size), .d most, .d (.int way), .d (.int start), .L 0 (fs.map errD), y6, .u]) ∧ fs.length = es.length + k ∧ (∀ e ∈ fs, OkE size e) ∧ s'.Ok (m + 5 * k) ∧ s'.cells = s.cells
  | 0, s, m, es, x6, h, _, _, ho, [], _ => ⟨es, s, x6, rfl, rfl, ho, h, rfl⟩
  | k + 1, s, m, es, x6, h, hm, hl, ho, x :: r, hk => by
    obtain ⟨w, s1, e1, o1, h1, c1⟩ := lerrand_spec (n := 0) h (by omega) z0 z1
    obtain ⟨fs, s2, y6, e2, p1, p3, p4, p5⟩ := lhouse_errs z0 z1 most k (start := start) (way := way) (es ++ [w]) (.d x) h1 (by omega) (by simp; omega) (fun e he => by
      rcases List.mem_append.mp he with he | he
      · exact ho e he
      · rw [List.mem_singleton.mp he]; exact o1) r (by simpa using hk)
    have hs : es.length < sizeLine := Nat.lt_of_lt_of_le (by omega) size_big
    refine ⟨fs, s2, y6, ?_, by simp at p1; omega, p3, p4.le (by omega), by rw [p5, c1]⟩
    have st : b__law_house_l2 [.M 1 s.k, .d (.int size), .d most, .d (.int way), .d (.int start), .L 0 (es.map errD), .d x, .u] = some (.nx [.M 1 s1.k, .d (.int size), .d most, .d (.int way), .d (.int start), .L 0 ((es ++ [w]).map errD), .d x, .u]) := by
      unfold b__law_house_l2
      simp [e1, appG, hs]
    simp only [forGo, nameT, List.set_cons_succ, List.set_cons_zero, st]
    exact e2
  | k + 1, s, m, es, x6, _, _, _, _, [], hk => by simp at hk
  | 0, s, m, es, x6, _, _, _, _, x :: r, hk => by simp at hk
theorem layErr (e : E) (k : Nat) : lay (k + 1) (errD e) = true := by simp [errD, lay]
theorem layErrs (es : List E) : layD (.list (es.map errD)) = true := by
  simp only [layD, lay, List.all_map, List.all_eq_true]
  intro e _
  exact layErr e 6
theorem lhouse_spec {s : St} {m n : Nat} {size most : Int} (h : s.Ok m) (hm : m < 700000) (z0 : 2 ≤ size) (z1 : size ≤ 16) (m0 : 0 ≤ most) (m1 : most ≤ 40) :
    ∃ (start : Int) (es : List E) (s' : St), f__law_house [.M n s.k, .d (.int size), .d (.int most)] = some (.ok (.d (houseD size start es)) [.M n s'.k, .d (.int size), .d (.int most)]) ∧ OkH size start es ∧ es.length ≤ most ∧ s'.Ok (m + 200) ∧ s'.cells = s.cells := by
  obtain ⟨way, s1, e1, w0, w1, h1, c1⟩ := next_spec (n := 0) (many := 4) h (by omega) (by decide) (by decide)
  obtain ⟨start, s2, e2, t0, t1, h2, c2⟩ := next_spec (n := 0) (many := size) h1 (by omega) (by omega) (by omega)
  -- the ways
  have A : ∃ (es : List E) (s' : St) (y6 : SV), i__law_house_1 [.M 1 s2.k, .d (.int size), .d (.int most), .d (.int way), .d (.int start), .L 0 [], .u, .u] = some (.nx [.M 1 s'.k, .d (.int size), .d (.int most), .d (.int way), .d (.int start), .L 0 (es.map errD), y6, .u]) ∧ es.length ≤ 64 ∧ (0 < way → es ≠ []) ∧ (∀ e ∈ es, OkE size e) ∧ s'.Ok (m + 71) ∧ s'.cells = s.cells := by
    by_cases c : 0 < way
    · obtain ⟨r, s3, e3, r0, r1, h3, c3⟩ := next_spec (n := 0) (many := 4) h2 (by omega) (by decide) (by decide)
      have hn : (rngD 0 (1 + r).toNat).length = (1 + r).toNat := rngD_len ..
      obtain ⟨fs, s4, y6, e4, p1, p2, p3, p4, p5⟩ := lhouse_ways z0 z1 (.int most) (start := start) (way := way) (1 + r).toNat [] .u h3 (by omega) (by simp; omega) (fun _ h => by cases h) (rngD 0 (1 + r).toNat) hn
      refine ⟨fs, s4, y6, ?_, by simp at p1; omega, fun _ => p2 (by omega), p3, p4.le (by omega), by rw [p5, c3, c2, c1]⟩
      have b1 := fun δ => rngI_ok (δ := δ) (j := 1 + r) (by omega) (by omega)
      simp only [List.map_nil] at e4
      simp [i__law_house_1, c, e3, b1, e4]
    · refine ⟨[], s2, .u, ?_, by simp, fun z => absurd z c, (fun _ h => by cases h), h2.le (by omega), by rw [c2, c1]⟩
      simp [i__law_house_1, c]
  obtain ⟨es, s3, y6, eA, lA, nA, oA, h3, c3⟩ := A
  -- the errands
  obtain ⟨f, s4, e4, f0, f1, h4, c4⟩ := next_spec (n := 0) (many := 5) h3 (by omega) (by decide) (by decide)
  have hj : ∃ j : Int, ixG (.list [.int f, .int 0, .int 1, .int 0]) (.int way) = some (.d (.int j)) ∧ 0 ≤ j ∧ j < 5 := by
    have e : way = 0 ∨ way = 1 ∨ way = 2 ∨ way = 3 := by omega
    rcases e with e | e | e | e <;> subst e
    · exact ⟨_, rfl, by omega, by omega⟩
    · exact ⟨_, rfl, by omega, by omega⟩
    · exact ⟨_, rfl, by omega, by omega⟩
    · exact ⟨_, rfl, by omega, by omega⟩
  obtain ⟨j, ej, j0, j1⟩ := hj
  obtain ⟨fs, s5, y7, e5, l5, o5, h5, c5⟩ := lhouse_errs z0 z1 (.int most) (start := start) (way := way) j.toNat es y6 h4 (by omega) (by omega) oA (rngD 0 j.toNat) (rngD_len ..)
  -- one less
  have B : ∃ (gs : List E) (s' : St), i__law_house_2 [.M 1 s5.k, .d (.int size), .d (.int most), .d (.int way), .d (.int start), .L 0 (fs.map errD), y7, .u] = some (.nx [.M 1 s'.k, .d (.int size), .d (.int most), .d (.int way), .d (.int start), .L 0 (gs.map errD), y7, .u]) ∧ gs.length ≤ 69 ∧ (∀ e ∈ gs, OkE size e) ∧ s'.Ok (m + 98) ∧ s'.cells = s.cells := by
    by_cases c : way = 3
    · have hf : 0 < fs.length := by
        have : es ≠ [] := nA (by omega)
        have := List.length_pos_iff.mpr this
        omega
      obtain ⟨r, s6, e6, r0, r1, h6, c6⟩ := next_spec (n := 0) (many := (fs.length : Int)) h5 (by omega) (by omega) (by omega)
      obtain ⟨y, py⟩ := popAt_map (f := errD) (l := fs) r0 r1 (by omega)
      refine ⟨fs.eraseIdx r.toNat, s6, ?_, ?_, ?_, h6.le (by omega), by rw [c6, c5, c4, c3]⟩
      · subst c
        simp [i__law_house_2, e6, py]
      · have := List.length_eraseIdx_le fs r.toNat
        omega
      · exact fun e he => o5 e (List.mem_of_mem_eraseIdx he)
    · refine ⟨fs, s5, ?_, by omega, o5, h5.le (by omega), by rw [c5, c4, c3]⟩
      simp [i__law_house_2, c]
  obtain ⟨gs, s6, eB, lB, oB, h6, c6⟩ := B
  -- one twice
  have Cc : ∃ (ks : List E) (s' : St), i__law_house_3 [.M 1 s6.k, .d (.int size), .d (.int most), .d (.int way), .d (.int start), .L 0 (gs.map errD), y7, .u] = some (.nx [.M 1 s'.k, .d (.int size), .d (.int most), .d (.int way), .d (.int start), .L 0 (ks.map errD), y7, .u]) ∧ ks.length ≤ 70 ∧ (∀ e ∈ ks, OkE size e) ∧ s'.Ok (m + 100) ∧ s'.cells = s.cells := by
    have lg := layErrs gs
    have le : layD (.list []) = true := by decide
    by_cases c : gs = []
    · subst c
      refine ⟨[], s6, ?_, by simp, (fun _ h => by cases h), h6.le (by omega), c6⟩
      simp [i__law_house_3, neG, le, PyData.eqv, PyData.eqvAll]
    · obtain ⟨r, s7, e7, r0, r1, h7, c7⟩ := next_spec (n := 0) (many := 4) h6 (by omega) (by decide) (by decide)
      have hne : PyData.eqv (.list (gs.map errD)) (.list []) = false := by
        cases gs with
        | nil => exact absurd rfl c
        | cons g r => simp [PyData.eqv, PyData.eqvAll]
      by_cases c2 : r = 0
      · have hg : 0 < gs.length := List.length_pos_iff.mpr c
        obtain ⟨q, s8, e8, q0, q1, h8, c8⟩ := next_spec (n := 0) (many := (gs.length : Int)) h7 (by omega) (by omega) (by omega)
        have ig := ix_map (f := errD) (l := gs) q0 q1
        have hs : gs.length < sizeLine := Nat.lt_of_lt_of_le (by omega) size_big
        refine ⟨gs ++ [gs[q.toNat]'(by omega)], s8, ?_, by simp; omega, ?_, h8.le (by omega), by rw [c8, c7, c6]⟩
        · subst c2
          simp [i__law_house_3, neG, lg, le, hne, e7, e8, ig, appG, hs]
        · intro e he
          rcases List.mem_append.mp he with he | he
          · exact oB e he
          · rw [List.mem_singleton.mp he]; exact oB _ (List.getElem_mem _)
      · refine ⟨gs, s7, ?_, by omega, oB, h7.le (by omega), by rw [c7, c6]⟩
        simp [i__law_house_3, neG, lg, le, hne, e7, c2]
  obtain ⟨ks, s7, eC, lC, oC, h7, c7⟩ := Cc
  obtain ⟨at_, s8, e8, a0, a1, h8, c8⟩ := next_spec (n := 0) (many := (ks.length : Int) + 1) h7 (by omega) (by omega) (by omega)
  refine ⟨start, (ks.drop at_.toNat ++ ks.take at_.toNat).take most.toNat, s8, ?_, ⟨z0, z1, t0, t1, ?_, ?_⟩, ?_, h8.le (by omega), by rw [c8, c7]⟩
  · have b1 := fun δ => rngI_ok (δ := δ) (j := j) (by omega) (by omega)
    have q1 := take_slice (ks.map errD) a0
    have q2 := drop_slice (ks.map errD) a0
    have q3 := take_slice (List.drop at_.toNat (ks.map errD) ++ List.take at_.toNat (ks.map errD)) m0
    have hs : ks.length - at_.toNat + min at_.toNat ks.length ≤ sizeLine := Nat.le_trans (by omega) size_big
    have big := fun x => le_size (n := x)
    unfold f__law_house b__law_house
    simp [e1, e2, eA, e4, ej, b1, e5, eB, eC, e8, q1, q2, q3, addG, addI, addS, addL, op2I, hs, houseD]
  · simp; omega
  · intro e he
    have he := List.mem_of_mem_take he
    rcases List.mem_append.mp he with he | he
    · exact oC e (List.mem_of_mem_drop he)
    · exact oC e (List.mem_of_mem_take he)
  · simp; omega
end CP

set_option maxHeartbeats 1000000
namespace CP
open PySem PySem.Spec PyProof.Rows L2 DL CM
/-! ### is it a house -/
def errsBad (n : Int) (es : List D) : List (D × Nat) := es.zipIdx.filter fun p => !errandB p.1 n
def faults (x : D) : List D := match x with
  | .tuple [f, s, e] => if wholeB f 2 (some 16) = true then (match f with
    | .int n => if wholeB s 0 (some (n - 1)) = true then (match e with
      | .tuple es => if es.length ≤ 40 then ((errsBad n es).map fun p => .int (p.2 : Int)).take 1 else [.str "errands"]
      | _ => [.str "errands"]) else [.str "start"]
    | _ => [.str "floors"]) else [.str "floors"]
  | _ => [.none]
theorem enum_map (xs : List D) : enumD 0 xs = xs.zipIdx.map fun p => .tuple [.int (p.2 : Int), p.1] := by
  unfold enumD
  apply List.ext_getElem?
  intro i
  simp only [List.getElem?_mapIdx, List.getElem?_map, List.getElem?_zipIdx]
  cases xs[i]? <;> simp
theorem zipIdx_fst {xs : List D} {p : D × Nat} (h : p ∈ xs.zipIdx) : p.1 ∈ xs := by
  have := List.mem_zipIdx h
  obtain ⟨_, h2, h3⟩ := this
  rw [h3]
  exact List.getElem_mem _
theorem faults_c {x f s : D} {n : Int} {es : List D} (n0 : 0 ≤ n) (n1 : n < 1000000) (hl : es.length < 1000000) (he : ∀ e ∈ es, nx 1 e = true) :
    c_faults_of_1 [.d x, .d (.int n), .d s, .d (.tuple es), .u, .u] = some (.ok (.nL ((errsBad n es).map fun p => .int (p.2 : Int))) [.d x, .d (.int n), .d s, .d (.tuple es), .u, .u]) := by
  unfold c_faults_of_1 errsBad
  refine lc_fil (fun p : D × Nat => .tuple [.int (p.2 : Int), p.1]) (fun p => !errandB p.1 n) (fun p => .int (p.2 : Int)) es.zipIdx ?_ (by simp) (by simpa using hl) fun p hp => ?_
  · simp [enum_map]
  · have e := errand_spec (he p.1 (zipIdx_fst hp)) n n0 n1
    refine ⟨[.d x, .d (.int n), .d s, .d (.tuple es), .d (.int p.2), .d p.1], ?_, ?_, ?_, fun _ => ?_⟩
    · simp
    · simp
    · simp [e]
    · simp
theorem faults_spec {x : D} (hx : nx 3 x = true) : f_faults_of [.d x] = some (.ok (.nL (faults x)) [.d x]) := by
  have it := isi_tuple (nx_no hx)
  cases x with
  | tuple xs =>
    match xs, hx with
    | [f, s, e], hx =>
      have hf := nx_tup hx f (by simp)
      have hs := nx_tup hx s (by simp)
      have he := nx_tup hx e (by simp)
      have w1 := whole_spec (nx_no hf) 2 (some 16)
      simp only [mostD] at w1
      cases f with
      | int n =>
        have w2 := whole_spec (nx_no hs) 0 (some (n - 1))
        simp only [mostD] at w2
        have ie := isi_tuple (nx_no he)
        cases c1 : wholeB (.int n) 2 (some 16) with
        | false =>
          simp [f_faults_of, b_faults_of, i_faults_of_1, i_faults_of_2, it, isTupB, w1, c1, faults]
        | true =>
          have cn : 2 ≤ n ∧ n ≤ 16 := by simpa [wholeB] using c1
          cases c2 : wholeB s 0 (some (n - 1)) with
          | false =>
            simp [f_faults_of, b_faults_of, i_faults_of_1, i_faults_of_2, i_faults_of_3, it, isTupB, w1, c1, w2, c2, faults]
          | true =>
            cases e with
            | tuple es =>
              by_cases c3 : es.length ≤ 40
              · have cc := faults_c (x := .tuple [.int n, s, .tuple es]) (f := .int n) (s := s) (n := n) (es := es) (by omega) (by omega) (by omega) (nx_tup he)
                have q := take_slice ((errsBad n es).map fun p => PyData.int (p.2 : Int)) (show (0 : Int) ≤ 1 by decide)
                have c4 : ¬ (40 : Int) < es.length := by omega
                simp [f_faults_of, b_faults_of, i_faults_of_1, i_faults_of_2, i_faults_of_3, i_faults_of_4, it, isTupB, w1, c1, w2, c2, ie, c3, c4, cc, q, faults]
              · have c4 : (40 : Int) < es.length := by omega
                simp [f_faults_of, b_faults_of, i_faults_of_1, i_faults_of_2, i_faults_of_3, i_faults_of_4, it, isTupB, w1, c1, w2, c2, ie, c3, c4, faults]
            | _ => simp [f_faults_of, b_faults_of, i_faults_of_1, i_faults_of_2, i_faults_of_3, i_faults_of_4, it, isTupB, w1, c1, w2, c2, ie, faults]
      | _ => simp [f_faults_of, b_faults_of, i_faults_of_1, i_faults_of_2, it, isTupB, w1, wholeB, faults]
    | [], hx => simp [f_faults_of, b_faults_of, i_faults_of_1, it, isTupB, faults]
    | [a], hx => simp [f_faults_of, b_faults_of, i_faults_of_1, it, isTupB, faults]
    | [a, b], hx => simp [f_faults_of, b_faults_of, i_faults_of_1, it, isTupB, faults]
    | a :: b :: c :: d :: r, hx =>
      have nl : ¬ ((r.length : Int) + 1 + 1 + 1 + 1 = 3) := by omega
      simp [f_faults_of, b_faults_of, i_faults_of_1, it, isTupB, nl, faults]
  | _ => simp [f_faults_of, b_faults_of, i_faults_of_1, it, isTupB, faults]
theorem need_house_ok {x : D} (hx : nx 3 x = true) (h : faults x = []) : f_need_house [.d x] = some (.ok (.d .none) [.d x]) := by
  have e := faults_spec hx
  simp [f_need_house, b_need_house, e, h, forGo]
theorem need_house_bad {x p : D} {r : List D} (hx : nx 3 x = true) (h : faults x = p :: r) : f_need_house [.d x] = some (.ex ⟨"BadHouse", some [("place", p)]⟩ [.d x]) := by
  have e := faults_spec hx
  simp [f_need_house, b_need_house, b_need_house_l1, e, h, forGo]
theorem whole_int {i l h : Int} : wholeB (.int i) l (some h) = (decide (l ≤ i) && decide (i ≤ h)) := rfl
theorem errandB_D {n : Int} {e : E} (h : OkE n e) : errandB (errD e) n = true := by
  obtain ⟨a, b, c, d⟩ := h
  simp [errandB, errD, whole_int]
  omega
theorem house_nx (n s : Int) (es : List E) : nx 3 (houseD n s es) = true := by
  simp [houseD, nx, errD, isExc]
theorem house_faults {n s : Int} {es : List E} (h : OkH n s es) : faults (houseD n s es) = [] := by
  have e : errsBad n (es.map errD) = [] := by
    unfold errsBad
    rw [List.filter_eq_nil_iff]
    intro p hp
    obtain ⟨e, he, hep⟩ := List.mem_map.mp (zipIdx_fst hp)
    rw [← hep, errandB_D (h.ok e he)]
    simp
  have := h.n0; have := h.n1; have := h.s0; have := h.s1; have := h.len
  have c1 : 2 ≤ n ∧ n ≤ 16 := by omega
  have c2 : 0 ≤ s ∧ s ≤ n - 1 := by omega
  simp [faults, houseD, whole_int, c1, c2, h.len, e]
theorem need_house_D {n s : Int} {es : List E} (h : OkH n s es) : f_need_house [.d (houseD n s es)] = some (.ok (.d .none) [.d (houseD n s es)]) := need_house_ok (house_nx n s es) (house_faults h)
/-! ### ends -/
def endI (n : Int) (e : E) : Int := (e.1 + e.2) % n
theorem end_spec {n : Int} (h0 : 0 < n) (e : E) : f_end_of [.d (.int n), .d (errD e)] = some (.ok (.d (.int (endI n e))) [.d (.int n), .d (errD e)]) := by
  have m1 : modG (.int (e.1 + e.2)) (.int n) = some (.d (.int ((e.1 + e.2) % n))) := modG_ii h0
  simp [f_end_of, b_end_of, errD, m1, endI]
def endsD (n : Int) (es : List E) : D := .tuple (es.map fun e => .int (endI n e))
theorem own_ends_spec {n s : Int} {es : List E} (h : 0 < n) (hl : es.length < 1000000) : f_own_ends [.d (houseD n s es)] = some (.ok (.d (endsD n es)) [.d (houseD n s es)]) := by
  have c : c_own_ends_1 [.d (houseD n s es), .d (.int n), .d (.int s), .d (.tuple (es.map errD)), .u] = some (.ok (.nL (es.map fun e => .int (endI n e))) [.d (houseD n s es), .d (.int n), .d (.int s), .d (.tuple (es.map errD)), .u]) := by
    unfold c_own_ends_1
    refine lc_map errD _ es (by simp) (by simp) hl fun e he => ⟨[.d (houseD n s es), .d (.int n), .d (.int s), .d (.tuple (es.map errD)), .d (errD e)], ?_, ?_, ?_⟩
    · simp
    · simp
    · simp [end_spec h e]
  unfold f_own_ends b_own_ends
  unfold houseD at c ⊢
  simp [c, endsD]
theorem ends_spec {n s : Int} {es : List E} (h : OkH n s es) : f_ends [.d (houseD n s es)] = some (.ok (.d (endsD n es)) [.d (houseD n s es)]) := by
  have e1 := need_house_D h
  have e2 := own_ends_spec (n := n) (s := s) (es := es) (by have := h.n0; omega) (by have := h.len; omega)
  simp [f_ends, b_ends, e1, e2]
/-! ### loads -/
def ovAt (n : Int) (e : E) (i : Int) : Int := e.2 / n + (if (i - e.1) % n < e.2 % n then 1 else 0)
def overI (n : Int) (e : E) : List Int := (List.range n.toNat).map fun (i : Nat) => ovAt n e (i : Int)
theorem over_spec {n : Int} (h0 : 0 < n) (h1 : n < 1000000) (e : E) : f_over [.d (.int n), .d (errD e)] = some (.ok (.d (.tuple ((overI n e).map .int))) [.d (.int n), .d (errD e)]) := by
  have dm : divmodG [.int e.2, .int n] = some (.d (.tuple [.int (e.2 / n), .int (e.2 % n)])) := by
    have : 0 < n ∧ n < 1073741824 := by omega
    simp [divmodG, this]
  have b1 := fun δ => rngI_ok (δ := δ) (j := n) (by omega) (by omega)
  have c : c_over_1 [.d (.int n), .d (errD e), .d (.int e.1), .d (.int e.2), .d (.int (e.2 / n)), .d (.int (e.2 % n)), .u] = some (.ok (.nL ((List.range n.toNat).map fun (i : Nat) => .int (ovAt n e (i : Int)))) [.d (.int n), .d (errD e), .d (.int e.1), .d (.int e.2), .d (.int (e.2 / n)), .d (.int (e.2 % n)), .u]) := by
    unfold c_over_1
    refine lc_map (fun (i : Nat) => PyData.int (i : Int)) _ (List.range n.toNat) (by simp [b1, rngD_map]) (by simp) (by simp; omega) fun i hi => ⟨[.d (.int n), .d (errD e), .d (.int e.1), .d (.int e.2), .d (.int (e.2 / n)), .d (.int (e.2 % n)), .d (.int i)], ?_, ?_, ?_⟩
    · simp
    · simp
    · have m1 : modG (.int ((i : Int) - e.1)) (.int n) = some (.d (.int (((i : Int) - e.1) % n))) := modG_ii h0
      simp [m1, intG, ovAt]
  unfold f_over b_over
  simp only [errD] at c ⊢
  simp [dm, c, overI]
def loadAt (n : Int) (es : List E) (i : Int) : Int := (es.map fun e => ovAt n e i).sum
def loadsI (n : Int) (es : List E) : List Int := (List.range n.toNat).map fun (i : Nat) => loadAt n es (i : Int)
def loadsD (n : Int) (es : List E) : D := .tuple ((loadsI n es).map .int)
theorem zip_ints {f g : Nat → Int} (m : Nat) : zipD ((List.range m).map fun i => PyData.int (f i)) ((List.range m).map fun i => PyData.int (g i)) = (List.range m).map fun i => .tuple [.int (f i), .int (g i)] := by
  unfold zipD
  rw [List.zipWith_map, List.zipWith_self]
theorem loads_turn {n : Int} (h0 : 0 < n) (h1 : n < 1000000) {H s t x6 x7 : SV} (acc : Nat → Int) (e : E) (hx : x6.own = false) (hy : x7.own = false) (k : Nat) :
    b_own_loads_l1 [H, .d (.int n), s, t, .L k ((List.range n.toNat).map fun i => .int (acc i)), .d (errD e), x6, x7] = some (.nx [H, .d (.int n), s, t, .L 0 ((List.range n.toNat).map fun i => .int (acc i + ovAt n e (i : Int))), .d (errD e), x6, x7]) := by
  have o := over_spec h0 h1 e
  have z := zip_ints (f := acc) (g := fun i => ovAt n e (i : Int)) n.toNat
  have ev : (overI n e).map PyData.int = (List.range n.toNat).map fun (i : Nat) => PyData.int (ovAt n e (i : Int)) := by simp [overI, Function.comp_def]
  have c : c_own_loads_1 [H, .d (.int n), s, t, .L k ((List.range n.toNat).map fun i => .int (acc i)), .d (errD e), x6, x7] = some (.ok (.nL ((List.range n.toNat).map fun i => .int (acc i + ovAt n e (i : Int)))) [H, .d (.int n), s, t, .d (.list ((List.range n.toNat).map fun i => .int (acc i))), .d (errD e), x6, x7]) := by
    unfold c_own_loads_1
    refine lc_map (fun (i : Nat) => PyData.tuple [.int (acc i), .int (ovAt n e (i : Int))]) _ (List.range n.toNat) ?_ (by simp [hx, hy]) (by simp; omega) fun i hi => ⟨[H, .d (.int n), s, t, .d (.list ((List.range n.toNat).map fun i => .int (acc i))), .d (errD e), .d (.int (acc i)), .d (.int (ovAt n e (i : Int)))], ?_, ?_, ?_⟩
    · simp [o, ev, z]
    · simp
    · simp
    · simp
  unfold b_own_loads_l1
  simp [c]
theorem loads_loop {n : Int} (h0 : 0 < n) (h1 : n < 1000000) {H s t : SV} (es : List E) : ∀ (acc : Nat → Int) (x5 : SV), ∃ y5 : SV, forGo (nameT 5) b_own_loads_l1 (es.map errD) [H, .d (.int n), s, t, .L 0 ((List.range n.toNat).map fun i => .int (acc i)), x5, .u, .u] = some (.nx [H, .d (.int n), s, t, .L 0 ((List.range n.toNat).map fun i => .int (acc i + loadAt n es (i : Int))), y5, .u, .u]) := by
  induction es with
  | nil => intro acc x5; exact ⟨x5, by simp [forGo, loadAt]⟩
  | cons e r ih =>
    intro acc x5
    obtain ⟨y5, h⟩ := ih (fun i => acc i + ovAt n e (i : Int)) (.d (errD e))
    refine ⟨y5, ?_⟩
    have tn := loads_turn h0 h1 (H := H) (s := s) (t := t) (x6 := .u) (x7 := .u) acc e rfl rfl 0
    simp only [List.map_cons, forGo, r_nameT, List.set_cons_succ, List.set_cons_zero, tn, h]
    simp [loadAt, Int.add_assoc]
theorem rep0 (n : Nat) : (List.range n).map (fun _ => PyData.int 0) = List.replicate n (PyData.int 0) := by
  rw [List.map_const', List.length_range]
theorem own_loads_spec {n s : Int} {es : List E} (h0 : 0 < n) (h1 : n ≤ 1000) : f_own_loads [.d (houseD n s es)] = some (.ok (.d (loadsD n es)) [.d (houseD n s es)]) := by
  obtain ⟨y5, e1⟩ := loads_loop h0 (by omega) (H := .d (houseD n s es)) (s := .d (.int s)) (t := .d (.tuple (es.map errD))) es (fun _ => 0) .u
  have b := fun δ => repI_ok (δ := δ) (xs := [.int 0]) (k := n) (by omega) (by omega) (by simp)
  unfold f_own_loads b_own_loads
  simp only [houseD] at e1 ⊢
  rw [rep0] at e1
  simp [b, e1, loadsD, loadsI]
theorem loads_spec {n s : Int} {es : List E} (h : OkH n s es) : f_loads [.d (houseD n s es)] = some (.ok (.d (loadsD n es)) [.d (houseD n s es)]) := by
  have e1 := need_house_D h
  have e2 := own_loads_spec (n := n) (s := s) (es := es) (by have := h.n0; omega) (by have := h.n1; omega)
  simp [f_loads, b_loads, e1, e2]
theorem toInts_map (l : List Int) : toInts (l.map .int) = some l := by
  unfold toInts
  induction l with
  | nil => rfl
  | cons x r ih => simp [List.mapM_cons, ih]
def greatI (n : Int) (es : List E) : Int := (maxI (loadsI n es)).getD 0
theorem max_ints {l : List Int} (b : Bool) (hl : l ≠ []) : maxGB [if b then .tuple (l.map .int) else .list (l.map .int)] = some (.d (.int ((maxI l).getD 0))) := by
  have e : seqInts (if b then .tuple (l.map .int) else .list (l.map .int)) = some l := by
    cases b <;> simp [seqInts, toInts_map]
  show ((seqInts _).bind maxI).map (fun m => Res.d (.int m)) = _
  rw [e]
  cases l with
  | nil => exact absurd rfl hl
  | cons x r => simp [maxI]
theorem sum_ints {l : List Int} (b : Bool) : sumGB [if b then .tuple (l.map .int) else .list (l.map .int)] = some (.d (.int l.sum)) := by
  have e : seqInts (if b then .tuple (l.map .int) else .list (l.map .int)) = some l := by
    cases b <;> simp [seqInts, toInts_map]
  show (seqInts _).map (fun ns => Res.d (.int ns.sum)) = _
  rw [e]
  rfl
theorem loadsI_ne {n : Int} {es : List E} (h : 0 < n) : loadsI n es ≠ [] := by
  intro z
  have := congrArg List.length z
  simp [loadsI] at this
  omega
theorem greatest_spec {n s : Int} {es : List E} (h : OkH n s es) : f_greatest [.d (houseD n s es)] = some (.ok (.d (.int (greatI n es))) [.d (houseD n s es)]) := by
  have e1 := need_house_D h
  have e2 := own_loads_spec (n := n) (s := s) (es := es) (by have := h.n0; omega) (by have := h.n1; omega)
  have e3 := max_ints true (loadsI_ne (n := n) (es := es) (by have := h.n0; omega))
  simp only [if_true] at e3
  simp [f_greatest, b_greatest, e1, e2, loadsD, e3, greatI]
theorem need_number_ok {n s i : Int} {es : List E} (h0 : 0 ≤ i) (h1 : i < es.length) : f_need_own_number [.d (houseD n s es), .d (.int i)] = some (.ok (.d .none) [.d (houseD n s es), .d (.int i)]) := by
  have w := whole_spec (x := .int i) rfl 0 (some ((es.length : Int) - 1))
  have c : (0 ≤ i ∧ i ≤ (es.length : Int) - 1) := by omega
  simp only [mostD, whole_int, c, decide_true, Bool.and_self] at w
  have ix : ixG (houseD n s es) (.int 2) = some (.d (.tuple (es.map errD))) := rfl
  simp [f_need_own_number, b_need_own_number, i_need_own_number_1, ix, w]
theorem need_number_bad {n s : Int} {x : D} {es : List E} (hx : isExc x = false) (h : wholeB x 0 (some ((es.length : Int) - 1)) = false) : f_need_own_number [.d (houseD n s es), .d x] = some (.ex ⟨"BadNumber", some [("about", x)]⟩ [.d (houseD n s es), .d x]) := by
  have w := whole_spec (x := x) hx 0 (some ((es.length : Int) - 1))
  simp only [mostD, h] at w
  have ix : ixG (houseD n s es) (.int 2) = some (.d (.tuple (es.map errD))) := rfl
  simp [f_need_own_number, b_need_own_number, i_need_own_number_1, ix, w]
theorem lies_spec {n s i : Int} {es : List E} (h : OkH n s es) (h0 : 0 ≤ i) (h1 : i < es.length) : f_lies_over [.d (houseD n s es), .d (.int i)] = some (.ok (.d (.tuple ((overI n (es[i.toNat]'(by omega))).map .int))) [.d (houseD n s es), .d (.int i)]) := by
  have e1 := need_house_D h
  have e2 := need_number_ok (n := n) (s := s) h0 h1
  have ix0 : ixG (houseD n s es) (.int 0) = some (.d (.int n)) := rfl
  have ix2 : ixG (houseD n s es) (.int 2) = some (.d (.tuple (es.map errD))) := rfl
  have ix := ixT_map (f := errD) (l := es) h0 h1
  have o := over_spec (n := n) (by have := h.n0; omega) (by have := h.n1; omega) (es[i.toNat]'(by omega))
  simp [f_lies_over, b_lies_over, e1, e2, ix0, ix2, ix, o]
end CP

set_option maxHeartbeats 1000000
namespace CP
open PySem PySem.Spec PyProof.Rows L2 DL CM
/-! ### texts of houses -/
theorem layInts : ∀ (l : List Int) (k : Nat), (l.map PyData.int).all (lay k) = true := by
  intro l k
  rw [List.all_eq_true]
  intro x hx
  obtain ⟨i, _, rfl⟩ := List.mem_map.mp hx
  cases k <;> rfl
theorem rk_ints {l : List Int} {k : Nat} (h : ∀ i ∈ l, i.natAbs < 10 ^ 12) : Rk (k + 1) (l.length * 42) (.tuple (l.map .int)) := by
  have := rk_tup (n := k) (w := 41) (xs := l.map .int) fun x hx => by
    obtain ⟨i, hi, rfl⟩ := List.mem_map.mp hx
    exact rk_int (h i hi)
  simpa using this
theorem rk_pair {a b : D} {k w : Nat} (ha : Rk k w a) (hb : Rk k w b) : Rk (k + 1) (2 * (w + 1)) (.list [a, b]) := by
  have := rk_list (n := k) (w := w) (xs := [a, b]) fun x hx => by
    simp only [List.mem_cons, List.not_mem_nil, or_false] at hx
    rcases hx with rfl | rfl
    · exact ha
    · exact hb
  exact this
section
variable {n s : Int} {es : List E}
theorem rk_errs (h1 : n ≤ 16) (ho : ∀ e ∈ es, OkE n e) : Rk 2 (es.length * 85) (.tuple (es.map errD)) := by
  have := rk_tup (n := 1) (w := 84) (xs := es.map errD) fun x hx => by
    obtain ⟨e, hm, rfl⟩ := List.mem_map.mp hx
    have o := ho e hm
    have := rk_ints (l := [e.1, e.2]) (k := 0) fun i hi => by
      have := o.1; have := o.2.1; have := o.2.2.1; have := o.2.2.2
      simp only [List.mem_cons, List.not_mem_nil, or_false] at hi
      rcases hi with rfl | rfl <;> omega
    exact this
  rw [List.length_map] at this
  exact this
theorem rk_house (h : OkH n s es) : Rk 3 10512 (houseD n s es) := by
  have := h.n0; have := h.n1; have := h.len; have := h.s0; have := h.s1
  have he : Rk 2 3480 (.tuple (es.map errD)) := (rk_errs h.n1 h.ok).le (by omega)
  refine (rk_tup (n := 2) (w := 3480) (xs := [.int n, .int s, .tuple (es.map errD)]) fun x hx => ?_).le (by simp)
  simp only [List.mem_cons, List.not_mem_nil, or_false] at hx
  rcases hx with rfl | rfl | rfl
  · exact (rk_int (by omega)).le (by decide)
  · exact (rk_int (by omega)).le (by decide)
  · exact he
theorem layErrT (es : List E) (k : Nat) : lay (k + 2) (.tuple (es.map errD)) = true := by
  simp only [lay, List.all_map, List.all_eq_true]
  intro e _
  exact layErr e k
theorem layHouse (n s : Int) (es : List E) : layD (houseD n s es) = true := by
  have := layErrT es 5
  simp only [layD, houseD, lay, List.all_cons, List.all_nil, Bool.and_true, Bool.true_and]
  exact this
theorem house_inj {n s n' s' : Int} {es es' : List E} : houseD n s es = houseD n' s' es' ↔ n = n' ∧ s = s' ∧ es = es' := by
  constructor
  · intro h
    simp only [houseD, PyData.tuple.injEq, List.cons.injEq, PyData.int.injEq, and_true] at h
    obtain ⟨h1, h2, h3⟩ := h
    refine ⟨h1, h2, ?_⟩
    have inj : ∀ a b : List E, a.map errD = b.map errD → a = b := by
      intro a
      induction a with
      | nil => intro b h; cases b with
        | nil => rfl
        | cons _ _ => simp at h
      | cons x r ih => intro b h; cases b with
        | nil => simp at h
        | cons y q =>
          simp only [List.map_cons, List.cons.injEq, errD, PyData.tuple.injEq, PyData.int.injEq, and_true] at h
          rw [ih q h.2]
          congr 1
          exact Prod.ext h.1.1 h.1.2
    exact inj _ _ h3
  · rintro ⟨rfl, rfl, rfl⟩; rfl
/-! ### houses changed -/
theorem need_floor_ok {x : Int} (h0 : 0 ≤ x) (h1 : x < n) : f_need_own_floor [.d (houseD n s es), .d (.int x)] = some (.ok (.d .none) [.d (houseD n s es), .d (.int x)]) := by
  have w := whole_spec (x := .int x) rfl 0 (some (n - 1))
  have c : 0 ≤ x ∧ x ≤ n - 1 := by omega
  simp only [mostD, whole_int, c, decide_true, Bool.and_self] at w
  have ix : ixG (houseD n s es) (.int 0) = some (.d (.int n)) := rfl
  simp [f_need_own_floor, b_need_own_floor, i_need_own_floor_1, ix, w]
theorem need_floor_bad {x : D} (hx : isExc x = false) (h : wholeB x 0 (some (n - 1)) = false) : f_need_own_floor [.d (houseD n s es), .d x] = some (.ex ⟨"BadNumber", some [("about", x)]⟩ [.d (houseD n s es), .d x]) := by
  have w := whole_spec hx 0 (some (n - 1))
  simp only [mostD, h] at w
  have ix : ixG (houseD n s es) (.int 0) = some (.d (.int n)) := rfl
  simp [f_need_own_floor, b_need_own_floor, i_need_own_floor_1, ix, w]
theorem need_errand_ok (n0 : 0 ≤ n) (n1 : n < 1000000) {x : D} (hx : nx 1 x = true) (h : errandB x n = true) : f_need_own_errand [.d (houseD n s es), .d x] = some (.ok (.d .none) [.d (houseD n s es), .d x]) := by
  have w := errand_spec hx n n0 n1
  rw [h] at w
  have ix : ixG (houseD n s es) (.int 0) = some (.d (.int n)) := rfl
  simp [f_need_own_errand, b_need_own_errand, i_need_own_errand_1, ix, w]
theorem need_errand_bad (n0 : 0 ≤ n) (n1 : n < 1000000) {x : D} (hx : nx 1 x = true) (h : errandB x n = false) : f_need_own_errand [.d (houseD n s es), .d x] = some (.ex ⟨"BadErrand", none⟩ [.d (houseD n s es), .d x]) := by
  have w := errand_spec hx n n0 n1
  rw [h] at w
  have ix : ixG (houseD n s es) (.int 0) = some (.d (.int n)) := rfl
  simp [f_need_own_errand, b_need_own_errand, i_need_own_errand_1, ix, w]
theorem need_room_ok (h : es.length ≠ 40) : f_need_room [.d (houseD n s es)] = some (.ok (.d .none) [.d (houseD n s es)]) := by
  have ix : ixG (houseD n s es) (.int 2) = some (.d (.tuple (es.map errD))) := rfl
  have c : ¬ ((es.length : Int) = 40) := by omega
  simp [f_need_room, b_need_room, i_need_room_1, ix, c]
theorem need_room_bad (h : es.length = 40) : f_need_room [.d (houseD n s es)] = some (.ex ⟨"TooMany", some [("most", .int 40)]⟩ [.d (houseD n s es)]) := by
  have ix : ixG (houseD n s es) (.int 2) = some (.d (.tuple (es.map errD))) := rfl
  have c : (es.length : Int) = 40 := by omega
  simp [f_need_room, b_need_room, i_need_room_1, ix, c]
theorem errD_nx (e : E) : nx 1 (errD e) = true := rfl
theorem with_spec (h : OkH n s es) {e : E} (he : OkE n e) (hl : es.length < 40) : f_with_errand [.d (houseD n s es), .d (errD e)] = some (.ok (.d (houseD n s (es ++ [e]))) [.d (houseD n s es), .d (errD e)]) := by
  have e1 := need_house_D h
  have e2 := need_errand_ok (s := s) (es := es) (by have := h.n0; omega) (by have := h.n1; omega) (errD_nx e) (errandB_D he)
  have e3 := need_room_ok (n := n) (s := s) (es := es) (by omega)
  have hs : es.length + 1 ≤ sizeLine := Nat.le_trans (by omega) size_big
  simp [f_with_errand, b_with_errand, e1, e2, e3]
  simp [houseD, addG, addI, addS, addL, addT, op2I, hs]
theorem cut_tail (xs : List D) {i : Int} (h0 : 0 ≤ i) : DL.cutD xs (some (i + 1)) none = xs.drop (i.toNat + 1) := by
  rw [drop_slice xs (show 0 ≤ i + 1 by omega), show (i + 1).toNat = i.toNat + 1 by omega]
theorem without_spec (h : OkH n s es) {i : Int} (h0 : 0 ≤ i) (h1 : i < es.length) : f_without [.d (houseD n s es), .d (.int i)] = some (.ok (.d (houseD n s (es.eraseIdx i.toNat))) [.d (houseD n s es), .d (.int i)]) := by
  have e1 := need_house_D h
  have e2 := need_number_ok (n := n) (s := s) h0 h1
  have c1 := take_slice (es.map errD) h0
  have c2 := cut_tail (es.map errD) h0
  have hl := h.len
  have hs : min i.toNat es.length + (es.length - (i.toNat + 1)) ≤ sizeLine := Nat.le_trans (by omega) size_big
  have er : (es.eraseIdx i.toNat).map errD = (es.map errD).take i.toNat ++ (es.map errD).drop (i.toNat + 1) := by
    rw [List.eraseIdx_eq_take_drop_succ, List.map_append, List.map_take, List.map_drop]
  simp [f_without, b_without, e1, e2]
  simp [houseD, c1, c2, addG, addI, addS, addL, addT, op2I, hs, er]
theorem started_spec (h : OkH n s es) {x : Int} (h0 : 0 ≤ x) (h1 : x < n) : f_started [.d (houseD n s es), .d (.int x)] = some (.ok (.d (houseD n x es)) [.d (houseD n s es), .d (.int x)]) := by
  have e1 := need_house_D h
  have e2 := need_floor_ok (s := s) (es := es) h0 h1
  simp [f_started, b_started, e1, e2]
  simp [houseD]
def rollE (n k : Int) (e : E) : E := ((e.1 + k) % n, e.2)
theorem rolled_c (h0 : 0 < n) (hl : es.length < 1000000) {k : Int} {H d1 d3 : SV} : c_rolled_1 [H, .d (.int k), .d (.int n), d3, .d (.tuple (es.map errD)), d1, .u, .u] = some (.ok (.nL ((es.map (rollE n k)).map errD)) [H, .d (.int k), .d (.int n), d3, .d (.tuple (es.map errD)), d1, .u, .u]) := by
  unfold c_rolled_1
  rw [List.map_map]
  refine lc_map errD _ es (by simp) (by simp) hl fun e he => ⟨[H, .d (.int k), .d (.int n), d3, .d (.tuple (es.map errD)), d1, .d (.int e.1), .d (.int e.2)], ?_, ?_, ?_⟩
  · simp [errD]
  · simp
  · have m1 : modG (.int (e.1 + k)) (.int n) = some (.d (.int ((e.1 + k) % n))) := modG_ii h0
    simp [m1, rollE, errD]
theorem rolled_spec (h : OkH n s es) (k : Int) : f_rolled [.d (houseD n s es), .d (.int k)] = some (.ok (.d (houseD n ((s + k) % n) (es.map (rollE n k)))) [.d (houseD n s es), .d (.int k)]) := by
  have := h.n0; have := h.len
  have e1 := need_house_D h
  have e2 := number_spec (x := .int k) rfl
  have c := rolled_c (n := n) (es := es) (by omega) (by omega) (k := k) (H := .d (houseD n s es)) (d1 := .u) (d3 := .d (.int s))
  have m1 : modG (.int (s + k)) (.int n) = some (.d (.int ((s + k) % n))) := modG_ii (by omega)
  simp [f_rolled, b_rolled, e1, e2, numB]
  simp only [houseD] at c ⊢
  simp [c, m1]
theorem roll_ok (h : OkH n s es) (k : Int) : OkH n ((s + k) % n) (es.map (rollE n k)) := by
  have := h.n0
  refine ⟨h.n0, h.n1, Int.emod_nonneg _ (by omega), Int.emod_lt_of_pos _ (by omega), by simpa using h.len, fun e he => ?_⟩
  obtain ⟨x, hx, rfl⟩ := List.mem_map.mp he
  have o := h.ok x hx
  exact ⟨Int.emod_nonneg _ (by omega), Int.emod_lt_of_pos _ (by omega), o.2.2.1, o.2.2.2⟩
end
/-! ### is it one -/
theorem faults_lay {x y : D} (h : y ∈ faults x) : lay 7 y = true := by
  have f1 : lay 7 (.str "floors") = true := by decide +kernel
  have f2 : lay 7 (.str "start") = true := by decide +kernel
  have f3 : lay 7 (.str "errands") = true := by decide +kernel
  unfold faults at h
  repeat' split at h
  all_goals first
    | (rw [List.mem_singleton.mp h]; first | exact f1 | exact f2 | exact f3 | rfl)
    | (obtain ⟨p, _, rfl⟩ := List.mem_map.mp (List.mem_of_mem_take h); rfl)
theorem layFaults {x : D} : layD (.list (faults x)) = true := by
  show (faults x).all (lay 7) = true
  rw [List.all_eq_true]
  exact fun y hy => faults_lay hy
theorem is_house_spec {x : D} (hx : nx 3 x = true) : f_is_house [.d x] = some (.ok (.d (.bool (decide (faults x = [])))) [.d x]) := by
  have e1 := faults_spec hx
  have l1 := layFaults (x := x)
  have l2 : layD (.list []) = true := by decide
  have q : PyData.eqv (.list (faults x)) (.list []) = decide (faults x = []) := by
    cases faults x <;> simp [PyData.eqv, PyData.eqvAll]
  simp [f_is_house, b_is_house, e1, eqG, l1, l2, q]
end CP

set_option maxHeartbeats 1000000
namespace CP
open PySem PySem.Spec PyProof.Rows L2 DL CM
/-! ### rides: a walk step by step -/
structure Wk where
  at_ : Int
  stops : List Int
  taken : List (Nat × Int)
  gone : Int
def tkK (t : List (Nat × Int)) : List (Key × D) := t.map fun p => (.inl (p.1 : Int), .int p.2)
def tkD (t : List (Nat × Int)) : D := .dict (kvD (tkK t))
def isTk (t : List (Nat × Int)) (i : Int) : Bool := t.any fun p => decide ((p.1 : Int) = i)
/-- which errand waits here, if the move is one that waits -/
def waits (es : List E) (taken : List (Nat × Int)) (at_ : Int) (x : D) : Option Nat := match x with
  | .int i => if 0 ≤ i ∧ i < es.length ∧ isTk taken i = false ∧ (es.getD i.toNat (0, 0)).1 = at_ then some i.toNat else none
  | _ => none
def Wk.go (n : Int) (w : Wk) (steps : Int) : Wk := ⟨(w.at_ + steps) % n, w.stops ++ [(w.at_ + steps) % n], w.taken, w.gone + steps⟩
def Wk.take (w : Wk) (k : Nat) : Wk := ⟨w.at_, w.stops, w.taken ++ [(k, w.gone)], w.gone⟩
def Wk.step (n : Int) (es : List E) (w : Wk) (x : D) : Option Wk := if isD x = true then some (w.go n 1) else (waits es w.taken w.at_ x).map fun k => (w.take k).go n (es.getD k (0, 0)).2
def walkG (n : Int) (es : List E) : List D → Nat → Wk → Wk × Option Nat
  | [], _, w => (w, none)
  | x :: r, k, w => match w.step n es x with
    | some w' => walkG n es r (k + 1) w'
    | none => (w, some k)
def Wk.start (s : Int) : Wk := ⟨s, [s], [], 0⟩
theorem tk_val (t : List (Nat × Int)) (i : Int) : (valD (tkK t) (.inl i)).isSome = isTk t i := by
  unfold valD tkK isTk
  rw [List.find?_map, Option.isSome_map, Option.isSome_map, List.isSome_find?]
  congr 1
  funext p
  simp
theorem tk_put {t : List (Nat × Int)} {i g : Int} (h0 : 0 ≤ i) (h : isTk t i = false) : putD (tkK t) (.inl i) (.int g) = tkK (t ++ [(i.toNat, g)]) := by
  have e : ((tkK t).any fun p => decide (p.1 = Sum.inl i)) = isTk t i := by
    unfold tkK isTk
    rw [List.any_map]
    congr 1
    funext p
    simp
  unfold putD
  rw [e, h, if_neg (by decide)]
  simp [tkK, Int.toNat_of_nonneg h0]
section
variable {n : Int} {es : List E} {H M x10 : SV} {w : Wk} {x : D} {k : Nat}
theorem wk_none (n0 : 0 < n) (hs : w.stops.length < 900000) :
    b_walked_l1 [H, M, .d (.int n), .d (.int w.at_), .d (.tuple (es.map errD)), .L 0 (w.stops.map .int), .M 0 (tkK w.taken), .d (.int w.gone), .d (.int k), .d .none, x10]
      = some (.nx [H, M, .d (.int n), .d (.int (w.go n 1).at_), .d (.tuple (es.map errD)), .L 0 ((w.go n 1).stops.map .int), .M 0 (tkK (w.go n 1).taken), .d (.int (w.go n 1).gone), .d (.int k), .d .none, .d (.int 1)]) := by
  have hl : w.stops.length < sizeLine := Nat.lt_of_lt_of_le (by omega) size_big
  unfold b_walked_l1 i_walked_2
  simp [isnG, isD, n0, appG, hl, Wk.go]
theorem wk_bad (hx : isExc x = false) (hd : isD x = false) (h : waits es w.taken w.at_ x = none) :
    b_walked_l1 [H, M, .d (.int n), .d (.int w.at_), .d (.tuple (es.map errD)), .L 0 (w.stops.map .int), .M 0 (tkK w.taken), .d (.int w.gone), .d (.int k), .d x, x10]
      = some (.ex ⟨"BadRide", some [("number", .int k)]⟩ [H, M, .d (.int n), .d (.int w.at_), .d (.tuple (es.map errD)), .L 0 (w.stops.map .int), .M 0 (tkK w.taken), .d (.int w.gone), .d (.int k), .d x, .d (.int 1)]) := by
  have w1 := whole_spec hx 0 (some ((es.length : Int) - 1))
  simp only [mostD] at w1
  cases q : wholeB x 0 (some ((es.length : Int) - 1)) with
  | false =>
    rw [q] at w1
    unfold b_walked_l1 i_walked_2 i_walked_1
    simp [isnG, hd, w1]
  | true =>
    rw [q] at w1
    cases x with
    | int i =>
      have b : 0 ≤ i ∧ i ≤ (es.length : Int) - 1 := by simpa [wholeB] using q
      have i1 := in_kv (tkK w.taken) i
      rw [tk_val] at i1
      have ix := ixT_map (f := errD) (l := es) (i := i) b.1 (by omega)
      cases c : isTk w.taken i with
      | true =>
        rw [c] at i1
        unfold b_walked_l1 i_walked_2 i_walked_1
        simp [isnG, isD, w1, i1]
      | false =>
        rw [c] at i1
        have ne : ¬ (es[i.toNat]'(by omega)).1 = w.at_ := by
          intro z
          have lt : i.toNat < es.length := by omega
          have e : es.getD i.toNat (0, 0) = es[i.toNat]'lt := by simp [List.getD, List.getElem?_eq_getElem lt]
          simp only [waits] at h
          rw [if_pos ⟨b.1, by omega, c, by rw [e]; exact z⟩] at h
          cases h
        unfold b_walked_l1 i_walked_2 i_walked_1
        simp [isnG, isD, w1, i1, ix, errD, ne]
    | _ => simp [wholeB] at q
theorem wk_ok {j : Nat} (n0 : 0 < n) (hs : w.stops.length < 900000) (ht : w.taken.length < 900000) (hx : isExc x = false) (hd : isD x = false) (h : waits es w.taken w.at_ x = some j) :
    b_walked_l1 [H, M, .d (.int n), .d (.int w.at_), .d (.tuple (es.map errD)), .L 0 (w.stops.map .int), .M 0 (tkK w.taken), .d (.int w.gone), .d (.int k), .d x, x10]
      = some (.nx [H, M, .d (.int n), .d (.int ((w.take j).go n (es.getD j (0, 0)).2).at_), .d (.tuple (es.map errD)), .L 0 (((w.take j).go n (es.getD j (0, 0)).2).stops.map .int), .M 0 (tkK ((w.take j).go n (es.getD j (0, 0)).2).taken), .d (.int ((w.take j).go n (es.getD j (0, 0)).2).gone), .d (.int k), .d x, .d (.int (es.getD j (0, 0)).2)]) := by
  have w1 := whole_spec hx 0 (some ((es.length : Int) - 1))
  simp only [mostD] at w1
  cases x with
  | int i =>
    simp only [waits] at h
    split at h
    · rename_i b
      obtain ⟨b0, b1, b2, b3⟩ := b
      cases h
      have lt : i.toNat < es.length := by omega
      have e : es.getD i.toNat (0, 0) = es[i.toNat]'lt := by simp [List.getD, List.getElem?_eq_getElem lt]
      rw [e] at b3 ⊢
      have q : wholeB (.int i) 0 (some ((es.length : Int) - 1)) = true := by simp [wholeB]; omega
      rw [q] at w1
      have i1 := in_kv (tkK w.taken) i
      rw [tk_val, b2] at i1
      have ix := ixT_map (f := errD) (l := es) (i := i) b0 (by omega)
      have hl : w.stops.length < sizeLine := Nat.lt_of_lt_of_le (by omega) size_big
      have hk : (tkK w.taken).length < sizeLine := Nat.lt_of_lt_of_le (by simp [tkK]; omega) size_big
      have pt := tk_put (t := w.taken) (i := i) (g := w.gone) b0 b2
      have su := fun (y : D) (x10 : SV) => subT_M (δ := [H, M, .d (.int n), .d (.int w.at_), .d (.tuple (es.map errD)), .L 0 (w.stops.map .int), .M 0 (tkK w.taken), .d (.int w.gone), .d (.int k), .d (.int i), x10]) (j := 6) (l := 9) (y := y) rfl rfl hk
      unfold b_walked_l1 i_walked_2 i_walked_1
      simp [isnG, isD, w1, i1, ix, errD, b3, su, pt, n0, appG, hl, Wk.go, Wk.take]
    · cases h
  | _ => simp [waits] at h
end
end CP

set_option maxHeartbeats 1000000
namespace CP
open PySem PySem.Spec PyProof.Rows L2 DL CM
theorem isD_none {x : D} (h : isD x = true) : x = .none := by
  cases x <;> simp [isD] at h
  rfl
/-- the walk's slots -/
def wD (H M : SV) (n : Int) (es : List E) (w : Wk) (x8 x9 x10 : SV) : List SV := [H, M, .d (.int n), .d (.int w.at_), .d (.tuple (es.map errD)), .L 0 (w.stops.map .int), .M 0 (tkK w.taken), .d (.int w.gone), x8, x9, x10]
def badRide (k : Nat) : XD := ⟨"BadRide", some [("number", .int k)]⟩
def numbered (xs : List D) (k : Nat) : List D := (xs.zipIdx k).map fun p => .tuple [.int (p.2 : Int), p.1]
theorem numbered_cons (x : D) (r : List D) (k : Nat) : numbered (x :: r) k = .tuple [.int (k : Int), x] :: numbered r (k + 1) := by simp [numbered, List.zipIdx_cons]
theorem enum_numbered (xs : List D) : enumD 0 xs = numbered xs 0 := enum_map xs
section
variable {n : Int} {es : List E} {H M : SV}
theorem step_sizes {w w' : Wk} {x : D} (h : w.step n es x = some w') : w'.stops.length = w.stops.length + 1 ∧ w'.taken.length ≤ w.taken.length + 1 := by
  unfold Wk.step at h
  split at h
  · cases h; simp [Wk.go]
  · cases q : waits es w.taken w.at_ x with
    | none => rw [q] at h; cases h
    | some j => rw [q] at h; cases h; simp [Wk.go, Wk.take]
theorem walked_turn (n0 : 0 < n) {w : Wk} {x : D} (hx : isExc x = false) (hs : w.stops.length < 900000) (ht : w.taken.length < 900000) (k : Nat) (x8 x9 x10 : SV) :
    ∃ y, tupT 2 (consT (nameT 8) (consT (nameT 9) nilT)) (.tuple [.int (k : Int), x]) (wD H M n es w x8 x9 x10) = some (wD H M n es w (.d (.int k)) (.d x) x10) ∧
    b_walked_l1 (wD H M n es w (.d (.int k)) (.d x) x10) = match w.step n es x with
      | some w' => some (.nx (wD H M n es w' (.d (.int k)) (.d x) y))
      | none => some (.ex (badRide k) (wD H M n es w (.d (.int k)) (.d x) y)) := by
  have t : tupT 2 (consT (nameT 8) (consT (nameT 9) nilT)) (.tuple [.int (k : Int), x]) (wD H M n es w x8 x9 x10) = some (wD H M n es w (.d (.int k)) (.d x) x10) := by simp [wD]
  by_cases hd : isD x = true
  · cases isD_none hd
    refine ⟨.d (.int 1), t, ?_⟩
    unfold Wk.step
    rw [if_pos hd]
    exact wk_none n0 hs
  · have hd : isD x = false := by simpa using hd
    unfold Wk.step
    rw [if_neg (by rw [hd]; decide)]
    cases q : waits es w.taken w.at_ x with
    | none => exact ⟨.d (.int 1), t, wk_bad hx hd q⟩
    | some j => exact ⟨.d (.int (es.getD j (0, 0)).2), t, wk_ok n0 hs ht hx hd q⟩
theorem walked_loop (n0 : 0 < n) : ∀ (xs : List D) (k : Nat) (w : Wk) (x8 x9 x10 : SV), (∀ x ∈ xs, isExc x = false) → w.stops.length + xs.length < 900000 → w.taken.length + xs.length < 900000 →
    ∃ y8 y9 y10, forGo (tupT 2 (consT (nameT 8) (consT (nameT 9) nilT))) b_walked_l1 (numbered xs k) (wD H M n es w x8 x9 x10) = match (walkG n es xs k w).2 with
      | none => some (.nx (wD H M n es (walkG n es xs k w).1 y8 y9 y10))
      | some j => some (.ex (badRide j) (wD H M n es (walkG n es xs k w).1 y8 y9 y10))
  | [], k, w, x8, x9, x10, _, _, _ => ⟨x8, x9, x10, rfl⟩
  | x :: r, k, w, x8, x9, x10, hx, hs, ht => by
    simp only [List.length_cons] at hs ht
    obtain ⟨y, e1, e2⟩ := walked_turn (H := H) (M := M) (es := es) n0 (w := w) (hx x (List.mem_cons_self ..)) (by omega) (by omega) k x8 x9 x10
    rw [numbered_cons]
    simp only [forGo, e1, e2]
    unfold walkG
    cases q : w.step n es x with
    | none => exact ⟨_, _, _, rfl⟩
    | some w' =>
      have z := step_sizes q
      exact walked_loop n0 r (k + 1) w' _ _ _ (fun y hy => hx y (List.mem_cons_of_mem _ hy)) (by omega) (by omega)
def walkedD (w : Wk) : D := .tuple [.list (w.stops.map .int), tkD w.taken, .int w.gone]
theorem walked_spec {s : Int} (n0 : 0 < n) {xs : List D} (l : Bool) (hx : ∀ x ∈ xs, isExc x = false) (hl : xs.length < 800000) :
    f_walked [.d (houseD n s es), .d (if l then .list xs else .tuple xs)] = match (walkG n es xs 0 (.start s)).2 with
      | none => some (.ok (.d (walkedD (walkG n es xs 0 (.start s)).1)) [.d (houseD n s es), .d (if l then .list xs else .tuple xs)])
      | some j => some (.ex (badRide j) [.d (houseD n s es), .d (if l then .list xs else .tuple xs)]) := by
  obtain ⟨y8, y9, y10, e⟩ := walked_loop (H := .d (houseD n s es)) (M := .d (if l then .list xs else .tuple xs)) (es := es) n0 xs 0 (.start s) .u .u .u hx (by simp [Wk.start]; omega) (by simp [Wk.start]; omega)
  have b := size_big
  have en := enum_numbered xs
  unfold f_walked b_walked
  cases q : (walkG n es xs 0 (.start s)).2 with
  | none =>
    rw [q] at e
    cases l <;> simp [wD, Wk.start, tkK, houseD, en] at e ⊢ <;> simp [e, walkedD, tkD, tkK]
  | some j =>
    rw [q] at e
    cases l <;> simp [wD, Wk.start, tkK, houseD, en] at e ⊢ <;> simp [e, badRide]
end
end CP

set_option maxHeartbeats 1000000
namespace CP
open PySem PySem.Spec PyProof.Rows L2 DL CM
theorem ix_last (xs : List D) (a : D) : ixG (.list (xs ++ [a])) (.int (-1)) = some (.d a) := by
  have e : L2.atI (xs ++ [a]) (-1) = some a := by
    unfold L2.atI L2.ixN
    have e2 : (-1 + ((xs.length : Int) + 1)).toNat = xs.length := by omega
    simp
    rw [if_pos (by omega), Option.bind_some, e2]
    simp
  unfold ixG ixS
  simp only [e]
  rfl
/-- the keys are different numbers of errands; the last stop is where the ride stands -/
structure Wk.Fits (es : List E) (w : Wk) : Prop where
  last : ∃ r, w.stops = r ++ [w.at_]
  nd : (w.taken.map (·.1)).Nodup
  lt : ∀ p ∈ w.taken, p.1 < es.length
section
variable {n s : Int} {es : List E}
theorem start_fits : (Wk.start s).Fits es := ⟨⟨[], rfl⟩, by simp [Wk.start], by simp [Wk.start]⟩
theorem step_fits {w w' : Wk} {x : D} (f : w.Fits es) (h : w.step n es x = some w') : w'.Fits es := by
  unfold Wk.step at h
  split at h
  · cases h
    exact ⟨⟨w.stops, rfl⟩, f.nd, f.lt⟩
  · cases q : waits es w.taken w.at_ x with
    | none => rw [q] at h; cases h
    | some j =>
      rw [q] at h; cases h
      refine ⟨⟨w.stops, rfl⟩, ?_, ?_⟩
      · have : j ∉ w.taken.map (·.1) := by
          cases x with
          | int i =>
            simp only [waits] at q
            split at q
            · rename_i b
              cases q
              intro z
              obtain ⟨p, hp, e⟩ := List.mem_map.mp z
              have : isTk w.taken i = true := by
                unfold isTk
                rw [List.any_eq_true]
                exact ⟨p, hp, by have := b.1; simp; omega⟩
              rw [b.2.2.1] at this
              cases this
            · cases q
          | _ => simp [waits] at q
        simp only [Wk.go, Wk.take, List.map_append, List.map_cons, List.map_nil]
        rw [List.nodup_append]
        refine ⟨f.nd, by simp, ?_⟩
        intro a ha b hb e
        simp only [List.mem_singleton] at hb
        subst hb e
        exact this ha
      · intro p hp
        simp only [Wk.go, Wk.take, List.mem_append, List.mem_singleton] at hp
        rcases hp with hp | hp
        · exact f.lt p hp
        · subst hp
          cases x with
          | int i =>
            simp only [waits] at q
            split at q
            · rename_i b; cases q; have := b.1; have := b.2.1; show i.toNat < es.length; omega
            · cases q
          | _ => simp [waits] at q
theorem walk_fits : ∀ (xs : List D) (k : Nat) (w : Wk), w.Fits es → (walkG n es xs k w).1.Fits es
  | [], _, _, f => f
  | x :: r, k, w, f => by
    unfold walkG
    cases q : w.step n es x with
    | none => exact f
    | some w' => exact walk_fits r (k + 1) w' (step_fits f q)
/-- a ride: the walk, or the number that BadRide tells -/
inductive Rd3 where
  | ok (w : Wk)
  | bad (x : D)
def rideT (n s : Int) (es : List E) (xs : List D) : Rd3 := match (walkG n es xs 0 (.start s)).2 with
  | some j => .bad (.int j)
  | none => if (walkG n es xs 0 (.start s)).1.taken.length < es.length ∨ (walkG n es xs 0 (.start s)).1.at_ ≠ s then .bad (.int xs.length) else .ok (walkG n es xs 0 (.start s)).1
def rideOf (n s : Int) (es : List E) (x : D) : Rd3 := match x with
  | .tuple xs => rideT n s es xs
  | _ => .bad .none
def badR (x : D) : XD := ⟨"BadRide", some [("number", x)]⟩
def smallT : D → Prop
  | .tuple xs => xs.length < 800000
  | _ => True
theorem need_ride_spec (n0 : 0 < n) {x : D} (hx : nx 1 x = true) (hl : smallT x) :
    f_need_own_ride [.d (houseD n s es), .d x] = match rideOf n s es x with
      | .ok w => some (.ok (.d (walkedD w)) [.d (houseD n s es), .d x])
      | .bad y => some (.ex (badR y) [.d (houseD n s es), .d x]) := by
  have it := isi_tuple (nx_no hx)
  have b := size_big
  cases x with
  | tuple xs =>
    have e := walked_spec (n := n) (s := s) (es := es) n0 (xs := xs) false (fun y hy => nx_no (nx_tup hx y hy)) hl
    simp only [Bool.false_eq_true, if_false] at e
    have ft := walk_fits (n := n) (es := es) xs 0 (.start s) start_fits
    rw [show rideOf n s es (.tuple xs) = rideT n s es xs from rfl]
    unfold rideT
    cases q : (walkG n es xs 0 (.start s)).2 with
    | some j =>
      rw [q] at e
      simp only [houseD] at e ⊢
      simp [f_need_own_ride, b_need_own_ride, it, isTupB, e, badR, badRide]
    | none =>
      rw [q] at e
      generalize (walkG n es xs 0 (.start s)).1 = w at e ft ⊢
      obtain ⟨r, hr⟩ := ft.last
      have la : ixG (.list (w.stops.map .int)) (.int (-1)) = some (.d (.int w.at_)) := by
        rw [hr, List.map_append]; exact ix_last _ _
      have ng : negG (.int 1) = some (.d (.int (-1))) := rfl
      have ln : lenDG [.dict (kvD (tkK w.taken))] = some (.d (.int w.taken.length)) := by rw [r_lenD]; simp [tkK]
      simp only [houseD, walkedD, tkD] at e ⊢
      by_cases c1 : w.taken.length < es.length
      · simp [f_need_own_ride, b_need_own_ride, i_need_own_ride_1, it, isTupB, e, badR, ln, ng, la, c1]
      · by_cases c2 : w.at_ = s
        · simp [f_need_own_ride, b_need_own_ride, i_need_own_ride_1, it, isTupB, e, badR, ln, ng, la, c1, c2]
        · simp [f_need_own_ride, b_need_own_ride, i_need_own_ride_1, it, isTupB, e, badR, ln, ng, la, c1, c2]
  | _ => simp [f_need_own_ride, b_need_own_ride, i_need_own_ride_1, it, isTupB, rideOf, badR, houseD]
theorem ride_walked_spec (h : OkH n s es) {x : D} (hx : nx 1 x = true) (hl : smallT x) :
    f_ride_walked [.d (houseD n s es), .d x] = match rideOf n s es x with
      | .ok w => some (.ok (.d (walkedD w)) [.d (houseD n s es), .d x])
      | .bad y => some (.ex (badR y) [.d (houseD n s es), .d x]) := by
  have e1 := need_house_D h
  have e2 := need_ride_spec (n := n) (s := s) (es := es) (by have := h.n0; omega) hx hl
  cases q : rideOf n s es x <;> rw [q] at e2 <;> simp [f_ride_walked, b_ride_walked, e1, e2]
end
end CP

set_option maxHeartbeats 1000000
namespace CP
open PySem PySem.Spec PyProof.Rows L2 DL CM
theorem nd_len : ∀ (m : Nat) (l : List Nat), l.Nodup → (∀ x ∈ l, x < m) → l.length ≤ m
  | 0, [], _, _ => Nat.le_refl _
  | 0, x :: r, _, h => absurd (h x (List.mem_cons_self ..)) (by omega)
  | m + 1, l, nd, h => by
    by_cases c : m ∈ l
    · obtain ⟨a, b, rfl⟩ := List.append_of_mem c
      have nd2 := List.nodup_append.mp nd
      have nd3 := List.nodup_cons.mp nd2.2.1
      have ab : (a ++ b).Nodup := List.nodup_append.mpr ⟨nd2.1, nd3.2, fun x hx y hy => nd2.2.2 x hx y (List.mem_cons_of_mem _ hy)⟩
      have := nd_len m (a ++ b) ab fun x hx => by
        have lt := h x (by rcases List.mem_append.mp hx with z | z <;> simp [z])
        have ne : x ≠ m := by
          intro e
          subst e
          rcases List.mem_append.mp hx with z | z
          · exact nd2.2.2 x z x (List.mem_cons_self ..) rfl
          · exact nd3.1 z
        omega
      simp only [List.length_append, List.length_cons] at this ⊢
      omega
    · have := nd_len m l nd fun x hx => by
        have lt := h x hx
        have ne : x ≠ m := fun e => c (e ▸ hx)
        omega
      omega
theorem nd_all {m : Nat} {l : List Nat} (nd : l.Nodup) (h : ∀ x ∈ l, x < m) (hl : m ≤ l.length) {k : Nat} (hk : k < m) : k ∈ l := by
  by_cases c : k ∈ l
  · exact c
  · have := nd_len m (k :: l) (List.nodup_cons.mpr ⟨c, nd⟩) fun x hx => by
      rcases List.mem_cons.mp hx with e | e
      · omega
      · exact h x e
    simp only [List.length_cons] at this
    omega
def tkAt (t : List (Nat × Int)) (k : Nat) : Int := ((t.find? fun p => decide (p.1 = k)).map (·.2)).getD 0
theorem tk_get {t : List (Nat × Int)} {k : Nat} (h : k ∈ t.map (·.1)) : valD (tkK t) (.inl (k : Int)) = some (.int (tkAt t k)) := by
  have e : valD (tkK t) (.inl (k : Int)) = (t.find? fun p => decide (p.1 = k)).map fun p => PyData.int p.2 := by
    unfold valD tkK
    rw [List.find?_map, Option.map_map]
    have : ((fun p : Key × D => decide (p.1 = Sum.inl (k : Int))) ∘ fun p : Nat × Int => ((Sum.inl (p.1 : Int) : Key), PyData.int p.2)) = fun p => decide (p.1 = k) := by
      funext p
      simp
      omega
    rw [this]
    rfl
  obtain ⟨p, hp, e2⟩ := List.mem_map.mp h
  have sm : (t.find? fun p => decide (p.1 = k)).isSome = true := by
    rw [List.isSome_find?, List.any_eq_true]
    exact ⟨p, hp, by simpa using e2⟩
  rw [e, tkAt]
  obtain ⟨q, hq⟩ := Option.isSome_iff_exists.mp sm
  rw [hq]
  rfl
section
variable {n s : Int} {es : List E}
/-- a ride that was told good -/
structure Wk.Full (n s : Int) (es : List E) (xs : List D) (w : Wk) : Prop where
  fits : w.Fits es
  all : ∀ k, k < es.length → k ∈ w.taken.map (·.1)
  at_ : w.at_ = s
  walk : walkG n es xs 0 (.start s) = (w, none)
theorem ride_full {x : D} {w : Wk} (h : rideOf n s es x = .ok w) : ∃ xs, x = .tuple xs ∧ w.Full n s es xs := by
  cases x with
  | tuple xs =>
    have h : rideT n s es xs = .ok w := h
    unfold rideT at h
    cases q : (walkG n es xs 0 (.start s)).2 with
    | some j => rw [q] at h; cases h
    | none =>
      rw [q] at h
      simp only at h
      split at h
      · cases h
      · rename_i c
        cases h
        have ft := walk_fits (n := n) (es := es) xs 0 (.start s) start_fits
        have c1 : ¬ (walkG n es xs 0 (.start s)).1.taken.length < es.length := fun z => c (.inl z)
        refine ⟨xs, rfl, ft, fun k hk => nd_all ft.nd (fun y hy => ?_) (by rw [List.length_map]; omega) hk, ?_, ?_⟩
        · obtain ⟨p, hp, rfl⟩ := List.mem_map.mp hy
          exact ft.lt p hp
        · exact Classical.byContradiction fun z => c (.inr z)
        · rw [← q]
  | _ => cases h
variable {x : D}
theorem rounds_spec (h : OkH n s es) (hx : nx 1 x = true) (hl : smallT x) : f_rounds_of [.d (houseD n s es), .d x] = match rideOf n s es x with
    | .ok w => some (.ok (.d (.int (w.gone / n))) [.d (houseD n s es), .d x])
    | .bad y => some (.ex (badR y) [.d (houseD n s es), .d x]) := by
  have e := ride_walked_spec h hx hl
  have n0 := h.n0
  have n1 := h.n1
  have fd := fun i => fdivG_ii (i := i) (j := n) (by omega) (by
    have p60 : ((2 ^ 60 : Nat) : Int) = 1152921504606846976 := by decide
    have := log2_of_lt (i := n) (a := 60) (by omega) (by omega) (by decide)
    omega)
  cases q : rideOf n s es x with
  | bad y => rw [q] at e; simp [f_rounds_of, b_rounds_of, e]
  | ok w =>
    rw [q] at e
    simp only [houseD, walkedD] at e ⊢
    simp [f_rounds_of, b_rounds_of, e, fd]
theorem halts_spec (h : OkH n s es) (hx : nx 1 x = true) (hl : smallT x) : f_halts [.d (houseD n s es), .d x] = match rideOf n s es x with
    | .ok w => some (.ok (.d (.tuple (w.stops.map .int))) [.d (houseD n s es), .d x])
    | .bad y => some (.ex (badR y) [.d (houseD n s es), .d x]) := by
  have e := ride_walked_spec h hx hl
  cases q : rideOf n s es x <;> rw [q] at e <;> simp [f_halts, b_halts, e, walkedD]
def takenD (es : List E) (w : Wk) : D := .tuple ((List.range es.length).map fun k => .int (tkAt w.taken k))
theorem taken_spec (h : OkH n s es) (hx : nx 1 x = true) (hl : smallT x) : f_taken_at [.d (houseD n s es), .d x] = match rideOf n s es x with
    | .ok w => some (.ok (.d (takenD es w)) [.d (houseD n s es), .d x])
    | .bad y => some (.ex (badR y) [.d (houseD n s es), .d x]) := by
  have e := ride_walked_spec h hx hl
  have b := size_big
  cases q : rideOf n s es x with
  | bad y => rw [q] at e; simp [f_taken_at, b_taken_at, e]
  | ok w =>
    rw [q] at e
    obtain ⟨xs, _, fu⟩ := ride_full q
    have c : c_taken_at_1 [.d (houseD n s es), .d x, .d (tkD w.taken), .u] = some (.ok (.nL ((List.range es.length).map fun k => .int (tkAt w.taken k))) [.d (houseD n s es), .d x, .d (tkD w.taken), .u]) := by
      unfold c_taken_at_1
      refine lc_map (fun (i : Nat) => PyData.int (i : Int)) _ (List.range es.length) ?_ (by simp) (by have := h.len; simp; omega) fun i hi => ⟨[.d (houseD n s es), .d x, .d (tkD w.taken), .d (.int (i : Int))], ?_, ?_, ?_⟩
      · have r := rngD_map es.length
        have ri := fun δ => rngI_ok (δ := δ) (j := (es.length : Int)) (by omega) (by have := h.len; omega)
        simp [houseD, ri, r]
      · simp
      · simp
      · have : ixG (tkD w.taken) (.int (i : Int)) = some (.d (.int (tkAt w.taken i))) := ix_kv (tk_get (fu.all i (List.mem_range.mp hi)))
        simp [this]
    simp only [walkedD] at e
    simp [f_taken_at, b_taken_at, e, c, takenD]
theorem order_spec (h : OkH n s es) (hx : nx 1 x = true) (hl : smallT x) : f_order_of [.d (houseD n s es), .d x] = match x, rideOf n s es x with
    | .tuple xs, .ok w => some (.ok (.d (.tuple (xs.filter fun y => !isD y))) [.d (houseD n s es), .d x])
    | _, .bad y => some (.ex (badR y) [.d (houseD n s es), .d x])
    | _, _ => none := by
  have e := ride_walked_spec h hx hl
  have b := size_big
  cases q : rideOf n s es x with
  | bad y => rw [q] at e; cases x <;> simp [f_order_of, b_order_of, e]
  | ok w =>
    rw [q] at e
    obtain ⟨xs, rfl, fu⟩ := ride_full q
    have c : c_order_of_1 [.d (houseD n s es), .d (.tuple xs), .u] = some (.ok (.nL (xs.filter fun y => !isD y)) [.d (houseD n s es), .d (.tuple xs), .u]) := by
      unfold c_order_of_1
      have := lc_fil (vs := [2]) (src := datS (varE 1)) (t := nameT 2) (tt := toB (op2E isnG (varE 2) (conE .none))) (te := varE 2) (δ0 := [.d (houseD n s es), .d (.tuple xs), .u]) (δ := [.d (houseD n s es), .d (.tuple xs), .u]) (fun y : D => y) (fun y => !isD y) (fun y => y) xs (by simp) (by simp) (by have : xs.length < 800000 := hl; omega) fun y hy => ⟨[.d (houseD n s es), .d (.tuple xs), .d y], by simp, by simp, by simp [isnG], fun _ => by simp⟩
      rw [this]
      simp
    simp [f_order_of, b_order_of, e, c]
end
end CP

set_option maxHeartbeats 1000000
namespace CP
open PySem PySem.Spec PyProof.Rows L2 DL CM
/-! ### the law's own walk -/
section
variable {n s at_ : Int} {es : List E} {x : D} {t : List (Nat × Int)} {m : Nat}
theorem isi_int (hx : isExc x = false) : isiG "int" x = some (match x with | .int _ => true | .bool _ => true | _ => false) := by cases x <;> simp [isiG, hx, tyN] <;> rfl
theorem isi_bool (hx : isExc x = false) : isiG "bool" x = some (match x with | .bool _ => true | _ => false) := by cases x <;> simp [isiG, hx, tyN] <;> rfl
theorem lwaits_spec (hx : isExc x = false) (hl : es.length < 1000000) :
    f__law_waits [.d (houseD n s es), .M m (tkK t), .d (.int at_), .d x] = some (.ok (.d (.bool (waits es t at_ x).isSome)) [.d (houseD n s es), .M m (tkK t), .d (.int at_), .d x]) := by
  unfold f__law_waits b__law_waits i__law_waits_1
  have is1 := isi_int hx
  have is2 := isi_bool hx
  cases x with
  | int i =>
    have i1 := nin_kv (tkK t) i
    rw [tk_val] at i1
    by_cases b0 : 0 ≤ i
    · by_cases b1 : i < es.length
      · have ix := ixT_map (f := errD) (l := es) (i := i) b0 b1
        have lt : i.toNat < es.length := by omega
        have e : es.getD i.toNat (0, 0) = es[i.toNat]'lt := by simp [List.getD, List.getElem?_eq_getElem lt]
        cases c : isTk t i with
        | true => rw [c] at i1; simp [is1, is2, houseD, b0, b1, i1, waits, c]
        | false =>
          rw [c] at i1
          by_cases d : (es[i.toNat]'lt).1 = at_
          · simp [is1, is2, houseD, b0, b1, i1, ix, errD, waits, c, e, d, List.getElem?_eq_getElem lt]
          · simp [is1, is2, houseD, b0, b1, i1, ix, errD, waits, c, e, d, List.getElem?_eq_getElem lt]
      · simp [is1, is2, houseD, b0, b1, waits]
    · simp [is1, is2, houseD, b0, waits]
  | _ => simp [is1, is2, waits, houseD]
def gD (H M : SV) (n : Int) (w : Wk) (x7 x8 x9 : SV) : List SV := [H, M, .d (.int n), .d (.int w.at_), .d (.int w.gone), .L 0 (w.stops.map .int), .M 0 (tkK w.taken), x7, x8, x9]
def goneD (w : Wk) (k : Option Nat) : D := .tuple [.list (w.stops.map .int), tkD w.taken, .int w.gone, match k with | some k => .int (k : Int) | none => .none]
variable {M : SV}
theorem gone_turn (n0 : 0 < n) (hl : es.length < 1000000) {w : Wk} (hx : isExc x = false) (hs : w.stops.length < 900000) (ht : w.taken.length < 900000) (k : Nat) (x7 x8 x9 : SV) :
    tupT 2 (consT (nameT 7) (consT (nameT 8) nilT)) (.tuple [.int (k : Int), x]) (gD (.d (houseD n s es)) M n w x7 x8 x9) = some (gD (.d (houseD n s es)) M n w (.d (.int k)) (.d x) x9) ∧
    match w.step n es x with
      | some w' => ∃ y, b__law_gone_l1 (gD (.d (houseD n s es)) M n w (.d (.int k)) (.d x) x9) = some (.nx (gD (.d (houseD n s es)) M n w' (.d (.int k)) (.d x) y))
      | none => ∃ δ, b__law_gone_l1 (gD (.d (houseD n s es)) M n w (.d (.int k)) (.d x) x9) = some (.rt (.d (goneD w (some k))) ([.d (houseD n s es), M] ++ δ)) := by
  have lw := fun t => lwaits_spec (n := n) (s := s) (at_ := w.at_) (x := x) (t := t) (m := 0) hx hl
  have hl1 : w.stops.length < sizeLine := Nat.lt_of_lt_of_le (by omega) size_big
  have hk : (tkK w.taken).length < sizeLine := Nat.lt_of_lt_of_le (by simp [tkK]; omega) size_big
  have b := size_big
  refine ⟨by simp [gD], ?_⟩
  by_cases hd : isD x = true
  · cases isD_none hd
    unfold Wk.step
    rw [if_pos hd]
    refine ⟨.d (.int 1), ?_⟩
    simp [gD, b__law_gone_l1, i__law_gone_1, i__law_gone_2, isnG, isD, n0, appG, hl1, Wk.go]
  · have hd : isD x = false := by simpa using hd
    unfold Wk.step
    rw [if_neg (by rw [hd]; decide)]
    cases q : waits es w.taken w.at_ x with
    | none =>
      have lw := lw w.taken
      rw [q] at lw
      refine ⟨[.d (.int n), .d (.int w.at_), .d (.int w.gone), .d (.list (w.stops.map .int)), .d (tkD w.taken), .d (.int k), .d x, x9], ?_⟩
      simp only [gD, houseD] at lw ⊢
      simp [b__law_gone_l1, i__law_gone_1, isnG, hd, lw, goneD, tkD]
    | some j =>
      have lw := lw w.taken
      rw [q] at lw
      cases x with
      | int i =>
        simp only [waits] at q
        split at q
        · rename_i b
          obtain ⟨b0, b1, b2, b3⟩ := b
          cases q
          have lt : i.toNat < es.length := by omega
          have e : es.getD i.toNat (0, 0) = es[i.toNat]'lt := by simp [List.getD, List.getElem?_eq_getElem lt]
          have ix := ixT_map (f := errD) (l := es) (i := i) b0 (by omega)
          have pt := tk_put (t := w.taken) (i := i) (g := w.gone) b0 b2
          have ky : keyD (.int i) = some (.inl i) := rfl
          refine ⟨.d (.int (es.getD i.toNat (0, 0)).2), ?_⟩
          rw [e]
          simp only [gD, houseD] at lw ⊢
          simp [b__law_gone_l1, i__law_gone_1, i__law_gone_2, isnG, isD, lw, ix, errD, ky, hk, pt, n0, appG, hl1, Wk.go, Wk.take, List.getElem?_eq_getElem lt]
        · cases q
      | _ => simp [waits] at q
theorem gone_loop (n0 : 0 < n) (hl : es.length < 1000000) : ∀ (xs : List D) (k : Nat) (w : Wk) (x7 x8 x9 : SV), (∀ x ∈ xs, isExc x = false) → w.stops.length + xs.length < 900000 → w.taken.length + xs.length < 900000 →
    match (walkG n es xs k w).2 with
      | none => ∃ y7 y8 y9, forGo (tupT 2 (consT (nameT 7) (consT (nameT 8) nilT))) b__law_gone_l1 (numbered xs k) (gD (.d (houseD n s es)) M n w x7 x8 x9) = some (.nx (gD (.d (houseD n s es)) M n (walkG n es xs k w).1 y7 y8 y9))
      | some j => ∃ δ, forGo (tupT 2 (consT (nameT 7) (consT (nameT 8) nilT))) b__law_gone_l1 (numbered xs k) (gD (.d (houseD n s es)) M n w x7 x8 x9) = some (.rt (.d (goneD (walkG n es xs k w).1 (some j))) ([.d (houseD n s es), M] ++ δ))
  | [], k, w, x7, x8, x9, _, _, _ => ⟨x7, x8, x9, rfl⟩
  | x :: r, k, w, x7, x8, x9, hx, hs, ht => by
    simp only [List.length_cons] at hs ht
    obtain ⟨e1, e2⟩ := gone_turn (s := s) (M := M) n0 hl (w := w) (hx x (List.mem_cons_self ..)) (by omega) (by omega) k x7 x8 x9
    rw [numbered_cons]
    simp only [forGo, e1]
    unfold walkG
    cases q : w.step n es x with
    | none =>
      rw [q] at e2
      obtain ⟨δ, e2⟩ := e2
      simp only [e2]
      exact ⟨δ, rfl⟩
    | some w' =>
      rw [q] at e2
      obtain ⟨y, e2⟩ := e2
      simp only [e2]
      have z := step_sizes q
      exact gone_loop n0 hl r (k + 1) w' _ _ _ (fun y hy => hx y (List.mem_cons_of_mem _ hy)) (by omega) (by omega)
theorem gone_spec (h : OkH n s es) {xs : List D} (hx : ∀ x ∈ xs, isExc x = false) (hl : xs.length < 800000) :
    f__law_gone [.d (houseD n s es), .d (.tuple xs)] = some (.ok (.d (goneD (walkG n es xs 0 (.start s)).1 (walkG n es xs 0 (.start s)).2)) [.d (houseD n s es), .d (.tuple xs)]) := by
  have e := gone_loop (s := s) (M := .d (.tuple xs)) (n := n) (es := es) (by have := h.n0; omega) (by have := h.len; omega) xs 0 (.start s) .u .u .u hx (by simp [Wk.start]; omega) (by simp [Wk.start]; omega)
  have b := size_big
  have en := enum_numbered xs
  unfold f__law_gone b__law_gone
  cases q : (walkG n es xs 0 (.start s)).2 with
  | none =>
    rw [q] at e
    obtain ⟨y7, y8, y9, e⟩ := e
    simp [gD, Wk.start, tkK, houseD, en] at e ⊢
    simp [e, goneD, tkD, tkK]
  | some j =>
    rw [q] at e
    obtain ⟨δ, e⟩ := e
    simp [gD, Wk.start, tkK, houseD, en] at e ⊢
    simp [e, goneD, tkD, tkK]
end
end CP

set_option maxHeartbeats 1000000
namespace CP
open PySem PySem.Spec PyProof.Rows L2 DL CM
/-! ### the law's own loads -/
theorem mod_add_iff {n a b k : Int} (h0 : 0 < n) (a0 : 0 ≤ a) (a1 : a < n) : (b + k) % n = a ↔ k % n = (a - b) % n := by
  have e : a % n = a := Int.emod_eq_of_lt a0 a1
  constructor
  · intro h
    have h2 : (b + k) % n = a % n := by rw [h, e]
    rw [Int.emod_eq_emod_iff_emod_sub_eq_zero] at h2 ⊢
    rw [← h2]
    congr 1
    omega
  · intro h
    rw [← e]
    rw [Int.emod_eq_emod_iff_emod_sub_eq_zero] at h ⊢
    rw [← h]
    congr 1
    omega
theorem step_ov {n : Int} (h0 : 0 < n) (k r : Int) (k0 : 0 ≤ k) (r0 : 0 ≤ r) (r1 : r < n) : (k + 1) / n + (if r < (k + 1) % n then 1 else 0) = k / n + (if r < k % n then 1 else 0) + (if k % n = r then (1 : Int) else 0) := by
  have m0 := Int.emod_nonneg k (show n ≠ 0 by omega)
  have m1 := Int.emod_lt_of_pos k h0
  have hk := Int.emod_add_mul_ediv k n
  by_cases c : k % n = n - 1
  · have : (k + 1) / n = k / n + 1 ∧ (k + 1) % n = 0 := (Int.ediv_emod_unique h0).mpr ⟨by rw [Int.mul_add]; omega, Int.le_refl _, h0⟩
    rw [this.1, this.2, c]
    split <;> split <;> split <;> omega
  · have : (k + 1) / n = k / n ∧ (k + 1) % n = k % n + 1 := (Int.ediv_emod_unique h0).mpr ⟨by omega, by omega, by omega⟩
    rw [this.1, this.2]
    split <;> split <;> split <;> omega
/-- how often a step is gone among the first so many -/
def cnt (n b : Int) : Nat → Int → Int
  | 0, _ => 0
  | k + 1, i => cnt n b k i + (if (b + (k : Int)) % n = i then 1 else 0)
theorem cnt_ov {n b i : Int} (h0 : 0 < n) (i0 : 0 ≤ i) (i1 : i < n) : ∀ k : Nat, cnt n b k i = ovAt n (b, (k : Int)) i
  | 0 => by
    have r0 := Int.emod_nonneg (i - b) (show n ≠ 0 by omega)
    simp [cnt, ovAt]
    omega
  | k + 1 => by
    have r0 := Int.emod_nonneg (i - b) (show n ≠ 0 by omega)
    have r1 := Int.emod_lt_of_pos (i - b) h0
    have s := step_ov h0 (k : Int) ((i - b) % n) (by omega) r0 r1
    have ih := cnt_ov (b := b) h0 i0 i1 k
    unfold cnt
    rw [ih]
    unfold ovAt
    simp only
    rw [show ((k + 1 : Nat) : Int) = (k : Int) + 1 by omega, s]
    have e : ((b + (k : Int)) % n = i) = ((k : Int) % n = (i - b) % n) := propext (mod_add_iff h0 i0 i1)
    simp only [e]
theorem set_range {m j : Nat} (f : Nat → Int) (hj : j < m) : ((List.range m).map fun i => PyData.int (f i)).set j (.int (f j + 1)) = (List.range m).map fun i => .int (f i + if (j : Int) = (i : Int) then 1 else 0) := by
  apply List.ext_getElem
  · simp
  · intro i h1 h2
    simp only [List.getElem_set, List.getElem_map, List.getElem_range]
    by_cases c : j = i
    · subst c; rw [if_pos rfl, if_pos rfl]
    · rw [if_neg c, if_neg (by omega), Int.add_zero]
section
variable {n s : Int} {es : List E} {x2 x3 x4 x5 : SV}
def lD (n s : Int) (es : List E) (acc : Nat → Int) (x2 x3 x4 x5 : SV) : List SV := [.d (houseD n s es), .L 0 ((List.range n.toNat).map fun i => .int (acc i)), x2, x3, x4, x5]
theorem lloads_one (n0 : 0 < n) (acc : Nat → Int) (b st : Int) (far : Nat) :
    b__law_loads_l1 (lD n s es acc (.d (.int b)) (.d (.int st)) (.d (.int (far : Int))) x5) = some (.nx (lD n s es (fun i => acc i + if (b + (far : Int)) % n = (i : Int) then 1 else 0) (.d (.int b)) (.d (.int st)) (.d (.int (far : Int))) (.d (.int ((b + (far : Int)) % n))))) := by
  have m0 := Int.emod_nonneg (b + (far : Int)) (show n ≠ 0 by omega)
  have m1 := Int.emod_lt_of_pos (b + (far : Int)) n0
  obtain ⟨j, hj⟩ := Int.eq_ofNat_of_zero_le m0
  have jl : j < n.toNat := by omega
  have ix : ixG (.list ((List.range n.toNat).map fun i => PyData.int (acc i))) (.int (j : Int)) = some (.d (.int (acc j))) := ixl_get (by simp [jl])
  have iN : L2.ixN n.toNat (j : Int) = some j := by
    unfold L2.ixN
    rw [if_pos (by omega), if_pos (by omega)]
    simp
  have st := set_range acc jl
  unfold b__law_loads_l1
  simp [lD, houseD, n0, hj, ix, iN, st]
theorem lloads_two (n0 : 0 < n) (acc : Nat → Int) (b st : Int) : ∀ (m : Nat) (x4 x5 : SV), ∃ y4 y5, forGo (nameT 4) b__law_loads_l1 ((List.range m).map fun (i : Nat) => .int (i : Int)) (lD n s es acc (.d (.int b)) (.d (.int st)) x4 x5) = some (.nx (lD n s es (fun i => acc i + cnt n b m (i : Int)) (.d (.int b)) (.d (.int st)) y4 y5)) := by
  intro m x4 x5
  obtain ⟨δ, e, y4, y5, e2⟩ := forGo_fold (t := nameT 4) (s := b__law_loads_l1) (fun (i : Nat) => PyData.int (i : Int)) (fun (f : Nat → Int) (far : Nat) i => f i + if (b + (far : Int)) % n = (i : Int) then 1 else 0)
    (fun f δ => ∃ y4 y5, δ = lD n s es f (.d (.int b)) (.d (.int st)) y4 y5) (List.range m) acc (lD n s es acc (.d (.int b)) (.d (.int st)) x4 x5) ⟨_, _, rfl⟩ fun f far δ _ ⟨z4, z5, hz⟩ => by
      subst hz
      exact ⟨lD n s es f (.d (.int b)) (.d (.int st)) (.d (.int (far : Int))) z5, _, by simp [lD], .inl (lloads_one n0 f b st far), _, _, rfl⟩
  refine ⟨y4, y5, ?_⟩
  rw [e, e2]
  congr 3
  have fo : ∀ m : Nat, (List.range m).foldl (fun (f : Nat → Int) (far : Nat) i => f i + if (b + (far : Int)) % n = (i : Int) then 1 else 0) acc = fun i => acc i + cnt n b m (i : Int) := by
    intro m
    induction m with
    | zero => funext i; simp [cnt]
    | succ m ih =>
      rw [List.range_succ, List.foldl_append, ih]
      funext i
      simp [cnt, Int.add_assoc]
  exact fo m
theorem lloads_turn (n0 : 0 < n) {e : E} (he : OkE n e) (hn : n ≤ 16) (acc : Nat → Int) : ∃ y2 y3 y4 y5, tupT 2 (consT (nameT 2) (consT (nameT 3) nilT)) (errD e) (lD n s es acc x2 x3 x4 x5) = some (lD n s es acc (.d (.int e.1)) (.d (.int e.2)) x4 x5) ∧
    b__law_loads_l2 (lD n s es acc (.d (.int e.1)) (.d (.int e.2)) x4 x5) = some (.nx (lD n s es (fun i => acc i + cnt n e.1 e.2.toNat (i : Int)) y2 y3 y4 y5)) := by
  obtain ⟨y4, y5, h⟩ := lloads_two (s := s) (es := es) n0 acc e.1 e.2 e.2.toNat x4 x5
  have r := rngD_map e.2.toNat
  have h3 := he.2.2.1
  have h4 := he.2.2.2
  have ri := fun δ => rngI_ok (δ := δ) (j := e.2) (by omega) (by omega)
  refine ⟨.d (.int e.1), .d (.int e.2), y4, y5, by simp [lD, errD], ?_⟩
  rw [← r] at h
  unfold b__law_loads_l2
  simp only [lD] at h ⊢
  simp [ri, h]
theorem lloads_loop (n0 : 0 < n) (hn : n ≤ 16) : ∀ (fs : List E) (acc : Nat → Int) (x2 x3 x4 x5 : SV), (∀ e ∈ fs, OkE n e) → ∃ y2 y3 y4 y5, forGo (tupT 2 (consT (nameT 2) (consT (nameT 3) nilT))) b__law_loads_l2 (fs.map errD) (lD n s es acc x2 x3 x4 x5) = some (.nx (lD n s es (fun i => acc i + (fs.map fun e => cnt n e.1 e.2.toNat (i : Int)).sum) y2 y3 y4 y5))
  | [], acc, x2, x3, x4, x5, _ => ⟨x2, x3, x4, x5, by simp [forGo]⟩
  | e :: r, acc, x2, x3, x4, x5, h => by
    obtain ⟨y2, y3, y4, y5, e1, e2⟩ := lloads_turn (s := s) (es := es) (x2 := x2) (x3 := x3) (x4 := x4) (x5 := x5) n0 (h e (List.mem_cons_self ..)) hn acc
    obtain ⟨z2, z3, z4, z5, e3⟩ := lloads_loop n0 hn r (fun i => acc i + cnt n e.1 e.2.toNat (i : Int)) y2 y3 y4 y5 fun x hx => h x (List.mem_cons_of_mem _ hx)
    refine ⟨z2, z3, z4, z5, ?_⟩
    simp only [List.map_cons, forGo, e1, e2, e3, List.sum_cons, Int.add_assoc]
theorem lloads_spec (h : OkH n s es) : f__law_loads [.d (houseD n s es)] = some (.ok (.nL ((loadsI n es).map .int)) [.d (houseD n s es)]) := by
  have n0 := h.n0
  have n1 := h.n1
  obtain ⟨y2, y3, y4, y5, e⟩ := lloads_loop (s := s) (es := es) (n := n) (by omega) n1 es (fun _ => 0) .u .u .u .u h.ok
  have b := fun δ => repI_ok (δ := δ) (xs := [.int 0]) (k := n) (by omega) (by omega) (by simp)
  have ev : (List.range n.toNat).map (fun (i : Nat) => PyData.int (0 + (es.map fun e => cnt n e.1 e.2.toNat (i : Int)).sum)) = (loadsI n es).map .int := by
    unfold loadsI loadAt
    rw [List.map_map]
    refine List.map_congr_left fun i hi => ?_
    have hi := List.mem_range.mp hi
    show PyData.int _ = PyData.int _
    rw [Int.zero_add]
    congr 2
    refine List.map_congr_left fun e he => ?_
    have ok := h.ok e he
    have h3 := ok.2.2.1
    rw [cnt_ov (by omega) (by omega) (by omega)]
    rw [Int.toNat_of_nonneg (by omega)]
  unfold f__law_loads b__law_loads
  simp only [lD, houseD] at e ⊢
  rw [rep0, ev] at e
  simp [b, e]
end
end CP

set_option maxHeartbeats 1000000
namespace CP
open PySem PySem.Spec PyProof.Rows L2 DL CM
/-! ### what waits, and what lies behind a move -/
theorem addG_ll {a b : List D} (h : a.length + b.length ≤ sizeLine) : addG (.list a) (.list b) = some (.nL (a ++ b)) := by simp [addG, addI, addS, addL, op2I, h]
theorem addG_tt {a b : List D} (h : a.length + b.length ≤ sizeLine) : addG (.tuple a) (.tuple b) = some (.d (.tuple (a ++ b))) := by simp [addG, addI, addS, addL, addT, op2I, h]
def numD (k : Nat) : D := .int (k : Int)
def movD : Option Nat → D
  | none => .none
  | some k => numD k
def thereL (es : List E) (at_ : Int) (spare : List Int) (left : List Nat) : List (Option Nat) := (if 0 < spare.getD at_.toNat 0 then [none] else []) ++ (left.filter fun k => decide ((es.getD k (0, 0)).1 = at_)).map some
def spareD (spare : List Int) : D := .tuple (spare.map .int)
def leftD (left : List Nat) : D := .tuple (left.map numD)
section
variable {n s at_ : Int} {es : List E} {spare : List Int} {left : List Nat}
theorem there_c (hl : left.length < 1000000) (ok : ∀ k ∈ left, k < es.length) : c__law_there_1 [.d (houseD n s es), .d (.int at_), .d (spareD spare), .d (leftD left), .u] = some (.ok (.nL (((left.filter fun k => decide ((es.getD k (0, 0)).1 = at_)).map some).map movD)) [.d (houseD n s es), .d (.int at_), .d (spareD spare), .d (leftD left), .u]) := by
  unfold c__law_there_1
  have := lc_fil (vs := [4]) (src := datS (varE 3)) (t := nameT 4) (tt := toB (op2E eqG (op2E ixG (op2E ixG (op2E ixG (varE 0) (conE (.int 2))) (varE 4)) (conE (.int 0))) (varE 1))) (te := varE 4)
    (δ0 := [.d (houseD n s es), .d (.int at_), .d (spareD spare), .d (leftD left), .u]) (δ := [.d (houseD n s es), .d (.int at_), .d (spareD spare), .d (leftD left), .u]) numD (fun k => decide ((es.getD k (0, 0)).1 = at_)) numD left (by simp [leftD]) (by simp) hl fun k hk => ?_
  · rw [this, List.map_map]
    rfl
  · have lt := ok k hk
    have ix := ixT_map (f := errD) (l := es) (i := (k : Int)) (by omega) (by omega)
    refine ⟨[.d (houseD n s es), .d (.int at_), .d (spareD spare), .d (leftD left), .d (numD k)], by simp, by simp, ?_, fun _ => by simp⟩
    have e : es.getD k (0, 0) = es[k]'lt := by simp [List.getD, List.getElem?_eq_getElem lt]
    rw [e]
    simp [houseD, numD, ix, errD]
theorem there_spec (a0 : 0 ≤ at_) (a1 : at_ < spare.length) (hl : left.length < 100000) (ok : ∀ k ∈ left, k < es.length) :
    f__law_there [.d (houseD n s es), .d (.int at_), .d (spareD spare), .d (leftD left)] = some (.ok (.nL ((thereL es at_ spare left).map movD)) [.d (houseD n s es), .d (.int at_), .d (spareD spare), .d (leftD left)]) := by
  have c := there_c (n := n) (s := s) (at_ := at_) (spare := spare) (by omega) ok
  have ix := ixT_map (f := PyData.int) (l := spare) (i := at_) a0 a1
  have lt : at_.toNat < spare.length := by omega
  have e : spare.getD at_.toNat 0 = spare[at_.toNat]'lt := by simp [List.getD, List.getElem?_eq_getElem lt]
  have b := size_big
  have r1 := fun δ => repI_ok (δ := δ) (xs := [.none]) (k := 1) (by omega) (by omega) (by simp)
  have r0 := fun δ => repI_ok (δ := δ) (xs := [.none]) (k := 0) (by omega) (by omega) (by simp)
  unfold f__law_there b__law_there
  unfold thereL
  rw [e]
  have fl : (left.filter fun k => decide ((es.getD k (0, 0)).1 = at_)).length ≤ left.length := List.length_filter_le ..
  have al := fun (a : List D) (ha : a.length ≤ 1) => addG_ll (a := a) (b := ((left.filter fun k => decide ((es.getD k (0, 0)).1 = at_)).map some).map movD) (by rw [List.length_map, List.length_map]; omega)
  generalize ((left.filter fun k => decide ((es.getD k (0, 0)).1 = at_)).map some) = fs at c al ⊢
  by_cases q : 0 < spare[at_.toNat]'lt
  · have al := al [.none] (by simp)
    simp only [spareD] at c ⊢
    simp [ix, q, intG, r1, c, movD, al]
  · have al := al [] (by simp)
    simp only [spareD] at c ⊢
    simp [ix, q, intG, r0, c, movD, al]
/-- what lies behind a move -/
def behindL (n : Int) (es : List E) (at_ : Int) (spare : List Int) (left : List Nat) : Option Nat → Int × List Int × List Nat
  | none => ((at_ + 1) % n, spare.set at_.toNat (spare.getD at_.toNat 0 - 1), left)
  | some m => (endI n (es.getD m (0, 0)), spare, left.filter fun k => decide (k ≠ m))
def laterD (p : Int × List Int × List Nat) : D := .tuple [.int p.1, spareD p.2.1, leftD p.2.2]
theorem behind_none (n0 : 0 < n) (a0 : 0 ≤ at_) (a1 : at_ < spare.length) (hs : spare.length < 1000) :
    f__law_behind [.d (houseD n s es), .d (.int at_), .d (spareD spare), .d (leftD left), .d .none] = some (.ok (.d (laterD (behindL n es at_ spare left none))) [.d (houseD n s es), .d (.int at_), .d (spareD spare), .d (leftD left), .d .none]) := by
  have lt : at_.toNat < spare.length := by omega
  have ix := ixT_map (f := PyData.int) (l := spare) (i := at_) a0 a1
  have b := size_big
  have c1 := take_slice (spare.map .int) a0
  have c2 := cut_tail (spare.map .int) a0
  have t1 := addG_tt (a := (spare.map PyData.int).take at_.toNat) (b := [.int (spare[at_.toNat]'lt - 1)]) (by simp; omega)
  have t2 := addG_tt (a := (spare.map PyData.int).take at_.toNat ++ [.int (spare[at_.toNat]'lt - 1)]) (b := (spare.map PyData.int).drop (at_.toNat + 1)) (by simp; omega)
  have st : (spare.set at_.toNat (spare.getD at_.toNat 0 - 1)).map PyData.int = (spare.map PyData.int).take at_.toNat ++ [.int (spare[at_.toNat]'lt - 1)] ++ (spare.map PyData.int).drop (at_.toNat + 1) := by
    have e : spare.getD at_.toNat 0 = spare[at_.toNat]'lt := by simp [List.getD, List.getElem?_eq_getElem lt]
    rw [e, List.set_eq_take_append_cons_drop, if_pos lt]
    simp
  unfold f__law_behind b__law_behind i__law_behind_1
  simp only [laterD, behindL, spareD, st]
  simp only [houseD]
  simp [isG, isD, ix, c1, c2, t1, t2, n0]
theorem behind_c (m : Nat) (h : SV) (hl : left.length < 1000000) : c__law_behind_1 [h, .d (.int at_), .d (spareD spare), .d (leftD left), .d (numD m), .u, .u, .u] = some (.ok (.nL ((left.filter fun k => decide (k ≠ m)).map numD)) [h, .d (.int at_), .d (spareD spare), .d (leftD left), .d (numD m), .u, .u, .u]) := by
  unfold c__law_behind_1
  refine lc_fil (vs := [7]) (src := datS (varE 3)) (t := nameT 7) (tt := toB (op2E neG (varE 7) (varE 4))) (te := varE 7) (δ0 := [h, .d (.int at_), .d (spareD spare), .d (leftD left), .d (numD m), .u, .u, .u]) (δ := [h, .d (.int at_), .d (spareD spare), .d (leftD left), .d (numD m), .u, .u, .u]) numD (fun k => decide (k ≠ m)) numD left (by simp [leftD]) (by simp) hl fun k hk => ?_
  refine ⟨[h, .d (.int at_), .d (spareD spare), .d (leftD left), .d (numD m), .u, .u, .d (numD k)], by simp, by simp, ?_, fun _ => by simp⟩
  simp [numD]
  omega
theorem behind_some (n0 : 0 < n) {m : Nat} (hm : m < es.length) (hl : left.length < 1000000) :
    f__law_behind [.d (houseD n s es), .d (.int at_), .d (spareD spare), .d (leftD left), .d (numD m)] = some (.ok (.d (laterD (behindL n es at_ spare left (some m)))) [.d (houseD n s es), .d (.int at_), .d (spareD spare), .d (leftD left), .d (numD m)]) := by
  have b := size_big
  have c := behind_c (at_ := at_) (spare := spare) (left := left) m (.d (houseD n s es)) hl
  have ix := ixT_map (f := errD) (l := es) (i := (m : Int)) (by omega) (by omega)
  have e : es.getD m (0, 0) = es[m]'hm := by simp [List.getD, List.getElem?_eq_getElem hm]
  have su := sum_ints (l := [(es[m]'hm).1, (es[m]'hm).2]) true
  simp only [if_true, List.map_cons, List.map_nil, List.sum_cons, List.sum_nil, Int.add_zero] at su
  unfold f__law_behind b__law_behind i__law_behind_1
  simp only [laterD, behindL, e, endI]
  simp only [houseD, leftD, numD] at c ix ⊢
  simp [isG, isD, ix, c, errD, su, n0]
end
end CP

set_option maxHeartbeats 1000000
namespace CP
open PySem PySem.Spec PyProof.Rows L2 DL CM
/-! ### does something hang loose -/
theorem eqv_ints (a b : Int) : PyData.eqv (.int a) (.int b) = decide (a = b) := by
  have := r_ints a b
  unfold eqG at this
  rw [if_pos ⟨rfl, rfl⟩] at this
  simpa using this
theorem in_ints (a : Int) (l : List Int) : inG (.int a) (.list (l.map .int)) = some (.d (.bool (decide (a ∈ l)))) := by
  have e : inL false (.int a) (.list (l.map .int)) = some (.d (.bool (decide (a ∈ l)))) := by
    show (if layD (.int a) = true ∧ layD (.list (l.map PyData.int)) = true then some (Res.d (.bool ((l.map PyData.int).any fun z => PyData.eqv z (.int a)))) else none) = _
    rw [if_pos ⟨rfl, layInts l _⟩, List.any_map]
    congr 3
    induction l with
    | nil => rfl
    | cons x r ih =>
      rw [List.any_cons, ih]
      show (PyData.eqv (.int x) (.int a) || _) = _
      rw [eqv_ints]
      by_cases c : x = a
      · subst c; simp
      · have : ¬ a = x := fun z => c z.symm
        simp [c, this]
  unfold inG
  rw [e]
  rfl
theorem ne_bools (a b : Bool) : neG (.bool a) (.bool b) = some (.d (.bool (a != b))) := by cases a <;> cases b <;> rfl
def arrD (a : Int × Int) : D := .tuple [.int a.1, .int a.2]
/-- the arrows that are left to go -/
def arrows (n : Int) (es : List E) (spare : List Int) (left : List Nat) : List (Int × Int) :=
  ((List.range n.toNat).filter fun (c : Nat) => decide (0 < spare.getD c 0)).map (fun (c : Nat) => ((c : Int), ((c : Int) + 1) % n)) ++ left.map fun k => ((es.getD k (0, 0)).1, endI n (es.getD k (0, 0)))
def hstep (met : List Int) (a : Int × Int) : List Int := if decide (a.1 ∈ met) != decide (a.2 ∈ met) then met ++ [a.1, a.2] else met
def hpass (as : List (Int × Int)) (met : List Int) : List Int := as.foldl hstep met
def hloop (as : List (Int × Int)) : Nat → List Int → Nat → List Int
  | 0, met, _ => met
  | f + 1, met, size => if size < met.length then hloop as f (hpass as met) met.length else met
def metL (n s : Int) (es : List E) (spare : List Int) (left : List Nat) : List Int := hloop (arrows n es spare left) 20 [s] 0
def hangsB (n s : Int) (es : List E) (spare : List Int) (left : List Nat) : Bool := (arrows n es spare left).all fun a => decide (a.1 ∈ metL n s es spare left)
/-- how many floors are not met -/
def unmet (n : Nat) (met : List Int) : Nat := ((List.range n).filter fun (c : Nat) => decide ((c : Int) ∉ met)).length
theorem unmet_le (n : Nat) (met : List Int) : unmet n met ≤ n := Nat.le_trans (List.length_filter_le ..) (by simp)
theorem filter_lt {α : Type} {p q : α → Bool} : ∀ {l : List α}, (∀ x ∈ l, p x = true → q x = true) → (l.filter p).length ≤ (l.filter q).length ∧ (∀ x ∈ l, p x = false → q x = true → (l.filter p).length < (l.filter q).length)
  | [], _ => ⟨Nat.le_refl _, fun x hx => by cases hx⟩
  | y :: r, h => by
    obtain ⟨h1, h2⟩ := filter_lt (l := r) fun x hx => h x (List.mem_cons_of_mem _ hx)
    have hy := h y (List.mem_cons_self ..)
    constructor
    · cases cp : p y <;> cases cq : q y <;> simp [List.filter_cons, cp, cq] <;> first | omega | (rw [cp, cq] at hy; simp at hy)
    · intro x hx px qx
      rcases List.mem_cons.mp hx with e | e
      · subst e
        simp [List.filter_cons, px, qx]
        omega
      · have := h2 x e px qx
        cases cp : p y <;> cases cq : q y <;> simp [List.filter_cons, cp, cq] <;> first | omega | (rw [cp, cq] at hy; simp at hy)
theorem hstep_unmet {n : Nat} {met : List Int} {a : Int × Int} (a0 : 0 ≤ a.1 ∧ a.1 < n) (b0 : 0 ≤ a.2 ∧ a.2 < n) : hstep met a = met ∨ unmet n (hstep met a) < unmet n met := by
  unfold hstep
  split
  · rename_i c
    right
    have sub : ∀ x ∈ List.range n, decide ((x : Int) ∉ met ++ [a.1, a.2]) = true → decide ((x : Int) ∉ met) = true := by
      intro x _ hx
      simp at hx ⊢
      exact hx.1
    have key : ∃ x : Nat, x < n ∧ (x : Int) ∉ met ∧ (x : Int) ∈ met ++ [a.1, a.2] := by
      by_cases d : a.1 ∈ met
      · have d2 : a.2 ∉ met := by intro z; simp [d, z] at c
        exact ⟨a.2.toNat, by omega, by rw [Int.toNat_of_nonneg b0.1]; exact d2, by rw [Int.toNat_of_nonneg b0.1]; simp⟩
      · exact ⟨a.1.toNat, by omega, by rw [Int.toNat_of_nonneg a0.1]; exact d, by rw [Int.toNat_of_nonneg a0.1]; simp⟩
    obtain ⟨x, xn, x1, x2⟩ := key
    exact (filter_lt sub).2 x (List.mem_range.mpr xn) (decide_eq_false fun z => z x2) (decide_eq_true x1)
  · exact .inl rfl
theorem hpass_unmet {n : Nat} : ∀ (as : List (Int × Int)) (met : List Int), (∀ a ∈ as, (0 ≤ a.1 ∧ a.1 < n) ∧ 0 ≤ a.2 ∧ a.2 < n) → hpass as met = met ∨ unmet n (hpass as met) < unmet n met
  | [], _, _ => .inl rfl
  | a :: r, met, h => by
    have h1 := hstep_unmet (met := met) (h a (List.mem_cons_self ..)).1 (h a (List.mem_cons_self ..)).2
    have h2 := hpass_unmet r (hstep met a) fun x hx => h x (List.mem_cons_of_mem _ hx)
    show hpass r (hstep met a) = met ∨ unmet n (hpass r (hstep met a)) < unmet n met
    rcases h1 with h1 | h1 <;> rcases h2 with h2 | h2
    · left; rw [h2, h1]
    · right; rw [h1] at h2 ⊢; exact h2
    · right; rw [h2]; exact h1
    · right; omega
theorem hpass_len : ∀ (as : List (Int × Int)) (met : List Int), met.length ≤ (hpass as met).length ∧ (hpass as met).length ≤ met.length + 2 * as.length
  | [], _ => ⟨Nat.le_refl _, by simp [hpass]⟩
  | a :: r, met => by
    have h2 := hpass_len r (hstep met a)
    have h1 : met.length ≤ (hstep met a).length ∧ (hstep met a).length ≤ met.length + 2 := by unfold hstep; split <;> simp
    show met.length ≤ (hpass r (hstep met a)).length ∧ (hpass r (hstep met a)).length ≤ met.length + 2 * (r.length + 1)
    omega
end CP

set_option maxHeartbeats 1000000
namespace CP
open PySem PySem.Spec PyProof.Rows L2 DL CM
section
variable {n s : Int} {es : List E} {spare : List Int} {left : List Nat} {h0 h1 h2 h3 h5 h6 x7 x8 x9 x10 : SV}
/-- the slots of _law_hangs -/
def hD (h0 h1 h2 h3 : SV) (met : List Int) (h5 h6 x7 x8 x9 x10 : SV) : List SV := [h0, h1, h2, h3, .L 0 (met.map .int), h5, h6, x7, x8, x9, x10]
theorem hangs_step (met : List Int) (a : Int × Int) (hl : met.length < 900000) : tupT 2 (consT (nameT 7) (consT (nameT 8) nilT)) (arrD a) (hD h0 h1 h2 h3 met h5 h6 x7 x8 x9 x10) = some (hD h0 h1 h2 h3 met h5 h6 (.d (.int a.1)) (.d (.int a.2)) x9 x10) ∧
    b__law_hangs_l1 (hD h0 h1 h2 h3 met h5 h6 (.d (.int a.1)) (.d (.int a.2)) x9 x10) = some (.nx (hD h0 h1 h2 h3 (hstep met a) h5 h6 (.d (.int a.1)) (.d (.int a.2)) x9 x10)) := by
  have b := size_big
  have i1 := in_ints a.1 met
  have i2 := in_ints a.2 met
  have nb := ne_bools (decide (a.1 ∈ met)) (decide (a.2 ∈ met))
  have al := addG_ll (a := met.map PyData.int) (b := [.int a.1, .int a.2]) (by simp; omega)
  refine ⟨by simp [hD, arrD], ?_⟩
  unfold b__law_hangs_l1 i__law_hangs_1 hstep
  by_cases c1 : a.1 ∈ met <;> by_cases c2 : a.2 ∈ met <;> simp only [c1, c2, decide_true, decide_false] at i1 i2 nb <;> simp [hD, i1, i2, nb, al, c1, c2]
theorem hangs_pass : ∀ (as : List (Int × Int)) (met : List Int) (x7 x8 : SV), x7.own = false → x8.own = false → met.length + 2 * as.length < 900000 → ∃ y7 y8, y7.own = false ∧ y8.own = false ∧ forGo (tupT 2 (consT (nameT 7) (consT (nameT 8) nilT))) b__law_hangs_l1 (as.map arrD) (hD h0 h1 h2 h3 met h5 h6 x7 x8 x9 x10) = some (.nx (hD h0 h1 h2 h3 (hpass as met) h5 h6 y7 y8 x9 x10))
  | [], met, x7, x8, o7, o8, _ => ⟨x7, x8, o7, o8, rfl⟩
  | a :: r, met, x7, x8, o7, o8, hl => by
    simp only [List.length_cons] at hl
    obtain ⟨e1, e2⟩ := hangs_step (h0 := h0) (h1 := h1) (h2 := h2) (h3 := h3) (h5 := h5) (h6 := h6) (x7 := x7) (x8 := x8) (x9 := x9) (x10 := x10) met a (by omega)
    have hs : (hstep met a).length ≤ met.length + 2 := by unfold hstep; split <;> simp
    obtain ⟨y7, y8, p7, p8, e3⟩ := hangs_pass r (hstep met a) (.d (.int a.1)) (.d (.int a.2)) rfl rfl (by omega)
    refine ⟨y7, y8, p7, p8, ?_⟩
    simp only [List.map_cons, forGo, e1, e2]
    exact e3
theorem hangs_while {as : List (Int × Int)} {nn : Nat} (ok : ∀ a ∈ as, (0 ≤ a.1 ∧ a.1 < nn) ∧ 0 ≤ a.2 ∧ a.2 < nn) (la : as.length ≤ 100) : ∀ (f N : Nat) (met : List Int) (size : Nat) (x7 x8 : SV), x7.own = false → x8.own = false → unmet nn met + 2 ≤ f + (if size = met.length then 1 else 0) → f < N → met.length + 200 * f < 800000 → size ≤ met.length →
    ∃ z5 y7 y8, y7.own = false ∧ y8.own = false ∧ whileGo w__law_hangs_l2 b__law_hangs_l2 N (hD h0 h1 h2 h3 met (.d (.int (size : Int))) (.d (.list (as.map arrD))) x7 x8 x9 x10) = some (.nx (hD h0 h1 h2 h3 (hloop as f met size) z5 (.d (.list (as.map arrD))) y7 y8 x9 x10))
  | 0, N, met, size, x7, x8, _, _, hf, _, _, _ => by split at hf <;> omega
  | f + 1, N + 1, met, size, x7, x8, o7, o8, hf, hN, hl, hsz => by
    have g : w__law_hangs_l2 (hD h0 h1 h2 h3 met (.d (.int (size : Int))) (.d (.list (as.map arrD))) x7 x8 x9 x10) = some (.ok (decide (size < met.length)) (hD h0 h1 h2 h3 met (.d (.int (size : Int))) (.d (.list (as.map arrD))) x7 x8 x9 x10)) := by
      simp [w__law_hangs_l2, hD]
    unfold whileGo hloop
    by_cases c : size < met.length
    · obtain ⟨y7, y8, p7, p8, e⟩ := hangs_pass (h0 := h0) (h1 := h1) (h2 := h2) (h3 := h3) (h5 := .d (.int (met.length : Int))) (h6 := .d (.list (as.map arrD))) (x9 := x9) (x10 := x10) as met x7 x8 o7 o8 (by omega)
      have bd : b__law_hangs_l2 (hD h0 h1 h2 h3 met (.d (.int (size : Int))) (.d (.list (as.map arrD))) x7 x8 x9 x10) = some (.nx (hD h0 h1 h2 h3 (hpass as met) (.d (.int (met.length : Int))) (.d (.list (as.map arrD))) y7 y8 x9 x10)) := by
        unfold b__law_hangs_l2
        simp only [hD] at e ⊢
        simp [e]
      rw [decide_eq_true c] at g
      simp only [g, bd, if_pos c]
      have hp := hpass_len as met
      refine hangs_while ok la f N (hpass as met) met.length y7 y8 p7 p8 ?_ (by omega) (by omega) hp.1
      rw [if_neg (by omega)] at hf
      rcases hpass_unmet as met ok with q | q
      · rw [q, if_pos rfl]; omega
      · split <;> omega
    · rw [decide_eq_false c] at g
      simp only [g, if_neg c]
      exact ⟨_, _, _, o7, o8, rfl⟩
  | _ + 1, 0, _, _, _, _, _, _, _, hN, _, _ => absurd hN (by omega)
end
end CP

set_option maxHeartbeats 1000000
namespace CP
open PySem PySem.Spec PyProof.Rows L2 DL CM
theorem all_bools (l : List Bool) : allGB [.list (l.map .bool)] = some (.d (.bool (l.all id))) := by
  have e : seqBools (.list (l.map .bool)) = some l := by
    unfold seqBools
    simp [seqD]
    induction l with
    | nil => rfl
    | cons x r ih => unfold toBools at ih ⊢; simp [List.mapM_cons, ih]
  show (seqBools _).map _ = _
  rw [e]
  rfl
section
variable {n s : Int} {es : List E} {spare : List Int} {left : List Nat} {x4 x5 x6 : SV}
theorem hangs_c1 (n0 : 0 < n) (n1 : n ≤ 16) (hs : spare.length = n.toNat) (ho : x6.own = false) : c__law_hangs_1 [.d (houseD n s es), .d (spareD spare), .d (leftD left), .d (.int n), x4, x5, x6, .u, .u, .u, .u] = some (.ok (.nL (((List.range n.toNat).filter fun (c : Nat) => decide (0 < spare.getD c 0)).map fun (c : Nat) => arrD ((c : Int), ((c : Int) + 1) % n))) [.d (houseD n s es), .d (spareD spare), .d (leftD left), .d (.int n), x4, x5, x6, .u, .u, .u, .u]) := by
  unfold c__law_hangs_1
  have ri := fun δ => rngI_ok (δ := δ) (j := n) (by omega) (by omega)
  have r := rngD_map n.toNat
  have b := size_big
  refine lc_fil numD (fun (c : Nat) => decide (0 < spare.getD c 0)) (fun (c : Nat) => arrD ((c : Int), ((c : Int) + 1) % n)) (List.range n.toNat) ?_ (by simp) (by simp; omega) fun c hc => ?_
  · simp [ri, r]
    intro a _
    rfl
  · have lt : c < spare.length := by have := List.mem_range.mp hc; omega
    have ix := ixT_map (f := PyData.int) (l := spare) (i := (c : Int)) (by omega) (by omega)
    have e : spare.getD c 0 = spare[c]'lt := by simp [List.getD, List.getElem?_eq_getElem lt]
    refine ⟨[.d (houseD n s es), .d (spareD spare), .d (leftD left), .d (.int n), x4, x5, x6, .u, .u, .d (numD c), .u], by simp, by simp, ?_, fun _ => ?_⟩
    · rw [e]; simp [spareD, numD, ix]
    · simp [numD, arrD, n0]
theorem hangs_c2 (n0 : 0 < n) (hl : left.length < 100000) (ok : ∀ k ∈ left, k < es.length) : c__law_hangs_2 [.d (houseD n s es), .d (spareD spare), .d (leftD left), .d (.int n), x4, x5, x6, .u, .u, .u, .u] = some (.ok (.nL (left.map fun k => arrD ((es.getD k (0, 0)).1, endI n (es.getD k (0, 0))))) [.d (houseD n s es), .d (spareD spare), .d (leftD left), .d (.int n), x4, x5, x6, .u, .u, .u, .u]) := by
  unfold c__law_hangs_2
  have b := size_big
  refine lc_map numD (fun k => arrD ((es.getD k (0, 0)).1, endI n (es.getD k (0, 0)))) left ?_ (by simp) (by omega) fun k hk => ⟨[.d (houseD n s es), .d (spareD spare), .d (leftD left), .d (.int n), x4, x5, x6, .u, .u, .u, .d (numD k)], ?_, ?_, ?_⟩
  · simp [leftD]
  · simp
  · simp
  · have lt := ok k hk
    have ix := ixT_map (f := errD) (l := es) (i := (k : Int)) (by omega) (by omega)
    have e : es.getD k (0, 0) = es[k]'lt := by simp [List.getD, List.getElem?_eq_getElem lt]
    have su := sum_ints (l := [(es[k]'lt).1, (es[k]'lt).2]) true
    simp only [if_true, List.map_cons, List.map_nil, List.sum_cons, List.sum_nil, Int.add_zero] at su
    rw [e]
    simp [houseD, numD, ix, errD, su, n0, arrD, endI]
theorem hangs_c3 {as : List (Int × Int)} {met : List Int} {h0 h1 h2 h3 x5 x7 x8 x9 x10 : SV} (hl : as.length < 100000) (o7 : x7.own = false) (o8 : x8.own = false) :
    c__law_hangs_3 (hD h0 h1 h2 h3 met x5 (.d (.list (as.map arrD))) x7 x8 x9 x10) = some (.ok (.nL ((as.map fun a => decide (a.1 ∈ met)).map .bool)) (hD h0 h1 h2 h3 met x5 (.d (.list (as.map arrD))) x7 x8 x9 x10)) := by
  unfold c__law_hangs_3
  rw [List.map_map]
  refine lc_map arrD (fun a => PyData.bool (decide (a.1 ∈ met))) as ?_ (by simp [hD, o7, o8]) (by omega) fun a ha => ⟨hD h0 h1 h2 h3 met x5 (.d (.list (as.map arrD))) (.d (.int a.1)) (.d (.int a.2)) x9 x10, ?_, ?_, ?_⟩
  · simp [hD]
  · simp [hD, arrD]
  · simp [hD]
  · have i1 := in_ints a.1 met
    simp [hD, i1]
end
end CP

set_option maxHeartbeats 1000000
namespace CP
open PySem PySem.Spec PyProof.Rows L2 DL CM
section
variable {n s : Int} {es : List E} {spare : List Int} {left : List Nat} {h0 h1 h2 h3 : SV}
theorem hangs_first {as : List (Int × Int)} {nn : Nat} (hn : nn ≤ 16) (ok : ∀ a ∈ as, (0 ≤ a.1 ∧ a.1 < nn) ∧ 0 ≤ a.2 ∧ a.2 < nn) (la : as.length ≤ 100) :
    ∃ z5 y7 y8, y7.own = false ∧ y8.own = false ∧ whileGo w__law_hangs_l2 b__law_hangs_l2 1000000 (hD h0 h1 h2 h3 [s] (.d (.int 0)) (.L 0 (as.map arrD)) .u .u .u .u) = some (.nx (hD h0 h1 h2 h3 (hloop as 20 [s] 0) z5 (.d (.list (as.map arrD))) y7 y8 .u .u)) := by
  obtain ⟨y7, y8, p7, p8, e⟩ := hangs_pass (h0 := h0) (h1 := h1) (h2 := h2) (h3 := h3) (h5 := .d (.int 1)) (h6 := .d (.list (as.map arrD))) (x9 := .u) (x10 := .u) as [s] .u .u rfl rfl (by simp; omega)
  have g : w__law_hangs_l2 (hD h0 h1 h2 h3 [s] (.d (.int 0)) (.L 0 (as.map arrD)) .u .u .u .u) = some (.ok true (hD h0 h1 h2 h3 [s] (.d (.int 0)) (.L 0 (as.map arrD)) .u .u .u .u)) := by
    simp [w__law_hangs_l2, hD]
  have bd : b__law_hangs_l2 (hD h0 h1 h2 h3 [s] (.d (.int 0)) (.L 0 (as.map arrD)) .u .u .u .u) = some (.nx (hD h0 h1 h2 h3 (hpass as [s]) (.d (.int 1)) (.d (.list (as.map arrD))) y7 y8 .u .u)) := by
    unfold b__law_hangs_l2
    simp only [hD] at e ⊢
    simp at e
    simp [e]
  have hp := hpass_len as [s]
  have un := unmet_le nn (hpass as [s])
  simp only [List.length_cons, List.length_nil] at hp
  obtain ⟨z5, w7, w8, q7, q8, e2⟩ := hangs_while (h0 := h0) (h1 := h1) (h2 := h2) (h3 := h3) (x9 := .u) (x10 := .u) ok la 19 999999 (hpass as [s]) 1 y7 y8 p7 p8 (by omega) (by decide) (by omega) (by omega)
  refine ⟨z5, w7, w8, q7, q8, ?_⟩
  show whileGo w__law_hangs_l2 b__law_hangs_l2 (999999 + 1) _ = _
  unfold whileGo
  simp only [g, bd]
  exact e2
theorem arrows_ok (n0 : 0 < n) (ok : ∀ e ∈ es, OkE n e) (lo : ∀ k ∈ left, k < es.length) : ∀ a ∈ arrows n es spare left, (0 ≤ a.1 ∧ a.1 < (n.toNat : Int)) ∧ 0 ≤ a.2 ∧ a.2 < (n.toNat : Int) := by
  intro a ha
  rw [Int.toNat_of_nonneg (by omega)]
  rcases List.mem_append.mp ha with h | h
  · obtain ⟨c, hc, rfl⟩ := List.mem_map.mp h
    have := List.mem_range.mp (List.mem_filter.mp hc).1
    have m0 := Int.emod_nonneg ((c : Int) + 1) (show n ≠ 0 by omega)
    have m1 := Int.emod_lt_of_pos ((c : Int) + 1) n0
    exact ⟨⟨by simp, by simp; omega⟩, m0, m1⟩
  · obtain ⟨k, hk, rfl⟩ := List.mem_map.mp h
    have lt := lo k hk
    have e : es.getD k (0, 0) = es[k]'lt := by simp [List.getD, List.getElem?_eq_getElem lt]
    rw [e]
    have o := ok _ (List.getElem_mem lt)
    exact ⟨⟨o.1, o.2.1⟩, Int.emod_nonneg _ (by omega), Int.emod_lt_of_pos _ n0⟩
theorem hangs_spec (h : OkH n s es) (hs : spare.length = n.toNat) (hl : left.length ≤ 80) (lo : ∀ k ∈ left, k < es.length) :
    f__law_hangs [.d (houseD n s es), .d (spareD spare), .d (leftD left)] = some (.ok (.d (.bool (hangsB n s es spare left))) [.d (houseD n s es), .d (spareD spare), .d (leftD left)]) := by
  have n0 := h.n0
  have n1 := h.n1
  have b := size_big
  have la : (arrows n es spare left).length ≤ 100 := by
    unfold arrows
    have := List.length_filter_le (fun (c : Nat) => decide (0 < spare.getD c 0)) (List.range n.toNat)
    simp only [List.length_append, List.length_map, List.length_range] at this ⊢
    omega
  have am : (arrows n es spare left).map arrD = (((List.range n.toNat).filter fun (c : Nat) => decide (0 < spare.getD c 0)).map fun (c : Nat) => arrD ((c : Int), ((c : Int) + 1) % n)) ++ (left.map fun k => arrD ((es.getD k (0, 0)).1, endI n (es.getD k (0, 0)))) := by
    unfold arrows
    rw [List.map_append, List.map_map, List.map_map]
    rfl
  have c1 := hangs_c1 (s := s) (es := es) (left := left) (x4 := .L 0 [.int s]) (x5 := .d (.int 0)) (x6 := .u) (by omega) n1 hs rfl
  have c2 := fun x6 => hangs_c2 (n := n) (s := s) (es := es) (spare := spare) (left := left) (x4 := .L 0 [.int s]) (x5 := .d (.int 0)) (x6 := x6) (by omega) (by omega) lo
  obtain ⟨z5, y7, y8, p7, p8, e⟩ := hangs_first (s := s) (h0 := .d (houseD n s es)) (h1 := .d (spareD spare)) (h2 := .d (leftD left)) (h3 := .d (.int n)) (nn := n.toNat) (by omega) (arrows_ok (spare := spare) (by omega) h.ok lo) la
  have c3 := hangs_c3 (as := arrows n es spare left) (met := hloop (arrows n es spare left) 20 [s] 0) (h0 := .d (houseD n s es)) (h1 := .d (spareD spare)) (h2 := .d (leftD left)) (h3 := .d (.int n)) (x5 := z5) (x7 := y7) (x8 := y8) (x9 := .u) (x10 := .u) (by omega) p7 p8
  have ab := all_bools ((arrows n es spare left).map fun a => decide (a.1 ∈ hloop (arrows n es spare left) 20 [s] 0))
  have al := addG_ll (a := ((List.range n.toNat).filter fun (c : Nat) => decide (0 < spare.getD c 0)).map fun (c : Nat) => arrD ((c : Int), ((c : Int) + 1) % n)) (b := left.map fun k => arrD ((es.getD k (0, 0)).1, endI n (es.getD k (0, 0)))) (by
    rw [← List.length_append, ← am, List.length_map]; omega)
  rw [← am] at al
  have hb : hangsB n s es spare left = ((arrows n es spare left).map fun a => decide (a.1 ∈ hloop (arrows n es spare left) 20 [s] 0)).all id := by
    unfold hangsB metL
    rw [List.all_map]
    rfl
  rw [hb]
  unfold f__law_hangs b__law_hangs
  generalize ((List.range n.toNat).filter fun (c : Nat) => decide (0 < spare.getD c 0)).map (fun (c : Nat) => arrD ((c : Int), ((c : Int) + 1) % n)) = A1 at c1 al
  generalize left.map (fun k => arrD ((es.getD k (0, 0)).1, endI n (es.getD k (0, 0)))) = A2 at c2 al
  generalize ((arrows n es spare left).map fun a => decide (a.1 ∈ hloop (arrows n es spare left) 20 [s] 0)) = bs at c3 ab
  generalize hloop (arrows n es spare left) 20 [s] 0 = met at e c3
  simp only [hD, houseD] at c1 c2 c3 e ⊢
  simp only [List.map_cons, List.map_nil] at e
  simp [c1, c2, al, e, c3, ab]
end
end CP

set_option maxHeartbeats 1000000
namespace CP
open PySem PySem.Spec PyProof.Rows L2 DL CM
/-! ### one turn of a drawn ride -/
section
variable {n s at_ : Int} {es : List E} {spare : List Int} {left : List Nat}
theorem there_lt {m : Nat} (lo : ∀ k ∈ left, k < es.length) (h : some m ∈ thereL es at_ spare left) : m ∈ left ∧ m < es.length ∧ (es.getD m (0, 0)).1 = at_ := by
  unfold thereL at h
  rcases List.mem_append.mp h with h | h
  · split at h <;> simp at h
  · obtain ⟨k, hk, e⟩ := List.mem_map.mp h
    cases e
    have := List.mem_filter.mp hk
    exact ⟨this.1, lo m this.1, by simpa using this.2⟩
theorem behind_spec (n0 : 0 < n) (a0 : 0 ≤ at_) (a1 : at_ < spare.length) (hs : spare.length < 1000) (hl : left.length < 1000000) (lo : ∀ k ∈ left, k < es.length) {m : Option Nat} (h : m ∈ thereL es at_ spare left) :
    f__law_behind [.d (houseD n s es), .d (.int at_), .d (spareD spare), .d (leftD left), .d (movD m)] = some (.ok (.d (laterD (behindL n es at_ spare left m))) [.d (houseD n s es), .d (.int at_), .d (spareD spare), .d (leftD left), .d (movD m)]) := by
  cases m with
  | none => exact behind_none n0 a0 a1 hs
  | some k => exact behind_some n0 (there_lt lo h).2.1 hl
theorem ix_pred {α : Type} {f : α → D} {l : List α} {r : Nat} (h : r < l.length) (d : α) : ixG (.list (l.map f)) (.int ((r : Int) - 1)) = some (.d (f (l.getD (if r = 0 then l.length - 1 else r - 1) d))) := by
  by_cases c : r = 0
  · subst c
    rw [if_pos rfl]
    obtain ⟨a, q⟩ : ∃ a, l = l.dropLast ++ [a] := ⟨l.getLast (by intro z; subst z; simp at h), (List.dropLast_concat_getLast _).symm⟩
    have e := ix_last (l.dropLast.map f) (f a)
    have g : l.getD (l.length - 1) d = a := by
      conv => lhs; rw [q]
      simp [List.getD]
    rw [g]
    have e2 : l.map f = l.dropLast.map f ++ [f a] := by conv => lhs; rw [q]
                                                        simp
    rw [e2]
    exact e
  · rw [if_neg c]
    have lt : r - 1 < l.length := by omega
    have e := ix_map (f := f) (l := l) (i := (r : Int) - 1) (by omega) (by omega)
    rw [e]
    have g : l.getD (r - 1) d = l[r - 1]'lt := by simp [List.getD, List.getElem?_eq_getElem lt]
    rw [g]
    have t : ((r : Int) - 1).toNat = r - 1 := by omega
    simp only [t]
theorem behind_fits (n0 : 0 < n) {m : Option Nat} (lo : ∀ k ∈ left, k < es.length) : (behindL n es at_ spare left m).2.1.length = spare.length ∧ (behindL n es at_ spare left m).2.2.length ≤ left.length ∧ (∀ k ∈ (behindL n es at_ spare left m).2.2, k < es.length) ∧ 0 ≤ (behindL n es at_ spare left m).1 ∧ (behindL n es at_ spare left m).1 < n := by
  cases m with
  | none => exact ⟨by simp [behindL], Nat.le_refl _, lo, Int.emod_nonneg _ (by omega), Int.emod_lt_of_pos _ n0⟩
  | some k => exact ⟨rfl, List.length_filter_le .., fun k hk => lo k (List.mem_filter.mp hk).1, Int.emod_nonneg _ (by omega), Int.emod_lt_of_pos _ n0⟩
/-- the move that is taken, when the draw says spot -/
def pickM (n s : Int) (es : List E) (at_ : Int) (spare : List Int) (left : List Nat) (spot : Nat) : Option Nat :=
  if 1 < (thereL es at_ spare left).length ∧ hangsB n s es (behindL n es at_ spare left ((thereL es at_ spare left).getD spot none)).2.1 (behindL n es at_ spare left ((thereL es at_ spare left).getD spot none)).2.2 = false
    then (thereL es at_ spare left).getD (if spot = 0 then (thereL es at_ spare left).length - 1 else spot - 1) none else (thereL es at_ spare left).getD spot none
theorem getD_mem {α : Type} {l : List α} {i : Nat} (d : α) (h : i < l.length) : l.getD i d ∈ l := by
  have e : l.getD i d = l[i]'h := by simp [List.getD, List.getElem?_eq_getElem h]
  rw [e]
  exact List.getElem_mem h
theorem pick_mem {spot : Nat} (h : spot < (thereL es at_ spare left).length) : pickM n s es at_ spare left spot ∈ thereL es at_ spare left := by
  unfold pickM
  split
  · exact getD_mem _ (by split <;> omega)
  · exact getD_mem _ h
end
end CP

set_option maxHeartbeats 1000000
namespace CP
open PySem PySem.Spec PyProof.Rows L2 DL CM
/-- the slots of _law_ride -/
def rD (st : St) (H : SV) (often : SV) (at_ : Int) (left : List Nat) (found : List (Option Nat)) (spare : List Int) (some_ : List (Option Nat)) (x8 x9 x10 : SV) : List SV :=
  [.M 1 st.k, H, often, .d (.int at_), .d (leftD left), .L 0 (found.map movD), .d (spareD spare), .L 0 (some_.map movD), x8, x9, x10]
section
variable {n s at_ : Int} {es : List E} {spare : List Int} {left : List Nat} {often x8 x9 x10 : SV} {found : List (Option Nat)} {st : St} {m : Nat}
theorem ride_turn (h : OkH n s es) (ok : st.Ok m) (hm : m < 900000) (a0 : 0 ≤ at_) (a1 : at_ < n) (hs : spare.length = n.toNat) (hl : left.length ≤ 80) (lo : ∀ k ∈ left, k < es.length) (hf : found.length < 900000) (ne : thereL es at_ spare left ≠ []) :
    ∃ (spot : Nat) (st' : St) (y8 y9 : SV), spot < (thereL es at_ spare left).length ∧ st'.Ok (m + 1) ∧ st'.cells = st.cells ∧
      b__law_ride_l1 (rD st (.d (houseD n s es)) often at_ left found spare (thereL es at_ spare left) x8 x9 x10)
        = some (.nx (rD st' (.d (houseD n s es)) often (behindL n es at_ spare left (pickM n s es at_ spare left spot)).1 (behindL n es at_ spare left (pickM n s es at_ spare left spot)).2.2 (found ++ [pickM n s es at_ spare left spot]) (behindL n es at_ spare left (pickM n s es at_ spare left spot)).2.1
            (thereL es (behindL n es at_ spare left (pickM n s es at_ spare left spot)).1 (behindL n es at_ spare left (pickM n s es at_ spare left spot)).2.1 (behindL n es at_ spare left (pickM n s es at_ spare left spot)).2.2) y8 y9 x10)) := by
  have n0 := h.n0
  have n1 := h.n1
  have b := size_big
  have tl : (thereL es at_ spare left).length ≤ 81 := by
    have := List.length_filter_le (fun k => decide ((es.getD k (0, 0)).1 = at_)) left
    unfold thereL
    split <;> simp at this ⊢ <;> omega
  have t0 : 0 < (thereL es at_ spare left).length := by
    cases q : thereL es at_ spare left with
    | nil => exact absurd q ne
    | cons a r => simp
  obtain ⟨r, st', e1, r0, r1, ok', ce⟩ := next_spec (n := 0) (many := ((thereL es at_ spare left).length : Int)) ok (by omega) (by omega) (by omega)
  obtain ⟨spot, rfl⟩ := Int.eq_ofNat_of_zero_le r0
  have sl : spot < (thereL es at_ spare left).length := by omega
  have bs := fun {m : Option Nat} (hm : m ∈ thereL es at_ spare left) => behind_spec (n := n) (s := s) (by omega) a0 (by omega) (by omega) (by omega) lo hm
  have bf := fun (m : Option Nat) => behind_fits (n := n) (at_ := at_) (spare := spare) (by omega) lo (m := m)
  have f1 := getD_mem (none : Option Nat) sl
  have ix1 : ixG (.list ((thereL es at_ spare left).map movD)) (.int (spot : Int)) = some (.d (movD ((thereL es at_ spare left).getD spot none))) := by
    have := ix_map (f := movD) (l := thereL es at_ spare left) (i := (spot : Int)) (by omega) (by omega)
    rw [this]
    simp [List.getD, List.getElem?_eq_getElem sl]
  have ix2 := ix_pred (f := movD) sl (none : Option Nat)
  have pm := pick_mem (n := n) (s := s) sl
  have b1 := bs f1
  have hg := hangs_spec (spare := (behindL n es at_ spare left ((thereL es at_ spare left).getD spot none)).2.1) (left := (behindL n es at_ spare left ((thereL es at_ spare left).getD spot none)).2.2) h (by rw [(bf _).1]; exact hs) (Nat.le_trans (bf _).2.1 hl) (bf _).2.2.1
  have hl1 : found.length < sizeLine := Nat.lt_of_lt_of_le (by omega) size_big
  have b2 := bs pm
  have pf := bf (pickM n s es at_ spare left spot)
  have tp := there_spec (n := n) (s := s) (es := es) (at_ := (behindL n es at_ spare left (pickM n s es at_ spare left spot)).1) (spare := (behindL n es at_ spare left (pickM n s es at_ spare left spot)).2.1) (left := (behindL n es at_ spare left (pickM n s es at_ spare left spot)).2.2) pf.2.2.2.1 (by rw [pf.1, hs]; have := pf.2.2.2.2; omega) (by have := pf.2.1; omega) pf.2.2.1
  unfold b__law_ride_l1 i__law_ride_1
  by_cases c : 1 < (thereL es at_ spare left).length ∧ hangsB n s es (behindL n es at_ spare left ((thereL es at_ spare left).getD spot none)).2.1 (behindL n es at_ spare left ((thereL es at_ spare left).getD spot none)).2.2 = false
  · have pe : pickM n s es at_ spare left spot = (thereL es at_ spare left).getD (if spot = 0 then (thereL es at_ spare left).length - 1 else spot - 1) none := by unfold pickM; rw [if_pos c]
    refine ⟨spot, st', .d (.int ((spot : Int) - 1)), .d (laterD (behindL n es at_ spare left (pickM n s es at_ spare left spot))), sl, ok', ce, ?_⟩
    rw [← pe] at ix2
    rw [c.2] at hg
    have c1 := c.1
    generalize pickM n s es at_ spare left spot = p at ix2 b2 tp ⊢
    generalize (thereL es at_ spare left).getD spot none = q at ix1 b1 hg
    generalize thereL es at_ spare left = T at *
    generalize behindL n es at_ spare left p = L at b2 tp ⊢
    generalize behindL n es at_ spare left q = L' at b1 hg
    obtain ⟨l1, l2, l3⟩ := L
    obtain ⟨k1, k2, k3⟩ := L'
    have c2 : (1 : Int) < (T.length : Int) := by omega
    simp only [rD, laterD] at *
    simp [e1, ix1, ix2, b1, b2, hg, tp, c2, appG, hl1]
  · have pe : pickM n s es at_ spare left spot = (thereL es at_ spare left).getD spot none := by unfold pickM; rw [if_neg c]
    refine ⟨spot, st', .d (.int (spot : Int)), .d (laterD (behindL n es at_ spare left (pickM n s es at_ spare left spot))), sl, ok', ce, ?_⟩
    rw [← pe] at ix1 b1 hg c
    generalize pickM n s es at_ spare left spot = p at ix1 b1 b2 tp hg c ⊢
    generalize thereL es at_ spare left = T at *
    generalize behindL n es at_ spare left p = L at b1 b2 tp hg c ⊢
    obtain ⟨l1, l2, l3⟩ := L
    simp only [rD, laterD] at *
    by_cases c1 : 1 < T.length
    · have c2 : hangsB n s es l2 l3 = true := by
        cases z : hangsB n s es l2 l3 with
        | true => rfl
        | false => exact absurd ⟨c1, z⟩ c
      rw [c2] at hg
      have c3 : (1 : Int) < (T.length : Int) := by omega
      simp [e1, ix1, b1, b2, hg, tp, c3, appG, hl1]
    · have c3 : ¬ (1 : Int) < (T.length : Int) := by omega
      simp [e1, ix1, b1, b2, tp, c3, appG, hl1]
end
end CP

set_option maxHeartbeats 1000000
namespace CP
open PySem PySem.Spec PyProof.Rows L2 DL CM
/-! ### a drawn ride: what stays true -/
section
variable {n s at_ : Int} {es : List E} {spare : List Int} {left : List Nat} {found : List (Option Nat)}
theorem walk_snoc : ∀ (xs : List D) (k : Nat) (w w' w2 : Wk) (x : D), walkG n es xs k w = (w', none) → w'.step n es x = some w2 → walkG n es (xs ++ [x]) k w = (w2, none)
  | [], k, w, w', w2, x, h, e => by
    cases h
    show walkG n es [x] k w = _
    unfold walkG
    rw [e]
    rfl
  | y :: r, k, w, w', w2, x, h, e => by
    show walkG n es (y :: (r ++ [x])) k w = _
    unfold walkG at h ⊢
    cases q : w.step n es y with
    | none => rw [q] at h; cases h
    | some w3 => rw [q] at h; exact walk_snoc r (k + 1) w3 w' w2 x h e
theorem set_sum : ∀ (l : List Int) (i : Nat) (x : Int), i < l.length → (l.set i x).sum = l.sum - l.getD i 0 + x
  | [], i, x, h => by simp at h
  | a :: r, 0, x, _ => by simp; omega
  | a :: r, i + 1, x, h => by
    have := set_sum r i x (by simpa using h)
    simp at this ⊢
    omega
/-- what stays true of a drawn ride -/
structure RInv (n s : Int) (es : List E) (at_ : Int) (spare : List Int) (left : List Nat) (found : List (Option Nat)) (w : Wk) : Prop where
  a0 : 0 ≤ at_
  a1 : at_ < n
  sp : spare.length = n.toNat
  nn : ∀ x ∈ spare, 0 ≤ x
  lo : ∀ k ∈ left, k < es.length
  ll : left.length ≤ 80
  walk : walkG n es (found.map movD) 0 (.start s) = (w, none)
  at_ : w.at_ = at_
  has : ∀ k, k < es.length → k ∈ left ∨ k ∈ w.taken.map (·.1)
  hasn : ∀ k ∈ left, k ∉ w.taken.map (·.1)
theorem isTk_mem {t : List (Nat × Int)} {k : Nat} (h : k ∉ t.map (·.1)) : isTk t (k : Int) = false := by
  unfold isTk
  rw [List.any_eq_false]
  intro p hp z
  have : p.1 = k := by have := of_decide_eq_true z; omega
  exact h (List.mem_map.mpr ⟨p, hp, this⟩)
/-- one move on: it is legal, and there is less to go -/
theorem RInv.move {w : Wk} (n0 : 2 ≤ n) (I : RInv n s es at_ spare left found w) {m : Option Nat} (hm : m ∈ thereL es at_ spare left) :
    (∃ w', RInv n s es (behindL n es at_ spare left m).1 (behindL n es at_ spare left m).2.1 (behindL n es at_ spare left m).2.2 (found ++ [m]) w') ∧
    (behindL n es at_ spare left m).2.1.sum + ((behindL n es at_ spare left m).2.2.length : Int) < spare.sum + (left.length : Int) := by
  have bf := behind_fits (n := n) (at_ := at_) (spare := spare) (by omega) I.lo (m := m)
  cases m with
  | none =>
    have lt : at_.toNat < spare.length := by rw [I.sp]; have := I.a0; have := I.a1; omega
    have pos : 0 < spare.getD at_.toNat 0 := by
      unfold thereL at hm
      rcases List.mem_append.mp hm with z | z
      · split at z
        · assumption
        · simp at z
      · simp at z
    have st : w.step n es (movD none) = some (w.go n 1) := rfl
    refine ⟨⟨w.go n 1, ⟨bf.2.2.2.1, bf.2.2.2.2, by rw [bf.1]; exact I.sp, ?_, bf.2.2.1, Nat.le_trans bf.2.1 I.ll, ?_, ?_, I.has, I.hasn⟩⟩, ?_⟩
    · intro x hx
      rcases List.mem_or_eq_of_mem_set hx with z | z
      · exact I.nn x z
      · omega
    · rw [List.map_append]
      exact walk_snoc _ _ _ _ _ _ I.walk st
    · show (w.at_ + 1) % n = (at_ + 1) % n
      rw [I.at_]
    · have := set_sum spare at_.toNat (spare.getD at_.toNat 0 - 1) lt
      show (spare.set at_.toNat (spare.getD at_.toNat 0 - 1)).sum + (left.length : Int) < _
      omega
  | some k =>
    obtain ⟨k1, k2, k3⟩ := there_lt I.lo hm
    have tk := isTk_mem (I.hasn k k1)
    have wt : waits es w.taken w.at_ (numD k) = some k := by
      show (if 0 ≤ (k : Int) ∧ (k : Int) < es.length ∧ isTk w.taken (k : Int) = false ∧ (es.getD (k : Int).toNat (0, 0)).1 = w.at_ then some (k : Int).toNat else none) = some k
      rw [Int.toNat_natCast, if_pos ⟨by omega, by omega, tk, by rw [k3, I.at_]⟩]
    have st : w.step n es (movD (some k)) = some ((w.take k).go n (es.getD k (0, 0)).2) := by
      show (if isD (numD k) = true then _ else _) = _
      rw [if_neg (by simp [numD, isD])]
      show (waits es w.taken w.at_ (numD k)).map _ = _
      rw [wt]
      rfl
    refine ⟨⟨(w.take k).go n (es.getD k (0, 0)).2, ⟨bf.2.2.2.1, bf.2.2.2.2, I.sp, I.nn, bf.2.2.1, Nat.le_trans bf.2.1 I.ll, ?_, ?_, ?_, ?_⟩⟩, ?_⟩
    · rw [List.map_append]
      exact walk_snoc _ _ _ _ _ _ I.walk st
    · show (w.at_ + (es.getD k (0, 0)).2) % n = ((es.getD k (0, 0)).1 + (es.getD k (0, 0)).2) % n
      rw [I.at_, k3]
    · intro j hj
      by_cases c : j = k
      · right; subst c; simp [Wk.go, Wk.take]
      · rcases I.has j hj with z | z
        · left; exact List.mem_filter.mpr ⟨z, by simpa using c⟩
        · right
          show j ∈ (w.taken ++ [(k, w.gone)]).map (·.1)
          rw [List.map_append]
          exact List.mem_append_left _ z
    · intro j hj
      obtain ⟨j1, j2⟩ := List.mem_filter.mp hj
      have j2 : j ≠ k := by simpa using j2
      show j ∉ (w.taken ++ [(k, w.gone)]).map (·.1)
      rw [List.map_append]
      intro z
      rcases List.mem_append.mp z with z | z
      · exact I.hasn j j1 z
      · simp at z; exact j2 z
    · have f := (filter_lt (p := fun j => decide (j ≠ k)) (q := fun _ => true) (l := left) fun _ _ _ => rfl).2 k k1 (by simp) rfl
      have g : left.filter (fun _ => true) = left := by simp
      rw [g] at f
      show spare.sum + ((left.filter fun j => decide (j ≠ k)).length : Int) < _
      omega
end
end CP

set_option maxHeartbeats 1000000
namespace CP
open PySem PySem.Spec PyProof.Rows L2 DL CM
theorem layMoves (T : List (Option Nat)) : layD (.list (T.map movD)) = true := by
  simp only [layD, lay, List.all_map, List.all_eq_true]
  intro m _
  cases m <;> rfl
theorem ne_nil (T : List (Option Nat)) : neG (.list (T.map movD)) (.list []) = some (.d (.bool (decide (T ≠ [])))) := by
  unfold neG
  rw [if_pos ⟨layMoves T, rfl⟩]
  cases T with
  | nil => rfl
  | cons a r => simp [PyData.eqv, PyData.eqvAll]
theorem sum_nn : ∀ {l : List Int}, (∀ x ∈ l, 0 ≤ x) → 0 ≤ l.sum
  | [], _ => by simp
  | a :: r, h => by
    have h1 := h a (List.mem_cons_self ..)
    have h2 := sum_nn (l := r) fun x hx => h x (List.mem_cons_of_mem _ hx)
    simp only [List.sum_cons]
    omega
section
variable {n s : Int} {es : List E} {often x10 : SV}
theorem ride_loop (h : OkH n s es) : ∀ (f N : Nat) (at_ : Int) (spare : List Int) (left : List Nat) (found : List (Option Nat)) (w : Wk) (st : St) (m : Nat) (x8 x9 : SV), RInv n s es at_ spare left found w → spare.sum + (left.length : Int) ≤ f → f < N → m + f < 900000 → found.length + f < 900000 → st.Ok m →
    ∃ (at' : Int) (spare' : List Int) (left' : List Nat) (found' : List (Option Nat)) (w' : Wk) (st' : St) (y8 y9 : SV), RInv n s es at' spare' left' found' w' ∧ st'.Ok (m + f) ∧ st'.cells = st.cells ∧ found'.length ≤ found.length + f ∧
      whileGo w__law_ride_l1 b__law_ride_l1 N (rD st (.d (houseD n s es)) often at_ left found spare (thereL es at_ spare left) x8 x9 x10) = some (.nx (rD st' (.d (houseD n s es)) often at' left' found' spare' [] y8 y9 x10))
  | f, N + 1, at_, spare, left, found, w, st, m, x8, x9, I, hf, hN, hm, hl, ok => by
    have b := size_big
    have g : w__law_ride_l1 (rD st (.d (houseD n s es)) often at_ left found spare (thereL es at_ spare left) x8 x9 x10) = some (.ok (decide (thereL es at_ spare left ≠ [])) (rD st (.d (houseD n s es)) often at_ left found spare (thereL es at_ spare left) x8 x9 x10)) := by
      have nn := ne_nil (thereL es at_ spare left)
      unfold w__law_ride_l1
      simp only [rD]
      generalize decide (thereL es at_ spare left ≠ []) = bb at nn ⊢
      simp [nn]
    unfold whileGo
    by_cases c : thereL es at_ spare left = []
    · rw [decide_eq_false (by simpa using c)] at g
      simp only [g]
      rw [c]
      exact ⟨at_, spare, left, found, w, st, x8, x9, I, ok.le (by omega), rfl, by omega, rfl⟩
    · rw [decide_eq_true c] at g
      obtain ⟨spot, st1, y8, y9, sl, ok1, ce, e⟩ := ride_turn (often := often) (x8 := x8) (x9 := x9) (x10 := x10) (found := found) h ok (by omega) I.a0 I.a1 I.sp I.ll I.lo (by omega) c
      simp only [g, e]
      obtain ⟨⟨w1, I1⟩, lt⟩ := I.move h.n0 (pick_mem (n := n) (s := s) sl)
      have s0 := sum_nn I1.nn
      match f, hf with
      | 0, hf => exfalso; simp only [Int.natCast_zero] at hf; omega
      | f + 1, hf =>
        obtain ⟨at', spare', left', found', w', st', z8, z9, I2, ok2, ce2, l2, e2⟩ := ride_loop h f N _ _ _ _ w1 st1 (m + 1) y8 y9 I1 (by omega) (by omega) (by omega) (by simp; omega) ok1
        refine ⟨at', spare', left', found', w', st', z8, z9, I2, ok2.le (by omega), by rw [ce2, ce], by simp at l2; omega, e2⟩
  | _, 0, _, _, _, _, _, _, _, _, _, _, _, hN, _, _, _ => absurd hN (by omega)
end
end CP

set_option maxHeartbeats 1000000
namespace CP
open PySem PySem.Spec PyProof.Rows L2 DL CM
section
variable {n s often : Int} {es : List E} {st : St} {m : Nat}
def spare0 (n : Int) (es : List E) (often : Int) : List Int := (loadsI n es).map fun l => often - l
theorem ride_c (h : OkH n s es) (k : Nat) (a b c : SV) (hc : c.own = false) : c__law_ride_1 [.M 1 st.k, .d (houseD n s es), .d (.int often), .d (.int s), a, b, .u, .u, .u, .u, c] = some (.ok (.nL ((loadsI n es).map fun l => .int (often - l))) [.M 1 st.k, .d (houseD n s es), .d (.int often), .d (.int s), a, b, .u, .u, .u, .u, c]) := by
  have e := lloads_spec h
  have n1 := h.n1
  unfold c__law_ride_1
  refine lc_map PyData.int (fun l => .int (often - l)) (loadsI n es) ?_ (by simp [hc]) (by simp [loadsI]; omega) fun l hl => ⟨[.M 1 st.k, .d (houseD n s es), .d (.int often), .d (.int s), a, b, .u, .u, .u, .u, .d (.int l)], ?_, ?_, ?_⟩
  · simp [e]
  · simp
  · simp
  · simp
theorem eq_nil (T : List Nat) : eqG (leftD T) (.tuple []) = some (.d (.bool (decide (T = [])))) := by
  have l : layD (leftD T) = true := by
    unfold leftD
    simp only [layD, lay, List.all_map, List.all_eq_true]
    intro m _
    rfl
  unfold eqG
  rw [if_pos ⟨l, rfl⟩]
  cases T with
  | nil => rfl
  | cons a r => simp [leftD, PyData.eqv, PyData.eqvAll]
theorem sum_le {c : Int} : ∀ {l : List Int}, (∀ x ∈ l, x ≤ c) → l.sum ≤ c * l.length
  | [], _ => by simp
  | a :: r, h => by
    have h1 := h a (List.mem_cons_self ..)
    have h2 := sum_le (c := c) (l := r) fun x hx => h x (List.mem_cons_of_mem _ hx)
    simp only [List.sum_cons, List.length_cons, Int.natCast_add, Int.natCast_one, Int.mul_add, Int.mul_one]
    omega
theorem loads_nn (h : OkH n s es) : ∀ l ∈ loadsI n es, 0 ≤ l := by
  intro l hl
  obtain ⟨i, _, rfl⟩ := List.mem_map.mp hl
  refine sum_nn fun x hx => ?_
  obtain ⟨e, he, rfl⟩ := List.mem_map.mp hx
  have o := h.ok e he
  have n0 := h.n0
  have : 0 ≤ e.2 / n := Int.ediv_nonneg (by have := o.2.2.1; omega) (by omega)
  unfold ovAt
  split <;> omega
/-- the start of a drawn ride -/
theorem RInv.start (h : OkH n s es) (hb : ∀ l ∈ loadsI n es, l ≤ often) : RInv n s es s (spare0 n es often) (List.range es.length) [] (.start s) where
  a0 := h.s0
  a1 := h.s1
  sp := by simp [spare0, loadsI]
  nn := by
    intro x hx
    obtain ⟨l, hl, rfl⟩ := List.mem_map.mp hx
    have := hb l hl
    show 0 ≤ often - l
    omega
  lo := fun k hk => List.mem_range.mp hk
  ll := by have := h.len; simp; omega
  walk := rfl
  at_ := rfl
  has := fun k hk => .inl (List.mem_range.mpr hk)
  hasn := fun k _ => by simp [Wk.start]
end
end CP

set_option maxHeartbeats 1000000
namespace CP
open PySem PySem.Spec PyProof.Rows L2 DL CM
section
variable {n s often : Int} {es : List E} {st : St} {m : Nat}
def rideD (at_ s : Int) (spare : List Int) (left : List Nat) (found : List (Option Nat)) : D := if left = [] ∧ spare.sum = 0 ∧ at_ = s then .tuple (found.map movD) else .none
theorem ride_spec (h : OkH n s es) (ok : st.Ok m) (hm : m < 800000) (k : Nat) (hb : ∀ l ∈ loadsI n es, l ≤ often) (ho : often ≤ 250) :
    ∃ (at' : Int) (spare' : List Int) (left' : List Nat) (found' : List (Option Nat)) (w' : Wk) (st' : St), RInv n s es at' spare' left' found' w' ∧ st'.Ok (m + 5000) ∧ st'.cells = st.cells ∧ found'.length ≤ 5000 ∧
      f__law_ride [.M k st.k, .d (houseD n s es), .d (.int often)] = some (.ok (.d (rideD at' s spare' left' found')) [.M k st'.k, .d (houseD n s es), .d (.int often)]) := by
  have b := size_big
  have n0 := h.n0
  have n1 := h.n1
  have I0 := RInv.start h hb
  have sm : (spare0 n es often).sum ≤ 4000 := by
    have l0 := loads_nn h
    have := sum_le (c := 250) (l := spare0 n es often) fun x hx => by
      obtain ⟨l, hl, rfl⟩ := List.mem_map.mp hx
      have := l0 l hl
      show often - l ≤ 250
      omega
    have e := I0.sp
    rw [e] at this
    omega
  have hl := h.len
  obtain ⟨at', spare', left', found', w', st', y8, y9, I, ok', ce, fl, e⟩ := ride_loop (often := .d (.int often)) (x10 := .u) h 5000 1000000 s (spare0 n es often) (List.range es.length) [] (.start s) st m .u .u I0 (by simp; omega) (by decide) (by omega) (by simp) ok
  refine ⟨at', spare', left', found', w', st', I, ok', ce, by simpa using fl, ?_⟩
  have c1 := ride_c (st := st) (often := often) h 0 (.d (leftD (List.range es.length))) (.L 0 []) .u rfl
  have rg := r_rangeT (n := es.length) (by omega)
  have rm := rngD_map es.length
  have tp := there_spec (n := n) (s := s) (es := es) (at_ := s) (spare := spare0 n es often) (left := List.range es.length) h.s0 (by rw [I0.sp]; have := h.s1; omega) (by simp; omega) fun k hk => List.mem_range.mp hk
  have en := eq_nil left'
  have su := sum_ints (l := spare') true
  simp only [if_true] at su
  have ld : leftD (List.range es.length) = .tuple (rngD 0 es.length) := by rw [rm]; rfl
  have sd : spareD (spare0 n es often) = .tuple ((loadsI n es).map fun l => .int (often - l)) := by simp [spareD, spare0]
  unfold f__law_ride b__law_ride
  generalize thereL es s (spare0 n es often) (List.range es.length) = T at e tp
  simp only [rD, ld, sd, List.map_nil] at e tp c1
  have sp' : spareD spare' = .tuple (spare'.map .int) := rfl
  rw [sp'] at e
  unfold rideD
  simp only [houseD] at e tp c1 ⊢
  by_cases q1 : left' = []
  · subst q1
    by_cases q2 : spare'.sum = 0 <;> by_cases q3 : at' = s <;> simp [rg, c1, tp, e, su, en, q2, q3]
  · by_cases q2 : spare'.sum = 0 <;> by_cases q3 : at' = s <;> simp [rg, c1, tp, e, su, en, q1, q2, q3]
end
end CP

set_option maxHeartbeats 1000000
namespace CP
open PySem PySem.Spec PyProof.Rows L2 DL CM
theorem nd_sub : ∀ {l l2 : List Nat}, l.Nodup → (∀ x ∈ l, x ∈ l2) → l.length ≤ l2.length
  | [], _, _, _ => by simp
  | x :: r, l2, nd, h => by
    obtain ⟨a, b, rfl⟩ := List.append_of_mem (h x (List.mem_cons_self ..))
    have nd2 := List.nodup_cons.mp nd
    have := nd_sub (l := r) (l2 := a ++ b) nd2.2 fun y hy => by
      have ne : y ≠ x := fun e => nd2.1 (e ▸ hy)
      have := h y (List.mem_cons_of_mem _ hy)
      simp only [List.mem_append, List.mem_cons] at this ⊢
      rcases this with z | z | z
      · exact .inl z
      · exact absurd z ne
      · exact .inr z
    simp only [List.length_append, List.length_cons] at this ⊢
    omega
section
variable {n s at_ : Int} {es : List E} {spare : List Int} {left : List Nat} {found : List (Option Nat)} {w : Wk}
theorem step_gone (n0 : 0 < n) {w w' : Wk} {x : D} (f : w.at_ = (s + w.gone) % n) (h : w.step n es x = some w') : w'.at_ = (s + w'.gone) % n := by
  have key : ∀ t : Int, (w.at_ + t) % n = (s + (w.gone + t)) % n := by
    intro t
    rw [f, Int.emod_add_emod]
    congr 1
    omega
  unfold Wk.step at h
  split at h
  · cases h; exact key 1
  · cases q : waits es w.taken w.at_ x with
    | none => rw [q] at h; cases h
    | some j => rw [q] at h; cases h; exact key _
theorem walk_gone (n0 : 0 < n) : ∀ (xs : List D) (k : Nat) (w : Wk), w.at_ = (s + w.gone) % n → (walkG n es xs k w).1.at_ = (s + (walkG n es xs k w).1.gone) % n
  | [], _, _, f => f
  | x :: r, k, w, f => by
    unfold walkG
    cases q : w.step n es x with
    | none => exact f
    | some w' => exact walk_gone n0 r (k + 1) w' (step_gone n0 f q)
theorem ride_good (h : OkH n s es) (I : RInv n s es at_ spare left found w) (q1 : left = []) (q3 : at_ = s) : rideOf n s es (.tuple (found.map movD)) = .ok w ∧ w.gone % n = 0 := by
  have n0 := h.n0
  have len : es.length ≤ w.taken.length := by
    have := nd_sub (l := List.range es.length) (l2 := w.taken.map (·.1)) List.nodup_range fun k hk => by
      rcases I.has k (List.mem_range.mp hk) with z | z
      · rw [q1] at z; cases z
      · exact z
    simpa using this
  constructor
  · show rideT n s es (found.map movD) = .ok w
    unfold rideT
    rw [I.walk]
    show (if w.taken.length < es.length ∨ w.at_ ≠ s then _ else _) = _
    rw [if_neg (fun z => z.elim (fun z => absurd z (by omega)) fun z => z (I.at_.trans q3))]
  · have g := walk_gone (s := s) (es := es) (n := n) (by omega) (found.map movD) 0 (.start s) (by
      show s = (s + 0) % n
      rw [Int.add_zero, Int.emod_eq_of_lt h.s0 h.s1])
    rw [I.walk] at g
    have g : w.at_ = (s + w.gone) % n := g
    rw [I.at_, q3] at g
    have e : s % n = s := Int.emod_eq_of_lt h.s0 h.s1
    have g2 : s % n = (s + w.gone) % n := by rw [e]; exact g
    have := Int.emod_eq_emod_iff_emod_sub_eq_zero.mp g2.symm
    rw [show s + w.gone - s = w.gone by omega] at this
    exact this
end
end CP

set_option maxHeartbeats 1000000
namespace CP
open PySem PySem.Spec PyProof.Rows L2 DL CM
/-! ### how large a walk's numbers are -/
structure Wk.Sz (k : Nat) (w : Wk) : Prop where
  stops : ∀ x ∈ w.stops, 0 ≤ x ∧ x < 16
  len : w.stops.length = k + 1
  gone0 : 0 ≤ w.gone
  gone1 : w.gone ≤ 48 * k
  taken : ∀ p ∈ w.taken, 0 ≤ p.2 ∧ p.2 ≤ 48 * k
section
variable {n s : Int} {es : List E}
theorem start_sz (h : OkH n s es) : (Wk.start s).Sz 0 := ⟨by have := h.s0; have := h.s1; have := h.n1; simp [Wk.start]; omega, rfl, Int.le_refl _, Int.le_refl _, by simp [Wk.start]⟩
theorem go_sz (h : OkH n s es) {k : Nat} {w : Wk} (f : w.Sz k) {t : Int} (t0 : 0 ≤ t) (t1 : t ≤ 48) : (w.go n t).Sz (k + 1) := by
  have n0 := h.n0
  have n1 := h.n1
  refine ⟨?_, by simp [Wk.go, f.len], ?_, ?_, ?_⟩
  · intro x hx
    rcases List.mem_append.mp hx with z | z
    · exact f.stops x z
    · simp at z
      have m0 := Int.emod_nonneg (w.at_ + t) (show n ≠ 0 by omega)
      have m1 := Int.emod_lt_of_pos (w.at_ + t) (show 0 < n by omega)
      omega
  · have := f.gone0; show 0 ≤ w.gone + t; omega
  · have := f.gone1; show w.gone + t ≤ 48 * ((k + 1 : Nat) : Int); omega
  · intro p hp
    have := f.taken p hp
    exact ⟨this.1, by omega⟩
theorem step_sz (h : OkH n s es) {k : Nat} {w w' : Wk} {x : D} (f : w.Sz k) (e : w.step n es x = some w') : w'.Sz (k + 1) := by
  have n1 := h.n1
  unfold Wk.step at e
  split at e
  · cases e; exact go_sz h f (by decide) (by decide)
  · cases q : waits es w.taken w.at_ x with
    | none => rw [q] at e; cases e
    | some j =>
      rw [q] at e; cases e
      have f2 : (w.take j).Sz k := ⟨f.stops, f.len, f.gone0, f.gone1, fun p hp => by
        rcases List.mem_append.mp hp with z | z
        · exact f.taken p z
        · simp at z; subst z; exact ⟨f.gone0, f.gone1⟩⟩
      have o : 0 ≤ (es.getD j (0, 0)).2 ∧ (es.getD j (0, 0)).2 ≤ 48 := by
        by_cases c : j < es.length
        · have e2 : es.getD j (0, 0) = es[j]'c := by simp [List.getD, List.getElem?_eq_getElem c]
          rw [e2]
          have := h.ok _ (List.getElem_mem c)
          exact ⟨by have := this.2.2.1; omega, by have := this.2.2.2; omega⟩
        · have e2 : es.getD j (0, 0) = (0, 0) := by simp [List.getD, List.getElem?_eq_none (by omega : es.length ≤ j)]
          rw [e2]
          decide
      exact go_sz h f2 o.1 o.2
theorem walk_sz (h : OkH n s es) : ∀ (xs : List D) (k j : Nat) (w w' : Wk), w.Sz j → walkG n es xs k w = (w', none) → w'.Sz (j + xs.length)
  | [], _, _, _, _, f, e => by cases e; exact f
  | x :: r, k, j, w, w', f, e => by
    unfold walkG at e
    cases q : w.step n es x with
    | none => rw [q] at e; cases e
    | some w2 =>
      rw [q] at e
      have := walk_sz h r (k + 1) (j + 1) w2 w' (step_sz h f q) e
      rw [show j + (x :: r).length = j + 1 + r.length by simp; omega]
      exact this
theorem tkAt_sz {k : Nat} {w : Wk} (f : w.Sz k) (j : Nat) : 0 ≤ tkAt w.taken j ∧ tkAt w.taken j ≤ 48 * k := by
  unfold tkAt
  cases q : w.taken.find? fun p => decide (p.1 = j) with
  | none => exact ⟨Int.le_refl _, by show (0 : Int) ≤ _; omega⟩
  | some p => exact f.taken p (List.mem_of_find?_eq_some q)
theorem load_sz (h : OkH n s es) : ∀ l ∈ loadsI n es, l ≤ 160 := by
  intro l hl
  obtain ⟨i, _, rfl⟩ := List.mem_map.mp hl
  have := sum_le (c := 4) (l := es.map fun e => ovAt n e (i : Int)) fun x hx => by
    obtain ⟨e, he, rfl⟩ := List.mem_map.mp hx
    have o := h.ok e he
    have n0 := h.n0
    have : e.2 / n ≤ 3 := Int.ediv_le_of_le_mul (by omega) o.2.2.2
    unfold ovAt
    split <;> omega
  have hl := h.len
  rw [List.length_map] at this
  show (es.map fun e => ovAt n e (i : Int)).sum ≤ 160
  omega
end
end CP

namespace K16
open PySem PySem.Spec PyProof.Rows L2 DL CM
def i__law_hand_right_1 : SS := (ifS (toB (op2E neG (callE f_rounds_of 2 0 (pick [0, 1]) [] (consA (escE (varE 0)) (consA (escE (op2E mulG (tupE (consA (escE (conE .none)) nilA)) (conE (.int 2080)))) nilA)) nilA) (conE (.int 130)))) (retS (conE (.bool false))) skipS)
def c__law_hand_right_1 : SE := (lcE [4] (rng1S (consA (pkE (conE (.int 2081))) nilA)) (nameT 4) yesB (op2E modG (op2E addG (conE (.int 3)) (varE 4)) (conE (.int 16))))
def i__law_hand_right_2 : SS := (ifS (toB (op2E neG (callE f_halts 2 0 (pick [0, 1]) [] (consA (escE (varE 0)) (consA (escE (op2E mulG (tupE (consA (escE (conE .none)) nilA)) (conE (.int 2080)))) nilA)) nilA) (callBE tupleG (consA (pkE c__law_hand_right_1) nilA)))) (retS (conE (.bool false))) skipS)
def i__law_hand_right_3 : SS := (ifS (toB (op2E neG (lstE (consA (escE (callE f_rounds_of 2 0 (pick [0, 1]) [] (consA (escE (varE 0)) (consA (escE (tupE nilA)) nilA)) nilA)) (consA (escE (callE f_halts 2 0 (pick [0, 1]) [] (consA (escE (varE 0)) (consA (escE (tupE nilA)) nilA)) nilA)) (consA (escE (callE f_taken_at 2 0 (pick [0, 1]) [] (consA (escE (varE 0)) (consA (escE (tupE nilA)) nilA)) nilA)) (consA (escE (callE f_order_of 2 0 (pick [0, 1]) [] (consA (escE (varE 0)) (consA (escE (tupE nilA)) nilA)) nilA)) nilA))))) (lstE (consA (escE (conE (.int 0))) (consA (escE (tupE (consA (escE (conE (.int 3))) nilA))) (consA (escE (tupE nilA)) (consA (escE (tupE nilA)) nilA))))))) (retS (conE (.bool false))) skipS)
def c__law_hand_right_2 : SE := (lcE [4] (rng1S (consA (pkE (conE (.int 40))) nilA)) (nameT 4) yesB (op2E mulG (conE (.int 48)) (op2E subG (conE (.int 39)) (varE 4))))
def i__law_hand_right_4 : SS := (ifS (orB (toB (op2E neG (callE f_rounds_of 2 0 (pick [0, 1]) [] (consA (escE (varE 1)) (consA (escE (varE 2)) nilA)) nilA) (conE (.int 120)))) (toB (op2E neG (callE f_taken_at 2 0 (pick [0, 1]) [] (consA (escE (varE 1)) (consA (escE (varE 2)) nilA)) nilA) (callBE tupleG (consA (pkE c__law_hand_right_2) nilA))))) (retS (conE (.bool false))) skipS)
def b__law_hand_right : SS := (seqS (setS 0 (tupE (consA (escE (conE (.int 16))) (consA (escE (conE (.int 3))) (consA (escE (tupE nilA)) nilA))))) (seqS i__law_hand_right_1 (seqS i__law_hand_right_2 (seqS i__law_hand_right_3 (seqS (setS 1 (tupE (consA (escE (conE (.int 16))) (consA (escE (conE (.int 0))) (consA (escE (op2E mulG (tupE (consA (escE (tupE (consA (escE (conE (.int 0))) (consA (escE (conE (.int 48))) nilA)))) nilA)) (conE (.int 40)))) nilA))))) (seqS (setS 2 (op1E revTG (op1E rangeG (conE (.int 40))))) (seqS i__law_hand_right_4 (seqS (setS 1 (tupE (consA (escE (conE (.int 2))) (consA (escE (conE (.int 1))) (consA (escE (tupE (consA (escE (tupE (consA (escE (conE (.int 0))) (consA (escE (conE (.int 1))) nilA)))) (consA (escE (tupE (consA (escE (conE (.int 1))) (consA (escE (conE (.int 2))) nilA)))) (consA (escE (tupE (consA (escE (conE (.int 1))) (consA (escE (conE (.int 6))) nilA)))) nilA))))) nilA))))) (seqS (setS 2 (tupE (consA (escE (conE (.int 2))) (consA (escE (conE .none)) (consA (escE (conE (.int 0))) (consA (escE (conE (.int 1))) nilA)))))) (seqS (setS 3 (lstE (consA (escE (callE f_rounds_of 2 0 (pick [0, 1]) [] (consA (escE (varE 1)) (consA (escE (varE 2)) nilA)) nilA)) (consA (escE (callE f_halts 2 0 (pick [0, 1]) [] (consA (escE (varE 1)) (consA (escE (varE 2)) nilA)) nilA)) (consA (escE (callE f_taken_at 2 0 (pick [0, 1]) [] (consA (escE (varE 1)) (consA (escE (varE 2)) nilA)) nilA)) (consA (escE (callE f_order_of 2 0 (pick [0, 1]) [] (consA (escE (varE 1)) (consA (escE (varE 2)) nilA)) nilA)) nilA)))))) (retS (op2E eqG (varE 3) (lstE (consA (escE (conE (.int 5))) (consA (escE (tupE (consA (escE (conE (.int 1))) (consA (escE (conE (.int 1))) (consA (escE (conE (.int 0))) (consA (escE (conE (.int 1))) (consA (escE (conE (.int 1))) nilA))))))) (consA (escE (tupE (consA (escE (conE (.int 7))) (consA (escE (conE (.int 8))) (consA (escE (conE (.int 0))) nilA))))) (consA (escE (tupE (consA (escE (conE (.int 2))) (consA (escE (conE (.int 0))) (consA (escE (conE (.int 1))) nilA))))) nilA)))))))))))))))))
def f__law_hand_right : SE := defE 0 5 b__law_hand_right
def i__law_right_1 : SS := (ifS (orB (toB (op2E isnG (varE 5) (conE .none))) (toB (op2E neG (op2E modG (varE 4) (op2E ixG (varE 0) (conE (.int 0)))) (conE (.int 0))))) (retS (conE (.bool false))) skipS)
def c__law_right_1 : SE := (lcE [8] (rng1S (consA (pkE (callBE lenG (consA (pkE (op2E ixG (varE 0) (conE (.int 2)))) nilA))) nilA)) (nameT 8) yesB (op2E ixG (varE 3) (varE 8)))
def c__law_right_2 : SE := (lcE [9] (datS (varE 1)) (nameT 9) (toB (op2E isnG (varE 9) (conE .none))) (varE 9))
def b__law_right : SS := (seqS (unpS (tupT 4 (consT (nameT 2) (consT (nameT 3) (consT (nameT 4) (consT (nameT 5) nilT))))) (callE f__law_gone 2 0 (pick [0, 1]) [] (consA (escE (varE 0)) (consA (escE (varE 1)) nilA)) nilA)) (seqS i__law_right_1 (seqS (setS 6 (lstE (consA (escE (op2E fdivG (varE 4) (op2E ixG (varE 0) (conE (.int 0))))) (consA (escE (callBE tupleG (consA (pkE (varE 2)) nilA))) (consA (escE (callBE tupleG (consA (pkE c__law_right_1) nilA))) nilA))))) (seqS (exprS (metE appG (varE 6) (consA (escE (callBE tupleG (consA (pkE c__law_right_2) nilA))) nilA))) (seqS (setS 7 (lstE (consA (escE (callE f_rounds_of 2 0 (pick [0, 1]) [] (consA (escE (varE 0)) (consA (escE (varE 1)) nilA)) nilA)) (consA (escE (callE f_halts 2 0 (pick [0, 1]) [] (consA (escE (varE 0)) (consA (escE (varE 1)) nilA)) nilA)) (consA (escE (callE f_taken_at 2 0 (pick [0, 1]) [] (consA (escE (varE 0)) (consA (escE (varE 1)) nilA)) nilA)) (consA (escE (callE f_order_of 2 0 (pick [0, 1]) [] (consA (escE (varE 0)) (consA (escE (varE 1)) nilA)) nilA)) nilA)))))) (seqS (ifS (toB (op2E neG (callBE repr2G (consA (pkE (varE 7)) nilA)) (callBE repr2G (consA (pkE (varE 6)) nilA)))) (retS (conE (.bool false))) skipS) (seqS (setS 7 (lstE (consA (escE (callE f_rounds_of 0 2 (pick [1, 0]) [] nilA (consA (escE (varE 1)) (consA (escE (varE 0)) nilA)))) (consA (escE (callE f_halts 0 2 (pick [1, 0]) [] nilA (consA (escE (varE 1)) (consA (escE (varE 0)) nilA)))) nilA)))) (retS (op2E eqG (callBE repr2G (consA (pkE (op2E addG (varE 7) (lstE (consA (escE (callE f_taken_at 0 2 (pick [1, 0]) [] nilA (consA (escE (varE 1)) (consA (escE (varE 0)) nilA)))) (consA (escE (callE f_order_of 0 2 (pick [1, 0]) [] nilA (consA (escE (varE 1)) (consA (escE (varE 0)) nilA)))) nilA))))) nilA)) (callBE repr2G (consA (pkE (varE 6)) nilA)))))))))))
def f__law_right : SE := defE 2 10 b__law_right
def i_law_1 : SS := (ifS (andB (toB (op2E isnG (varE 7) (conE .none))) (notB (toB (callE f__law_right 2 0 (pick [0, 1]) [] (consA (escE (varE 4)) (consA (escE (varE 7)) nilA)) nilA)))) (retS (conE (.bool false))) skipS)
def b_law_l1 : SS := (seqS (setS 7 (callE f__law_ride 3 0 (pick [0, 1, 2]) [] (consA (pkE (varE 1)) (consA (escE (varE 4)) (consA (escE (varE 6)) nilA))) nilA)) i_law_1)
def b_law_l2 : SS := (seqS (setS 3 (op2E ixG (lstE (consA (escE (op2E addG (conE (.int 2)) (callE f__law_next 2 0 (pick [0, 1]) [] (consA (pkE (varE 1)) (consA (escE (conE (.int 7))) nilA)) nilA))) (consA (escE (op2E addG (conE (.int 2)) (callE f__law_next 2 0 (pick [0, 1]) [] (consA (pkE (varE 1)) (consA (escE (conE (.int 15))) nilA)) nilA))) nilA))) (callE f__law_next 2 0 (pick [0, 1]) [] (consA (pkE (varE 1)) (consA (escE (conE (.int 2))) nilA)) nilA))) (seqS (setS 4 (callE f__law_house 3 0 (pick [0, 1, 2]) [] (consA (pkE (varE 1)) (consA (escE (varE 3)) (consA (escE (conE (.int 12))) nilA))) nilA)) (seqS (setS 5 (callBE maxGB (consA (pkE (callE f__law_loads 1 0 (pick [0]) [] (consA (escE (varE 4)) nilA) nilA)) nilA))) (forS (datS (tupE (consA (escE (op2E addG (varE 5) (callE f__law_next 2 0 (pick [0, 1]) [] (consA (pkE (varE 1)) (consA (escE (conE (.int 3))) nilA)) nilA))) (consA (escE (op2E addG (varE 5) (conE (.int 1)))) nilA)))) (nameT 6) b_law_l1))))
def b_law : SS := (seqS (setS 1 (callE f__law_begin 1 0 (pick [0]) [] (consA (escE (varE 0)) nilA) nilA)) (seqS (ifS (notB (toB (callE f__law_hand_right 0 0 (pick []) [] nilA nilA))) (retS (conE (.bool false))) skipS) (seqS (forS (rng1S (consA (pkE (op2E addG (conE (.int 3)) (callBE min2G (consA (pkE (conE (.int 4))) (consA (pkE (op2E fdivG (callBE lenG (consA (pkE (varE 0)) nilA)) (conE (.int 4)))) nilA))))) nilA)) (nameT 2) b_law_l2) (retS (conE (.bool true))))))
def f_law : SE := defE 1 8 b_law
end K16

set_option maxHeartbeats 4000000
namespace K16
open PySem PySem.Spec PyProof.Rows L2 DL CM
def topS (i : Nat) : Stmt := PySem.Challenge.pw_oneseat_k16_told_of_rides.main.body.getD i (.Pass ⟨0, 0, 0, 0⟩)
abbrev s__law_begin : Stmt := topS 24
theorem sc__law_begin : FnScope ["script"] ["script"] (defScope s__law_begin) := ⟨rfl, rfl, rfl, by decide +kernel, rfl, by decide +kernel, by decide +kernel⟩
abbrev s_is_number : Stmt := topS 8
theorem sc_is_number : FnScope ["thing"] ["thing"] (defScope s_is_number) := ⟨rfl, rfl, rfl, by decide +kernel, rfl, by decide +kernel, by decide +kernel⟩
abbrev s_is_whole : Stmt := topS 9
theorem sc_is_whole : FnScope ["thing", "least", "most"] ["thing", "least", "most"] (defScope s_is_whole) := ⟨rfl, rfl, rfl, by decide +kernel, rfl, by decide +kernel, by decide +kernel⟩
abbrev s_is_errand : Stmt := topS 10
theorem sc_is_errand : FnScope ["thing", "floors", "begin", "steps"] ["thing", "floors"] (defScope s_is_errand) := ⟨rfl, rfl, rfl, by decide +kernel, rfl, by decide +kernel, by decide +kernel⟩
abbrev s_faults_of : Stmt := topS 13
theorem sc_faults_of : FnScope ["thing", "floors", "start", "errands", "number", "one"] ["thing"] (defScope s_faults_of) := ⟨rfl, rfl, rfl, by decide +kernel, rfl, by decide +kernel, by decide +kernel⟩
abbrev s_need_house : Stmt := topS 14
theorem sc_need_house : FnScope ["house", "place"] ["house"] (defScope s_need_house) := ⟨rfl, rfl, rfl, by decide +kernel, rfl, by decide +kernel, by decide +kernel⟩
abbrev s_walked : Stmt := topS 16
theorem sc_walked : FnScope ["house", "moves", "floors", "at", "errands", "stops", "taken", "gone", "number", "move", "steps"] ["house", "moves"] (defScope s_walked) := ⟨rfl, rfl, rfl, by decide +kernel, rfl, by decide +kernel, by decide +kernel⟩
abbrev s_need_own_ride : Stmt := topS 17
theorem sc_need_own_ride : FnScope ["house", "ride", "stops", "taken", "gone"] ["house", "ride"] (defScope s_need_own_ride) := ⟨rfl, rfl, rfl, by decide +kernel, rfl, by decide +kernel, by decide +kernel⟩
abbrev s_ride_walked : Stmt := topS 18
theorem sc_ride_walked : FnScope ["house", "ride"] ["house", "ride"] (defScope s_ride_walked) := ⟨rfl, rfl, rfl, by decide +kernel, rfl, by decide +kernel, by decide +kernel⟩
abbrev s_rounds_of : Stmt := topS 19
theorem sc_rounds_of : FnScope ["house", "ride", "stops", "taken", "gone"] ["house", "ride"] (defScope s_rounds_of) := ⟨rfl, rfl, rfl, by decide +kernel, rfl, by decide +kernel, by decide +kernel⟩
abbrev s_halts : Stmt := topS 20
theorem sc_halts : FnScope ["house", "ride"] ["house", "ride"] (defScope s_halts) := ⟨rfl, rfl, rfl, by decide +kernel, rfl, by decide +kernel, by decide +kernel⟩
abbrev s_taken_at : Stmt := topS 21
theorem sc_taken_at : FnScope ["house", "ride", "taken", "number"] ["house", "ride"] (defScope s_taken_at) := ⟨rfl, rfl, rfl, by decide +kernel, rfl, by decide +kernel, by decide +kernel⟩
abbrev s_order_of : Stmt := topS 22
theorem sc_order_of : FnScope ["house", "ride", "move"] ["house", "ride"] (defScope s_order_of) := ⟨rfl, rfl, rfl, by decide +kernel, rfl, by decide +kernel, by decide +kernel⟩
abbrev s__law_hand_right : Stmt := topS 38
theorem sc__law_hand_right : FnScope ["far", "home", "went", "told", "k"] [] (defScope s__law_hand_right) := ⟨rfl, rfl, rfl, by decide +kernel, rfl, by decide +kernel, by decide +kernel⟩
abbrev s__law_mixed : Stmt := topS 25
theorem sc__law_mixed : FnScope ["cell", "k", "number"] ["cell", "k"] (defScope s__law_mixed) := ⟨rfl, rfl, rfl, by decide +kernel, rfl, by decide +kernel, by decide +kernel⟩
abbrev s__law_next : Stmt := topS 26
theorem sc__law_next : FnScope ["draw", "many", "found", "cells", "cell"] ["draw", "many"] (defScope s__law_next) := ⟨rfl, rfl, rfl, by decide +kernel, rfl, by decide +kernel, by decide +kernel⟩
abbrev s__law_errand : Stmt := topS 27
theorem sc__law_errand : FnScope ["draw", "floors", "steps"] ["draw", "floors"] (defScope s__law_errand) := ⟨rfl, rfl, rfl, by decide +kernel, rfl, by decide +kernel, by decide +kernel⟩
abbrev s__law_way : Stmt := topS 28
theorem sc__law_way : FnScope ["draw", "floors", "begin", "left", "found", "steps"] ["draw", "floors"] (defScope s__law_way) := ⟨rfl, rfl, rfl, by decide +kernel, rfl, by decide +kernel, by decide +kernel⟩
abbrev s__law_house : Stmt := topS 29
theorem sc__law_house : FnScope ["draw", "floors", "many", "way", "start", "found", "k", "at"] ["draw", "floors", "many"] (defScope s__law_house) := ⟨rfl, rfl, rfl, by decide +kernel, rfl, by decide +kernel, by decide +kernel⟩
abbrev s__law_loads : Stmt := topS 32
theorem sc__law_loads : FnScope ["home", "found", "begin", "steps", "far", "at"] ["home"] (defScope s__law_loads) := ⟨rfl, rfl, rfl, by decide +kernel, rfl, by decide +kernel, by decide +kernel⟩
abbrev s__law_there : Stmt := topS 34
theorem sc__law_there : FnScope ["home", "at", "spare", "left", "k"] ["home", "at", "spare", "left"] (defScope s__law_there) := ⟨rfl, rfl, rfl, by decide +kernel, rfl, by decide +kernel, by decide +kernel⟩
abbrev s__law_behind : Stmt := topS 35
theorem sc__law_behind : FnScope ["home", "at", "spare", "left", "move", "less", "rest", "k"] ["home", "at", "spare", "left", "move"] (defScope s__law_behind) := ⟨rfl, rfl, rfl, by decide +kernel, rfl, by decide +kernel, by decide +kernel⟩
abbrev s__law_hangs : Stmt := topS 33
theorem sc__law_hangs : FnScope ["home", "spare", "left", "floors", "met", "size", "arrows", "one", "other", "cell", "k"] ["home", "spare", "left"] (defScope s__law_hangs) := ⟨rfl, rfl, rfl, by decide +kernel, rfl, by decide +kernel, by decide +kernel⟩
abbrev s__law_ride : Stmt := topS 36
theorem sc__law_ride : FnScope ["draw", "home", "often", "at", "left", "found", "spare", "some", "spot", "later", "load"] ["draw", "home", "often"] (defScope s__law_ride) := ⟨rfl, rfl, rfl, by decide +kernel, rfl, by decide +kernel, by decide +kernel⟩
abbrev s__law_waits : Stmt := topS 30
theorem sc__law_waits : FnScope ["home", "taken", "at", "move"] ["home", "taken", "at", "move"] (defScope s__law_waits) := ⟨rfl, rfl, rfl, by decide +kernel, rfl, by decide +kernel, by decide +kernel⟩
abbrev s__law_gone : Stmt := topS 31
theorem sc__law_gone : FnScope ["home", "moves", "floors", "at", "total", "stops", "taken", "number", "move", "steps"] ["home", "moves"] (defScope s__law_gone) := ⟨rfl, rfl, rfl, by decide +kernel, rfl, by decide +kernel, by decide +kernel⟩
abbrev s__law_right : Stmt := topS 37
theorem sc__law_right : FnScope ["home", "went", "stops", "taken", "total", "wrong", "due", "told", "k", "move"] ["home", "went"] (defScope s__law_right) := ⟨rfl, rfl, rfl, by decide +kernel, rfl, by decide +kernel, by decide +kernel⟩
abbrev s_law : Stmt := topS 39
theorem sc_law : FnScope ["script", "draw", "turn", "floors", "home", "most", "often", "went"] ["script"] (defScope s_law) := ⟨rfl, rfl, rfl, by decide +kernel, rfl, by decide +kernel, by decide +kernel⟩
abbrev s_BadHouse : Stmt := (DL.clsBody (topS 2)).getD 0 (.Pass ⟨0, 0, 0, 0⟩)
theorem sc_BadHouse : FnScope ["self", "place"] ["self", "place"] (defScope s_BadHouse) := ⟨rfl, rfl, rfl, by decide +kernel, rfl, by decide +kernel, by decide +kernel⟩
abbrev s_BadRide : Stmt := (DL.clsBody (topS 3)).getD 0 (.Pass ⟨0, 0, 0, 0⟩)
theorem sc_BadRide : FnScope ["self", "number"] ["self", "number"] (defScope s_BadRide) := ⟨rfl, rfl, rfl, by decide +kernel, rfl, by decide +kernel, by decide +kernel⟩
structure Top (K : PySem.W.Frag) (mg : Str → Option Value) : Prop where
  d__law_begin : ∃ fd, FunD K "_law_begin" "_law_begin" (defArgs s__law_begin) (defBody s__law_begin) (defScope s__law_begin) [] [] (He.ga K "_law_begin") fd
  m__law_begin : mg "_law_begin" = some (.ref (He.ga K "_law_begin"))
  d_is_number : ∃ fd, FunD K "is_number" "is_number" (defArgs s_is_number) (defBody s_is_number) (defScope s_is_number) [] [] (He.ga K "is_number") fd
  m_is_number : mg "is_number" = some (.ref (He.ga K "is_number"))
  d_is_whole : ∃ fd, FunD K "is_whole" "is_whole" (defArgs s_is_whole) (defBody s_is_whole) (defScope s_is_whole) [] [("least", .int 0), ("most", .non)] (He.ga K "is_whole") fd
  m_is_whole : mg "is_whole" = some (.ref (He.ga K "is_whole"))
  d_is_errand : ∃ fd, FunD K "is_errand" "is_errand" (defArgs s_is_errand) (defBody s_is_errand) (defScope s_is_errand) [] [] (He.ga K "is_errand") fd
  m_is_errand : mg "is_errand" = some (.ref (He.ga K "is_errand"))
  d_faults_of : ∃ fd, FunD K "faults_of" "faults_of" (defArgs s_faults_of) (defBody s_faults_of) (defScope s_faults_of) [] [] (He.ga K "faults_of") fd
  m_faults_of : mg "faults_of" = some (.ref (He.ga K "faults_of"))
  d_need_house : ∃ fd, FunD K "need_house" "need_house" (defArgs s_need_house) (defBody s_need_house) (defScope s_need_house) [] [] (He.ga K "need_house") fd
  m_need_house : mg "need_house" = some (.ref (He.ga K "need_house"))
  d_walked : ∃ fd, FunD K "walked" "walked" (defArgs s_walked) (defBody s_walked) (defScope s_walked) [] [] (He.ga K "walked") fd
  m_walked : mg "walked" = some (.ref (He.ga K "walked"))
  d_need_own_ride : ∃ fd, FunD K "need_own_ride" "need_own_ride" (defArgs s_need_own_ride) (defBody s_need_own_ride) (defScope s_need_own_ride) [] [] (He.ga K "need_own_ride") fd
  m_need_own_ride : mg "need_own_ride" = some (.ref (He.ga K "need_own_ride"))
  d_ride_walked : ∃ fd, FunD K "ride_walked" "ride_walked" (defArgs s_ride_walked) (defBody s_ride_walked) (defScope s_ride_walked) [] [] (He.ga K "ride_walked") fd
  m_ride_walked : mg "ride_walked" = some (.ref (He.ga K "ride_walked"))
  d_rounds_of : ∃ fd, FunD K "rounds_of" "rounds_of" (defArgs s_rounds_of) (defBody s_rounds_of) (defScope s_rounds_of) [] [] (He.ga K "rounds_of") fd
  m_rounds_of : mg "rounds_of" = some (.ref (He.ga K "rounds_of"))
  d_halts : ∃ fd, FunD K "halts" "halts" (defArgs s_halts) (defBody s_halts) (defScope s_halts) [] [] (He.ga K "halts") fd
  m_halts : mg "halts" = some (.ref (He.ga K "halts"))
  d_taken_at : ∃ fd, FunD K "taken_at" "taken_at" (defArgs s_taken_at) (defBody s_taken_at) (defScope s_taken_at) [] [] (He.ga K "taken_at") fd
  m_taken_at : mg "taken_at" = some (.ref (He.ga K "taken_at"))
  d_order_of : ∃ fd, FunD K "order_of" "order_of" (defArgs s_order_of) (defBody s_order_of) (defScope s_order_of) [] [] (He.ga K "order_of") fd
  m_order_of : mg "order_of" = some (.ref (He.ga K "order_of"))
  d__law_hand_right : ∃ fd, FunD K "_law_hand_right" "_law_hand_right" (defArgs s__law_hand_right) (defBody s__law_hand_right) (defScope s__law_hand_right) [] [] (He.ga K "_law_hand_right") fd
  m__law_hand_right : mg "_law_hand_right" = some (.ref (He.ga K "_law_hand_right"))
  d__law_mixed : ∃ fd, FunD K "_law_mixed" "_law_mixed" (defArgs s__law_mixed) (defBody s__law_mixed) (defScope s__law_mixed) [] [] (He.ga K "_law_mixed") fd
  m__law_mixed : mg "_law_mixed" = some (.ref (He.ga K "_law_mixed"))
  d__law_next : ∃ fd, FunD K "_law_next" "_law_next" (defArgs s__law_next) (defBody s__law_next) (defScope s__law_next) [] [] (He.ga K "_law_next") fd
  m__law_next : mg "_law_next" = some (.ref (He.ga K "_law_next"))
  d__law_errand : ∃ fd, FunD K "_law_errand" "_law_errand" (defArgs s__law_errand) (defBody s__law_errand) (defScope s__law_errand) [] [] (He.ga K "_law_errand") fd
  m__law_errand : mg "_law_errand" = some (.ref (He.ga K "_law_errand"))
  d__law_way : ∃ fd, FunD K "_law_way" "_law_way" (defArgs s__law_way) (defBody s__law_way) (defScope s__law_way) [] [] (He.ga K "_law_way") fd
  m__law_way : mg "_law_way" = some (.ref (He.ga K "_law_way"))
  d__law_house : ∃ fd, FunD K "_law_house" "_law_house" (defArgs s__law_house) (defBody s__law_house) (defScope s__law_house) [] [] (He.ga K "_law_house") fd
  m__law_house : mg "_law_house" = some (.ref (He.ga K "_law_house"))
  d__law_loads : ∃ fd, FunD K "_law_loads" "_law_loads" (defArgs s__law_loads) (defBody s__law_loads) (defScope s__law_loads) [] [] (He.ga K "_law_loads") fd
  m__law_loads : mg "_law_loads" = some (.ref (He.ga K "_law_loads"))
  d__law_there : ∃ fd, FunD K "_law_there" "_law_there" (defArgs s__law_there) (defBody s__law_there) (defScope s__law_there) [] [] (He.ga K "_law_there") fd
  m__law_there : mg "_law_there" = some (.ref (He.ga K "_law_there"))
  d__law_behind : ∃ fd, FunD K "_law_behind" "_law_behind" (defArgs s__law_behind) (defBody s__law_behind) (defScope s__law_behind) [] [] (He.ga K "_law_behind") fd
  m__law_behind : mg "_law_behind" = some (.ref (He.ga K "_law_behind"))
  d__law_hangs : ∃ fd, FunD K "_law_hangs" "_law_hangs" (defArgs s__law_hangs) (defBody s__law_hangs) (defScope s__law_hangs) [] [] (He.ga K "_law_hangs") fd
  m__law_hangs : mg "_law_hangs" = some (.ref (He.ga K "_law_hangs"))
  d__law_ride : ∃ fd, FunD K "_law_ride" "_law_ride" (defArgs s__law_ride) (defBody s__law_ride) (defScope s__law_ride) [] [] (He.ga K "_law_ride") fd
  m__law_ride : mg "_law_ride" = some (.ref (He.ga K "_law_ride"))
  d__law_waits : ∃ fd, FunD K "_law_waits" "_law_waits" (defArgs s__law_waits) (defBody s__law_waits) (defScope s__law_waits) [] [] (He.ga K "_law_waits") fd
  m__law_waits : mg "_law_waits" = some (.ref (He.ga K "_law_waits"))
  d__law_gone : ∃ fd, FunD K "_law_gone" "_law_gone" (defArgs s__law_gone) (defBody s__law_gone) (defScope s__law_gone) [] [] (He.ga K "_law_gone") fd
  m__law_gone : mg "_law_gone" = some (.ref (He.ga K "_law_gone"))
  d__law_right : ∃ fd, FunD K "_law_right" "_law_right" (defArgs s__law_right) (defBody s__law_right) (defScope s__law_right) [] [] (He.ga K "_law_right") fd
  m__law_right : mg "_law_right" = some (.ref (He.ga K "_law_right"))
  d_law : ∃ fd, FunD K "law" "law" (defArgs s_law) (defBody s_law) (defScope s_law) [] [] (He.ga K "law") fd
  m_law : mg "law" = some (.ref (He.ga K "law"))
  m_BadHouse : mg "BadHouse" = some (.ref (He.ga K "BadHouse"))
  m_BadRide : mg "BadRide" = some (.ref (He.ga K "BadRide"))
  m_RideError : mg "RideError" = some (.ref (He.ga K "RideError"))
  d_BadHouse : ∃ fd, FunD K "__init__" "BadHouse.__init__" (defArgs s_BadHouse) (defBody s_BadHouse) (defScope s_BadHouse) [.non] [] (He.ma K (He.ga K "BadHouse") "__init__") fd
  d_BadRide : ∃ fd, FunD K "__init__" "BadRide.__init__" (defArgs s_BadRide) (defBody s_BadRide) (defScope s_BadRide) [.non] [] (He.ma K (He.ga K "BadRide") "__init__") fd
  xo_BadHouse : (oexWB "ValueError.__new__" tlV K (He.ga K "BadHouse")) = true
  xi_BadHouse : (iniB K (He.ga K "BadHouse") ["place"]) = true
  xo_BadRide : (oexWB "ValueError.__new__" tlV K (He.ga K "BadRide")) = true
  xi_BadRide : (iniB K (He.ga K "BadRide") ["number"]) = true
  x_sys : (sysB K) = true
  xb_RideError : (basWB "ValueError.__init__" K (He.ga K "RideError")) = true
  n_all : mg "all" = none
  n_bool : mg "bool" = none
  n_enumerate : mg "enumerate" = none
  n_int : mg "int" = none
  n_isinstance : mg "isinstance" = none
  n_len : mg "len" = none
  n_max : mg "max" = none
  n_min : mg "min" = none
  n_range : mg "range" = none
  n_repr : mg "repr" = none
  n_sum : mg "sum" = none
  n_tuple : mg "tuple" = none
  c_FEWEST_FLOORS : ∃ t, mg "FEWEST_FLOORS" = some (.int 2 t)
  c_MOST_ERRANDS : ∃ t, mg "MOST_ERRANDS" = some (.int 40 t)
  c_MOST_FLOORS : ∃ t, mg "MOST_FLOORS" = some (.int 16 t)
  c_MOST_TURNS : ∃ t, mg "MOST_TURNS" = some (.int 3 t)
theorem i_BadHouse {P : Program} {w : World} {K : PySem.W.Frag} {mg : Str → Option Value} {base : Heap} (T : Top K mg) : ∃ fd, FunD K "__init__" "BadHouse.__init__" (defArgs s_BadHouse) (defBody s_BadHouse) (defScope s_BadHouse) [.non] [] (He.ma K (He.ga K "BadHouse") "__init__") fd ∧ FnOk P w K mg base cx0 1 (He.ma K (He.ga K "BadHouse") "__init__") fd ["self", "place"] (spI (He.ga K "BadHouse") ["place"]) := by
  obtain ⟨fd, F⟩ := T.d_BadHouse
  obtain ⟨b1, b2, b3⟩ := basWB_ok T.xb_RideError
  refine ⟨fd, F, F.ok (k := 0) sc_BadHouse (fun vs H Q E h => spI_len h) fun cdv A outer s H vs Q E hr h => ⟨_, ?_, init1W (msg := "a house is wanted") (oexWB_ok T.xo_BadHouse) ((iniB_ok T.xi_BadHouse).2.2 "place" (by decide)) h⟩⟩
  exact pss_cons (ps_expr (pe_baseW bseV (by decide +kernel) rfl T.m_RideError b1 b2 b3 (pa_cons (pe_self (i := 0) rfl (by first | exact .inl rfl | exact .inr (.inl rfl) | exact .inr (.inr rfl))) (pa_cons pe_str pa_nil))))
    (pss_one (ps_stoW bseV (pe_self (i := 0) rfl (by first | exact .inl rfl | exact .inr (.inl rfl) | exact .inr (.inr rfl))) (pe_self (i := 1) rfl (by first | exact .inl rfl | exact .inr (.inl rfl) | exact .inr (.inr rfl)))))
theorem i_BadRide {P : Program} {w : World} {K : PySem.W.Frag} {mg : Str → Option Value} {base : Heap} (T : Top K mg) : ∃ fd, FunD K "__init__" "BadRide.__init__" (defArgs s_BadRide) (defBody s_BadRide) (defScope s_BadRide) [.non] [] (He.ma K (He.ga K "BadRide") "__init__") fd ∧ FnOk P w K mg base cx0 1 (He.ma K (He.ga K "BadRide") "__init__") fd ["self", "number"] (spI (He.ga K "BadRide") ["number"]) := by
  obtain ⟨fd, F⟩ := T.d_BadRide
  obtain ⟨b1, b2, b3⟩ := basWB_ok T.xb_RideError
  refine ⟨fd, F, F.ok (k := 0) sc_BadRide (fun vs H Q E h => spI_len h) fun cdv A outer s H vs Q E hr h => ⟨_, ?_, init1W (msg := "a ride is wanted") (oexWB_ok T.xo_BadRide) ((iniB_ok T.xi_BadRide).2.2 "number" (by decide)) h⟩⟩
  exact pss_cons (ps_expr (pe_baseW bseV (by decide +kernel) rfl T.m_RideError b1 b2 b3 (pa_cons (pe_self (i := 0) rfl (by first | exact .inl rfl | exact .inr (.inl rfl) | exact .inr (.inr rfl))) (pa_cons pe_str pa_nil))))
    (pss_one (ps_stoW bseV (pe_self (i := 0) rfl (by first | exact .inl rfl | exact .inr (.inl rfl) | exact .inr (.inr rfl))) (pe_self (i := 1) rfl (by first | exact .inl rfl | exact .inr (.inl rfl) | exact .inr (.inr rfl)))))
theorem g__law_begin {P : Program} {w : World} {K : PySem.W.Frag} {mg : Str → Option Value} {base : Heap} (T : Top K mg) : ∃ fd, FunD K "_law_begin" "_law_begin" (defArgs s__law_begin) (defBody s__law_begin) (defScope s__law_begin) [] [] (He.ga K "_law_begin") fd ∧ FnG P w K mg base 1 (He.ga K "_law_begin") fd ["script"] f__law_begin := by
  obtain ⟨fd, F⟩ := T.d__law_begin
  refine ⟨fd, F, fn_D (k := 0) F sc__law_begin rfl rfl fun cdv A outer s0 H E C hC hgd hr => ?_⟩
  subst hC
  unfold b__law_begin
  exact (db_one (ds_ret (de_disp (.cons de_str (dx_add rfl (de_var (i := 0) rfl (by first | exact .inl rfl | exact .inr (.inl rfl) | exact .inr (.inr rfl))) (de_lst (da_e de_int da_nil))) (.cons de_str de_int (.cons de_str de_int (.cons de_str de_int .nil)))) (by simp))))
theorem g_is_number {P : Program} {w : World} {K : PySem.W.Frag} {mg : Str → Option Value} {base : Heap} (T : Top K mg) : ∃ fd, FunD K "is_number" "is_number" (defArgs s_is_number) (defBody s_is_number) (defScope s_is_number) [] [] (He.ga K "is_number") fd ∧ FnG P w K mg base 1 (He.ga K "is_number") fd ["thing"] f_is_number := by
  obtain ⟨fd, F⟩ := T.d_is_number
  refine ⟨fd, F, fn_D (k := 0) F sc_is_number rfl rfl fun cdv A outer s0 H E C hC hgd hr => ?_⟩
  subst hC
  unfold b_is_number
  exact (db_one (ds_ret (de_and (de_isi rfl rfl T.n_isinstance rfl T.n_int b_int (de_var (i := 0) rfl (by first | exact .inl rfl | exact .inr (.inl rfl) | exact .inr (.inr rfl)))) (de_one (de_not (de_isi rfl rfl T.n_isinstance rfl T.n_bool b_bool (de_var (i := 0) rfl (by first | exact .inl rfl | exact .inr (.inl rfl) | exact .inr (.inr rfl)))))))))
theorem g_is_whole {P : Program} {w : World} {K : PySem.W.Frag} {mg : Str → Option Value} {base : Heap} (T : Top K mg) : ∃ fd, FunD K "is_whole" "is_whole" (defArgs s_is_whole) (defBody s_is_whole) (defScope s_is_whole) [] [("least", .int 0), ("most", .non)] (He.ga K "is_whole") fd ∧ FnG P w K mg base 2 (He.ga K "is_whole") fd ["thing", "least", "most"] f_is_whole := by
  obtain ⟨fd, F⟩ := T.d_is_whole
  obtain ⟨fd_is_number, F_is_number, G_is_number⟩ := g_is_number (P := P) (w := w) (base := base) T
  have kb0 : KB K fd_is_number ["thing"] [] 1 (pick [0]) [] [] := kb_all F_is_number (pick_ok _) fun kV doc pm an cdv ct us ws h1 h2 => match us, ws, h1, h2 with | [_], [], _, _ => rfl
  refine ⟨fd, F, fn_D (k := 1) F sc_is_whole rfl rfl fun cdv A outer s0 H E C hC hgd hr => ?_⟩
  subst hC
  unfold b_is_whole
  exact (db_one (ds_ret (de_and (de_call rfl (G_is_number.mono (by decide)) hgd hr (takes_of rfl rfl rfl rfl) rfl T.m_is_number F_is_number.kp kb0 (da_e (de_var (i := 0) rfl (by first | exact .inl rfl | exact .inr (.inl rfl) | exact .inr (.inr rfl))) da_nil)) (de_and (dx_ge (de_var (i := 0) rfl (by first | exact .inl rfl | exact .inr (.inl rfl) | exact .inr (.inr rfl))) (de_var (i := 1) rfl (by first | exact .inl rfl | exact .inr (.inl rfl) | exact .inr (.inr rfl)))) (de_one (de_or (dx_is (de_var (i := 2) rfl (by first | exact .inl rfl | exact .inr (.inl rfl) | exact .inr (.inr rfl))) de_non) (de_one (dx_le (de_var (i := 0) rfl (by first | exact .inl rfl | exact .inr (.inl rfl) | exact .inr (.inr rfl))) (de_var (i := 2) rfl (by first | exact .inl rfl | exact .inr (.inl rfl) | exact .inr (.inr rfl)))))))))))
theorem g_is_errand {P : Program} {w : World} {K : PySem.W.Frag} {mg : Str → Option Value} {base : Heap} (T : Top K mg) : ∃ fd, FunD K "is_errand" "is_errand" (defArgs s_is_errand) (defBody s_is_errand) (defScope s_is_errand) [] [] (He.ga K "is_errand") fd ∧ FnG P w K mg base 3 (He.ga K "is_errand") fd ["thing", "floors"] f_is_errand := by
  obtain ⟨fd, F⟩ := T.d_is_errand
  obtain ⟨fd_is_whole, F_is_whole, G_is_whole⟩ := g_is_whole (P := P) (w := w) (base := base) T
  obtain ⟨t_MOST_TURNS, c_MOST_TURNS⟩ := T.c_MOST_TURNS
  have kb0 : KB K fd_is_whole ["thing", "least", "most"] ["most"] 1 (pick [0, 2, 1]) (([("least", .int 0)] : List (Str × V)).map (·.2)) [.int 0] := kb_kw F_is_whole (pick_ok _) (by simp) (by simp) (fun C F H σ Hs => .cons (show Dat _ _ _ _ from .int _) rfl (.nil)) fun D doc pm an cdv ct us mv ws h1 h2 h3 => match us, mv, ws, h1, h2, h3 with | [_], [_], [_], _, _, _ => ⟨_, _, _, _, _, _, rfl, rfl, rfl⟩
  have kb1 : KB K fd_is_whole ["thing", "least", "most"] ["least", "most"] 1 (pick [0, 1, 2]) [] [] := kb_all F_is_whole (pick_ok _) fun kV doc pm an cdv ct us ws h1 h2 => match us, ws, h1, h2 with | [_], [_, _], _, _ => rfl
  refine ⟨fd, F, fn_D (k := 2) F sc_is_errand rfl rfl fun cdv A outer s0 H E C hC hgd hr => ?_⟩
  subst hC
  unfold b_is_errand
  exact (db_cons (ds_if (DW.dt (dw_or (dt_not (dt_val (de_isi rfl rfl T.n_isinstance rfl T.n_tuple b_tuple (de_var (i := 0) rfl (by first | exact .inl rfl | exact .inr (.inl rfl) | exact .inr (.inr rfl)))))) (dw_or1 (dy_ne rfl hr (dx_len rfl rfl T.n_len (da_p (de_var (i := 0) rfl (by first | exact .inl rfl | exact .inr (.inl rfl) | exact .inr (.inr rfl))) da_nil)) de_int))))
    (db_one (ds_ret de_bl))
    db_nil)
    (db_cons (ds_asg (de_var (i := 0) rfl (by first | exact .inl rfl | exact .inr (.inl rfl) | exact .inr (.inr rfl))) (dg_tup rfl rfl (dgs_cons (dg_name (i := 2) sc_is_errand.nd rfl (by first | exact .inl rfl | exact .inr rfl)) (dgs_cons (dg_name (i := 3) sc_is_errand.nd rfl (by first | exact .inl rfl | exact .inr rfl)) dgs_nil))))
    (db_one (ds_ret (de_and (de_callK rfl (G_is_whole.mono (by decide)) hgd hr (takes_of rfl rfl rfl rfl) rfl T.m_is_whole F_is_whole.kp kb0 (da_e (de_var (i := 2) rfl (by first | exact .inl rfl | exact .inr (.inl rfl) | exact .inr (.inr rfl))) da_nil) (dk_e (dx_sub (de_var (i := 1) rfl (by first | exact .inl rfl | exact .inr (.inl rfl) | exact .inr (.inr rfl))) de_int) dk_nil)) (de_one (de_callK rfl (G_is_whole.mono (by decide)) hgd hr (takes_of rfl rfl rfl rfl) rfl T.m_is_whole F_is_whole.kp kb1 (da_e (de_var (i := 3) rfl (by first | exact .inl rfl | exact .inr (.inl rfl) | exact .inr (.inr rfl))) da_nil) (dk_e de_int (dk_e (dx_mul rfl (de_globI rfl c_MOST_TURNS) (de_var (i := 1) rfl (by first | exact .inl rfl | exact .inr (.inl rfl) | exact .inr (.inr rfl)))) dk_nil)))))))))
theorem g_faults_of {P : Program} {w : World} {K : PySem.W.Frag} {mg : Str → Option Value} {base : Heap} (T : Top K mg) : ∃ fd, FunD K "faults_of" "faults_of" (defArgs s_faults_of) (defBody s_faults_of) (defScope s_faults_of) [] [] (He.ga K "faults_of") fd ∧ FnG P w K mg base 4 (He.ga K "faults_of") fd ["thing"] f_faults_of := by
  obtain ⟨fd, F⟩ := T.d_faults_of
  obtain ⟨fd_is_whole, F_is_whole, G_is_whole⟩ := g_is_whole (P := P) (w := w) (base := base) T
  obtain ⟨fd_is_errand, F_is_errand, G_is_errand⟩ := g_is_errand (P := P) (w := w) (base := base) T
  obtain ⟨t_FEWEST_FLOORS, c_FEWEST_FLOORS⟩ := T.c_FEWEST_FLOORS
  obtain ⟨t_MOST_ERRANDS, c_MOST_ERRANDS⟩ := T.c_MOST_ERRANDS
  obtain ⟨t_MOST_FLOORS, c_MOST_FLOORS⟩ := T.c_MOST_FLOORS
  have kb0 : KB K fd_is_whole ["thing", "least", "most"] ["least", "most"] 1 (pick [0, 1, 2]) [] [] := kb_all F_is_whole (pick_ok _) fun kV doc pm an cdv ct us ws h1 h2 => match us, ws, h1, h2 with | [_], [_, _], _, _ => rfl
  have kb1 : KB K fd_is_whole ["thing", "least", "most"] ["most"] 1 (pick [0, 2, 1]) (([("least", .int 0)] : List (Str × V)).map (·.2)) [.int 0] := kb_kw F_is_whole (pick_ok _) (by simp) (by simp) (fun C F H σ Hs => .cons (show Dat _ _ _ _ from .int _) rfl (.nil)) fun D doc pm an cdv ct us mv ws h1 h2 h3 => match us, mv, ws, h1, h2, h3 with | [_], [_], [_], _, _, _ => ⟨_, _, _, _, _, _, rfl, rfl, rfl⟩
  have kb2 : KB K fd_is_errand ["thing", "floors"] ["floors"] 1 (pick [0, 1]) [] [] := kb_all F_is_errand (pick_ok _) fun kV doc pm an cdv ct us ws h1 h2 => match us, ws, h1, h2 with | [_], [_], _, _ => rfl
  refine ⟨fd, F, fn_D (k := 3) F sc_faults_of rfl rfl fun cdv A outer s0 H E C hC hgd hr => ?_⟩
  subst hC
  unfold b_faults_of
  exact (db_cons (ds_if (DW.dt (dw_or (dt_not (dt_val (de_isi rfl rfl T.n_isinstance rfl T.n_tuple b_tuple (de_var (i := 0) rfl (by first | exact .inl rfl | exact .inr (.inl rfl) | exact .inr (.inr rfl)))))) (dw_or1 (dy_ne rfl hr (dx_len rfl rfl T.n_len (da_p (de_var (i := 0) rfl (by first | exact .inl rfl | exact .inr (.inl rfl) | exact .inr (.inr rfl))) da_nil)) de_int))))
    (db_one (ds_ret (de_lst (da_e de_non da_nil))))
    db_nil)
    (db_cons (ds_asg (de_var (i := 0) rfl (by first | exact .inl rfl | exact .inr (.inl rfl) | exact .inr (.inr rfl))) (dg_tup rfl rfl (dgs_cons (dg_name (i := 1) sc_faults_of.nd rfl (by first | exact .inl rfl | exact .inr rfl)) (dgs_cons (dg_name (i := 2) sc_faults_of.nd rfl (by first | exact .inl rfl | exact .inr rfl)) (dgs_cons (dg_name (i := 3) sc_faults_of.nd rfl (by first | exact .inl rfl | exact .inr rfl)) dgs_nil)))))
    (db_cons (ds_if (dt_not (dt_val (de_callK rfl (G_is_whole.mono (by decide)) hgd hr (takes_of rfl rfl rfl rfl) rfl T.m_is_whole F_is_whole.kp kb0 (da_e (de_var (i := 1) rfl (by first | exact .inl rfl | exact .inr (.inl rfl) | exact .inr (.inr rfl))) da_nil) (dk_e (de_globI rfl c_FEWEST_FLOORS) (dk_e (de_globI rfl c_MOST_FLOORS) dk_nil)))))
    (db_one (ds_ret (de_lst (da_e de_str da_nil))))
    db_nil)
    (db_cons (ds_if (dt_not (dt_val (de_callK rfl (G_is_whole.mono (by decide)) hgd hr (takes_of rfl rfl rfl rfl) rfl T.m_is_whole F_is_whole.kp kb1 (da_e (de_var (i := 2) rfl (by first | exact .inl rfl | exact .inr (.inl rfl) | exact .inr (.inr rfl))) da_nil) (dk_e (dx_sub (de_var (i := 1) rfl (by first | exact .inl rfl | exact .inr (.inl rfl) | exact .inr (.inr rfl))) de_int) dk_nil))))
    (db_one (ds_ret (de_lst (da_e de_str da_nil))))
    db_nil)
    (db_cons (ds_if (DW.dt (dw_or (dt_not (dt_val (de_isi rfl rfl T.n_isinstance rfl T.n_tuple b_tuple (de_var (i := 3) rfl (by first | exact .inl rfl | exact .inr (.inl rfl) | exact .inr (.inr rfl)))))) (dw_or1 (dy_gt (dx_len rfl rfl T.n_len (da_p (de_var (i := 3) rfl (by first | exact .inl rfl | exact .inr (.inl rfl) | exact .inr (.inr rfl))) da_nil)) (de_globI rfl c_MOST_ERRANDS)))))
    (db_one (ds_ret (de_lst (da_e de_str da_nil))))
    db_nil)
    (db_one (ds_ret (de_slice rfl (de_lc (own := [("number", 4), ("one", 5)]) rfl sc_faults_of.nd (di_enum rfl rfl T.n_enumerate (de_var (i := 3) rfl (by first | exact .inl rfl | exact .inr (.inl rfl) | exact .inr (.inr rfl)))) (blk_of rfl)
      (fun s H c cl fp => (dgw_tup rfl rfl (dgsw_cons (dgw_name (i := 4) (by decide) sc_faults_of.nd rfl (by first | exact .inl rfl | exact .inr rfl)) (dgsw_cons (dgw_name (i := 5) (by decide) sc_faults_of.nd rfl (by first | exact .inl rfl | exact .inr rfl)) dgsw_nil)))) (fun s H c cl fp => (dts_one (dt_not (dt_val (de_callK rfl (G_is_errand.mono (by decide)) hgd hr takes_no rfl T.m_is_errand F_is_errand.kp kb2 (da_e (de_var (i := 5) rfl (by first | exact .inl rfl | exact .inr (.inl rfl) | exact .inr (.inr rfl))) da_nil) (dk_e (de_var (i := 1) rfl (by first | exact .inl rfl | exact .inr (.inl rfl) | exact .inr (.inr rfl))) dk_nil)))))) (fun s H c cl fp => (de_var (i := 4) rfl (by first | exact .inl rfl | exact .inr (.inl rfl) | exact .inr (.inr rfl))))) dp_none (dp_some de_int)))))))))
theorem g_need_house {P : Program} {w : World} {K : PySem.W.Frag} {mg : Str → Option Value} {base : Heap} (T : Top K mg) : ∃ fd, FunD K "need_house" "need_house" (defArgs s_need_house) (defBody s_need_house) (defScope s_need_house) [] [] (He.ga K "need_house") fd ∧ FnG P w K mg base 5 (He.ga K "need_house") fd ["house"] f_need_house := by
  obtain ⟨fd, F⟩ := T.d_need_house
  obtain ⟨fd_faults_of, F_faults_of, G_faults_of⟩ := g_faults_of (P := P) (w := w) (base := base) T
  obtain ⟨fd_BadHouse, F_BadHouse, I_BadHouse⟩ := i_BadHouse (P := P) (w := w) (base := base) T
  have kb0 : KB K fd_faults_of ["thing"] [] 1 (pick [0]) [] [] := kb_all F_faults_of (pick_ok _) fun kV doc pm an cdv ct us ws h1 h2 => match us, ws, h1, h2 with | [_], [], _, _ => rfl
  obtain ⟨dshb1, hdhb1, hb1⟩ := FunD.binds1 (ps := ["self", "place"]) F_BadHouse 2 1 (by simp) rfl fun T kV doc pm an cdv ct us its h1 h2 => match us, its, h1, h2 with | [_, _], [_], _, _ => ⟨_, rfl, rfl⟩
  refine ⟨fd, F, fn_D (k := 4) F sc_need_house rfl rfl fun cdv A outer s0 H E C hC hgd hr => ?_⟩
  subst hC
  unfold b_need_house
  exact (db_one (ds_for (passes_of rfl) rfl (di_dat rfl (de_call rfl (G_faults_of.mono (by decide)) hgd hr (takes_of rfl rfl rfl rfl) rfl T.m_faults_of F_faults_of.kp kb0 (da_e (de_var (i := 0) rfl (by first | exact .inl rfl | exact .inr (.inl rfl) | exact .inr (.inr rfl))) da_nil))) (dg_name (i := 1) sc_need_house.nd rfl (by first | exact .inl rfl | exact .inr rfl))
    (db_one (ds_raiseW rfl (takes_of rfl rfl rfl rfl) (by exact (da_e (de_var (i := 1) rfl (by first | exact .inl rfl | exact .inr (.inl rfl) | exact .inr (.inr rfl))) da_nil)) (fun _ => .nil) (fun ta A => pmkW (CX := cx0) (oexWB_ok T.xo_BadHouse) bseV (iniB_ok T.xi_BadHouse).1 (iniB_ok T.xi_BadHouse).2.1 I_BadHouse (hr.mono (by decide)) hb1 hdhb1 (fun _ _ _ _ _ _ _ z => z.elim) rfl T.m_BadHouse A)))))
theorem g_walked {P : Program} {w : World} {K : PySem.W.Frag} {mg : Str → Option Value} {base : Heap} (T : Top K mg) : ∃ fd, FunD K "walked" "walked" (defArgs s_walked) (defBody s_walked) (defScope s_walked) [] [] (He.ga K "walked") fd ∧ FnG P w K mg base 3 (He.ga K "walked") fd ["house", "moves"] f_walked := by
  obtain ⟨fd, F⟩ := T.d_walked
  obtain ⟨fd_is_whole, F_is_whole, G_is_whole⟩ := g_is_whole (P := P) (w := w) (base := base) T
  obtain ⟨fd_BadRide, F_BadRide, I_BadRide⟩ := i_BadRide (P := P) (w := w) (base := base) T
  have kb0 : KB K fd_is_whole ["thing", "least", "most"] ["most"] 1 (pick [0, 2, 1]) (([("least", .int 0)] : List (Str × V)).map (·.2)) [.int 0] := kb_kw F_is_whole (pick_ok _) (by simp) (by simp) (fun C F H σ Hs => .cons (show Dat _ _ _ _ from .int _) rfl (.nil)) fun D doc pm an cdv ct us mv ws h1 h2 h3 => match us, mv, ws, h1, h2, h3 with | [_], [_], [_], _, _, _ => ⟨_, _, _, _, _, _, rfl, rfl, rfl⟩
  obtain ⟨dshb1, hdhb1, hb1⟩ := FunD.binds1 (ps := ["self", "number"]) F_BadRide 2 1 (by simp) rfl fun T kV doc pm an cdv ct us its h1 h2 => match us, its, h1, h2 with | [_, _], [_], _, _ => ⟨_, rfl, rfl⟩
  refine ⟨fd, F, fn_D (k := 2) F sc_walked rfl rfl fun cdv A outer s0 H E C hC hgd hr => ?_⟩
  subst hC
  unfold b_walked
  exact (db_cons (ds_asg (de_var (i := 0) rfl (by first | exact .inl rfl | exact .inr (.inl rfl) | exact .inr (.inr rfl))) (dg_tup rfl rfl (dgs_cons (dg_name (i := 2) sc_walked.nd rfl (by first | exact .inl rfl | exact .inr rfl)) (dgs_cons (dg_name (i := 3) sc_walked.nd rfl (by first | exact .inl rfl | exact .inr rfl)) (dgs_cons (dg_name (i := 4) sc_walked.nd rfl (by first | exact .inl rfl | exact .inr rfl)) dgs_nil)))))
    (db_cons (ds_par3 (i := 5) (j := 6) (l := 7) rfl sc_walked.nd rfl rfl rfl (by decide) (by decide) (by decide) rfl rfl rfl (de_lst (da_e (de_var (i := 3) rfl (by first | exact .inl rfl | exact .inr (.inl rfl) | exact .inr (.inr rfl))) da_nil)) de_disp0 de_int)
    (db_cons (ds_for (passes_of rfl) rfl (di_enum rfl rfl T.n_enumerate (de_var (i := 1) rfl (by first | exact .inl rfl | exact .inr (.inl rfl) | exact .inr (.inr rfl)))) (dg_tup rfl rfl (dgs_cons (dg_name (i := 8) sc_walked.nd rfl (by first | exact .inl rfl | exact .inr rfl)) (dgs_cons (dg_name (i := 9) sc_walked.nd rfl (by first | exact .inl rfl | exact .inr rfl)) dgs_nil)))
    (db_cons (ds_set (i := 10) sc_walked.nd rfl (by first | exact .inl rfl | exact .inr rfl) de_int)
    (db_cons (ds_if (dy_isn (de_var (i := 9) rfl (by first | exact .inl rfl | exact .inr (.inl rfl) | exact .inr (.inr rfl))) de_non)
    (db_cons (ds_if (DW.dt (dw_or (dt_not (dt_val (de_callK rfl (G_is_whole.mono (by decide)) hgd hr (takes_of rfl rfl rfl rfl) rfl T.m_is_whole F_is_whole.kp kb0 (da_e (de_var (i := 9) rfl (by first | exact .inl rfl | exact .inr (.inl rfl) | exact .inr (.inr rfl))) da_nil) (dk_e (dx_sub (dx_len rfl rfl T.n_len (da_p (de_var (i := 4) rfl (by first | exact .inl rfl | exact .inr (.inl rfl) | exact .inr (.inr rfl))) da_nil)) de_int) dk_nil)))) (dw_or (dy_in rfl hr (de_var (i := 9) rfl (by first | exact .inl rfl | exact .inr (.inl rfl) | exact .inr (.inr rfl))) (de_var (i := 6) rfl (by first | exact .inl rfl | exact .inr (.inl rfl) | exact .inr (.inr rfl)))) (dw_or1 (dy_ne rfl hr (de_ixG rfl hr (de_ixG rfl hr (de_var (i := 4) rfl (by first | exact .inl rfl | exact .inr (.inl rfl) | exact .inr (.inr rfl))) (de_var (i := 9) rfl (by first | exact .inl rfl | exact .inr (.inl rfl) | exact .inr (.inr rfl))) (by intro _ _; rfl)) de_int (by intro _ _; rfl)) (de_var (i := 3) rfl (by first | exact .inl rfl | exact .inr (.inl rfl) | exact .inr (.inr rfl))))))))
    (db_one (ds_raiseW rfl (takes_of rfl rfl rfl rfl) (by exact (da_e (de_var (i := 8) rfl (by first | exact .inl rfl | exact .inr (.inl rfl) | exact .inr (.inr rfl))) da_nil)) (fun _ => .nil) (fun ta A => pmkW (CX := cx0) (oexWB_ok T.xo_BadRide) bseV (iniB_ok T.xi_BadRide).1 (iniB_ok T.xi_BadRide).2.1 I_BadRide (hr.mono (by decide)) hb1 hdhb1 (fun _ _ _ _ _ _ _ z => z.elim) rfl T.m_BadRide A)))
    db_nil)
    (db_one (ds_parN (i := 10) (j := 6) (l := 9) rfl rfl hr (de_tup (da_e (de_ixG rfl hr (de_ixG rfl hr (de_var (i := 4) rfl (by first | exact .inl rfl | exact .inr (.inl rfl) | exact .inr (.inr rfl))) (de_var (i := 9) rfl (by first | exact .inl rfl | exact .inr (.inl rfl) | exact .inr (.inr rfl))) (by intro _ _; rfl)) de_int (by intro _ _; rfl)) (da_e (de_var (i := 7) rfl (by first | exact .inl rfl | exact .inr (.inl rfl) | exact .inr (.inr rfl))) da_nil))) sc_walked.nd rfl (by first | exact .inl rfl | exact .inr rfl) rfl (by first | exact .inl rfl | exact .inr (.inl rfl) | exact .inr (.inr rfl)) rfl (by first | exact .inl rfl | exact .inr (.inl rfl) | exact .inr (.inr rfl)))))
    db_nil)
    (db_cons (ds_par2 (i := 3) (j := 7) rfl sc_walked.nd rfl rfl (by decide) rfl rfl (dx_mod (dx_add rfl (de_var (i := 3) rfl (by first | exact .inl rfl | exact .inr (.inl rfl) | exact .inr (.inr rfl))) (de_var (i := 10) rfl (by first | exact .inl rfl | exact .inr (.inl rfl) | exact .inr (.inr rfl)))) (de_var (i := 2) rfl (by first | exact .inl rfl | exact .inr (.inl rfl) | exact .inr (.inr rfl)))) (dx_add rfl (de_var (i := 7) rfl (by first | exact .inl rfl | exact .inr (.inl rfl) | exact .inr (.inr rfl))) (de_var (i := 10) rfl (by first | exact .inl rfl | exact .inr (.inl rfl) | exact .inr (.inr rfl)))))
    (db_one (ds_expr (de_met rfl PySem.F.slot_list_append PySem.F.type_list_append mt_append md_append (de_var (i := 5) rfl (by first | exact .inl rfl | exact .inr (.inl rfl) | exact .inr (.inr rfl))) (da_e (de_var (i := 3) rfl (by first | exact .inl rfl | exact .inr (.inl rfl) | exact .inr (.inr rfl))) da_nil))))))))
    (db_one (ds_ret (de_tup (da_e (de_var (i := 5) rfl (by first | exact .inl rfl | exact .inr (.inl rfl) | exact .inr (.inr rfl))) (da_e (de_var (i := 6) rfl (by first | exact .inl rfl | exact .inr (.inl rfl) | exact .inr (.inr rfl))) (da_e (de_var (i := 7) rfl (by first | exact .inl rfl | exact .inr (.inl rfl) | exact .inr (.inr rfl))) da_nil)))))))))
theorem g_need_own_ride {P : Program} {w : World} {K : PySem.W.Frag} {mg : Str → Option Value} {base : Heap} (T : Top K mg) : ∃ fd, FunD K "need_own_ride" "need_own_ride" (defArgs s_need_own_ride) (defBody s_need_own_ride) (defScope s_need_own_ride) [] [] (He.ga K "need_own_ride") fd ∧ FnG P w K mg base 4 (He.ga K "need_own_ride") fd ["house", "ride"] f_need_own_ride := by
  obtain ⟨fd, F⟩ := T.d_need_own_ride
  obtain ⟨fd_walked, F_walked, G_walked⟩ := g_walked (P := P) (w := w) (base := base) T
  obtain ⟨fd_BadRide, F_BadRide, I_BadRide⟩ := i_BadRide (P := P) (w := w) (base := base) T
  obtain ⟨dshb0, hdhb0, hb0⟩ := FunD.binds1 (ps := ["self", "number"]) F_BadRide 1 0 (by simp) rfl fun T kV doc pm an cdv ct us its h1 h2 => match us, its, h1, h2 with | [_], [_], _, _ => ⟨_, rfl, rfl⟩
  have kb1 : KB K fd_walked ["house", "moves"] [] 2 (pick [0, 1]) [] [] := kb_all F_walked (pick_ok _) fun kV doc pm an cdv ct us ws h1 h2 => match us, ws, h1, h2 with | [_, _], [], _, _ => rfl
  obtain ⟨dshb2, hdhb2, hb2⟩ := FunD.binds1 (ps := ["self", "number"]) F_BadRide 2 1 (by simp) rfl fun T kV doc pm an cdv ct us its h1 h2 => match us, its, h1, h2 with | [_, _], [_], _, _ => ⟨_, rfl, rfl⟩
  refine ⟨fd, F, fn_D (k := 3) F sc_need_own_ride rfl rfl fun cdv A outer s0 H E C hC hgd hr => ?_⟩
  subst hC
  unfold b_need_own_ride
  exact (db_cons (ds_if (dt_not (dt_val (de_isi rfl rfl T.n_isinstance rfl T.n_tuple b_tuple (de_var (i := 1) rfl (by first | exact .inl rfl | exact .inr (.inl rfl) | exact .inr (.inr rfl))))))
    (db_one (ds_raiseW0 rfl (takes_of rfl rfl rfl rfl) (fun _ => (.cons (.non) .nil)) (pmkW0 (CX := cx0) (oexWB_ok T.xo_BadRide) bseV (iniB_ok T.xi_BadRide).1 (iniB_ok T.xi_BadRide).2.1 I_BadRide (hr.mono (by decide)) hb0 hdhb0 (fun _ _ _ _ _ _ _ z => z.elim) rfl T.m_BadRide)))
    db_nil)
    (db_cons (ds_asg (de_call rfl (G_walked.mono (by decide)) hgd hr (takes_of rfl rfl rfl rfl) rfl T.m_walked F_walked.kp kb1 (da_e (de_var (i := 0) rfl (by first | exact .inl rfl | exact .inr (.inl rfl) | exact .inr (.inr rfl))) (da_e (de_var (i := 1) rfl (by first | exact .inl rfl | exact .inr (.inl rfl) | exact .inr (.inr rfl))) da_nil))) (dg_tup rfl rfl (dgs_cons (dg_name (i := 2) sc_need_own_ride.nd rfl (by first | exact .inl rfl | exact .inr rfl)) (dgs_cons (dg_name (i := 3) sc_need_own_ride.nd rfl (by first | exact .inl rfl | exact .inr rfl)) (dgs_cons (dg_name (i := 4) sc_need_own_ride.nd rfl (by first | exact .inl rfl | exact .inr rfl)) dgs_nil)))))
    (db_cons (ds_if (DW.dt (dw_or (dy_lt (dx_lenD rfl T.n_len (da_p (de_var (i := 3) rfl (by first | exact .inl rfl | exact .inr (.inl rfl) | exact .inr (.inr rfl))) da_nil)) (dx_len rfl rfl T.n_len (da_p (de_ixG rfl hr (de_var (i := 0) rfl (by first | exact .inl rfl | exact .inr (.inl rfl) | exact .inr (.inr rfl))) de_int (by intro _ _; rfl)) da_nil))) (dw_or1 (dy_ne rfl hr (de_ixG rfl hr (de_var (i := 2) rfl (by first | exact .inl rfl | exact .inr (.inl rfl) | exact .inr (.inr rfl))) (dx_neg de_int) (by intro _ _; rfl)) (de_ixG rfl hr (de_var (i := 0) rfl (by first | exact .inl rfl | exact .inr (.inl rfl) | exact .inr (.inr rfl))) de_int (by intro _ _; rfl))))))
    (db_one (ds_raiseW rfl (takes_of rfl rfl rfl rfl) (by exact (da_e (dx_len rfl rfl T.n_len (da_p (de_var (i := 1) rfl (by first | exact .inl rfl | exact .inr (.inl rfl) | exact .inr (.inr rfl))) da_nil)) da_nil)) (fun _ => .nil) (fun ta A => pmkW (CX := cx0) (oexWB_ok T.xo_BadRide) bseV (iniB_ok T.xi_BadRide).1 (iniB_ok T.xi_BadRide).2.1 I_BadRide (hr.mono (by decide)) hb2 hdhb2 (fun _ _ _ _ _ _ _ z => z.elim) rfl T.m_BadRide A)))
    db_nil)
    (db_one (ds_ret (de_tup (da_e (de_var (i := 2) rfl (by first | exact .inl rfl | exact .inr (.inl rfl) | exact .inr (.inr rfl))) (da_e (de_var (i := 3) rfl (by first | exact .inl rfl | exact .inr (.inl rfl) | exact .inr (.inr rfl))) (da_e (de_var (i := 4) rfl (by first | exact .inl rfl | exact .inr (.inl rfl) | exact .inr (.inr rfl))) da_nil)))))))))
theorem g_ride_walked {P : Program} {w : World} {K : PySem.W.Frag} {mg : Str → Option Value} {base : Heap} (T : Top K mg) : ∃ fd, FunD K "ride_walked" "ride_walked" (defArgs s_ride_walked) (defBody s_ride_walked) (defScope s_ride_walked) [] [] (He.ga K "ride_walked") fd ∧ FnG P w K mg base 6 (He.ga K "ride_walked") fd ["house", "ride"] f_ride_walked := by
  obtain ⟨fd, F⟩ := T.d_ride_walked
  obtain ⟨fd_need_house, F_need_house, G_need_house⟩ := g_need_house (P := P) (w := w) (base := base) T
  obtain ⟨fd_need_own_ride, F_need_own_ride, G_need_own_ride⟩ := g_need_own_ride (P := P) (w := w) (base := base) T
  have kb0 : KB K fd_need_house ["house"] [] 1 (pick [0]) [] [] := kb_all F_need_house (pick_ok _) fun kV doc pm an cdv ct us ws h1 h2 => match us, ws, h1, h2 with | [_], [], _, _ => rfl
  have kb1 : KB K fd_need_own_ride ["house", "ride"] [] 2 (pick [0, 1]) [] [] := kb_all F_need_own_ride (pick_ok _) fun kV doc pm an cdv ct us ws h1 h2 => match us, ws, h1, h2 with | [_, _], [], _, _ => rfl
  refine ⟨fd, F, fn_D (k := 5) F sc_ride_walked rfl rfl fun cdv A outer s0 H E C hC hgd hr => ?_⟩
  subst hC
  unfold b_ride_walked
  exact (db_cons (ds_expr (de_call rfl (G_need_house.mono (by decide)) hgd hr (takes_of rfl rfl rfl rfl) rfl T.m_need_house F_need_house.kp kb0 (da_e (de_var (i := 0) rfl (by first | exact .inl rfl | exact .inr (.inl rfl) | exact .inr (.inr rfl))) da_nil)))
    (db_one (ds_ret (de_call rfl (G_need_own_ride.mono (by decide)) hgd hr (takes_of rfl rfl rfl rfl) rfl T.m_need_own_ride F_need_own_ride.kp kb1 (da_e (de_var (i := 0) rfl (by first | exact .inl rfl | exact .inr (.inl rfl) | exact .inr (.inr rfl))) (da_e (de_var (i := 1) rfl (by first | exact .inl rfl | exact .inr (.inl rfl) | exact .inr (.inr rfl))) da_nil))))))
theorem g_rounds_of {P : Program} {w : World} {K : PySem.W.Frag} {mg : Str → Option Value} {base : Heap} (T : Top K mg) : ∃ fd, FunD K "rounds_of" "rounds_of" (defArgs s_rounds_of) (defBody s_rounds_of) (defScope s_rounds_of) [] [] (He.ga K "rounds_of") fd ∧ FnG P w K mg base 7 (He.ga K "rounds_of") fd ["house", "ride"] f_rounds_of := by
  obtain ⟨fd, F⟩ := T.d_rounds_of
  obtain ⟨fd_ride_walked, F_ride_walked, G_ride_walked⟩ := g_ride_walked (P := P) (w := w) (base := base) T
  have kb0 : KB K fd_ride_walked ["house", "ride"] [] 2 (pick [0, 1]) [] [] := kb_all F_ride_walked (pick_ok _) fun kV doc pm an cdv ct us ws h1 h2 => match us, ws, h1, h2 with | [_, _], [], _, _ => rfl
  refine ⟨fd, F, fn_D (k := 6) F sc_rounds_of rfl rfl fun cdv A outer s0 H E C hC hgd hr => ?_⟩
  subst hC
  unfold b_rounds_of
  exact (db_cons (ds_asg (de_call rfl (G_ride_walked.mono (by decide)) hgd hr (takes_of rfl rfl rfl rfl) rfl T.m_ride_walked F_ride_walked.kp kb0 (da_e (de_var (i := 0) rfl (by first | exact .inl rfl | exact .inr (.inl rfl) | exact .inr (.inr rfl))) (da_e (de_var (i := 1) rfl (by first | exact .inl rfl | exact .inr (.inl rfl) | exact .inr (.inr rfl))) da_nil))) (dg_tup rfl rfl (dgs_cons (dg_name (i := 2) sc_rounds_of.nd rfl (by first | exact .inl rfl | exact .inr rfl)) (dgs_cons (dg_name (i := 3) sc_rounds_of.nd rfl (by first | exact .inl rfl | exact .inr rfl)) (dgs_cons (dg_name (i := 4) sc_rounds_of.nd rfl (by first | exact .inl rfl | exact .inr rfl)) dgs_nil)))))
    (db_one (ds_ret (dx_fdiv (de_var (i := 4) rfl (by first | exact .inl rfl | exact .inr (.inl rfl) | exact .inr (.inr rfl))) (de_ixG rfl hr (de_var (i := 0) rfl (by first | exact .inl rfl | exact .inr (.inl rfl) | exact .inr (.inr rfl))) de_int (by intro _ _; rfl))))))
theorem g_halts {P : Program} {w : World} {K : PySem.W.Frag} {mg : Str → Option Value} {base : Heap} (T : Top K mg) : ∃ fd, FunD K "halts" "halts" (defArgs s_halts) (defBody s_halts) (defScope s_halts) [] [] (He.ga K "halts") fd ∧ FnG P w K mg base 7 (He.ga K "halts") fd ["house", "ride"] f_halts := by
  obtain ⟨fd, F⟩ := T.d_halts
  obtain ⟨fd_ride_walked, F_ride_walked, G_ride_walked⟩ := g_ride_walked (P := P) (w := w) (base := base) T
  have kb0 : KB K fd_ride_walked ["house", "ride"] [] 2 (pick [0, 1]) [] [] := kb_all F_ride_walked (pick_ok _) fun kV doc pm an cdv ct us ws h1 h2 => match us, ws, h1, h2 with | [_, _], [], _, _ => rfl
  refine ⟨fd, F, fn_D (k := 6) F sc_halts rfl rfl fun cdv A outer s0 H E C hC hgd hr => ?_⟩
  subst hC
  unfold b_halts
  exact (db_one (ds_ret (dx_tuple rfl rfl T.n_tuple (da_p (de_ixG rfl hr (de_call rfl (G_ride_walked.mono (by decide)) hgd hr (takes_of rfl rfl rfl rfl) rfl T.m_ride_walked F_ride_walked.kp kb0 (da_e (de_var (i := 0) rfl (by first | exact .inl rfl | exact .inr (.inl rfl) | exact .inr (.inr rfl))) (da_e (de_var (i := 1) rfl (by first | exact .inl rfl | exact .inr (.inl rfl) | exact .inr (.inr rfl))) da_nil))) de_int (by intro _ _; rfl)) da_nil))))
theorem g_taken_at {P : Program} {w : World} {K : PySem.W.Frag} {mg : Str → Option Value} {base : Heap} (T : Top K mg) : ∃ fd, FunD K "taken_at" "taken_at" (defArgs s_taken_at) (defBody s_taken_at) (defScope s_taken_at) [] [] (He.ga K "taken_at") fd ∧ FnG P w K mg base 7 (He.ga K "taken_at") fd ["house", "ride"] f_taken_at := by
  obtain ⟨fd, F⟩ := T.d_taken_at
  obtain ⟨fd_ride_walked, F_ride_walked, G_ride_walked⟩ := g_ride_walked (P := P) (w := w) (base := base) T
  have kb0 : KB K fd_ride_walked ["house", "ride"] [] 2 (pick [0, 1]) [] [] := kb_all F_ride_walked (pick_ok _) fun kV doc pm an cdv ct us ws h1 h2 => match us, ws, h1, h2 with | [_, _], [], _, _ => rfl
  refine ⟨fd, F, fn_D (k := 6) F sc_taken_at rfl rfl fun cdv A outer s0 H E C hC hgd hr => ?_⟩
  subst hC
  unfold b_taken_at
  exact (db_cons (ds_set (i := 2) sc_taken_at.nd rfl (by first | exact .inl rfl | exact .inr rfl) (de_ixG rfl hr (de_call rfl (G_ride_walked.mono (by decide)) hgd hr (takes_of rfl rfl rfl rfl) rfl T.m_ride_walked F_ride_walked.kp kb0 (da_e (de_var (i := 0) rfl (by first | exact .inl rfl | exact .inr (.inl rfl) | exact .inr (.inr rfl))) (da_e (de_var (i := 1) rfl (by first | exact .inl rfl | exact .inr (.inl rfl) | exact .inr (.inr rfl))) da_nil))) de_int (by intro _ _; rfl)))
    (db_one (ds_ret (dx_tuple rfl rfl T.n_tuple (da_p (de_lc (own := [("number", 3)]) rfl sc_taken_at.nd (di_range1 rfl T.n_range (da_p (dx_len rfl rfl T.n_len (da_p (de_ixG rfl hr (de_var (i := 0) rfl (by first | exact .inl rfl | exact .inr (.inl rfl) | exact .inr (.inr rfl))) de_int (by intro _ _; rfl)) da_nil)) da_nil)) (blk_of rfl)
      (fun s H c cl fp => (dgw_name (i := 3) (by decide) sc_taken_at.nd rfl (by first | exact .inl rfl | exact .inr rfl))) (fun s H c cl fp => dts_nil) (fun s H c cl fp => (de_ixG rfl hr (de_var (i := 2) rfl (by first | exact .inl rfl | exact .inr (.inl rfl) | exact .inr (.inr rfl))) (de_var (i := 3) rfl (by first | exact .inl rfl | exact .inr (.inl rfl) | exact .inr (.inr rfl))) (by intro _ _; rfl)))) da_nil)))))
theorem g_order_of {P : Program} {w : World} {K : PySem.W.Frag} {mg : Str → Option Value} {base : Heap} (T : Top K mg) : ∃ fd, FunD K "order_of" "order_of" (defArgs s_order_of) (defBody s_order_of) (defScope s_order_of) [] [] (He.ga K "order_of") fd ∧ FnG P w K mg base 7 (He.ga K "order_of") fd ["house", "ride"] f_order_of := by
  obtain ⟨fd, F⟩ := T.d_order_of
  obtain ⟨fd_ride_walked, F_ride_walked, G_ride_walked⟩ := g_ride_walked (P := P) (w := w) (base := base) T
  have kb0 : KB K fd_ride_walked ["house", "ride"] [] 2 (pick [0, 1]) [] [] := kb_all F_ride_walked (pick_ok _) fun kV doc pm an cdv ct us ws h1 h2 => match us, ws, h1, h2 with | [_, _], [], _, _ => rfl
  refine ⟨fd, F, fn_D (k := 6) F sc_order_of rfl rfl fun cdv A outer s0 H E C hC hgd hr => ?_⟩
  subst hC
  unfold b_order_of
  exact (db_cons (ds_expr (de_call rfl (G_ride_walked.mono (by decide)) hgd hr (takes_of rfl rfl rfl rfl) rfl T.m_ride_walked F_ride_walked.kp kb0 (da_e (de_var (i := 0) rfl (by first | exact .inl rfl | exact .inr (.inl rfl) | exact .inr (.inr rfl))) (da_e (de_var (i := 1) rfl (by first | exact .inl rfl | exact .inr (.inl rfl) | exact .inr (.inr rfl))) da_nil))))
    (db_one (ds_ret (dx_tuple rfl rfl T.n_tuple (da_p (de_lc (own := [("move", 2)]) rfl sc_order_of.nd (di_dat rfl (de_var (i := 1) rfl (by first | exact .inl rfl | exact .inr (.inl rfl) | exact .inr (.inr rfl)))) (blk_of rfl)
      (fun s H c cl fp => (dgw_name (i := 2) (by decide) sc_order_of.nd rfl (by first | exact .inl rfl | exact .inr rfl))) (fun s H c cl fp => (dts_one (dy_isn (de_var (i := 2) rfl (by first | exact .inl rfl | exact .inr (.inl rfl) | exact .inr (.inr rfl))) de_non))) (fun s H c cl fp => (de_var (i := 2) rfl (by first | exact .inl rfl | exact .inr (.inl rfl) | exact .inr (.inr rfl))))) da_nil)))))
theorem g__law_hand_right {P : Program} {w : World} {K : PySem.W.Frag} {mg : Str → Option Value} {base : Heap} (T : Top K mg) : ∃ fd, FunD K "_law_hand_right" "_law_hand_right" (defArgs s__law_hand_right) (defBody s__law_hand_right) (defScope s__law_hand_right) [] [] (He.ga K "_law_hand_right") fd ∧ FnG P w K mg base 8 (He.ga K "_law_hand_right") fd [] f__law_hand_right := by
  obtain ⟨fd, F⟩ := T.d__law_hand_right
  obtain ⟨fd_rounds_of, F_rounds_of, G_rounds_of⟩ := g_rounds_of (P := P) (w := w) (base := base) T
  obtain ⟨fd_halts, F_halts, G_halts⟩ := g_halts (P := P) (w := w) (base := base) T
  obtain ⟨fd_order_of, F_order_of, G_order_of⟩ := g_order_of (P := P) (w := w) (base := base) T
  obtain ⟨fd_taken_at, F_taken_at, G_taken_at⟩ := g_taken_at (P := P) (w := w) (base := base) T
  have kb0 : KB K fd_rounds_of ["house", "ride"] [] 2 (pick [0, 1]) [] [] := kb_all F_rounds_of (pick_ok _) fun kV doc pm an cdv ct us ws h1 h2 => match us, ws, h1, h2 with | [_, _], [], _, _ => rfl
  have kb1 : KB K fd_halts ["house", "ride"] [] 2 (pick [0, 1]) [] [] := kb_all F_halts (pick_ok _) fun kV doc pm an cdv ct us ws h1 h2 => match us, ws, h1, h2 with | [_, _], [], _, _ => rfl
  have kb2 : KB K fd_order_of ["house", "ride"] [] 2 (pick [0, 1]) [] [] := kb_all F_order_of (pick_ok _) fun kV doc pm an cdv ct us ws h1 h2 => match us, ws, h1, h2 with | [_, _], [], _, _ => rfl
  have kb3 : KB K fd_taken_at ["house", "ride"] [] 2 (pick [0, 1]) [] [] := kb_all F_taken_at (pick_ok _) fun kV doc pm an cdv ct us ws h1 h2 => match us, ws, h1, h2 with | [_, _], [], _, _ => rfl
  have kb4 : KB K fd_halts ["house", "ride"] [] 2 (pick [0, 1]) [] [] := kb_all F_halts (pick_ok _) fun kV doc pm an cdv ct us ws h1 h2 => match us, ws, h1, h2 with | [_, _], [], _, _ => rfl
  have kb5 : KB K fd_rounds_of ["house", "ride"] [] 2 (pick [0, 1]) [] [] := kb_all F_rounds_of (pick_ok _) fun kV doc pm an cdv ct us ws h1 h2 => match us, ws, h1, h2 with | [_, _], [], _, _ => rfl
  have kb6 : KB K fd_rounds_of ["house", "ride"] [] 2 (pick [0, 1]) [] [] := kb_all F_rounds_of (pick_ok _) fun kV doc pm an cdv ct us ws h1 h2 => match us, ws, h1, h2 with | [_, _], [], _, _ => rfl
  have kb7 : KB K fd_taken_at ["house", "ride"] [] 2 (pick [0, 1]) [] [] := kb_all F_taken_at (pick_ok _) fun kV doc pm an cdv ct us ws h1 h2 => match us, ws, h1, h2 with | [_, _], [], _, _ => rfl
  have kb8 : KB K fd_order_of ["house", "ride"] [] 2 (pick [0, 1]) [] [] := kb_all F_order_of (pick_ok _) fun kV doc pm an cdv ct us ws h1 h2 => match us, ws, h1, h2 with | [_, _], [], _, _ => rfl
  have kb9 : KB K fd_taken_at ["house", "ride"] [] 2 (pick [0, 1]) [] [] := kb_all F_taken_at (pick_ok _) fun kV doc pm an cdv ct us ws h1 h2 => match us, ws, h1, h2 with | [_, _], [], _, _ => rfl
  have kb10 : KB K fd_halts ["house", "ride"] [] 2 (pick [0, 1]) [] [] := kb_all F_halts (pick_ok _) fun kV doc pm an cdv ct us ws h1 h2 => match us, ws, h1, h2 with | [_, _], [], _, _ => rfl
  have kb11 : KB K fd_rounds_of ["house", "ride"] [] 2 (pick [0, 1]) [] [] := kb_all F_rounds_of (pick_ok _) fun kV doc pm an cdv ct us ws h1 h2 => match us, ws, h1, h2 with | [_, _], [], _, _ => rfl
  refine ⟨fd, F, fn_D (k := 7) F sc__law_hand_right rfl rfl fun cdv A outer s0 H E C hC hgd hr => ?_⟩
  subst hC
  unfold b__law_hand_right
  exact (db_cons (ds_set (i := 0) sc__law_hand_right.nd rfl (by first | exact .inl rfl | exact .inr rfl) (de_tup (da_e de_int (da_e de_int (da_e (de_tup da_nil) da_nil)))))
    (db_cons (ds_if (dy_ne rfl hr (de_call rfl (G_rounds_of.mono (by decide)) hgd hr (takes_of rfl rfl rfl rfl) rfl T.m_rounds_of F_rounds_of.kp kb0 (da_e (de_var (i := 0) rfl (by first | exact .inl rfl | exact .inr (.inl rfl) | exact .inr (.inr rfl))) (da_e (dx_mul rfl (de_tup (da_e de_non da_nil)) de_int) da_nil))) de_int)
    (db_one (ds_ret de_bl))
    db_nil)
    (db_cons (ds_if (dy_ne rfl hr (de_call rfl (G_halts.mono (by decide)) hgd hr (takes_of rfl rfl rfl rfl) rfl T.m_halts F_halts.kp kb1 (da_e (de_var (i := 0) rfl (by first | exact .inl rfl | exact .inr (.inl rfl) | exact .inr (.inr rfl))) (da_e (dx_mul rfl (de_tup (da_e de_non da_nil)) de_int) da_nil))) (dx_tuple rfl rfl T.n_tuple (da_p (de_lc (own := [("k", 4)]) rfl sc__law_hand_right.nd (di_range1 rfl T.n_range (da_p de_int da_nil)) (blk_of rfl)
      (fun s H c cl fp => (dgw_name (i := 4) (by decide) sc__law_hand_right.nd rfl (by first | exact .inl rfl | exact .inr rfl))) (fun s H c cl fp => dts_nil) (fun s H c cl fp => (dx_mod (dx_add rfl de_int (de_var (i := 4) rfl (by first | exact .inl rfl | exact .inr (.inl rfl) | exact .inr (.inr rfl)))) de_int))) da_nil)))
    (db_one (ds_ret de_bl))
    db_nil)
    (db_cons (ds_if (dy_ne rfl hr (de_lst (da_e (de_call rfl (G_rounds_of.mono (by decide)) hgd hr (takes_of rfl rfl rfl rfl) rfl T.m_rounds_of F_rounds_of.kp kb5 (da_e (de_var (i := 0) rfl (by first | exact .inl rfl | exact .inr (.inl rfl) | exact .inr (.inr rfl))) (da_e (de_tup da_nil) da_nil))) (da_e (de_call rfl (G_halts.mono (by decide)) hgd hr (takes_of rfl rfl rfl rfl) rfl T.m_halts F_halts.kp kb4 (da_e (de_var (i := 0) rfl (by first | exact .inl rfl | exact .inr (.inl rfl) | exact .inr (.inr rfl))) (da_e (de_tup da_nil) da_nil))) (da_e (de_call rfl (G_taken_at.mono (by decide)) hgd hr (takes_of rfl rfl rfl rfl) rfl T.m_taken_at F_taken_at.kp kb3 (da_e (de_var (i := 0) rfl (by first | exact .inl rfl | exact .inr (.inl rfl) | exact .inr (.inr rfl))) (da_e (de_tup da_nil) da_nil))) (da_e (de_call rfl (G_order_of.mono (by decide)) hgd hr (takes_of rfl rfl rfl rfl) rfl T.m_order_of F_order_of.kp kb2 (da_e (de_var (i := 0) rfl (by first | exact .inl rfl | exact .inr (.inl rfl) | exact .inr (.inr rfl))) (da_e (de_tup da_nil) da_nil))) da_nil))))) (de_lst (da_e de_int (da_e (de_tup (da_e de_int da_nil)) (da_e (de_tup da_nil) (da_e (de_tup da_nil) da_nil))))))
    (db_one (ds_ret de_bl))
    db_nil)
    (db_cons (ds_set (i := 1) sc__law_hand_right.nd rfl (by first | exact .inl rfl | exact .inr rfl) (de_tup (da_e de_int (da_e de_int (da_e (dx_mul rfl (de_tup (da_e (de_tup (da_e de_int (da_e de_int da_nil))) da_nil)) de_int) da_nil)))))
    (db_cons (ds_set (i := 2) sc__law_hand_right.nd rfl (by first | exact .inl rfl | exact .inr rfl) (dx_revT rfl (dx_tupRg rfl rfl T.n_tuple rfl T.n_range de_int)))
    (db_cons (ds_if (DW.dt (dw_or (dy_ne rfl hr (de_call rfl (G_rounds_of.mono (by decide)) hgd hr (takes_of rfl rfl rfl rfl) rfl T.m_rounds_of F_rounds_of.kp kb6 (da_e (de_var (i := 1) rfl (by first | exact .inl rfl | exact .inr (.inl rfl) | exact .inr (.inr rfl))) (da_e (de_var (i := 2) rfl (by first | exact .inl rfl | exact .inr (.inl rfl) | exact .inr (.inr rfl))) da_nil))) de_int) (dw_or1 (dy_ne rfl hr (de_call rfl (G_taken_at.mono (by decide)) hgd hr (takes_of rfl rfl rfl rfl) rfl T.m_taken_at F_taken_at.kp kb7 (da_e (de_var (i := 1) rfl (by first | exact .inl rfl | exact .inr (.inl rfl) | exact .inr (.inr rfl))) (da_e (de_var (i := 2) rfl (by first | exact .inl rfl | exact .inr (.inl rfl) | exact .inr (.inr rfl))) da_nil))) (dx_tuple rfl rfl T.n_tuple (da_p (de_lc (own := [("k", 4)]) rfl sc__law_hand_right.nd (di_range1 rfl T.n_range (da_p de_int da_nil)) (blk_of rfl)
      (fun s H c cl fp => (dgw_name (i := 4) (by decide) sc__law_hand_right.nd rfl (by first | exact .inl rfl | exact .inr rfl))) (fun s H c cl fp => dts_nil) (fun s H c cl fp => (dx_mul rfl de_int (dx_sub de_int (de_var (i := 4) rfl (by first | exact .inl rfl | exact .inr (.inl rfl) | exact .inr (.inr rfl))))))) da_nil))))))
    (db_one (ds_ret de_bl))
    db_nil)
    (db_cons (ds_set (i := 1) sc__law_hand_right.nd rfl (by first | exact .inl rfl | exact .inr rfl) (de_tup (da_e de_int (da_e de_int (da_e (de_tup (da_e (de_tup (da_e de_int (da_e de_int da_nil))) (da_e (de_tup (da_e de_int (da_e de_int da_nil))) (da_e (de_tup (da_e de_int (da_e de_int da_nil))) da_nil)))) da_nil)))))
    (db_cons (ds_set (i := 2) sc__law_hand_right.nd rfl (by first | exact .inl rfl | exact .inr rfl) (de_tup (da_e de_int (da_e de_non (da_e de_int (da_e de_int da_nil))))))
    (db_cons (ds_set (i := 3) sc__law_hand_right.nd rfl (by first | exact .inl rfl | exact .inr rfl) (de_lst (da_e (de_call rfl (G_rounds_of.mono (by decide)) hgd hr (takes_of rfl rfl rfl rfl) rfl T.m_rounds_of F_rounds_of.kp kb11 (da_e (de_var (i := 1) rfl (by first | exact .inl rfl | exact .inr (.inl rfl) | exact .inr (.inr rfl))) (da_e (de_var (i := 2) rfl (by first | exact .inl rfl | exact .inr (.inl rfl) | exact .inr (.inr rfl))) da_nil))) (da_e (de_call rfl (G_halts.mono (by decide)) hgd hr (takes_of rfl rfl rfl rfl) rfl T.m_halts F_halts.kp kb10 (da_e (de_var (i := 1) rfl (by first | exact .inl rfl | exact .inr (.inl rfl) | exact .inr (.inr rfl))) (da_e (de_var (i := 2) rfl (by first | exact .inl rfl | exact .inr (.inl rfl) | exact .inr (.inr rfl))) da_nil))) (da_e (de_call rfl (G_taken_at.mono (by decide)) hgd hr (takes_of rfl rfl rfl rfl) rfl T.m_taken_at F_taken_at.kp kb9 (da_e (de_var (i := 1) rfl (by first | exact .inl rfl | exact .inr (.inl rfl) | exact .inr (.inr rfl))) (da_e (de_var (i := 2) rfl (by first | exact .inl rfl | exact .inr (.inl rfl) | exact .inr (.inr rfl))) da_nil))) (da_e (de_call rfl (G_order_of.mono (by decide)) hgd hr (takes_of rfl rfl rfl rfl) rfl T.m_order_of F_order_of.kp kb8 (da_e (de_var (i := 1) rfl (by first | exact .inl rfl | exact .inr (.inl rfl) | exact .inr (.inr rfl))) (da_e (de_var (i := 2) rfl (by first | exact .inl rfl | exact .inr (.inl rfl) | exact .inr (.inr rfl))) da_nil))) da_nil))))))
    (db_one (ds_ret (dx_eq rfl hr (de_var (i := 3) rfl (by first | exact .inl rfl | exact .inr (.inl rfl) | exact .inr (.inr rfl))) (de_lst (da_e de_int (da_e (de_tup (da_e de_int (da_e de_int (da_e de_int (da_e de_int (da_e de_int da_nil)))))) (da_e (de_tup (da_e de_int (da_e de_int (da_e de_int da_nil)))) (da_e (de_tup (da_e de_int (da_e de_int (da_e de_int da_nil)))) da_nil))))))))))))))))))
theorem g__law_mixed {P : Program} {w : World} {K : PySem.W.Frag} {mg : Str → Option Value} {base : Heap} (T : Top K mg) : ∃ fd, FunD K "_law_mixed" "_law_mixed" (defArgs s__law_mixed) (defBody s__law_mixed) (defScope s__law_mixed) [] [] (He.ga K "_law_mixed") fd ∧ FnG P w K mg base 1 (He.ga K "_law_mixed") fd ["cell", "k"] f__law_mixed := by
  obtain ⟨fd, F⟩ := T.d__law_mixed
  refine ⟨fd, F, fn_D (k := 0) F sc__law_mixed rfl rfl fun cdv A outer s0 H E C hC hgd hr => ?_⟩
  subst hC
  unfold b__law_mixed
  exact (db_cons (ds_set (i := 2) sc__law_mixed.nd rfl (by first | exact .inl rfl | exact .inr rfl) (dx_mod (dx_add rfl (dx_add rfl (dx_add rfl (dx_mod (de_var (i := 0) rfl (by first | exact .inl rfl | exact .inr (.inl rfl) | exact .inr (.inr rfl))) de_int) (dx_mul rfl (dx_mul rfl de_int (de_var (i := 1) rfl (by first | exact .inl rfl | exact .inr (.inl rfl) | exact .inr (.inr rfl)))) (de_var (i := 1) rfl (by first | exact .inl rfl | exact .inr (.inl rfl) | exact .inr (.inr rfl))))) (dx_mul rfl de_int (de_var (i := 1) rfl (by first | exact .inl rfl | exact .inr (.inl rfl) | exact .inr (.inr rfl))))) de_int) de_int))
    (db_cons (ds_set (i := 2) sc__law_mixed.nd rfl (by first | exact .inl rfl | exact .inr rfl) (dx_mod (dx_mul rfl (dx_mod (dx_mul rfl (de_var (i := 2) rfl (by first | exact .inl rfl | exact .inr (.inl rfl) | exact .inr (.inr rfl))) (de_var (i := 2) rfl (by first | exact .inl rfl | exact .inr (.inl rfl) | exact .inr (.inr rfl)))) de_int) (de_var (i := 2) rfl (by first | exact .inl rfl | exact .inr (.inl rfl) | exact .inr (.inr rfl)))) de_int))
    (db_one (ds_ret (dx_fdiv (dx_mod (dx_mul rfl (de_var (i := 2) rfl (by first | exact .inl rfl | exact .inr (.inl rfl) | exact .inr (.inr rfl))) (dx_add rfl de_int (dx_mul rfl de_int (dx_mod (de_var (i := 1) rfl (by first | exact .inl rfl | exact .inr (.inl rfl) | exact .inr (.inr rfl))) de_int)))) de_int) de_int)))))
theorem g__law_next {P : Program} {w : World} {K : PySem.W.Frag} {mg : Str → Option Value} {base : Heap} (T : Top K mg) : ∃ fd, FunD K "_law_next" "_law_next" (defArgs s__law_next) (defBody s__law_next) (defScope s__law_next) [] [] (He.ga K "_law_next") fd ∧ FnG P w K mg base 2 (He.ga K "_law_next") fd ["draw", "many"] f__law_next := by
  obtain ⟨fd, F⟩ := T.d__law_next
  obtain ⟨fd__law_mixed, F__law_mixed, G__law_mixed⟩ := g__law_mixed (P := P) (w := w) (base := base) T
  have kb0 : KB K fd__law_mixed ["cell", "k"] [] 2 (pick [0, 1]) [] [] := kb_all F__law_mixed (pick_ok _) fun kV doc pm an cdv ct us ws h1 h2 => match us, ws, h1, h2 with | [_, _], [], _, _ => rfl
  have kb1 : KB K fd__law_mixed ["cell", "k"] [] 2 (pick [0, 1]) [] [] := kb_all F__law_mixed (pick_ok _) fun kV doc pm an cdv ct us ws h1 h2 => match us, ws, h1, h2 with | [_, _], [], _, _ => rfl
  refine ⟨fd, F, fn_D (k := 1) F sc__law_next rfl rfl fun cdv A outer s0 H E C hC hgd hr => ?_⟩
  subst hC
  unfold b__law_next
  exact (db_cons (ds_if (dy_gt (de_ixG rfl hr (de_var (i := 0) rfl (by first | exact .inl rfl | exact .inr (.inl rfl) | exact .inr (.inr rfl))) de_str (by intro _ _; rfl)) de_int)
    (db_cons (ds_set (i := 2) sc__law_next.nd rfl (by first | exact .inl rfl | exact .inr rfl) (dx_mod (de_ixG rfl hr (de_var (i := 0) rfl (by first | exact .inl rfl | exact .inr (.inl rfl) | exact .inr (.inr rfl))) de_str (by intro _ _; rfl)) (de_var (i := 1) rfl (by first | exact .inl rfl | exact .inr (.inl rfl) | exact .inr (.inr rfl)))))
    (db_cons (ds_setI hr (dx_fdiv (de_ixG rfl hr (de_var (i := 0) rfl (by first | exact .inl rfl | exact .inr (.inl rfl) | exact .inr (.inr rfl))) de_str (by intro _ _; rfl)) (de_var (i := 1) rfl (by first | exact .inl rfl | exact .inr (.inl rfl) | exact .inr (.inr rfl)))) (de_var (i := 0) rfl (by first | exact .inl rfl | exact .inr (.inl rfl) | exact .inr (.inr rfl))) de_str)
    (db_one (ds_ret (de_var (i := 2) rfl (by first | exact .inl rfl | exact .inr (.inl rfl) | exact .inr (.inr rfl)))))))
    db_nil)
    (db_cons (ds_set (i := 3) sc__law_next.nd rfl (by first | exact .inl rfl | exact .inr rfl) (de_ixG rfl hr (de_var (i := 0) rfl (by first | exact .inl rfl | exact .inr (.inl rfl) | exact .inr (.inr rfl))) de_str (by intro _ _; rfl)))
    (db_cons (ds_set (i := 4) sc__law_next.nd rfl (by first | exact .inl rfl | exact .inr rfl) (de_ixG rfl hr (de_var (i := 3) rfl (by first | exact .inl rfl | exact .inr (.inl rfl) | exact .inr (.inr rfl))) (dx_mod (de_ixG rfl hr (de_var (i := 0) rfl (by first | exact .inl rfl | exact .inr (.inl rfl) | exact .inr (.inr rfl))) de_str (by intro _ _; rfl)) (dx_len rfl rfl T.n_len (da_p (de_var (i := 3) rfl (by first | exact .inl rfl | exact .inr (.inl rfl) | exact .inr (.inr rfl))) da_nil))) (by intro _ _; rfl)))
    (db_cons (ds_setI hr (dx_add rfl (de_ixG rfl hr (de_var (i := 0) rfl (by first | exact .inl rfl | exact .inr (.inl rfl) | exact .inr (.inr rfl))) de_str (by intro _ _; rfl)) de_int) (de_var (i := 0) rfl (by first | exact .inl rfl | exact .inr (.inl rfl) | exact .inr (.inr rfl))) de_str)
    (db_cons (ds_if (DW.dt (dw_and (dy_ge (de_var (i := 4) rfl (by first | exact .inl rfl | exact .inr (.inl rfl) | exact .inr (.inr rfl))) (dx_pow de_int de_int)) (dw_and1 (dy_le (de_ixG rfl hr (de_var (i := 0) rfl (by first | exact .inl rfl | exact .inr (.inl rfl) | exact .inr (.inr rfl))) de_str (by intro _ _; rfl)) (dx_len rfl rfl T.n_len (da_p (de_var (i := 3) rfl (by first | exact .inl rfl | exact .inr (.inl rfl) | exact .inr (.inr rfl))) da_nil))))))
    (db_cons (ds_setI hr (dx_fdiv (de_var (i := 4) rfl (by first | exact .inl rfl | exact .inr (.inl rfl) | exact .inr (.inr rfl))) (de_var (i := 1) rfl (by first | exact .inl rfl | exact .inr (.inl rfl) | exact .inr (.inr rfl)))) (de_var (i := 0) rfl (by first | exact .inl rfl | exact .inr (.inl rfl) | exact .inr (.inr rfl))) de_str)
    (db_one (ds_ret (dx_mod (de_var (i := 4) rfl (by first | exact .inl rfl | exact .inr (.inl rfl) | exact .inr (.inr rfl))) (de_var (i := 1) rfl (by first | exact .inl rfl | exact .inr (.inl rfl) | exact .inr (.inr rfl)))))))
    db_nil)
    (db_cons (ds_setI hr (dx_add rfl (de_ixG rfl hr (de_var (i := 0) rfl (by first | exact .inl rfl | exact .inr (.inl rfl) | exact .inr (.inr rfl))) de_str (by intro _ _; rfl)) de_int) (de_var (i := 0) rfl (by first | exact .inl rfl | exact .inr (.inl rfl) | exact .inr (.inr rfl))) de_str)
    (db_one (ds_ret (dx_mod (de_call rfl (G__law_mixed.mono (by decide)) hgd hr (takes_of rfl rfl rfl rfl) rfl T.m__law_mixed F__law_mixed.kp kb0 (da_e (de_call rfl (G__law_mixed.mono (by decide)) hgd hr (takes_of rfl rfl rfl rfl) rfl T.m__law_mixed F__law_mixed.kp kb1 (da_e (de_var (i := 4) rfl (by first | exact .inl rfl | exact .inr (.inl rfl) | exact .inr (.inr rfl))) (da_e (de_ixG rfl hr (de_var (i := 0) rfl (by first | exact .inl rfl | exact .inr (.inl rfl) | exact .inr (.inr rfl))) de_str (by intro _ _; rfl)) da_nil))) (da_e (de_ixG rfl hr (de_var (i := 0) rfl (by first | exact .inl rfl | exact .inr (.inl rfl) | exact .inr (.inr rfl))) de_str (by intro _ _; rfl)) da_nil))) (de_var (i := 1) rfl (by first | exact .inl rfl | exact .inr (.inl rfl) | exact .inr (.inr rfl))))))))))))
theorem g__law_errand {P : Program} {w : World} {K : PySem.W.Frag} {mg : Str → Option Value} {base : Heap} (T : Top K mg) : ∃ fd, FunD K "_law_errand" "_law_errand" (defArgs s__law_errand) (defBody s__law_errand) (defScope s__law_errand) [] [] (He.ga K "_law_errand") fd ∧ FnG P w K mg base 3 (He.ga K "_law_errand") fd ["draw", "floors"] f__law_errand := by
  obtain ⟨fd, F⟩ := T.d__law_errand
  obtain ⟨fd__law_next, F__law_next, G__law_next⟩ := g__law_next (P := P) (w := w) (base := base) T
  have kb0 : KB K fd__law_next ["draw", "many"] [] 2 (pick [0, 1]) [] [] := kb_all F__law_next (pick_ok _) fun kV doc pm an cdv ct us ws h1 h2 => match us, ws, h1, h2 with | [_, _], [], _, _ => rfl
  have kb1 : KB K fd__law_next ["draw", "many"] [] 2 (pick [0, 1]) [] [] := kb_all F__law_next (pick_ok _) fun kV doc pm an cdv ct us ws h1 h2 => match us, ws, h1, h2 with | [_, _], [], _, _ => rfl
  have kb2 : KB K fd__law_next ["draw", "many"] [] 2 (pick [0, 1]) [] [] := kb_all F__law_next (pick_ok _) fun kV doc pm an cdv ct us ws h1 h2 => match us, ws, h1, h2 with | [_, _], [], _, _ => rfl
  have kb3 : KB K fd__law_next ["draw", "many"] [] 2 (pick [0, 1]) [] [] := kb_all F__law_next (pick_ok _) fun kV doc pm an cdv ct us ws h1 h2 => match us, ws, h1, h2 with | [_, _], [], _, _ => rfl
  have kb4 : KB K fd__law_next ["draw", "many"] [] 2 (pick [0, 1]) [] [] := kb_all F__law_next (pick_ok _) fun kV doc pm an cdv ct us ws h1 h2 => match us, ws, h1, h2 with | [_, _], [], _, _ => rfl
  refine ⟨fd, F, fn_D (k := 2) F sc__law_errand rfl rfl fun cdv A outer s0 H E C hC hgd hr => ?_⟩
  subst hC
  unfold b__law_errand
  exact (db_cons (ds_set (i := 2) sc__law_errand.nd rfl (by first | exact .inl rfl | exact .inr rfl) (de_lst (da_e (dx_add rfl de_int (de_call rfl (G__law_next.mono (by decide)) hgd hr (takes_of rfl rfl rfl rfl) rfl T.m__law_next F__law_next.kp kb2 (da_p (de_var (i := 0) rfl (by first | exact .inl rfl | exact .inr (.inl rfl) | exact .inr (.inr rfl))) (da_e de_int da_nil)))) (da_e (dx_add rfl de_int (de_call rfl (G__law_next.mono (by decide)) hgd hr (takes_of rfl rfl rfl rfl) rfl T.m__law_next F__law_next.kp kb1 (da_p (de_var (i := 0) rfl (by first | exact .inl rfl | exact .inr (.inl rfl) | exact .inr (.inr rfl))) (da_e (de_var (i := 1) rfl (by first | exact .inl rfl | exact .inr (.inl rfl) | exact .inr (.inr rfl))) da_nil)))) (da_e (de_var (i := 1) rfl (by first | exact .inl rfl | exact .inr (.inl rfl) | exact .inr (.inr rfl))) (da_e (dx_add rfl de_int (de_call rfl (G__law_next.mono (by decide)) hgd hr (takes_of rfl rfl rfl rfl) rfl T.m__law_next F__law_next.kp kb0 (da_p (de_var (i := 0) rfl (by first | exact .inl rfl | exact .inr (.inl rfl) | exact .inr (.inr rfl))) (da_e (dx_mul rfl de_int (de_var (i := 1) rfl (by first | exact .inl rfl | exact .inr (.inl rfl) | exact .inr (.inr rfl)))) da_nil)))) da_nil))))))
    (db_one (ds_ret (de_tup (da_e (de_call rfl (G__law_next.mono (by decide)) hgd hr (takes_of rfl rfl rfl rfl) rfl T.m__law_next F__law_next.kp kb4 (da_p (de_var (i := 0) rfl (by first | exact .inl rfl | exact .inr (.inl rfl) | exact .inr (.inr rfl))) (da_e (de_var (i := 1) rfl (by first | exact .inl rfl | exact .inr (.inl rfl) | exact .inr (.inr rfl))) da_nil))) (da_e (de_ixG rfl hr (de_var (i := 2) rfl (by first | exact .inl rfl | exact .inr (.inl rfl) | exact .inr (.inr rfl))) (de_call rfl (G__law_next.mono (by decide)) hgd hr (takes_of rfl rfl rfl rfl) rfl T.m__law_next F__law_next.kp kb3 (da_p (de_var (i := 0) rfl (by first | exact .inl rfl | exact .inr (.inl rfl) | exact .inr (.inr rfl))) (da_e de_int da_nil))) (by intro _ _; rfl)) da_nil))))))
theorem g__law_way {P : Program} {w : World} {K : PySem.W.Frag} {mg : Str → Option Value} {base : Heap} (T : Top K mg) : ∃ fd, FunD K "_law_way" "_law_way" (defArgs s__law_way) (defBody s__law_way) (defScope s__law_way) [] [] (He.ga K "_law_way") fd ∧ FnG P w K mg base 3 (He.ga K "_law_way") fd ["draw", "floors"] f__law_way := by
  obtain ⟨fd, F⟩ := T.d__law_way
  obtain ⟨fd__law_next, F__law_next, G__law_next⟩ := g__law_next (P := P) (w := w) (base := base) T
  have kb0 : KB K fd__law_next ["draw", "many"] [] 2 (pick [0, 1]) [] [] := kb_all F__law_next (pick_ok _) fun kV doc pm an cdv ct us ws h1 h2 => match us, ws, h1, h2 with | [_, _], [], _, _ => rfl
  have kb1 : KB K fd__law_next ["draw", "many"] [] 2 (pick [0, 1]) [] [] := kb_all F__law_next (pick_ok _) fun kV doc pm an cdv ct us ws h1 h2 => match us, ws, h1, h2 with | [_, _], [], _, _ => rfl
  refine ⟨fd, F, fn_D (k := 2) F sc__law_way rfl rfl fun cdv A outer s0 H E C hC hgd hr => ?_⟩
  subst hC
  unfold b__law_way
  exact (db_cons (ds_par3 (i := 2) (j := 3) (l := 4) rfl sc__law_way.nd rfl rfl rfl (by decide) (by decide) (by decide) rfl rfl rfl (de_call rfl (G__law_next.mono (by decide)) hgd hr (takes_of rfl rfl rfl rfl) rfl T.m__law_next F__law_next.kp kb0 (da_p (de_var (i := 0) rfl (by first | exact .inl rfl | exact .inr (.inl rfl) | exact .inr (.inr rfl))) (da_e (de_var (i := 1) rfl (by first | exact .inl rfl | exact .inr (.inl rfl) | exact .inr (.inr rfl))) da_nil))) (de_var (i := 1) rfl (by first | exact .inl rfl | exact .inr (.inl rfl) | exact .inr (.inr rfl))) (de_lst da_nil))
    (db_cons (ds_while (passes_of rfl) (dy_gt (de_var (i := 3) rfl (by first | exact .inl rfl | exact .inr (.inl rfl) | exact .inr (.inr rfl))) de_int)
    (db_cons (ds_set (i := 5) sc__law_way.nd rfl (by first | exact .inl rfl | exact .inr rfl) (dx_min2 rfl rfl T.n_min (da_p (de_var (i := 3) rfl (by first | exact .inl rfl | exact .inr (.inl rfl) | exact .inr (.inr rfl))) (da_p (dx_add rfl de_int (de_call rfl (G__law_next.mono (by decide)) hgd hr (takes_of rfl rfl rfl rfl) rfl T.m__law_next F__law_next.kp kb1 (da_p (de_var (i := 0) rfl (by first | exact .inl rfl | exact .inr (.inl rfl) | exact .inr (.inr rfl))) (da_e (de_var (i := 1) rfl (by first | exact .inl rfl | exact .inr (.inl rfl) | exact .inr (.inr rfl))) da_nil)))) da_nil))))
    (db_cons (ds_expr (de_met rfl PySem.F.slot_list_append PySem.F.type_list_append mt_append md_append (de_var (i := 4) rfl (by first | exact .inl rfl | exact .inr (.inl rfl) | exact .inr (.inr rfl))) (da_e (de_tup (da_e (dx_mod (dx_sub (dx_add rfl (de_var (i := 2) rfl (by first | exact .inl rfl | exact .inr (.inl rfl) | exact .inr (.inr rfl))) (de_var (i := 1) rfl (by first | exact .inl rfl | exact .inr (.inl rfl) | exact .inr (.inr rfl)))) (de_var (i := 3) rfl (by first | exact .inl rfl | exact .inr (.inl rfl) | exact .inr (.inr rfl)))) (de_var (i := 1) rfl (by first | exact .inl rfl | exact .inr (.inl rfl) | exact .inr (.inr rfl)))) (da_e (de_var (i := 5) rfl (by first | exact .inl rfl | exact .inr (.inl rfl) | exact .inr (.inr rfl))) da_nil))) da_nil)))
    (db_one (ds_set (i := 3) sc__law_way.nd rfl (by first | exact .inl rfl | exact .inr rfl) (dx_sub (de_var (i := 3) rfl (by first | exact .inl rfl | exact .inr (.inl rfl) | exact .inr (.inr rfl))) (de_var (i := 5) rfl (by first | exact .inl rfl | exact .inr (.inl rfl) | exact .inr (.inr rfl)))))))))
    (db_one (ds_ret (de_var (i := 4) rfl (by first | exact .inl rfl | exact .inr (.inl rfl) | exact .inr (.inr rfl)))))))
theorem g__law_house {P : Program} {w : World} {K : PySem.W.Frag} {mg : Str → Option Value} {base : Heap} (T : Top K mg) : ∃ fd, FunD K "_law_house" "_law_house" (defArgs s__law_house) (defBody s__law_house) (defScope s__law_house) [] [] (He.ga K "_law_house") fd ∧ FnG P w K mg base 4 (He.ga K "_law_house") fd ["draw", "floors", "many"] f__law_house := by
  obtain ⟨fd, F⟩ := T.d__law_house
  obtain ⟨fd__law_next, F__law_next, G__law_next⟩ := g__law_next (P := P) (w := w) (base := base) T
  obtain ⟨fd__law_way, F__law_way, G__law_way⟩ := g__law_way (P := P) (w := w) (base := base) T
  obtain ⟨fd__law_errand, F__law_errand, G__law_errand⟩ := g__law_errand (P := P) (w := w) (base := base) T
  have kb0 : KB K fd__law_next ["draw", "many"] [] 2 (pick [0, 1]) [] [] := kb_all F__law_next (pick_ok _) fun kV doc pm an cdv ct us ws h1 h2 => match us, ws, h1, h2 with | [_, _], [], _, _ => rfl
  have kb1 : KB K fd__law_next ["draw", "many"] [] 2 (pick [0, 1]) [] [] := kb_all F__law_next (pick_ok _) fun kV doc pm an cdv ct us ws h1 h2 => match us, ws, h1, h2 with | [_, _], [], _, _ => rfl
  have kb2 : KB K fd__law_next ["draw", "many"] [] 2 (pick [0, 1]) [] [] := kb_all F__law_next (pick_ok _) fun kV doc pm an cdv ct us ws h1 h2 => match us, ws, h1, h2 with | [_, _], [], _, _ => rfl
  have kb3 : KB K fd__law_way ["draw", "floors"] [] 2 (pick [0, 1]) [] [] := kb_all F__law_way (pick_ok _) fun kV doc pm an cdv ct us ws h1 h2 => match us, ws, h1, h2 with | [_, _], [], _, _ => rfl
  have kb4 : KB K fd__law_next ["draw", "many"] [] 2 (pick [0, 1]) [] [] := kb_all F__law_next (pick_ok _) fun kV doc pm an cdv ct us ws h1 h2 => match us, ws, h1, h2 with | [_, _], [], _, _ => rfl
  have kb5 : KB K fd__law_errand ["draw", "floors"] [] 2 (pick [0, 1]) [] [] := kb_all F__law_errand (pick_ok _) fun kV doc pm an cdv ct us ws h1 h2 => match us, ws, h1, h2 with | [_, _], [], _, _ => rfl
  have kb6 : KB K fd__law_next ["draw", "many"] [] 2 (pick [0, 1]) [] [] := kb_all F__law_next (pick_ok _) fun kV doc pm an cdv ct us ws h1 h2 => match us, ws, h1, h2 with | [_, _], [], _, _ => rfl
  have kb7 : KB K fd__law_next ["draw", "many"] [] 2 (pick [0, 1]) [] [] := kb_all F__law_next (pick_ok _) fun kV doc pm an cdv ct us ws h1 h2 => match us, ws, h1, h2 with | [_, _], [], _, _ => rfl
  have kb8 : KB K fd__law_next ["draw", "many"] [] 2 (pick [0, 1]) [] [] := kb_all F__law_next (pick_ok _) fun kV doc pm an cdv ct us ws h1 h2 => match us, ws, h1, h2 with | [_, _], [], _, _ => rfl
  have kb9 : KB K fd__law_next ["draw", "many"] [] 2 (pick [0, 1]) [] [] := kb_all F__law_next (pick_ok _) fun kV doc pm an cdv ct us ws h1 h2 => match us, ws, h1, h2 with | [_, _], [], _, _ => rfl
  refine ⟨fd, F, fn_D (k := 3) F sc__law_house rfl rfl fun cdv A outer s0 H E C hC hgd hr => ?_⟩
  subst hC
  unfold b__law_house
  exact (db_cons (ds_par3 (i := 3) (j := 4) (l := 5) rfl sc__law_house.nd rfl rfl rfl (by decide) (by decide) (by decide) rfl rfl rfl (de_call rfl (G__law_next.mono (by decide)) hgd hr (takes_of rfl rfl rfl rfl) rfl T.m__law_next F__law_next.kp kb0 (da_p (de_var (i := 0) rfl (by first | exact .inl rfl | exact .inr (.inl rfl) | exact .inr (.inr rfl))) (da_e de_int da_nil))) (de_call rfl (G__law_next.mono (by decide)) hgd hr (takes_of rfl rfl rfl rfl) rfl T.m__law_next F__law_next.kp kb1 (da_p (de_var (i := 0) rfl (by first | exact .inl rfl | exact .inr (.inl rfl) | exact .inr (.inr rfl))) (da_e (de_var (i := 1) rfl (by first | exact .inl rfl | exact .inr (.inl rfl) | exact .inr (.inr rfl))) da_nil))) (de_lst da_nil))
    (db_cons (ds_if (dy_gt (de_var (i := 3) rfl (by first | exact .inl rfl | exact .inr (.inl rfl) | exact .inr (.inr rfl))) de_int)
    (db_one (ds_for (passes_of rfl) rfl (di_range1 rfl T.n_range (da_p (dx_add rfl de_int (de_call rfl (G__law_next.mono (by decide)) hgd hr (takes_of rfl rfl rfl rfl) rfl T.m__law_next F__law_next.kp kb2 (da_p (de_var (i := 0) rfl (by first | exact .inl rfl | exact .inr (.inl rfl) | exact .inr (.inr rfl))) (da_e de_int da_nil)))) da_nil)) (dg_name (i := 6) sc__law_house.nd rfl (by first | exact .inl rfl | exact .inr rfl))
    (db_one (ds_set (i := 5) sc__law_house.nd rfl (by first | exact .inl rfl | exact .inr rfl) (dx_add rfl (de_var (i := 5) rfl (by first | exact .inl rfl | exact .inr (.inl rfl) | exact .inr (.inr rfl))) (de_call rfl (G__law_way.mono (by decide)) hgd hr (takes_of rfl rfl rfl rfl) rfl T.m__law_way F__law_way.kp kb3 (da_p (de_var (i := 0) rfl (by first | exact .inl rfl | exact .inr (.inl rfl) | exact .inr (.inr rfl))) (da_e (de_var (i := 1) rfl (by first | exact .inl rfl | exact .inr (.inl rfl) | exact .inr (.inr rfl))) da_nil))))))))
    db_nil)
    (db_cons (ds_for (passes_of rfl) rfl (di_range1 rfl T.n_range (da_p (de_ixG rfl hr (de_lst (da_e (de_call rfl (G__law_next.mono (by decide)) hgd hr (takes_of rfl rfl rfl rfl) rfl T.m__law_next F__law_next.kp kb4 (da_p (de_var (i := 0) rfl (by first | exact .inl rfl | exact .inr (.inl rfl) | exact .inr (.inr rfl))) (da_e de_int da_nil))) (da_e de_int (da_e de_int (da_e de_int da_nil))))) (de_var (i := 3) rfl (by first | exact .inl rfl | exact .inr (.inl rfl) | exact .inr (.inr rfl))) (by intro _ _; rfl)) da_nil)) (dg_name (i := 6) sc__law_house.nd rfl (by first | exact .inl rfl | exact .inr rfl))
    (db_one (ds_expr (de_met rfl PySem.F.slot_list_append PySem.F.type_list_append mt_append md_append (de_var (i := 5) rfl (by first | exact .inl rfl | exact .inr (.inl rfl) | exact .inr (.inr rfl))) (da_e (de_call rfl (G__law_errand.mono (by decide)) hgd hr (takes_of rfl rfl rfl rfl) rfl T.m__law_errand F__law_errand.kp kb5 (da_p (de_var (i := 0) rfl (by first | exact .inl rfl | exact .inr (.inl rfl) | exact .inr (.inr rfl))) (da_e (de_var (i := 1) rfl (by first | exact .inl rfl | exact .inr (.inl rfl) | exact .inr (.inr rfl))) da_nil))) da_nil)))))
    (db_cons (ds_if (dy_eq rfl hr (de_var (i := 3) rfl (by first | exact .inl rfl | exact .inr (.inl rfl) | exact .inr (.inr rfl))) de_int)
    (db_one (ds_expr (de_met rfl PySem.F.slot_list_pop PySem.F.type_list_pop mt_popAt md_popAt (de_var (i := 5) rfl (by first | exact .inl rfl | exact .inr (.inl rfl) | exact .inr (.inr rfl))) (da_e (de_call rfl (G__law_next.mono (by decide)) hgd hr (takes_of rfl rfl rfl rfl) rfl T.m__law_next F__law_next.kp kb6 (da_p (de_var (i := 0) rfl (by first | exact .inl rfl | exact .inr (.inl rfl) | exact .inr (.inr rfl))) (da_e (dx_len rfl rfl T.n_len (da_p (de_var (i := 5) rfl (by first | exact .inl rfl | exact .inr (.inl rfl) | exact .inr (.inr rfl))) da_nil)) da_nil))) da_nil))))
    db_nil)
    (db_cons (ds_if (DW.dt (dw_and (dy_ne rfl hr (de_var (i := 5) rfl (by first | exact .inl rfl | exact .inr (.inl rfl) | exact .inr (.inr rfl))) (de_lst da_nil)) (dw_and1 (dy_eq rfl hr (de_call rfl (G__law_next.mono (by decide)) hgd hr (takes_of rfl rfl rfl rfl) rfl T.m__law_next F__law_next.kp kb7 (da_p (de_var (i := 0) rfl (by first | exact .inl rfl | exact .inr (.inl rfl) | exact .inr (.inr rfl))) (da_e de_int da_nil))) de_int))))
    (db_one (ds_expr (de_met rfl PySem.F.slot_list_append PySem.F.type_list_append mt_append md_append (de_var (i := 5) rfl (by first | exact .inl rfl | exact .inr (.inl rfl) | exact .inr (.inr rfl))) (da_e (de_ixG rfl hr (de_var (i := 5) rfl (by first | exact .inl rfl | exact .inr (.inl rfl) | exact .inr (.inr rfl))) (de_call rfl (G__law_next.mono (by decide)) hgd hr (takes_of rfl rfl rfl rfl) rfl T.m__law_next F__law_next.kp kb8 (da_p (de_var (i := 0) rfl (by first | exact .inl rfl | exact .inr (.inl rfl) | exact .inr (.inr rfl))) (da_e (dx_len rfl rfl T.n_len (da_p (de_var (i := 5) rfl (by first | exact .inl rfl | exact .inr (.inl rfl) | exact .inr (.inr rfl))) da_nil)) da_nil))) (by intro _ _; rfl)) da_nil))))
    db_nil)
    (db_cons (ds_set (i := 7) sc__law_house.nd rfl (by first | exact .inl rfl | exact .inr rfl) (de_call rfl (G__law_next.mono (by decide)) hgd hr (takes_of rfl rfl rfl rfl) rfl T.m__law_next F__law_next.kp kb9 (da_p (de_var (i := 0) rfl (by first | exact .inl rfl | exact .inr (.inl rfl) | exact .inr (.inr rfl))) (da_e (dx_add rfl (dx_len rfl rfl T.n_len (da_p (de_var (i := 5) rfl (by first | exact .inl rfl | exact .inr (.inl rfl) | exact .inr (.inr rfl))) da_nil)) de_int) da_nil))))
    (db_one (ds_ret (de_tup (da_e (de_var (i := 1) rfl (by first | exact .inl rfl | exact .inr (.inl rfl) | exact .inr (.inr rfl))) (da_e (de_var (i := 4) rfl (by first | exact .inl rfl | exact .inr (.inl rfl) | exact .inr (.inr rfl))) (da_e (dx_tuple rfl rfl T.n_tuple (da_p (de_slice rfl (dx_add rfl (de_slice rfl (de_var (i := 5) rfl (by first | exact .inl rfl | exact .inr (.inl rfl) | exact .inr (.inr rfl))) (dp_some (de_var (i := 7) rfl (by first | exact .inl rfl | exact .inr (.inl rfl) | exact .inr (.inr rfl)))) dp_none) (de_slice rfl (de_var (i := 5) rfl (by first | exact .inl rfl | exact .inr (.inl rfl) | exact .inr (.inr rfl))) dp_none (dp_some (de_var (i := 7) rfl (by first | exact .inl rfl | exact .inr (.inl rfl) | exact .inr (.inr rfl)))))) dp_none (dp_some (de_var (i := 2) rfl (by first | exact .inl rfl | exact .inr (.inl rfl) | exact .inr (.inr rfl))))) da_nil)) da_nil))))))))))))
theorem g__law_loads {P : Program} {w : World} {K : PySem.W.Frag} {mg : Str → Option Value} {base : Heap} (T : Top K mg) : ∃ fd, FunD K "_law_loads" "_law_loads" (defArgs s__law_loads) (defBody s__law_loads) (defScope s__law_loads) [] [] (He.ga K "_law_loads") fd ∧ FnG P w K mg base 1 (He.ga K "_law_loads") fd ["home"] f__law_loads := by
  obtain ⟨fd, F⟩ := T.d__law_loads
  refine ⟨fd, F, fn_D (k := 0) F sc__law_loads rfl rfl fun cdv A outer s0 H E C hC hgd hr => ?_⟩
  subst hC
  unfold b__law_loads
  exact (db_cons (ds_set (i := 1) sc__law_loads.nd rfl (by first | exact .inl rfl | exact .inr rfl) (de_mulN (de_lst (da_e de_int da_nil)) (de_ixG rfl hr (de_var (i := 0) rfl (by first | exact .inl rfl | exact .inr (.inl rfl) | exact .inr (.inr rfl))) de_int (by intro _ _; rfl))))
    (db_cons (ds_for (passes_of rfl) rfl (di_dat rfl (de_ixG rfl hr (de_var (i := 0) rfl (by first | exact .inl rfl | exact .inr (.inl rfl) | exact .inr (.inr rfl))) de_int (by intro _ _; rfl))) (dg_tup rfl rfl (dgs_cons (dg_name (i := 2) sc__law_loads.nd rfl (by first | exact .inl rfl | exact .inr rfl)) (dgs_cons (dg_name (i := 3) sc__law_loads.nd rfl (by first | exact .inl rfl | exact .inr rfl)) dgs_nil)))
    (db_one (ds_for (passes_of rfl) rfl (di_range1 rfl T.n_range (da_p (de_var (i := 3) rfl (by first | exact .inl rfl | exact .inr (.inl rfl) | exact .inr (.inr rfl))) da_nil)) (dg_name (i := 4) sc__law_loads.nd rfl (by first | exact .inl rfl | exact .inr rfl))
    (db_cons (ds_set (i := 5) sc__law_loads.nd rfl (by first | exact .inl rfl | exact .inr rfl) (dx_mod (dx_add rfl (de_var (i := 2) rfl (by first | exact .inl rfl | exact .inr (.inl rfl) | exact .inr (.inr rfl))) (de_var (i := 4) rfl (by first | exact .inl rfl | exact .inr (.inl rfl) | exact .inr (.inr rfl)))) (de_ixG rfl hr (de_var (i := 0) rfl (by first | exact .inl rfl | exact .inr (.inl rfl) | exact .inr (.inr rfl))) de_int (by intro _ _; rfl))))
    (db_one (ds_setI hr (dx_add rfl (de_ixG rfl hr (de_var (i := 1) rfl (by first | exact .inl rfl | exact .inr (.inl rfl) | exact .inr (.inr rfl))) (de_var (i := 5) rfl (by first | exact .inl rfl | exact .inr (.inl rfl) | exact .inr (.inr rfl))) (by intro _ _; rfl)) de_int) (de_var (i := 1) rfl (by first | exact .inl rfl | exact .inr (.inl rfl) | exact .inr (.inr rfl))) (de_var (i := 5) rfl (by first | exact .inl rfl | exact .inr (.inl rfl) | exact .inr (.inr rfl)))))))))
    (db_one (ds_ret (de_var (i := 1) rfl (by first | exact .inl rfl | exact .inr (.inl rfl) | exact .inr (.inr rfl)))))))
theorem g__law_there {P : Program} {w : World} {K : PySem.W.Frag} {mg : Str → Option Value} {base : Heap} (T : Top K mg) : ∃ fd, FunD K "_law_there" "_law_there" (defArgs s__law_there) (defBody s__law_there) (defScope s__law_there) [] [] (He.ga K "_law_there") fd ∧ FnG P w K mg base 1 (He.ga K "_law_there") fd ["home", "at", "spare", "left"] f__law_there := by
  obtain ⟨fd, F⟩ := T.d__law_there
  refine ⟨fd, F, fn_D (k := 0) F sc__law_there rfl rfl fun cdv A outer s0 H E C hC hgd hr => ?_⟩
  subst hC
  unfold b__law_there
  exact (db_one (ds_ret (dx_add rfl (de_mulN (de_lst (da_e de_non da_nil)) (dx_int rfl T.n_int (da_p (dx_gt (de_ixG rfl hr (de_var (i := 2) rfl (by first | exact .inl rfl | exact .inr (.inl rfl) | exact .inr (.inr rfl))) (de_var (i := 1) rfl (by first | exact .inl rfl | exact .inr (.inl rfl) | exact .inr (.inr rfl))) (by intro _ _; rfl)) de_int) da_nil))) (de_lc (own := [("k", 4)]) rfl sc__law_there.nd (di_dat rfl (de_var (i := 3) rfl (by first | exact .inl rfl | exact .inr (.inl rfl) | exact .inr (.inr rfl)))) (blk_of rfl)
      (fun s H c cl fp => (dgw_name (i := 4) (by decide) sc__law_there.nd rfl (by first | exact .inl rfl | exact .inr rfl))) (fun s H c cl fp => (dts_one (dy_eq rfl hr (de_ixG rfl hr (de_ixG rfl hr (de_ixG rfl hr (de_var (i := 0) rfl (by first | exact .inl rfl | exact .inr (.inl rfl) | exact .inr (.inr rfl))) de_int (by intro _ _; rfl)) (de_var (i := 4) rfl (by first | exact .inl rfl | exact .inr (.inl rfl) | exact .inr (.inr rfl))) (by intro _ _; rfl)) de_int (by intro _ _; rfl)) (de_var (i := 1) rfl (by first | exact .inl rfl | exact .inr (.inl rfl) | exact .inr (.inr rfl)))))) (fun s H c cl fp => (de_var (i := 4) rfl (by first | exact .inl rfl | exact .inr (.inl rfl) | exact .inr (.inr rfl))))))))
theorem g__law_behind {P : Program} {w : World} {K : PySem.W.Frag} {mg : Str → Option Value} {base : Heap} (T : Top K mg) : ∃ fd, FunD K "_law_behind" "_law_behind" (defArgs s__law_behind) (defBody s__law_behind) (defScope s__law_behind) [] [] (He.ga K "_law_behind") fd ∧ FnG P w K mg base 1 (He.ga K "_law_behind") fd ["home", "at", "spare", "left", "move"] f__law_behind := by
  obtain ⟨fd, F⟩ := T.d__law_behind
  refine ⟨fd, F, fn_D (k := 0) F sc__law_behind rfl rfl fun cdv A outer s0 H E C hC hgd hr => ?_⟩
  subst hC
  unfold b__law_behind
  exact (db_cons (ds_if (dy_is (de_var (i := 4) rfl (by first | exact .inl rfl | exact .inr (.inl rfl) | exact .inr (.inr rfl))) de_non)
    (db_cons (ds_set (i := 5) sc__law_behind.nd rfl (by first | exact .inl rfl | exact .inr rfl) (dx_add rfl (dx_add rfl (de_slice rfl (de_var (i := 2) rfl (by first | exact .inl rfl | exact .inr (.inl rfl) | exact .inr (.inr rfl))) dp_none (dp_some (de_var (i := 1) rfl (by first | exact .inl rfl | exact .inr (.inl rfl) | exact .inr (.inr rfl))))) (de_tup (da_e (dx_sub (de_ixG rfl hr (de_var (i := 2) rfl (by first | exact .inl rfl | exact .inr (.inl rfl) | exact .inr (.inr rfl))) (de_var (i := 1) rfl (by first | exact .inl rfl | exact .inr (.inl rfl) | exact .inr (.inr rfl))) (by intro _ _; rfl)) de_int) da_nil))) (de_slice rfl (de_var (i := 2) rfl (by first | exact .inl rfl | exact .inr (.inl rfl) | exact .inr (.inr rfl))) (dp_some (dx_add rfl (de_var (i := 1) rfl (by first | exact .inl rfl | exact .inr (.inl rfl) | exact .inr (.inr rfl))) de_int)) dp_none)))
    (db_one (ds_ret (de_tup (da_e (dx_mod (dx_add rfl (de_var (i := 1) rfl (by first | exact .inl rfl | exact .inr (.inl rfl) | exact .inr (.inr rfl))) de_int) (de_ixG rfl hr (de_var (i := 0) rfl (by first | exact .inl rfl | exact .inr (.inl rfl) | exact .inr (.inr rfl))) de_int (by intro _ _; rfl))) (da_e (de_var (i := 5) rfl (by first | exact .inl rfl | exact .inr (.inl rfl) | exact .inr (.inr rfl))) (da_e (de_var (i := 3) rfl (by first | exact .inl rfl | exact .inr (.inl rfl) | exact .inr (.inr rfl))) da_nil)))))))
    db_nil)
    (db_cons (ds_set (i := 6) sc__law_behind.nd rfl (by first | exact .inl rfl | exact .inr rfl) (dx_tuple rfl rfl T.n_tuple (da_p (de_lc (own := [("k", 7)]) rfl sc__law_behind.nd (di_dat rfl (de_var (i := 3) rfl (by first | exact .inl rfl | exact .inr (.inl rfl) | exact .inr (.inr rfl)))) (blk_of rfl)
      (fun s H c cl fp => (dgw_name (i := 7) (by decide) sc__law_behind.nd rfl (by first | exact .inl rfl | exact .inr rfl))) (fun s H c cl fp => (dts_one (dy_ne rfl hr (de_var (i := 7) rfl (by first | exact .inl rfl | exact .inr (.inl rfl) | exact .inr (.inr rfl))) (de_var (i := 4) rfl (by first | exact .inl rfl | exact .inr (.inl rfl) | exact .inr (.inr rfl)))))) (fun s H c cl fp => (de_var (i := 7) rfl (by first | exact .inl rfl | exact .inr (.inl rfl) | exact .inr (.inr rfl))))) da_nil)))
    (db_one (ds_ret (de_tup (da_e (dx_mod (dx_sumB rfl rfl rfl T.n_sum (da_p (de_ixG rfl hr (de_ixG rfl hr (de_var (i := 0) rfl (by first | exact .inl rfl | exact .inr (.inl rfl) | exact .inr (.inr rfl))) de_int (by intro _ _; rfl)) (de_var (i := 4) rfl (by first | exact .inl rfl | exact .inr (.inl rfl) | exact .inr (.inr rfl))) (by intro _ _; rfl)) da_nil)) (de_ixG rfl hr (de_var (i := 0) rfl (by first | exact .inl rfl | exact .inr (.inl rfl) | exact .inr (.inr rfl))) de_int (by intro _ _; rfl))) (da_e (de_var (i := 2) rfl (by first | exact .inl rfl | exact .inr (.inl rfl) | exact .inr (.inr rfl))) (da_e (de_var (i := 6) rfl (by first | exact .inl rfl | exact .inr (.inl rfl) | exact .inr (.inr rfl))) da_nil))))))))
theorem g__law_hangs {P : Program} {w : World} {K : PySem.W.Frag} {mg : Str → Option Value} {base : Heap} (T : Top K mg) : ∃ fd, FunD K "_law_hangs" "_law_hangs" (defArgs s__law_hangs) (defBody s__law_hangs) (defScope s__law_hangs) [] [] (He.ga K "_law_hangs") fd ∧ FnG P w K mg base 1 (He.ga K "_law_hangs") fd ["home", "spare", "left"] f__law_hangs := by
  obtain ⟨fd, F⟩ := T.d__law_hangs
  refine ⟨fd, F, fn_D (k := 0) F sc__law_hangs rfl rfl fun cdv A outer s0 H E C hC hgd hr => ?_⟩
  subst hC
  unfold b__law_hangs
  exact (db_cons (ds_par3c (i := 3) (j := 4) (l := 5) rfl sc__law_hangs.nd rfl rfl rfl (by first | exact .inl rfl | exact .inr rfl) (by first | exact .inl rfl | exact .inr rfl) (by first | exact .inl rfl | exact .inr rfl) (de_ixG rfl hr (de_var (i := 0) rfl (by first | exact .inl rfl | exact .inr (.inl rfl) | exact .inr (.inr rfl))) de_int (by intro _ _; rfl)) (de_lst (da_e (de_ixG rfl hr (de_var (i := 0) rfl (by first | exact .inl rfl | exact .inr (.inl rfl) | exact .inr (.inr rfl))) de_int (by intro _ _; rfl)) da_nil)) de_int)
    (db_cons (ds_setLc (i := 6) (own := [("cell", 9)]) rfl sc__law_hangs.nd rfl rfl (sw_true rfl rfl rfl rfl) (di_range1 rfl T.n_range (da_p (de_var (i := 3) rfl (by first | exact .inl rfl | exact .inr (.inl rfl) | exact .inr (.inr rfl))) da_nil)) (blk_of rfl)
      (fun s H c cl fp => (dgw_name (i := 9) (by decide) sc__law_hangs.nd rfl (by first | exact .inl rfl | exact .inr rfl))) (fun s H c cl fp => (dts_one (dy_gt (de_ixG rfl hr (de_var (i := 1) rfl (by first | exact .inl rfl | exact .inr (.inl rfl) | exact .inr (.inr rfl))) (de_var (i := 9) rfl (by first | exact .inl rfl | exact .inr (.inl rfl) | exact .inr (.inr rfl))) (by intro _ _; rfl)) de_int))) (fun s H c cl fp => (de_tup (da_e (de_var (i := 9) rfl (by first | exact .inl rfl | exact .inr (.inl rfl) | exact .inr (.inr rfl))) (da_e (dx_mod (dx_add rfl (de_var (i := 9) rfl (by first | exact .inl rfl | exact .inr (.inl rfl) | exact .inr (.inr rfl))) de_int) (de_var (i := 3) rfl (by first | exact .inl rfl | exact .inr (.inl rfl) | exact .inr (.inr rfl)))) da_nil)))))
    (db_cons (ds_set (i := 6) sc__law_hangs.nd rfl (by first | exact .inl rfl | exact .inr rfl) (dx_add rfl (de_var (i := 6) rfl (by first | exact .inl rfl | exact .inr (.inl rfl) | exact .inr (.inr rfl))) (de_lc (own := [("k", 10)]) rfl sc__law_hangs.nd (di_dat rfl (de_var (i := 2) rfl (by first | exact .inl rfl | exact .inr (.inl rfl) | exact .inr (.inr rfl)))) (blk_of rfl)
      (fun s H c cl fp => (dgw_name (i := 10) (by decide) sc__law_hangs.nd rfl (by first | exact .inl rfl | exact .inr rfl))) (fun s H c cl fp => dts_nil) (fun s H c cl fp => (de_tup (da_e (de_ixG rfl hr (de_ixG rfl hr (de_ixG rfl hr (de_var (i := 0) rfl (by first | exact .inl rfl | exact .inr (.inl rfl) | exact .inr (.inr rfl))) de_int (by intro _ _; rfl)) (de_var (i := 10) rfl (by first | exact .inl rfl | exact .inr (.inl rfl) | exact .inr (.inr rfl))) (by intro _ _; rfl)) de_int (by intro _ _; rfl)) (da_e (dx_mod (dx_sumB rfl rfl rfl T.n_sum (da_p (de_ixG rfl hr (de_ixG rfl hr (de_var (i := 0) rfl (by first | exact .inl rfl | exact .inr (.inl rfl) | exact .inr (.inr rfl))) de_int (by intro _ _; rfl)) (de_var (i := 10) rfl (by first | exact .inl rfl | exact .inr (.inl rfl) | exact .inr (.inr rfl))) (by intro _ _; rfl)) da_nil)) (de_var (i := 3) rfl (by first | exact .inl rfl | exact .inr (.inl rfl) | exact .inr (.inr rfl)))) da_nil)))))))
    (db_cons (ds_while (passes_of rfl) (dy_gt (dx_len rfl rfl T.n_len (da_p (de_var (i := 4) rfl (by first | exact .inl rfl | exact .inr (.inl rfl) | exact .inr (.inr rfl))) da_nil)) (de_var (i := 5) rfl (by first | exact .inl rfl | exact .inr (.inl rfl) | exact .inr (.inr rfl))))
    (db_cons (ds_set (i := 5) sc__law_hangs.nd rfl (by first | exact .inl rfl | exact .inr rfl) (dx_len rfl rfl T.n_len (da_p (de_var (i := 4) rfl (by first | exact .inl rfl | exact .inr (.inl rfl) | exact .inr (.inr rfl))) da_nil)))
    (db_one (ds_for (passes_of rfl) rfl (di_dat rfl (de_var (i := 6) rfl (by first | exact .inl rfl | exact .inr (.inl rfl) | exact .inr (.inr rfl)))) (dg_tup rfl rfl (dgs_cons (dg_name (i := 7) sc__law_hangs.nd rfl (by first | exact .inl rfl | exact .inr rfl)) (dgs_cons (dg_name (i := 8) sc__law_hangs.nd rfl (by first | exact .inl rfl | exact .inr rfl)) dgs_nil)))
    (db_one (ds_if (dy_ne rfl hr (dx_in rfl hr (de_var (i := 7) rfl (by first | exact .inl rfl | exact .inr (.inl rfl) | exact .inr (.inr rfl))) (de_var (i := 4) rfl (by first | exact .inl rfl | exact .inr (.inl rfl) | exact .inr (.inr rfl)))) (dx_in rfl hr (de_var (i := 8) rfl (by first | exact .inl rfl | exact .inr (.inl rfl) | exact .inr (.inr rfl))) (de_var (i := 4) rfl (by first | exact .inl rfl | exact .inr (.inl rfl) | exact .inr (.inr rfl)))))
    (db_one (ds_set (i := 4) sc__law_hangs.nd rfl (by first | exact .inl rfl | exact .inr rfl) (dx_add rfl (de_var (i := 4) rfl (by first | exact .inl rfl | exact .inr (.inl rfl) | exact .inr (.inr rfl))) (de_lst (da_e (de_var (i := 7) rfl (by first | exact .inl rfl | exact .inr (.inl rfl) | exact .inr (.inr rfl))) (da_e (de_var (i := 8) rfl (by first | exact .inl rfl | exact .inr (.inl rfl) | exact .inr (.inr rfl))) da_nil))))))
    db_nil))))))
    (db_one (ds_ret (dx_allB rfl rfl rfl T.n_all (da_p (de_lc (own := [("one", 7), ("other", 8)]) rfl sc__law_hangs.nd (di_dat rfl (de_var (i := 6) rfl (by first | exact .inl rfl | exact .inr (.inl rfl) | exact .inr (.inr rfl)))) (blk_of rfl)
      (fun s H c cl fp => (dgw_tup rfl rfl (dgsw_cons (dgw_name (i := 7) (by decide) sc__law_hangs.nd rfl (by first | exact .inl rfl | exact .inr rfl)) (dgsw_cons (dgw_name (i := 8) (by decide) sc__law_hangs.nd rfl (by first | exact .inl rfl | exact .inr rfl)) dgsw_nil)))) (fun s H c cl fp => dts_nil) (fun s H c cl fp => (dx_in rfl hr (de_var (i := 7) rfl (by first | exact .inl rfl | exact .inr (.inl rfl) | exact .inr (.inr rfl))) (de_var (i := 4) rfl (by first | exact .inl rfl | exact .inr (.inl rfl) | exact .inr (.inr rfl)))))) da_nil))))))))
theorem g__law_ride {P : Program} {w : World} {K : PySem.W.Frag} {mg : Str → Option Value} {base : Heap} (T : Top K mg) : ∃ fd, FunD K "_law_ride" "_law_ride" (defArgs s__law_ride) (defBody s__law_ride) (defScope s__law_ride) [] [] (He.ga K "_law_ride") fd ∧ FnG P w K mg base 3 (He.ga K "_law_ride") fd ["draw", "home", "often"] f__law_ride := by
  obtain ⟨fd, F⟩ := T.d__law_ride
  obtain ⟨fd__law_loads, F__law_loads, G__law_loads⟩ := g__law_loads (P := P) (w := w) (base := base) T
  obtain ⟨fd__law_there, F__law_there, G__law_there⟩ := g__law_there (P := P) (w := w) (base := base) T
  obtain ⟨fd__law_next, F__law_next, G__law_next⟩ := g__law_next (P := P) (w := w) (base := base) T
  obtain ⟨fd__law_behind, F__law_behind, G__law_behind⟩ := g__law_behind (P := P) (w := w) (base := base) T
  obtain ⟨fd__law_hangs, F__law_hangs, G__law_hangs⟩ := g__law_hangs (P := P) (w := w) (base := base) T
  have kb0 : KB K fd__law_loads ["home"] [] 1 (pick [0]) [] [] := kb_all F__law_loads (pick_ok _) fun kV doc pm an cdv ct us ws h1 h2 => match us, ws, h1, h2 with | [_], [], _, _ => rfl
  have kb1 : KB K fd__law_there ["home", "at", "spare", "left"] [] 4 (pick [0, 1, 2, 3]) [] [] := kb_all F__law_there (pick_ok _) fun kV doc pm an cdv ct us ws h1 h2 => match us, ws, h1, h2 with | [_, _, _, _], [], _, _ => rfl
  have kb2 : KB K fd__law_next ["draw", "many"] [] 2 (pick [0, 1]) [] [] := kb_all F__law_next (pick_ok _) fun kV doc pm an cdv ct us ws h1 h2 => match us, ws, h1, h2 with | [_, _], [], _, _ => rfl
  have kb3 : KB K fd__law_behind ["home", "at", "spare", "left", "move"] [] 5 (pick [0, 1, 2, 3, 4]) [] [] := kb_all F__law_behind (pick_ok _) fun kV doc pm an cdv ct us ws h1 h2 => match us, ws, h1, h2 with | [_, _, _, _, _], [], _, _ => rfl
  have kb4 : KB K fd__law_hangs ["home", "spare", "left"] [] 3 (pick [0, 1, 2]) [] [] := kb_all F__law_hangs (pick_ok _) fun kV doc pm an cdv ct us ws h1 h2 => match us, ws, h1, h2 with | [_, _, _], [], _, _ => rfl
  have kb5 : KB K fd__law_behind ["home", "at", "spare", "left", "move"] [] 5 (pick [0, 1, 2, 3, 4]) [] [] := kb_all F__law_behind (pick_ok _) fun kV doc pm an cdv ct us ws h1 h2 => match us, ws, h1, h2 with | [_, _, _, _, _], [], _, _ => rfl
  have kb6 : KB K fd__law_there ["home", "at", "spare", "left"] [] 4 (pick [0, 1, 2, 3]) [] [] := kb_all F__law_there (pick_ok _) fun kV doc pm an cdv ct us ws h1 h2 => match us, ws, h1, h2 with | [_, _, _, _], [], _, _ => rfl
  refine ⟨fd, F, fn_D (k := 2) F sc__law_ride rfl rfl fun cdv A outer s0 H E C hC hgd hr => ?_⟩
  subst hC
  unfold b__law_ride
  exact (db_cons (ds_par3 (i := 3) (j := 4) (l := 5) rfl sc__law_ride.nd rfl rfl rfl (by decide) (by decide) (by decide) rfl rfl rfl (de_ixG rfl hr (de_var (i := 1) rfl (by first | exact .inl rfl | exact .inr (.inl rfl) | exact .inr (.inr rfl))) de_int (by intro _ _; rfl)) (dx_tupRg rfl rfl T.n_tuple rfl T.n_range (dx_len rfl rfl T.n_len (da_p (de_ixG rfl hr (de_var (i := 1) rfl (by first | exact .inl rfl | exact .inr (.inl rfl) | exact .inr (.inr rfl))) de_int (by intro _ _; rfl)) da_nil))) (de_lst da_nil))
    (db_cons (ds_set (i := 6) sc__law_ride.nd rfl (by first | exact .inl rfl | exact .inr rfl) (dx_tuple rfl rfl T.n_tuple (da_p (de_lc (own := [("load", 10)]) rfl sc__law_ride.nd (di_dat rfl (de_call rfl (G__law_loads.mono (by decide)) hgd hr (takes_of rfl rfl rfl rfl) rfl T.m__law_loads F__law_loads.kp kb0 (da_e (de_var (i := 1) rfl (by first | exact .inl rfl | exact .inr (.inl rfl) | exact .inr (.inr rfl))) da_nil))) (blk_of rfl)
      (fun s H c cl fp => (dgw_name (i := 10) (by decide) sc__law_ride.nd rfl (by first | exact .inl rfl | exact .inr rfl))) (fun s H c cl fp => dts_nil) (fun s H c cl fp => (dx_sub (de_var (i := 2) rfl (by first | exact .inl rfl | exact .inr (.inl rfl) | exact .inr (.inr rfl))) (de_var (i := 10) rfl (by first | exact .inl rfl | exact .inr (.inl rfl) | exact .inr (.inr rfl)))))) da_nil)))
    (db_cons (ds_set (i := 7) sc__law_ride.nd rfl (by first | exact .inl rfl | exact .inr rfl) (de_call rfl (G__law_there.mono (by decide)) hgd hr (takes_of rfl rfl rfl rfl) rfl T.m__law_there F__law_there.kp kb1 (da_e (de_var (i := 1) rfl (by first | exact .inl rfl | exact .inr (.inl rfl) | exact .inr (.inr rfl))) (da_e (de_var (i := 3) rfl (by first | exact .inl rfl | exact .inr (.inl rfl) | exact .inr (.inr rfl))) (da_e (de_var (i := 6) rfl (by first | exact .inl rfl | exact .inr (.inl rfl) | exact .inr (.inr rfl))) (da_e (de_var (i := 4) rfl (by first | exact .inl rfl | exact .inr (.inl rfl) | exact .inr (.inr rfl))) da_nil))))))
    (db_cons (ds_while (passes_of rfl) (dy_ne rfl hr (de_var (i := 7) rfl (by first | exact .inl rfl | exact .inr (.inl rfl) | exact .inr (.inr rfl))) (de_lst da_nil))
    (db_cons (ds_set (i := 8) sc__law_ride.nd rfl (by first | exact .inl rfl | exact .inr rfl) (de_call rfl (G__law_next.mono (by decide)) hgd hr (takes_of rfl rfl rfl rfl) rfl T.m__law_next F__law_next.kp kb2 (da_p (de_var (i := 0) rfl (by first | exact .inl rfl | exact .inr (.inl rfl) | exact .inr (.inr rfl))) (da_e (dx_len rfl rfl T.n_len (da_p (de_var (i := 7) rfl (by first | exact .inl rfl | exact .inr (.inl rfl) | exact .inr (.inr rfl))) da_nil)) da_nil))))
    (db_cons (ds_set (i := 9) sc__law_ride.nd rfl (by first | exact .inl rfl | exact .inr rfl) (de_call rfl (G__law_behind.mono (by decide)) hgd hr (takes_of rfl rfl rfl rfl) rfl T.m__law_behind F__law_behind.kp kb3 (da_e (de_var (i := 1) rfl (by first | exact .inl rfl | exact .inr (.inl rfl) | exact .inr (.inr rfl))) (da_e (de_var (i := 3) rfl (by first | exact .inl rfl | exact .inr (.inl rfl) | exact .inr (.inr rfl))) (da_e (de_var (i := 6) rfl (by first | exact .inl rfl | exact .inr (.inl rfl) | exact .inr (.inr rfl))) (da_e (de_var (i := 4) rfl (by first | exact .inl rfl | exact .inr (.inl rfl) | exact .inr (.inr rfl))) (da_e (de_ixG rfl hr (de_var (i := 7) rfl (by first | exact .inl rfl | exact .inr (.inl rfl) | exact .inr (.inr rfl))) (de_var (i := 8) rfl (by first | exact .inl rfl | exact .inr (.inl rfl) | exact .inr (.inr rfl))) (by intro _ _; rfl)) da_nil)))))))
    (db_cons (ds_if (DW.dt (dw_and (dy_gt (dx_len rfl rfl T.n_len (da_p (de_var (i := 7) rfl (by first | exact .inl rfl | exact .inr (.inl rfl) | exact .inr (.inr rfl))) da_nil)) de_int) (dw_and1 (dt_not (dt_val (de_call rfl (G__law_hangs.mono (by decide)) hgd hr (takes_of rfl rfl rfl rfl) rfl T.m__law_hangs F__law_hangs.kp kb4 (da_e (de_var (i := 1) rfl (by first | exact .inl rfl | exact .inr (.inl rfl) | exact .inr (.inr rfl))) (da_e (de_ixG rfl hr (de_var (i := 9) rfl (by first | exact .inl rfl | exact .inr (.inl rfl) | exact .inr (.inr rfl))) de_int (by intro _ _; rfl)) (da_e (de_ixG rfl hr (de_var (i := 9) rfl (by first | exact .inl rfl | exact .inr (.inl rfl) | exact .inr (.inr rfl))) de_int (by intro _ _; rfl)) da_nil)))))))))
    (db_cons (ds_set (i := 8) sc__law_ride.nd rfl (by first | exact .inl rfl | exact .inr rfl) (dx_sub (de_var (i := 8) rfl (by first | exact .inl rfl | exact .inr (.inl rfl) | exact .inr (.inr rfl))) de_int))
    (db_one (ds_set (i := 9) sc__law_ride.nd rfl (by first | exact .inl rfl | exact .inr rfl) (de_call rfl (G__law_behind.mono (by decide)) hgd hr (takes_of rfl rfl rfl rfl) rfl T.m__law_behind F__law_behind.kp kb5 (da_e (de_var (i := 1) rfl (by first | exact .inl rfl | exact .inr (.inl rfl) | exact .inr (.inr rfl))) (da_e (de_var (i := 3) rfl (by first | exact .inl rfl | exact .inr (.inl rfl) | exact .inr (.inr rfl))) (da_e (de_var (i := 6) rfl (by first | exact .inl rfl | exact .inr (.inl rfl) | exact .inr (.inr rfl))) (da_e (de_var (i := 4) rfl (by first | exact .inl rfl | exact .inr (.inl rfl) | exact .inr (.inr rfl))) (da_e (de_ixG rfl hr (de_var (i := 7) rfl (by first | exact .inl rfl | exact .inr (.inl rfl) | exact .inr (.inr rfl))) (de_var (i := 8) rfl (by first | exact .inl rfl | exact .inr (.inl rfl) | exact .inr (.inr rfl))) (by intro _ _; rfl)) da_nil)))))))))
    db_nil)
    (db_cons (ds_expr (de_met rfl PySem.F.slot_list_append PySem.F.type_list_append mt_append md_append (de_var (i := 5) rfl (by first | exact .inl rfl | exact .inr (.inl rfl) | exact .inr (.inr rfl))) (da_e (de_ixG rfl hr (de_var (i := 7) rfl (by first | exact .inl rfl | exact .inr (.inl rfl) | exact .inr (.inr rfl))) (de_var (i := 8) rfl (by first | exact .inl rfl | exact .inr (.inl rfl) | exact .inr (.inr rfl))) (by intro _ _; rfl)) da_nil)))
    (db_cons (ds_asg (de_var (i := 9) rfl (by first | exact .inl rfl | exact .inr (.inl rfl) | exact .inr (.inr rfl))) (dg_tup rfl rfl (dgs_cons (dg_name (i := 3) sc__law_ride.nd rfl (by first | exact .inl rfl | exact .inr rfl)) (dgs_cons (dg_name (i := 6) sc__law_ride.nd rfl (by first | exact .inl rfl | exact .inr rfl)) (dgs_cons (dg_name (i := 4) sc__law_ride.nd rfl (by first | exact .inl rfl | exact .inr rfl)) dgs_nil)))))
    (db_one (ds_set (i := 7) sc__law_ride.nd rfl (by first | exact .inl rfl | exact .inr rfl) (de_call rfl (G__law_there.mono (by decide)) hgd hr (takes_of rfl rfl rfl rfl) rfl T.m__law_there F__law_there.kp kb6 (da_e (de_var (i := 1) rfl (by first | exact .inl rfl | exact .inr (.inl rfl) | exact .inr (.inr rfl))) (da_e (de_var (i := 3) rfl (by first | exact .inl rfl | exact .inr (.inl rfl) | exact .inr (.inr rfl))) (da_e (de_var (i := 6) rfl (by first | exact .inl rfl | exact .inr (.inl rfl) | exact .inr (.inr rfl))) (da_e (de_var (i := 4) rfl (by first | exact .inl rfl | exact .inr (.inl rfl) | exact .inr (.inr rfl))) da_nil)))))))))))))
    (db_one (ds_ret (de_if (DW.dt (dw_and (dy_eq rfl hr (de_var (i := 4) rfl (by first | exact .inl rfl | exact .inr (.inl rfl) | exact .inr (.inr rfl))) (de_tup da_nil)) (dw_and (dy_eq rfl hr (dx_sumB rfl rfl rfl T.n_sum (da_p (de_var (i := 6) rfl (by first | exact .inl rfl | exact .inr (.inl rfl) | exact .inr (.inr rfl))) da_nil)) de_int) (dw_and1 (dy_eq rfl hr (de_var (i := 3) rfl (by first | exact .inl rfl | exact .inr (.inl rfl) | exact .inr (.inr rfl))) (de_ixG rfl hr (de_var (i := 1) rfl (by first | exact .inl rfl | exact .inr (.inl rfl) | exact .inr (.inr rfl))) de_int (by intro _ _; rfl))))))) (dx_tuple rfl rfl T.n_tuple (da_p (de_var (i := 5) rfl (by first | exact .inl rfl | exact .inr (.inl rfl) | exact .inr (.inr rfl))) da_nil)) de_non)))))))
theorem g__law_waits {P : Program} {w : World} {K : PySem.W.Frag} {mg : Str → Option Value} {base : Heap} (T : Top K mg) : ∃ fd, FunD K "_law_waits" "_law_waits" (defArgs s__law_waits) (defBody s__law_waits) (defScope s__law_waits) [] [] (He.ga K "_law_waits") fd ∧ FnG P w K mg base 1 (He.ga K "_law_waits") fd ["home", "taken", "at", "move"] f__law_waits := by
  obtain ⟨fd, F⟩ := T.d__law_waits
  refine ⟨fd, F, fn_D (k := 0) F sc__law_waits rfl rfl fun cdv A outer s0 H E C hC hgd hr => ?_⟩
  subst hC
  unfold b__law_waits
  exact (db_cons (ds_if (DW.dt (dw_or (dt_not (dt_val (de_isi rfl rfl T.n_isinstance rfl T.n_int b_int (de_var (i := 3) rfl (by first | exact .inl rfl | exact .inr (.inl rfl) | exact .inr (.inr rfl)))))) (dw_or (dt_val (de_isi rfl rfl T.n_isinstance rfl T.n_bool b_bool (de_var (i := 3) rfl (by first | exact .inl rfl | exact .inr (.inl rfl) | exact .inr (.inr rfl))))) (dw_or1 (dt_not (dt_chain op_le op_lt opb_i od_lt de_int (de_var (i := 3) rfl (by first | exact .inl rfl | exact .inr (.inl rfl) | exact .inr (.inr rfl))) (dx_len rfl rfl T.n_len (da_p (de_ixG rfl hr (de_var (i := 0) rfl (by first | exact .inl rfl | exact .inr (.inl rfl) | exact .inr (.inr rfl))) de_int (by intro _ _; rfl)) da_nil))))))))
    (db_one (ds_ret de_bl))
    db_nil)
    (db_one (ds_ret (de_and (dx_nin rfl hr (de_var (i := 3) rfl (by first | exact .inl rfl | exact .inr (.inl rfl) | exact .inr (.inr rfl))) (de_var (i := 1) rfl (by first | exact .inl rfl | exact .inr (.inl rfl) | exact .inr (.inr rfl)))) (de_one (dx_eq rfl hr (de_ixG rfl hr (de_ixG rfl hr (de_ixG rfl hr (de_var (i := 0) rfl (by first | exact .inl rfl | exact .inr (.inl rfl) | exact .inr (.inr rfl))) de_int (by intro _ _; rfl)) (de_var (i := 3) rfl (by first | exact .inl rfl | exact .inr (.inl rfl) | exact .inr (.inr rfl))) (by intro _ _; rfl)) de_int (by intro _ _; rfl)) (de_var (i := 2) rfl (by first | exact .inl rfl | exact .inr (.inl rfl) | exact .inr (.inr rfl)))))))))
theorem g__law_gone {P : Program} {w : World} {K : PySem.W.Frag} {mg : Str → Option Value} {base : Heap} (T : Top K mg) : ∃ fd, FunD K "_law_gone" "_law_gone" (defArgs s__law_gone) (defBody s__law_gone) (defScope s__law_gone) [] [] (He.ga K "_law_gone") fd ∧ FnG P w K mg base 2 (He.ga K "_law_gone") fd ["home", "moves"] f__law_gone := by
  obtain ⟨fd, F⟩ := T.d__law_gone
  obtain ⟨fd__law_waits, F__law_waits, G__law_waits⟩ := g__law_waits (P := P) (w := w) (base := base) T
  have kb0 : KB K fd__law_waits ["home", "taken", "at", "move"] [] 4 (pick [0, 1, 2, 3]) [] [] := kb_all F__law_waits (pick_ok _) fun kV doc pm an cdv ct us ws h1 h2 => match us, ws, h1, h2 with | [_, _, _, _], [], _, _ => rfl
  refine ⟨fd, F, fn_D (k := 1) F sc__law_gone rfl rfl fun cdv A outer s0 H E C hC hgd hr => ?_⟩
  subst hC
  unfold b__law_gone
  exact (db_cons (ds_par3 (i := 2) (j := 3) (l := 4) rfl sc__law_gone.nd rfl rfl rfl (by decide) (by decide) (by decide) rfl rfl rfl (de_ixG rfl hr (de_var (i := 0) rfl (by first | exact .inl rfl | exact .inr (.inl rfl) | exact .inr (.inr rfl))) de_int (by intro _ _; rfl)) (de_ixG rfl hr (de_var (i := 0) rfl (by first | exact .inl rfl | exact .inr (.inl rfl) | exact .inr (.inr rfl))) de_int (by intro _ _; rfl)) de_int)
    (db_cons (ds_par2 (i := 5) (j := 6) rfl sc__law_gone.nd rfl rfl (by decide) rfl rfl (de_lst (da_e (de_var (i := 3) rfl (by first | exact .inl rfl | exact .inr (.inl rfl) | exact .inr (.inr rfl))) da_nil)) de_disp0)
    (db_cons (ds_for (passes_of rfl) rfl (di_enum rfl rfl T.n_enumerate (de_var (i := 1) rfl (by first | exact .inl rfl | exact .inr (.inl rfl) | exact .inr (.inr rfl)))) (dg_tup rfl rfl (dgs_cons (dg_name (i := 7) sc__law_gone.nd rfl (by first | exact .inl rfl | exact .inr rfl)) (dgs_cons (dg_name (i := 8) sc__law_gone.nd rfl (by first | exact .inl rfl | exact .inr rfl)) dgs_nil)))
    (db_cons (ds_if (DW.dt (dw_and (dy_isn (de_var (i := 8) rfl (by first | exact .inl rfl | exact .inr (.inl rfl) | exact .inr (.inr rfl))) de_non) (dw_and1 (dt_not (dt_val (de_call rfl (G__law_waits.mono (by decide)) hgd hr (takes_of rfl rfl rfl rfl) rfl T.m__law_waits F__law_waits.kp kb0 (da_e (de_var (i := 0) rfl (by first | exact .inl rfl | exact .inr (.inl rfl) | exact .inr (.inr rfl))) (da_p (de_var (i := 6) rfl (by first | exact .inl rfl | exact .inr (.inl rfl) | exact .inr (.inr rfl))) (da_e (de_var (i := 3) rfl (by first | exact .inl rfl | exact .inr (.inl rfl) | exact .inr (.inr rfl))) (da_e (de_var (i := 8) rfl (by first | exact .inl rfl | exact .inr (.inl rfl) | exact .inr (.inr rfl))) da_nil))))))))))
    (db_one (ds_ret (de_tup (da_e (de_var (i := 5) rfl (by first | exact .inl rfl | exact .inr (.inl rfl) | exact .inr (.inr rfl))) (da_e (de_var (i := 6) rfl (by first | exact .inl rfl | exact .inr (.inl rfl) | exact .inr (.inr rfl))) (da_e (de_var (i := 4) rfl (by first | exact .inl rfl | exact .inr (.inl rfl) | exact .inr (.inr rfl))) (da_e (de_var (i := 7) rfl (by first | exact .inl rfl | exact .inr (.inl rfl) | exact .inr (.inr rfl))) da_nil)))))))
    db_nil)
    (db_cons (ds_set (i := 9) sc__law_gone.nd rfl (by first | exact .inl rfl | exact .inr rfl) de_int)
    (db_cons (ds_if (dy_isn (de_var (i := 8) rfl (by first | exact .inl rfl | exact .inr (.inl rfl) | exact .inr (.inr rfl))) de_non)
    (db_cons (ds_set (i := 9) sc__law_gone.nd rfl (by first | exact .inl rfl | exact .inr rfl) (de_ixG rfl hr (de_ixG rfl hr (de_ixG rfl hr (de_var (i := 0) rfl (by first | exact .inl rfl | exact .inr (.inl rfl) | exact .inr (.inr rfl))) de_int (by intro _ _; rfl)) (de_var (i := 8) rfl (by first | exact .inl rfl | exact .inr (.inl rfl) | exact .inr (.inr rfl))) (by intro _ _; rfl)) de_int (by intro _ _; rfl)))
    (db_one (ds_setI hr (de_var (i := 4) rfl (by first | exact .inl rfl | exact .inr (.inl rfl) | exact .inr (.inr rfl))) (de_var (i := 6) rfl (by first | exact .inl rfl | exact .inr (.inl rfl) | exact .inr (.inr rfl))) (de_var (i := 8) rfl (by first | exact .inl rfl | exact .inr (.inl rfl) | exact .inr (.inr rfl))))))
    db_nil)
    (db_cons (ds_par2 (i := 3) (j := 4) rfl sc__law_gone.nd rfl rfl (by decide) rfl rfl (dx_mod (dx_add rfl (de_var (i := 3) rfl (by first | exact .inl rfl | exact .inr (.inl rfl) | exact .inr (.inr rfl))) (de_var (i := 9) rfl (by first | exact .inl rfl | exact .inr (.inl rfl) | exact .inr (.inr rfl)))) (de_var (i := 2) rfl (by first | exact .inl rfl | exact .inr (.inl rfl) | exact .inr (.inr rfl)))) (dx_add rfl (de_var (i := 4) rfl (by first | exact .inl rfl | exact .inr (.inl rfl) | exact .inr (.inr rfl))) (de_var (i := 9) rfl (by first | exact .inl rfl | exact .inr (.inl rfl) | exact .inr (.inr rfl)))))
    (db_one (ds_expr (de_met rfl PySem.F.slot_list_append PySem.F.type_list_append mt_append md_append (de_var (i := 5) rfl (by first | exact .inl rfl | exact .inr (.inl rfl) | exact .inr (.inr rfl))) (da_e (de_var (i := 3) rfl (by first | exact .inl rfl | exact .inr (.inl rfl) | exact .inr (.inr rfl))) da_nil)))))))))
    (db_one (ds_ret (de_tup (da_e (de_var (i := 5) rfl (by first | exact .inl rfl | exact .inr (.inl rfl) | exact .inr (.inr rfl))) (da_e (de_var (i := 6) rfl (by first | exact .inl rfl | exact .inr (.inl rfl) | exact .inr (.inr rfl))) (da_e (de_var (i := 4) rfl (by first | exact .inl rfl | exact .inr (.inl rfl) | exact .inr (.inr rfl))) (da_e de_non da_nil))))))))))
theorem g__law_right {P : Program} {w : World} {K : PySem.W.Frag} {mg : Str → Option Value} {base : Heap} (T : Top K mg) : ∃ fd, FunD K "_law_right" "_law_right" (defArgs s__law_right) (defBody s__law_right) (defScope s__law_right) [] [] (He.ga K "_law_right") fd ∧ FnG P w K mg base 8 (He.ga K "_law_right") fd ["home", "went"] f__law_right := by
  obtain ⟨fd, F⟩ := T.d__law_right
  obtain ⟨fd__law_gone, F__law_gone, G__law_gone⟩ := g__law_gone (P := P) (w := w) (base := base) T
  obtain ⟨fd_order_of, F_order_of, G_order_of⟩ := g_order_of (P := P) (w := w) (base := base) T
  obtain ⟨fd_taken_at, F_taken_at, G_taken_at⟩ := g_taken_at (P := P) (w := w) (base := base) T
  obtain ⟨fd_halts, F_halts, G_halts⟩ := g_halts (P := P) (w := w) (base := base) T
  obtain ⟨fd_rounds_of, F_rounds_of, G_rounds_of⟩ := g_rounds_of (P := P) (w := w) (base := base) T
  have kb0 : KB K fd__law_gone ["home", "moves"] [] 2 (pick [0, 1]) [] [] := kb_all F__law_gone (pick_ok _) fun kV doc pm an cdv ct us ws h1 h2 => match us, ws, h1, h2 with | [_, _], [], _, _ => rfl
  have kb1 : KB K fd_order_of ["house", "ride"] [] 2 (pick [0, 1]) [] [] := kb_all F_order_of (pick_ok _) fun kV doc pm an cdv ct us ws h1 h2 => match us, ws, h1, h2 with | [_, _], [], _, _ => rfl
  have kb2 : KB K fd_taken_at ["house", "ride"] [] 2 (pick [0, 1]) [] [] := kb_all F_taken_at (pick_ok _) fun kV doc pm an cdv ct us ws h1 h2 => match us, ws, h1, h2 with | [_, _], [], _, _ => rfl
  have kb3 : KB K fd_halts ["house", "ride"] [] 2 (pick [0, 1]) [] [] := kb_all F_halts (pick_ok _) fun kV doc pm an cdv ct us ws h1 h2 => match us, ws, h1, h2 with | [_, _], [], _, _ => rfl
  have kb4 : KB K fd_rounds_of ["house", "ride"] [] 2 (pick [0, 1]) [] [] := kb_all F_rounds_of (pick_ok _) fun kV doc pm an cdv ct us ws h1 h2 => match us, ws, h1, h2 with | [_, _], [], _, _ => rfl
  have kb5 : KB K fd_halts ["house", "ride"] ["ride", "house"] 0 (pick [1, 0]) [] [] := kb_all F_halts (pick_ok _) fun kV doc pm an cdv ct us ws h1 h2 => match us, ws, h1, h2 with | [], [_, _], _, _ => rfl
  have kb6 : KB K fd_rounds_of ["house", "ride"] ["ride", "house"] 0 (pick [1, 0]) [] [] := kb_all F_rounds_of (pick_ok _) fun kV doc pm an cdv ct us ws h1 h2 => match us, ws, h1, h2 with | [], [_, _], _, _ => rfl
  have kb7 : KB K fd_order_of ["house", "ride"] ["ride", "house"] 0 (pick [1, 0]) [] [] := kb_all F_order_of (pick_ok _) fun kV doc pm an cdv ct us ws h1 h2 => match us, ws, h1, h2 with | [], [_, _], _, _ => rfl
  have kb8 : KB K fd_taken_at ["house", "ride"] ["ride", "house"] 0 (pick [1, 0]) [] [] := kb_all F_taken_at (pick_ok _) fun kV doc pm an cdv ct us ws h1 h2 => match us, ws, h1, h2 with | [], [_, _], _, _ => rfl
  refine ⟨fd, F, fn_D (k := 7) F sc__law_right rfl rfl fun cdv A outer s0 H E C hC hgd hr => ?_⟩
  subst hC
  unfold b__law_right
  exact (db_cons (ds_asg (de_call rfl (G__law_gone.mono (by decide)) hgd hr (takes_of rfl rfl rfl rfl) rfl T.m__law_gone F__law_gone.kp kb0 (da_e (de_var (i := 0) rfl (by first | exact .inl rfl | exact .inr (.inl rfl) | exact .inr (.inr rfl))) (da_e (de_var (i := 1) rfl (by first | exact .inl rfl | exact .inr (.inl rfl) | exact .inr (.inr rfl))) da_nil))) (dg_tup rfl rfl (dgs_cons (dg_name (i := 2) sc__law_right.nd rfl (by first | exact .inl rfl | exact .inr rfl)) (dgs_cons (dg_name (i := 3) sc__law_right.nd rfl (by first | exact .inl rfl | exact .inr rfl)) (dgs_cons (dg_name (i := 4) sc__law_right.nd rfl (by first | exact .inl rfl | exact .inr rfl)) (dgs_cons (dg_name (i := 5) sc__law_right.nd rfl (by first | exact .inl rfl | exact .inr rfl)) dgs_nil))))))
    (db_cons (ds_if (DW.dt (dw_or (dy_isn (de_var (i := 5) rfl (by first | exact .inl rfl | exact .inr (.inl rfl) | exact .inr (.inr rfl))) de_non) (dw_or1 (dy_ne rfl hr (dx_mod (de_var (i := 4) rfl (by first | exact .inl rfl | exact .inr (.inl rfl) | exact .inr (.inr rfl))) (de_ixG rfl hr (de_var (i := 0) rfl (by first | exact .inl rfl | exact .inr (.inl rfl) | exact .inr (.inr rfl))) de_int (by intro _ _; rfl))) de_int))))
    (db_one (ds_ret de_bl))
    db_nil)
    (db_cons (ds_set (i := 6) sc__law_right.nd rfl (by first | exact .inl rfl | exact .inr rfl) (de_lst (da_e (dx_fdiv (de_var (i := 4) rfl (by first | exact .inl rfl | exact .inr (.inl rfl) | exact .inr (.inr rfl))) (de_ixG rfl hr (de_var (i := 0) rfl (by first | exact .inl rfl | exact .inr (.inl rfl) | exact .inr (.inr rfl))) de_int (by intro _ _; rfl))) (da_e (dx_tuple rfl rfl T.n_tuple (da_p (de_var (i := 2) rfl (by first | exact .inl rfl | exact .inr (.inl rfl) | exact .inr (.inr rfl))) da_nil)) (da_e (dx_tuple rfl rfl T.n_tuple (da_p (de_lc (own := [("k", 8)]) rfl sc__law_right.nd (di_range1 rfl T.n_range (da_p (dx_len rfl rfl T.n_len (da_p (de_ixG rfl hr (de_var (i := 0) rfl (by first | exact .inl rfl | exact .inr (.inl rfl) | exact .inr (.inr rfl))) de_int (by intro _ _; rfl)) da_nil)) da_nil)) (blk_of rfl)
      (fun s H c cl fp => (dgw_name (i := 8) (by decide) sc__law_right.nd rfl (by first | exact .inl rfl | exact .inr rfl))) (fun s H c cl fp => dts_nil) (fun s H c cl fp => (de_ixG rfl hr (de_var (i := 3) rfl (by first | exact .inl rfl | exact .inr (.inl rfl) | exact .inr (.inr rfl))) (de_var (i := 8) rfl (by first | exact .inl rfl | exact .inr (.inl rfl) | exact .inr (.inr rfl))) (by intro _ _; rfl)))) da_nil)) da_nil)))))
    (db_cons (ds_expr (de_met rfl PySem.F.slot_list_append PySem.F.type_list_append mt_append md_append (de_var (i := 6) rfl (by first | exact .inl rfl | exact .inr (.inl rfl) | exact .inr (.inr rfl))) (da_e (dx_tuple rfl rfl T.n_tuple (da_p (de_lc (own := [("move", 9)]) rfl sc__law_right.nd (di_dat rfl (de_var (i := 1) rfl (by first | exact .inl rfl | exact .inr (.inl rfl) | exact .inr (.inr rfl)))) (blk_of rfl)
      (fun s H c cl fp => (dgw_name (i := 9) (by decide) sc__law_right.nd rfl (by first | exact .inl rfl | exact .inr rfl))) (fun s H c cl fp => (dts_one (dy_isn (de_var (i := 9) rfl (by first | exact .inl rfl | exact .inr (.inl rfl) | exact .inr (.inr rfl))) de_non))) (fun s H c cl fp => (de_var (i := 9) rfl (by first | exact .inl rfl | exact .inr (.inl rfl) | exact .inr (.inr rfl))))) da_nil)) da_nil)))
    (db_cons (ds_set (i := 7) sc__law_right.nd rfl (by first | exact .inl rfl | exact .inr rfl) (de_lst (da_e (de_call rfl (G_rounds_of.mono (by decide)) hgd hr (takes_of rfl rfl rfl rfl) rfl T.m_rounds_of F_rounds_of.kp kb4 (da_e (de_var (i := 0) rfl (by first | exact .inl rfl | exact .inr (.inl rfl) | exact .inr (.inr rfl))) (da_e (de_var (i := 1) rfl (by first | exact .inl rfl | exact .inr (.inl rfl) | exact .inr (.inr rfl))) da_nil))) (da_e (de_call rfl (G_halts.mono (by decide)) hgd hr (takes_of rfl rfl rfl rfl) rfl T.m_halts F_halts.kp kb3 (da_e (de_var (i := 0) rfl (by first | exact .inl rfl | exact .inr (.inl rfl) | exact .inr (.inr rfl))) (da_e (de_var (i := 1) rfl (by first | exact .inl rfl | exact .inr (.inl rfl) | exact .inr (.inr rfl))) da_nil))) (da_e (de_call rfl (G_taken_at.mono (by decide)) hgd hr (takes_of rfl rfl rfl rfl) rfl T.m_taken_at F_taken_at.kp kb2 (da_e (de_var (i := 0) rfl (by first | exact .inl rfl | exact .inr (.inl rfl) | exact .inr (.inr rfl))) (da_e (de_var (i := 1) rfl (by first | exact .inl rfl | exact .inr (.inl rfl) | exact .inr (.inr rfl))) da_nil))) (da_e (de_call rfl (G_order_of.mono (by decide)) hgd hr (takes_of rfl rfl rfl rfl) rfl T.m_order_of F_order_of.kp kb1 (da_e (de_var (i := 0) rfl (by first | exact .inl rfl | exact .inr (.inl rfl) | exact .inr (.inr rfl))) (da_e (de_var (i := 1) rfl (by first | exact .inl rfl | exact .inr (.inl rfl) | exact .inr (.inr rfl))) da_nil))) da_nil))))))
    (db_cons (ds_if (dy_ne rfl hr (dx_repr2 rfl T.x_sys hgd hr rfl T.n_repr (da_p (de_var (i := 7) rfl (by first | exact .inl rfl | exact .inr (.inl rfl) | exact .inr (.inr rfl))) da_nil)) (dx_repr2 rfl T.x_sys hgd hr rfl T.n_repr (da_p (de_var (i := 6) rfl (by first | exact .inl rfl | exact .inr (.inl rfl) | exact .inr (.inr rfl))) da_nil)))
    (db_one (ds_ret de_bl))
    db_nil)
    (db_cons (ds_set (i := 7) sc__law_right.nd rfl (by first | exact .inl rfl | exact .inr rfl) (de_lst (da_e (de_callK0 rfl (G_rounds_of.mono (by decide)) hgd hr (takes_of rfl rfl rfl rfl) rfl T.m_rounds_of F_rounds_of.kp kb6 (dk_e (de_var (i := 1) rfl (by first | exact .inl rfl | exact .inr (.inl rfl) | exact .inr (.inr rfl))) (dk_e (de_var (i := 0) rfl (by first | exact .inl rfl | exact .inr (.inl rfl) | exact .inr (.inr rfl))) dk_nil))) (da_e (de_callK0 rfl (G_halts.mono (by decide)) hgd hr (takes_of rfl rfl rfl rfl) rfl T.m_halts F_halts.kp kb5 (dk_e (de_var (i := 1) rfl (by first | exact .inl rfl | exact .inr (.inl rfl) | exact .inr (.inr rfl))) (dk_e (de_var (i := 0) rfl (by first | exact .inl rfl | exact .inr (.inl rfl) | exact .inr (.inr rfl))) dk_nil))) da_nil))))
    (db_one (ds_ret (dx_eq rfl hr (dx_repr2 rfl T.x_sys hgd hr rfl T.n_repr (da_p (dx_add rfl (de_var (i := 7) rfl (by first | exact .inl rfl | exact .inr (.inl rfl) | exact .inr (.inr rfl))) (de_lst (da_e (de_callK0 rfl (G_taken_at.mono (by decide)) hgd hr (takes_of rfl rfl rfl rfl) rfl T.m_taken_at F_taken_at.kp kb8 (dk_e (de_var (i := 1) rfl (by first | exact .inl rfl | exact .inr (.inl rfl) | exact .inr (.inr rfl))) (dk_e (de_var (i := 0) rfl (by first | exact .inl rfl | exact .inr (.inl rfl) | exact .inr (.inr rfl))) dk_nil))) (da_e (de_callK0 rfl (G_order_of.mono (by decide)) hgd hr (takes_of rfl rfl rfl rfl) rfl T.m_order_of F_order_of.kp kb7 (dk_e (de_var (i := 1) rfl (by first | exact .inl rfl | exact .inr (.inl rfl) | exact .inr (.inr rfl))) (dk_e (de_var (i := 0) rfl (by first | exact .inl rfl | exact .inr (.inl rfl) | exact .inr (.inr rfl))) dk_nil))) da_nil)))) da_nil)) (dx_repr2 rfl T.x_sys hgd hr rfl T.n_repr (da_p (de_var (i := 6) rfl (by first | exact .inl rfl | exact .inr (.inl rfl) | exact .inr (.inr rfl))) da_nil))))))))))))
theorem g_law {P : Program} {w : World} {K : PySem.W.Frag} {mg : Str → Option Value} {base : Heap} (T : Top K mg) : ∃ fd, FunD K "law" "law" (defArgs s_law) (defBody s_law) (defScope s_law) [] [] (He.ga K "law") fd ∧ FnG P w K mg base 9 (He.ga K "law") fd ["script"] f_law := by
  obtain ⟨fd, F⟩ := T.d_law
  obtain ⟨fd__law_begin, F__law_begin, G__law_begin⟩ := g__law_begin (P := P) (w := w) (base := base) T
  obtain ⟨fd__law_hand_right, F__law_hand_right, G__law_hand_right⟩ := g__law_hand_right (P := P) (w := w) (base := base) T
  obtain ⟨fd__law_next, F__law_next, G__law_next⟩ := g__law_next (P := P) (w := w) (base := base) T
  obtain ⟨fd__law_house, F__law_house, G__law_house⟩ := g__law_house (P := P) (w := w) (base := base) T
  obtain ⟨fd__law_loads, F__law_loads, G__law_loads⟩ := g__law_loads (P := P) (w := w) (base := base) T
  obtain ⟨fd__law_ride, F__law_ride, G__law_ride⟩ := g__law_ride (P := P) (w := w) (base := base) T
  obtain ⟨fd__law_right, F__law_right, G__law_right⟩ := g__law_right (P := P) (w := w) (base := base) T
  have kb0 : KB K fd__law_begin ["script"] [] 1 (pick [0]) [] [] := kb_all F__law_begin (pick_ok _) fun kV doc pm an cdv ct us ws h1 h2 => match us, ws, h1, h2 with | [_], [], _, _ => rfl
  have kb1 : KB K fd__law_hand_right [] [] 0 (pick []) [] [] := kb_all F__law_hand_right (pick_ok _) fun kV doc pm an cdv ct us ws h1 h2 => match us, ws, h1, h2 with | [], [], _, _ => rfl
  have kb2 : KB K fd__law_next ["draw", "many"] [] 2 (pick [0, 1]) [] [] := kb_all F__law_next (pick_ok _) fun kV doc pm an cdv ct us ws h1 h2 => match us, ws, h1, h2 with | [_, _], [], _, _ => rfl
  have kb3 : KB K fd__law_next ["draw", "many"] [] 2 (pick [0, 1]) [] [] := kb_all F__law_next (pick_ok _) fun kV doc pm an cdv ct us ws h1 h2 => match us, ws, h1, h2 with | [_, _], [], _, _ => rfl
  have kb4 : KB K fd__law_next ["draw", "many"] [] 2 (pick [0, 1]) [] [] := kb_all F__law_next (pick_ok _) fun kV doc pm an cdv ct us ws h1 h2 => match us, ws, h1, h2 with | [_, _], [], _, _ => rfl
  have kb5 : KB K fd__law_house ["draw", "floors", "many"] [] 3 (pick [0, 1, 2]) [] [] := kb_all F__law_house (pick_ok _) fun kV doc pm an cdv ct us ws h1 h2 => match us, ws, h1, h2 with | [_, _, _], [], _, _ => rfl
  have kb6 : KB K fd__law_loads ["home"] [] 1 (pick [0]) [] [] := kb_all F__law_loads (pick_ok _) fun kV doc pm an cdv ct us ws h1 h2 => match us, ws, h1, h2 with | [_], [], _, _ => rfl
  have kb7 : KB K fd__law_next ["draw", "many"] [] 2 (pick [0, 1]) [] [] := kb_all F__law_next (pick_ok _) fun kV doc pm an cdv ct us ws h1 h2 => match us, ws, h1, h2 with | [_, _], [], _, _ => rfl
  have kb8 : KB K fd__law_ride ["draw", "home", "often"] [] 3 (pick [0, 1, 2]) [] [] := kb_all F__law_ride (pick_ok _) fun kV doc pm an cdv ct us ws h1 h2 => match us, ws, h1, h2 with | [_, _, _], [], _, _ => rfl
  have kb9 : KB K fd__law_right ["home", "went"] [] 2 (pick [0, 1]) [] [] := kb_all F__law_right (pick_ok _) fun kV doc pm an cdv ct us ws h1 h2 => match us, ws, h1, h2 with | [_, _], [], _, _ => rfl
  refine ⟨fd, F, fn_D (k := 8) F sc_law rfl rfl fun cdv A outer s0 H E C hC hgd hr => ?_⟩
  subst hC
  unfold b_law
  exact (db_cons (ds_set (i := 1) sc_law.nd rfl (by first | exact .inl rfl | exact .inr rfl) (de_call rfl (G__law_begin.mono (by decide)) hgd hr (takes_of rfl rfl rfl rfl) rfl T.m__law_begin F__law_begin.kp kb0 (da_e (de_var (i := 0) rfl (by first | exact .inl rfl | exact .inr (.inl rfl) | exact .inr (.inr rfl))) da_nil)))
    (db_cons (ds_if (dt_not (dt_val (de_call0 rfl (G__law_hand_right.mono (by decide)) hgd hr (takes_of rfl rfl rfl rfl) rfl T.m__law_hand_right F__law_hand_right.kp kb1)))
    (db_one (ds_ret de_bl))
    db_nil)
    (db_cons (ds_for (passes_of rfl) rfl (di_range1 rfl T.n_range (da_p (dx_add rfl de_int (dx_min2 rfl rfl T.n_min (da_p de_int (da_p (dx_fdiv (dx_len rfl rfl T.n_len (da_p (de_var (i := 0) rfl (by first | exact .inl rfl | exact .inr (.inl rfl) | exact .inr (.inr rfl))) da_nil)) de_int) da_nil)))) da_nil)) (dg_name (i := 2) sc_law.nd rfl (by first | exact .inl rfl | exact .inr rfl))
    (db_cons (ds_set (i := 3) sc_law.nd rfl (by first | exact .inl rfl | exact .inr rfl) (de_ixG rfl hr (de_lst (da_e (dx_add rfl de_int (de_call rfl (G__law_next.mono (by decide)) hgd hr (takes_of rfl rfl rfl rfl) rfl T.m__law_next F__law_next.kp kb3 (da_p (de_var (i := 1) rfl (by first | exact .inl rfl | exact .inr (.inl rfl) | exact .inr (.inr rfl))) (da_e de_int da_nil)))) (da_e (dx_add rfl de_int (de_call rfl (G__law_next.mono (by decide)) hgd hr (takes_of rfl rfl rfl rfl) rfl T.m__law_next F__law_next.kp kb2 (da_p (de_var (i := 1) rfl (by first | exact .inl rfl | exact .inr (.inl rfl) | exact .inr (.inr rfl))) (da_e de_int da_nil)))) da_nil))) (de_call rfl (G__law_next.mono (by decide)) hgd hr (takes_of rfl rfl rfl rfl) rfl T.m__law_next F__law_next.kp kb4 (da_p (de_var (i := 1) rfl (by first | exact .inl rfl | exact .inr (.inl rfl) | exact .inr (.inr rfl))) (da_e de_int da_nil))) (by intro _ _; rfl)))
    (db_cons (ds_set (i := 4) sc_law.nd rfl (by first | exact .inl rfl | exact .inr rfl) (de_call rfl (G__law_house.mono (by decide)) hgd hr (takes_of rfl rfl rfl rfl) rfl T.m__law_house F__law_house.kp kb5 (da_p (de_var (i := 1) rfl (by first | exact .inl rfl | exact .inr (.inl rfl) | exact .inr (.inr rfl))) (da_e (de_var (i := 3) rfl (by first | exact .inl rfl | exact .inr (.inl rfl) | exact .inr (.inr rfl))) (da_e de_int da_nil)))))
    (db_cons (ds_set (i := 5) sc_law.nd rfl (by first | exact .inl rfl | exact .inr rfl) (dx_maxB rfl rfl rfl T.n_max (da_p (de_call rfl (G__law_loads.mono (by decide)) hgd hr (takes_of rfl rfl rfl rfl) rfl T.m__law_loads F__law_loads.kp kb6 (da_e (de_var (i := 4) rfl (by first | exact .inl rfl | exact .inr (.inl rfl) | exact .inr (.inr rfl))) da_nil)) da_nil)))
    (db_one (ds_for (passes_of rfl) rfl (di_dat rfl (de_tup (da_e (dx_add rfl (de_var (i := 5) rfl (by first | exact .inl rfl | exact .inr (.inl rfl) | exact .inr (.inr rfl))) (de_call rfl (G__law_next.mono (by decide)) hgd hr (takes_of rfl rfl rfl rfl) rfl T.m__law_next F__law_next.kp kb7 (da_p (de_var (i := 1) rfl (by first | exact .inl rfl | exact .inr (.inl rfl) | exact .inr (.inr rfl))) (da_e de_int da_nil)))) (da_e (dx_add rfl (de_var (i := 5) rfl (by first | exact .inl rfl | exact .inr (.inl rfl) | exact .inr (.inr rfl))) de_int) da_nil)))) (dg_name (i := 6) sc_law.nd rfl (by first | exact .inl rfl | exact .inr rfl))
    (db_cons (ds_set (i := 7) sc_law.nd rfl (by first | exact .inl rfl | exact .inr rfl) (de_call rfl (G__law_ride.mono (by decide)) hgd hr (takes_of rfl rfl rfl rfl) rfl T.m__law_ride F__law_ride.kp kb8 (da_p (de_var (i := 1) rfl (by first | exact .inl rfl | exact .inr (.inl rfl) | exact .inr (.inr rfl))) (da_e (de_var (i := 4) rfl (by first | exact .inl rfl | exact .inr (.inl rfl) | exact .inr (.inr rfl))) (da_e (de_var (i := 6) rfl (by first | exact .inl rfl | exact .inr (.inl rfl) | exact .inr (.inr rfl))) da_nil)))))
    (db_one (ds_if (DW.dt (dw_and (dy_isn (de_var (i := 7) rfl (by first | exact .inl rfl | exact .inr (.inl rfl) | exact .inr (.inr rfl))) de_non) (dw_and1 (dt_not (dt_val (de_call rfl (G__law_right.mono (by decide)) hgd hr (takes_of rfl rfl rfl rfl) rfl T.m__law_right F__law_right.kp kb9 (da_e (de_var (i := 4) rfl (by first | exact .inl rfl | exact .inr (.inl rfl) | exact .inr (.inr rfl))) (da_e (de_var (i := 7) rfl (by first | exact .inl rfl | exact .inr (.inl rfl) | exact .inr (.inr rfl))) da_nil))))))))
    (db_one (ds_ret de_bl))
    db_nil)))))))))
    (db_one (ds_ret de_bl)))))
end K16

set_option maxHeartbeats 0
namespace K16
open PySem PySem.Spec PyProof.Rows L2 DL
def d__law_begin : He.DefD := ⟨("_law_begin", none), "_law_begin", "_law_begin", defArgs s__law_begin, defBody s__law_begin, defScope s__law_begin, [], []⟩
def d_is_number : He.DefD := ⟨("is_number", none), "is_number", "is_number", defArgs s_is_number, defBody s_is_number, defScope s_is_number, [], []⟩
def d_is_whole : He.DefD := ⟨("is_whole", none), "is_whole", "is_whole", defArgs s_is_whole, defBody s_is_whole, defScope s_is_whole, [], [("least", .int 0), ("most", .non)]⟩
def d_is_errand : He.DefD := ⟨("is_errand", none), "is_errand", "is_errand", defArgs s_is_errand, defBody s_is_errand, defScope s_is_errand, [], []⟩
def d_faults_of : He.DefD := ⟨("faults_of", none), "faults_of", "faults_of", defArgs s_faults_of, defBody s_faults_of, defScope s_faults_of, [], []⟩
def d_need_house : He.DefD := ⟨("need_house", none), "need_house", "need_house", defArgs s_need_house, defBody s_need_house, defScope s_need_house, [], []⟩
def d_walked : He.DefD := ⟨("walked", none), "walked", "walked", defArgs s_walked, defBody s_walked, defScope s_walked, [], []⟩
def d_need_own_ride : He.DefD := ⟨("need_own_ride", none), "need_own_ride", "need_own_ride", defArgs s_need_own_ride, defBody s_need_own_ride, defScope s_need_own_ride, [], []⟩
def d_ride_walked : He.DefD := ⟨("ride_walked", none), "ride_walked", "ride_walked", defArgs s_ride_walked, defBody s_ride_walked, defScope s_ride_walked, [], []⟩
def d_rounds_of : He.DefD := ⟨("rounds_of", none), "rounds_of", "rounds_of", defArgs s_rounds_of, defBody s_rounds_of, defScope s_rounds_of, [], []⟩
def d_halts : He.DefD := ⟨("halts", none), "halts", "halts", defArgs s_halts, defBody s_halts, defScope s_halts, [], []⟩
def d_taken_at : He.DefD := ⟨("taken_at", none), "taken_at", "taken_at", defArgs s_taken_at, defBody s_taken_at, defScope s_taken_at, [], []⟩
def d_order_of : He.DefD := ⟨("order_of", none), "order_of", "order_of", defArgs s_order_of, defBody s_order_of, defScope s_order_of, [], []⟩
def d__law_hand_right : He.DefD := ⟨("_law_hand_right", none), "_law_hand_right", "_law_hand_right", defArgs s__law_hand_right, defBody s__law_hand_right, defScope s__law_hand_right, [], []⟩
def d__law_mixed : He.DefD := ⟨("_law_mixed", none), "_law_mixed", "_law_mixed", defArgs s__law_mixed, defBody s__law_mixed, defScope s__law_mixed, [], []⟩
def d__law_next : He.DefD := ⟨("_law_next", none), "_law_next", "_law_next", defArgs s__law_next, defBody s__law_next, defScope s__law_next, [], []⟩
def d__law_errand : He.DefD := ⟨("_law_errand", none), "_law_errand", "_law_errand", defArgs s__law_errand, defBody s__law_errand, defScope s__law_errand, [], []⟩
def d__law_way : He.DefD := ⟨("_law_way", none), "_law_way", "_law_way", defArgs s__law_way, defBody s__law_way, defScope s__law_way, [], []⟩
def d__law_house : He.DefD := ⟨("_law_house", none), "_law_house", "_law_house", defArgs s__law_house, defBody s__law_house, defScope s__law_house, [], []⟩
def d__law_loads : He.DefD := ⟨("_law_loads", none), "_law_loads", "_law_loads", defArgs s__law_loads, defBody s__law_loads, defScope s__law_loads, [], []⟩
def d__law_there : He.DefD := ⟨("_law_there", none), "_law_there", "_law_there", defArgs s__law_there, defBody s__law_there, defScope s__law_there, [], []⟩
def d__law_behind : He.DefD := ⟨("_law_behind", none), "_law_behind", "_law_behind", defArgs s__law_behind, defBody s__law_behind, defScope s__law_behind, [], []⟩
def d__law_hangs : He.DefD := ⟨("_law_hangs", none), "_law_hangs", "_law_hangs", defArgs s__law_hangs, defBody s__law_hangs, defScope s__law_hangs, [], []⟩
def d__law_ride : He.DefD := ⟨("_law_ride", none), "_law_ride", "_law_ride", defArgs s__law_ride, defBody s__law_ride, defScope s__law_ride, [], []⟩
def d__law_waits : He.DefD := ⟨("_law_waits", none), "_law_waits", "_law_waits", defArgs s__law_waits, defBody s__law_waits, defScope s__law_waits, [], []⟩
def d__law_gone : He.DefD := ⟨("_law_gone", none), "_law_gone", "_law_gone", defArgs s__law_gone, defBody s__law_gone, defScope s__law_gone, [], []⟩
def d__law_right : He.DefD := ⟨("_law_right", none), "_law_right", "_law_right", defArgs s__law_right, defBody s__law_right, defScope s__law_right, [], []⟩
def d_law : He.DefD := ⟨("law", none), "law", "law", defArgs s_law, defBody s_law, defScope s_law, [], []⟩
def d_BadHouse : He.DefD := ⟨("BadHouse", some "__init__"), "__init__", "BadHouse.__init__", defArgs s_BadHouse, defBody s_BadHouse, defScope s_BadHouse, [.non], []⟩
def d_BadRide : He.DefD := ⟨("BadRide", some "__init__"), "__init__", "BadRide.__init__", defArgs s_BadRide, defBody s_BadRide, defScope s_BadRide, [.non], []⟩
def fn : List He.DefD := [d__law_begin, d_is_number, d_is_whole, d_is_errand, d_faults_of, d_need_house, d_walked, d_need_own_ride, d_ride_walked, d_rounds_of, d_halts, d_taken_at, d_order_of, d__law_hand_right, d__law_mixed, d__law_next, d__law_errand, d__law_way, d__law_house, d__law_loads, d__law_there, d__law_behind, d__law_hangs, d__law_ride, d__law_waits, d__law_gone, d__law_right, d_law, d_BadHouse, d_BadRide]
def xs : List XFa := [fun K => oexWB "ValueError.__new__" tlV K (He.ga K "BadHouse"), fun K => iniB K (He.ga K "BadHouse") ["place"], fun K => oexWB "ValueError.__new__" tlV K (He.ga K "BadRide"), fun K => iniB K (He.ga K "BadRide") ["number"], fun K => sysB K, fun K => basWB "ValueError.__init__" K (He.ga K "RideError")]
def fa : List He.Fa := [.glo "_law_begin", .glo "is_number", .glo "is_whole", .glo "is_errand", .glo "faults_of", .glo "need_house", .glo "walked", .glo "need_own_ride", .glo "ride_walked", .glo "rounds_of", .glo "halts", .glo "taken_at", .glo "order_of", .glo "_law_hand_right", .glo "_law_mixed", .glo "_law_next", .glo "_law_errand", .glo "_law_way", .glo "_law_house", .glo "_law_loads", .glo "_law_there", .glo "_law_behind", .glo "_law_hangs", .glo "_law_ride", .glo "_law_waits", .glo "_law_gone", .glo "_law_right", .glo "law", .glo "BadHouse", .glo "BadRide", .glo "RideError", .free "all", .free "bool", .free "enumerate", .free "int", .free "isinstance", .free "len", .free "max", .free "min", .free "range", .free "repr", .free "sum", .free "tuple", .int "FEWEST_FLOORS" 2, .int "MOST_ERRANDS" 40, .int "MOST_FLOORS" 16, .int "MOST_TURNS" 3]
def names0 : List Str := ["RideError", "BadHouse", "BadRide", "MOST_FLOORS", "MOST_ERRANDS", "MOST_TURNS", "is_number", "is_whole", "is_errand", "FEWEST_FLOORS", "faults_of", "need_house", "walked", "need_own_ride", "ride_walked", "rounds_of", "halts", "taken_at", "order_of", "_law_begin"]
def names1 : List Str := ["_law_mixed", "_law_next", "_law_errand", "_law_way", "_law_house", "_law_waits", "_law_gone", "_law_loads", "_law_hangs", "_law_there", "_law_behind", "_law_ride", "_law_right", "_law_hand_right"]
def names : List Str := names0 ++ names1
abbrev R : PySem.W.OpenRow := PySem.W.OpenLaw.row PySem.Challenge.rw_oneseat_k16_told_of_rides
abbrev hk : PySem.W.Hook := hookX 6 fa fn xs
def ob (s : PySem.W.SharedT) : He.AlD := obsXG 6 fa fn xs (HandSHeadRun.getT s)
theorem ob_eq (s : PySem.W.SharedT) : ob s = hk.obs s.abs := obsXG_eq (HandSHeadRun.getT_eq s)
theorem run (w : World) : HandSHeadRun.RunEq R (PySem.W.view R.prog [39]) hk ob 20000 names w := by
  intro os
  kernel_rfl
theorem top_of {K : PySem.W.Frag} {h : Heap} {mg : Str → Option Value} (X : K.In h) (G : h.Ns mainGlobals mg) (c' : SaysX fa fn xs K) : Top K mg where
  d__law_begin := c'.d.def_ 0 (d := d__law_begin) rfl
  m__law_begin := He.glo_ok X G (c'.d.fact 0 (f := .glo "_law_begin") rfl)
  d_is_number := c'.d.def_ 1 (d := d_is_number) rfl
  m_is_number := He.glo_ok X G (c'.d.fact 1 (f := .glo "is_number") rfl)
  d_is_whole := c'.d.def_ 2 (d := d_is_whole) rfl
  m_is_whole := He.glo_ok X G (c'.d.fact 2 (f := .glo "is_whole") rfl)
  d_is_errand := c'.d.def_ 3 (d := d_is_errand) rfl
  m_is_errand := He.glo_ok X G (c'.d.fact 3 (f := .glo "is_errand") rfl)
  d_faults_of := c'.d.def_ 4 (d := d_faults_of) rfl
  m_faults_of := He.glo_ok X G (c'.d.fact 4 (f := .glo "faults_of") rfl)
  d_need_house := c'.d.def_ 5 (d := d_need_house) rfl
  m_need_house := He.glo_ok X G (c'.d.fact 5 (f := .glo "need_house") rfl)
  d_walked := c'.d.def_ 6 (d := d_walked) rfl
  m_walked := He.glo_ok X G (c'.d.fact 6 (f := .glo "walked") rfl)
  d_need_own_ride := c'.d.def_ 7 (d := d_need_own_ride) rfl
  m_need_own_ride := He.glo_ok X G (c'.d.fact 7 (f := .glo "need_own_ride") rfl)
  d_ride_walked := c'.d.def_ 8 (d := d_ride_walked) rfl
  m_ride_walked := He.glo_ok X G (c'.d.fact 8 (f := .glo "ride_walked") rfl)
  d_rounds_of := c'.d.def_ 9 (d := d_rounds_of) rfl
  m_rounds_of := He.glo_ok X G (c'.d.fact 9 (f := .glo "rounds_of") rfl)
  d_halts := c'.d.def_ 10 (d := d_halts) rfl
  m_halts := He.glo_ok X G (c'.d.fact 10 (f := .glo "halts") rfl)
  d_taken_at := c'.d.def_ 11 (d := d_taken_at) rfl
  m_taken_at := He.glo_ok X G (c'.d.fact 11 (f := .glo "taken_at") rfl)
  d_order_of := c'.d.def_ 12 (d := d_order_of) rfl
  m_order_of := He.glo_ok X G (c'.d.fact 12 (f := .glo "order_of") rfl)
  d__law_hand_right := c'.d.def_ 13 (d := d__law_hand_right) rfl
  m__law_hand_right := He.glo_ok X G (c'.d.fact 13 (f := .glo "_law_hand_right") rfl)
  d__law_mixed := c'.d.def_ 14 (d := d__law_mixed) rfl
  m__law_mixed := He.glo_ok X G (c'.d.fact 14 (f := .glo "_law_mixed") rfl)
  d__law_next := c'.d.def_ 15 (d := d__law_next) rfl
  m__law_next := He.glo_ok X G (c'.d.fact 15 (f := .glo "_law_next") rfl)
  d__law_errand := c'.d.def_ 16 (d := d__law_errand) rfl
  m__law_errand := He.glo_ok X G (c'.d.fact 16 (f := .glo "_law_errand") rfl)
  d__law_way := c'.d.def_ 17 (d := d__law_way) rfl
  m__law_way := He.glo_ok X G (c'.d.fact 17 (f := .glo "_law_way") rfl)
  d__law_house := c'.d.def_ 18 (d := d__law_house) rfl
  m__law_house := He.glo_ok X G (c'.d.fact 18 (f := .glo "_law_house") rfl)
  d__law_loads := c'.d.def_ 19 (d := d__law_loads) rfl
  m__law_loads := He.glo_ok X G (c'.d.fact 19 (f := .glo "_law_loads") rfl)
  d__law_there := c'.d.def_ 20 (d := d__law_there) rfl
  m__law_there := He.glo_ok X G (c'.d.fact 20 (f := .glo "_law_there") rfl)
  d__law_behind := c'.d.def_ 21 (d := d__law_behind) rfl
  m__law_behind := He.glo_ok X G (c'.d.fact 21 (f := .glo "_law_behind") rfl)
  d__law_hangs := c'.d.def_ 22 (d := d__law_hangs) rfl
  m__law_hangs := He.glo_ok X G (c'.d.fact 22 (f := .glo "_law_hangs") rfl)
  d__law_ride := c'.d.def_ 23 (d := d__law_ride) rfl
  m__law_ride := He.glo_ok X G (c'.d.fact 23 (f := .glo "_law_ride") rfl)
  d__law_waits := c'.d.def_ 24 (d := d__law_waits) rfl
  m__law_waits := He.glo_ok X G (c'.d.fact 24 (f := .glo "_law_waits") rfl)
  d__law_gone := c'.d.def_ 25 (d := d__law_gone) rfl
  m__law_gone := He.glo_ok X G (c'.d.fact 25 (f := .glo "_law_gone") rfl)
  d__law_right := c'.d.def_ 26 (d := d__law_right) rfl
  m__law_right := He.glo_ok X G (c'.d.fact 26 (f := .glo "_law_right") rfl)
  d_law := c'.d.def_ 27 (d := d_law) rfl
  m_law := He.glo_ok X G (c'.d.fact 27 (f := .glo "law") rfl)
  m_BadHouse := He.glo_ok X G (c'.d.fact 28 (f := .glo "BadHouse") rfl)
  m_BadRide := He.glo_ok X G (c'.d.fact 29 (f := .glo "BadRide") rfl)
  m_RideError := He.glo_ok X G (c'.d.fact 30 (f := .glo "RideError") rfl)
  d_BadHouse := c'.d.def_ 28 (d := d_BadHouse) rfl
  d_BadRide := c'.d.def_ 29 (d := d_BadRide) rfl
  xo_BadHouse := c'.x 0 rfl
  xi_BadHouse := c'.x 1 rfl
  xo_BadRide := c'.x 2 rfl
  xi_BadRide := c'.x 3 rfl
  x_sys := c'.x 4 rfl
  xb_RideError := c'.x 5 rfl
  n_all := He.free_ok X G (c'.d.fact 31 (f := .free "all") rfl)
  n_bool := He.free_ok X G (c'.d.fact 32 (f := .free "bool") rfl)
  n_enumerate := He.free_ok X G (c'.d.fact 33 (f := .free "enumerate") rfl)
  n_int := He.free_ok X G (c'.d.fact 34 (f := .free "int") rfl)
  n_isinstance := He.free_ok X G (c'.d.fact 35 (f := .free "isinstance") rfl)
  n_len := He.free_ok X G (c'.d.fact 36 (f := .free "len") rfl)
  n_max := He.free_ok X G (c'.d.fact 37 (f := .free "max") rfl)
  n_min := He.free_ok X G (c'.d.fact 38 (f := .free "min") rfl)
  n_range := He.free_ok X G (c'.d.fact 39 (f := .free "range") rfl)
  n_repr := He.free_ok X G (c'.d.fact 40 (f := .free "repr") rfl)
  n_sum := He.free_ok X G (c'.d.fact 41 (f := .free "sum") rfl)
  n_tuple := He.free_ok X G (c'.d.fact 42 (f := .free "tuple") rfl)
  c_FEWEST_FLOORS := He.int_ok X G (c'.d.fact 43 (f := .int "FEWEST_FLOORS" 2) rfl)
  c_MOST_ERRANDS := He.int_ok X G (c'.d.fact 44 (f := .int "MOST_ERRANDS" 40) rfl)
  c_MOST_FLOORS := He.int_ok X G (c'.d.fact 45 (f := .int "MOST_FLOORS" 16) rfl)
  c_MOST_TURNS := He.int_ok X G (c'.d.fact 46 (f := .int "MOST_TURNS" 3) rfl)
end K16

set_option maxHeartbeats 1000000
namespace K16
open PySem PySem.Spec PyProof.Rows L2 DL CM CP
section
variable {n s : Int} {es : List E} {w : Wk} {xs : List D}
/-- what is told of a ride -/
def toldD (n : Int) (es : List E) (w : Wk) (xs : List D) : List D := [.int (w.gone / n), .tuple (w.stops.map .int), takenD es w, .tuple (xs.filter fun y => !isD y)]
theorem right_c1 (h : OkH n s es) (fu : w.Full n s es xs) {d1 d2 d4 d5 d6 d7 d9 : SV} : c__law_right_1 [.d (houseD n s es), d1, d2, .d (tkD w.taken), d4, d5, d6, d7, .u, d9] = some (.ok (.nL ((List.range es.length).map fun k => .int (tkAt w.taken k))) [.d (houseD n s es), d1, d2, .d (tkD w.taken), d4, d5, d6, d7, .u, d9]) := by
  unfold c__law_right_1
  refine lc_map (fun (i : Nat) => PyData.int (i : Int)) _ (List.range es.length) ?_ (by simp) (by have := h.len; simp; omega) fun i hi => ⟨[.d (houseD n s es), d1, d2, .d (tkD w.taken), d4, d5, d6, d7, .d (.int (i : Int)), d9], ?_, ?_, ?_⟩
  · have r := rngD_map es.length
    have ri := fun δ => rngI_ok (δ := δ) (j := (es.length : Int)) (by omega) (by have := h.len; omega)
    simp [houseD, ri, r]
  · simp
  · simp
  · have : ixG (tkD w.taken) (.int (i : Int)) = some (.d (.int (tkAt w.taken i))) := ix_kv (tk_get (fu.all i (List.mem_range.mp hi)))
    simp [this]
theorem right_c2 (hl : xs.length < 800000) {d0 d2 d3 d4 d5 d6 d7 d8 : SV} : c__law_right_2 [d0, .d (.tuple xs), d2, d3, d4, d5, d6, d7, d8, .u] = some (.ok (.nL (xs.filter fun y => !isD y)) [d0, .d (.tuple xs), d2, d3, d4, d5, d6, d7, d8, .u]) := by
  unfold c__law_right_2
  have := lc_fil (vs := [9]) (src := datS (varE 1)) (t := nameT 9) (tt := toB (op2E isnG (varE 9) (conE .none))) (te := varE 9) (δ0 := [d0, .d (.tuple xs), d2, d3, d4, d5, d6, d7, d8, .u]) (δ := [d0, .d (.tuple xs), d2, d3, d4, d5, d6, d7, d8, .u]) (fun y : D => y) (fun y => !isD y) (fun y => y) xs (by simp) (by simp) (by omega) fun y hy => ⟨[d0, .d (.tuple xs), d2, d3, d4, d5, d6, d7, d8, .d y], by simp, by simp, by simp [isnG], fun _ => by simp⟩
  rw [this]
  simp
theorem movs_ne (T : List (Option Nat)) : ∀ x ∈ T.map movD, isExc x = false := by
  intro x hx
  obtain ⟨m, _, rfl⟩ := List.mem_map.mp hx
  cases m <;> rfl
theorem movs_nx (T : List (Option Nat)) : nx 1 (.tuple (T.map movD)) = true := by
  simp only [nx, List.all_map, List.all_eq_true]
  intro m _
  cases m <;> rfl
theorem walk_int : ∀ (xs : List D) (k : Nat) (w w' : Wk), walkG n es xs k w = (w', none) → ∀ x ∈ xs, isD x = false → ∃ j : Nat, j < es.length ∧ x = .int (j : Int)
  | [], _, _, _, _, x, hx, _ => by cases hx
  | y :: r, k, w, w', e, x, hx, hd => by
    unfold walkG at e
    cases q : w.step n es y with
    | none => rw [q] at e; cases e
    | some w2 =>
      rw [q] at e
      rcases List.mem_cons.mp hx with z | z
      · subst z
        unfold Wk.step at q
        rw [if_neg (by rw [hd]; decide)] at q
        cases q2 : waits es w.taken w.at_ x with
        | none => rw [q2] at q; cases q
        | some j =>
          cases x with
          | int i =>
            simp only [waits] at q2
            split at q2
            · rename_i b
              exact ⟨i.toNat, by have := b.1; have := b.2.1; omega, by have := b.1; rw [Int.toNat_of_nonneg this]⟩
            · cases q2
          | _ => simp [waits] at q2
      · exact walk_int r (k + 1) w2 w' e x z hd
theorem told_rk (h : OkH n s es) {T : List (Option Nat)} (fu : w.Full n s es (T.map movD)) (ht : T.length ≤ 5000) : Rk 2 840176 (.list (toldD n es w (T.map movD))) := by
  have n0 := h.n0
  have n1 := h.n1
  have hl := h.len
  have z := walk_sz h (T.map movD) 0 0 (.start s) w (start_sz h) fu.walk
  have big : (10 ^ 12 : Nat) = 1000000000000 := by decide
  have k1 : Rk 1 210043 (.int (w.gone / n)) := (rk_int (by
    have g0 := z.gone0
    have g1 := z.gone1
    rw [List.length_map] at g1
    have := Int.ediv_le_self n g0
    have := Int.ediv_nonneg g0 (show 0 ≤ n by omega)
    rw [big]
    omega)).le (by decide)
  have k2 : Rk 1 210043 (.tuple (w.stops.map .int)) := (rk_tup (n := 0) (w := 41) fun x hx => by
    obtain ⟨i, hi, rfl⟩ := List.mem_map.mp hx
    have := z.stops i hi
    exact rk_int (by rw [big]; omega)).le (by
      rw [List.length_map, z.len, List.length_map]; omega)
  have k3 : Rk 1 210043 (takenD es w) := (rk_tup (n := 0) (w := 41) fun x hx => by
    obtain ⟨i, hi, rfl⟩ := List.mem_map.mp hx
    have := tkAt_sz z i
    rw [List.length_map] at this
    exact rk_int (by rw [big]; omega)).le (by
      rw [List.length_map, List.length_range]; omega)
  have k4 : Rk 1 210043 (.tuple ((T.map movD).filter fun y => !isD y)) := (rk_tup (n := 0) (w := 41) (xs := (T.map movD).filter fun y => !isD y) fun x hx => by
    obtain ⟨hx, hd⟩ := List.mem_filter.mp hx
    obtain ⟨k, lt, rfl⟩ := walk_int (T.map movD) 0 (.start s) w fu.walk x hx (by simpa using hd)
    exact rk_int (by rw [big]; omega)).le (by
      have := List.length_filter_le (fun y => !isD y) (T.map movD)
      rw [List.length_map] at this
      omega)
  refine (rk_list (n := 1) (w := 210043) fun x hx => ?_).le (by simp [toldD])
  simp only [toldD, List.mem_cons, List.not_mem_nil, or_false] at hx
  rcases hx with rfl | rfl | rfl | rfl
  · exact k1
  · exact k2
  · exact k3
  · exact k4
theorem right_spec (h : OkH n s es) {T : List (Option Nat)} (g : rideOf n s es (.tuple (T.map movD)) = .ok w) (g2 : w.gone % n = 0) (ht : T.length ≤ 5000) :
    f__law_right [.d (houseD n s es), .d (.tuple (T.map movD))] = some (.ok (.d (.bool true)) [.d (houseD n s es), .d (.tuple (T.map movD))]) := by
  obtain ⟨xs, ex, fu⟩ := ride_full g
  cases ex
  have n0 := h.n0
  have n1 := h.n1
  have b := size_big
  have sm : smallT (.tuple (T.map movD)) := by show (T.map movD).length < 800000; rw [List.length_map]; omega
  have nxm := movs_nx T
  have q1 := gone_spec h (movs_ne T) (by rw [List.length_map]; omega)
  rw [fu.walk] at q1
  have q2 := rounds_spec h nxm sm
  have q3 := halts_spec h nxm sm
  have q4 := taken_spec h nxm sm
  have q5 := order_spec h nxm sm
  rw [g] at q2 q3 q4 q5
  have r := told_rk h fu ht
  have r1 := r.repr (by decide) (by decide)
  have r2 := r.ne
  have r3 := eq_str r.ok
  have md := fun i : Int => modG_ii (i := i) (j := n) (by omega)
  have fd := fun i : Int => fdivG_ii (i := i) (j := n) (by omega) (by
    have p60 : ((2 ^ 60 : Nat) : Int) = 1152921504606846976 := by decide
    have := log2_of_lt (i := n) (a := 60) (by omega) (by omega) (by decide)
    omega)
  have c1 := right_c1 h fu (d1 := .d (.tuple (T.map movD))) (d2 := .d (.list (w.stops.map .int))) (d4 := .d (.int w.gone)) (d5 := .d .none) (d6 := .u) (d7 := .u) (d9 := .u)
  have c2 := right_c2 (xs := T.map movD) (by rw [List.length_map]; omega) (d0 := .d (houseD n s es)) (d2 := .d (.list (w.stops.map .int))) (d3 := .d (tkD w.taken)) (d4 := .d (.int w.gone)) (d5 := .d .none) (d6 := .L 0 [.int (w.gone / n), .tuple (w.stops.map .int), takenD es w]) (d7 := .u) (d8 := .u)
  generalize T.map movD = xs at *
  generalize hsh : (PyData.list (toldD n es w xs)).shown = sh at r1 r2 r3
  simp only [toldD, takenD] at r1 c2
  simp only [goneD, takenD, houseD] at q1 q2 q3 q4 q5 c1 c2 ⊢
  unfold f__law_right b__law_right i__law_right_1
  have in1 : isnG .none .none = some (.d (.bool false)) := rfl
  have il : (3 : Nat) < sizeLine := Nat.lt_of_lt_of_le (by decide) b
  have i4 : (4 : Nat) ≤ sizeLine := Nat.le_trans (by decide) b
  simp [q1, q2, q3, q4, q5, c1, c2, md, fd, g2, r1, r2, r3, addG_ll, il, i4, appG, in1]
end
/-! ### rides by hand -/
section
variable {n s : Int}
def bareW (n s : Int) (g : Nat) : Wk := ⟨(s + g) % n, (List.range (g + 1)).map fun (i : Nat) => (s + (i : Int)) % n, [], g⟩
theorem bare_walk (n0 : 0 < n) : ∀ (m k g : Nat), walkG n [] (List.replicate m .none) k (bareW n s g) = (bareW n s (g + m), none)
  | 0, k, g => rfl
  | m + 1, k, g => by
    have e : (bareW n s g).step n [] .none = some (bareW n s (g + 1)) := by
      show some (Wk.go n (bareW n s g) 1) = _
      unfold Wk.go bareW
      simp only [List.range_succ, List.map_append, List.map_cons, List.map_nil]
      rw [Int.emod_add_emod]
      have e1 : (s + (g : Int) + 1) % n = (s + ((g + 1 : Nat) : Int)) % n := by congr 1; omega
      rw [e1]
      rfl
    rw [List.replicate_succ]
    unfold walkG
    rw [e]
    have := bare_walk n0 m (k + 1) (g + 1)
    rw [show g + 1 + m = g + (m + 1) by omega] at this
    exact this
theorem bare_ride (h : OkH n s []) (m : Nat) (hm : (m : Int) % n = 0) : rideOf n s [] (.tuple (List.replicate m .none)) = .ok (bareW n s m) := by
  have e := bare_walk (s := s) (n := n) (by have := h.n0; omega) m 0 0
  have st : bareW n s 0 = .start s := by
    have e : s % n = s := Int.emod_eq_of_lt h.s0 h.s1
    simp [bareW, Wk.start, e]
  rw [st, Nat.zero_add] at e
  show rideT n s [] (List.replicate m .none) = _
  unfold rideT
  rw [e]
  have at_ : (bareW n s m).at_ = s := by
    show (s + (m : Int)) % n = s
    rw [← Int.add_emod_emod, hm, Int.add_zero, Int.emod_eq_of_lt h.s0 h.s1]
  show (if _ ∨ _ then _ else _) = _
  rw [if_neg (fun z => z.elim (fun z => absurd z (by simp)) fun z => z at_)]
end

def okB (r : Rd3) (p : Wk → Bool) : Bool := match r with
  | .ok w => p w
  | .bad _ => false
theorem okB_some {r : Rd3} {p : Wk → Bool} (h : okB r p = true) : ∃ w, r = .ok w ∧ p w = true := by
  cases r with
  | ok w => exact ⟨w, rfl, h⟩
  | bad x => cases h
theorem tells {n s : Int} {es : List E} {xs : List D} {w : Wk} (h : OkH n s es) (hx : nx 1 (.tuple xs) = true) (hl : xs.length < 800000) (g : rideOf n s es (.tuple xs) = .ok w) :
    f_rounds_of [.d (houseD n s es), .d (.tuple xs)] = some (.ok (.d (.int (w.gone / n))) [.d (houseD n s es), .d (.tuple xs)]) ∧
    f_halts [.d (houseD n s es), .d (.tuple xs)] = some (.ok (.d (.tuple (w.stops.map .int))) [.d (houseD n s es), .d (.tuple xs)]) ∧
    f_taken_at [.d (houseD n s es), .d (.tuple xs)] = some (.ok (.d (takenD es w)) [.d (houseD n s es), .d (.tuple xs)]) ∧
    f_order_of [.d (houseD n s es), .d (.tuple xs)] = some (.ok (.d (.tuple (xs.filter fun y => !isD y))) [.d (houseD n s es), .d (.tuple xs)]) := by
  have q2 := rounds_spec h hx hl
  have q3 := halts_spec h hx hl
  have q4 := taken_spec h hx hl
  have q5 := order_spec h hx hl
  rw [g] at q2 q3 q4 q5
  exact ⟨q2, q3, q4, q5⟩
theorem mul_one {x : D} {k : Int} (h0 : 2 ≤ k) (h1 : k ≤ 10000) : mulG (.tuple [x]) (.int k) = some (.d (.tuple (List.replicate k.toNat x))) := by
  have e : mulG (.tuple [x]) (.int k) = mulT (.tuple [x]) (.int k) := by
    unfold mulG
    rw [show mulI (.tuple [x]) (.int k) = none from rfl]
    rfl
  rw [e]
  show (if _ then _ else _) = _
  rw [if_pos ⟨by simp, h0, .inr ⟨h1, by simp⟩⟩, List.flatten_replicate_singleton]
theorem lay_ints (l : List Int) : layD (.tuple (l.map .int)) = true := by
  simp only [layD, lay, List.all_map, List.all_eq_true]
  intro m _
  rfl
def farL : List Int := (List.range 2081).map fun (i : Nat) => (3 + (i : Int)) % 16
theorem ok_far : OkH 16 3 [] := ⟨by decide, by decide, by decide, by decide, by decide, fun e h => by cases h⟩
theorem far_told : ∃ R F : List D, mulG (.tuple [.none]) (.int 2080) = some (.d (.tuple R)) ∧ F = farL.map .int ∧ layD (.tuple F) = true ∧
    f_rounds_of [.d (houseD 16 3 []), .d (.tuple R)] = some (.ok (.d (.int 130)) [.d (houseD 16 3 []), .d (.tuple R)]) ∧
    f_halts [.d (houseD 16 3 []), .d (.tuple R)] = some (.ok (.d (.tuple F)) [.d (houseD 16 3 []), .d (.tuple R)]) := by
  have mu := mul_one (x := .none) (k := 2080) (by decide) (by decide)
  have t := tells ok_far (by
    simp only [nx, List.all_eq_true]
    intro x hx
    rw [(List.mem_replicate.mp hx).2]
    rfl) (by rw [List.length_replicate]; decide) (bare_ride ok_far 2080 (by decide))
  refine ⟨_, _, mu, rfl, lay_ints farL, t.1, t.2.1⟩
theorem nil_told : f_rounds_of [.d (houseD 16 3 []), .d (.tuple [])] = some (.ok (.d (.int 0)) [.d (houseD 16 3 []), .d (.tuple [])]) ∧ f_halts [.d (houseD 16 3 []), .d (.tuple [])] = some (.ok (.d (.tuple [.int 3])) [.d (houseD 16 3 []), .d (.tuple [])]) ∧
    f_taken_at [.d (houseD 16 3 []), .d (.tuple [])] = some (.ok (.d (.tuple [])) [.d (houseD 16 3 []), .d (.tuple [])]) ∧ f_order_of [.d (houseD 16 3 []), .d (.tuple [])] = some (.ok (.d (.tuple [])) [.d (houseD 16 3 []), .d (.tuple [])]) := by
  have t := tells ok_far (xs := []) (by rfl) (by decide) (bare_ride ok_far 0 (by decide))
  exact t
theorem hand_c1 {d0 d1 d2 d3 : SV} : c__law_hand_right_1 [d0, d1, d2, d3, .u] = some (.ok (.nL (farL.map .int)) [d0, d1, d2, d3, .u]) := by
  have e : farL.map PyData.int = (List.range 2081).map fun (i : Nat) => PyData.int ((3 + (i : Int)) % 16) := by
    unfold farL
    rw [List.map_map]
    rfl
  rw [e]
  unfold c__law_hand_right_1
  refine lc_map (fun (i : Nat) => PyData.int (i : Int)) _ (List.range 2081) ?_ (by simp) (by rw [List.length_range]; decide) fun i hi => ⟨[d0, d1, d2, d3, .d (.int (i : Int))], ?_, ?_, ?_⟩
  · have r := rngD_map 2081
    have ri := fun δ => rngI_ok (δ := δ) (j := (2081 : Int)) (by decide) (by decide)
    rw [show (2081 : Int).toNat = 2081 from rfl, r] at ri
    generalize List.range 2081 = L at ri ⊢
    simp [ri]
  · simp
  · simp
  · simp
theorem hand_c2 {d0 d1 d2 d3 : SV} : c__law_hand_right_2 [d0, d1, d2, d3, .u] = some (.ok (.nL ((List.range 40).map fun (i : Nat) => .int (48 * (39 - (i : Int))))) [d0, d1, d2, d3, .u]) := by
  unfold c__law_hand_right_2
  refine lc_map (fun (i : Nat) => PyData.int (i : Int)) _ (List.range 40) ?_ (by simp) (by rw [List.length_range]; decide) fun i hi => ⟨[d0, d1, d2, d3, .d (.int (i : Int))], ?_, ?_, ?_⟩
  · have r := rngD_map 40
    have ri := fun δ => rngI_ok (δ := δ) (j := (40 : Int)) (by decide) (by decide)
    rw [show (40 : Int).toNat = 40 from rfl, r] at ri
    generalize List.range 40 = L at ri ⊢
    simp [ri]
  · simp
  · simp
  · have hi := List.mem_range.mp hi
    have m := mulG_ii (i := 48) (j := 39 - (i : Int)) (by
      have : (39 - (i : Int)).natAbs.log2 < 60 := log2_of_lt (by have : ((2 ^ 60 : Nat) : Int) = 1152921504606846976 := by decide
                                                                 omega) (by have : ((2 ^ 60 : Nat) : Int) = 1152921504606846976 := by decide
                                                                            omega) (by decide)
      have : (48 : Int).natAbs.log2 = 5 := by decide
      omega)
    simp [m]
def manyE : List E := List.replicate 40 (0, 48)
theorem ok_many : OkH 16 0 manyE := ⟨by decide, by decide, by decide, by decide, by decide +kernel, fun e h => by
  rw [(List.mem_replicate.mp h).2]
  exact ⟨by decide, by decide, by decide, by decide⟩⟩
theorem many_told : ∃ (W : List D) (T : List Int), revTG (.tuple (rngD 0 40)) = some (.d (.tuple W)) ∧ T.map PyData.int = (List.range 40).map (fun (i : Nat) => PyData.int (48 * (39 - (i : Int)))) ∧
    f_rounds_of [.d (houseD 16 0 manyE), .d (.tuple W)] = some (.ok (.d (.int 120)) [.d (houseD 16 0 manyE), .d (.tuple W)]) ∧
    f_taken_at [.d (houseD 16 0 manyE), .d (.tuple W)] = some (.ok (.d (.tuple (T.map .int))) [.d (houseD 16 0 manyE), .d (.tuple W)]) := by
  obtain ⟨w, g, hw⟩ := okB_some (r := rideOf 16 0 manyE (.tuple (rngD 0 40).reverse)) (p := fun w => decide (w.gone / 16 = 120) && decide ((List.range 40).map (tkAt w.taken) = (List.range 40).map fun (i : Nat) => 48 * (39 - (i : Int)))) (by decide +kernel)
  rw [Bool.and_eq_true] at hw
  have h1 := of_decide_eq_true hw.1
  have h2 := of_decide_eq_true hw.2
  have t := tells ok_many (by decide +kernel) (by decide +kernel) g
  refine ⟨_, (List.range 40).map (tkAt w.taken), rfl, by rw [h2, List.map_map]; rfl, ?_, ?_⟩
  · rw [← h1]; exact t.1
  · have e : takenD manyE w = .tuple (((List.range 40).map (tkAt w.taken)).map .int) := by
      rw [List.map_map]
      rfl
    rw [← e]
    exact t.2.2.1
def someE : List E := [(0, 1), (1, 2), (1, 6)]
def someM : List D := [.int 2, .none, .int 0, .int 1]
theorem ok_some : OkH 2 1 someE := ⟨by decide, by decide, by decide, by decide, by decide, fun e h => by
  simp only [someE, List.mem_cons, List.not_mem_nil, or_false] at h
  rcases h with rfl | rfl | rfl <;> exact ⟨by decide, by decide, by decide, by decide⟩⟩
theorem some_told : f_rounds_of [.d (houseD 2 1 someE), .d (.tuple someM)] = some (.ok (.d (.int 5)) [.d (houseD 2 1 someE), .d (.tuple someM)]) ∧ f_halts [.d (houseD 2 1 someE), .d (.tuple someM)] = some (.ok (.d (.tuple ([1, 1, 0, 1, 1].map .int))) [.d (houseD 2 1 someE), .d (.tuple someM)]) ∧
    f_taken_at [.d (houseD 2 1 someE), .d (.tuple someM)] = some (.ok (.d (.tuple ([7, 8, 0].map .int))) [.d (houseD 2 1 someE), .d (.tuple someM)]) ∧ f_order_of [.d (houseD 2 1 someE), .d (.tuple someM)] = some (.ok (.d (.tuple ([2, 0, 1].map .int))) [.d (houseD 2 1 someE), .d (.tuple someM)]) := by
  obtain ⟨w, g, hw⟩ := okB_some (r := rideOf 2 1 someE (.tuple someM)) (p := fun w => decide (w.gone / 2 = 5) && decide (w.stops = [1, 1, 0, 1, 1]) && decide ((List.range 3).map (tkAt w.taken) = [7, 8, 0])) (by decide +kernel)
  rw [Bool.and_eq_true, Bool.and_eq_true] at hw
  have h1 := of_decide_eq_true hw.1.1
  have h2 := of_decide_eq_true hw.1.2
  have h3 := of_decide_eq_true hw.2
  have t := tells ok_some (by decide +kernel) (by decide +kernel) g
  refine ⟨by rw [← h1]; exact t.1, by rw [← h2]; exact t.2.1, ?_, t.2.2.2⟩
  have e : takenD someE w = .tuple (((List.range 3).map (tkAt w.taken)).map .int) := by
    rw [List.map_map]
    rfl
  rw [← h3, ← e]
  exact t.2.2.1
theorem hand_spec : f__law_hand_right [] = some (.ok (.d (.bool true)) []) := by
  obtain ⟨R, F, mu, hF, lF, a1, a2⟩ := far_told
  obtain ⟨b1, b2, b3, b4⟩ := nil_told
  obtain ⟨W, T, rv, hT, c1, c2⟩ := many_told
  obtain ⟨d1, d2, d3, d4⟩ := some_told
  have k1 := fun d0 d1 d2 d3 => hand_c1 (d0 := d0) (d1 := d1) (d2 := d2) (d3 := d3)
  have k2 := fun d0 d1 d2 d3 => hand_c2 (d0 := d0) (d1 := d1) (d2 := d2) (d3 := d3)
  rw [← hF] at k1
  rw [← hT] at k2
  have n1 := ne_same lF
  have n2 := ne_same (lay_ints T)
  have mu2 := mul_one (x := errD (0, 48)) (k := 40) (by decide) (by decide)
  have ex : List.replicate (40 : Int).toNat (errD (0, 48)) = manyE.map errD := by
    unfold manyE
    rw [List.map_replicate]
    rfl
  rw [ex] at mu2
  have rg := r_rangeT (n := 40) (by decide)
  generalize T.map PyData.int = TT at k2 n2 c2
  generalize farL.map PyData.int = FF at hF
  generalize hM : manyE.map errD = MM at mu2
  have n3 : neG (.list [.int 0, .tuple [.int 3], .tuple [], .tuple []]) (.list [.int 0, .tuple [.int 3], .tuple [], .tuple []]) = some (.d (.bool false)) := ne_same (by decide +kernel)
  have n4 : eqG (.list [.int 5, .tuple [.int 1, .int 1, .int 0, .int 1, .int 1], .tuple [.int 7, .int 8, .int 0], .tuple [.int 2, .int 0, .int 1]]) (.list [.int 5, .tuple [.int 1, .int 1, .int 0, .int 1, .int 1], .tuple [.int 7, .int 8, .int 0], .tuple [.int 2, .int 0, .int 1]]) = some (.d (.bool true)) := eq_same (by decide +kernel)
  simp only [houseD, List.map_nil, hM] at a1 a2 b1 b2 b3 b4 c1 c2
  simp only [houseD, someE, someM, errD, List.map_cons, List.map_nil] at d1 d2 d3 d4
  have mu3 : mulG (.tuple [.tuple [.int 0, .int 48]]) (.int 40) = some (.d (.tuple MM)) := mu2
  have rg2 : rangeG (.int 40) = some (.d (.tuple (rngD 0 40))) := rg
  generalize rngD 0 40 = RR at rg2 rv
  unfold f__law_hand_right b__law_hand_right i__law_hand_right_1 i__law_hand_right_2 i__law_hand_right_3 i__law_hand_right_4
  simp [mu, a1, a2, b1, b2, b3, b4, c1, c2, d1, d2, d3, d4, k1, k2, n1, n2, n3, n4, mu3, rg2, rv]
/-! ### the law -/
theorem maxI_ge {l : List Int} {x : Int} (h : x ∈ l) : x ≤ (maxI l).getD 0 := by
  cases l with
  | nil => cases h
  | cons a r => exact (DL.fold_max r a).2 x h
theorem maxI_mem {l : List Int} (h : l ≠ []) : (maxI l).getD 0 ∈ l := by
  cases l with
  | nil => exact absurd rfl h
  | cons a r => exact (DL.fold_max r a).1
section
variable {n s : Int} {es : List E} {st : CP.St} {m : Nat}
theorem went_spec (h : OkH n s es) (ok : st.Ok m) (hm : m < 800000) {often : Int} (hb : ∀ l ∈ loadsI n es, l ≤ often) (ho : often ≤ 250) (d0 d2 d3 d5 d7 : SV) :
    ∃ (st' : CP.St) (y7 : SV), b_law_l1 [d0, .M 0 st.k, d2, d3, .d (houseD n s es), d5, .d (.int often), d7] = some (.nx [d0, .M 0 st'.k, d2, d3, .d (houseD n s es), d5, .d (.int often), y7]) ∧ st'.Ok (m + 5000) := by
  obtain ⟨at', spare', left', found', w', st', I, ok', _, fl, e⟩ := ride_spec h ok hm 0 hb ho
  refine ⟨st', .d (rideD at' s spare' left' found'), ?_, ok'⟩
  unfold b_law_l1 i_law_1
  unfold rideD at e ⊢
  by_cases c : left' = [] ∧ spare'.sum = 0 ∧ at' = s
  · rw [if_pos c] at e ⊢
    obtain ⟨g, g2⟩ := ride_good h I c.1 c.2.2
    have r := right_spec h g g2 fl
    generalize found'.map movD = xs at e r ⊢
    simp [e, r, isnG, isD]
  · rw [if_neg c] at e ⊢
    simp [e, isnG, isD]
theorem floors_ix {a b q : Int} (a0 : 0 ≤ a) (a1 : a < 7) (b0 : 0 ≤ b) (b1 : b < 15) (q0 : 0 ≤ q) (q1 : q < 2) : ∃ m : Int, ixG (.list [.int (2 + a), .int (2 + b)]) (.int q) = some (.d (.int m)) ∧ 2 ≤ m ∧ m ≤ 16 := by
  have e : q = 0 ∨ q = 1 := by omega
  rcases e with e | e <;> subst e
  · exact ⟨_, ixl_get (k := 0) rfl, by omega, by omega⟩
  · exact ⟨_, ixl_get (k := 1) rfl, by omega, by omega⟩
theorem turn_spec (hs : st.Ok m) (hm : m < 400000) {d0 d2 d3 d4 d5 d6 d7 : SV} : ∃ (st' : CP.St) (y3 y4 y5 y6 y7 : SV), b_law_l2 [d0, .M 0 st.k, d2, d3, d4, d5, d6, d7] = some (.nx [d0, .M 0 st'.k, d2, y3, y4, y5, y6, y7]) ∧ st'.Ok (m + 10204) := by
  obtain ⟨a, s1, e1, a0, a1, h1, _⟩ := next_spec (n := 0) (many := 7) hs (by omega) (by decide) (by decide)
  obtain ⟨b, s2, e2, b0, b1, h2, _⟩ := next_spec (n := 0) (many := 15) h1 (by omega) (by decide) (by decide)
  obtain ⟨q, s3, e3, q0, q1, h3, _⟩ := next_spec (n := 0) (many := 2) h2 (by omega) (by decide) (by decide)
  obtain ⟨size, e4, z0, z1⟩ := floors_ix a0 a1 b0 b1 q0 q1
  obtain ⟨start, es, s4, e5, ok, hl, h4, _⟩ := lhouse_spec (n := 0) (most := 12) h3 (by omega) z0 z1 (by decide) (by decide)
  have e6 := lloads_spec ok
  have ne := loadsI_ne (n := size) (es := es) (by omega)
  have e7 := max_ints false ne
  simp only [Bool.false_eq_true, if_false] at e7
  have mx := load_sz ok _ (maxI_mem ne)
  have mg : ∀ l ∈ loadsI size es, l ≤ (maxI (loadsI size es)).getD 0 := fun l h => maxI_ge h
  generalize (maxI (loadsI size es)).getD 0 = most at e7 mx mg
  obtain ⟨r, s5, e8, r0, r1, h5, _⟩ := next_spec (n := 0) (many := 3) h4 (by omega) (by decide) (by decide)
  obtain ⟨s6, y7, e9, h6⟩ := went_spec ok h5 (by omega) (often := most + r) (fun l hl => by have := mg l hl; omega) (by omega) d0 d2 (.d (.int size)) (.d (.int most)) d7
  obtain ⟨s7, z7, e10, h7⟩ := went_spec ok h6 (by omega) (often := most + 1) (fun l hl => by have := mg l hl; omega) (by omega) d0 d2 (.d (.int size)) (.d (.int most)) y7
  refine ⟨s7, .d (.int size), .d (houseD size start es), .d (.int most), .d (.int (most + 1)), z7, ?_, h7.le (by omega)⟩
  unfold b_law_l2
  simp [e1, e2, e3, e4, e5, e6, e7, e8, e9, e10, forGo]
end
theorem law_true (ns : List Int) (hn : ns.length ≤ 63) (hb : ∀ z ∈ ns, Builtin.Int.intBits z ≤ 1048576) : ∃ δ, f_law [.d (scriptD ns)] = some (.ok (.d (.bool true)) δ) := by
  obtain ⟨s, e1, h1, _⟩ := begin_spec ns hn
  have hh := hand_spec
  have fd := fdivG_ii (i := (ns.length : Int)) (j := 4) (by decide) (by decide +kernel)
  obtain ⟨N, mn, n0, n1⟩ : ∃ N : Int, min2G [.int 4, .int ((ns.length : Int) / 4)] = some (.d (.int N)) ∧ 0 ≤ N ∧ N ≤ 4 := by
    refine ⟨_, rfl, ?_, ?_⟩ <;> split <;> omega
  have b := fun δ => rngI_ok (δ := δ) (j := 3 + N) (by omega) (by omega)
  obtain ⟨δ', e2, s', y2, y3, y4, y5, y6, y7, rfl, _⟩ := forGo_inv (t := nameT 2) (s := b_law_l2) (P := fun i δ => ∃ (s' : CP.St) (y2 y3 y4 y5 y6 y7 : SV), δ = [.d (scriptD ns), .M 0 s'.k, y2, y3, y4, y5, y6, y7] ∧ s'.Ok (10204 * i)) (rngD 0 (3 + N).toNat) 0 [.d (scriptD ns), .M 0 s.k, .u, .u, .u, .u, .u, .u] ⟨s, .u, .u, .u, .u, .u, .u, rfl, h1⟩ (by
    intro j x δ hx h
    obtain ⟨s', y2, y3, y4, y5, y6, y7, rfl, hs⟩ := h
    have hj : j < 24 := by
      have := (rngD_get hx).2
      omega
    obtain ⟨s2, z3, z4, z5, z6, z7, e, k⟩ := turn_spec hs (by omega) (d0 := .d (scriptD ns)) (d2 := .d x) (d3 := y3) (d4 := y4) (d5 := y5) (d6 := y6) (d7 := y7)
    exact ⟨_, _, rfl, .inl e, s2, _, _, _, _, _, _, rfl, k.le (by omega)⟩)
  refine ⟨[.d (scriptD ns)], ?_⟩
  unfold f_law b_law
  unfold scriptD at e1 e2 ⊢
  simp [e1, e2, mn, b, hh, fd]
end K16

set_option maxHeartbeats 0
open PySem PySem.W PySem.Calls PyProof.Rows in
theorem PySem.Challenge.cw_oneseat_k16_told_of_rides_holds : PySem.Challenge.rw_oneseat_k16_told_of_rides.Holds := by
  w_on; o_law
  refine HandSHeadRun.head_any (r := OpenLaw.row PySem.Challenge.rw_oneseat_k16_told_of_rides) (q := view (OpenLaw.row PySem.Challenge.rw_oneseat_k16_told_of_rides).prog [39]) (H := K16.hk) (ob := K16.ob) (M := 20000) (loose := K16.names) (d := HandSHeadRun.topDef (OpenLaw.row PySem.Challenge.rw_oneseat_k16_told_of_rides).prog 39) (kwd := []) K16.ob_eq
    (by kernel_rfl) (fun s => by kernel_rfl) K16.run (by kernel_rfl) (by kernel_rfl) (by kernel_rfl) (by rfl) (by first | assumption | decide +kernel) (by decide +kernel) ⟨rfl, rfl, rfl, rfl, rfl, by decide +kernel⟩ ?hw ?hc
  case hw => w_witness2
  case hc =>
    refine DL.walk_G (l := PySem.Challenge.rw_oneseat_k16_told_of_rides) (n := 63) (k := 9) (x := "script") (Fs := K16.f_law) rfl (by decide) (by kernel_rfl) ⟨rfl, by decide, by decide⟩ K16.law_true fun w mg fa h Y G hmg0 => ?_
    obtain ⟨K, KX, c⟩ := Y
    have T := K16.top_of KX G c
    have hmg : mg ("law" : PySem.Str) = some (.ref fa) := by
      have e : (HandSHeadRun.topDef (OpenLaw.row PySem.Challenge.rw_oneseat_k16_told_of_rides).prog 39).name = ("law" : PySem.Str) := by kernel_rfl
      rw [← e]
      exact hmg0
    have e := hmg.symm.trans T.m_law
    cases e
    obtain ⟨fd, F⟩ := T.d_law
    have b := L2.FunD.bindsA (ps := ["script"]) F fun _ _ _ _ _ _ us hl => match us, hl with | [_], _ => rfl
    refine ⟨K, fd, KX, fun s u => b s [u] rfl, fun base inb nsb => ?_⟩
    obtain ⟨fd', F', Gf⟩ := K16.g_law (P := (PySem.Challenge.rw_oneseat_k16_told_of_rides).prog) (w := w) (base := base) T
    rw [DL.fd_uniq F F'] at Gf
    exact Gf
