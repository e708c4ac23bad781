import PyProof.Rows.All
import Wide.All
import OpenK.AllK
import Wide.FinOn
import HandS.ForMost
import HandS.Evl
import HandS.Wide
import HandS.IsInst
import HandS.SortInts
import HandS.TupAny
import HandS.Dict
import KE.GoesEnum
import PySem.Challenge.RW_boxgalley_k60_texts_and_costs_of_rows
set_option Elab.async false
set_option linter.all false
set_option maxRecDepth 100000
set_option maxHeartbeats 2000000
/-! Wk: typed mirrors over the hand layer: what a value stands for, a state by slots and owned objects, one rule a construct. -/
namespace Wk
open PySem PySem.Spec L2 Evl

abbrev Fg := PySem.W.Frag
/-- v stands for a, by what is known in H -/
class Rp (α : Type) where
  rep : Fg → Hp → V → α → Prop
  mono : ∀ {K : Fg} {H H' : Hp} {v : V} {a : α}, Ex H H' → rep K H v a → rep K H' v a
/-- the places of a tuple | the arguments of a call -/
class Tp (τ : Type) where
  n : Nat
  rept : Fg → Hp → List V → τ → Prop
  len : ∀ {K : Fg} {H : Hp} {vs : List V} {t : τ}, rept K H vs t → vs.length = n
  mono : ∀ {K : Fg} {H H' : Hp} {vs : List V} {t : τ}, Ex H H' → rept K H vs t → rept K H' vs t
abbrev rep {α : Type} [Rp α] (K : Fg) (H : Hp) (v : V) (a : α) : Prop := Rp.rep K H v a
abbrev rept {τ : Type} [Tp τ] (K : Fg) (H : Hp) (vs : List V) (t : τ) : Prop := Tp.rept K H vs t
/-- what needs no heap -/
class Fl (α : Type) [Rp α] where
  toV : α → V
  iff : ∀ {K : Fg} {H : Hp} {v : V} {a : α}, Rp.rep K H v a ↔ v = toV a

inductive Nn where | nn
  deriving DecidableEq
instance rpInt : Rp Int := { rep := fun _ _ v a => v = .int a, mono := fun _ h => h }
instance : Fl Int := { toV := V.int, iff := Iff.rfl }
instance rpBool : Rp Bool := { rep := fun _ _ v a => v = .bl a, mono := fun _ h => h }
instance : Fl Bool := { toV := V.bl, iff := Iff.rfl }
instance rpStr : Rp Str := { rep := fun _ _ v a => v = .str a, mono := fun _ h => h }
instance : Fl Str := { toV := V.str, iff := Iff.rfl }
instance rpNn : Rp Nn := { rep := fun _ _ v _ => v = .non, mono := fun _ h => h }
instance : Fl Nn := { toV := fun _ => V.non, iff := Iff.rfl }
/-- None, or something -/
instance {α : Type} [Rp α] : Rp (Option α) where
  rep K H v a := match a with | none => v = .non | some x => v ≠ .non ∧ rep K H v x
  mono {K H H' v a} e h := match a, h with
    | none, h => h
    | some _, h => ⟨h.1, Rp.mono e h.2⟩

theorem paired_mono {α : Type} [Rp α] {K : Fg} {H H' : Hp} (e : Ex H H') {vs : List V} {xs : List α} (h : Paired (rep K H) vs xs) : Paired (rep K H') vs xs :=
  Paired.mapP h fun _ _ q => Rp.mono e q
/-- a list that stands exactly so -/
instance {α : Type} [Rp α] : Rp (List α) where
  rep K H v xs := ∃ p vs, v = .ref p ∧ H p = some (.lst vs) ∧ Paired (rep K H) vs xs
  mono e h := by
    obtain ⟨p, vs, h1, h2, h3⟩ := h
    exact ⟨p, vs, h1, e _ _ h2, paired_mono e h3⟩
/-- a list that is read (the script, a list of the top) -/
structure Fz (α : Type) where
  l : List α
instance {α : Type} [Rp α] : Rp (Fz α) where
  rep K H v xs := ∃ p vs, v = .ref p ∧ SqL K H p vs ∧ Paired (rep K H) vs xs.l
  mono e h := by
    obtain ⟨p, vs, h1, h2, h3⟩ := h
    exact ⟨p, vs, h1, ex_l e h2, paired_mono e h3⟩
/-- a tuple of the top -/
structure Kt (α : Type) where
  l : List α
instance {α : Type} [Rp α] : Rp (Kt α) where
  rep K H v xs := ∃ p vs, v = .ref p ∧ SqT K H p vs ∧ Paired (rep K H) vs xs.l
  mono e h := by
    obtain ⟨p, vs, h1, h2, h3⟩ := h
    exact ⟨p, vs, h1, ex_t e h2, paired_mono e h3⟩
/-- a tuple of alike things, of any length -/
structure Tu (α : Type) where
  l : List α
  deriving DecidableEq
instance {α : Type} [Rp α] : Rp (Tu α) where
  rep K H v xs := ∃ p vs, v = .ref p ∧ H p = some (.tup vs) ∧ Paired (rep K H) vs xs.l
  mono e h := by
    obtain ⟨p, vs, h1, h2, h3⟩ := h
    exact ⟨p, vs, h1, e _ _ h2, paired_mono e h3⟩
instance : Tp Unit where
  n := 0
  rept _ _ vs _ := vs = []
  len h := by rw [h]; rfl
  mono _ h := h
instance {α τ : Type} [Rp α] [Tp τ] : Tp (α × τ) where
  n := Tp.n τ + 1
  rept K H vs t := ∃ v r, vs = v :: r ∧ rep K H v t.1 ∧ rept K H r t.2
  len h := by
    obtain ⟨v, r, h1, h2, h3⟩ := h
    rw [h1, List.length_cons, Tp.len h3]
  mono e h := by
    obtain ⟨v, r, h1, h2, h3⟩ := h
    exact ⟨v, r, h1, Rp.mono e h2, Tp.mono e h3⟩
/-- a tuple: (a, (b, (c, ()))) -/
instance {α τ : Type} [Rp α] [Tp τ] : Rp (α × τ) where
  rep K H v t := ∃ p vs, v = .ref p ∧ H p = some (.tup vs) ∧ rept K H vs t
  mono e h := by
    obtain ⟨p, vs, h1, h2, h3⟩ := h
    exact ⟨p, vs, h1, e _ _ h2, Tp.mono e h3⟩

/-! ### the state -/
inductive Sl : Type 1 where
  | any
  | val (α : Type) (i : Rp α) (x : α)
  | at (p : Addr)
def sv {α : Type} [i : Rp α] (x : α) : Sl := .val α i x
def Sl.ok (K : Fg) (Kn : Hp) : Sl → Option V → Prop
  | .any, _ => True
  | .val _ i x, o => ∃ v, o = some v ∧ i.rep K Kn v x
  | .at p, o => o = some (.ref p)
def SlsOk (K : Fg) (Kn : Hp) : List Sl → St → Prop
  | [], [] => True
  | s :: ss, o :: os => s.ok K Kn o ∧ SlsOk K Kn ss os
  | _, _ => False
theorem Sl.ok_mono {K : Fg} {H H' : Hp} (e : Ex H H') : ∀ {s : Sl} {o : Option V}, s.ok K H o → s.ok K H' o
  | .any, _, _ => trivial
  | .val _ i _, _, ⟨v, h1, h2⟩ => ⟨v, h1, i.mono e h2⟩
  | .at _, _, h => h
theorem SlsOk.mono {K : Fg} {H H' : Hp} (e : Ex H H') : ∀ {ss : List Sl} {σ : St}, SlsOk K H ss σ → SlsOk K H' ss σ
  | [], [], _ => trivial
  | _ :: _, _ :: _, h => ⟨Sl.ok_mono e h.1, SlsOk.mono e h.2⟩
theorem SlsOk.get {K : Fg} {H : Hp} : ∀ {ss : List Sl} {σ : St} {i : Nat} {s : Sl}, SlsOk K H ss σ → ss[i]? = some s → ∃ o, σ[i]? = some o ∧ s.ok K H o
  | _ :: _, o :: _, 0, _, h, e => by
    cases Option.some.inj e
    exact ⟨o, rfl, h.1⟩
  | _ :: ss, _ :: os, i + 1, s, h, e => SlsOk.get (ss := ss) (σ := os) (i := i) h.2 e
theorem SlsOk.set {K : Fg} {H : Hp} {s : Sl} {o : Option V} (hs : s.ok K H o) : ∀ {ss : List Sl} {σ : St} (i : Nat), SlsOk K H ss σ → SlsOk K H (ss.set i s) (σ.set i o)
  | [], [], _, _ => trivial
  | _ :: _, _ :: _, 0, h => ⟨hs, h.2⟩
  | _ :: _, _ :: _, i + 1, h => ⟨h.1, SlsOk.set hs i h.2⟩
/-- less is known -/
inductive SlLe : List Sl → List Sl → Prop
  | nil : SlLe [] []
  | keep {s : Sl} {a b : List Sl} : SlLe a b → SlLe (s :: a) (s :: b)
  | drop {s : Sl} {a b : List Sl} : SlLe a b → SlLe (s :: a) (.any :: b)
theorem SlLe.refl : ∀ (a : List Sl), SlLe a a
  | [] => .nil
  | _ :: r => .keep (SlLe.refl r)
theorem SlsOk.le {K : Fg} {H : Hp} : ∀ {a b : List Sl} {σ : St}, SlLe a b → SlsOk K H a σ → SlsOk K H b σ
  | _, _, [], .nil, _ => trivial
  | _, _, _ :: _, .keep l, h => ⟨h.1, SlsOk.le l h.2⟩
  | _, _, _ :: _, .drop l, h => ⟨trivial, SlsOk.le l h.2⟩

/-- what an object stands for, by what is known in H -/
class Ob (γ : Type) where
  ob : Fg → Hp → HO → γ → Prop
  mono : ∀ {K : Fg} {H H' : Hp} {o : HO} {x : γ}, Ex H H' → ob K H o x → ob K H' o x
/-- an object of one's own, that may change -/
inductive Ow : Type 1 where
  | lst (p : Addr) (α : Type) (i : Rp α) (xs : List α)
  | obj (p : Addr) (γ : Type) (i : Ob γ) (x : γ)
def oo {γ : Type} [i : Ob γ] (p : Addr) (x : γ) : Ow := .obj p γ i x
def ol {α : Type} [i : Rp α] (p : Addr) (xs : List α) : Ow := .lst p α i xs
def Ow.ad : Ow → Addr
  | .lst p _ _ _ => p
  | .obj p _ _ _ => p
def Ow.ok (K : Fg) (Kn H : Hp) : Ow → Prop
  | .lst p _ i xs => ∃ vs, H p = some (.lst vs) ∧ Paired (i.rep K Kn) vs xs
  | .obj p _ i x => ∃ o, H p = some o ∧ i.ob K Kn o x
theorem Ow.ok_mono {K : Fg} {Kn Kn' H H' : Hp} (e : Ex Kn Kn') : ∀ {o : Ow}, H' o.ad = H o.ad → o.ok K Kn H → o.ok K Kn' H'
  | .lst _ _ i _, eh, ⟨vs, h1, h2⟩ => ⟨vs, eh.trans h1, Paired.mapP h2 fun _ _ q => i.mono e q⟩
  | .obj _ _ i _, eh, ⟨o, h1, h2⟩ => ⟨o, eh.trans h1, i.mono e h2⟩
theorem ne_none_of {H : Hp} {p : Addr} {o : HO} (h : H p = some o) : H p ≠ none := fun z => by
  rw [h] at z
  cases z
theorem Ow.there {K : Fg} {Kn H : Hp} : ∀ {o : Ow}, o.ok K Kn H → H o.ad ≠ none
  | .lst p _ _ _, h => by
    obtain ⟨vs, h, _⟩ := h
    exact ne_none_of (show H p = some (.lst vs) from h)
  | .obj p _ _ _, h => by
    obtain ⟨o, h, _⟩ := h
    exact ne_none_of (show H p = some o from h)
structure OwsOk (K : Fg) (F Kn H : Hp) (ow : List Ow) : Prop where
  each : ∀ o ∈ ow, F o.ad = none ∧ Kn o.ad = none ∧ o.ok K Kn H
  nd : (ow.map Ow.ad).Nodup

/-- the state: F stands untouched, Kn is known (by and by more), the slots, the objects of one's own -/
structure S (K : Fg) (F Kn0 : Hp) (sl : List Sl) (ow : List Ow) (σ : St) (Kn H : Hp) : Prop where
  e0 : Ex Kn0 Kn
  ek : Ex Kn H
  ef : Ex F H
  sep : ∀ p, F p ≠ none → Kn0 p = none → Kn p = none
  sl : SlsOk K Kn sl σ
  ow : OwsOk K F Kn H ow

/-- growth: nothing that stood is touched, nothing that stood unknown is known -/
structure Gr (Kn H Kn' H' : Hp) : Prop where
  kk : Ex Kn Kn'
  hh : Ex H H'
  kh : Ex Kn' H'
  sp : ∀ p, H p ≠ none → Kn p = none → Kn' p = none
theorem Gr.refl {Kn H : Hp} (e : Ex Kn H) : Gr Kn H Kn H := ⟨Ex.refl _, Ex.refl _, e, fun _ _ h => h⟩
theorem Ex.nn {H H' : Hp} (e : Ex H H') {p : Addr} (h : H p ≠ none) : H' p ≠ none := by
  cases q : H p with
  | none => exact absurd q h
  | some o => exact ne_none_of (e _ _ q)
theorem Ex.at_eq {H H' : Hp} (e : Ex H H') {p : Addr} (h : H p ≠ none) : H' p = H p := by
  cases q : H p with
  | none => exact absurd q h
  | some o => exact e _ _ q
theorem Gr.trans {Kn H Kn1 H1 Kn2 H2 : Hp} (a : Gr Kn H Kn1 H1) (b : Gr Kn1 H1 Kn2 H2) : Gr Kn H Kn2 H2 :=
  ⟨a.kk.trans b.kk, a.hh.trans b.hh, b.kh, fun p h1 h2 => b.sp p (Ex.nn a.hh h1) (a.sp p h1 h2)⟩
/-- a new object, known -/
theorem Gr.new {Kn H : Hp} {p : Addr} {o : HO} (e : Ex Kn H) (hp : H p = none) : Gr Kn H (upd Kn p o) (upd H p o) := by
  have kp : Kn p = none := fresh_back e hp
  refine ⟨Ex.new kp, Ex.new hp, fun a u h => ?_, fun q h1 h2 => ?_⟩
  · by_cases hq : a = p
    · subst hq
      rw [upd_same] at h ⊢
      exact h
    · rw [upd_ne hq] at h ⊢
      exact e _ _ h
  · have hq : q ≠ p := fun z => by
      subst z
      exact h1 hp
    rw [upd_ne hq]
    exact h2
/-- a new object, not known yet -/
theorem Gr.newU {Kn H : Hp} {p : Addr} {o : HO} (e : Ex Kn H) (hp : H p = none) : Gr Kn H Kn (upd H p o) :=
  ⟨Ex.refl _, Ex.new hp, e.trans (Ex.new hp), fun _ _ h2 => h2⟩
/-- what was new is known from now on -/
theorem Gr.know {Kn H Kn' H' : Hp} {p : Addr} {o : HO} (g : Gr Kn H Kn' H') (hp : H p = none) (kp : Kn' p = none) (hp' : H' p = some o) : Gr Kn H (upd Kn' p o) H' :=
  ⟨g.kk.trans (Ex.new kp), g.hh, fun a u h => by
    by_cases hq : a = p
    · subst hq
      rw [upd_same] at h
      rw [← h]
      exact hp'
    · rw [upd_ne hq] at h
      exact g.kh _ _ h, fun q h1 h2 => by
    have hq : q ≠ p := fun z => by
      subst z
      exact h1 hp
    rw [upd_ne hq]
    exact g.sp q h1 h2⟩

section
variable {K : Fg} {F Kn0 : Hp} {sl sl' : List Sl} {ow ow' : List Ow} {σ : St} {Kn H Kn' H' : Hp}
theorem S.grow (s : S K F Kn0 sl ow σ Kn H) (g : Gr Kn H Kn' H') : S K F Kn0 sl ow σ Kn' H' :=
  ⟨s.e0.trans g.kk, g.kh, s.ef.trans g.hh, fun p h1 h2 => g.sp p (Ex.nn s.ef h1) (s.sep p h1 h2), s.sl.mono g.kk,
    ⟨fun o ho => by
      obtain ⟨h1, h2, h3⟩ := s.ow.each o ho
      have h4 := Ow.there h3
      exact ⟨h1, g.sp _ h4 h2, Ow.ok_mono g.kk (Ex.at_eq g.hh h4) h3⟩, s.ow.nd⟩⟩
theorem S.le (s : S K F Kn0 sl ow σ Kn H) (l : SlLe sl sl') : S K F Kn0 sl' ow σ Kn H := ⟨s.e0, s.ek, s.ef, s.sep, s.sl.le l, s.ow⟩
theorem S.set (s : S K F Kn0 sl ow σ Kn H) {x : Sl} {o : Option V} (i : Nat) (h : x.ok K Kn o) : S K F Kn0 (sl.set i x) ow (σ.set i o) Kn H :=
  ⟨s.e0, s.ek, s.ef, s.sep, SlsOk.set h i s.sl, s.ow⟩
theorem S.setv (s : S K F Kn0 sl ow σ Kn H) {α : Type} [Rp α] {x : α} {v : V} (i : Nat) (h : rep K Kn v x) : S K F Kn0 (sl.set i (sv x)) ow (σ.set i (some v)) Kn H :=
  s.set i ⟨v, rfl, h⟩
/-- some objects are not named any more -/
theorem S.sub (s : S K F Kn0 sl ow σ Kn H) (l : ow'.Sublist ow) : S K F Kn0 sl ow' σ Kn H :=
  ⟨s.e0, s.ek, s.ef, s.sep, s.sl, ⟨fun o ho => s.ow.each o (l.subset ho), s.ow.nd.sublist (l.map _)⟩⟩
theorem S.fin (s : S K F Kn0 sl ow σ Kn H) : S K F Kn0 [] ow [] Kn H := ⟨s.e0, s.ek, s.ef, s.sep, trivial, s.ow⟩
end

/-! ### the judgements -/
section
variable (K : Fg) (F Kn0 : Hp) (sl : List Sl) (ow : List Ow)
def EV {α : Type} [Rp α] (te : TE) (x : α) : Prop := ∀ σ Kn H, S K F Kn0 sl ow σ Kn H → ∀ Q : VK, (∀ v Kn' H', Gr Kn H Kn' H' → rep K Kn' v x → Q v H') → te σ H Q
/-- a new list -/
def EN {α : Type} [Rp α] (te : TE) (xs : List α) : Prop := ∀ σ Kn H, S K F Kn0 sl ow σ Kn H → ∀ Q : VK,
  (∀ p ws Kn' H', Gr Kn H Kn' H' → H p = none → Kn' p = none → H' p = some (.lst ws) → Paired (rep K Kn') ws xs → Q (.ref p) H') → te σ H Q
/-- what is changed on the way is told: ow, then ow' -/
def EM {α : Type} [Rp α] (te : TE) (ow' : List Ow) (x : α) : Prop := ∀ σ Kn H, S K F Kn0 sl ow σ Kn H → ∀ Q : VK,
  (∀ v Kn' H', Ex Kn Kn' → S K F Kn0 sl ow' σ Kn' H' → rep K Kn' v x → Q v H') → te σ H Q
def ENM {α : Type} [Rp α] (te : TE) (ow' : List Ow) (xs : List α) : Prop := ∀ σ Kn H, S K F Kn0 sl ow σ Kn H → ∀ Q : VK,
  (∀ p ws Kn' H', Ex Kn Kn' → S K F Kn0 sl ow' σ Kn' H' → F p = none → Kn' p = none → (∀ o ∈ ow', o.ad ≠ p) → H' p = some (.lst ws) → Paired (rep K Kn') ws xs → Q (.ref p) H') → te σ H Q
def ET (tt : TT) (b : Bool) : Prop := ∀ σ Kn H, S K F Kn0 sl ow σ Kn H → ∀ Q : Bool → Hp → Prop, (∀ Kn' H', Gr Kn H Kn' H' → Q b H') → tt σ H Q
def EA {τ : Type} [Tp τ] (ta : TA) (t : τ) : Prop := ∀ σ Kn H, S K F Kn0 sl ow σ Kn H → ∀ Q : List V → Hp → Prop, (∀ vs Kn' H', Gr Kn H Kn' H' → rept K Kn' vs t → Q vs H') → ta σ H Q
def EAM {τ : Type} [Tp τ] (ta : TA) (ow' : List Ow) (t : τ) : Prop := ∀ σ Kn H, S K F Kn0 sl ow σ Kn H → ∀ Q : List V → Hp → Prop,
  (∀ vs Kn' H', Ex Kn Kn' → S K F Kn0 sl ow' σ Kn' H' → rept K Kn' vs t → Q vs H') → ta σ H Q
def SB (D : Ends) (ts : TS) : Prop := ∀ σ Kn H, S K F Kn0 sl ow σ Kn H → ts D σ H
/-- what is wanted of a return -/
def RT (R : VK) {α : Type} [Rp α] (x : α) : Prop := ∀ v Kn H, S K F Kn0 [] ow [] Kn H → rep K Kn v x → R v H
def RN (R : VK) {α : Type} [Rp α] (xs : List α) : Prop := ∀ p ws Kn H, S K F Kn0 [] ow [] Kn H → F p = none → Kn p = none → H p = some (.lst ws) → Paired (rep K Kn) ws xs → R (.ref p) H
end

section
variable {K : Fg} {F Kn0 : Hp} {sl sl' : List Sl} {ow ow1 ow2 : List Ow} {α β γ : Type} [Rp α] [Rp β] [Rp γ] {ta tb te : TE} {x : α} {y : β} {z : γ}
theorem EN.ev {xs : List α} (h : EN K F Kn0 sl ow te xs) : EV K F Kn0 sl ow te xs := fun σ Kn H s Q q => h σ Kn H s Q fun p ws Kn' H' g hp kp hw r =>
  q _ (upd Kn' p (.lst ws)) H' (g.know hp kp hw) ⟨p, ws, rfl, upd_same, paired_mono (Ex.new kp) r⟩
theorem EV.em (h : EV K F Kn0 sl ow te x) : EM K F Kn0 sl ow te ow x := fun σ Kn H s Q q => h σ Kn H s Q fun v Kn' H' g r => q v Kn' H' g.kk (s.grow g) r
theorem owned_ne {σ : St} {Kn H : Hp} (s : S K F Kn0 sl ow σ Kn H) {p : Addr} (hp : H p = none) : ∀ o ∈ ow, o.ad ≠ p := fun o ho z => by
  have := Ow.there (s.ow.each o ho).2.2
  rw [z] at this
  exact this hp
theorem EN.em {xs : List α} (h : EN K F Kn0 sl ow te xs) : ENM K F Kn0 sl ow te ow xs := fun σ Kn H s Q q => h σ Kn H s Q fun p ws Kn' H' g hp kp hw r =>
  q p ws Kn' H' g.kk (s.grow g) (fresh_back s.ef hp) kp (owned_ne s hp) hw r
theorem S.know {σ : St} {Kn H : Hp} (s : S K F Kn0 sl ow σ Kn H) {p : Addr} {o : HO} (fp : F p = none) (kp : Kn p = none) (no : ∀ o ∈ ow, o.ad ≠ p) (hp : H p = some o) : S K F Kn0 sl ow σ (upd Kn p o) H :=
  ⟨s.e0.trans (Ex.new kp), fun a u h => by
    by_cases hq : a = p
    · subst hq
      rw [upd_same] at h
      rw [← h]
      exact hp
    · rw [upd_ne hq] at h
      exact s.ek _ _ h, s.ef, fun q h1 h2 => by
    have hq : q ≠ p := fun z => by
      subst z
      exact h1 fp
    rw [upd_ne hq]
    exact s.sep q h1 h2, s.sl.mono (Ex.new kp), ⟨fun o ho => by
      obtain ⟨h1, h2, h3⟩ := s.ow.each o ho
      exact ⟨h1, by rw [upd_ne (no o ho)]; exact h2, Ow.ok_mono (Ex.new kp) rfl h3⟩, s.ow.nd⟩⟩
theorem ENM.em {xs : List α} (h : ENM K F Kn0 sl ow te ow1 xs) : EM K F Kn0 sl ow te ow1 xs := fun σ Kn H s Q q => h σ Kn H s Q fun p ws Kn' H' e s' fp kp no hw r =>
  q _ (upd Kn' p (.lst ws)) H' (e.trans (Ex.new kp)) (s'.know fp kp no hw) ⟨p, ws, rfl, upd_same, paired_mono (Ex.new kp) r⟩
theorem EV.cast {x' : α} (h : EV K F Kn0 sl ow te x) (e : x = x') : EV K F Kn0 sl ow te x' := e ▸ h
theorem ET.cast {tt : TT} {b b' : Bool} (h : ET K F Kn0 sl ow tt b) (e : b = b') : ET K F Kn0 sl ow tt b' := e ▸ h
end
end Wk
/-! Wk2: rules for expressions -/
namespace Wk
open PySem PySem.Spec L2 Evl
section
variable {K : Fg} {F Kn0 : Hp} {sl sl' : List Sl} {ow ow1 ow2 : List Ow} {α β γ τ : Type} [Rp α] [Rp β] [Rp γ] [Tp τ] {ta tb te : TE} {x : α} {y : β} {z : γ}

theorem paired_fl {α : Type} [Rp α] [Fl α] {H : Hp} : ∀ {vs : List V} {xs : List α}, Paired (rep K H) vs xs → vs = xs.map Fl.toV
  | _, _, .nil => rfl
  | _, _, .cons h t => by rw [List.map_cons, ← paired_fl t, Fl.iff.mp h]
theorem fl_paired {α : Type} [Rp α] [Fl α] {H : Hp} : ∀ (xs : List α), Paired (rep K H) (xs.map Fl.toV) xs
  | [] => .nil
  | _ :: t => .cons (Fl.iff.mpr rfl) (fl_paired t)
theorem paired_len {H : Hp} {vs : List V} {xs : List α} (h : Paired (rep K H) vs xs) : vs.length = xs.length := Paired.length h
theorem paired_at {F : V → α → Prop} : ∀ {vs : List V} {xs : List α}, Paired F vs xs → ∀ {j : Nat} {a : α}, xs[j]? = some a → ∃ v, vs[j]? = some v ∧ F v a
  | _, _, .nil, _, _, e => by simp at e
  | _, _, .cons r _, 0, _, e => by
    simp at e
    subst e
    exact ⟨_, rfl, r⟩
  | _, _, .cons _ t, j + 1, a, e => by
    obtain ⟨v, h1, h2⟩ := paired_at t (j := j) (a := a) (by simpa using e)
    exact ⟨v, by simpa using h1, h2⟩
theorem paired_append {F : V → α → Prop} : ∀ {vs ws : List V} {xs ys : List α}, Paired F vs xs → Paired F ws ys → Paired F (vs ++ ws) (xs ++ ys)
  | _, _, _, _, .nil, h => h
  | _, _, _, _, .cons r t, h => .cons r (paired_append t h)
theorem paired_drop {F : V → α → Prop} : ∀ {vs : List V} {xs : List α} (n : Nat), Paired F vs xs → Paired F (vs.drop n) (xs.drop n)
  | _, _, 0, h => h
  | _, _, _ + 1, .nil => .nil
  | _, _, n + 1, .cons _ t => paired_drop n t
theorem paired_take {F : V → α → Prop} : ∀ {vs : List V} {xs : List α} (n : Nat), Paired F vs xs → Paired F (vs.take n) (xs.take n)
  | _, _, 0, _ => .nil
  | _, _, _ + 1, .nil => .nil
  | _, _, n + 1, .cons r t => .cons r (paired_take n t)
theorem paired_set {F : V → α → Prop} {v : V} {a : α} (h : F v a) : ∀ {vs : List V} {xs : List α} (n : Nat), Paired F vs xs → Paired F (vs.set n v) (xs.set n a)
  | _, _, _, .nil => .nil
  | _, _, 0, .cons _ t => .cons h t
  | _, _, n + 1, .cons r t => .cons r (paired_set h n t)
theorem paired_atI {H : Hp} {vs : List V} {xs : List α} (h : Paired (rep K H) vs xs) {i : Int} {a : α} (e : atI xs i = some a) : ∃ v, atI vs i = some v ∧ rep K H v a := by
  unfold atI at e ⊢
  rw [paired_len h]
  cases q : ixN xs.length i with
  | none => rw [q] at e; cases e
  | some j =>
    rw [q] at e
    exact paired_at h e

/-! ### results of rules by values -/
def RS (K : Fg) (Kn H : Hp) (Q : VK) (z : γ) : Prop := ∀ u Kn' H', Gr Kn H Kn' H' → rep K Kn' u z → Q u H'
def RL (K : Fg) (Kn H : Hp) (Q : VK) (zs : List γ) : Prop := ∀ p ws Kn' H', Gr Kn H Kn' H' → H p = none → Kn' p = none → H' p = some (.lst ws) → Paired (rep K Kn') ws zs → Q (.ref p) H'
theorem RS.rl {Kn H : Hp} {Q : VK} {zs : List γ} (h : RS K Kn H Q zs) : RL K Kn H Q zs := fun p ws Kn' H' g hp kp hw r =>
  h _ (upd Kn' p (.lst ws)) H' (g.know hp kp hw) ⟨p, ws, rfl, upd_same, paired_mono (Ex.new kp) r⟩
theorem RS.fl {γ : Type} [Rp γ] [Fl γ] {z : γ} {Kn H : Hp} {Q : VK} (h : RS K Kn H Q z) (e : Ex Kn H) : Q (Fl.toV z) H := h _ Kn H (Gr.refl e) (Fl.iff.mpr rfl)
theorem RS.at {Kn H : Hp} {Q : VK} {z : γ} (h : RS K Kn H Q z) (e : Ex Kn H) {v : V} (r : rep K Kn v z) : Q v H := h _ Kn H (Gr.refl e) r

def R1V (r : V → Hp → VK → Prop) (x : α) (z : γ) : Prop := ∀ (K : Fg) Kn H v, Ex Kn H → rep K Kn v x → ∀ Q, RS K Kn H Q z → r v H Q
def R2V (K : Fg) (r : R2) (x : α) (y : β) (z : γ) : Prop := ∀ Kn H v w, Ex Kn H → rep K Kn v x → rep K Kn w y → ∀ Q, RS K Kn H Q z → r v w H Q
def R2L (K : Fg) (r : R2) (x : α) (y : β) (zs : List γ) : Prop := ∀ Kn H v w, Ex Kn H → rep K Kn v x → rep K Kn w y → ∀ Q, RL K Kn H Q zs → r v w H Q
def RCV (K : Fg) (r : List V → Hp → VK → Prop) (t : τ) (z : γ) : Prop := ∀ Kn H vs, Ex Kn H → rept K Kn vs t → ∀ Q, RS K Kn H Q z → r vs H Q
def RCL (K : Fg) (r : List V → Hp → VK → Prop) (t : τ) (zs : List γ) : Prop := ∀ Kn H vs, Ex Kn H → rept K Kn vs t → ∀ Q, RL K Kn H Q zs → r vs H Q

/-! ### names, constants, operators -/
theorem ev_var {i : Nat} (h : sl[i]? = some (sv x)) : EV K F Kn0 sl ow (tVar i) x := fun σ Kn H s Q q => by
  obtain ⟨o, h1, v, h2, h3⟩ := s.sl.get h
  exact ⟨v, by rw [h1, h2], q v Kn H (Gr.refl s.ek) h3⟩
theorem ev_c {γ : Type} [Rp γ] [Fl γ] (z : γ) {v : V} (e : v = Fl.toV z := by rfl) : EV K F Kn0 sl ow (tC v) z := fun σ Kn H s Q q => q v Kn H (Gr.refl s.ek) (Fl.iff.mpr e)
theorem ev_none : EV K F Kn0 sl ow (tC .non) (none : Option α) := fun σ Kn H s Q q => q .non Kn H (Gr.refl s.ek) rfl
theorem ev_un {r : V → Hp → VK → Prop} (ha : EV K F Kn0 sl ow ta x) (hr : R1V r x z) : EV K F Kn0 sl ow (tUn r ta) z := fun σ Kn H s Q q =>
  ha σ Kn H s _ fun v Kn1 H1 g1 r1 => hr K Kn1 H1 v g1.kh r1 Q fun u Kn' H' g' r' => q u Kn' H' (g1.trans g') r'
theorem ev_op {r : R2} (ha : EV K F Kn0 sl ow ta x) (hb : EV K F Kn0 sl ow tb y) (hr : R2V K r x y z) : EV K F Kn0 sl ow (tOp r ta tb) z := fun σ Kn H s Q q =>
  ha σ Kn H s _ fun v Kn1 H1 g1 r1 => hb σ Kn1 H1 (s.grow g1) _ fun w Kn2 H2 g2 r2 => hr Kn2 H2 v w g2.kh (Rp.mono g2.kk r1) r2 Q fun u Kn' H' g' r' => q u Kn' H' ((g1.trans g2).trans g') r'
theorem en_op {r : R2} {zs : List γ} (ha : EV K F Kn0 sl ow ta x) (hb : EV K F Kn0 sl ow tb y) (hr : R2L K r x y zs) : EN K F Kn0 sl ow (tOp r ta tb) zs := fun σ Kn H s Q q =>
  ha σ Kn H s _ fun v Kn1 H1 g1 r1 => hb σ Kn1 H1 (s.grow g1) _ fun w Kn2 H2 g2 r2 => hr Kn2 H2 v w g2.kh (Rp.mono g2.kk r1) r2 Q fun p ws Kn' H' g' hp kp hw r' =>
    q p ws Kn' H' ((g1.trans g2).trans g') (fresh_back (g1.trans g2).hh hp) kp hw r'
theorem em_op {r : R2} (ha : EM K F Kn0 sl ow ta ow1 x) (hb : EM K F Kn0 sl ow1 tb ow2 y) (hr : R2V K r x y z) : EM K F Kn0 sl ow (tOp r ta tb) ow2 z := fun σ Kn H s Q q =>
  ha σ Kn H s _ fun v Kn1 H1 e1 s1 r1 => hb σ Kn1 H1 s1 _ fun w Kn2 H2 e2 s2 r2 => hr Kn2 H2 v w s2.ek (Rp.mono e2 r1) r2 Q fun u Kn' H' g' r' => q u Kn' H' ((e1.trans e2).trans g'.kk) (s2.grow g') r'
theorem r2_I0 {γ : Type} [Rp γ] [Fl γ] {z : γ} {g : Int → Int → V} {i j : Int} (e : g i j = Fl.toV z := by rfl) : R2V K (rI0 g) i j z := fun Kn H v w ek h1 h2 Q q => ⟨i, j, h1, h2, e ▸ q.fl ek⟩
theorem r2_I {γ : Type} [Rp γ] [Fl γ] {z : γ} {C : Int → Int → Prop} {g : Int → Int → V} {i j : Int} (c : C i j) (e : g i j = Fl.toV z := by rfl) : R2V K (rI C g) i j z := fun Kn H v w ek h1 h2 Q q => ⟨i, j, h1, h2, c, e ▸ q.fl ek⟩
theorem r1_neg {i : Int} : R1V (rU fun i => .int (-i)) i (-i) := fun K Kn H v ek h1 Q q => ⟨i, h1, q.fl ek⟩
theorem r2_eqI {i j : Int} : R2V K rEq i j (decide (i = j)) := fun Kn H v w ek h1 h2 Q q => by
  cases h1
  cases h2
  refine ⟨rfl, ?_⟩
  have e : decide (V.int i = V.int j) = decide (i = j) := by simp
  rw [e]
  exact q.fl ek
theorem r2_neI {i j : Int} : R2V K rNe i j (!decide (i = j)) := fun Kn H v w ek h1 h2 Q q => by
  cases h1
  cases h2
  refine ⟨rfl, ?_⟩
  have e : decide (V.int i = V.int j) = decide (i = j) := by simp
  rw [e]
  exact q.fl ek
theorem r2_eqS {i j : Str} : R2V K rEq i j (decide (i = j)) := fun Kn H v w ek h1 h2 Q q => by
  cases h1
  cases h2
  refine ⟨rfl, ?_⟩
  have e : decide (V.str i = V.str j) = decide (i = j) := by simp
  rw [e]
  exact q.fl ek
theorem r2_neS {i j : Str} : R2V K rNe i j (!decide (i = j)) := fun Kn H v w ek h1 h2 Q q => by
  cases h1
  cases h2
  refine ⟨rfl, ?_⟩
  have e : decide (V.str i = V.str j) = decide (i = j) := by simp
  rw [e]
  exact q.fl ek
theorem r2_eqB {i j : Bool} : R2V K rEq i j (decide (i = j)) := fun Kn H v w ek h1 h2 Q q => by
  cases h1
  cases h2
  refine ⟨rfl, ?_⟩
  have e : decide (V.bl i = V.bl j) = decide (i = j) := by simp
  rw [e]
  exact q.fl ek

/-! ### arguments, tuples, lists -/
theorem ea_nil : EA K F Kn0 sl ow tNil () := fun σ Kn H s Q q => q [] Kn H (Gr.refl s.ek) rfl
theorem ea_cons {tr : TA} {t : τ} (h : EV K F Kn0 sl ow ta x) (hr : EA K F Kn0 sl ow tr t) : EA K F Kn0 sl ow (tCons ta tr) (x, t) := fun σ Kn H s Q q =>
  h σ Kn H s _ fun v Kn1 H1 g1 r1 => hr σ Kn1 H1 (s.grow g1) _ fun vs Kn2 H2 g2 r2 => q _ Kn2 H2 (g1.trans g2) ⟨v, vs, rfl, Rp.mono g2.kk r1, r2⟩
theorem eam_nil : EAM K F Kn0 sl ow tNil ow () := fun σ Kn H s Q q => q [] Kn H (Ex.refl _) s rfl
theorem eam_cons {tr : TA} {t : τ} (h : EM K F Kn0 sl ow ta ow1 x) (hr : EAM K F Kn0 sl ow1 tr ow2 t) : EAM K F Kn0 sl ow (tCons ta tr) ow2 (x, t) := fun σ Kn H s Q q =>
  h σ Kn H s _ fun v Kn1 H1 e1 s1 r1 => hr σ Kn1 H1 s1 _ fun vs Kn2 H2 e2 s2 r2 => q _ Kn2 H2 (e1.trans e2) s2 ⟨v, vs, rfl, Rp.mono e2 r1, r2⟩
theorem EA.eam {ta : TA} {t : τ} (h : EA K F Kn0 sl ow ta t) : EAM K F Kn0 sl ow ta ow t := fun σ Kn H s Q q => h σ Kn H s Q fun vs Kn' H' g r => q vs Kn' H' g.kk (s.grow g) r
/-- alike things -/
def EL {α : Type} [Rp α] (K : Fg) (F Kn0 : Hp) (sl : List Sl) (ow : List Ow) (ta : TA) (xs : List α) : Prop := ∀ σ Kn H, S K F Kn0 sl ow σ Kn H → ∀ Q : List V → Hp → Prop, (∀ vs Kn' H', Gr Kn H Kn' H' → Paired (rep K Kn') vs xs → Q vs H') → ta σ H Q
def ELM {α : Type} [Rp α] (K : Fg) (F Kn0 : Hp) (sl : List Sl) (ow : List Ow) (ta : TA) (ow' : List Ow) (xs : List α) : Prop := ∀ σ Kn H, S K F Kn0 sl ow σ Kn H → ∀ Q : List V → Hp → Prop, (∀ vs Kn' H', Ex Kn Kn' → S K F Kn0 sl ow' σ Kn' H' → Paired (rep K Kn') vs xs → Q vs H') → ta σ H Q
theorem el_nil : EL K F Kn0 sl ow tNil ([] : List α) := fun σ Kn H s Q q => q [] Kn H (Gr.refl s.ek) .nil
theorem el_cons {tr : TA} {xs : List α} (h : EV K F Kn0 sl ow ta x) (hr : EL K F Kn0 sl ow tr xs) : EL K F Kn0 sl ow (tCons ta tr) (x :: xs) := fun σ Kn H s Q q =>
  h σ Kn H s _ fun v Kn1 H1 g1 r1 => hr σ Kn1 H1 (s.grow g1) _ fun vs Kn2 H2 g2 r2 => q _ Kn2 H2 (g1.trans g2) (.cons (Rp.mono g2.kk r1) r2)
theorem elm_nil : ELM K F Kn0 sl ow tNil ow ([] : List α) := fun σ Kn H s Q q => q [] Kn H (Ex.refl _) s .nil
theorem elm_cons {tr : TA} {xs : List α} (h : EM K F Kn0 sl ow ta ow1 x) (hr : ELM K F Kn0 sl ow1 tr ow2 xs) : ELM K F Kn0 sl ow (tCons ta tr) ow2 (x :: xs) := fun σ Kn H s Q q =>
  h σ Kn H s _ fun v Kn1 H1 e1 s1 r1 => hr σ Kn1 H1 s1 _ fun vs Kn2 H2 e2 s2 r2 => q _ Kn2 H2 (e1.trans e2) s2 (.cons (Rp.mono e2 r1) r2)
theorem le_line {n : Nat} (h : n ≤ 1000000) : n ≤ sizeLine := Nat.le_trans h (by decide)
theorem lt_line {n : Nat} (h : n < 1000000) : n < sizeLine := Nat.lt_of_lt_of_le h (by decide)
theorem en_lst {ta : TA} {xs : List α} (h : EL K F Kn0 sl ow ta xs) (hz : xs.length ≤ 1000000 := by exact Nat.le_of_ble_eq_true rfl) : EN K F Kn0 sl ow (tLst ta) xs := fun σ Kn H s Q q =>
  h σ Kn H s _ fun vs Kn1 H1 g1 r1 => ⟨by rw [paired_len r1]; exact le_line hz, fun p hp => q p vs Kn1 _ (g1.trans (Gr.newU g1.kh hp)) (fresh_back g1.hh hp) (fresh_back g1.kh hp) upd_same r1⟩
theorem enm_lst {ta : TA} {xs : List α} (h : ELM K F Kn0 sl ow ta ow1 xs) (hz : xs.length ≤ 1000000 := by exact Nat.le_of_ble_eq_true rfl) : ENM K F Kn0 sl ow (tLst ta) ow1 xs := fun σ Kn H s Q q =>
  h σ Kn H s _ fun vs Kn1 H1 e1 s1 r1 => ⟨by rw [paired_len r1]; exact le_line hz, fun p hp =>
    q p vs Kn1 _ e1 (s1.grow (Gr.newU s1.ek hp)) (fresh_back s1.ef hp) (fresh_back s1.ek hp) (owned_ne s1 hp) upd_same r1⟩
theorem ev_tup {ta : TA} {t : α × τ} (h : EA K F Kn0 sl ow ta t) (hz : Tp.n (α × τ) ≤ 1000000 := by decide) : EV K F Kn0 sl ow (tTup ta) t := fun σ Kn H s Q q =>
  h σ Kn H s _ fun vs Kn1 H1 g1 r1 => ⟨by rw [Tp.len r1]; exact le_line hz, fun p hp =>
    q _ (upd Kn1 p (.tup vs)) _ (g1.trans (Gr.new g1.kh hp)) ⟨p, vs, rfl, upd_same, Tp.mono (Gr.new g1.kh hp).kk r1⟩⟩
theorem em_tup {ta : TA} {t : α × τ} (h : EAM K F Kn0 sl ow ta ow1 t) (hz : Tp.n (α × τ) ≤ 1000000 := by decide) : EM K F Kn0 sl ow (tTup ta) ow1 t := fun σ Kn H s Q q =>
  h σ Kn H s _ fun vs Kn1 H1 e1 s1 r1 => ⟨by rw [Tp.len r1]; exact le_line hz, fun p hp =>
    q _ (upd Kn1 p (.tup vs)) _ (e1.trans (Gr.new s1.ek hp).kk) (s1.grow (Gr.new s1.ek hp)) ⟨p, vs, rfl, upd_same, Tp.mono (Gr.new s1.ek hp).kk r1⟩⟩
theorem ev_tuH {ta : TA} {xs : List α} (h : EL K F Kn0 sl ow ta xs) (hz : xs.length ≤ 1000000 := by exact Nat.le_of_ble_eq_true rfl) : EV K F Kn0 sl ow (tTup ta) (Tu.mk xs) := fun σ Kn H s Q q =>
  h σ Kn H s _ fun vs Kn1 H1 g1 r1 => ⟨by rw [paired_len r1]; exact le_line hz, fun p hp =>
    q _ (upd Kn1 p (.tup vs)) _ (g1.trans (Gr.new g1.kh hp)) ⟨p, vs, rfl, upd_same, paired_mono (Gr.new g1.kh hp).kk r1⟩⟩

/-! ### built-ins, defs -/
theorem ev_cb {r : List V → Hp → VK → Prop} {ta : TA} {t : τ} (h : EA K F Kn0 sl ow ta t) (hr : RCV K r t z) : EV K F Kn0 sl ow (tCB r ta) z := fun σ Kn H s Q q =>
  h σ Kn H s _ fun vs Kn1 H1 g1 r1 => hr Kn1 H1 vs g1.kh r1 Q fun u Kn' H' g' r' => q u Kn' H' (g1.trans g') r'
theorem en_cb {r : List V → Hp → VK → Prop} {ta : TA} {t : τ} {zs : List γ} (h : EA K F Kn0 sl ow ta t) (hr : RCL K r t zs) : EN K F Kn0 sl ow (tCB r ta) zs := fun σ Kn H s Q q =>
  h σ Kn H s _ fun vs Kn1 H1 g1 r1 => hr Kn1 H1 vs g1.kh r1 Q fun p ws Kn' H' g' hp kp hw r' => q p ws Kn' H' (g1.trans g') (fresh_back g1.hh hp) kp hw r'
theorem em_cb {r : List V → Hp → VK → Prop} {ta : TA} {t : τ} (h : EAM K F Kn0 sl ow ta ow1 t) (hr : RCV K r t z) : EM K F Kn0 sl ow (tCB r ta) ow1 z := fun σ Kn H s Q q =>
  h σ Kn H s _ fun vs Kn1 H1 e1 s1 r1 => hr Kn1 H1 vs s1.ek r1 Q fun u Kn' H' g' r' => q u Kn' H' (e1.trans g'.kk) (s1.grow g') r'
theorem one_arg {Kn : Hp} {vs : List V} {x : α} (h : rept K Kn vs (x, ())) : ∃ v, vs = [v] ∧ rep K Kn v x := by
  obtain ⟨v, r, rfl, h1, h2⟩ := h
  cases h2
  exact ⟨v, rfl, h1⟩
theorem two_args {Kn : Hp} {vs : List V} {x : α} {y : β} (h : rept K Kn vs (x, y, ())) : ∃ v w, vs = [v, w] ∧ rep K Kn v x ∧ rep K Kn w y := by
  obtain ⟨v, r, rfl, h1, h2⟩ := h
  obtain ⟨w, rfl, h3⟩ := one_arg h2
  exact ⟨v, w, rfl, h1, h3⟩
theorem rc_max {i j : Int} : RCV K (fun xs H Q => ∃ i j, xs = [.int i, .int j] ∧ Q (.int (if j > i then j else i)) H) (i, j, ()) (max i j) := fun Kn H vs ek h Q q => by
  obtain ⟨v, w, rfl, h1, h2⟩ := two_args h
  cases h1
  cases h2
  refine ⟨i, j, rfl, ?_⟩
  have e : (if j > i then j else i) = max i j := by split <;> omega
  rw [e]
  exact q.fl ek
theorem rc_min {i j : Int} : RCV K (fun xs H Q => ∃ i j, xs = [.int i, .int j] ∧ Q (.int (if j < i then j else i)) H) (i, j, ()) (min i j) := fun Kn H vs ek h Q q => by
  obtain ⟨v, w, rfl, h1, h2⟩ := two_args h
  cases h1
  cases h2
  refine ⟨i, j, rfl, ?_⟩
  have e : (if j < i then j else i) = min i j := by split <;> omega
  rw [e]
  exact q.fl ek
theorem rc_abs {i : Int} : RCV K (fun xs H Q => ∃ i, xs = [.int i] ∧ Q (.int (if i < 0 then -i else i)) H) (i, ()) ((i.natAbs : Int)) := fun Kn H vs ek h Q q => by
  obtain ⟨v, rfl, h1⟩ := one_arg h
  cases h1
  refine ⟨i, rfl, ?_⟩
  have e : (if i < 0 then -i else i) = (i.natAbs : Int) := by split <;> omega
  rw [e]
  exact q.fl ek
theorem rc_len {xs : List α} : RCV K (fun xs H Q => ∃ p ys, xs = [.ref p] ∧ (SqL K H p ys ∨ SqT K H p ys) ∧ Q (.int ys.length) H) (xs, ()) (xs.length : Int) := fun Kn H vs ek h Q q => by
  obtain ⟨v, rfl, p, ws, rfl, h1, h2⟩ := one_arg h
  refine ⟨p, ws, rfl, .inl (sq_of (ek _ _ h1)), ?_⟩
  rw [paired_len h2]
  exact q.fl ek
theorem rc_lenF {xs : Fz α} : RCV K (fun xs H Q => ∃ p ys, xs = [.ref p] ∧ (SqL K H p ys ∨ SqT K H p ys) ∧ Q (.int ys.length) H) (xs, ()) (xs.l.length : Int) := fun Kn H vs ek h Q q => by
  obtain ⟨v, rfl, p, ws, rfl, h1, h2⟩ := one_arg h
  refine ⟨p, ws, rfl, .inl (ex_l ek h1), ?_⟩
  rw [paired_len h2]
  exact q.fl ek
theorem rc_lenT {xs : Tu α} : RCV K (fun xs H Q => ∃ p ys, xs = [.ref p] ∧ (SqL K H p ys ∨ SqT K H p ys) ∧ Q (.int ys.length) H) (xs, ()) (xs.l.length : Int) := fun Kn H vs ek h Q q => by
  obtain ⟨v, rfl, p, ws, rfl, h1, h2⟩ := one_arg h
  refine ⟨p, ws, rfl, .inr (st_of (ek _ _ h1)), ?_⟩
  rw [paired_len h2]
  exact q.fl ek
theorem rc_lenP {t : α × τ} : RCV K (fun xs H Q => ∃ p ys, xs = [.ref p] ∧ (SqL K H p ys ∨ SqT K H p ys) ∧ Q (.int ys.length) H) (t, ()) ((Tp.n (α × τ) : Nat) : Int) := fun Kn H vs ek h Q q => by
  obtain ⟨v, rfl, p, ws, rfl, h1, h2⟩ := one_arg h
  refine ⟨p, ws, rfl, .inr (st_of (ek _ _ h1)), ?_⟩
  rw [Tp.len h2]
  exact q.fl ek
theorem rc_sum {xs : List Int} : RCV K (rSum K) (xs, ()) xs.sum := fun Kn H vs ek h Q q => by
  obtain ⟨v, rfl, p, ws, rfl, h1, h2⟩ := one_arg h
  have e := paired_fl h2
  subst e
  exact ⟨p, xs, rfl, sq_of (ek _ _ h1), q.fl ek⟩
theorem rc_all {xs : List Bool} : RCV K (rAll K) (xs, ()) (xs.all id) := fun Kn H vs ek h Q q => by
  obtain ⟨v, rfl, p, ws, rfl, h1, h2⟩ := one_arg h
  have e := paired_fl h2
  subst e
  exact ⟨p, xs, rfl, sq_of (ek _ _ h1), q.fl ek⟩
theorem rc_any {xs : List Bool} : RCV K (rAny K) (xs, ()) (xs.any id) := fun Kn H vs ek h Q q => by
  obtain ⟨v, rfl, p, ws, rfl, h1, h2⟩ := one_arg h
  have e := paired_fl h2
  subst e
  exact ⟨p, xs, rfl, sq_of (ek _ _ h1), q.fl ek⟩
theorem rc_list {xs : List α} : RCL K (fun xs H Q => ∃ p ys, xs = [.ref p] ∧ (SqL K H p ys ∨ SqT K H p ys) ∧ ∀ l, H l = none → Q (.ref l) (upd H l (.lst ys))) (xs, ()) xs := fun Kn H vs ek h Q q => by
  obtain ⟨v, rfl, p, ws, rfl, h1, h2⟩ := one_arg h
  exact ⟨p, ws, rfl, .inl (sq_of (ek _ _ h1)), fun l hl => q l ws Kn _ (Gr.newU ek hl) hl (fresh_back ek hl) upd_same h2⟩
theorem rc_listF {xs : Fz α} : RCL K (fun xs H Q => ∃ p ys, xs = [.ref p] ∧ (SqL K H p ys ∨ SqT K H p ys) ∧ ∀ l, H l = none → Q (.ref l) (upd H l (.lst ys))) (xs, ()) xs.l := fun Kn H vs ek h Q q => by
  obtain ⟨v, rfl, p, ws, rfl, h1, h2⟩ := one_arg h
  exact ⟨p, ws, rfl, .inl (ex_l ek h1), fun l hl => q l ws Kn _ (Gr.newU ek hl) hl (fresh_back ek hl) upd_same h2⟩
theorem rc_listT {xs : Tu α} : RCL K (fun xs H Q => ∃ p ys, xs = [.ref p] ∧ (SqL K H p ys ∨ SqT K H p ys) ∧ ∀ l, H l = none → Q (.ref l) (upd H l (.lst ys))) (xs, ()) xs.l := fun Kn H vs ek h Q q => by
  obtain ⟨v, rfl, p, ws, rfl, h1, h2⟩ := one_arg h
  exact ⟨p, ws, rfl, .inr (st_of (ek _ _ h1)), fun l hl => q l ws Kn _ (Gr.newU ek hl) hl (fresh_back ek hl) upd_same h2⟩
theorem rc_tuple {xs : List α} : RCV K (fun xs H Q => ∃ p ys, xs = [.ref p] ∧ ((SqL K H p ys ∧ ∀ l, H l = none → Q (.ref l) (upd H l (.tup ys))) ∨ (SqT K H p ys ∧ Q (.ref p) H))) (xs, ()) (Tu.mk xs) := fun Kn H vs ek h Q q => by
  obtain ⟨v, rfl, p, ws, rfl, h1, h2⟩ := one_arg h
  exact ⟨p, ws, rfl, .inl ⟨sq_of (ek _ _ h1), fun l hl => q _ (upd Kn l (.tup ws)) _ (Gr.new ek hl) ⟨l, ws, rfl, upd_same, paired_mono (Gr.new ek hl).kk h2⟩⟩⟩
end

/-! ### items, slices -/
section
variable {K : Fg} {F Kn0 : Hp} {sl sl' : List Sl} {ow ow1 ow2 : List Ow} {α β γ τ : Type} [Rp α] [Rp β] [Rp γ] [Tp τ] {ta tb te : TE}
theorem r2_ixL {xs : List α} {i : Int} {z : α} (h : atI xs i = some z) : R2V K (rIxL K) xs i z := fun Kn H v w ek h1 h2 Q q => by
  obtain ⟨p, ws, rfl, h3, h4⟩ := h1
  cases h2
  obtain ⟨u, e, r⟩ := paired_atI h4 h
  exact ⟨p, ws, i, u, rfl, rfl, sq_of (ek _ _ h3), e, q.at ek r⟩
theorem r2_ixF {xs : Fz α} {i : Int} {z : α} (h : atI xs.l i = some z) : R2V K (rIxL K) xs i z := fun Kn H v w ek h1 h2 Q q => by
  obtain ⟨p, ws, rfl, h3, h4⟩ := h1
  cases h2
  obtain ⟨u, e, r⟩ := paired_atI h4 h
  exact ⟨p, ws, i, u, rfl, rfl, ex_l ek h3, e, q.at ek r⟩
theorem r2_ixU {xs : Tu α} {i : Int} {z : α} (h : atI xs.l i = some z) : R2V K (rIxT K) xs i z := fun Kn H v w ek h1 h2 Q q => by
  obtain ⟨p, ws, rfl, h3, h4⟩ := h1
  cases h2
  obtain ⟨u, e, r⟩ := paired_atI h4 h
  exact ⟨p, ws, i, u, rfl, rfl, st_of (ek _ _ h3), e, q.at ek r⟩
theorem r2_ixK {xs : Kt α} {i : Int} {z : α} (h : atI xs.l i = some z) : R2V K (rIxT K) xs i z := fun Kn H v w ek h1 h2 Q q => by
  obtain ⟨p, ws, rfl, h3, h4⟩ := h1
  cases h2
  obtain ⟨u, e, r⟩ := paired_atI h4 h
  exact ⟨p, ws, i, u, rfl, rfl, ex_t ek h3, e, q.at ek r⟩
/-- the n-th place of a tuple -/
inductive At : {τ : Type} → [Tp τ] → Nat → {α : Type} → [Rp α] → τ → α → Prop
  | z {α τ : Type} [Rp α] [Tp τ] (x : α) (t : τ) : At 0 (x, t) x
  | s {α β τ : Type} [Rp α] [Rp β] [Tp τ] {n : Nat} (x : α) {t : τ} {y : β} : At n t y → At (n + 1) (x, t) y
theorem At.get {K : Fg} {H : Hp} {τ : Type} [i : Tp τ] {n : Nat} {α : Type} [j : Rp α] {t : τ} {a : α} (h : At n t a) : ∀ {vs : List V}, rept K H vs t → ∃ v, vs[n]? = some v ∧ rep K H v a := by
  induction h with
  | z x t =>
    intro vs r
    obtain ⟨v, r, rfl, h1, h2⟩ := r
    exact ⟨v, rfl, h1⟩
  | s x _ ih =>
    intro vs r
    obtain ⟨v, r, rfl, h1, h2⟩ := r
    obtain ⟨w, e, h3⟩ := ih h2
    exact ⟨w, e, h3⟩
theorem r2_tix {t : α × τ} {n : Nat} {z : γ} (h : At n t z) : R2V K (rIxT K) t (n : Int) z := fun Kn H v w ek h1 h2 Q q => by
  obtain ⟨p, ws, rfl, h3, h4⟩ := h1
  cases h2
  obtain ⟨u, e, r⟩ := h.get h4
  exact ⟨p, ws, n, u, rfl, rfl, st_of (ek _ _ h3), atI_nat e, q.at ek r⟩
/-- one sign of a text -/
def ixS (z : Str) (i : Int) : Option Str := if z.length ≤ 100000 then (atI z.cps.toList i).map (fun c => ⟨#[c]⟩) else none
theorem r2_ixS {x : Str} {i : Int} {z : Str} (h : ixS x i = some z) : R2V K rIxS x i z := fun Kn H v w ek h1 h2 Q q => by
  cases h1
  cases h2
  unfold ixS at h
  split at h
  · rename_i hl
    cases e : atI x.cps.toList i with
    | none => rw [e] at h; cases h
    | some c =>
      rw [e] at h
      cases h
      exact ⟨x, i, c, rfl, rfl, le_line (by omega), e, q.fl ek⟩
  · cases h
def cut {α : Type} (xs : List α) (lo hi : Option Int) : List α := (xs.drop (HT.sIx xs.length 0 lo)).take (HT.sIx xs.length xs.length hi - HT.sIx xs.length 0 lo)
theorem paired_cut {F : V → α → Prop} {vs : List V} {xs : List α} (h : Paired F vs xs) (lo hi : Option Int) : Paired F (cutV vs lo hi) (cut xs lo hi) := by
  unfold cutV cut
  rw [Paired.length h]
  exact paired_take _ (paired_drop _ h)
def EO (K : Fg) (F Kn0 : Hp) (sl : List Sl) (ow : List Ow) (to : TO) (o : Option Int) : Prop := ∀ σ Kn H, S K F Kn0 sl ow σ Kn H → ∀ Q : Option Int → Hp → Prop, (∀ Kn' H', Gr Kn H Kn' H' → Q o H') → to σ H Q
theorem eo_none : EO K F Kn0 sl ow tNoPart none := fun σ Kn H s Q q => q Kn H (Gr.refl s.ek)
theorem eo_some {i : Int} (h : EV K F Kn0 sl ow te i) : EO K F Kn0 sl ow (tPart te) (some i) := fun σ Kn H s Q q => h σ Kn H s _ fun v Kn1 H1 g1 r1 => ⟨i, r1, q Kn1 H1 g1⟩
theorem en_sl {xs : List α} {tl th : TO} {lo hi : Option Int} (h : EV K F Kn0 sl ow te xs) (hl : EO K F Kn0 sl ow tl lo) (hh : EO K F Kn0 sl ow th hi) : EN K F Kn0 sl ow (tSl (rSlL K) te tl th) (cut xs lo hi) := fun σ Kn H s Q q =>
  h σ Kn H s _ fun v Kn1 H1 g1 r1 => hl σ Kn1 H1 (s.grow g1) _ fun Kn2 H2 g2 => hh σ Kn2 H2 ((s.grow g1).grow g2) _ fun Kn3 H3 g3 => by
    obtain ⟨p, ws, rfl, h3, h4⟩ := r1
    have g : Gr Kn H Kn3 H3 := (g1.trans g2).trans g3
    have e13 : Ex Kn1 Kn3 := g2.kk.trans g3.kk
    exact ⟨p, ws, rfl, sq_of (g3.kh _ _ (e13 _ _ h3)), fun l hl => q l _ Kn3 _ (g.trans (Gr.newU g3.kh hl)) (fresh_back g.hh hl) (fresh_back g3.kh hl) upd_same (paired_cut (paired_mono e13 h4) lo hi)⟩
theorem en_slF {xs : Fz α} {tl th : TO} {lo hi : Option Int} (h : EV K F Kn0 sl ow te xs) (hl : EO K F Kn0 sl ow tl lo) (hh : EO K F Kn0 sl ow th hi) : EN K F Kn0 sl ow (tSl (rSlL K) te tl th) (cut xs.l lo hi) := fun σ Kn H s Q q =>
  h σ Kn H s _ fun v Kn1 H1 g1 r1 => hl σ Kn1 H1 (s.grow g1) _ fun Kn2 H2 g2 => hh σ Kn2 H2 ((s.grow g1).grow g2) _ fun Kn3 H3 g3 => by
    obtain ⟨p, ws, rfl, h3, h4⟩ := r1
    have g : Gr Kn H Kn3 H3 := (g1.trans g2).trans g3
    have e13 : Ex Kn1 Kn3 := g2.kk.trans g3.kk
    exact ⟨p, ws, rfl, ex_l (e13.trans g3.kh) h3, fun l hl => q l _ Kn3 _ (g.trans (Gr.newU g3.kh hl)) (fresh_back g.hh hl) (fresh_back g3.kh hl) upd_same (paired_cut (paired_mono e13 h4) lo hi)⟩
theorem r2_cat {xs ys : List α} (hz : xs.length + ys.length ≤ 1000000) : R2L K rCat xs ys (xs ++ ys) := fun Kn H v w ek h1 h2 Q q => by
  obtain ⟨p, ws, rfl, h3, h4⟩ := h1
  obtain ⟨p2, ws2, rfl, h5, h6⟩ := h2
  exact ⟨p, p2, ws, ws2, rfl, rfl, ek _ _ h3, ek _ _ h5, by rw [paired_len h4, paired_len h6]; exact le_line hz, fun l hl =>
    q l _ Kn _ (Gr.newU ek hl) hl (fresh_back ek hl) upd_same (paired_append h4 h6)⟩

/-! ### tests -/
variable {t u : TT} {a b c : Bool}
theorem et_test (h : EV K F Kn0 sl ow te b) : ET K F Kn0 sl ow (tTest te) b := fun σ Kn H s Q q => h σ Kn H s _ fun v Kn' H' g r => ⟨b, r, q Kn' H' g⟩
theorem et_B (h : EV K F Kn0 sl ow te b) : ET K F Kn0 sl ow (tB te) b := fun σ Kn H s Q q => h σ Kn H s _ fun v Kn' H' g r => ⟨b, r, q Kn' H' g⟩
theorem et_not (h : ET K F Kn0 sl ow t b) : ET K F Kn0 sl ow (tNot t) (!b) := fun σ Kn H s Q q => h σ Kn H s _ fun Kn' H' g => q Kn' H' g
theorem et_and (h1 : ET K F Kn0 sl ow t a) (h2 : a = true → ET K F Kn0 sl ow u b) : ET K F Kn0 sl ow (tAnd t u) (a && b) := fun σ Kn H s Q q => h1 σ Kn H s _ fun Kn1 H1 g1 => by
  cases a with
  | true => exact iteT (h2 rfl σ Kn1 H1 (s.grow g1) Q fun Kn2 H2 g2 => q Kn2 H2 (g1.trans g2))
  | false => exact iteF (q Kn1 H1 g1)
theorem et_or (h1 : ET K F Kn0 sl ow t a) (h2 : a = false → ET K F Kn0 sl ow u b) : ET K F Kn0 sl ow (tOr t u) (a || b) := fun σ Kn H s Q q => h1 σ Kn H s _ fun Kn1 H1 g1 => by
  cases a with
  | true => exact iteT (q Kn1 H1 g1)
  | false => exact iteF (h2 rfl σ Kn1 H1 (s.grow g1) Q fun Kn2 H2 g2 => q Kn2 H2 (g1.trans g2))
theorem et_andO {m : Option Bool} (h : (if a = true then m else some false) = some c) (h1 : ET K F Kn0 sl ow t a) (h2 : ∀ b, a = true → m = some b → ET K F Kn0 sl ow u b) : ET K F Kn0 sl ow (tAnd t u) c := fun σ Kn H s Q q => h1 σ Kn H s _ fun Kn1 H1 g1 => by
  cases a with
  | true => exact iteT (h2 c rfl h σ Kn1 H1 (s.grow g1) Q fun Kn2 H2 g2 => q Kn2 H2 (g1.trans g2))
  | false =>
    cases h
    exact iteF (q Kn1 H1 g1)
theorem et_orO {m : Option Bool} (h : (if a = true then some true else m) = some c) (h1 : ET K F Kn0 sl ow t a) (h2 : ∀ b, a = false → m = some b → ET K F Kn0 sl ow u b) : ET K F Kn0 sl ow (tOr t u) c := fun σ Kn H s Q q => h1 σ Kn H s _ fun Kn1 H1 g1 => by
  cases a with
  | false => exact iteF (h2 c rfl h σ Kn1 H1 (s.grow g1) Q fun Kn2 H2 g2 => q Kn2 H2 (g1.trans g2))
  | true =>
    cases h
    exact iteT (q Kn1 H1 g1)
theorem ev_andO {m : Option Bool} (h : (if a = true then m else some false) = some c) (h1 : EV K F Kn0 sl ow ta a) (h2 : ∀ b, a = true → m = some b → EV K F Kn0 sl ow tb b) : EV K F Kn0 sl ow (tAndV ta tb) c := fun σ Kn H s Q q => h1 σ Kn H s _ fun v Kn1 H1 g1 r1 => ⟨a, r1, by
  cases a with
  | true => exact iteT (h2 c rfl h σ Kn1 H1 (s.grow g1) Q fun v Kn2 H2 g2 r2 => q v Kn2 H2 (g1.trans g2) r2)
  | false =>
    cases h
    exact iteF (q _ Kn1 H1 g1 rfl)⟩
theorem ev_orO {m : Option Bool} (h : (if a = true then some true else m) = some c) (h1 : EV K F Kn0 sl ow ta a) (h2 : ∀ b, a = false → m = some b → EV K F Kn0 sl ow tb b) : EV K F Kn0 sl ow (tOrV ta tb) c := fun σ Kn H s Q q => h1 σ Kn H s _ fun v Kn1 H1 g1 r1 => ⟨a, r1, by
  cases a with
  | false => exact iteF (h2 c rfl h σ Kn1 H1 (s.grow g1) Q fun v Kn2 H2 g2 r2 => q v Kn2 H2 (g1.trans g2) r2)
  | true =>
    cases h
    exact iteT (q _ Kn1 H1 g1 rfl)⟩
theorem ev_andV (h1 : EV K F Kn0 sl ow ta a) (h2 : a = true → EV K F Kn0 sl ow tb b) : EV K F Kn0 sl ow (tAndV ta tb) (a && b) := fun σ Kn H s Q q => h1 σ Kn H s _ fun v Kn1 H1 g1 r1 => ⟨a, r1, by
  cases a with
  | true => exact iteT (h2 rfl σ Kn1 H1 (s.grow g1) Q fun v Kn2 H2 g2 r2 => q v Kn2 H2 (g1.trans g2) r2)
  | false => exact iteF (q _ Kn1 H1 g1 rfl)⟩
theorem ev_orV (h1 : EV K F Kn0 sl ow ta a) (h2 : a = false → EV K F Kn0 sl ow tb b) : EV K F Kn0 sl ow (tOrV ta tb) (a || b) := fun σ Kn H s Q q => h1 σ Kn H s _ fun v Kn1 H1 g1 r1 => ⟨a, r1, by
  cases a with
  | false => exact iteF (h2 rfl σ Kn1 H1 (s.grow g1) Q fun v Kn2 H2 g2 r2 => q v Kn2 H2 (g1.trans g2) r2)
  | true => exact iteT (q _ Kn1 H1 g1 rfl)⟩
theorem ev_notV (h1 : EV K F Kn0 sl ow ta a) : EV K F Kn0 sl ow (tNotV ta) (!a) := fun σ Kn H s Q q => h1 σ Kn H s _ fun v Kn1 H1 g1 r1 => ⟨a, r1, q _ Kn1 H1 g1 rfl⟩
theorem ev_if {x y : α} (h : ET K F Kn0 sl ow t b) (h1 : b = true → EV K F Kn0 sl ow ta x) (h2 : b = false → EV K F Kn0 sl ow tb y) : EV K F Kn0 sl ow (tIf t ta tb) (if b = true then x else y) := fun σ Kn H s Q q => h σ Kn H s _ fun Kn1 H1 g1 => by
  cases b with
  | true => exact iteT (h1 rfl σ Kn1 H1 (s.grow g1) Q fun v Kn2 H2 g2 r2 => q v Kn2 H2 (g1.trans g2) r2)
  | false => exact iteF (h2 rfl σ Kn1 H1 (s.grow g1) Q fun v Kn2 H2 g2 r2 => q v Kn2 H2 (g1.trans g2) r2)
theorem ev_ifO {m n : Option α} {z : α} (hz : (if b = true then m else n) = some z) (h : ET K F Kn0 sl ow t b) (h1 : ∀ x, b = true → m = some x → EV K F Kn0 sl ow ta x) (h2 : ∀ y, b = false → n = some y → EV K F Kn0 sl ow tb y) : EV K F Kn0 sl ow (tIf t ta tb) z := fun σ Kn H s Q q => h σ Kn H s _ fun Kn1 H1 g1 => by
  cases b with
  | true => exact iteT (h1 z rfl hz σ Kn1 H1 (s.grow g1) Q fun v Kn2 H2 g2 r2 => q v Kn2 H2 (g1.trans g2) r2)
  | false => exact iteF (h2 z rfl hz σ Kn1 H1 (s.grow g1) Q fun v Kn2 H2 g2 r2 => q v Kn2 H2 (g1.trans g2) r2)
/-- truth of a list -/
theorem et_truL {xs : List α} (h : EV K F Kn0 sl ow ta xs) : ET K F Kn0 sl ow (fun σ H Q => ta σ H fun x H' => ∃ k, TruV K x H' k ∧ Q k H') (!xs.isEmpty) := fun σ Kn H s Q q => h σ Kn H s _ fun v Kn1 H1 g1 r1 => by
  obtain ⟨p, ws, rfl, h3, h4⟩ := r1
  refine ⟨_, .inl ⟨ws, sq_of (g1.kh _ _ h3), rfl⟩, ?_⟩
  have e : (!ws.isEmpty) = !xs.isEmpty := by
    cases h4 <;> rfl
  rw [e]
  exact q Kn1 H1 g1
end
end Wk
/-! Wk3: calls, statements, loops, comprehensions -/
namespace Wk
open PySem PySem.Spec L2 Evl

/-! ### promises -/
section
variable {α τ : Type} [Rp α] [Tp τ]
/-- a def that changes nothing: it tells f of its arguments -/
def PF (K : Fg) (f : τ → Option α) : Sp := fun vs H Q _ => ∃ Kn t r, Ex Kn H ∧ rept K Kn vs t ∧ f t = some r ∧ RS K Kn H Q r
/-- .. a new list -/
def PL (K : Fg) (f : τ → Option (List α)) : Sp := fun vs H Q _ => ∃ Kn t r, Ex Kn H ∧ rept K Kn vs t ∧ f t = some r ∧ RL K Kn H Q r
/-- its first argument is a list that it changes -/
def PM {β : Type} [Rp β] (K : Fg) (f : List β → τ → Option (α × List β)) : Sp := fun vs H Q _ => ∃ Kn p ws rest t xs r xs', vs = .ref p :: rest ∧ Ex Kn H ∧ Kn p = none ∧ H p = some (.lst ws) ∧ Paired (rep K Kn) ws xs ∧ rept K Kn rest t ∧ f xs t = some (r, xs') ∧
  ∀ v Kn' H' ws', Ex Kn Kn' → Ex Kn' H' → (∀ q, q ≠ p → H q ≠ none → H' q = H q) → (∀ q, H q ≠ none → Kn q = none → Kn' q = none) → H' p = some (.lst ws') → Paired (rep K Kn') ws' xs' → rep K Kn' v r → Q v H'
end
section
variable {K : Fg} {F Kn0 : Hp} {sl sl' : List Sl} {ow ow1 ow2 : List Ow} {α β γ τ : Type} [Rp α] [Rp β] [Rp γ] [Tp τ] {ta : TA} {te : TE} {t : τ} {E : XK}
theorem ev_call {f : τ → Option α} {r : α} (h : EA K F Kn0 sl ow ta t) (hf : f t = some r) : EV K F Kn0 sl ow (tCall (PF K f) [] E ta) r := fun σ Kn H s Q q =>
  h σ Kn H s _ fun vs Kn1 H1 g1 r1 => by
    show PF K f (vs ++ []) H1 Q E
    rw [List.append_nil]
    exact ⟨Kn1, t, r, g1.kh, r1, hf, fun u Kn' H' g' r' => q u Kn' H' (g1.trans g') r'⟩
theorem en_call {f : τ → Option (List α)} {r : List α} (h : EA K F Kn0 sl ow ta t) (hf : f t = some r) : EN K F Kn0 sl ow (tCall (PL K f) [] E ta) r := fun σ Kn H s Q q =>
  h σ Kn H s _ fun vs Kn1 H1 g1 r1 => by
    show PL K f (vs ++ []) H1 Q E
    rw [List.append_nil]
    exact ⟨Kn1, t, r, g1.kh, r1, hf, fun p ws Kn' H' g' hp kp hw r' => q p ws Kn' H' (g1.trans g') (fresh_back g1.hh hp) kp hw r'⟩
theorem em_call {f : τ → Option α} {r : α} (h : EAM K F Kn0 sl ow ta ow1 t) (hf : f t = some r) : EM K F Kn0 sl ow (tCall (PF K f) [] E ta) ow1 r := fun σ Kn H s Q q =>
  h σ Kn H s _ fun vs Kn1 H1 e1 s1 r1 => by
    show PF K f (vs ++ []) H1 Q E
    rw [List.append_nil]
    exact ⟨Kn1, t, r, s1.ek, r1, hf, fun u Kn' H' g' r' => q u Kn' H' (e1.trans g'.kk) (s1.grow g') r'⟩
theorem enm_call {f : τ → Option (List α)} {r : List α} (h : EAM K F Kn0 sl ow ta ow1 t) (hf : f t = some r) : ENM K F Kn0 sl ow (tCall (PL K f) [] E ta) ow1 r := fun σ Kn H s Q q =>
  h σ Kn H s _ fun vs Kn1 H1 e1 s1 r1 => by
    show PL K f (vs ++ []) H1 Q E
    rw [List.append_nil]
    exact ⟨Kn1, t, r, s1.ek, r1, hf, fun p ws Kn' H' g' hp kp hw r' => q p ws Kn' H' (e1.trans g'.kk) (s1.grow g') (fresh_back s1.ef hp) kp (owned_ne s1 hp) hw r'⟩
theorem ow_at {ow : List Ow} (h : (ow.map Ow.ad).Nodup) {i j : Nat} {o u : Ow} (hi : ow[i]? = some o) (hj : ow[j]? = some u) (e : o.ad = u.ad) : i = j := by
  have a1 : (ow.map Ow.ad)[i]? = some o.ad := by rw [List.getElem?_map, hi]; rfl
  have a2 : (ow.map Ow.ad)[j]? = some o.ad := by rw [List.getElem?_map, hj, e]; rfl
  exact nd_ix h a1 a2
/-- the object at place j is another one now, all else as it was -/
theorem S.write {σ : L2.St} {Kn H Kn' H' : Hp} {p : Addr} {xs xs' : List β} {ws : List V} {j : Nat} (s : S K F Kn0 sl ow σ Kn H) (hj : ow[j]? = some (ol p xs)) (kk : Ex Kn Kn') (kh : Ex Kn' H')
    (hq : ∀ q, q ≠ p → H q ≠ none → H' q = H q) (sp : ∀ q, H q ≠ none → Kn q = none → Kn' q = none) (hp : H' p = some (.lst ws)) (r : Paired (rep K Kn') ws xs') : S K F Kn0 sl (ow.set j (ol p xs')) σ Kn' H' := by
  obtain ⟨f1, f2, f3⟩ := s.ow.each _ (List.mem_of_getElem? hj)
  have f1 : F p = none := f1
  have f2 : Kn p = none := f2
  have f4 : H p ≠ none := Ow.there f3
  have jl : j < ow.length := (List.getElem?_eq_some_iff.mp hj).1
  refine ⟨s.e0.trans kk, kh, fun a u h => ?_, fun a h1 h2 => sp a (Ex.nn s.ef h1) (s.sep a h1 h2), s.sl.mono kk, ⟨fun o ho => ?_, ?_⟩⟩
  · have hne : a ≠ p := fun z => by rw [z, f1] at h; cases h
    rw [hq a hne (ne_none_of (s.ef _ _ h))]
    exact s.ef _ _ h
  · obtain ⟨i, hi⟩ := List.getElem?_of_mem ho
    by_cases e : i = j
    · subst e
      rw [List.getElem?_set_self jl] at hi
      cases hi
      exact ⟨f1, sp p f4 f2, ws, hp, r⟩
    · rw [List.getElem?_set_ne (Ne.symm e)] at hi
      obtain ⟨h1, h2, h3⟩ := s.ow.each o (List.mem_of_getElem? hi)
      have h4 := Ow.there h3
      have hne : o.ad ≠ p := fun z => e (ow_at s.ow.nd hi hj z)
      exact ⟨h1, sp _ h4 h2, Ow.ok_mono kk (hq _ hne h4) h3⟩
  · have e : (ow.set j (ol p xs')).map Ow.ad = ow.map Ow.ad := by
      rw [List.map_set]
      refine List.ext_getElem? fun i => ?_
      by_cases e : j = i
      · subst e
        rw [List.getElem?_set_self (by rw [List.length_map]; exact jl), List.getElem?_map, hj]
        rfl
      · rw [List.getElem?_set_ne e]
    rw [e]
    exact s.ow.nd
theorem em_callM {f : List β → τ → Option (α × List β)} {r : α} {i j : Nat} {p : Addr} {xs xs' : List β} (hi : sl[i]? = some (.at p)) (h : EAM K F Kn0 sl ow ta ow1 t) (hj : ow1[j]? = some (ol p xs)) (hf : f xs t = some (r, xs')) :
    EM K F Kn0 sl ow (tCall (PM K f) [] E (tCons (tVar i) ta)) (ow1.set j (ol p xs')) r := fun σ Kn H s Q q => by
  obtain ⟨o, h1, h2⟩ := s.sl.get hi
  refine ⟨.ref p, by rw [h1]; exact congrArg some h2, h σ Kn H s _ fun vs Kn1 H1 e1 s1 r1 => ?_⟩
  show PM K f ((.ref p :: vs) ++ []) H1 Q E
  rw [List.append_nil]
  obtain ⟨f1, f2, ws, f3, f4⟩ := s1.ow.each _ (List.mem_of_getElem? hj)
  exact ⟨Kn1, p, ws, vs, t, xs, r, xs', rfl, s1.ek, f2, f3, f4, r1, hf, fun v Kn' H' ws' kk kh hq sp hp rr rv => q v Kn' H' (e1.trans kk) (s1.write hj kk kh hq sp hp rr) rv⟩
end

/-! ### statements -/
section
variable (K : Fg) (F Kn0 : Hp) (sl : List Sl) (ow : List Ow)
def SN (D : Ends) : Prop := ∀ σ Kn H, S K F Kn0 sl ow σ Kn H → D.nx σ H
def SC (D : Ends) : Prop := ∀ σ Kn H, S K F Kn0 sl ow σ Kn H → D.ct σ H
def SK (D : Ends) : Prop := ∀ σ Kn H, S K F Kn0 sl ow σ Kn H → D.bk σ H
end
section
variable {K : Fg} {F Kn0 : Hp} {sl sl' : List Sl} {ow ow0 ow1 ow2 : List Ow} {α β γ τ : Type} [Rp α] [Rp β] [Rp γ] [Tp τ] {ta tb te : TE} {x : α} {D : Ends} {t u tz : TS} {tt : TT} {b : Bool} {i j : Nat} {p : Addr}
theorem SB.seq (h : SB K F Kn0 sl ow { D with nx := tz D } t) : SB K F Kn0 sl ow D (tSeq t tz) := h
theorem SB.le (h : SB K F Kn0 sl' ow D t) (l : SlLe sl sl') : SB K F Kn0 sl ow D t := fun σ Kn H s => h σ Kn H (s.le l)
theorem SB.sub (h : SB K F Kn0 sl ow1 D t) (l : ow1.Sublist ow) : SB K F Kn0 sl ow D t := fun σ Kn H s => h σ Kn H (s.sub l)
theorem SN.le (h : SN K F Kn0 sl' ow D) (l : SlLe sl sl') : SN K F Kn0 sl ow D := fun σ Kn H s => h σ Kn H (s.le l)
theorem SN.sub (h : SN K F Kn0 sl ow1 D) (l : ow1.Sublist ow) : SN K F Kn0 sl ow D := fun σ Kn H s => h σ Kn H (s.sub l)
theorem EN.le {xs : List α} (h : EN K F Kn0 sl' ow te xs) (l : SlLe sl sl') : EN K F Kn0 sl ow te xs := fun σ Kn H s => h σ Kn H (s.le l)
theorem EV.le (h : EV K F Kn0 sl' ow te x) (l : SlLe sl sl') : EV K F Kn0 sl ow te x := fun σ Kn H s => h σ Kn H (s.le l)
theorem sb_nx (k : SN K F Kn0 sl ow D) : SB K F Kn0 sl ow D tNext := k
theorem sb_ct (k : SC K F Kn0 sl ow D) : SB K F Kn0 sl ow D tCont := k
theorem sb_bk (k : SK K F Kn0 sl ow D) : SB K F Kn0 sl ow D tBreak := k
theorem sb_asg (hs : sl.set i (sv x) = sl') (h : EV K F Kn0 sl ow te x) (k : SN K F Kn0 sl' ow D) : SB K F Kn0 sl ow D (tAsg te (gName i)) := fun σ Kn H s =>
  h σ Kn H s _ fun v Kn1 H1 g1 r1 => k _ Kn1 H1 (hs ▸ (s.grow g1).setv i r1)
theorem sb_asgM (hs : sl.set i (sv x) = sl') (h : EM K F Kn0 sl ow te ow1 x) (k : SN K F Kn0 sl' ow1 D) : SB K F Kn0 sl ow D (tAsg te (gName i)) := fun σ Kn H s =>
  h σ Kn H s _ fun v Kn1 H1 e1 s1 r1 => k _ Kn1 H1 (hs ▸ s1.setv i r1)
/-- a new object is one's own -/
theorem S.own {σ : L2.St} {Kn H : Hp} {xs : List α} {ws : List V} (s : S K F Kn0 sl ow σ Kn H) (fp : F p = none) (kp : Kn p = none) (no : ∀ o ∈ ow, o.ad ≠ p) (hp : H p = some (.lst ws)) (r : Paired (rep K Kn) ws xs) : S K F Kn0 sl (ol p xs :: ow) σ Kn H :=
  ⟨s.e0, s.ek, s.ef, s.sep, s.sl, ⟨fun o ho => by
    rcases List.mem_cons.mp ho with rfl | ho
    · exact ⟨fp, kp, ws, hp, r⟩
    · exact s.ow.each o ho, List.nodup_cons.mpr ⟨fun h => by
      obtain ⟨o, ho, e⟩ := List.mem_map.mp h
      exact no o ho e, s.ow.nd⟩⟩⟩
theorem S.seta {σ : L2.St} {Kn H : Hp} (s : S K F Kn0 sl ow σ Kn H) (i : Nat) : S K F Kn0 (sl.set i (.at p)) ow (σ.set i (some (.ref p))) Kn H := s.set i rfl
theorem sb_asgO {xs : List α} {sl' : Addr → List Sl} (hs : ∀ p, sl.set i (.at p) = sl' p) (h : EN K F Kn0 sl ow te xs) (k : ∀ p, SN K F Kn0 (sl' p) (ol p xs :: ow) D) : SB K F Kn0 sl ow D (tAsg te (gName i)) := fun σ Kn H s =>
  h σ Kn H s _ fun p ws Kn1 H1 g1 hp kp hw r1 => k p _ Kn1 H1 (hs p ▸ ((s.grow g1).own (fresh_back s.ef hp) kp (owned_ne s hp) hw r1).seta i)
theorem sb_asgOM {xs : List α} {sl' : Addr → List Sl} (hs : ∀ p, sl.set i (.at p) = sl' p) (h : ENM K F Kn0 sl ow te ow1 xs) (k : ∀ p, SN K F Kn0 (sl' p) (ol p xs :: ow1) D) : SB K F Kn0 sl ow D (tAsg te (gName i)) := fun σ Kn H s =>
  h σ Kn H s _ fun p ws Kn1 H1 e1 s1 fp kp no hw r1 => k p _ Kn1 H1 (hs p ▸ (s1.own fp kp no hw r1).seta i)
theorem sb_aug {a c : Int} {f : Int → Int → Int} (hi : sl[i]? = some (sv a)) (hs : sl.set i (sv (f a c)) = sl') (h : EV K F Kn0 sl ow te c) (k : SN K F Kn0 sl' ow D) : SB K F Kn0 sl ow D (tAug i te (ipI f)) := fun σ Kn H s => by
  obtain ⟨o, h1, v, h2, h3⟩ := s.sl.get hi
  cases h3
  exact ⟨.int a, by rw [h1, h2], h σ Kn H s _ fun v Kn1 H1 g1 r1 => ⟨a, c, rfl, r1, k _ Kn1 H1 (hs ▸ (s.grow g1).setv (x := f a c) i rfl)⟩⟩
theorem sb_drop (h : EV K F Kn0 sl ow te x) (k : SN K F Kn0 sl ow D) : SB K F Kn0 sl ow D (tDrop te) := fun σ Kn H s => h σ Kn H s _ fun v Kn1 H1 g1 r1 => k _ Kn1 H1 (s.grow g1)
theorem sb_dropM (h : EM K F Kn0 sl ow te ow1 x) (k : SN K F Kn0 sl ow1 D) : SB K F Kn0 sl ow D (tDrop te) := fun σ Kn H s => h σ Kn H s _ fun v Kn1 H1 e1 s1 r1 => k _ Kn1 H1 s1
theorem upd_in {Kn H : Hp} {o : HO} (ek : Ex Kn H) (kp : Kn p = none) : Ex Kn (upd H p o) := fun a u h => by
  have hq : a ≠ p := fun z => by rw [z, kp] at h; cases h
  rw [upd_ne hq]
  exact ek _ _ h
/-- found.append(e) -/
theorem sb_app {xs : List α} (hi : sl[i]? = some (.at p)) (hj : ow[j]? = some (ol p xs)) (h : EV K F Kn0 sl ow te x) (hz : xs.length < 1000000) (k : SN K F Kn0 sl (ow.set j (ol p (xs ++ [x]))) D) :
    SB K F Kn0 sl ow D (tDrop (tBM K "list" rAppend (tVar i) (tCons te tNil))) := fun σ Kn H s => by
  obtain ⟨o, h1, h2⟩ := s.sl.get hi
  obtain ⟨f1, f2, ws, f3, f4⟩ := s.ow.each _ (List.mem_of_getElem? hj)
  refine ⟨.ref p, by rw [h1]; exact congrArg some h2, Or.inl ⟨rfl, ws, sq_of f3⟩, h σ Kn H s _ fun v Kn1 H1 g1 r1 => ?_⟩
  refine ⟨p, ws, v, rfl, rfl, g1.hh _ _ f3, by rw [paired_len f4]; exact lt_line hz, k _ Kn1 _ ?_⟩
  have kp1 : Kn1 p = none := g1.sp p (ne_none_of f3) f2
  exact (s.grow g1).write hj (Ex.refl _) (upd_in g1.kh kp1) (fun q hq _ => upd_ne hq) (fun _ _ h => h) upd_same (paired_append (paired_mono g1.kk f4) (.cons r1 .nil))
theorem sb_appM {xs : List α} (hi : sl[i]? = some (.at p)) (hi0 : ow[j]? = some (ol p xs)) (h : EM K F Kn0 sl ow te ow1 x) (hj : ow1[j]? = some (ol p xs)) (hz : xs.length < 1000000) (k : SN K F Kn0 sl (ow1.set j (ol p (xs ++ [x]))) D) :
    SB K F Kn0 sl ow D (tDrop (tBM K "list" rAppend (tVar i) (tCons te tNil))) := fun σ Kn H s => by
  obtain ⟨o, h1, h2⟩ := s.sl.get hi
  obtain ⟨_, _, ws0, f0, _⟩ := s.ow.each _ (List.mem_of_getElem? hi0)
  refine ⟨.ref p, by rw [h1]; exact congrArg some h2, Or.inl ⟨rfl, ws0, sq_of f0⟩, h σ Kn H s _ fun v Kn1 H1 e1 s1 r1 => ?_⟩
  obtain ⟨f1, f2, ws, f3, f4⟩ := s1.ow.each _ (List.mem_of_getElem? hj)
  refine ⟨p, ws, v, rfl, rfl, f3, by rw [paired_len f4]; exact lt_line hz, k _ Kn1 _ ?_⟩
  exact s1.write hj (Ex.refl _) (upd_in s1.ek f2) (fun q hq _ => upd_ne hq) (fun _ _ h => h) upd_same (paired_append f4 (.cons r1 .nil))
/-- the place of a written index -/
def setI {α : Type} (xs : List α) (i : Int) (x : α) : Option (List α) := (ixN xs.length i).map fun j => xs.set j x
/-- found[e] = x -/
theorem sb_setI {xs xs' : List α} {n : Int} (hi : sl[i]? = some (.at p)) (hj : ow[j]? = some (ol p xs)) (h : EV K F Kn0 sl ow te x) (hn : EV K F Kn0 sl ow tb n) (hx : setI xs n x = some xs') (k : SN K F Kn0 sl (ow.set j (ol p xs')) D) :
    SB K F Kn0 sl ow D (tAsg te (gSub (tVar i) tb rSetL)) := fun σ Kn H s => h σ Kn H s _ fun v Kn1 H1 g1 r1 => by
  obtain ⟨o, h1, h2⟩ := s.sl.get hi
  refine ⟨.ref p, by rw [h1]; exact congrArg some h2, hn σ Kn1 H1 (s.grow g1) _ fun w Kn2 H2 g2 r2 => ?_⟩
  have s2 := (s.grow g1).grow g2
  obtain ⟨f1, f2, ws, f3, f4⟩ := s2.ow.each _ (List.mem_of_getElem? hj)
  unfold setI at hx
  cases e : ixN xs.length n with
  | none => rw [e] at hx; cases hx
  | some m =>
    rw [e] at hx
    cases hx
    cases r2
    refine ⟨p, ws, n, m, rfl, rfl, f3, by rw [paired_len f4]; exact e, k _ Kn2 _ ?_⟩
    exact s2.write hj (Ex.refl _) (upd_in g2.kh f2) (fun q hq _ => upd_ne hq) (fun _ _ h => h) upd_same (paired_set (Rp.mono g2.kk r1) m f4)
/-- from now on it is known and stays as it is -/
theorem sb_freeze {xs : List α} (hi : sl[i]? = some (.at p)) (hj : ow[j]? = some (ol p xs)) (hs : sl.set i (sv xs) = sl') (ho : ow.eraseIdx j = ow1) (k : SB K F Kn0 sl' ow1 D t) : SB K F Kn0 sl ow D t := fun σ Kn H s => by
  obtain ⟨o, h1, h2⟩ := s.sl.get hi
  have h2 : o = some (.ref p) := h2
  obtain ⟨f1, f2, ws, f3, f4⟩ := s.ow.each _ (List.mem_of_getElem? hj)
  have hsub : ow1.Sublist ow := ho ▸ List.eraseIdx_sublist ow j
  have s1 := s.sub hsub
  have no : ∀ o ∈ ow1, o.ad ≠ p := fun o hm z => by
    have hnd := s.ow.nd
    subst ho
    obtain ⟨m, hm'⟩ := List.getElem?_of_mem hm
    rw [List.getElem?_eraseIdx] at hm'
    split at hm'
    · rename_i hlt
      have := ow_at hnd hm' hj z
      omega
    · rename_i hge
      have := ow_at hnd hm' hj z
      omega
  have s2 := s1.know (o := .lst ws) f1 f2 no f3
  have hσ : σ.set i o = σ := by
    refine List.ext_getElem? fun m => ?_
    by_cases e : i = m
    · subst e
      rw [List.getElem?_set_self (List.getElem?_eq_some_iff.mp h1).1, h1]
    · rw [List.getElem?_set_ne e]
  have s3 := s2.set (x := sv xs) (o := o) i ⟨.ref p, h2, p, ws, rfl, upd_same, paired_mono (Ex.new f2) f4⟩
  rw [hs, hσ] at s3
  exact k σ _ H s3
theorem sb_if (h : ET K F Kn0 sl ow tt b) (h1 : b = true → SB K F Kn0 sl ow D t) (h2 : b = false → SB K F Kn0 sl ow D u) : SB K F Kn0 sl ow D (tIfS tt t u) := fun σ Kn H s => h σ Kn H s _ fun Kn1 H1 g1 => by
  cases b with
  | true => exact iteT (h1 rfl σ Kn1 H1 (s.grow g1))
  | false => exact iteF (h2 rfl σ Kn1 H1 (s.grow g1))
theorem sb_cut (h : SB K F Kn0 sl ow { D with nx := fun σ H => ∃ Kn, S K F Kn0 sl' ow1 σ Kn H } t) (k : SB K F Kn0 sl' ow1 D tz) : SB K F Kn0 sl ow D (tCut t tz) := fun σ Kn H s => ⟨_, h σ Kn H s, fun σ' H' ⟨Kn', s'⟩ => k σ' Kn' H' s'⟩
theorem sn_mid (l : SlLe sl sl') (l2 : ow1.Sublist ow) : SN K F Kn0 sl ow { D with nx := fun σ H => ∃ Kn, S K F Kn0 sl' ow1 σ Kn H } := fun σ Kn H s => ⟨Kn, (s.le l).sub l2⟩
/-- returns -/
theorem sb_ret {R : VK} (h : EV K F Kn0 sl ow te x) (q : RT K F Kn0 ow0 R x) (l : ow0.Sublist ow) (hR : D.rt = R := by rfl) : SB K F Kn0 sl ow D (tRet te) := fun σ Kn H s => by
  subst hR
  exact h σ Kn H s _ fun v Kn1 H1 g1 r1 => q v Kn1 H1 ((s.grow g1).sub l).fin r1
theorem sb_retM {R : VK} (h : EM K F Kn0 sl ow te ow1 x) (q : RT K F Kn0 ow0 R x) (l : ow0.Sublist ow1) (hR : D.rt = R := by rfl) : SB K F Kn0 sl ow D (tRet te) := fun σ Kn H s => by
  subst hR
  exact h σ Kn H s _ fun v Kn1 H1 e1 s1 r1 => q v Kn1 H1 (s1.sub l).fin r1
theorem sb_retL {R : VK} {xs : List α} (h : EN K F Kn0 sl ow te xs) (q : RN K F Kn0 ow0 R xs) (l : ow0.Sublist ow) (hR : D.rt = R := by rfl) : SB K F Kn0 sl ow D (tRet te) := fun σ Kn H s => by
  subst hR
  exact h σ Kn H s _ fun p ws Kn1 H1 g1 hp kp hw r1 => q p ws Kn1 H1 ((s.grow g1).sub l).fin (fresh_back s.ef hp) kp hw r1
/-- a list of one's own is told -/
theorem sb_retO {R : VK} {xs : List α} (hi : sl[i]? = some (.at p)) (hj : ow[j]? = some (ol p xs)) (q : RN K F Kn0 ow0 R xs) (l : ow0.Sublist ow) (hR : D.rt = R := by rfl) : SB K F Kn0 sl ow D (tRet (tVar i)) := fun σ Kn H s => by
  subst hR
  obtain ⟨o, h1, h2⟩ := s.sl.get hi
  obtain ⟨f1, f2, ws, f3, f4⟩ := s.ow.each _ (List.mem_of_getElem? hj)
  exact ⟨.ref p, by rw [h1]; exact congrArg some h2, q p ws Kn H (s.sub l).fin f1 f2 f3 f4⟩
theorem SB.seqB (h : (∀ sl' ow', SB K F Kn0 sl' ow' D tz → SN K F Kn0 sl' ow' { D with nx := tz D }) → SB K F Kn0 sl ow { D with nx := tz D } t) : SB K F Kn0 sl ow D (tSeq t tz) := h fun _ _ k => k
theorem SB.cutB (h : (∀ sl2 ow2, SlLe sl2 sl' → ow1.Sublist ow2 → SN K F Kn0 sl2 ow2 { D with nx := fun σ H => ∃ Kn, S K F Kn0 sl' ow1 σ Kn H }) → SB K F Kn0 sl ow { D with nx := fun σ H => ∃ Kn, S K F Kn0 sl' ow1 σ Kn H } t) (k : SB K F Kn0 sl' ow1 D tz) : SB K F Kn0 sl ow D (tCut t tz) :=
  sb_cut (h fun _ _ l l2 => sn_mid l l2) k
end

/-! ### targets -/
section
variable {α β τ : Type} [Rp α] [Rp β] [Tp τ] {sl sl' sl2 : List Sl} {K : Fg}
theorem wipe_set : ∀ {vs : List Nat} {i : Nat} {o : Option V} {σ : L2.St}, i ∈ vs → wipe (σ.set i o) vs = wipe σ vs
  | v :: vs, i, o, σ, h => by
    by_cases e : i ∈ vs
    · unfold wipe
      rw [wipe_set e]
    · have hv : i = v := (List.mem_cons.mp h).resolve_right e
      subst hv
      have w : ∀ (vs : List Nat) (σ : L2.St), i ∉ vs → wipe (σ.set i o) vs = (wipe σ vs).set i o := by
        intro vs
        induction vs with
        | nil => intro σ _; rfl
        | cons a r ih =>
          intro σ hn
          show (wipe (σ.set i o) r).set a none = ((wipe σ r).set a none).set i o
          rw [ih σ (fun z => hn (List.mem_cons_of_mem _ z)), List.set_comm]
          exact fun z => hn (by rw [z]; exact List.mem_cons_self)
      show (wipe (σ.set i o) vs).set i none = (wipe σ vs).set i none
      rw [w vs σ e, List.set_set]
def GT (K : Fg) (g : TG) (sl sl' : List Sl) (js : List Nat) (x : α) : Prop := ∀ σ Kn H v, SlsOk K Kn sl σ → Ex Kn H → rep K Kn v x → ∀ Q : L2.St → Hp → Prop, (∀ σ', SlsOk K Kn sl' σ' → (∀ vs, (∀ j ∈ js, j ∈ vs) → wipe σ' vs = wipe σ vs) → Q σ' H) → g v σ H Q
def GTs (K : Fg) (g : TGs) (sl sl' : List Sl) (js : List Nat) (t : τ) : Prop := ∀ σ Kn H vs, SlsOk K Kn sl σ → Ex Kn H → rept K Kn vs t → ∀ Q : L2.St → Hp → Prop, (∀ σ', SlsOk K Kn sl' σ' → (∀ vs, (∀ j ∈ js, j ∈ vs) → wipe σ' vs = wipe σ vs) → Q σ' H) → g vs σ H Q
theorem gt_name {i : Nat} {x : α} (hs : sl.set i (sv x) = sl') : GT K (gName i) sl sl' [i] x := fun σ Kn H v s ek r Q q => q _ (hs ▸ SlsOk.set (s := sv x) ⟨v, rfl, r⟩ i s) fun vs h => wipe_set (h i (by simp))
theorem gts_nil : GTs K gNil sl sl [] () := fun σ Kn H vs s ek r Q q => ⟨r, q σ s fun _ _ => rfl⟩
theorem gts_cons {g : TG} {gs : TGs} {js ks : List Nat} {x : α} {t : τ} (h1 : GT K g sl sl' js x) (h2 : GTs K gs sl' sl2 ks t) : GTs K (gCons g gs) sl sl2 (js ++ ks) (x, t) := fun σ Kn H vs s ek r Q q => by
  obtain ⟨v, rest, rfl, r1, r2⟩ := r
  exact ⟨v, rest, rfl, h1 σ Kn H v s ek r1 _ fun σ1 s1 w1 => h2 σ1 Kn H rest s1 ek r2 _ fun σ2 s2 w2 => q σ2 s2 fun vs h => (w2 vs fun j hj => h j (List.mem_append_right _ hj)).trans (w1 vs fun j hj => h j (List.mem_append_left _ hj))⟩
theorem gt_tup {gs : TGs} {js : List Nat} {n : Nat} {t : α × τ} (h : GTs K gs sl sl' js t) (hn : Tp.n (α × τ) = n := by rfl) : GT K (gTup K n gs) sl sl' js t := fun σ Kn H v s ek r Q q => by
  obtain ⟨p, ws, rfl, h1, h2⟩ := r
  exact ⟨p, ws, rfl, st_of (ek _ _ h1), (Tp.len h2).trans hn, h σ Kn H ws s ek h2 Q q⟩
end
section
variable {K : Fg} {F Kn0 : Hp} {sl sl' : List Sl} {ow ow1 : List Ow} {α : Type} [Rp α] {te : TE} {x : α} {D : Ends} {g : TG} {js : List Nat}
/-- a, b = e -/
theorem sb_unp (h : EV K F Kn0 sl ow te x) (hg : GT K g sl sl' js x) (k : SN K F Kn0 sl' ow D) : SB K F Kn0 sl ow D (tAsg te g) := fun σ Kn H s =>
  h σ Kn H s _ fun v Kn1 H1 g1 r1 => by
    have s1 := s.grow g1
    exact hg σ Kn1 H1 v s1.sl s1.ek r1 _ fun σ' h' _ => k σ' Kn1 H1 ⟨s1.e0, s1.ek, s1.ef, s1.sep, h', s1.ow⟩
theorem sb_unpM (h : EM K F Kn0 sl ow te ow1 x) (hg : GT K g sl sl' js x) (k : SN K F Kn0 sl' ow1 D) : SB K F Kn0 sl ow D (tAsg te g) := fun σ Kn H s =>
  h σ Kn H s _ fun v Kn1 H1 e1 s1 r1 => hg σ Kn1 H1 v s1.sl s1.ek r1 _ fun σ' h' _ => k σ' Kn1 H1 ⟨s1.e0, s1.ek, s1.ef, s1.sep, h', s1.ow⟩
/-- a, b = e1, e2 -/
theorem sb_par {α β : Type} [Rp α] [Rp β] {ta : TA} {i j : Nat} {x : α} {y : β} (hs : (sl.set i (sv x)).set j (sv y) = sl') (h : EA K F Kn0 sl ow ta (x, y, ())) (k : SN K F Kn0 sl' ow D) : SB K F Kn0 sl ow D (tPar i j ta) := fun σ Kn H s =>
  h σ Kn H s _ fun vs Kn1 H1 g1 r1 => by
    obtain ⟨v, w, rfl, h1, h2⟩ := two_args r1
    exact ⟨v, w, rfl, k _ Kn1 H1 (hs ▸ ((s.grow g1).setv i h1).setv j h2)⟩
end

/-! ### what is walked -/
def WK {β : Type} [Rp β] (K : Fg) (Kn1 : Hp) (J : It) (xs : List β) : Prop := ∀ i Kn' H', Ex Kn1 Kn' → Ex Kn' H' →
  (∀ x, xs[i]? = some x → J.go i H' ∧ ∀ v H2, J.yld i H' v H2 → ∃ Kn2, Gr Kn' H' Kn2 H2 ∧ rep K Kn2 v x) ∧ (xs.length ≤ i → J.stop i H')
section
variable (K : Fg) (F Kn0 : Hp) (sl : List Sl) (ow : List Ow)
def IT {β : Type} [Rp β] (wi : TI) (xs : List β) : Prop := ∀ σ Kn H, S K F Kn0 sl ow σ Kn H → ∀ R : It → Hp → Prop, (∀ J Kn1 H1, Gr Kn H Kn1 H1 → WK K Kn1 J xs → R J H1) → wi σ H R
def ITM {β : Type} [Rp β] (wi : TI) (ow' : List Ow) (xs : List β) : Prop := ∀ σ Kn H, S K F Kn0 sl ow σ Kn H → ∀ R : It → Hp → Prop, (∀ J Kn1 H1, Ex Kn Kn1 → S K F Kn0 sl ow' σ Kn1 H1 → WK K Kn1 J xs → R J H1) → wi σ H R
end
/-- lo, lo + 1 .. below hi -/
def irange (lo hi : Int) : List Int := (List.range (hi - lo).toNat).map fun (k : Nat) => lo + (k : Int)
def rngO (lo hi : Int) : Option (List Int) := if -1000000000000 ≤ lo ∧ lo ≤ 1000000000000 ∧ -1000000000000 ≤ hi ∧ hi ≤ 1000000000000 then some (irange lo hi) else none
def enumI {α : Type} (xs : List α) : List (Int × α × Unit) := xs.mapIdx fun i x => ((i : Int), x, ())
def zipI {α β : Type} (xs : List α) (ys : List β) : List (α × β × Unit) := List.zipWith (fun a b => (a, b, ())) xs ys
section
variable {K : Fg} {F Kn0 : Hp} {sl sl' : List Sl} {ow ow1 : List Ow} {α β : Type} [Rp α] [Rp β] {te : TE} {ta : TA}
theorem IT.m {wi : TI} {xs : List β} (h : IT K F Kn0 sl ow wi xs) : ITM K F Kn0 sl ow wi ow xs := fun σ Kn H s R q => h σ Kn H s R fun J Kn1 H1 g w => q J Kn1 H1 g.kk (s.grow g) w
theorem wk_list {Kn1 : Hp} {p : Addr} {ws : List V} {xs : List α} (h : SqL K Kn1 p ws) (r : Paired (rep K Kn1) ws xs) : WK K Kn1 (Itl K p) xs := fun i Kn' H' e1 e2 => by
  have hq : SqL K H' p ws := ex_l (e1.trans e2) h
  refine ⟨fun x hx => ?_, fun hl => ⟨ws, hq, by rw [paired_len r]; exact hl⟩⟩
  obtain ⟨v, hv, rv⟩ := paired_at r hx
  refine ⟨⟨ws, v, hq, hv⟩, fun u H2 hy => ?_⟩
  obtain ⟨rfl, f⟩ := hy
  have : v = u := Option.some.inj (hv.symm.trans (f ws hq))
  subst this
  exact ⟨Kn', Gr.refl e2, Rp.mono e1 rv⟩
theorem it_list {xs : List α} (h : EV K F Kn0 sl ow te xs) : IT K F Kn0 sl ow (iList K te) xs := fun σ Kn H s R q => h σ Kn H s _ fun v Kn1 H1 g1 r1 => by
  obtain ⟨p, ws, rfl, h3, h4⟩ := r1
  exact ⟨p, rfl, ⟨ws, sq_of (g1.kh _ _ h3)⟩, q _ Kn1 H1 g1 (wk_list (sq_of h3) h4)⟩
theorem it_listF {xs : Fz α} (h : EV K F Kn0 sl ow te xs) : IT K F Kn0 sl ow (iList K te) xs.l := fun σ Kn H s R q => h σ Kn H s _ fun v Kn1 H1 g1 r1 => by
  obtain ⟨p, ws, rfl, h3, h4⟩ := r1
  exact ⟨p, rfl, ⟨ws, ex_l g1.kh h3⟩, q _ Kn1 H1 g1 (wk_list h3 h4)⟩
theorem itm_list {xs : List α} (h : ENM K F Kn0 sl ow te ow1 xs) : ITM K F Kn0 sl ow (iList K te) ow1 xs := fun σ Kn H s R q => h σ Kn H s _ fun p ws Kn1 H1 e1 s1 fp kp no hw r1 => by
  have s2 := s1.know (o := .lst ws) fp kp no hw
  exact ⟨p, rfl, ⟨ws, sq_of hw⟩, q _ _ H1 (e1.trans (Ex.new kp)) s2 (wk_list (sq_of upd_same) (paired_mono (Ex.new kp) r1))⟩
theorem it_tup {xs : Tu α} (h : EV K F Kn0 sl ow te xs) : IT K F Kn0 sl ow (iTup K te) xs.l := fun σ Kn H s R q => h σ Kn H s _ fun v Kn1 H1 g1 r1 => by
  obtain ⟨p, ws, rfl, h3, h4⟩ := r1
  refine ⟨p, rfl, ⟨ws, st_of (g1.kh _ _ h3)⟩, q _ Kn1 H1 g1 fun i Kn' H' e1 e2 => ?_⟩
  have hq : SqT K H' p ws := st_of ((e1.trans e2) _ _ h3)
  refine ⟨fun x hx => ?_, fun hl => ⟨ws, hq, by rw [paired_len h4]; exact hl⟩⟩
  obtain ⟨v, hv, rv⟩ := paired_at h4 hx
  refine ⟨⟨ws, v, hq, hv⟩, fun u H2 hy => ?_⟩
  obtain ⟨rfl, f⟩ := hy
  have : v = u := Option.some.inj (hv.symm.trans (f ws hq))
  subst this
  exact ⟨Kn', Gr.refl e2, Rp.mono e1 rv⟩
theorem wk_range {Kn1 : Hp} (lo hi : Int) : WK K Kn1 (Itr lo (hi - lo).toNat) (irange lo hi) := fun i Kn' H' e1 e2 => by
  refine ⟨fun x hx => ?_, fun hl => ?_⟩
  · unfold irange at hx
    rw [List.getElem?_map] at hx
    cases q : (List.range (hi - lo).toNat)[i]? with
    | none => rw [q] at hx; cases hx
    | some m =>
      rw [q] at hx
      obtain ⟨hlt, he⟩ := List.getElem?_eq_some_iff.mp q
      rw [List.getElem_range] at he
      rw [List.length_range] at hlt
      subst he
      cases hx
      refine ⟨hlt, fun v H2 hy => ?_⟩
      obtain ⟨rfl, rfl⟩ := hy
      exact ⟨Kn', Gr.refl e2, rfl⟩
  · unfold irange at hl
    rw [List.length_map, List.length_range] at hl
    exact hl
theorem it_rng1 {n : Int} {xs : List Int} (h : EA K F Kn0 sl ow ta (n, ())) (hx : rngO 0 n = some xs) : IT K F Kn0 sl ow (iRng1 ta) xs := fun σ Kn H s R q => h σ Kn H s _ fun vs Kn1 H1 g1 r1 => by
  obtain ⟨v, rfl, h1⟩ := one_arg r1
  cases h1
  unfold rngO at hx
  split at hx
  · rename_i hb
    cases hx
    refine ⟨n, rfl, by omega, by omega, q _ Kn1 H1 g1 ?_⟩
    have w := wk_range (K := K) (Kn1 := Kn1) 0 n
    rw [Int.sub_zero] at w
    exact w
  · cases hx
theorem itm_rng1 {n : Int} {xs : List Int} (h : EAM K F Kn0 sl ow ta ow1 (n, ())) (hx : rngO 0 n = some xs) : ITM K F Kn0 sl ow (iRng1 ta) ow1 xs := fun σ Kn H s R q => h σ Kn H s _ fun vs Kn1 H1 e1 s1 r1 => by
  obtain ⟨v, rfl, h1⟩ := one_arg r1
  cases h1
  unfold rngO at hx
  split at hx
  · rename_i hb
    cases hx
    refine ⟨n, rfl, by omega, by omega, q _ Kn1 H1 e1 s1 ?_⟩
    have w := wk_range (K := K) (Kn1 := Kn1) 0 n
    rw [Int.sub_zero] at w
    exact w
  · cases hx
theorem it_rng2 {lo n : Int} {xs : List Int} (h : EA K F Kn0 sl ow ta (lo, n, ())) (hx : rngO lo n = some xs) : IT K F Kn0 sl ow (iRng2 ta) xs := fun σ Kn H s R q => h σ Kn H s _ fun vs Kn1 H1 g1 r1 => by
  obtain ⟨v, w, rfl, h1, h2⟩ := two_args r1
  cases h1
  cases h2
  unfold rngO at hx
  split at hx
  · rename_i hb
    cases hx
    exact ⟨lo, n, rfl, ⟨by omega, by omega, by omega, by omega⟩, q _ Kn1 H1 g1 (wk_range lo n)⟩
  · cases hx
theorem enum_get {xs : List α} {i : Nat} {y : Int × α × Unit} (h : (enumI xs)[i]? = some y) : ∃ x, xs[i]? = some x ∧ y = ((i : Int), x, ()) := by
  unfold enumI at h
  rw [List.getElem?_mapIdx] at h
  cases q : xs[i]? with
  | none => rw [q] at h; cases h
  | some x => rw [q] at h; cases h; exact ⟨x, rfl, rfl⟩
theorem wk_enum {Kn1 : Hp} {p : Addr} {ws : List V} {xs : List α} (h : SqL K Kn1 p ws) (r : Paired (rep K Kn1) ws xs) : WK K Kn1 (Ite K p) (enumI xs) := fun i Kn' H' e1 e2 => by
  have hq : SqL K H' p ws := ex_l (e1.trans e2) h
  refine ⟨fun y hy => ?_, fun hl => ⟨ws, hq, by rw [paired_len r]; simpa [enumI] using hl⟩⟩
  obtain ⟨x, hx, rfl⟩ := enum_get hy
  obtain ⟨v, hv, rv⟩ := paired_at r hx
  refine ⟨⟨ws, v, hq, hv⟩, fun u H2 hy => ?_⟩
  obtain ⟨T, z, rfl, hT, rfl, f⟩ := hy
  have : v = z := Option.some.inj (hv.symm.trans (f ws hq))
  subst this
  have g : Gr Kn' H' (upd Kn' T (.tup [.int (i : Nat), v])) (upd H' T (.tup [.int (i : Nat), v])) := Gr.new e2 hT
  exact ⟨_, g, T, _, rfl, upd_same, .int (i : Nat), [v], rfl, rfl, v, [], rfl, Rp.mono (e1.trans g.kk) rv, rfl⟩
theorem it_enum {xs : List α} (h : EA K F Kn0 sl ow ta (xs, ())) : IT K F Kn0 sl ow (iEnum K ta) (enumI xs) := fun σ Kn H s R q => h σ Kn H s _ fun vs Kn1 H1 g1 r1 => by
  obtain ⟨v, rfl, p, ws, rfl, h3, h4⟩ := one_arg r1
  exact ⟨p, ws, rfl, sq_of (g1.kh _ _ h3), q _ Kn1 H1 g1 (wk_enum (sq_of h3) h4)⟩
theorem zip_get {xs : List α} {ys : List β} {i : Nat} {z : α × β × Unit} (h : (zipI xs ys)[i]? = some z) : ∃ x y, xs[i]? = some x ∧ ys[i]? = some y ∧ z = (x, y, ()) := by
  unfold zipI at h
  rw [List.getElem?_zipWith] at h
  cases q : xs[i]? with
  | none => rw [q] at h; simp at h
  | some x =>
    cases q2 : ys[i]? with
    | none => rw [q, q2] at h; simp at h
    | some y =>
      rw [q, q2] at h
      simp at h
      exact ⟨x, y, rfl, rfl, h.symm⟩
theorem it_zip {xs : List α} {ys : List β} (h : EA K F Kn0 sl ow ta (xs, ys, ())) : IT K F Kn0 sl ow (iZip K ta) (zipI xs ys) := fun σ Kn H s R q => h σ Kn H s _ fun vs Kn1 H1 g1 r1 => by
  obtain ⟨v, w, rfl, ⟨p, ws, rfl, h3, h4⟩, ⟨p2, ws2, rfl, h5, h6⟩⟩ := two_args r1
  refine ⟨p, p2, ws, ws2, rfl, sq_of (g1.kh _ _ h3), sq_of (g1.kh _ _ h5), q _ Kn1 H1 g1 fun i Kn' H' e1 e2 => ?_⟩
  have hq : SqL K H' p ws := sq_of ((e1.trans e2) _ _ h3)
  have hq2 : SqL K H' p2 ws2 := sq_of ((e1.trans e2) _ _ h5)
  refine ⟨fun y hy => ?_, fun hl => ⟨ws, ws2, hq, hq2, ?_⟩⟩
  · obtain ⟨x, y, hx, hy2, rfl⟩ := zip_get hy
    obtain ⟨v, hv, rv⟩ := paired_at h4 hx
    obtain ⟨v2, hv2, rv2⟩ := paired_at h6 hy2
    refine ⟨⟨ws, ws2, v, v2, hq, hq2, hv, hv2⟩, fun u H2 hy => ?_⟩
    obtain ⟨T, z, z2, rfl, hT, rfl, f, f2⟩ := hy
    have e3 : v = z := Option.some.inj (hv.symm.trans (f ws hq))
    have e4 : v2 = z2 := Option.some.inj (hv2.symm.trans (f2 ws2 hq2))
    subst e3
    subst e4
    have g : Gr Kn' H' (upd Kn' T (.tup [v, v2])) (upd H' T (.tup [v, v2])) := Gr.new e2 hT
    exact ⟨_, g, T, _, rfl, upd_same, v, [v2], rfl, Rp.mono (e1.trans g.kk) rv, v2, [], rfl, Rp.mono (e1.trans g.kk) rv2, rfl⟩
  · rw [paired_len h4, paired_len h6]
    simp [zipI] at hl
    omega
end

/-! ### loops -/
structure Bs (F Kn0 Kn1 : Hp) : Prop where
  e : Ex Kn0 Kn1
  sp : ∀ p, F p ≠ none → Kn0 p = none → Kn1 p = none
section
variable {K : Fg} {F Kn0 Kn1 : Hp} {sl sl' : List Sl} {ow ow0 ow1 : List Ow} {α β γ : Type} [Rp α] [Rp β] [Rp γ] {D : Ends} {σ : L2.St} {Kn H : Hp}
theorem Bs.refl : Bs F Kn0 Kn0 := ⟨Ex.refl _, fun _ _ h => h⟩
theorem S.bs (s : S K F Kn0 sl ow σ Kn H) : Bs F Kn0 Kn := ⟨s.e0, s.sep⟩
theorem S.rebase (s : S K F Kn0 sl ow σ Kn H) : S K F Kn sl ow σ Kn H := ⟨Ex.refl _, s.ek, s.ef, fun _ _ h => h, s.sl, s.ow⟩
theorem S.unbase (b : Bs F Kn0 Kn1) (s : S K F Kn1 sl ow σ Kn H) : S K F Kn0 sl ow σ Kn H := ⟨b.e.trans s.e0, s.ek, s.ef, fun p h1 h2 => s.sep p h1 (b.sp p h1 h2), s.sl, s.ow⟩
theorem RT.base {R : VK} {x : α} (q : RT K F Kn0 ow R x) (b : Bs F Kn0 Kn1) : RT K F Kn1 ow R x := fun v Kn H s => q v Kn H (s.unbase b)
theorem RN.base {R : VK} {xs : List α} (q : RN K F Kn0 ow R xs) (b : Bs F Kn0 Kn1) : RN K F Kn1 ow R xs := fun p ws Kn H s => q p ws Kn H (s.unbase b)
theorem SN.base (q : SN K F Kn0 sl ow D) (b : Bs F Kn0 Kn1) : SN K F Kn1 sl ow D := fun σ Kn H s => q σ Kn H (s.unbase b)
theorem sb_for {wi : TI} {g : TG} {tb : TS} {Sx : Type} {xs : List β} (slx : Sx → List Sl) (owx : Sx → List Ow) (gx : β → Sx → List Sl) (js : List Nat) (P : List β → Sx → Prop) (s0 : Sx) (hi : ITM K F Kn0 sl ow wi ow1 xs) (h0 : P xs s0) (le : SlLe sl (slx s0)) (eo : (owx s0).Sublist ow1)
    (hg : ∀ x s, GT K g (slx s) (gx x s) js x)
    (step : ∀ Kn1, Bs F Kn0 Kn1 → ∀ x rest s, P (x :: rest) s → ∀ N : L2.St → Hp → Prop, (∀ s', P rest s' → ∀ σ Kn H, S K F Kn1 (slx s') (owx s') σ Kn H → N σ H) → SB K F Kn1 (gx x s) (owx s) { D with nx := N, ct := N, bk := D.nx } tb)
    (done : ∀ s, P [] s → SN K F Kn0 (slx s) (owx s) D) : SB K F Kn0 sl ow D (tFor wi g tb) := fun σ Kn H s =>
  hi σ Kn H s _ fun J Kn1 H1 e1 s1 w => by
    have b : Bs F Kn0 Kn1 := s1.bs
    refine ⟨fun i m σ H => i + m = xs.length ∧ ∃ Kn s, P (xs.drop i) s ∧ S K F Kn1 (slx s) (owx s) σ Kn H, ⟨xs.length, by omega, Kn1, s0, h0, (s1.rebase.le le).sub eo⟩, fun i m σ H hW => ?_⟩
    obtain ⟨em, Kn, s, hP, hS⟩ := hW
    by_cases hlt : i < xs.length
    · have hx : xs[i]? = some xs[i] := List.getElem?_eq_getElem hlt
      have hd : xs.drop i = xs[i] :: xs.drop (i + 1) := List.drop_eq_getElem_cons hlt
      rw [hd] at hP
      obtain ⟨go, yl⟩ := (w i Kn H hS.e0 hS.ek).1 _ hx
      refine .inr ⟨go, fun σ' H' => ∃ Kn s, P (xs.drop (i + 1)) s ∧ S K F Kn1 (slx s) (owx s) σ' Kn H', fun σ' H' ⟨Kn', s', h1, h2⟩ => ⟨m - 1, by omega, by omega, Kn', s', h1, h2⟩, fun v H' hy => ?_⟩
      obtain ⟨Kn2, g2, rv⟩ := yl v H' hy
      have hS2 := hS.grow g2
      refine hg _ s σ Kn2 H' v hS2.sl hS2.ek rv _ fun σ2 h2 _ => ?_
      exact step Kn1 b _ _ s hP _ (fun s' hs' σ Kn H hS' => ⟨Kn, s', hs', hS'⟩) σ2 Kn2 H' ⟨hS2.e0, hS2.ek, hS2.ef, hS2.sep, h2, hS2.ow⟩
    · have hd : xs.drop i = [] := List.drop_eq_nil_of_le (by omega)
      rw [hd] at hP
      exact .inl ⟨(w i Kn H hS.e0 hS.ek).2 (by omega), done s hP σ Kn H (hS.unbase b)⟩
theorem sb_while {tt : TT} {tb : TS} {Sx : Type} (slx : Sx → List Sl) (owx : Sx → List Ow) (P : Nat → Sx → Prop) (n0 : Nat) (s0 : Sx) (h0 : P n0 s0) (le : SlLe sl (slx s0)) (eo : (owx s0).Sublist ow)
    (step : ∀ n s, P n s → ∃ b, ET K F Kn0 (slx s) (owx s) tt b ∧
      (b = true → ∀ N : L2.St → Hp → Prop, (∀ m s', m < n → P m s' → ∀ σ Kn H, S K F Kn0 (slx s') (owx s') σ Kn H → N σ H) → SB K F Kn0 (slx s) (owx s) { D with nx := N, ct := N, bk := D.nx } tb) ∧ (b = false → SN K F Kn0 (slx s) (owx s) D)) :
    SB K F Kn0 sl ow D (tWhile tt tb) := fun σ Kn H s => by
  refine ⟨fun n σ H => ∃ Kn s, P n s ∧ S K F Kn0 (slx s) (owx s) σ Kn H, ⟨n0, Kn, s0, h0, (s.le le).sub eo⟩, fun n σ H hW => ?_⟩
  obtain ⟨Kn, s, hP, hS⟩ := hW
  obtain ⟨b, h1, h2, h3⟩ := step n s hP
  refine h1 σ Kn H hS _ fun Kn1 H1 g1 => ?_
  cases b with
  | true => exact iteT ⟨fun σ H => ∃ m Kn s, m < n ∧ P m s ∧ S K F Kn0 (slx s) (owx s) σ Kn H, fun σ' H' ⟨m, Kn', s', hm, hp, hs⟩ => ⟨m, hm, Kn', s', hp, hs⟩, h2 rfl _ (fun m s' hm hp σ Kn H hs => ⟨m, Kn, s', hm, hp, hs⟩) σ Kn1 H1 (hS.grow g1)⟩
  | false => exact iteF (h3 rfl σ Kn1 H1 (hS.grow g1))
end

/-! ### comprehensions -/
def lcGo {β γ : Type} (c : β → Option Bool) (f : β → Option γ) : List β → Option (List γ)
  | [] => some []
  | x :: xs => (c x).bind fun b => if b = true then (f x).bind fun z => (lcGo c f xs).bind fun zs => some (z :: zs) else lcGo c f xs
def lcM {β γ : Type} (c : β → Option Bool) (f : β → Option γ) (xs : List β) : Option (List γ) := if xs.length < 1000000 then lcGo c f xs else none
def lcSGo {β γ Sx : Type} (f : β → Sx → Option (γ × Sx)) : List β → Sx → Option (List γ × Sx)
  | [], s => some ([], s)
  | x :: xs, s => (f x s).bind fun r => (lcSGo f xs r.2).bind fun q => some (r.1 :: q.1, q.2)
def lcS {β γ Sx : Type} (f : β → Sx → Option (γ × Sx)) (xs : List β) (s : Sx) : Option (List γ × Sx) := if xs.length < 1000000 then lcSGo f xs s else none
section
variable {K : Fg} {F Kn0 : Hp} {sl sl' : List Sl} {ow ow0 ow1 : List Ow} {α β γ : Type} [Rp α] [Rp β] [Rp γ] {σ : L2.St} {Kn H : Hp} {tt : TT} {te : TE} {wi : TI} {g : TG} {vs js : List Nat}
theorem bind_some {α β : Type} {m : Option α} {f : α → Option β} {r : β} (h : m.bind f = some r) : ∃ a, m = some a ∧ f a = some r := by
  cases m with
  | none => cases h
  | some a => exact ⟨a, rfl, h⟩
theorem SlsOk.wipe : ∀ {vs : List Nat} {Kn : Hp} {sl : List Sl} {σ : L2.St}, (∀ j ∈ vs, sl[j]? = some .any) → SlsOk K Kn sl σ → SlsOk K Kn sl (wipe σ vs)
  | [], _, _, _, _, h => h
  | v :: vs, Kn, sl, σ, hv, h => by
    have h1 := SlsOk.wipe (vs := vs) (fun j hj => hv j (List.mem_cons_of_mem _ hj)) h
    have h2 := SlsOk.set (K := K) (H := Kn) (s := .any) (o := none) trivial v h1
    have e : sl.set v .any = sl := by
      refine List.ext_getElem? fun m => ?_
      have hm := hv v List.mem_cons_self
      by_cases q : v = m
      · subst q
        rw [List.getElem?_set_self (List.getElem?_eq_some_iff.mp hm).1, hm]
      · rw [List.getElem?_set_ne q]
    rw [e] at h2
    exact h2
theorem S.wipe (s : S K F Kn0 sl ow σ Kn H) (hv : ∀ j ∈ vs, sl[j]? = some .any) : S K F Kn0 sl ow (wipe σ vs) Kn H := ⟨s.e0, s.ek, s.ef, s.sep, s.sl.wipe hv, s.ow⟩
theorem Gr.mut {Kn' H' : Hp} {p : Addr} {o : HO} (g : Gr Kn H Kn' H') (hp : H p = none) (kp : Kn' p = none) : Gr Kn H Kn' (upd H' p o) :=
  ⟨g.kk, Ex.mut g.hh hp, upd_in g.kh kp, g.sp⟩
theorem S.slots {σ2 : L2.St} (s : S K F Kn0 sl ow σ Kn H) (h : SlsOk K Kn sl' σ2) : S K F Kn0 sl' ow σ2 Kn H := ⟨s.e0, s.ek, s.ef, s.sep, h, s.ow⟩
theorem en_lc {xs : List β} {zs : List γ} {c : β → Option Bool} {f : β → Option γ} (gx : β → List Sl) (hm : lcM c f xs = some zs) (hi : IT K F Kn0 sl ow wi xs) (hv : ∀ j ∈ vs, sl[j]? = some .any) (hg : ∀ x, GT K g sl (gx x) js x) (hj : ∀ j ∈ js, j ∈ vs)
    (ht : ∀ p (acc : List γ) x b, c x = some b → ET K F Kn0 (gx x) (ol p acc :: ow) tt b) (he : ∀ p (acc : List γ) x z, c x = some true → f x = some z → EV K F Kn0 (gx x) (ol p acc :: ow) te z) :
    EN K F Kn0 sl ow (tLc wi g tt te vs) zs := fun σ Kn H s Q q => by
  unfold lcM at hm
  split at hm
  case isFalse => cases hm
  rename_i hlen
  refine hi σ Kn H s _ fun J Kn1 H1 g1 w D hD => ?_
  have s1 := s.grow g1
  have kD : Kn1 D = none := fresh_back s1.ek hD
  have fD : F D = none := fresh_back s1.ef hD
  refine ⟨fun i m H' => i + m = xs.length ∧ ∃ Kn' ws acc rest, Gr Kn1 H1 Kn' H' ∧ Kn' D = none ∧ H' D = some (.lst ws) ∧ Paired (rep K Kn') ws acc ∧ acc.length ≤ i ∧ lcGo c f (xs.drop i) = some rest ∧ acc ++ rest = zs,
    ⟨xs.length, by omega, Kn1, [], [], zs, (Gr.newU g1.kh hD), kD, upd_same, .nil, Nat.le_refl _, hm, rfl⟩, fun i m H' hW => ?_⟩
  obtain ⟨em, Kn', ws, acc, rest, gr, kD', hD', rp, hal, hrest, hz⟩ := hW
  have s' : S K F Kn0 sl (ol D acc :: ow) σ Kn' H' := (s1.grow gr).own fD kD' (owned_ne s1 hD) hD' rp
  by_cases hlt : i < xs.length
  · have hx : xs[i]? = some xs[i] := List.getElem?_eq_getElem hlt
    have hd : xs.drop i = xs[i] :: xs.drop (i + 1) := List.drop_eq_getElem_cons hlt
    rw [hd] at hrest
    obtain ⟨b, hb, hrest⟩ := bind_some hrest
    obtain ⟨go, yl⟩ := (w i Kn' H' gr.kk gr.kh).1 _ hx
    refine .inr ⟨go, fun H'' => ∃ Kn' ws acc rest, Gr Kn1 H1 Kn' H'' ∧ Kn' D = none ∧ H'' D = some (.lst ws) ∧ Paired (rep K Kn') ws acc ∧ acc.length ≤ i + 1 ∧ lcGo c f (xs.drop (i + 1)) = some rest ∧ acc ++ rest = zs, fun H'' h => ⟨m - 1, by omega, by omega, h⟩, fun v H2 hy => ?_⟩
    obtain ⟨Kn2, g2, rv⟩ := yl v H2 hy
    have s2 := (s'.grow g2).wipe hv
    refine hg _ _ Kn2 H2 v s2.sl s2.ek rv _ fun σ3 h3 hw3 => ?_
    have s3 := s2.slots h3
    have hDn : H' D ≠ none := ne_none_of hD'
    refine ⟨(hw3 vs hj).trans ?_, ht D acc _ b hb σ3 Kn2 H2 s3 _ fun Kn3 H3 g3 => ?_⟩
    · have ww : ∀ (vs us : List Nat) (σ : L2.St), (∀ j ∈ vs, j ∈ us) → L2.wipe (L2.wipe σ vs) us = L2.wipe σ us := by
        intro vs
        induction vs with
        | nil => intro us σ _; rfl
        | cons a r ih =>
          intro us σ hh
          show L2.wipe ((L2.wipe σ r).set a none) us = L2.wipe σ us
          rw [wipe_set (hh a List.mem_cons_self)]
          exact ih us σ fun j hj => hh j (List.mem_cons_of_mem _ hj)
      exact ww vs vs σ fun _ h => h
    · have g123 : Gr Kn1 H1 Kn3 H3 := (gr.trans g2).trans g3
      have kD3 : Kn3 D = none := (g2.trans g3).sp D hDn kD'
      have hD3 : H3 D = some (.lst ws) := (g2.trans g3).hh _ _ hD'
      cases b with
      | true =>
        obtain ⟨z, hfz, hrest⟩ := bind_some (show (f xs[i]).bind _ = some rest from hrest)
        obtain ⟨zs', hzs, hrest⟩ := bind_some hrest
        cases hrest
        refine iteT (he D acc _ z hb hfz σ3 Kn3 H3 (s3.grow g3) _ fun y Kn4 H4 g4 ry => ?_)
        have g234 := (g2.trans g3).trans g4
        have kD4 : Kn4 D = none := g4.sp D (ne_none_of hD3) kD3
        refine ⟨ws, g4.hh _ _ hD3, by rw [paired_len rp]; exact lt_line (by omega), Kn4, ws ++ [y], acc ++ [z], zs', (gr.trans g234).mut hD kD4, kD4, upd_same, paired_append (paired_mono g234.kk rp) (.cons ry .nil), ?_, hzs, ?_⟩
        · rw [List.length_append, List.length_singleton]; omega
        · rw [List.append_assoc]; exact hz
      | false =>
        have hrest : lcGo c f (xs.drop (i + 1)) = some rest := hrest
        exact iteF ⟨Kn3, ws, acc, rest, g123, kD3, hD3, paired_mono (g2.trans g3).kk rp, by omega, hrest, hz⟩
  · have hd : xs.drop i = [] := List.drop_eq_nil_of_le (by omega)
    rw [hd] at hrest
    cases hrest
    rw [List.append_nil] at hz
    subst hz
    exact .inl ⟨(w i Kn' H' gr.kk gr.kh).2 (by omega), q D ws Kn' H' (g1.trans gr) (fresh_back g1.hh hD) kD' hD' rp⟩
theorem et_yes : ET K F Kn0 sl ow tYes true := fun σ Kn H s Q q => q Kn H (Gr.refl s.ek)
/-- what changes on the way: owx -/
theorem enm_lc {Sx : Type} {xs : List β} {zs : List γ} {f : β → Sx → Option (γ × Sx)} (owx : Sx → List Ow) (gx : β → List Sl) (s0 s9 : Sx) (hm : lcS f xs s0 = some (zs, s9)) (hi : ITM K F Kn0 sl ow wi (owx s0) xs) (hv : ∀ j ∈ vs, sl[j]? = some .any) (hg : ∀ x, GT K g sl (gx x) js x) (hj : ∀ j ∈ js, j ∈ vs)
    (he : ∀ Kn1, Bs F Kn0 Kn1 → ∀ p (acc : List γ) x s z s', f x s = some (z, s') → EM K F Kn1 (gx x) (ol p acc :: owx s) te (ol p acc :: owx s') z) :
    ENM K F Kn0 sl ow (tLc wi g tYes te vs) (owx s9) zs := fun σ Kn H s Q q => by
  unfold lcS at hm
  split at hm
  case isFalse => cases hm
  rename_i hlen
  refine hi σ Kn H s _ fun J Kn1 H1 e1 s1 w D hD => ?_
  have kD : Kn1 D = none := fresh_back s1.ek hD
  have fD : F D = none := fresh_back s1.ef hD
  have b1 : Bs F Kn0 Kn1 := s1.bs
  refine ⟨fun i m H' => i + m = xs.length ∧ ∃ Kn' st acc rest, S K F Kn1 sl (ol D acc :: owx st) σ Kn' H' ∧ acc.length ≤ i ∧ lcSGo f (xs.drop i) st = some (rest, s9) ∧ acc ++ rest = zs,
    ⟨xs.length, by omega, Kn1, s0, [], zs, ?_, Nat.le_refl _, hm, rfl⟩, fun i m H' hW => ?_⟩
  · have s2 := s1.rebase.grow (Gr.newU (o := .lst []) s1.ek hD)
    exact s2.own fD kD (owned_ne s1 hD) upd_same .nil
  obtain ⟨em, Kn', st, acc, rest, s', hal, hrest, hz⟩ := hW
  obtain ⟨_, kD', ws, hD', rp⟩ := s'.ow.each (ol D acc) List.mem_cons_self
  have hD' : H' D = some (.lst ws) := hD'
  by_cases hlt : i < xs.length
  · have hx : xs[i]? = some xs[i] := List.getElem?_eq_getElem hlt
    have hd : xs.drop i = xs[i] :: xs.drop (i + 1) := List.drop_eq_getElem_cons hlt
    rw [hd] at hrest
    obtain ⟨⟨z, st'⟩, hf, hrest⟩ := bind_some hrest
    obtain ⟨⟨zs', s9'⟩, hzs, hrest⟩ := bind_some hrest
    have h9 := Option.some.inj hrest
    have h91 : z :: zs' = rest := congrArg Prod.fst h9
    have h92 : s9' = s9 := congrArg Prod.snd h9
    rw [h92] at hzs
    subst h91
    obtain ⟨go, yl⟩ := (w i Kn' H' s'.e0 s'.ek).1 _ hx
    refine .inr ⟨go, fun H'' => ∃ Kn' st acc rest, S K F Kn1 sl (ol D acc :: owx st) σ Kn' H'' ∧ acc.length ≤ i + 1 ∧ lcSGo f (xs.drop (i + 1)) st = some (rest, s9) ∧ acc ++ rest = zs, fun H'' h => ⟨m - 1, by omega, by omega, h⟩, fun v H2 hy => ?_⟩
    obtain ⟨Kn2, g2, rv⟩ := yl v H2 hy
    have s2 := (s'.grow g2).wipe hv
    refine hg _ _ Kn2 H2 v s2.sl s2.ek rv _ fun σ3 h3 hw3 => ?_
    have s3 := s2.slots h3
    refine ⟨(hw3 vs hj).trans ?_, ?_⟩
    · have ww : ∀ (vs us : List Nat) (σ : L2.St), (∀ j ∈ vs, j ∈ us) → L2.wipe (L2.wipe σ vs) us = L2.wipe σ us := by
        intro vs
        induction vs with
        | nil => intro us σ _; rfl
        | cons a r ih =>
          intro us σ hh
          show L2.wipe ((L2.wipe σ r).set a none) us = L2.wipe σ us
          rw [wipe_set (hh a List.mem_cons_self)]
          exact ih us σ fun j hj => hh j (List.mem_cons_of_mem _ hj)
      exact ww vs vs σ fun _ h => h
    · unfold tYes
      refine iteT ?_
      refine he Kn1 b1 D acc _ st z st' hf σ3 Kn2 H2 s3 _ fun y Kn4 H4 e4 s4 ry => ?_
      obtain ⟨_, kD4, ws4, hD4, rp4⟩ := s4.ow.each (ol D acc) List.mem_cons_self
      have kD4 : Kn4 D = none := kD4
      have s5 : S K F Kn1 (gx xs[i]) (ol D (acc ++ [z]) :: owx st') σ3 Kn4 (upd H4 D (.lst (ws4 ++ [y]))) := s4.write (j := 0) (xs' := acc ++ [z]) rfl (Ex.refl _) (upd_in s4.ek kD4) (fun q hq _ => upd_ne hq) (fun _ _ h => h) upd_same (paired_append rp4 (.cons ry .nil))
      have hsl : SlsOk K Kn4 sl σ := s'.sl.mono (g2.kk.trans e4)
      refine ⟨ws4, hD4, by rw [paired_len rp4]; exact lt_line (by omega), Kn4, st', acc ++ [z], zs', s5.slots hsl, ?_, hzs, ?_⟩
      · rw [List.length_append, List.length_singleton]; omega
      · rw [List.append_assoc]; exact hz
  · have hd : xs.drop i = [] := List.drop_eq_nil_of_le (by omega)
    rw [hd] at hrest
    have h9 := Option.some.inj hrest
    have h91 : [] = rest := congrArg Prod.fst h9
    have h92 : st = s9 := congrArg Prod.snd h9
    subst h91
    subst h92
    rw [List.append_nil] at hz
    subst hz
    have no : ∀ o ∈ owx st, o.ad ≠ D := fun o ho z => (List.nodup_cons.mp s'.ow.nd).1 (List.mem_map.mpr ⟨o, ho, z⟩)
    exact .inl ⟨(w i Kn' H' s'.e0 s'.ek).2 (by omega), q D ws Kn' H' (e1.trans s'.e0) ((s'.unbase b1).sub (List.sublist_cons_self _ _)) fD kD' no hD' rp⟩
end
end Wk
/-! Wk4: loops as functions, == of data, kinds, lists of one's own that are read -/
namespace Wk
open PySem PySem.Spec L2 Evl

/-! ### the mirrors' words -/
inductive Ctl (Sx R : Type) where
  | nx (s : Sx)
  | bk (s : Sx)
  | rt (r : R)
def forS {β Sx : Type} (f : β → Sx → Option Sx) : List β → Sx → Option Sx
  | [], s => some s
  | x :: xs, s => (f x s).bind (forS f xs)
def forC {β Sx R : Type} (f : β → Sx → Option (Ctl Sx R)) : List β → Sx → Option (Ctl Sx R)
  | [], s => some (.nx s)
  | x :: xs, s => (f x s).bind fun c => match c with
    | .nx s' => forC f xs s'
    | .bk s' => some (.nx s')
    | .rt r => some (.rt r)
def whileS {Sx : Type} (c : Sx → Option Bool) (f : Sx → Option Sx) : Nat → Sx → Option Sx
  | 0, _ => none
  | n + 1, s => (c s).bind fun b => if b = true then (f s).bind (whileS c f n) else some s
def whileC {Sx R : Type} (c : Sx → Option Bool) (f : Sx → Option (Ctl Sx R)) : Nat → Sx → Option (Ctl Sx R)
  | 0, _ => none
  | n + 1, s => (c s).bind fun b => if b = true then (f s).bind fun c' => match c' with
    | .nx s' => whileC c f n s'
    | .bk s' => some (.nx s')
    | .rt r => some (.rt r) else some (.nx s)
theorem whileS_more {Sx : Type} {c : Sx → Option Bool} {f : Sx → Option Sx} : ∀ {n m : Nat} {s r : Sx}, whileS c f n s = some r → n ≤ m → whileS c f m s = some r
  | 0, _, _, _, h, _ => by cases h
  | n + 1, 0, _, _, _, h => absurd h (Nat.not_succ_le_zero _)
  | n + 1, m + 1, s, r, h, hm => by
    unfold whileS at h ⊢
    cases e : c s with
    | none => rw [e] at h; cases h
    | some b =>
      rw [e] at h
      cases b with
      | false => exact h
      | true =>
        have h : ((f s).bind (whileS c f n)) = some r := h
        show ((f s).bind (whileS c f m)) = some r
        cases e2 : f s with
        | none => rw [e2] at h; cases h
        | some s' =>
          rw [e2] at h
          exact whileS_more (show whileS c f n s' = some r from h) (Nat.le_of_succ_le_succ hm)
theorem whileC_more {Sx R : Type} {c : Sx → Option Bool} {f : Sx → Option (Ctl Sx R)} : ∀ {n m : Nat} {s : Sx} {r : Ctl Sx R}, whileC c f n s = some r → n ≤ m → whileC c f m s = some r
  | 0, _, _, _, h, _ => by cases h
  | n + 1, 0, _, _, _, h => absurd h (Nat.not_succ_le_zero _)
  | n + 1, m + 1, s, r, h, hm => by
    unfold whileC at h ⊢
    cases e : c s with
    | none => rw [e] at h; cases h
    | some b =>
      rw [e] at h
      cases b with
      | false => exact h
      | true =>
        have h : ((f s).bind _) = some r := h
        show ((f s).bind _) = some r
        cases e2 : f s with
        | none => rw [e2] at h; cases h
        | some k =>
          rw [e2] at h
          cases k with
          | nx s' => exact whileC_more (show whileC c f n s' = some r from h) (Nat.le_of_succ_le_succ hm)
          | bk _ => exact h
          | rt _ => exact h
/-- a while, for as many turns as it takes -/
noncomputable def whileF {Sx : Type} (c : Sx → Option Bool) (f : Sx → Option Sx) (s : Sx) : Option Sx := by
  classical exact if h : ∃ n r, whileS c f n s = some r then some h.choose_spec.choose else none
theorem whileF_some {Sx : Type} {c : Sx → Option Bool} {f : Sx → Option Sx} {s r : Sx} (h : whileF c f s = some r) : ∃ n, whileS c f n s = some r := by
  unfold whileF at h
  split at h
  · rename_i he
    refine ⟨he.choose, ?_⟩
    rw [← Option.some.inj h]
    exact he.choose_spec.choose_spec
  · cases h
theorem whileF_of {Sx : Type} {c : Sx → Option Bool} {f : Sx → Option Sx} {n : Nat} {s r : Sx} (h : whileS c f n s = some r) : whileF c f s = some r := by
  have he : ∃ n r, whileS c f n s = some r := ⟨n, r, h⟩
  unfold whileF
  rw [dif_pos he]
  have h2 := he.choose_spec.choose_spec
  have a := whileS_more h (Nat.le_max_left n he.choose)
  have b := whileS_more h2 (Nat.le_max_right n he.choose)
  exact b.symm.trans a
noncomputable def whileCF {Sx R : Type} (c : Sx → Option Bool) (f : Sx → Option (Ctl Sx R)) (s : Sx) : Option (Ctl Sx R) := by
  classical exact if h : ∃ n r, whileC c f n s = some r then some h.choose_spec.choose else none
theorem whileCF_some {Sx R : Type} {c : Sx → Option Bool} {f : Sx → Option (Ctl Sx R)} {s : Sx} {r : Ctl Sx R} (h : whileCF c f s = some r) : ∃ n, whileC c f n s = some r := by
  unfold whileCF at h
  split at h
  · rename_i he
    refine ⟨he.choose, ?_⟩
    rw [← Option.some.inj h]
    exact he.choose_spec.choose_spec
  · cases h
theorem whileCF_of {Sx R : Type} {c : Sx → Option Bool} {f : Sx → Option (Ctl Sx R)} {n : Nat} {s : Sx} {r : Ctl Sx R} (h : whileC c f n s = some r) : whileCF c f s = some r := by
  have he : ∃ n r, whileC c f n s = some r := ⟨n, r, h⟩
  unfold whileCF
  rw [dif_pos he]
  have h2 := he.choose_spec.choose_spec
  have a := whileC_more h (Nat.le_max_left n he.choose)
  have b := whileC_more h2 (Nat.le_max_right n he.choose)
  exact b.symm.trans a
def appO {α : Type} (xs : List α) (x : α) : Option (List α) := if xs.length < 1000000 then some (xs ++ [x]) else none
def modO (i j : Int) : Option Int := if 0 < j then some (i % j) else none
def divO (i j : Int) : Option Int := if 0 < j ∧ j < 1073741824 then some (i / j) else none
def mulO (i j : Int) : Option Int := if -18446744073709551616 < i ∧ i < 18446744073709551616 then some (i * j) else none
def catO {α : Type} (xs ys : List α) : Option (List α) := if xs.length + ys.length ≤ 1000000 then some (xs ++ ys) else none
theorem appO_some {α : Type} {xs ys : List α} {x : α} (h : appO xs x = some ys) : xs.length < 1000000 ∧ ys = xs ++ [x] := by
  unfold appO at h
  split at h
  · exact ⟨by assumption, (Option.some.inj h).symm⟩
  · cases h
theorem appO_ok {α : Type} {xs : List α} {x : α} (h : xs.length < 1000000) : appO xs x = some (xs ++ [x]) := if_pos h
theorem modO_ok {i j : Int} (h : 0 < j) : modO i j = some (i % j) := if_pos h
theorem divO_ok {i j : Int} (h : 0 < j) (h2 : j < 1073741824) : divO i j = some (i / j) := if_pos ⟨h, h2⟩
theorem mulO_ok {i j : Int} (h : -18446744073709551616 < i) (h2 : i < 18446744073709551616) : mulO i j = some (i * j) := if_pos ⟨h, h2⟩
theorem catO_ok {α : Type} {xs ys : List α} (h : xs.length + ys.length ≤ 1000000) : catO xs ys = some (xs ++ ys) := if_pos h

section
variable {K : Fg} {F Kn0 : Hp} {sl sl' : List Sl} {ow ow0 ow1 ow2 : List Ow} {α β γ τ : Type} [Rp α] [Rp β] [Rp γ] [Tp τ] {ta tb te : TE} {x : α} {D : Ends} {t u tz : TS} {tt : TT} {b : Bool} {i j : Nat} {p : Addr}
theorem SB.sn (h : SB K F Kn0 sl ow D tz) : SN K F Kn0 sl ow { D with nx := tz D } := h
theorem r2_modO {i j z : Int} (h : modO i j = some z) : R2V K (rI (fun _ j => 0 < j) fun i j => .int (i % j)) i j z := by
  unfold modO at h
  split at h
  · cases h
    exact r2_I (by assumption)
  · cases h
theorem r2_divO {i j z : Int} (h : divO i j = some z) : R2V K (rI CDiv fun i j => .int (i / j)) i j z := by
  unfold divO at h
  split at h
  · cases h
    exact r2_I (by assumption)
  · cases h
theorem r2_mulO {i j z : Int} (h : mulO i j = some z) : R2V K (rI CMul fun i j => .int (i * j)) i j z := by
  unfold mulO at h
  split at h
  · rename_i hb
    cases h
    exact r2_I (.inl ⟨by omega, by omega⟩)
  · cases h
theorem r2_catO {xs ys zs : List α} (h : catO xs ys = some zs) : R2L K rCat xs ys zs := by
  unfold catO at h
  split at h
  · cases h
    exact r2_cat (by assumption)
  · cases h
theorem sb_appO {xs xs' : List α} (hi : sl[i]? = some (.at p)) (hj : ow[j]? = some (ol p xs)) (h : EV K F Kn0 sl ow te x) (hx : appO xs x = some xs') (ho : ow.set j (ol p xs') = ow1) (k : SN K F Kn0 sl ow1 D) :
    SB K F Kn0 sl ow D (tDrop (tBM K "list" rAppend (tVar i) (tCons te tNil))) := by
  obtain ⟨h1, rfl⟩ := appO_some hx
  subst ho
  exact sb_app hi hj h h1 k
theorem sb_appOM {xs xs' : List α} (hi : sl[i]? = some (.at p)) (hi0 : ow[j]? = some (ol p xs)) (h : EM K F Kn0 sl ow te ow1 x) (hj : ow1[j]? = some (ol p xs)) (hx : appO xs x = some xs') (ho : ow1.set j (ol p xs') = ow2) (k : SN K F Kn0 sl ow2 D) :
    SB K F Kn0 sl ow D (tDrop (tBM K "list" rAppend (tVar i) (tCons te tNil))) := by
  obtain ⟨h1, rfl⟩ := appO_some hx
  subst ho
  exact sb_appM hi hi0 h hj h1 k
theorem sb_setO {xs xs' : List α} {n : Int} (hi : sl[i]? = some (.at p)) (hj : ow[j]? = some (ol p xs)) (h : EV K F Kn0 sl ow te x) (hn : EV K F Kn0 sl ow tb n) (hx : setI xs n x = some xs') (ho : ow.set j (ol p xs') = ow1) (k : SN K F Kn0 sl ow1 D) :
    SB K F Kn0 sl ow D (tAsg te (gSub (tVar i) tb rSetL)) := by
  subst ho
  exact sb_setI hi hj h hn hx k

/-! ### lists of one's own, read -/
theorem S.borrow {σ : L2.St} {Kn H : Hp} {xs : List α} (s : S K F Kn0 sl ow σ Kn H) (hi : sl[i]? = some (.at p)) (hj : ow[j]? = some (ol p xs)) : ∃ ws, Kn p = none ∧ H p = some (.lst ws) ∧ S K F Kn0 (sl.set i (sv xs)) (ow.eraseIdx j) σ (upd Kn p (.lst ws)) H := by
  obtain ⟨o, h1, h2⟩ := s.sl.get hi
  have h2 : o = some (.ref p) := h2
  obtain ⟨f1, f2, ws, f3, f4⟩ := s.ow.each _ (List.mem_of_getElem? hj)
  have s1 := s.sub (List.eraseIdx_sublist ow j)
  have no : ∀ o ∈ ow.eraseIdx j, o.ad ≠ p := fun o hm z => by
    obtain ⟨m, hm'⟩ := List.getElem?_of_mem hm
    rw [List.getElem?_eraseIdx] at hm'
    split at hm'
    · have := ow_at s.ow.nd hm' hj z
      omega
    · have := ow_at s.ow.nd hm' hj z
      omega
  have s2 := s1.know (o := .lst ws) f1 f2 no f3
  have hσ : σ.set i o = σ := by
    refine List.ext_getElem? fun m => ?_
    by_cases e : i = m
    · subst e
      rw [List.getElem?_set_self (List.getElem?_eq_some_iff.mp h1).1, h1]
    · rw [List.getElem?_set_ne e]
  have s3 := s2.set (x := sv xs) (o := o) i ⟨.ref p, h2, p, ws, rfl, upd_same, paired_mono (Ex.new f2) f4⟩
  rw [hσ] at s3
  exact ⟨ws, f2, f3, s3⟩
theorem ev_bor {γ : Type} [Rp γ] [Fl γ] {z : γ} {xs : List α} (hi : sl[i]? = some (.at p)) (hj : ow[j]? = some (ol p xs)) (hs : sl.set i (sv xs) = sl') (ho : ow.eraseIdx j = ow1) (h : EV K F Kn0 sl' ow1 te z) : EV K F Kn0 sl ow te z := fun σ Kn H s Q q => by
  obtain ⟨ws, kp, hp, s1⟩ := s.borrow hi hj
  subst hs
  subst ho
  exact h σ _ H s1 Q fun v Kn' H' g r => q v Kn H' ⟨Ex.refl _, g.hh, s.ek.trans g.hh, fun _ _ h => h⟩ (Fl.iff.mpr (Fl.iff.mp r))
theorem et_bor {xs : List α} (hi : sl[i]? = some (.at p)) (hj : ow[j]? = some (ol p xs)) (hs : sl.set i (sv xs) = sl') (ho : ow.eraseIdx j = ow1) (h : ET K F Kn0 sl' ow1 tt b) : ET K F Kn0 sl ow tt b := fun σ Kn H s Q q => by
  obtain ⟨ws, kp, hp, s1⟩ := s.borrow hi hj
  subst hs
  subst ho
  exact h σ _ H s1 Q fun Kn' H' g => q Kn H' ⟨Ex.refl _, g.hh, s.ek.trans g.hh, fun _ _ h => h⟩
theorem ev_ixO {xs : List α} {n : Int} {z : α} (hi : sl[i]? = some (.at p)) (hj : ow[j]? = some (ol p xs)) (hn : EV K F Kn0 sl ow tb n) (hz : atI xs n = some z) : EV K F Kn0 sl ow (tOp (rIxL K) (tVar i) tb) z := fun σ Kn H s Q q => by
  obtain ⟨o, h1, h2⟩ := s.sl.get hi
  obtain ⟨f1, f2, ws, f3, f4⟩ := s.ow.each _ (List.mem_of_getElem? hj)
  refine ⟨.ref p, by rw [h1]; exact congrArg some h2, hn σ Kn H s _ fun v Kn1 H1 g1 r1 => ?_⟩
  cases r1
  obtain ⟨u, e, r⟩ := paired_atI f4 hz
  exact ⟨p, ws, n, u, rfl, rfl, sq_of (g1.hh _ _ f3), e, q u Kn1 H1 g1 (Rp.mono g1.kk r)⟩
theorem en_slO {xs : List α} {tl th : TO} {lo hi : Option Int} (hx : sl[i]? = some (.at p)) (hj : ow[j]? = some (ol p xs)) (hl : EO K F Kn0 sl ow tl lo) (hh : EO K F Kn0 sl ow th hi) : EN K F Kn0 sl ow (tSl (rSlL K) (tVar i) tl th) (cut xs lo hi) := fun σ Kn H s Q q => by
  obtain ⟨o, h1, h2⟩ := s.sl.get hx
  obtain ⟨f1, f2, ws, f3, f4⟩ := s.ow.each _ (List.mem_of_getElem? hj)
  refine ⟨.ref p, by rw [h1]; exact congrArg some h2, hl σ Kn H s _ fun Kn2 H2 g2 => hh σ Kn2 H2 (s.grow g2) _ fun Kn3 H3 g3 => ?_⟩
  have g := g2.trans g3
  exact ⟨p, ws, rfl, sq_of (g.hh _ _ f3), fun l hl => q l _ Kn3 _ (g.trans (Gr.newU g3.kh hl)) (fresh_back g.hh hl) (fresh_back g3.kh hl) upd_same (paired_cut (paired_mono g.kk f4) lo hi)⟩
end

/-! ### == -/
class Pd (α : Type) [Rp α] where
  toD : α → PyData
  dp : Nat
  isD : ∀ {K : Fg} {H : Hp} {v : V} {a : α}, rep K H v a → Dp K H v (toD a)
  dep : ∀ a, (toD a).depth ≤ dp
  eqd : ∀ a b : α, PyData.eqv (toD a) (toD b) = true ↔ a = b
class Pq (τ : Type) [Tp τ] where
  toDs : τ → List PyData
  dp : Nat
  isD : ∀ {K : Fg} {H : Hp} {vs : List V} {a : τ}, rept K H vs a → DpAll K H vs (toDs a)
  dep : ∀ a, PyData.depthAll (toDs a) ≤ dp
  eqd : ∀ a b : τ, PyData.eqvAll (toDs a) (toDs b) = true ↔ a = b
def okD {α : Type} [Rp α] [Pd α] (a : α) : Bool := (Pd.toD a).canLay0
instance : Pd Int := { toD := .int, dp := 0, isD := fun h => by cases h; exact .int _, dep := fun a => Nat.le_refl _, eqd := fun a b => by simp [PyData.eqv] }
instance : Pd Bool := { toD := .bool, dp := 0, isD := fun h => by cases h; exact .bl _, dep := fun a => Nat.le_refl _, eqd := fun a b => by simp [PyData.eqv] }
instance : Pd Str := { toD := .str, dp := 0, isD := fun h => by cases h; exact .str _, dep := fun a => Nat.le_refl _, eqd := fun a b => by simp [PyData.eqv] }
theorem eqvAll_map {α : Type} [Rp α] [Pd α] : ∀ (xs ys : List α), PyData.eqvAll (xs.map Pd.toD) (ys.map Pd.toD) = true ↔ xs = ys
  | [], [] => by simp [PyData.eqvAll]
  | [], y :: ys => by simp [PyData.eqvAll]
  | x :: xs, [] => by simp [PyData.eqvAll]
  | x :: xs, y :: ys => by
    simp only [List.map_cons, PyData.eqvAll, Bool.and_eq_true, Pd.eqd, eqvAll_map xs ys, List.cons.injEq]
theorem depthAll_map {α : Type} [Rp α] [Pd α] : ∀ (xs : List α), PyData.depthAll (xs.map Pd.toD) ≤ Pd.dp α
  | [] => Nat.zero_le _
  | x :: xs => by
    simp only [List.map_cons, PyData.depthAll]
    exact Nat.max_le.mpr ⟨Pd.dep x, depthAll_map xs⟩
theorem dpAll_of {α : Type} [Rp α] [Pd α] {K : Fg} {H : Hp} : ∀ {vs : List V} {xs : List α}, Paired (rep K H) vs xs → DpAll K H vs (xs.map Pd.toD)
  | _, _, .nil => .nil
  | _, _, .cons r t => .cons (Pd.isD r) (dpAll_of t)
instance {α : Type} [Rp α] [Pd α] : Pd (List α) where
  toD xs := .list (xs.map Pd.toD)
  dp := Pd.dp α + 1
  isD h := by
    obtain ⟨p, vs, rfl, h1, h2⟩ := h
    exact .lst (sq_of h1) (dpAll_of h2)
  dep a := by
    simp only [PyData.depth]
    exact Nat.succ_le_succ (depthAll_map a)
  eqd a b := by
    simp only [PyData.eqv]
    exact eqvAll_map a b
instance {α : Type} [Rp α] [Pd α] : Pd (Tu α) where
  toD xs := .tuple (xs.l.map Pd.toD)
  dp := Pd.dp α + 1
  isD h := by
    obtain ⟨p, vs, rfl, h1, h2⟩ := h
    exact .tup (st_of h1) (dpAll_of h2)
  dep a := by
    simp only [PyData.depth]
    exact Nat.succ_le_succ (depthAll_map a.l)
  eqd a b := by
    simp only [PyData.eqv]
    rw [eqvAll_map]
    cases a
    cases b
    simp
instance : Pq Unit where
  toDs _ := []
  dp := 0
  isD h := by cases h; exact .nil
  dep _ := Nat.le_refl _
  eqd _ _ := by simp [PyData.eqvAll]
instance {α τ : Type} [Rp α] [Tp τ] [Pd α] [Pq τ] : Pq (α × τ) where
  toDs t := Pd.toD t.1 :: Pq.toDs t.2
  dp := max (Pd.dp α) (Pq.dp τ)
  isD h := by
    obtain ⟨v, r, rfl, h1, h2⟩ := h
    exact .cons (Pd.isD h1) (Pq.isD h2)
  dep a := by
    simp only [PyData.depthAll]
    exact Nat.max_le.mpr ⟨Nat.le_trans (Pd.dep _) (Nat.le_max_left _ _), Nat.le_trans (Pq.dep _) (Nat.le_max_right _ _)⟩
  eqd a b := by
    simp only [PyData.eqvAll, Bool.and_eq_true, Pd.eqd, Pq.eqd]
    constructor
    · rintro ⟨h1, h2⟩
      exact Prod.ext h1 h2
    · rintro rfl
      exact ⟨rfl, rfl⟩
instance {α τ : Type} [Rp α] [Tp τ] [Pd α] [Pq τ] : Pd (α × τ) where
  toD t := .tuple (Pq.toDs t)
  dp := Pq.dp (α × τ) + 1
  isD h := by
    obtain ⟨p, vs, rfl, h1, h2⟩ := h
    exact .tup (st_of h1) (Pq.isD h2)
  dep a := by
    simp only [PyData.depth]
    exact Nat.succ_le_succ (Pq.dep a)
  eqd a b := by
    simp only [PyData.eqv]
    exact Pq.eqd a b
/-- the same kind on both sides -/
def eqO {α : Type} [Rp α] [Pd α] [DecidableEq α] (a b : α) : Option Bool := if (okD a && okD b && decide (Pd.dp α ≤ 64)) = true then some (decide (a = b)) else none
def neO {α : Type} [Rp α] [Pd α] [DecidableEq α] (a b : α) : Option Bool := if (okD a && okD b && decide (Pd.dp α ≤ 64)) = true then some (!decide (a = b)) else none
section
variable {K : Fg} {α : Type} [Rp α] [Pd α] [DecidableEq α]
theorem shaped_of {a : α} (h : okD a = true) (h2 : Pd.dp α ≤ 64) : SeqAt.shaped (Pd.toD a) = true := by
  unfold SeqAt.shaped
  rw [Bool.and_eq_true]
  exact ⟨h, decide_eq_true (Nat.le_trans (Pd.dep a) h2)⟩
theorem eqv_dec (a b : α) : PyData.eqv (Pd.toD a) (Pd.toD b) = decide (a = b) := by
  by_cases h : a = b
  · rw [decide_eq_true h]
    exact (Pd.eqd a b).mpr h
  · rw [decide_eq_false h]
    cases e : PyData.eqv (Pd.toD a) (Pd.toD b) with
    | false => rfl
    | true => exact absurd ((Pd.eqd a b).mp e) h
theorem dp_mono {H H' : Hp} (e : Ex H H') : ∀ {v : V} {d : PyData}, Dp K H v d → Dp K H' v d := fun h =>
  Dp.rec (motive_1 := fun v d _ => Dp K H' v d) (motive_2 := fun vs ds _ => DpAll K H' vs ds) .non .bl .int .str (fun s _ ih => .lst (ex_l e s) ih) (fun s _ ih => .tup (ex_t e s) ih) .nil (fun _ _ h1 h2 => .cons h1 h2) h
theorem r2_eqO {a b : α} {c : Bool} (h : eqO a b = some c) : R2V K (rEqD K) a b c := fun Kn H v w ek h1 h2 Q q => by
  unfold eqO at h
  split at h
  · rename_i hb
    rw [Bool.and_eq_true, Bool.and_eq_true] at hb
    cases h
    refine ⟨Pd.toD a, Pd.toD b, dp_mono ek (Pd.isD h1), dp_mono ek (Pd.isD h2), shaped_of hb.1.1 (of_decide_eq_true hb.2), shaped_of hb.1.2 (of_decide_eq_true hb.2), ?_⟩
    rw [eqv_dec]
    exact q.fl ek
  · cases h
theorem r2_neO {a b : α} {c : Bool} (h : neO a b = some c) : R2V K (rNeD K) a b c := fun Kn H v w ek h1 h2 Q q => by
  unfold neO at h
  split at h
  · rename_i hb
    rw [Bool.and_eq_true, Bool.and_eq_true] at hb
    cases h
    refine ⟨Pd.toD a, Pd.toD b, dp_mono ek (Pd.isD h1), dp_mono ek (Pd.isD h2), shaped_of hb.1.1 (of_decide_eq_true hb.2), shaped_of hb.1.2 (of_decide_eq_true hb.2), ?_⟩
    rw [eqv_dec]
    exact q.fl ek
  · cases h
/-- data without texts: always -/
class Pt (α : Type) [Rp α] [Pd α] : Prop where
  ok : ∀ a : α, okD a = true
class Pu (τ : Type) [Tp τ] [Pq τ] : Prop where
  ok : ∀ a : τ, PyData.canLayAll0 (Pq.toDs a) = true
instance : Pt Int := ⟨fun _ => rfl⟩
instance : Pt Bool := ⟨fun _ => rfl⟩
theorem canLayAll_map {α : Type} [Rp α] [Pd α] : ∀ (xs : List α), (∀ x ∈ xs, okD x = true) → PyData.canLayAll0 (xs.map Pd.toD) = true
  | [], _ => by simp [PyData.canLayAll0]
  | x :: xs, h => by
    simp only [List.map_cons, PyData.canLayAll0, Bool.and_eq_true]
    exact ⟨h x List.mem_cons_self, canLayAll_map xs fun y hy => h y (List.mem_cons_of_mem _ hy)⟩
theorem okD_list {α : Type} [Rp α] [Pd α] {xs : List α} (h : ∀ x ∈ xs, okD x = true) : okD xs = true := by
  show PyData.canLay0 (.list _) = true
  simp only [PyData.canLay0]
  exact canLayAll_map xs h
theorem okD_tu {α : Type} [Rp α] [Pd α] {xs : Tu α} (h : ∀ x ∈ xs.l, okD x = true) : okD xs = true := by
  show PyData.canLay0 (.tuple _) = true
  simp only [PyData.canLay0]
  exact canLayAll_map xs.l h
theorem okD_pair {α τ : Type} [Rp α] [Tp τ] [Pd α] [Pq τ] {t : α × τ} (h : okD t.1 = true) (h2 : PyData.canLayAll0 (Pq.toDs t.2) = true) : okD t = true := by
  show PyData.canLay0 (.tuple (Pd.toD t.1 :: Pq.toDs t.2)) = true
  simp only [PyData.canLay0, PyData.canLayAll0, Bool.and_eq_true]
  exact ⟨h, h2⟩
theorem okDs_cons {α τ : Type} [Rp α] [Tp τ] [Pd α] [Pq τ] {t : α × τ} (h : okD t.1 = true) (h2 : PyData.canLayAll0 (Pq.toDs t.2) = true) : PyData.canLayAll0 (Pq.toDs t) = true := by
  show PyData.canLayAll0 (Pd.toD t.1 :: Pq.toDs t.2) = true
  simp only [PyData.canLayAll0, Bool.and_eq_true]
  exact ⟨h, h2⟩
instance {α : Type} [Rp α] [Pd α] [Pt α] : Pt (List α) := ⟨fun _ => okD_list fun x _ => Pt.ok x⟩
instance {α : Type} [Rp α] [Pd α] [Pt α] : Pt (Tu α) := ⟨fun _ => okD_tu fun x _ => Pt.ok x⟩
instance : Pu Unit := ⟨fun _ => rfl⟩
instance {α τ : Type} [Rp α] [Tp τ] [Pd α] [Pq τ] [Pt α] [Pu τ] : Pu (α × τ) := ⟨fun _ => okDs_cons (Pt.ok _) (Pu.ok _)⟩
instance {α τ : Type} [Rp α] [Tp τ] [Pd α] [Pq τ] [Pt α] [Pu τ] : Pt (α × τ) := ⟨fun _ => okD_pair (Pt.ok _) (Pu.ok _)⟩
theorem r2_eqT [Pt α] {a b : α} (hd : Pd.dp α ≤ 64 := by decide) : R2V K (rEqD K) a b (decide (a = b)) := r2_eqO (by
  unfold eqO
  rw [Pt.ok a, Pt.ok b, decide_eq_true hd]
  rfl)
theorem r2_neT [Pt α] {a b : α} (hd : Pd.dp α ≤ 64 := by decide) : R2V K (rNeD K) a b (!decide (a = b)) := r2_neO (by
  unfold neO
  rw [Pt.ok a, Pt.ok b, decide_eq_true hd]
  rfl)
theorem eqO_ok {a b : α} (h1 : okD a = true) (h2 : okD b = true) (hd : Pd.dp α ≤ 64 := by decide) : eqO a b = some (decide (a = b)) := by
  unfold eqO
  rw [h1, h2, decide_eq_true hd]
  rfl
theorem neO_ok {a b : α} (h1 : okD a = true) (h2 : okD b = true) (hd : Pd.dp α ≤ 64 := by decide) : neO a b = some (!decide (a = b)) := by
  unfold neO
  rw [h1, h2, decide_eq_true hd]
  rfl
end

/-! ### isinstance -/
structure TyN where
  n : String
instance rpTyN : Rp TyN := { rep := fun _ _ v a => v = .ty a.n, mono := fun _ h => h }
instance : Fl TyN := { toV := fun a => V.ty a.n, iff := Iff.rfl }
class Tn (α : Type) [Rp α] where
  nm : String
  is : ∀ {K : Fg} {H : Hp} {v : V} {a : α}, rep K H v a → TyX K H v (.type nm)
instance : Tn Int := ⟨"int", fun h => by cases h; exact .base (.int _)⟩
instance : Tn Bool := ⟨"bool", fun h => by cases h; exact .base (.bl _)⟩
instance : Tn Str := ⟨"str", fun h => by cases h; exact .base (.str _)⟩
instance : Tn Nn := ⟨"NoneType", fun h => by cases h; exact .base .non⟩
instance {α : Type} [Rp α] : Tn (List α) := ⟨"list", fun h => by
  obtain ⟨p, vs, rfl, h1, _⟩ := h
  exact .base (.lst h1)⟩
instance {α : Type} [Rp α] : Tn (Tu α) := ⟨"tuple", fun h => by
  obtain ⟨p, vs, rfl, h1, _⟩ := h
  exact .base (.tup h1)⟩
instance {α τ : Type} [Rp α] [Tp τ] : Tn (α × τ) := ⟨"tuple", fun h => by
  obtain ⟨p, vs, rfl, h1, _⟩ := h
  exact .base (.tup h1)⟩
theorem rc_isi {K : Fg} {α : Type} [Rp α] [Tn α] {x : α} {n : String} {b : Bool} (h : kitB (Tn.nm α) n = some b) : RCV K (rIsi K) (x, TyN.mk n, ()) b := fun Kn H vs ek hr Q q => by
  obtain ⟨v, w, rfl, h1, h2⟩ := two_args hr
  cases h2
  refine ⟨v, .ty n, .type (Tn.nm α), .type n, b, rfl, .ty n, ?_, kit_ty h, q.fl ek⟩
  exact Tn.is (Rp.mono ek h1)

/-! ### great divisors -/
theorem r2_divW {K : Fg} {i j : Int} {b : Nat} (h : 0 < j) (hb : j.natAbs < 2 ^ b) (h0 : 0 < b) (h9 : b ≤ 9000) : R2V K (rI CDivW fun i j => .int (i / j)) i j (i / j) := r2_I (wide_div h hb h0 h9)

/-! ### sorted of whole numbers -/
def srt (xs : List Int) : List Int := xs.mergeSort fun a b => decide (a ≤ b)
theorem srt_perm (xs : List Int) : (srt xs).Perm xs := List.mergeSort_perm xs _
theorem srt_pw (xs : List Int) : (srt xs).Pairwise (· ≤ ·) := by
  have h := List.pairwise_mergeSort (le := fun a b => decide (a ≤ b)) (fun a b c h1 h2 => by
    have h1 := of_decide_eq_true h1
    have h2 := of_decide_eq_true h2
    exact decide_eq_true (by omega)) (fun a b => by
    rcases Int.le_total a b with h | h
    · rw [decide_eq_true h]; rfl
    · rw [decide_eq_true h]; exact Bool.or_true _) xs
  exact h.imp fun h => of_decide_eq_true h
theorem srt_one {xs ys : List Int} (p : ys.Perm xs) (s : ys.Pairwise (· ≤ ·)) : ys = srt xs :=
  List.Perm.eq_of_pairwise (le := fun a b : Int => a ≤ b) (fun a b _ _ h1 h2 => Int.le_antisymm h1 h2) s (srt_pw xs) (p.trans (srt_perm xs).symm)
theorem rc_sorted {K : Fg} {xs : List Int} : RCL K (rSortedI K) (xs, ()) (srt xs) := fun Kn H vs ek h Q q => by
  obtain ⟨v, rfl, p, ws, rfl, h1, h2⟩ := one_arg h
  have e := paired_fl h2
  subst e
  refine ⟨p, xs, rfl, sq_of (ek _ _ h1), fun ns' l pm pw hl => ?_⟩
  rw [srt_one pm pw]
  exact q l _ Kn _ (Gr.newU ek hl) hl (fresh_back ek hl) upd_same (fl_paired (srt xs))
end Wk

namespace Wk
open PySem PySem.Spec L2 Evl
section
variable {K : Fg} {F Kn0 : Hp} {sl sl' : List Sl} {ow ow0 ow1 ow2 : List Ow} {α β γ τ : Type} [Rp α] [Rp β] [Rp γ] [Tp τ] {ta tb te : TE} {x : α} {D : Ends} {t u tz : TS} {tt : TT} {b : Bool} {i j : Nat} {p : Addr}
theorem ev_int (n : Int) : EV K F Kn0 sl ow (tC (.int n)) n := ev_c n
theorem ev_bool (n : Bool) : EV K F Kn0 sl ow (tC (.bl n)) n := ev_c n
theorem ev_str (n : Str) : EV K F Kn0 sl ow (tC (.str n)) n := ev_c n
theorem ev_nn : EV K F Kn0 sl ow (tC .non) Nn.nn := ev_c Nn.nn
theorem ev_ty (n : String) : EV K F Kn0 sl ow (tC (.ty n)) (TyN.mk n) := ev_c (TyN.mk n)
variable {m n : Int}
theorem r2_add : R2V K (rI0 fun i j => .int (i + j)) m n (m + n) := r2_I0
theorem r2_sub : R2V K (rI0 fun i j => .int (i - j)) m n (m - n) := r2_I0
theorem r2_lt : R2V K (rI0 fun i j => .bl (decide (i < j))) m n (decide (m < n)) := r2_I0
theorem r2_le : R2V K (rI0 fun i j => .bl (decide (i ≤ j))) m n (decide (m ≤ n)) := r2_I0
theorem r2_gt : R2V K (rI0 fun i j => .bl (decide (j < i))) m n (decide (n < m)) := r2_I0
theorem r2_ge : R2V K (rI0 fun i j => .bl (decide (j ≤ i))) m n (decide (n ≤ m)) := r2_I0
theorem r2_mod (h : 0 < n := by decide) : R2V K (rI (fun _ j => 0 < j) fun i j => .int (i % j)) m n (m % n) := r2_I h
theorem r2_div (h : 0 < n ∧ n < 1073741824 := by decide) : R2V K (rI CDiv fun i j => .int (i / j)) m n (m / n) := r2_I h
theorem r2_mulr (h : -18446744073709551616 < n ∧ n < 18446744073709551616 := by decide) : R2V K (rI CMul fun i j => .int (i * j)) m n (m * n) := r2_I (.inr ⟨by omega, by omega⟩)
theorem r2_mull (h : -18446744073709551616 < m ∧ m < 18446744073709551616 := by decide) : R2V K (rI CMul fun i j => .int (i * j)) m n (m * n) := r2_I (.inl ⟨by omega, by omega⟩)
theorem r2_divw (h : 0 < n ∧ n < 18446744073709551616 := by decide) : R2V K (rI CDivW fun i j => .int (i / j)) m n (m / n) := r2_divW h.1 (b := 64) (by omega) (by decide) (by decide)
theorem r2_pow {r : Int} (h : 0 ≤ n ∧ n ≤ 1000000 ∧ m.natAbs < 18446744073709551616 := by decide) (e : m ^ n.toNat = r := by decide) : R2V K (rI CPow fun i j => .int (i ^ j.toNat)) m n r := e ▸ r2_I ⟨h.1, h.2.1, by omega⟩
theorem EN.cast {xs ys : List α} (h : EN K F Kn0 sl ow te xs) (e : xs = ys) : EN K F Kn0 sl ow te ys := e ▸ h
theorem EM.cast {y : α} (h : EM K F Kn0 sl ow te ow1 x) (e : x = y) : EM K F Kn0 sl ow te ow1 y := e ▸ h
theorem ENM.cast {xs ys : List α} (h : ENM K F Kn0 sl ow te ow1 xs) (e : xs = ys) : ENM K F Kn0 sl ow te ow1 ys := e ▸ h
theorem SB.is (h1 : sl = sl') (h2 : ow = ow1) (h : SB K F Kn0 sl' ow1 D t) : SB K F Kn0 sl ow D t := by subst h1; subst h2; exact h
theorem EV.is (h1 : sl = sl') (h : EV K F Kn0 sl' ow te x) : EV K F Kn0 sl ow te x := by subst h1; exact h
theorem EM.is (h1 : sl = sl') (h2 : ow = ow2) (h3 : ow1 = ow0) (h : EM K F Kn0 sl' ow2 te ow0 x) : EM K F Kn0 sl ow te ow1 x := by subst h1; subst h2; subst h3; exact h
theorem ET.is (h1 : sl = sl') (h : ET K F Kn0 sl' ow tt b) : ET K F Kn0 sl ow tt b := by subst h1; exact h
theorem ite_t {γ : Type} {b : Bool} {A B : Option γ} {r : γ} (hb : b = true) (h : (if b = true then A else B) = some r) : A = some r := by rw [if_pos hb] at h; exact h
theorem ite_f {γ : Type} {b : Bool} {A B : Option γ} {r : γ} (hb : b = false) (h : (if b = true then A else B) = some r) : B = some r := by rw [if_neg (by rw [hb]; exact Bool.false_ne_true)] at h; exact h
def anyAt (sl : List Sl) (vs : List Nat) : Bool := vs.all fun j => match sl[j]? with
  | some .any => true
  | _ => false
theorem anyAt_of {sl : List Sl} {vs : List Nat} (h : anyAt sl vs = true) : ∀ j ∈ vs, sl[j]? = some .any := fun j hj => by
  have q := List.all_eq_true.mp h j hj
  cases e : sl[j]? with
  | none => rw [e] at q; cases q
  | some s =>
    rw [e] at q
    cases s with
    | any => rfl
    | val _ _ _ => cases q
    | «at» _ => cases q
theorem sub_of {js vs : List Nat} (h : (js.all fun j => vs.contains j) = true) : ∀ j ∈ js, j ∈ vs := fun j hj => by
  have q := List.all_eq_true.mp h j hj
  simpa using q
theorem sn_end {R : VK} (q : RT K F Kn0 ow0 R Nn.nn) (hd : ∀ σ H, R .non H → D.nx σ H) (l : ow0.Sublist ow) : SN K F Kn0 sl ow D := fun σ Kn H s => hd σ H (q _ Kn H (s.sub l).fin rfl)
def EOM (K : Fg) (F Kn0 : Hp) (sl : List Sl) (ow : List Ow) (to : TO) (ow' : List Ow) (o : Option Int) : Prop := ∀ σ Kn H, S K F Kn0 sl ow σ Kn H → ∀ Q : Option Int → Hp → Prop, (∀ Kn' H', Ex Kn Kn' → S K F Kn0 sl ow' σ Kn' H' → Q o H') → to σ H Q
theorem EO.eom {to : TO} {o : Option Int} (h : EO K F Kn0 sl ow to o) : EOM K F Kn0 sl ow to ow o := fun σ Kn H s Q q => h σ Kn H s Q fun Kn' H' g => q Kn' H' g.kk (s.grow g)
theorem eom_some {i : Int} (h : EM K F Kn0 sl ow te ow1 i) : EOM K F Kn0 sl ow (tPart te) ow1 (some i) := fun σ Kn H s Q q => h σ Kn H s _ fun v Kn1 H1 e1 s1 r1 => ⟨i, r1, q Kn1 H1 e1 s1⟩
theorem enm_sl {ow3 : List Ow} {xs : List α} {tl th : TO} {lo hi : Option Int} (h : EM K F Kn0 sl ow te ow1 xs) (hl : EOM K F Kn0 sl ow1 tl ow2 lo) (hh : EOM K F Kn0 sl ow2 th ow3 hi) : ENM K F Kn0 sl ow (tSl (rSlL K) te tl th) ow3 (cut xs lo hi) := fun σ Kn H s Q q =>
  h σ Kn H s _ fun v Kn1 H1 e1 s1 r1 => hl σ Kn1 H1 s1 _ fun Kn2 H2 e2 s2 => hh σ Kn2 H2 s2 _ fun Kn3 H3 e3 s3 => by
    obtain ⟨p, ws, rfl, h3, h4⟩ := r1
    have e13 : Ex Kn1 Kn3 := e2.trans e3
    exact ⟨p, ws, rfl, sq_of (s3.ek _ _ (e13 _ _ h3)), fun l hl => q l _ Kn3 _ (e1.trans e13) (s3.grow (Gr.newU s3.ek hl)) (fresh_back s3.ef hl) (fresh_back s3.ek hl) (owned_ne s3 hl) upd_same (paired_cut (paired_mono e13 h4) lo hi)⟩
/-- the entry of a def -/
theorem enter {σ : L2.St} {Kn H : Hp} {D : Ends} {t : TS} (ek : Ex Kn H) (hs : SlsOk K Kn sl σ) (h : SB K H Kn sl [] D t) : t D σ H := h σ Kn H ⟨Ex.refl _, ek, Ex.refl _, fun _ _ h => h, hs, ⟨(fun _ h => nomatch h), List.nodup_nil⟩⟩
theorem rt_of {H Kn : Hp} {r : α} {Q : VK} (q : RS K Kn H Q r) : RT K H Kn [] Q r := fun v Kn' H' s rv => q v Kn' H' ⟨s.e0, s.ef, s.ek, s.sep⟩ rv
theorem rn_of {H Kn : Hp} {r : List α} {Q : VK} (q : RL K Kn H Q r) : RN K H Kn [] Q r := fun p ws Kn' H' s fp kp hw rv => q p ws Kn' H' ⟨s.e0, s.ef, s.ek, s.sep⟩ fp kp hw rv
/-- all but p -/
def but (H : Hp) (p : Addr) : Hp := fun a => if a = p then none else H a
theorem enterM {σ : L2.St} {Kn H : Hp} {D : Ends} {t : TS} {p : Addr} {ws : List V} {xs : List α} (ek : Ex Kn H) (kp : Kn p = none) (hp : H p = some (.lst ws)) (r : Paired (rep K Kn) ws xs) (hs : SlsOk K Kn sl σ) (h : SB K (but H p) Kn sl [ol p xs] D t) : t D σ H :=
  h σ Kn H ⟨Ex.refl _, ek, fun a u e => by
    unfold but at e
    split at e
    · cases e
    · exact e, fun _ _ h => h, hs, ⟨fun o ho => by
      cases List.mem_singleton.mp ho
      exact ⟨if_pos rfl, kp, ws, hp, r⟩, List.nodup_cons.mpr ⟨(fun h => nomatch h), List.nodup_nil⟩⟩⟩
theorem rt_ofM {H Kn : Hp} {r : β} {p : Addr} {xs' : List α} {Q : VK} (kp : Kn p = none) (q : ∀ v Kn' H' ws', Ex Kn Kn' → Ex Kn' H' → (∀ q, q ≠ p → H q ≠ none → H' q = H q) → (∀ q, H q ≠ none → Kn q = none → Kn' q = none) → H' p = some (.lst ws') → Paired (rep K Kn') ws' xs' → rep K Kn' v r → Q v H') :
    RT K (but H p) Kn [ol p xs'] Q r := fun v Kn' H' s rv => by
  obtain ⟨_, k1, ws, h1, h2⟩ := s.ow.each (ol p xs') List.mem_cons_self
  refine q v Kn' H' ws s.e0 s.ek (fun a ha hn => ?_) (fun a hn hk => ?_) h1 h2 rv
  · have e : but H p a = H a := if_neg ha
    exact (Ex.at_eq s.ef (by rw [e]; exact hn)).trans e
  · by_cases ha : a = p
    · subst ha
      exact k1
    · exact s.sep a (by unfold but; rw [if_neg ha]; exact hn) hk
end
end Wk

/-! ### rules whose readings name K itself (within comprehensions) -/
namespace Wk
open PySem PySem.Spec L2 Evl
section
variable {X : Cx} {K : Fg}
theorem k_isi (h : X.K = K := by rfl) : CallR X (.builtin "isinstance") (rIsi K) := h ▸ call_isi
theorem k_len (h : X.K = K := by rfl) : CallR X (.builtin "len") (fun xs H Q => ∃ p ys, xs = [.ref p] ∧ (SqL K H p ys ∨ SqT K H p ys) ∧ Q (.int ys.length) H) := h ▸ call_len_seq
theorem k_list (h : X.K = K := by rfl) : CallR X (.type "list") (fun xs H Q => ∃ p ys, xs = [.ref p] ∧ (SqL K H p ys ∨ SqT K H p ys) ∧ ∀ l, H l = none → Q (.ref l) (upd H l (.lst ys))) := h ▸ call_list_of
theorem k_tuple (h : X.K = K := by rfl) : CallR X (.type "tuple") (fun xs H Q => ∃ p ys, xs = [.ref p] ∧ ((SqL K H p ys ∧ ∀ l, H l = none → Q (.ref l) (upd H l (.tup ys))) ∨ (SqT K H p ys ∧ Q (.ref p) H))) := h ▸ call_tuple_of
theorem k_sum (hc : X.calm = true := by rfl) (h : X.K = K := by rfl) : CallR X (.builtin "sum") (rSum K) := h ▸ cr_sum hc
theorem k_any (hc : X.calm = true := by rfl) (h : X.K = K := by rfl) : CallR X (.builtin "any") (rAny K) := h ▸ cr_any hc
theorem k_all (hc : X.calm = true := by rfl) (h : X.K = K := by rfl) : CallR X (.builtin "all") (rAll K) := h ▸ cr_all hc
theorem k_max2 (hc : X.calm = true := by rfl) : CallR X (.builtin "max") (fun xs H Q => ∃ i j, xs = [.int i, .int j] ∧ Q (.int (if j > i then j else i)) H) := call_max2 hc
theorem k_min2 (hc : X.calm = true := by rfl) : CallR X (.builtin "min") (fun xs H Q => ∃ i j, xs = [.int i, .int j] ∧ Q (.int (if j < i then j else i)) H) := call_min2 hc
theorem k_sorted (h : X.K = K := by rfl) : CallR X (.builtin "sorted") (rSortedI K) := h ▸ cr_sortedI
theorem k_ixl (h : X.K = K := by rfl) : IxR X (rIxL K) := h ▸ ix_list
theorem k_ixt (h : X.K = K := by rfl) : IxR X (rIxT K) := h ▸ ix_tup
theorem k_sll (h : X.K = K := by rfl) : SlR X (rSlL K) := h ▸ sl_list
theorem k_eqD (hu : X.A.units + 64 < cLine) (h : X.K = K := by rfl) : OpR X (compareOp .Eq) (rEqD K) := h ▸ op_eqD hu
theorem k_neD (hu : X.A.units + 64 < cLine) (h : X.K = K := by rfl) : OpR X (compareOp .NotEq) (rNeD K) := h ▸ op_neD hu
theorem k_in (h : X.K = K := by rfl) : OpR X (compareOp .In) (rIn K false) := h ▸ op_in_seq
theorem k_notIn (h : X.K = K := by rfl) : OpR X (compareOp .NotIn) (rIn K true) := h ▸ op_notIn_seq
theorem kpg_tup {es : List Expr} {k : Nat} {t : TGs} {n : Nat} {pos : Pos} (hs : PGs X es t) (hc : X.calm = true := by rfl) (h : X.K = K := by rfl)
    (hn : (assignEach es X.env).length = n := by rfl) (hst : (assignEach es X.env).findIdx? (·.1) = none := by rfl) : PG X (.Tuple es k pos) (gTup K n t) := h ▸ pg_tup hc hs hn hst
theorem kpi_list {tg e : Expr} {te : TE} (he : PE X e te) (h : X.K = K := by rfl) : PI X tg e (iList K te) := h ▸ pi_list he
theorem kpi_tup {tg e : Expr} {te : TE} (he : PE X e te) (h : X.K = K := by rfl) : PI X tg e (iTup K te) := h ▸ pi_tup he
theorem kpt_truth {a : Expr} {ta : TE} (ha : PE X a ta) (he : ∀ whole, isTrue a X.env whole = (do let v ← whole; standAt a.pos; holding [v] (truthy v)) := by intro _; rfl) (h : X.K = K := by rfl) : PT X a (fun σ H Q => ta σ H fun x H' => ∃ k, TruV K x H' k ∧ Q k H') := h ▸ pt_truth ha he
end
end Wk
/-! Wk5: in, lists made longer, texts, chains, tuples put together -/
namespace Wk
open PySem PySem.Spec L2 Evl
class Fe (α : Type) [Rp α] [Fl α] [DecidableEq α] : Prop where
  flat : ∀ a : α, flatV (Fl.toV a) = true
  eq : ∀ a b : α, eqV (Fl.toV a) (Fl.toV b) = decide (a = b)
instance : Fe Int := ⟨fun _ => rfl, fun a b => by show (a == b) = decide (a = b); by_cases h : a = b <;> simp [h]⟩
instance : Fe Str := ⟨fun _ => rfl, fun a b => by show (a == b) = decide (a = b); by_cases h : a = b <;> simp [h]⟩
def repO {α : Type} (xs : List α) (k : Int) : Option (List α) := if -1000000000 ≤ k ∧ k ≤ 1000000000 ∧ xs.length * k.toNat ≤ 1000000 then some (List.replicate k.toNat xs).flatten else none
def addS (x y : Str) : Option Str := if x.length + y.length ≤ 1000000 then some (x ++ y) else none
def lenS (x : Str) : Option Int := if x.length ≤ 1000000 then some (x.length : Int) else none
def joinO (a : Str) (ys : List Str) : Option Str := if (ys.map (·.length)).sum + ys.length * a.length ≤ 1000000 then some (Txt.join a ys) else none
def powO (i j : Int) : Option Int := if 0 ≤ j ∧ j ≤ 1000000 ∧ i.natAbs < 18446744073709551616 then some (i ^ j.toNat) else none
section
variable {K : Fg} {F Kn0 : Hp} {sl sl' : List Sl} {ow ow0 ow1 ow2 : List Ow} {α β γ τ : Type} [Rp α] [Rp β] [Rp γ] [Tp τ] {ta tb tc te : TE} {x : α} {y : β} {z : γ} {D : Ends} {t u tz : TS} {tt : TT} {a b : Bool} {i j : Nat} {p : Addr}
theorem any_mem {α : Type} [Rp α] [Fl α] [DecidableEq α] [Fe α] (x : α) : ∀ xs : List α, inV (Fl.toV x) (xs.map Fl.toV) = decide (x ∈ xs)
  | [] => by simp [inV]
  | y :: ys => by
    have ih := any_mem x ys
    unfold inV at ih ⊢
    rw [List.map_cons, List.any_cons, ih, Fe.eq]
    by_cases h : y = x
    · subst h
      simp
    · have h' : ¬ x = y := fun e => h e.symm
      simp [h, h']
theorem all_flat {α : Type} [Rp α] [Fl α] [DecidableEq α] [Fe α] : ∀ xs : List α, (xs.map Fl.toV).all flatV = true
  | [] => rfl
  | y :: ys => by
    rw [List.map_cons, List.all_cons, Fe.flat, all_flat ys]
    rfl
theorem r2_in {α : Type} [Rp α] [Fl α] [DecidableEq α] [Fe α] {x : α} {xs : List α} : R2V K (rIn K false) x xs (decide (x ∈ xs)) := fun Kn H v w ek h1 h2 Q q => by
  obtain ⟨p, ws, rfl, h3, h4⟩ := h2
  have e := paired_fl h4
  subst e
  rw [Fl.iff.mp h1]
  refine ⟨p, _, rfl, .inl (sq_of (ek _ _ h3)), Fe.flat x, all_flat xs, ?_⟩
  rw [any_mem]
  exact q.fl ek
theorem r2_notIn {α : Type} [Rp α] [Fl α] [DecidableEq α] [Fe α] {x : α} {xs : List α} : R2V K (rIn K true) x xs (!decide (x ∈ xs)) := fun Kn H v w ek h1 h2 Q q => by
  obtain ⟨p, ws, rfl, h3, h4⟩ := h2
  have e := paired_fl h4
  subst e
  rw [Fl.iff.mp h1]
  refine ⟨p, _, rfl, .inl (sq_of (ek _ _ h3)), Fe.flat x, all_flat xs, ?_⟩
  rw [any_mem]
  exact q.fl ek
theorem r2_inU {α : Type} [Rp α] [Fl α] [DecidableEq α] [Fe α] {x : α} {xs : Tu α} : R2V K (rIn K false) x xs (decide (x ∈ xs.l)) := fun Kn H v w ek h1 h2 Q q => by
  obtain ⟨p, ws, rfl, h3, h4⟩ := h2
  have e := paired_fl h4
  subst e
  rw [Fl.iff.mp h1]
  refine ⟨p, _, rfl, .inr (st_of (ek _ _ h3)), Fe.flat x, all_flat xs.l, ?_⟩
  rw [any_mem]
  exact q.fl ek
theorem r2_notInU {α : Type} [Rp α] [Fl α] [DecidableEq α] [Fe α] {x : α} {xs : Tu α} : R2V K (rIn K true) x xs (!decide (x ∈ xs.l)) := fun Kn H v w ek h1 h2 Q q => by
  obtain ⟨p, ws, rfl, h3, h4⟩ := h2
  have e := paired_fl h4
  subst e
  rw [Fl.iff.mp h1]
  refine ⟨p, _, rfl, .inr (st_of (ek _ _ h3)), Fe.flat x, all_flat xs.l, ?_⟩
  rw [any_mem]
  exact q.fl ek
theorem paired_rep {F : V → α → Prop} {vs : List V} {xs : List α} (h : Paired F vs xs) : ∀ n : Nat, Paired F (List.replicate n vs).flatten (List.replicate n xs).flatten
  | 0 => .nil
  | n + 1 => by
    rw [List.replicate_succ, List.replicate_succ, List.flatten_cons, List.flatten_cons]
    exact paired_append h (paired_rep h n)
theorem r2_repO {xs zs : List α} {k : Int} (h : repO xs k = some zs) : R2L K rRep xs k zs := fun Kn H v w ek h1 h2 Q q => by
  unfold repO at h
  split at h
  · rename_i hb
    cases h
    obtain ⟨p, ws, rfl, h3, h4⟩ := h1
    cases h2
    refine ⟨p, k, ws, rfl, rfl, ek _ _ h3, by omega, by omega, by rw [paired_len h4]; exact le_line hb.2.2, fun l hl => q l _ Kn _ (Gr.newU ek hl) hl (fresh_back ek hl) upd_same (paired_rep h4 _)⟩
  · cases h
theorem r2_addS {x y z : Str} (h : addS x y = some z) : R2V K (fun x y H Q => ∃ i j, x = .str i ∧ y = .str j ∧ i.length + j.length ≤ sizeLine ∧ Q (.str (i ++ j)) H) x y z := fun Kn H v w ek h1 h2 Q q => by
  unfold addS at h
  split at h
  · rename_i hb
    cases h
    exact ⟨x, y, h1, h2, le_line hb, q.fl ek⟩
  · cases h
theorem rc_lenS {x : Str} {z : Int} (h : lenS x = some z) : RCV K (fun xs H Q => ∃ z, xs = [.str z] ∧ z.length ≤ sizeLine ∧ Q (.int z.length) H) (x, ()) z := fun Kn H vs ek hr Q q => by
  obtain ⟨v, rfl, h1⟩ := one_arg hr
  cases h1
  unfold lenS at h
  split at h
  · rename_i hb
    cases h
    exact ⟨x, rfl, le_line hb, q.fl ek⟩
  · cases h
theorem ev_joinO {s : Str} {ys : List Str} {z : Str} (ha : EV K F Kn0 sl ow ta s) (hb : EV K F Kn0 sl ow tb ys) (h : joinO s ys = some z) :
    EV K F Kn0 sl ow (tM1 (fun x xs H Q => ∃ a p, ∃ ys : List Str, x = .str a ∧ xs = [.ref p] ∧ (SqL K H p (ys.map V.str) ∨ SqT K H p (ys.map V.str)) ∧ (ys.map (·.length)).sum + ys.length * a.length ≤ 16777216 ∧ Q (.str (Txt.join a ys)) H) ta tb) z := fun σ Kn H s' Q q =>
  ha σ Kn H s' _ fun v Kn1 H1 g1 r1 => by
    cases r1
    refine ⟨⟨s, rfl⟩, hb σ Kn1 H1 (s'.grow g1) _ fun w Kn2 H2 g2 r2 => ?_⟩
    obtain ⟨p, ws, rfl, h3, h4⟩ := r2
    have e := paired_fl h4
    subst e
    unfold joinO at h
    split at h
    · rename_i hz
      cases h
      exact ⟨s, p, ys, rfl, rfl, .inl (sq_of (g2.kh _ _ h3)), by omega, q _ Kn2 H2 (g1.trans g2) rfl⟩
    · cases h
theorem rc_intB {x : Bool} : RCV K (fun xs H Q => (∃ i, xs = [.int i] ∧ Q (.int i) H) ∨ ∃ k, xs = [.bl k] ∧ Q (.int (if k then 1 else 0)) H) (x, ()) (if x = true then (1 : Int) else 0) := fun Kn H vs ek hr Q q => by
  obtain ⟨v, rfl, h1⟩ := one_arg hr
  cases h1
  exact .inr ⟨x, rfl, q.fl ek⟩
theorem rc_intI {x : Int} : RCV K (fun xs H Q => (∃ i, xs = [.int i] ∧ Q (.int i) H) ∨ ∃ k, xs = [.bl k] ∧ Q (.int (if k then 1 else 0)) H) (x, ()) x := fun Kn H vs ek hr Q q => by
  obtain ⟨v, rfl, h1⟩ := one_arg hr
  cases h1
  exact .inl ⟨x, rfl, q.fl ek⟩
theorem r2_powO {i j z : Int} (h : powO i j = some z) : R2V K (rI CPow fun i j => .int (i ^ j.toNat)) i j z := by
  unfold powO at h
  split at h
  · rename_i hb
    cases h
    exact r2_I ⟨hb.1, hb.2.1, by omega⟩
  · cases h
/-- x < y < z -/
theorem ev_chain {r r' : R2} (ha : EV K F Kn0 sl ow ta x) (hb : EV K F Kn0 sl ow tb y) (hr : R2V K r x y a) (hc : EV K F Kn0 sl ow tc z) (hr' : R2V K r' y z b) : EV K F Kn0 sl ow (tChain r r' ta tb tc) (a && b) := fun σ Kn H s Q q =>
  ha σ Kn H s _ fun v Kn1 H1 g1 r1 => hb σ Kn1 H1 (s.grow g1) _ fun w Kn2 H2 g2 r2 => hr Kn2 H2 v w g2.kh (Rp.mono g2.kk r1) r2 _ fun u Kn3 H3 g3 r3 => by
    refine ⟨a, r3, ?_⟩
    cases a with
    | true => exact iteT (hc σ Kn3 H3 (((s.grow g1).grow g2).grow g3) _ fun v4 Kn4 H4 g4 r4 => hr' Kn4 H4 w v4 g4.kh (Rp.mono (g3.kk.trans g4.kk) r2) r4 Q fun u5 Kn5 H5 g5 r5 => q u5 Kn5 H5 ((((g1.trans g2).trans g3).trans g4).trans g5) r5)
    | false => exact iteF (q _ Kn3 H3 ((g1.trans g2).trans g3) rfl)
/-- t3 is t1 and t2 put together -/
inductive Ap : {τ1 τ2 τ3 : Type} → [Tp τ1] → [Tp τ2] → [Tp τ3] → τ1 → τ2 → τ3 → Prop
  | z {τ : Type} [Tp τ] (t : τ) : Ap () t t
  | s {α τ1 τ2 τ3 : Type} [Rp α] [Tp τ1] [Tp τ2] [Tp τ3] (x : α) {t1 : τ1} {t2 : τ2} {t3 : τ3} : Ap t1 t2 t3 → Ap (x, t1) t2 (x, t3)
theorem Ap.rept {K : Fg} {H : Hp} {τ1 τ2 τ3 : Type} [i1 : Tp τ1] [i2 : Tp τ2] [i3 : Tp τ3] {t1 : τ1} {t2 : τ2} {t3 : τ3} (h : Ap t1 t2 t3) : ∀ {vs ws : List V}, Wk.rept K H vs t1 → Wk.rept K H ws t2 → Wk.rept K H (vs ++ ws) t3 := by
  induction h with
  | z t =>
    intro vs ws h1 h2
    cases h1
    exact h2
  | s x _ ih =>
    intro vs ws h1 h2
    obtain ⟨v, r, rfl, h3, h4⟩ := h1
    exact ⟨v, r ++ ws, rfl, h3, ih h4 h2⟩
theorem r2_catA {α1 τ1 α2 τ2 α3 τ3 : Type} [Rp α1] [Tp τ1] [Rp α2] [Tp τ2] [Rp α3] [Tp τ3] {t1 : α1 × τ1} {t2 : α2 × τ2} {t3 : α3 × τ3} (h : Ap t1 t2 t3) (hn : Tp.n (α1 × τ1) + Tp.n (α2 × τ2) ≤ 1000 := by decide) : R2V K (rCatA K) t1 t2 t3 := fun Kn H v w ek h1 h2 Q q => by
  obtain ⟨p, vs, rfl, h3, h4⟩ := h1
  obtain ⟨p2, ws, rfl, h5, h6⟩ := h2
  have n1 : vs ≠ [] := by
    obtain ⟨_, _, rfl, _⟩ := h4
    simp
  have n2 : ws ≠ [] := by
    obtain ⟨_, _, rfl, _⟩ := h6
    simp
  refine ⟨p, p2, vs, ws, rfl, rfl, st_of (ek _ _ h3), st_of (ek _ _ h5), ?_, fun e => absurd e n1, fun _ e => absurd e n2, fun _ _ l hl => ?_⟩
  · rw [Tp.len h4, Tp.len h6]
    exact le_line (by omega)
  · exact q _ (upd Kn l (.tup (vs ++ ws))) _ (Gr.new ek hl) ⟨l, _, rfl, upd_same, h.rept (Tp.mono (Gr.new ek hl).kk h4) (Tp.mono (Gr.new ek hl).kk h6)⟩
/-- found.clear() -/
theorem sb_clr {xs : List α} (hi : sl[i]? = some (.at p)) (hj : ow[j]? = some (ol p xs)) (ho : ow.set j (ol p ([] : List α)) = ow1) (k : SN K F Kn0 sl ow1 D) : SB K F Kn0 sl ow D (tDrop (tBM0 K "list" rClear (tVar i))) := fun σ Kn H s => by
  obtain ⟨o, h1, h2⟩ := s.sl.get hi
  obtain ⟨f1, f2, ws, f3, f4⟩ := s.ow.each _ (List.mem_of_getElem? hj)
  subst ho
  refine ⟨.ref p, by rw [h1]; exact congrArg some h2, Or.inl ⟨rfl, ws, sq_of f3⟩, p, ws, rfl, rfl, f3, k _ Kn _ ?_⟩
  exact s.write hj (Ex.refl _) (upd_in s.ek f2) (fun q hq _ => upd_ne hq) (fun _ _ h => h) upd_same .nil
theorem en_listO {xs : List α} (hi : sl[i]? = some (.at p)) (hj : ow[j]? = some (ol p xs)) : EN K F Kn0 sl ow (tCB (fun xs H Q => ∃ p ys, xs = [.ref p] ∧ (SqL K H p ys ∨ SqT K H p ys) ∧ ∀ l, H l = none → Q (.ref l) (upd H l (.lst ys))) (tCons (tVar i) tNil)) xs := fun σ Kn H s Q q => by
  obtain ⟨o, h1, h2⟩ := s.sl.get hi
  obtain ⟨f1, f2, ws, f3, f4⟩ := s.ow.each _ (List.mem_of_getElem? hj)
  exact ⟨.ref p, by rw [h1]; exact congrArg some h2, p, ws, rfl, .inl (sq_of f3), fun l hl => q l ws Kn _ (Gr.newU s.ek hl) hl (fresh_back s.ek hl) upd_same f4⟩
/-- a test that changes something on its way -/
def ETM (K : Fg) (F Kn0 : Hp) (sl : List Sl) (ow : List Ow) (tt : TT) (ow' : List Ow) (b : Bool) : Prop := ∀ σ Kn H, S K F Kn0 sl ow σ Kn H → ∀ Q : Bool → Hp → Prop, (∀ Kn' H', Ex Kn Kn' → S K F Kn0 sl ow' σ Kn' H' → Q b H') → tt σ H Q
theorem ET.etm (h : ET K F Kn0 sl ow tt b) : ETM K F Kn0 sl ow tt ow b := fun σ Kn H s Q q => h σ Kn H s Q fun Kn' H' g => q Kn' H' g.kk (s.grow g)
theorem etm_test (h : EM K F Kn0 sl ow te ow1 b) : ETM K F Kn0 sl ow (tTest te) ow1 b := fun σ Kn H s Q q => h σ Kn H s _ fun v Kn' H' e s' r => ⟨b, r, q Kn' H' e s'⟩
theorem etm_and {t u : TT} (h1 : ETM K F Kn0 sl ow t ow1 a) (h2 : a = true → ET K F Kn0 sl ow1 u b) : ETM K F Kn0 sl ow (tAnd t u) ow1 (a && b) := fun σ Kn H s Q q => h1 σ Kn H s _ fun Kn1 H1 e1 s1 => by
  cases a with
  | true => exact iteT (h2 rfl σ Kn1 H1 s1 Q fun Kn2 H2 g2 => q Kn2 H2 (e1.trans g2.kk) (s1.grow g2))
  | false => exact iteF (q Kn1 H1 e1 s1)
theorem etm_or {t u : TT} (h1 : ETM K F Kn0 sl ow t ow1 a) (h2 : a = false → ET K F Kn0 sl ow1 u b) : ETM K F Kn0 sl ow (tOr t u) ow1 (a || b) := fun σ Kn H s Q q => h1 σ Kn H s _ fun Kn1 H1 e1 s1 => by
  cases a with
  | true => exact iteT (q Kn1 H1 e1 s1)
  | false => exact iteF (h2 rfl σ Kn1 H1 s1 Q fun Kn2 H2 g2 => q Kn2 H2 (e1.trans g2.kk) (s1.grow g2))
theorem sb_ifM {t u : TS} (h : ETM K F Kn0 sl ow tt ow1 b) (h1 : b = true → SB K F Kn0 sl ow1 D t) (h2 : b = false → SB K F Kn0 sl ow1 D u) : SB K F Kn0 sl ow D (tIfS tt t u) := fun σ Kn H s => h σ Kn H s _ fun Kn1 H1 e1 s1 => by
  cases b with
  | true => exact iteT (h1 rfl σ Kn1 H1 s1)
  | false => exact iteF (h2 rfl σ Kn1 H1 s1)
end
section
variable {X : Cx} {K : Fg}
theorem k_catA (h : X.K = K := by rfl) : OpR X (binaryOp .Add) (rCatA K) := h ▸ op_catA
theorem k_join {to te : TE} {o e : Expr} {apos pos : Pos} (ho : PE X o to) (he : PE X e te) (hs : starEach [e] X.env = [(false, eval e X.env)] := by rfl) (hbase : attributeBase o "join" X.env (eval o X.env) = eval o X.env := by rfl) (hline : (apos.endLine == pos.line) = true := by rfl) (h : X.K = K := by rfl) :
    PE X (.Call (.Attribute o "join" apos) [e] [] pos) (tM1 (fun x xs H Q => ∃ a p, ∃ ys : List Str, x = .str a ∧ xs = [.ref p] ∧ (SqL K H p (ys.map V.str) ∨ SqT K H p (ys.map V.str)) ∧ (ys.map (·.length)).sum + ys.length * a.length ≤ 16777216 ∧ Q (.str (Txt.join a ys)) H) to te) := h ▸ pe_join ho he hs hbase hline
end
end Wk
/-! Wk6: dicts. -/
namespace Wk
open PySem PySem.Spec L2 Evl
/-- what may be a key -/
class K1 (α : Type) [Rp α] where
  key : α → Key
  inj : ∀ {a b : α}, key a = key b → a = b
  iff : ∀ {K : Fg} {H : Hp} {v : V} {a : α}, rep K H v a → v = kV (key a)
instance : K1 Int := { key := Sum.inl, inj := fun h => Sum.inl.inj h, iff := fun h => h }
instance : K1 Str := { key := Sum.inr, inj := fun h => Sum.inr.inj h, iff := fun h => h }
class KT1 (τ : Type) [Tp τ] where
  keys : τ → List Key
  inj : ∀ {a b : τ}, keys a = keys b → a = b
  iff : ∀ {K : Fg} {H : Hp} {vs : List V} {a : τ}, rept K H vs a → vs = (keys a).map kV
instance : KT1 Unit := { keys := fun _ => [], inj := fun _ => rfl, iff := fun h => h }
instance {α τ : Type} [Rp α] [Tp τ] [K1 α] [KT1 τ] : KT1 (α × τ) where
  keys t := K1.key t.1 :: KT1.keys t.2
  inj h := Prod.ext (K1.inj (List.cons.inj h).1) (KT1.inj (List.cons.inj h).2)
  iff h := by
    obtain ⟨v, r, h1, h2, h3⟩ := h
    rw [h1, K1.iff h2, KT1.iff h3]
    rfl
class Ky (κ : Type) [Rp κ] where
  kt : Type
  dec : DecidableEq kt
  key : κ → kt
  inj : ∀ {a b : κ}, key a = key b → a = b
  ho : List (kt × V) → HO
  get : ∀ {K : Fg} {Kh H : Hp} {p : Addr} {v : V} {a : κ} {ws : List (kt × V)}, rep K Kh v a → Ex Kh H → H p = some (ho ws) → DGet H p v (valV ws (key a))
  put : ∀ {K : Fg} {Kh H : Hp} {p : Addr} {v y : V} {a : κ} {ws : List (kt × V)}, rep K Kh v a → Ex Kh H → H p = some (ho ws) → ws.length < sizeLine → DPut H p v y (upd H p (ho (putK ws (key a) y)))
instance {κ : Type} [Rp κ] [Ky κ] : DecidableEq (Ky.kt κ) := Ky.dec
instance {α : Type} [Rp α] [K1 α] : Ky α where
  kt := Key
  dec := inferInstance
  key := K1.key
  inj := K1.inj
  ho := .dK
  get h _ e := by
    rw [K1.iff h]
    exact DGet.k e
  put h _ e l := by
    rw [K1.iff h]
    exact DPut.k e l
instance {α τ : Type} [Rp α] [Tp τ] [KT1 (α × τ)] : Ky (α × τ) where
  kt := List Key
  dec := inferInstance
  key := KT1.keys
  inj := KT1.inj
  ho := .dT
  get h x e := by
    obtain ⟨p, vs, h1, h2, h3⟩ := h
    rw [h1]
    have h4 := x _ _ h2
    rw [KT1.iff (τ := α × _) h3] at h4
    exact DGet.t e h4
  put h x e l := by
    obtain ⟨p, vs, h1, h2, h3⟩ := h
    rw [h1]
    have h4 := x _ _ h2
    rw [KT1.iff (τ := α × _) h3] at h4
    exact DPut.t e h4 l
/-- the table of a dict -/
structure Dc (κ β : Type) where
  l : List (κ × β)
section
variable {κ β : Type} [DecidableEq κ]
def getD (kvs : List (κ × β)) (k : κ) : Option β := (kvs.find? fun kv => decide (kv.1 = k)).map (·.2)
def putD (kvs : List (κ × β)) (k : κ) (y : β) : List (κ × β) := if (getD kvs k).isSome = true then kvs.map (fun kv => if kv.1 = k then (kv.1, y) else kv) else kvs ++ [(k, y)]
def putO (kvs : Dc κ β) (k : κ) (y : β) : Option (Dc κ β) := if kvs.l.length < 1000000 then some ⟨putD kvs.l k y⟩ else none
def mergeD (kvs more : List (κ × β)) : List (κ × β) := more.foldl (fun acc kv => putD acc kv.1 kv.2) kvs
end
section
variable {κ β : Type} [Rp κ] [Ky κ] [Rp β]
abbrev DK (K : Fg) (H : Hp) : List (Ky.kt κ × V) → List (κ × β) → Prop := Paired fun w kv => w.1 = Ky.key kv.1 ∧ rep K H w.2 kv.2
theorem DK.mono {K : Fg} {H H' : Hp} {ws : List (Ky.kt κ × V)} {kvs : List (κ × β)} (e : Ex H H') (h : DK K H ws kvs) : DK K H' ws kvs := Paired.mapP h fun _ _ q => ⟨q.1, Rp.mono e q.2⟩
instance obDc : Ob (Dc κ β) where
  ob K H o x := ∃ ws, o = Ky.ho (κ := κ) ws ∧ DK K H ws x.l
  mono e h := by
    obtain ⟨ws, h1, h2⟩ := h
    exact ⟨ws, h1, DK.mono e h2⟩
instance rpDc : Rp (Dc κ β) where
  rep K H v x := ∃ p o, v = .ref p ∧ H p = some o ∧ Ob.ob K H o x
  mono e h := by
    obtain ⟨p, o, h1, h2, h3⟩ := h
    exact ⟨p, o, h1, e _ _ h2, Ob.mono e h3⟩
variable [DecidableEq κ]
theorem DK.get {K : Fg} {H : Hp} {ws : List (Ky.kt κ × V)} {kvs : List (κ × β)} (k : κ) (h : DK K H ws kvs) : (getD kvs k = none ∧ valV ws (Ky.key k) = none) ∨ ∃ y v, getD kvs k = some y ∧ valV ws (Ky.key k) = some v ∧ rep K H v y := by
  unfold DK at h
  induction h with
  | nil => exact .inl ⟨rfl, rfl⟩
  | @cons w kv ws kvs h t ih =>
    unfold getD valV
    by_cases e : kv.1 = k
    · have e2 : w.1 = Ky.key k := h.1.trans (congrArg _ e)
      rw [List.find?_cons_of_pos (by simpa using e), List.find?_cons_of_pos (by simpa using e2)]
      exact .inr ⟨_, _, rfl, rfl, h.2⟩
    · have e2 : ¬ w.1 = Ky.key k := fun z => e (Ky.inj (h.1.symm.trans z))
      rw [List.find?_cons_of_neg (by simpa using e), List.find?_cons_of_neg (by simpa using e2)]
      exact ih
theorem DK.some {K : Fg} {H : Hp} {ws : List (Ky.kt κ × V)} {kvs : List (κ × β)} (k : κ) (h : DK K H ws kvs) : (valV ws (Ky.key k)).isSome = (getD kvs k).isSome := by
  rcases h.get k with ⟨h1, h2⟩ | ⟨y, v, h1, h2, _⟩
  · rw [h1, h2]
    rfl
  · rw [h1, h2]
    rfl
theorem DK.repl {K : Fg} {H : Hp} {ws : List (Ky.kt κ × V)} {kvs : List (κ × β)} (k : κ) {v : V} {y : β} (hv : rep K H v y) (h : DK K H ws kvs) : DK K H (ws.map fun kv => if kv.1 = Ky.key k then (kv.1, v) else kv) (kvs.map fun kv => if kv.1 = k then (kv.1, y) else kv) := by
  unfold DK at h ⊢
  induction h with
  | nil => exact .nil
  | @cons w kv ws kvs h t ih =>
    rw [List.map_cons, List.map_cons]
    refine .cons ?_ ih
    by_cases e : kv.1 = k
    · have e2 : w.1 = Ky.key k := h.1.trans (congrArg _ e)
      rw [if_pos e, if_pos e2]
      exact ⟨h.1, hv⟩
    · have e2 : ¬ w.1 = Ky.key k := fun z => e (Ky.inj (h.1.symm.trans z))
      rw [if_neg e, if_neg e2]
      exact h
theorem Paired.app2 {α β : Type} {R : α → β → Prop} : ∀ {xs xs' : List α} {ys ys' : List β}, Paired R xs ys → Paired R xs' ys' → Paired R (xs ++ xs') (ys ++ ys')
  | _, _, _, _, .nil, h => h
  | _, _, _, _, .cons q t, h => .cons q (Paired.app2 t h)
theorem DK.put {K : Fg} {H : Hp} {ws : List (Ky.kt κ × V)} {kvs : List (κ × β)} (k : κ) {v : V} {y : β} (hv : rep K H v y) (h : DK K H ws kvs) : DK K H (putK ws (Ky.key k) v) (putD kvs k y) := by
  unfold putK putD
  rw [valV_any, h.some k]
  split
  · exact DK.repl k hv h
  · exact Paired.app2 h (.cons ⟨rfl, hv⟩ .nil)
end
section
variable {K : Fg} {F Kn0 : Hp} {sl sl' : List Sl} {ow ow0 ow1 ow2 : List Ow} {κ β γ : Type} [Rp κ] [Ky κ] [DecidableEq κ] [Rp β] [Rp γ] {ta tb te td tk : TE} {k : κ} {x : γ} {D : Ends} {t u tz : TS} {b : Bool} {i j : Nat} {p : Addr}
/-- the object at place j is another one now, all else as it was -/
theorem S.writeG {σ : L2.St} {Kn H Kn' H' : Hp} {o1 o2 : Ow} (s : S K F Kn0 sl ow σ Kn H) (hj : ow[j]? = some o1) (ha : o1.ad = p) (hb : o2.ad = p) (kk : Ex Kn Kn') (kh : Ex Kn' H')
    (hq : ∀ q, q ≠ p → H q ≠ none → H' q = H q) (sp : ∀ q, H q ≠ none → Kn q = none → Kn' q = none) (hp : o2.ok K Kn' H') : S K F Kn0 sl (ow.set j o2) σ Kn' H' := by
  obtain ⟨f1, f2, f3⟩ := s.ow.each _ (List.mem_of_getElem? hj)
  have f4 := Ow.there f3
  rw [ha] at f1 f2 f4
  have jl : j < ow.length := (List.getElem?_eq_some_iff.mp hj).1
  refine ⟨s.e0.trans kk, kh, fun a u h => ?_, fun a h1 h2 => sp a (Ex.nn s.ef h1) (s.sep a h1 h2), s.sl.mono kk, ⟨fun o ho => ?_, ?_⟩⟩
  · have hne : a ≠ p := fun z => by rw [z, f1] at h; cases h
    rw [hq a hne (ne_none_of (s.ef _ _ h))]
    exact s.ef _ _ h
  · obtain ⟨i, hi⟩ := List.getElem?_of_mem ho
    by_cases e : i = j
    · subst e
      rw [List.getElem?_set_self jl] at hi
      cases hi
      rw [hb]
      exact ⟨f1, sp p f4 f2, hp⟩
    · rw [List.getElem?_set_ne (Ne.symm e)] at hi
      obtain ⟨h1, h2, h3⟩ := s.ow.each o (List.mem_of_getElem? hi)
      have h4 := Ow.there h3
      have hne : o.ad ≠ p := fun z => e (ow_at s.ow.nd hi hj (z.trans ha.symm))
      exact ⟨h1, sp _ h4 h2, Ow.ok_mono kk (hq _ hne h4) h3⟩
  · have e : (ow.set j o2).map Ow.ad = ow.map Ow.ad := by
      rw [List.map_set]
      refine List.ext_getElem? fun i => ?_
      by_cases e : j = i
      · subst e
        rw [List.getElem?_set_self (by rw [List.length_map]; exact jl), List.getElem?_map, hj, hb, ← ha]
        rfl
      · rw [List.getElem?_set_ne e]
    rw [e]
    exact s.ow.nd
theorem S.ownG {σ : L2.St} {Kn H : Hp} {o : Ow} (s : S K F Kn0 sl ow σ Kn H) (ha : o.ad = p) (fp : F p = none) (kp : Kn p = none) (no : ∀ o ∈ ow, o.ad ≠ p) (ok : o.ok K Kn H) : S K F Kn0 sl (o :: ow) σ Kn H :=
  ⟨s.e0, s.ek, s.ef, s.sep, s.sl, ⟨fun o ho => by
    rcases List.mem_cons.mp ho with rfl | ho
    · rw [ha]
      exact ⟨fp, kp, ok⟩
    · exact s.ow.each o ho, List.nodup_cons.mpr ⟨fun h => by
      obtain ⟨o, ho, e⟩ := List.mem_map.mp h
      exact no o ho (e.trans ha), s.ow.nd⟩⟩⟩
/-- x = {} -/
theorem sb_dnewK {sl' : Addr → List Sl} (hm : Ky.ho (κ := κ) [] = HO.dK []) (hs : ∀ p, sl.set i (.at p) = sl' p) (k : ∀ p, SN K F Kn0 (sl' p) (oo p (Dc.mk ([] : List (κ × β))) :: ow) D) : SB K F Kn0 sl ow D (tAsg tDNewK (gName i)) := fun σ Kn H s p hp =>
  k p _ Kn _ (hs p ▸ ((s.grow (Gr.newU s.ek hp)).ownG (p := p) (o := oo p (Dc.mk ([] : List (κ × β)))) rfl (fresh_back s.ef hp) (fresh_back s.ek hp) (owned_ne s hp) ⟨_, upd_same, [], hm.symm, .nil⟩).seta i)
theorem sb_dnewT {sl' : Addr → List Sl} (hm : Ky.ho (κ := κ) [] = HO.dT []) (hs : ∀ p, sl.set i (.at p) = sl' p) (k : ∀ p, SN K F Kn0 (sl' p) (oo p (Dc.mk ([] : List (κ × β))) :: ow) D) : SB K F Kn0 sl ow D (tAsg tDNewT (gName i)) := fun σ Kn H s p hp =>
  k p _ Kn _ (hs p ▸ ((s.grow (Gr.newU s.ek hp)).ownG (p := p) (o := oo p (Dc.mk ([] : List (κ × β)))) rfl (fresh_back s.ef hp) (fresh_back s.ek hp) (owned_ne s hp) ⟨_, upd_same, [], hm.symm, .nil⟩).seta i)
/-- d[k] = y -/
theorem sb_dput {y : β} {d d' : Dc κ β} (hi : sl[i]? = some (.at p)) (hj : ow[j]? = some (oo p d)) (h : EV K F Kn0 sl ow te y) (hk : EV K F Kn0 sl ow tk k) (hx : putO d k y = some d') (ho : ow.set j (oo p d') = ow1) (n : SN K F Kn0 sl ow1 D) :
    SB K F Kn0 sl ow D (sDPut (tVar i) tk te) := fun σ Kn H s => h σ Kn H s _ fun v Kn1 H1 g1 r1 => by
  obtain ⟨o, h1, h2⟩ := s.sl.get hi
  refine ⟨.ref p, by rw [h1]; exact congrArg some h2, hk σ Kn1 H1 (s.grow g1) _ fun w Kn2 H2 g2 r2 => ?_⟩
  have s2 := (s.grow g1).grow g2
  obtain ⟨f1, f2, o1, f3, ws, f4, f5⟩ := s2.ow.each _ (List.mem_of_getElem? hj)
  subst f4
  unfold putO at hx
  split at hx
  · case isTrue hl =>
    cases hx
    subst ho
    refine ⟨p, _, rfl, Ky.put r2 s2.ek f3 (by rw [f5.length]; exact lt_line hl), n _ Kn2 _ ?_⟩
    exact s2.writeG hj rfl rfl (Ex.refl _) (upd_in s2.ek f2) (fun q hq _ => upd_ne hq) (fun _ _ h => h) ⟨_, upd_same, _, rfl, DK.put k (Rp.mono g2.kk r1) f5⟩
  · cases hx
/-- k in d -/
theorem ev_dinO {d : Dc κ β} (hi : sl[i]? = some (.at p)) (hj : ow[j]? = some (oo p d)) (hk : EV K F Kn0 sl ow tk k) : EV K F Kn0 sl ow (tDIn tk (tVar i)) (getD d.l k).isSome := fun σ Kn H s Q q => hk σ Kn H s _ fun v Kn1 H1 g1 r1 => by
  have s1 := s.grow g1
  obtain ⟨o, h1, h2⟩ := s1.sl.get hi
  obtain ⟨f1, f2, o1, f3, ws, f4, f5⟩ := s1.ow.each _ (List.mem_of_getElem? hj)
  subst f4
  exact ⟨.ref p, by rw [h1]; exact congrArg some h2, p, _, rfl, Ky.get r1 s1.ek f3, q _ Kn1 H1 g1 (congrArg V.bl (f5.some k))⟩
theorem ev_din {d : Dc κ β} (hd : EV K F Kn0 sl ow td d) (hk : EV K F Kn0 sl ow tk k) : EV K F Kn0 sl ow (tDIn tk td) (getD d.l k).isSome := fun σ Kn H s Q q => hk σ Kn H s _ fun v Kn1 H1 g1 r1 => hd σ Kn1 H1 (s.grow g1) _ fun u Kn2 H2 g2 r2 => by
  obtain ⟨p, o1, e1, e2, ws, f4, f5⟩ := r2
  subst f4
  exact ⟨p, _, e1, Ky.get (Rp.mono g2.kk r1) g2.kh (g2.kh _ _ e2), q _ Kn2 H2 (g1.trans g2) (congrArg V.bl (f5.some k))⟩
theorem ev_dnotinO {d : Dc κ β} (hi : sl[i]? = some (.at p)) (hj : ow[j]? = some (oo p d)) (hk : EV K F Kn0 sl ow tk k) : EV K F Kn0 sl ow (tDNotIn tk (tVar i)) (!(getD d.l k).isSome) := fun σ Kn H s Q q => hk σ Kn H s _ fun v Kn1 H1 g1 r1 => by
  have s1 := s.grow g1
  obtain ⟨o, h1, h2⟩ := s1.sl.get hi
  obtain ⟨f1, f2, o1, f3, ws, f4, f5⟩ := s1.ow.each _ (List.mem_of_getElem? hj)
  subst f4
  exact ⟨.ref p, by rw [h1]; exact congrArg some h2, p, _, rfl, Ky.get r1 s1.ek f3, q _ Kn1 H1 g1 (congrArg (fun b => V.bl (!b)) (f5.some k))⟩
theorem ev_dnotin {d : Dc κ β} (hd : EV K F Kn0 sl ow td d) (hk : EV K F Kn0 sl ow tk k) : EV K F Kn0 sl ow (tDNotIn tk td) (!(getD d.l k).isSome) := fun σ Kn H s Q q => hk σ Kn H s _ fun v Kn1 H1 g1 r1 => hd σ Kn1 H1 (s.grow g1) _ fun u Kn2 H2 g2 r2 => by
  obtain ⟨p, o1, e1, e2, ws, f4, f5⟩ := r2
  subst f4
  exact ⟨p, _, e1, Ky.get (Rp.mono g2.kk r1) g2.kh (g2.kh _ _ e2), q _ Kn2 H2 (g1.trans g2) (congrArg (fun b => V.bl (!b)) (f5.some k))⟩
/-- d[k] -/
theorem ev_dgetO {d : Dc κ β} {y : β} (hi : sl[i]? = some (.at p)) (hj : ow[j]? = some (oo p d)) (hk : EV K F Kn0 sl ow tk k) (hy : getD d.l k = some y) : EV K F Kn0 sl ow (tDGet (tVar i) tk) y := fun σ Kn H s Q q => by
  obtain ⟨o, h1, h2⟩ := s.sl.get hi
  refine ⟨.ref p, by rw [h1]; exact congrArg some h2, hk σ Kn H s _ fun v Kn1 H1 g1 r1 => ?_⟩
  have s1 := s.grow g1
  obtain ⟨f1, f2, o1, f3, ws, f4, f5⟩ := s1.ow.each _ (List.mem_of_getElem? hj)
  subst f4
  rcases f5.get k with ⟨h1, h2⟩ | ⟨y2, w, h1, h2, h3⟩
  · rw [h1] at hy
    cases hy
  · rw [h1] at hy
    cases hy
    exact ⟨p, w, rfl, h2 ▸ Ky.get r1 s1.ek f3, q w Kn1 H1 g1 h3⟩
theorem ev_dget {d : Dc κ β} {y : β} (hd : EV K F Kn0 sl ow td d) (hk : EV K F Kn0 sl ow tk k) (hy : getD d.l k = some y) : EV K F Kn0 sl ow (tDGet td tk) y := fun σ Kn H s Q q => hd σ Kn H s _ fun u Kn1 H1 g1 r1 => hk σ Kn1 H1 (s.grow g1) _ fun v Kn2 H2 g2 r2 => by
  obtain ⟨p, o1, e1, e2, ws, f4, f5⟩ := Rp.mono g2.kk r1
  subst f4
  rcases f5.get k with ⟨h1, h2⟩ | ⟨y2, w, h1, h2, h3⟩
  · rw [h1] at hy
    cases hy
  · rw [h1] at hy
    cases hy
    exact ⟨p, w, e1, h2 ▸ Ky.get r2 g2.kh (g2.kh _ _ e2), q w Kn2 H2 (g1.trans g2) h3⟩
/-- a dict of one's own, lent -/
theorem S.borrowG {σ : L2.St} {Kn H : Hp} {d : Dc κ β} (s : S K F Kn0 sl ow σ Kn H) (hi : sl[i]? = some (.at p)) (hj : ow[j]? = some (oo p d)) : ∃ o, Kn p = none ∧ H p = some o ∧ S K F Kn0 (sl.set i (sv d)) (ow.eraseIdx j) σ (upd Kn p o) H := by
  obtain ⟨o, h1, h2⟩ := s.sl.get hi
  have h2 : o = some (.ref p) := h2
  obtain ⟨f1, f2, ob, f3, f4⟩ := s.ow.each _ (List.mem_of_getElem? hj)
  have s1 := s.sub (List.eraseIdx_sublist ow j)
  have no : ∀ o ∈ ow.eraseIdx j, o.ad ≠ p := fun o hm z => by
    obtain ⟨m, hm'⟩ := List.getElem?_of_mem hm
    rw [List.getElem?_eraseIdx] at hm'
    split at hm'
    · have := ow_at s.ow.nd hm' hj z
      omega
    · have := ow_at s.ow.nd hm' hj z
      omega
  have s2 := s1.know (o := ob) f1 f2 no f3
  have hσ : σ.set i o = σ := by
    refine List.ext_getElem? fun m => ?_
    by_cases e : i = m
    · subst e
      rw [List.getElem?_set_self (List.getElem?_eq_some_iff.mp h1).1, h1]
    · rw [List.getElem?_set_ne e]
  have s3 := s2.set (x := sv d) (o := o) i ⟨.ref p, h2, p, ob, rfl, upd_same, Ob.mono (Ex.new f2) f4⟩
  rw [hσ] at s3
  exact ⟨ob, f2, f3, s3⟩
theorem ev_borG [Fl γ] {z : γ} {d : Dc κ β} (hi : sl[i]? = some (.at p)) (hj : ow[j]? = some (oo p d)) (hs : sl.set i (sv d) = sl') (ho : ow.eraseIdx j = ow1) (h : EV K F Kn0 sl' ow1 te z) : EV K F Kn0 sl ow te z := fun σ Kn H s Q q => by
  obtain ⟨ws, kp, hp, s1⟩ := s.borrowG hi hj
  subst hs
  subst ho
  exact h σ _ H s1 Q fun v Kn' H' g r => q v Kn H' ⟨Ex.refl _, g.hh, s.ek.trans g.hh, fun _ _ h => h⟩ (Fl.iff.mpr (Fl.iff.mp r))
theorem et_borG {tt : TT} {d : Dc κ β} (hi : sl[i]? = some (.at p)) (hj : ow[j]? = some (oo p d)) (hs : sl.set i (sv d) = sl') (ho : ow.eraseIdx j = ow1) (h : ET K F Kn0 sl' ow1 tt b) : ET K F Kn0 sl ow tt b := fun σ Kn H s Q q => by
  obtain ⟨ws, kp, hp, s1⟩ := s.borrowG hi hj
  subst hs
  subst ho
  exact h σ _ H s1 Q fun Kn' H' g => q Kn H' ⟨Ex.refl _, g.hh, s.ek.trans g.hh, fun _ _ h => h⟩
end
section
variable {X : Cx} {o i e value : Expr} {pos pos' tpos : Pos} {td ty tv : TE}
theorem k_dget (hu : X.A.units + 64 < cLine) (ho : PE X o td) (hi : PE X i ty) (hs : NoSl i) : PE X (.Subscript o i pos) (tDGet td ty) := pe_dget (by omega) ho hi hs
theorem k_din (hu : X.A.units + 64 < cLine) (hi : PE X i ty) (ho : PE X o td) : PC X .In i o (tDIn ty td) := pc_din (by omega) hi ho
theorem k_dnotin (hu : X.A.units + 64 < cLine) (hi : PE X i ty) (ho : PE X o td) : PC X .NotIn i o (tDNotIn ty td) := pc_dnotin (by omega) hi ho
theorem k_dput (hu : X.A.units + 64 < cLine) (ho : PE X o td) (hi : PE X i ty) (hv : PE X value tv) (hs : swapsWith value (some (.Subscript o i pos')) pos.line X.env = pure false) : PS X (.Assign [.Subscript o i pos'] value pos) (sDPut td ty tv) := ps_dput (by omega) ho hi hv hs
end
/-! ### a new list out of an operation with effects -/
section
variable {K : Fg} {F Kn0 : Hp} {sl : List Sl} {ow ow1 ow2 : List Ow} {α β γ : Type} [Rp α] [Rp β] [Rp γ] {ta tb : TE} {x : α} {y : β}
theorem enm_op {r : R2} {zs : List γ} (ha : EM K F Kn0 sl ow ta ow1 x) (hb : EM K F Kn0 sl ow1 tb ow2 y) (hr : R2L K r x y zs) : ENM K F Kn0 sl ow (tOp r ta tb) ow2 zs := fun σ Kn H s Q q =>
  ha σ Kn H s _ fun v Kn1 H1 e1 s1 r1 => hb σ Kn1 H1 s1 _ fun w Kn2 H2 e2 s2 r2 => hr Kn2 H2 v w s2.ek (Rp.mono e2 r1) r2 Q fun p ws Kn' H' g' hp kp hw r' =>
    q p ws Kn' H' ((e1.trans e2).trans g'.kk) (s2.grow g') (fresh_back s2.ef hp) kp (owned_ne s2 hp) hw r'
end
/-! ### a display -/
section
variable {K : Fg} {F Kn0 : Hp} {sl : List Sl} {ow : List Ow} {κ β : Type} [Rp κ] [K1 κ] [DecidableEq κ] [Rp β] {tk tv : TE} {k : κ} {y : β} {trs : List (TE × TE)} {kvs : List (κ × β)}
def EPs (K : Fg) (F Kn0 : Hp) (sl : List Sl) (ow : List Ow) (trs : List (TE × TE)) (kvs : List (κ × β)) : Prop := ∀ σ Kn H, S K F Kn0 sl ow σ Kn H → ∀ Q : List (V × V) → Hp → Prop,
  (∀ ws Kn' H', Gr Kn H Kn' H' → DK K Kn' ws kvs → Q (ws.map fun w => (kV w.1, w.2)) H') → tPairs trs σ H Q
theorem eps_nil : EPs K F Kn0 sl ow [] ([] : List (κ × β)) := fun σ Kn H s Q q => q [] Kn H (Gr.refl s.ek) .nil
theorem eps_cons (hk : EV K F Kn0 sl ow tk k) (hv : EV K F Kn0 sl ow tv y) (hr : EPs K F Kn0 sl ow trs kvs) : EPs K F Kn0 sl ow ((tk, tv) :: trs) ((k, y) :: kvs) := fun σ Kn H s Q q =>
  hk σ Kn H s _ fun v Kn1 H1 g1 r1 => hv σ Kn1 H1 (s.grow g1) _ fun w Kn2 H2 g2 r2 => hr σ Kn2 H2 ((s.grow g1).grow g2) _ fun ws Kn3 H3 g3 r3 => by
    have e := K1.iff r1
    subst e
    exact q ((K1.key k, w) :: ws) Kn3 H3 ((g1.trans g2).trans g3) (.cons ⟨rfl, Rp.mono g3.kk r2⟩ r3)
theorem DK.merge {K : Fg} {H : Hp} : ∀ {ms : List (Key × V)} {more : List (κ × β)} {ws : List (Key × V)} {kvs : List (κ × β)}, DK K H ms more → DK K H ws kvs → DK K H (mergeK ws ms) (mergeD kvs more) := by
  intro ms more ws kvs h
  unfold DK at h
  induction h generalizing ws kvs with
  | nil => exact fun h => h
  | @cons w kv ms more h t ih =>
    intro q
    refine ih ?_
    show DK K H (putK ws w.1 w.2) (putD kvs kv.1 kv.2)
    rw [h.1]
    exact DK.put kv.1 h.2 q
/-- {..}[k] -/
theorem ev_pick (hp : EPs K F Kn0 sl ow trs kvs) (hk : EV K F Kn0 sl ow tk k) (hl : kvs.length ≤ 15) (hy : getD (mergeD [] kvs) k = some y) : EV K F Kn0 sl ow (tDGet (tDisp trs) tk) y := fun σ Kn H s Q q p hp0 => by
  have g0 : Gr Kn H Kn (upd H p (.dK [])) := Gr.newU s.ek hp0
  refine hp σ Kn _ (s.grow g0) _ fun ws Kn1 H1 g1 r1 => ?_
  have e1 : H1 p = some (.dK []) := g1.hh _ _ upd_same
  have kp : Kn1 p = none := g1.sp p (ne_none_of upd_same) (fresh_back s.ek hp0)
  have g : Gr Kn H Kn1 (upd H1 p (.dK (mergeK [] ws))) := ⟨g1.kk, fun a u h => by
    have hne : a ≠ p := fun z => by rw [z, hp0] at h; cases h
    rw [upd_ne hne]
    exact g1.hh _ _ (by rw [upd_ne hne]; exact h), upd_in g1.kh kp, fun a h1 h2 => g1.sp a (Ex.nn g0.hh h1) h2⟩
  refine ⟨e1, ws, rfl, by rw [r1.length]; exact hl, hk σ Kn1 _ (s.grow g) _ fun v Kn2 H2 g2 r2 => ?_⟩
  have r3 : DK K Kn1 (mergeK [] ws) (mergeD [] kvs) := DK.merge r1 .nil
  rcases r3.get k with ⟨h1, h2⟩ | ⟨y2, w, h1, h2, h3⟩
  · rw [h1] at hy
    cases hy
  · rw [h1] at hy
    cases hy
    exact ⟨p, w, rfl, h2 ▸ Ky.get r2 g2.kh (g2.hh _ _ upd_same), q w Kn2 H2 (g.trans g2) (Rp.mono g2.kk h3)⟩
end
end Wk
/-! Wenum: enumerate over a tuple. -/
namespace L2
open PySem PySem.Spec PyProof.Rows
theorem meets_enum_new1 {v : Value} {o : Obj} {H : Heap → Prop} (B : Begins v o H) :
    Meets (Builtin.«enumerate.__new__» ⟨[.type "enumerate", v], []⟩) (fun _ R s => H s.heap ∧
      R (.ok (.ret (.ref (s.heap.push o).objs.size))) { s with heap := (s.heap.push o).push { cls := .type "enumerate", data := .fields #[.none, .bool false, .ref s.heap.objs.size, rawInt 0, .none, .none] } }) :=
  .of_wp fun prog w A R s h => by
    obtain ⟨hp, g, d, tk, os⟩ := s
    obtain ⟨h1, h⟩ := h
    have hsub := sub_enumerate
    have q1 : ∀ {A' : Around} {E : Value → Shared → Prop} {Q : Value → Shared → Prop}, Q (.ref hp.objs.size) ⟨hp.push o, g, d, tk, os⟩ → wpAny (model prog w) A' (pyIter v) Q E ⟨hp, g, d, tk, os⟩ :=
      fun q => B.iter prog w _ _ ⟨hp, g, d, tk, os⟩ _ h1 q
    wp_walk using q1
    refine wpAny_stack_any fun st => wpAny_pure ?_
    split
    · rename_i c _ _ _ _ _
      cases (c == Value.type "enumerate")
      · wp_walk using q1
        exact ⟨_, rfl, h⟩
      · wp_walk using q1
        exact ⟨_, rfl, h⟩
    · wp_walk using q1
      exact ⟨_, rfl, h⟩
section
variable {prog : Program} {w : World} {A : Around} {E : Value → Shared → Prop} {s : Shared}
theorem enum_begins1 {v : Value} {o : Obj} {H : Heap → Prop} {Q : Value → Shared → Prop} (B : Begins v o H) (h1 : H s.heap)
    (h : ∀ h', IsEnum h' (s.heap.objs.size + 1) s.heap.objs.size 0 .none → h'.get? s.heap.objs.size = some o → h'.objs.size = s.heap.objs.size + 2 →
      (∀ b o, s.heap.get? b = some o → h'.get? b = some o) → Q (.ref (s.heap.objs.size + 1)) { s with heap := h' }) :
    wpAny (model prog w) A (call (.type "enumerate") [v]) Q E s := by
  refine callType_new F.called_enumerate (by decide) (F.typeCall_enumerate_1 _) (F.newCall_enumerate_1 _) (fun obj => F.args_object_init_2 obj _) F.entry_enumerate_new
    (meets_enum_new1 B) ⟨h1, ?_⟩
  have hz : (s.heap.push o).objs.size = s.heap.objs.size + 1 := Heap.size_push ..
  show _ ∧ _
  rw [hz]
  have he : IsEnum ((s.heap.push o).push { cls := .type "enumerate", data := .fields #[.none, .bool false, .ref s.heap.objs.size, rawInt 0, .none, .none] }) (s.heap.objs.size + 1) s.heap.objs.size 0 .none := by
    have := Heap.get?_push_size (s.heap.push o) (o := { cls := .type "enumerate", data := .fields #[.none, .bool false, .ref s.heap.objs.size, rawInt 0, .none, .none] }) rfl
    rw [hz] at this
    exact this
  refine ⟨⟨_, he, rfl⟩, h _ he (Heap.get?_push_of_some _ (Heap.get?_push_size _ B.free)) (by rw [Heap.size_push, hz]) fun b o x => Heap.get?_push_of_some _ (Heap.get?_push_of_some _ x)⟩
end
section
variable {prog : Program} {w : World} {A : Around} {E : Value → Shared → Prop} {s : Shared}
theorem wpAny_pyNext_enum_endT {e it l : Addr} {i : Nat} {items : Array Value} {old : Value} {Q : Option Value → Shared → Prop} (hh : A.handled = none)
    (he : IsEnum s.heap e it i old) (hit : s.heap.IsTupleIter it l i) (hl : s.heap.IsTuple l items) (hx : items[i]? = none)
    (hQ : ∀ h', Heap.ExtBut it s.heap h' → Q none { s with heap := h' }) : wpAny (model prog w) A (pyNext (.ref e)) Q E s := by
  have hT : s.TypeIs (.ref e) "enumerate" := ⟨_, he, rfl⟩
  unfold pyNext
  refine wpAny_bind (wpAny_attempt (wpAny_callSpecial?_slot (name := Str.ofString "__next__") hT F.slot_enumerate_next
    (wpAny_call_entry F.slot_enumerate_next hT F.entry_enumerate_next ?_ (F.args_enumerate_next_1 _))))
  show wpAny _ _ (field (.ref e) 2 >>= _) _ _ _
  refine wpAny_bind (wpAny_field he rfl (x := .ref it) rfl ?_)
  refine wpAny_bind (wpAny_nextOf_tuple_end (by simp [hh]) hit hl hx fun h' x he' hx' => ?_)
  obtain ⟨o, ho, hc⟩ := hx'
  refine wpAny_bind (wpAny_isInstance (T := "StopIteration") (b := true) ⟨o, ho, hc⟩ isSubtype_stop ?_)
  exact wpAny_pure (hQ _ he')
end
/-- the tuple at a, each item in a new pair -/
def IteT (K : PySem.W.Frag) (a : Addr) : It :=
  ⟨fun i H => ∃ (xs : List V) (x : V), SqT K H a xs ∧ xs[i]? = some x, fun i H v H' => ∃ T x, v = .ref T ∧ H T = none ∧ H' = upd H T (.tup [.int (i : Nat), x]) ∧ ∀ xs, SqT K H a xs → xs[i]? = some x, fun i H => ∃ xs : List V, SqT K H a xs ∧ xs.length ≤ i⟩
theorem turn_enumT {P : Program} {w : World} {K : PySem.W.Frag} {elts : List Expr} {kk : Nat} {tpos : Pos} (a e it : Addr) :
    Turn P w K (.Tuple elts kk tpos) (IteT K a) [e, it] e (fun i h => (∃ old, IsEnum h e it ((i : Nat) : Int) old) ∧ h.IsTupleIter it a i ∧ e ≠ it ∧ a ≠ it ∧ e ≠ a) where
  mem := by simp
  obj := fun i h st b hb => by
    obtain ⟨⟨old, he⟩, ⟨o, ho, hc, hd⟩, _⟩ := st
    have e' : b = e ∨ b = it := by simpa using hb
    rcases e' with z | z
    · rw [z]; exact ⟨_, he, fun v q => nomatch q⟩
    · rw [z]; exact ⟨o, ho, fun v q => by rw [hd] at q; cases q⟩
  keep := fun i h h' st k => let ⟨⟨old, he⟩, hi, hne⟩ := st; ⟨⟨old, k e (by simp) _ he⟩, hi.at fun o q => k it (by simp) o q, hne⟩
  item := by
    intro X hP hw hK hc i pins s σ H E I hf st hg
    subst hP hw hK
    obtain ⟨⟨old, he⟩, hit, hne, hai, hea⟩ := st
    obtain ⟨xs, x, hq, hx⟩ := hg
    obtain ⟨its, rv, p, hz⟩ := I.tuple hq
    obtain ⟨u, hu, ru⟩ := rv.get hx
    have hel : e < s.heap.objs.size := Heap.lt_size he
    have hil : it < s.heap.objs.size := by obtain ⟨_, q, _⟩ := hit; exact Heap.lt_size q
    have hlt : i < its.toArray.size := by
      rw [List.size_toArray]
      exact (List.getElem?_eq_some_iff.mp hu).1
    have hh : X.A.in1.handled = none := by simp [I.ok.hd hc]
    refine wpAny_pyNext_enum_itemD (Draws.tuple hh it a hai its.toArray) he ⟨hit, p⟩ hlt hne (by simp [hne, hea]) fun y h' tk hy ho hst hT hsz hk => ?_
    have ey : y = u := by
      rw [show its.toArray[i]? = its[i]? by simp, hu] at hy
      exact (Option.some.inj hy).symm
    subst ey
    obtain ⟨hit', _⟩ := hst
    refine ⟨_, rfl, wpAny_letOwnedTupleGo_enum (s := { s with heap := h', toks := tk + 1 }) ho fun h'' he' sb => ?_⟩
    have hT2 : h''.get? s.heap.objs.size = some { cls := .type "tuple", data := .seq #[.int i tk, y] } := (sb.2 _ (Nat.ne_of_gt hel)).trans hT
    have new : ObjOk X.prog X.w (upd H s.heap.objs.size (.tup [.int (i : Nat), x])) h'' s.heap.objs.size (.tup [.int (i : Nat), x]) :=
      ⟨by show 2 ≤ sizeLine; decide, [.int i tk, y], .cons ⟨_, rfl⟩ (.cons ru .nil), ⟨_, hT2, rfl, _, rfl⟩⟩
    have I1 : Inv X pins σ (upd H s.heap.objs.size (.tup [.int (i : Nat), x])) { s with heap := h'', toks := tk + 1 } :=
      I.turnedNew (ch := [e, it]) (fun b ob hb q => (sb.2 b (fun z => hb (by simp [z]))).trans (hk b ob (fun z => hb (by simp [z])) (fun z => hb (by simp [z])) q)) hf (Nat.le_refl _) new
    refine ⟨.ref s.heap.objs.size, _, I1, rfl, ⟨_, x, rfl, I.hok.fresh (Nat.le_refl _), rfl, fun ys hy => by rw [I.tuple_inj hy hq]; exact hx⟩, ⟨⟨y, ?_⟩, hit'.at fun o q => (sb.2 it (Ne.symm hne)).trans q, hne, hai, hea⟩, fun b hb => ?_⟩
    · have e1 : ((i + 1 : Nat) : Int) = (i : Int) + 1 := by omega
      rw [e1]; exact he'
    · have hb' : b < s.heap.objs.size := by
        have e' : b = e ∨ b = it := by simpa using hb
        rcases e' with z | z
        · rw [z]; exact hel
        · rw [z]; exact hil
      rw [upd_ne (Nat.ne_of_lt hb')]
      exact (hf b hb).1
  done := by
    intro X hP hw hK hc i pins s σ H E I hf st hg
    subst hP hw hK
    obtain ⟨⟨old, he⟩, hit, hne, hai, hea⟩ := st
    obtain ⟨xs, hq, hx⟩ := hg
    obtain ⟨its, rv, p, hz⟩ := I.tuple hq
    obtain ⟨f0, f1, f2, f3, f4, f5⟩ := hf it (by simp)
    have hl := rv.length
    exact wpAny_pyNext_enum_endT (I.ok.hd hc) he hit p (by simp; omega) fun h' eb => ⟨rfl, I.turned (t' := s.toks) (fun b o hb q => eb b o hb q) f0 f1 f3 f4 f5⟩
  self := fun A i s Q E st h => let ⟨⟨_, he⟩, _⟩ := st; wpAny_pyIter_enum he h
def iEnumT (K : PySem.W.Frag) (ta : TA) : TI := fun σ H R => ta σ H fun vs H1 => ∃ a xs, vs = [.ref a] ∧ SqT K H1 a xs ∧ R (IteT K a) H1
theorem pi_enumT {X : Cx} {e : Expr} {ta : TA} {p pos tpos : Pos} {elts : List Expr} {kk : Nat} (hg : Gl X "enumerate") (hm : X.mg "enumerate" = none) (ha : PA X [e] ta) (hs : starEach [e] X.env = [(false, eval e X.env)] := by rfl) :
    PI X (.Tuple elts kk tpos) (.Call (.Name "enumerate" p) [e] [] pos) (iEnumT X.K ta) := by
  refine ⟨fun pins s σ H R I h => ?_⟩
  refine Call_ (ld_blt I hg hm boot_enumerate (PyProof.Rows.callWith_type1 (thn (ha.run pos pins s σ H _ I h) fun us s1 ⟨vs, H1, I1, r1, q1⟩ => ?_) hs rfl))
  obtain ⟨a, xs, ex, hq, q⟩ := q1
  subst ex
  cases r1 with
  | cons r rr =>
    cases rr
    cases r
    obtain ⟨its, rv, p', hz⟩ := I1.tuple hq
    refine enum_begins1 (begins_tuple a its.toArray) p' fun h' he hit hsz hk => wpAny_pyIter_enum he ?_
    have I2 : Inv X pins σ H1 { s1 with heap := h' } := I1.kept (t' := s1.toks) hk
    have hal : a < s1.heap.objs.size := by
      obtain ⟨o, ho, _⟩ := p'
      exact Heap.lt_size ho
    refine ⟨s1.heap.objs.size + 1, [s1.heap.objs.size + 1, s1.heap.objs.size], _, _, H1, rfl, I2, turn_enumT a (s1.heap.objs.size + 1) s1.heap.objs.size, ⟨⟨.none, he⟩, ⟨_, hit, rfl, rfl⟩, Nat.succ_ne_self _, Nat.ne_of_lt hal, Nat.ne_of_gt (Nat.lt_succ_of_lt hal)⟩, fun b hb => ?_, q⟩
    have e' : b = s1.heap.objs.size + 1 ∨ b = s1.heap.objs.size := by simpa using hb
    have hle : s1.heap.objs.size ≤ b := by
      rcases e' with z | z
      · rw [z]; exact Nat.le_add_right _ _
      · rw [z]; exact Nat.le_refl _
    exact I1.fpOk hle (I1.hok.fresh hle)
end L2
namespace Wk
open PySem PySem.Spec L2 Evl
section
variable {K : Fg} {F Kn0 : Hp} {sl sl' : List Sl} {ow ow1 : List Ow} {α β : Type} [Rp α] [Rp β] {te : TE} {ta : TA} {i j : Nat} {p : Addr}
theorem wk_enumT {Kn1 : Hp} {p : Addr} {ws : List V} {xs : List α} (h : SqT K Kn1 p ws) (r : Paired (rep K Kn1) ws xs) : WK K Kn1 (IteT K p) (enumI xs) := fun i Kn' H' e1 e2 => by
  have hq : SqT K H' p ws := ex_t (e1.trans e2) h
  refine ⟨fun y hy => ?_, fun hl => ⟨ws, hq, by rw [paired_len r]; simpa [enumI] using hl⟩⟩
  obtain ⟨x, hx, rfl⟩ := enum_get hy
  obtain ⟨v, hv, rv⟩ := paired_at r hx
  refine ⟨⟨ws, v, hq, hv⟩, fun u H2 hy => ?_⟩
  obtain ⟨T, z, rfl, hT, rfl, f⟩ := hy
  have : v = z := Option.some.inj (hv.symm.trans (f ws hq))
  subst this
  have g : Gr Kn' H' (upd Kn' T (.tup [.int (i : Nat), v])) (upd H' T (.tup [.int (i : Nat), v])) := Gr.new e2 hT
  exact ⟨_, g, T, _, rfl, upd_same, .int (i : Nat), [v], rfl, rfl, v, [], rfl, Rp.mono (e1.trans g.kk) rv, rfl⟩
theorem it_enumT {xs : Tu α} (h : EA K F Kn0 sl ow ta (xs, ())) : IT K F Kn0 sl ow (iEnumT K ta) (enumI xs.l) := fun σ Kn H s R q => h σ Kn H s _ fun vs Kn1 H1 g1 r1 => by
  obtain ⟨v, rfl, p, ws, rfl, h3, h4⟩ := one_arg r1
  exact ⟨p, ws, rfl, st_of (g1.kh _ _ h3), q _ Kn1 H1 g1 (wk_enumT (st_of h3) h4)⟩
/-- tuple(xs), xs one's own -/
theorem ev_tupleO {xs : List α} (hi : sl[i]? = some (.at p)) (hj : ow[j]? = some (ol p xs)) :
    EV K F Kn0 sl ow (tCB (fun xs H Q => ∃ p ys, xs = [.ref p] ∧ ((SqL K H p ys ∧ ∀ l, H l = none → Q (.ref l) (upd H l (.tup ys))) ∨ (SqT K H p ys ∧ Q (.ref p) H))) (tCons (tVar i) tNil)) (Tu.mk xs) := fun σ Kn H s Q q => by
  obtain ⟨o, h1, h2⟩ := s.sl.get hi
  obtain ⟨f1, f2, ws, f3, f4⟩ := s.ow.each _ (List.mem_of_getElem? hj)
  refine ⟨.ref p, by rw [h1]; exact congrArg some h2, p, ws, rfl, .inl ⟨sq_of f3, fun l hl => ?_⟩⟩
  have g : Gr Kn H (upd Kn l (.tup ws)) (upd H l (.tup ws)) := Gr.new s.ek hl
  exact q _ _ _ g ⟨l, ws, rfl, upd_same, paired_mono g.kk f4⟩
end
end Wk
set_option synthInstance.maxHeartbeats 400000
set_option synthInstance.maxSize 2000
/-! the mirrors of k60, printed by gen.py -/
namespace Wk60
open PySem L2 Wk
noncomputable def m_flat_L2 (word_4 : (Tu Str)) : (Int × Str × Unit) → ((List (Str × Bool × Unit))) → Option ((List (Str × Bool × Unit))) := fun (k_11, piece_12, _) told_10 =>
  (appO told_10 (piece_12, (decide ((k_11 + (1 : Int)) < (word_4.l.length : Int))), ())).bind fun told_18 =>
  some told_18
noncomputable def m_flat_L1 : (Tu Str) → ((List (Str × Bool × Unit))) → Option ((List (Str × Bool × Unit))) := fun word_4 told_3 =>
  (forS (m_flat_L2 word_4) (enumI word_4.l) told_3).bind fun told_19 =>
  some told_19
noncomputable def m_flat (words_1 : (Tu (Tu Str))) : Option (List (Str × Bool × Unit)) :=
  (some ([] : List (Str × Bool × Unit))).bind fun told_2 =>
  (forS (m_flat_L1) words_1.l told_2).bind fun told_21 =>
  some told_21
noncomputable def m_text_of_L1 (pieces_28 : (List (Str × Bool × Unit))) : (Int × (Str × Bool × Unit) × Unit) → (Str) → Option (Str) := fun (k_30, (piece_31, joint_32, _), _) text_29 =>
  (addS text_29 piece_31).bind fun t_38 =>
  (some t_38).bind fun text_39 =>
  ((if (joint_32 && (decide ((k_30 + (1 : Int)) = (pieces_28.length : Int)))) = true then ((addS text_39 ("-" : Str)).bind fun t_42 =>
  (some t_42).bind fun text_43 =>
  some text_43) else (some text_39))).bind fun text_44 =>
  (if ((!joint_32) && (decide ((k_30 + (1 : Int)) < (pieces_28.length : Int)))) = true then ((addS text_44 (" " : Str)).bind fun t_49 =>
  (some t_49).bind fun text_50 =>
  some text_50) else (some text_44))
noncomputable def m_text_of (words_23 : (Tu (Tu Str))) (first_24 : Int) (till_25 : Int) : Option Str :=
  (some ("" : Str)).bind fun text_26 =>
  (m_flat words_23).bind fun r_27 =>
  (some (cut r_27 (some first_24) (some till_25))).bind fun pieces_28 =>
  (forS (m_text_of_L1 pieces_28) (enumI pieces_28) text_26).bind fun text_51 =>
  some text_51
noncomputable def m_width_at (widths_53 : (List Int)) (row_54 : Int) : Option Int :=
  (atI widths_53 (min row_54 ((widths_53.length : Int) - (1 : Int)))).bind fun i_55 =>
  some i_55
noncomputable def m_row_cost (words_56 : (Tu (Tu Str))) (joint_57 : Int) (widths_58 : (List Int)) (triple_59 : (Int × Int × Int × Unit)) : Option Int :=
  (some triple_59).bind fun (row_60, first_61, till_62, _) =>
  (m_width_at widths_58 row_60).bind fun r_63 =>
  (m_text_of words_56 first_61 till_62).bind fun r_64 =>
  (lenS r_64).bind fun n_65 =>
  (some (r_63 - n_65)).bind fun lack_66 =>
  (mulO lack_66 lack_66).bind fun m_67 =>
  (some m_67).bind fun cost_68 =>
  (m_flat words_56).bind fun r_70 =>
  (atI r_70 (till_62 - (1 : Int))).bind fun i_71 =>
  ((if i_71.2.1 = true then ((some (cost_68 + joint_57)).bind fun cost_73 =>
  some cost_73) else (some cost_68))).bind fun cost_74 =>
  some cost_74
noncomputable def m__law_cell_at (script_76 : (Fz Int)) (k_77 : Int) : Option Int :=
  (if (decide (k_77 < (script_76.l.length : Int))) = true then ((atI script_76.l k_77).bind fun i_81 =>
  some i_81) else (some (0 : Int)))
noncomputable def m__law_numbers_L1 : Int → (Int × (List Int)) → Option (Int × (List Int)) := fun k_92 (number_90, found_91) =>
  (appO found_91 (number_90 % (5040 : Int))).bind fun found_98 =>
  (some (number_90 / (5040 : Int))).bind fun number_99 =>
  some (number_99, found_98)
noncomputable def m__law_numbers_L2 : Int → (Int × (List Int)) → Option (Int × (List Int)) := fun k_107 (number_105, found_106) =>
  (some ((((number_105 + k_107) + (1 : Int)) * (48271 : Int)) % (2147483647 : Int))).bind fun number_113 =>
  (appO found_106 ((number_113 * (69621 : Int)) % (2147483629 : Int))).bind fun found_114 =>
  some (number_113, found_114)
noncomputable def m__law_numbers (cell_82 : Int) (many_83 : Int) : Option (List Int) :=
  (some ([] : List Int)).bind fun found_84 =>
  (some (cell_82 - (1000000000000000000 : Int))).bind fun number_85 =>
  (if (decide ((0 : Int) ≤ number_85)) = true then ((rngO 0 many_83).bind fun rg_89 =>
  (forS (m__law_numbers_L1) rg_89 (number_85, found_84)).bind fun (number_100, found_101) =>
  some found_101) else ((some (cell_82 % (2147483647 : Int))).bind fun number_103 =>
  (rngO 0 (many_83 + (1 : Int))).bind fun rg_104 =>
  (forS (m__law_numbers_L2) rg_104 (number_103, found_84)).bind fun (number_115, found_116) =>
  some (cut found_116 (some (1 : Int)) none)))
noncomputable def m__law_piece (number_118 : Int) : Option Str :=
  (some ("abcdefghijklmnopqrstuvwxyzABCXYZ0189.,;:!?'()-+=<>#&*/~_$\u0040[]{}^" : Str)).bind fun signs_119 =>
  (rngO 0 ((1 : Int) + (number_118 % (12 : Int)))).bind fun rg_120 =>
  (lcM (fun _ => some true) (fun k_121 => ((mulO k_121 k_121).bind fun m_123 => (lenS signs_119).bind fun n_124 => (modO ((number_118 / (12 : Int)) + m_123) n_124).bind fun r_125 => (ixS signs_119 r_125).bind fun i_126 => some i_126)) rg_120).bind fun zs_122 =>
  (joinO ("" : Str) zs_122).bind fun j_127 =>
  some j_127
noncomputable def m__law_words_L1 : Int → ((List Str) × (List (Tu Str))) → Option ((List Str) × (List (Tu Str))) := fun cell_134 (word_132, words_here_133) =>
  (m__law_numbers cell_134 (2 : Int)).bind fun r_140 =>
  (some r_140).bind fun some_141 =>
  (atI some_141 (0 : Int)).bind fun i_142 =>
  (m__law_piece i_142).bind fun r_143 =>
  (appO word_132 r_143).bind fun word_144 =>
  (atI some_141 (1 : Int)).bind fun i_146 =>
  (if ((decide ((i_146 % (2 : Int)) = (0 : Int))) || (decide ((word_144.length : Int) = (6 : Int)))) = true then ((appO words_here_133 (Tu.mk word_144)).bind fun words_here_149 =>
  (some ([] : List Str)).bind fun word_150 =>
  some (word_150, words_here_149)) else (some (word_144, words_here_133)))
noncomputable def m__law_words (cells_128 : (List Int)) : Option (Tu (Tu Str)) :=
  (some ([] : List (Tu Str))).bind fun words_here_129 =>
  (some ([] : List Str)).bind fun word_130 =>
  (forS (m__law_words_L1) cells_128 (word_130, words_here_129)).bind fun (word_151, words_here_152) =>
  ((if (decide ((0 : Int) < (word_151.length : Int))) = true then ((appO words_here_152 (Tu.mk word_151)).bind fun words_here_156 =>
  some words_here_156) else (some words_here_152))).bind fun words_here_157 =>
  some (Tu.mk words_here_157)
noncomputable def m__law_text_L2 (first_160 : Int) (till_161 : Int) (word_166 : (Tu Str)) : (Int × Str × Unit) → (Str × Int) → Option (Str × Int) := fun (k_174, piece_here_175, _) (text_here_172, place_173) =>
  ((if ((decide (first_160 ≤ place_173)) && (decide (place_173 < till_161))) = true then ((addS text_here_172 piece_here_175).bind fun t_183 =>
  (some t_183).bind fun text_here_184 =>
  ((if ((decide ((place_173 + (1 : Int)) = till_161)) && (decide ((k_174 + (1 : Int)) < (word_166.l.length : Int)))) = true then ((addS text_here_184 ("-" : Str)).bind fun t_187 =>
  (some t_187).bind fun text_here_188 =>
  some text_here_188) else (some text_here_184))).bind fun text_here_189 =>
  (if ((decide ((place_173 + (1 : Int)) < till_161)) && (decide ((k_174 + (1 : Int)) = (word_166.l.length : Int)))) = true then ((addS text_here_189 (" " : Str)).bind fun t_194 =>
  (some t_194).bind fun text_here_195 =>
  some text_here_195) else (some text_here_189))) else (some text_here_172))).bind fun text_here_196 =>
  (some (place_173 + (1 : Int))).bind fun place_198 =>
  some (text_here_196, place_198)
noncomputable def m__law_text_L1 (first_160 : Int) (till_161 : Int) : (Tu Str) → (Str × Int) → Option (Str × Int) := fun word_166 (text_here_164, place_165) =>
  (forS (m__law_text_L2 first_160 till_161 word_166) (enumI word_166.l) (text_here_164, place_165)).bind fun (text_here_199, place_200) =>
  some (text_here_199, place_200)
noncomputable def m__law_text (words_here_159 : (Tu (Tu Str))) (first_160 : Int) (till_161 : Int) : Option Str :=
  (some ("" : Str)).bind fun text_here_162 =>
  (some (0 : Int)).bind fun place_163 =>
  (forS (m__law_text_L1 first_160 till_161) words_here_159.l (text_here_162, place_163)).bind fun (text_here_202, place_203) =>
  some text_here_202
noncomputable def m__law_joints_L1 : (Tu Str) → ((List Bool)) → Option ((List Bool)) := fun word_208 joints_here_207 =>
  (repO ([true] : List Bool) ((word_208.l.length : Int) - (1 : Int))).bind fun rep_214 =>
  (catO joints_here_207 rep_214).bind fun cat_215 =>
  (catO cat_215 ([false] : List Bool)).bind fun cat_216 =>
  (some cat_216).bind fun joints_here_217 =>
  some joints_here_217
noncomputable def m__law_joints (words_here_205 : (Tu (Tu Str))) : Option (List Bool) :=
  (some ([false] : List Bool)).bind fun joints_here_206 =>
  (forS (m__law_joints_L1) words_here_205.l joints_here_206).bind fun joints_here_218 =>
  some joints_here_218
noncomputable def m_law_L1 (words_here_222 : (Tu (Tu Str))) (joints_here_224 : (List Bool)) (many_225 : Int) (joint_230 : Int) (widths_238 : (List Int)) (held_239 : (List Int)) : Int → (Unit) → Option (Ctl (Unit) Bool) := fun cell_240 _ =>
  (modO cell_240 many_225).bind fun r_246 =>
  (some r_246).bind fun first_247 =>
  (modO (cell_240 / (64 : Int)) (many_225 - first_247)).bind fun r_248 =>
  (some ((first_247 + (1 : Int)) + r_248)).bind fun till_249 =>
  (some ((cell_240 / (4096 : Int)) % (60 : Int))).bind fun row_250 =>
  (m__law_text words_here_222 first_247 till_249).bind fun r_251 =>
  (some r_251).bind fun text_here_252 =>
  (m_text_of words_here_222 first_247 till_249).bind fun r_254 =>
  (if (!decide (r_254 = text_here_252)) = true then (some (Ctl.rt false)) else ((atI widths_238 (min row_250 ((widths_238.length : Int) - (1 : Int)))).bind fun i_257 =>
  (some i_257).bind fun width_258 =>
  (m_row_cost words_here_222 joint_230 held_239 (row_250, first_247, till_249, ())).bind fun r_259 =>
  (some r_259).bind fun cost_260 =>
  (lenS text_here_252).bind fun n_261 =>
  (powO (width_258 - n_261) (2 : Int)).bind fun w_262 =>
  (atI joints_here_224 till_249).bind fun i_263 =>
  (mulO joint_230 (if i_263 = true then (1 : Int) else 0)).bind fun m_264 =>
  (some (w_262 + m_264)).bind fun due_265 =>
  (if (false || (!decide (cost_260 = due_265))) = true then (some (Ctl.rt false)) else (some (Ctl.nx ())))))
noncomputable def m_law (script_220 : (Fz Int)) : Option Bool :=
  (m__law_words (cut script_220.l (some (2 : Int)) (some (42 : Int)))).bind fun r_221 =>
  (some r_221).bind fun words_here_222 =>
  (m__law_joints words_here_222).bind fun r_223 =>
  (some r_223).bind fun joints_here_224 =>
  (some ((joints_here_224.length : Int) - (1 : Int))).bind fun many_225 =>
  (m__law_cell_at script_220 (0 : Int)).bind fun r_226 =>
  (m__law_numbers r_226 (6 : Int)).bind fun r_227 =>
  (some r_227).bind fun some_228 =>
  (atI some_228 (0 : Int)).bind fun i_229 =>
  (some (i_229 % (1000 : Int))).bind fun joint_230 =>
  (atI some_228 (1 : Int)).bind fun i_231 =>
  (rngO 0 (i_231 % (4 : Int))).bind fun rg_232 =>
  (lcM (fun _ => some true) (fun k_233 => ((atI some_228 ((2 : Int) + k_233)).bind fun i_235 => some (i_235 % (100 : Int)))) rg_232).bind fun zs_234 =>
  (some zs_234).bind fun widths_236 =>
  (atI some_228 (5 : Int)).bind fun i_237 =>
  (appO widths_236 ((1 : Int) + (i_237 % (100 : Int)))).bind fun widths_238 =>
  (some widths_238).bind fun held_239 =>
  (forC (m_law_L1 words_here_222 joints_here_224 many_225 joint_230 widths_238 held_239) (cut script_220.l (some (2 : Int)) (some (42 : Int))) ()).bind fun tot_245 => match tot_245 with
  | .nx _ => some (decide (held_239 = widths_238))
  | .bk _ => none
  | .rt r_ => some r_
end Wk60
set_option synthInstance.maxHeartbeats 400000
set_option synthInstance.maxSize 2000
/-! the walks of k60, printed by gen.py -/
namespace Wk60
open PySem L2 Wk
def topS (i : Nat) : Stmt := PySem.Challenge.pw_boxgalley_k60_texts_and_costs_of_rows.main.body.getD i (.Pass ⟨0, 0, 0, 0⟩)
abbrev s_flat : Stmt := topS 1
abbrev s_text_of : Stmt := topS 2
abbrev s_width_at : Stmt := topS 3
abbrev s_row_cost : Stmt := topS 4
abbrev s__law_cell_at : Stmt := topS 6
abbrev s__law_numbers : Stmt := topS 7
abbrev s__law_piece : Stmt := topS 8
abbrev s__law_words : Stmt := topS 9
abbrev s__law_text : Stmt := topS 10
abbrev s__law_joints : Stmt := topS 11
abbrev s_law : Stmt := topS 12
structure TX (K : Fg) (mg : Str → Option Value) where
  a_flat : Addr
  d_flat : FuncData
  F_flat : Fun K "flat" "flat" s_flat a_flat d_flat
  b_flat : Binds K d_flat ["words"] []
  g_flat : mg "flat" = some (.ref a_flat)
  a_text_of : Addr
  d_text_of : FuncData
  F_text_of : Fun K "text_of" "text_of" s_text_of a_text_of d_text_of
  b_text_of : Binds K d_text_of ["words", "first", "till"] []
  g_text_of : mg "text_of" = some (.ref a_text_of)
  a_width_at : Addr
  d_width_at : FuncData
  F_width_at : Fun K "width_at" "width_at" s_width_at a_width_at d_width_at
  b_width_at : Binds K d_width_at ["widths", "row"] []
  g_width_at : mg "width_at" = some (.ref a_width_at)
  a_row_cost : Addr
  d_row_cost : FuncData
  F_row_cost : Fun K "row_cost" "row_cost" s_row_cost a_row_cost d_row_cost
  b_row_cost : Binds K d_row_cost ["words", "joint", "widths", "triple"] []
  g_row_cost : mg "row_cost" = some (.ref a_row_cost)
  a__law_cell_at : Addr
  d__law_cell_at : FuncData
  F__law_cell_at : Fun K "_law_cell_at" "_law_cell_at" s__law_cell_at a__law_cell_at d__law_cell_at
  b__law_cell_at : Binds K d__law_cell_at ["_law_script", "_law_k"] []
  g__law_cell_at : mg "_law_cell_at" = some (.ref a__law_cell_at)
  a__law_numbers : Addr
  d__law_numbers : FuncData
  F__law_numbers : Fun K "_law_numbers" "_law_numbers" s__law_numbers a__law_numbers d__law_numbers
  b__law_numbers : Binds K d__law_numbers ["_law_cell", "_law_many"] []
  g__law_numbers : mg "_law_numbers" = some (.ref a__law_numbers)
  a__law_piece : Addr
  d__law_piece : FuncData
  F__law_piece : Fun K "_law_piece" "_law_piece" s__law_piece a__law_piece d__law_piece
  b__law_piece : Binds K d__law_piece ["_law_number"] []
  g__law_piece : mg "_law_piece" = some (.ref a__law_piece)
  a__law_words : Addr
  d__law_words : FuncData
  F__law_words : Fun K "_law_words" "_law_words" s__law_words a__law_words d__law_words
  b__law_words : Binds K d__law_words ["_law_cells"] []
  g__law_words : mg "_law_words" = some (.ref a__law_words)
  a__law_text : Addr
  d__law_text : FuncData
  F__law_text : Fun K "_law_text" "_law_text" s__law_text a__law_text d__law_text
  b__law_text : Binds K d__law_text ["_law_words_here", "_law_first", "_law_till"] []
  g__law_text : mg "_law_text" = some (.ref a__law_text)
  a__law_joints : Addr
  d__law_joints : FuncData
  F__law_joints : Fun K "_law_joints" "_law_joints" s__law_joints a__law_joints d__law_joints
  b__law_joints : Binds K d__law_joints ["_law_words_here"] []
  g__law_joints : mg "_law_joints" = some (.ref a__law_joints)
  a_law : Addr
  d_law : FuncData
  F_law : Fun K "law" "law" s_law a_law d_law
  b_law : Binds K d_law ["_law_script"] []
  g_law : mg "law" = some (.ref a_law)
  z_bool : mg "bool" = none
  z_enumerate : mg "enumerate" = none
  z_int : mg "int" = none
  z_isinstance : mg "isinstance" = none
  z_len : mg "len" = none
  z_list : mg "list" = none
  z_min : mg "min" = none
  z_range : mg "range" = none
  z_tuple : mg "tuple" = none
def spLaw (K : Fg) : Sp := fun vs H Q _ => ∃ (a : Addr) (ns : List Int), vs = [.ref a] ∧ SqL K H a (ns.map V.int) ∧ ns.length ≤ 63 ∧ ∀ H', Q (.bl true) H'
theorem fn_weak {P : Program} {w : World} {K : Fg} {mg : Str → Option Value} {base : Heap} {k : Nat} {f : Addr} {fd : FuncData} {m : Fz Int → Option Bool}
    (h : FnOk P w K mg base CX0 k f fd ["_law_script"] (PF (τ := Fz Int × Unit) K fun t => m t.1)) (main : ∀ ns : List Int, ns.length ≤ 63 → m (Fz.mk ns) = some true) : FnOk P w K mg base CX0 k f fd ["_law_script"] (spLaw K) :=
  h.imp fun vs H Q E hh => by
    obtain ⟨a, ns, rfl, hs, hl, q⟩ := hh
    exact ⟨H, (Fz.mk ns, ()), true, Evl.Ex.refl _, ⟨.ref a, [], rfl, ⟨a, ns.map V.int, rfl, hs, fl_paired ns⟩, rfl⟩, main ns hl, fun u Kn' H' g r => by cases r; exact q H'⟩
section
variable {P : Program} {w : World} {K : Fg} {mg : Str → Option Value} {base : Heap}
theorem sc_flat : FnScope ["words", "told", "word", "k", "piece"] ["words"] (defScope s_flat) := ⟨rfl, rfl, rfl, by decide +kernel, rfl, by decide +kernel, by decide +kernel⟩
set_option maxHeartbeats 4000000 in
theorem ok_flat (T : TX K mg) : FnOk P w K mg base CX0 1 T.a_flat T.d_flat ["words"] (PL (τ := (Tu (Tu Str)) × Unit) K (fun t => m_flat t.1)) := by
  refine T.F_flat.ok sc_flat (fun vs H Q E h => ?_) (fun cdv A outer s H vs Q E hr h => ?_)
  · obtain ⟨Kn, t, r, ek, h, hf, q⟩ := h
    exact Tp.len h
  · obtain ⟨Kn, t, r_, ek, h, hf, q⟩ := h
    obtain ⟨words_1, u_⟩ := t
    obtain ⟨v_0, rr_, rfl, hv_0, h⟩ := h
    obtain rfl := h
    replace hf : m_flat words_1 = some r_ := hf
    unfold m_flat at hf
    refine ⟨_, (pss_cons (ps_set (i := 1) sc_flat.nd rfl (.inl rfl) (pe_lst pa_nil))
      (pss_cons (ps_for PassesOwn.never rfl (kpi_tup (pv 0)) (pg_name (i := 2) sc_flat.nd rfl (.inl rfl)) (pss_one (ps_for PassesOwn.never rfl (pi_enumT (by rfl) T.z_enumerate (pa_cons (pv 2) pa_nil)) (kpg_tup (pgs_cons (pg_name (i := 3) sc_flat.nd rfl (.inl rfl)) (pgs_cons (pg_name (i := 4) sc_flat.nd rfl (.inl rfl)) pgs_nil))) (pss_one (ps_expr (pe_bm PySem.F.plainAttrs_list PySem.F.slot_list_append PySem.F.type_list_append mt_append (pv 1) (pa_cons (pe_tup (pa_cons (pv 4) (pa_cons (pe_cmpR op_lt (pe_op op_add (pv 3) pe_int) (pe_callB k_len (by rfl) T.z_len PySem.boot_len (pa_cons (pv 2) pa_nil)) (nomark _)) pa_nil))) pa_nil)))))))
      (pss_one (ps_ret (pv 1))))), ?_⟩
    refine enter (Kn := Kn) (sl := [sv words_1, .any, .any, .any, .any]) ek ⟨⟨v_0, rfl, hv_0⟩, trivial, trivial, trivial, trivial, trivial⟩ ?_
    have q := rn_of q
    obtain ⟨told_2, h_told_2, hf⟩ := bind_some hf
    refine SB.seqB (fun kx_ => sb_asgO (sl' := fun p_told_2 => [sv words_1, .at p_told_2, .any, .any, .any]) (fun _ => rfl) (EN.cast (en_lst el_nil) (Option.some.inj h_told_2)) (fun p_told_2 => (kx_ _ _ ?_)))
    obtain ⟨told_21, h_tot_9, hf⟩ := bind_some hf
    refine SB.seqB (fun kx_22 => sb_for (β := (Tu Str)) (Sx := (List (Str × Bool × Unit))) (fun s => [sv words_1, .at p_told_2, .any, .any, .any]) (fun s => [ol p_told_2 s]) (fun x s => [sv words_1, .at p_told_2, sv x, .any, .any]) [2] (fun xs s => forS (m_flat_L1) xs s = some told_21) told_2 (IT.m (it_tup (ev_var (i := 0) rfl))) h_tot_9 (.keep (.keep (.keep (.keep (.keep .nil))))) (List.Sublist.refl _) (fun x s => (gt_name rfl)) ?_ ?_)
    · intro Kn1 b1 word_4 rest_ told_3 hP_6 N_ hN_5
      obtain ⟨c_, hc_7, hP_6⟩ := bind_some hP_6
      have q_8 := q.base b1
      unfold m_flat_L1 at hc_7
      refine SB.is (sl' := [sv words_1, .at p_told_2, sv word_4, .any, .any]) (ow1 := [ol p_told_2 told_3]) rfl rfl ?_
      obtain ⟨told_19, h_tot_17, hc_7⟩ := bind_some hc_7
      refine sb_for (β := (Int × Str × Unit)) (Sx := (List (Str × Bool × Unit))) (fun s => [sv words_1, .at p_told_2, sv word_4, .any, .any]) (fun s => [ol p_told_2 s]) (fun x s => [sv words_1, .at p_told_2, sv word_4, sv x.1, sv x.2.1]) [3, 4] (fun xs s => forS (m_flat_L2 word_4) xs s = some told_19) told_3 (IT.m (it_enumT (ea_cons (ev_var (i := 2) rfl) ea_nil))) h_tot_17 (.keep (.keep (.keep (.keep (.keep .nil))))) (List.Sublist.refl _) (fun x s => (gt_tup (gts_cons (gt_name rfl) (gts_cons (gt_name rfl) gts_nil)))) ?_ ?_
      · intro Kn1 b1 x_ rest_ told_10 hP_14 N_ hN_13
        obtain ⟨k_11, piece_12, _⟩ := x_
        obtain ⟨c_, hc_15, hP_14⟩ := bind_some hP_14
        have q_16 := q_8.base b1
        unfold m_flat_L2 at hc_15
        refine SB.is (sl' := [sv words_1, .at p_told_2, sv word_4, sv k_11, sv piece_12]) (ow1 := [ol p_told_2 told_10]) rfl rfl ?_
        obtain ⟨told_18, h_told_18, hc_15⟩ := bind_some hc_15
        refine sb_appO (i := 1) (j := 0) rfl rfl (ev_tup (ea_cons (ev_var (i := 4) rfl) (ea_cons (ev_op (ev_op (ev_var (i := 3) rfl) (ev_int 1) r2_add) (ev_cb (ea_cons (ev_var (i := 2) rfl) ea_nil) rc_lenT) r2_lt) ea_nil))) h_told_18 (ow1 := [ol p_told_2 told_18]) rfl ?_
        cases hc_15
        exact fun σ Kn H s => hN_13 _ hP_14 σ Kn H ((s.le (.keep (.keep (.keep (.drop (.drop .nil)))))).sub (List.Sublist.refl _))
      · intro s_ h0
        cases h0
        show SN _ _ _ [sv words_1, .at p_told_2, sv word_4, .any, .any] [ol p_told_2 told_19] _
        cases hc_7
        exact fun σ Kn H s => hN_5 _ hP_6 σ Kn H ((s.le (.keep (.keep (.drop (.keep (.keep .nil)))))).sub (List.Sublist.refl _))
    · intro s_ h0
      cases h0
      refine kx_22 _ _ ?_
      refine SB.is (sl' := [sv words_1, .at p_told_2, .any, .any, .any]) (ow1 := [ol p_told_2 told_21]) rfl rfl ?_
      cases hf
      exact sb_retO (i := 1) (j := 0) rfl rfl q (List.Sublist.cons _ List.Sublist.slnil)
theorem sc_text_of : FnScope ["words", "first", "till", "text", "pieces", "k", "piece", "joint"] ["words", "first", "till"] (defScope s_text_of) := ⟨rfl, rfl, rfl, by decide +kernel, rfl, by decide +kernel, by decide +kernel⟩
set_option maxHeartbeats 4000000 in
theorem ok_text_of (T : TX K mg) : FnOk P w K mg base CX0 2 T.a_text_of T.d_text_of ["words", "first", "till"] (PF (τ := (Tu (Tu Str)) × Int × Int × Unit) K (fun t => m_text_of t.1 t.2.1 t.2.2.1)) := by
  refine T.F_text_of.ok sc_text_of (fun vs H Q E h => ?_) (fun cdv A outer s H vs Q E hr h => ?_)
  · obtain ⟨Kn, t, r, ek, h, hf, q⟩ := h
    exact Tp.len h
  · obtain ⟨Kn, t, r_, ek, h, hf, q⟩ := h
    obtain ⟨words_23, first_24, till_25, u_⟩ := t
    obtain ⟨v_0, rr_, rfl, hv_0, h⟩ := h
    obtain ⟨v_1, rr_, rfl, hv_1, h⟩ := h
    obtain ⟨v_2, rr_, rfl, hv_2, h⟩ := h
    obtain rfl := h
    replace hf : m_text_of words_23 first_24 till_25 = some r_ := hf
    unfold m_text_of at hf
    refine ⟨_, (pss_cons (ps_set (i := 3) sc_text_of.nd rfl (.inl rfl) pe_str)
      (pss_cons (ps_set (i := 4) sc_text_of.nd rfl (.inl rfl) (pe_slice k_sll (pe_call (ok_flat T) hr (by rfl) T.g_flat T.F_flat.kp T.b_flat .nil pass0 (pa_cons (pv 0) pa_nil)) (po_some (pv 1)) (po_some (pv 2))))
      (pss_cons (ps_for PassesOwn.never rfl (pi_enum (by rfl) T.z_enumerate (pa_cons (pv 4) pa_nil)) (kpg_tup (pgs_cons (pg_name (i := 5) sc_text_of.nd rfl (.inl rfl)) (pgs_cons (kpg_tup (pgs_cons (pg_name (i := 6) sc_text_of.nd rfl (.inl rfl)) (pgs_cons (pg_name (i := 7) sc_text_of.nd rfl (.inl rfl)) pgs_nil))) pgs_nil))) (pss_cons (ps_set (i := 3) sc_text_of.nd rfl (.inl rfl) (pe_op op_add_str (pv 3) (pv 6)))
      (Evl.pss_cut (ps_if (PW.pt (pw_and (pt_val (pv 7)) (pw_and1 (pt_cmpR op_eq (pe_op op_add (pv 5) pe_int) (pe_callB k_len (by rfl) T.z_len PySem.boot_len (pa_cons (pv 4) pa_nil)) (nomark _))))) (pss_one (ps_set (i := 3) sc_text_of.nd rfl (.inl rfl) (pe_op op_add_str (pv 3) pe_str))) pss_nil)
      (pss_one (ps_if (PW.pt (pw_and (pt_not (pt_val (pv 7))) (pw_and1 (pt_cmpR op_lt (pe_op op_add (pv 5) pe_int) (pe_callB k_len (by rfl) T.z_len PySem.boot_len (pa_cons (pv 4) pa_nil)) (nomark _))))) (pss_one (ps_set (i := 3) sc_text_of.nd rfl (.inl rfl) (pe_op op_add_str (pv 3) pe_str))) pss_nil)))))
      (pss_one (ps_ret (pv 3)))))), ?_⟩
    refine enter (Kn := Kn) (sl := [sv words_23, sv first_24, sv till_25, .any, .any, .any, .any, .any]) ek ⟨⟨v_0, rfl, hv_0⟩, ⟨v_1, rfl, hv_1⟩, ⟨v_2, rfl, hv_2⟩, trivial, trivial, trivial, trivial, trivial, trivial⟩ ?_
    have q := rt_of q
    obtain ⟨text_26, h_text_26, hf⟩ := bind_some hf
    refine SB.seqB (fun kx_ => sb_asg (sl' := [sv words_23, sv first_24, sv till_25, sv text_26, .any, .any, .any, .any]) rfl (EV.cast (ev_str ("" : Str)) (Option.some.inj h_text_26)) (kx_ _ _ ?_))
    obtain ⟨r_27, h_r_27, hf⟩ := bind_some hf
    obtain ⟨pieces_28, h_pieces_28, hf⟩ := bind_some hf
    refine SB.seqB (fun kx_ => sb_asg (sl' := [sv words_23, sv first_24, sv till_25, sv text_26, sv pieces_28, .any, .any, .any]) rfl (EV.cast (EN.ev (en_sl (EN.ev (en_call (ea_cons (ev_var (i := 0) rfl) ea_nil) h_r_27)) (eo_some (ev_var (i := 1) rfl)) (eo_some (ev_var (i := 2) rfl)))) (Option.some.inj h_pieces_28)) (kx_ _ _ ?_))
    obtain ⟨text_51, h_tot_37, hf⟩ := bind_some hf
    refine SB.seqB (fun kx_52 => sb_for (β := (Int × (Str × Bool × Unit) × Unit)) (Sx := Str) (fun s => [sv words_23, sv first_24, sv till_25, sv s, sv pieces_28, .any, .any, .any]) (fun s => []) (fun x s => [sv words_23, sv first_24, sv till_25, sv s, sv pieces_28, sv x.1, sv x.2.1.1, sv x.2.1.2.1]) [5, 6, 7] (fun xs s => forS (m_text_of_L1 pieces_28) xs s = some text_51) text_26 (IT.m (it_enum (ea_cons (ev_var (i := 4) rfl) ea_nil))) h_tot_37 (.keep (.keep (.keep (.keep (.keep (.keep (.keep (.keep .nil)))))))) (List.Sublist.refl _) (fun x s => (gt_tup (gts_cons (gt_name rfl) (gts_cons (gt_tup (gts_cons (gt_name rfl) (gts_cons (gt_name rfl) gts_nil))) gts_nil)))) ?_ ?_)
    · intro Kn1 b1 x_ rest_ text_29 hP_34 N_ hN_33
      obtain ⟨k_30, ⟨piece_31, joint_32, _⟩, _⟩ := x_
      obtain ⟨c_, hc_35, hP_34⟩ := bind_some hP_34
      have q_36 := q.base b1
      unfold m_text_of_L1 at hc_35
      refine SB.is (sl' := [sv words_23, sv first_24, sv till_25, sv text_29, sv pieces_28, sv k_30, sv piece_31, sv joint_32]) (ow1 := []) rfl rfl ?_
      obtain ⟨t_38, h_t_38, hc_35⟩ := bind_some hc_35
      obtain ⟨text_39, h_text_39, hc_35⟩ := bind_some hc_35
      refine SB.seqB (fun kx_ => sb_asg (sl' := [sv words_23, sv first_24, sv till_25, sv text_39, sv pieces_28, sv k_30, sv piece_31, sv joint_32]) rfl (EV.cast (ev_op (ev_var (i := 3) rfl) (ev_var (i := 6) rfl) (r2_addS h_t_38)) (Option.some.inj h_text_39)) (kx_ _ _ ?_))
      obtain ⟨text_44, hj_40, hc_35⟩ := bind_some hc_35
      refine SB.cutB (sl' := [sv words_23, sv first_24, sv till_25, sv text_44, sv pieces_28, sv k_30, sv piece_31, sv joint_32]) (ow1 := []) (fun km_45 => sb_if (b := (joint_32 && (decide ((k_30 + (1 : Int)) = (pieces_28.length : Int))))) (et_and (et_B (ev_var (i := 7) rfl)) (fun _ => (et_test (ev_op (ev_op (ev_var (i := 5) rfl) (ev_int 1) r2_add) (ev_cb (ea_cons (ev_var (i := 4) rfl) ea_nil) rc_len) r2_eqI)))) (fun hb_41 => ?_) (fun hb_41 => ?_)) ?_
      · have hj_40 := ite_t hb_41 hj_40
        obtain ⟨t_42, h_t_42, hj_40⟩ := bind_some hj_40
        obtain ⟨text_43, h_text_43, hj_40⟩ := bind_some hj_40
        refine sb_asg (sl' := [sv words_23, sv first_24, sv till_25, sv text_43, sv pieces_28, sv k_30, sv piece_31, sv joint_32]) rfl (EV.cast (ev_op (ev_var (i := 3) rfl) (ev_str ("-" : Str)) (r2_addS h_t_42)) (Option.some.inj h_text_43)) ?_
        cases hj_40
        exact km_45 _ _ (.keep (.keep (.keep (.keep (.keep (.keep (.keep (.keep .nil)))))))) (List.Sublist.refl _)
      · have hj_40 := ite_f hb_41 hj_40
        refine sb_nx ?_
        cases hj_40
        exact km_45 _ _ (.keep (.keep (.keep (.keep (.keep (.keep (.keep (.keep .nil)))))))) (List.Sublist.refl _)
      refine sb_if (b := ((!joint_32) && (decide ((k_30 + (1 : Int)) < (pieces_28.length : Int))))) (et_and (et_not (et_B (ev_var (i := 7) rfl))) (fun _ => (et_test (ev_op (ev_op (ev_var (i := 5) rfl) (ev_int 1) r2_add) (ev_cb (ea_cons (ev_var (i := 4) rfl) ea_nil) rc_len) r2_lt)))) (fun hb_47 => ?_) (fun hb_47 => ?_)
      · have hc_35 := ite_t hb_47 hc_35
        obtain ⟨t_49, h_t_49, hc_35⟩ := bind_some hc_35
        obtain ⟨text_50, h_text_50, hc_35⟩ := bind_some hc_35
        refine sb_asg (sl' := [sv words_23, sv first_24, sv till_25, sv text_50, sv pieces_28, sv k_30, sv piece_31, sv joint_32]) rfl (EV.cast (ev_op (ev_var (i := 3) rfl) (ev_str (" " : Str)) (r2_addS h_t_49)) (Option.some.inj h_text_50)) ?_
        cases hc_35
        exact fun σ Kn H s => hN_33 _ hP_34 σ Kn H ((s.le (.keep (.keep (.keep (.keep (.keep (.drop (.drop (.drop .nil))))))))).sub (List.Sublist.refl _))
      · have hc_35 := ite_f hb_47 hc_35
        refine sb_nx ?_
        cases hc_35
        exact fun σ Kn H s => hN_33 _ hP_34 σ Kn H ((s.le (.keep (.keep (.keep (.keep (.keep (.drop (.drop (.drop .nil))))))))).sub (List.Sublist.refl _))
    · intro s_ h0
      cases h0
      refine kx_52 _ _ ?_
      refine SB.is (sl' := [sv words_23, sv first_24, sv till_25, sv text_51, sv pieces_28, .any, .any, .any]) (ow1 := []) rfl rfl ?_
      cases hf
      exact sb_ret (ev_var (i := 3) rfl) q (List.Sublist.refl _)
theorem sc_width_at : FnScope ["widths", "row"] ["widths", "row"] (defScope s_width_at) := ⟨rfl, rfl, rfl, by decide +kernel, rfl, by decide +kernel, by decide +kernel⟩
set_option maxHeartbeats 4000000 in
theorem ok_width_at (T : TX K mg) : FnOk P w K mg base CX0 1 T.a_width_at T.d_width_at ["widths", "row"] (PF (τ := (List Int) × Int × Unit) K (fun t => m_width_at t.1 t.2.1)) := by
  refine T.F_width_at.ok sc_width_at (fun vs H Q E h => ?_) (fun cdv A outer s H vs Q E hr h => ?_)
  · obtain ⟨Kn, t, r, ek, h, hf, q⟩ := h
    exact Tp.len h
  · obtain ⟨Kn, t, r_, ek, h, hf, q⟩ := h
    obtain ⟨widths_53, row_54, u_⟩ := t
    obtain ⟨v_0, rr_, rfl, hv_0, h⟩ := h
    obtain ⟨v_1, rr_, rfl, hv_1, h⟩ := h
    obtain rfl := h
    replace hf : m_width_at widths_53 row_54 = some r_ := hf
    unfold m_width_at at hf
    refine ⟨_, (pss_one (ps_ret (pe_ix k_ixl (pv 0) (pe_callB k_min2 (by rfl) T.z_min (by decide +kernel) (pa_cons (pv 1) (pa_cons (pe_op op_sub (pe_callB k_len (by rfl) T.z_len PySem.boot_len (pa_cons (pv 0) pa_nil)) pe_int) pa_nil))) (fun _ _ => rfl)))), ?_⟩
    refine enter (Kn := Kn) (sl := [sv widths_53, sv row_54]) ek ⟨⟨v_0, rfl, hv_0⟩, ⟨v_1, rfl, hv_1⟩, trivial⟩ ?_
    have q := rt_of q
    obtain ⟨i_55, h_i_55, hf⟩ := bind_some hf
    cases hf
    exact sb_ret (ev_op (ev_var (i := 0) rfl) (ev_cb (ea_cons (ev_var (i := 1) rfl) (ea_cons (ev_op (ev_cb (ea_cons (ev_var (i := 0) rfl) ea_nil) rc_len) (ev_int 1) r2_sub) ea_nil)) rc_min) (r2_ixL h_i_55)) q (List.Sublist.refl _)
theorem sc_row_cost : FnScope ["words", "joint", "widths", "triple", "row", "first", "till", "lack", "cost"] ["words", "joint", "widths", "triple"] (defScope s_row_cost) := ⟨rfl, rfl, rfl, by decide +kernel, rfl, by decide +kernel, by decide +kernel⟩
set_option maxHeartbeats 4000000 in
theorem ok_row_cost (T : TX K mg) : FnOk P w K mg base CX0 3 T.a_row_cost T.d_row_cost ["words", "joint", "widths", "triple"] (PF (τ := (Tu (Tu Str)) × Int × (List Int) × (Int × Int × Int × Unit) × Unit) K (fun t => m_row_cost t.1 t.2.1 t.2.2.1 t.2.2.2.1)) := by
  refine T.F_row_cost.ok sc_row_cost (fun vs H Q E h => ?_) (fun cdv A outer s H vs Q E hr h => ?_)
  · obtain ⟨Kn, t, r, ek, h, hf, q⟩ := h
    exact Tp.len h
  · obtain ⟨Kn, t, r_, ek, h, hf, q⟩ := h
    obtain ⟨words_56, joint_57, widths_58, triple_59, u_⟩ := t
    obtain ⟨v_0, rr_, rfl, hv_0, h⟩ := h
    obtain ⟨v_1, rr_, rfl, hv_1, h⟩ := h
    obtain ⟨v_2, rr_, rfl, hv_2, h⟩ := h
    obtain ⟨v_3, rr_, rfl, hv_3, h⟩ := h
    obtain rfl := h
    replace hf : m_row_cost words_56 joint_57 widths_58 triple_59 = some r_ := hf
    unfold m_row_cost at hf
    refine ⟨_, (pss_cons (ps_asg (pv 3) (kpg_tup (pgs_cons (pg_name (i := 4) sc_row_cost.nd rfl (.inl rfl)) (pgs_cons (pg_name (i := 5) sc_row_cost.nd rfl (.inl rfl)) (pgs_cons (pg_name (i := 6) sc_row_cost.nd rfl (.inl rfl)) pgs_nil)))))
      (pss_cons (ps_set (i := 7) sc_row_cost.nd rfl (.inl rfl) (pe_op op_sub (pe_call (ok_width_at T) (hr.mono (by decide)) (by rfl) T.g_width_at T.F_width_at.kp T.b_width_at .nil pass0 (pa_cons (pv 2) (pa_cons (pv 4) pa_nil))) (pe_callB call_len_str (by rfl) T.z_len PySem.boot_len (pa_cons (pe_call (ok_text_of T) hr (by rfl) T.g_text_of T.F_text_of.kp T.b_text_of .nil pass0 (pa_cons (pv 0) (pa_cons (pv 5) (pa_cons (pv 6) pa_nil)))) pa_nil))))
      (pss_cons (ps_set (i := 8) sc_row_cost.nd rfl (.inl rfl) (pe_op op_mul (pv 7) (pv 7)))
      (Evl.pss_cut (ps_if (pt_val (pe_ix k_ixt (pe_ix k_ixl (pe_call (ok_flat T) (hr.mono (by decide)) (by rfl) T.g_flat T.F_flat.kp T.b_flat .nil pass0 (pa_cons (pv 0) pa_nil)) (pe_op op_sub (pv 6) pe_int) (fun _ _ => rfl)) pe_int (fun _ _ => rfl))) (pss_one (ps_set (i := 8) sc_row_cost.nd rfl (.inl rfl) (pe_op op_add (pv 8) (pv 1)))) pss_nil)
      (pss_one (ps_ret (pv 8))))))), ?_⟩
    refine enter (Kn := Kn) (sl := [sv words_56, sv joint_57, sv widths_58, sv triple_59, .any, .any, .any, .any, .any]) ek ⟨⟨v_0, rfl, hv_0⟩, ⟨v_1, rfl, hv_1⟩, ⟨v_2, rfl, hv_2⟩, ⟨v_3, rfl, hv_3⟩, trivial, trivial, trivial, trivial, trivial, trivial⟩ ?_
    have q := rt_of q
    obtain ⟨⟨row_60, first_61, till_62, _⟩, h_row_60, hf⟩ := bind_some hf
    refine SB.seqB (fun kx_ => sb_unp (sl' := [sv words_56, sv joint_57, sv widths_58, sv triple_59, sv row_60, sv first_61, sv till_62, .any, .any]) (EV.cast (ev_var (i := 3) rfl) (Option.some.inj h_row_60)) (gt_tup (gts_cons (gt_name rfl) (gts_cons (gt_name rfl) (gts_cons (gt_name rfl) gts_nil)))) (kx_ _ _ ?_))
    obtain ⟨r_63, h_r_63, hf⟩ := bind_some hf
    obtain ⟨r_64, h_r_64, hf⟩ := bind_some hf
    obtain ⟨n_65, h_n_65, hf⟩ := bind_some hf
    obtain ⟨lack_66, h_lack_66, hf⟩ := bind_some hf
    refine SB.seqB (fun kx_ => sb_asg (sl' := [sv words_56, sv joint_57, sv widths_58, sv triple_59, sv row_60, sv first_61, sv till_62, sv lack_66, .any]) rfl (EV.cast (ev_op (ev_call (ea_cons (ev_var (i := 2) rfl) (ea_cons (ev_var (i := 4) rfl) ea_nil)) h_r_63) (ev_cb (ea_cons (ev_call (ea_cons (ev_var (i := 0) rfl) (ea_cons (ev_var (i := 5) rfl) (ea_cons (ev_var (i := 6) rfl) ea_nil))) h_r_64) ea_nil) (rc_lenS h_n_65)) r2_sub) (Option.some.inj h_lack_66)) (kx_ _ _ ?_))
    obtain ⟨m_67, h_m_67, hf⟩ := bind_some hf
    obtain ⟨cost_68, h_cost_68, hf⟩ := bind_some hf
    refine SB.seqB (fun kx_ => sb_asg (sl' := [sv words_56, sv joint_57, sv widths_58, sv triple_59, sv row_60, sv first_61, sv till_62, sv lack_66, sv cost_68]) rfl (EV.cast (ev_op (ev_var (i := 7) rfl) (ev_var (i := 7) rfl) (r2_mulO h_m_67)) (Option.some.inj h_cost_68)) (kx_ _ _ ?_))
    obtain ⟨r_70, h_r_70, hf⟩ := bind_some hf
    obtain ⟨i_71, h_i_71, hf⟩ := bind_some hf
    obtain ⟨cost_74, hj_69, hf⟩ := bind_some hf
    refine SB.cutB (sl' := [sv words_56, sv joint_57, sv widths_58, sv triple_59, sv row_60, sv first_61, sv till_62, sv lack_66, sv cost_74]) (ow1 := []) (fun km_75 => sb_if (b := i_71.2.1) (et_B (ev_op (ev_op (EN.ev (en_call (ea_cons (ev_var (i := 0) rfl) ea_nil) h_r_70)) (ev_op (ev_var (i := 6) rfl) (ev_int 1) r2_sub) (r2_ixL h_i_71)) (ev_int 1) (r2_tix (n := 1) (At.s _ (At.z _ _))))) (fun hb_72 => ?_) (fun hb_72 => ?_)) ?_
    · have hj_69 := ite_t hb_72 hj_69
      obtain ⟨cost_73, h_cost_73, hj_69⟩ := bind_some hj_69
      refine sb_asg (sl' := [sv words_56, sv joint_57, sv widths_58, sv triple_59, sv row_60, sv first_61, sv till_62, sv lack_66, sv cost_73]) rfl (EV.cast (ev_op (ev_var (i := 8) rfl) (ev_var (i := 1) rfl) r2_add) (Option.some.inj h_cost_73)) ?_
      cases hj_69
      exact km_75 _ _ (.keep (.keep (.keep (.keep (.keep (.keep (.keep (.keep (.keep .nil))))))))) (List.Sublist.refl _)
    · have hj_69 := ite_f hb_72 hj_69
      refine sb_nx ?_
      cases hj_69
      exact km_75 _ _ (.keep (.keep (.keep (.keep (.keep (.keep (.keep (.keep (.keep .nil))))))))) (List.Sublist.refl _)
    cases hf
    exact sb_ret (ev_var (i := 8) rfl) q (List.Sublist.refl _)
theorem sc__law_cell_at : FnScope ["_law_script", "_law_k"] ["_law_script", "_law_k"] (defScope s__law_cell_at) := ⟨rfl, rfl, rfl, by decide +kernel, rfl, by decide +kernel, by decide +kernel⟩
set_option maxHeartbeats 4000000 in
theorem ok__law_cell_at (T : TX K mg) : FnOk P w K mg base CX0 1 T.a__law_cell_at T.d__law_cell_at ["_law_script", "_law_k"] (PF (τ := (Fz Int) × Int × Unit) K (fun t => m__law_cell_at t.1 t.2.1)) := by
  refine T.F__law_cell_at.ok sc__law_cell_at (fun vs H Q E h => ?_) (fun cdv A outer s H vs Q E hr h => ?_)
  · obtain ⟨Kn, t, r, ek, h, hf, q⟩ := h
    exact Tp.len h
  · obtain ⟨Kn, t, r_, ek, h, hf, q⟩ := h
    obtain ⟨script_76, k_77, u_⟩ := t
    obtain ⟨v_0, rr_, rfl, hv_0, h⟩ := h
    obtain ⟨v_1, rr_, rfl, hv_1, h⟩ := h
    obtain rfl := h
    replace hf : m__law_cell_at script_76 k_77 = some r_ := hf
    unfold m__law_cell_at at hf
    refine ⟨_, (pss_cons (ps_if (pt_cmpR op_lt (pv 1) (pe_callB k_len (by rfl) T.z_len PySem.boot_len (pa_cons (pv 0) pa_nil)) (nomark _)) (pss_one (ps_ret (pe_ix k_ixl (pv 0) (pv 1) (fun _ _ => rfl)))) pss_nil)
      (pss_one (ps_ret pe_int))), ?_⟩
    refine enter (Kn := Kn) (sl := [sv script_76, sv k_77]) ek ⟨⟨v_0, rfl, hv_0⟩, ⟨v_1, rfl, hv_1⟩, trivial⟩ ?_
    have q := rt_of q
    refine SB.seqB (fun kx_80 => sb_if (b := (decide (k_77 < (script_76.l.length : Int)))) (et_test (ev_op (ev_var (i := 1) rfl) (ev_cb (ea_cons (ev_var (i := 0) rfl) ea_nil) rc_lenF) r2_lt)) (fun hb_79 => ?_) (fun hb_79 => ?_))
    · have hf := ite_t hb_79 hf
      obtain ⟨i_81, h_i_81, hf⟩ := bind_some hf
      cases hf
      exact sb_ret (ev_op (ev_var (i := 0) rfl) (ev_var (i := 1) rfl) (r2_ixF h_i_81)) q (List.Sublist.refl _)
    · have hf := ite_f hb_79 hf
      refine sb_nx ?_
      refine kx_80 _ _ ?_
      cases hf
      exact sb_ret (ev_int 0) q (List.Sublist.refl _)
theorem sc__law_numbers : FnScope ["_law_cell", "_law_many", "_law_found", "_law_number", "_law_k"] ["_law_cell", "_law_many"] (defScope s__law_numbers) := ⟨rfl, rfl, rfl, by decide +kernel, rfl, by decide +kernel, by decide +kernel⟩
set_option maxHeartbeats 4000000 in
theorem ok__law_numbers (T : TX K mg) : FnOk P w K mg base CX0 1 T.a__law_numbers T.d__law_numbers ["_law_cell", "_law_many"] (PL (τ := Int × Int × Unit) K (fun t => m__law_numbers t.1 t.2.1)) := by
  refine T.F__law_numbers.ok sc__law_numbers (fun vs H Q E h => ?_) (fun cdv A outer s H vs Q E hr h => ?_)
  · obtain ⟨Kn, t, r, ek, h, hf, q⟩ := h
    exact Tp.len h
  · obtain ⟨Kn, t, r_, ek, h, hf, q⟩ := h
    obtain ⟨cell_82, many_83, u_⟩ := t
    obtain ⟨v_0, rr_, rfl, hv_0, h⟩ := h
    obtain ⟨v_1, rr_, rfl, hv_1, h⟩ := h
    obtain rfl := h
    replace hf : m__law_numbers cell_82 many_83 = some r_ := hf
    unfold m__law_numbers at hf
    refine ⟨_, (pss_cons (ps_set (i := 2) sc__law_numbers.nd rfl (.inl rfl) (pe_lst pa_nil))
      (pss_cons (ps_set (i := 3) sc__law_numbers.nd rfl (.inl rfl) (pe_op op_sub (pv 0) (pe_op op_pow pe_int pe_int)))
      (pss_cons (ps_if (pt_cmpR op_ge (pv 3) pe_int (nomark _)) (pss_cons (ps_for PassesOwn.never rfl (pi_range1 (by rfl) T.z_range (pa_cons (pv 1) pa_nil)) (pg_name (i := 4) sc__law_numbers.nd rfl (.inl rfl)) (pss_cons (ps_expr (pe_bm PySem.F.plainAttrs_list PySem.F.slot_list_append PySem.F.type_list_append mt_append (pv 2) (pa_cons (pe_op op_mod (pv 3) pe_int) pa_nil)))
      (pss_one (ps_set (i := 3) sc__law_numbers.nd rfl (.inl rfl) (pe_op op_fdiv (pv 3) pe_int)))))
      (pss_one (ps_ret (pv 2)))) pss_nil)
      (pss_cons (ps_set (i := 3) sc__law_numbers.nd rfl (.inl rfl) (pe_op op_mod (pv 0) pe_int))
      (pss_cons (ps_for PassesOwn.never rfl (pi_range1 (by rfl) T.z_range (pa_cons (pe_op op_add (pv 1) pe_int) pa_nil)) (pg_name (i := 4) sc__law_numbers.nd rfl (.inl rfl)) (pss_cons (ps_set (i := 3) sc__law_numbers.nd rfl (.inl rfl) (pe_op op_mod (pe_op op_mul (pe_op op_add (pe_op op_add (pv 3) (pv 4)) pe_int) pe_int) pe_int))
      (pss_one (ps_expr (pe_bm PySem.F.plainAttrs_list PySem.F.slot_list_append PySem.F.type_list_append mt_append (pv 2) (pa_cons (pe_op op_mod (pe_op op_mul (pv 3) pe_int) pe_int) pa_nil))))))
      (pss_one (ps_ret (pe_slice k_sll (pv 2) (po_some pe_int) po_none)))))))), ?_⟩
    refine enter (Kn := Kn) (sl := [sv cell_82, sv many_83, .any, .any, .any]) ek ⟨⟨v_0, rfl, hv_0⟩, ⟨v_1, rfl, hv_1⟩, trivial, trivial, trivial, trivial⟩ ?_
    have q := rn_of q
    obtain ⟨found_84, h_found_84, hf⟩ := bind_some hf
    refine SB.seqB (fun kx_ => sb_asgO (sl' := fun p_found_84 => [sv cell_82, sv many_83, .at p_found_84, .any, .any]) (fun _ => rfl) (EN.cast (en_lst el_nil) (Option.some.inj h_found_84)) (fun p_found_84 => (kx_ _ _ ?_)))
    obtain ⟨number_85, h_number_85, hf⟩ := bind_some hf
    refine SB.seqB (fun kx_ => sb_asg (sl' := [sv cell_82, sv many_83, .at p_found_84, sv number_85, .any]) rfl (EV.cast (ev_op (ev_var (i := 0) rfl) (ev_op (ev_int 10) (ev_int 18) (r2_pow (r := 1000000000000000000))) r2_sub) (Option.some.inj h_number_85)) (kx_ _ _ ?_))
    refine SB.seqB (fun kx_88 => sb_if (b := (decide ((0 : Int) ≤ number_85))) (et_test (ev_op (ev_var (i := 3) rfl) (ev_int 0) r2_ge)) (fun hb_87 => ?_) (fun hb_87 => ?_))
    · have hf := ite_t hb_87 hf
      obtain ⟨rg_89, h_rg_89, hf⟩ := bind_some hf
      obtain ⟨⟨number_100, found_101⟩, h_tot_97, hf⟩ := bind_some hf
      refine SB.seqB (fun kx_102 => sb_for (β := Int) (Sx := Int × (List Int)) (fun s => [sv cell_82, sv many_83, .at p_found_84, sv s.1, .any]) (fun s => [ol p_found_84 s.2]) (fun x s => [sv cell_82, sv many_83, .at p_found_84, sv s.1, sv x]) [4] (fun xs s => forS (m__law_numbers_L1) xs s = some (number_100, found_101)) (number_85, found_84) (IT.m (it_rng1 (ea_cons (ev_var (i := 1) rfl) ea_nil) h_rg_89)) h_tot_97 (.keep (.keep (.keep (.keep (.keep .nil))))) (List.Sublist.refl _) (fun x s => (gt_name rfl)) ?_ ?_)
      · intro Kn1 b1 k_92 rest_ s_ hP_94 N_ hN_93
        obtain ⟨number_90, found_91⟩ := s_
        obtain ⟨c_, hc_95, hP_94⟩ := bind_some hP_94
        have q_96 := q.base b1
        unfold m__law_numbers_L1 at hc_95
        refine SB.is (sl' := [sv cell_82, sv many_83, .at p_found_84, sv number_90, sv k_92]) (ow1 := [ol p_found_84 found_91]) rfl rfl ?_
        obtain ⟨found_98, h_found_98, hc_95⟩ := bind_some hc_95
        refine SB.seqB (fun kx_ => sb_appO (i := 2) (j := 0) rfl rfl (ev_op (ev_var (i := 3) rfl) (ev_int 5040) r2_mod) h_found_98 (ow1 := [ol p_found_84 found_98]) rfl (kx_ _ _ ?_))
        obtain ⟨number_99, h_number_99, hc_95⟩ := bind_some hc_95
        refine sb_asg (sl' := [sv cell_82, sv many_83, .at p_found_84, sv number_99, sv k_92]) rfl (EV.cast (ev_op (ev_var (i := 3) rfl) (ev_int 5040) r2_div) (Option.some.inj h_number_99)) ?_
        cases hc_95
        exact fun σ Kn H s => hN_93 _ hP_94 σ Kn H ((s.le (.keep (.keep (.keep (.keep (.drop .nil)))))).sub (List.Sublist.refl _))
      · intro s_ h0
        cases h0
        refine kx_102 _ _ ?_
        refine SB.is (sl' := [sv cell_82, sv many_83, .at p_found_84, sv number_100, .any]) (ow1 := [ol p_found_84 found_101]) rfl rfl ?_
        cases hf
        exact sb_retO (i := 2) (j := 0) rfl rfl q (List.Sublist.cons _ List.Sublist.slnil)
    · have hf := ite_f hb_87 hf
      refine sb_nx ?_
      refine kx_88 _ _ ?_
      obtain ⟨number_103, h_number_103, hf⟩ := bind_some hf
      refine SB.seqB (fun kx_ => sb_asg (sl' := [sv cell_82, sv many_83, .at p_found_84, sv number_103, .any]) rfl (EV.cast (ev_op (ev_var (i := 0) rfl) (ev_int 2147483647) r2_mod) (Option.some.inj h_number_103)) (kx_ _ _ ?_))
      obtain ⟨rg_104, h_rg_104, hf⟩ := bind_some hf
      obtain ⟨⟨number_115, found_116⟩, h_tot_112, hf⟩ := bind_some hf
      refine SB.seqB (fun kx_117 => sb_for (β := Int) (Sx := Int × (List Int)) (fun s => [sv cell_82, sv many_83, .at p_found_84, sv s.1, .any]) (fun s => [ol p_found_84 s.2]) (fun x s => [sv cell_82, sv many_83, .at p_found_84, sv s.1, sv x]) [4] (fun xs s => forS (m__law_numbers_L2) xs s = some (number_115, found_116)) (number_103, found_84) (IT.m (it_rng1 (ea_cons (ev_op (ev_var (i := 1) rfl) (ev_int 1) r2_add) ea_nil) h_rg_104)) h_tot_112 (.keep (.keep (.keep (.keep (.keep .nil))))) (List.Sublist.refl _) (fun x s => (gt_name rfl)) ?_ ?_)
      · intro Kn1 b1 k_107 rest_ s_ hP_109 N_ hN_108
        obtain ⟨number_105, found_106⟩ := s_
        obtain ⟨c_, hc_110, hP_109⟩ := bind_some hP_109
        have q_111 := q.base b1
        unfold m__law_numbers_L2 at hc_110
        refine SB.is (sl' := [sv cell_82, sv many_83, .at p_found_84, sv number_105, sv k_107]) (ow1 := [ol p_found_84 found_106]) rfl rfl ?_
        obtain ⟨number_113, h_number_113, hc_110⟩ := bind_some hc_110
        refine SB.seqB (fun kx_ => sb_asg (sl' := [sv cell_82, sv many_83, .at p_found_84, sv number_113, sv k_107]) rfl (EV.cast (ev_op (ev_op (ev_op (ev_op (ev_var (i := 3) rfl) (ev_var (i := 4) rfl) r2_add) (ev_int 1) r2_add) (ev_int 48271) r2_mulr) (ev_int 2147483647) r2_mod) (Option.some.inj h_number_113)) (kx_ _ _ ?_))
        obtain ⟨found_114, h_found_114, hc_110⟩ := bind_some hc_110
        refine sb_appO (i := 2) (j := 0) rfl rfl (ev_op (ev_op (ev_var (i := 3) rfl) (ev_int 69621) r2_mulr) (ev_int 2147483629) r2_mod) h_found_114 (ow1 := [ol p_found_84 found_114]) rfl ?_
        cases hc_110
        exact fun σ Kn H s => hN_108 _ hP_109 σ Kn H ((s.le (.keep (.keep (.keep (.keep (.drop .nil)))))).sub (List.Sublist.refl _))
      · intro s_ h0
        cases h0
        refine kx_117 _ _ ?_
        refine SB.is (sl' := [sv cell_82, sv many_83, .at p_found_84, sv number_115, .any]) (ow1 := [ol p_found_84 found_116]) rfl rfl ?_
        refine sb_freeze (i := 2) (j := 0) (sl' := [sv cell_82, sv many_83, sv found_116, sv number_115, .any]) (ow1 := []) rfl rfl rfl rfl ?_
        cases hf
        exact sb_retL (en_sl (ev_var (i := 2) rfl) (eo_some (ev_int 1)) eo_none) q (List.Sublist.refl _)
theorem sc__law_piece : FnScope ["_law_number", "_law_signs", "_law_k"] ["_law_number"] (defScope s__law_piece) := ⟨rfl, rfl, rfl, by decide +kernel, rfl, by decide +kernel, by decide +kernel⟩
set_option maxHeartbeats 4000000 in
theorem ok__law_piece (T : TX K mg) : FnOk P w K mg base CX0 1 T.a__law_piece T.d__law_piece ["_law_number"] (PF (τ := Int × Unit) K (fun t => m__law_piece t.1)) := by
  refine T.F__law_piece.ok sc__law_piece (fun vs H Q E h => ?_) (fun cdv A outer s H vs Q E hr h => ?_)
  · obtain ⟨Kn, t, r, ek, h, hf, q⟩ := h
    exact Tp.len h
  · obtain ⟨Kn, t, r_, ek, h, hf, q⟩ := h
    obtain ⟨number_118, u_⟩ := t
    obtain ⟨v_0, rr_, rfl, hv_0, h⟩ := h
    obtain rfl := h
    replace hf : m__law_piece number_118 = some r_ := hf
    unfold m__law_piece at hf
    refine ⟨_, (pss_cons (ps_set (i := 1) sc__law_piece.nd rfl (.inr rfl) pe_str)
      (pss_one (ps_ret (k_join pe_str (pe_lc (own := [("_law_k", 2)]) (g := gName 2) (tt := tYes) (by rfl) sc__law_piece.nd (pi_range1 (by rfl) T.z_range (pa_cons (pe_op op_add pe_int (pe_op op_mod (pv 0) pe_int)) pa_nil)) (blkOk_by (own := [("_law_k", 2)]) (N := ["_law_number", "_law_signs", "_law_k"]) (sc := defScope s__law_piece) (by decide +kernel)) (fun _ _ _ _ _ => (pg_name (i := 2) sc__law_piece.nd rfl (Or.inl rfl))) (fun _ _ _ _ _ => pts_nil) (fun _ _ _ _ _ => (pe_ix ix_str (pv 1) (pe_op op_mod (pe_op op_add (pe_op op_fdiv (pv 0) pe_int) (pe_op op_mul (pv 2) (pv 2))) (pe_callB call_len_str (by rfl) T.z_len PySem.boot_len (pa_cons (pv 1) pa_nil))) (fun _ _ => rfl)))))))), ?_⟩
    refine enter (Kn := Kn) (sl := [sv number_118, .any, .any]) ek ⟨⟨v_0, rfl, hv_0⟩, trivial, trivial, trivial⟩ ?_
    have q := rt_of q
    obtain ⟨signs_119, h_signs_119, hf⟩ := bind_some hf
    refine SB.seqB (fun kx_ => sb_asg (sl' := [sv number_118, sv signs_119, .any]) rfl (EV.cast (ev_str ("abcdefghijklmnopqrstuvwxyzABCXYZ0189.,;:!?'()-+=<>#&*/~_$\u0040[]{}^" : Str)) (Option.some.inj h_signs_119)) (kx_ _ _ ?_))
    obtain ⟨rg_120, h_rg_120, hf⟩ := bind_some hf
    obtain ⟨zs_122, h_zs_122, hf⟩ := bind_some hf
    obtain ⟨j_127, h_j_127, hf⟩ := bind_some hf
    cases hf
    exact sb_ret (ev_joinO (ev_str ("" : Str)) (EN.ev (en_lc (js := [2]) (fun x => [sv number_118, sv signs_119, sv x]) h_zs_122 (it_rng1 (ea_cons (ev_op (ev_int 1) (ev_op (ev_var (i := 0) rfl) (ev_int 12) r2_mod) r2_add) ea_nil) h_rg_120) (anyAt_of (by rfl)) (fun x => (gt_name rfl)) (sub_of (by rfl)) (fun _ _ x b h => by cases h; exact et_yes) (fun _ _ x z _ h => by obtain ⟨k_121, hx_⟩ : ∃ y, y = x := ⟨x, rfl⟩; subst hx_; obtain ⟨m_123, h_m_123, h⟩ := bind_some h; obtain ⟨n_124, h_n_124, h⟩ := bind_some h; obtain ⟨r_125, h_r_125, h⟩ := bind_some h; obtain ⟨i_126, h_i_126, h⟩ := bind_some h; have hz_ := Option.some.inj h; subst hz_; exact EV.is (sl' := [sv number_118, sv signs_119, sv k_121]) rfl (ev_op (ev_var (i := 1) rfl) (ev_op (ev_op (ev_op (ev_var (i := 0) rfl) (ev_int 12) r2_div) (ev_op (ev_var (i := 2) rfl) (ev_var (i := 2) rfl) (r2_mulO h_m_123)) r2_add) (ev_cb (ea_cons (ev_var (i := 1) rfl) ea_nil) (rc_lenS h_n_124)) (r2_modO h_r_125)) (r2_ixS h_i_126))))) h_j_127) q (List.Sublist.refl _)
theorem sc__law_words : FnScope ["_law_cells", "_law_words_here", "_law_word", "_law_cell", "_law_some"] ["_law_cells"] (defScope s__law_words) := ⟨rfl, rfl, rfl, by decide +kernel, rfl, by decide +kernel, by decide +kernel⟩
set_option maxHeartbeats 4000000 in
theorem ok__law_words (T : TX K mg) : FnOk P w K mg base CX0 2 T.a__law_words T.d__law_words ["_law_cells"] (PF (τ := (List Int) × Unit) K (fun t => m__law_words t.1)) := by
  refine T.F__law_words.ok sc__law_words (fun vs H Q E h => ?_) (fun cdv A outer s H vs Q E hr h => ?_)
  · obtain ⟨Kn, t, r, ek, h, hf, q⟩ := h
    exact Tp.len h
  · obtain ⟨Kn, t, r_, ek, h, hf, q⟩ := h
    obtain ⟨cells_128, u_⟩ := t
    obtain ⟨v_0, rr_, rfl, hv_0, h⟩ := h
    obtain rfl := h
    replace hf : m__law_words cells_128 = some r_ := hf
    unfold m__law_words at hf
    refine ⟨_, (pss_cons (ps_set (i := 1) sc__law_words.nd rfl (.inl rfl) (pe_lst pa_nil))
      (pss_cons (ps_set (i := 2) sc__law_words.nd rfl (.inl rfl) (pe_lst pa_nil))
      (pss_cons (ps_for PassesOwn.never rfl (kpi_list (pv 0)) (pg_name (i := 3) sc__law_words.nd rfl (.inl rfl)) (pss_cons (ps_set (i := 4) sc__law_words.nd rfl (.inl rfl) (pe_call (ok__law_numbers T) hr (by rfl) T.g__law_numbers T.F__law_numbers.kp T.b__law_numbers .nil pass0 (pa_cons (pv 3) (pa_cons pe_int pa_nil))))
      (pss_cons (ps_expr (pe_bm PySem.F.plainAttrs_list PySem.F.slot_list_append PySem.F.type_list_append mt_append (pv 2) (pa_cons (pe_call (ok__law_piece T) hr (by rfl) T.g__law_piece T.F__law_piece.kp T.b__law_piece .nil pass0 (pa_cons (pe_ix k_ixl (pv 4) pe_int (fun _ _ => rfl)) pa_nil)) pa_nil)))
      (pss_one (ps_if (PW.pt (pw_or (pt_cmpR op_eq (pe_op op_mod (pe_ix k_ixl (pv 4) pe_int (fun _ _ => rfl)) pe_int) pe_int (nomark _)) (pw_or1 (pt_cmpR op_eq (pe_callB k_len (by rfl) T.z_len PySem.boot_len (pa_cons (pv 2) pa_nil)) pe_int (nomark _))))) (pss_cons (ps_expr (pe_bm PySem.F.plainAttrs_list PySem.F.slot_list_append PySem.F.type_list_append mt_append (pv 1) (pa_cons (pe_callTy k_tuple (by rfl) T.z_tuple (by decide +kernel) (pa_cons (pv 2) pa_nil)) pa_nil)))
      (pss_one (ps_set (i := 2) sc__law_words.nd rfl (.inl rfl) (pe_lst pa_nil)))) pss_nil)))))
      (Evl.pss_cut (ps_if (pt_cmpR op_gt (pe_callB k_len (by rfl) T.z_len PySem.boot_len (pa_cons (pv 2) pa_nil)) pe_int (nomark _)) (pss_one (ps_expr (pe_bm PySem.F.plainAttrs_list PySem.F.slot_list_append PySem.F.type_list_append mt_append (pv 1) (pa_cons (pe_callTy k_tuple (by rfl) T.z_tuple (by decide +kernel) (pa_cons (pv 2) pa_nil)) pa_nil)))) pss_nil)
      (pss_one (ps_ret (pe_callTy k_tuple (by rfl) T.z_tuple (by decide +kernel) (pa_cons (pv 1) pa_nil)))))))), ?_⟩
    refine enter (Kn := Kn) (sl := [sv cells_128, .any, .any, .any, .any]) ek ⟨⟨v_0, rfl, hv_0⟩, trivial, trivial, trivial, trivial, trivial⟩ ?_
    have q := rt_of q
    obtain ⟨words_here_129, h_words_here_129, hf⟩ := bind_some hf
    refine SB.seqB (fun kx_ => sb_asgO (sl' := fun p_words_here_129 => [sv cells_128, .at p_words_here_129, .any, .any, .any]) (fun _ => rfl) (EN.cast (en_lst el_nil) (Option.some.inj h_words_here_129)) (fun p_words_here_129 => (kx_ _ _ ?_)))
    obtain ⟨word_130, h_word_130, hf⟩ := bind_some hf
    refine SB.seqB (fun kx_ => sb_asgO (sl' := fun p_word_130 => [sv cells_128, .at p_words_here_129, .at p_word_130, .any, .any]) (fun _ => rfl) (EN.cast (en_lst el_nil) (Option.some.inj h_word_130)) (fun p_word_130 => (kx_ _ _ ?_)))
    obtain ⟨⟨word_151, words_here_152⟩, h_tot_139, hf⟩ := bind_some hf
    refine SB.seqB (fun kx_153 => sb_for (β := Int) (Sx := Addr × (List Str) × (List (Tu Str))) (fun s => [sv cells_128, .at p_words_here_129, .at s.1, .any, .any]) (fun s => [ol s.1 s.2.1, ol p_words_here_129 s.2.2]) (fun x s => [sv cells_128, .at p_words_here_129, .at s.1, sv x, .any]) [3] (fun xs s => forS (m__law_words_L1) xs s.2 = some (word_151, words_here_152)) (p_word_130, word_130, words_here_129) (IT.m (it_list (ev_var (i := 0) rfl))) h_tot_139 (.keep (.keep (.keep (.keep (.keep .nil))))) (List.Sublist.refl _) (fun x s => (gt_name rfl)) ?_ ?_)
    · intro Kn1 b1 cell_134 rest_ s_ hP_136 N_ hN_135
      obtain ⟨pa_131, word_132, words_here_133⟩ := s_
      replace hP_136 : forS (m__law_words_L1) (_ :: rest_) (word_132, words_here_133) = some (word_151, words_here_152) := hP_136
      obtain ⟨c_, hc_137, hP_136⟩ := bind_some hP_136
      have q_138 := q.base b1
      unfold m__law_words_L1 at hc_137
      refine SB.is (sl' := [sv cells_128, .at p_words_here_129, .at pa_131, sv cell_134, .any]) (ow1 := [ol pa_131 word_132, ol p_words_here_129 words_here_133]) rfl rfl ?_
      obtain ⟨r_140, h_r_140, hc_137⟩ := bind_some hc_137
      obtain ⟨some_141, h_some_141, hc_137⟩ := bind_some hc_137
      refine SB.seqB (fun kx_ => sb_asg (sl' := [sv cells_128, .at p_words_here_129, .at pa_131, sv cell_134, sv some_141]) rfl (EV.cast (EN.ev (en_call (ea_cons (ev_var (i := 3) rfl) (ea_cons (ev_int 2) ea_nil)) h_r_140)) (Option.some.inj h_some_141)) (kx_ _ _ ?_))
      obtain ⟨i_142, h_i_142, hc_137⟩ := bind_some hc_137
      obtain ⟨r_143, h_r_143, hc_137⟩ := bind_some hc_137
      obtain ⟨word_144, h_word_144, hc_137⟩ := bind_some hc_137
      refine SB.seqB (fun kx_ => sb_appO (i := 2) (j := 0) rfl rfl (ev_call (ea_cons (ev_op (ev_var (i := 4) rfl) (ev_int 0) (r2_ixL h_i_142)) ea_nil) h_r_143) h_word_144 (ow1 := [ol pa_131 word_144, ol p_words_here_129 words_here_133]) rfl (kx_ _ _ ?_))
      obtain ⟨i_146, h_i_146, hc_137⟩ := bind_some hc_137
      refine sb_if (b := ((decide ((i_146 % (2 : Int)) = (0 : Int))) || (decide ((word_144.length : Int) = (6 : Int))))) (et_or (et_test (ev_op (ev_op (ev_op (ev_var (i := 4) rfl) (ev_int 1) (r2_ixL h_i_146)) (ev_int 2) r2_mod) (ev_int 0) r2_eqI)) (fun _ => (et_test (ev_bor (i := 2) (j := 0) (sl' := [sv cells_128, .at p_words_here_129, sv word_144, sv cell_134, sv some_141]) (ow1 := [ol p_words_here_129 words_here_133]) rfl rfl rfl rfl (ev_op (ev_cb (ea_cons (ev_var (i := 2) rfl) ea_nil) rc_len) (ev_int 6) r2_eqI))))) (fun hb_147 => ?_) (fun hb_147 => ?_)
      · have hc_137 := ite_t hb_147 hc_137
        obtain ⟨words_here_149, h_words_here_149, hc_137⟩ := bind_some hc_137
        refine SB.seqB (fun kx_ => sb_appO (i := 1) (j := 1) rfl rfl (ev_tupleO (i := 2) (j := 0) rfl rfl) h_words_here_149 (ow1 := [ol pa_131 word_144, ol p_words_here_129 words_here_149]) rfl (kx_ _ _ ?_))
        obtain ⟨word_150, h_word_150, hc_137⟩ := bind_some hc_137
        refine sb_asgO (sl' := fun p_word_150 => [sv cells_128, .at p_words_here_129, .at p_word_150, sv cell_134, sv some_141]) (fun _ => rfl) (EN.cast (en_lst el_nil) (Option.some.inj h_word_150)) (fun p_word_150 => ?_)
        cases hc_137
        exact fun σ Kn H s => hN_135 (p_word_150, word_150, words_here_149) hP_136 σ Kn H ((s.le (.keep (.keep (.keep (.drop (.drop .nil)))))).sub (List.Sublist.cons_cons _ (List.Sublist.cons _ (List.Sublist.cons_cons _ List.Sublist.slnil))))
      · have hc_137 := ite_f hb_147 hc_137
        refine sb_nx ?_
        cases hc_137
        exact fun σ Kn H s => hN_135 (pa_131, word_144, words_here_133) hP_136 σ Kn H ((s.le (.keep (.keep (.keep (.drop (.drop .nil)))))).sub (List.Sublist.refl _))
    · intro s_ h0
      obtain ⟨pa_131, s_⟩ := s_
      replace h0 : some s_ = some (word_151, words_here_152) := h0
      cases h0
      refine kx_153 _ _ ?_
      refine SB.is (sl' := [sv cells_128, .at p_words_here_129, .at pa_131, .any, .any]) (ow1 := [ol pa_131 word_151, ol p_words_here_129 words_here_152]) rfl rfl ?_
      refine sb_freeze (i := 2) (j := 0) (sl' := [sv cells_128, .at p_words_here_129, sv word_151, .any, .any]) (ow1 := [ol p_words_here_129 words_here_152]) rfl rfl rfl rfl ?_
      obtain ⟨words_here_157, hj_154, hf⟩ := bind_some hf
      refine SB.cutB (sl' := [sv cells_128, .at p_words_here_129, sv word_151, .any, .any]) (ow1 := [ol p_words_here_129 words_here_157]) (fun km_158 => sb_if (b := (decide ((0 : Int) < (word_151.length : Int)))) (et_test (ev_op (ev_cb (ea_cons (ev_var (i := 2) rfl) ea_nil) rc_len) (ev_int 0) r2_gt)) (fun hb_155 => ?_) (fun hb_155 => ?_)) ?_
      · have hj_154 := ite_t hb_155 hj_154
        obtain ⟨words_here_156, h_words_here_156, hj_154⟩ := bind_some hj_154
        refine sb_appO (i := 1) (j := 0) rfl rfl (ev_cb (ea_cons (ev_var (i := 2) rfl) ea_nil) rc_tuple) h_words_here_156 (ow1 := [ol p_words_here_129 words_here_156]) rfl ?_
        cases hj_154
        exact km_158 _ _ (.keep (.keep (.keep (.keep (.keep .nil))))) (List.Sublist.refl _)
      · have hj_154 := ite_f hb_155 hj_154
        refine sb_nx ?_
        cases hj_154
        exact km_158 _ _ (.keep (.keep (.keep (.keep (.keep .nil))))) (List.Sublist.refl _)
      refine sb_freeze (i := 1) (j := 0) (sl' := [sv cells_128, sv words_here_157, sv word_151, .any, .any]) (ow1 := []) rfl rfl rfl rfl ?_
      cases hf
      exact sb_ret (ev_cb (ea_cons (ev_var (i := 1) rfl) ea_nil) rc_tuple) q (List.Sublist.refl _)
theorem sc__law_text : FnScope ["_law_words_here", "_law_first", "_law_till", "_law_text_here", "_law_place", "_law_word", "_law_k", "_law_piece_here"] ["_law_words_here", "_law_first", "_law_till"] (defScope s__law_text) := ⟨rfl, rfl, rfl, by decide +kernel, rfl, by decide +kernel, by decide +kernel⟩
set_option maxHeartbeats 4000000 in
theorem ok__law_text (T : TX K mg) : FnOk P w K mg base CX0 1 T.a__law_text T.d__law_text ["_law_words_here", "_law_first", "_law_till"] (PF (τ := (Tu (Tu Str)) × Int × Int × Unit) K (fun t => m__law_text t.1 t.2.1 t.2.2.1)) := by
  refine T.F__law_text.ok sc__law_text (fun vs H Q E h => ?_) (fun cdv A outer s H vs Q E hr h => ?_)
  · obtain ⟨Kn, t, r, ek, h, hf, q⟩ := h
    exact Tp.len h
  · obtain ⟨Kn, t, r_, ek, h, hf, q⟩ := h
    obtain ⟨words_here_159, first_160, till_161, u_⟩ := t
    obtain ⟨v_0, rr_, rfl, hv_0, h⟩ := h
    obtain ⟨v_1, rr_, rfl, hv_1, h⟩ := h
    obtain ⟨v_2, rr_, rfl, hv_2, h⟩ := h
    obtain rfl := h
    replace hf : m__law_text words_here_159 first_160 till_161 = some r_ := hf
    unfold m__law_text at hf
    refine ⟨_, (pss_cons (ps_set (i := 3) sc__law_text.nd rfl (.inl rfl) pe_str)
      (pss_cons (ps_set (i := 4) sc__law_text.nd rfl (.inl rfl) pe_int)
      (pss_cons (ps_for PassesOwn.never rfl (kpi_tup (pv 0)) (pg_name (i := 5) sc__law_text.nd rfl (.inl rfl)) (pss_one (ps_for PassesOwn.never rfl (pi_enumT (by rfl) T.z_enumerate (pa_cons (pv 5) pa_nil)) (kpg_tup (pgs_cons (pg_name (i := 6) sc__law_text.nd rfl (.inl rfl)) (pgs_cons (pg_name (i := 7) sc__law_text.nd rfl (.inl rfl)) pgs_nil))) (Evl.pss_cut (ps_if (pt_chain op_le op_lt (pv 1) (pv 4) (pv 2)) (pss_cons (ps_set (i := 3) sc__law_text.nd rfl (.inl rfl) (pe_op op_add_str (pv 3) (pv 7)))
      (Evl.pss_cut (ps_if (PW.pt (pw_and (pt_cmpR op_eq (pe_op op_add (pv 4) pe_int) (pv 2) (nomark _)) (pw_and1 (pt_cmpR op_lt (pe_op op_add (pv 6) pe_int) (pe_callB k_len (by rfl) T.z_len PySem.boot_len (pa_cons (pv 5) pa_nil)) (nomark _))))) (pss_one (ps_set (i := 3) sc__law_text.nd rfl (.inl rfl) (pe_op op_add_str (pv 3) pe_str))) pss_nil)
      (pss_one (ps_if (PW.pt (pw_and (pt_cmpR op_lt (pe_op op_add (pv 4) pe_int) (pv 2) (nomark _)) (pw_and1 (pt_cmpR op_eq (pe_op op_add (pv 6) pe_int) (pe_callB k_len (by rfl) T.z_len PySem.boot_len (pa_cons (pv 5) pa_nil)) (nomark _))))) (pss_one (ps_set (i := 3) sc__law_text.nd rfl (.inl rfl) (pe_op op_add_str (pv 3) pe_str))) pss_nil)))) pss_nil)
      (pss_one (ps_set (i := 4) sc__law_text.nd rfl (.inl rfl) (pe_op op_add (pv 4) pe_int)))))))
      (pss_one (ps_ret (pv 3)))))), ?_⟩
    refine enter (Kn := Kn) (sl := [sv words_here_159, sv first_160, sv till_161, .any, .any, .any, .any, .any]) ek ⟨⟨v_0, rfl, hv_0⟩, ⟨v_1, rfl, hv_1⟩, ⟨v_2, rfl, hv_2⟩, trivial, trivial, trivial, trivial, trivial, trivial⟩ ?_
    have q := rt_of q
    obtain ⟨text_here_162, h_text_here_162, hf⟩ := bind_some hf
    refine SB.seqB (fun kx_ => sb_asg (sl' := [sv words_here_159, sv first_160, sv till_161, sv text_here_162, .any, .any, .any, .any]) rfl (EV.cast (ev_str ("" : Str)) (Option.some.inj h_text_here_162)) (kx_ _ _ ?_))
    obtain ⟨place_163, h_place_163, hf⟩ := bind_some hf
    refine SB.seqB (fun kx_ => sb_asg (sl' := [sv words_here_159, sv first_160, sv till_161, sv text_here_162, sv place_163, .any, .any, .any]) rfl (EV.cast (ev_int 0) (Option.some.inj h_place_163)) (kx_ _ _ ?_))
    obtain ⟨⟨text_here_202, place_203⟩, h_tot_171, hf⟩ := bind_some hf
    refine SB.seqB (fun kx_204 => sb_for (β := (Tu Str)) (Sx := Str × Int) (fun s => [sv words_here_159, sv first_160, sv till_161, sv s.1, sv s.2, .any, .any, .any]) (fun s => []) (fun x s => [sv words_here_159, sv first_160, sv till_161, sv s.1, sv s.2, sv x, .any, .any]) [5] (fun xs s => forS (m__law_text_L1 first_160 till_161) xs s = some (text_here_202, place_203)) (text_here_162, place_163) (IT.m (it_tup (ev_var (i := 0) rfl))) h_tot_171 (.keep (.keep (.keep (.keep (.keep (.keep (.keep (.keep .nil)))))))) (List.Sublist.refl _) (fun x s => (gt_name rfl)) ?_ ?_)
    · intro Kn1 b1 word_166 rest_ s_ hP_168 N_ hN_167
      obtain ⟨text_here_164, place_165⟩ := s_
      obtain ⟨c_, hc_169, hP_168⟩ := bind_some hP_168
      have q_170 := q.base b1
      unfold m__law_text_L1 at hc_169
      refine SB.is (sl' := [sv words_here_159, sv first_160, sv till_161, sv text_here_164, sv place_165, sv word_166, .any, .any]) (ow1 := []) rfl rfl ?_
      obtain ⟨⟨text_here_199, place_200⟩, h_tot_180, hc_169⟩ := bind_some hc_169
      refine sb_for (β := (Int × Str × Unit)) (Sx := Str × Int) (fun s => [sv words_here_159, sv first_160, sv till_161, sv s.1, sv s.2, sv word_166, .any, .any]) (fun s => []) (fun x s => [sv words_here_159, sv first_160, sv till_161, sv s.1, sv s.2, sv word_166, sv x.1, sv x.2.1]) [6, 7] (fun xs s => forS (m__law_text_L2 first_160 till_161 word_166) xs s = some (text_here_199, place_200)) (text_here_164, place_165) (IT.m (it_enumT (ea_cons (ev_var (i := 5) rfl) ea_nil))) h_tot_180 (.keep (.keep (.keep (.keep (.keep (.keep (.keep (.keep .nil)))))))) (List.Sublist.refl _) (fun x s => (gt_tup (gts_cons (gt_name rfl) (gts_cons (gt_name rfl) gts_nil)))) ?_ ?_
      · intro Kn1 b1 x_ rest_ s_ hP_177 N_ hN_176
        obtain ⟨k_174, piece_here_175, _⟩ := x_
        obtain ⟨text_here_172, place_173⟩ := s_
        obtain ⟨c_, hc_178, hP_177⟩ := bind_some hP_177
        have q_179 := q_170.base b1
        unfold m__law_text_L2 at hc_178
        refine SB.is (sl' := [sv words_here_159, sv first_160, sv till_161, sv text_here_172, sv place_173, sv word_166, sv k_174, sv piece_here_175]) (ow1 := []) rfl rfl ?_
        obtain ⟨text_here_196, hj_181, hc_178⟩ := bind_some hc_178
        refine SB.cutB (sl' := [sv words_here_159, sv first_160, sv till_161, sv text_here_196, sv place_173, sv word_166, sv k_174, sv piece_here_175]) (ow1 := []) (fun km_197 => sb_if (b := ((decide (first_160 ≤ place_173)) && (decide (place_173 < till_161)))) (et_test (ev_chain (ev_var (i := 1) rfl) (ev_var (i := 4) rfl) r2_le (ev_var (i := 2) rfl) r2_lt)) (fun hb_182 => ?_) (fun hb_182 => ?_)) ?_
        · have hj_181 := ite_t hb_182 hj_181
          obtain ⟨t_183, h_t_183, hj_181⟩ := bind_some hj_181
          obtain ⟨text_here_184, h_text_here_184, hj_181⟩ := bind_some hj_181
          refine SB.seqB (fun kx_ => sb_asg (sl' := [sv words_here_159, sv first_160, sv till_161, sv text_here_184, sv place_173, sv word_166, sv k_174, sv piece_here_175]) rfl (EV.cast (ev_op (ev_var (i := 3) rfl) (ev_var (i := 7) rfl) (r2_addS h_t_183)) (Option.some.inj h_text_here_184)) (kx_ _ _ ?_))
          obtain ⟨text_here_189, hj_185, hj_181⟩ := bind_some hj_181
          refine SB.cutB (sl' := [sv words_here_159, sv first_160, sv till_161, sv text_here_189, sv place_173, sv word_166, sv k_174, sv piece_here_175]) (ow1 := []) (fun km_190 => sb_if (b := ((decide ((place_173 + (1 : Int)) = till_161)) && (decide ((k_174 + (1 : Int)) < (word_166.l.length : Int))))) (et_and (et_test (ev_op (ev_op (ev_var (i := 4) rfl) (ev_int 1) r2_add) (ev_var (i := 2) rfl) r2_eqI)) (fun _ => (et_test (ev_op (ev_op (ev_var (i := 6) rfl) (ev_int 1) r2_add) (ev_cb (ea_cons (ev_var (i := 5) rfl) ea_nil) rc_lenT) r2_lt)))) (fun hb_186 => ?_) (fun hb_186 => ?_)) ?_
          · have hj_185 := ite_t hb_186 hj_185
            obtain ⟨t_187, h_t_187, hj_185⟩ := bind_some hj_185
            obtain ⟨text_here_188, h_text_here_188, hj_185⟩ := bind_some hj_185
            refine sb_asg (sl' := [sv words_here_159, sv first_160, sv till_161, sv text_here_188, sv place_173, sv word_166, sv k_174, sv piece_here_175]) rfl (EV.cast (ev_op (ev_var (i := 3) rfl) (ev_str ("-" : Str)) (r2_addS h_t_187)) (Option.some.inj h_text_here_188)) ?_
            cases hj_185
            exact km_190 _ _ (.keep (.keep (.keep (.keep (.keep (.keep (.keep (.keep .nil)))))))) (List.Sublist.refl _)
          · have hj_185 := ite_f hb_186 hj_185
            refine sb_nx ?_
            cases hj_185
            exact km_190 _ _ (.keep (.keep (.keep (.keep (.keep (.keep (.keep (.keep .nil)))))))) (List.Sublist.refl _)
          refine sb_if (b := ((decide ((place_173 + (1 : Int)) < till_161)) && (decide ((k_174 + (1 : Int)) = (word_166.l.length : Int))))) (et_and (et_test (ev_op (ev_op (ev_var (i := 4) rfl) (ev_int 1) r2_add) (ev_var (i := 2) rfl) r2_lt)) (fun _ => (et_test (ev_op (ev_op (ev_var (i := 6) rfl) (ev_int 1) r2_add) (ev_cb (ea_cons (ev_var (i := 5) rfl) ea_nil) rc_lenT) r2_eqI)))) (fun hb_192 => ?_) (fun hb_192 => ?_)
          · have hj_181 := ite_t hb_192 hj_181
            obtain ⟨t_194, h_t_194, hj_181⟩ := bind_some hj_181
            obtain ⟨text_here_195, h_text_here_195, hj_181⟩ := bind_some hj_181
            refine sb_asg (sl' := [sv words_here_159, sv first_160, sv till_161, sv text_here_195, sv place_173, sv word_166, sv k_174, sv piece_here_175]) rfl (EV.cast (ev_op (ev_var (i := 3) rfl) (ev_str (" " : Str)) (r2_addS h_t_194)) (Option.some.inj h_text_here_195)) ?_
            cases hj_181
            exact km_197 _ _ (.keep (.keep (.keep (.keep (.keep (.keep (.keep (.keep .nil)))))))) (List.Sublist.refl _)
          · have hj_181 := ite_f hb_192 hj_181
            refine sb_nx ?_
            cases hj_181
            exact km_197 _ _ (.keep (.keep (.keep (.keep (.keep (.keep (.keep (.keep .nil)))))))) (List.Sublist.refl _)
        · have hj_181 := ite_f hb_182 hj_181
          refine sb_nx ?_
          cases hj_181
          exact km_197 _ _ (.keep (.keep (.keep (.keep (.keep (.keep (.keep (.keep .nil)))))))) (List.Sublist.refl _)
        obtain ⟨place_198, h_place_198, hc_178⟩ := bind_some hc_178
        refine sb_asg (sl' := [sv words_here_159, sv first_160, sv till_161, sv text_here_196, sv place_198, sv word_166, sv k_174, sv piece_here_175]) rfl (EV.cast (ev_op (ev_var (i := 4) rfl) (ev_int 1) r2_add) (Option.some.inj h_place_198)) ?_
        cases hc_178
        exact fun σ Kn H s => hN_176 _ hP_177 σ Kn H ((s.le (.keep (.keep (.keep (.keep (.keep (.keep (.drop (.drop .nil))))))))).sub (List.Sublist.refl _))
      · intro s_ h0
        cases h0
        show SN _ _ _ [sv words_here_159, sv first_160, sv till_161, sv text_here_199, sv place_200, sv word_166, .any, .any] [] _
        cases hc_169
        exact fun σ Kn H s => hN_167 _ hP_168 σ Kn H ((s.le (.keep (.keep (.keep (.keep (.keep (.drop (.keep (.keep .nil))))))))).sub (List.Sublist.refl _))
    · intro s_ h0
      cases h0
      refine kx_204 _ _ ?_
      refine SB.is (sl' := [sv words_here_159, sv first_160, sv till_161, sv text_here_202, sv place_203, .any, .any, .any]) (ow1 := []) rfl rfl ?_
      cases hf
      exact sb_ret (ev_var (i := 3) rfl) q (List.Sublist.refl _)
theorem sc__law_joints : FnScope ["_law_words_here", "_law_joints_here", "_law_word"] ["_law_words_here"] (defScope s__law_joints) := ⟨rfl, rfl, rfl, by decide +kernel, rfl, by decide +kernel, by decide +kernel⟩
set_option maxHeartbeats 4000000 in
theorem ok__law_joints (T : TX K mg) : FnOk P w K mg base CX0 1 T.a__law_joints T.d__law_joints ["_law_words_here"] (PF (τ := (Tu (Tu Str)) × Unit) K (fun t => m__law_joints t.1)) := by
  refine T.F__law_joints.ok sc__law_joints (fun vs H Q E h => ?_) (fun cdv A outer s H vs Q E hr h => ?_)
  · obtain ⟨Kn, t, r, ek, h, hf, q⟩ := h
    exact Tp.len h
  · obtain ⟨Kn, t, r_, ek, h, hf, q⟩ := h
    obtain ⟨words_here_205, u_⟩ := t
    obtain ⟨v_0, rr_, rfl, hv_0, h⟩ := h
    obtain rfl := h
    replace hf : m__law_joints words_here_205 = some r_ := hf
    unfold m__law_joints at hf
    refine ⟨_, (pss_cons (ps_set (i := 1) sc__law_joints.nd rfl (.inl rfl) (pe_lst (pa_cons pe_bl pa_nil)))
      (pss_cons (ps_for PassesOwn.never rfl (kpi_tup (pv 0)) (pg_name (i := 2) sc__law_joints.nd rfl (.inl rfl)) (pss_one (ps_set (i := 1) sc__law_joints.nd rfl (.inl rfl) (pe_op op_cat (pe_op op_cat (pv 1) (pe_op op_rep (pe_lst (pa_cons pe_bl pa_nil)) (pe_op op_sub (pe_callB k_len (by rfl) T.z_len PySem.boot_len (pa_cons (pv 2) pa_nil)) pe_int))) (pe_lst (pa_cons pe_bl pa_nil))))))
      (pss_one (ps_ret (pv 1))))), ?_⟩
    refine enter (Kn := Kn) (sl := [sv words_here_205, .any, .any]) ek ⟨⟨v_0, rfl, hv_0⟩, trivial, trivial, trivial⟩ ?_
    have q := rt_of q
    obtain ⟨joints_here_206, h_joints_here_206, hf⟩ := bind_some hf
    refine SB.seqB (fun kx_ => sb_asg (sl' := [sv words_here_205, sv joints_here_206, .any]) rfl (EV.cast (EN.ev (en_lst (el_cons (ev_bool false) el_nil))) (Option.some.inj h_joints_here_206)) (kx_ _ _ ?_))
    obtain ⟨joints_here_218, h_tot_213, hf⟩ := bind_some hf
    refine SB.seqB (fun kx_219 => sb_for (β := (Tu Str)) (Sx := (List Bool)) (fun s => [sv words_here_205, sv s, .any]) (fun s => []) (fun x s => [sv words_here_205, sv s, sv x]) [2] (fun xs s => forS (m__law_joints_L1) xs s = some joints_here_218) joints_here_206 (IT.m (it_tup (ev_var (i := 0) rfl))) h_tot_213 (.keep (.keep (.keep .nil))) (List.Sublist.refl _) (fun x s => (gt_name rfl)) ?_ ?_)
    · intro Kn1 b1 word_208 rest_ joints_here_207 hP_210 N_ hN_209
      obtain ⟨c_, hc_211, hP_210⟩ := bind_some hP_210
      have q_212 := q.base b1
      unfold m__law_joints_L1 at hc_211
      refine SB.is (sl' := [sv words_here_205, sv joints_here_207, sv word_208]) (ow1 := []) rfl rfl ?_
      obtain ⟨rep_214, h_rep_214, hc_211⟩ := bind_some hc_211
      obtain ⟨cat_215, h_cat_215, hc_211⟩ := bind_some hc_211
      obtain ⟨cat_216, h_cat_216, hc_211⟩ := bind_some hc_211
      obtain ⟨joints_here_217, h_joints_here_217, hc_211⟩ := bind_some hc_211
      refine sb_asg (sl' := [sv words_here_205, sv joints_here_217, sv word_208]) rfl (EV.cast (EN.ev (en_op (EN.ev (en_op (ev_var (i := 1) rfl) (EN.ev (en_op (EN.ev (en_lst (el_cons (ev_bool true) el_nil))) (ev_op (ev_cb (ea_cons (ev_var (i := 2) rfl) ea_nil) rc_lenT) (ev_int 1) r2_sub) (r2_repO h_rep_214))) (r2_catO h_cat_215))) (EN.ev (en_lst (el_cons (ev_bool false) el_nil))) (r2_catO h_cat_216))) (Option.some.inj h_joints_here_217)) ?_
      cases hc_211
      exact fun σ Kn H s => hN_209 _ hP_210 σ Kn H ((s.le (.keep (.keep (.drop .nil)))).sub (List.Sublist.refl _))
    · intro s_ h0
      cases h0
      refine kx_219 _ _ ?_
      refine SB.is (sl' := [sv words_here_205, sv joints_here_218, .any]) (ow1 := []) rfl rfl ?_
      cases hf
      exact sb_ret (ev_var (i := 1) rfl) q (List.Sublist.refl _)
theorem sc_law : FnScope ["_law_script", "_law_words_here", "_law_joints_here", "_law_many", "_law_some", "_law_joint", "_law_widths", "_law_held", "_law_cell", "_law_first", "_law_till", "_law_row", "_law_text_here", "_law_width", "_law_cost", "_law_due", "_law_k"] ["_law_script"] (defScope s_law) := ⟨rfl, rfl, rfl, by decide +kernel, rfl, by decide +kernel, by decide +kernel⟩
set_option maxHeartbeats 4000000 in
theorem ok_law (T : TX K mg) : FnOk P w K mg base CX0 4 T.a_law T.d_law ["_law_script"] (PF (τ := (Fz Int) × Unit) K (fun t => m_law t.1)) := by
  refine T.F_law.ok sc_law (fun vs H Q E h => ?_) (fun cdv A outer s H vs Q E hr h => ?_)
  · obtain ⟨Kn, t, r, ek, h, hf, q⟩ := h
    exact Tp.len h
  · obtain ⟨Kn, t, r_, ek, h, hf, q⟩ := h
    obtain ⟨script_220, u_⟩ := t
    obtain ⟨v_0, rr_, rfl, hv_0, h⟩ := h
    obtain rfl := h
    replace hf : m_law script_220 = some r_ := hf
    unfold m_law at hf
    refine ⟨_, (pss_cons (ps_set (i := 1) sc_law.nd rfl (.inl rfl) (pe_call (ok__law_words T) (hr.mono (by decide)) (by rfl) T.g__law_words T.F__law_words.kp T.b__law_words .nil pass0 (pa_cons (pe_slice k_sll (pv 0) (po_some pe_int) (po_some pe_int)) pa_nil)))
      (pss_cons (ps_set (i := 2) sc_law.nd rfl (.inl rfl) (pe_call (ok__law_joints T) (hr.mono (by decide)) (by rfl) T.g__law_joints T.F__law_joints.kp T.b__law_joints .nil pass0 (pa_cons (pv 1) pa_nil)))
      (pss_cons (ps_set (i := 3) sc_law.nd rfl (.inl rfl) (pe_op op_sub (pe_callB k_len (by rfl) T.z_len PySem.boot_len (pa_cons (pv 2) pa_nil)) pe_int))
      (pss_cons (ps_set (i := 4) sc_law.nd rfl (.inr rfl) (pe_call (ok__law_numbers T) (hr.mono (by decide)) (by rfl) T.g__law_numbers T.F__law_numbers.kp T.b__law_numbers .nil pass0 (pa_cons (pe_call (ok__law_cell_at T) (hr.mono (by decide)) (by rfl) T.g__law_cell_at T.F__law_cell_at.kp T.b__law_cell_at .nil pass0 (pa_cons (pv 0) (pa_cons pe_int pa_nil))) (pa_cons pe_int pa_nil))))
      (pss_cons (ps_set (i := 5) sc_law.nd rfl (.inl rfl) (pe_op op_mod (pe_ix k_ixl (pv 4) pe_int (fun _ _ => rfl)) pe_int))
      (pss_cons (ps_setLc (i := 6) (own := [("_law_k", 16)]) (g := gName 16) (tt := tYes) rfl sc_law.nd rfl rfl (sw_true rfl rfl rfl (by decide +kernel)) (pi_range1 (by rfl) T.z_range (pa_cons (pe_op op_mod (pe_ix k_ixl (pv 4) pe_int (fun _ _ => rfl)) pe_int) pa_nil)) (blkOk_by (own := [("_law_k", 16)]) (N := ["_law_script", "_law_words_here", "_law_joints_here", "_law_many", "_law_some", "_law_joint", "_law_widths", "_law_held", "_law_cell", "_law_first", "_law_till", "_law_row", "_law_text_here", "_law_width", "_law_cost", "_law_due", "_law_k"]) (sc := defScope s_law) (by decide +kernel)) (fun _ _ _ _ _ => (pg_name (i := 16) sc_law.nd rfl (Or.inl rfl))) (fun _ _ _ _ _ => pts_nil) (fun _ _ _ _ _ => (pe_op op_mod (pe_ix k_ixl (pv 4) (pe_op op_add pe_int (pv 16)) (fun _ _ => rfl)) pe_int)))
      (pss_cons (ps_expr (pe_bm PySem.F.plainAttrs_list PySem.F.slot_list_append PySem.F.type_list_append mt_append (pv 6) (pa_cons (pe_op op_add pe_int (pe_op op_mod (pe_ix k_ixl (pv 4) pe_int (fun _ _ => rfl)) pe_int)) pa_nil)))
      (pss_cons (ps_set (i := 7) sc_law.nd rfl (.inl rfl) (pe_callTy k_list (by rfl) T.z_list (by decide +kernel) (pa_cons (pv 6) pa_nil)))
      (pss_cons (ps_for PassesOwn.never rfl (kpi_list (pe_slice k_sll (pv 0) (po_some pe_int) (po_some pe_int))) (pg_name (i := 8) sc_law.nd rfl (.inl rfl)) (pss_cons (ps_set (i := 9) sc_law.nd rfl (.inl rfl) (pe_op op_mod (pv 8) (pv 3)))
      (pss_cons (ps_set (i := 10) sc_law.nd rfl (.inl rfl) (pe_op op_add (pe_op op_add (pv 9) pe_int) (pe_op op_mod (pe_op op_fdiv (pv 8) pe_int) (pe_op op_sub (pv 3) (pv 9)))))
      (pss_cons (ps_set (i := 11) sc_law.nd rfl (.inl rfl) (pe_op op_mod (pe_op op_fdiv (pv 8) pe_int) pe_int))
      (pss_cons (ps_set (i := 12) sc_law.nd rfl (.inl rfl) (pe_call (ok__law_text T) (hr.mono (by decide)) (by rfl) T.g__law_text T.F__law_text.kp T.b__law_text .nil pass0 (pa_cons (pv 1) (pa_cons (pv 9) (pa_cons (pv 10) pa_nil)))))
      (pss_cons (ps_if (pt_cmpR op_ne (pe_call (ok_text_of T) (hr.mono (by decide)) (by rfl) T.g_text_of T.F_text_of.kp T.b_text_of .nil pass0 (pa_cons (pv 1) (pa_cons (pv 9) (pa_cons (pv 10) pa_nil)))) (pv 12) (nomark _)) (pss_one (ps_ret pe_bl)) pss_nil)
      (pss_cons (ps_set (i := 13) sc_law.nd rfl (.inl rfl) (pe_ix k_ixl (pv 6) (pe_callB k_min2 (by rfl) T.z_min (by decide +kernel) (pa_cons (pv 11) (pa_cons (pe_op op_sub (pe_callB k_len (by rfl) T.z_len PySem.boot_len (pa_cons (pv 6) pa_nil)) pe_int) pa_nil))) (fun _ _ => rfl)))
      (pss_cons (ps_set (i := 14) sc_law.nd rfl (.inl rfl) (pe_call (ok_row_cost T) hr (by rfl) T.g_row_cost T.F_row_cost.kp T.b_row_cost .nil pass0 (pa_cons (pv 1) (pa_cons (pv 5) (pa_cons (pv 7) (pa_cons (pe_tup (pa_cons (pv 11) (pa_cons (pv 9) (pa_cons (pv 10) pa_nil)))) pa_nil))))))
      (pss_cons (ps_set (i := 15) sc_law.nd rfl (.inl rfl) (pe_op op_add (pe_op op_pow (pe_op op_sub (pv 13) (pe_callB call_len_str (by rfl) T.z_len PySem.boot_len (pa_cons (pv 12) pa_nil))) pe_int) (pe_op op_mul (pv 5) (pe_callTy call_int1 (by rfl) T.z_int (by decide +kernel) (pa_cons (pe_ix k_ixl (pv 2) (pv 10) (fun _ _ => rfl)) pa_nil)))))
      (pss_one (ps_if (PW.pt (pw_or (pt_val (pe_callB k_isi (by rfl) T.z_isinstance (by decide +kernel) (pa_cons (pv 14) (pa_cons (pe_bltn (v := .ty "bool") (u := .type "bool") (by rfl) T.z_bool (by decide +kernel) rfl) pa_nil)))) (pw_or1 (pt_cmpR op_ne (pv 14) (pv 15) (nomark _))))) (pss_one (ps_ret pe_bl)) pss_nil)))))))))))
      (pss_one (ps_ret (pe_cmpR (k_eqD hr.units) (pv 7) (pv 6) (nomark _))))))))))))), ?_⟩
    refine enter (Kn := Kn) (sl := [sv script_220, .any, .any, .any, .any, .any, .any, .any, .any, .any, .any, .any, .any, .any, .any, .any, .any]) ek ⟨⟨v_0, rfl, hv_0⟩, trivial, trivial, trivial, trivial, trivial, trivial, trivial, trivial, trivial, trivial, trivial, trivial, trivial, trivial, trivial, trivial, trivial⟩ ?_
    have q := rt_of q
    obtain ⟨r_221, h_r_221, hf⟩ := bind_some hf
    obtain ⟨words_here_222, h_words_here_222, hf⟩ := bind_some hf
    refine SB.seqB (fun kx_ => sb_asg (sl' := [sv script_220, sv words_here_222, .any, .any, .any, .any, .any, .any, .any, .any, .any, .any, .any, .any, .any, .any, .any]) rfl (EV.cast (ev_call (ea_cons (EN.ev (en_slF (ev_var (i := 0) rfl) (eo_some (ev_int 2)) (eo_some (ev_int 42)))) ea_nil) h_r_221) (Option.some.inj h_words_here_222)) (kx_ _ _ ?_))
    obtain ⟨r_223, h_r_223, hf⟩ := bind_some hf
    obtain ⟨joints_here_224, h_joints_here_224, hf⟩ := bind_some hf
    refine SB.seqB (fun kx_ => sb_asg (sl' := [sv script_220, sv words_here_222, sv joints_here_224, .any, .any, .any, .any, .any, .any, .any, .any, .any, .any, .any, .any, .any, .any]) rfl (EV.cast (ev_call (ea_cons (ev_var (i := 1) rfl) ea_nil) h_r_223) (Option.some.inj h_joints_here_224)) (kx_ _ _ ?_))
    obtain ⟨many_225, h_many_225, hf⟩ := bind_some hf
    refine SB.seqB (fun kx_ => sb_asg (sl' := [sv script_220, sv words_here_222, sv joints_here_224, sv many_225, .any, .any, .any, .any, .any, .any, .any, .any, .any, .any, .any, .any, .any]) rfl (EV.cast (ev_op (ev_cb (ea_cons (ev_var (i := 2) rfl) ea_nil) rc_len) (ev_int 1) r2_sub) (Option.some.inj h_many_225)) (kx_ _ _ ?_))
    obtain ⟨r_226, h_r_226, hf⟩ := bind_some hf
    obtain ⟨r_227, h_r_227, hf⟩ := bind_some hf
    obtain ⟨some_228, h_some_228, hf⟩ := bind_some hf
    refine SB.seqB (fun kx_ => sb_asg (sl' := [sv script_220, sv words_here_222, sv joints_here_224, sv many_225, sv some_228, .any, .any, .any, .any, .any, .any, .any, .any, .any, .any, .any, .any]) rfl (EV.cast (EN.ev (en_call (ea_cons (ev_call (ea_cons (ev_var (i := 0) rfl) (ea_cons (ev_int 0) ea_nil)) h_r_226) (ea_cons (ev_int 6) ea_nil)) h_r_227)) (Option.some.inj h_some_228)) (kx_ _ _ ?_))
    obtain ⟨i_229, h_i_229, hf⟩ := bind_some hf
    obtain ⟨joint_230, h_joint_230, hf⟩ := bind_some hf
    refine SB.seqB (fun kx_ => sb_asg (sl' := [sv script_220, sv words_here_222, sv joints_here_224, sv many_225, sv some_228, sv joint_230, .any, .any, .any, .any, .any, .any, .any, .any, .any, .any, .any]) rfl (EV.cast (ev_op (ev_op (ev_var (i := 4) rfl) (ev_int 0) (r2_ixL h_i_229)) (ev_int 1000) r2_mod) (Option.some.inj h_joint_230)) (kx_ _ _ ?_))
    obtain ⟨i_231, h_i_231, hf⟩ := bind_some hf
    obtain ⟨rg_232, h_rg_232, hf⟩ := bind_some hf
    obtain ⟨zs_234, h_zs_234, hf⟩ := bind_some hf
    obtain ⟨widths_236, h_widths_236, hf⟩ := bind_some hf
    refine SB.seqB (fun kx_ => sb_asgO (sl' := fun p_widths_236 => [sv script_220, sv words_here_222, sv joints_here_224, sv many_225, sv some_228, sv joint_230, .at p_widths_236, .any, .any, .any, .any, .any, .any, .any, .any, .any, .any]) (fun _ => rfl) (EN.cast (en_lc (js := [16]) (fun x => [sv script_220, sv words_here_222, sv joints_here_224, sv many_225, sv some_228, sv joint_230, .any, .any, .any, .any, .any, .any, .any, .any, .any, .any, sv x]) h_zs_234 (it_rng1 (ea_cons (ev_op (ev_op (ev_var (i := 4) rfl) (ev_int 1) (r2_ixL h_i_231)) (ev_int 4) r2_mod) ea_nil) h_rg_232) (anyAt_of (by rfl)) (fun x => (gt_name rfl)) (sub_of (by rfl)) (fun _ _ x b h => by cases h; exact et_yes) (fun _ _ x z _ h => by obtain ⟨k_233, hx_⟩ : ∃ y, y = x := ⟨x, rfl⟩; subst hx_; obtain ⟨i_235, h_i_235, h⟩ := bind_some h; have hz_ := Option.some.inj h; subst hz_; exact EV.is (sl' := [sv script_220, sv words_here_222, sv joints_here_224, sv many_225, sv some_228, sv joint_230, .any, .any, .any, .any, .any, .any, .any, .any, .any, .any, sv k_233]) rfl (ev_op (ev_op (ev_var (i := 4) rfl) (ev_op (ev_int 2) (ev_var (i := 16) rfl) r2_add) (r2_ixL h_i_235)) (ev_int 100) r2_mod))) (Option.some.inj h_widths_236)) (fun p_widths_236 => (kx_ _ _ ?_)))
    obtain ⟨i_237, h_i_237, hf⟩ := bind_some hf
    obtain ⟨widths_238, h_widths_238, hf⟩ := bind_some hf
    refine SB.seqB (fun kx_ => sb_appO (i := 6) (j := 0) rfl rfl (ev_op (ev_int 1) (ev_op (ev_op (ev_var (i := 4) rfl) (ev_int 5) (r2_ixL h_i_237)) (ev_int 100) r2_mod) r2_add) h_widths_238 (ow1 := [ol p_widths_236 widths_238]) rfl (kx_ _ _ ?_))
    refine sb_freeze (i := 6) (j := 0) (sl' := [sv script_220, sv words_here_222, sv joints_here_224, sv many_225, sv some_228, sv joint_230, sv widths_238, .any, .any, .any, .any, .any, .any, .any, .any, .any, .any]) (ow1 := []) rfl rfl rfl rfl ?_
    obtain ⟨held_239, h_held_239, hf⟩ := bind_some hf
    refine SB.seqB (fun kx_ => sb_asg (sl' := [sv script_220, sv words_here_222, sv joints_here_224, sv many_225, sv some_228, sv joint_230, sv widths_238, sv held_239, .any, .any, .any, .any, .any, .any, .any, .any, .any]) rfl (EV.cast (EN.ev (en_cb (ea_cons (ev_var (i := 6) rfl) ea_nil) rc_list)) (Option.some.inj h_held_239)) (kx_ _ _ ?_))
    obtain ⟨tot_245, h_tot_245, hf⟩ := bind_some hf
    refine SB.seqB (fun kx_269 => sb_for (β := Int) (Sx := Unit) (fun s => [sv script_220, sv words_here_222, sv joints_here_224, sv many_225, sv some_228, sv joint_230, sv widths_238, sv held_239, .any, .any, .any, .any, .any, .any, .any, .any, .any]) (fun s => []) (fun x s => [sv script_220, sv words_here_222, sv joints_here_224, sv many_225, sv some_228, sv joint_230, sv widths_238, sv held_239, sv x, .any, .any, .any, .any, .any, .any, .any, .any]) [8] (fun xs s => forC (m_law_L1 words_here_222 joints_here_224 many_225 joint_230 widths_238 held_239) xs s = some tot_245) () (IT.m (it_list (EN.ev (en_slF (ev_var (i := 0) rfl) (eo_some (ev_int 2)) (eo_some (ev_int 42)))))) h_tot_245 (.keep (.keep (.keep (.keep (.keep (.keep (.keep (.keep (.keep (.keep (.keep (.keep (.keep (.keep (.keep (.keep (.keep .nil))))))))))))))))) (List.Sublist.refl _) (fun x s => (gt_name rfl)) ?_ ?_)
    · intro Kn1 b1 cell_240 rest_ s_ hP_242 N_ hN_241
      obtain ⟨c_, hc_243, hP_242⟩ := bind_some hP_242
      have q_244 := q.base b1
      unfold m_law_L1 at hc_243
      refine SB.is (sl' := [sv script_220, sv words_here_222, sv joints_here_224, sv many_225, sv some_228, sv joint_230, sv widths_238, sv held_239, sv cell_240, .any, .any, .any, .any, .any, .any, .any, .any]) (ow1 := []) rfl rfl ?_
      obtain ⟨r_246, h_r_246, hc_243⟩ := bind_some hc_243
      obtain ⟨first_247, h_first_247, hc_243⟩ := bind_some hc_243
      refine SB.seqB (fun kx_ => sb_asg (sl' := [sv script_220, sv words_here_222, sv joints_here_224, sv many_225, sv some_228, sv joint_230, sv widths_238, sv held_239, sv cell_240, sv first_247, .any, .any, .any, .any, .any, .any, .any]) rfl (EV.cast (ev_op (ev_var (i := 8) rfl) (ev_var (i := 3) rfl) (r2_modO h_r_246)) (Option.some.inj h_first_247)) (kx_ _ _ ?_))
      obtain ⟨r_248, h_r_248, hc_243⟩ := bind_some hc_243
      obtain ⟨till_249, h_till_249, hc_243⟩ := bind_some hc_243
      refine SB.seqB (fun kx_ => sb_asg (sl' := [sv script_220, sv words_here_222, sv joints_here_224, sv many_225, sv some_228, sv joint_230, sv widths_238, sv held_239, sv cell_240, sv first_247, sv till_249, .any, .any, .any, .any, .any, .any]) rfl (EV.cast (ev_op (ev_op (ev_var (i := 9) rfl) (ev_int 1) r2_add) (ev_op (ev_op (ev_var (i := 8) rfl) (ev_int 64) r2_div) (ev_op (ev_var (i := 3) rfl) (ev_var (i := 9) rfl) r2_sub) (r2_modO h_r_248)) r2_add) (Option.some.inj h_till_249)) (kx_ _ _ ?_))
      obtain ⟨row_250, h_row_250, hc_243⟩ := bind_some hc_243
      refine SB.seqB (fun kx_ => sb_asg (sl' := [sv script_220, sv words_here_222, sv joints_here_224, sv many_225, sv some_228, sv joint_230, sv widths_238, sv held_239, sv cell_240, sv first_247, sv till_249, sv row_250, .any, .any, .any, .any, .any]) rfl (EV.cast (ev_op (ev_op (ev_var (i := 8) rfl) (ev_int 4096) r2_div) (ev_int 60) r2_mod) (Option.some.inj h_row_250)) (kx_ _ _ ?_))
      obtain ⟨r_251, h_r_251, hc_243⟩ := bind_some hc_243
      obtain ⟨text_here_252, h_text_here_252, hc_243⟩ := bind_some hc_243
      refine SB.seqB (fun kx_ => sb_asg (sl' := [sv script_220, sv words_here_222, sv joints_here_224, sv many_225, sv some_228, sv joint_230, sv widths_238, sv held_239, sv cell_240, sv first_247, sv till_249, sv row_250, sv text_here_252, .any, .any, .any, .any]) rfl (EV.cast (ev_call (ea_cons (ev_var (i := 1) rfl) (ea_cons (ev_var (i := 9) rfl) (ea_cons (ev_var (i := 10) rfl) ea_nil))) h_r_251) (Option.some.inj h_text_here_252)) (kx_ _ _ ?_))
      obtain ⟨r_254, h_r_254, hc_243⟩ := bind_some hc_243
      refine SB.seqB (fun kx_256 => sb_if (b := (!decide (r_254 = text_here_252))) (et_test (ev_op (ev_call (ea_cons (ev_var (i := 1) rfl) (ea_cons (ev_var (i := 9) rfl) (ea_cons (ev_var (i := 10) rfl) ea_nil))) h_r_254) (ev_var (i := 12) rfl) r2_neS)) (fun hb_255 => ?_) (fun hb_255 => ?_))
      · have hc_243 := ite_t hb_255 hc_243
        cases hc_243
        replace hP_242 : some (Ctl.rt false) = some tot_245 := hP_242
        cases hP_242
        replace hf : some false = some r_ := hf
        cases hf
        exact sb_ret (ev_bool false) q_244 (List.Sublist.refl _)
      · have hc_243 := ite_f hb_255 hc_243
        refine sb_nx ?_
        refine kx_256 _ _ ?_
        obtain ⟨i_257, h_i_257, hc_243⟩ := bind_some hc_243
        obtain ⟨width_258, h_width_258, hc_243⟩ := bind_some hc_243
        refine SB.seqB (fun kx_ => sb_asg (sl' := [sv script_220, sv words_here_222, sv joints_here_224, sv many_225, sv some_228, sv joint_230, sv widths_238, sv held_239, sv cell_240, sv first_247, sv till_249, sv row_250, sv text_here_252, sv width_258, .any, .any, .any]) rfl (EV.cast (ev_op (ev_var (i := 6) rfl) (ev_cb (ea_cons (ev_var (i := 11) rfl) (ea_cons (ev_op (ev_cb (ea_cons (ev_var (i := 6) rfl) ea_nil) rc_len) (ev_int 1) r2_sub) ea_nil)) rc_min) (r2_ixL h_i_257)) (Option.some.inj h_width_258)) (kx_ _ _ ?_))
        obtain ⟨r_259, h_r_259, hc_243⟩ := bind_some hc_243
        obtain ⟨cost_260, h_cost_260, hc_243⟩ := bind_some hc_243
        refine SB.seqB (fun kx_ => sb_asg (sl' := [sv script_220, sv words_here_222, sv joints_here_224, sv many_225, sv some_228, sv joint_230, sv widths_238, sv held_239, sv cell_240, sv first_247, sv till_249, sv row_250, sv text_here_252, sv width_258, sv cost_260, .any, .any]) rfl (EV.cast (ev_call (ea_cons (ev_var (i := 1) rfl) (ea_cons (ev_var (i := 5) rfl) (ea_cons (ev_var (i := 7) rfl) (ea_cons (ev_tup (ea_cons (ev_var (i := 11) rfl) (ea_cons (ev_var (i := 9) rfl) (ea_cons (ev_var (i := 10) rfl) ea_nil)))) ea_nil)))) h_r_259) (Option.some.inj h_cost_260)) (kx_ _ _ ?_))
        obtain ⟨n_261, h_n_261, hc_243⟩ := bind_some hc_243
        obtain ⟨w_262, h_w_262, hc_243⟩ := bind_some hc_243
        obtain ⟨i_263, h_i_263, hc_243⟩ := bind_some hc_243
        obtain ⟨m_264, h_m_264, hc_243⟩ := bind_some hc_243
        obtain ⟨due_265, h_due_265, hc_243⟩ := bind_some hc_243
        refine SB.seqB (fun kx_ => sb_asg (sl' := [sv script_220, sv words_here_222, sv joints_here_224, sv many_225, sv some_228, sv joint_230, sv widths_238, sv held_239, sv cell_240, sv first_247, sv till_249, sv row_250, sv text_here_252, sv width_258, sv cost_260, sv due_265, .any]) rfl (EV.cast (ev_op (ev_op (ev_op (ev_var (i := 13) rfl) (ev_cb (ea_cons (ev_var (i := 12) rfl) ea_nil) (rc_lenS h_n_261)) r2_sub) (ev_int 2) (r2_powO h_w_262)) (ev_op (ev_var (i := 5) rfl) (ev_cb (ea_cons (ev_op (ev_var (i := 2) rfl) (ev_var (i := 10) rfl) (r2_ixL h_i_263)) ea_nil) rc_intB) (r2_mulO h_m_264)) r2_add) (Option.some.inj h_due_265)) (kx_ _ _ ?_))
        refine sb_if (b := (false || (!decide (cost_260 = due_265)))) (et_or (et_B (ev_cb (ea_cons (ev_var (i := 14) rfl) (ea_cons (ev_ty "bool") ea_nil)) (rc_isi (b := false) (by decide +kernel)))) (fun _ => (et_test (ev_op (ev_var (i := 14) rfl) (ev_var (i := 15) rfl) r2_neI)))) (fun hb_267 => ?_) (fun hb_267 => ?_)
        · have hc_243 := ite_t hb_267 hc_243
          cases hc_243
          replace hP_242 : some (Ctl.rt false) = some tot_245 := hP_242
          cases hP_242
          replace hf : some false = some r_ := hf
          cases hf
          exact sb_ret (ev_bool false) q_244 (List.Sublist.refl _)
        · have hc_243 := ite_f hb_267 hc_243
          refine sb_nx ?_
          cases hc_243
          exact fun σ Kn H s => hN_241 _ hP_242 σ Kn H ((s.le (.keep (.keep (.keep (.keep (.keep (.keep (.keep (.keep (.drop (.drop (.drop (.drop (.drop (.drop (.drop (.drop (.keep .nil)))))))))))))))))).sub (List.Sublist.refl _))
    · intro s_ h0
      cases h0
      refine kx_269 _ _ ?_
      refine SB.is (sl' := [sv script_220, sv words_here_222, sv joints_here_224, sv many_225, sv some_228, sv joint_230, sv widths_238, sv held_239, .any, .any, .any, .any, .any, .any, .any, .any, .any]) (ow1 := []) rfl rfl ?_
      cases hf
      exact sb_ret (ev_op (ev_var (i := 7) rfl) (ev_var (i := 6) rfl) r2_eqT) q (List.Sublist.refl _)
end
theorem all_mk (main : ∀ ns : List Int, ns.length ≤ 63 → m_law (Fz.mk ns) = some true) {l : PySem.W.OpenLaw} {w : World} {K : Fg} {h : Heap} {mg : Str → Option Value} {fa f_flat f_text_of f_width_at f_row_cost f__law_cell_at f__law_numbers f__law_piece f__law_words f__law_text f__law_joints f_law : Addr} (X : K.In h) (G : h.Ns mainGlobals mg) (hfa : mg "law" = some (.ref fa))
     {od_flat an_flat : Option Addr} {sl_flat : Array (Option Value)} {oc_flat kV_flat dc_flat pm_flat cd_flat ct_flat : Value} {od_text_of an_text_of : Option Addr} {sl_text_of : Array (Option Value)} {oc_text_of kV_text_of dc_text_of pm_text_of cd_text_of ct_text_of : Value} {od_width_at an_width_at : Option Addr} {sl_width_at : Array (Option Value)} {oc_width_at kV_width_at dc_width_at pm_width_at cd_width_at ct_width_at : Value} {od_row_cost an_row_cost : Option Addr} {sl_row_cost : Array (Option Value)} {oc_row_cost kV_row_cost dc_row_cost pm_row_cost cd_row_cost ct_row_cost : Value} {od__law_cell_at an__law_cell_at : Option Addr} {sl__law_cell_at : Array (Option Value)} {oc__law_cell_at kV__law_cell_at dc__law_cell_at pm__law_cell_at cd__law_cell_at ct__law_cell_at : Value} {od__law_numbers an__law_numbers : Option Addr} {sl__law_numbers : Array (Option Value)} {oc__law_numbers kV__law_numbers dc__law_numbers pm__law_numbers cd__law_numbers ct__law_numbers : Value} {od__law_piece an__law_piece : Option Addr} {sl__law_piece : Array (Option Value)} {oc__law_piece kV__law_piece dc__law_piece pm__law_piece cd__law_piece ct__law_piece : Value} {od__law_words an__law_words : Option Addr} {sl__law_words : Array (Option Value)} {oc__law_words kV__law_words dc__law_words pm__law_words cd__law_words ct__law_words : Value} {od__law_text an__law_text : Option Addr} {sl__law_text : Array (Option Value)} {oc__law_text kV__law_text dc__law_text pm__law_text cd__law_text ct__law_text : Value} {od__law_joints an__law_joints : Option Addr} {sl__law_joints : Array (Option Value)} {oc__law_joints kV__law_joints dc__law_joints pm__law_joints cd__law_joints ct__law_joints : Value} {od_law an_law : Option Addr} {sl_law : Array (Option Value)} {oc_law kV_law dc_law pm_law cd_law ct_law : Value}
    (a_flat : PySem.W.nsIn K mainGlobals "flat" = some (some (.ref f_flat))) (l_flat : K.lookup f_flat = some ⟨oc_flat, od_flat, .func (PySem.W.fnOf "flat" "flat" (defArgs s_flat) (defBody s_flat) (defScope s_flat) .none kV_flat dc_flat pm_flat an_flat cd_flat ct_flat), sl_flat⟩) (c_flat : PySem.W.codeIn K cd_flat "flat" = true) (k_flat : PySem.W.keepIn K (.ref f_flat) = true)
    (a_text_of : PySem.W.nsIn K mainGlobals "text_of" = some (some (.ref f_text_of))) (l_text_of : K.lookup f_text_of = some ⟨oc_text_of, od_text_of, .func (PySem.W.fnOf "text_of" "text_of" (defArgs s_text_of) (defBody s_text_of) (defScope s_text_of) .none kV_text_of dc_text_of pm_text_of an_text_of cd_text_of ct_text_of), sl_text_of⟩) (c_text_of : PySem.W.codeIn K cd_text_of "text_of" = true) (k_text_of : PySem.W.keepIn K (.ref f_text_of) = true)
    (a_width_at : PySem.W.nsIn K mainGlobals "width_at" = some (some (.ref f_width_at))) (l_width_at : K.lookup f_width_at = some ⟨oc_width_at, od_width_at, .func (PySem.W.fnOf "width_at" "width_at" (defArgs s_width_at) (defBody s_width_at) (defScope s_width_at) .none kV_width_at dc_width_at pm_width_at an_width_at cd_width_at ct_width_at), sl_width_at⟩) (c_width_at : PySem.W.codeIn K cd_width_at "width_at" = true) (k_width_at : PySem.W.keepIn K (.ref f_width_at) = true)
    (a_row_cost : PySem.W.nsIn K mainGlobals "row_cost" = some (some (.ref f_row_cost))) (l_row_cost : K.lookup f_row_cost = some ⟨oc_row_cost, od_row_cost, .func (PySem.W.fnOf "row_cost" "row_cost" (defArgs s_row_cost) (defBody s_row_cost) (defScope s_row_cost) .none kV_row_cost dc_row_cost pm_row_cost an_row_cost cd_row_cost ct_row_cost), sl_row_cost⟩) (c_row_cost : PySem.W.codeIn K cd_row_cost "row_cost" = true) (k_row_cost : PySem.W.keepIn K (.ref f_row_cost) = true)
    (a__law_cell_at : PySem.W.nsIn K mainGlobals "_law_cell_at" = some (some (.ref f__law_cell_at))) (l__law_cell_at : K.lookup f__law_cell_at = some ⟨oc__law_cell_at, od__law_cell_at, .func (PySem.W.fnOf "_law_cell_at" "_law_cell_at" (defArgs s__law_cell_at) (defBody s__law_cell_at) (defScope s__law_cell_at) .none kV__law_cell_at dc__law_cell_at pm__law_cell_at an__law_cell_at cd__law_cell_at ct__law_cell_at), sl__law_cell_at⟩) (c__law_cell_at : PySem.W.codeIn K cd__law_cell_at "_law_cell_at" = true) (k__law_cell_at : PySem.W.keepIn K (.ref f__law_cell_at) = true)
    (a__law_numbers : PySem.W.nsIn K mainGlobals "_law_numbers" = some (some (.ref f__law_numbers))) (l__law_numbers : K.lookup f__law_numbers = some ⟨oc__law_numbers, od__law_numbers, .func (PySem.W.fnOf "_law_numbers" "_law_numbers" (defArgs s__law_numbers) (defBody s__law_numbers) (defScope s__law_numbers) .none kV__law_numbers dc__law_numbers pm__law_numbers an__law_numbers cd__law_numbers ct__law_numbers), sl__law_numbers⟩) (c__law_numbers : PySem.W.codeIn K cd__law_numbers "_law_numbers" = true) (k__law_numbers : PySem.W.keepIn K (.ref f__law_numbers) = true)
    (a__law_piece : PySem.W.nsIn K mainGlobals "_law_piece" = some (some (.ref f__law_piece))) (l__law_piece : K.lookup f__law_piece = some ⟨oc__law_piece, od__law_piece, .func (PySem.W.fnOf "_law_piece" "_law_piece" (defArgs s__law_piece) (defBody s__law_piece) (defScope s__law_piece) .none kV__law_piece dc__law_piece pm__law_piece an__law_piece cd__law_piece ct__law_piece), sl__law_piece⟩) (c__law_piece : PySem.W.codeIn K cd__law_piece "_law_piece" = true) (k__law_piece : PySem.W.keepIn K (.ref f__law_piece) = true)
    (a__law_words : PySem.W.nsIn K mainGlobals "_law_words" = some (some (.ref f__law_words))) (l__law_words : K.lookup f__law_words = some ⟨oc__law_words, od__law_words, .func (PySem.W.fnOf "_law_words" "_law_words" (defArgs s__law_words) (defBody s__law_words) (defScope s__law_words) .none kV__law_words dc__law_words pm__law_words an__law_words cd__law_words ct__law_words), sl__law_words⟩) (c__law_words : PySem.W.codeIn K cd__law_words "_law_words" = true) (k__law_words : PySem.W.keepIn K (.ref f__law_words) = true)
    (a__law_text : PySem.W.nsIn K mainGlobals "_law_text" = some (some (.ref f__law_text))) (l__law_text : K.lookup f__law_text = some ⟨oc__law_text, od__law_text, .func (PySem.W.fnOf "_law_text" "_law_text" (defArgs s__law_text) (defBody s__law_text) (defScope s__law_text) .none kV__law_text dc__law_text pm__law_text an__law_text cd__law_text ct__law_text), sl__law_text⟩) (c__law_text : PySem.W.codeIn K cd__law_text "_law_text" = true) (k__law_text : PySem.W.keepIn K (.ref f__law_text) = true)
    (a__law_joints : PySem.W.nsIn K mainGlobals "_law_joints" = some (some (.ref f__law_joints))) (l__law_joints : K.lookup f__law_joints = some ⟨oc__law_joints, od__law_joints, .func (PySem.W.fnOf "_law_joints" "_law_joints" (defArgs s__law_joints) (defBody s__law_joints) (defScope s__law_joints) .none kV__law_joints dc__law_joints pm__law_joints an__law_joints cd__law_joints ct__law_joints), sl__law_joints⟩) (c__law_joints : PySem.W.codeIn K cd__law_joints "_law_joints" = true) (k__law_joints : PySem.W.keepIn K (.ref f__law_joints) = true)
    (a_law : PySem.W.nsIn K mainGlobals "law" = some (some (.ref f_law))) (l_law : K.lookup f_law = some ⟨oc_law, od_law, .func (PySem.W.fnOf "law" "law" (defArgs s_law) (defBody s_law) (defScope s_law) .none kV_law dc_law pm_law an_law cd_law ct_law), sl_law⟩) (c_law : PySem.W.codeIn K cd_law "law" = true) (k_law : PySem.W.keepIn K (.ref f_law) = true)
    (z_bool : PySem.W.nsIn K mainGlobals "bool" = some none)
    (z_enumerate : PySem.W.nsIn K mainGlobals "enumerate" = some none)
    (z_int : PySem.W.nsIn K mainGlobals "int" = some none)
    (z_isinstance : PySem.W.nsIn K mainGlobals "isinstance" = some none)
    (z_len : PySem.W.nsIn K mainGlobals "len" = some none)
    (z_list : PySem.W.nsIn K mainGlobals "list" = some none)
    (z_min : PySem.W.nsIn K mainGlobals "min" = some none)
    (z_range : PySem.W.nsIn K mainGlobals "range" = some none)
    (z_tuple : PySem.W.nsIn K mainGlobals "tuple" = some none) :
    ∃ fd : FuncData, (∀ (s : Shared) (v : Value), BindsTo s fd ⟨[v], []⟩ [("_law_script", v)]) ∧ ∀ base : Heap, K.In base → base.Ns mainGlobals mg → FnOk l.prog w K mg base CX0 4 fa fd ["_law_script"] (spLaw K) := by
  have e := hfa.symm.trans (PySem.W.mg_of X G a_law)
  cases e
  have F_flat := fun_mk (st := s_flat) l_flat c_flat k_flat
  have F_text_of := fun_mk (st := s_text_of) l_text_of c_text_of k_text_of
  have F_width_at := fun_mk (st := s_width_at) l_width_at c_width_at k_width_at
  have F_row_cost := fun_mk (st := s_row_cost) l_row_cost c_row_cost k_row_cost
  have F__law_cell_at := fun_mk (st := s__law_cell_at) l__law_cell_at c__law_cell_at k__law_cell_at
  have F__law_numbers := fun_mk (st := s__law_numbers) l__law_numbers c__law_numbers k__law_numbers
  have F__law_piece := fun_mk (st := s__law_piece) l__law_piece c__law_piece k__law_piece
  have F__law_words := fun_mk (st := s__law_words) l__law_words c__law_words k__law_words
  have F__law_text := fun_mk (st := s__law_text) l__law_text c__law_text k__law_text
  have F__law_joints := fun_mk (st := s__law_joints) l__law_joints c__law_joints k__law_joints
  have F_law := fun_mk (st := s_law) l_law c_law k_law
  have b_flat := F_flat.binds (ps := ["words"]) fun _ _ _ _ _ _ us hl => match us, hl with | [_], _ => rfl
  have b_text_of := F_text_of.binds (ps := ["words", "first", "till"]) fun _ _ _ _ _ _ us hl => match us, hl with | [_, _, _], _ => rfl
  have b_width_at := F_width_at.binds (ps := ["widths", "row"]) fun _ _ _ _ _ _ us hl => match us, hl with | [_, _], _ => rfl
  have b_row_cost := F_row_cost.binds (ps := ["words", "joint", "widths", "triple"]) fun _ _ _ _ _ _ us hl => match us, hl with | [_, _, _, _], _ => rfl
  have b__law_cell_at := F__law_cell_at.binds (ps := ["_law_script", "_law_k"]) fun _ _ _ _ _ _ us hl => match us, hl with | [_, _], _ => rfl
  have b__law_numbers := F__law_numbers.binds (ps := ["_law_cell", "_law_many"]) fun _ _ _ _ _ _ us hl => match us, hl with | [_, _], _ => rfl
  have b__law_piece := F__law_piece.binds (ps := ["_law_number"]) fun _ _ _ _ _ _ us hl => match us, hl with | [_], _ => rfl
  have b__law_words := F__law_words.binds (ps := ["_law_cells"]) fun _ _ _ _ _ _ us hl => match us, hl with | [_], _ => rfl
  have b__law_text := F__law_text.binds (ps := ["_law_words_here", "_law_first", "_law_till"]) fun _ _ _ _ _ _ us hl => match us, hl with | [_, _, _], _ => rfl
  have b__law_joints := F__law_joints.binds (ps := ["_law_words_here"]) fun _ _ _ _ _ _ us hl => match us, hl with | [_], _ => rfl
  have b_law := F_law.binds (ps := ["_law_script"]) fun _ _ _ _ _ _ us hl => match us, hl with | [_], _ => rfl
  let T : TX K mg := ⟨_, _, F_flat, b_flat, PySem.W.mg_of X G a_flat, _, _, F_text_of, b_text_of, PySem.W.mg_of X G a_text_of, _, _, F_width_at, b_width_at, PySem.W.mg_of X G a_width_at, _, _, F_row_cost, b_row_cost, PySem.W.mg_of X G a_row_cost, _, _, F__law_cell_at, b__law_cell_at, PySem.W.mg_of X G a__law_cell_at, _, _, F__law_numbers, b__law_numbers, PySem.W.mg_of X G a__law_numbers, _, _, F__law_piece, b__law_piece, PySem.W.mg_of X G a__law_piece, _, _, F__law_words, b__law_words, PySem.W.mg_of X G a__law_words, _, _, F__law_text, b__law_text, PySem.W.mg_of X G a__law_text, _, _, F__law_joints, b__law_joints, PySem.W.mg_of X G a__law_joints, _, _, F_law, b_law, PySem.W.mg_of X G a_law, PySem.W.mg_none_of X G z_bool, PySem.W.mg_none_of X G z_enumerate, PySem.W.mg_none_of X G z_int, PySem.W.mg_none_of X G z_isinstance, PySem.W.mg_none_of X G z_len, PySem.W.mg_none_of X G z_list, PySem.W.mg_none_of X G z_min, PySem.W.mg_none_of X G z_range, PySem.W.mg_none_of X G z_tuple⟩
  refine ⟨PySem.W.fnOf "law" "law" (defArgs s_law) (defBody s_law) (defScope s_law) .none kV_law dc_law pm_law an_law cd_law ct_law, fun s v => .of_eq rfl, fun base _ _ => ?_⟩
  exact fn_weak (ok_law T) main
end Wk60
/-! Wp: plain facts about the mirrors' words -/
namespace Wk
open PySem L2

theorem bs {α β : Type} (a : α) (f : α → Option β) : (some a).bind f = f a := by rw [Option.bind_some]
theorem bind_ok {α β : Type} {m : Option α} {f : α → Option β} {a : α} (h : m = some a) : m.bind f = f a := by rw [h]; rfl
theorem atI_ok {α : Type} {xs : List α} {i : Int} (h0 : 0 ≤ i) (h : i < xs.length) : atI xs i = xs[i.toNat]? := by
  obtain ⟨k, rfl⟩ := Int.eq_ofNat_of_zero_le h0
  have hk : k < xs.length := by omega
  have e : xs[k]? = some xs[k] := List.getElem?_eq_getElem hk
  rw [show ((k : Int)).toNat = k from rfl, e]
  exact atI_nat e
theorem atI_some {α : Type} {xs : List α} {i : Int} (h0 : 0 ≤ i) (h : i < xs.length) : ∃ x, atI xs i = some x ∧ xs[i.toNat]? = some x := by
  have hk : i.toNat < xs.length := by omega
  exact ⟨xs[i.toNat], by rw [atI_ok h0 h]; exact List.getElem?_eq_getElem hk, List.getElem?_eq_getElem hk⟩
theorem pick2 {α : Type} (x y : α) {k : Int} (h0 : 0 ≤ k) (h : k < 2) : atI [x, y] k = some (if k = 0 then x else y) := by
  rcases (show k = 0 ∨ k = 1 by omega) with rfl | rfl <;> rfl
theorem pick3 {α : Type} (x y z : α) {k : Int} (h0 : 0 ≤ k) (h : k < 3) : atI [x, y, z] k = some (if k = 0 then x else if k = 1 then y else z) := by
  rcases (show k = 0 ∨ k = 1 ∨ k = 2 by omega) with rfl | rfl | rfl <;> rfl
theorem pick4 {α : Type} (x y z u : α) {k : Int} (h0 : 0 ≤ k) (h : k < 4) : atI [x, y, z, u] k = some (if k = 0 then x else if k = 1 then y else if k = 2 then z else u) := by
  rcases (show k = 0 ∨ k = 1 ∨ k = 2 ∨ k = 3 by omega) with rfl | rfl | rfl | rfl <;> rfl
theorem forC_all {β R : Type} {f : β → Unit → Option (Ctl Unit R)} : ∀ {xs : List β}, (∀ x ∈ xs, f x () = some (.nx ())) → forC f xs () = some (.nx ())
  | [], _ => rfl
  | x :: xs, h => by
    unfold forC
    rw [h x List.mem_cons_self]
    exact forC_all fun y hy => h y (List.mem_cons_of_mem _ hy)
/-- a loop that always goes on, by an invariant -/
theorem forC_inv {β Sx R : Type} {f : β → Sx → Option (Ctl Sx R)} (I : List β → Sx → Prop) : ∀ {xs : List β} {s : Sx}, I xs s → (∀ x rest s, I (x :: rest) s → ∃ s', f x s = some (.nx s') ∧ I rest s') → ∃ s', forC f xs s = some (.nx s') ∧ I [] s'
  | [], s, h, _ => ⟨s, rfl, h⟩
  | x :: xs, s, h, hs => by
    obtain ⟨s', e, h'⟩ := hs x xs s h
    obtain ⟨s2, e2, h2⟩ := forC_inv I h' hs
    refine ⟨s2, ?_, h2⟩
    unfold forC
    rw [e]
    exact e2
theorem forS_inv {β Sx : Type} {f : β → Sx → Option Sx} (I : List β → Sx → Prop) : ∀ {xs : List β} {s : Sx}, I xs s → (∀ x rest s, I (x :: rest) s → ∃ s', f x s = some s' ∧ I rest s') → ∃ s', forS f xs s = some s' ∧ I [] s'
  | [], s, h, _ => ⟨s, rfl, h⟩
  | x :: xs, s, h, hs => by
    obtain ⟨s', e, h'⟩ := hs x xs s h
    obtain ⟨s2, e2, h2⟩ := forS_inv I h' hs
    refine ⟨s2, ?_, h2⟩
    unfold forS
    rw [e]
    exact e2
/-- a loop as a fold -/
theorem forS_fold {β Sx : Type} {f : β → Sx → Option Sx} (g : Sx → β → Sx) (I : List β → Sx → Prop) : ∀ {xs : List β} {s : Sx}, I xs s → (∀ x rest s, I (x :: rest) s → f x s = some (g s x) ∧ I rest (g s x)) → forS f xs s = some (xs.foldl g s)
  | [], s, h, _ => rfl
  | x :: xs, s, h, hs => by
    obtain ⟨e, h'⟩ := hs x xs s h
    unfold forS
    rw [e]
    exact forS_fold g I h' hs
theorem forS_cons {β Sx : Type} {f : β → Sx → Option Sx} {x : β} {xs : List β} {s s' : Sx} (h : f x s = some s') : forS f (x :: xs) s = forS f xs s' := by
  show ((f x s).bind _) = _
  rw [h]
  rfl
theorem forC_cons {β Sx R : Type} {f : β → Sx → Option (Ctl Sx R)} {x : β} {xs : List β} {s s' : Sx} (h : f x s = some (.nx s')) : forC f (x :: xs) s = forC f xs s' := by
  show ((f x s).bind _) = _
  rw [h]
  rfl
/-- by places -/
theorem forS_ix {β Sx : Type} {f : β → Sx → Option Sx} {xs : List β} (P : Nat → Sx → Prop) {s : Sx} (h0 : P 0 s) (step : ∀ (i : Nat) (hi : i < xs.length) s, P i s → ∃ s', f xs[i] s = some s' ∧ P (i + 1) s') : ∃ s', forS f xs s = some s' ∧ P xs.length s' := by
  have key : ∀ (m i : Nat) (s : Sx), i + m = xs.length → P i s → ∃ s', forS f (xs.drop i) s = some s' ∧ P xs.length s' := by
    intro m
    induction m with
    | zero =>
      intro i s hi hp
      have e : i = xs.length := by omega
      subst e
      rw [List.drop_length]
      exact ⟨s, rfl, hp⟩
    | succ m ih =>
      intro i s hi hp
      have hl : i < xs.length := by omega
      obtain ⟨s', e, hp'⟩ := step i hl s hp
      obtain ⟨r, e2, h2⟩ := ih (i + 1) s' (by omega) hp'
      refine ⟨r, ?_, h2⟩
      rw [List.drop_eq_getElem_cons hl, forS_cons e]
      exact e2
  have := key xs.length 0 s (by omega) h0
  rwa [List.drop_zero] at this
theorem forC_ix {β Sx R : Type} {f : β → Sx → Option (Ctl Sx R)} {xs : List β} (P : Nat → Sx → Prop) {s : Sx} (h0 : P 0 s) (step : ∀ (i : Nat) (hi : i < xs.length) s, P i s → ∃ s', f xs[i] s = some (.nx s') ∧ P (i + 1) s') : ∃ s', forC f xs s = some (.nx s') ∧ P xs.length s' := by
  have key : ∀ (m i : Nat) (s : Sx), i + m = xs.length → P i s → ∃ s', forC f (xs.drop i) s = some (.nx s') ∧ P xs.length s' := by
    intro m
    induction m with
    | zero =>
      intro i s hi hp
      have e : i = xs.length := by omega
      subst e
      rw [List.drop_length]
      exact ⟨s, rfl, hp⟩
    | succ m ih =>
      intro i s hi hp
      have hl : i < xs.length := by omega
      obtain ⟨s', e, hp'⟩ := step i hl s hp
      obtain ⟨r, e2, h2⟩ := ih (i + 1) s' (by omega) hp'
      refine ⟨r, ?_, h2⟩
      rw [List.drop_eq_getElem_cons hl, forC_cons e]
      exact e2
  have := key xs.length 0 s (by omega) h0
  rwa [List.drop_zero] at this
/-- two loops over one list, turn by turn -/
theorem forS2_ix {β S1 S2 : Type} {f1 : β → S1 → Option S1} {f2 : β → S2 → Option S2} {xs : List β} (P : Nat → S1 → S2 → Prop) {s1 : S1} {s2 : S2} (h0 : P 0 s1 s2)
    (step : ∀ (i : Nat) (hi : i < xs.length) s1 s2, P i s1 s2 → ∃ s1' s2', f1 xs[i] s1 = some s1' ∧ f2 xs[i] s2 = some s2' ∧ P (i + 1) s1' s2') : ∃ r1 r2, forS f1 xs s1 = some r1 ∧ forS f2 xs s2 = some r2 ∧ P xs.length r1 r2 := by
  have key : ∀ (m i : Nat) (s1 : S1) (s2 : S2), i + m = xs.length → P i s1 s2 → ∃ r1 r2, forS f1 (xs.drop i) s1 = some r1 ∧ forS f2 (xs.drop i) s2 = some r2 ∧ P xs.length r1 r2 := by
    intro m
    induction m with
    | zero =>
      intro i s1 s2 hi hp
      have e : i = xs.length := by omega
      subst e
      rw [List.drop_length]
      exact ⟨s1, s2, rfl, rfl, hp⟩
    | succ m ih =>
      intro i s1 s2 hi hp
      have hl : i < xs.length := by omega
      obtain ⟨a, b, e1, e2, hp'⟩ := step i hl s1 s2 hp
      obtain ⟨r1, r2, h1, h2, h3⟩ := ih (i + 1) a b (by omega) hp'
      refine ⟨r1, r2, ?_, ?_, h3⟩
      · rw [List.drop_eq_getElem_cons hl, forS_cons e1]
        exact h1
      · rw [List.drop_eq_getElem_cons hl, forS_cons e2]
        exact h2
  have := key xs.length 0 s1 s2 (by omega) h0
  rwa [List.drop_zero] at this
theorem enumI_at {α : Type} (xs : List α) (i : Nat) (hi : i < (enumI xs).length) : (enumI xs)[i] = ((i : Int), xs[i]'(by simpa [enumI] using hi), ()) := by simp [enumI]
theorem whileS_inv {Sx : Type} {c : Sx → Option Bool} {f : Sx → Option Sx} (I : Sx → Prop) (μ : Sx → Nat) (step : ∀ s, I s → ∃ b, c s = some b ∧ (b = true → ∃ s', f s = some s' ∧ I s' ∧ μ s' < μ s)) :
    ∀ (n : Nat) {s : Sx}, I s → μ s < n → ∃ s', whileS c f n s = some s' ∧ I s' ∧ c s' = some false
  | 0, _, _, h => absurd h (Nat.not_lt_zero _)
  | n + 1, s, hI, hn => by
    obtain ⟨b, hb, hs⟩ := step s hI
    unfold whileS
    rw [hb]
    cases b with
    | false => exact ⟨s, rfl, hI, hb⟩
    | true =>
      obtain ⟨s', e, hI', hm⟩ := hs rfl
      obtain ⟨s2, e2, h2⟩ := whileS_inv I μ step n hI' (by omega)
      refine ⟨s2, ?_, h2⟩
      show ((f s).bind _) = _
      rw [e]
      exact e2
theorem whileF_inv {Sx : Type} {c : Sx → Option Bool} {f : Sx → Option Sx} (I : Sx → Prop) (μ : Sx → Nat) (step : ∀ s, I s → ∃ b, c s = some b ∧ (b = true → ∃ s', f s = some s' ∧ I s' ∧ μ s' < μ s)) {s : Sx} (h : I s) :
    ∃ s', whileF c f s = some s' ∧ I s' ∧ c s' = some false := by
  obtain ⟨s', e, h1, h2⟩ := whileS_inv I μ step (μ s + 1) h (Nat.lt_succ_self _)
  exact ⟨s', whileF_of e, h1, h2⟩
theorem cut_len {α : Type} (xs : List α) (lo hi : Option Int) : (cut xs lo hi).length ≤ xs.length := by
  unfold cut
  rw [List.length_take, List.length_drop]
  omega
theorem cut_mem {α : Type} {xs : List α} {lo hi : Option Int} {x : α} (h : x ∈ cut xs lo hi) : x ∈ xs := List.mem_of_mem_drop (List.mem_of_mem_take h)
theorem cut_from {α : Type} (xs : List α) (k : Nat) : cut xs (some (k : Int)) none = xs.drop k := by
  unfold cut
  rw [HT.sIx_nat, HT.sIx_none]
  by_cases h : k ≤ xs.length
  · rw [Nat.min_eq_left h, List.take_of_length_le (by rw [List.length_drop]; omega)]
  · rw [Nat.min_eq_right (by omega), List.drop_eq_nil_of_le (Nat.le_refl _), List.drop_eq_nil_of_le (show xs.length ≤ k by omega)]
    exact List.take_nil
theorem cut_to {α : Type} (xs : List α) (k : Nat) : cut xs none (some (k : Int)) = xs.take k := by
  unfold cut
  rw [HT.sIx_nat, HT.sIx_none, List.drop_zero, Nat.sub_zero]
  by_cases h : k ≤ xs.length
  · rw [Nat.min_eq_left h]
  · rw [Nat.min_eq_right (by omega), List.take_of_length_le (Nat.le_refl _), List.take_of_length_le (by omega)]
theorem rngO_ok {lo hi : Int} (h1 : -1000000000000 ≤ lo) (h2 : lo ≤ 1000000000000) (h3 : -1000000000000 ≤ hi) (h4 : hi ≤ 1000000000000) : rngO lo hi = some (irange lo hi) := if_pos ⟨h1, h2, h3, h4⟩
theorem irange_len (lo hi : Int) : (irange lo hi).length = (hi - lo).toNat := by simp [irange]
theorem enumI_len {α : Type} (xs : List α) : (enumI xs).length = xs.length := by simp [enumI]
theorem lcM_len {β γ : Type} {c : β → Option Bool} {f : β → Option γ} {xs : List β} (h : xs.length < 1000000) : lcM c f xs = lcGo c f xs := if_pos h
theorem lcGo_all {β γ : Type} {f : β → Option γ} (g : β → γ) : ∀ {xs : List β}, (∀ x ∈ xs, f x = some (g x)) → lcGo (fun _ => some true) f xs = some (xs.map g)
  | [], _ => rfl
  | x :: xs, h => by
    unfold lcGo
    show ((f x).bind _) = _
    rw [h x List.mem_cons_self, lcGo_all g fun y hy => h y (List.mem_cons_of_mem _ hy)]
    rfl
theorem lcGo_if {β γ : Type} {c : β → Option Bool} {f : β → Option γ} (p : β → Bool) (g : β → γ) : ∀ {xs : List β}, (∀ x ∈ xs, c x = some (p x)) → (∀ x ∈ xs, p x = true → f x = some (g x)) → lcGo c f xs = some ((xs.filter p).map g)
  | [], _, _ => rfl
  | x :: xs, hc, h => by
    unfold lcGo
    rw [hc x List.mem_cons_self]
    have ih := lcGo_if p g (xs := xs) (fun y hy => hc y (List.mem_cons_of_mem _ hy)) (fun y hy => h y (List.mem_cons_of_mem _ hy))
    cases e : p x with
    | true =>
      show ((f x).bind _) = _
      rw [h x List.mem_cons_self e, ih, List.filter_cons_of_pos e]
      rfl
    | false =>
      show lcGo c f xs = _
      rw [ih, List.filter_cons_of_neg (by rw [e]; exact Bool.false_ne_true)]
theorem lcM_all {β γ : Type} {f : β → Option γ} (g : β → γ) {xs : List β} (hl : xs.length < 1000000) (h : ∀ x ∈ xs, f x = some (g x)) : lcM (fun _ => some true) f xs = some (xs.map g) := by
  rw [lcM_len hl, lcGo_all g h]
/-- draws, one an item -/
theorem lcSGo_inv {β γ Sx : Type} {f : β → Sx → Option (γ × Sx)} (I : Sx → Prop) (P : γ → Prop) (step : ∀ x s, I s → ∃ z s', f x s = some (z, s') ∧ I s' ∧ P z) :
    ∀ {xs : List β} {s : Sx}, I s → ∃ zs s', lcSGo f xs s = some (zs, s') ∧ I s' ∧ zs.length = xs.length ∧ ∀ z ∈ zs, P z
  | [], s, h => ⟨[], s, rfl, h, rfl, fun _ hz => nomatch hz⟩
  | x :: xs, s, h => by
    obtain ⟨z, s', e, h', hp⟩ := step x s h
    obtain ⟨zs, s2, e2, h2, hl, hz⟩ := lcSGo_inv I P step (xs := xs) h'
    refine ⟨z :: zs, s2, ?_, h2, by rw [List.length_cons, List.length_cons, hl], fun y hy => ?_⟩
    · unfold lcSGo
      rw [e]
      show ((lcSGo f xs s').bind _) = _
      rw [e2]
      rfl
    · rcases List.mem_cons.mp hy with rfl | hy
      · exact hp
      · exact hz y hy
theorem lcS_inv {β γ Sx : Type} {f : β → Sx → Option (γ × Sx)} (I : Sx → Prop) (P : γ → Prop) (step : ∀ x s, I s → ∃ z s', f x s = some (z, s') ∧ I s' ∧ P z) {xs : List β} {s : Sx} (hl : xs.length < 1000000) (h : I s) :
    ∃ zs s', lcS f xs s = some (zs, s') ∧ I s' ∧ zs.length = xs.length ∧ ∀ z ∈ zs, P z := by
  unfold lcS
  rw [if_pos hl]
  exact lcSGo_inv I P step h
theorem forS_app {β γ : Type} {f : β → List γ → Option (List γ)} (g : β → γ) : ∀ {xs : List β} {s : List γ}, s.length + xs.length ≤ 1000000 → (∀ x ∈ xs, ∀ s : List γ, s.length < 1000000 → f x s = some (s ++ [g x])) → forS f xs s = some (s ++ xs.map g)
  | [], s, _, _ => by rw [List.map_nil, List.append_nil]; rfl
  | x :: xs, s, hl, h => by
    rw [List.length_cons] at hl
    rw [forS_cons (h x List.mem_cons_self s (by omega)), forS_app g (by rw [List.length_append, List.length_singleton]; omega) fun y hy => h y (List.mem_cons_of_mem _ hy), List.map_cons, List.append_assoc]
    rfl
theorem enumI_mem {α : Type} [Rp α] {xs : List α} {y : Int × α × Unit} (h : y ∈ enumI xs) : ∃ (i : Nat) (x : α), xs[i]? = some x ∧ y = ((i : Int), x, ()) := by
  obtain ⟨i, hi⟩ := List.getElem?_of_mem h
  obtain ⟨x, hx, e⟩ := enum_get hi
  exact ⟨i, x, hx, e⟩
theorem zipI_mem {α β : Type} [Rp α] [Rp β] {xs : List α} {ys : List β} {z : α × β × Unit} (h : z ∈ zipI xs ys) : ∃ (i : Nat) (x : α) (y : β), xs[i]? = some x ∧ ys[i]? = some y ∧ z = (x, y, ()) := by
  obtain ⟨i, hi⟩ := List.getElem?_of_mem h
  obtain ⟨x, y, hx, hy, e⟩ := zip_get hi
  exact ⟨i, x, y, hx, hy, e⟩
/-! texts -/
theorem len_app (x y : Str) : (x ++ y).length = x.length + y.length := by
  show (x.cps ++ y.cps).size = _
  rw [Array.size_append]
  rfl
theorem ok_app {x y : Str} (hx : PyData.strOk x = true) (hy : PyData.strOk y = true) : PyData.strOk (x ++ y) = true := by
  show (x.cps ++ y.cps).all _ = true
  rw [Array.all_append]
  exact Bool.and_eq_true_iff.mpr ⟨hx, hy⟩
theorem ok_join {s : Str} (hs : PyData.strOk s = true) : ∀ {ys : List Str}, (∀ y ∈ ys, PyData.strOk y = true) → PyData.strOk (Str.join s ys) = true
  | [], _ => by
    unfold Str.join
    decide +kernel
  | [x], h => h x List.mem_cons_self
  | x :: y :: r, h => ok_app (ok_app (h x List.mem_cons_self) hs) (ok_join hs fun z hz => h z (List.mem_cons_of_mem _ hz))
theorem joinO_ok {s : Str} {ys : List Str} (h : (ys.map (·.length)).sum + ys.length * s.length ≤ 1000000) : joinO s ys = some (Str.join s ys) := by
  unfold joinO
  rw [if_pos h, TL.join_eq]
/-- a sign of a written text -/
theorem ixS_ok {s : Str} {i : Int} (hl : s.length ≤ 100000) (h0 : 0 ≤ i) (h : i < (s.length : Int)) (hs : PyData.strOk s = true) : ∃ c, ixS s i = some ⟨#[c]⟩ ∧ PyData.strOk ⟨#[c]⟩ = true ∧ (⟨#[c]⟩ : Str).length = 1 := by
  have hl2 : s.cps.toList.length = s.length := Array.length_toList
  obtain ⟨c, e, e2⟩ := atI_some (xs := s.cps.toList) h0 (by rw [hl2]; exact h)
  refine ⟨c, ?_, ?_, rfl⟩
  · unfold ixS
    rw [if_pos hl, e]
    rfl
  · have hm : c ∈ s.cps := Array.mem_toList_iff.mp (List.mem_of_getElem? e2)
    have := Array.all_eq_true'.mp hs c hm
    show (#[c] : Array Nat).all _ = true
    simpa using this
/-! dicts, and more -/
theorem cut_init {α : Type} (xs : List α) : cut xs none (some (-(1 : Int))) = xs.dropLast := by
  unfold cut
  rw [HT.sIx_none, List.drop_zero, Nat.sub_zero, List.dropLast_eq_take]
  have e : HT.sIx xs.length xs.length (some (-(1 : Int))) = (-(1 : Int) + (xs.length : Int)).toNat := rfl
  rw [e]
  congr 1
  omega
theorem mem_irange {x a b : Int} : x ∈ irange a b ↔ a ≤ x ∧ x < b := by
  unfold irange
  rw [List.mem_map]
  constructor
  · rintro ⟨k, hk, rfl⟩
    rw [List.mem_range] at hk
    omega
  · intro h
    exact ⟨(x - a).toNat, List.mem_range.mpr (by omega), by omega⟩
section
variable {κ β : Type} [DecidableEq κ]
theorem getD_pos {p : κ × β} {r : List (κ × β)} {k : κ} (e : p.1 = k) : getD (p :: r) k = some p.2 := by simp [getD, List.find?_cons, e]
theorem getD_neg {p : κ × β} {r : List (κ × β)} {k : κ} (e : ¬ p.1 = k) : getD (p :: r) k = getD r k := by simp [getD, List.find?_cons, e]
theorem getD_map (k j : κ) (y : β) : ∀ kvs : List (κ × β), getD (kvs.map fun kv => if kv.1 = k then (kv.1, y) else kv) j = (getD kvs j).map fun x => if j = k then y else x
  | [] => rfl
  | p :: r => by
    rw [List.map_cons]
    have ih := getD_map k j y r
    by_cases a : p.1 = k
    · rw [if_pos a]
      by_cases b : p.1 = j
      · rw [getD_pos (p := (p.1, y)) b, getD_pos b, Option.map_some, if_pos (b.symm.trans a)]
      · rw [getD_neg (p := (p.1, y)) b, getD_neg b, ih]
    · rw [if_neg a]
      by_cases b : p.1 = j
      · rw [getD_pos b, getD_pos b, Option.map_some, if_neg (fun z => a (b.trans z))]
      · rw [getD_neg b, getD_neg b, ih]
theorem getD_snoc (k j : κ) (y : β) : ∀ kvs : List (κ × β), getD kvs k = none → getD (kvs ++ [(k, y)]) j = if j = k then some y else getD kvs j
  | [], _ => by
    by_cases e : k = j
    · rw [List.nil_append, getD_pos (p := (k, y)) e, if_pos e.symm]
    · rw [List.nil_append, getD_neg (p := (k, y)) e, if_neg (Ne.symm e)]
  | p :: r, h => by
    have hk : ¬ p.1 = k := fun e => by rw [getD_pos e] at h; cases h
    rw [getD_neg hk] at h
    have ih := getD_snoc k j y r h
    rw [List.cons_append]
    by_cases e : p.1 = j
    · rw [getD_pos e, getD_pos e, if_neg (fun z => hk (e.trans z))]
    · rw [getD_neg e, getD_neg e, ih]
theorem getD_put (kvs : List (κ × β)) (k j : κ) (y : β) : getD (putD kvs k y) j = if j = k then some y else getD kvs j := by
  unfold putD
  by_cases a : (getD kvs k).isSome = true
  · rw [if_pos a, getD_map]
    by_cases e : j = k
    · obtain ⟨x, hx⟩ := Option.isSome_iff_exists.mp a
      rw [if_pos e, e, hx, Option.map_some, if_pos rfl]
    · rw [if_neg e]
      cases getD kvs j with
      | none => rfl
      | some x => rw [Option.map_some, if_neg e]
  · rw [if_neg a]
    refine getD_snoc k j y kvs ?_
    cases q : getD kvs k with
    | none => rfl
    | some x => rw [q] at a; exact (a rfl).elim
theorem len_put (kvs : List (κ × β)) (k : κ) (y : β) : (putD kvs k y).length ≤ kvs.length + 1 := by
  unfold putD
  split
  · rw [List.length_map]; omega
  · rw [List.length_append, List.length_cons, List.length_nil]; omega
theorem putO_ok {d : Dc κ β} {k : κ} {y : β} (h : d.l.length < 1000000) : putO d k y = some ⟨putD d.l k y⟩ := if_pos h
end
theorem forC_any {β R : Type} {f : β → Unit → Option (Ctl Unit R)} {r : R} (p : β → Bool) : ∀ {xs : List β}, (∀ x ∈ xs, f x () = some (if p x = true then .rt r else .nx ())) → forC f xs () = some (if xs.any p = true then .rt r else .nx ())
  | [], _ => rfl
  | x :: xs, h => by
    have hx := h x List.mem_cons_self
    cases e : p x with
    | true =>
      rw [e] at hx
      show ((f x ()).bind _) = _
      rw [hx, List.any_cons, e]
      rfl
    | false =>
      rw [e] at hx
      rw [forC_cons (s' := ()) hx, forC_any p fun y hy => h y (List.mem_cons_of_mem _ hy), List.any_cons, e]
      rfl
end Wk
set_option synthInstance.maxHeartbeats 400000
set_option synthInstance.maxSize 2000
namespace Wk60
open PySem L2 Wk
theorem cell_at {ns : List Int} (k : Int) (h0 : 0 ≤ k) : ∃ c, m__law_cell_at (Fz.mk ns) k = some c := by
  unfold m__law_cell_at
  by_cases h : k < (ns.length : Int)
  · obtain ⟨x, e, _⟩ := atI_some (xs := ns) h0 h
    exact ⟨x, by rw [if_pos (decide_eq_true h), e]; rfl⟩
  · exact ⟨0, by rw [if_neg (by simpa using h)]⟩
theorem numbers_ok (cell many : Int) (h0 : 0 ≤ many) (hm : many ≤ 1000) : ∃ f, m__law_numbers cell many = some f ∧ f.length = many.toNat := by
  unfold m__law_numbers
  simp only [bs]
  by_cases hc : 0 ≤ cell - 1000000000000000000
  · rw [decide_eq_true hc]
    simp only [if_true]
    rw [rngO_ok (by omega) (by omega) (by omega) (by omega)]
    simp only [bs]
    obtain ⟨⟨n, f⟩, e, h⟩ := forS_inv (f := m__law_numbers_L1) (fun rest s => s.2.length + rest.length = many.toNat) (xs := irange 0 many) (s := (cell - 1000000000000000000, [])) (by rw [irange_len]; simp) (fun x rest s hs => by
      obtain ⟨n, f⟩ := s
      have hs : f.length + (rest.length + 1) = many.toNat := hs
      refine ⟨(n / 5040, f ++ [n % 5040]), ?_, ?_⟩
      · unfold m__law_numbers_L1
        simp only [appO_ok (show f.length < 1000000 by omega), bs]
      · show (f ++ [n % 5040]).length + rest.length = _
        rw [List.length_append, List.length_singleton]
        omega)
    rw [e]
    exact ⟨f, rfl, h⟩
  · rw [decide_eq_false hc]
    simp only [Bool.false_eq_true, if_false, bs]
    rw [rngO_ok (by omega) (by omega) (by omega) (by omega)]
    simp only [bs]
    obtain ⟨⟨n, f⟩, e, h⟩ := forS_inv (f := m__law_numbers_L2) (fun rest s => s.2.length + rest.length = many.toNat + 1) (xs := irange 0 (many + 1)) (s := (cell % 2147483647, [])) (by rw [irange_len]; show 0 + _ = _; omega) (fun x rest s hs => by
      obtain ⟨n, f⟩ := s
      have hs : f.length + (rest.length + 1) = many.toNat + 1 := hs
      refine ⟨((n + x + 1) * 48271 % 2147483647, f ++ [((n + x + 1) * 48271 % 2147483647) * 69621 % 2147483629]), ?_, ?_⟩
      · unfold m__law_numbers_L2
        simp only [appO_ok (show f.length < 1000000 by omega), bs]
      · show (f ++ [((n + x + 1) * 48271 % 2147483647) * 69621 % 2147483629]).length + rest.length = _
        rw [List.length_append, List.length_singleton]
        omega)
    rw [e]
    simp only [bs]
    rw [show cut f (some (1 : Int)) none = f.drop 1 from cut_from f 1]
    have h : f.length + 0 = many.toNat + 1 := h
    exact ⟨_, rfl, by rw [List.length_drop]; omega⟩
abbrev T := Str × Bool × Unit
def pw (w : Tu Str) : List T := (enumI w.l).map fun y => (y.2.1, decide (y.1 + 1 < (w.l.length : Int)), ())
def fl : List (Tu Str) → List T
  | [] => []
  | w :: r => pw w ++ fl r
theorem pw_len (w : Tu Str) : (pw w).length = w.l.length := by
  unfold pw
  rw [List.length_map, enumI_len]
structure WordOk (w : Tu Str) : Prop where
  one : 1 ≤ w.l.length
  six : w.l.length ≤ 6
  p : ∀ x ∈ w.l, x.length ≤ 12
/-! ### folds -/
theorem forS_appd {β Sx : Type} {f : β → Sx → Option Sx} : ∀ (xs ys : List β) (s : Sx), forS f (xs ++ ys) s = (forS f xs s).bind fun s => forS f ys s
  | [], _, _ => rfl
  | x :: xs, ys, s => by
    show ((f x s).bind fun s => forS f (xs ++ ys) s) = ((f x s).bind fun s => forS f xs s).bind fun s => forS f ys s
    cases f x s with
    | none => rfl
    | some s' => exact forS_appd xs ys s'
theorem forS_map {β γ Sx : Type} {f : β → Sx → Option Sx} {g : γ → Sx → Option Sx} (h : β → γ) : ∀ (xs : List β) (s : Sx), (∀ x ∈ xs, ∀ s, f x s = g (h x) s) → forS f xs s = forS g (xs.map h) s
  | [], _, _ => rfl
  | x :: xs, s, e => by
    show ((f x s).bind fun s => forS f xs s) = ((g (h x) s).bind fun s => forS g (xs.map h) s)
    rw [e x List.mem_cons_self]
    cases g (h x) s with
    | none => rfl
    | some s' => exact forS_map h xs s' fun y hy => e y (List.mem_cons_of_mem _ hy)
/-! ### the pieces -/
theorem flat_go : ∀ (W : List (Tu Str)) (acc : List T), acc.length + (fl W).length ≤ 1000000 → forS m_flat_L1 W acc = some (acc ++ fl W)
  | [], acc, _ => by rw [show fl [] = [] from rfl, List.append_nil]; rfl
  | w :: W, acc, h => by
    have e : fl (w :: W) = pw w ++ fl W := rfl
    rw [e, List.length_append, pw_len] at h
    rw [forS_cons (s' := acc ++ pw w) ?_, flat_go W _ (by rw [List.length_append, pw_len]; omega), e, List.append_assoc]
    unfold m_flat_L1
    rw [forS_app (fun y => ((y.2.1, decide (y.1 + 1 < (w.l.length : Int)), ()) : T)) (by rw [enumI_len]; omega) fun y _ s hs => by
      obtain ⟨k, p, u⟩ := y
      unfold m_flat_L2
      show ((appO s (p, decide (k + 1 < (w.l.length : Int)), ())).bind fun t => some t) = _
      rw [appO_ok hs]
      rfl]
    rfl
theorem flat_ok {W : List (Tu Str)} (h : (fl W).length ≤ 1000) : m_flat (Tu.mk W) = some (fl W) := by
  unfold m_flat
  simp only [bs]
  rw [flat_go W [] (by simp; omega), List.nil_append]
  rfl
theorem joint_word {w : Tu Str} (h : 1 ≤ w.l.length) : (pw w).map (·.2.1) = List.replicate (w.l.length - 1) true ++ [false] := by
  refine List.ext_getElem ?_ fun i h1 h2 => ?_
  · rw [List.length_map, pw_len, List.length_append, List.length_replicate, List.length_singleton]
    omega
  · rw [List.length_map, pw_len] at h1
    rw [List.getElem_map]
    have e : (pw w)[i]'(by rw [pw_len]; exact h1) = (w.l[i], decide ((i : Int) + 1 < (w.l.length : Int)), ()) := by
      unfold pw
      rw [List.getElem_map, enumI_at]
    rw [e]
    show decide ((i : Int) + 1 < (w.l.length : Int)) = _
    by_cases hi : i < w.l.length - 1
    · rw [List.getElem_append_left (by rw [List.length_replicate]; exact hi), List.getElem_replicate, decide_eq_true (by omega)]
    · rw [List.getElem_append_right (by rw [List.length_replicate]; omega), decide_eq_false (by omega)]
      simp
theorem rep1 : ∀ n : Nat, (List.replicate n [true]).flatten = List.replicate n true
  | 0 => rfl
  | n + 1 => by
    rw [List.replicate_succ, List.flatten_cons, rep1 n, List.replicate_succ]
    rfl
theorem joints_go : ∀ (W : List (Tu Str)) (acc : List Bool), (∀ w ∈ W, WordOk w) → acc.length + (fl W).length ≤ 1000000 → forS m__law_joints_L1 W acc = some (acc ++ (fl W).map (·.2.1))
  | [], acc, _, _ => by rw [show fl [] = [] from rfl, List.map_nil, List.append_nil]; rfl
  | w :: W, acc, hw, h => by
    have e : fl (w :: W) = pw w ++ fl W := rfl
    have hk := hw w List.mem_cons_self
    have h1 := hk.one
    have h6 := hk.six
    rw [e, List.length_append, pw_len] at h
    have hlen : (acc ++ (pw w).map (·.2.1)).length = acc.length + w.l.length := by rw [List.length_append, List.length_map, pw_len]
    rw [forS_cons (s' := acc ++ (pw w).map (·.2.1)) ?_, joints_go W _ (fun x hx => hw x (List.mem_cons_of_mem _ hx)) (by omega), e, List.map_append, List.append_assoc]
    unfold m__law_joints_L1
    have er : repO ([true] : List Bool) ((w.l.length : Int) - 1) = some (List.replicate (w.l.length - 1) true) := by
      unfold repO
      rw [if_pos ⟨by omega, by omega, by show 1 * _ ≤ _; omega⟩, show ((w.l.length : Int) - 1).toNat = w.l.length - 1 by omega, rep1]
    rw [er]
    simp only [bs]
    rw [catO_ok (by rw [List.length_replicate]; omega)]
    simp only [bs]
    rw [catO_ok (by rw [List.length_append, List.length_replicate, List.length_singleton]; omega)]
    simp only [bs]
    rw [joint_word h1, List.append_assoc]
theorem joints_ok {W : List (Tu Str)} (hw : ∀ w ∈ W, WordOk w) (h : (fl W).length ≤ 1000) : m__law_joints (Tu.mk W) = some (false :: (fl W).map (·.2.1)) := by
  unfold m__law_joints
  simp only [bs]
  rw [joints_go W [false] hw (by show 1 + _ ≤ _; omega)]
  rfl
/-! ### the texts -/
def G (first till : Int) : T → Str × Int → Option (Str × Int) := fun x s =>
  if (decide (first ≤ s.2) && decide (s.2 < till)) = true then
    (addS s.1 x.1).bind fun t => (if (decide (s.2 + 1 = till) && x.2.1) = true then addS t "-" else some t).bind fun t =>
      (if (decide (s.2 + 1 < till) && !x.2.1) = true then addS t " " else some t).bind fun t => some (t, s.2 + 1)
  else some (s.1, s.2 + 1)
theorem L2_G (first till : Int) (w : Tu Str) (k : Int) (hk : k < (w.l.length : Int)) (p : Str) (s : Str × Int) : m__law_text_L2 first till w (k, p, ()) s = G first till (p, decide (k + 1 < (w.l.length : Int)), ()) s := by
  obtain ⟨t, pl⟩ := s
  have hd : decide (k + 1 = (w.l.length : Int)) = !decide (k + 1 < (w.l.length : Int)) := by
    by_cases h : k + 1 < (w.l.length : Int)
    · rw [decide_eq_true h, decide_eq_false (by omega)]
      rfl
    · rw [decide_eq_false h, decide_eq_true (by omega)]
      rfl
  unfold m__law_text_L2 G
  simp only [hd]
  generalize decide (k + 1 < (w.l.length : Int)) = j
  cases (decide (first ≤ pl) && decide (pl < till)) with
  | false => rfl
  | true =>
    simp only [if_true]
    cases addS t p with
    | none => rfl
    | some t1 =>
      simp only [bs]
      cases (decide (pl + 1 = till) && j) with
      | false =>
        simp only [Bool.false_eq_true, if_false, bs]
        cases (decide (pl + 1 < till) && !j) with
        | false => rfl
        | true =>
          simp only [if_true]
          cases addS t1 " " <;> rfl
      | true =>
        simp only [if_true]
        cases addS t1 "-" with
        | none => rfl
        | some t2 =>
          simp only [bs]
          cases (decide (pl + 1 < till) && !j) with
          | false => rfl
          | true =>
            simp only [if_true]
            cases addS t2 " " <;> rfl
theorem law_go (first till : Int) : ∀ (W : List (Tu Str)) (s : Str × Int), forS (m__law_text_L1 first till) W s = forS (G first till) (fl W) s
  | [], _ => rfl
  | w :: W, s => by
    show ((m__law_text_L1 first till w s).bind fun s => forS (m__law_text_L1 first till) W s) = forS (G first till) (pw w ++ fl W) s
    rw [forS_appd]
    have e : m__law_text_L1 first till w s = forS (G first till) (pw w) s := by
      obtain ⟨t, pl⟩ := s
      unfold m__law_text_L1
      unfold pw
      rw [← forS_map (f := m__law_text_L2 first till w) (fun y => ((y.2.1, decide (y.1 + 1 < (w.l.length : Int)), ()) : T)) (enumI w.l) (t, pl) fun y hy s => by
        obtain ⟨i, x, hx, rfl⟩ := enumI_mem hy
        have hi := (List.getElem?_eq_some_iff.mp hx).1
        exact L2_G first till w (i : Int) (by omega) x s]
      show ((forS (m__law_text_L2 first till w) (enumI w.l) (t, pl)).bind fun x => some (x.1, x.2)) = _
      cases forS (m__law_text_L2 first till w) (enumI w.l) (t, pl) <;> rfl
    rw [e]
    cases forS (G first till) (pw w) s with
    | none => rfl
    | some s' => exact law_go first till W s'
theorem skip (first till : Int) : ∀ (xs : List T) (t : Str) (pl : Int), (pl + xs.length ≤ first ∨ till ≤ pl) → forS (G first till) xs (t, pl) = some (t, pl + xs.length)
  | [], t, pl, _ => by
    show some (t, pl) = some (t, pl + 0)
    rw [Int.add_zero]
  | x :: xs, t, pl, h => by
    rw [List.length_cons] at h ⊢
    rw [forS_cons (s' := (t, pl + 1)) ?_, skip first till xs t (pl + 1) (by omega), show pl + 1 + (xs.length : Int) = pl + ((xs.length + 1 : Nat) : Int) by omega]
    unfold G
    rw [if_neg]
    rw [Bool.and_eq_true, decide_eq_true_eq, decide_eq_true_eq]
    show ¬ (first ≤ pl ∧ pl < till)
    omega
theorem addS_ok {x y : Str} (h : x.length + y.length ≤ 1000000) : addS x y = some (x ++ y) := if_pos h
theorem dash_len : ("-" : Str).length = 1 := by decide +kernel
theorem blank_len : (" " : Str).length = 1 := by decide +kernel
theorem mid (first till : Int) (M : List T) (hm : (M.length : Int) = till - first) (hl : M.length ≤ 1000) (hp : ∀ x ∈ M, x.1.length ≤ 12) :
    ∃ t, forS (G first till) M ("", first) = some (t, till) ∧ forS (m_text_of_L1 M) (enumI M) "" = some t ∧ t.length ≤ 14000 := by
  have e0 : forS (G first till) M ("", first) = forS (fun (y : Int × T × Unit) s => G first till y.2.1 s) (enumI M) ("", first) := by
    rw [forS_map (f := fun (y : Int × T × Unit) s => G first till y.2.1 s) (g := G first till) (fun y => y.2.1) (enumI M) ("", first) fun y _ s => rfl]
    congr 1
    refine List.ext_getElem (by rw [List.length_map, enumI_len]) fun i h1 h2 => ?_
    rw [List.getElem_map, enumI_at]
  rw [e0]
  obtain ⟨r1, r2, h1, h2, h3, h4⟩ := forS2_ix (f1 := fun (y : Int × T × Unit) s => G first till y.2.1 s) (f2 := m_text_of_L1 M) (xs := enumI M) (fun i s1 s2 => s1 = (s2, first + (i : Int)) ∧ s2.length ≤ 14 * i) (s1 := ("", first)) (s2 := "")
    ⟨by rw [show first + ((0 : Nat) : Int) = first by omega], Nat.le_refl _⟩ (fun i hi s1 s2 hs => by
      obtain ⟨rfl, hs⟩ := hs
      have hi2 : i < M.length := by rwa [enumI_len] at hi
      rw [enumI_at]
      have hx := hp _ (List.getElem_mem hi2)
      generalize M[i] = x at hx
      obtain ⟨p, j, u⟩ := x
      have hx : p.length ≤ 12 := hx
      unfold G m_text_of_L1
      have c1 : decide (first + (i : Int) + 1 = till) = decide ((i : Int) + 1 = (M.length : Int)) := decide_eq_decide.mpr (by omega)
      have c2 : decide (first + (i : Int) + 1 < till) = decide ((i : Int) + 1 < (M.length : Int)) := decide_eq_decide.mpr (by omega)
      simp only [c1, c2]
      rw [decide_eq_true (show first ≤ first + (i : Int) by omega), decide_eq_true (show first + (i : Int) < till by omega)]
      rw [addS_ok (by omega)]
      simp only [bs, Bool.and_self, if_true]
      have l0 := len_app s2 p
      have e9 : first + (i : Int) + 1 = first + ((i + 1 : Nat) : Int) := by omega
      rw [e9, Bool.and_comm j, Bool.and_comm (!j)]
      cases (decide ((i : Int) + 1 = (M.length : Int)) && j) with
      | false =>
        simp only [Bool.false_eq_true, if_false, bs]
        cases (decide ((i : Int) + 1 < (M.length : Int)) && !j) with
        | false => exact ⟨_, _, rfl, rfl, rfl, by omega⟩
        | true =>
          simp only [if_true]
          rw [addS_ok (by rw [blank_len]; omega)]
          have l1 := len_app (s2 ++ p) " "
          rw [blank_len] at l1
          exact ⟨_, _, rfl, rfl, rfl, by omega⟩
      | true =>
        simp only [if_true]
        rw [addS_ok (by rw [dash_len]; omega)]
        have l1 := len_app (s2 ++ p) "-"
        rw [dash_len] at l1
        simp only [bs]
        cases (decide ((i : Int) + 1 < (M.length : Int)) && !j) with
        | false => exact ⟨_, _, rfl, rfl, rfl, by omega⟩
        | true =>
          simp only [if_true]
          rw [addS_ok (by rw [blank_len]; omega)]
          have l2 := len_app (s2 ++ p ++ "-") " "
          rw [blank_len] at l2
          exact ⟨_, _, rfl, rfl, rfl, by omega⟩)
  rw [enumI_len] at h3 h4
  refine ⟨r2, ?_, h2, by omega⟩
  rw [h1, h3, show first + (M.length : Int) = till by omega]
theorem cut_mid {α : Type} {xs : List α} {a b : Nat} (h1 : a ≤ b) (h2 : b ≤ xs.length) : cut xs (some (a : Int)) (some (b : Int)) = (xs.drop a).take (b - a) := by
  unfold cut
  rw [HT.sIx_nat, HT.sIx_nat, Nat.min_eq_left h2, Nat.min_eq_left (by omega)]
theorem text_ok {W : List (Tu Str)} (hw : ∀ x ∈ fl W, x.1.length ≤ 12) (hl : (fl W).length ≤ 1000) {a b : Nat} (h1 : a ≤ b) (h2 : b ≤ (fl W).length) :
    ∃ t, m__law_text (Tu.mk W) a b = some t ∧ m_text_of (Tu.mk W) a b = some t ∧ t.length ≤ 14000 := by
  have hM : (((fl W).drop a).take (b - a)).length = b - a := by
    rw [List.length_take, List.length_drop]
    omega
  obtain ⟨t, e1, e2, e3⟩ := mid (a : Int) (b : Int) (((fl W).drop a).take (b - a)) (by omega) (by omega) (fun x hx => hw x (List.mem_of_mem_drop (List.mem_of_mem_take hx)))
  refine ⟨t, ?_, ?_, e3⟩
  · unfold m__law_text
    simp only [bs]
    rw [law_go]
    have e : fl W = (fl W).take a ++ (((fl W).drop a).take (b - a) ++ (fl W).drop b) := by
      have e1 := (List.take_append_drop a (fl W)).symm
      have e2 := (List.take_append_drop (b - a) ((fl W).drop a)).symm
      rw [List.drop_drop, show a + (b - a) = b by omega] at e2
      rw [← e2]
      exact e1
    rw [e]
    rw [forS_appd, skip (a : Int) (b : Int) ((fl W).take a) "" 0 (.inl (by rw [List.length_take]; omega))]
    simp only [bs]
    rw [show (0 : Int) + (((fl W).take a).length : Int) = a by rw [List.length_take]; omega, forS_appd, e1]
    simp only [bs]
    rw [skip (a : Int) (b : Int) ((fl W).drop b) t b (.inr (Int.le_refl _))]
    rfl
  · unfold m_text_of
    simp only [bs]
    rw [flat_ok hl]
    simp only [bs]
    rw [cut_mid h1 h2, e2]
    rfl
/-! ### the words -/
def signs : Str := "abcdefghijklmnopqrstuvwxyzABCXYZ0189.,;:!?'()-+=<>#&*/~_$\u0040[]{}^"
theorem signs_len : signs.length = 63 := by decide +kernel
theorem signs_ok : PyData.strOk signs = true := by decide +kernel
theorem join_len : ∀ {ys : List Str}, (∀ y ∈ ys, y.length = 1) → (Str.join "" ys).length = ys.length
  | [], _ => by
    unfold Str.join
    decide +kernel
  | [x], h => h x List.mem_cons_self
  | x :: y :: r, h => by
    have ih := join_len (ys := y :: r) fun z hz => h z (List.mem_cons_of_mem _ hz)
    have h1 := h x List.mem_cons_self
    have h0 : ("" : Str).length = 0 := by decide +kernel
    have e : Str.join "" (x :: y :: r) = x ++ "" ++ Str.join "" (y :: r) := rfl
    rw [e, len_app, len_app, ih, h1, h0, List.length_cons, List.length_cons, List.length_cons]
    omega
theorem piece_ok (n : Int) : ∃ p, m__law_piece n = some p ∧ p.length ≤ 12 := by
  unfold m__law_piece
  simp only [bs]
  rw [show (("abcdefghijklmnopqrstuvwxyzABCXYZ0189.,;:!?'()-+=<>#&*/~_$\u0040[]{}^" : Str)) = signs from rfl]
  rw [rngO_ok (by omega) (by omega) (by omega) (by omega)]
  simp only [bs]
  have hl : (irange 0 (1 + n % 12)).length ≤ 12 := by
    rw [irange_len]
    omega
  have step : ∀ k ∈ irange 0 (1 + n % 12), ∃ y : Str, ((mulO k k).bind fun m_118 => (lenS signs).bind fun n_119 => (modO ((n / (12 : Int)) + m_118) n_119).bind fun r_120 => (ixS signs r_120).bind fun i_121 => some i_121) = some y ∧ y.length = 1 := by
    intro k hk
    rw [mem_irange] at hk
    rw [mulO_ok (by omega) (by omega), show lenS signs = some (63 : Int) by unfold lenS; rw [signs_len]; rfl]
    simp only [bs]
    rw [modO_ok (by omega)]
    simp only [bs]
    obtain ⟨c, e, _, e2⟩ := ixS_ok (s := signs) (i := (n / 12 + k * k) % 63) (by rw [signs_len]; omega) (Int.emod_nonneg _ (by omega)) (by rw [signs_len]; exact Int.emod_lt_of_pos _ (by omega)) signs_ok
    exact ⟨_, by rw [e]; rfl, e2⟩
  rw [lcM_all (fun k => (((mulO k k).bind fun m_118 => (lenS signs).bind fun n_119 => (modO ((n / (12 : Int)) + m_118) n_119).bind fun r_120 => (ixS signs r_120).bind fun i_121 => some i_121).getD "")) (by omega) fun k hk => by
    obtain ⟨y, e, _⟩ := step k hk
    rw [e]
    rfl]
  simp only [bs]
  have hy : ∀ y ∈ (irange 0 (1 + n % 12)).map (fun k => (((mulO k k).bind fun m_118 => (lenS signs).bind fun n_119 => (modO ((n / (12 : Int)) + m_118) n_119).bind fun r_120 => (ixS signs r_120).bind fun i_121 => some i_121).getD "")), y.length = 1 := by
    intro y hy
    obtain ⟨k, hk, rfl⟩ := List.mem_map.mp hy
    obtain ⟨y, e, e2⟩ := step k hk
    rw [e]
    exact e2
  generalize hz : (irange 0 (1 + n % 12)).map (fun k => (((mulO k k).bind fun m_118 => (lenS signs).bind fun n_119 => (modO ((n / (12 : Int)) + m_118) n_119).bind fun r_120 => (ixS signs r_120).bind fun i_121 => some i_121).getD "")) = zs at hy
  have hzl : zs.length ≤ 12 := by
    rw [← hz, List.length_map]
    exact hl
  have hsum : ∀ ys : List Str, (∀ y ∈ ys, y.length = 1) → (ys.map (·.length)).sum = ys.length := by
    intro ys h
    induction ys with
    | nil => rfl
    | cons y ys ih =>
      rw [List.map_cons, List.sum_cons, ih fun z hz => h z (List.mem_cons_of_mem _ hz), List.length_cons, h y List.mem_cons_self]
      omega
  have h0 : ("" : Str).length = 0 := by decide +kernel
  rw [joinO_ok (by rw [hsum zs hy, h0]; omega)]
  exact ⟨_, rfl, by rw [join_len hy]; exact hzl⟩
theorem fl_app : ∀ xs ys : List (Tu Str), fl (xs ++ ys) = fl xs ++ fl ys
  | [], _ => rfl
  | x :: xs, ys => by
    show pw x ++ fl (xs ++ ys) = (pw x ++ fl xs) ++ fl ys
    rw [fl_app xs ys, List.append_assoc]
theorem fl_one (w : Tu Str) : (fl [w]).length = w.l.length := by
  show (pw w ++ []).length = _
  rw [List.append_nil, pw_len]
theorem mem_fl : ∀ {W : List (Tu Str)} {x : T}, x ∈ fl W → ∃ w ∈ W, x.1 ∈ w.l
  | [], _, h => nomatch h
  | w :: W, x, h => by
    rcases List.mem_append.mp h with h | h
    · unfold pw at h
      obtain ⟨y, hy, rfl⟩ := List.mem_map.mp h
      obtain ⟨i, z, hz, rfl⟩ := enumI_mem hy
      exact ⟨w, List.mem_cons_self, List.mem_of_getElem? hz⟩
    · obtain ⟨v, h1, h2⟩ := mem_fl h
      exact ⟨v, List.mem_cons_of_mem _ h1, h2⟩
structure Inv (N : Nat) (rest : List Int) (s : List Str × List (Tu Str)) : Prop where
  n : (fl s.2).length + s.1.length + rest.length = N
  ok : ∀ w ∈ s.2, WordOk w
  five : s.1.length ≤ 5
  p : ∀ x ∈ s.1, x.length ≤ 12
theorem two {l : List Int} (h : l.length = 2) : ∃ a b, l = [a, b] := by
  match l, h with
  | [a, b], _ => exact ⟨a, b, rfl⟩
theorem words_ok (cs : List Int) (hl : cs.length ≤ 1000) : ∃ W, m__law_words cs = some (Tu.mk W) ∧ (∀ w ∈ W, WordOk w) ∧ (fl W).length = cs.length := by
  unfold m__law_words
  simp only [bs]
  obtain ⟨⟨wd, ws⟩, e, h⟩ := forS_inv (f := m__law_words_L1) (Inv cs.length) (xs := cs) (s := ([], [])) ⟨by show 0 + 0 + cs.length = _; omega, (fun _ h => nomatch h), Nat.zero_le _, (fun _ h => nomatch h)⟩ (fun x rest s hs => by
    obtain ⟨wd, ws⟩ := s
    obtain ⟨h1, h2, h3, h4⟩ := hs
    have h1 : (fl ws).length + wd.length + (rest.length + 1) = cs.length := h1
    have h2 : ∀ w ∈ ws, WordOk w := h2
    have h3 : wd.length ≤ 5 := h3
    have h4 : ∀ x ∈ wd, x.length ≤ 12 := h4
    obtain ⟨l, e0, hl2⟩ := numbers_ok x 2 (by omega) (by omega)
    obtain ⟨a, b, rfl⟩ := two hl2
    obtain ⟨p, e1, hp⟩ := piece_ok a
    have wl : ws.length ≤ (fl ws).length := by
      have key : ∀ W : List (Tu Str), (∀ w ∈ W, WordOk w) → W.length ≤ (fl W).length := by
        intro W
        induction W with
        | nil => intro _; exact Nat.le_refl _
        | cons w W ih =>
          intro h
          have := ih fun z hz => h z (List.mem_cons_of_mem _ hz)
          have h1 := (h w List.mem_cons_self).one
          show W.length + 1 ≤ (pw w ++ fl W).length
          rw [List.length_append, pw_len]
          omega
      exact key ws h2
    have h5 : ∀ y ∈ wd ++ [p], y.length ≤ 12 := by
      intro y hy
      rcases List.mem_append.mp hy with hy | hy
      · exact h4 y hy
      · rw [List.mem_singleton] at hy
        rw [hy]
        exact hp
    have h6 : (wd ++ [p]).length = wd.length + 1 := by rw [List.length_append, List.length_singleton]
    unfold m__law_words_L1
    simp only [e0, bs, show atI [a, b] (0 : Int) = some a from rfl, show atI [a, b] (1 : Int) = some b from rfl, e1]
    rw [appO_ok (by omega)]
    simp only [bs]
    cases hb : (decide (b % 2 = 0) || decide (((wd ++ [p]).length : Int) = 6)) with
    | true =>
      simp only [if_true]
      rw [appO_ok (by omega)]
      simp only [bs]
      refine ⟨_, rfl, ?_, fun w hw => ?_, Nat.zero_le _, fun _ h => nomatch h⟩
      · show (fl (ws ++ [Tu.mk (wd ++ [p])])).length + 0 + rest.length = _
        rw [fl_app, List.length_append, fl_one, h6]
        omega
      · rcases List.mem_append.mp hw with hw | hw
        · exact h2 w hw
        · rw [List.mem_singleton] at hw
          subst hw
          exact ⟨by show 1 ≤ (wd ++ [p]).length; omega, by show (wd ++ [p]).length ≤ 6; omega, h5⟩
    | false =>
      simp only [Bool.false_eq_true, if_false]
      rw [Bool.or_eq_false_iff] at hb
      have hb2 := of_decide_eq_false hb.2
      exact ⟨_, rfl, by show (fl ws).length + (wd ++ [p]).length + rest.length = _; omega, h2, by show (wd ++ [p]).length ≤ 5; omega, h5⟩)
  rw [e]
  obtain ⟨h1, h2, h3, h4⟩ := h
  have h1 : (fl ws).length + wd.length + 0 = cs.length := h1
  have h2 : ∀ w ∈ ws, WordOk w := h2
  have h3 : wd.length ≤ 5 := h3
  have h4 : ∀ x ∈ wd, x.length ≤ 12 := h4
  simp only [bs]
  by_cases hw : 0 < (wd.length : Int)
  · rw [decide_eq_true hw]
    simp only [if_true]
    have wl : ws.length ≤ (fl ws).length := by
      have key : ∀ W : List (Tu Str), (∀ w ∈ W, WordOk w) → W.length ≤ (fl W).length := by
        intro W
        induction W with
        | nil => intro _; exact Nat.le_refl _
        | cons w W ih =>
          intro h
          have := ih fun z hz => h z (List.mem_cons_of_mem _ hz)
          have h1 := (h w List.mem_cons_self).one
          show W.length + 1 ≤ (pw w ++ fl W).length
          rw [List.length_append, pw_len]
          omega
      exact key ws h2
    rw [appO_ok (by omega)]
    simp only [bs]
    refine ⟨_, rfl, fun w h => ?_, ?_⟩
    · rcases List.mem_append.mp h with h | h
      · exact h2 w h
      · rw [List.mem_singleton] at h
        subst h
        exact ⟨by show 1 ≤ wd.length; omega, by show wd.length ≤ 6; omega, h4⟩
    · rw [fl_app, List.length_append, fl_one]
      show (fl ws).length + wd.length = _
      omega
  · rw [decide_eq_false hw]
    simp only [Bool.false_eq_true, if_false, bs]
    exact ⟨_, rfl, h2, by omega⟩
/-! ### the law -/
theorem turn {W : List (Tu Str)} (hw : ∀ w ∈ W, WordOk w) (h1 : 1 ≤ (fl W).length) (h2 : (fl W).length ≤ 1000) {joint : Int} (hj : 0 ≤ joint ∧ joint < 1000) {widths : List Int} (hd : 1 ≤ widths.length) (hb : ∀ x ∈ widths, 0 ≤ x ∧ x ≤ 1000) (cell : Int) :
    m_law_L1 (Tu.mk W) (false :: (fl W).map (·.2.1)) ((fl W).length : Int) joint widths widths cell () = some (.nx ()) := by
  have hp : ∀ x ∈ fl W, x.1.length ≤ 12 := fun x hx => by
    obtain ⟨w, h3, h4⟩ := mem_fl hx
    exact (hw w h3).p _ h4
  have q1 := Int.emod_nonneg cell (show ((fl W).length : Int) ≠ 0 by omega)
  have q2 := Int.emod_lt_of_pos cell (show 0 < ((fl W).length : Int) by omega)
  unfold m_law_L1
  rw [modO_ok (by omega)]
  simp only [bs]
  generalize cell % ((fl W).length : Int) = first at q1 q2
  have q3 := Int.emod_nonneg (cell / 64) (show ((fl W).length : Int) - first ≠ 0 by omega)
  have q4 := Int.emod_lt_of_pos (cell / 64) (show 0 < ((fl W).length : Int) - first by omega)
  rw [modO_ok (by omega)]
  simp only [bs]
  generalize hE : cell / 64 % (((fl W).length : Int) - first) = ex at q3 q4
  obtain ⟨a, rfl⟩ := Int.eq_ofNat_of_zero_le q1
  obtain ⟨b, hb2⟩ := Int.eq_ofNat_of_zero_le (show 0 ≤ (a : Int) + 1 + ex by omega)
  rw [hb2]
  obtain ⟨t, t1, t2, t3⟩ := text_ok hp h2 (a := a) (b := b) (by omega) (by omega)
  rw [t1]
  simp only [bs]
  rw [t2]
  simp only [bs, decide_true, Bool.not_true, Bool.false_eq_true, if_false]
  obtain ⟨wi, e1, e2⟩ := atI_some (xs := widths) (i := min (cell / 4096 % 60) ((widths.length : Int) - 1)) (by omega) (by omega)
  have hwi := hb wi (List.mem_of_getElem? e2)
  rw [e1]
  simp only [bs]
  have hbl : b - 1 < (fl W).length := by omega
  have hx : (fl W)[b - 1]? = some ((fl W)[b - 1]) := List.getElem?_eq_getElem hbl
  generalize (fl W)[b - 1] = x at hx
  have hF : atI (fl W) ((b : Int) - 1) = some x := by
    rw [show (b : Int) - 1 = ((b - 1 : Nat) : Int) by omega]
    exact atI_nat hx
  have hJ : atI (false :: (fl W).map (·.2.1)) (b : Int) = some x.2.1 := by
    refine atI_nat ?_
    rw [show b = (b - 1) + 1 by omega, List.getElem?_cons_succ, List.getElem?_map, hx]
    rfl
  have hlen : lenS t = some (t.length : Int) := if_pos (by omega)
  unfold m_row_cost m_width_at
  simp only [bs]
  rw [e1]
  simp only [bs]
  rw [t2]
  simp only [bs]
  rw [hlen]
  simp only [bs]
  rw [mulO_ok (by omega) (by omega)]
  simp only [bs]
  rw [flat_ok h2]
  simp only [bs]
  rw [hF, hJ]
  simp only [bs]
  have hpow : powO (wi - (t.length : Int)) 2 = some ((wi - (t.length : Int)) * (wi - (t.length : Int))) := by
    unfold powO
    rw [if_pos ⟨by omega, by omega, by omega⟩]
    show some ((wi - (t.length : Int)) ^ 2) = _
    rw [Int.pow_succ, Int.pow_succ, Int.pow_zero, Int.one_mul]
  rw [hpow]
  simp only [bs]
  rw [mulO_ok (by omega) (by omega)]
  simp only [bs]
  cases x.2.1 with
  | true =>
    simp only [if_true, bs, Int.mul_one, decide_true, Bool.not_true, Bool.or_self, Bool.false_eq_true, if_false]
  | false =>
    simp only [Bool.false_eq_true, if_false, bs, Int.mul_zero, Int.add_zero, decide_true, Bool.not_true, Bool.or_self]
theorem six {l : List Int} (h : l.length = 6) : ∃ a b c d e f, l = [a, b, c, d, e, f] := by
  match l, h with
  | [a, b, c, d, e, f], _ => exact ⟨a, b, c, d, e, f, rfl⟩
theorem law_main (ns : List Int) (hl : ns.length ≤ 63) : m_law (Fz.mk ns) = some true := by
  unfold m_law
  have hc := cut_len ns (some 2) (some 42)
  obtain ⟨W, e1, hw, hn⟩ := words_ok (cut ns (some 2) (some 42)) (by omega)
  rw [show (Fz.mk ns).l = ns from rfl, e1]
  simp only [bs]
  rw [joints_ok hw (by omega)]
  simp only [bs]
  obtain ⟨c0, e2⟩ := cell_at (ns := ns) 0 (by omega)
  rw [e2]
  simp only [bs]
  obtain ⟨l, e3, hl3⟩ := numbers_ok c0 6 (by omega) (by omega)
  obtain ⟨a, b, c, d, e, f, rfl⟩ := six hl3
  rw [e3]
  simp only [bs, show atI [a, b, c, d, e, f] (0 : Int) = some a from rfl, show atI [a, b, c, d, e, f] (1 : Int) = some b from rfl, show atI [a, b, c, d, e, f] (5 : Int) = some f from rfl]
  rw [rngO_ok (by omega) (by omega) (by omega) (by omega)]
  simp only [bs]
  have hr : (irange 0 (b % 4)).length ≤ 3 := by
    rw [irange_len]
    omega
  rw [lcM_all (fun k => ((atI [a, b, c, d, e, f] (2 + k)).getD 0) % 100) (by omega) fun k hk => by
    rw [mem_irange] at hk
    obtain ⟨z, ez, _⟩ := atI_some (xs := [a, b, c, d, e, f]) (i := 2 + k) (by omega) (by show 2 + k < 6; omega)
    rw [ez]
    rfl]
  simp only [bs]
  generalize hzs : (irange 0 (b % 4)).map (fun k => ((atI [a, b, c, d, e, f] (2 + k)).getD 0) % 100) = zs
  have hz1 : zs.length ≤ 3 := by
    rw [← hzs, List.length_map]
    exact hr
  have hz2 : ∀ x ∈ zs, 0 ≤ x ∧ x ≤ 1000 := by
    intro x hx
    rw [← hzs] at hx
    obtain ⟨k, _, rfl⟩ := List.mem_map.mp hx
    omega
  rw [appO_ok (by omega)]
  simp only [bs]
  have hm : (((false :: (fl W).map (·.2.1)).length : Int) - 1) = ((fl W).length : Int) := by
    rw [List.length_cons, List.length_map]
    omega
  rw [hm]
  rw [forC_all fun x hx => turn hw (by
    have : 0 < (cut ns (some 2) (some 42)).length := List.length_pos_of_mem hx
    omega) (by omega) (by omega) (by rw [List.length_append, List.length_singleton]; omega) (fun y hy => by
    rcases List.mem_append.mp hy with hy | hy
    · exact hz2 y hy
    · rw [List.mem_singleton] at hy
      subst hy
      omega) x]
  simp only [bs, decide_true]
end Wk60
set_option synthInstance.maxHeartbeats 400000
set_option synthInstance.maxSize 2000
open PySem PySem.W PyProof.Rows in
set_option maxRecDepth 100000 in
set_option maxHeartbeats 0 in
theorem PySem.Challenge.cw_boxgalley_k60_texts_and_costs_of_rows_holds : PySem.Challenge.rw_boxgalley_k60_texts_and_costs_of_rows.Holds := by
  w_on; o_law; k_head; (case hw => w_witness2)
  k_fill
  refine L2.walk_of (l := PySem.Challenge.rw_boxgalley_k60_texts_and_costs_of_rows) (n := 63) (k := 4) (x := "_law_script") (CX := fun _ => L2.CX0) (sp := fun w => Wk60.spLaw _) rfl (by decide) rfl ⟨rfl, by decide, by decide⟩ (fun w h Y => PySem.W.kIn_of Y) ?F (fun _ _ a ns hl _ hS => ⟨a, ns, rfl, hS, hl, fun _ => rfl⟩) (fun _ _ _ _ _ h => h)
  case F =>
    intro w mg fa h KX G hmg
    refine' Wk60.all_mk Wk60.law_main KX G hmg ?a_flat ?l_flat ?c_flat ?k_flat ?a_text_of ?l_text_of ?c_text_of ?k_text_of ?a_width_at ?l_width_at ?c_width_at ?k_width_at ?a_row_cost ?l_row_cost ?c_row_cost ?k_row_cost ?a__law_cell_at ?l__law_cell_at ?c__law_cell_at ?k__law_cell_at ?a__law_numbers ?l__law_numbers ?c__law_numbers ?k__law_numbers ?a__law_piece ?l__law_piece ?c__law_piece ?k__law_piece ?a__law_words ?l__law_words ?c__law_words ?k__law_words ?a__law_text ?l__law_text ?c__law_text ?k__law_text ?a__law_joints ?l__law_joints ?c__law_joints ?k__law_joints ?a_law ?l_law ?c_law ?k_law ?z_bool ?z_enumerate ?z_int ?z_isinstance ?z_len ?z_list ?z_min ?z_range ?z_tuple
    (case a_flat => k_is)
    (case l_flat => k_is)
    (case c_flat => k_is)
    (case k_flat => k_is)
    (case a_text_of => k_is)
    (case l_text_of => k_is)
    (case c_text_of => k_is)
    (case k_text_of => k_is)
    (case a_width_at => k_is)
    (case l_width_at => k_is)
    (case c_width_at => k_is)
    (case k_width_at => k_is)
    (case a_row_cost => k_is)
    (case l_row_cost => k_is)
    (case c_row_cost => k_is)
    (case k_row_cost => k_is)
    (case a__law_cell_at => k_is)
    (case l__law_cell_at => k_is)
    (case c__law_cell_at => k_is)
    (case k__law_cell_at => k_is)
    (case a__law_numbers => k_is)
    (case l__law_numbers => k_is)
    (case c__law_numbers => k_is)
    (case k__law_numbers => k_is)
    (case a__law_piece => k_is)
    (case l__law_piece => k_is)
    (case c__law_piece => k_is)
    (case k__law_piece => k_is)
    (case a__law_words => k_is)
    (case l__law_words => k_is)
    (case c__law_words => k_is)
    (case k__law_words => k_is)
    (case a__law_text => k_is)
    (case l__law_text => k_is)
    (case c__law_text => k_is)
    (case k__law_text => k_is)
    (case a__law_joints => k_is)
    (case l__law_joints => k_is)
    (case c__law_joints => k_is)
    (case k__law_joints => k_is)
    (case a_law => k_is)
    (case l_law => k_is)
    (case c_law => k_is)
    (case k_law => k_is)
    (case z_bool => k_is)
    (case z_enumerate => k_is)
    (case z_int => k_is)
    (case z_isinstance => k_is)
    (case z_len => k_is)
    (case z_list => k_is)
    (case z_min => k_is)
    (case z_range => k_is)
    (case z_tuple => k_is)
