import PyProof.Rows.All
import Wide.All
import OpenK.AllK
import Wide.FinOn
import HandS.ForMost
import HandS.Evl
import HandS.Wide
import HandS.IsInst
import HandS.SortInts
import HandS.TupAny
import HandS.Dict
import HandS.Text
import HandS.Style
import PySem.Challenge.RW_boxgalley_k68_papers_of_floats
set_option Elab.async false
set_option linter.all false
set_option maxRecDepth 100000
set_option maxHeartbeats 2000000
/-! Wk: typed mirrors over the hand layer: what a value stands for, a state by slots and owned objects, one rule a construct. -/
namespace Wk
open PySem PySem.Spec L2 Evl

abbrev Fg := PySem.W.Frag
/-- v stands for a, by what is known in H -/
class Rp (α : Type) where
  rep : Fg → Hp → V → α → Prop
  mono : ∀ {K : Fg} {H H' : Hp} {v : V} {a : α}, Ex H H' → rep K H v a → rep K H' v a
/-- the places of a tuple | the arguments of a call -/
class Tp (τ : Type) where
  n : Nat
  rept : Fg → Hp → List V → τ → Prop
  len : ∀ {K : Fg} {H : Hp} {vs : List V} {t : τ}, rept K H vs t → vs.length = n
  mono : ∀ {K : Fg} {H H' : Hp} {vs : List V} {t : τ}, Ex H H' → rept K H vs t → rept K H' vs t
abbrev rep {α : Type} [Rp α] (K : Fg) (H : Hp) (v : V) (a : α) : Prop := Rp.rep K H v a
abbrev rept {τ : Type} [Tp τ] (K : Fg) (H : Hp) (vs : List V) (t : τ) : Prop := Tp.rept K H vs t
/-- what needs no heap -/
class Fl (α : Type) [Rp α] where
  toV : α → V
  iff : ∀ {K : Fg} {H : Hp} {v : V} {a : α}, Rp.rep K H v a ↔ v = toV a

inductive Nn where | nn
  deriving DecidableEq
instance rpInt : Rp Int := { rep := fun _ _ v a => v = .int a, mono := fun _ h => h }
instance : Fl Int := { toV := V.int, iff := Iff.rfl }
instance rpBool : Rp Bool := { rep := fun _ _ v a => v = .bl a, mono := fun _ h => h }
instance : Fl Bool := { toV := V.bl, iff := Iff.rfl }
instance rpStr : Rp Str := { rep := fun _ _ v a => v = .str a, mono := fun _ h => h }
instance : Fl Str := { toV := V.str, iff := Iff.rfl }
instance rpNn : Rp Nn := { rep := fun _ _ v _ => v = .non, mono := fun _ h => h }
instance : Fl Nn := { toV := fun _ => V.non, iff := Iff.rfl }
/-- None, or something -/
instance {α : Type} [Rp α] : Rp (Option α) where
  rep K H v a := match a with | none => v = .non | some x => v ≠ .non ∧ rep K H v x
  mono {K H H' v a} e h := match a, h with
    | none, h => h
    | some _, h => ⟨h.1, Rp.mono e h.2⟩

theorem paired_mono {α : Type} [Rp α] {K : Fg} {H H' : Hp} (e : Ex H H') {vs : List V} {xs : List α} (h : Paired (rep K H) vs xs) : Paired (rep K H') vs xs :=
  Paired.mapP h fun _ _ q => Rp.mono e q
/-- a list that stands exactly so -/
instance {α : Type} [Rp α] : Rp (List α) where
  rep K H v xs := ∃ p vs, v = .ref p ∧ H p = some (.lst vs) ∧ Paired (rep K H) vs xs
  mono e h := by
    obtain ⟨p, vs, h1, h2, h3⟩ := h
    exact ⟨p, vs, h1, e _ _ h2, paired_mono e h3⟩
/-- a list that is read (the script, a list of the top) -/
structure Fz (α : Type) where
  l : List α
instance {α : Type} [Rp α] : Rp (Fz α) where
  rep K H v xs := ∃ p vs, v = .ref p ∧ SqL K H p vs ∧ Paired (rep K H) vs xs.l
  mono e h := by
    obtain ⟨p, vs, h1, h2, h3⟩ := h
    exact ⟨p, vs, h1, ex_l e h2, paired_mono e h3⟩
/-- a tuple of the top -/
structure Kt (α : Type) where
  l : List α
instance {α : Type} [Rp α] : Rp (Kt α) where
  rep K H v xs := ∃ p vs, v = .ref p ∧ SqT K H p vs ∧ Paired (rep K H) vs xs.l
  mono e h := by
    obtain ⟨p, vs, h1, h2, h3⟩ := h
    exact ⟨p, vs, h1, ex_t e h2, paired_mono e h3⟩
/-- a tuple of alike things, of any length -/
structure Tu (α : Type) where
  l : List α
  deriving DecidableEq
instance {α : Type} [Rp α] : Rp (Tu α) where
  rep K H v xs := ∃ p vs, v = .ref p ∧ H p = some (.tup vs) ∧ Paired (rep K H) vs xs.l
  mono e h := by
    obtain ⟨p, vs, h1, h2, h3⟩ := h
    exact ⟨p, vs, h1, e _ _ h2, paired_mono e h3⟩
instance : Tp Unit where
  n := 0
  rept _ _ vs _ := vs = []
  len h := by rw [h]; rfl
  mono _ h := h
instance {α τ : Type} [Rp α] [Tp τ] : Tp (α × τ) where
  n := Tp.n τ + 1
  rept K H vs t := ∃ v r, vs = v :: r ∧ rep K H v t.1 ∧ rept K H r t.2
  len h := by
    obtain ⟨v, r, h1, h2, h3⟩ := h
    rw [h1, List.length_cons, Tp.len h3]
  mono e h := by
    obtain ⟨v, r, h1, h2, h3⟩ := h
    exact ⟨v, r, h1, Rp.mono e h2, Tp.mono e h3⟩
/-- a tuple: (a, (b, (c, ()))) -/
instance {α τ : Type} [Rp α] [Tp τ] : Rp (α × τ) where
  rep K H v t := ∃ p vs, v = .ref p ∧ H p = some (.tup vs) ∧ rept K H vs t
  mono e h := by
    obtain ⟨p, vs, h1, h2, h3⟩ := h
    exact ⟨p, vs, h1, e _ _ h2, Tp.mono e h3⟩

/-! ### the state -/
inductive Sl : Type 1 where
  | any
  | val (α : Type) (i : Rp α) (x : α)
  | at (p : Addr)
def sv {α : Type} [i : Rp α] (x : α) : Sl := .val α i x
def Sl.ok (K : Fg) (Kn : Hp) : Sl → Option V → Prop
  | .any, _ => True
  | .val _ i x, o => ∃ v, o = some v ∧ i.rep K Kn v x
  | .at p, o => o = some (.ref p)
def SlsOk (K : Fg) (Kn : Hp) : List Sl → St → Prop
  | [], [] => True
  | s :: ss, o :: os => s.ok K Kn o ∧ SlsOk K Kn ss os
  | _, _ => False
theorem Sl.ok_mono {K : Fg} {H H' : Hp} (e : Ex H H') : ∀ {s : Sl} {o : Option V}, s.ok K H o → s.ok K H' o
  | .any, _, _ => trivial
  | .val _ i _, _, ⟨v, h1, h2⟩ => ⟨v, h1, i.mono e h2⟩
  | .at _, _, h => h
theorem SlsOk.mono {K : Fg} {H H' : Hp} (e : Ex H H') : ∀ {ss : List Sl} {σ : St}, SlsOk K H ss σ → SlsOk K H' ss σ
  | [], [], _ => trivial
  | _ :: _, _ :: _, h => ⟨Sl.ok_mono e h.1, SlsOk.mono e h.2⟩
theorem SlsOk.get {K : Fg} {H : Hp} : ∀ {ss : List Sl} {σ : St} {i : Nat} {s : Sl}, SlsOk K H ss σ → ss[i]? = some s → ∃ o, σ[i]? = some o ∧ s.ok K H o
  | _ :: _, o :: _, 0, _, h, e => by
    cases Option.some.inj e
    exact ⟨o, rfl, h.1⟩
  | _ :: ss, _ :: os, i + 1, s, h, e => SlsOk.get (ss := ss) (σ := os) (i := i) h.2 e
theorem SlsOk.set {K : Fg} {H : Hp} {s : Sl} {o : Option V} (hs : s.ok K H o) : ∀ {ss : List Sl} {σ : St} (i : Nat), SlsOk K H ss σ → SlsOk K H (ss.set i s) (σ.set i o)
  | [], [], _, _ => trivial
  | _ :: _, _ :: _, 0, h => ⟨hs, h.2⟩
  | _ :: _, _ :: _, i + 1, h => ⟨h.1, SlsOk.set hs i h.2⟩
/-- less is known -/
inductive SlLe : List Sl → List Sl → Prop
  | nil : SlLe [] []
  | keep {s : Sl} {a b : List Sl} : SlLe a b → SlLe (s :: a) (s :: b)
  | drop {s : Sl} {a b : List Sl} : SlLe a b → SlLe (s :: a) (.any :: b)
theorem SlLe.refl : ∀ (a : List Sl), SlLe a a
  | [] => .nil
  | _ :: r => .keep (SlLe.refl r)
theorem SlsOk.le {K : Fg} {H : Hp} : ∀ {a b : List Sl} {σ : St}, SlLe a b → SlsOk K H a σ → SlsOk K H b σ
  | _, _, [], .nil, _ => trivial
  | _, _, _ :: _, .keep l, h => ⟨h.1, SlsOk.le l h.2⟩
  | _, _, _ :: _, .drop l, h => ⟨trivial, SlsOk.le l h.2⟩

/-- what an object stands for, by what is known in H -/
class Ob (γ : Type) where
  ob : Fg → Hp → HO → γ → Prop
  mono : ∀ {K : Fg} {H H' : Hp} {o : HO} {x : γ}, Ex H H' → ob K H o x → ob K H' o x
/-- an object of one's own, that may change -/
inductive Ow : Type 1 where
  | lst (p : Addr) (α : Type) (i : Rp α) (xs : List α)
  | obj (p : Addr) (γ : Type) (i : Ob γ) (x : γ)
def oo {γ : Type} [i : Ob γ] (p : Addr) (x : γ) : Ow := .obj p γ i x
def ol {α : Type} [i : Rp α] (p : Addr) (xs : List α) : Ow := .lst p α i xs
def Ow.ad : Ow → Addr
  | .lst p _ _ _ => p
  | .obj p _ _ _ => p
def Ow.ok (K : Fg) (Kn H : Hp) : Ow → Prop
  | .lst p _ i xs => ∃ vs, H p = some (.lst vs) ∧ Paired (i.rep K Kn) vs xs
  | .obj p _ i x => ∃ o, H p = some o ∧ i.ob K Kn o x
theorem Ow.ok_mono {K : Fg} {Kn Kn' H H' : Hp} (e : Ex Kn Kn') : ∀ {o : Ow}, H' o.ad = H o.ad → o.ok K Kn H → o.ok K Kn' H'
  | .lst _ _ i _, eh, ⟨vs, h1, h2⟩ => ⟨vs, eh.trans h1, Paired.mapP h2 fun _ _ q => i.mono e q⟩
  | .obj _ _ i _, eh, ⟨o, h1, h2⟩ => ⟨o, eh.trans h1, i.mono e h2⟩
theorem ne_none_of {H : Hp} {p : Addr} {o : HO} (h : H p = some o) : H p ≠ none := fun z => by
  rw [h] at z
  cases z
theorem Ow.there {K : Fg} {Kn H : Hp} : ∀ {o : Ow}, o.ok K Kn H → H o.ad ≠ none
  | .lst p _ _ _, h => by
    obtain ⟨vs, h, _⟩ := h
    exact ne_none_of (show H p = some (.lst vs) from h)
  | .obj p _ _ _, h => by
    obtain ⟨o, h, _⟩ := h
    exact ne_none_of (show H p = some o from h)
structure OwsOk (K : Fg) (F Kn H : Hp) (ow : List Ow) : Prop where
  each : ∀ o ∈ ow, F o.ad = none ∧ Kn o.ad = none ∧ o.ok K Kn H
  nd : (ow.map Ow.ad).Nodup

/-- the state: F stands untouched, Kn is known (by and by more), the slots, the objects of one's own -/
structure S (K : Fg) (F Kn0 : Hp) (sl : List Sl) (ow : List Ow) (σ : St) (Kn H : Hp) : Prop where
  e0 : Ex Kn0 Kn
  ek : Ex Kn H
  ef : Ex F H
  sep : ∀ p, F p ≠ none → Kn0 p = none → Kn p = none
  sl : SlsOk K Kn sl σ
  ow : OwsOk K F Kn H ow

/-- growth: nothing that stood is touched, nothing that stood unknown is known -/
structure Gr (Kn H Kn' H' : Hp) : Prop where
  kk : Ex Kn Kn'
  hh : Ex H H'
  kh : Ex Kn' H'
  sp : ∀ p, H p ≠ none → Kn p = none → Kn' p = none
theorem Gr.refl {Kn H : Hp} (e : Ex Kn H) : Gr Kn H Kn H := ⟨Ex.refl _, Ex.refl _, e, fun _ _ h => h⟩
theorem Ex.nn {H H' : Hp} (e : Ex H H') {p : Addr} (h : H p ≠ none) : H' p ≠ none := by
  cases q : H p with
  | none => exact absurd q h
  | some o => exact ne_none_of (e _ _ q)
theorem Ex.at_eq {H H' : Hp} (e : Ex H H') {p : Addr} (h : H p ≠ none) : H' p = H p := by
  cases q : H p with
  | none => exact absurd q h
  | some o => exact e _ _ q
theorem Gr.trans {Kn H Kn1 H1 Kn2 H2 : Hp} (a : Gr Kn H Kn1 H1) (b : Gr Kn1 H1 Kn2 H2) : Gr Kn H Kn2 H2 :=
  ⟨a.kk.trans b.kk, a.hh.trans b.hh, b.kh, fun p h1 h2 => b.sp p (Ex.nn a.hh h1) (a.sp p h1 h2)⟩
/-- a new object, known -/
theorem Gr.new {Kn H : Hp} {p : Addr} {o : HO} (e : Ex Kn H) (hp : H p = none) : Gr Kn H (upd Kn p o) (upd H p o) := by
  have kp : Kn p = none := fresh_back e hp
  refine ⟨Ex.new kp, Ex.new hp, fun a u h => ?_, fun q h1 h2 => ?_⟩
  · by_cases hq : a = p
    · subst hq
      rw [upd_same] at h ⊢
      exact h
    · rw [upd_ne hq] at h ⊢
      exact e _ _ h
  · have hq : q ≠ p := fun z => by
      subst z
      exact h1 hp
    rw [upd_ne hq]
    exact h2
/-- a new object, not known yet -/
theorem Gr.newU {Kn H : Hp} {p : Addr} {o : HO} (e : Ex Kn H) (hp : H p = none) : Gr Kn H Kn (upd H p o) :=
  ⟨Ex.refl _, Ex.new hp, e.trans (Ex.new hp), fun _ _ h2 => h2⟩
/-- what was new is known from now on -/
theorem Gr.know {Kn H Kn' H' : Hp} {p : Addr} {o : HO} (g : Gr Kn H Kn' H') (hp : H p = none) (kp : Kn' p = none) (hp' : H' p = some o) : Gr Kn H (upd Kn' p o) H' :=
  ⟨g.kk.trans (Ex.new kp), g.hh, fun a u h => by
    by_cases hq : a = p
    · subst hq
      rw [upd_same] at h
      rw [← h]
      exact hp'
    · rw [upd_ne hq] at h
      exact g.kh _ _ h, fun q h1 h2 => by
    have hq : q ≠ p := fun z => by
      subst z
      exact h1 hp
    rw [upd_ne hq]
    exact g.sp q h1 h2⟩

section
variable {K : Fg} {F Kn0 : Hp} {sl sl' : List Sl} {ow ow' : List Ow} {σ : St} {Kn H Kn' H' : Hp}
theorem S.grow (s : S K F Kn0 sl ow σ Kn H) (g : Gr Kn H Kn' H') : S K F Kn0 sl ow σ Kn' H' :=
  ⟨s.e0.trans g.kk, g.kh, s.ef.trans g.hh, fun p h1 h2 => g.sp p (Ex.nn s.ef h1) (s.sep p h1 h2), s.sl.mono g.kk,
    ⟨fun o ho => by
      obtain ⟨h1, h2, h3⟩ := s.ow.each o ho
      have h4 := Ow.there h3
      exact ⟨h1, g.sp _ h4 h2, Ow.ok_mono g.kk (Ex.at_eq g.hh h4) h3⟩, s.ow.nd⟩⟩
theorem S.le (s : S K F Kn0 sl ow σ Kn H) (l : SlLe sl sl') : S K F Kn0 sl' ow σ Kn H := ⟨s.e0, s.ek, s.ef, s.sep, s.sl.le l, s.ow⟩
theorem S.set (s : S K F Kn0 sl ow σ Kn H) {x : Sl} {o : Option V} (i : Nat) (h : x.ok K Kn o) : S K F Kn0 (sl.set i x) ow (σ.set i o) Kn H :=
  ⟨s.e0, s.ek, s.ef, s.sep, SlsOk.set h i s.sl, s.ow⟩
theorem S.setv (s : S K F Kn0 sl ow σ Kn H) {α : Type} [Rp α] {x : α} {v : V} (i : Nat) (h : rep K Kn v x) : S K F Kn0 (sl.set i (sv x)) ow (σ.set i (some v)) Kn H :=
  s.set i ⟨v, rfl, h⟩
/-- some objects are not named any more -/
theorem S.sub (s : S K F Kn0 sl ow σ Kn H) (l : ow'.Sublist ow) : S K F Kn0 sl ow' σ Kn H :=
  ⟨s.e0, s.ek, s.ef, s.sep, s.sl, ⟨fun o ho => s.ow.each o (l.subset ho), s.ow.nd.sublist (l.map _)⟩⟩
theorem S.fin (s : S K F Kn0 sl ow σ Kn H) : S K F Kn0 [] ow [] Kn H := ⟨s.e0, s.ek, s.ef, s.sep, trivial, s.ow⟩
end

/-! ### the judgements -/
section
variable (K : Fg) (F Kn0 : Hp) (sl : List Sl) (ow : List Ow)
def EV {α : Type} [Rp α] (te : TE) (x : α) : Prop := ∀ σ Kn H, S K F Kn0 sl ow σ Kn H → ∀ Q : VK, (∀ v Kn' H', Gr Kn H Kn' H' → rep K Kn' v x → Q v H') → te σ H Q
/-- a new list -/
def EN {α : Type} [Rp α] (te : TE) (xs : List α) : Prop := ∀ σ Kn H, S K F Kn0 sl ow σ Kn H → ∀ Q : VK,
  (∀ p ws Kn' H', Gr Kn H Kn' H' → H p = none → Kn' p = none → H' p = some (.lst ws) → Paired (rep K Kn') ws xs → Q (.ref p) H') → te σ H Q
/-- what is changed on the way is told: ow, then ow' -/
def EM {α : Type} [Rp α] (te : TE) (ow' : List Ow) (x : α) : Prop := ∀ σ Kn H, S K F Kn0 sl ow σ Kn H → ∀ Q : VK,
  (∀ v Kn' H', Ex Kn Kn' → S K F Kn0 sl ow' σ Kn' H' → rep K Kn' v x → Q v H') → te σ H Q
def ENM {α : Type} [Rp α] (te : TE) (ow' : List Ow) (xs : List α) : Prop := ∀ σ Kn H, S K F Kn0 sl ow σ Kn H → ∀ Q : VK,
  (∀ p ws Kn' H', Ex Kn Kn' → S K F Kn0 sl ow' σ Kn' H' → F p = none → Kn' p = none → (∀ o ∈ ow', o.ad ≠ p) → H' p = some (.lst ws) → Paired (rep K Kn') ws xs → Q (.ref p) H') → te σ H Q
def ET (tt : TT) (b : Bool) : Prop := ∀ σ Kn H, S K F Kn0 sl ow σ Kn H → ∀ Q : Bool → Hp → Prop, (∀ Kn' H', Gr Kn H Kn' H' → Q b H') → tt σ H Q
def EA {τ : Type} [Tp τ] (ta : TA) (t : τ) : Prop := ∀ σ Kn H, S K F Kn0 sl ow σ Kn H → ∀ Q : List V → Hp → Prop, (∀ vs Kn' H', Gr Kn H Kn' H' → rept K Kn' vs t → Q vs H') → ta σ H Q
def EAM {τ : Type} [Tp τ] (ta : TA) (ow' : List Ow) (t : τ) : Prop := ∀ σ Kn H, S K F Kn0 sl ow σ Kn H → ∀ Q : List V → Hp → Prop,
  (∀ vs Kn' H', Ex Kn Kn' → S K F Kn0 sl ow' σ Kn' H' → rept K Kn' vs t → Q vs H') → ta σ H Q
def SB (D : Ends) (ts : TS) : Prop := ∀ σ Kn H, S K F Kn0 sl ow σ Kn H → ts D σ H
/-- what is wanted of a return -/
def RT (R : VK) {α : Type} [Rp α] (x : α) : Prop := ∀ v Kn H, S K F Kn0 [] ow [] Kn H → rep K Kn v x → R v H
def RN (R : VK) {α : Type} [Rp α] (xs : List α) : Prop := ∀ p ws Kn H, S K F Kn0 [] ow [] Kn H → F p = none → Kn p = none → H p = some (.lst ws) → Paired (rep K Kn) ws xs → R (.ref p) H
end

section
variable {K : Fg} {F Kn0 : Hp} {sl sl' : List Sl} {ow ow1 ow2 : List Ow} {α β γ : Type} [Rp α] [Rp β] [Rp γ] {ta tb te : TE} {x : α} {y : β} {z : γ}
theorem EN.ev {xs : List α} (h : EN K F Kn0 sl ow te xs) : EV K F Kn0 sl ow te xs := fun σ Kn H s Q q => h σ Kn H s Q fun p ws Kn' H' g hp kp hw r =>
  q _ (upd Kn' p (.lst ws)) H' (g.know hp kp hw) ⟨p, ws, rfl, upd_same, paired_mono (Ex.new kp) r⟩
theorem EV.em (h : EV K F Kn0 sl ow te x) : EM K F Kn0 sl ow te ow x := fun σ Kn H s Q q => h σ Kn H s Q fun v Kn' H' g r => q v Kn' H' g.kk (s.grow g) r
theorem owned_ne {σ : St} {Kn H : Hp} (s : S K F Kn0 sl ow σ Kn H) {p : Addr} (hp : H p = none) : ∀ o ∈ ow, o.ad ≠ p := fun o ho z => by
  have := Ow.there (s.ow.each o ho).2.2
  rw [z] at this
  exact this hp
theorem EN.em {xs : List α} (h : EN K F Kn0 sl ow te xs) : ENM K F Kn0 sl ow te ow xs := fun σ Kn H s Q q => h σ Kn H s Q fun p ws Kn' H' g hp kp hw r =>
  q p ws Kn' H' g.kk (s.grow g) (fresh_back s.ef hp) kp (owned_ne s hp) hw r
theorem S.know {σ : St} {Kn H : Hp} (s : S K F Kn0 sl ow σ Kn H) {p : Addr} {o : HO} (fp : F p = none) (kp : Kn p = none) (no : ∀ o ∈ ow, o.ad ≠ p) (hp : H p = some o) : S K F Kn0 sl ow σ (upd Kn p o) H :=
  ⟨s.e0.trans (Ex.new kp), fun a u h => by
    by_cases hq : a = p
    · subst hq
      rw [upd_same] at h
      rw [← h]
      exact hp
    · rw [upd_ne hq] at h
      exact s.ek _ _ h, s.ef, fun q h1 h2 => by
    have hq : q ≠ p := fun z => by
      subst z
      exact h1 fp
    rw [upd_ne hq]
    exact s.sep q h1 h2, s.sl.mono (Ex.new kp), ⟨fun o ho => by
      obtain ⟨h1, h2, h3⟩ := s.ow.each o ho
      exact ⟨h1, by rw [upd_ne (no o ho)]; exact h2, Ow.ok_mono (Ex.new kp) rfl h3⟩, s.ow.nd⟩⟩
theorem ENM.em {xs : List α} (h : ENM K F Kn0 sl ow te ow1 xs) : EM K F Kn0 sl ow te ow1 xs := fun σ Kn H s Q q => h σ Kn H s Q fun p ws Kn' H' e s' fp kp no hw r =>
  q _ (upd Kn' p (.lst ws)) H' (e.trans (Ex.new kp)) (s'.know fp kp no hw) ⟨p, ws, rfl, upd_same, paired_mono (Ex.new kp) r⟩
theorem EV.cast {x' : α} (h : EV K F Kn0 sl ow te x) (e : x = x') : EV K F Kn0 sl ow te x' := e ▸ h
theorem ET.cast {tt : TT} {b b' : Bool} (h : ET K F Kn0 sl ow tt b) (e : b = b') : ET K F Kn0 sl ow tt b' := e ▸ h
end
end Wk
/-! Wk2: rules for expressions -/
namespace Wk
open PySem PySem.Spec L2 Evl
section
variable {K : Fg} {F Kn0 : Hp} {sl sl' : List Sl} {ow ow1 ow2 : List Ow} {α β γ τ : Type} [Rp α] [Rp β] [Rp γ] [Tp τ] {ta tb te : TE} {x : α} {y : β} {z : γ}

theorem paired_fl {α : Type} [Rp α] [Fl α] {H : Hp} : ∀ {vs : List V} {xs : List α}, Paired (rep K H) vs xs → vs = xs.map Fl.toV
  | _, _, .nil => rfl
  | _, _, .cons h t => by rw [List.map_cons, ← paired_fl t, Fl.iff.mp h]
theorem fl_paired {α : Type} [Rp α] [Fl α] {H : Hp} : ∀ (xs : List α), Paired (rep K H) (xs.map Fl.toV) xs
  | [] => .nil
  | _ :: t => .cons (Fl.iff.mpr rfl) (fl_paired t)
theorem paired_len {H : Hp} {vs : List V} {xs : List α} (h : Paired (rep K H) vs xs) : vs.length = xs.length := Paired.length h
theorem paired_at {F : V → α → Prop} : ∀ {vs : List V} {xs : List α}, Paired F vs xs → ∀ {j : Nat} {a : α}, xs[j]? = some a → ∃ v, vs[j]? = some v ∧ F v a
  | _, _, .nil, _, _, e => by simp at e
  | _, _, .cons r _, 0, _, e => by
    simp at e
    subst e
    exact ⟨_, rfl, r⟩
  | _, _, .cons _ t, j + 1, a, e => by
    obtain ⟨v, h1, h2⟩ := paired_at t (j := j) (a := a) (by simpa using e)
    exact ⟨v, by simpa using h1, h2⟩
theorem paired_append {F : V → α → Prop} : ∀ {vs ws : List V} {xs ys : List α}, Paired F vs xs → Paired F ws ys → Paired F (vs ++ ws) (xs ++ ys)
  | _, _, _, _, .nil, h => h
  | _, _, _, _, .cons r t, h => .cons r (paired_append t h)
theorem paired_drop {F : V → α → Prop} : ∀ {vs : List V} {xs : List α} (n : Nat), Paired F vs xs → Paired F (vs.drop n) (xs.drop n)
  | _, _, 0, h => h
  | _, _, _ + 1, .nil => .nil
  | _, _, n + 1, .cons _ t => paired_drop n t
theorem paired_take {F : V → α → Prop} : ∀ {vs : List V} {xs : List α} (n : Nat), Paired F vs xs → Paired F (vs.take n) (xs.take n)
  | _, _, 0, _ => .nil
  | _, _, _ + 1, .nil => .nil
  | _, _, n + 1, .cons r t => .cons r (paired_take n t)
theorem paired_set {F : V → α → Prop} {v : V} {a : α} (h : F v a) : ∀ {vs : List V} {xs : List α} (n : Nat), Paired F vs xs → Paired F (vs.set n v) (xs.set n a)
  | _, _, _, .nil => .nil
  | _, _, 0, .cons _ t => .cons h t
  | _, _, n + 1, .cons r t => .cons r (paired_set h n t)
theorem paired_atI {H : Hp} {vs : List V} {xs : List α} (h : Paired (rep K H) vs xs) {i : Int} {a : α} (e : atI xs i = some a) : ∃ v, atI vs i = some v ∧ rep K H v a := by
  unfold atI at e ⊢
  rw [paired_len h]
  cases q : ixN xs.length i with
  | none => rw [q] at e; cases e
  | some j =>
    rw [q] at e
    exact paired_at h e

/-! ### results of rules by values -/
def RS (K : Fg) (Kn H : Hp) (Q : VK) (z : γ) : Prop := ∀ u Kn' H', Gr Kn H Kn' H' → rep K Kn' u z → Q u H'
def RL (K : Fg) (Kn H : Hp) (Q : VK) (zs : List γ) : Prop := ∀ p ws Kn' H', Gr Kn H Kn' H' → H p = none → Kn' p = none → H' p = some (.lst ws) → Paired (rep K Kn') ws zs → Q (.ref p) H'
theorem RS.rl {Kn H : Hp} {Q : VK} {zs : List γ} (h : RS K Kn H Q zs) : RL K Kn H Q zs := fun p ws Kn' H' g hp kp hw r =>
  h _ (upd Kn' p (.lst ws)) H' (g.know hp kp hw) ⟨p, ws, rfl, upd_same, paired_mono (Ex.new kp) r⟩
theorem RS.fl {γ : Type} [Rp γ] [Fl γ] {z : γ} {Kn H : Hp} {Q : VK} (h : RS K Kn H Q z) (e : Ex Kn H) : Q (Fl.toV z) H := h _ Kn H (Gr.refl e) (Fl.iff.mpr rfl)
theorem RS.at {Kn H : Hp} {Q : VK} {z : γ} (h : RS K Kn H Q z) (e : Ex Kn H) {v : V} (r : rep K Kn v z) : Q v H := h _ Kn H (Gr.refl e) r

def R1V (r : V → Hp → VK → Prop) (x : α) (z : γ) : Prop := ∀ (K : Fg) Kn H v, Ex Kn H → rep K Kn v x → ∀ Q, RS K Kn H Q z → r v H Q
def R2V (K : Fg) (r : R2) (x : α) (y : β) (z : γ) : Prop := ∀ Kn H v w, Ex Kn H → rep K Kn v x → rep K Kn w y → ∀ Q, RS K Kn H Q z → r v w H Q
def R2L (K : Fg) (r : R2) (x : α) (y : β) (zs : List γ) : Prop := ∀ Kn H v w, Ex Kn H → rep K Kn v x → rep K Kn w y → ∀ Q, RL K Kn H Q zs → r v w H Q
def RCV (K : Fg) (r : List V → Hp → VK → Prop) (t : τ) (z : γ) : Prop := ∀ Kn H vs, Ex Kn H → rept K Kn vs t → ∀ Q, RS K Kn H Q z → r vs H Q
def RCL (K : Fg) (r : List V → Hp → VK → Prop) (t : τ) (zs : List γ) : Prop := ∀ Kn H vs, Ex Kn H → rept K Kn vs t → ∀ Q, RL K Kn H Q zs → r vs H Q

/-! ### names, constants, operators -/
theorem ev_var {i : Nat} (h : sl[i]? = some (sv x)) : EV K F Kn0 sl ow (tVar i) x := fun σ Kn H s Q q => by
  obtain ⟨o, h1, v, h2, h3⟩ := s.sl.get h
  exact ⟨v, by rw [h1, h2], q v Kn H (Gr.refl s.ek) h3⟩
theorem ev_c {γ : Type} [Rp γ] [Fl γ] (z : γ) {v : V} (e : v = Fl.toV z := by rfl) : EV K F Kn0 sl ow (tC v) z := fun σ Kn H s Q q => q v Kn H (Gr.refl s.ek) (Fl.iff.mpr e)
theorem ev_none : EV K F Kn0 sl ow (tC .non) (none : Option α) := fun σ Kn H s Q q => q .non Kn H (Gr.refl s.ek) rfl
theorem ev_un {r : V → Hp → VK → Prop} (ha : EV K F Kn0 sl ow ta x) (hr : R1V r x z) : EV K F Kn0 sl ow (tUn r ta) z := fun σ Kn H s Q q =>
  ha σ Kn H s _ fun v Kn1 H1 g1 r1 => hr K Kn1 H1 v g1.kh r1 Q fun u Kn' H' g' r' => q u Kn' H' (g1.trans g') r'
theorem ev_op {r : R2} (ha : EV K F Kn0 sl ow ta x) (hb : EV K F Kn0 sl ow tb y) (hr : R2V K r x y z) : EV K F Kn0 sl ow (tOp r ta tb) z := fun σ Kn H s Q q =>
  ha σ Kn H s _ fun v Kn1 H1 g1 r1 => hb σ Kn1 H1 (s.grow g1) _ fun w Kn2 H2 g2 r2 => hr Kn2 H2 v w g2.kh (Rp.mono g2.kk r1) r2 Q fun u Kn' H' g' r' => q u Kn' H' ((g1.trans g2).trans g') r'
theorem en_op {r : R2} {zs : List γ} (ha : EV K F Kn0 sl ow ta x) (hb : EV K F Kn0 sl ow tb y) (hr : R2L K r x y zs) : EN K F Kn0 sl ow (tOp r ta tb) zs := fun σ Kn H s Q q =>
  ha σ Kn H s _ fun v Kn1 H1 g1 r1 => hb σ Kn1 H1 (s.grow g1) _ fun w Kn2 H2 g2 r2 => hr Kn2 H2 v w g2.kh (Rp.mono g2.kk r1) r2 Q fun p ws Kn' H' g' hp kp hw r' =>
    q p ws Kn' H' ((g1.trans g2).trans g') (fresh_back (g1.trans g2).hh hp) kp hw r'
theorem em_op {r : R2} (ha : EM K F Kn0 sl ow ta ow1 x) (hb : EM K F Kn0 sl ow1 tb ow2 y) (hr : R2V K r x y z) : EM K F Kn0 sl ow (tOp r ta tb) ow2 z := fun σ Kn H s Q q =>
  ha σ Kn H s _ fun v Kn1 H1 e1 s1 r1 => hb σ Kn1 H1 s1 _ fun w Kn2 H2 e2 s2 r2 => hr Kn2 H2 v w s2.ek (Rp.mono e2 r1) r2 Q fun u Kn' H' g' r' => q u Kn' H' ((e1.trans e2).trans g'.kk) (s2.grow g') r'
theorem r2_I0 {γ : Type} [Rp γ] [Fl γ] {z : γ} {g : Int → Int → V} {i j : Int} (e : g i j = Fl.toV z := by rfl) : R2V K (rI0 g) i j z := fun Kn H v w ek h1 h2 Q q => ⟨i, j, h1, h2, e ▸ q.fl ek⟩
theorem r2_I {γ : Type} [Rp γ] [Fl γ] {z : γ} {C : Int → Int → Prop} {g : Int → Int → V} {i j : Int} (c : C i j) (e : g i j = Fl.toV z := by rfl) : R2V K (rI C g) i j z := fun Kn H v w ek h1 h2 Q q => ⟨i, j, h1, h2, c, e ▸ q.fl ek⟩
theorem r1_neg {i : Int} : R1V (rU fun i => .int (-i)) i (-i) := fun K Kn H v ek h1 Q q => ⟨i, h1, q.fl ek⟩
theorem r2_eqI {i j : Int} : R2V K rEq i j (decide (i = j)) := fun Kn H v w ek h1 h2 Q q => by
  cases h1
  cases h2
  refine ⟨rfl, ?_⟩
  have e : decide (V.int i = V.int j) = decide (i = j) := by simp
  rw [e]
  exact q.fl ek
theorem r2_neI {i j : Int} : R2V K rNe i j (!decide (i = j)) := fun Kn H v w ek h1 h2 Q q => by
  cases h1
  cases h2
  refine ⟨rfl, ?_⟩
  have e : decide (V.int i = V.int j) = decide (i = j) := by simp
  rw [e]
  exact q.fl ek
theorem r2_eqS {i j : Str} : R2V K rEq i j (decide (i = j)) := fun Kn H v w ek h1 h2 Q q => by
  cases h1
  cases h2
  refine ⟨rfl, ?_⟩
  have e : decide (V.str i = V.str j) = decide (i = j) := by simp
  rw [e]
  exact q.fl ek
theorem r2_neS {i j : Str} : R2V K rNe i j (!decide (i = j)) := fun Kn H v w ek h1 h2 Q q => by
  cases h1
  cases h2
  refine ⟨rfl, ?_⟩
  have e : decide (V.str i = V.str j) = decide (i = j) := by simp
  rw [e]
  exact q.fl ek
theorem r2_eqB {i j : Bool} : R2V K rEq i j (decide (i = j)) := fun Kn H v w ek h1 h2 Q q => by
  cases h1
  cases h2
  refine ⟨rfl, ?_⟩
  have e : decide (V.bl i = V.bl j) = decide (i = j) := by simp
  rw [e]
  exact q.fl ek

/-! ### arguments, tuples, lists -/
theorem ea_nil : EA K F Kn0 sl ow tNil () := fun σ Kn H s Q q => q [] Kn H (Gr.refl s.ek) rfl
theorem ea_cons {tr : TA} {t : τ} (h : EV K F Kn0 sl ow ta x) (hr : EA K F Kn0 sl ow tr t) : EA K F Kn0 sl ow (tCons ta tr) (x, t) := fun σ Kn H s Q q =>
  h σ Kn H s _ fun v Kn1 H1 g1 r1 => hr σ Kn1 H1 (s.grow g1) _ fun vs Kn2 H2 g2 r2 => q _ Kn2 H2 (g1.trans g2) ⟨v, vs, rfl, Rp.mono g2.kk r1, r2⟩
theorem eam_nil : EAM K F Kn0 sl ow tNil ow () := fun σ Kn H s Q q => q [] Kn H (Ex.refl _) s rfl
theorem eam_cons {tr : TA} {t : τ} (h : EM K F Kn0 sl ow ta ow1 x) (hr : EAM K F Kn0 sl ow1 tr ow2 t) : EAM K F Kn0 sl ow (tCons ta tr) ow2 (x, t) := fun σ Kn H s Q q =>
  h σ Kn H s _ fun v Kn1 H1 e1 s1 r1 => hr σ Kn1 H1 s1 _ fun vs Kn2 H2 e2 s2 r2 => q _ Kn2 H2 (e1.trans e2) s2 ⟨v, vs, rfl, Rp.mono e2 r1, r2⟩
theorem EA.eam {ta : TA} {t : τ} (h : EA K F Kn0 sl ow ta t) : EAM K F Kn0 sl ow ta ow t := fun σ Kn H s Q q => h σ Kn H s Q fun vs Kn' H' g r => q vs Kn' H' g.kk (s.grow g) r
/-- alike things -/
def EL {α : Type} [Rp α] (K : Fg) (F Kn0 : Hp) (sl : List Sl) (ow : List Ow) (ta : TA) (xs : List α) : Prop := ∀ σ Kn H, S K F Kn0 sl ow σ Kn H → ∀ Q : List V → Hp → Prop, (∀ vs Kn' H', Gr Kn H Kn' H' → Paired (rep K Kn') vs xs → Q vs H') → ta σ H Q
def ELM {α : Type} [Rp α] (K : Fg) (F Kn0 : Hp) (sl : List Sl) (ow : List Ow) (ta : TA) (ow' : List Ow) (xs : List α) : Prop := ∀ σ Kn H, S K F Kn0 sl ow σ Kn H → ∀ Q : List V → Hp → Prop, (∀ vs Kn' H', Ex Kn Kn' → S K F Kn0 sl ow' σ Kn' H' → Paired (rep K Kn') vs xs → Q vs H') → ta σ H Q
theorem el_nil : EL K F Kn0 sl ow tNil ([] : List α) := fun σ Kn H s Q q => q [] Kn H (Gr.refl s.ek) .nil
theorem el_cons {tr : TA} {xs : List α} (h : EV K F Kn0 sl ow ta x) (hr : EL K F Kn0 sl ow tr xs) : EL K F Kn0 sl ow (tCons ta tr) (x :: xs) := fun σ Kn H s Q q =>
  h σ Kn H s _ fun v Kn1 H1 g1 r1 => hr σ Kn1 H1 (s.grow g1) _ fun vs Kn2 H2 g2 r2 => q _ Kn2 H2 (g1.trans g2) (.cons (Rp.mono g2.kk r1) r2)
theorem elm_nil : ELM K F Kn0 sl ow tNil ow ([] : List α) := fun σ Kn H s Q q => q [] Kn H (Ex.refl _) s .nil
theorem elm_cons {tr : TA} {xs : List α} (h : EM K F Kn0 sl ow ta ow1 x) (hr : ELM K F Kn0 sl ow1 tr ow2 xs) : ELM K F Kn0 sl ow (tCons ta tr) ow2 (x :: xs) := fun σ Kn H s Q q =>
  h σ Kn H s _ fun v Kn1 H1 e1 s1 r1 => hr σ Kn1 H1 s1 _ fun vs Kn2 H2 e2 s2 r2 => q _ Kn2 H2 (e1.trans e2) s2 (.cons (Rp.mono e2 r1) r2)
theorem le_line {n : Nat} (h : n ≤ 1000000) : n ≤ sizeLine := Nat.le_trans h (by decide)
theorem lt_line {n : Nat} (h : n < 1000000) : n < sizeLine := Nat.lt_of_lt_of_le h (by decide)
theorem en_lst {ta : TA} {xs : List α} (h : EL K F Kn0 sl ow ta xs) (hz : xs.length ≤ 1000000 := by exact Nat.le_of_ble_eq_true rfl) : EN K F Kn0 sl ow (tLst ta) xs := fun σ Kn H s Q q =>
  h σ Kn H s _ fun vs Kn1 H1 g1 r1 => ⟨by rw [paired_len r1]; exact le_line hz, fun p hp => q p vs Kn1 _ (g1.trans (Gr.newU g1.kh hp)) (fresh_back g1.hh hp) (fresh_back g1.kh hp) upd_same r1⟩
theorem enm_lst {ta : TA} {xs : List α} (h : ELM K F Kn0 sl ow ta ow1 xs) (hz : xs.length ≤ 1000000 := by exact Nat.le_of_ble_eq_true rfl) : ENM K F Kn0 sl ow (tLst ta) ow1 xs := fun σ Kn H s Q q =>
  h σ Kn H s _ fun vs Kn1 H1 e1 s1 r1 => ⟨by rw [paired_len r1]; exact le_line hz, fun p hp =>
    q p vs Kn1 _ e1 (s1.grow (Gr.newU s1.ek hp)) (fresh_back s1.ef hp) (fresh_back s1.ek hp) (owned_ne s1 hp) upd_same r1⟩
theorem ev_tup {ta : TA} {t : α × τ} (h : EA K F Kn0 sl ow ta t) (hz : Tp.n (α × τ) ≤ 1000000 := by decide) : EV K F Kn0 sl ow (tTup ta) t := fun σ Kn H s Q q =>
  h σ Kn H s _ fun vs Kn1 H1 g1 r1 => ⟨by rw [Tp.len r1]; exact le_line hz, fun p hp =>
    q _ (upd Kn1 p (.tup vs)) _ (g1.trans (Gr.new g1.kh hp)) ⟨p, vs, rfl, upd_same, Tp.mono (Gr.new g1.kh hp).kk r1⟩⟩
theorem em_tup {ta : TA} {t : α × τ} (h : EAM K F Kn0 sl ow ta ow1 t) (hz : Tp.n (α × τ) ≤ 1000000 := by decide) : EM K F Kn0 sl ow (tTup ta) ow1 t := fun σ Kn H s Q q =>
  h σ Kn H s _ fun vs Kn1 H1 e1 s1 r1 => ⟨by rw [Tp.len r1]; exact le_line hz, fun p hp =>
    q _ (upd Kn1 p (.tup vs)) _ (e1.trans (Gr.new s1.ek hp).kk) (s1.grow (Gr.new s1.ek hp)) ⟨p, vs, rfl, upd_same, Tp.mono (Gr.new s1.ek hp).kk r1⟩⟩
theorem ev_tuH {ta : TA} {xs : List α} (h : EL K F Kn0 sl ow ta xs) (hz : xs.length ≤ 1000000 := by exact Nat.le_of_ble_eq_true rfl) : EV K F Kn0 sl ow (tTup ta) (Tu.mk xs) := fun σ Kn H s Q q =>
  h σ Kn H s _ fun vs Kn1 H1 g1 r1 => ⟨by rw [paired_len r1]; exact le_line hz, fun p hp =>
    q _ (upd Kn1 p (.tup vs)) _ (g1.trans (Gr.new g1.kh hp)) ⟨p, vs, rfl, upd_same, paired_mono (Gr.new g1.kh hp).kk r1⟩⟩

/-! ### built-ins, defs -/
theorem ev_cb {r : List V → Hp → VK → Prop} {ta : TA} {t : τ} (h : EA K F Kn0 sl ow ta t) (hr : RCV K r t z) : EV K F Kn0 sl ow (tCB r ta) z := fun σ Kn H s Q q =>
  h σ Kn H s _ fun vs Kn1 H1 g1 r1 => hr Kn1 H1 vs g1.kh r1 Q fun u Kn' H' g' r' => q u Kn' H' (g1.trans g') r'
theorem en_cb {r : List V → Hp → VK → Prop} {ta : TA} {t : τ} {zs : List γ} (h : EA K F Kn0 sl ow ta t) (hr : RCL K r t zs) : EN K F Kn0 sl ow (tCB r ta) zs := fun σ Kn H s Q q =>
  h σ Kn H s _ fun vs Kn1 H1 g1 r1 => hr Kn1 H1 vs g1.kh r1 Q fun p ws Kn' H' g' hp kp hw r' => q p ws Kn' H' (g1.trans g') (fresh_back g1.hh hp) kp hw r'
theorem em_cb {r : List V → Hp → VK → Prop} {ta : TA} {t : τ} (h : EAM K F Kn0 sl ow ta ow1 t) (hr : RCV K r t z) : EM K F Kn0 sl ow (tCB r ta) ow1 z := fun σ Kn H s Q q =>
  h σ Kn H s _ fun vs Kn1 H1 e1 s1 r1 => hr Kn1 H1 vs s1.ek r1 Q fun u Kn' H' g' r' => q u Kn' H' (e1.trans g'.kk) (s1.grow g') r'
theorem one_arg {Kn : Hp} {vs : List V} {x : α} (h : rept K Kn vs (x, ())) : ∃ v, vs = [v] ∧ rep K Kn v x := by
  obtain ⟨v, r, rfl, h1, h2⟩ := h
  cases h2
  exact ⟨v, rfl, h1⟩
theorem two_args {Kn : Hp} {vs : List V} {x : α} {y : β} (h : rept K Kn vs (x, y, ())) : ∃ v w, vs = [v, w] ∧ rep K Kn v x ∧ rep K Kn w y := by
  obtain ⟨v, r, rfl, h1, h2⟩ := h
  obtain ⟨w, rfl, h3⟩ := one_arg h2
  exact ⟨v, w, rfl, h1, h3⟩
theorem rc_max {i j : Int} : RCV K (fun xs H Q => ∃ i j, xs = [.int i, .int j] ∧ Q (.int (if j > i then j else i)) H) (i, j, ()) (max i j) := fun Kn H vs ek h Q q => by
  obtain ⟨v, w, rfl, h1, h2⟩ := two_args h
  cases h1
  cases h2
  refine ⟨i, j, rfl, ?_⟩
  have e : (if j > i then j else i) = max i j := by split <;> omega
  rw [e]
  exact q.fl ek
theorem rc_min {i j : Int} : RCV K (fun xs H Q => ∃ i j, xs = [.int i, .int j] ∧ Q (.int (if j < i then j else i)) H) (i, j, ()) (min i j) := fun Kn H vs ek h Q q => by
  obtain ⟨v, w, rfl, h1, h2⟩ := two_args h
  cases h1
  cases h2
  refine ⟨i, j, rfl, ?_⟩
  have e : (if j < i then j else i) = min i j := by split <;> omega
  rw [e]
  exact q.fl ek
theorem rc_abs {i : Int} : RCV K (fun xs H Q => ∃ i, xs = [.int i] ∧ Q (.int (if i < 0 then -i else i)) H) (i, ()) ((i.natAbs : Int)) := fun Kn H vs ek h Q q => by
  obtain ⟨v, rfl, h1⟩ := one_arg h
  cases h1
  refine ⟨i, rfl, ?_⟩
  have e : (if i < 0 then -i else i) = (i.natAbs : Int) := by split <;> omega
  rw [e]
  exact q.fl ek
theorem rc_len {xs : List α} : RCV K (fun xs H Q => ∃ p ys, xs = [.ref p] ∧ (SqL K H p ys ∨ SqT K H p ys) ∧ Q (.int ys.length) H) (xs, ()) (xs.length : Int) := fun Kn H vs ek h Q q => by
  obtain ⟨v, rfl, p, ws, rfl, h1, h2⟩ := one_arg h
  refine ⟨p, ws, rfl, .inl (sq_of (ek _ _ h1)), ?_⟩
  rw [paired_len h2]
  exact q.fl ek
theorem rc_lenF {xs : Fz α} : RCV K (fun xs H Q => ∃ p ys, xs = [.ref p] ∧ (SqL K H p ys ∨ SqT K H p ys) ∧ Q (.int ys.length) H) (xs, ()) (xs.l.length : Int) := fun Kn H vs ek h Q q => by
  obtain ⟨v, rfl, p, ws, rfl, h1, h2⟩ := one_arg h
  refine ⟨p, ws, rfl, .inl (ex_l ek h1), ?_⟩
  rw [paired_len h2]
  exact q.fl ek
theorem rc_lenT {xs : Tu α} : RCV K (fun xs H Q => ∃ p ys, xs = [.ref p] ∧ (SqL K H p ys ∨ SqT K H p ys) ∧ Q (.int ys.length) H) (xs, ()) (xs.l.length : Int) := fun Kn H vs ek h Q q => by
  obtain ⟨v, rfl, p, ws, rfl, h1, h2⟩ := one_arg h
  refine ⟨p, ws, rfl, .inr (st_of (ek _ _ h1)), ?_⟩
  rw [paired_len h2]
  exact q.fl ek
theorem rc_lenP {t : α × τ} : RCV K (fun xs H Q => ∃ p ys, xs = [.ref p] ∧ (SqL K H p ys ∨ SqT K H p ys) ∧ Q (.int ys.length) H) (t, ()) ((Tp.n (α × τ) : Nat) : Int) := fun Kn H vs ek h Q q => by
  obtain ⟨v, rfl, p, ws, rfl, h1, h2⟩ := one_arg h
  refine ⟨p, ws, rfl, .inr (st_of (ek _ _ h1)), ?_⟩
  rw [Tp.len h2]
  exact q.fl ek
theorem rc_sum {xs : List Int} : RCV K (rSum K) (xs, ()) xs.sum := fun Kn H vs ek h Q q => by
  obtain ⟨v, rfl, p, ws, rfl, h1, h2⟩ := one_arg h
  have e := paired_fl h2
  subst e
  exact ⟨p, xs, rfl, sq_of (ek _ _ h1), q.fl ek⟩
theorem rc_all {xs : List Bool} : RCV K (rAll K) (xs, ()) (xs.all id) := fun Kn H vs ek h Q q => by
  obtain ⟨v, rfl, p, ws, rfl, h1, h2⟩ := one_arg h
  have e := paired_fl h2
  subst e
  exact ⟨p, xs, rfl, sq_of (ek _ _ h1), q.fl ek⟩
theorem rc_any {xs : List Bool} : RCV K (rAny K) (xs, ()) (xs.any id) := fun Kn H vs ek h Q q => by
  obtain ⟨v, rfl, p, ws, rfl, h1, h2⟩ := one_arg h
  have e := paired_fl h2
  subst e
  exact ⟨p, xs, rfl, sq_of (ek _ _ h1), q.fl ek⟩
theorem rc_list {xs : List α} : RCL K (fun xs H Q => ∃ p ys, xs = [.ref p] ∧ (SqL K H p ys ∨ SqT K H p ys) ∧ ∀ l, H l = none → Q (.ref l) (upd H l (.lst ys))) (xs, ()) xs := fun Kn H vs ek h Q q => by
  obtain ⟨v, rfl, p, ws, rfl, h1, h2⟩ := one_arg h
  exact ⟨p, ws, rfl, .inl (sq_of (ek _ _ h1)), fun l hl => q l ws Kn _ (Gr.newU ek hl) hl (fresh_back ek hl) upd_same h2⟩
theorem rc_listF {xs : Fz α} : RCL K (fun xs H Q => ∃ p ys, xs = [.ref p] ∧ (SqL K H p ys ∨ SqT K H p ys) ∧ ∀ l, H l = none → Q (.ref l) (upd H l (.lst ys))) (xs, ()) xs.l := fun Kn H vs ek h Q q => by
  obtain ⟨v, rfl, p, ws, rfl, h1, h2⟩ := one_arg h
  exact ⟨p, ws, rfl, .inl (ex_l ek h1), fun l hl => q l ws Kn _ (Gr.newU ek hl) hl (fresh_back ek hl) upd_same h2⟩
theorem rc_listT {xs : Tu α} : RCL K (fun xs H Q => ∃ p ys, xs = [.ref p] ∧ (SqL K H p ys ∨ SqT K H p ys) ∧ ∀ l, H l = none → Q (.ref l) (upd H l (.lst ys))) (xs, ()) xs.l := fun Kn H vs ek h Q q => by
  obtain ⟨v, rfl, p, ws, rfl, h1, h2⟩ := one_arg h
  exact ⟨p, ws, rfl, .inr (st_of (ek _ _ h1)), fun l hl => q l ws Kn _ (Gr.newU ek hl) hl (fresh_back ek hl) upd_same h2⟩
theorem rc_tuple {xs : List α} : RCV K (fun xs H Q => ∃ p ys, xs = [.ref p] ∧ ((SqL K H p ys ∧ ∀ l, H l = none → Q (.ref l) (upd H l (.tup ys))) ∨ (SqT K H p ys ∧ Q (.ref p) H))) (xs, ()) (Tu.mk xs) := fun Kn H vs ek h Q q => by
  obtain ⟨v, rfl, p, ws, rfl, h1, h2⟩ := one_arg h
  exact ⟨p, ws, rfl, .inl ⟨sq_of (ek _ _ h1), fun l hl => q _ (upd Kn l (.tup ws)) _ (Gr.new ek hl) ⟨l, ws, rfl, upd_same, paired_mono (Gr.new ek hl).kk h2⟩⟩⟩
end

/-! ### items, slices -/
section
variable {K : Fg} {F Kn0 : Hp} {sl sl' : List Sl} {ow ow1 ow2 : List Ow} {α β γ τ : Type} [Rp α] [Rp β] [Rp γ] [Tp τ] {ta tb te : TE}
theorem r2_ixL {xs : List α} {i : Int} {z : α} (h : atI xs i = some z) : R2V K (rIxL K) xs i z := fun Kn H v w ek h1 h2 Q q => by
  obtain ⟨p, ws, rfl, h3, h4⟩ := h1
  cases h2
  obtain ⟨u, e, r⟩ := paired_atI h4 h
  exact ⟨p, ws, i, u, rfl, rfl, sq_of (ek _ _ h3), e, q.at ek r⟩
theorem r2_ixF {xs : Fz α} {i : Int} {z : α} (h : atI xs.l i = some z) : R2V K (rIxL K) xs i z := fun Kn H v w ek h1 h2 Q q => by
  obtain ⟨p, ws, rfl, h3, h4⟩ := h1
  cases h2
  obtain ⟨u, e, r⟩ := paired_atI h4 h
  exact ⟨p, ws, i, u, rfl, rfl, ex_l ek h3, e, q.at ek r⟩
theorem r2_ixU {xs : Tu α} {i : Int} {z : α} (h : atI xs.l i = some z) : R2V K (rIxT K) xs i z := fun Kn H v w ek h1 h2 Q q => by
  obtain ⟨p, ws, rfl, h3, h4⟩ := h1
  cases h2
  obtain ⟨u, e, r⟩ := paired_atI h4 h
  exact ⟨p, ws, i, u, rfl, rfl, st_of (ek _ _ h3), e, q.at ek r⟩
theorem r2_ixK {xs : Kt α} {i : Int} {z : α} (h : atI xs.l i = some z) : R2V K (rIxT K) xs i z := fun Kn H v w ek h1 h2 Q q => by
  obtain ⟨p, ws, rfl, h3, h4⟩ := h1
  cases h2
  obtain ⟨u, e, r⟩ := paired_atI h4 h
  exact ⟨p, ws, i, u, rfl, rfl, ex_t ek h3, e, q.at ek r⟩
/-- the n-th place of a tuple -/
inductive At : {τ : Type} → [Tp τ] → Nat → {α : Type} → [Rp α] → τ → α → Prop
  | z {α τ : Type} [Rp α] [Tp τ] (x : α) (t : τ) : At 0 (x, t) x
  | s {α β τ : Type} [Rp α] [Rp β] [Tp τ] {n : Nat} (x : α) {t : τ} {y : β} : At n t y → At (n + 1) (x, t) y
theorem At.get {K : Fg} {H : Hp} {τ : Type} [i : Tp τ] {n : Nat} {α : Type} [j : Rp α] {t : τ} {a : α} (h : At n t a) : ∀ {vs : List V}, rept K H vs t → ∃ v, vs[n]? = some v ∧ rep K H v a := by
  induction h with
  | z x t =>
    intro vs r
    obtain ⟨v, r, rfl, h1, h2⟩ := r
    exact ⟨v, rfl, h1⟩
  | s x _ ih =>
    intro vs r
    obtain ⟨v, r, rfl, h1, h2⟩ := r
    obtain ⟨w, e, h3⟩ := ih h2
    exact ⟨w, e, h3⟩
theorem r2_tix {t : α × τ} {n : Nat} {z : γ} (h : At n t z) : R2V K (rIxT K) t (n : Int) z := fun Kn H v w ek h1 h2 Q q => by
  obtain ⟨p, ws, rfl, h3, h4⟩ := h1
  cases h2
  obtain ⟨u, e, r⟩ := h.get h4
  exact ⟨p, ws, n, u, rfl, rfl, st_of (ek _ _ h3), atI_nat e, q.at ek r⟩
/-- one sign of a text -/
def ixS (z : Str) (i : Int) : Option Str := if z.length ≤ 100000 then (atI z.cps.toList i).map (fun c => ⟨#[c]⟩) else none
theorem r2_ixS {x : Str} {i : Int} {z : Str} (h : ixS x i = some z) : R2V K rIxS x i z := fun Kn H v w ek h1 h2 Q q => by
  cases h1
  cases h2
  unfold ixS at h
  split at h
  · rename_i hl
    cases e : atI x.cps.toList i with
    | none => rw [e] at h; cases h
    | some c =>
      rw [e] at h
      cases h
      exact ⟨x, i, c, rfl, rfl, le_line (by omega), e, q.fl ek⟩
  · cases h
def cut {α : Type} (xs : List α) (lo hi : Option Int) : List α := (xs.drop (HT.sIx xs.length 0 lo)).take (HT.sIx xs.length xs.length hi - HT.sIx xs.length 0 lo)
theorem paired_cut {F : V → α → Prop} {vs : List V} {xs : List α} (h : Paired F vs xs) (lo hi : Option Int) : Paired F (cutV vs lo hi) (cut xs lo hi) := by
  unfold cutV cut
  rw [Paired.length h]
  exact paired_take _ (paired_drop _ h)
def EO (K : Fg) (F Kn0 : Hp) (sl : List Sl) (ow : List Ow) (to : TO) (o : Option Int) : Prop := ∀ σ Kn H, S K F Kn0 sl ow σ Kn H → ∀ Q : Option Int → Hp → Prop, (∀ Kn' H', Gr Kn H Kn' H' → Q o H') → to σ H Q
theorem eo_none : EO K F Kn0 sl ow tNoPart none := fun σ Kn H s Q q => q Kn H (Gr.refl s.ek)
theorem eo_some {i : Int} (h : EV K F Kn0 sl ow te i) : EO K F Kn0 sl ow (tPart te) (some i) := fun σ Kn H s Q q => h σ Kn H s _ fun v Kn1 H1 g1 r1 => ⟨i, r1, q Kn1 H1 g1⟩
theorem en_sl {xs : List α} {tl th : TO} {lo hi : Option Int} (h : EV K F Kn0 sl ow te xs) (hl : EO K F Kn0 sl ow tl lo) (hh : EO K F Kn0 sl ow th hi) : EN K F Kn0 sl ow (tSl (rSlL K) te tl th) (cut xs lo hi) := fun σ Kn H s Q q =>
  h σ Kn H s _ fun v Kn1 H1 g1 r1 => hl σ Kn1 H1 (s.grow g1) _ fun Kn2 H2 g2 => hh σ Kn2 H2 ((s.grow g1).grow g2) _ fun Kn3 H3 g3 => by
    obtain ⟨p, ws, rfl, h3, h4⟩ := r1
    have g : Gr Kn H Kn3 H3 := (g1.trans g2).trans g3
    have e13 : Ex Kn1 Kn3 := g2.kk.trans g3.kk
    exact ⟨p, ws, rfl, sq_of (g3.kh _ _ (e13 _ _ h3)), fun l hl => q l _ Kn3 _ (g.trans (Gr.newU g3.kh hl)) (fresh_back g.hh hl) (fresh_back g3.kh hl) upd_same (paired_cut (paired_mono e13 h4) lo hi)⟩
theorem en_slF {xs : Fz α} {tl th : TO} {lo hi : Option Int} (h : EV K F Kn0 sl ow te xs) (hl : EO K F Kn0 sl ow tl lo) (hh : EO K F Kn0 sl ow th hi) : EN K F Kn0 sl ow (tSl (rSlL K) te tl th) (cut xs.l lo hi) := fun σ Kn H s Q q =>
  h σ Kn H s _ fun v Kn1 H1 g1 r1 => hl σ Kn1 H1 (s.grow g1) _ fun Kn2 H2 g2 => hh σ Kn2 H2 ((s.grow g1).grow g2) _ fun Kn3 H3 g3 => by
    obtain ⟨p, ws, rfl, h3, h4⟩ := r1
    have g : Gr Kn H Kn3 H3 := (g1.trans g2).trans g3
    have e13 : Ex Kn1 Kn3 := g2.kk.trans g3.kk
    exact ⟨p, ws, rfl, ex_l (e13.trans g3.kh) h3, fun l hl => q l _ Kn3 _ (g.trans (Gr.newU g3.kh hl)) (fresh_back g.hh hl) (fresh_back g3.kh hl) upd_same (paired_cut (paired_mono e13 h4) lo hi)⟩
theorem r2_cat {xs ys : List α} (hz : xs.length + ys.length ≤ 1000000) : R2L K rCat xs ys (xs ++ ys) := fun Kn H v w ek h1 h2 Q q => by
  obtain ⟨p, ws, rfl, h3, h4⟩ := h1
  obtain ⟨p2, ws2, rfl, h5, h6⟩ := h2
  exact ⟨p, p2, ws, ws2, rfl, rfl, ek _ _ h3, ek _ _ h5, by rw [paired_len h4, paired_len h6]; exact le_line hz, fun l hl =>
    q l _ Kn _ (Gr.newU ek hl) hl (fresh_back ek hl) upd_same (paired_append h4 h6)⟩

/-! ### tests -/
variable {t u : TT} {a b c : Bool}
theorem et_test (h : EV K F Kn0 sl ow te b) : ET K F Kn0 sl ow (tTest te) b := fun σ Kn H s Q q => h σ Kn H s _ fun v Kn' H' g r => ⟨b, r, q Kn' H' g⟩
theorem et_B (h : EV K F Kn0 sl ow te b) : ET K F Kn0 sl ow (tB te) b := fun σ Kn H s Q q => h σ Kn H s _ fun v Kn' H' g r => ⟨b, r, q Kn' H' g⟩
theorem et_not (h : ET K F Kn0 sl ow t b) : ET K F Kn0 sl ow (tNot t) (!b) := fun σ Kn H s Q q => h σ Kn H s _ fun Kn' H' g => q Kn' H' g
theorem et_and (h1 : ET K F Kn0 sl ow t a) (h2 : a = true → ET K F Kn0 sl ow u b) : ET K F Kn0 sl ow (tAnd t u) (a && b) := fun σ Kn H s Q q => h1 σ Kn H s _ fun Kn1 H1 g1 => by
  cases a with
  | true => exact iteT (h2 rfl σ Kn1 H1 (s.grow g1) Q fun Kn2 H2 g2 => q Kn2 H2 (g1.trans g2))
  | false => exact iteF (q Kn1 H1 g1)
theorem et_or (h1 : ET K F Kn0 sl ow t a) (h2 : a = false → ET K F Kn0 sl ow u b) : ET K F Kn0 sl ow (tOr t u) (a || b) := fun σ Kn H s Q q => h1 σ Kn H s _ fun Kn1 H1 g1 => by
  cases a with
  | true => exact iteT (q Kn1 H1 g1)
  | false => exact iteF (h2 rfl σ Kn1 H1 (s.grow g1) Q fun Kn2 H2 g2 => q Kn2 H2 (g1.trans g2))
theorem et_andO {m : Option Bool} (h : (if a = true then m else some false) = some c) (h1 : ET K F Kn0 sl ow t a) (h2 : ∀ b, a = true → m = some b → ET K F Kn0 sl ow u b) : ET K F Kn0 sl ow (tAnd t u) c := fun σ Kn H s Q q => h1 σ Kn H s _ fun Kn1 H1 g1 => by
  cases a with
  | true => exact iteT (h2 c rfl h σ Kn1 H1 (s.grow g1) Q fun Kn2 H2 g2 => q Kn2 H2 (g1.trans g2))
  | false =>
    cases h
    exact iteF (q Kn1 H1 g1)
theorem et_orO {m : Option Bool} (h : (if a = true then some true else m) = some c) (h1 : ET K F Kn0 sl ow t a) (h2 : ∀ b, a = false → m = some b → ET K F Kn0 sl ow u b) : ET K F Kn0 sl ow (tOr t u) c := fun σ Kn H s Q q => h1 σ Kn H s _ fun Kn1 H1 g1 => by
  cases a with
  | false => exact iteF (h2 c rfl h σ Kn1 H1 (s.grow g1) Q fun Kn2 H2 g2 => q Kn2 H2 (g1.trans g2))
  | true =>
    cases h
    exact iteT (q Kn1 H1 g1)
theorem ev_andO {m : Option Bool} (h : (if a = true then m else some false) = some c) (h1 : EV K F Kn0 sl ow ta a) (h2 : ∀ b, a = true → m = some b → EV K F Kn0 sl ow tb b) : EV K F Kn0 sl ow (tAndV ta tb) c := fun σ Kn H s Q q => h1 σ Kn H s _ fun v Kn1 H1 g1 r1 => ⟨a, r1, by
  cases a with
  | true => exact iteT (h2 c rfl h σ Kn1 H1 (s.grow g1) Q fun v Kn2 H2 g2 r2 => q v Kn2 H2 (g1.trans g2) r2)
  | false =>
    cases h
    exact iteF (q _ Kn1 H1 g1 rfl)⟩
theorem ev_orO {m : Option Bool} (h : (if a = true then some true else m) = some c) (h1 : EV K F Kn0 sl ow ta a) (h2 : ∀ b, a = false → m = some b → EV K F Kn0 sl ow tb b) : EV K F Kn0 sl ow (tOrV ta tb) c := fun σ Kn H s Q q => h1 σ Kn H s _ fun v Kn1 H1 g1 r1 => ⟨a, r1, by
  cases a with
  | false => exact iteF (h2 c rfl h σ Kn1 H1 (s.grow g1) Q fun v Kn2 H2 g2 r2 => q v Kn2 H2 (g1.trans g2) r2)
  | true =>
    cases h
    exact iteT (q _ Kn1 H1 g1 rfl)⟩
theorem ev_andV (h1 : EV K F Kn0 sl ow ta a) (h2 : a = true → EV K F Kn0 sl ow tb b) : EV K F Kn0 sl ow (tAndV ta tb) (a && b) := fun σ Kn H s Q q => h1 σ Kn H s _ fun v Kn1 H1 g1 r1 => ⟨a, r1, by
  cases a with
  | true => exact iteT (h2 rfl σ Kn1 H1 (s.grow g1) Q fun v Kn2 H2 g2 r2 => q v Kn2 H2 (g1.trans g2) r2)
  | false => exact iteF (q _ Kn1 H1 g1 rfl)⟩
theorem ev_orV (h1 : EV K F Kn0 sl ow ta a) (h2 : a = false → EV K F Kn0 sl ow tb b) : EV K F Kn0 sl ow (tOrV ta tb) (a || b) := fun σ Kn H s Q q => h1 σ Kn H s _ fun v Kn1 H1 g1 r1 => ⟨a, r1, by
  cases a with
  | false => exact iteF (h2 rfl σ Kn1 H1 (s.grow g1) Q fun v Kn2 H2 g2 r2 => q v Kn2 H2 (g1.trans g2) r2)
  | true => exact iteT (q _ Kn1 H1 g1 rfl)⟩
theorem ev_notV (h1 : EV K F Kn0 sl ow ta a) : EV K F Kn0 sl ow (tNotV ta) (!a) := fun σ Kn H s Q q => h1 σ Kn H s _ fun v Kn1 H1 g1 r1 => ⟨a, r1, q _ Kn1 H1 g1 rfl⟩
theorem ev_if {x y : α} (h : ET K F Kn0 sl ow t b) (h1 : b = true → EV K F Kn0 sl ow ta x) (h2 : b = false → EV K F Kn0 sl ow tb y) : EV K F Kn0 sl ow (tIf t ta tb) (if b = true then x else y) := fun σ Kn H s Q q => h σ Kn H s _ fun Kn1 H1 g1 => by
  cases b with
  | true => exact iteT (h1 rfl σ Kn1 H1 (s.grow g1) Q fun v Kn2 H2 g2 r2 => q v Kn2 H2 (g1.trans g2) r2)
  | false => exact iteF (h2 rfl σ Kn1 H1 (s.grow g1) Q fun v Kn2 H2 g2 r2 => q v Kn2 H2 (g1.trans g2) r2)
theorem ev_ifO {m n : Option α} {z : α} (hz : (if b = true then m else n) = some z) (h : ET K F Kn0 sl ow t b) (h1 : ∀ x, b = true → m = some x → EV K F Kn0 sl ow ta x) (h2 : ∀ y, b = false → n = some y → EV K F Kn0 sl ow tb y) : EV K F Kn0 sl ow (tIf t ta tb) z := fun σ Kn H s Q q => h σ Kn H s _ fun Kn1 H1 g1 => by
  cases b with
  | true => exact iteT (h1 z rfl hz σ Kn1 H1 (s.grow g1) Q fun v Kn2 H2 g2 r2 => q v Kn2 H2 (g1.trans g2) r2)
  | false => exact iteF (h2 z rfl hz σ Kn1 H1 (s.grow g1) Q fun v Kn2 H2 g2 r2 => q v Kn2 H2 (g1.trans g2) r2)
/-- truth of a list -/
theorem et_truL {xs : List α} (h : EV K F Kn0 sl ow ta xs) : ET K F Kn0 sl ow (fun σ H Q => ta σ H fun x H' => ∃ k, TruV K x H' k ∧ Q k H') (!xs.isEmpty) := fun σ Kn H s Q q => h σ Kn H s _ fun v Kn1 H1 g1 r1 => by
  obtain ⟨p, ws, rfl, h3, h4⟩ := r1
  refine ⟨_, .inl ⟨ws, sq_of (g1.kh _ _ h3), rfl⟩, ?_⟩
  have e : (!ws.isEmpty) = !xs.isEmpty := by
    cases h4 <;> rfl
  rw [e]
  exact q Kn1 H1 g1
end
end Wk
/-! Wk3: calls, statements, loops, comprehensions -/
namespace Wk
open PySem PySem.Spec L2 Evl

/-! ### promises -/
section
variable {α τ : Type} [Rp α] [Tp τ]
/-- a def that changes nothing: it tells f of its arguments -/
def PF (K : Fg) (f : τ → Option α) : Sp := fun vs H Q _ => ∃ Kn t r, Ex Kn H ∧ rept K Kn vs t ∧ f t = some r ∧ RS K Kn H Q r
/-- .. a new list -/
def PL (K : Fg) (f : τ → Option (List α)) : Sp := fun vs H Q _ => ∃ Kn t r, Ex Kn H ∧ rept K Kn vs t ∧ f t = some r ∧ RL K Kn H Q r
/-- its first argument is a list that it changes -/
def PM {β : Type} [Rp β] (K : Fg) (f : List β → τ → Option (α × List β)) : Sp := fun vs H Q _ => ∃ Kn p ws rest t xs r xs', vs = .ref p :: rest ∧ Ex Kn H ∧ Kn p = none ∧ H p = some (.lst ws) ∧ Paired (rep K Kn) ws xs ∧ rept K Kn rest t ∧ f xs t = some (r, xs') ∧
  ∀ v Kn' H' ws', Ex Kn Kn' → Ex Kn' H' → (∀ q, q ≠ p → H q ≠ none → H' q = H q) → (∀ q, H q ≠ none → Kn q = none → Kn' q = none) → H' p = some (.lst ws') → Paired (rep K Kn') ws' xs' → rep K Kn' v r → Q v H'
end
section
variable {K : Fg} {F Kn0 : Hp} {sl sl' : List Sl} {ow ow1 ow2 : List Ow} {α β γ τ : Type} [Rp α] [Rp β] [Rp γ] [Tp τ] {ta : TA} {te : TE} {t : τ} {E : XK}
theorem ev_call {f : τ → Option α} {r : α} (h : EA K F Kn0 sl ow ta t) (hf : f t = some r) : EV K F Kn0 sl ow (tCall (PF K f) [] E ta) r := fun σ Kn H s Q q =>
  h σ Kn H s _ fun vs Kn1 H1 g1 r1 => by
    show PF K f (vs ++ []) H1 Q E
    rw [List.append_nil]
    exact ⟨Kn1, t, r, g1.kh, r1, hf, fun u Kn' H' g' r' => q u Kn' H' (g1.trans g') r'⟩
theorem en_call {f : τ → Option (List α)} {r : List α} (h : EA K F Kn0 sl ow ta t) (hf : f t = some r) : EN K F Kn0 sl ow (tCall (PL K f) [] E ta) r := fun σ Kn H s Q q =>
  h σ Kn H s _ fun vs Kn1 H1 g1 r1 => by
    show PL K f (vs ++ []) H1 Q E
    rw [List.append_nil]
    exact ⟨Kn1, t, r, g1.kh, r1, hf, fun p ws Kn' H' g' hp kp hw r' => q p ws Kn' H' (g1.trans g') (fresh_back g1.hh hp) kp hw r'⟩
theorem em_call {f : τ → Option α} {r : α} (h : EAM K F Kn0 sl ow ta ow1 t) (hf : f t = some r) : EM K F Kn0 sl ow (tCall (PF K f) [] E ta) ow1 r := fun σ Kn H s Q q =>
  h σ Kn H s _ fun vs Kn1 H1 e1 s1 r1 => by
    show PF K f (vs ++ []) H1 Q E
    rw [List.append_nil]
    exact ⟨Kn1, t, r, s1.ek, r1, hf, fun u Kn' H' g' r' => q u Kn' H' (e1.trans g'.kk) (s1.grow g') r'⟩
theorem enm_call {f : τ → Option (List α)} {r : List α} (h : EAM K F Kn0 sl ow ta ow1 t) (hf : f t = some r) : ENM K F Kn0 sl ow (tCall (PL K f) [] E ta) ow1 r := fun σ Kn H s Q q =>
  h σ Kn H s _ fun vs Kn1 H1 e1 s1 r1 => by
    show PL K f (vs ++ []) H1 Q E
    rw [List.append_nil]
    exact ⟨Kn1, t, r, s1.ek, r1, hf, fun p ws Kn' H' g' hp kp hw r' => q p ws Kn' H' (e1.trans g'.kk) (s1.grow g') (fresh_back s1.ef hp) kp (owned_ne s1 hp) hw r'⟩
theorem ow_at {ow : List Ow} (h : (ow.map Ow.ad).Nodup) {i j : Nat} {o u : Ow} (hi : ow[i]? = some o) (hj : ow[j]? = some u) (e : o.ad = u.ad) : i = j := by
  have a1 : (ow.map Ow.ad)[i]? = some o.ad := by rw [List.getElem?_map, hi]; rfl
  have a2 : (ow.map Ow.ad)[j]? = some o.ad := by rw [List.getElem?_map, hj, e]; rfl
  exact nd_ix h a1 a2
/-- the object at place j is another one now, all else as it was -/
theorem S.write {σ : L2.St} {Kn H Kn' H' : Hp} {p : Addr} {xs xs' : List β} {ws : List V} {j : Nat} (s : S K F Kn0 sl ow σ Kn H) (hj : ow[j]? = some (ol p xs)) (kk : Ex Kn Kn') (kh : Ex Kn' H')
    (hq : ∀ q, q ≠ p → H q ≠ none → H' q = H q) (sp : ∀ q, H q ≠ none → Kn q = none → Kn' q = none) (hp : H' p = some (.lst ws)) (r : Paired (rep K Kn') ws xs') : S K F Kn0 sl (ow.set j (ol p xs')) σ Kn' H' := by
  obtain ⟨f1, f2, f3⟩ := s.ow.each _ (List.mem_of_getElem? hj)
  have f1 : F p = none := f1
  have f2 : Kn p = none := f2
  have f4 : H p ≠ none := Ow.there f3
  have jl : j < ow.length := (List.getElem?_eq_some_iff.mp hj).1
  refine ⟨s.e0.trans kk, kh, fun a u h => ?_, fun a h1 h2 => sp a (Ex.nn s.ef h1) (s.sep a h1 h2), s.sl.mono kk, ⟨fun o ho => ?_, ?_⟩⟩
  · have hne : a ≠ p := fun z => by rw [z, f1] at h; cases h
    rw [hq a hne (ne_none_of (s.ef _ _ h))]
    exact s.ef _ _ h
  · obtain ⟨i, hi⟩ := List.getElem?_of_mem ho
    by_cases e : i = j
    · subst e
      rw [List.getElem?_set_self jl] at hi
      cases hi
      exact ⟨f1, sp p f4 f2, ws, hp, r⟩
    · rw [List.getElem?_set_ne (Ne.symm e)] at hi
      obtain ⟨h1, h2, h3⟩ := s.ow.each o (List.mem_of_getElem? hi)
      have h4 := Ow.there h3
      have hne : o.ad ≠ p := fun z => e (ow_at s.ow.nd hi hj z)
      exact ⟨h1, sp _ h4 h2, Ow.ok_mono kk (hq _ hne h4) h3⟩
  · have e : (ow.set j (ol p xs')).map Ow.ad = ow.map Ow.ad := by
      rw [List.map_set]
      refine List.ext_getElem? fun i => ?_
      by_cases e : j = i
      · subst e
        rw [List.getElem?_set_self (by rw [List.length_map]; exact jl), List.getElem?_map, hj]
        rfl
      · rw [List.getElem?_set_ne e]
    rw [e]
    exact s.ow.nd
theorem em_callM {f : List β → τ → Option (α × List β)} {r : α} {i j : Nat} {p : Addr} {xs xs' : List β} (hi : sl[i]? = some (.at p)) (h : EAM K F Kn0 sl ow ta ow1 t) (hj : ow1[j]? = some (ol p xs)) (hf : f xs t = some (r, xs')) :
    EM K F Kn0 sl ow (tCall (PM K f) [] E (tCons (tVar i) ta)) (ow1.set j (ol p xs')) r := fun σ Kn H s Q q => by
  obtain ⟨o, h1, h2⟩ := s.sl.get hi
  refine ⟨.ref p, by rw [h1]; exact congrArg some h2, h σ Kn H s _ fun vs Kn1 H1 e1 s1 r1 => ?_⟩
  show PM K f ((.ref p :: vs) ++ []) H1 Q E
  rw [List.append_nil]
  obtain ⟨f1, f2, ws, f3, f4⟩ := s1.ow.each _ (List.mem_of_getElem? hj)
  exact ⟨Kn1, p, ws, vs, t, xs, r, xs', rfl, s1.ek, f2, f3, f4, r1, hf, fun v Kn' H' ws' kk kh hq sp hp rr rv => q v Kn' H' (e1.trans kk) (s1.write hj kk kh hq sp hp rr) rv⟩
end

/-! ### statements -/
section
variable (K : Fg) (F Kn0 : Hp) (sl : List Sl) (ow : List Ow)
def SN (D : Ends) : Prop := ∀ σ Kn H, S K F Kn0 sl ow σ Kn H → D.nx σ H
def SC (D : Ends) : Prop := ∀ σ Kn H, S K F Kn0 sl ow σ Kn H → D.ct σ H
def SK (D : Ends) : Prop := ∀ σ Kn H, S K F Kn0 sl ow σ Kn H → D.bk σ H
end
section
variable {K : Fg} {F Kn0 : Hp} {sl sl' : List Sl} {ow ow0 ow1 ow2 : List Ow} {α β γ τ : Type} [Rp α] [Rp β] [Rp γ] [Tp τ] {ta tb te : TE} {x : α} {D : Ends} {t u tz : TS} {tt : TT} {b : Bool} {i j : Nat} {p : Addr}
theorem SB.seq (h : SB K F Kn0 sl ow { D with nx := tz D } t) : SB K F Kn0 sl ow D (tSeq t tz) := h
theorem SB.le (h : SB K F Kn0 sl' ow D t) (l : SlLe sl sl') : SB K F Kn0 sl ow D t := fun σ Kn H s => h σ Kn H (s.le l)
theorem SB.sub (h : SB K F Kn0 sl ow1 D t) (l : ow1.Sublist ow) : SB K F Kn0 sl ow D t := fun σ Kn H s => h σ Kn H (s.sub l)
theorem SN.le (h : SN K F Kn0 sl' ow D) (l : SlLe sl sl') : SN K F Kn0 sl ow D := fun σ Kn H s => h σ Kn H (s.le l)
theorem SN.sub (h : SN K F Kn0 sl ow1 D) (l : ow1.Sublist ow) : SN K F Kn0 sl ow D := fun σ Kn H s => h σ Kn H (s.sub l)
theorem EN.le {xs : List α} (h : EN K F Kn0 sl' ow te xs) (l : SlLe sl sl') : EN K F Kn0 sl ow te xs := fun σ Kn H s => h σ Kn H (s.le l)
theorem EV.le (h : EV K F Kn0 sl' ow te x) (l : SlLe sl sl') : EV K F Kn0 sl ow te x := fun σ Kn H s => h σ Kn H (s.le l)
theorem sb_nx (k : SN K F Kn0 sl ow D) : SB K F Kn0 sl ow D tNext := k
theorem sb_ct (k : SC K F Kn0 sl ow D) : SB K F Kn0 sl ow D tCont := k
theorem sb_bk (k : SK K F Kn0 sl ow D) : SB K F Kn0 sl ow D tBreak := k
theorem sb_asg (hs : sl.set i (sv x) = sl') (h : EV K F Kn0 sl ow te x) (k : SN K F Kn0 sl' ow D) : SB K F Kn0 sl ow D (tAsg te (gName i)) := fun σ Kn H s =>
  h σ Kn H s _ fun v Kn1 H1 g1 r1 => k _ Kn1 H1 (hs ▸ (s.grow g1).setv i r1)
theorem sb_asgM (hs : sl.set i (sv x) = sl') (h : EM K F Kn0 sl ow te ow1 x) (k : SN K F Kn0 sl' ow1 D) : SB K F Kn0 sl ow D (tAsg te (gName i)) := fun σ Kn H s =>
  h σ Kn H s _ fun v Kn1 H1 e1 s1 r1 => k _ Kn1 H1 (hs ▸ s1.setv i r1)
/-- a new object is one's own -/
theorem S.own {σ : L2.St} {Kn H : Hp} {xs : List α} {ws : List V} (s : S K F Kn0 sl ow σ Kn H) (fp : F p = none) (kp : Kn p = none) (no : ∀ o ∈ ow, o.ad ≠ p) (hp : H p = some (.lst ws)) (r : Paired (rep K Kn) ws xs) : S K F Kn0 sl (ol p xs :: ow) σ Kn H :=
  ⟨s.e0, s.ek, s.ef, s.sep, s.sl, ⟨fun o ho => by
    rcases List.mem_cons.mp ho with rfl | ho
    · exact ⟨fp, kp, ws, hp, r⟩
    · exact s.ow.each o ho, List.nodup_cons.mpr ⟨fun h => by
      obtain ⟨o, ho, e⟩ := List.mem_map.mp h
      exact no o ho e, s.ow.nd⟩⟩⟩
theorem S.seta {σ : L2.St} {Kn H : Hp} (s : S K F Kn0 sl ow σ Kn H) (i : Nat) : S K F Kn0 (sl.set i (.at p)) ow (σ.set i (some (.ref p))) Kn H := s.set i rfl
theorem sb_asgO {xs : List α} {sl' : Addr → List Sl} (hs : ∀ p, sl.set i (.at p) = sl' p) (h : EN K F Kn0 sl ow te xs) (k : ∀ p, SN K F Kn0 (sl' p) (ol p xs :: ow) D) : SB K F Kn0 sl ow D (tAsg te (gName i)) := fun σ Kn H s =>
  h σ Kn H s _ fun p ws Kn1 H1 g1 hp kp hw r1 => k p _ Kn1 H1 (hs p ▸ ((s.grow g1).own (fresh_back s.ef hp) kp (owned_ne s hp) hw r1).seta i)
theorem sb_asgOM {xs : List α} {sl' : Addr → List Sl} (hs : ∀ p, sl.set i (.at p) = sl' p) (h : ENM K F Kn0 sl ow te ow1 xs) (k : ∀ p, SN K F Kn0 (sl' p) (ol p xs :: ow1) D) : SB K F Kn0 sl ow D (tAsg te (gName i)) := fun σ Kn H s =>
  h σ Kn H s _ fun p ws Kn1 H1 e1 s1 fp kp no hw r1 => k p _ Kn1 H1 (hs p ▸ (s1.own fp kp no hw r1).seta i)
theorem sb_aug {a c : Int} {f : Int → Int → Int} (hi : sl[i]? = some (sv a)) (hs : sl.set i (sv (f a c)) = sl') (h : EV K F Kn0 sl ow te c) (k : SN K F Kn0 sl' ow D) : SB K F Kn0 sl ow D (tAug i te (ipI f)) := fun σ Kn H s => by
  obtain ⟨o, h1, v, h2, h3⟩ := s.sl.get hi
  cases h3
  exact ⟨.int a, by rw [h1, h2], h σ Kn H s _ fun v Kn1 H1 g1 r1 => ⟨a, c, rfl, r1, k _ Kn1 H1 (hs ▸ (s.grow g1).setv (x := f a c) i rfl)⟩⟩
theorem sb_drop (h : EV K F Kn0 sl ow te x) (k : SN K F Kn0 sl ow D) : SB K F Kn0 sl ow D (tDrop te) := fun σ Kn H s => h σ Kn H s _ fun v Kn1 H1 g1 r1 => k _ Kn1 H1 (s.grow g1)
theorem sb_dropM (h : EM K F Kn0 sl ow te ow1 x) (k : SN K F Kn0 sl ow1 D) : SB K F Kn0 sl ow D (tDrop te) := fun σ Kn H s => h σ Kn H s _ fun v Kn1 H1 e1 s1 r1 => k _ Kn1 H1 s1
theorem upd_in {Kn H : Hp} {o : HO} (ek : Ex Kn H) (kp : Kn p = none) : Ex Kn (upd H p o) := fun a u h => by
  have hq : a ≠ p := fun z => by rw [z, kp] at h; cases h
  rw [upd_ne hq]
  exact ek _ _ h
/-- found.append(e) -/
theorem sb_app {xs : List α} (hi : sl[i]? = some (.at p)) (hj : ow[j]? = some (ol p xs)) (h : EV K F Kn0 sl ow te x) (hz : xs.length < 1000000) (k : SN K F Kn0 sl (ow.set j (ol p (xs ++ [x]))) D) :
    SB K F Kn0 sl ow D (tDrop (tBM K "list" rAppend (tVar i) (tCons te tNil))) := fun σ Kn H s => by
  obtain ⟨o, h1, h2⟩ := s.sl.get hi
  obtain ⟨f1, f2, ws, f3, f4⟩ := s.ow.each _ (List.mem_of_getElem? hj)
  refine ⟨.ref p, by rw [h1]; exact congrArg some h2, Or.inl ⟨rfl, ws, sq_of f3⟩, h σ Kn H s _ fun v Kn1 H1 g1 r1 => ?_⟩
  refine ⟨p, ws, v, rfl, rfl, g1.hh _ _ f3, by rw [paired_len f4]; exact lt_line hz, k _ Kn1 _ ?_⟩
  have kp1 : Kn1 p = none := g1.sp p (ne_none_of f3) f2
  exact (s.grow g1).write hj (Ex.refl _) (upd_in g1.kh kp1) (fun q hq _ => upd_ne hq) (fun _ _ h => h) upd_same (paired_append (paired_mono g1.kk f4) (.cons r1 .nil))
theorem sb_appM {xs : List α} (hi : sl[i]? = some (.at p)) (hi0 : ow[j]? = some (ol p xs)) (h : EM K F Kn0 sl ow te ow1 x) (hj : ow1[j]? = some (ol p xs)) (hz : xs.length < 1000000) (k : SN K F Kn0 sl (ow1.set j (ol p (xs ++ [x]))) D) :
    SB K F Kn0 sl ow D (tDrop (tBM K "list" rAppend (tVar i) (tCons te tNil))) := fun σ Kn H s => by
  obtain ⟨o, h1, h2⟩ := s.sl.get hi
  obtain ⟨_, _, ws0, f0, _⟩ := s.ow.each _ (List.mem_of_getElem? hi0)
  refine ⟨.ref p, by rw [h1]; exact congrArg some h2, Or.inl ⟨rfl, ws0, sq_of f0⟩, h σ Kn H s _ fun v Kn1 H1 e1 s1 r1 => ?_⟩
  obtain ⟨f1, f2, ws, f3, f4⟩ := s1.ow.each _ (List.mem_of_getElem? hj)
  refine ⟨p, ws, v, rfl, rfl, f3, by rw [paired_len f4]; exact lt_line hz, k _ Kn1 _ ?_⟩
  exact s1.write hj (Ex.refl _) (upd_in s1.ek f2) (fun q hq _ => upd_ne hq) (fun _ _ h => h) upd_same (paired_append f4 (.cons r1 .nil))
/-- the place of a written index -/
def setI {α : Type} (xs : List α) (i : Int) (x : α) : Option (List α) := (ixN xs.length i).map fun j => xs.set j x
/-- found[e] = x -/
theorem sb_setI {xs xs' : List α} {n : Int} (hi : sl[i]? = some (.at p)) (hj : ow[j]? = some (ol p xs)) (h : EV K F Kn0 sl ow te x) (hn : EV K F Kn0 sl ow tb n) (hx : setI xs n x = some xs') (k : SN K F Kn0 sl (ow.set j (ol p xs')) D) :
    SB K F Kn0 sl ow D (tAsg te (gSub (tVar i) tb rSetL)) := fun σ Kn H s => h σ Kn H s _ fun v Kn1 H1 g1 r1 => by
  obtain ⟨o, h1, h2⟩ := s.sl.get hi
  refine ⟨.ref p, by rw [h1]; exact congrArg some h2, hn σ Kn1 H1 (s.grow g1) _ fun w Kn2 H2 g2 r2 => ?_⟩
  have s2 := (s.grow g1).grow g2
  obtain ⟨f1, f2, ws, f3, f4⟩ := s2.ow.each _ (List.mem_of_getElem? hj)
  unfold setI at hx
  cases e : ixN xs.length n with
  | none => rw [e] at hx; cases hx
  | some m =>
    rw [e] at hx
    cases hx
    cases r2
    refine ⟨p, ws, n, m, rfl, rfl, f3, by rw [paired_len f4]; exact e, k _ Kn2 _ ?_⟩
    exact s2.write hj (Ex.refl _) (upd_in g2.kh f2) (fun q hq _ => upd_ne hq) (fun _ _ h => h) upd_same (paired_set (Rp.mono g2.kk r1) m f4)
/-- from now on it is known and stays as it is -/
theorem sb_freeze {xs : List α} (hi : sl[i]? = some (.at p)) (hj : ow[j]? = some (ol p xs)) (hs : sl.set i (sv xs) = sl') (ho : ow.eraseIdx j = ow1) (k : SB K F Kn0 sl' ow1 D t) : SB K F Kn0 sl ow D t := fun σ Kn H s => by
  obtain ⟨o, h1, h2⟩ := s.sl.get hi
  have h2 : o = some (.ref p) := h2
  obtain ⟨f1, f2, ws, f3, f4⟩ := s.ow.each _ (List.mem_of_getElem? hj)
  have hsub : ow1.Sublist ow := ho ▸ List.eraseIdx_sublist ow j
  have s1 := s.sub hsub
  have no : ∀ o ∈ ow1, o.ad ≠ p := fun o hm z => by
    have hnd := s.ow.nd
    subst ho
    obtain ⟨m, hm'⟩ := List.getElem?_of_mem hm
    rw [List.getElem?_eraseIdx] at hm'
    split at hm'
    · rename_i hlt
      have := ow_at hnd hm' hj z
      omega
    · rename_i hge
      have := ow_at hnd hm' hj z
      omega
  have s2 := s1.know (o := .lst ws) f1 f2 no f3
  have hσ : σ.set i o = σ := by
    refine List.ext_getElem? fun m => ?_
    by_cases e : i = m
    · subst e
      rw [List.getElem?_set_self (List.getElem?_eq_some_iff.mp h1).1, h1]
    · rw [List.getElem?_set_ne e]
  have s3 := s2.set (x := sv xs) (o := o) i ⟨.ref p, h2, p, ws, rfl, upd_same, paired_mono (Ex.new f2) f4⟩
  rw [hs, hσ] at s3
  exact k σ _ H s3
theorem sb_if (h : ET K F Kn0 sl ow tt b) (h1 : b = true → SB K F Kn0 sl ow D t) (h2 : b = false → SB K F Kn0 sl ow D u) : SB K F Kn0 sl ow D (tIfS tt t u) := fun σ Kn H s => h σ Kn H s _ fun Kn1 H1 g1 => by
  cases b with
  | true => exact iteT (h1 rfl σ Kn1 H1 (s.grow g1))
  | false => exact iteF (h2 rfl σ Kn1 H1 (s.grow g1))
theorem sb_cut (h : SB K F Kn0 sl ow { D with nx := fun σ H => ∃ Kn, S K F Kn0 sl' ow1 σ Kn H } t) (k : SB K F Kn0 sl' ow1 D tz) : SB K F Kn0 sl ow D (tCut t tz) := fun σ Kn H s => ⟨_, h σ Kn H s, fun σ' H' ⟨Kn', s'⟩ => k σ' Kn' H' s'⟩
theorem sn_mid (l : SlLe sl sl') (l2 : ow1.Sublist ow) : SN K F Kn0 sl ow { D with nx := fun σ H => ∃ Kn, S K F Kn0 sl' ow1 σ Kn H } := fun σ Kn H s => ⟨Kn, (s.le l).sub l2⟩
/-- returns -/
theorem sb_ret {R : VK} (h : EV K F Kn0 sl ow te x) (q : RT K F Kn0 ow0 R x) (l : ow0.Sublist ow) (hR : D.rt = R := by rfl) : SB K F Kn0 sl ow D (tRet te) := fun σ Kn H s => by
  subst hR
  exact h σ Kn H s _ fun v Kn1 H1 g1 r1 => q v Kn1 H1 ((s.grow g1).sub l).fin r1
theorem sb_retM {R : VK} (h : EM K F Kn0 sl ow te ow1 x) (q : RT K F Kn0 ow0 R x) (l : ow0.Sublist ow1) (hR : D.rt = R := by rfl) : SB K F Kn0 sl ow D (tRet te) := fun σ Kn H s => by
  subst hR
  exact h σ Kn H s _ fun v Kn1 H1 e1 s1 r1 => q v Kn1 H1 (s1.sub l).fin r1
theorem sb_retL {R : VK} {xs : List α} (h : EN K F Kn0 sl ow te xs) (q : RN K F Kn0 ow0 R xs) (l : ow0.Sublist ow) (hR : D.rt = R := by rfl) : SB K F Kn0 sl ow D (tRet te) := fun σ Kn H s => by
  subst hR
  exact h σ Kn H s _ fun p ws Kn1 H1 g1 hp kp hw r1 => q p ws Kn1 H1 ((s.grow g1).sub l).fin (fresh_back s.ef hp) kp hw r1
/-- a list of one's own is told -/
theorem sb_retO {R : VK} {xs : List α} (hi : sl[i]? = some (.at p)) (hj : ow[j]? = some (ol p xs)) (q : RN K F Kn0 ow0 R xs) (l : ow0.Sublist ow) (hR : D.rt = R := by rfl) : SB K F Kn0 sl ow D (tRet (tVar i)) := fun σ Kn H s => by
  subst hR
  obtain ⟨o, h1, h2⟩ := s.sl.get hi
  obtain ⟨f1, f2, ws, f3, f4⟩ := s.ow.each _ (List.mem_of_getElem? hj)
  exact ⟨.ref p, by rw [h1]; exact congrArg some h2, q p ws Kn H (s.sub l).fin f1 f2 f3 f4⟩
theorem SB.seqB (h : (∀ sl' ow', SB K F Kn0 sl' ow' D tz → SN K F Kn0 sl' ow' { D with nx := tz D }) → SB K F Kn0 sl ow { D with nx := tz D } t) : SB K F Kn0 sl ow D (tSeq t tz) := h fun _ _ k => k
theorem SB.cutB (h : (∀ sl2 ow2, SlLe sl2 sl' → ow1.Sublist ow2 → SN K F Kn0 sl2 ow2 { D with nx := fun σ H => ∃ Kn, S K F Kn0 sl' ow1 σ Kn H }) → SB K F Kn0 sl ow { D with nx := fun σ H => ∃ Kn, S K F Kn0 sl' ow1 σ Kn H } t) (k : SB K F Kn0 sl' ow1 D tz) : SB K F Kn0 sl ow D (tCut t tz) :=
  sb_cut (h fun _ _ l l2 => sn_mid l l2) k
end

/-! ### targets -/
section
variable {α β τ : Type} [Rp α] [Rp β] [Tp τ] {sl sl' sl2 : List Sl} {K : Fg}
theorem wipe_set : ∀ {vs : List Nat} {i : Nat} {o : Option V} {σ : L2.St}, i ∈ vs → wipe (σ.set i o) vs = wipe σ vs
  | v :: vs, i, o, σ, h => by
    by_cases e : i ∈ vs
    · unfold wipe
      rw [wipe_set e]
    · have hv : i = v := (List.mem_cons.mp h).resolve_right e
      subst hv
      have w : ∀ (vs : List Nat) (σ : L2.St), i ∉ vs → wipe (σ.set i o) vs = (wipe σ vs).set i o := by
        intro vs
        induction vs with
        | nil => intro σ _; rfl
        | cons a r ih =>
          intro σ hn
          show (wipe (σ.set i o) r).set a none = ((wipe σ r).set a none).set i o
          rw [ih σ (fun z => hn (List.mem_cons_of_mem _ z)), List.set_comm]
          exact fun z => hn (by rw [z]; exact List.mem_cons_self)
      show (wipe (σ.set i o) vs).set i none = (wipe σ vs).set i none
      rw [w vs σ e, List.set_set]
def GT (K : Fg) (g : TG) (sl sl' : List Sl) (js : List Nat) (x : α) : Prop := ∀ σ Kn H v, SlsOk K Kn sl σ → Ex Kn H → rep K Kn v x → ∀ Q : L2.St → Hp → Prop, (∀ σ', SlsOk K Kn sl' σ' → (∀ vs, (∀ j ∈ js, j ∈ vs) → wipe σ' vs = wipe σ vs) → Q σ' H) → g v σ H Q
def GTs (K : Fg) (g : TGs) (sl sl' : List Sl) (js : List Nat) (t : τ) : Prop := ∀ σ Kn H vs, SlsOk K Kn sl σ → Ex Kn H → rept K Kn vs t → ∀ Q : L2.St → Hp → Prop, (∀ σ', SlsOk K Kn sl' σ' → (∀ vs, (∀ j ∈ js, j ∈ vs) → wipe σ' vs = wipe σ vs) → Q σ' H) → g vs σ H Q
theorem gt_name {i : Nat} {x : α} (hs : sl.set i (sv x) = sl') : GT K (gName i) sl sl' [i] x := fun σ Kn H v s ek r Q q => q _ (hs ▸ SlsOk.set (s := sv x) ⟨v, rfl, r⟩ i s) fun vs h => wipe_set (h i (by simp))
theorem gts_nil : GTs K gNil sl sl [] () := fun σ Kn H vs s ek r Q q => ⟨r, q σ s fun _ _ => rfl⟩
theorem gts_cons {g : TG} {gs : TGs} {js ks : List Nat} {x : α} {t : τ} (h1 : GT K g sl sl' js x) (h2 : GTs K gs sl' sl2 ks t) : GTs K (gCons g gs) sl sl2 (js ++ ks) (x, t) := fun σ Kn H vs s ek r Q q => by
  obtain ⟨v, rest, rfl, r1, r2⟩ := r
  exact ⟨v, rest, rfl, h1 σ Kn H v s ek r1 _ fun σ1 s1 w1 => h2 σ1 Kn H rest s1 ek r2 _ fun σ2 s2 w2 => q σ2 s2 fun vs h => (w2 vs fun j hj => h j (List.mem_append_right _ hj)).trans (w1 vs fun j hj => h j (List.mem_append_left _ hj))⟩
theorem gt_tup {gs : TGs} {js : List Nat} {n : Nat} {t : α × τ} (h : GTs K gs sl sl' js t) (hn : Tp.n (α × τ) = n := by rfl) : GT K (gTup K n gs) sl sl' js t := fun σ Kn H v s ek r Q q => by
  obtain ⟨p, ws, rfl, h1, h2⟩ := r
  exact ⟨p, ws, rfl, st_of (ek _ _ h1), (Tp.len h2).trans hn, h σ Kn H ws s ek h2 Q q⟩
end
section
variable {K : Fg} {F Kn0 : Hp} {sl sl' : List Sl} {ow ow1 : List Ow} {α : Type} [Rp α] {te : TE} {x : α} {D : Ends} {g : TG} {js : List Nat}
/-- a, b = e -/
theorem sb_unp (h : EV K F Kn0 sl ow te x) (hg : GT K g sl sl' js x) (k : SN K F Kn0 sl' ow D) : SB K F Kn0 sl ow D (tAsg te g) := fun σ Kn H s =>
  h σ Kn H s _ fun v Kn1 H1 g1 r1 => by
    have s1 := s.grow g1
    exact hg σ Kn1 H1 v s1.sl s1.ek r1 _ fun σ' h' _ => k σ' Kn1 H1 ⟨s1.e0, s1.ek, s1.ef, s1.sep, h', s1.ow⟩
theorem sb_unpM (h : EM K F Kn0 sl ow te ow1 x) (hg : GT K g sl sl' js x) (k : SN K F Kn0 sl' ow1 D) : SB K F Kn0 sl ow D (tAsg te g) := fun σ Kn H s =>
  h σ Kn H s _ fun v Kn1 H1 e1 s1 r1 => hg σ Kn1 H1 v s1.sl s1.ek r1 _ fun σ' h' _ => k σ' Kn1 H1 ⟨s1.e0, s1.ek, s1.ef, s1.sep, h', s1.ow⟩
/-- a, b = e1, e2 -/
theorem sb_par {α β : Type} [Rp α] [Rp β] {ta : TA} {i j : Nat} {x : α} {y : β} (hs : (sl.set i (sv x)).set j (sv y) = sl') (h : EA K F Kn0 sl ow ta (x, y, ())) (k : SN K F Kn0 sl' ow D) : SB K F Kn0 sl ow D (tPar i j ta) := fun σ Kn H s =>
  h σ Kn H s _ fun vs Kn1 H1 g1 r1 => by
    obtain ⟨v, w, rfl, h1, h2⟩ := two_args r1
    exact ⟨v, w, rfl, k _ Kn1 H1 (hs ▸ ((s.grow g1).setv i h1).setv j h2)⟩
end

/-! ### what is walked -/
def WK {β : Type} [Rp β] (K : Fg) (Kn1 : Hp) (J : It) (xs : List β) : Prop := ∀ i Kn' H', Ex Kn1 Kn' → Ex Kn' H' →
  (∀ x, xs[i]? = some x → J.go i H' ∧ ∀ v H2, J.yld i H' v H2 → ∃ Kn2, Gr Kn' H' Kn2 H2 ∧ rep K Kn2 v x) ∧ (xs.length ≤ i → J.stop i H')
section
variable (K : Fg) (F Kn0 : Hp) (sl : List Sl) (ow : List Ow)
def IT {β : Type} [Rp β] (wi : TI) (xs : List β) : Prop := ∀ σ Kn H, S K F Kn0 sl ow σ Kn H → ∀ R : It → Hp → Prop, (∀ J Kn1 H1, Gr Kn H Kn1 H1 → WK K Kn1 J xs → R J H1) → wi σ H R
def ITM {β : Type} [Rp β] (wi : TI) (ow' : List Ow) (xs : List β) : Prop := ∀ σ Kn H, S K F Kn0 sl ow σ Kn H → ∀ R : It → Hp → Prop, (∀ J Kn1 H1, Ex Kn Kn1 → S K F Kn0 sl ow' σ Kn1 H1 → WK K Kn1 J xs → R J H1) → wi σ H R
end
/-- lo, lo + 1 .. below hi -/
def irange (lo hi : Int) : List Int := (List.range (hi - lo).toNat).map fun (k : Nat) => lo + (k : Int)
def rngO (lo hi : Int) : Option (List Int) := if -1000000000000 ≤ lo ∧ lo ≤ 1000000000000 ∧ -1000000000000 ≤ hi ∧ hi ≤ 1000000000000 then some (irange lo hi) else none
def enumI {α : Type} (xs : List α) : List (Int × α × Unit) := xs.mapIdx fun i x => ((i : Int), x, ())
def zipI {α β : Type} (xs : List α) (ys : List β) : List (α × β × Unit) := List.zipWith (fun a b => (a, b, ())) xs ys
section
variable {K : Fg} {F Kn0 : Hp} {sl sl' : List Sl} {ow ow1 : List Ow} {α β : Type} [Rp α] [Rp β] {te : TE} {ta : TA}
theorem IT.m {wi : TI} {xs : List β} (h : IT K F Kn0 sl ow wi xs) : ITM K F Kn0 sl ow wi ow xs := fun σ Kn H s R q => h σ Kn H s R fun J Kn1 H1 g w => q J Kn1 H1 g.kk (s.grow g) w
theorem wk_list {Kn1 : Hp} {p : Addr} {ws : List V} {xs : List α} (h : SqL K Kn1 p ws) (r : Paired (rep K Kn1) ws xs) : WK K Kn1 (Itl K p) xs := fun i Kn' H' e1 e2 => by
  have hq : SqL K H' p ws := ex_l (e1.trans e2) h
  refine ⟨fun x hx => ?_, fun hl => ⟨ws, hq, by rw [paired_len r]; exact hl⟩⟩
  obtain ⟨v, hv, rv⟩ := paired_at r hx
  refine ⟨⟨ws, v, hq, hv⟩, fun u H2 hy => ?_⟩
  obtain ⟨rfl, f⟩ := hy
  have : v = u := Option.some.inj (hv.symm.trans (f ws hq))
  subst this
  exact ⟨Kn', Gr.refl e2, Rp.mono e1 rv⟩
theorem it_list {xs : List α} (h : EV K F Kn0 sl ow te xs) : IT K F Kn0 sl ow (iList K te) xs := fun σ Kn H s R q => h σ Kn H s _ fun v Kn1 H1 g1 r1 => by
  obtain ⟨p, ws, rfl, h3, h4⟩ := r1
  exact ⟨p, rfl, ⟨ws, sq_of (g1.kh _ _ h3)⟩, q _ Kn1 H1 g1 (wk_list (sq_of h3) h4)⟩
theorem it_listF {xs : Fz α} (h : EV K F Kn0 sl ow te xs) : IT K F Kn0 sl ow (iList K te) xs.l := fun σ Kn H s R q => h σ Kn H s _ fun v Kn1 H1 g1 r1 => by
  obtain ⟨p, ws, rfl, h3, h4⟩ := r1
  exact ⟨p, rfl, ⟨ws, ex_l g1.kh h3⟩, q _ Kn1 H1 g1 (wk_list h3 h4)⟩
theorem itm_list {xs : List α} (h : ENM K F Kn0 sl ow te ow1 xs) : ITM K F Kn0 sl ow (iList K te) ow1 xs := fun σ Kn H s R q => h σ Kn H s _ fun p ws Kn1 H1 e1 s1 fp kp no hw r1 => by
  have s2 := s1.know (o := .lst ws) fp kp no hw
  exact ⟨p, rfl, ⟨ws, sq_of hw⟩, q _ _ H1 (e1.trans (Ex.new kp)) s2 (wk_list (sq_of upd_same) (paired_mono (Ex.new kp) r1))⟩
theorem it_tup {xs : Tu α} (h : EV K F Kn0 sl ow te xs) : IT K F Kn0 sl ow (iTup K te) xs.l := fun σ Kn H s R q => h σ Kn H s _ fun v Kn1 H1 g1 r1 => by
  obtain ⟨p, ws, rfl, h3, h4⟩ := r1
  refine ⟨p, rfl, ⟨ws, st_of (g1.kh _ _ h3)⟩, q _ Kn1 H1 g1 fun i Kn' H' e1 e2 => ?_⟩
  have hq : SqT K H' p ws := st_of ((e1.trans e2) _ _ h3)
  refine ⟨fun x hx => ?_, fun hl => ⟨ws, hq, by rw [paired_len h4]; exact hl⟩⟩
  obtain ⟨v, hv, rv⟩ := paired_at h4 hx
  refine ⟨⟨ws, v, hq, hv⟩, fun u H2 hy => ?_⟩
  obtain ⟨rfl, f⟩ := hy
  have : v = u := Option.some.inj (hv.symm.trans (f ws hq))
  subst this
  exact ⟨Kn', Gr.refl e2, Rp.mono e1 rv⟩
theorem wk_range {Kn1 : Hp} (lo hi : Int) : WK K Kn1 (Itr lo (hi - lo).toNat) (irange lo hi) := fun i Kn' H' e1 e2 => by
  refine ⟨fun x hx => ?_, fun hl => ?_⟩
  · unfold irange at hx
    rw [List.getElem?_map] at hx
    cases q : (List.range (hi - lo).toNat)[i]? with
    | none => rw [q] at hx; cases hx
    | some m =>
      rw [q] at hx
      obtain ⟨hlt, he⟩ := List.getElem?_eq_some_iff.mp q
      rw [List.getElem_range] at he
      rw [List.length_range] at hlt
      subst he
      cases hx
      refine ⟨hlt, fun v H2 hy => ?_⟩
      obtain ⟨rfl, rfl⟩ := hy
      exact ⟨Kn', Gr.refl e2, rfl⟩
  · unfold irange at hl
    rw [List.length_map, List.length_range] at hl
    exact hl
theorem it_rng1 {n : Int} {xs : List Int} (h : EA K F Kn0 sl ow ta (n, ())) (hx : rngO 0 n = some xs) : IT K F Kn0 sl ow (iRng1 ta) xs := fun σ Kn H s R q => h σ Kn H s _ fun vs Kn1 H1 g1 r1 => by
  obtain ⟨v, rfl, h1⟩ := one_arg r1
  cases h1
  unfold rngO at hx
  split at hx
  · rename_i hb
    cases hx
    refine ⟨n, rfl, by omega, by omega, q _ Kn1 H1 g1 ?_⟩
    have w := wk_range (K := K) (Kn1 := Kn1) 0 n
    rw [Int.sub_zero] at w
    exact w
  · cases hx
theorem itm_rng1 {n : Int} {xs : List Int} (h : EAM K F Kn0 sl ow ta ow1 (n, ())) (hx : rngO 0 n = some xs) : ITM K F Kn0 sl ow (iRng1 ta) ow1 xs := fun σ Kn H s R q => h σ Kn H s _ fun vs Kn1 H1 e1 s1 r1 => by
  obtain ⟨v, rfl, h1⟩ := one_arg r1
  cases h1
  unfold rngO at hx
  split at hx
  · rename_i hb
    cases hx
    refine ⟨n, rfl, by omega, by omega, q _ Kn1 H1 e1 s1 ?_⟩
    have w := wk_range (K := K) (Kn1 := Kn1) 0 n
    rw [Int.sub_zero] at w
    exact w
  · cases hx
theorem it_rng2 {lo n : Int} {xs : List Int} (h : EA K F Kn0 sl ow ta (lo, n, ())) (hx : rngO lo n = some xs) : IT K F Kn0 sl ow (iRng2 ta) xs := fun σ Kn H s R q => h σ Kn H s _ fun vs Kn1 H1 g1 r1 => by
  obtain ⟨v, w, rfl, h1, h2⟩ := two_args r1
  cases h1
  cases h2
  unfold rngO at hx
  split at hx
  · rename_i hb
    cases hx
    exact ⟨lo, n, rfl, ⟨by omega, by omega, by omega, by omega⟩, q _ Kn1 H1 g1 (wk_range lo n)⟩
  · cases hx
theorem enum_get {xs : List α} {i : Nat} {y : Int × α × Unit} (h : (enumI xs)[i]? = some y) : ∃ x, xs[i]? = some x ∧ y = ((i : Int), x, ()) := by
  unfold enumI at h
  rw [List.getElem?_mapIdx] at h
  cases q : xs[i]? with
  | none => rw [q] at h; cases h
  | some x => rw [q] at h; cases h; exact ⟨x, rfl, rfl⟩
theorem wk_enum {Kn1 : Hp} {p : Addr} {ws : List V} {xs : List α} (h : SqL K Kn1 p ws) (r : Paired (rep K Kn1) ws xs) : WK K Kn1 (Ite K p) (enumI xs) := fun i Kn' H' e1 e2 => by
  have hq : SqL K H' p ws := ex_l (e1.trans e2) h
  refine ⟨fun y hy => ?_, fun hl => ⟨ws, hq, by rw [paired_len r]; simpa [enumI] using hl⟩⟩
  obtain ⟨x, hx, rfl⟩ := enum_get hy
  obtain ⟨v, hv, rv⟩ := paired_at r hx
  refine ⟨⟨ws, v, hq, hv⟩, fun u H2 hy => ?_⟩
  obtain ⟨T, z, rfl, hT, rfl, f⟩ := hy
  have : v = z := Option.some.inj (hv.symm.trans (f ws hq))
  subst this
  have g : Gr Kn' H' (upd Kn' T (.tup [.int (i : Nat), v])) (upd H' T (.tup [.int (i : Nat), v])) := Gr.new e2 hT
  exact ⟨_, g, T, _, rfl, upd_same, .int (i : Nat), [v], rfl, rfl, v, [], rfl, Rp.mono (e1.trans g.kk) rv, rfl⟩
theorem it_enum {xs : List α} (h : EA K F Kn0 sl ow ta (xs, ())) : IT K F Kn0 sl ow (iEnum K ta) (enumI xs) := fun σ Kn H s R q => h σ Kn H s _ fun vs Kn1 H1 g1 r1 => by
  obtain ⟨v, rfl, p, ws, rfl, h3, h4⟩ := one_arg r1
  exact ⟨p, ws, rfl, sq_of (g1.kh _ _ h3), q _ Kn1 H1 g1 (wk_enum (sq_of h3) h4)⟩
theorem zip_get {xs : List α} {ys : List β} {i : Nat} {z : α × β × Unit} (h : (zipI xs ys)[i]? = some z) : ∃ x y, xs[i]? = some x ∧ ys[i]? = some y ∧ z = (x, y, ()) := by
  unfold zipI at h
  rw [List.getElem?_zipWith] at h
  cases q : xs[i]? with
  | none => rw [q] at h; simp at h
  | some x =>
    cases q2 : ys[i]? with
    | none => rw [q, q2] at h; simp at h
    | some y =>
      rw [q, q2] at h
      simp at h
      exact ⟨x, y, rfl, rfl, h.symm⟩
theorem it_zip {xs : List α} {ys : List β} (h : EA K F Kn0 sl ow ta (xs, ys, ())) : IT K F Kn0 sl ow (iZip K ta) (zipI xs ys) := fun σ Kn H s R q => h σ Kn H s _ fun vs Kn1 H1 g1 r1 => by
  obtain ⟨v, w, rfl, ⟨p, ws, rfl, h3, h4⟩, ⟨p2, ws2, rfl, h5, h6⟩⟩ := two_args r1
  refine ⟨p, p2, ws, ws2, rfl, sq_of (g1.kh _ _ h3), sq_of (g1.kh _ _ h5), q _ Kn1 H1 g1 fun i Kn' H' e1 e2 => ?_⟩
  have hq : SqL K H' p ws := sq_of ((e1.trans e2) _ _ h3)
  have hq2 : SqL K H' p2 ws2 := sq_of ((e1.trans e2) _ _ h5)
  refine ⟨fun y hy => ?_, fun hl => ⟨ws, ws2, hq, hq2, ?_⟩⟩
  · obtain ⟨x, y, hx, hy2, rfl⟩ := zip_get hy
    obtain ⟨v, hv, rv⟩ := paired_at h4 hx
    obtain ⟨v2, hv2, rv2⟩ := paired_at h6 hy2
    refine ⟨⟨ws, ws2, v, v2, hq, hq2, hv, hv2⟩, fun u H2 hy => ?_⟩
    obtain ⟨T, z, z2, rfl, hT, rfl, f, f2⟩ := hy
    have e3 : v = z := Option.some.inj (hv.symm.trans (f ws hq))
    have e4 : v2 = z2 := Option.some.inj (hv2.symm.trans (f2 ws2 hq2))
    subst e3
    subst e4
    have g : Gr Kn' H' (upd Kn' T (.tup [v, v2])) (upd H' T (.tup [v, v2])) := Gr.new e2 hT
    exact ⟨_, g, T, _, rfl, upd_same, v, [v2], rfl, Rp.mono (e1.trans g.kk) rv, v2, [], rfl, Rp.mono (e1.trans g.kk) rv2, rfl⟩
  · rw [paired_len h4, paired_len h6]
    simp [zipI] at hl
    omega
end

/-! ### loops -/
structure Bs (F Kn0 Kn1 : Hp) : Prop where
  e : Ex Kn0 Kn1
  sp : ∀ p, F p ≠ none → Kn0 p = none → Kn1 p = none
section
variable {K : Fg} {F Kn0 Kn1 : Hp} {sl sl' : List Sl} {ow ow0 ow1 : List Ow} {α β γ : Type} [Rp α] [Rp β] [Rp γ] {D : Ends} {σ : L2.St} {Kn H : Hp}
theorem Bs.refl : Bs F Kn0 Kn0 := ⟨Ex.refl _, fun _ _ h => h⟩
theorem S.bs (s : S K F Kn0 sl ow σ Kn H) : Bs F Kn0 Kn := ⟨s.e0, s.sep⟩
theorem S.rebase (s : S K F Kn0 sl ow σ Kn H) : S K F Kn sl ow σ Kn H := ⟨Ex.refl _, s.ek, s.ef, fun _ _ h => h, s.sl, s.ow⟩
theorem S.unbase (b : Bs F Kn0 Kn1) (s : S K F Kn1 sl ow σ Kn H) : S K F Kn0 sl ow σ Kn H := ⟨b.e.trans s.e0, s.ek, s.ef, fun p h1 h2 => s.sep p h1 (b.sp p h1 h2), s.sl, s.ow⟩
theorem RT.base {R : VK} {x : α} (q : RT K F Kn0 ow R x) (b : Bs F Kn0 Kn1) : RT K F Kn1 ow R x := fun v Kn H s => q v Kn H (s.unbase b)
theorem RN.base {R : VK} {xs : List α} (q : RN K F Kn0 ow R xs) (b : Bs F Kn0 Kn1) : RN K F Kn1 ow R xs := fun p ws Kn H s => q p ws Kn H (s.unbase b)
theorem SN.base (q : SN K F Kn0 sl ow D) (b : Bs F Kn0 Kn1) : SN K F Kn1 sl ow D := fun σ Kn H s => q σ Kn H (s.unbase b)
theorem sb_for {wi : TI} {g : TG} {tb : TS} {Sx : Type} {xs : List β} (slx : Sx → List Sl) (owx : Sx → List Ow) (gx : β → Sx → List Sl) (js : List Nat) (P : List β → Sx → Prop) (s0 : Sx) (hi : ITM K F Kn0 sl ow wi ow1 xs) (h0 : P xs s0) (le : SlLe sl (slx s0)) (eo : (owx s0).Sublist ow1)
    (hg : ∀ x s, GT K g (slx s) (gx x s) js x)
    (step : ∀ Kn1, Bs F Kn0 Kn1 → ∀ x rest s, P (x :: rest) s → ∀ N : L2.St → Hp → Prop, (∀ s', P rest s' → ∀ σ Kn H, S K F Kn1 (slx s') (owx s') σ Kn H → N σ H) → SB K F Kn1 (gx x s) (owx s) { D with nx := N, ct := N, bk := D.nx } tb)
    (done : ∀ s, P [] s → SN K F Kn0 (slx s) (owx s) D) : SB K F Kn0 sl ow D (tFor wi g tb) := fun σ Kn H s =>
  hi σ Kn H s _ fun J Kn1 H1 e1 s1 w => by
    have b : Bs F Kn0 Kn1 := s1.bs
    refine ⟨fun i m σ H => i + m = xs.length ∧ ∃ Kn s, P (xs.drop i) s ∧ S K F Kn1 (slx s) (owx s) σ Kn H, ⟨xs.length, by omega, Kn1, s0, h0, (s1.rebase.le le).sub eo⟩, fun i m σ H hW => ?_⟩
    obtain ⟨em, Kn, s, hP, hS⟩ := hW
    by_cases hlt : i < xs.length
    · have hx : xs[i]? = some xs[i] := List.getElem?_eq_getElem hlt
      have hd : xs.drop i = xs[i] :: xs.drop (i + 1) := List.drop_eq_getElem_cons hlt
      rw [hd] at hP
      obtain ⟨go, yl⟩ := (w i Kn H hS.e0 hS.ek).1 _ hx
      refine .inr ⟨go, fun σ' H' => ∃ Kn s, P (xs.drop (i + 1)) s ∧ S K F Kn1 (slx s) (owx s) σ' Kn H', fun σ' H' ⟨Kn', s', h1, h2⟩ => ⟨m - 1, by omega, by omega, Kn', s', h1, h2⟩, fun v H' hy => ?_⟩
      obtain ⟨Kn2, g2, rv⟩ := yl v H' hy
      have hS2 := hS.grow g2
      refine hg _ s σ Kn2 H' v hS2.sl hS2.ek rv _ fun σ2 h2 _ => ?_
      exact step Kn1 b _ _ s hP _ (fun s' hs' σ Kn H hS' => ⟨Kn, s', hs', hS'⟩) σ2 Kn2 H' ⟨hS2.e0, hS2.ek, hS2.ef, hS2.sep, h2, hS2.ow⟩
    · have hd : xs.drop i = [] := List.drop_eq_nil_of_le (by omega)
      rw [hd] at hP
      exact .inl ⟨(w i Kn H hS.e0 hS.ek).2 (by omega), done s hP σ Kn H (hS.unbase b)⟩
theorem sb_while {tt : TT} {tb : TS} {Sx : Type} (slx : Sx → List Sl) (owx : Sx → List Ow) (P : Nat → Sx → Prop) (n0 : Nat) (s0 : Sx) (h0 : P n0 s0) (le : SlLe sl (slx s0)) (eo : (owx s0).Sublist ow)
    (step : ∀ n s, P n s → ∃ b, ET K F Kn0 (slx s) (owx s) tt b ∧
      (b = true → ∀ N : L2.St → Hp → Prop, (∀ m s', m < n → P m s' → ∀ σ Kn H, S K F Kn0 (slx s') (owx s') σ Kn H → N σ H) → SB K F Kn0 (slx s) (owx s) { D with nx := N, ct := N, bk := D.nx } tb) ∧ (b = false → SN K F Kn0 (slx s) (owx s) D)) :
    SB K F Kn0 sl ow D (tWhile tt tb) := fun σ Kn H s => by
  refine ⟨fun n σ H => ∃ Kn s, P n s ∧ S K F Kn0 (slx s) (owx s) σ Kn H, ⟨n0, Kn, s0, h0, (s.le le).sub eo⟩, fun n σ H hW => ?_⟩
  obtain ⟨Kn, s, hP, hS⟩ := hW
  obtain ⟨b, h1, h2, h3⟩ := step n s hP
  refine h1 σ Kn H hS _ fun Kn1 H1 g1 => ?_
  cases b with
  | true => exact iteT ⟨fun σ H => ∃ m Kn s, m < n ∧ P m s ∧ S K F Kn0 (slx s) (owx s) σ Kn H, fun σ' H' ⟨m, Kn', s', hm, hp, hs⟩ => ⟨m, hm, Kn', s', hp, hs⟩, h2 rfl _ (fun m s' hm hp σ Kn H hs => ⟨m, Kn, s', hm, hp, hs⟩) σ Kn1 H1 (hS.grow g1)⟩
  | false => exact iteF (h3 rfl σ Kn1 H1 (hS.grow g1))
end

/-! ### comprehensions -/
def lcGo {β γ : Type} (c : β → Option Bool) (f : β → Option γ) : List β → Option (List γ)
  | [] => some []
  | x :: xs => (c x).bind fun b => if b = true then (f x).bind fun z => (lcGo c f xs).bind fun zs => some (z :: zs) else lcGo c f xs
def lcM {β γ : Type} (c : β → Option Bool) (f : β → Option γ) (xs : List β) : Option (List γ) := if xs.length < 1000000 then lcGo c f xs else none
def lcSGo {β γ Sx : Type} (f : β → Sx → Option (γ × Sx)) : List β → Sx → Option (List γ × Sx)
  | [], s => some ([], s)
  | x :: xs, s => (f x s).bind fun r => (lcSGo f xs r.2).bind fun q => some (r.1 :: q.1, q.2)
def lcS {β γ Sx : Type} (f : β → Sx → Option (γ × Sx)) (xs : List β) (s : Sx) : Option (List γ × Sx) := if xs.length < 1000000 then lcSGo f xs s else none
section
variable {K : Fg} {F Kn0 : Hp} {sl sl' : List Sl} {ow ow0 ow1 : List Ow} {α β γ : Type} [Rp α] [Rp β] [Rp γ] {σ : L2.St} {Kn H : Hp} {tt : TT} {te : TE} {wi : TI} {g : TG} {vs js : List Nat}
theorem bind_some {α β : Type} {m : Option α} {f : α → Option β} {r : β} (h : m.bind f = some r) : ∃ a, m = some a ∧ f a = some r := by
  cases m with
  | none => cases h
  | some a => exact ⟨a, rfl, h⟩
theorem SlsOk.wipe : ∀ {vs : List Nat} {Kn : Hp} {sl : List Sl} {σ : L2.St}, (∀ j ∈ vs, sl[j]? = some .any) → SlsOk K Kn sl σ → SlsOk K Kn sl (wipe σ vs)
  | [], _, _, _, _, h => h
  | v :: vs, Kn, sl, σ, hv, h => by
    have h1 := SlsOk.wipe (vs := vs) (fun j hj => hv j (List.mem_cons_of_mem _ hj)) h
    have h2 := SlsOk.set (K := K) (H := Kn) (s := .any) (o := none) trivial v h1
    have e : sl.set v .any = sl := by
      refine List.ext_getElem? fun m => ?_
      have hm := hv v List.mem_cons_self
      by_cases q : v = m
      · subst q
        rw [List.getElem?_set_self (List.getElem?_eq_some_iff.mp hm).1, hm]
      · rw [List.getElem?_set_ne q]
    rw [e] at h2
    exact h2
theorem S.wipe (s : S K F Kn0 sl ow σ Kn H) (hv : ∀ j ∈ vs, sl[j]? = some .any) : S K F Kn0 sl ow (wipe σ vs) Kn H := ⟨s.e0, s.ek, s.ef, s.sep, s.sl.wipe hv, s.ow⟩
theorem Gr.mut {Kn' H' : Hp} {p : Addr} {o : HO} (g : Gr Kn H Kn' H') (hp : H p = none) (kp : Kn' p = none) : Gr Kn H Kn' (upd H' p o) :=
  ⟨g.kk, Ex.mut g.hh hp, upd_in g.kh kp, g.sp⟩
theorem S.slots {σ2 : L2.St} (s : S K F Kn0 sl ow σ Kn H) (h : SlsOk K Kn sl' σ2) : S K F Kn0 sl' ow σ2 Kn H := ⟨s.e0, s.ek, s.ef, s.sep, h, s.ow⟩
theorem en_lc {xs : List β} {zs : List γ} {c : β → Option Bool} {f : β → Option γ} (gx : β → List Sl) (hm : lcM c f xs = some zs) (hi : IT K F Kn0 sl ow wi xs) (hv : ∀ j ∈ vs, sl[j]? = some .any) (hg : ∀ x, GT K g sl (gx x) js x) (hj : ∀ j ∈ js, j ∈ vs)
    (ht : ∀ p (acc : List γ) x b, c x = some b → ET K F Kn0 (gx x) (ol p acc :: ow) tt b) (he : ∀ p (acc : List γ) x z, c x = some true → f x = some z → EV K F Kn0 (gx x) (ol p acc :: ow) te z) :
    EN K F Kn0 sl ow (tLc wi g tt te vs) zs := fun σ Kn H s Q q => by
  unfold lcM at hm
  split at hm
  case isFalse => cases hm
  rename_i hlen
  refine hi σ Kn H s _ fun J Kn1 H1 g1 w D hD => ?_
  have s1 := s.grow g1
  have kD : Kn1 D = none := fresh_back s1.ek hD
  have fD : F D = none := fresh_back s1.ef hD
  refine ⟨fun i m H' => i + m = xs.length ∧ ∃ Kn' ws acc rest, Gr Kn1 H1 Kn' H' ∧ Kn' D = none ∧ H' D = some (.lst ws) ∧ Paired (rep K Kn') ws acc ∧ acc.length ≤ i ∧ lcGo c f (xs.drop i) = some rest ∧ acc ++ rest = zs,
    ⟨xs.length, by omega, Kn1, [], [], zs, (Gr.newU g1.kh hD), kD, upd_same, .nil, Nat.le_refl _, hm, rfl⟩, fun i m H' hW => ?_⟩
  obtain ⟨em, Kn', ws, acc, rest, gr, kD', hD', rp, hal, hrest, hz⟩ := hW
  have s' : S K F Kn0 sl (ol D acc :: ow) σ Kn' H' := (s1.grow gr).own fD kD' (owned_ne s1 hD) hD' rp
  by_cases hlt : i < xs.length
  · have hx : xs[i]? = some xs[i] := List.getElem?_eq_getElem hlt
    have hd : xs.drop i = xs[i] :: xs.drop (i + 1) := List.drop_eq_getElem_cons hlt
    rw [hd] at hrest
    obtain ⟨b, hb, hrest⟩ := bind_some hrest
    obtain ⟨go, yl⟩ := (w i Kn' H' gr.kk gr.kh).1 _ hx
    refine .inr ⟨go, fun H'' => ∃ Kn' ws acc rest, Gr Kn1 H1 Kn' H'' ∧ Kn' D = none ∧ H'' D = some (.lst ws) ∧ Paired (rep K Kn') ws acc ∧ acc.length ≤ i + 1 ∧ lcGo c f (xs.drop (i + 1)) = some rest ∧ acc ++ rest = zs, fun H'' h => ⟨m - 1, by omega, by omega, h⟩, fun v H2 hy => ?_⟩
    obtain ⟨Kn2, g2, rv⟩ := yl v H2 hy
    have s2 := (s'.grow g2).wipe hv
    refine hg _ _ Kn2 H2 v s2.sl s2.ek rv _ fun σ3 h3 hw3 => ?_
    have s3 := s2.slots h3
    have hDn : H' D ≠ none := ne_none_of hD'
    refine ⟨(hw3 vs hj).trans ?_, ht D acc _ b hb σ3 Kn2 H2 s3 _ fun Kn3 H3 g3 => ?_⟩
    · have ww : ∀ (vs us : List Nat) (σ : L2.St), (∀ j ∈ vs, j ∈ us) → L2.wipe (L2.wipe σ vs) us = L2.wipe σ us := by
        intro vs
        induction vs with
        | nil => intro us σ _; rfl
        | cons a r ih =>
          intro us σ hh
          show L2.wipe ((L2.wipe σ r).set a none) us = L2.wipe σ us
          rw [wipe_set (hh a List.mem_cons_self)]
          exact ih us σ fun j hj => hh j (List.mem_cons_of_mem _ hj)
      exact ww vs vs σ fun _ h => h
    · have g123 : Gr Kn1 H1 Kn3 H3 := (gr.trans g2).trans g3
      have kD3 : Kn3 D = none := (g2.trans g3).sp D hDn kD'
      have hD3 : H3 D = some (.lst ws) := (g2.trans g3).hh _ _ hD'
      cases b with
      | true =>
        obtain ⟨z, hfz, hrest⟩ := bind_some (show (f xs[i]).bind _ = some rest from hrest)
        obtain ⟨zs', hzs, hrest⟩ := bind_some hrest
        cases hrest
        refine iteT (he D acc _ z hb hfz σ3 Kn3 H3 (s3.grow g3) _ fun y Kn4 H4 g4 ry => ?_)
        have g234 := (g2.trans g3).trans g4
        have kD4 : Kn4 D = none := g4.sp D (ne_none_of hD3) kD3
        refine ⟨ws, g4.hh _ _ hD3, by rw [paired_len rp]; exact lt_line (by omega), Kn4, ws ++ [y], acc ++ [z], zs', (gr.trans g234).mut hD kD4, kD4, upd_same, paired_append (paired_mono g234.kk rp) (.cons ry .nil), ?_, hzs, ?_⟩
        · rw [List.length_append, List.length_singleton]; omega
        · rw [List.append_assoc]; exact hz
      | false =>
        have hrest : lcGo c f (xs.drop (i + 1)) = some rest := hrest
        exact iteF ⟨Kn3, ws, acc, rest, g123, kD3, hD3, paired_mono (g2.trans g3).kk rp, by omega, hrest, hz⟩
  · have hd : xs.drop i = [] := List.drop_eq_nil_of_le (by omega)
    rw [hd] at hrest
    cases hrest
    rw [List.append_nil] at hz
    subst hz
    exact .inl ⟨(w i Kn' H' gr.kk gr.kh).2 (by omega), q D ws Kn' H' (g1.trans gr) (fresh_back g1.hh hD) kD' hD' rp⟩
theorem et_yes : ET K F Kn0 sl ow tYes true := fun σ Kn H s Q q => q Kn H (Gr.refl s.ek)
/-- what changes on the way: owx -/
theorem enm_lc {Sx : Type} {xs : List β} {zs : List γ} {f : β → Sx → Option (γ × Sx)} (owx : Sx → List Ow) (gx : β → List Sl) (s0 s9 : Sx) (hm : lcS f xs s0 = some (zs, s9)) (hi : ITM K F Kn0 sl ow wi (owx s0) xs) (hv : ∀ j ∈ vs, sl[j]? = some .any) (hg : ∀ x, GT K g sl (gx x) js x) (hj : ∀ j ∈ js, j ∈ vs)
    (he : ∀ Kn1, Bs F Kn0 Kn1 → ∀ p (acc : List γ) x s z s', f x s = some (z, s') → EM K F Kn1 (gx x) (ol p acc :: owx s) te (ol p acc :: owx s') z) :
    ENM K F Kn0 sl ow (tLc wi g tYes te vs) (owx s9) zs := fun σ Kn H s Q q => by
  unfold lcS at hm
  split at hm
  case isFalse => cases hm
  rename_i hlen
  refine hi σ Kn H s _ fun J Kn1 H1 e1 s1 w D hD => ?_
  have kD : Kn1 D = none := fresh_back s1.ek hD
  have fD : F D = none := fresh_back s1.ef hD
  have b1 : Bs F Kn0 Kn1 := s1.bs
  refine ⟨fun i m H' => i + m = xs.length ∧ ∃ Kn' st acc rest, S K F Kn1 sl (ol D acc :: owx st) σ Kn' H' ∧ acc.length ≤ i ∧ lcSGo f (xs.drop i) st = some (rest, s9) ∧ acc ++ rest = zs,
    ⟨xs.length, by omega, Kn1, s0, [], zs, ?_, Nat.le_refl _, hm, rfl⟩, fun i m H' hW => ?_⟩
  · have s2 := s1.rebase.grow (Gr.newU (o := .lst []) s1.ek hD)
    exact s2.own fD kD (owned_ne s1 hD) upd_same .nil
  obtain ⟨em, Kn', st, acc, rest, s', hal, hrest, hz⟩ := hW
  obtain ⟨_, kD', ws, hD', rp⟩ := s'.ow.each (ol D acc) List.mem_cons_self
  have hD' : H' D = some (.lst ws) := hD'
  by_cases hlt : i < xs.length
  · have hx : xs[i]? = some xs[i] := List.getElem?_eq_getElem hlt
    have hd : xs.drop i = xs[i] :: xs.drop (i + 1) := List.drop_eq_getElem_cons hlt
    rw [hd] at hrest
    obtain ⟨⟨z, st'⟩, hf, hrest⟩ := bind_some hrest
    obtain ⟨⟨zs', s9'⟩, hzs, hrest⟩ := bind_some hrest
    have h9 := Option.some.inj hrest
    have h91 : z :: zs' = rest := congrArg Prod.fst h9
    have h92 : s9' = s9 := congrArg Prod.snd h9
    rw [h92] at hzs
    subst h91
    obtain ⟨go, yl⟩ := (w i Kn' H' s'.e0 s'.ek).1 _ hx
    refine .inr ⟨go, fun H'' => ∃ Kn' st acc rest, S K F Kn1 sl (ol D acc :: owx st) σ Kn' H'' ∧ acc.length ≤ i + 1 ∧ lcSGo f (xs.drop (i + 1)) st = some (rest, s9) ∧ acc ++ rest = zs, fun H'' h => ⟨m - 1, by omega, by omega, h⟩, fun v H2 hy => ?_⟩
    obtain ⟨Kn2, g2, rv⟩ := yl v H2 hy
    have s2 := (s'.grow g2).wipe hv
    refine hg _ _ Kn2 H2 v s2.sl s2.ek rv _ fun σ3 h3 hw3 => ?_
    have s3 := s2.slots h3
    refine ⟨(hw3 vs hj).trans ?_, ?_⟩
    · have ww : ∀ (vs us : List Nat) (σ : L2.St), (∀ j ∈ vs, j ∈ us) → L2.wipe (L2.wipe σ vs) us = L2.wipe σ us := by
        intro vs
        induction vs with
        | nil => intro us σ _; rfl
        | cons a r ih =>
          intro us σ hh
          show L2.wipe ((L2.wipe σ r).set a none) us = L2.wipe σ us
          rw [wipe_set (hh a List.mem_cons_self)]
          exact ih us σ fun j hj => hh j (List.mem_cons_of_mem _ hj)
      exact ww vs vs σ fun _ h => h
    · unfold tYes
      refine iteT ?_
      refine he Kn1 b1 D acc _ st z st' hf σ3 Kn2 H2 s3 _ fun y Kn4 H4 e4 s4 ry => ?_
      obtain ⟨_, kD4, ws4, hD4, rp4⟩ := s4.ow.each (ol D acc) List.mem_cons_self
      have kD4 : Kn4 D = none := kD4
      have s5 : S K F Kn1 (gx xs[i]) (ol D (acc ++ [z]) :: owx st') σ3 Kn4 (upd H4 D (.lst (ws4 ++ [y]))) := s4.write (j := 0) (xs' := acc ++ [z]) rfl (Ex.refl _) (upd_in s4.ek kD4) (fun q hq _ => upd_ne hq) (fun _ _ h => h) upd_same (paired_append rp4 (.cons ry .nil))
      have hsl : SlsOk K Kn4 sl σ := s'.sl.mono (g2.kk.trans e4)
      refine ⟨ws4, hD4, by rw [paired_len rp4]; exact lt_line (by omega), Kn4, st', acc ++ [z], zs', s5.slots hsl, ?_, hzs, ?_⟩
      · rw [List.length_append, List.length_singleton]; omega
      · rw [List.append_assoc]; exact hz
  · have hd : xs.drop i = [] := List.drop_eq_nil_of_le (by omega)
    rw [hd] at hrest
    have h9 := Option.some.inj hrest
    have h91 : [] = rest := congrArg Prod.fst h9
    have h92 : st = s9 := congrArg Prod.snd h9
    subst h91
    subst h92
    rw [List.append_nil] at hz
    subst hz
    have no : ∀ o ∈ owx st, o.ad ≠ D := fun o ho z => (List.nodup_cons.mp s'.ow.nd).1 (List.mem_map.mpr ⟨o, ho, z⟩)
    exact .inl ⟨(w i Kn' H' s'.e0 s'.ek).2 (by omega), q D ws Kn' H' (e1.trans s'.e0) ((s'.unbase b1).sub (List.sublist_cons_self _ _)) fD kD' no hD' rp⟩
end
end Wk
/-! Wk4: loops as functions, == of data, kinds, lists of one's own that are read -/
namespace Wk
open PySem PySem.Spec L2 Evl

/-! ### the mirrors' words -/
inductive Ctl (Sx R : Type) where
  | nx (s : Sx)
  | bk (s : Sx)
  | rt (r : R)
def forS {β Sx : Type} (f : β → Sx → Option Sx) : List β → Sx → Option Sx
  | [], s => some s
  | x :: xs, s => (f x s).bind (forS f xs)
def forC {β Sx R : Type} (f : β → Sx → Option (Ctl Sx R)) : List β → Sx → Option (Ctl Sx R)
  | [], s => some (.nx s)
  | x :: xs, s => (f x s).bind fun c => match c with
    | .nx s' => forC f xs s'
    | .bk s' => some (.nx s')
    | .rt r => some (.rt r)
def whileS {Sx : Type} (c : Sx → Option Bool) (f : Sx → Option Sx) : Nat → Sx → Option Sx
  | 0, _ => none
  | n + 1, s => (c s).bind fun b => if b = true then (f s).bind (whileS c f n) else some s
def whileC {Sx R : Type} (c : Sx → Option Bool) (f : Sx → Option (Ctl Sx R)) : Nat → Sx → Option (Ctl Sx R)
  | 0, _ => none
  | n + 1, s => (c s).bind fun b => if b = true then (f s).bind fun c' => match c' with
    | .nx s' => whileC c f n s'
    | .bk s' => some (.nx s')
    | .rt r => some (.rt r) else some (.nx s)
theorem whileS_more {Sx : Type} {c : Sx → Option Bool} {f : Sx → Option Sx} : ∀ {n m : Nat} {s r : Sx}, whileS c f n s = some r → n ≤ m → whileS c f m s = some r
  | 0, _, _, _, h, _ => by cases h
  | n + 1, 0, _, _, _, h => absurd h (Nat.not_succ_le_zero _)
  | n + 1, m + 1, s, r, h, hm => by
    unfold whileS at h ⊢
    cases e : c s with
    | none => rw [e] at h; cases h
    | some b =>
      rw [e] at h
      cases b with
      | false => exact h
      | true =>
        have h : ((f s).bind (whileS c f n)) = some r := h
        show ((f s).bind (whileS c f m)) = some r
        cases e2 : f s with
        | none => rw [e2] at h; cases h
        | some s' =>
          rw [e2] at h
          exact whileS_more (show whileS c f n s' = some r from h) (Nat.le_of_succ_le_succ hm)
theorem whileC_more {Sx R : Type} {c : Sx → Option Bool} {f : Sx → Option (Ctl Sx R)} : ∀ {n m : Nat} {s : Sx} {r : Ctl Sx R}, whileC c f n s = some r → n ≤ m → whileC c f m s = some r
  | 0, _, _, _, h, _ => by cases h
  | n + 1, 0, _, _, _, h => absurd h (Nat.not_succ_le_zero _)
  | n + 1, m + 1, s, r, h, hm => by
    unfold whileC at h ⊢
    cases e : c s with
    | none => rw [e] at h; cases h
    | some b =>
      rw [e] at h
      cases b with
      | false => exact h
      | true =>
        have h : ((f s).bind _) = some r := h
        show ((f s).bind _) = some r
        cases e2 : f s with
        | none => rw [e2] at h; cases h
        | some k =>
          rw [e2] at h
          cases k with
          | nx s' => exact whileC_more (show whileC c f n s' = some r from h) (Nat.le_of_succ_le_succ hm)
          | bk _ => exact h
          | rt _ => exact h
/-- a while, for as many turns as it takes -/
noncomputable def whileF {Sx : Type} (c : Sx → Option Bool) (f : Sx → Option Sx) (s : Sx) : Option Sx := by
  classical exact if h : ∃ n r, whileS c f n s = some r then some h.choose_spec.choose else none
theorem whileF_some {Sx : Type} {c : Sx → Option Bool} {f : Sx → Option Sx} {s r : Sx} (h : whileF c f s = some r) : ∃ n, whileS c f n s = some r := by
  unfold whileF at h
  split at h
  · rename_i he
    refine ⟨he.choose, ?_⟩
    rw [← Option.some.inj h]
    exact he.choose_spec.choose_spec
  · cases h
theorem whileF_of {Sx : Type} {c : Sx → Option Bool} {f : Sx → Option Sx} {n : Nat} {s r : Sx} (h : whileS c f n s = some r) : whileF c f s = some r := by
  have he : ∃ n r, whileS c f n s = some r := ⟨n, r, h⟩
  unfold whileF
  rw [dif_pos he]
  have h2 := he.choose_spec.choose_spec
  have a := whileS_more h (Nat.le_max_left n he.choose)
  have b := whileS_more h2 (Nat.le_max_right n he.choose)
  exact b.symm.trans a
noncomputable def whileCF {Sx R : Type} (c : Sx → Option Bool) (f : Sx → Option (Ctl Sx R)) (s : Sx) : Option (Ctl Sx R) := by
  classical exact if h : ∃ n r, whileC c f n s = some r then some h.choose_spec.choose else none
theorem whileCF_some {Sx R : Type} {c : Sx → Option Bool} {f : Sx → Option (Ctl Sx R)} {s : Sx} {r : Ctl Sx R} (h : whileCF c f s = some r) : ∃ n, whileC c f n s = some r := by
  unfold whileCF at h
  split at h
  · rename_i he
    refine ⟨he.choose, ?_⟩
    rw [← Option.some.inj h]
    exact he.choose_spec.choose_spec
  · cases h
theorem whileCF_of {Sx R : Type} {c : Sx → Option Bool} {f : Sx → Option (Ctl Sx R)} {n : Nat} {s : Sx} {r : Ctl Sx R} (h : whileC c f n s = some r) : whileCF c f s = some r := by
  have he : ∃ n r, whileC c f n s = some r := ⟨n, r, h⟩
  unfold whileCF
  rw [dif_pos he]
  have h2 := he.choose_spec.choose_spec
  have a := whileC_more h (Nat.le_max_left n he.choose)
  have b := whileC_more h2 (Nat.le_max_right n he.choose)
  exact b.symm.trans a
def appO {α : Type} (xs : List α) (x : α) : Option (List α) := if xs.length < 1000000 then some (xs ++ [x]) else none
def modO (i j : Int) : Option Int := if 0 < j then some (i % j) else none
def divO (i j : Int) : Option Int := if 0 < j ∧ j < 1073741824 then some (i / j) else none
def mulO (i j : Int) : Option Int := if -18446744073709551616 < i ∧ i < 18446744073709551616 then some (i * j) else none
def catO {α : Type} (xs ys : List α) : Option (List α) := if xs.length + ys.length ≤ 1000000 then some (xs ++ ys) else none
theorem appO_some {α : Type} {xs ys : List α} {x : α} (h : appO xs x = some ys) : xs.length < 1000000 ∧ ys = xs ++ [x] := by
  unfold appO at h
  split at h
  · exact ⟨by assumption, (Option.some.inj h).symm⟩
  · cases h
theorem appO_ok {α : Type} {xs : List α} {x : α} (h : xs.length < 1000000) : appO xs x = some (xs ++ [x]) := if_pos h
theorem modO_ok {i j : Int} (h : 0 < j) : modO i j = some (i % j) := if_pos h
theorem divO_ok {i j : Int} (h : 0 < j) (h2 : j < 1073741824) : divO i j = some (i / j) := if_pos ⟨h, h2⟩
theorem mulO_ok {i j : Int} (h : -18446744073709551616 < i) (h2 : i < 18446744073709551616) : mulO i j = some (i * j) := if_pos ⟨h, h2⟩
theorem catO_ok {α : Type} {xs ys : List α} (h : xs.length + ys.length ≤ 1000000) : catO xs ys = some (xs ++ ys) := if_pos h

section
variable {K : Fg} {F Kn0 : Hp} {sl sl' : List Sl} {ow ow0 ow1 ow2 : List Ow} {α β γ τ : Type} [Rp α] [Rp β] [Rp γ] [Tp τ] {ta tb te : TE} {x : α} {D : Ends} {t u tz : TS} {tt : TT} {b : Bool} {i j : Nat} {p : Addr}
theorem SB.sn (h : SB K F Kn0 sl ow D tz) : SN K F Kn0 sl ow { D with nx := tz D } := h
theorem r2_modO {i j z : Int} (h : modO i j = some z) : R2V K (rI (fun _ j => 0 < j) fun i j => .int (i % j)) i j z := by
  unfold modO at h
  split at h
  · cases h
    exact r2_I (by assumption)
  · cases h
theorem r2_divO {i j z : Int} (h : divO i j = some z) : R2V K (rI CDiv fun i j => .int (i / j)) i j z := by
  unfold divO at h
  split at h
  · cases h
    exact r2_I (by assumption)
  · cases h
theorem r2_mulO {i j z : Int} (h : mulO i j = some z) : R2V K (rI CMul fun i j => .int (i * j)) i j z := by
  unfold mulO at h
  split at h
  · rename_i hb
    cases h
    exact r2_I (.inl ⟨by omega, by omega⟩)
  · cases h
theorem r2_catO {xs ys zs : List α} (h : catO xs ys = some zs) : R2L K rCat xs ys zs := by
  unfold catO at h
  split at h
  · cases h
    exact r2_cat (by assumption)
  · cases h
theorem sb_appO {xs xs' : List α} (hi : sl[i]? = some (.at p)) (hj : ow[j]? = some (ol p xs)) (h : EV K F Kn0 sl ow te x) (hx : appO xs x = some xs') (ho : ow.set j (ol p xs') = ow1) (k : SN K F Kn0 sl ow1 D) :
    SB K F Kn0 sl ow D (tDrop (tBM K "list" rAppend (tVar i) (tCons te tNil))) := by
  obtain ⟨h1, rfl⟩ := appO_some hx
  subst ho
  exact sb_app hi hj h h1 k
theorem sb_appOM {xs xs' : List α} (hi : sl[i]? = some (.at p)) (hi0 : ow[j]? = some (ol p xs)) (h : EM K F Kn0 sl ow te ow1 x) (hj : ow1[j]? = some (ol p xs)) (hx : appO xs x = some xs') (ho : ow1.set j (ol p xs') = ow2) (k : SN K F Kn0 sl ow2 D) :
    SB K F Kn0 sl ow D (tDrop (tBM K "list" rAppend (tVar i) (tCons te tNil))) := by
  obtain ⟨h1, rfl⟩ := appO_some hx
  subst ho
  exact sb_appM hi hi0 h hj h1 k
theorem sb_setO {xs xs' : List α} {n : Int} (hi : sl[i]? = some (.at p)) (hj : ow[j]? = some (ol p xs)) (h : EV K F Kn0 sl ow te x) (hn : EV K F Kn0 sl ow tb n) (hx : setI xs n x = some xs') (ho : ow.set j (ol p xs') = ow1) (k : SN K F Kn0 sl ow1 D) :
    SB K F Kn0 sl ow D (tAsg te (gSub (tVar i) tb rSetL)) := by
  subst ho
  exact sb_setI hi hj h hn hx k

/-! ### lists of one's own, read -/
theorem S.borrow {σ : L2.St} {Kn H : Hp} {xs : List α} (s : S K F Kn0 sl ow σ Kn H) (hi : sl[i]? = some (.at p)) (hj : ow[j]? = some (ol p xs)) : ∃ ws, Kn p = none ∧ H p = some (.lst ws) ∧ S K F Kn0 (sl.set i (sv xs)) (ow.eraseIdx j) σ (upd Kn p (.lst ws)) H := by
  obtain ⟨o, h1, h2⟩ := s.sl.get hi
  have h2 : o = some (.ref p) := h2
  obtain ⟨f1, f2, ws, f3, f4⟩ := s.ow.each _ (List.mem_of_getElem? hj)
  have s1 := s.sub (List.eraseIdx_sublist ow j)
  have no : ∀ o ∈ ow.eraseIdx j, o.ad ≠ p := fun o hm z => by
    obtain ⟨m, hm'⟩ := List.getElem?_of_mem hm
    rw [List.getElem?_eraseIdx] at hm'
    split at hm'
    · have := ow_at s.ow.nd hm' hj z
      omega
    · have := ow_at s.ow.nd hm' hj z
      omega
  have s2 := s1.know (o := .lst ws) f1 f2 no f3
  have hσ : σ.set i o = σ := by
    refine List.ext_getElem? fun m => ?_
    by_cases e : i = m
    · subst e
      rw [List.getElem?_set_self (List.getElem?_eq_some_iff.mp h1).1, h1]
    · rw [List.getElem?_set_ne e]
  have s3 := s2.set (x := sv xs) (o := o) i ⟨.ref p, h2, p, ws, rfl, upd_same, paired_mono (Ex.new f2) f4⟩
  rw [hσ] at s3
  exact ⟨ws, f2, f3, s3⟩
theorem ev_bor {γ : Type} [Rp γ] [Fl γ] {z : γ} {xs : List α} (hi : sl[i]? = some (.at p)) (hj : ow[j]? = some (ol p xs)) (hs : sl.set i (sv xs) = sl') (ho : ow.eraseIdx j = ow1) (h : EV K F Kn0 sl' ow1 te z) : EV K F Kn0 sl ow te z := fun σ Kn H s Q q => by
  obtain ⟨ws, kp, hp, s1⟩ := s.borrow hi hj
  subst hs
  subst ho
  exact h σ _ H s1 Q fun v Kn' H' g r => q v Kn H' ⟨Ex.refl _, g.hh, s.ek.trans g.hh, fun _ _ h => h⟩ (Fl.iff.mpr (Fl.iff.mp r))
theorem et_bor {xs : List α} (hi : sl[i]? = some (.at p)) (hj : ow[j]? = some (ol p xs)) (hs : sl.set i (sv xs) = sl') (ho : ow.eraseIdx j = ow1) (h : ET K F Kn0 sl' ow1 tt b) : ET K F Kn0 sl ow tt b := fun σ Kn H s Q q => by
  obtain ⟨ws, kp, hp, s1⟩ := s.borrow hi hj
  subst hs
  subst ho
  exact h σ _ H s1 Q fun Kn' H' g => q Kn H' ⟨Ex.refl _, g.hh, s.ek.trans g.hh, fun _ _ h => h⟩
theorem ev_ixO {xs : List α} {n : Int} {z : α} (hi : sl[i]? = some (.at p)) (hj : ow[j]? = some (ol p xs)) (hn : EV K F Kn0 sl ow tb n) (hz : atI xs n = some z) : EV K F Kn0 sl ow (tOp (rIxL K) (tVar i) tb) z := fun σ Kn H s Q q => by
  obtain ⟨o, h1, h2⟩ := s.sl.get hi
  obtain ⟨f1, f2, ws, f3, f4⟩ := s.ow.each _ (List.mem_of_getElem? hj)
  refine ⟨.ref p, by rw [h1]; exact congrArg some h2, hn σ Kn H s _ fun v Kn1 H1 g1 r1 => ?_⟩
  cases r1
  obtain ⟨u, e, r⟩ := paired_atI f4 hz
  exact ⟨p, ws, n, u, rfl, rfl, sq_of (g1.hh _ _ f3), e, q u Kn1 H1 g1 (Rp.mono g1.kk r)⟩
theorem en_slO {xs : List α} {tl th : TO} {lo hi : Option Int} (hx : sl[i]? = some (.at p)) (hj : ow[j]? = some (ol p xs)) (hl : EO K F Kn0 sl ow tl lo) (hh : EO K F Kn0 sl ow th hi) : EN K F Kn0 sl ow (tSl (rSlL K) (tVar i) tl th) (cut xs lo hi) := fun σ Kn H s Q q => by
  obtain ⟨o, h1, h2⟩ := s.sl.get hx
  obtain ⟨f1, f2, ws, f3, f4⟩ := s.ow.each _ (List.mem_of_getElem? hj)
  refine ⟨.ref p, by rw [h1]; exact congrArg some h2, hl σ Kn H s _ fun Kn2 H2 g2 => hh σ Kn2 H2 (s.grow g2) _ fun Kn3 H3 g3 => ?_⟩
  have g := g2.trans g3
  exact ⟨p, ws, rfl, sq_of (g.hh _ _ f3), fun l hl => q l _ Kn3 _ (g.trans (Gr.newU g3.kh hl)) (fresh_back g.hh hl) (fresh_back g3.kh hl) upd_same (paired_cut (paired_mono g.kk f4) lo hi)⟩
end

/-! ### == -/
class Pd (α : Type) [Rp α] where
  toD : α → PyData
  dp : Nat
  isD : ∀ {K : Fg} {H : Hp} {v : V} {a : α}, rep K H v a → Dp K H v (toD a)
  dep : ∀ a, (toD a).depth ≤ dp
  eqd : ∀ a b : α, PyData.eqv (toD a) (toD b) = true ↔ a = b
class Pq (τ : Type) [Tp τ] where
  toDs : τ → List PyData
  dp : Nat
  isD : ∀ {K : Fg} {H : Hp} {vs : List V} {a : τ}, rept K H vs a → DpAll K H vs (toDs a)
  dep : ∀ a, PyData.depthAll (toDs a) ≤ dp
  eqd : ∀ a b : τ, PyData.eqvAll (toDs a) (toDs b) = true ↔ a = b
def okD {α : Type} [Rp α] [Pd α] (a : α) : Bool := (Pd.toD a).canLay0
instance : Pd Int := { toD := .int, dp := 0, isD := fun h => by cases h; exact .int _, dep := fun a => Nat.le_refl _, eqd := fun a b => by simp [PyData.eqv] }
instance : Pd Bool := { toD := .bool, dp := 0, isD := fun h => by cases h; exact .bl _, dep := fun a => Nat.le_refl _, eqd := fun a b => by simp [PyData.eqv] }
instance : Pd Str := { toD := .str, dp := 0, isD := fun h => by cases h; exact .str _, dep := fun a => Nat.le_refl _, eqd := fun a b => by simp [PyData.eqv] }
theorem eqvAll_map {α : Type} [Rp α] [Pd α] : ∀ (xs ys : List α), PyData.eqvAll (xs.map Pd.toD) (ys.map Pd.toD) = true ↔ xs = ys
  | [], [] => by simp [PyData.eqvAll]
  | [], y :: ys => by simp [PyData.eqvAll]
  | x :: xs, [] => by simp [PyData.eqvAll]
  | x :: xs, y :: ys => by
    simp only [List.map_cons, PyData.eqvAll, Bool.and_eq_true, Pd.eqd, eqvAll_map xs ys, List.cons.injEq]
theorem depthAll_map {α : Type} [Rp α] [Pd α] : ∀ (xs : List α), PyData.depthAll (xs.map Pd.toD) ≤ Pd.dp α
  | [] => Nat.zero_le _
  | x :: xs => by
    simp only [List.map_cons, PyData.depthAll]
    exact Nat.max_le.mpr ⟨Pd.dep x, depthAll_map xs⟩
theorem dpAll_of {α : Type} [Rp α] [Pd α] {K : Fg} {H : Hp} : ∀ {vs : List V} {xs : List α}, Paired (rep K H) vs xs → DpAll K H vs (xs.map Pd.toD)
  | _, _, .nil => .nil
  | _, _, .cons r t => .cons (Pd.isD r) (dpAll_of t)
instance {α : Type} [Rp α] [Pd α] : Pd (List α) where
  toD xs := .list (xs.map Pd.toD)
  dp := Pd.dp α + 1
  isD h := by
    obtain ⟨p, vs, rfl, h1, h2⟩ := h
    exact .lst (sq_of h1) (dpAll_of h2)
  dep a := by
    simp only [PyData.depth]
    exact Nat.succ_le_succ (depthAll_map a)
  eqd a b := by
    simp only [PyData.eqv]
    exact eqvAll_map a b
instance {α : Type} [Rp α] [Pd α] : Pd (Tu α) where
  toD xs := .tuple (xs.l.map Pd.toD)
  dp := Pd.dp α + 1
  isD h := by
    obtain ⟨p, vs, rfl, h1, h2⟩ := h
    exact .tup (st_of h1) (dpAll_of h2)
  dep a := by
    simp only [PyData.depth]
    exact Nat.succ_le_succ (depthAll_map a.l)
  eqd a b := by
    simp only [PyData.eqv]
    rw [eqvAll_map]
    cases a
    cases b
    simp
instance : Pq Unit where
  toDs _ := []
  dp := 0
  isD h := by cases h; exact .nil
  dep _ := Nat.le_refl _
  eqd _ _ := by simp [PyData.eqvAll]
instance {α τ : Type} [Rp α] [Tp τ] [Pd α] [Pq τ] : Pq (α × τ) where
  toDs t := Pd.toD t.1 :: Pq.toDs t.2
  dp := max (Pd.dp α) (Pq.dp τ)
  isD h := by
    obtain ⟨v, r, rfl, h1, h2⟩ := h
    exact .cons (Pd.isD h1) (Pq.isD h2)
  dep a := by
    simp only [PyData.depthAll]
    exact Nat.max_le.mpr ⟨Nat.le_trans (Pd.dep _) (Nat.le_max_left _ _), Nat.le_trans (Pq.dep _) (Nat.le_max_right _ _)⟩
  eqd a b := by
    simp only [PyData.eqvAll, Bool.and_eq_true, Pd.eqd, Pq.eqd]
    constructor
    · rintro ⟨h1, h2⟩
      exact Prod.ext h1 h2
    · rintro rfl
      exact ⟨rfl, rfl⟩
instance {α τ : Type} [Rp α] [Tp τ] [Pd α] [Pq τ] : Pd (α × τ) where
  toD t := .tuple (Pq.toDs t)
  dp := Pq.dp (α × τ) + 1
  isD h := by
    obtain ⟨p, vs, rfl, h1, h2⟩ := h
    exact .tup (st_of h1) (Pq.isD h2)
  dep a := by
    simp only [PyData.depth]
    exact Nat.succ_le_succ (Pq.dep a)
  eqd a b := by
    simp only [PyData.eqv]
    exact Pq.eqd a b
/-- the same kind on both sides -/
def eqO {α : Type} [Rp α] [Pd α] [DecidableEq α] (a b : α) : Option Bool := if (okD a && okD b && decide (Pd.dp α ≤ 64)) = true then some (decide (a = b)) else none
def neO {α : Type} [Rp α] [Pd α] [DecidableEq α] (a b : α) : Option Bool := if (okD a && okD b && decide (Pd.dp α ≤ 64)) = true then some (!decide (a = b)) else none
section
variable {K : Fg} {α : Type} [Rp α] [Pd α] [DecidableEq α]
theorem shaped_of {a : α} (h : okD a = true) (h2 : Pd.dp α ≤ 64) : SeqAt.shaped (Pd.toD a) = true := by
  unfold SeqAt.shaped
  rw [Bool.and_eq_true]
  exact ⟨h, decide_eq_true (Nat.le_trans (Pd.dep a) h2)⟩
theorem eqv_dec (a b : α) : PyData.eqv (Pd.toD a) (Pd.toD b) = decide (a = b) := by
  by_cases h : a = b
  · rw [decide_eq_true h]
    exact (Pd.eqd a b).mpr h
  · rw [decide_eq_false h]
    cases e : PyData.eqv (Pd.toD a) (Pd.toD b) with
    | false => rfl
    | true => exact absurd ((Pd.eqd a b).mp e) h
theorem dp_mono {H H' : Hp} (e : Ex H H') : ∀ {v : V} {d : PyData}, Dp K H v d → Dp K H' v d := fun h =>
  Dp.rec (motive_1 := fun v d _ => Dp K H' v d) (motive_2 := fun vs ds _ => DpAll K H' vs ds) .non .bl .int .str (fun s _ ih => .lst (ex_l e s) ih) (fun s _ ih => .tup (ex_t e s) ih) .nil (fun _ _ h1 h2 => .cons h1 h2) h
theorem r2_eqO {a b : α} {c : Bool} (h : eqO a b = some c) : R2V K (rEqD K) a b c := fun Kn H v w ek h1 h2 Q q => by
  unfold eqO at h
  split at h
  · rename_i hb
    rw [Bool.and_eq_true, Bool.and_eq_true] at hb
    cases h
    refine ⟨Pd.toD a, Pd.toD b, dp_mono ek (Pd.isD h1), dp_mono ek (Pd.isD h2), shaped_of hb.1.1 (of_decide_eq_true hb.2), shaped_of hb.1.2 (of_decide_eq_true hb.2), ?_⟩
    rw [eqv_dec]
    exact q.fl ek
  · cases h
theorem r2_neO {a b : α} {c : Bool} (h : neO a b = some c) : R2V K (rNeD K) a b c := fun Kn H v w ek h1 h2 Q q => by
  unfold neO at h
  split at h
  · rename_i hb
    rw [Bool.and_eq_true, Bool.and_eq_true] at hb
    cases h
    refine ⟨Pd.toD a, Pd.toD b, dp_mono ek (Pd.isD h1), dp_mono ek (Pd.isD h2), shaped_of hb.1.1 (of_decide_eq_true hb.2), shaped_of hb.1.2 (of_decide_eq_true hb.2), ?_⟩
    rw [eqv_dec]
    exact q.fl ek
  · cases h
/-- data without texts: always -/
class Pt (α : Type) [Rp α] [Pd α] : Prop where
  ok : ∀ a : α, okD a = true
class Pu (τ : Type) [Tp τ] [Pq τ] : Prop where
  ok : ∀ a : τ, PyData.canLayAll0 (Pq.toDs a) = true
instance : Pt Int := ⟨fun _ => rfl⟩
instance : Pt Bool := ⟨fun _ => rfl⟩
theorem canLayAll_map {α : Type} [Rp α] [Pd α] : ∀ (xs : List α), (∀ x ∈ xs, okD x = true) → PyData.canLayAll0 (xs.map Pd.toD) = true
  | [], _ => by simp [PyData.canLayAll0]
  | x :: xs, h => by
    simp only [List.map_cons, PyData.canLayAll0, Bool.and_eq_true]
    exact ⟨h x List.mem_cons_self, canLayAll_map xs fun y hy => h y (List.mem_cons_of_mem _ hy)⟩
theorem okD_list {α : Type} [Rp α] [Pd α] {xs : List α} (h : ∀ x ∈ xs, okD x = true) : okD xs = true := by
  show PyData.canLay0 (.list _) = true
  simp only [PyData.canLay0]
  exact canLayAll_map xs h
theorem okD_tu {α : Type} [Rp α] [Pd α] {xs : Tu α} (h : ∀ x ∈ xs.l, okD x = true) : okD xs = true := by
  show PyData.canLay0 (.tuple _) = true
  simp only [PyData.canLay0]
  exact canLayAll_map xs.l h
theorem okD_pair {α τ : Type} [Rp α] [Tp τ] [Pd α] [Pq τ] {t : α × τ} (h : okD t.1 = true) (h2 : PyData.canLayAll0 (Pq.toDs t.2) = true) : okD t = true := by
  show PyData.canLay0 (.tuple (Pd.toD t.1 :: Pq.toDs t.2)) = true
  simp only [PyData.canLay0, PyData.canLayAll0, Bool.and_eq_true]
  exact ⟨h, h2⟩
theorem okDs_cons {α τ : Type} [Rp α] [Tp τ] [Pd α] [Pq τ] {t : α × τ} (h : okD t.1 = true) (h2 : PyData.canLayAll0 (Pq.toDs t.2) = true) : PyData.canLayAll0 (Pq.toDs t) = true := by
  show PyData.canLayAll0 (Pd.toD t.1 :: Pq.toDs t.2) = true
  simp only [PyData.canLayAll0, Bool.and_eq_true]
  exact ⟨h, h2⟩
instance {α : Type} [Rp α] [Pd α] [Pt α] : Pt (List α) := ⟨fun _ => okD_list fun x _ => Pt.ok x⟩
instance {α : Type} [Rp α] [Pd α] [Pt α] : Pt (Tu α) := ⟨fun _ => okD_tu fun x _ => Pt.ok x⟩
instance : Pu Unit := ⟨fun _ => rfl⟩
instance {α τ : Type} [Rp α] [Tp τ] [Pd α] [Pq τ] [Pt α] [Pu τ] : Pu (α × τ) := ⟨fun _ => okDs_cons (Pt.ok _) (Pu.ok _)⟩
instance {α τ : Type} [Rp α] [Tp τ] [Pd α] [Pq τ] [Pt α] [Pu τ] : Pt (α × τ) := ⟨fun _ => okD_pair (Pt.ok _) (Pu.ok _)⟩
theorem r2_eqT [Pt α] {a b : α} (hd : Pd.dp α ≤ 64 := by decide) : R2V K (rEqD K) a b (decide (a = b)) := r2_eqO (by
  unfold eqO
  rw [Pt.ok a, Pt.ok b, decide_eq_true hd]
  rfl)
theorem r2_neT [Pt α] {a b : α} (hd : Pd.dp α ≤ 64 := by decide) : R2V K (rNeD K) a b (!decide (a = b)) := r2_neO (by
  unfold neO
  rw [Pt.ok a, Pt.ok b, decide_eq_true hd]
  rfl)
theorem eqO_ok {a b : α} (h1 : okD a = true) (h2 : okD b = true) (hd : Pd.dp α ≤ 64 := by decide) : eqO a b = some (decide (a = b)) := by
  unfold eqO
  rw [h1, h2, decide_eq_true hd]
  rfl
theorem neO_ok {a b : α} (h1 : okD a = true) (h2 : okD b = true) (hd : Pd.dp α ≤ 64 := by decide) : neO a b = some (!decide (a = b)) := by
  unfold neO
  rw [h1, h2, decide_eq_true hd]
  rfl
end

/-! ### isinstance -/
structure TyN where
  n : String
instance rpTyN : Rp TyN := { rep := fun _ _ v a => v = .ty a.n, mono := fun _ h => h }
instance : Fl TyN := { toV := fun a => V.ty a.n, iff := Iff.rfl }
class Tn (α : Type) [Rp α] where
  nm : String
  is : ∀ {K : Fg} {H : Hp} {v : V} {a : α}, rep K H v a → TyX K H v (.type nm)
instance : Tn Int := ⟨"int", fun h => by cases h; exact .base (.int _)⟩
instance : Tn Bool := ⟨"bool", fun h => by cases h; exact .base (.bl _)⟩
instance : Tn Str := ⟨"str", fun h => by cases h; exact .base (.str _)⟩
instance : Tn Nn := ⟨"NoneType", fun h => by cases h; exact .base .non⟩
instance {α : Type} [Rp α] : Tn (List α) := ⟨"list", fun h => by
  obtain ⟨p, vs, rfl, h1, _⟩ := h
  exact .base (.lst h1)⟩
instance {α : Type} [Rp α] : Tn (Tu α) := ⟨"tuple", fun h => by
  obtain ⟨p, vs, rfl, h1, _⟩ := h
  exact .base (.tup h1)⟩
instance {α τ : Type} [Rp α] [Tp τ] : Tn (α × τ) := ⟨"tuple", fun h => by
  obtain ⟨p, vs, rfl, h1, _⟩ := h
  exact .base (.tup h1)⟩
theorem rc_isi {K : Fg} {α : Type} [Rp α] [Tn α] {x : α} {n : String} {b : Bool} (h : kitB (Tn.nm α) n = some b) : RCV K (rIsi K) (x, TyN.mk n, ()) b := fun Kn H vs ek hr Q q => by
  obtain ⟨v, w, rfl, h1, h2⟩ := two_args hr
  cases h2
  refine ⟨v, .ty n, .type (Tn.nm α), .type n, b, rfl, .ty n, ?_, kit_ty h, q.fl ek⟩
  exact Tn.is (Rp.mono ek h1)

/-! ### great divisors -/
theorem r2_divW {K : Fg} {i j : Int} {b : Nat} (h : 0 < j) (hb : j.natAbs < 2 ^ b) (h0 : 0 < b) (h9 : b ≤ 9000) : R2V K (rI CDivW fun i j => .int (i / j)) i j (i / j) := r2_I (wide_div h hb h0 h9)

/-! ### sorted of whole numbers -/
def srt (xs : List Int) : List Int := xs.mergeSort fun a b => decide (a ≤ b)
theorem srt_perm (xs : List Int) : (srt xs).Perm xs := List.mergeSort_perm xs _
theorem srt_pw (xs : List Int) : (srt xs).Pairwise (· ≤ ·) := by
  have h := List.pairwise_mergeSort (le := fun a b => decide (a ≤ b)) (fun a b c h1 h2 => by
    have h1 := of_decide_eq_true h1
    have h2 := of_decide_eq_true h2
    exact decide_eq_true (by omega)) (fun a b => by
    rcases Int.le_total a b with h | h
    · rw [decide_eq_true h]; rfl
    · rw [decide_eq_true h]; exact Bool.or_true _) xs
  exact h.imp fun h => of_decide_eq_true h
theorem srt_one {xs ys : List Int} (p : ys.Perm xs) (s : ys.Pairwise (· ≤ ·)) : ys = srt xs :=
  List.Perm.eq_of_pairwise (le := fun a b : Int => a ≤ b) (fun a b _ _ h1 h2 => Int.le_antisymm h1 h2) s (srt_pw xs) (p.trans (srt_perm xs).symm)
theorem rc_sorted {K : Fg} {xs : List Int} : RCL K (rSortedI K) (xs, ()) (srt xs) := fun Kn H vs ek h Q q => by
  obtain ⟨v, rfl, p, ws, rfl, h1, h2⟩ := one_arg h
  have e := paired_fl h2
  subst e
  refine ⟨p, xs, rfl, sq_of (ek _ _ h1), fun ns' l pm pw hl => ?_⟩
  rw [srt_one pm pw]
  exact q l _ Kn _ (Gr.newU ek hl) hl (fresh_back ek hl) upd_same (fl_paired (srt xs))
end Wk

namespace Wk
open PySem PySem.Spec L2 Evl
section
variable {K : Fg} {F Kn0 : Hp} {sl sl' : List Sl} {ow ow0 ow1 ow2 : List Ow} {α β γ τ : Type} [Rp α] [Rp β] [Rp γ] [Tp τ] {ta tb te : TE} {x : α} {D : Ends} {t u tz : TS} {tt : TT} {b : Bool} {i j : Nat} {p : Addr}
theorem ev_int (n : Int) : EV K F Kn0 sl ow (tC (.int n)) n := ev_c n
theorem ev_bool (n : Bool) : EV K F Kn0 sl ow (tC (.bl n)) n := ev_c n
theorem ev_str (n : Str) : EV K F Kn0 sl ow (tC (.str n)) n := ev_c n
theorem ev_nn : EV K F Kn0 sl ow (tC .non) Nn.nn := ev_c Nn.nn
theorem ev_ty (n : String) : EV K F Kn0 sl ow (tC (.ty n)) (TyN.mk n) := ev_c (TyN.mk n)
variable {m n : Int}
theorem r2_add : R2V K (rI0 fun i j => .int (i + j)) m n (m + n) := r2_I0
theorem r2_sub : R2V K (rI0 fun i j => .int (i - j)) m n (m - n) := r2_I0
theorem r2_lt : R2V K (rI0 fun i j => .bl (decide (i < j))) m n (decide (m < n)) := r2_I0
theorem r2_le : R2V K (rI0 fun i j => .bl (decide (i ≤ j))) m n (decide (m ≤ n)) := r2_I0
theorem r2_gt : R2V K (rI0 fun i j => .bl (decide (j < i))) m n (decide (n < m)) := r2_I0
theorem r2_ge : R2V K (rI0 fun i j => .bl (decide (j ≤ i))) m n (decide (n ≤ m)) := r2_I0
theorem r2_mod (h : 0 < n := by decide) : R2V K (rI (fun _ j => 0 < j) fun i j => .int (i % j)) m n (m % n) := r2_I h
theorem r2_div (h : 0 < n ∧ n < 1073741824 := by decide) : R2V K (rI CDiv fun i j => .int (i / j)) m n (m / n) := r2_I h
theorem r2_mulr (h : -18446744073709551616 < n ∧ n < 18446744073709551616 := by decide) : R2V K (rI CMul fun i j => .int (i * j)) m n (m * n) := r2_I (.inr ⟨by omega, by omega⟩)
theorem r2_mull (h : -18446744073709551616 < m ∧ m < 18446744073709551616 := by decide) : R2V K (rI CMul fun i j => .int (i * j)) m n (m * n) := r2_I (.inl ⟨by omega, by omega⟩)
theorem r2_divw (h : 0 < n ∧ n < 18446744073709551616 := by decide) : R2V K (rI CDivW fun i j => .int (i / j)) m n (m / n) := r2_divW h.1 (b := 64) (by omega) (by decide) (by decide)
theorem r2_pow {r : Int} (h : 0 ≤ n ∧ n ≤ 1000000 ∧ m.natAbs < 18446744073709551616 := by decide) (e : m ^ n.toNat = r := by decide) : R2V K (rI CPow fun i j => .int (i ^ j.toNat)) m n r := e ▸ r2_I ⟨h.1, h.2.1, by omega⟩
theorem EN.cast {xs ys : List α} (h : EN K F Kn0 sl ow te xs) (e : xs = ys) : EN K F Kn0 sl ow te ys := e ▸ h
theorem EM.cast {y : α} (h : EM K F Kn0 sl ow te ow1 x) (e : x = y) : EM K F Kn0 sl ow te ow1 y := e ▸ h
theorem ENM.cast {xs ys : List α} (h : ENM K F Kn0 sl ow te ow1 xs) (e : xs = ys) : ENM K F Kn0 sl ow te ow1 ys := e ▸ h
theorem SB.is (h1 : sl = sl') (h2 : ow = ow1) (h : SB K F Kn0 sl' ow1 D t) : SB K F Kn0 sl ow D t := by subst h1; subst h2; exact h
theorem EV.is (h1 : sl = sl') (h : EV K F Kn0 sl' ow te x) : EV K F Kn0 sl ow te x := by subst h1; exact h
theorem EM.is (h1 : sl = sl') (h2 : ow = ow2) (h3 : ow1 = ow0) (h : EM K F Kn0 sl' ow2 te ow0 x) : EM K F Kn0 sl ow te ow1 x := by subst h1; subst h2; subst h3; exact h
theorem ET.is (h1 : sl = sl') (h : ET K F Kn0 sl' ow tt b) : ET K F Kn0 sl ow tt b := by subst h1; exact h
theorem ite_t {γ : Type} {b : Bool} {A B : Option γ} {r : γ} (hb : b = true) (h : (if b = true then A else B) = some r) : A = some r := by rw [if_pos hb] at h; exact h
theorem ite_f {γ : Type} {b : Bool} {A B : Option γ} {r : γ} (hb : b = false) (h : (if b = true then A else B) = some r) : B = some r := by rw [if_neg (by rw [hb]; exact Bool.false_ne_true)] at h; exact h
def anyAt (sl : List Sl) (vs : List Nat) : Bool := vs.all fun j => match sl[j]? with
  | some .any => true
  | _ => false
theorem anyAt_of {sl : List Sl} {vs : List Nat} (h : anyAt sl vs = true) : ∀ j ∈ vs, sl[j]? = some .any := fun j hj => by
  have q := List.all_eq_true.mp h j hj
  cases e : sl[j]? with
  | none => rw [e] at q; cases q
  | some s =>
    rw [e] at q
    cases s with
    | any => rfl
    | val _ _ _ => cases q
    | «at» _ => cases q
theorem sub_of {js vs : List Nat} (h : (js.all fun j => vs.contains j) = true) : ∀ j ∈ js, j ∈ vs := fun j hj => by
  have q := List.all_eq_true.mp h j hj
  simpa using q
theorem sn_end {R : VK} (q : RT K F Kn0 ow0 R Nn.nn) (hd : ∀ σ H, R .non H → D.nx σ H) (l : ow0.Sublist ow) : SN K F Kn0 sl ow D := fun σ Kn H s => hd σ H (q _ Kn H (s.sub l).fin rfl)
def EOM (K : Fg) (F Kn0 : Hp) (sl : List Sl) (ow : List Ow) (to : TO) (ow' : List Ow) (o : Option Int) : Prop := ∀ σ Kn H, S K F Kn0 sl ow σ Kn H → ∀ Q : Option Int → Hp → Prop, (∀ Kn' H', Ex Kn Kn' → S K F Kn0 sl ow' σ Kn' H' → Q o H') → to σ H Q
theorem EO.eom {to : TO} {o : Option Int} (h : EO K F Kn0 sl ow to o) : EOM K F Kn0 sl ow to ow o := fun σ Kn H s Q q => h σ Kn H s Q fun Kn' H' g => q Kn' H' g.kk (s.grow g)
theorem eom_some {i : Int} (h : EM K F Kn0 sl ow te ow1 i) : EOM K F Kn0 sl ow (tPart te) ow1 (some i) := fun σ Kn H s Q q => h σ Kn H s _ fun v Kn1 H1 e1 s1 r1 => ⟨i, r1, q Kn1 H1 e1 s1⟩
theorem enm_sl {ow3 : List Ow} {xs : List α} {tl th : TO} {lo hi : Option Int} (h : EM K F Kn0 sl ow te ow1 xs) (hl : EOM K F Kn0 sl ow1 tl ow2 lo) (hh : EOM K F Kn0 sl ow2 th ow3 hi) : ENM K F Kn0 sl ow (tSl (rSlL K) te tl th) ow3 (cut xs lo hi) := fun σ Kn H s Q q =>
  h σ Kn H s _ fun v Kn1 H1 e1 s1 r1 => hl σ Kn1 H1 s1 _ fun Kn2 H2 e2 s2 => hh σ Kn2 H2 s2 _ fun Kn3 H3 e3 s3 => by
    obtain ⟨p, ws, rfl, h3, h4⟩ := r1
    have e13 : Ex Kn1 Kn3 := e2.trans e3
    exact ⟨p, ws, rfl, sq_of (s3.ek _ _ (e13 _ _ h3)), fun l hl => q l _ Kn3 _ (e1.trans e13) (s3.grow (Gr.newU s3.ek hl)) (fresh_back s3.ef hl) (fresh_back s3.ek hl) (owned_ne s3 hl) upd_same (paired_cut (paired_mono e13 h4) lo hi)⟩
/-- the entry of a def -/
theorem enter {σ : L2.St} {Kn H : Hp} {D : Ends} {t : TS} (ek : Ex Kn H) (hs : SlsOk K Kn sl σ) (h : SB K H Kn sl [] D t) : t D σ H := h σ Kn H ⟨Ex.refl _, ek, Ex.refl _, fun _ _ h => h, hs, ⟨(fun _ h => nomatch h), List.nodup_nil⟩⟩
theorem rt_of {H Kn : Hp} {r : α} {Q : VK} (q : RS K Kn H Q r) : RT K H Kn [] Q r := fun v Kn' H' s rv => q v Kn' H' ⟨s.e0, s.ef, s.ek, s.sep⟩ rv
theorem rn_of {H Kn : Hp} {r : List α} {Q : VK} (q : RL K Kn H Q r) : RN K H Kn [] Q r := fun p ws Kn' H' s fp kp hw rv => q p ws Kn' H' ⟨s.e0, s.ef, s.ek, s.sep⟩ fp kp hw rv
/-- all but p -/
def but (H : Hp) (p : Addr) : Hp := fun a => if a = p then none else H a
theorem enterM {σ : L2.St} {Kn H : Hp} {D : Ends} {t : TS} {p : Addr} {ws : List V} {xs : List α} (ek : Ex Kn H) (kp : Kn p = none) (hp : H p = some (.lst ws)) (r : Paired (rep K Kn) ws xs) (hs : SlsOk K Kn sl σ) (h : SB K (but H p) Kn sl [ol p xs] D t) : t D σ H :=
  h σ Kn H ⟨Ex.refl _, ek, fun a u e => by
    unfold but at e
    split at e
    · cases e
    · exact e, fun _ _ h => h, hs, ⟨fun o ho => by
      cases List.mem_singleton.mp ho
      exact ⟨if_pos rfl, kp, ws, hp, r⟩, List.nodup_cons.mpr ⟨(fun h => nomatch h), List.nodup_nil⟩⟩⟩
theorem rt_ofM {H Kn : Hp} {r : β} {p : Addr} {xs' : List α} {Q : VK} (kp : Kn p = none) (q : ∀ v Kn' H' ws', Ex Kn Kn' → Ex Kn' H' → (∀ q, q ≠ p → H q ≠ none → H' q = H q) → (∀ q, H q ≠ none → Kn q = none → Kn' q = none) → H' p = some (.lst ws') → Paired (rep K Kn') ws' xs' → rep K Kn' v r → Q v H') :
    RT K (but H p) Kn [ol p xs'] Q r := fun v Kn' H' s rv => by
  obtain ⟨_, k1, ws, h1, h2⟩ := s.ow.each (ol p xs') List.mem_cons_self
  refine q v Kn' H' ws s.e0 s.ek (fun a ha hn => ?_) (fun a hn hk => ?_) h1 h2 rv
  · have e : but H p a = H a := if_neg ha
    exact (Ex.at_eq s.ef (by rw [e]; exact hn)).trans e
  · by_cases ha : a = p
    · subst ha
      exact k1
    · exact s.sep a (by unfold but; rw [if_neg ha]; exact hn) hk
end
end Wk

/-! ### rules whose readings name K itself (within comprehensions) -/
namespace Wk
open PySem PySem.Spec L2 Evl
section
variable {X : Cx} {K : Fg}
theorem k_isi (h : X.K = K := by rfl) : CallR X (.builtin "isinstance") (rIsi K) := h ▸ call_isi
theorem k_len (h : X.K = K := by rfl) : CallR X (.builtin "len") (fun xs H Q => ∃ p ys, xs = [.ref p] ∧ (SqL K H p ys ∨ SqT K H p ys) ∧ Q (.int ys.length) H) := h ▸ call_len_seq
theorem k_list (h : X.K = K := by rfl) : CallR X (.type "list") (fun xs H Q => ∃ p ys, xs = [.ref p] ∧ (SqL K H p ys ∨ SqT K H p ys) ∧ ∀ l, H l = none → Q (.ref l) (upd H l (.lst ys))) := h ▸ call_list_of
theorem k_tuple (h : X.K = K := by rfl) : CallR X (.type "tuple") (fun xs H Q => ∃ p ys, xs = [.ref p] ∧ ((SqL K H p ys ∧ ∀ l, H l = none → Q (.ref l) (upd H l (.tup ys))) ∨ (SqT K H p ys ∧ Q (.ref p) H))) := h ▸ call_tuple_of
theorem k_sum (hc : X.calm = true := by rfl) (h : X.K = K := by rfl) : CallR X (.builtin "sum") (rSum K) := h ▸ cr_sum hc
theorem k_any (hc : X.calm = true := by rfl) (h : X.K = K := by rfl) : CallR X (.builtin "any") (rAny K) := h ▸ cr_any hc
theorem k_all (hc : X.calm = true := by rfl) (h : X.K = K := by rfl) : CallR X (.builtin "all") (rAll K) := h ▸ cr_all hc
theorem k_max2 (hc : X.calm = true := by rfl) : CallR X (.builtin "max") (fun xs H Q => ∃ i j, xs = [.int i, .int j] ∧ Q (.int (if j > i then j else i)) H) := call_max2 hc
theorem k_min2 (hc : X.calm = true := by rfl) : CallR X (.builtin "min") (fun xs H Q => ∃ i j, xs = [.int i, .int j] ∧ Q (.int (if j < i then j else i)) H) := call_min2 hc
theorem k_sorted (h : X.K = K := by rfl) : CallR X (.builtin "sorted") (rSortedI K) := h ▸ cr_sortedI
theorem k_ixl (h : X.K = K := by rfl) : IxR X (rIxL K) := h ▸ ix_list
theorem k_ixt (h : X.K = K := by rfl) : IxR X (rIxT K) := h ▸ ix_tup
theorem k_sll (h : X.K = K := by rfl) : SlR X (rSlL K) := h ▸ sl_list
theorem k_eqD (hu : X.A.units + 64 < cLine) (h : X.K = K := by rfl) : OpR X (compareOp .Eq) (rEqD K) := h ▸ op_eqD hu
theorem k_neD (hu : X.A.units + 64 < cLine) (h : X.K = K := by rfl) : OpR X (compareOp .NotEq) (rNeD K) := h ▸ op_neD hu
theorem k_in (h : X.K = K := by rfl) : OpR X (compareOp .In) (rIn K false) := h ▸ op_in_seq
theorem k_notIn (h : X.K = K := by rfl) : OpR X (compareOp .NotIn) (rIn K true) := h ▸ op_notIn_seq
theorem kpg_tup {es : List Expr} {k : Nat} {t : TGs} {n : Nat} {pos : Pos} (hs : PGs X es t) (hc : X.calm = true := by rfl) (h : X.K = K := by rfl)
    (hn : (assignEach es X.env).length = n := by rfl) (hst : (assignEach es X.env).findIdx? (·.1) = none := by rfl) : PG X (.Tuple es k pos) (gTup K n t) := h ▸ pg_tup hc hs hn hst
theorem kpi_list {tg e : Expr} {te : TE} (he : PE X e te) (h : X.K = K := by rfl) : PI X tg e (iList K te) := h ▸ pi_list he
theorem kpi_tup {tg e : Expr} {te : TE} (he : PE X e te) (h : X.K = K := by rfl) : PI X tg e (iTup K te) := h ▸ pi_tup he
theorem kpt_truth {a : Expr} {ta : TE} (ha : PE X a ta) (he : ∀ whole, isTrue a X.env whole = (do let v ← whole; standAt a.pos; holding [v] (truthy v)) := by intro _; rfl) (h : X.K = K := by rfl) : PT X a (fun σ H Q => ta σ H fun x H' => ∃ k, TruV K x H' k ∧ Q k H') := h ▸ pt_truth ha he
end
end Wk
/-! Wk5: in, lists made longer, texts, chains, tuples put together -/
namespace Wk
open PySem PySem.Spec L2 Evl
class Fe (α : Type) [Rp α] [Fl α] [DecidableEq α] : Prop where
  flat : ∀ a : α, flatV (Fl.toV a) = true
  eq : ∀ a b : α, eqV (Fl.toV a) (Fl.toV b) = decide (a = b)
instance : Fe Int := ⟨fun _ => rfl, fun a b => by show (a == b) = decide (a = b); by_cases h : a = b <;> simp [h]⟩
instance : Fe Str := ⟨fun _ => rfl, fun a b => by show (a == b) = decide (a = b); by_cases h : a = b <;> simp [h]⟩
def repO {α : Type} (xs : List α) (k : Int) : Option (List α) := if -1000000000 ≤ k ∧ k ≤ 1000000000 ∧ xs.length * k.toNat ≤ 1000000 then some (List.replicate k.toNat xs).flatten else none
def addS (x y : Str) : Option Str := if x.length + y.length ≤ 1000000 then some (x ++ y) else none
def lenS (x : Str) : Option Int := if x.length ≤ 1000000 then some (x.length : Int) else none
def joinO (a : Str) (ys : List Str) : Option Str := if (ys.map (·.length)).sum + ys.length * a.length ≤ 1000000 then some (Txt.join a ys) else none
def powO (i j : Int) : Option Int := if 0 ≤ j ∧ j ≤ 1000000 ∧ i.natAbs < 18446744073709551616 then some (i ^ j.toNat) else none
section
variable {K : Fg} {F Kn0 : Hp} {sl sl' : List Sl} {ow ow0 ow1 ow2 : List Ow} {α β γ τ : Type} [Rp α] [Rp β] [Rp γ] [Tp τ] {ta tb tc te : TE} {x : α} {y : β} {z : γ} {D : Ends} {t u tz : TS} {tt : TT} {a b : Bool} {i j : Nat} {p : Addr}
theorem any_mem {α : Type} [Rp α] [Fl α] [DecidableEq α] [Fe α] (x : α) : ∀ xs : List α, inV (Fl.toV x) (xs.map Fl.toV) = decide (x ∈ xs)
  | [] => by simp [inV]
  | y :: ys => by
    have ih := any_mem x ys
    unfold inV at ih ⊢
    rw [List.map_cons, List.any_cons, ih, Fe.eq]
    by_cases h : y = x
    · subst h
      simp
    · have h' : ¬ x = y := fun e => h e.symm
      simp [h, h']
theorem all_flat {α : Type} [Rp α] [Fl α] [DecidableEq α] [Fe α] : ∀ xs : List α, (xs.map Fl.toV).all flatV = true
  | [] => rfl
  | y :: ys => by
    rw [List.map_cons, List.all_cons, Fe.flat, all_flat ys]
    rfl
theorem r2_in {α : Type} [Rp α] [Fl α] [DecidableEq α] [Fe α] {x : α} {xs : List α} : R2V K (rIn K false) x xs (decide (x ∈ xs)) := fun Kn H v w ek h1 h2 Q q => by
  obtain ⟨p, ws, rfl, h3, h4⟩ := h2
  have e := paired_fl h4
  subst e
  rw [Fl.iff.mp h1]
  refine ⟨p, _, rfl, .inl (sq_of (ek _ _ h3)), Fe.flat x, all_flat xs, ?_⟩
  rw [any_mem]
  exact q.fl ek
theorem r2_notIn {α : Type} [Rp α] [Fl α] [DecidableEq α] [Fe α] {x : α} {xs : List α} : R2V K (rIn K true) x xs (!decide (x ∈ xs)) := fun Kn H v w ek h1 h2 Q q => by
  obtain ⟨p, ws, rfl, h3, h4⟩ := h2
  have e := paired_fl h4
  subst e
  rw [Fl.iff.mp h1]
  refine ⟨p, _, rfl, .inl (sq_of (ek _ _ h3)), Fe.flat x, all_flat xs, ?_⟩
  rw [any_mem]
  exact q.fl ek
theorem r2_inU {α : Type} [Rp α] [Fl α] [DecidableEq α] [Fe α] {x : α} {xs : Tu α} : R2V K (rIn K false) x xs (decide (x ∈ xs.l)) := fun Kn H v w ek h1 h2 Q q => by
  obtain ⟨p, ws, rfl, h3, h4⟩ := h2
  have e := paired_fl h4
  subst e
  rw [Fl.iff.mp h1]
  refine ⟨p, _, rfl, .inr (st_of (ek _ _ h3)), Fe.flat x, all_flat xs.l, ?_⟩
  rw [any_mem]
  exact q.fl ek
theorem r2_notInU {α : Type} [Rp α] [Fl α] [DecidableEq α] [Fe α] {x : α} {xs : Tu α} : R2V K (rIn K true) x xs (!decide (x ∈ xs.l)) := fun Kn H v w ek h1 h2 Q q => by
  obtain ⟨p, ws, rfl, h3, h4⟩ := h2
  have e := paired_fl h4
  subst e
  rw [Fl.iff.mp h1]
  refine ⟨p, _, rfl, .inr (st_of (ek _ _ h3)), Fe.flat x, all_flat xs.l, ?_⟩
  rw [any_mem]
  exact q.fl ek
theorem paired_rep {F : V → α → Prop} {vs : List V} {xs : List α} (h : Paired F vs xs) : ∀ n : Nat, Paired F (List.replicate n vs).flatten (List.replicate n xs).flatten
  | 0 => .nil
  | n + 1 => by
    rw [List.replicate_succ, List.replicate_succ, List.flatten_cons, List.flatten_cons]
    exact paired_append h (paired_rep h n)
theorem r2_repO {xs zs : List α} {k : Int} (h : repO xs k = some zs) : R2L K rRep xs k zs := fun Kn H v w ek h1 h2 Q q => by
  unfold repO at h
  split at h
  · rename_i hb
    cases h
    obtain ⟨p, ws, rfl, h3, h4⟩ := h1
    cases h2
    refine ⟨p, k, ws, rfl, rfl, ek _ _ h3, by omega, by omega, by rw [paired_len h4]; exact le_line hb.2.2, fun l hl => q l _ Kn _ (Gr.newU ek hl) hl (fresh_back ek hl) upd_same (paired_rep h4 _)⟩
  · cases h
theorem r2_addS {x y z : Str} (h : addS x y = some z) : R2V K (fun x y H Q => ∃ i j, x = .str i ∧ y = .str j ∧ i.length + j.length ≤ sizeLine ∧ Q (.str (i ++ j)) H) x y z := fun Kn H v w ek h1 h2 Q q => by
  unfold addS at h
  split at h
  · rename_i hb
    cases h
    exact ⟨x, y, h1, h2, le_line hb, q.fl ek⟩
  · cases h
theorem rc_lenS {x : Str} {z : Int} (h : lenS x = some z) : RCV K (fun xs H Q => ∃ z, xs = [.str z] ∧ z.length ≤ sizeLine ∧ Q (.int z.length) H) (x, ()) z := fun Kn H vs ek hr Q q => by
  obtain ⟨v, rfl, h1⟩ := one_arg hr
  cases h1
  unfold lenS at h
  split at h
  · rename_i hb
    cases h
    exact ⟨x, rfl, le_line hb, q.fl ek⟩
  · cases h
theorem ev_joinO {s : Str} {ys : List Str} {z : Str} (ha : EV K F Kn0 sl ow ta s) (hb : EV K F Kn0 sl ow tb ys) (h : joinO s ys = some z) :
    EV K F Kn0 sl ow (tM1 (fun x xs H Q => ∃ a p, ∃ ys : List Str, x = .str a ∧ xs = [.ref p] ∧ (SqL K H p (ys.map V.str) ∨ SqT K H p (ys.map V.str)) ∧ (ys.map (·.length)).sum + ys.length * a.length ≤ 16777216 ∧ Q (.str (Txt.join a ys)) H) ta tb) z := fun σ Kn H s' Q q =>
  ha σ Kn H s' _ fun v Kn1 H1 g1 r1 => by
    cases r1
    refine ⟨⟨s, rfl⟩, hb σ Kn1 H1 (s'.grow g1) _ fun w Kn2 H2 g2 r2 => ?_⟩
    obtain ⟨p, ws, rfl, h3, h4⟩ := r2
    have e := paired_fl h4
    subst e
    unfold joinO at h
    split at h
    · rename_i hz
      cases h
      exact ⟨s, p, ys, rfl, rfl, .inl (sq_of (g2.kh _ _ h3)), by omega, q _ Kn2 H2 (g1.trans g2) rfl⟩
    · cases h
theorem rc_intB {x : Bool} : RCV K (fun xs H Q => (∃ i, xs = [.int i] ∧ Q (.int i) H) ∨ ∃ k, xs = [.bl k] ∧ Q (.int (if k then 1 else 0)) H) (x, ()) (if x = true then (1 : Int) else 0) := fun Kn H vs ek hr Q q => by
  obtain ⟨v, rfl, h1⟩ := one_arg hr
  cases h1
  exact .inr ⟨x, rfl, q.fl ek⟩
theorem rc_intI {x : Int} : RCV K (fun xs H Q => (∃ i, xs = [.int i] ∧ Q (.int i) H) ∨ ∃ k, xs = [.bl k] ∧ Q (.int (if k then 1 else 0)) H) (x, ()) x := fun Kn H vs ek hr Q q => by
  obtain ⟨v, rfl, h1⟩ := one_arg hr
  cases h1
  exact .inl ⟨x, rfl, q.fl ek⟩
theorem r2_powO {i j z : Int} (h : powO i j = some z) : R2V K (rI CPow fun i j => .int (i ^ j.toNat)) i j z := by
  unfold powO at h
  split at h
  · rename_i hb
    cases h
    exact r2_I ⟨hb.1, hb.2.1, by omega⟩
  · cases h
/-- x < y < z -/
theorem ev_chain {r r' : R2} (ha : EV K F Kn0 sl ow ta x) (hb : EV K F Kn0 sl ow tb y) (hr : R2V K r x y a) (hc : EV K F Kn0 sl ow tc z) (hr' : R2V K r' y z b) : EV K F Kn0 sl ow (tChain r r' ta tb tc) (a && b) := fun σ Kn H s Q q =>
  ha σ Kn H s _ fun v Kn1 H1 g1 r1 => hb σ Kn1 H1 (s.grow g1) _ fun w Kn2 H2 g2 r2 => hr Kn2 H2 v w g2.kh (Rp.mono g2.kk r1) r2 _ fun u Kn3 H3 g3 r3 => by
    refine ⟨a, r3, ?_⟩
    cases a with
    | true => exact iteT (hc σ Kn3 H3 (((s.grow g1).grow g2).grow g3) _ fun v4 Kn4 H4 g4 r4 => hr' Kn4 H4 w v4 g4.kh (Rp.mono (g3.kk.trans g4.kk) r2) r4 Q fun u5 Kn5 H5 g5 r5 => q u5 Kn5 H5 ((((g1.trans g2).trans g3).trans g4).trans g5) r5)
    | false => exact iteF (q _ Kn3 H3 ((g1.trans g2).trans g3) rfl)
/-- t3 is t1 and t2 put together -/
inductive Ap : {τ1 τ2 τ3 : Type} → [Tp τ1] → [Tp τ2] → [Tp τ3] → τ1 → τ2 → τ3 → Prop
  | z {τ : Type} [Tp τ] (t : τ) : Ap () t t
  | s {α τ1 τ2 τ3 : Type} [Rp α] [Tp τ1] [Tp τ2] [Tp τ3] (x : α) {t1 : τ1} {t2 : τ2} {t3 : τ3} : Ap t1 t2 t3 → Ap (x, t1) t2 (x, t3)
theorem Ap.rept {K : Fg} {H : Hp} {τ1 τ2 τ3 : Type} [i1 : Tp τ1] [i2 : Tp τ2] [i3 : Tp τ3] {t1 : τ1} {t2 : τ2} {t3 : τ3} (h : Ap t1 t2 t3) : ∀ {vs ws : List V}, Wk.rept K H vs t1 → Wk.rept K H ws t2 → Wk.rept K H (vs ++ ws) t3 := by
  induction h with
  | z t =>
    intro vs ws h1 h2
    cases h1
    exact h2
  | s x _ ih =>
    intro vs ws h1 h2
    obtain ⟨v, r, rfl, h3, h4⟩ := h1
    exact ⟨v, r ++ ws, rfl, h3, ih h4 h2⟩
theorem r2_catA {α1 τ1 α2 τ2 α3 τ3 : Type} [Rp α1] [Tp τ1] [Rp α2] [Tp τ2] [Rp α3] [Tp τ3] {t1 : α1 × τ1} {t2 : α2 × τ2} {t3 : α3 × τ3} (h : Ap t1 t2 t3) (hn : Tp.n (α1 × τ1) + Tp.n (α2 × τ2) ≤ 1000 := by decide) : R2V K (rCatA K) t1 t2 t3 := fun Kn H v w ek h1 h2 Q q => by
  obtain ⟨p, vs, rfl, h3, h4⟩ := h1
  obtain ⟨p2, ws, rfl, h5, h6⟩ := h2
  have n1 : vs ≠ [] := by
    obtain ⟨_, _, rfl, _⟩ := h4
    simp
  have n2 : ws ≠ [] := by
    obtain ⟨_, _, rfl, _⟩ := h6
    simp
  refine ⟨p, p2, vs, ws, rfl, rfl, st_of (ek _ _ h3), st_of (ek _ _ h5), ?_, fun e => absurd e n1, fun _ e => absurd e n2, fun _ _ l hl => ?_⟩
  · rw [Tp.len h4, Tp.len h6]
    exact le_line (by omega)
  · exact q _ (upd Kn l (.tup (vs ++ ws))) _ (Gr.new ek hl) ⟨l, _, rfl, upd_same, h.rept (Tp.mono (Gr.new ek hl).kk h4) (Tp.mono (Gr.new ek hl).kk h6)⟩
/-- found.clear() -/
theorem sb_clr {xs : List α} (hi : sl[i]? = some (.at p)) (hj : ow[j]? = some (ol p xs)) (ho : ow.set j (ol p ([] : List α)) = ow1) (k : SN K F Kn0 sl ow1 D) : SB K F Kn0 sl ow D (tDrop (tBM0 K "list" rClear (tVar i))) := fun σ Kn H s => by
  obtain ⟨o, h1, h2⟩ := s.sl.get hi
  obtain ⟨f1, f2, ws, f3, f4⟩ := s.ow.each _ (List.mem_of_getElem? hj)
  subst ho
  refine ⟨.ref p, by rw [h1]; exact congrArg some h2, Or.inl ⟨rfl, ws, sq_of f3⟩, p, ws, rfl, rfl, f3, k _ Kn _ ?_⟩
  exact s.write hj (Ex.refl _) (upd_in s.ek f2) (fun q hq _ => upd_ne hq) (fun _ _ h => h) upd_same .nil
theorem en_listO {xs : List α} (hi : sl[i]? = some (.at p)) (hj : ow[j]? = some (ol p xs)) : EN K F Kn0 sl ow (tCB (fun xs H Q => ∃ p ys, xs = [.ref p] ∧ (SqL K H p ys ∨ SqT K H p ys) ∧ ∀ l, H l = none → Q (.ref l) (upd H l (.lst ys))) (tCons (tVar i) tNil)) xs := fun σ Kn H s Q q => by
  obtain ⟨o, h1, h2⟩ := s.sl.get hi
  obtain ⟨f1, f2, ws, f3, f4⟩ := s.ow.each _ (List.mem_of_getElem? hj)
  exact ⟨.ref p, by rw [h1]; exact congrArg some h2, p, ws, rfl, .inl (sq_of f3), fun l hl => q l ws Kn _ (Gr.newU s.ek hl) hl (fresh_back s.ek hl) upd_same f4⟩
/-- a test that changes something on its way -/
def ETM (K : Fg) (F Kn0 : Hp) (sl : List Sl) (ow : List Ow) (tt : TT) (ow' : List Ow) (b : Bool) : Prop := ∀ σ Kn H, S K F Kn0 sl ow σ Kn H → ∀ Q : Bool → Hp → Prop, (∀ Kn' H', Ex Kn Kn' → S K F Kn0 sl ow' σ Kn' H' → Q b H') → tt σ H Q
theorem ET.etm (h : ET K F Kn0 sl ow tt b) : ETM K F Kn0 sl ow tt ow b := fun σ Kn H s Q q => h σ Kn H s Q fun Kn' H' g => q Kn' H' g.kk (s.grow g)
theorem etm_test (h : EM K F Kn0 sl ow te ow1 b) : ETM K F Kn0 sl ow (tTest te) ow1 b := fun σ Kn H s Q q => h σ Kn H s _ fun v Kn' H' e s' r => ⟨b, r, q Kn' H' e s'⟩
theorem etm_and {t u : TT} (h1 : ETM K F Kn0 sl ow t ow1 a) (h2 : a = true → ET K F Kn0 sl ow1 u b) : ETM K F Kn0 sl ow (tAnd t u) ow1 (a && b) := fun σ Kn H s Q q => h1 σ Kn H s _ fun Kn1 H1 e1 s1 => by
  cases a with
  | true => exact iteT (h2 rfl σ Kn1 H1 s1 Q fun Kn2 H2 g2 => q Kn2 H2 (e1.trans g2.kk) (s1.grow g2))
  | false => exact iteF (q Kn1 H1 e1 s1)
theorem etm_or {t u : TT} (h1 : ETM K F Kn0 sl ow t ow1 a) (h2 : a = false → ET K F Kn0 sl ow1 u b) : ETM K F Kn0 sl ow (tOr t u) ow1 (a || b) := fun σ Kn H s Q q => h1 σ Kn H s _ fun Kn1 H1 e1 s1 => by
  cases a with
  | true => exact iteT (q Kn1 H1 e1 s1)
  | false => exact iteF (h2 rfl σ Kn1 H1 s1 Q fun Kn2 H2 g2 => q Kn2 H2 (e1.trans g2.kk) (s1.grow g2))
theorem sb_ifM {t u : TS} (h : ETM K F Kn0 sl ow tt ow1 b) (h1 : b = true → SB K F Kn0 sl ow1 D t) (h2 : b = false → SB K F Kn0 sl ow1 D u) : SB K F Kn0 sl ow D (tIfS tt t u) := fun σ Kn H s => h σ Kn H s _ fun Kn1 H1 e1 s1 => by
  cases b with
  | true => exact iteT (h1 rfl σ Kn1 H1 s1)
  | false => exact iteF (h2 rfl σ Kn1 H1 s1)
end
section
variable {X : Cx} {K : Fg}
theorem k_catA (h : X.K = K := by rfl) : OpR X (binaryOp .Add) (rCatA K) := h ▸ op_catA
theorem k_join {to te : TE} {o e : Expr} {apos pos : Pos} (ho : PE X o to) (he : PE X e te) (hs : starEach [e] X.env = [(false, eval e X.env)] := by rfl) (hbase : attributeBase o "join" X.env (eval o X.env) = eval o X.env := by rfl) (hline : (apos.endLine == pos.line) = true := by rfl) (h : X.K = K := by rfl) :
    PE X (.Call (.Attribute o "join" apos) [e] [] pos) (tM1 (fun x xs H Q => ∃ a p, ∃ ys : List Str, x = .str a ∧ xs = [.ref p] ∧ (SqL K H p (ys.map V.str) ∨ SqT K H p (ys.map V.str)) ∧ (ys.map (·.length)).sum + ys.length * a.length ≤ 16777216 ∧ Q (.str (Txt.join a ys)) H) to te) := h ▸ pe_join ho he hs hbase hline
end
end Wk
/-! Wk6: dicts. -/
namespace Wk
open PySem PySem.Spec L2 Evl
/-- what may be a key -/
class K1 (α : Type) [Rp α] where
  key : α → Key
  inj : ∀ {a b : α}, key a = key b → a = b
  iff : ∀ {K : Fg} {H : Hp} {v : V} {a : α}, rep K H v a → v = kV (key a)
instance : K1 Int := { key := Sum.inl, inj := fun h => Sum.inl.inj h, iff := fun h => h }
instance : K1 Str := { key := Sum.inr, inj := fun h => Sum.inr.inj h, iff := fun h => h }
class KT1 (τ : Type) [Tp τ] where
  keys : τ → List Key
  inj : ∀ {a b : τ}, keys a = keys b → a = b
  iff : ∀ {K : Fg} {H : Hp} {vs : List V} {a : τ}, rept K H vs a → vs = (keys a).map kV
instance : KT1 Unit := { keys := fun _ => [], inj := fun _ => rfl, iff := fun h => h }
instance {α τ : Type} [Rp α] [Tp τ] [K1 α] [KT1 τ] : KT1 (α × τ) where
  keys t := K1.key t.1 :: KT1.keys t.2
  inj h := Prod.ext (K1.inj (List.cons.inj h).1) (KT1.inj (List.cons.inj h).2)
  iff h := by
    obtain ⟨v, r, h1, h2, h3⟩ := h
    rw [h1, K1.iff h2, KT1.iff h3]
    rfl
class Ky (κ : Type) [Rp κ] where
  kt : Type
  dec : DecidableEq kt
  key : κ → kt
  inj : ∀ {a b : κ}, key a = key b → a = b
  ho : List (kt × V) → HO
  get : ∀ {K : Fg} {Kh H : Hp} {p : Addr} {v : V} {a : κ} {ws : List (kt × V)}, rep K Kh v a → Ex Kh H → H p = some (ho ws) → DGet H p v (valV ws (key a))
  put : ∀ {K : Fg} {Kh H : Hp} {p : Addr} {v y : V} {a : κ} {ws : List (kt × V)}, rep K Kh v a → Ex Kh H → H p = some (ho ws) → ws.length < sizeLine → DPut H p v y (upd H p (ho (putK ws (key a) y)))
instance {κ : Type} [Rp κ] [Ky κ] : DecidableEq (Ky.kt κ) := Ky.dec
instance {α : Type} [Rp α] [K1 α] : Ky α where
  kt := Key
  dec := inferInstance
  key := K1.key
  inj := K1.inj
  ho := .dK
  get h _ e := by
    rw [K1.iff h]
    exact DGet.k e
  put h _ e l := by
    rw [K1.iff h]
    exact DPut.k e l
instance {α τ : Type} [Rp α] [Tp τ] [KT1 (α × τ)] : Ky (α × τ) where
  kt := List Key
  dec := inferInstance
  key := KT1.keys
  inj := KT1.inj
  ho := .dT
  get h x e := by
    obtain ⟨p, vs, h1, h2, h3⟩ := h
    rw [h1]
    have h4 := x _ _ h2
    rw [KT1.iff (τ := α × _) h3] at h4
    exact DGet.t e h4
  put h x e l := by
    obtain ⟨p, vs, h1, h2, h3⟩ := h
    rw [h1]
    have h4 := x _ _ h2
    rw [KT1.iff (τ := α × _) h3] at h4
    exact DPut.t e h4 l
/-- the table of a dict -/
structure Dc (κ β : Type) where
  l : List (κ × β)
section
variable {κ β : Type} [DecidableEq κ]
def getD (kvs : List (κ × β)) (k : κ) : Option β := (kvs.find? fun kv => decide (kv.1 = k)).map (·.2)
def putD (kvs : List (κ × β)) (k : κ) (y : β) : List (κ × β) := if (getD kvs k).isSome = true then kvs.map (fun kv => if kv.1 = k then (kv.1, y) else kv) else kvs ++ [(k, y)]
def putO (kvs : Dc κ β) (k : κ) (y : β) : Option (Dc κ β) := if kvs.l.length < 1000000 then some ⟨putD kvs.l k y⟩ else none
def mergeD (kvs more : List (κ × β)) : List (κ × β) := more.foldl (fun acc kv => putD acc kv.1 kv.2) kvs
end
section
variable {κ β : Type} [Rp κ] [Ky κ] [Rp β]
abbrev DK (K : Fg) (H : Hp) : List (Ky.kt κ × V) → List (κ × β) → Prop := Paired fun w kv => w.1 = Ky.key kv.1 ∧ rep K H w.2 kv.2
theorem DK.mono {K : Fg} {H H' : Hp} {ws : List (Ky.kt κ × V)} {kvs : List (κ × β)} (e : Ex H H') (h : DK K H ws kvs) : DK K H' ws kvs := Paired.mapP h fun _ _ q => ⟨q.1, Rp.mono e q.2⟩
instance obDc : Ob (Dc κ β) where
  ob K H o x := ∃ ws, o = Ky.ho (κ := κ) ws ∧ DK K H ws x.l
  mono e h := by
    obtain ⟨ws, h1, h2⟩ := h
    exact ⟨ws, h1, DK.mono e h2⟩
instance rpDc : Rp (Dc κ β) where
  rep K H v x := ∃ p o, v = .ref p ∧ H p = some o ∧ Ob.ob K H o x
  mono e h := by
    obtain ⟨p, o, h1, h2, h3⟩ := h
    exact ⟨p, o, h1, e _ _ h2, Ob.mono e h3⟩
variable [DecidableEq κ]
theorem DK.get {K : Fg} {H : Hp} {ws : List (Ky.kt κ × V)} {kvs : List (κ × β)} (k : κ) (h : DK K H ws kvs) : (getD kvs k = none ∧ valV ws (Ky.key k) = none) ∨ ∃ y v, getD kvs k = some y ∧ valV ws (Ky.key k) = some v ∧ rep K H v y := by
  unfold DK at h
  induction h with
  | nil => exact .inl ⟨rfl, rfl⟩
  | @cons w kv ws kvs h t ih =>
    unfold getD valV
    by_cases e : kv.1 = k
    · have e2 : w.1 = Ky.key k := h.1.trans (congrArg _ e)
      rw [List.find?_cons_of_pos (by simpa using e), List.find?_cons_of_pos (by simpa using e2)]
      exact .inr ⟨_, _, rfl, rfl, h.2⟩
    · have e2 : ¬ w.1 = Ky.key k := fun z => e (Ky.inj (h.1.symm.trans z))
      rw [List.find?_cons_of_neg (by simpa using e), List.find?_cons_of_neg (by simpa using e2)]
      exact ih
theorem DK.some {K : Fg} {H : Hp} {ws : List (Ky.kt κ × V)} {kvs : List (κ × β)} (k : κ) (h : DK K H ws kvs) : (valV ws (Ky.key k)).isSome = (getD kvs k).isSome := by
  rcases h.get k with ⟨h1, h2⟩ | ⟨y, v, h1, h2, _⟩
  · rw [h1, h2]
    rfl
  · rw [h1, h2]
    rfl
theorem DK.repl {K : Fg} {H : Hp} {ws : List (Ky.kt κ × V)} {kvs : List (κ × β)} (k : κ) {v : V} {y : β} (hv : rep K H v y) (h : DK K H ws kvs) : DK K H (ws.map fun kv => if kv.1 = Ky.key k then (kv.1, v) else kv) (kvs.map fun kv => if kv.1 = k then (kv.1, y) else kv) := by
  unfold DK at h ⊢
  induction h with
  | nil => exact .nil
  | @cons w kv ws kvs h t ih =>
    rw [List.map_cons, List.map_cons]
    refine .cons ?_ ih
    by_cases e : kv.1 = k
    · have e2 : w.1 = Ky.key k := h.1.trans (congrArg _ e)
      rw [if_pos e, if_pos e2]
      exact ⟨h.1, hv⟩
    · have e2 : ¬ w.1 = Ky.key k := fun z => e (Ky.inj (h.1.symm.trans z))
      rw [if_neg e, if_neg e2]
      exact h
theorem Paired.app2 {α β : Type} {R : α → β → Prop} : ∀ {xs xs' : List α} {ys ys' : List β}, Paired R xs ys → Paired R xs' ys' → Paired R (xs ++ xs') (ys ++ ys')
  | _, _, _, _, .nil, h => h
  | _, _, _, _, .cons q t, h => .cons q (Paired.app2 t h)
theorem DK.put {K : Fg} {H : Hp} {ws : List (Ky.kt κ × V)} {kvs : List (κ × β)} (k : κ) {v : V} {y : β} (hv : rep K H v y) (h : DK K H ws kvs) : DK K H (putK ws (Ky.key k) v) (putD kvs k y) := by
  unfold putK putD
  rw [valV_any, h.some k]
  split
  · exact DK.repl k hv h
  · exact Paired.app2 h (.cons ⟨rfl, hv⟩ .nil)
end
section
variable {K : Fg} {F Kn0 : Hp} {sl sl' : List Sl} {ow ow0 ow1 ow2 : List Ow} {κ β γ : Type} [Rp κ] [Ky κ] [DecidableEq κ] [Rp β] [Rp γ] {ta tb te td tk : TE} {k : κ} {x : γ} {D : Ends} {t u tz : TS} {b : Bool} {i j : Nat} {p : Addr}
/-- the object at place j is another one now, all else as it was -/
theorem S.writeG {σ : L2.St} {Kn H Kn' H' : Hp} {o1 o2 : Ow} (s : S K F Kn0 sl ow σ Kn H) (hj : ow[j]? = some o1) (ha : o1.ad = p) (hb : o2.ad = p) (kk : Ex Kn Kn') (kh : Ex Kn' H')
    (hq : ∀ q, q ≠ p → H q ≠ none → H' q = H q) (sp : ∀ q, H q ≠ none → Kn q = none → Kn' q = none) (hp : o2.ok K Kn' H') : S K F Kn0 sl (ow.set j o2) σ Kn' H' := by
  obtain ⟨f1, f2, f3⟩ := s.ow.each _ (List.mem_of_getElem? hj)
  have f4 := Ow.there f3
  rw [ha] at f1 f2 f4
  have jl : j < ow.length := (List.getElem?_eq_some_iff.mp hj).1
  refine ⟨s.e0.trans kk, kh, fun a u h => ?_, fun a h1 h2 => sp a (Ex.nn s.ef h1) (s.sep a h1 h2), s.sl.mono kk, ⟨fun o ho => ?_, ?_⟩⟩
  · have hne : a ≠ p := fun z => by rw [z, f1] at h; cases h
    rw [hq a hne (ne_none_of (s.ef _ _ h))]
    exact s.ef _ _ h
  · obtain ⟨i, hi⟩ := List.getElem?_of_mem ho
    by_cases e : i = j
    · subst e
      rw [List.getElem?_set_self jl] at hi
      cases hi
      rw [hb]
      exact ⟨f1, sp p f4 f2, hp⟩
    · rw [List.getElem?_set_ne (Ne.symm e)] at hi
      obtain ⟨h1, h2, h3⟩ := s.ow.each o (List.mem_of_getElem? hi)
      have h4 := Ow.there h3
      have hne : o.ad ≠ p := fun z => e (ow_at s.ow.nd hi hj (z.trans ha.symm))
      exact ⟨h1, sp _ h4 h2, Ow.ok_mono kk (hq _ hne h4) h3⟩
  · have e : (ow.set j o2).map Ow.ad = ow.map Ow.ad := by
      rw [List.map_set]
      refine List.ext_getElem? fun i => ?_
      by_cases e : j = i
      · subst e
        rw [List.getElem?_set_self (by rw [List.length_map]; exact jl), List.getElem?_map, hj, hb, ← ha]
        rfl
      · rw [List.getElem?_set_ne e]
    rw [e]
    exact s.ow.nd
theorem S.ownG {σ : L2.St} {Kn H : Hp} {o : Ow} (s : S K F Kn0 sl ow σ Kn H) (ha : o.ad = p) (fp : F p = none) (kp : Kn p = none) (no : ∀ o ∈ ow, o.ad ≠ p) (ok : o.ok K Kn H) : S K F Kn0 sl (o :: ow) σ Kn H :=
  ⟨s.e0, s.ek, s.ef, s.sep, s.sl, ⟨fun o ho => by
    rcases List.mem_cons.mp ho with rfl | ho
    · rw [ha]
      exact ⟨fp, kp, ok⟩
    · exact s.ow.each o ho, List.nodup_cons.mpr ⟨fun h => by
      obtain ⟨o, ho, e⟩ := List.mem_map.mp h
      exact no o ho (e.trans ha), s.ow.nd⟩⟩⟩
/-- x = {} -/
theorem sb_dnewK {sl' : Addr → List Sl} (hm : Ky.ho (κ := κ) [] = HO.dK []) (hs : ∀ p, sl.set i (.at p) = sl' p) (k : ∀ p, SN K F Kn0 (sl' p) (oo p (Dc.mk ([] : List (κ × β))) :: ow) D) : SB K F Kn0 sl ow D (tAsg tDNewK (gName i)) := fun σ Kn H s p hp =>
  k p _ Kn _ (hs p ▸ ((s.grow (Gr.newU s.ek hp)).ownG (p := p) (o := oo p (Dc.mk ([] : List (κ × β)))) rfl (fresh_back s.ef hp) (fresh_back s.ek hp) (owned_ne s hp) ⟨_, upd_same, [], hm.symm, .nil⟩).seta i)
theorem sb_dnewT {sl' : Addr → List Sl} (hm : Ky.ho (κ := κ) [] = HO.dT []) (hs : ∀ p, sl.set i (.at p) = sl' p) (k : ∀ p, SN K F Kn0 (sl' p) (oo p (Dc.mk ([] : List (κ × β))) :: ow) D) : SB K F Kn0 sl ow D (tAsg tDNewT (gName i)) := fun σ Kn H s p hp =>
  k p _ Kn _ (hs p ▸ ((s.grow (Gr.newU s.ek hp)).ownG (p := p) (o := oo p (Dc.mk ([] : List (κ × β)))) rfl (fresh_back s.ef hp) (fresh_back s.ek hp) (owned_ne s hp) ⟨_, upd_same, [], hm.symm, .nil⟩).seta i)
/-- d[k] = y -/
theorem sb_dput {y : β} {d d' : Dc κ β} (hi : sl[i]? = some (.at p)) (hj : ow[j]? = some (oo p d)) (h : EV K F Kn0 sl ow te y) (hk : EV K F Kn0 sl ow tk k) (hx : putO d k y = some d') (ho : ow.set j (oo p d') = ow1) (n : SN K F Kn0 sl ow1 D) :
    SB K F Kn0 sl ow D (sDPut (tVar i) tk te) := fun σ Kn H s => h σ Kn H s _ fun v Kn1 H1 g1 r1 => by
  obtain ⟨o, h1, h2⟩ := s.sl.get hi
  refine ⟨.ref p, by rw [h1]; exact congrArg some h2, hk σ Kn1 H1 (s.grow g1) _ fun w Kn2 H2 g2 r2 => ?_⟩
  have s2 := (s.grow g1).grow g2
  obtain ⟨f1, f2, o1, f3, ws, f4, f5⟩ := s2.ow.each _ (List.mem_of_getElem? hj)
  subst f4
  unfold putO at hx
  split at hx
  · case isTrue hl =>
    cases hx
    subst ho
    refine ⟨p, _, rfl, Ky.put r2 s2.ek f3 (by rw [f5.length]; exact lt_line hl), n _ Kn2 _ ?_⟩
    exact s2.writeG hj rfl rfl (Ex.refl _) (upd_in s2.ek f2) (fun q hq _ => upd_ne hq) (fun _ _ h => h) ⟨_, upd_same, _, rfl, DK.put k (Rp.mono g2.kk r1) f5⟩
  · cases hx
/-- k in d -/
theorem ev_dinO {d : Dc κ β} (hi : sl[i]? = some (.at p)) (hj : ow[j]? = some (oo p d)) (hk : EV K F Kn0 sl ow tk k) : EV K F Kn0 sl ow (tDIn tk (tVar i)) (getD d.l k).isSome := fun σ Kn H s Q q => hk σ Kn H s _ fun v Kn1 H1 g1 r1 => by
  have s1 := s.grow g1
  obtain ⟨o, h1, h2⟩ := s1.sl.get hi
  obtain ⟨f1, f2, o1, f3, ws, f4, f5⟩ := s1.ow.each _ (List.mem_of_getElem? hj)
  subst f4
  exact ⟨.ref p, by rw [h1]; exact congrArg some h2, p, _, rfl, Ky.get r1 s1.ek f3, q _ Kn1 H1 g1 (congrArg V.bl (f5.some k))⟩
theorem ev_din {d : Dc κ β} (hd : EV K F Kn0 sl ow td d) (hk : EV K F Kn0 sl ow tk k) : EV K F Kn0 sl ow (tDIn tk td) (getD d.l k).isSome := fun σ Kn H s Q q => hk σ Kn H s _ fun v Kn1 H1 g1 r1 => hd σ Kn1 H1 (s.grow g1) _ fun u Kn2 H2 g2 r2 => by
  obtain ⟨p, o1, e1, e2, ws, f4, f5⟩ := r2
  subst f4
  exact ⟨p, _, e1, Ky.get (Rp.mono g2.kk r1) g2.kh (g2.kh _ _ e2), q _ Kn2 H2 (g1.trans g2) (congrArg V.bl (f5.some k))⟩
theorem ev_dnotinO {d : Dc κ β} (hi : sl[i]? = some (.at p)) (hj : ow[j]? = some (oo p d)) (hk : EV K F Kn0 sl ow tk k) : EV K F Kn0 sl ow (tDNotIn tk (tVar i)) (!(getD d.l k).isSome) := fun σ Kn H s Q q => hk σ Kn H s _ fun v Kn1 H1 g1 r1 => by
  have s1 := s.grow g1
  obtain ⟨o, h1, h2⟩ := s1.sl.get hi
  obtain ⟨f1, f2, o1, f3, ws, f4, f5⟩ := s1.ow.each _ (List.mem_of_getElem? hj)
  subst f4
  exact ⟨.ref p, by rw [h1]; exact congrArg some h2, p, _, rfl, Ky.get r1 s1.ek f3, q _ Kn1 H1 g1 (congrArg (fun b => V.bl (!b)) (f5.some k))⟩
theorem ev_dnotin {d : Dc κ β} (hd : EV K F Kn0 sl ow td d) (hk : EV K F Kn0 sl ow tk k) : EV K F Kn0 sl ow (tDNotIn tk td) (!(getD d.l k).isSome) := fun σ Kn H s Q q => hk σ Kn H s _ fun v Kn1 H1 g1 r1 => hd σ Kn1 H1 (s.grow g1) _ fun u Kn2 H2 g2 r2 => by
  obtain ⟨p, o1, e1, e2, ws, f4, f5⟩ := r2
  subst f4
  exact ⟨p, _, e1, Ky.get (Rp.mono g2.kk r1) g2.kh (g2.kh _ _ e2), q _ Kn2 H2 (g1.trans g2) (congrArg (fun b => V.bl (!b)) (f5.some k))⟩
/-- d[k] -/
theorem ev_dgetO {d : Dc κ β} {y : β} (hi : sl[i]? = some (.at p)) (hj : ow[j]? = some (oo p d)) (hk : EV K F Kn0 sl ow tk k) (hy : getD d.l k = some y) : EV K F Kn0 sl ow (tDGet (tVar i) tk) y := fun σ Kn H s Q q => by
  obtain ⟨o, h1, h2⟩ := s.sl.get hi
  refine ⟨.ref p, by rw [h1]; exact congrArg some h2, hk σ Kn H s _ fun v Kn1 H1 g1 r1 => ?_⟩
  have s1 := s.grow g1
  obtain ⟨f1, f2, o1, f3, ws, f4, f5⟩ := s1.ow.each _ (List.mem_of_getElem? hj)
  subst f4
  rcases f5.get k with ⟨h1, h2⟩ | ⟨y2, w, h1, h2, h3⟩
  · rw [h1] at hy
    cases hy
  · rw [h1] at hy
    cases hy
    exact ⟨p, w, rfl, h2 ▸ Ky.get r1 s1.ek f3, q w Kn1 H1 g1 h3⟩
theorem ev_dget {d : Dc κ β} {y : β} (hd : EV K F Kn0 sl ow td d) (hk : EV K F Kn0 sl ow tk k) (hy : getD d.l k = some y) : EV K F Kn0 sl ow (tDGet td tk) y := fun σ Kn H s Q q => hd σ Kn H s _ fun u Kn1 H1 g1 r1 => hk σ Kn1 H1 (s.grow g1) _ fun v Kn2 H2 g2 r2 => by
  obtain ⟨p, o1, e1, e2, ws, f4, f5⟩ := Rp.mono g2.kk r1
  subst f4
  rcases f5.get k with ⟨h1, h2⟩ | ⟨y2, w, h1, h2, h3⟩
  · rw [h1] at hy
    cases hy
  · rw [h1] at hy
    cases hy
    exact ⟨p, w, e1, h2 ▸ Ky.get r2 g2.kh (g2.kh _ _ e2), q w Kn2 H2 (g1.trans g2) h3⟩
/-- a dict of one's own, lent -/
theorem S.borrowG {σ : L2.St} {Kn H : Hp} {d : Dc κ β} (s : S K F Kn0 sl ow σ Kn H) (hi : sl[i]? = some (.at p)) (hj : ow[j]? = some (oo p d)) : ∃ o, Kn p = none ∧ H p = some o ∧ S K F Kn0 (sl.set i (sv d)) (ow.eraseIdx j) σ (upd Kn p o) H := by
  obtain ⟨o, h1, h2⟩ := s.sl.get hi
  have h2 : o = some (.ref p) := h2
  obtain ⟨f1, f2, ob, f3, f4⟩ := s.ow.each _ (List.mem_of_getElem? hj)
  have s1 := s.sub (List.eraseIdx_sublist ow j)
  have no : ∀ o ∈ ow.eraseIdx j, o.ad ≠ p := fun o hm z => by
    obtain ⟨m, hm'⟩ := List.getElem?_of_mem hm
    rw [List.getElem?_eraseIdx] at hm'
    split at hm'
    · have := ow_at s.ow.nd hm' hj z
      omega
    · have := ow_at s.ow.nd hm' hj z
      omega
  have s2 := s1.know (o := ob) f1 f2 no f3
  have hσ : σ.set i o = σ := by
    refine List.ext_getElem? fun m => ?_
    by_cases e : i = m
    · subst e
      rw [List.getElem?_set_self (List.getElem?_eq_some_iff.mp h1).1, h1]
    · rw [List.getElem?_set_ne e]
  have s3 := s2.set (x := sv d) (o := o) i ⟨.ref p, h2, p, ob, rfl, upd_same, Ob.mono (Ex.new f2) f4⟩
  rw [hσ] at s3
  exact ⟨ob, f2, f3, s3⟩
theorem ev_borG [Fl γ] {z : γ} {d : Dc κ β} (hi : sl[i]? = some (.at p)) (hj : ow[j]? = some (oo p d)) (hs : sl.set i (sv d) = sl') (ho : ow.eraseIdx j = ow1) (h : EV K F Kn0 sl' ow1 te z) : EV K F Kn0 sl ow te z := fun σ Kn H s Q q => by
  obtain ⟨ws, kp, hp, s1⟩ := s.borrowG hi hj
  subst hs
  subst ho
  exact h σ _ H s1 Q fun v Kn' H' g r => q v Kn H' ⟨Ex.refl _, g.hh, s.ek.trans g.hh, fun _ _ h => h⟩ (Fl.iff.mpr (Fl.iff.mp r))
theorem et_borG {tt : TT} {d : Dc κ β} (hi : sl[i]? = some (.at p)) (hj : ow[j]? = some (oo p d)) (hs : sl.set i (sv d) = sl') (ho : ow.eraseIdx j = ow1) (h : ET K F Kn0 sl' ow1 tt b) : ET K F Kn0 sl ow tt b := fun σ Kn H s Q q => by
  obtain ⟨ws, kp, hp, s1⟩ := s.borrowG hi hj
  subst hs
  subst ho
  exact h σ _ H s1 Q fun Kn' H' g => q Kn H' ⟨Ex.refl _, g.hh, s.ek.trans g.hh, fun _ _ h => h⟩
end
section
variable {X : Cx} {o i e value : Expr} {pos pos' tpos : Pos} {td ty tv : TE}
theorem k_dget (hu : X.A.units + 64 < cLine) (ho : PE X o td) (hi : PE X i ty) (hs : NoSl i) : PE X (.Subscript o i pos) (tDGet td ty) := pe_dget (by omega) ho hi hs
theorem k_din (hu : X.A.units + 64 < cLine) (hi : PE X i ty) (ho : PE X o td) : PC X .In i o (tDIn ty td) := pc_din (by omega) hi ho
theorem k_dnotin (hu : X.A.units + 64 < cLine) (hi : PE X i ty) (ho : PE X o td) : PC X .NotIn i o (tDNotIn ty td) := pc_dnotin (by omega) hi ho
theorem k_dput (hu : X.A.units + 64 < cLine) (ho : PE X o td) (hi : PE X i ty) (hv : PE X value tv) (hs : swapsWith value (some (.Subscript o i pos')) pos.line X.env = pure false) : PS X (.Assign [.Subscript o i pos'] value pos) (sDPut td ty tv) := ps_dput (by omega) ho hi hv hs
end
/-! ### a new list out of an operation with effects -/
section
variable {K : Fg} {F Kn0 : Hp} {sl : List Sl} {ow ow1 ow2 : List Ow} {α β γ : Type} [Rp α] [Rp β] [Rp γ] {ta tb : TE} {x : α} {y : β}
theorem enm_op {r : R2} {zs : List γ} (ha : EM K F Kn0 sl ow ta ow1 x) (hb : EM K F Kn0 sl ow1 tb ow2 y) (hr : R2L K r x y zs) : ENM K F Kn0 sl ow (tOp r ta tb) ow2 zs := fun σ Kn H s Q q =>
  ha σ Kn H s _ fun v Kn1 H1 e1 s1 r1 => hb σ Kn1 H1 s1 _ fun w Kn2 H2 e2 s2 r2 => hr Kn2 H2 v w s2.ek (Rp.mono e2 r1) r2 Q fun p ws Kn' H' g' hp kp hw r' =>
    q p ws Kn' H' ((e1.trans e2).trans g'.kk) (s2.grow g') (fresh_back s2.ef hp) kp (owned_ne s2 hp) hw r'
end
/-! ### a display -/
section
variable {K : Fg} {F Kn0 : Hp} {sl : List Sl} {ow : List Ow} {κ β : Type} [Rp κ] [K1 κ] [DecidableEq κ] [Rp β] {tk tv : TE} {k : κ} {y : β} {trs : List (TE × TE)} {kvs : List (κ × β)}
def EPs (K : Fg) (F Kn0 : Hp) (sl : List Sl) (ow : List Ow) (trs : List (TE × TE)) (kvs : List (κ × β)) : Prop := ∀ σ Kn H, S K F Kn0 sl ow σ Kn H → ∀ Q : List (V × V) → Hp → Prop,
  (∀ ws Kn' H', Gr Kn H Kn' H' → DK K Kn' ws kvs → Q (ws.map fun w => (kV w.1, w.2)) H') → tPairs trs σ H Q
theorem eps_nil : EPs K F Kn0 sl ow [] ([] : List (κ × β)) := fun σ Kn H s Q q => q [] Kn H (Gr.refl s.ek) .nil
theorem eps_cons (hk : EV K F Kn0 sl ow tk k) (hv : EV K F Kn0 sl ow tv y) (hr : EPs K F Kn0 sl ow trs kvs) : EPs K F Kn0 sl ow ((tk, tv) :: trs) ((k, y) :: kvs) := fun σ Kn H s Q q =>
  hk σ Kn H s _ fun v Kn1 H1 g1 r1 => hv σ Kn1 H1 (s.grow g1) _ fun w Kn2 H2 g2 r2 => hr σ Kn2 H2 ((s.grow g1).grow g2) _ fun ws Kn3 H3 g3 r3 => by
    have e := K1.iff r1
    subst e
    exact q ((K1.key k, w) :: ws) Kn3 H3 ((g1.trans g2).trans g3) (.cons ⟨rfl, Rp.mono g3.kk r2⟩ r3)
theorem DK.merge {K : Fg} {H : Hp} : ∀ {ms : List (Key × V)} {more : List (κ × β)} {ws : List (Key × V)} {kvs : List (κ × β)}, DK K H ms more → DK K H ws kvs → DK K H (mergeK ws ms) (mergeD kvs more) := by
  intro ms more ws kvs h
  unfold DK at h
  induction h generalizing ws kvs with
  | nil => exact fun h => h
  | @cons w kv ms more h t ih =>
    intro q
    refine ih ?_
    show DK K H (putK ws w.1 w.2) (putD kvs kv.1 kv.2)
    rw [h.1]
    exact DK.put kv.1 h.2 q
/-- {..}[k] -/
theorem ev_pick (hp : EPs K F Kn0 sl ow trs kvs) (hk : EV K F Kn0 sl ow tk k) (hl : kvs.length ≤ 15) (hy : getD (mergeD [] kvs) k = some y) : EV K F Kn0 sl ow (tDGet (tDisp trs) tk) y := fun σ Kn H s Q q p hp0 => by
  have g0 : Gr Kn H Kn (upd H p (.dK [])) := Gr.newU s.ek hp0
  refine hp σ Kn _ (s.grow g0) _ fun ws Kn1 H1 g1 r1 => ?_
  have e1 : H1 p = some (.dK []) := g1.hh _ _ upd_same
  have kp : Kn1 p = none := g1.sp p (ne_none_of upd_same) (fresh_back s.ek hp0)
  have g : Gr Kn H Kn1 (upd H1 p (.dK (mergeK [] ws))) := ⟨g1.kk, fun a u h => by
    have hne : a ≠ p := fun z => by rw [z, hp0] at h; cases h
    rw [upd_ne hne]
    exact g1.hh _ _ (by rw [upd_ne hne]; exact h), upd_in g1.kh kp, fun a h1 h2 => g1.sp a (Ex.nn g0.hh h1) h2⟩
  refine ⟨e1, ws, rfl, by rw [r1.length]; exact hl, hk σ Kn1 _ (s.grow g) _ fun v Kn2 H2 g2 r2 => ?_⟩
  have r3 : DK K Kn1 (mergeK [] ws) (mergeD [] kvs) := DK.merge r1 .nil
  rcases r3.get k with ⟨h1, h2⟩ | ⟨y2, w, h1, h2, h3⟩
  · rw [h1] at hy
    cases hy
  · rw [h1] at hy
    cases hy
    exact ⟨p, w, rfl, h2 ▸ Ky.get r2 g2.kh (g2.hh _ _ upd_same), q w Kn2 H2 (g.trans g2) (Rp.mono g2.kk h3)⟩
end
end Wk
/-! Wmin: min, max of a list of whole numbers. -/
namespace Wk
open PySem PySem.Spec L2 Evl
def minG : Int → List Int → Int
  | m, [] => m
  | m, x :: xs => minG (min m x) xs
def maxG : Int → List Int → Int
  | m, [] => m
  | m, x :: xs => maxG (max m x) xs
def minL : List Int → Option Int
  | [] => none
  | x :: xs => some (minG x xs)
def maxL : List Int → Option Int
  | [] => none
  | x :: xs => some (maxG x xs)
theorem minG_spec : ∀ (xs : List Int) (m : Int), (minG m xs = m ∨ minG m xs ∈ xs) ∧ minG m xs ≤ m ∧ ∀ x ∈ xs, minG m xs ≤ x
  | [], m => ⟨.inl rfl, Int.le_refl _, (fun _ h => nomatch h)⟩
  | y :: ys, m => by
    obtain ⟨h1, h2, h3⟩ := minG_spec ys (min m y)
    show (minG (min m y) ys = m ∨ minG (min m y) ys ∈ y :: ys) ∧ minG (min m y) ys ≤ m ∧ ∀ x ∈ y :: ys, minG (min m y) ys ≤ x
    refine ⟨?_, by omega, fun x hx => ?_⟩
    · rcases h1 with h1 | h1
      · by_cases e : m ≤ y
        · exact .inl (h1.trans (by omega))
        · exact .inr (by rw [h1, show min m y = y by omega]; exact List.mem_cons_self)
      · exact .inr (List.mem_cons_of_mem _ h1)
    · rcases List.mem_cons.mp hx with rfl | hx
      · omega
      · exact h3 x hx
theorem maxG_spec : ∀ (xs : List Int) (m : Int), (maxG m xs = m ∨ maxG m xs ∈ xs) ∧ m ≤ maxG m xs ∧ ∀ x ∈ xs, x ≤ maxG m xs
  | [], m => ⟨.inl rfl, Int.le_refl _, (fun _ h => nomatch h)⟩
  | y :: ys, m => by
    obtain ⟨h1, h2, h3⟩ := maxG_spec ys (max m y)
    show (maxG (max m y) ys = m ∨ maxG (max m y) ys ∈ y :: ys) ∧ m ≤ maxG (max m y) ys ∧ ∀ x ∈ y :: ys, x ≤ maxG (max m y) ys
    refine ⟨?_, by omega, fun x hx => ?_⟩
    · rcases h1 with h1 | h1
      · by_cases e : y ≤ m
        · exact .inl (h1.trans (by omega))
        · exact .inr (by rw [h1, show max m y = y by omega]; exact List.mem_cons_self)
      · exact .inr (List.mem_cons_of_mem _ h1)
    · rcases List.mem_cons.mp hx with rfl | hx
      · omega
      · exact h3 x hx
theorem minL_spec {xs : List Int} {m : Int} (h : minL xs = some m) : m ∈ xs ∧ ∀ x ∈ xs, m ≤ x := by
  match xs, h with
  | y :: ys, h =>
    cases h
    obtain ⟨h1, h2, h3⟩ := minG_spec ys y
    refine ⟨?_, fun x hx => ?_⟩
    · rcases h1 with h1 | h1
      · rw [h1]
        exact List.mem_cons_self
      · exact List.mem_cons_of_mem _ h1
    · rcases List.mem_cons.mp hx with rfl | hx
      · exact h2
      · exact h3 x hx
theorem maxL_spec {xs : List Int} {m : Int} (h : maxL xs = some m) : m ∈ xs ∧ ∀ x ∈ xs, x ≤ m := by
  match xs, h with
  | y :: ys, h =>
    cases h
    obtain ⟨h1, h2, h3⟩ := maxG_spec ys y
    refine ⟨?_, fun x hx => ?_⟩
    · rcases h1 with h1 | h1
      · rw [h1]
        exact List.mem_cons_self
      · exact List.mem_cons_of_mem _ h1
    · rcases List.mem_cons.mp hx with rfl | hx
      · exact h2
      · exact h3 x hx
theorem rc_minL {K : Fg} {xs : List Int} {m : Int} (hm : minL xs = some m) : RCV K (rMin K) (xs, ()) m := fun Kn H vs ek h Q q => by
  obtain ⟨v, rfl, p, ws, rfl, h1, h2⟩ := one_arg h
  have e := paired_fl h2
  subst e
  obtain ⟨s1, s2⟩ := minL_spec hm
  refine ⟨p, xs, rfl, sq_of (ek _ _ h1), List.length_pos_of_mem s1, fun k hk hle => ?_⟩
  have e : k = m := by
    have := s2 k hk
    have := hle m s1
    omega
  subst e
  exact q.fl ek
theorem rc_maxL {K : Fg} {xs : List Int} {m : Int} (hm : maxL xs = some m) : RCV K (rMax K) (xs, ()) m := fun Kn H vs ek h Q q => by
  obtain ⟨v, rfl, p, ws, rfl, h1, h2⟩ := one_arg h
  have e := paired_fl h2
  subst e
  obtain ⟨s1, s2⟩ := maxL_spec hm
  refine ⟨p, xs, rfl, sq_of (ek _ _ h1), List.length_pos_of_mem s1, fun k hk hle => ?_⟩
  have e : k = m := by
    have := s2 k hk
    have := hle m s1
    omega
  subst e
  exact q.fl ek
section
variable {X : Cx} {K : Fg}
theorem k_maxL (hc : X.calm = true := by rfl) (h : X.K = K := by rfl) : CallR X (.builtin "max") (rMax K) := h ▸ cr_max hc
theorem k_minL (hc : X.calm = true := by rfl) (h : X.K = K := by rfl) : CallR X (.builtin "min") (rMin K) := h ▸ cr_min hc
end
end Wk
/-! lists of one's own, lent where a tuple of plain values comes -/
namespace Wk
open PySem PySem.Spec L2 Evl
def del (Kn : Hp) (p : Addr) : Hp := fun a => if a = p then none else Kn a
theorem del_ne {Kn : Hp} {p a : Addr} (h : a ≠ p) : del Kn p a = Kn a := if_neg h
theorem del_same {Kn : Hp} {p : Addr} : del Kn p p = none := if_pos rfl
class Nl (α : Type) [Rp α] where
  out : ∀ {K : Fg} {Kn : Hp} {p : Addr} {ws : List V} {v : V} {x : α}, Kn p = some (.lst ws) → rep K Kn v x → rep K (del Kn p) v x
class NlT (τ : Type) [Tp τ] where
  out : ∀ {K : Fg} {Kn : Hp} {p : Addr} {ws vs : List V} {t : τ}, Kn p = some (.lst ws) → rept K Kn vs t → rept K (del Kn p) vs t
instance : Nl Int := ⟨fun _ h => h⟩
instance : Nl Bool := ⟨fun _ h => h⟩
instance : Nl Str := ⟨fun _ h => h⟩
instance : NlT Unit := ⟨fun _ h => h⟩
instance {α τ : Type} [Rp α] [Tp τ] [Nl α] [NlT τ] : NlT (α × τ) := ⟨fun e h => by
  obtain ⟨v, r, h1, h2, h3⟩ := h
  exact ⟨v, r, h1, Nl.out e h2, NlT.out e h3⟩⟩
instance {α τ : Type} [Rp α] [Tp τ] [NlT (α × τ)] : Nl (α × τ) := ⟨fun {K Kn p ws v x} e h => by
  obtain ⟨q, vs, h1, h2, h3⟩ := h
  have hne : q ≠ p := fun z => by
    rw [z, e] at h2
    cases h2
  exact ⟨q, vs, h1, (del_ne hne).trans h2, NlT.out (τ := α × τ) e h3⟩⟩
theorem ev_borT {K : Fg} {F Kn0 : Hp} {sl sl' : List Sl} {ow ow1 : List Ow} {α γ : Type} [Rp α] [Rp γ] {te : TE} {i j : Nat} {p : Addr} [Nl γ] {z : γ} {xs : List α} (hi : sl[i]? = some (.at p)) (hj : ow[j]? = some (ol p xs)) (hs : sl.set i (sv xs) = sl') (ho : ow.eraseIdx j = ow1) (h : EV K F Kn0 sl' ow1 te z) : EV K F Kn0 sl ow te z := fun σ Kn H s Q q => by
  obtain ⟨ws, kp, hp, s1⟩ := s.borrow hi hj
  subst hs
  subst ho
  refine h σ _ H s1 Q fun v Kn' H' g r => q v (del Kn' p) H' ⟨fun a u h => ?_, g.hh, fun a u h => ?_, fun a h1 h2 => ?_⟩ (Nl.out (g.kk _ _ upd_same) r)
  · have hne : a ≠ p := fun z => by
      rw [z, kp] at h
      cases h
    rw [del_ne hne]
    exact g.kk _ _ (by rw [upd_ne hne]; exact h)
  · by_cases e : a = p
    · subst e
      rw [del_same] at h
      cases h
    · rw [del_ne e] at h
      exact g.kh _ _ h
  · by_cases e : a = p
    · rw [e]
      exact del_same
    · rw [del_ne e]
      exact g.sp a h1 (by rw [upd_ne e]; exact h2)
end Wk
/-! Wmix: slices of tuples and texts, extend, a list of unlike things -/
namespace Wk
open PySem PySem.Spec L2 Evl
/-- the places from a on, b of them -/
inductive Cu : {τ : Type} → [Tp τ] → Nat → Nat → {υ : Type} → [Tp υ] → τ → υ → Prop
  | nil {τ : Type} [Tp τ] (t : τ) : Cu 0 0 t ()
  | take {α τ υ : Type} [Rp α] [Tp τ] [Tp υ] {b : Nat} (x : α) {t : τ} {u : υ} : Cu 0 b t u → Cu 0 (b + 1) (x, t) (x, u)
  | drop {α τ υ : Type} [Rp α] [Tp τ] [Tp υ] {a b : Nat} (x : α) {t : τ} {u : υ} : Cu a b t u → Cu (a + 1) b (x, t) u
theorem Cu.get {K : Fg} {H : Hp} {τ : Type} [i : Tp τ] {a b : Nat} {υ : Type} [j : Tp υ] {t : τ} {u : υ} (h : Cu a b t u) : ∀ {vs : List V}, rept K H vs t → rept K H ((vs.drop a).take b) u := by
  induction h with
  | nil t => exact fun _ => rfl
  | take x _ ih =>
    intro vs r
    obtain ⟨v, r, rfl, h1, h2⟩ := r
    exact ⟨v, _, rfl, h1, ih h2⟩
  | drop x _ ih =>
    intro vs r
    obtain ⟨v, r, rfl, h1, h2⟩ := r
    exact ih h2
structure Hl (τ : Type) where
  t : τ
  deriving DecidableEq
instance {τ : Type} [Tp τ] : Rp (Hl τ) where
  rep K H v x := ∃ p vs, v = .ref p ∧ H p = some (.lst vs) ∧ rept K H vs x.t
  mono e h := by
    obtain ⟨p, vs, h1, h2, h3⟩ := h
    exact ⟨p, vs, h1, e _ _ h2, Tp.mono e h3⟩
instance {τ : Type} [Tp τ] [Pq τ] : Pd (Hl τ) where
  toD x := .list (Pq.toDs x.t)
  dp := Pq.dp τ + 1
  isD h := by
    obtain ⟨p, vs, rfl, h1, h2⟩ := h
    exact .lst (sq_of h1) (Pq.isD h2)
  dep a := by
    simp only [PyData.depth]
    exact Nat.succ_le_succ (Pq.dep a.t)
  eqd a b := by
    simp only [PyData.eqv]
    rw [Pq.eqd]
    cases a
    cases b
    simp
def cutSO (z : Str) (lo hi : Option Int) : Option Str := if z.length ≤ 1000000 then some (cutS z lo hi) else none
section
variable {K : Fg} {F Kn0 : Hp} {sl sl' : List Sl} {ow ow1 ow2 : List Ow} {α β γ τ υ : Type} [Rp α] [Rp β] [Rp γ] [Tp τ] [Tp υ] {ta : TA} {tb te : TE} {D : Ends} {i j : Nat} {p : Addr}
theorem ev_tsl {t : α × τ} {u : β × υ} {tl th : TO} {lo hi : Option Int} {a b : Nat} (h : EV K F Kn0 sl ow te t) (hl : EO K F Kn0 sl ow tl lo) (hh : EO K F Kn0 sl ow th hi)
    (ha : HT.sIx (Tp.n (α × τ)) 0 lo = a) (hb : HT.sIx (Tp.n (α × τ)) (Tp.n (α × τ)) hi - a = b) (hw : ¬ (HT.sIx (Tp.n (α × τ)) 0 lo = 0 ∧ HT.sIx (Tp.n (α × τ)) (Tp.n (α × τ)) hi = Tp.n (α × τ))) (hc : Cu a b t u) :
    EV K F Kn0 sl ow (tSl (rSlT K) te tl th) u := fun σ Kn H s Q q =>
  h σ Kn H s _ fun v Kn1 H1 g1 r1 => hl σ Kn1 H1 (s.grow g1) _ fun Kn2 H2 g2 => hh σ Kn2 H2 ((s.grow g1).grow g2) _ fun Kn3 H3 g3 => by
    obtain ⟨p, ws, rfl, h3, h4⟩ := r1
    have g : Gr Kn H Kn3 H3 := (g1.trans g2).trans g3
    have e13 : Ex Kn1 Kn3 := g2.kk.trans g3.kk
    have el := Tp.len h4
    refine ⟨p, ws, rfl, st_of ((e13.trans g3.kh) _ _ h3), by rw [el]; exact hw, fun l hl => ?_⟩
    have gn := Gr.new (o := .tup (cutV ws lo hi)) g3.kh hl
    refine q _ _ _ (g.trans gn) ⟨l, _, rfl, upd_same, ?_⟩
    have := hc.get (Tp.mono (e13.trans gn.kk) h4)
    have e : cutV ws lo hi = (ws.drop a).take b := by
      unfold cutV
      rw [el, ha, hb]
    rw [e] at this ⊢
    exact this
theorem ev_slS {z r : Str} {tl th : TO} {lo hi : Option Int} (h : EV K F Kn0 sl ow te z) (hl : EO K F Kn0 sl ow tl lo) (hh : EO K F Kn0 sl ow th hi) (hz : cutSO z lo hi = some r) : EV K F Kn0 sl ow (tSl rSlS te tl th) r := fun σ Kn H s Q q =>
  h σ Kn H s _ fun v Kn1 H1 g1 r1 => hl σ Kn1 H1 (s.grow g1) _ fun Kn2 H2 g2 => hh σ Kn2 H2 ((s.grow g1).grow g2) _ fun Kn3 H3 g3 => by
    cases r1
    unfold cutSO at hz
    split at hz
    · rename_i hq
      cases hz
      exact ⟨z, rfl, le_line hq, q _ Kn3 H3 ((g1.trans g2).trans g3) rfl⟩
    · cases hz
theorem ev_hl {t : τ} (h : EA K F Kn0 sl ow ta t) (hz : Tp.n τ ≤ 1000000 := by decide) : EV K F Kn0 sl ow (tLst ta) (Hl.mk t) := fun σ Kn H s Q q =>
  h σ Kn H s _ fun vs Kn1 H1 g1 r1 => ⟨by rw [Tp.len r1]; exact le_line hz, fun p hp =>
    q _ (upd Kn1 p (.lst vs)) _ (g1.trans (Gr.new g1.kh hp)) ⟨p, vs, rfl, upd_same, Tp.mono (Gr.new g1.kh hp).kk r1⟩⟩
theorem r2_hix {t : Hl τ} {n : Nat} {z : γ} (h : At n t.t z) : R2V K (rIxL K) t (n : Int) z := fun Kn H v w ek h1 h2 Q q => by
  obtain ⟨p, ws, rfl, h3, h4⟩ := h1
  cases h2
  obtain ⟨u, e, r⟩ := h.get h4
  exact ⟨p, ws, n, u, rfl, rfl, sq_of (ek _ _ h3), atI_nat e, q.at ek r⟩
theorem k_slt {X : Cx} (h : X.K = K := by rfl) : SlR X (rSlT K) := h ▸ sl_tup
/-- xs.extend(ys), xs one's own -/
theorem sb_extO {xs ys zs : List α} (hi : sl[i]? = some (.at p)) (hj : ow[j]? = some (ol p xs)) (h : EV K F Kn0 sl ow te ys) (hz : catO xs ys = some zs) (ho : ow.set j (ol p zs) = ow1) (k : SN K F Kn0 sl ow1 D) :
    SB K F Kn0 sl ow D (tDrop (tBM K "list" rExtend (tVar i) (tCons te tNil))) := fun σ Kn H s => by
  obtain ⟨o, h1, h2⟩ := s.sl.get hi
  obtain ⟨f1, f2, ws, f3, f4⟩ := s.ow.each _ (List.mem_of_getElem? hj)
  unfold catO at hz
  split at hz
  case isFalse => cases hz
  rename_i hq
  cases hz
  refine ⟨.ref p, by rw [h1]; exact congrArg some h2, Or.inl ⟨rfl, ws, sq_of f3⟩, h σ Kn H s _ fun v Kn1 H1 g1 r1 => ?_⟩
  obtain ⟨b, vs, rfl, h3, h4⟩ := r1
  refine ⟨p, b, ws, vs, rfl, rfl, g1.hh _ _ f3, g1.kh _ _ h3, by rw [paired_len f4, paired_len h4]; exact le_line hq, k _ Kn1 _ ?_⟩
  have kp1 : Kn1 p = none := g1.sp p (ne_none_of f3) f2
  subst ho
  exact (s.grow g1).write hj (Ex.refl _) (upd_in g1.kh kp1) (fun q hq _ => upd_ne hq) (fun _ _ h => h) upd_same (paired_append (paired_mono g1.kk f4) h4)
end
end Wk
/-! Wopt: None or something; is; a tuple of alike things walked; a tuple of two lists of one's own -/
namespace Wk
open PySem PySem.Spec L2 Evl
/-- never None -/
class NN (α : Type) [Rp α] : Prop where
  nn : ∀ {K : Fg} {H : Hp} {v : V} {a : α}, rep K H v a → v ≠ .non
instance : NN Int := ⟨fun h z => by rw [show _ = V.int _ from h] at z; cases z⟩
instance : NN Bool := ⟨fun h z => by rw [show _ = V.bl _ from h] at z; cases z⟩
instance : NN Str := ⟨fun h z => by rw [show _ = V.str _ from h] at z; cases z⟩
instance {α : Type} [Rp α] : NN (List α) := ⟨fun h z => by
  obtain ⟨p, vs, rfl, _⟩ := h
  cases z⟩
instance {α τ : Type} [Rp α] [Tp τ] : NN (α × τ) := ⟨fun h z => by
  obtain ⟨p, vs, rfl, _⟩ := h
  cases z⟩
inductive Ho {α : Type} [Rp α] : {τ : Type} → [Tp τ] → τ → List α → Prop
  | nil : Ho () []
  | cons {τ : Type} [Tp τ] (x : α) {t : τ} {xs : List α} : Ho t xs → Ho (x, t) (x :: xs)
theorem Ho.get {α : Type} [Rp α] {K : Fg} {H : Hp} {τ : Type} [i : Tp τ] {t : τ} {xs : List α} (h : Ho t xs) : ∀ {vs : List V}, rept K H vs t → Paired (rep K H) vs xs := by
  induction h with
  | nil => intro vs r; cases r; exact .nil
  | cons x _ ih =>
    intro vs r
    obtain ⟨v, r, rfl, h1, h2⟩ := r
    exact .cons h1 (ih h2)
structure P2 where
  a : Addr
  b : Addr
instance : Ob P2 := { ob := fun _ _ o x => o = .tup [.ref x.a, .ref x.b], mono := fun _ h => h }
def appP {α : Type} (c : Bool) (xs ys : List α) (x : α) : Option (List α × List α) := if xs.length < 1000000 ∧ ys.length < 1000000 then some (if c = true then (xs, ys ++ [x]) else (xs ++ [x], ys)) else none
section
variable {K : Fg} {F Kn0 : Hp} {sl sl' : List Sl} {ow ow1 ow2 : List Ow} {α β γ τ : Type} [Rp α] [Rp β] [Rp γ] [Tp τ] {ta tb te tn : TE} {D : Ends} {i j k1 k2 : Nat} {p pt p1 p2 : Addr}
theorem ev_some [NN α] {x : α} (h : EV K F Kn0 sl ow te x) : EV K F Kn0 sl ow te (some x) := fun σ Kn H s Q q => h σ Kn H s Q fun v Kn' H' g r => q v Kn' H' g ⟨NN.nn r, r⟩
theorem ev_unopt {o : Option α} {x : α} (h : EV K F Kn0 sl ow te o) (e : o = some x) : EV K F Kn0 sl ow te x := fun σ Kn H s Q q => h σ Kn H s Q fun v Kn' H' g r => by
  subst e
  exact q v Kn' H' g r.2
theorem r2_isN {o : Option α} : R2V K (fun x y H Q => y = .non ∧ Q (.bl (decide (x = .non))) H) o Nn.nn o.isNone := fun Kn H v w ek h1 h2 Q q => by
  cases h2
  refine ⟨rfl, ?_⟩
  cases o with
  | none =>
    cases h1
    exact q.fl ek
  | some x =>
    rw [decide_eq_false h1.1]
    exact q.fl ek
theorem r2_notN {o : Option α} : R2V K (fun x y H Q => y = .non ∧ Q (.bl (!decide (x = .non))) H) o Nn.nn o.isSome := fun Kn H v w ek h1 h2 Q q => by
  cases h2
  refine ⟨rfl, ?_⟩
  cases o with
  | none =>
    cases h1
    exact q.fl ek
  | some x =>
    rw [decide_eq_false h1.1]
    exact q.fl ek
theorem r2_isB {a b : Bool} : R2V K L2.rIsB a b (decide (a = b)) := fun Kn H v w ek h1 h2 Q q => by
  cases h1
  cases h2
  exact ⟨a, b, rfl, rfl, q.fl ek⟩
theorem r2_notB {a b : Bool} : R2V K L2.rNotB a b (!decide (a = b)) := fun Kn H v w ek h1 h2 Q q => by
  cases h1
  cases h2
  exact ⟨a, b, rfl, rfl, q.fl ek⟩
theorem ev_hom {t : β × τ} {xs : List α} (h : EV K F Kn0 sl ow te t) (ho : Ho t xs) : EV K F Kn0 sl ow te (Tu.mk xs) := fun σ Kn H s Q q => h σ Kn H s Q fun v Kn' H' g r => by
  obtain ⟨p, vs, rfl, h1, h2⟩ := r
  exact q _ Kn' H' g ⟨p, vs, rfl, h1, ho.get h2⟩
/-- an object of one's own becomes known, and is no more named -/
theorem S.lend {σ : L2.St} {Kn H : Hp} {o1 : Ow} {ob : HO} (s : S K F Kn0 sl ow σ Kn H) (hj : ow[j]? = some o1) (hp : H o1.ad = some ob) : S K F Kn0 sl (ow.eraseIdx j) σ (upd Kn o1.ad ob) H := by
  obtain ⟨f1, f2, f3⟩ := s.ow.each _ (List.mem_of_getElem? hj)
  have s1 := s.sub (List.eraseIdx_sublist ow j)
  refine s1.know f1 f2 (fun o hm z => ?_) hp
  obtain ⟨m, hm'⟩ := List.getElem?_of_mem hm
  rw [List.getElem?_eraseIdx] at hm'
  split at hm'
  · have := ow_at s.ow.nd hm' hj z
    omega
  · have := ow_at s.ow.nd hm' hj z
    omega
theorem S.borrowP {σ : L2.St} {Kn H : Hp} {xs ys : List α} (s : S K F Kn0 sl ow σ Kn H) (hi : sl[i]? = some (.at pt)) (hj : ow[j]? = some (oo pt (P2.mk p1 p2))) (h1 : (ow.eraseIdx j)[k1]? = some (ol p1 xs)) (h2 : ((ow.eraseIdx j).eraseIdx k1)[k2]? = some (ol p2 ys)) :
    ∃ Kn', S K F Kn0 (sl.set i (sv ((xs, ys, ()) : List α × List α × Unit))) (((ow.eraseIdx j).eraseIdx k1).eraseIdx k2) σ Kn' H := by
  obtain ⟨o, q1, q2⟩ := s.sl.get hi
  have q2 : o = some (.ref pt) := q2
  obtain ⟨_, a2, ob, a3, a4⟩ := s.ow.each _ (List.mem_of_getElem? hj)
  have a4 : ob = .tup [.ref p1, .ref p2] := a4
  subst a4
  have s1 := s.lend hj a3
  obtain ⟨_, b2, w1, b3, b4⟩ := s1.ow.each _ (List.mem_of_getElem? h1)
  have s2 := s1.lend h1 b3
  obtain ⟨_, c2, w2, c3, c4⟩ := s2.ow.each _ (List.mem_of_getElem? h2)
  have s3 := s2.lend h2 c3
  have x2 : Ex (upd Kn pt (.tup [.ref p1, .ref p2])) (upd (upd Kn pt (.tup [.ref p1, .ref p2])) p1 (.lst w1)) := Ex.new b2
  have x3 : Ex (upd (upd Kn pt (.tup [.ref p1, .ref p2])) p1 (.lst w1)) (upd (upd (upd Kn pt (.tup [.ref p1, .ref p2])) p1 (.lst w1)) p2 (.lst w2)) := Ex.new c2
  have hσ : σ.set i o = σ := by
    refine List.ext_getElem? fun m => ?_
    by_cases e : i = m
    · subst e
      rw [List.getElem?_set_self (List.getElem?_eq_some_iff.mp q1).1, q1]
    · rw [List.getElem?_set_ne e]
  have s4 := s3.set (x := sv ((xs, ys, ()) : List α × List α × Unit)) (o := o) i ⟨.ref pt, q2, pt, _, rfl, (x2.trans x3) _ _ upd_same, .ref p1, _, rfl, ⟨p1, w1, rfl, x3 _ _ upd_same, paired_mono (x2.trans x3) b4⟩, .ref p2, _, rfl, ⟨p2, w2, rfl, upd_same, paired_mono x3 c4⟩, rfl⟩
  rw [hσ] at s4
  exact ⟨_, s4⟩
theorem ev_borP [Fl γ] {z : γ} {xs ys : List α} (hi : sl[i]? = some (.at pt)) (hj : ow[j]? = some (oo pt (P2.mk p1 p2))) (h1 : (ow.eraseIdx j)[k1]? = some (ol p1 xs)) (h2 : ((ow.eraseIdx j).eraseIdx k1)[k2]? = some (ol p2 ys)) (hs : sl.set i (sv ((xs, ys, ()) : List α × List α × Unit)) = sl')
    (ho : ((ow.eraseIdx j).eraseIdx k1).eraseIdx k2 = ow1) (h : EV K F Kn0 sl' ow1 te z) : EV K F Kn0 sl ow te z := fun σ Kn H s Q q => by
  obtain ⟨Kn', s1⟩ := s.borrowP hi hj h1 h2
  subst hs
  subst ho
  exact h σ _ H s1 Q fun v Kn' H' g r => q v Kn H' ⟨Ex.refl _, g.hh, s.ek.trans g.hh, fun _ _ h => h⟩ (Fl.iff.mpr (Fl.iff.mp r))
/-- a = (xs, ys), both new -/
theorem sb_asgPair {xs ys : List α} {sl' : Addr → List Sl} (hs : ∀ p, sl.set i (.at p) = sl' p) (ha : EN K F Kn0 sl ow ta xs) (hb : EN K F Kn0 sl ow tb ys) (k : ∀ pt p1 p2, SN K F Kn0 (sl' pt) (oo pt (P2.mk p1 p2) :: ol p1 xs :: ol p2 ys :: ow) D) :
    SB K F Kn0 sl ow D (tAsg (tTup (tCons ta (tCons tb tNil))) (gName i)) := fun σ Kn H s =>
  ha σ Kn H s _ fun p1 w1 Kn1 H1 g1 hp1 kp1 hw1 r1 => hb σ Kn1 H1 (s.grow g1) _ fun p2 w2 Kn2 H2 g2 hp2 kp2 hw2 r2 => by
    have g12 := g1.trans g2
    have h12 : H2 p1 = some (.lst w1) := g2.hh _ _ hw1
    have k12 : Kn2 p1 = none := g2.sp p1 (ne_none_of hw1) kp1
    have n12 : p1 ≠ p2 := fun z => by rw [← z, hw1] at hp2; cases hp2
    refine ⟨by show ([V.ref p1, V.ref p2] : List V).length ≤ sizeLine; exact le_line (Nat.le_of_ble_eq_true rfl), fun pt hp => ?_⟩
    have g3 := g12.trans (Gr.newU (o := .tup [V.ref p1, V.ref p2]) g12.kh hp)
    have n1 : p1 ≠ pt := fun z => by rw [← z, h12] at hp; cases hp
    have n2 : p2 ≠ pt := fun z => by rw [← z, hw2] at hp; cases hp
    have s3 := s.grow g3
    have u1 : upd H2 pt (.tup [V.ref p1, V.ref p2]) p1 = some (.lst w1) := by rw [upd_ne n1]; exact h12
    have u2 : upd H2 pt (.tup [V.ref p1, V.ref p2]) p2 = some (.lst w2) := by rw [upd_ne n2]; exact hw2
    have o2 := s3.own (p := p2) (fresh_back s.ef (fresh_back g1.hh hp2)) kp2 (owned_ne s (fresh_back g1.hh hp2)) u2 r2
    have o1 := o2.own (p := p1) (fresh_back s.ef hp1) k12 (fun o ho z => by
      rcases List.mem_cons.mp ho with rfl | ho
      · exact n12 z.symm
      · exact owned_ne s hp1 o ho z) u1 (paired_mono g2.kk r1)
    have hpH : H pt = none := fresh_back g12.hh hp
    have o0 := o1.ownG (p := pt) (o := oo pt (P2.mk p1 p2)) rfl (fresh_back s.ef hpH) (fresh_back g12.kh hp) (fun o ho z => by
      rcases List.mem_cons.mp ho with rfl | ho
      · exact n1 z
      · rcases List.mem_cons.mp ho with rfl | ho
        · exact n2 z
        · exact owned_ne s hpH o ho z) ⟨_, upd_same, rfl⟩
    exact k pt p1 p2 _ Kn2 _ (hs pt ▸ o0.seta (p := pt) i)
theorem set_ow {o : Ow} (h : ow[j]? = some o) : ow.set j o = ow := by
  refine List.ext_getElem? fun m => ?_
  by_cases e : j = m
  · subst e
    rw [List.getElem?_set_self (List.getElem?_eq_some_iff.mp h).1, h]
  · rw [List.getElem?_set_ne e]
/-- a[int(c)].append(x) -/
theorem sb_appP {xs ys xs' ys' : List α} {x : α} {c : Bool} (hi : sl[i]? = some (.at pt)) (hj : ow[j]? = some (oo pt (P2.mk p1 p2))) (h1 : ow[k1]? = some (ol p1 xs)) (h2 : ow[k2]? = some (ol p2 ys)) (hn : EV K F Kn0 sl ow tn (if c = true then (1 : Int) else 0)) (h : EV K F Kn0 sl ow te x) (hx : appP c xs ys x = some (xs', ys'))
    (ho : (ow.set k1 (ol p1 xs')).set k2 (ol p2 ys') = ow1) (hk : k1 ≠ k2) (k : SN K F Kn0 sl ow1 D) : SB K F Kn0 sl ow D (tDrop (tBM K "list" rAppend (tOp (rIxT K) (tVar i) tn) (tCons te tNil))) := fun σ Kn H s => by
  obtain ⟨o, q1, q2⟩ := s.sl.get hi
  refine ⟨.ref pt, by rw [q1]; exact congrArg some q2, hn σ Kn H s _ fun v Kn1 H1 g1 r1 => ?_⟩
  have s1 := s.grow g1
  obtain ⟨_, a2, ob, a3, a4⟩ := s1.ow.each _ (List.mem_of_getElem? hj)
  have a4 : ob = .tup [.ref p1, .ref p2] := a4
  subst a4
  cases r1
  obtain ⟨_, b2, w1, b3, b4⟩ := s1.ow.each _ (List.mem_of_getElem? h1)
  obtain ⟨_, c2, w2, c3, c4⟩ := s1.ow.each _ (List.mem_of_getElem? h2)
  unfold appP at hx
  split at hx
  case isFalse => cases hx
  rename_i hl
  have hx := Option.some.inj hx
  subst ho
  cases c with
  | true =>
    have e1 : xs = xs' := congrArg Prod.fst hx
    have e2 : ys ++ [x] = ys' := congrArg Prod.snd hx
    subst e1
    subst e2
    refine ⟨pt, _, 1, .ref p2, rfl, rfl, st_of a3, rfl, Or.inl ⟨rfl, w2, sq_of c3⟩, h σ Kn1 H1 s1 _ fun u Kn2 H2 g2 r2 => ?_⟩
    refine ⟨p2, w2, u, rfl, rfl, g2.hh _ _ c3, by rw [paired_len c4]; exact lt_line hl.2, k _ Kn2 _ ?_⟩
    have kp : Kn2 p2 = none := g2.sp p2 (ne_none_of c3) c2
    rw [set_ow h1]
    exact (s1.grow g2).write h2 (Ex.refl _) (upd_in g2.kh kp) (fun q hq _ => upd_ne hq) (fun _ _ h => h) upd_same (paired_append (paired_mono g2.kk c4) (.cons r2 .nil))
  | false =>
    have e1 : xs ++ [x] = xs' := congrArg Prod.fst hx
    have e2 : ys = ys' := congrArg Prod.snd hx
    subst e1
    subst e2
    refine ⟨pt, _, 0, .ref p1, rfl, rfl, st_of a3, rfl, Or.inl ⟨rfl, w1, sq_of b3⟩, h σ Kn1 H1 s1 _ fun u Kn2 H2 g2 r2 => ?_⟩
    refine ⟨p1, w1, u, rfl, rfl, g2.hh _ _ b3, by rw [paired_len b4]; exact lt_line hl.1, k _ Kn2 _ ?_⟩
    have kp : Kn2 p1 = none := g2.sp p1 (ne_none_of b3) b2
    have e : (ow.set k1 (ol p1 (xs ++ [x]))).set k2 (ol p2 ys) = ow.set k1 (ol p1 (xs ++ [x])) := set_ow (by rw [List.getElem?_set_ne hk]; exact h2)
    rw [e]
    exact (s1.grow g2).write h1 (Ex.refl _) (upd_in g2.kh kp) (fun q hq _ => upd_ne hq) (fun _ _ h => h) upd_same (paired_append (paired_mono g2.kk b4) (.cons r2 .nil))
end
end Wk
/-! Wpick: one of two new lists, picked out of a display: [a, b][i]; truths in a list -/
namespace Wk
open PySem PySem.Spec L2 Evl
instance : Fe Bool := ⟨fun _ => rfl, fun a b => by cases a <;> cases b <;> rfl⟩
section
variable {K : Fg} {F Kn0 : Hp} {sl sl' : List Sl} {ow ow1 ow2 : List Ow} {α β γ τ : Type} [Rp α] [Rp β] [Rp γ] [Tp τ] {ta tb te : TE}
theorem en_pick2 {xs ys zs : List α} {i : Int} (ha : EN K F Kn0 sl ow ta xs) (hb : EN K F Kn0 sl ow tb ys) (hi : EV K F Kn0 sl ow te i) (hz : atI [xs, ys] i = some zs) :
    EN K F Kn0 sl ow (tOp (rIxL K) (tLst (tCons ta (tCons tb tNil))) te) zs := fun σ Kn H s Q q =>
  ha σ Kn H s _ fun p1 w1 Kn1 H1 g1 hp1 kp1 hw1 r1 => hb σ Kn1 H1 (s.grow g1) _ fun p2 w2 Kn2 H2 g2 hp2 kp2 hw2 r2 => by
    have k12 : Kn2 p1 = none := g2.sp p1 (ne_none_of hw1) kp1
    have h12 : H2 p1 = some (.lst w1) := g2.hh _ _ hw1
    have g12 := g1.trans g2
    refine ⟨by show ([V.ref p1, V.ref p2] : List V).length ≤ sizeLine; exact le_line (Nat.le_of_ble_eq_true rfl), fun p hp => ?_⟩
    have g3 := g12.trans (Gr.newU (o := .lst [V.ref p1, V.ref p2]) g12.kh hp)
    refine hi σ Kn2 _ (s.grow g3) _ fun v Kn4 H4 g4 r4 => ?_
    cases r4
    have n1 : p1 ≠ p := fun z => by rw [← z, h12] at hp; cases hp
    have n2 : p2 ≠ p := fun z => by rw [← z, hw2] at hp; cases hp
    have u1 : upd H2 p (.lst [V.ref p1, V.ref p2]) p1 = some (.lst w1) := by rw [upd_ne n1]; exact h12
    have u2 : upd H2 p (.lst [V.ref p1, V.ref p2]) p2 = some (.lst w2) := by rw [upd_ne n2]; exact hw2
    have g := g3.trans g4
    have hpp : H4 p = some (.lst [V.ref p1, V.ref p2]) := g4.hh _ _ upd_same
    have fin : ∀ p' ws', (p' = p1 ∧ ws' = w1 ∧ zs = xs) ∨ (p' = p2 ∧ ws' = w2 ∧ zs = ys) → Q (.ref p') H4 := by
      intro p' ws' h
      rcases h with ⟨rfl, rfl, rfl⟩ | ⟨rfl, rfl, rfl⟩
      · exact q p' ws' Kn4 H4 g hp1 (g4.sp _ (ne_none_of u1) k12) (g4.hh _ _ u1) (paired_mono (g2.kk.trans g4.kk) r1)
      · exact q p' ws' Kn4 H4 g (fresh_back g1.hh hp2) (g4.sp _ (ne_none_of u2) kp2) (g4.hh _ _ u2) (paired_mono g4.kk r2)
    unfold atI at hz
    cases e : ixN [xs, ys].length i with
    | none => rw [e] at hz; cases hz
    | some j =>
      rw [e] at hz
      have e' : ixN [V.ref p1, V.ref p2].length i = some j := e
      match j, hz, e' with
      | 0, hz, e' =>
        cases hz
        exact ⟨p, _, i, .ref p1, rfl, rfl, sq_of hpp, by unfold atI; rw [e']; rfl, fin p1 w1 (.inl ⟨rfl, rfl, rfl⟩)⟩
      | 1, hz, e' =>
        cases hz
        exact ⟨p, _, i, .ref p2, rfl, rfl, sq_of hpp, by unfold atI; rw [e']; rfl, fin p2 w2 (.inr ⟨rfl, rfl, rfl⟩)⟩
      | n + 2, hz, _ => cases hz
end
/-! range with a step -/
def rng3O (lo hi c : Int) : Option (List Int) := if c ≠ 0 ∧ c.natAbs < 1073741824 ∧ Builtin.Range.small lo hi c = true ∧ Builtin.Range.rangeSize lo hi c = ((Builtin.Range.rangeSize lo hi c).toNat : Int) then some ((List.range (Builtin.Range.rangeSize lo hi c).toNat).map fun (k : Nat) => lo + (k : Int) * c) else none
section
variable {K : Fg} {F Kn0 : Hp} {sl : List Sl} {ow : List Ow} {ta : TA}
theorem wk_range3 {Kn1 : Hp} (lo c : Int) (n : Nat) : WK K Kn1 (Itc lo c n) ((List.range n).map fun (k : Nat) => lo + (k : Int) * c) := fun i Kn' H' e1 e2 => by
  refine ⟨fun x hx => ?_, fun hl => ?_⟩
  · rw [List.getElem?_map] at hx
    cases q : (List.range n)[i]? with
    | none => rw [q] at hx; cases hx
    | some m =>
      rw [q] at hx
      obtain ⟨hlt, he⟩ := List.getElem?_eq_some_iff.mp q
      rw [List.getElem_range] at he
      rw [List.length_range] at hlt
      subst he
      cases hx
      refine ⟨hlt, fun v H2 hy => ?_⟩
      obtain ⟨rfl, rfl⟩ := hy
      exact ⟨Kn', Gr.refl e2, rfl⟩
  · rw [List.length_map, List.length_range] at hl
    exact hl
theorem it_rng3 {lo hi c : Int} {xs : List Int} (h : EA K F Kn0 sl ow ta (lo, hi, c, ())) (hx : rng3O lo hi c = some xs) : IT K F Kn0 sl ow (iRng3 ta) xs := fun σ Kn H s R q => h σ Kn H s _ fun vs Kn1 H1 g1 r1 => by
  obtain ⟨v, r, rfl, h1, r1⟩ := r1
  obtain ⟨w, u, rfl, h2, h3⟩ := two_args r1
  cases h1
  cases h2
  cases h3
  unfold rng3O at hx
  split at hx
  · rename_i hb
    cases hx
    exact ⟨lo, hi, c, _, rfl, ⟨hb.1, hb.2.1, hb.2.2.1, hb.2.2.2⟩, q _ Kn1 H1 g1 (wk_range3 lo c _)⟩
  · cases hx
end
end Wk
set_option synthInstance.maxHeartbeats 4000000
set_option synthInstance.maxSize 20000
/-! the mirrors of k68, printed by gen.py -/
namespace Wk68
open PySem L2 Wk
noncomputable def m_touches (thing_1 : (Str × Int × Int × Int × Int × Unit)) (row_2 : Int) (high_3 : Int) : Option Bool :=
  some ((decide (thing_1.2.2.1 < (row_2 + high_3))) && (decide (row_2 < (thing_1.2.2.1 + thing_1.2.2.2.2.1))))
noncomputable def m_edges_L1 (row_7 : Int) (high_8 : Int) : (Str × Int × Int × Int × Int × Unit) → ((Int × Str × Unit)) → Option ((Int × Str × Unit)) := fun thing_11 left_10 =>
  (m_touches thing_11 row_7 high_8).bind fun r_18 =>
  (if (r_18 && (decide (left_10.1 < (thing_11.2.1 + thing_11.2.2.2.1)))) = true then ((some ((thing_11.2.1 + thing_11.2.2.2.1), thing_11.1, ())).bind fun left_21 =>
  some left_21) else (some left_10))
noncomputable def m_edges_L2 (row_7 : Int) (high_8 : Int) : (Str × Int × Int × Int × Int × Unit) → ((Int × Str × Unit)) → Option ((Int × Str × Unit)) := fun thing_26 right_25 =>
  (m_touches thing_26 row_7 high_8).bind fun r_33 =>
  (if (r_33 && (decide (thing_26.2.1 < right_25.1))) = true then ((some (thing_26.2.1, thing_26.1, ())).bind fun right_36 =>
  some right_36) else (some right_25))
noncomputable def m_edges (width_4 : Int) (lefts_5 : (List (Str × Int × Int × Int × Int × Unit))) (rights_6 : (List (Str × Int × Int × Int × Int × Unit))) (row_7 : Int) (high_8 : Int) : Option ((Int × Str × Unit) × (Int × Str × Unit) × Unit) :=
  (some ((0 : Int), ("" : Str), ())).bind fun left_9 =>
  (forS (m_edges_L1 row_7 high_8) lefts_5 left_9).bind fun left_22 =>
  (some (width_4, ("" : Str), ())).bind fun right_24 =>
  (forS (m_edges_L2 row_7 high_8) rights_6 right_24).bind fun right_37 =>
  some (left_22, right_37, ())
noncomputable def m_first_end (things_39 : (List (Str × Int × Int × Int × Int × Unit))) (left_40 : Str) (right_41 : Str) : Option Int :=
  (lcM (fun thing_42 => (some ((decide (thing_42.1 = left_40)) || (decide (thing_42.1 = right_41))))) (fun thing_42 => (some (thing_42.2.2.1 + thing_42.2.2.2.2.1))) things_39).bind fun zs_43 =>
  (minL zs_43).bind fun min_44 =>
  some min_44
noncomputable def m_stand_floats_L1 (width_45 : Int) : (Str × Str × Int × Int × Unit) → (Unit) → Option (Unit) := fun (name_47, side_48, wide_49, high_50, _) _ =>
  (if (decide (width_45 < wide_49)) = true then (none) else (some ()))
noncomputable def m_stand_floats_L3_c (width_45 : Int) (wide_72 : Int) (high_73 : Int) (standing_67 : (List (Str × Int × Int × Int × Int × Unit))) (rights_68 : (List (Str × Int × Int × Int × Int × Unit))) (lefts_69 : (List (Str × Int × Int × Int × Int × Unit))) : (Int × (Int × Str × Unit) × (Int × Str × Unit) × (List (Int × Str × Str × Unit))) → Option Bool := fun (row_83, left_84, right_85, paper_86) =>
  (some (decide ((right_85.1 - left_84.1) < wide_72)))
noncomputable def m_stand_floats_L3 (width_45 : Int) (wide_72 : Int) (high_73 : Int) (standing_67 : (List (Str × Int × Int × Int × Int × Unit))) (rights_68 : (List (Str × Int × Int × Int × Int × Unit))) (lefts_69 : (List (Str × Int × Int × Int × Int × Unit))) : (Int × (Int × Str × Unit) × (Int × Str × Unit) × (List (Int × Str × Str × Unit))) → Option (Int × (Int × Str × Unit) × (Int × Str × Unit) × (List (Int × Str × Str × Unit))) := fun (row_83, left_84, right_85, paper_86) =>
  (m_first_end standing_67 left_84.2.1 right_85.2.1).bind fun r_92 =>
  (some r_92).bind fun row_93 =>
  (appO paper_86 (row_93, left_84.2.1, right_85.2.1, ())).bind fun paper_94 =>
  (m_edges width_45 lefts_69 rights_68 row_93 high_73).bind fun r_95 =>
  (some r_95).bind fun (left_96, right_97, _) =>
  some (row_93, left_96, right_97, paper_94)
noncomputable def m_stand_floats_L2 (width_45 : Int) : (Str × Str × Int × Int × Unit) → (Int × (List (List (Int × Str × Str × Unit))) × (List (Str × Int × Int × Int × Int × Unit)) × (List (Str × Int × Int × Int × Int × Unit)) × (List (Str × Int × Int × Int × Int × Unit))) → Option (Int × (List (List (Int × Str × Str × Unit))) × (List (Str × Int × Int × Int × Int × Unit)) × (List (Str × Int × Int × Int × Int × Unit)) × (List (Str × Int × Int × Int × Int × Unit))) := fun (name_70, side_71, wide_72, high_73, _) (row_65, papers_66, standing_67, rights_68, lefts_69) =>
  (some ([] : List (Int × Str × Str × Unit))).bind fun paper_79 =>
  (m_edges width_45 lefts_69 rights_68 row_65 high_73).bind fun r_80 =>
  (some r_80).bind fun (left_81, right_82, _) =>
  (whileF (m_stand_floats_L3_c width_45 wide_72 high_73 standing_67 rights_68 lefts_69) (m_stand_floats_L3 width_45 wide_72 high_73 standing_67 rights_68 lefts_69) (row_65, left_81, right_82, paper_79)).bind fun (row_98, left_99, right_100, paper_101) =>
  ((if (decide (side_71 = ("left" : Str))) = true then ((some (name_70, left_99.1, row_98, wide_72, high_73, ())).bind fun thing_105 =>
  (appO lefts_69 thing_105).bind fun lefts_106 =>
  some (thing_105, rights_68, lefts_106)) else ((some (name_70, (right_100.1 - wide_72), row_98, wide_72, high_73, ())).bind fun thing_107 =>
  (appO rights_68 thing_107).bind fun rights_108 =>
  some (thing_107, rights_108, lefts_69)))).bind fun (thing_109, rights_110, lefts_111) =>
  (appO standing_67 thing_109).bind fun standing_113 =>
  (appO papers_66 paper_101).bind fun papers_114 =>
  some (row_98, papers_114, standing_113, rights_110, lefts_111)
noncomputable def m_stand_floats (width_45 : Int) (floats_46 : (List (Str × Str × Int × Int × Unit))) : Option ((List (Str × Int × Int × Int × Int × Unit)) × (List (List (Int × Str × Str × Unit))) × Unit) :=
  (forS (m_stand_floats_L1 width_45) floats_46 ()).bind fun _ =>
  (some ([] : List (Str × Int × Int × Int × Int × Unit))).bind fun lefts_60 =>
  (some ([] : List (Str × Int × Int × Int × Int × Unit))).bind fun rights_61 =>
  (some ([] : List (Str × Int × Int × Int × Int × Unit))).bind fun standing_62 =>
  (some ([] : List (List (Int × Str × Str × Unit)))).bind fun papers_63 =>
  (some (0 : Int)).bind fun row_64 =>
  (forS (m_stand_floats_L2 width_45) floats_46 (row_64, papers_63, standing_62, rights_61, lefts_60)).bind fun (row_115, papers_116, standing_117, rights_118, lefts_119) =>
  some (standing_117, papers_116, ())
noncomputable def m_is_whole (thing_121 : Int) : Option Bool :=
  some (true && (!false))
noncomputable def m_edge_by_L1 (name_123 : Str) : (Str × Int × Int × Int × Int × Unit) → (Unit) → Option (Ctl (Unit) (Option (Str × Int × Int × Int × Int × Unit))) := fun thing_128 _ =>
  (if (decide (thing_128.1 = name_123)) = true then (some (Ctl.rt (some thing_128))) else (some (Ctl.nx ())))
noncomputable def m_edge_by (things_122 : (List (Str × Int × Int × Int × Int × Unit))) (name_123 : Str) (none_124 : (Str × Int × Int × Int × Int × Unit)) : Option (Option (Str × Int × Int × Int × Int × Unit)) :=
  (if (decide (name_123 = ("" : Str))) = true then (some (some none_124)) else ((forC (m_edge_by_L1 name_123) things_122 ()).bind fun tot_133 => match tot_133 with
  | .nx _ => (some none)
  | .bk _ => none
  | .rt r_ => some r_))
noncomputable def m_bars (thing_138 : (Str × Int × Int × Int × Int × Unit)) (row_139 : Int) (till_140 : Int) (high_141 : Int) : Option Bool :=
  some ((decide (thing_138.2.2.1 < (row_139 + high_141))) && (decide ((till_140 - (1 : Int)) < (thing_138.2.2.1 + thing_138.2.2.2.2.1))))
noncomputable def m_triple_shows (ahead_142 : ((List (Str × Int × Int × Int × Int × Unit)) × (List (Str × Int × Int × Int × Int × Unit)) × Unit)) (triple_143 : (Int × Str × Str × Unit)) (row_144 : Int) (float__145 : (Str × Str × Int × Int × Unit)) (width_146 : Int) : Option Bool :=
  (if ((!true) || (!decide ((3 : Int) = (3 : Int)))) = true then (some false) else ((some triple_143).bind fun (till_150, left_151, right_152, _) =>
  (m_is_whole till_150).bind fun r_154 =>
  (if ((!r_154) || ((decide (till_150 ≤ row_144)) || ((!true) || (!true)))) = true then (some false) else ((some float__145.2.2.2.1).bind fun high_157 =>
  (m_edge_by ahead_142.1 left_151 (("" : Str), (0 : Int), row_144, (0 : Int), (till_150 - row_144), ())).bind fun r_158 =>
  (some r_158).bind fun first_159 =>
  (m_edge_by ahead_142.2.1 right_152 (("" : Str), width_146, row_144, (0 : Int), (till_150 - row_144), ())).bind fun r_160 =>
  (some r_160).bind fun last_161 =>
  ((if (first_159.isNone) = true then some true else (((if (last_161.isNone) = true then some true else ((first_159).bind fun s_163 => (m_bars s_163 row_144 till_150 high_157).bind fun r_164 => ((if (!r_164) = true then some true else ((last_161).bind fun s_165 => (m_bars s_165 row_144 till_150 high_157).bind fun r_166 => some (!r_166)))).bind fun b_167 => some b_167))).bind fun b_168 => some b_168))).bind fun b_169 =>
  (if b_169 = true then (some false) else ((last_161).bind fun s_172 =>
  (first_159).bind fun s_173 =>
  (first_159).bind fun s_174 =>
  some (decide (((s_172.2.1 - s_173.2.1) - s_174.2.2.2.1) < float__145.2.2.1))))))))
noncomputable def m_paper_shows_L1 (ahead_175 : ((List (Str × Int × Int × Int × Int × Unit)) × (List (Str × Int × Int × Int × Int × Unit)) × Unit)) (float__179 : (Str × Str × Int × Int × Unit)) (width_180 : Int) : (Int × Str × Str × Unit) → (Int) → Option (Ctl (Int) Bool) := fun triple_185 row_184 =>
  (m_triple_shows ahead_175 triple_185 row_184 float__179 width_180).bind fun r_192 =>
  (if (!r_192) = true then (some (Ctl.rt false)) else ((some triple_185.1).bind fun row_195 =>
  some (Ctl.nx row_195)))
noncomputable def m_paper_shows (ahead_175 : ((List (Str × Int × Int × Int × Int × Unit)) × (List (Str × Int × Int × Int × Int × Unit)) × Unit)) (paper_176 : (List (Int × Str × Str × Unit))) (row_177 : Int) (thing_178 : (Str × Int × Int × Int × Int × Unit)) (float__179 : (Str × Str × Int × Int × Unit)) (width_180 : Int) : Option Bool :=
  (if (!true) = true then (some false) else ((forC (m_paper_shows_L1 ahead_175 float__179 width_180) paper_176 row_177).bind fun tot_190 => match tot_190 with
  | .nx row_196 => (some (decide (row_196 = thing_178.2.2.1)))
  | .bk _ => none
  | .rt r_ => some r_))
noncomputable def m_is_standing (thing_198 : (Str × Int × Int × Int × Int × Unit)) (float__199 : (Str × Str × Int × Int × Unit)) : Option Bool :=
  (if ((!true) || ((!decide ((5 : Int) = (5 : Int))) || ((!decide (thing_198.1 = float__199.1)) || (!decide ((thing_198.2.2.2.1, thing_198.2.2.2.2.1, ()) = (float__199.2.2.1, float__199.2.2.2.1, ())))))) = true then (some false) else ((lcM (fun _ => some true) (fun number_203 => ((m_is_whole number_203).bind fun r_205 => some r_205)) ([(thing_198.2.1, thing_198.2.2.1, thing_198.2.2.2.1, thing_198.2.2.2.2.1, ()).1, (thing_198.2.1, thing_198.2.2.1, thing_198.2.2.2.1, thing_198.2.2.2.2.1, ()).2.1, (thing_198.2.1, thing_198.2.2.1, thing_198.2.2.2.1, thing_198.2.2.2.2.1, ()).2.2.1, (thing_198.2.1, thing_198.2.2.1, thing_198.2.2.2.1, thing_198.2.2.2.2.1, ()).2.2.2.1] : List Int)).bind fun zs_204 =>
  some (!(decide (false ∈ zs_204)))))
noncomputable def m_stands_there (ahead_206 : ((List (Str × Int × Int × Int × Int × Unit)) × (List (Str × Int × Int × Int × Int × Unit)) × Unit)) (thing_207 : (Str × Int × Int × Int × Int × Unit)) (float__208 : (Str × Str × Int × Int × Unit)) (width_209 : Int) : Option Bool :=
  (m_edges width_209 ahead_206.1 ahead_206.2.1 thing_207.2.2.1 thing_207.2.2.2.2.1).bind fun r_210 =>
  (some r_210).bind fun (left_211, right_212, _) =>
  (if (decide ((right_212.1 - left_211.1) < thing_207.2.2.2.1)) = true then (some false) else ((if (decide (float__208.2.1 = ("left" : Str))) = true then (some (decide (thing_207.2.1 = left_211.1))) else (some (decide (thing_207.2.1 = (right_212.1 - thing_207.2.2.2.1)))))))
noncomputable def m_stood_L1 (width_219 : Int) (standing_221 : (List (Str × Int × Int × Int × Int × Unit))) (papers_222 : (List (List (Int × Str × Str × Unit)))) : (Int × (Str × Str × Int × Int × Unit) × Unit) → (Int × (List (Str × Int × Int × Int × Int × Unit)) × (List (Str × Int × Int × Int × Int × Unit))) → Option (Ctl (Int × (List (Str × Int × Int × Int × Int × Unit)) × (List (Str × Int × Int × Int × Int × Unit))) Bool) := fun (k_234, float__235, _) (row_231, ahead_232, ahead_233) =>
  (atI standing_221 k_234).bind fun i_241 =>
  (some i_241).bind fun thing_242 =>
  (m_is_standing thing_242 float__235).bind fun r_244 =>
  ((if (!r_244) = true then some true else ((atI papers_222 k_234).bind fun i_245 => (m_paper_shows (ahead_232, ahead_233, ()) i_245 row_231 thing_242 float__235 width_219).bind fun r_246 => some (!r_246)))).bind fun b_247 =>
  (if b_247 = true then (some (Ctl.rt false)) else ((m_stands_there (ahead_232, ahead_233, ()) thing_242 float__235 width_219).bind fun r_251 =>
  (if (!r_251) = true then (some (Ctl.rt false)) else ((appP (decide (float__235.2.1 = ("right" : Str))) ahead_232 ahead_233 thing_242).bind fun (ahead_254, ahead_255) =>
  (some thing_242.2.2.1).bind fun row_256 =>
  some (Ctl.nx (row_256, ahead_254, ahead_255))))))
noncomputable def m_stood (width_219 : Int) (floats_220 : (List (Str × Str × Int × Int × Unit))) (standing_221 : (List (Str × Int × Int × Int × Int × Unit))) (papers_222 : (List (List (Int × Str × Str × Unit)))) : Option Bool :=
  (if ((!true) || (!true)) = true then (some false) else ((if ((!decide ((standing_221.length : Int) = (floats_220.length : Int))) || (!decide ((papers_222.length : Int) = (floats_220.length : Int)))) = true then (some false) else ((some (0 : Int)).bind fun row_230 =>
  (forC (m_stood_L1 width_219 standing_221 papers_222) (enumI floats_220) (row_230, ([] : List (Str × Int × Int × Int × Int × Unit)), ([] : List (Str × Int × Int × Int × Int × Unit)))).bind fun tot_240 => match tot_240 with
  | .nx (row_257, ahead_258, ahead_259) => (some true)
  | .bk _ => none
  | .rt r_ => some r_))))
noncomputable def m__law_cell_at (script_261 : (Fz Int)) (k_262 : Int) : Option Int :=
  (if (decide (k_262 < (script_261.l.length : Int))) = true then ((atI script_261.l k_262).bind fun i_266 =>
  some i_266) else (some (0 : Int)))
noncomputable def m__law_numbers_L1_c (cell_267 : Int) (many_268 : Int) : (Int × (List Int)) → Option Bool := fun (number_271, found_272) =>
  (some ((decide ((cell_267 % (2 : Int)) = (1 : Int))) && ((decide ((0 : Int) < number_271)) && (decide ((found_272.length : Int) < many_268)))))
noncomputable def m__law_numbers_L1 (cell_267 : Int) (many_268 : Int) : (Int × (List Int)) → Option (Int × (List Int)) := fun (number_271, found_272) =>
  (appO found_272 (number_271 % (10000000 : Int))).bind fun found_278 =>
  (some (number_271 / (10000000 : Int))).bind fun number_279 =>
  some (number_279, found_278)
noncomputable def m__law_numbers_L2_c (many_268 : Int) : (Int × (List Int)) → Option Bool := fun (number_284, found_285) =>
  (some (decide ((found_285.length : Int) < many_268)))
noncomputable def m__law_numbers_L2 (many_268 : Int) : (Int × (List Int)) → Option (Int × (List Int)) := fun (number_284, found_285) =>
  (some ((((number_284 + (found_285.length : Int)) + (1 : Int)) * (48271 : Int)) % (2147483647 : Int))).bind fun number_291 =>
  (appO found_285 ((number_291 * (69621 : Int)) % (2147483629 : Int))).bind fun found_292 =>
  some (number_291, found_292)
noncomputable def m__law_numbers (cell_267 : Int) (many_268 : Int) : Option (List Int) :=
  (some ([] : List Int)).bind fun found_269 =>
  (some (cell_267 / (2 : Int))).bind fun number_270 =>
  (whileF (m__law_numbers_L1_c cell_267 many_268) (m__law_numbers_L1 cell_267 many_268) (number_270, found_269)).bind fun (number_280, found_281) =>
  (some (cell_267 % (2147483647 : Int))).bind fun number_283 =>
  (whileF (m__law_numbers_L2_c many_268) (m__law_numbers_L2 many_268) (number_283, found_281)).bind fun (number_293, found_294) =>
  some found_294
noncomputable def m__law_names_L2 (some_299 : (List Int)) (at_304 : Int) (turn_308 : Int) : Int → (Str) → Option (Str) := fun k_317 name_316 =>
  (mulO turn_308 (if (decide (k_317 = at_304)) = true then (1 : Int) else 0)).bind fun m_323 =>
  (some m_323).bind fun more_324 =>
  (atI some_299 k_317).bind fun i_325 =>
  (ixS ("abcdefghijklmnopqrstuvwxyz" : Str) ((i_325 + more_324) % (26 : Int))).bind fun i_326 =>
  (addS name_316 i_326).bind fun t_327 =>
  (some t_327).bind fun name_328 =>
  some name_328
noncomputable def m__law_names_L1 (some_299 : (List Int)) (size_301 : Int) (at_304 : Int) : Int → ((List Str)) → Option ((List Str)) := fun turn_308 names_here_307 =>
  (some ("" : Str)).bind fun name_314 =>
  (rngO 0 size_301).bind fun rg_315 =>
  (forS (m__law_names_L2 some_299 at_304 turn_308) rg_315 name_314).bind fun name_329 =>
  (appO names_here_307 name_329).bind fun names_here_331 =>
  some names_here_331
noncomputable def m__law_names (cell_296 : Int) (many_297 : Int) : Option (List Str) :=
  (m__law_numbers cell_296 (10 : Int)).bind fun r_298 =>
  (some r_298).bind fun some_299 =>
  (atI some_299 (8 : Int)).bind fun i_300 =>
  (some ((1 : Int) + (i_300 % (8 : Int)))).bind fun size_301 =>
  (atI some_299 (9 : Int)).bind fun i_302 =>
  (modO i_302 size_301).bind fun r_303 =>
  (some r_303).bind fun at_304 =>
  (some ([] : List Str)).bind fun names_here_305 =>
  (rngO 0 many_297).bind fun rg_306 =>
  (forS (m__law_names_L1 some_299 size_301 at_304) rg_306 names_here_305).bind fun names_here_332 =>
  some names_here_332
noncomputable def m__law_floats_L1 (names_here_334 : (List Str)) (wide_335 : Int) : (Int × Int × Unit) → ((List (Str × Str × Int × Int × Unit))) → Option ((List (Str × Str × Int × Int × Unit))) := fun (k_339, cell_340, _) floats_here_338 =>
  (m__law_numbers cell_340 (4 : Int)).bind fun r_346 =>
  (some r_346).bind fun some_347 =>
  (atI some_347 (2 : Int)).bind fun i_348 =>
  (atI some_347 (2 : Int)).bind fun i_349 =>
  (atI some_347 (3 : Int)).bind fun i_350 =>
  (atI ([(i_348 % (9 : Int)), (i_349 % (1000000 : Int))] : List Int) ((i_350 % (3 : Int)) / (2 : Int))).bind fun i_351 =>
  (some ((1 : Int) + i_351)).bind fun high_352 =>
  (atI names_here_334 k_339).bind fun i_353 =>
  (atI some_347 (0 : Int)).bind fun i_354 =>
  (atI ([("left" : Str), ("right" : Str)] : List Str) (i_354 % (2 : Int))).bind fun i_355 =>
  (atI some_347 (1 : Int)).bind fun i_356 =>
  (modO i_356 wide_335).bind fun r_357 =>
  (appO floats_here_338 (i_353, i_355, ((1 : Int) + r_357), high_352, ())).bind fun floats_here_358 =>
  some floats_here_358
noncomputable def m__law_floats (names_here_334 : (List Str)) (wide_335 : Int) (cells_336 : (List Int)) : Option (List (Str × Str × Int × Int × Unit)) :=
  (some ([] : List (Str × Str × Int × Int × Unit))).bind fun floats_here_337 =>
  (forS (m__law_floats_L1 names_here_334 wide_335) (enumI cells_336) floats_here_337).bind fun floats_here_359 =>
  some floats_here_359
noncomputable def m__law_touch (thing_361 : (Str × Int × Int × Int × Int × Unit)) (row_362 : Int) (high_363 : Int) : Option Bool :=
  some ((decide (thing_361.2.2.1 < (row_362 + high_363))) && (decide (row_362 < (thing_361.2.2.1 + thing_361.2.2.2.2.1))))
noncomputable def m__law_barred_L1 (ahead_365 : (Dc (Str × Str × Unit) (Str × Int × Int × Int × Int × Unit))) (row_367 : Int) (one_368 : (Str × Str × Int × Int × Unit)) (till_369 : Int) : (Int × Str × Unit) → ((List Int)) → Option (Ctl ((List Int)) Bool) := fun (k_374, name_375, _) ends_373 =>
  (if (!decide (name_375 = ("" : Str))) = true then ((atI ([("left" : Str), ("right" : Str)] : List Str) k_374).bind fun i_385 =>
  (if (!(getD ahead_365.l (name_375, i_385, ())).isSome) = true then (some (Ctl.rt false)) else ((atI ([("left" : Str), ("right" : Str)] : List Str) k_374).bind fun i_388 =>
  (getD ahead_365.l (name_375, i_388, ())).bind fun i_389 =>
  (some i_389).bind fun thing_390 =>
  (m__law_touch thing_390 row_367 one_368.2.2.2.1).bind fun r_392 =>
  ((if (!r_392) = true then some true else ((m__law_touch thing_390 (till_369 - (1 : Int)) one_368.2.2.2.1).bind fun r_393 => some (!r_393)))).bind fun b_394 =>
  (if b_394 = true then (some (Ctl.rt false)) else ((atI ([(thing_390.2.1 + thing_390.2.2.2.1), thing_390.2.1] : List Int) k_374).bind fun i_397 =>
  (setI ends_373 k_374 i_397).bind fun ends_398 =>
  some (Ctl.nx ends_398)))))) else (some (Ctl.nx ends_373)))
noncomputable def m__law_barred (wide_364 : Int) (ahead_365 : (Dc (Str × Str × Unit) (Str × Int × Int × Int × Int × Unit))) (triple_366 : (Int × Str × Str × Unit)) (row_367 : Int) (one_368 : (Str × Str × Int × Int × Unit)) : Option Bool :=
  (some triple_366).bind fun (till_369, left_370, right_371, _) =>
  (some ([(0 : Int), wide_364] : List Int)).bind fun ends_372 =>
  (forC (m__law_barred_L1 ahead_365 row_367 one_368 till_369) (enumI ([left_370, right_371] : List Str)) ends_372).bind fun tot_380 => match tot_380 with
  | .nx ends_399 => ((atI ends_399 (1 : Int)).bind fun i_401 =>
  (atI ends_399 (0 : Int)).bind fun i_402 =>
  some (decide ((i_401 - i_402) < one_368.2.2.1)))
  | .bk _ => none
  | .rt r_ => some r_
noncomputable def m__law_walked_L2 (wide_403 : Int) (one_412 : (Str × Str × Int × Int × Unit)) (ahead_410 : (Dc (Str × Str × Unit) (Str × Int × Int × Int × Int × Unit))) : (Int × Str × Str × Unit) → (Int) → Option (Ctl (Int) Bool) := fun triple_424 row_423 =>
  ((if (decide (triple_424.1 ≤ row_423)) = true then some true else ((m__law_barred wide_403 ahead_410 triple_424 row_423 one_412).bind fun r_431 => some (!r_431)))).bind fun b_432 =>
  (if b_432 = true then (some (Ctl.rt false)) else ((some triple_424.1).bind fun row_435 =>
  some (Ctl.nx row_435)))
noncomputable def m__law_walked_L1 (wide_403 : Int) (standing_405 : (List (Str × Int × Int × Int × Int × Unit))) (papers_406 : (List (List (Int × Str × Str × Unit)))) : (Int × (Str × Str × Int × Int × Unit) × Unit) → (Int × (Dc (Str × Str × Unit) (Str × Int × Int × Int × Int × Unit))) → Option (Ctl (Int × (Dc (Str × Str × Unit) (Str × Int × Int × Int × Int × Unit))) Bool) := fun (k_411, one_412, _) (row_409, ahead_410) =>
  (atI papers_406 k_411).bind fun i_419 =>
  (if (!true) = true then (some (Ctl.rt false)) else ((atI papers_406 k_411).bind fun i_422 =>
  (forC (m__law_walked_L2 wide_403 one_412 ahead_410) i_422 row_409).bind fun tot_429 => match tot_429 with
  | .nx row_436 => ((atI standing_405 k_411).bind fun i_439 =>
  (if (!decide (i_439.2.2.1 = row_436)) = true then (some (Ctl.rt false)) else ((atI standing_405 k_411).bind fun i_442 =>
  (putO ahead_410 (one_412.1, one_412.2.1, ()) i_442).bind fun ahead_443 =>
  some (Ctl.nx (row_436, ahead_443)))))
  | .bk _ => none
  | .rt r_ => some (Ctl.rt r_)))
noncomputable def m__law_walked (wide_403 : Int) (floats_here_404 : (List (Str × Str × Int × Int × Unit))) (standing_405 : (List (Str × Int × Int × Int × Int × Unit))) (papers_406 : (List (List (Int × Str × Str × Unit)))) : Option Bool :=
  (some (0 : Int)).bind fun row_408 =>
  (forC (m__law_walked_L1 wide_403 standing_405 papers_406) (enumI floats_here_404) (row_408, (Dc.mk ([] : List ((Str × Str × Unit) × (Str × Int × Int × Int × Int × Unit)))))).bind fun tot_417 => match tot_417 with
  | .nx (row_444, ahead_445) => (some true)
  | .bk _ => none
  | .rt r_ => some r_
noncomputable def m_law_L1 (wide_451 : Int) (floats_here_455 : (List (Str × Str × Int × Int × Unit))) (standing_457 : (List (Str × Int × Int × Int × Int × Unit))) (papers_458 : (List (List (Int × Str × Str × Unit)))) : Int → (Unit) → Option (Ctl (Unit) Bool) := fun k_473 _ =>
  (some standing_457).bind fun other_479 =>
  ((if (decide ((0 : Int) < k_473)) = true then ((atI standing_457 k_473).bind fun i_482 =>
  (setI other_479 (k_473 - (1 : Int)) i_482).bind fun other_483 =>
  (atI standing_457 (k_473 - (1 : Int))).bind fun i_484 =>
  (setI other_483 k_473 i_484).bind fun other_485 =>
  some other_485) else (some other_479))).bind fun other_486 =>
  ((if (decide ((0 : Int) < k_473)) = true then ((m_stood wide_451 floats_here_455 other_486 papers_458).bind fun r_489 => some r_489) else some false)).bind fun b_490 =>
  (if b_490 = true then (some (Ctl.rt false)) else ((catO (cut papers_458 none (some k_473)) ([([] : List (Int × Str × Str × Unit))] : List (List (Int × Str × Str × Unit)))).bind fun cat_493 =>
  (catO cat_493 (cut papers_458 (some (k_473 + (1 : Int))) none)).bind fun cat_494 =>
  (some cat_494).bind fun other_495 =>
  (atI papers_458 k_473).bind fun i_497 =>
  (neO i_497 ([] : List (Int × Str × Str × Unit))).bind fun e_498 =>
  ((if e_498 = true then ((m_stood wide_451 floats_here_455 standing_457 other_495).bind fun r_499 => some r_499) else some false)).bind fun b_500 =>
  (if b_500 = true then (some (Ctl.rt false)) else ((catO (cut papers_458 none (some k_473)) (cut papers_458 (some (k_473 + (1 : Int))) none)).bind fun cat_504 =>
  (m_stood wide_451 floats_here_455 standing_457 cat_504).bind fun r_505 =>
  (if r_505 = true then (some (Ctl.rt false)) else (some (Ctl.nx ())))))))
noncomputable def m_law (script_447 : (Fz Int)) : Option Bool :=
  (m__law_cell_at script_447 (1 : Int)).bind fun r_448 =>
  (some r_448).bind fun cell_449 =>
  (atI ([((cell_449 / (2 : Int)) % (12 : Int)), ((cell_449 / (2 : Int)) % (1000000 : Int))] : List Int) (cell_449 % (2 : Int))).bind fun i_450 =>
  (some ((1 : Int) + i_450)).bind fun wide_451 =>
  (m__law_cell_at script_447 (0 : Int)).bind fun r_452 =>
  (m__law_names r_452 (12 : Int)).bind fun r_453 =>
  (m__law_floats r_453 wide_451 (cut script_447.l (some (2 : Int)) (some (14 : Int)))).bind fun r_454 =>
  (some r_454).bind fun floats_here_455 =>
  (m_stand_floats wide_451 floats_here_455).bind fun r_456 =>
  (some r_456).bind fun (standing_457, papers_458, _) =>
  (lcM (fun _ => some true) (fun paper_459 => (some paper_459)) papers_458).bind fun zs_460 =>
  (some (Hl.mk (floats_here_455, standing_457, zs_460, ()))).bind fun held_461 =>
  (m_stood wide_451 floats_here_455 standing_457 papers_458).bind fun r_463 =>
  ((if (!decide (r_463 = true)) = true then some true else ((neO held_461 (Hl.mk (floats_here_455, standing_457, papers_458, ()))).bind fun e_464 => some e_464))).bind fun b_465 =>
  (if b_465 = true then (some false) else ((m__law_walked wide_451 floats_here_455 standing_457 papers_458).bind fun r_469 =>
  (if (!r_469) = true then (some false) else ((rngO 0 (floats_here_455.length : Int)).bind fun rg_472 =>
  (forC (m_law_L1 wide_451 floats_here_455 standing_457 papers_458) rg_472 ()).bind fun tot_478 => match tot_478 with
  | .nx _ => ((m_stood wide_451 ([] : List (Str × Str × Int × Int × Unit)) ([] : List (Str × Int × Int × Int × Int × Unit)) ([] : List (List (Int × Str × Str × Unit)))).bind fun r_509 =>
  some (decide (r_509 = true)))
  | .bk _ => none
  | .rt r_ => some r_))))
end Wk68
set_option synthInstance.maxHeartbeats 4000000
set_option synthInstance.maxSize 20000
/-! the walks of k68, printed by gen.py -/
namespace Wk68
open PySem L2 Wk
def topS (i : Nat) : Stmt := PySem.Challenge.pw_boxgalley_k68_papers_of_floats.main.body.getD i (.Pass ⟨0, 0, 0, 0⟩)
abbrev s_touches : Stmt := topS 4
abbrev s_edges : Stmt := topS 5
abbrev s_first_end : Stmt := topS 6
abbrev s_stand_floats : Stmt := topS 7
abbrev s_is_whole : Stmt := topS 9
abbrev s_edge_by : Stmt := topS 10
abbrev s_bars : Stmt := topS 11
abbrev s_triple_shows : Stmt := topS 12
abbrev s_paper_shows : Stmt := topS 13
abbrev s_is_standing : Stmt := topS 14
abbrev s_stands_there : Stmt := topS 15
abbrev s_stood : Stmt := topS 16
abbrev s__law_cell_at : Stmt := topS 18
abbrev s__law_numbers : Stmt := topS 19
abbrev s__law_names : Stmt := topS 20
abbrev s__law_floats : Stmt := topS 21
abbrev s__law_touch : Stmt := topS 22
abbrev s__law_barred : Stmt := topS 23
abbrev s__law_walked : Stmt := topS 24
abbrev s_law : Stmt := topS 25
structure TX (K : Fg) (mg : Str → Option Value) where
  a_touches : Addr
  d_touches : FuncData
  F_touches : Fun K "touches" "touches" s_touches a_touches d_touches
  b_touches : Binds K d_touches ["thing", "row", "high"] []
  g_touches : mg "touches" = some (.ref a_touches)
  a_edges : Addr
  d_edges : FuncData
  F_edges : Fun K "edges" "edges" s_edges a_edges d_edges
  b_edges : Binds K d_edges ["width", "lefts", "rights", "row", "high"] []
  g_edges : mg "edges" = some (.ref a_edges)
  a_first_end : Addr
  d_first_end : FuncData
  F_first_end : Fun K "first_end" "first_end" s_first_end a_first_end d_first_end
  b_first_end : Binds K d_first_end ["things", "left", "right"] []
  g_first_end : mg "first_end" = some (.ref a_first_end)
  a_stand_floats : Addr
  d_stand_floats : FuncData
  F_stand_floats : Fun K "stand_floats" "stand_floats" s_stand_floats a_stand_floats d_stand_floats
  b_stand_floats : Binds K d_stand_floats ["width", "floats"] []
  g_stand_floats : mg "stand_floats" = some (.ref a_stand_floats)
  a_is_whole : Addr
  d_is_whole : FuncData
  F_is_whole : Fun K "is_whole" "is_whole" s_is_whole a_is_whole d_is_whole
  b_is_whole : Binds K d_is_whole ["thing"] []
  g_is_whole : mg "is_whole" = some (.ref a_is_whole)
  a_edge_by : Addr
  d_edge_by : FuncData
  F_edge_by : Fun K "edge_by" "edge_by" s_edge_by a_edge_by d_edge_by
  b_edge_by : Binds K d_edge_by ["things", "name", "none"] []
  g_edge_by : mg "edge_by" = some (.ref a_edge_by)
  a_bars : Addr
  d_bars : FuncData
  F_bars : Fun K "bars" "bars" s_bars a_bars d_bars
  b_bars : Binds K d_bars ["thing", "row", "till", "high"] []
  g_bars : mg "bars" = some (.ref a_bars)
  a_triple_shows : Addr
  d_triple_shows : FuncData
  F_triple_shows : Fun K "triple_shows" "triple_shows" s_triple_shows a_triple_shows d_triple_shows
  b_triple_shows : Binds K d_triple_shows ["ahead", "triple", "row", "float_", "width"] []
  g_triple_shows : mg "triple_shows" = some (.ref a_triple_shows)
  a_paper_shows : Addr
  d_paper_shows : FuncData
  F_paper_shows : Fun K "paper_shows" "paper_shows" s_paper_shows a_paper_shows d_paper_shows
  b_paper_shows : Binds K d_paper_shows ["ahead", "paper", "row", "thing", "float_", "width"] []
  g_paper_shows : mg "paper_shows" = some (.ref a_paper_shows)
  a_is_standing : Addr
  d_is_standing : FuncData
  F_is_standing : Fun K "is_standing" "is_standing" s_is_standing a_is_standing d_is_standing
  b_is_standing : Binds K d_is_standing ["thing", "float_"] []
  g_is_standing : mg "is_standing" = some (.ref a_is_standing)
  a_stands_there : Addr
  d_stands_there : FuncData
  F_stands_there : Fun K "stands_there" "stands_there" s_stands_there a_stands_there d_stands_there
  b_stands_there : Binds K d_stands_there ["ahead", "thing", "float_", "width"] []
  g_stands_there : mg "stands_there" = some (.ref a_stands_there)
  a_stood : Addr
  d_stood : FuncData
  F_stood : Fun K "stood" "stood" s_stood a_stood d_stood
  b_stood : Binds K d_stood ["width", "floats", "standing", "papers"] []
  g_stood : mg "stood" = some (.ref a_stood)
  a__law_cell_at : Addr
  d__law_cell_at : FuncData
  F__law_cell_at : Fun K "_law_cell_at" "_law_cell_at" s__law_cell_at a__law_cell_at d__law_cell_at
  b__law_cell_at : Binds K d__law_cell_at ["_law_script", "_law_k"] []
  g__law_cell_at : mg "_law_cell_at" = some (.ref a__law_cell_at)
  a__law_numbers : Addr
  d__law_numbers : FuncData
  F__law_numbers : Fun K "_law_numbers" "_law_numbers" s__law_numbers a__law_numbers d__law_numbers
  b__law_numbers : Binds K d__law_numbers ["_law_cell", "_law_many"] []
  g__law_numbers : mg "_law_numbers" = some (.ref a__law_numbers)
  a__law_names : Addr
  d__law_names : FuncData
  F__law_names : Fun K "_law_names" "_law_names" s__law_names a__law_names d__law_names
  b__law_names : Binds K d__law_names ["_law_cell", "_law_many"] []
  g__law_names : mg "_law_names" = some (.ref a__law_names)
  a__law_floats : Addr
  d__law_floats : FuncData
  F__law_floats : Fun K "_law_floats" "_law_floats" s__law_floats a__law_floats d__law_floats
  b__law_floats : Binds K d__law_floats ["_law_names_here", "_law_wide", "_law_cells"] []
  g__law_floats : mg "_law_floats" = some (.ref a__law_floats)
  a__law_touch : Addr
  d__law_touch : FuncData
  F__law_touch : Fun K "_law_touch" "_law_touch" s__law_touch a__law_touch d__law_touch
  b__law_touch : Binds K d__law_touch ["_law_thing", "_law_row", "_law_high"] []
  g__law_touch : mg "_law_touch" = some (.ref a__law_touch)
  a__law_barred : Addr
  d__law_barred : FuncData
  F__law_barred : Fun K "_law_barred" "_law_barred" s__law_barred a__law_barred d__law_barred
  b__law_barred : Binds K d__law_barred ["_law_wide", "_law_ahead", "_law_triple", "_law_row", "_law_one"] []
  g__law_barred : mg "_law_barred" = some (.ref a__law_barred)
  a__law_walked : Addr
  d__law_walked : FuncData
  F__law_walked : Fun K "_law_walked" "_law_walked" s__law_walked a__law_walked d__law_walked
  b__law_walked : Binds K d__law_walked ["_law_wide", "_law_floats_here", "_law_standing", "_law_papers"] []
  g__law_walked : mg "_law_walked" = some (.ref a__law_walked)
  a_law : Addr
  d_law : FuncData
  F_law : Fun K "law" "law" s_law a_law d_law
  b_law : Binds K d_law ["_law_script"] []
  g_law : mg "law" = some (.ref a_law)
  z_bool : mg "bool" = none
  z_enumerate : mg "enumerate" = none
  z_int : mg "int" = none
  z_isinstance : mg "isinstance" = none
  z_len : mg "len" = none
  z_list : mg "list" = none
  z_min : mg "min" = none
  z_range : mg "range" = none
  z_str : mg "str" = none
  z_tuple : mg "tuple" = none
def spLaw (K : Fg) : Sp := fun vs H Q _ => ∃ (a : Addr) (ns : List Int), vs = [.ref a] ∧ SqL K H a (ns.map V.int) ∧ ns.length ≤ 63 ∧ ∀ H', Q (.bl true) H'
theorem fn_weak {P : Program} {w : World} {K : Fg} {mg : Str → Option Value} {base : Heap} {k : Nat} {f : Addr} {fd : FuncData} {m : Fz Int → Option Bool}
    (h : FnOk P w K mg base CX0 k f fd ["_law_script"] (PF (τ := Fz Int × Unit) K fun t => m t.1)) (main : ∀ ns : List Int, ns.length ≤ 63 → m (Fz.mk ns) = some true) : FnOk P w K mg base CX0 k f fd ["_law_script"] (spLaw K) :=
  h.imp fun vs H Q E hh => by
    obtain ⟨a, ns, rfl, hs, hl, q⟩ := hh
    exact ⟨H, (Fz.mk ns, ()), true, Evl.Ex.refl _, ⟨.ref a, [], rfl, ⟨a, ns.map V.int, rfl, hs, fl_paired ns⟩, rfl⟩, main ns hl, fun u Kn' H' g r => by cases r; exact q H'⟩
section
variable {P : Program} {w : World} {K : Fg} {mg : Str → Option Value} {base : Heap}
theorem sc_touches : FnScope ["thing", "row", "high"] ["thing", "row", "high"] (defScope s_touches) := ⟨rfl, rfl, rfl, by decide +kernel, rfl, by decide +kernel, by decide +kernel⟩
set_option maxHeartbeats 4000000 in
theorem ok_touches (T : TX K mg) : FnOk P w K mg base CX0 1 T.a_touches T.d_touches ["thing", "row", "high"] (PF (τ := (Str × Int × Int × Int × Int × Unit) × Int × Int × Unit) K (fun t => m_touches t.1 t.2.1 t.2.2.1)) := by
  refine T.F_touches.ok sc_touches (fun vs H Q E h => ?_) (fun cdv A outer s H vs Q E hr h => ?_)
  · obtain ⟨Kn, t, r, ek, h, hf, q⟩ := h
    exact Tp.len h
  · obtain ⟨Kn, t, r_, ek, h, hf, q⟩ := h
    obtain ⟨thing_1, row_2, high_3, u_⟩ := t
    obtain ⟨v_0, rr_, rfl, hv_0, h⟩ := h
    obtain ⟨v_1, rr_, rfl, hv_1, h⟩ := h
    obtain ⟨v_2, rr_, rfl, hv_2, h⟩ := h
    obtain rfl := h
    replace hf : m_touches thing_1 row_2 high_3 = some r_ := hf
    unfold m_touches at hf
    refine ⟨_, (pss_one (ps_ret (pe_and (pe_cmpR op_lt (pe_ix k_ixt (pv 0) pe_int (fun _ _ => rfl)) (pe_op op_add (pv 1) (pv 2)) (nomark _)) (pe_one (pe_cmpR op_lt (pv 1) (pe_op op_add (pe_ix k_ixt (pv 0) pe_int (fun _ _ => rfl)) (pe_ix k_ixt (pv 0) pe_int (fun _ _ => rfl))) (nomark _)))))), ?_⟩
    refine enter (Kn := Kn) (sl := [sv thing_1, sv row_2, sv high_3]) ek ⟨⟨v_0, rfl, hv_0⟩, ⟨v_1, rfl, hv_1⟩, ⟨v_2, rfl, hv_2⟩, trivial⟩ ?_
    have q := rt_of q
    cases hf
    exact sb_ret (ev_andV (ev_op (ev_op (ev_var (i := 0) rfl) (ev_int 2) (r2_tix (n := 2) (At.s _ (At.s _ (At.z _ _))))) (ev_op (ev_var (i := 1) rfl) (ev_var (i := 2) rfl) r2_add) r2_lt) (fun _ => (ev_op (ev_var (i := 1) rfl) (ev_op (ev_op (ev_var (i := 0) rfl) (ev_int 2) (r2_tix (n := 2) (At.s _ (At.s _ (At.z _ _))))) (ev_op (ev_var (i := 0) rfl) (ev_int 4) (r2_tix (n := 4) (At.s _ (At.s _ (At.s _ (At.s _ (At.z _ _))))))) r2_add) r2_lt))) q (List.Sublist.refl _)
theorem sc_edges : FnScope ["width", "lefts", "rights", "row", "high", "left", "thing", "right"] ["width", "lefts", "rights", "row", "high"] (defScope s_edges) := ⟨rfl, rfl, rfl, by decide +kernel, rfl, by decide +kernel, by decide +kernel⟩
set_option maxHeartbeats 4000000 in
theorem ok_edges (T : TX K mg) : FnOk P w K mg base CX0 2 T.a_edges T.d_edges ["width", "lefts", "rights", "row", "high"] (PF (τ := Int × (List (Str × Int × Int × Int × Int × Unit)) × (List (Str × Int × Int × Int × Int × Unit)) × Int × Int × Unit) K (fun t => m_edges t.1 t.2.1 t.2.2.1 t.2.2.2.1 t.2.2.2.2.1)) := by
  refine T.F_edges.ok sc_edges (fun vs H Q E h => ?_) (fun cdv A outer s H vs Q E hr h => ?_)
  · obtain ⟨Kn, t, r, ek, h, hf, q⟩ := h
    exact Tp.len h
  · obtain ⟨Kn, t, r_, ek, h, hf, q⟩ := h
    obtain ⟨width_4, lefts_5, rights_6, row_7, high_8, u_⟩ := t
    obtain ⟨v_0, rr_, rfl, hv_0, h⟩ := h
    obtain ⟨v_1, rr_, rfl, hv_1, h⟩ := h
    obtain ⟨v_2, rr_, rfl, hv_2, h⟩ := h
    obtain ⟨v_3, rr_, rfl, hv_3, h⟩ := h
    obtain ⟨v_4, rr_, rfl, hv_4, h⟩ := h
    obtain rfl := h
    replace hf : m_edges width_4 lefts_5 rights_6 row_7 high_8 = some r_ := hf
    unfold m_edges at hf
    refine ⟨_, (pss_cons (ps_set (i := 5) sc_edges.nd rfl (.inl rfl) (pe_tup (pa_cons pe_int (pa_cons pe_str pa_nil))))
      (pss_cons (ps_for PassesOwn.never rfl (kpi_list (pv 1)) (pg_name (i := 6) sc_edges.nd rfl (.inl rfl)) (pss_one (ps_if (PW.pt (pw_and (pt_val (pe_call (ok_touches T) hr (by rfl) T.g_touches T.F_touches.kp T.b_touches .nil pass0 (pa_cons (pv 6) (pa_cons (pv 3) (pa_cons (pv 4) pa_nil))))) (pw_and1 (pt_cmpR op_gt (pe_op op_add (pe_ix k_ixt (pv 6) pe_int (fun _ _ => rfl)) (pe_ix k_ixt (pv 6) pe_int (fun _ _ => rfl))) (pe_ix k_ixt (pv 5) pe_int (fun _ _ => rfl)) (nomark _))))) (pss_one (ps_set (i := 5) sc_edges.nd rfl (.inl rfl) (pe_tup (pa_cons (pe_op op_add (pe_ix k_ixt (pv 6) pe_int (fun _ _ => rfl)) (pe_ix k_ixt (pv 6) pe_int (fun _ _ => rfl))) (pa_cons (pe_ix k_ixt (pv 6) pe_int (fun _ _ => rfl)) pa_nil))))) pss_nil)))
      (pss_cons (ps_set (i := 7) sc_edges.nd rfl (.inl rfl) (pe_tup (pa_cons (pv 0) (pa_cons pe_str pa_nil))))
      (pss_cons (ps_for PassesOwn.never rfl (kpi_list (pv 2)) (pg_name (i := 6) sc_edges.nd rfl (.inl rfl)) (pss_one (ps_if (PW.pt (pw_and (pt_val (pe_call (ok_touches T) hr (by rfl) T.g_touches T.F_touches.kp T.b_touches .nil pass0 (pa_cons (pv 6) (pa_cons (pv 3) (pa_cons (pv 4) pa_nil))))) (pw_and1 (pt_cmpR op_lt (pe_ix k_ixt (pv 6) pe_int (fun _ _ => rfl)) (pe_ix k_ixt (pv 7) pe_int (fun _ _ => rfl)) (nomark _))))) (pss_one (ps_set (i := 7) sc_edges.nd rfl (.inl rfl) (pe_tup (pa_cons (pe_ix k_ixt (pv 6) pe_int (fun _ _ => rfl)) (pa_cons (pe_ix k_ixt (pv 6) pe_int (fun _ _ => rfl)) pa_nil))))) pss_nil)))
      (pss_one (ps_ret (pe_tup (pa_cons (pv 5) (pa_cons (pv 7) pa_nil))))))))), ?_⟩
    refine enter (Kn := Kn) (sl := [sv width_4, sv lefts_5, sv rights_6, sv row_7, sv high_8, .any, .any, .any]) ek ⟨⟨v_0, rfl, hv_0⟩, ⟨v_1, rfl, hv_1⟩, ⟨v_2, rfl, hv_2⟩, ⟨v_3, rfl, hv_3⟩, ⟨v_4, rfl, hv_4⟩, trivial, trivial, trivial, trivial⟩ ?_
    have q := rt_of q
    obtain ⟨left_9, h_left_9, hf⟩ := bind_some hf
    refine SB.seqB (fun kx_ => sb_asg (sl' := [sv width_4, sv lefts_5, sv rights_6, sv row_7, sv high_8, sv left_9, .any, .any]) rfl (EV.cast (ev_tup (ea_cons (ev_int 0) (ea_cons (ev_str ("" : Str)) ea_nil))) (Option.some.inj h_left_9)) (kx_ _ _ ?_))
    obtain ⟨left_22, h_tot_16, hf⟩ := bind_some hf
    refine SB.seqB (fun kx_23 => sb_for (β := (Str × Int × Int × Int × Int × Unit)) (Sx := (Int × Str × Unit)) (fun s => [sv width_4, sv lefts_5, sv rights_6, sv row_7, sv high_8, sv s, .any, .any]) (fun s => []) (fun x s => [sv width_4, sv lefts_5, sv rights_6, sv row_7, sv high_8, sv s, sv x, .any]) [6] (fun xs s => forS (m_edges_L1 row_7 high_8) xs s = some left_22) left_9 (IT.m (it_list (ev_var (i := 1) rfl))) h_tot_16 (.keep (.keep (.keep (.keep (.keep (.keep (.keep (.keep .nil)))))))) (List.Sublist.refl _) (fun x s => (gt_name rfl)) ?_ ?_)
    · intro Kn1 b1 thing_11 rest_ left_10 hP_13 N_ hN_12
      obtain ⟨c_, hc_14, hP_13⟩ := bind_some hP_13
      have q_15 := q.base b1
      unfold m_edges_L1 at hc_14
      refine SB.is (sl' := [sv width_4, sv lefts_5, sv rights_6, sv row_7, sv high_8, sv left_10, sv thing_11, .any]) (ow1 := []) rfl rfl ?_
      obtain ⟨r_18, h_r_18, hc_14⟩ := bind_some hc_14
      refine sb_if (b := (r_18 && (decide (left_10.1 < (thing_11.2.1 + thing_11.2.2.2.1))))) (et_and (et_B (ev_call (ea_cons (ev_var (i := 6) rfl) (ea_cons (ev_var (i := 3) rfl) (ea_cons (ev_var (i := 4) rfl) ea_nil))) h_r_18)) (fun _ => (et_test (ev_op (ev_op (ev_op (ev_var (i := 6) rfl) (ev_int 1) (r2_tix (n := 1) (At.s _ (At.z _ _)))) (ev_op (ev_var (i := 6) rfl) (ev_int 3) (r2_tix (n := 3) (At.s _ (At.s _ (At.s _ (At.z _ _)))))) r2_add) (ev_op (ev_var (i := 5) rfl) (ev_int 0) (r2_tix (n := 0) (At.z _ _))) r2_gt)))) (fun hb_19 => ?_) (fun hb_19 => ?_)
      · have hc_14 := ite_t hb_19 hc_14
        obtain ⟨left_21, h_left_21, hc_14⟩ := bind_some hc_14
        refine sb_asg (sl' := [sv width_4, sv lefts_5, sv rights_6, sv row_7, sv high_8, sv left_21, sv thing_11, .any]) rfl (EV.cast (ev_tup (ea_cons (ev_op (ev_op (ev_var (i := 6) rfl) (ev_int 1) (r2_tix (n := 1) (At.s _ (At.z _ _)))) (ev_op (ev_var (i := 6) rfl) (ev_int 3) (r2_tix (n := 3) (At.s _ (At.s _ (At.s _ (At.z _ _)))))) r2_add) (ea_cons (ev_op (ev_var (i := 6) rfl) (ev_int 0) (r2_tix (n := 0) (At.z _ _))) ea_nil))) (Option.some.inj h_left_21)) ?_
        cases hc_14
        exact fun σ Kn H s => hN_12 _ hP_13 σ Kn H ((s.le (.keep (.keep (.keep (.keep (.keep (.keep (.drop (.keep .nil))))))))).sub (List.Sublist.refl _))
      · have hc_14 := ite_f hb_19 hc_14
        refine sb_nx ?_
        cases hc_14
        exact fun σ Kn H s => hN_12 _ hP_13 σ Kn H ((s.le (.keep (.keep (.keep (.keep (.keep (.keep (.drop (.keep .nil))))))))).sub (List.Sublist.refl _))
    · intro s_ h0
      cases h0
      refine kx_23 _ _ ?_
      refine SB.is (sl' := [sv width_4, sv lefts_5, sv rights_6, sv row_7, sv high_8, sv left_22, .any, .any]) (ow1 := []) rfl rfl ?_
      obtain ⟨right_24, h_right_24, hf⟩ := bind_some hf
      refine SB.seqB (fun kx_ => sb_asg (sl' := [sv width_4, sv lefts_5, sv rights_6, sv row_7, sv high_8, sv left_22, .any, sv right_24]) rfl (EV.cast (ev_tup (ea_cons (ev_var (i := 0) rfl) (ea_cons (ev_str ("" : Str)) ea_nil))) (Option.some.inj h_right_24)) (kx_ _ _ ?_))
      obtain ⟨right_37, h_tot_31, hf⟩ := bind_some hf
      refine SB.seqB (fun kx_38 => sb_for (β := (Str × Int × Int × Int × Int × Unit)) (Sx := (Int × Str × Unit)) (fun s => [sv width_4, sv lefts_5, sv rights_6, sv row_7, sv high_8, sv left_22, .any, sv s]) (fun s => []) (fun x s => [sv width_4, sv lefts_5, sv rights_6, sv row_7, sv high_8, sv left_22, sv x, sv s]) [6] (fun xs s => forS (m_edges_L2 row_7 high_8) xs s = some right_37) right_24 (IT.m (it_list (ev_var (i := 2) rfl))) h_tot_31 (.keep (.keep (.keep (.keep (.keep (.keep (.keep (.keep .nil)))))))) (List.Sublist.refl _) (fun x s => (gt_name rfl)) ?_ ?_)
      · intro Kn1 b1 thing_26 rest_ right_25 hP_28 N_ hN_27
        obtain ⟨c_, hc_29, hP_28⟩ := bind_some hP_28
        have q_30 := q.base b1
        unfold m_edges_L2 at hc_29
        refine SB.is (sl' := [sv width_4, sv lefts_5, sv rights_6, sv row_7, sv high_8, sv left_22, sv thing_26, sv right_25]) (ow1 := []) rfl rfl ?_
        obtain ⟨r_33, h_r_33, hc_29⟩ := bind_some hc_29
        refine sb_if (b := (r_33 && (decide (thing_26.2.1 < right_25.1)))) (et_and (et_B (ev_call (ea_cons (ev_var (i := 6) rfl) (ea_cons (ev_var (i := 3) rfl) (ea_cons (ev_var (i := 4) rfl) ea_nil))) h_r_33)) (fun _ => (et_test (ev_op (ev_op (ev_var (i := 6) rfl) (ev_int 1) (r2_tix (n := 1) (At.s _ (At.z _ _)))) (ev_op (ev_var (i := 7) rfl) (ev_int 0) (r2_tix (n := 0) (At.z _ _))) r2_lt)))) (fun hb_34 => ?_) (fun hb_34 => ?_)
        · have hc_29 := ite_t hb_34 hc_29
          obtain ⟨right_36, h_right_36, hc_29⟩ := bind_some hc_29
          refine sb_asg (sl' := [sv width_4, sv lefts_5, sv rights_6, sv row_7, sv high_8, sv left_22, sv thing_26, sv right_36]) rfl (EV.cast (ev_tup (ea_cons (ev_op (ev_var (i := 6) rfl) (ev_int 1) (r2_tix (n := 1) (At.s _ (At.z _ _)))) (ea_cons (ev_op (ev_var (i := 6) rfl) (ev_int 0) (r2_tix (n := 0) (At.z _ _))) ea_nil))) (Option.some.inj h_right_36)) ?_
          cases hc_29
          exact fun σ Kn H s => hN_27 _ hP_28 σ Kn H ((s.le (.keep (.keep (.keep (.keep (.keep (.keep (.drop (.keep .nil))))))))).sub (List.Sublist.refl _))
        · have hc_29 := ite_f hb_34 hc_29
          refine sb_nx ?_
          cases hc_29
          exact fun σ Kn H s => hN_27 _ hP_28 σ Kn H ((s.le (.keep (.keep (.keep (.keep (.keep (.keep (.drop (.keep .nil))))))))).sub (List.Sublist.refl _))
      · intro s_ h0
        cases h0
        refine kx_38 _ _ ?_
        refine SB.is (sl' := [sv width_4, sv lefts_5, sv rights_6, sv row_7, sv high_8, sv left_22, .any, sv right_37]) (ow1 := []) rfl rfl ?_
        cases hf
        exact sb_ret (ev_tup (ea_cons (ev_var (i := 5) rfl) (ea_cons (ev_var (i := 7) rfl) ea_nil))) q (List.Sublist.refl _)
theorem sc_first_end : FnScope ["things", "left", "right", "thing"] ["things", "left", "right"] (defScope s_first_end) := ⟨rfl, rfl, rfl, by decide +kernel, rfl, by decide +kernel, by decide +kernel⟩
set_option maxHeartbeats 4000000 in
theorem ok_first_end (T : TX K mg) : FnOk P w K mg base CX0 1 T.a_first_end T.d_first_end ["things", "left", "right"] (PF (τ := (List (Str × Int × Int × Int × Int × Unit)) × Str × Str × Unit) K (fun t => m_first_end t.1 t.2.1 t.2.2.1)) := by
  refine T.F_first_end.ok sc_first_end (fun vs H Q E h => ?_) (fun cdv A outer s H vs Q E hr h => ?_)
  · obtain ⟨Kn, t, r, ek, h, hf, q⟩ := h
    exact Tp.len h
  · obtain ⟨Kn, t, r_, ek, h, hf, q⟩ := h
    obtain ⟨things_39, left_40, right_41, u_⟩ := t
    obtain ⟨v_0, rr_, rfl, hv_0, h⟩ := h
    obtain ⟨v_1, rr_, rfl, hv_1, h⟩ := h
    obtain ⟨v_2, rr_, rfl, hv_2, h⟩ := h
    obtain rfl := h
    replace hf : m_first_end things_39 left_40 right_41 = some r_ := hf
    unfold m_first_end at hf
    refine ⟨_, (pss_one (ps_ret (pe_callB k_minL (by rfl) T.z_min (by decide +kernel) (pa_cons (pe_lc (own := [("thing", 3)]) (g := gName 3) (by rfl) sc_first_end.nd (kpi_list (pv 0)) (blkOk_by (own := [("thing", 3)]) (N := ["things", "left", "right", "thing"]) (sc := defScope s_first_end) (by decide +kernel)) (fun _ _ _ _ _ => (pg_name (i := 3) sc_first_end.nd rfl (Or.inl rfl))) (fun _ _ _ _ _ => pts_one (PW.pt (pw_or (pt_cmpR op_eq (pe_ix k_ixt (pv 3) pe_int (fun _ _ => rfl)) (pv 1) (nomark _)) (pw_or1 (pt_cmpR op_eq (pe_ix k_ixt (pv 3) pe_int (fun _ _ => rfl)) (pv 2) (nomark _)))))) (fun _ _ _ _ _ => (pe_op op_add (pe_ix k_ixt (pv 3) pe_int (fun _ _ => rfl)) (pe_ix k_ixt (pv 3) pe_int (fun _ _ => rfl))))) pa_nil)))), ?_⟩
    refine enter (Kn := Kn) (sl := [sv things_39, sv left_40, sv right_41, .any]) ek ⟨⟨v_0, rfl, hv_0⟩, ⟨v_1, rfl, hv_1⟩, ⟨v_2, rfl, hv_2⟩, trivial, trivial⟩ ?_
    have q := rt_of q
    obtain ⟨zs_43, h_zs_43, hf⟩ := bind_some hf
    obtain ⟨min_44, h_min_44, hf⟩ := bind_some hf
    cases hf
    exact sb_ret (ev_cb (ea_cons (EN.ev (en_lc (js := [3]) (fun x => [sv things_39, sv left_40, sv right_41, sv x]) h_zs_43 (it_list (ev_var (i := 0) rfl)) (anyAt_of (by rfl)) (fun x => (gt_name rfl)) (sub_of (by rfl)) (fun _ _ x b h => by obtain ⟨thing_42, hx_⟩ : ∃ y, y = x := ⟨x, rfl⟩; subst hx_; have hz_ := Option.some.inj h; subst hz_; exact ET.is (sl' := [sv things_39, sv left_40, sv right_41, sv thing_42]) rfl (et_or (et_test (ev_op (ev_op (ev_var (i := 3) rfl) (ev_int 0) (r2_tix (n := 0) (At.z _ _))) (ev_var (i := 1) rfl) r2_eqS)) (fun _ => (et_test (ev_op (ev_op (ev_var (i := 3) rfl) (ev_int 0) (r2_tix (n := 0) (At.z _ _))) (ev_var (i := 2) rfl) r2_eqS))))) (fun _ _ x z _ h => by obtain ⟨thing_42, hx_⟩ : ∃ y, y = x := ⟨x, rfl⟩; subst hx_; have hz_ := Option.some.inj h; subst hz_; exact EV.is (sl' := [sv things_39, sv left_40, sv right_41, sv thing_42]) rfl (ev_op (ev_op (ev_var (i := 3) rfl) (ev_int 2) (r2_tix (n := 2) (At.s _ (At.s _ (At.z _ _))))) (ev_op (ev_var (i := 3) rfl) (ev_int 4) (r2_tix (n := 4) (At.s _ (At.s _ (At.s _ (At.s _ (At.z _ _))))))) r2_add)))) ea_nil) (rc_minL h_min_44)) q (List.Sublist.refl _)
theorem sc_stand_floats : FnScope ["width", "floats", "name", "side", "wide", "high", "lefts", "rights", "standing", "papers", "row", "paper", "left", "right", "thing"] ["width", "floats"] (defScope s_stand_floats) := ⟨rfl, rfl, rfl, by decide +kernel, rfl, by decide +kernel, by decide +kernel⟩
set_option maxHeartbeats 4000000 in
theorem ok_stand_floats (T : TX K mg) : FnOk P w K mg base CX0 3 T.a_stand_floats T.d_stand_floats ["width", "floats"] (PF (τ := Int × (List (Str × Str × Int × Int × Unit)) × Unit) K (fun t => m_stand_floats t.1 t.2.1)) := by
  refine T.F_stand_floats.ok sc_stand_floats (fun vs H Q E h => ?_) (fun cdv A outer s H vs Q E hr h => ?_)
  · obtain ⟨Kn, t, r, ek, h, hf, q⟩ := h
    exact Tp.len h
  · obtain ⟨Kn, t, r_, ek, h, hf, q⟩ := h
    obtain ⟨width_45, floats_46, u_⟩ := t
    obtain ⟨v_0, rr_, rfl, hv_0, h⟩ := h
    obtain ⟨v_1, rr_, rfl, hv_1, h⟩ := h
    obtain rfl := h
    replace hf : m_stand_floats width_45 floats_46 = some r_ := hf
    unfold m_stand_floats at hf
    refine ⟨_, (pss_cons (ps_for PassesOwn.never rfl (kpi_list (pv 1)) (kpg_tup (pgs_cons (pg_name (i := 2) sc_stand_floats.nd rfl (.inl rfl)) (pgs_cons (pg_name (i := 3) sc_stand_floats.nd rfl (.inl rfl)) (pgs_cons (pg_name (i := 4) sc_stand_floats.nd rfl (.inl rfl)) (pgs_cons (pg_name (i := 5) sc_stand_floats.nd rfl (.inl rfl)) pgs_nil))))) (pss_one (ps_if (pt_cmpR op_gt (pv 4) (pv 0) (nomark _)) (pss_one ps_never) pss_nil)))
      (pss_cons (ps_set (i := 6) sc_stand_floats.nd rfl (.inl rfl) (pe_lst pa_nil))
      (pss_cons (ps_set (i := 7) sc_stand_floats.nd rfl (.inl rfl) (pe_lst pa_nil))
      (pss_cons (ps_set (i := 8) sc_stand_floats.nd rfl (.inl rfl) (pe_lst pa_nil))
      (pss_cons (ps_set (i := 9) sc_stand_floats.nd rfl (.inl rfl) (pe_lst pa_nil))
      (pss_cons (ps_set (i := 10) sc_stand_floats.nd rfl (.inl rfl) pe_int)
      (pss_cons (ps_for PassesOwn.never rfl (kpi_list (pv 1)) (kpg_tup (pgs_cons (pg_name (i := 2) sc_stand_floats.nd rfl (.inl rfl)) (pgs_cons (pg_name (i := 3) sc_stand_floats.nd rfl (.inl rfl)) (pgs_cons (pg_name (i := 4) sc_stand_floats.nd rfl (.inl rfl)) (pgs_cons (pg_name (i := 5) sc_stand_floats.nd rfl (.inl rfl)) pgs_nil))))) (pss_cons (ps_set (i := 11) sc_stand_floats.nd rfl (.inl rfl) (pe_lst pa_nil))
      (pss_cons (ps_asg (pe_call (ok_edges T) hr (by rfl) T.g_edges T.F_edges.kp T.b_edges .nil pass0 (pa_cons (pv 0) (pa_cons (pv 6) (pa_cons (pv 7) (pa_cons (pv 10) (pa_cons (pv 5) pa_nil)))))) (kpg_tup (pgs_cons (pg_name (i := 12) sc_stand_floats.nd rfl (.inl rfl)) (pgs_cons (pg_name (i := 13) sc_stand_floats.nd rfl (.inl rfl)) pgs_nil))))
      (pss_cons (ps_while PassesOwn.never (pt_cmpR op_lt (pe_op op_sub (pe_ix k_ixt (pv 13) pe_int (fun _ _ => rfl)) (pe_ix k_ixt (pv 12) pe_int (fun _ _ => rfl))) (pv 4) (nomark _)) (pss_cons (ps_set (i := 10) sc_stand_floats.nd rfl (.inl rfl) (pe_call (ok_first_end T) (hr.mono (by decide)) (by rfl) T.g_first_end T.F_first_end.kp T.b_first_end .nil pass0 (pa_cons (pv 8) (pa_cons (pe_ix k_ixt (pv 12) pe_int (fun _ _ => rfl)) (pa_cons (pe_ix k_ixt (pv 13) pe_int (fun _ _ => rfl)) pa_nil)))))
      (pss_cons (ps_expr (pe_bm PySem.F.plainAttrs_list PySem.F.slot_list_append PySem.F.type_list_append mt_append (pv 11) (pa_cons (pe_tup (pa_cons (pv 10) (pa_cons (pe_ix k_ixt (pv 12) pe_int (fun _ _ => rfl)) (pa_cons (pe_ix k_ixt (pv 13) pe_int (fun _ _ => rfl)) pa_nil)))) pa_nil)))
      (pss_one (ps_asg (pe_call (ok_edges T) hr (by rfl) T.g_edges T.F_edges.kp T.b_edges .nil pass0 (pa_cons (pv 0) (pa_cons (pv 6) (pa_cons (pv 7) (pa_cons (pv 10) (pa_cons (pv 5) pa_nil)))))) (kpg_tup (pgs_cons (pg_name (i := 12) sc_stand_floats.nd rfl (.inl rfl)) (pgs_cons (pg_name (i := 13) sc_stand_floats.nd rfl (.inl rfl)) pgs_nil))))))))
      (Evl.pss_cut (ps_if (pt_cmpR op_eq (pv 3) pe_str (nomark _)) (pss_cons (ps_set (i := 14) sc_stand_floats.nd rfl (.inl rfl) (pe_tup (pa_cons (pv 2) (pa_cons (pe_ix k_ixt (pv 12) pe_int (fun _ _ => rfl)) (pa_cons (pv 10) (pa_cons (pv 4) (pa_cons (pv 5) pa_nil)))))))
      (pss_one (ps_expr (pe_bm PySem.F.plainAttrs_list PySem.F.slot_list_append PySem.F.type_list_append mt_append (pv 6) (pa_cons (pv 14) pa_nil))))) (pss_cons (ps_set (i := 14) sc_stand_floats.nd rfl (.inl rfl) (pe_tup (pa_cons (pv 2) (pa_cons (pe_op op_sub (pe_ix k_ixt (pv 13) pe_int (fun _ _ => rfl)) (pv 4)) (pa_cons (pv 10) (pa_cons (pv 4) (pa_cons (pv 5) pa_nil)))))))
      (pss_one (ps_expr (pe_bm PySem.F.plainAttrs_list PySem.F.slot_list_append PySem.F.type_list_append mt_append (pv 7) (pa_cons (pv 14) pa_nil))))))
      (pss_cons (ps_expr (pe_bm PySem.F.plainAttrs_list PySem.F.slot_list_append PySem.F.type_list_append mt_append (pv 8) (pa_cons (pv 14) pa_nil)))
      (pss_one (ps_expr (pe_bm PySem.F.plainAttrs_list PySem.F.slot_list_append PySem.F.type_list_append mt_append (pv 9) (pa_cons (pv 11) pa_nil))))))))))
      (pss_one (ps_ret (pe_tup (pa_cons (pv 8) (pa_cons (pv 9) pa_nil)))))))))))), ?_⟩
    refine enter (Kn := Kn) (sl := [sv width_45, sv floats_46, .any, .any, .any, .any, .any, .any, .any, .any, .any, .any, .any, .any, .any]) ek ⟨⟨v_0, rfl, hv_0⟩, ⟨v_1, rfl, hv_1⟩, trivial, trivial, trivial, trivial, trivial, trivial, trivial, trivial, trivial, trivial, trivial, trivial, trivial, trivial⟩ ?_
    have q := rt_of q
    obtain ⟨_, h_tot_55, hf⟩ := bind_some hf
    refine SB.seqB (fun kx_59 => sb_for (β := (Str × Str × Int × Int × Unit)) (Sx := Unit) (fun s => [sv width_45, sv floats_46, .any, .any, .any, .any, .any, .any, .any, .any, .any, .any, .any, .any, .any]) (fun s => []) (fun x s => [sv width_45, sv floats_46, sv x.1, sv x.2.1, sv x.2.2.1, sv x.2.2.2.1, .any, .any, .any, .any, .any, .any, .any, .any, .any]) [2, 3, 4, 5] (fun xs s => forS (m_stand_floats_L1 width_45) xs s = some ()) () (IT.m (it_list (ev_var (i := 1) rfl))) h_tot_55 (.keep (.keep (.keep (.keep (.keep (.keep (.keep (.keep (.keep (.keep (.keep (.keep (.keep (.keep (.keep .nil))))))))))))))) (List.Sublist.refl _) (fun x s => (gt_tup (gts_cons (gt_name rfl) (gts_cons (gt_name rfl) (gts_cons (gt_name rfl) (gts_cons (gt_name rfl) gts_nil)))))) ?_ ?_)
    · intro Kn1 b1 x_ rest_ s_ hP_52 N_ hN_51
      obtain ⟨name_47, side_48, wide_49, high_50, _⟩ := x_
      obtain ⟨c_, hc_53, hP_52⟩ := bind_some hP_52
      have q_54 := q.base b1
      unfold m_stand_floats_L1 at hc_53
      refine SB.is (sl' := [sv width_45, sv floats_46, sv name_47, sv side_48, sv wide_49, sv high_50, .any, .any, .any, .any, .any, .any, .any, .any, .any]) (ow1 := []) rfl rfl ?_
      refine sb_if (b := (decide (width_45 < wide_49))) (et_test (ev_op (ev_var (i := 4) rfl) (ev_var (i := 0) rfl) r2_gt)) (fun hb_57 => ?_) (fun hb_57 => ?_)
      · have hc_53 := ite_t hb_57 hc_53
        cases hc_53
      · have hc_53 := ite_f hb_57 hc_53
        refine sb_nx ?_
        cases hc_53
        exact fun σ Kn H s => hN_51 _ hP_52 σ Kn H ((s.le (.keep (.keep (.drop (.drop (.drop (.drop (.keep (.keep (.keep (.keep (.keep (.keep (.keep (.keep (.keep .nil)))))))))))))))).sub (List.Sublist.refl _))
    · intro s_ h0
      cases h0
      refine kx_59 _ _ ?_
      refine SB.is (sl' := [sv width_45, sv floats_46, .any, .any, .any, .any, .any, .any, .any, .any, .any, .any, .any, .any, .any]) (ow1 := []) rfl rfl ?_
      obtain ⟨lefts_60, h_lefts_60, hf⟩ := bind_some hf
      refine SB.seqB (fun kx_ => sb_asgO (sl' := fun p_lefts_60 => [sv width_45, sv floats_46, .any, .any, .any, .any, .at p_lefts_60, .any, .any, .any, .any, .any, .any, .any, .any]) (fun _ => rfl) (EN.cast (en_lst el_nil) (Option.some.inj h_lefts_60)) (fun p_lefts_60 => (kx_ _ _ ?_)))
      obtain ⟨rights_61, h_rights_61, hf⟩ := bind_some hf
      refine SB.seqB (fun kx_ => sb_asgO (sl' := fun p_rights_61 => [sv width_45, sv floats_46, .any, .any, .any, .any, .at p_lefts_60, .at p_rights_61, .any, .any, .any, .any, .any, .any, .any]) (fun _ => rfl) (EN.cast (en_lst el_nil) (Option.some.inj h_rights_61)) (fun p_rights_61 => (kx_ _ _ ?_)))
      obtain ⟨standing_62, h_standing_62, hf⟩ := bind_some hf
      refine SB.seqB (fun kx_ => sb_asgO (sl' := fun p_standing_62 => [sv width_45, sv floats_46, .any, .any, .any, .any, .at p_lefts_60, .at p_rights_61, .at p_standing_62, .any, .any, .any, .any, .any, .any]) (fun _ => rfl) (EN.cast (en_lst el_nil) (Option.some.inj h_standing_62)) (fun p_standing_62 => (kx_ _ _ ?_)))
      obtain ⟨papers_63, h_papers_63, hf⟩ := bind_some hf
      refine SB.seqB (fun kx_ => sb_asgO (sl' := fun p_papers_63 => [sv width_45, sv floats_46, .any, .any, .any, .any, .at p_lefts_60, .at p_rights_61, .at p_standing_62, .at p_papers_63, .any, .any, .any, .any, .any]) (fun _ => rfl) (EN.cast (en_lst el_nil) (Option.some.inj h_papers_63)) (fun p_papers_63 => (kx_ _ _ ?_)))
      obtain ⟨row_64, h_row_64, hf⟩ := bind_some hf
      refine SB.seqB (fun kx_ => sb_asg (sl' := [sv width_45, sv floats_46, .any, .any, .any, .any, .at p_lefts_60, .at p_rights_61, .at p_standing_62, .at p_papers_63, sv row_64, .any, .any, .any, .any]) rfl (EV.cast (ev_int 0) (Option.some.inj h_row_64)) (kx_ _ _ ?_))
      obtain ⟨⟨row_115, papers_116, standing_117, rights_118, lefts_119⟩, h_tot_78, hf⟩ := bind_some hf
      refine SB.seqB (fun kx_120 => sb_for (β := (Str × Str × Int × Int × Unit)) (Sx := Int × (List (List (Int × Str × Str × Unit))) × (List (Str × Int × Int × Int × Int × Unit)) × (List (Str × Int × Int × Int × Int × Unit)) × (List (Str × Int × Int × Int × Int × Unit))) (fun s => [sv width_45, sv floats_46, .any, .any, .any, .any, .at p_lefts_60, .at p_rights_61, .at p_standing_62, .at p_papers_63, sv s.1, .any, .any, .any, .any]) (fun s => [ol p_papers_63 s.2.1, ol p_standing_62 s.2.2.1, ol p_rights_61 s.2.2.2.1, ol p_lefts_60 s.2.2.2.2]) (fun x s => [sv width_45, sv floats_46, sv x.1, sv x.2.1, sv x.2.2.1, sv x.2.2.2.1, .at p_lefts_60, .at p_rights_61, .at p_standing_62, .at p_papers_63, sv s.1, .any, .any, .any, .any]) [2, 3, 4, 5] (fun xs s => forS (m_stand_floats_L2 width_45) xs s = some (row_115, papers_116, standing_117, rights_118, lefts_119)) (row_64, papers_63, standing_62, rights_61, lefts_60) (IT.m (it_list (ev_var (i := 1) rfl))) h_tot_78 (.keep (.keep (.keep (.keep (.keep (.keep (.keep (.keep (.keep (.keep (.keep (.keep (.keep (.keep (.keep .nil))))))))))))))) (List.Sublist.refl _) (fun x s => (gt_tup (gts_cons (gt_name rfl) (gts_cons (gt_name rfl) (gts_cons (gt_name rfl) (gts_cons (gt_name rfl) gts_nil)))))) ?_ ?_)
      · intro Kn1 b1 x_ rest_ s_ hP_75 N_ hN_74
        obtain ⟨name_70, side_71, wide_72, high_73, _⟩ := x_
        obtain ⟨row_65, papers_66, standing_67, rights_68, lefts_69⟩ := s_
        obtain ⟨c_, hc_76, hP_75⟩ := bind_some hP_75
        have q_77 := q.base b1
        unfold m_stand_floats_L2 at hc_76
        refine SB.is (sl' := [sv width_45, sv floats_46, sv name_70, sv side_71, sv wide_72, sv high_73, .at p_lefts_60, .at p_rights_61, .at p_standing_62, .at p_papers_63, sv row_65, .any, .any, .any, .any]) (ow1 := [ol p_papers_63 papers_66, ol p_standing_62 standing_67, ol p_rights_61 rights_68, ol p_lefts_60 lefts_69]) rfl rfl ?_
        obtain ⟨paper_79, h_paper_79, hc_76⟩ := bind_some hc_76
        refine SB.seqB (fun kx_ => sb_asgO (sl' := fun p_paper_79 => [sv width_45, sv floats_46, sv name_70, sv side_71, sv wide_72, sv high_73, .at p_lefts_60, .at p_rights_61, .at p_standing_62, .at p_papers_63, sv row_65, .at p_paper_79, .any, .any, .any]) (fun _ => rfl) (EN.cast (en_lst el_nil) (Option.some.inj h_paper_79)) (fun p_paper_79 => (kx_ _ _ ?_)))
        obtain ⟨r_80, h_r_80, hc_76⟩ := bind_some hc_76
        obtain ⟨⟨left_81, right_82, _⟩, h_left_81, hc_76⟩ := bind_some hc_76
        refine SB.seqB (fun kx_ => sb_unp (sl' := [sv width_45, sv floats_46, sv name_70, sv side_71, sv wide_72, sv high_73, .at p_lefts_60, .at p_rights_61, .at p_standing_62, .at p_papers_63, sv row_65, .at p_paper_79, sv left_81, sv right_82, .any]) (EV.cast (ev_borT (i := 6) (j := 4) (sl' := [sv width_45, sv floats_46, sv name_70, sv side_71, sv wide_72, sv high_73, sv lefts_69, .at p_rights_61, .at p_standing_62, .at p_papers_63, sv row_65, .at p_paper_79, .any, .any, .any]) (ow1 := [ol p_paper_79 paper_79, ol p_papers_63 papers_66, ol p_standing_62 standing_67, ol p_rights_61 rights_68]) rfl rfl rfl rfl (ev_borT (i := 7) (j := 3) (sl' := [sv width_45, sv floats_46, sv name_70, sv side_71, sv wide_72, sv high_73, sv lefts_69, sv rights_68, .at p_standing_62, .at p_papers_63, sv row_65, .at p_paper_79, .any, .any, .any]) (ow1 := [ol p_paper_79 paper_79, ol p_papers_63 papers_66, ol p_standing_62 standing_67]) rfl rfl rfl rfl (ev_call (ea_cons (ev_var (i := 0) rfl) (ea_cons (ev_var (i := 6) rfl) (ea_cons (ev_var (i := 7) rfl) (ea_cons (ev_var (i := 10) rfl) (ea_cons (ev_var (i := 5) rfl) ea_nil))))) h_r_80))) (Option.some.inj h_left_81)) (gt_tup (gts_cons (gt_name rfl) (gts_cons (gt_name rfl) gts_nil))) (kx_ _ _ ?_))
        obtain ⟨⟨row_98, left_99, right_100, paper_101⟩, h_tot_91, hc_76⟩ := bind_some hc_76
        obtain ⟨n0_, h_tot_91⟩ := whileF_some h_tot_91
        refine SB.seqB (fun kx_102 => sb_while (Sx := Int × (Int × Str × Unit) × (Int × Str × Unit) × (List (Int × Str × Str × Unit))) (fun s => [sv width_45, sv floats_46, sv name_70, sv side_71, sv wide_72, sv high_73, .at p_lefts_60, .at p_rights_61, .at p_standing_62, .at p_papers_63, sv s.1, .at p_paper_79, sv s.2.1, sv s.2.2.1, .any]) (fun s => [ol p_paper_79 s.2.2.2, ol p_papers_63 papers_66, ol p_standing_62 standing_67, ol p_rights_61 rights_68, ol p_lefts_60 lefts_69]) (fun n s => whileS (m_stand_floats_L3_c width_45 wide_72 high_73 standing_67 rights_68 lefts_69) (m_stand_floats_L3 width_45 wide_72 high_73 standing_67 rights_68 lefts_69) n s = some (row_98, left_99, right_100, paper_101)) n0_ (row_65, left_81, right_82, paper_79) h_tot_91 (.keep (.keep (.keep (.keep (.keep (.keep (.keep (.keep (.keep (.keep (.keep (.keep (.keep (.keep (.keep .nil))))))))))))))) (List.Sublist.refl _) ?_)
        intro n_ s_ hP_88
        obtain ⟨row_83, left_84, right_85, paper_86⟩ := s_
        cases n_ with
        | zero => cases hP_88
        | succ n_ =>
          obtain ⟨b_, ht_, hP_88⟩ := bind_some hP_88
          unfold m_stand_floats_L3_c at ht_
          cases ht_
          refine ⟨_, ET.is (sl' := [sv width_45, sv floats_46, sv name_70, sv side_71, sv wide_72, sv high_73, .at p_lefts_60, .at p_rights_61, .at p_standing_62, .at p_papers_63, sv row_83, .at p_paper_79, sv left_84, sv right_85, .any]) rfl (et_test (ev_op (ev_op (ev_op (ev_var (i := 13) rfl) (ev_int 0) (r2_tix (n := 0) (At.z _ _))) (ev_op (ev_var (i := 12) rfl) (ev_int 0) (r2_tix (n := 0) (At.z _ _))) r2_sub) (ev_var (i := 4) rfl) r2_lt)), fun hb_90 N_ hN_87 => ?_, fun hb_90 => ?_⟩
          · have hP_88 := ite_t hb_90 hP_88
            obtain ⟨c_, hc_89, hP_88⟩ := bind_some hP_88
            unfold m_stand_floats_L3 at hc_89
            refine SB.is (sl' := [sv width_45, sv floats_46, sv name_70, sv side_71, sv wide_72, sv high_73, .at p_lefts_60, .at p_rights_61, .at p_standing_62, .at p_papers_63, sv row_83, .at p_paper_79, sv left_84, sv right_85, .any]) (ow1 := [ol p_paper_79 paper_86, ol p_papers_63 papers_66, ol p_standing_62 standing_67, ol p_rights_61 rights_68, ol p_lefts_60 lefts_69]) rfl rfl ?_
            obtain ⟨r_92, h_r_92, hc_89⟩ := bind_some hc_89
            obtain ⟨row_93, h_row_93, hc_89⟩ := bind_some hc_89
            refine SB.seqB (fun kx_ => sb_asg (sl' := [sv width_45, sv floats_46, sv name_70, sv side_71, sv wide_72, sv high_73, .at p_lefts_60, .at p_rights_61, .at p_standing_62, .at p_papers_63, sv row_93, .at p_paper_79, sv left_84, sv right_85, .any]) rfl (EV.cast (ev_bor (i := 8) (j := 2) (sl' := [sv width_45, sv floats_46, sv name_70, sv side_71, sv wide_72, sv high_73, .at p_lefts_60, .at p_rights_61, sv standing_67, .at p_papers_63, sv row_83, .at p_paper_79, sv left_84, sv right_85, .any]) (ow1 := [ol p_paper_79 paper_86, ol p_papers_63 papers_66, ol p_rights_61 rights_68, ol p_lefts_60 lefts_69]) rfl rfl rfl rfl (ev_call (ea_cons (ev_var (i := 8) rfl) (ea_cons (ev_op (ev_var (i := 12) rfl) (ev_int 1) (r2_tix (n := 1) (At.s _ (At.z _ _)))) (ea_cons (ev_op (ev_var (i := 13) rfl) (ev_int 1) (r2_tix (n := 1) (At.s _ (At.z _ _)))) ea_nil))) h_r_92)) (Option.some.inj h_row_93)) (kx_ _ _ ?_))
            obtain ⟨paper_94, h_paper_94, hc_89⟩ := bind_some hc_89
            refine SB.seqB (fun kx_ => sb_appO (i := 11) (j := 0) rfl rfl (ev_tup (ea_cons (ev_var (i := 10) rfl) (ea_cons (ev_op (ev_var (i := 12) rfl) (ev_int 1) (r2_tix (n := 1) (At.s _ (At.z _ _)))) (ea_cons (ev_op (ev_var (i := 13) rfl) (ev_int 1) (r2_tix (n := 1) (At.s _ (At.z _ _)))) ea_nil)))) h_paper_94 (ow1 := [ol p_paper_79 paper_94, ol p_papers_63 papers_66, ol p_standing_62 standing_67, ol p_rights_61 rights_68, ol p_lefts_60 lefts_69]) rfl (kx_ _ _ ?_))
            obtain ⟨r_95, h_r_95, hc_89⟩ := bind_some hc_89
            obtain ⟨⟨left_96, right_97, _⟩, h_left_96, hc_89⟩ := bind_some hc_89
            refine sb_unp (sl' := [sv width_45, sv floats_46, sv name_70, sv side_71, sv wide_72, sv high_73, .at p_lefts_60, .at p_rights_61, .at p_standing_62, .at p_papers_63, sv row_93, .at p_paper_79, sv left_96, sv right_97, .any]) (EV.cast (ev_borT (i := 6) (j := 4) (sl' := [sv width_45, sv floats_46, sv name_70, sv side_71, sv wide_72, sv high_73, sv lefts_69, .at p_rights_61, .at p_standing_62, .at p_papers_63, sv row_93, .at p_paper_79, sv left_84, sv right_85, .any]) (ow1 := [ol p_paper_79 paper_94, ol p_papers_63 papers_66, ol p_standing_62 standing_67, ol p_rights_61 rights_68]) rfl rfl rfl rfl (ev_borT (i := 7) (j := 3) (sl' := [sv width_45, sv floats_46, sv name_70, sv side_71, sv wide_72, sv high_73, sv lefts_69, sv rights_68, .at p_standing_62, .at p_papers_63, sv row_93, .at p_paper_79, sv left_84, sv right_85, .any]) (ow1 := [ol p_paper_79 paper_94, ol p_papers_63 papers_66, ol p_standing_62 standing_67]) rfl rfl rfl rfl (ev_call (ea_cons (ev_var (i := 0) rfl) (ea_cons (ev_var (i := 6) rfl) (ea_cons (ev_var (i := 7) rfl) (ea_cons (ev_var (i := 10) rfl) (ea_cons (ev_var (i := 5) rfl) ea_nil))))) h_r_95))) (Option.some.inj h_left_96)) (gt_tup (gts_cons (gt_name rfl) (gts_cons (gt_name rfl) gts_nil))) ?_
            cases hc_89
            exact fun σ Kn H s => hN_87 _ _ (Nat.lt_succ_self _) hP_88 σ Kn H ((s.le (.keep (.keep (.keep (.keep (.keep (.keep (.keep (.keep (.keep (.keep (.keep (.keep (.keep (.keep (.keep .nil)))))))))))))))).sub (List.Sublist.refl _))
          · have hP_88 := ite_f hb_90 hP_88
            cases hP_88
            refine kx_102 _ _ ?_
            refine SB.is (sl' := [sv width_45, sv floats_46, sv name_70, sv side_71, sv wide_72, sv high_73, .at p_lefts_60, .at p_rights_61, .at p_standing_62, .at p_papers_63, sv row_98, .at p_paper_79, sv left_99, sv right_100, .any]) (ow1 := [ol p_paper_79 paper_101, ol p_papers_63 papers_66, ol p_standing_62 standing_67, ol p_rights_61 rights_68, ol p_lefts_60 lefts_69]) rfl rfl ?_
            obtain ⟨⟨thing_109, rights_110, lefts_111⟩, hj_103, hc_76⟩ := bind_some hc_76
            refine SB.cutB (sl' := [sv width_45, sv floats_46, sv name_70, sv side_71, sv wide_72, sv high_73, .at p_lefts_60, .at p_rights_61, .at p_standing_62, .at p_papers_63, sv row_98, .at p_paper_79, sv left_99, sv right_100, sv thing_109]) (ow1 := [ol p_paper_79 paper_101, ol p_papers_63 papers_66, ol p_standing_62 standing_67, ol p_rights_61 rights_110, ol p_lefts_60 lefts_111]) (fun km_112 => sb_if (b := (decide (side_71 = ("left" : Str)))) (et_test (ev_op (ev_var (i := 3) rfl) (ev_str ("left" : Str)) r2_eqS)) (fun hb_104 => ?_) (fun hb_104 => ?_)) ?_
            · have hj_103 := ite_t hb_104 hj_103
              obtain ⟨thing_105, h_thing_105, hj_103⟩ := bind_some hj_103
              refine SB.seqB (fun kx_ => sb_asg (sl' := [sv width_45, sv floats_46, sv name_70, sv side_71, sv wide_72, sv high_73, .at p_lefts_60, .at p_rights_61, .at p_standing_62, .at p_papers_63, sv row_98, .at p_paper_79, sv left_99, sv right_100, sv thing_105]) rfl (EV.cast (ev_tup (ea_cons (ev_var (i := 2) rfl) (ea_cons (ev_op (ev_var (i := 12) rfl) (ev_int 0) (r2_tix (n := 0) (At.z _ _))) (ea_cons (ev_var (i := 10) rfl) (ea_cons (ev_var (i := 4) rfl) (ea_cons (ev_var (i := 5) rfl) ea_nil)))))) (Option.some.inj h_thing_105)) (kx_ _ _ ?_))
              obtain ⟨lefts_106, h_lefts_106, hj_103⟩ := bind_some hj_103
              refine sb_appO (i := 6) (j := 4) rfl rfl (ev_var (i := 14) rfl) h_lefts_106 (ow1 := [ol p_paper_79 paper_101, ol p_papers_63 papers_66, ol p_standing_62 standing_67, ol p_rights_61 rights_68, ol p_lefts_60 lefts_106]) rfl ?_
              cases hj_103
              exact km_112 _ _ (.keep (.keep (.keep (.keep (.keep (.keep (.keep (.keep (.keep (.keep (.keep (.keep (.keep (.keep (.keep .nil))))))))))))))) (List.Sublist.refl _)
            · have hj_103 := ite_f hb_104 hj_103
              obtain ⟨thing_107, h_thing_107, hj_103⟩ := bind_some hj_103
              refine SB.seqB (fun kx_ => sb_asg (sl' := [sv width_45, sv floats_46, sv name_70, sv side_71, sv wide_72, sv high_73, .at p_lefts_60, .at p_rights_61, .at p_standing_62, .at p_papers_63, sv row_98, .at p_paper_79, sv left_99, sv right_100, sv thing_107]) rfl (EV.cast (ev_tup (ea_cons (ev_var (i := 2) rfl) (ea_cons (ev_op (ev_op (ev_var (i := 13) rfl) (ev_int 0) (r2_tix (n := 0) (At.z _ _))) (ev_var (i := 4) rfl) r2_sub) (ea_cons (ev_var (i := 10) rfl) (ea_cons (ev_var (i := 4) rfl) (ea_cons (ev_var (i := 5) rfl) ea_nil)))))) (Option.some.inj h_thing_107)) (kx_ _ _ ?_))
              obtain ⟨rights_108, h_rights_108, hj_103⟩ := bind_some hj_103
              refine sb_appO (i := 7) (j := 3) rfl rfl (ev_var (i := 14) rfl) h_rights_108 (ow1 := [ol p_paper_79 paper_101, ol p_papers_63 papers_66, ol p_standing_62 standing_67, ol p_rights_61 rights_108, ol p_lefts_60 lefts_69]) rfl ?_
              cases hj_103
              exact km_112 _ _ (.keep (.keep (.keep (.keep (.keep (.keep (.keep (.keep (.keep (.keep (.keep (.keep (.keep (.keep (.keep .nil))))))))))))))) (List.Sublist.refl _)
            obtain ⟨standing_113, h_standing_113, hc_76⟩ := bind_some hc_76
            refine SB.seqB (fun kx_ => sb_appO (i := 8) (j := 2) rfl rfl (ev_var (i := 14) rfl) h_standing_113 (ow1 := [ol p_paper_79 paper_101, ol p_papers_63 papers_66, ol p_standing_62 standing_113, ol p_rights_61 rights_110, ol p_lefts_60 lefts_111]) rfl (kx_ _ _ ?_))
            refine sb_freeze (i := 11) (j := 0) (sl' := [sv width_45, sv floats_46, sv name_70, sv side_71, sv wide_72, sv high_73, .at p_lefts_60, .at p_rights_61, .at p_standing_62, .at p_papers_63, sv row_98, sv paper_101, sv left_99, sv right_100, sv thing_109]) (ow1 := [ol p_papers_63 papers_66, ol p_standing_62 standing_113, ol p_rights_61 rights_110, ol p_lefts_60 lefts_111]) rfl rfl rfl rfl ?_
            obtain ⟨papers_114, h_papers_114, hc_76⟩ := bind_some hc_76
            refine sb_appO (i := 9) (j := 0) rfl rfl (ev_var (i := 11) rfl) h_papers_114 (ow1 := [ol p_papers_63 papers_114, ol p_standing_62 standing_113, ol p_rights_61 rights_110, ol p_lefts_60 lefts_111]) rfl ?_
            cases hc_76
            exact fun σ Kn H s => hN_74 _ hP_75 σ Kn H ((s.le (.keep (.keep (.drop (.drop (.drop (.drop (.keep (.keep (.keep (.keep (.keep (.drop (.drop (.drop (.drop .nil)))))))))))))))).sub (List.Sublist.refl _))
      · intro s_ h0
        cases h0
        refine kx_120 _ _ ?_
        refine SB.is (sl' := [sv width_45, sv floats_46, .any, .any, .any, .any, .at p_lefts_60, .at p_rights_61, .at p_standing_62, .at p_papers_63, sv row_115, .any, .any, .any, .any]) (ow1 := [ol p_papers_63 papers_116, ol p_standing_62 standing_117, ol p_rights_61 rights_118, ol p_lefts_60 lefts_119]) rfl rfl ?_
        refine sb_freeze (i := 8) (j := 1) (sl' := [sv width_45, sv floats_46, .any, .any, .any, .any, .at p_lefts_60, .at p_rights_61, sv standing_117, .at p_papers_63, sv row_115, .any, .any, .any, .any]) (ow1 := [ol p_papers_63 papers_116, ol p_rights_61 rights_118, ol p_lefts_60 lefts_119]) rfl rfl rfl rfl ?_
        refine sb_freeze (i := 9) (j := 0) (sl' := [sv width_45, sv floats_46, .any, .any, .any, .any, .at p_lefts_60, .at p_rights_61, sv standing_117, sv papers_116, sv row_115, .any, .any, .any, .any]) (ow1 := [ol p_rights_61 rights_118, ol p_lefts_60 lefts_119]) rfl rfl rfl rfl ?_
        cases hf
        exact sb_ret (ev_tup (ea_cons (ev_var (i := 8) rfl) (ea_cons (ev_var (i := 9) rfl) ea_nil))) q (List.Sublist.cons _ (List.Sublist.cons _ List.Sublist.slnil))
theorem sc_is_whole : FnScope ["thing"] ["thing"] (defScope s_is_whole) := ⟨rfl, rfl, rfl, by decide +kernel, rfl, by decide +kernel, by decide +kernel⟩
set_option maxHeartbeats 4000000 in
theorem ok_is_whole (T : TX K mg) : FnOk P w K mg base CX0 1 T.a_is_whole T.d_is_whole ["thing"] (PF (τ := Int × Unit) K (fun t => m_is_whole t.1)) := by
  refine T.F_is_whole.ok sc_is_whole (fun vs H Q E h => ?_) (fun cdv A outer s H vs Q E hr h => ?_)
  · obtain ⟨Kn, t, r, ek, h, hf, q⟩ := h
    exact Tp.len h
  · obtain ⟨Kn, t, r_, ek, h, hf, q⟩ := h
    obtain ⟨thing_121, u_⟩ := t
    obtain ⟨v_0, rr_, rfl, hv_0, h⟩ := h
    obtain rfl := h
    replace hf : m_is_whole thing_121 = some r_ := hf
    unfold m_is_whole at hf
    refine ⟨_, (pss_one (ps_ret (pe_and (pe_callB k_isi (by rfl) T.z_isinstance (by decide +kernel) (pa_cons (pv 0) (pa_cons (pe_bltn (v := .ty "int") (u := .type "int") (by rfl) T.z_int (by decide +kernel) rfl) pa_nil))) (pe_one (pe_not (pe_callB k_isi (by rfl) T.z_isinstance (by decide +kernel) (pa_cons (pv 0) (pa_cons (pe_bltn (v := .ty "bool") (u := .type "bool") (by rfl) T.z_bool (by decide +kernel) rfl) pa_nil)))))))), ?_⟩
    refine enter (Kn := Kn) (sl := [sv thing_121]) ek ⟨⟨v_0, rfl, hv_0⟩, trivial⟩ ?_
    have q := rt_of q
    cases hf
    exact sb_ret (ev_andV (ev_cb (ea_cons (ev_var (i := 0) rfl) (ea_cons (ev_ty "int") ea_nil)) (rc_isi (b := true) (by decide +kernel))) (fun _ => (ev_notV (ev_cb (ea_cons (ev_var (i := 0) rfl) (ea_cons (ev_ty "bool") ea_nil)) (rc_isi (b := false) (by decide +kernel)))))) q (List.Sublist.refl _)
theorem sc_edge_by : FnScope ["things", "name", "none", "thing"] ["things", "name", "none"] (defScope s_edge_by) := ⟨rfl, rfl, rfl, by decide +kernel, rfl, by decide +kernel, by decide +kernel⟩
set_option maxHeartbeats 4000000 in
theorem ok_edge_by (T : TX K mg) : FnOk P w K mg base CX0 1 T.a_edge_by T.d_edge_by ["things", "name", "none"] (PF (τ := (List (Str × Int × Int × Int × Int × Unit)) × Str × (Str × Int × Int × Int × Int × Unit) × Unit) K (fun t => m_edge_by t.1 t.2.1 t.2.2.1)) := by
  refine T.F_edge_by.ok sc_edge_by (fun vs H Q E h => ?_) (fun cdv A outer s H vs Q E hr h => ?_)
  · obtain ⟨Kn, t, r, ek, h, hf, q⟩ := h
    exact Tp.len h
  · obtain ⟨Kn, t, r_, ek, h, hf, q⟩ := h
    obtain ⟨things_122, name_123, none_124, u_⟩ := t
    obtain ⟨v_0, rr_, rfl, hv_0, h⟩ := h
    obtain ⟨v_1, rr_, rfl, hv_1, h⟩ := h
    obtain ⟨v_2, rr_, rfl, hv_2, h⟩ := h
    obtain rfl := h
    replace hf : m_edge_by things_122 name_123 none_124 = some r_ := hf
    unfold m_edge_by at hf
    refine ⟨_, (pss_cons (ps_if (pt_cmpR op_eq (pv 1) pe_str (nomark _)) (pss_one (ps_ret (pv 2))) pss_nil)
      (pss_cons (ps_for PassesOwn.never rfl (kpi_list (pv 0)) (pg_name (i := 3) sc_edge_by.nd rfl (.inl rfl)) (pss_one (ps_if (pt_cmpR op_eq (pe_ix k_ixt (pv 3) pe_int (fun _ _ => rfl)) (pv 1) (nomark _)) (pss_one (ps_ret (pv 3))) pss_nil)))
      (pss_one (ps_ret pe_non)))), ?_⟩
    refine enter (Kn := Kn) (sl := [sv things_122, sv name_123, sv none_124, .any]) ek ⟨⟨v_0, rfl, hv_0⟩, ⟨v_1, rfl, hv_1⟩, ⟨v_2, rfl, hv_2⟩, trivial, trivial⟩ ?_
    have q := rt_of q
    refine SB.seqB (fun kx_127 => sb_if (b := (decide (name_123 = ("" : Str)))) (et_test (ev_op (ev_var (i := 1) rfl) (ev_str ("" : Str)) r2_eqS)) (fun hb_126 => ?_) (fun hb_126 => ?_))
    · have hf := ite_t hb_126 hf
      cases hf
      exact sb_ret (ev_some (ev_var (i := 2) rfl)) q (List.Sublist.refl _)
    · have hf := ite_f hb_126 hf
      refine sb_nx ?_
      refine kx_127 _ _ ?_
      obtain ⟨tot_133, h_tot_133, hf⟩ := bind_some hf
      refine SB.seqB (fun kx_137 => sb_for (β := (Str × Int × Int × Int × Int × Unit)) (Sx := Unit) (fun s => [sv things_122, sv name_123, sv none_124, .any]) (fun s => []) (fun x s => [sv things_122, sv name_123, sv none_124, sv x]) [3] (fun xs s => forC (m_edge_by_L1 name_123) xs s = some tot_133) () (IT.m (it_list (ev_var (i := 0) rfl))) h_tot_133 (.keep (.keep (.keep (.keep .nil)))) (List.Sublist.refl _) (fun x s => (gt_name rfl)) ?_ ?_)
      · intro Kn1 b1 thing_128 rest_ s_ hP_130 N_ hN_129
        obtain ⟨c_, hc_131, hP_130⟩ := bind_some hP_130
        have q_132 := q.base b1
        unfold m_edge_by_L1 at hc_131
        refine SB.is (sl' := [sv things_122, sv name_123, sv none_124, sv thing_128]) (ow1 := []) rfl rfl ?_
        refine sb_if (b := (decide (thing_128.1 = name_123))) (et_test (ev_op (ev_op (ev_var (i := 3) rfl) (ev_int 0) (r2_tix (n := 0) (At.z _ _))) (ev_var (i := 1) rfl) r2_eqS)) (fun hb_135 => ?_) (fun hb_135 => ?_)
        · have hc_131 := ite_t hb_135 hc_131
          cases hc_131
          replace hP_130 : some (Ctl.rt (some thing_128)) = some tot_133 := hP_130
          cases hP_130
          replace hf : some (some thing_128) = some r_ := hf
          cases hf
          exact sb_ret (ev_some (ev_var (i := 3) rfl)) q_132 (List.Sublist.refl _)
        · have hc_131 := ite_f hb_135 hc_131
          refine sb_nx ?_
          cases hc_131
          exact fun σ Kn H s => hN_129 _ hP_130 σ Kn H ((s.le (.keep (.keep (.keep (.drop .nil))))).sub (List.Sublist.refl _))
      · intro s_ h0
        cases h0
        refine kx_137 _ _ ?_
        refine SB.is (sl' := [sv things_122, sv name_123, sv none_124, .any]) (ow1 := []) rfl rfl ?_
        cases hf
        exact sb_ret ev_none q (List.Sublist.refl _)
theorem sc_bars : FnScope ["thing", "row", "till", "high"] ["thing", "row", "till", "high"] (defScope s_bars) := ⟨rfl, rfl, rfl, by decide +kernel, rfl, by decide +kernel, by decide +kernel⟩
set_option maxHeartbeats 4000000 in
theorem ok_bars (T : TX K mg) : FnOk P w K mg base CX0 1 T.a_bars T.d_bars ["thing", "row", "till", "high"] (PF (τ := (Str × Int × Int × Int × Int × Unit) × Int × Int × Int × Unit) K (fun t => m_bars t.1 t.2.1 t.2.2.1 t.2.2.2.1)) := by
  refine T.F_bars.ok sc_bars (fun vs H Q E h => ?_) (fun cdv A outer s H vs Q E hr h => ?_)
  · obtain ⟨Kn, t, r, ek, h, hf, q⟩ := h
    exact Tp.len h
  · obtain ⟨Kn, t, r_, ek, h, hf, q⟩ := h
    obtain ⟨thing_138, row_139, till_140, high_141, u_⟩ := t
    obtain ⟨v_0, rr_, rfl, hv_0, h⟩ := h
    obtain ⟨v_1, rr_, rfl, hv_1, h⟩ := h
    obtain ⟨v_2, rr_, rfl, hv_2, h⟩ := h
    obtain ⟨v_3, rr_, rfl, hv_3, h⟩ := h
    obtain rfl := h
    replace hf : m_bars thing_138 row_139 till_140 high_141 = some r_ := hf
    unfold m_bars at hf
    refine ⟨_, (pss_one (ps_ret (pe_and (pe_cmpR op_lt (pe_ix k_ixt (pv 0) pe_int (fun _ _ => rfl)) (pe_op op_add (pv 1) (pv 3)) (nomark _)) (pe_one (pe_cmpR op_lt (pe_op op_sub (pv 2) pe_int) (pe_op op_add (pe_ix k_ixt (pv 0) pe_int (fun _ _ => rfl)) (pe_ix k_ixt (pv 0) pe_int (fun _ _ => rfl))) (nomark _)))))), ?_⟩
    refine enter (Kn := Kn) (sl := [sv thing_138, sv row_139, sv till_140, sv high_141]) ek ⟨⟨v_0, rfl, hv_0⟩, ⟨v_1, rfl, hv_1⟩, ⟨v_2, rfl, hv_2⟩, ⟨v_3, rfl, hv_3⟩, trivial⟩ ?_
    have q := rt_of q
    cases hf
    exact sb_ret (ev_andV (ev_op (ev_op (ev_var (i := 0) rfl) (ev_int 2) (r2_tix (n := 2) (At.s _ (At.s _ (At.z _ _))))) (ev_op (ev_var (i := 1) rfl) (ev_var (i := 3) rfl) r2_add) r2_lt) (fun _ => (ev_op (ev_op (ev_var (i := 2) rfl) (ev_int 1) r2_sub) (ev_op (ev_op (ev_var (i := 0) rfl) (ev_int 2) (r2_tix (n := 2) (At.s _ (At.s _ (At.z _ _))))) (ev_op (ev_var (i := 0) rfl) (ev_int 4) (r2_tix (n := 4) (At.s _ (At.s _ (At.s _ (At.s _ (At.z _ _))))))) r2_add) r2_lt))) q (List.Sublist.refl _)
theorem sc_triple_shows : FnScope ["ahead", "triple", "row", "float_", "width", "till", "left", "right", "high", "first", "last"] ["ahead", "triple", "row", "float_", "width"] (defScope s_triple_shows) := ⟨rfl, rfl, rfl, by decide +kernel, rfl, by decide +kernel, by decide +kernel⟩
set_option maxHeartbeats 4000000 in
theorem ok_triple_shows (T : TX K mg) : FnOk P w K mg base CX0 2 T.a_triple_shows T.d_triple_shows ["ahead", "triple", "row", "float_", "width"] (PF (τ := ((List (Str × Int × Int × Int × Int × Unit)) × (List (Str × Int × Int × Int × Int × Unit)) × Unit) × (Int × Str × Str × Unit) × Int × (Str × Str × Int × Int × Unit) × Int × Unit) K (fun t => m_triple_shows t.1 t.2.1 t.2.2.1 t.2.2.2.1 t.2.2.2.2.1)) := by
  refine T.F_triple_shows.ok sc_triple_shows (fun vs H Q E h => ?_) (fun cdv A outer s H vs Q E hr h => ?_)
  · obtain ⟨Kn, t, r, ek, h, hf, q⟩ := h
    exact Tp.len h
  · obtain ⟨Kn, t, r_, ek, h, hf, q⟩ := h
    obtain ⟨ahead_142, triple_143, row_144, float__145, width_146, u_⟩ := t
    obtain ⟨v_0, rr_, rfl, hv_0, h⟩ := h
    obtain ⟨v_1, rr_, rfl, hv_1, h⟩ := h
    obtain ⟨v_2, rr_, rfl, hv_2, h⟩ := h
    obtain ⟨v_3, rr_, rfl, hv_3, h⟩ := h
    obtain ⟨v_4, rr_, rfl, hv_4, h⟩ := h
    obtain rfl := h
    replace hf : m_triple_shows ahead_142 triple_143 row_144 float__145 width_146 = some r_ := hf
    unfold m_triple_shows at hf
    refine ⟨_, (pss_cons (ps_if (PW.pt (pw_or (pt_not (pt_val (pe_callB k_isi (by rfl) T.z_isinstance (by decide +kernel) (pa_cons (pv 1) (pa_cons (pe_bltn (v := .ty "tuple") (u := .type "tuple") (by rfl) T.z_tuple (by decide +kernel) rfl) pa_nil))))) (pw_or1 (pt_cmpR op_ne (pe_callB k_len (by rfl) T.z_len PySem.boot_len (pa_cons (pv 1) pa_nil)) pe_int (nomark _))))) (pss_one (ps_ret pe_bl)) pss_nil)
      (pss_cons (ps_asg (pv 1) (kpg_tup (pgs_cons (pg_name (i := 5) sc_triple_shows.nd rfl (.inl rfl)) (pgs_cons (pg_name (i := 6) sc_triple_shows.nd rfl (.inl rfl)) (pgs_cons (pg_name (i := 7) sc_triple_shows.nd rfl (.inl rfl)) pgs_nil)))))
      (pss_cons (ps_if (PW.pt (pw_or (pt_not (pt_val (pe_call (ok_is_whole T) hr (by rfl) T.g_is_whole T.F_is_whole.kp T.b_is_whole .nil pass0 (pa_cons (pv 5) pa_nil)))) (pw_or (pt_cmpR op_le (pv 5) (pv 2) (nomark _)) (pw_or (pt_not (pt_val (pe_callB k_isi (by rfl) T.z_isinstance (by decide +kernel) (pa_cons (pv 6) (pa_cons (pe_bltn (v := .ty "str") (u := .type "str") (by rfl) T.z_str (by decide +kernel) rfl) pa_nil))))) (pw_or1 (pt_not (pt_val (pe_callB k_isi (by rfl) T.z_isinstance (by decide +kernel) (pa_cons (pv 7) (pa_cons (pe_bltn (v := .ty "str") (u := .type "str") (by rfl) T.z_str (by decide +kernel) rfl) pa_nil)))))))))) (pss_one (ps_ret pe_bl)) pss_nil)
      (pss_cons (ps_set (i := 8) sc_triple_shows.nd rfl (.inl rfl) (pe_ix k_ixt (pv 3) pe_int (fun _ _ => rfl)))
      (pss_cons (ps_set (i := 9) sc_triple_shows.nd rfl (.inl rfl) (pe_call (ok_edge_by T) hr (by rfl) T.g_edge_by T.F_edge_by.kp T.b_edge_by .nil pass0 (pa_cons (pe_ix k_ixt (pv 0) pe_int (fun _ _ => rfl)) (pa_cons (pv 6) (pa_cons (pe_tup (pa_cons pe_str (pa_cons pe_int (pa_cons (pv 2) (pa_cons pe_int (pa_cons (pe_op op_sub (pv 5) (pv 2)) pa_nil)))))) pa_nil)))))
      (pss_cons (ps_set (i := 10) sc_triple_shows.nd rfl (.inl rfl) (pe_call (ok_edge_by T) hr (by rfl) T.g_edge_by T.F_edge_by.kp T.b_edge_by .nil pass0 (pa_cons (pe_ix k_ixt (pv 0) pe_int (fun _ _ => rfl)) (pa_cons (pv 7) (pa_cons (pe_tup (pa_cons pe_str (pa_cons (pv 4) (pa_cons (pv 2) (pa_cons pe_int (pa_cons (pe_op op_sub (pv 5) (pv 2)) pa_nil)))))) pa_nil)))))
      (pss_cons (ps_if (PW.pt (pw_or (pt_cmpR op_isN (pv 9) pe_non (nomark _)) (pw_or (pt_cmpR op_isN (pv 10) pe_non (nomark _)) (pw_or (pt_not (pt_val (pe_call (ok_bars T) hr (by rfl) T.g_bars T.F_bars.kp T.b_bars .nil pass0 (pa_cons (pv 9) (pa_cons (pv 2) (pa_cons (pv 5) (pa_cons (pv 8) pa_nil))))))) (pw_or1 (pt_not (pt_val (pe_call (ok_bars T) hr (by rfl) T.g_bars T.F_bars.kp T.b_bars .nil pass0 (pa_cons (pv 10) (pa_cons (pv 2) (pa_cons (pv 5) (pa_cons (pv 8) pa_nil)))))))))))) (pss_one (ps_ret pe_bl)) pss_nil)
      (pss_one (ps_ret (pe_cmpR op_lt (pe_op op_sub (pe_op op_sub (pe_ix k_ixt (pv 10) pe_int (fun _ _ => rfl)) (pe_ix k_ixt (pv 9) pe_int (fun _ _ => rfl))) (pe_ix k_ixt (pv 9) pe_int (fun _ _ => rfl))) (pe_ix k_ixt (pv 3) pe_int (fun _ _ => rfl)) (nomark _))))))))))), ?_⟩
    refine enter (Kn := Kn) (sl := [sv ahead_142, sv triple_143, sv row_144, sv float__145, sv width_146, .any, .any, .any, .any, .any, .any]) ek ⟨⟨v_0, rfl, hv_0⟩, ⟨v_1, rfl, hv_1⟩, ⟨v_2, rfl, hv_2⟩, ⟨v_3, rfl, hv_3⟩, ⟨v_4, rfl, hv_4⟩, trivial, trivial, trivial, trivial, trivial, trivial, trivial⟩ ?_
    have q := rt_of q
    refine SB.seqB (fun kx_149 => sb_if (b := ((!true) || (!decide ((3 : Int) = (3 : Int))))) (et_or (et_not (et_B (ev_cb (ea_cons (ev_var (i := 1) rfl) (ea_cons (ev_ty "tuple") ea_nil)) (rc_isi (b := true) (by decide +kernel))))) (fun _ => (et_test (ev_op (ev_cb (ea_cons (ev_var (i := 1) rfl) ea_nil) rc_lenP) (ev_int 3) r2_neI)))) (fun hb_148 => ?_) (fun hb_148 => ?_))
    · have hf := ite_t hb_148 hf
      cases hf
      exact sb_ret (ev_bool false) q (List.Sublist.refl _)
    · have hf := ite_f hb_148 hf
      refine sb_nx ?_
      refine kx_149 _ _ ?_
      obtain ⟨⟨till_150, left_151, right_152, _⟩, h_till_150, hf⟩ := bind_some hf
      refine SB.seqB (fun kx_ => sb_unp (sl' := [sv ahead_142, sv triple_143, sv row_144, sv float__145, sv width_146, sv till_150, sv left_151, sv right_152, .any, .any, .any]) (EV.cast (ev_var (i := 1) rfl) (Option.some.inj h_till_150)) (gt_tup (gts_cons (gt_name rfl) (gts_cons (gt_name rfl) (gts_cons (gt_name rfl) gts_nil)))) (kx_ _ _ ?_))
      obtain ⟨r_154, h_r_154, hf⟩ := bind_some hf
      refine SB.seqB (fun kx_156 => sb_if (b := ((!r_154) || ((decide (till_150 ≤ row_144)) || ((!true) || (!true))))) (et_or (et_not (et_B (ev_call (ea_cons (ev_var (i := 5) rfl) ea_nil) h_r_154))) (fun _ => (et_or (et_test (ev_op (ev_var (i := 5) rfl) (ev_var (i := 2) rfl) r2_le)) (fun _ => (et_or (et_not (et_B (ev_cb (ea_cons (ev_var (i := 6) rfl) (ea_cons (ev_ty "str") ea_nil)) (rc_isi (b := true) (by decide +kernel))))) (fun _ => (et_not (et_B (ev_cb (ea_cons (ev_var (i := 7) rfl) (ea_cons (ev_ty "str") ea_nil)) (rc_isi (b := true) (by decide +kernel))))))))))) (fun hb_155 => ?_) (fun hb_155 => ?_))
      · have hf := ite_t hb_155 hf
        cases hf
        exact sb_ret (ev_bool false) q (List.Sublist.refl _)
      · have hf := ite_f hb_155 hf
        refine sb_nx ?_
        refine kx_156 _ _ ?_
        obtain ⟨high_157, h_high_157, hf⟩ := bind_some hf
        refine SB.seqB (fun kx_ => sb_asg (sl' := [sv ahead_142, sv triple_143, sv row_144, sv float__145, sv width_146, sv till_150, sv left_151, sv right_152, sv high_157, .any, .any]) rfl (EV.cast (ev_op (ev_var (i := 3) rfl) (ev_int 3) (r2_tix (n := 3) (At.s _ (At.s _ (At.s _ (At.z _ _)))))) (Option.some.inj h_high_157)) (kx_ _ _ ?_))
        obtain ⟨r_158, h_r_158, hf⟩ := bind_some hf
        obtain ⟨first_159, h_first_159, hf⟩ := bind_some hf
        refine SB.seqB (fun kx_ => sb_asg (sl' := [sv ahead_142, sv triple_143, sv row_144, sv float__145, sv width_146, sv till_150, sv left_151, sv right_152, sv high_157, sv first_159, .any]) rfl (EV.cast (ev_call (ea_cons (ev_op (ev_var (i := 0) rfl) (ev_int 0) (r2_tix (n := 0) (At.z _ _))) (ea_cons (ev_var (i := 6) rfl) (ea_cons (ev_tup (ea_cons (ev_str ("" : Str)) (ea_cons (ev_int 0) (ea_cons (ev_var (i := 2) rfl) (ea_cons (ev_int 0) (ea_cons (ev_op (ev_var (i := 5) rfl) (ev_var (i := 2) rfl) r2_sub) ea_nil)))))) ea_nil))) h_r_158) (Option.some.inj h_first_159)) (kx_ _ _ ?_))
        obtain ⟨r_160, h_r_160, hf⟩ := bind_some hf
        obtain ⟨last_161, h_last_161, hf⟩ := bind_some hf
        refine SB.seqB (fun kx_ => sb_asg (sl' := [sv ahead_142, sv triple_143, sv row_144, sv float__145, sv width_146, sv till_150, sv left_151, sv right_152, sv high_157, sv first_159, sv last_161]) rfl (EV.cast (ev_call (ea_cons (ev_op (ev_var (i := 0) rfl) (ev_int 1) (r2_tix (n := 1) (At.s _ (At.z _ _)))) (ea_cons (ev_var (i := 7) rfl) (ea_cons (ev_tup (ea_cons (ev_str ("" : Str)) (ea_cons (ev_var (i := 4) rfl) (ea_cons (ev_var (i := 2) rfl) (ea_cons (ev_int 0) (ea_cons (ev_op (ev_var (i := 5) rfl) (ev_var (i := 2) rfl) r2_sub) ea_nil)))))) ea_nil))) h_r_160) (Option.some.inj h_last_161)) (kx_ _ _ ?_))
        obtain ⟨b_169, h_b_169, hf⟩ := bind_some hf
        refine SB.seqB (fun kx_171 => sb_if (b := b_169) (et_orO h_b_169 (et_test (ev_op (ev_var (i := 9) rfl) ev_nn r2_isN)) (fun _ _ h => by obtain ⟨b_168, h_b_168, h⟩ := bind_some h; have hz_ := Option.some.inj h; subst hz_; exact (et_orO h_b_168 (et_test (ev_op (ev_var (i := 10) rfl) ev_nn r2_isN)) (fun _ _ h => by obtain ⟨s_163, h_s_163, h⟩ := bind_some h; obtain ⟨r_164, h_r_164, h⟩ := bind_some h; obtain ⟨b_167, h_b_167, h⟩ := bind_some h; have hz_ := Option.some.inj h; subst hz_; exact (et_orO h_b_167 (et_not (et_B (ev_call (ea_cons (ev_unopt (ev_var (i := 9) rfl) h_s_163) (ea_cons (ev_var (i := 2) rfl) (ea_cons (ev_var (i := 5) rfl) (ea_cons (ev_var (i := 8) rfl) ea_nil)))) h_r_164))) (fun _ _ h => by obtain ⟨s_165, h_s_165, h⟩ := bind_some h; obtain ⟨r_166, h_r_166, h⟩ := bind_some h; have hz_ := Option.some.inj h; subst hz_; exact (et_not (et_B (ev_call (ea_cons (ev_unopt (ev_var (i := 10) rfl) h_s_165) (ea_cons (ev_var (i := 2) rfl) (ea_cons (ev_var (i := 5) rfl) (ea_cons (ev_var (i := 8) rfl) ea_nil)))) h_r_166))))))))) (fun hb_170 => ?_) (fun hb_170 => ?_))
        · have hf := ite_t hb_170 hf
          cases hf
          exact sb_ret (ev_bool false) q (List.Sublist.refl _)
        · have hf := ite_f hb_170 hf
          refine sb_nx ?_
          refine kx_171 _ _ ?_
          obtain ⟨s_172, h_s_172, hf⟩ := bind_some hf
          obtain ⟨s_173, h_s_173, hf⟩ := bind_some hf
          obtain ⟨s_174, h_s_174, hf⟩ := bind_some hf
          cases hf
          exact sb_ret (ev_op (ev_op (ev_op (ev_op (ev_unopt (ev_var (i := 10) rfl) h_s_172) (ev_int 1) (r2_tix (n := 1) (At.s _ (At.z _ _)))) (ev_op (ev_unopt (ev_var (i := 9) rfl) h_s_173) (ev_int 1) (r2_tix (n := 1) (At.s _ (At.z _ _)))) r2_sub) (ev_op (ev_unopt (ev_var (i := 9) rfl) h_s_174) (ev_int 3) (r2_tix (n := 3) (At.s _ (At.s _ (At.s _ (At.z _ _)))))) r2_sub) (ev_op (ev_var (i := 3) rfl) (ev_int 2) (r2_tix (n := 2) (At.s _ (At.s _ (At.z _ _))))) r2_lt) q (List.Sublist.refl _)
theorem sc_paper_shows : FnScope ["ahead", "paper", "row", "thing", "float_", "width", "triple"] ["ahead", "paper", "row", "thing", "float_", "width"] (defScope s_paper_shows) := ⟨rfl, rfl, rfl, by decide +kernel, rfl, by decide +kernel, by decide +kernel⟩
set_option maxHeartbeats 4000000 in
theorem ok_paper_shows (T : TX K mg) : FnOk P w K mg base CX0 3 T.a_paper_shows T.d_paper_shows ["ahead", "paper", "row", "thing", "float_", "width"] (PF (τ := ((List (Str × Int × Int × Int × Int × Unit)) × (List (Str × Int × Int × Int × Int × Unit)) × Unit) × (List (Int × Str × Str × Unit)) × Int × (Str × Int × Int × Int × Int × Unit) × (Str × Str × Int × Int × Unit) × Int × Unit) K (fun t => m_paper_shows t.1 t.2.1 t.2.2.1 t.2.2.2.1 t.2.2.2.2.1 t.2.2.2.2.2.1)) := by
  refine T.F_paper_shows.ok sc_paper_shows (fun vs H Q E h => ?_) (fun cdv A outer s H vs Q E hr h => ?_)
  · obtain ⟨Kn, t, r, ek, h, hf, q⟩ := h
    exact Tp.len h
  · obtain ⟨Kn, t, r_, ek, h, hf, q⟩ := h
    obtain ⟨ahead_175, paper_176, row_177, thing_178, float__179, width_180, u_⟩ := t
    obtain ⟨v_0, rr_, rfl, hv_0, h⟩ := h
    obtain ⟨v_1, rr_, rfl, hv_1, h⟩ := h
    obtain ⟨v_2, rr_, rfl, hv_2, h⟩ := h
    obtain ⟨v_3, rr_, rfl, hv_3, h⟩ := h
    obtain ⟨v_4, rr_, rfl, hv_4, h⟩ := h
    obtain ⟨v_5, rr_, rfl, hv_5, h⟩ := h
    obtain rfl := h
    replace hf : m_paper_shows ahead_175 paper_176 row_177 thing_178 float__179 width_180 = some r_ := hf
    unfold m_paper_shows at hf
    refine ⟨_, (pss_cons (ps_if (pt_not (pt_val (pe_callB k_isi (by rfl) T.z_isinstance (by decide +kernel) (pa_cons (pv 1) (pa_cons (pe_bltn (v := .ty "list") (u := .type "list") (by rfl) T.z_list (by decide +kernel) rfl) pa_nil))))) (pss_one (ps_ret pe_bl)) pss_nil)
      (pss_cons (ps_for PassesOwn.never rfl (kpi_list (pv 1)) (pg_name (i := 6) sc_paper_shows.nd rfl (.inl rfl)) (pss_cons (ps_if (pt_not (pt_val (pe_call (ok_triple_shows T) hr (by rfl) T.g_triple_shows T.F_triple_shows.kp T.b_triple_shows .nil pass0 (pa_cons (pv 0) (pa_cons (pv 6) (pa_cons (pv 2) (pa_cons (pv 4) (pa_cons (pv 5) pa_nil)))))))) (pss_one (ps_ret pe_bl)) pss_nil)
      (pss_one (ps_set (i := 2) sc_paper_shows.nd rfl (.inl rfl) (pe_ix k_ixt (pv 6) pe_int (fun _ _ => rfl))))))
      (pss_one (ps_ret (pe_cmpR op_eq (pv 2) (pe_ix k_ixt (pv 3) pe_int (fun _ _ => rfl)) (nomark _)))))), ?_⟩
    refine enter (Kn := Kn) (sl := [sv ahead_175, sv paper_176, sv row_177, sv thing_178, sv float__179, sv width_180, .any]) ek ⟨⟨v_0, rfl, hv_0⟩, ⟨v_1, rfl, hv_1⟩, ⟨v_2, rfl, hv_2⟩, ⟨v_3, rfl, hv_3⟩, ⟨v_4, rfl, hv_4⟩, ⟨v_5, rfl, hv_5⟩, trivial, trivial⟩ ?_
    have q := rt_of q
    refine SB.seqB (fun kx_183 => sb_if (b := (!true)) (et_not (et_B (ev_cb (ea_cons (ev_var (i := 1) rfl) (ea_cons (ev_ty "list") ea_nil)) (rc_isi (b := true) (by decide +kernel))))) (fun hb_182 => ?_) (fun hb_182 => ?_))
    · have hf := ite_t hb_182 hf
      cases hf
      exact sb_ret (ev_bool false) q (List.Sublist.refl _)
    · have hf := ite_f hb_182 hf
      refine sb_nx ?_
      refine kx_183 _ _ ?_
      obtain ⟨tot_190, h_tot_190, hf⟩ := bind_some hf
      refine SB.seqB (fun kx_197 => sb_for (β := (Int × Str × Str × Unit)) (Sx := Int) (fun s => [sv ahead_175, sv paper_176, sv s, sv thing_178, sv float__179, sv width_180, .any]) (fun s => []) (fun x s => [sv ahead_175, sv paper_176, sv s, sv thing_178, sv float__179, sv width_180, sv x]) [6] (fun xs s => forC (m_paper_shows_L1 ahead_175 float__179 width_180) xs s = some tot_190) row_177 (IT.m (it_list (ev_var (i := 1) rfl))) h_tot_190 (.keep (.keep (.keep (.keep (.keep (.keep (.keep .nil))))))) (List.Sublist.refl _) (fun x s => (gt_name rfl)) ?_ ?_)
      · intro Kn1 b1 triple_185 rest_ row_184 hP_187 N_ hN_186
        obtain ⟨c_, hc_188, hP_187⟩ := bind_some hP_187
        have q_189 := q.base b1
        unfold m_paper_shows_L1 at hc_188
        refine SB.is (sl' := [sv ahead_175, sv paper_176, sv row_184, sv thing_178, sv float__179, sv width_180, sv triple_185]) (ow1 := []) rfl rfl ?_
        obtain ⟨r_192, h_r_192, hc_188⟩ := bind_some hc_188
        refine SB.seqB (fun kx_194 => sb_if (b := (!r_192)) (et_not (et_B (ev_call (ea_cons (ev_var (i := 0) rfl) (ea_cons (ev_var (i := 6) rfl) (ea_cons (ev_var (i := 2) rfl) (ea_cons (ev_var (i := 4) rfl) (ea_cons (ev_var (i := 5) rfl) ea_nil))))) h_r_192))) (fun hb_193 => ?_) (fun hb_193 => ?_))
        · have hc_188 := ite_t hb_193 hc_188
          cases hc_188
          replace hP_187 : some (Ctl.rt false) = some tot_190 := hP_187
          cases hP_187
          replace hf : some false = some r_ := hf
          cases hf
          exact sb_ret (ev_bool false) q_189 (List.Sublist.refl _)
        · have hc_188 := ite_f hb_193 hc_188
          refine sb_nx ?_
          refine kx_194 _ _ ?_
          obtain ⟨row_195, h_row_195, hc_188⟩ := bind_some hc_188
          refine sb_asg (sl' := [sv ahead_175, sv paper_176, sv row_195, sv thing_178, sv float__179, sv width_180, sv triple_185]) rfl (EV.cast (ev_op (ev_var (i := 6) rfl) (ev_int 0) (r2_tix (n := 0) (At.z _ _))) (Option.some.inj h_row_195)) ?_
          cases hc_188
          exact fun σ Kn H s => hN_186 _ hP_187 σ Kn H ((s.le (.keep (.keep (.keep (.keep (.keep (.keep (.drop .nil)))))))).sub (List.Sublist.refl _))
      · intro row_196 h0
        cases h0
        refine kx_197 _ _ ?_
        refine SB.is (sl' := [sv ahead_175, sv paper_176, sv row_196, sv thing_178, sv float__179, sv width_180, .any]) (ow1 := []) rfl rfl ?_
        cases hf
        exact sb_ret (ev_op (ev_var (i := 2) rfl) (ev_op (ev_var (i := 3) rfl) (ev_int 2) (r2_tix (n := 2) (At.s _ (At.s _ (At.z _ _))))) r2_eqI) q (List.Sublist.refl _)
theorem sc_is_standing : FnScope ["thing", "float_", "number"] ["thing", "float_"] (defScope s_is_standing) := ⟨rfl, rfl, rfl, by decide +kernel, rfl, by decide +kernel, by decide +kernel⟩
set_option maxHeartbeats 4000000 in
theorem ok_is_standing (T : TX K mg) : FnOk P w K mg base CX0 2 T.a_is_standing T.d_is_standing ["thing", "float_"] (PF (τ := (Str × Int × Int × Int × Int × Unit) × (Str × Str × Int × Int × Unit) × Unit) K (fun t => m_is_standing t.1 t.2.1)) := by
  refine T.F_is_standing.ok sc_is_standing (fun vs H Q E h => ?_) (fun cdv A outer s H vs Q E hr h => ?_)
  · obtain ⟨Kn, t, r, ek, h, hf, q⟩ := h
    exact Tp.len h
  · obtain ⟨Kn, t, r_, ek, h, hf, q⟩ := h
    obtain ⟨thing_198, float__199, u_⟩ := t
    obtain ⟨v_0, rr_, rfl, hv_0, h⟩ := h
    obtain ⟨v_1, rr_, rfl, hv_1, h⟩ := h
    obtain rfl := h
    replace hf : m_is_standing thing_198 float__199 = some r_ := hf
    unfold m_is_standing at hf
    refine ⟨_, (pss_cons (ps_if (PW.pt (pw_or (pt_not (pt_val (pe_callB k_isi (by rfl) T.z_isinstance (by decide +kernel) (pa_cons (pv 0) (pa_cons (pe_bltn (v := .ty "tuple") (u := .type "tuple") (by rfl) T.z_tuple (by decide +kernel) rfl) pa_nil))))) (pw_or (pt_cmpR op_ne (pe_callB k_len (by rfl) T.z_len PySem.boot_len (pa_cons (pv 0) pa_nil)) pe_int (nomark _)) (pw_or (pt_cmpR op_ne (pe_ix k_ixt (pv 0) pe_int (fun _ _ => rfl)) (pe_ix k_ixt (pv 1) pe_int (fun _ _ => rfl)) (nomark _)) (pw_or1 (pt_cmpR (k_neD hr.units) (pe_slice k_slt (pv 0) (po_some pe_int) po_none) (pe_slice k_slt (pv 1) (po_some pe_int) po_none) (nomark _))))))) (pss_one (ps_ret pe_bl)) pss_nil)
      (pss_one (ps_ret (pe_cmpR k_notIn pe_bl (pe_lc (own := [("number", 2)]) (g := gName 2) (tt := tYes) (by rfl) sc_is_standing.nd (kpi_tup (pe_slice k_slt (pv 0) (po_some pe_int) po_none)) (blkOk_by (own := [("number", 2)]) (N := ["thing", "float_", "number"]) (sc := defScope s_is_standing) (by decide +kernel)) (fun _ _ _ _ _ => (pg_name (i := 2) sc_is_standing.nd rfl (Or.inl rfl))) (fun _ _ _ _ _ => pts_nil) (fun _ _ _ _ _ => (pe_call (ok_is_whole T) hr (by rfl) T.g_is_whole T.F_is_whole.kp T.b_is_whole .nil pass0 (pa_cons (pv 2) pa_nil)))) (by rfl))))), ?_⟩
    refine enter (Kn := Kn) (sl := [sv thing_198, sv float__199, .any]) ek ⟨⟨v_0, rfl, hv_0⟩, ⟨v_1, rfl, hv_1⟩, trivial, trivial⟩ ?_
    have q := rt_of q
    refine SB.seqB (fun kx_202 => sb_if (b := ((!true) || ((!decide ((5 : Int) = (5 : Int))) || ((!decide (thing_198.1 = float__199.1)) || (!decide ((thing_198.2.2.2.1, thing_198.2.2.2.2.1, ()) = (float__199.2.2.1, float__199.2.2.2.1, ()))))))) (et_or (et_not (et_B (ev_cb (ea_cons (ev_var (i := 0) rfl) (ea_cons (ev_ty "tuple") ea_nil)) (rc_isi (b := true) (by decide +kernel))))) (fun _ => (et_or (et_test (ev_op (ev_cb (ea_cons (ev_var (i := 0) rfl) ea_nil) rc_lenP) (ev_int 5) r2_neI)) (fun _ => (et_or (et_test (ev_op (ev_op (ev_var (i := 0) rfl) (ev_int 0) (r2_tix (n := 0) (At.z _ _))) (ev_op (ev_var (i := 1) rfl) (ev_int 0) (r2_tix (n := 0) (At.z _ _))) r2_neS)) (fun _ => (et_test (ev_op (ev_tsl (a := 3) (b := 2) (ev_var (i := 0) rfl) (eo_some (ev_int 3)) eo_none rfl rfl (by decide) (Cu.drop _ (Cu.drop _ (Cu.drop _ (Cu.take _ (Cu.take _ (Cu.nil _))))))) (ev_tsl (a := 2) (b := 2) (ev_var (i := 1) rfl) (eo_some (ev_int 2)) eo_none rfl rfl (by decide) (Cu.drop _ (Cu.drop _ (Cu.take _ (Cu.take _ (Cu.nil _)))))) r2_neT)))))))) (fun hb_201 => ?_) (fun hb_201 => ?_))
    · have hf := ite_t hb_201 hf
      cases hf
      exact sb_ret (ev_bool false) q (List.Sublist.refl _)
    · have hf := ite_f hb_201 hf
      refine sb_nx ?_
      refine kx_202 _ _ ?_
      obtain ⟨zs_204, h_zs_204, hf⟩ := bind_some hf
      cases hf
      exact sb_ret (ev_op (ev_bool false) (EN.ev (en_lc (js := [2]) (fun x => [sv thing_198, sv float__199, sv x]) h_zs_204 (it_tup (ev_hom (xs := ([(thing_198.2.1, thing_198.2.2.1, thing_198.2.2.2.1, thing_198.2.2.2.2.1, ()).1, (thing_198.2.1, thing_198.2.2.1, thing_198.2.2.2.1, thing_198.2.2.2.2.1, ()).2.1, (thing_198.2.1, thing_198.2.2.1, thing_198.2.2.2.1, thing_198.2.2.2.2.1, ()).2.2.1, (thing_198.2.1, thing_198.2.2.1, thing_198.2.2.2.1, thing_198.2.2.2.2.1, ()).2.2.2.1] : List Int)) (ev_tsl (a := 1) (b := 4) (ev_var (i := 0) rfl) (eo_some (ev_int 1)) eo_none rfl rfl (by decide) (Cu.drop _ (Cu.take _ (Cu.take _ (Cu.take _ (Cu.take _ (Cu.nil _))))))) (Ho.cons _ (Ho.cons _ (Ho.cons _ (Ho.cons _ Ho.nil)))))) (anyAt_of (by rfl)) (fun x => (gt_name rfl)) (sub_of (by rfl)) (fun _ _ x b h => by cases h; exact et_yes) (fun _ _ x z _ h => by obtain ⟨number_203, hx_⟩ : ∃ y, y = x := ⟨x, rfl⟩; subst hx_; obtain ⟨r_205, h_r_205, h⟩ := bind_some h; have hz_ := Option.some.inj h; subst hz_; exact EV.is (sl' := [sv thing_198, sv float__199, sv number_203]) rfl (ev_call (ea_cons (ev_var (i := 2) rfl) ea_nil) h_r_205)))) r2_notIn) q (List.Sublist.refl _)
theorem sc_stands_there : FnScope ["ahead", "thing", "float_", "width", "left", "right"] ["ahead", "thing", "float_", "width"] (defScope s_stands_there) := ⟨rfl, rfl, rfl, by decide +kernel, rfl, by decide +kernel, by decide +kernel⟩
set_option maxHeartbeats 4000000 in
theorem ok_stands_there (T : TX K mg) : FnOk P w K mg base CX0 3 T.a_stands_there T.d_stands_there ["ahead", "thing", "float_", "width"] (PF (τ := ((List (Str × Int × Int × Int × Int × Unit)) × (List (Str × Int × Int × Int × Int × Unit)) × Unit) × (Str × Int × Int × Int × Int × Unit) × (Str × Str × Int × Int × Unit) × Int × Unit) K (fun t => m_stands_there t.1 t.2.1 t.2.2.1 t.2.2.2.1)) := by
  refine T.F_stands_there.ok sc_stands_there (fun vs H Q E h => ?_) (fun cdv A outer s H vs Q E hr h => ?_)
  · obtain ⟨Kn, t, r, ek, h, hf, q⟩ := h
    exact Tp.len h
  · obtain ⟨Kn, t, r_, ek, h, hf, q⟩ := h
    obtain ⟨ahead_206, thing_207, float__208, width_209, u_⟩ := t
    obtain ⟨v_0, rr_, rfl, hv_0, h⟩ := h
    obtain ⟨v_1, rr_, rfl, hv_1, h⟩ := h
    obtain ⟨v_2, rr_, rfl, hv_2, h⟩ := h
    obtain ⟨v_3, rr_, rfl, hv_3, h⟩ := h
    obtain rfl := h
    replace hf : m_stands_there ahead_206 thing_207 float__208 width_209 = some r_ := hf
    unfold m_stands_there at hf
    refine ⟨_, (pss_cons (ps_asg (pe_call (ok_edges T) hr (by rfl) T.g_edges T.F_edges.kp T.b_edges .nil pass0 (pa_cons (pv 3) (pa_cons (pe_ix k_ixt (pv 0) pe_int (fun _ _ => rfl)) (pa_cons (pe_ix k_ixt (pv 0) pe_int (fun _ _ => rfl)) (pa_cons (pe_ix k_ixt (pv 1) pe_int (fun _ _ => rfl)) (pa_cons (pe_ix k_ixt (pv 1) pe_int (fun _ _ => rfl)) pa_nil)))))) (kpg_tup (pgs_cons (pg_name (i := 4) sc_stands_there.nd rfl (.inl rfl)) (pgs_cons (pg_name (i := 5) sc_stands_there.nd rfl (.inl rfl)) pgs_nil))))
      (pss_cons (ps_if (pt_cmpR op_lt (pe_op op_sub (pe_ix k_ixt (pv 5) pe_int (fun _ _ => rfl)) (pe_ix k_ixt (pv 4) pe_int (fun _ _ => rfl))) (pe_ix k_ixt (pv 1) pe_int (fun _ _ => rfl)) (nomark _)) (pss_one (ps_ret pe_bl)) pss_nil)
      (pss_cons (ps_if (pt_cmpR op_eq (pe_ix k_ixt (pv 2) pe_int (fun _ _ => rfl)) pe_str (nomark _)) (pss_one (ps_ret (pe_cmpR op_eq (pe_ix k_ixt (pv 1) pe_int (fun _ _ => rfl)) (pe_ix k_ixt (pv 4) pe_int (fun _ _ => rfl)) (nomark _)))) pss_nil)
      (pss_one (ps_ret (pe_cmpR op_eq (pe_ix k_ixt (pv 1) pe_int (fun _ _ => rfl)) (pe_op op_sub (pe_ix k_ixt (pv 5) pe_int (fun _ _ => rfl)) (pe_ix k_ixt (pv 1) pe_int (fun _ _ => rfl))) (nomark _))))))), ?_⟩
    refine enter (Kn := Kn) (sl := [sv ahead_206, sv thing_207, sv float__208, sv width_209, .any, .any]) ek ⟨⟨v_0, rfl, hv_0⟩, ⟨v_1, rfl, hv_1⟩, ⟨v_2, rfl, hv_2⟩, ⟨v_3, rfl, hv_3⟩, trivial, trivial, trivial⟩ ?_
    have q := rt_of q
    obtain ⟨r_210, h_r_210, hf⟩ := bind_some hf
    obtain ⟨⟨left_211, right_212, _⟩, h_left_211, hf⟩ := bind_some hf
    refine SB.seqB (fun kx_ => sb_unp (sl' := [sv ahead_206, sv thing_207, sv float__208, sv width_209, sv left_211, sv right_212]) (EV.cast (ev_call (ea_cons (ev_var (i := 3) rfl) (ea_cons (ev_op (ev_var (i := 0) rfl) (ev_int 0) (r2_tix (n := 0) (At.z _ _))) (ea_cons (ev_op (ev_var (i := 0) rfl) (ev_int 1) (r2_tix (n := 1) (At.s _ (At.z _ _)))) (ea_cons (ev_op (ev_var (i := 1) rfl) (ev_int 2) (r2_tix (n := 2) (At.s _ (At.s _ (At.z _ _))))) (ea_cons (ev_op (ev_var (i := 1) rfl) (ev_int 4) (r2_tix (n := 4) (At.s _ (At.s _ (At.s _ (At.s _ (At.z _ _))))))) ea_nil))))) h_r_210) (Option.some.inj h_left_211)) (gt_tup (gts_cons (gt_name rfl) (gts_cons (gt_name rfl) gts_nil))) (kx_ _ _ ?_))
    refine SB.seqB (fun kx_215 => sb_if (b := (decide ((right_212.1 - left_211.1) < thing_207.2.2.2.1))) (et_test (ev_op (ev_op (ev_op (ev_var (i := 5) rfl) (ev_int 0) (r2_tix (n := 0) (At.z _ _))) (ev_op (ev_var (i := 4) rfl) (ev_int 0) (r2_tix (n := 0) (At.z _ _))) r2_sub) (ev_op (ev_var (i := 1) rfl) (ev_int 3) (r2_tix (n := 3) (At.s _ (At.s _ (At.s _ (At.z _ _)))))) r2_lt)) (fun hb_214 => ?_) (fun hb_214 => ?_))
    · have hf := ite_t hb_214 hf
      cases hf
      exact sb_ret (ev_bool false) q (List.Sublist.refl _)
    · have hf := ite_f hb_214 hf
      refine sb_nx ?_
      refine kx_215 _ _ ?_
      refine SB.seqB (fun kx_218 => sb_if (b := (decide (float__208.2.1 = ("left" : Str)))) (et_test (ev_op (ev_op (ev_var (i := 2) rfl) (ev_int 1) (r2_tix (n := 1) (At.s _ (At.z _ _)))) (ev_str ("left" : Str)) r2_eqS)) (fun hb_217 => ?_) (fun hb_217 => ?_))
      · have hf := ite_t hb_217 hf
        cases hf
        exact sb_ret (ev_op (ev_op (ev_var (i := 1) rfl) (ev_int 1) (r2_tix (n := 1) (At.s _ (At.z _ _)))) (ev_op (ev_var (i := 4) rfl) (ev_int 0) (r2_tix (n := 0) (At.z _ _))) r2_eqI) q (List.Sublist.refl _)
      · have hf := ite_f hb_217 hf
        refine sb_nx ?_
        refine kx_218 _ _ ?_
        cases hf
        exact sb_ret (ev_op (ev_op (ev_var (i := 1) rfl) (ev_int 1) (r2_tix (n := 1) (At.s _ (At.z _ _)))) (ev_op (ev_op (ev_var (i := 5) rfl) (ev_int 0) (r2_tix (n := 0) (At.z _ _))) (ev_op (ev_var (i := 1) rfl) (ev_int 3) (r2_tix (n := 3) (At.s _ (At.s _ (At.s _ (At.z _ _)))))) r2_sub) r2_eqI) q (List.Sublist.refl _)
theorem sc_stood : FnScope ["width", "floats", "standing", "papers", "ahead", "row", "k", "float_", "thing"] ["width", "floats", "standing", "papers"] (defScope s_stood) := ⟨rfl, rfl, rfl, by decide +kernel, rfl, by decide +kernel, by decide +kernel⟩
set_option maxHeartbeats 4000000 in
theorem ok_stood (T : TX K mg) : FnOk P w K mg base CX0 4 T.a_stood T.d_stood ["width", "floats", "standing", "papers"] (PF (τ := Int × (List (Str × Str × Int × Int × Unit)) × (List (Str × Int × Int × Int × Int × Unit)) × (List (List (Int × Str × Str × Unit))) × Unit) K (fun t => m_stood t.1 t.2.1 t.2.2.1 t.2.2.2.1)) := by
  refine T.F_stood.ok sc_stood (fun vs H Q E h => ?_) (fun cdv A outer s H vs Q E hr h => ?_)
  · obtain ⟨Kn, t, r, ek, h, hf, q⟩ := h
    exact Tp.len h
  · obtain ⟨Kn, t, r_, ek, h, hf, q⟩ := h
    obtain ⟨width_219, floats_220, standing_221, papers_222, u_⟩ := t
    obtain ⟨v_0, rr_, rfl, hv_0, h⟩ := h
    obtain ⟨v_1, rr_, rfl, hv_1, h⟩ := h
    obtain ⟨v_2, rr_, rfl, hv_2, h⟩ := h
    obtain ⟨v_3, rr_, rfl, hv_3, h⟩ := h
    obtain rfl := h
    replace hf : m_stood width_219 floats_220 standing_221 papers_222 = some r_ := hf
    unfold m_stood at hf
    refine ⟨_, (pss_cons (ps_if (PW.pt (pw_or (pt_not (pt_val (pe_callB k_isi (by rfl) T.z_isinstance (by decide +kernel) (pa_cons (pv 2) (pa_cons (pe_bltn (v := .ty "list") (u := .type "list") (by rfl) T.z_list (by decide +kernel) rfl) pa_nil))))) (pw_or1 (pt_not (pt_val (pe_callB k_isi (by rfl) T.z_isinstance (by decide +kernel) (pa_cons (pv 3) (pa_cons (pe_bltn (v := .ty "list") (u := .type "list") (by rfl) T.z_list (by decide +kernel) rfl) pa_nil)))))))) (pss_one (ps_ret pe_bl)) pss_nil)
      (pss_cons (ps_if (PW.pt (pw_or (pt_cmpR op_ne (pe_callB k_len (by rfl) T.z_len PySem.boot_len (pa_cons (pv 2) pa_nil)) (pe_callB k_len (by rfl) T.z_len PySem.boot_len (pa_cons (pv 1) pa_nil)) (nomark _)) (pw_or1 (pt_cmpR op_ne (pe_callB k_len (by rfl) T.z_len PySem.boot_len (pa_cons (pv 3) pa_nil)) (pe_callB k_len (by rfl) T.z_len PySem.boot_len (pa_cons (pv 1) pa_nil)) (nomark _))))) (pss_one (ps_ret pe_bl)) pss_nil)
      (pss_cons (ps_set (i := 4) sc_stood.nd rfl (.inl rfl) (pe_tup (pa_cons (pe_lst pa_nil) (pa_cons (pe_lst pa_nil) pa_nil))))
      (pss_cons (ps_set (i := 5) sc_stood.nd rfl (.inl rfl) pe_int)
      (pss_cons (ps_for PassesOwn.never rfl (pi_enum (by rfl) T.z_enumerate (pa_cons (pv 1) pa_nil)) (kpg_tup (pgs_cons (pg_name (i := 6) sc_stood.nd rfl (.inl rfl)) (pgs_cons (pg_name (i := 7) sc_stood.nd rfl (.inl rfl)) pgs_nil))) (pss_cons (ps_set (i := 8) sc_stood.nd rfl (.inl rfl) (pe_ix k_ixl (pv 2) (pv 6) (fun _ _ => rfl)))
      (pss_cons (ps_if (PW.pt (pw_or (pt_not (pt_val (pe_call (ok_is_standing T) (hr.mono (by decide)) (by rfl) T.g_is_standing T.F_is_standing.kp T.b_is_standing .nil pass0 (pa_cons (pv 8) (pa_cons (pv 7) pa_nil))))) (pw_or1 (pt_not (pt_val (pe_call (ok_paper_shows T) hr (by rfl) T.g_paper_shows T.F_paper_shows.kp T.b_paper_shows .nil pass0 (pa_cons (pv 4) (pa_cons (pe_ix k_ixl (pv 3) (pv 6) (fun _ _ => rfl)) (pa_cons (pv 5) (pa_cons (pv 8) (pa_cons (pv 7) (pa_cons (pv 0) pa_nil)))))))))))) (pss_one (ps_ret pe_bl)) pss_nil)
      (pss_cons (ps_if (pt_not (pt_val (pe_call (ok_stands_there T) hr (by rfl) T.g_stands_there T.F_stands_there.kp T.b_stands_there .nil pass0 (pa_cons (pv 4) (pa_cons (pv 8) (pa_cons (pv 7) (pa_cons (pv 0) pa_nil))))))) (pss_one (ps_ret pe_bl)) pss_nil)
      (pss_cons (ps_expr (pe_bm PySem.F.plainAttrs_list PySem.F.slot_list_append PySem.F.type_list_append mt_append (pe_ix k_ixt (pv 4) (pe_callTy call_int1 (by rfl) T.z_int (by decide +kernel) (pa_cons (pe_cmpR op_eq (pe_ix k_ixt (pv 7) pe_int (fun _ _ => rfl)) pe_str (nomark _)) pa_nil)) (fun _ _ => rfl)) (pa_cons (pv 8) pa_nil)))
      (pss_one (ps_set (i := 5) sc_stood.nd rfl (.inl rfl) (pe_ix k_ixt (pv 8) pe_int (fun _ _ => rfl)))))))))
      (pss_one (ps_ret pe_bl))))))), ?_⟩
    refine enter (Kn := Kn) (sl := [sv width_219, sv floats_220, sv standing_221, sv papers_222, .any, .any, .any, .any, .any]) ek ⟨⟨v_0, rfl, hv_0⟩, ⟨v_1, rfl, hv_1⟩, ⟨v_2, rfl, hv_2⟩, ⟨v_3, rfl, hv_3⟩, trivial, trivial, trivial, trivial, trivial, trivial⟩ ?_
    have q := rt_of q
    refine SB.seqB (fun kx_225 => sb_if (b := ((!true) || (!true))) (et_or (et_not (et_B (ev_cb (ea_cons (ev_var (i := 2) rfl) (ea_cons (ev_ty "list") ea_nil)) (rc_isi (b := true) (by decide +kernel))))) (fun _ => (et_not (et_B (ev_cb (ea_cons (ev_var (i := 3) rfl) (ea_cons (ev_ty "list") ea_nil)) (rc_isi (b := true) (by decide +kernel))))))) (fun hb_224 => ?_) (fun hb_224 => ?_))
    · have hf := ite_t hb_224 hf
      cases hf
      exact sb_ret (ev_bool false) q (List.Sublist.refl _)
    · have hf := ite_f hb_224 hf
      refine sb_nx ?_
      refine kx_225 _ _ ?_
      refine SB.seqB (fun kx_228 => sb_if (b := ((!decide ((standing_221.length : Int) = (floats_220.length : Int))) || (!decide ((papers_222.length : Int) = (floats_220.length : Int))))) (et_or (et_test (ev_op (ev_cb (ea_cons (ev_var (i := 2) rfl) ea_nil) rc_len) (ev_cb (ea_cons (ev_var (i := 1) rfl) ea_nil) rc_len) r2_neI)) (fun _ => (et_test (ev_op (ev_cb (ea_cons (ev_var (i := 3) rfl) ea_nil) rc_len) (ev_cb (ea_cons (ev_var (i := 1) rfl) ea_nil) rc_len) r2_neI)))) (fun hb_227 => ?_) (fun hb_227 => ?_))
      · have hf := ite_t hb_227 hf
        cases hf
        exact sb_ret (ev_bool false) q (List.Sublist.refl _)
      · have hf := ite_f hb_227 hf
        refine sb_nx ?_
        refine kx_228 _ _ ?_
        refine SB.seqB (fun kx_ => sb_asgPair (α := (Str × Int × Int × Int × Int × Unit)) (sl' := fun p_ahead_229 => [sv width_219, sv floats_220, sv standing_221, sv papers_222, .at p_ahead_229, .any, .any, .any, .any]) (fun _ => rfl) (en_lst el_nil) (en_lst el_nil) (fun p_ahead_229 p_ahead_229a p_ahead_229b => (kx_ _ _ ?_)))
        obtain ⟨row_230, h_row_230, hf⟩ := bind_some hf
        refine SB.seqB (fun kx_ => sb_asg (sl' := [sv width_219, sv floats_220, sv standing_221, sv papers_222, .at p_ahead_229, sv row_230, .any, .any, .any]) rfl (EV.cast (ev_int 0) (Option.some.inj h_row_230)) (kx_ _ _ ?_))
        obtain ⟨tot_240, h_tot_240, hf⟩ := bind_some hf
        refine SB.seqB (fun kx_260 => sb_for (β := (Int × (Str × Str × Int × Int × Unit) × Unit)) (Sx := Int × (List (Str × Int × Int × Int × Int × Unit)) × (List (Str × Int × Int × Int × Int × Unit))) (fun s => [sv width_219, sv floats_220, sv standing_221, sv papers_222, .at p_ahead_229, sv s.1, .any, .any, .any]) (fun s => [oo p_ahead_229 (P2.mk p_ahead_229a p_ahead_229b), ol p_ahead_229a s.2.1, ol p_ahead_229b s.2.2]) (fun x s => [sv width_219, sv floats_220, sv standing_221, sv papers_222, .at p_ahead_229, sv s.1, sv x.1, sv x.2.1, .any]) [6, 7] (fun xs s => forC (m_stood_L1 width_219 standing_221 papers_222) xs s = some tot_240) (row_230, ([] : List (Str × Int × Int × Int × Int × Unit)), ([] : List (Str × Int × Int × Int × Int × Unit))) (IT.m (it_enum (ea_cons (ev_var (i := 1) rfl) ea_nil))) h_tot_240 (.keep (.keep (.keep (.keep (.keep (.keep (.keep (.keep (.keep .nil))))))))) (List.Sublist.refl _) (fun x s => (gt_tup (gts_cons (gt_name rfl) (gts_cons (gt_name rfl) gts_nil)))) ?_ ?_)
        · intro Kn1 b1 x_ rest_ s_ hP_237 N_ hN_236
          obtain ⟨k_234, float__235, _⟩ := x_
          obtain ⟨row_231, ahead_232, ahead_233⟩ := s_
          obtain ⟨c_, hc_238, hP_237⟩ := bind_some hP_237
          have q_239 := q.base b1
          unfold m_stood_L1 at hc_238
          refine SB.is (sl' := [sv width_219, sv floats_220, sv standing_221, sv papers_222, .at p_ahead_229, sv row_231, sv k_234, sv float__235, .any]) (ow1 := [oo p_ahead_229 (P2.mk p_ahead_229a p_ahead_229b), ol p_ahead_229a ahead_232, ol p_ahead_229b ahead_233]) rfl rfl ?_
          obtain ⟨i_241, h_i_241, hc_238⟩ := bind_some hc_238
          obtain ⟨thing_242, h_thing_242, hc_238⟩ := bind_some hc_238
          refine SB.seqB (fun kx_ => sb_asg (sl' := [sv width_219, sv floats_220, sv standing_221, sv papers_222, .at p_ahead_229, sv row_231, sv k_234, sv float__235, sv thing_242]) rfl (EV.cast (ev_op (ev_var (i := 2) rfl) (ev_var (i := 6) rfl) (r2_ixL h_i_241)) (Option.some.inj h_thing_242)) (kx_ _ _ ?_))
          obtain ⟨r_244, h_r_244, hc_238⟩ := bind_some hc_238
          obtain ⟨b_247, h_b_247, hc_238⟩ := bind_some hc_238
          refine SB.seqB (fun kx_249 => sb_if (b := b_247) (et_orO h_b_247 (et_not (et_B (ev_call (ea_cons (ev_var (i := 8) rfl) (ea_cons (ev_var (i := 7) rfl) ea_nil)) h_r_244))) (fun _ _ h => by obtain ⟨i_245, h_i_245, h⟩ := bind_some h; obtain ⟨r_246, h_r_246, h⟩ := bind_some h; have hz_ := Option.some.inj h; subst hz_; exact (et_not (et_B (ev_borP (i := 4) (j := 0) (k1 := 0) (k2 := 0) (sl' := [sv width_219, sv floats_220, sv standing_221, sv papers_222, sv (ahead_232, ahead_233, ()), sv row_231, sv k_234, sv float__235, sv thing_242]) (ow1 := []) rfl rfl rfl rfl rfl rfl (ev_call (ea_cons (ev_var (i := 4) rfl) (ea_cons (ev_op (ev_var (i := 3) rfl) (ev_var (i := 6) rfl) (r2_ixL h_i_245)) (ea_cons (ev_var (i := 5) rfl) (ea_cons (ev_var (i := 8) rfl) (ea_cons (ev_var (i := 7) rfl) (ea_cons (ev_var (i := 0) rfl) ea_nil)))))) h_r_246)))))) (fun hb_248 => ?_) (fun hb_248 => ?_))
          · have hc_238 := ite_t hb_248 hc_238
            cases hc_238
            replace hP_237 : some (Ctl.rt false) = some tot_240 := hP_237
            cases hP_237
            replace hf : some false = some r_ := hf
            cases hf
            exact sb_ret (ev_bool false) q_239 (List.Sublist.cons _ (List.Sublist.cons _ (List.Sublist.cons _ List.Sublist.slnil)))
          · have hc_238 := ite_f hb_248 hc_238
            refine sb_nx ?_
            refine kx_249 _ _ ?_
            obtain ⟨r_251, h_r_251, hc_238⟩ := bind_some hc_238
            refine SB.seqB (fun kx_253 => sb_if (b := (!r_251)) (et_not (et_B (ev_borP (i := 4) (j := 0) (k1 := 0) (k2 := 0) (sl' := [sv width_219, sv floats_220, sv standing_221, sv papers_222, sv (ahead_232, ahead_233, ()), sv row_231, sv k_234, sv float__235, sv thing_242]) (ow1 := []) rfl rfl rfl rfl rfl rfl (ev_call (ea_cons (ev_var (i := 4) rfl) (ea_cons (ev_var (i := 8) rfl) (ea_cons (ev_var (i := 7) rfl) (ea_cons (ev_var (i := 0) rfl) ea_nil)))) h_r_251)))) (fun hb_252 => ?_) (fun hb_252 => ?_))
            · have hc_238 := ite_t hb_252 hc_238
              cases hc_238
              replace hP_237 : some (Ctl.rt false) = some tot_240 := hP_237
              cases hP_237
              replace hf : some false = some r_ := hf
              cases hf
              exact sb_ret (ev_bool false) q_239 (List.Sublist.cons _ (List.Sublist.cons _ (List.Sublist.cons _ List.Sublist.slnil)))
            · have hc_238 := ite_f hb_252 hc_238
              refine sb_nx ?_
              refine kx_253 _ _ ?_
              obtain ⟨⟨ahead_254, ahead_255⟩, h_ahead_254, hc_238⟩ := bind_some hc_238
              refine SB.seqB (fun kx_ => sb_appP (i := 4) (j := 0) (k1 := 1) (k2 := 2) rfl rfl rfl rfl (ev_cb (ea_cons (ev_op (ev_op (ev_var (i := 7) rfl) (ev_int 1) (r2_tix (n := 1) (At.s _ (At.z _ _)))) (ev_str ("right" : Str)) r2_eqS) ea_nil) rc_intB) (ev_var (i := 8) rfl) h_ahead_254 (ow1 := [oo p_ahead_229 (P2.mk p_ahead_229a p_ahead_229b), ol p_ahead_229a ahead_254, ol p_ahead_229b ahead_255]) rfl (by decide) (kx_ _ _ ?_))
              obtain ⟨row_256, h_row_256, hc_238⟩ := bind_some hc_238
              refine sb_asg (sl' := [sv width_219, sv floats_220, sv standing_221, sv papers_222, .at p_ahead_229, sv row_256, sv k_234, sv float__235, sv thing_242]) rfl (EV.cast (ev_op (ev_var (i := 8) rfl) (ev_int 2) (r2_tix (n := 2) (At.s _ (At.s _ (At.z _ _))))) (Option.some.inj h_row_256)) ?_
              cases hc_238
              exact fun σ Kn H s => hN_236 _ hP_237 σ Kn H ((s.le (.keep (.keep (.keep (.keep (.keep (.keep (.drop (.drop (.drop .nil)))))))))).sub (List.Sublist.refl _))
        · intro s_ h0
          obtain ⟨row_257, ahead_258, ahead_259⟩ := s_
          cases h0
          refine kx_260 _ _ ?_
          refine SB.is (sl' := [sv width_219, sv floats_220, sv standing_221, sv papers_222, .at p_ahead_229, sv row_257, .any, .any, .any]) (ow1 := [oo p_ahead_229 (P2.mk p_ahead_229a p_ahead_229b), ol p_ahead_229a ahead_258, ol p_ahead_229b ahead_259]) rfl rfl ?_
          cases hf
          exact sb_ret (ev_bool true) q (List.Sublist.cons _ (List.Sublist.cons _ (List.Sublist.cons _ List.Sublist.slnil)))
theorem sc__law_cell_at : FnScope ["_law_script", "_law_k"] ["_law_script", "_law_k"] (defScope s__law_cell_at) := ⟨rfl, rfl, rfl, by decide +kernel, rfl, by decide +kernel, by decide +kernel⟩
set_option maxHeartbeats 4000000 in
theorem ok__law_cell_at (T : TX K mg) : FnOk P w K mg base CX0 1 T.a__law_cell_at T.d__law_cell_at ["_law_script", "_law_k"] (PF (τ := (Fz Int) × Int × Unit) K (fun t => m__law_cell_at t.1 t.2.1)) := by
  refine T.F__law_cell_at.ok sc__law_cell_at (fun vs H Q E h => ?_) (fun cdv A outer s H vs Q E hr h => ?_)
  · obtain ⟨Kn, t, r, ek, h, hf, q⟩ := h
    exact Tp.len h
  · obtain ⟨Kn, t, r_, ek, h, hf, q⟩ := h
    obtain ⟨script_261, k_262, u_⟩ := t
    obtain ⟨v_0, rr_, rfl, hv_0, h⟩ := h
    obtain ⟨v_1, rr_, rfl, hv_1, h⟩ := h
    obtain rfl := h
    replace hf : m__law_cell_at script_261 k_262 = some r_ := hf
    unfold m__law_cell_at at hf
    refine ⟨_, (pss_cons (ps_if (pt_cmpR op_lt (pv 1) (pe_callB k_len (by rfl) T.z_len PySem.boot_len (pa_cons (pv 0) pa_nil)) (nomark _)) (pss_one (ps_ret (pe_ix k_ixl (pv 0) (pv 1) (fun _ _ => rfl)))) pss_nil)
      (pss_one (ps_ret pe_int))), ?_⟩
    refine enter (Kn := Kn) (sl := [sv script_261, sv k_262]) ek ⟨⟨v_0, rfl, hv_0⟩, ⟨v_1, rfl, hv_1⟩, trivial⟩ ?_
    have q := rt_of q
    refine SB.seqB (fun kx_265 => sb_if (b := (decide (k_262 < (script_261.l.length : Int)))) (et_test (ev_op (ev_var (i := 1) rfl) (ev_cb (ea_cons (ev_var (i := 0) rfl) ea_nil) rc_lenF) r2_lt)) (fun hb_264 => ?_) (fun hb_264 => ?_))
    · have hf := ite_t hb_264 hf
      obtain ⟨i_266, h_i_266, hf⟩ := bind_some hf
      cases hf
      exact sb_ret (ev_op (ev_var (i := 0) rfl) (ev_var (i := 1) rfl) (r2_ixF h_i_266)) q (List.Sublist.refl _)
    · have hf := ite_f hb_264 hf
      refine sb_nx ?_
      refine kx_265 _ _ ?_
      cases hf
      exact sb_ret (ev_int 0) q (List.Sublist.refl _)
theorem sc__law_numbers : FnScope ["_law_cell", "_law_many", "_law_found", "_law_number"] ["_law_cell", "_law_many"] (defScope s__law_numbers) := ⟨rfl, rfl, rfl, by decide +kernel, rfl, by decide +kernel, by decide +kernel⟩
set_option maxHeartbeats 4000000 in
theorem ok__law_numbers (T : TX K mg) : FnOk P w K mg base CX0 1 T.a__law_numbers T.d__law_numbers ["_law_cell", "_law_many"] (PL (τ := Int × Int × Unit) K (fun t => m__law_numbers t.1 t.2.1)) := by
  refine T.F__law_numbers.ok sc__law_numbers (fun vs H Q E h => ?_) (fun cdv A outer s H vs Q E hr h => ?_)
  · obtain ⟨Kn, t, r, ek, h, hf, q⟩ := h
    exact Tp.len h
  · obtain ⟨Kn, t, r_, ek, h, hf, q⟩ := h
    obtain ⟨cell_267, many_268, u_⟩ := t
    obtain ⟨v_0, rr_, rfl, hv_0, h⟩ := h
    obtain ⟨v_1, rr_, rfl, hv_1, h⟩ := h
    obtain rfl := h
    replace hf : m__law_numbers cell_267 many_268 = some r_ := hf
    unfold m__law_numbers at hf
    refine ⟨_, (pss_cons (ps_set (i := 2) sc__law_numbers.nd rfl (.inl rfl) (pe_lst pa_nil))
      (pss_cons (ps_set (i := 3) sc__law_numbers.nd rfl (.inl rfl) (pe_op op_fdiv (pv 0) pe_int))
      (pss_cons (ps_while PassesOwn.never (PW.pt (pw_and (pt_cmpR op_eq (pe_op op_mod (pv 0) pe_int) pe_int (nomark _)) (pw_and (pt_cmpR op_gt (pv 3) pe_int (nomark _)) (pw_and1 (pt_cmpR op_lt (pe_callB k_len (by rfl) T.z_len PySem.boot_len (pa_cons (pv 2) pa_nil)) (pv 1) (nomark _)))))) (pss_cons (ps_expr (pe_bm PySem.F.plainAttrs_list PySem.F.slot_list_append PySem.F.type_list_append mt_append (pv 2) (pa_cons (pe_op op_mod (pv 3) (pe_op op_pow pe_int pe_int)) pa_nil)))
      (pss_one (ps_set (i := 3) sc__law_numbers.nd rfl (.inl rfl) (pe_op op_fdiv (pv 3) (pe_op op_pow pe_int pe_int))))))
      (pss_cons (ps_set (i := 3) sc__law_numbers.nd rfl (.inl rfl) (pe_op op_mod (pv 0) pe_int))
      (pss_cons (ps_while PassesOwn.never (pt_cmpR op_lt (pe_callB k_len (by rfl) T.z_len PySem.boot_len (pa_cons (pv 2) pa_nil)) (pv 1) (nomark _)) (pss_cons (ps_set (i := 3) sc__law_numbers.nd rfl (.inl rfl) (pe_op op_mod (pe_op op_mul (pe_op op_add (pe_op op_add (pv 3) (pe_callB k_len (by rfl) T.z_len PySem.boot_len (pa_cons (pv 2) pa_nil))) pe_int) pe_int) pe_int))
      (pss_one (ps_expr (pe_bm PySem.F.plainAttrs_list PySem.F.slot_list_append PySem.F.type_list_append mt_append (pv 2) (pa_cons (pe_op op_mod (pe_op op_mul (pv 3) pe_int) pe_int) pa_nil))))))
      (pss_one (ps_ret (pv 2)))))))), ?_⟩
    refine enter (Kn := Kn) (sl := [sv cell_267, sv many_268, .any, .any]) ek ⟨⟨v_0, rfl, hv_0⟩, ⟨v_1, rfl, hv_1⟩, trivial, trivial, trivial⟩ ?_
    have q := rn_of q
    obtain ⟨found_269, h_found_269, hf⟩ := bind_some hf
    refine SB.seqB (fun kx_ => sb_asgO (sl' := fun p_found_269 => [sv cell_267, sv many_268, .at p_found_269, .any]) (fun _ => rfl) (EN.cast (en_lst el_nil) (Option.some.inj h_found_269)) (fun p_found_269 => (kx_ _ _ ?_)))
    obtain ⟨number_270, h_number_270, hf⟩ := bind_some hf
    refine SB.seqB (fun kx_ => sb_asg (sl' := [sv cell_267, sv many_268, .at p_found_269, sv number_270]) rfl (EV.cast (ev_op (ev_var (i := 0) rfl) (ev_int 2) r2_div) (Option.some.inj h_number_270)) (kx_ _ _ ?_))
    obtain ⟨⟨number_280, found_281⟩, h_tot_277, hf⟩ := bind_some hf
    obtain ⟨n0_, h_tot_277⟩ := whileF_some h_tot_277
    refine SB.seqB (fun kx_282 => sb_while (Sx := Int × (List Int)) (fun s => [sv cell_267, sv many_268, .at p_found_269, sv s.1]) (fun s => [ol p_found_269 s.2]) (fun n s => whileS (m__law_numbers_L1_c cell_267 many_268) (m__law_numbers_L1 cell_267 many_268) n s = some (number_280, found_281)) n0_ (number_270, found_269) h_tot_277 (.keep (.keep (.keep (.keep .nil)))) (List.Sublist.refl _) ?_)
    intro n_ s_ hP_274
    obtain ⟨number_271, found_272⟩ := s_
    cases n_ with
    | zero => cases hP_274
    | succ n_ =>
      obtain ⟨b_, ht_, hP_274⟩ := bind_some hP_274
      unfold m__law_numbers_L1_c at ht_
      cases ht_
      refine ⟨_, ET.is (sl' := [sv cell_267, sv many_268, .at p_found_269, sv number_271]) rfl (et_and (et_test (ev_op (ev_op (ev_var (i := 0) rfl) (ev_int 2) r2_mod) (ev_int 1) r2_eqI)) (fun _ => (et_and (et_test (ev_op (ev_var (i := 3) rfl) (ev_int 0) r2_gt)) (fun _ => (et_test (ev_bor (i := 2) (j := 0) (sl' := [sv cell_267, sv many_268, sv found_272, sv number_271]) (ow1 := []) rfl rfl rfl rfl (ev_op (ev_cb (ea_cons (ev_var (i := 2) rfl) ea_nil) rc_len) (ev_var (i := 1) rfl) r2_lt))))))), fun hb_276 N_ hN_273 => ?_, fun hb_276 => ?_⟩
      · have hP_274 := ite_t hb_276 hP_274
        obtain ⟨c_, hc_275, hP_274⟩ := bind_some hP_274
        unfold m__law_numbers_L1 at hc_275
        refine SB.is (sl' := [sv cell_267, sv many_268, .at p_found_269, sv number_271]) (ow1 := [ol p_found_269 found_272]) rfl rfl ?_
        obtain ⟨found_278, h_found_278, hc_275⟩ := bind_some hc_275
        refine SB.seqB (fun kx_ => sb_appO (i := 2) (j := 0) rfl rfl (ev_op (ev_var (i := 3) rfl) (ev_op (ev_int 10) (ev_int 7) (r2_pow (r := 10000000))) r2_mod) h_found_278 (ow1 := [ol p_found_269 found_278]) rfl (kx_ _ _ ?_))
        obtain ⟨number_279, h_number_279, hc_275⟩ := bind_some hc_275
        refine sb_asg (sl' := [sv cell_267, sv many_268, .at p_found_269, sv number_279]) rfl (EV.cast (ev_op (ev_var (i := 3) rfl) (ev_op (ev_int 10) (ev_int 7) (r2_pow (r := 10000000))) r2_div) (Option.some.inj h_number_279)) ?_
        cases hc_275
        exact fun σ Kn H s => hN_273 _ _ (Nat.lt_succ_self _) hP_274 σ Kn H ((s.le (.keep (.keep (.keep (.keep .nil))))).sub (List.Sublist.refl _))
      · have hP_274 := ite_f hb_276 hP_274
        cases hP_274
        refine kx_282 _ _ ?_
        refine SB.is (sl' := [sv cell_267, sv many_268, .at p_found_269, sv number_280]) (ow1 := [ol p_found_269 found_281]) rfl rfl ?_
        obtain ⟨number_283, h_number_283, hf⟩ := bind_some hf
        refine SB.seqB (fun kx_ => sb_asg (sl' := [sv cell_267, sv many_268, .at p_found_269, sv number_283]) rfl (EV.cast (ev_op (ev_var (i := 0) rfl) (ev_int 2147483647) r2_mod) (Option.some.inj h_number_283)) (kx_ _ _ ?_))
        obtain ⟨⟨number_293, found_294⟩, h_tot_290, hf⟩ := bind_some hf
        obtain ⟨n0_, h_tot_290⟩ := whileF_some h_tot_290
        refine SB.seqB (fun kx_295 => sb_while (Sx := Int × (List Int)) (fun s => [sv cell_267, sv many_268, .at p_found_269, sv s.1]) (fun s => [ol p_found_269 s.2]) (fun n s => whileS (m__law_numbers_L2_c many_268) (m__law_numbers_L2 many_268) n s = some (number_293, found_294)) n0_ (number_283, found_281) h_tot_290 (.keep (.keep (.keep (.keep .nil)))) (List.Sublist.refl _) ?_)
        intro n_ s_ hP_287
        obtain ⟨number_284, found_285⟩ := s_
        cases n_ with
        | zero => cases hP_287
        | succ n_ =>
          obtain ⟨b_, ht_, hP_287⟩ := bind_some hP_287
          unfold m__law_numbers_L2_c at ht_
          cases ht_
          refine ⟨_, ET.is (sl' := [sv cell_267, sv many_268, .at p_found_269, sv number_284]) rfl (et_test (ev_bor (i := 2) (j := 0) (sl' := [sv cell_267, sv many_268, sv found_285, sv number_284]) (ow1 := []) rfl rfl rfl rfl (ev_op (ev_cb (ea_cons (ev_var (i := 2) rfl) ea_nil) rc_len) (ev_var (i := 1) rfl) r2_lt))), fun hb_289 N_ hN_286 => ?_, fun hb_289 => ?_⟩
          · have hP_287 := ite_t hb_289 hP_287
            obtain ⟨c_, hc_288, hP_287⟩ := bind_some hP_287
            unfold m__law_numbers_L2 at hc_288
            refine SB.is (sl' := [sv cell_267, sv many_268, .at p_found_269, sv number_284]) (ow1 := [ol p_found_269 found_285]) rfl rfl ?_
            obtain ⟨number_291, h_number_291, hc_288⟩ := bind_some hc_288
            refine SB.seqB (fun kx_ => sb_asg (sl' := [sv cell_267, sv many_268, .at p_found_269, sv number_291]) rfl (EV.cast (ev_op (ev_op (ev_op (ev_op (ev_var (i := 3) rfl) (ev_bor (i := 2) (j := 0) (sl' := [sv cell_267, sv many_268, sv found_285, sv number_284]) (ow1 := []) rfl rfl rfl rfl (ev_cb (ea_cons (ev_var (i := 2) rfl) ea_nil) rc_len)) r2_add) (ev_int 1) r2_add) (ev_int 48271) r2_mulr) (ev_int 2147483647) r2_mod) (Option.some.inj h_number_291)) (kx_ _ _ ?_))
            obtain ⟨found_292, h_found_292, hc_288⟩ := bind_some hc_288
            refine sb_appO (i := 2) (j := 0) rfl rfl (ev_op (ev_op (ev_var (i := 3) rfl) (ev_int 69621) r2_mulr) (ev_int 2147483629) r2_mod) h_found_292 (ow1 := [ol p_found_269 found_292]) rfl ?_
            cases hc_288
            exact fun σ Kn H s => hN_286 _ _ (Nat.lt_succ_self _) hP_287 σ Kn H ((s.le (.keep (.keep (.keep (.keep .nil))))).sub (List.Sublist.refl _))
          · have hP_287 := ite_f hb_289 hP_287
            cases hP_287
            refine kx_295 _ _ ?_
            refine SB.is (sl' := [sv cell_267, sv many_268, .at p_found_269, sv number_293]) (ow1 := [ol p_found_269 found_294]) rfl rfl ?_
            cases hf
            exact sb_retO (i := 2) (j := 0) rfl rfl q (List.Sublist.cons _ List.Sublist.slnil)
theorem sc__law_names : FnScope ["_law_cell", "_law_many", "_law_some", "_law_size", "_law_at", "_law_names_here", "_law_turn", "_law_name", "_law_k", "_law_more"] ["_law_cell", "_law_many"] (defScope s__law_names) := ⟨rfl, rfl, rfl, by decide +kernel, rfl, by decide +kernel, by decide +kernel⟩
set_option maxHeartbeats 4000000 in
theorem ok__law_names (T : TX K mg) : FnOk P w K mg base CX0 2 T.a__law_names T.d__law_names ["_law_cell", "_law_many"] (PL (τ := Int × Int × Unit) K (fun t => m__law_names t.1 t.2.1)) := by
  refine T.F__law_names.ok sc__law_names (fun vs H Q E h => ?_) (fun cdv A outer s H vs Q E hr h => ?_)
  · obtain ⟨Kn, t, r, ek, h, hf, q⟩ := h
    exact Tp.len h
  · obtain ⟨Kn, t, r_, ek, h, hf, q⟩ := h
    obtain ⟨cell_296, many_297, u_⟩ := t
    obtain ⟨v_0, rr_, rfl, hv_0, h⟩ := h
    obtain ⟨v_1, rr_, rfl, hv_1, h⟩ := h
    obtain rfl := h
    replace hf : m__law_names cell_296 many_297 = some r_ := hf
    unfold m__law_names at hf
    refine ⟨_, (pss_cons (ps_set (i := 2) sc__law_names.nd rfl (.inl rfl) (pe_call (ok__law_numbers T) hr (by rfl) T.g__law_numbers T.F__law_numbers.kp T.b__law_numbers .nil pass0 (pa_cons (pv 0) (pa_cons pe_int pa_nil))))
      (pss_cons (ps_set (i := 3) sc__law_names.nd rfl (.inl rfl) (pe_op op_add pe_int (pe_op op_mod (pe_ix k_ixl (pv 2) pe_int (fun _ _ => rfl)) pe_int)))
      (pss_cons (ps_set (i := 4) sc__law_names.nd rfl (.inl rfl) (pe_op op_mod (pe_ix k_ixl (pv 2) pe_int (fun _ _ => rfl)) (pv 3)))
      (pss_cons (ps_set (i := 5) sc__law_names.nd rfl (.inl rfl) (pe_lst pa_nil))
      (pss_cons (ps_for PassesOwn.never rfl (pi_range1 (by rfl) T.z_range (pa_cons (pv 1) pa_nil)) (pg_name (i := 6) sc__law_names.nd rfl (.inl rfl)) (pss_cons (ps_set (i := 7) sc__law_names.nd rfl (.inl rfl) pe_str)
      (pss_cons (ps_for PassesOwn.never rfl (pi_range1 (by rfl) T.z_range (pa_cons (pv 3) pa_nil)) (pg_name (i := 8) sc__law_names.nd rfl (.inl rfl)) (pss_cons (ps_set (i := 9) sc__law_names.nd rfl (.inl rfl) (pe_op op_mul (pv 6) (pe_callTy call_int1 (by rfl) T.z_int (by decide +kernel) (pa_cons (pe_cmpR op_eq (pv 8) (pv 4) (nomark _)) pa_nil))))
      (pss_one (ps_set (i := 7) sc__law_names.nd rfl (.inl rfl) (pe_op op_add_str (pv 7) (pe_ix ix_str pe_str (pe_op op_mod (pe_op op_add (pe_ix k_ixl (pv 2) (pv 8) (fun _ _ => rfl)) (pv 9)) pe_int) (fun _ _ => rfl)))))))
      (pss_one (ps_expr (pe_bm PySem.F.plainAttrs_list PySem.F.slot_list_append PySem.F.type_list_append mt_append (pv 5) (pa_cons (pv 7) pa_nil)))))))
      (pss_one (ps_ret (pv 5)))))))), ?_⟩
    refine enter (Kn := Kn) (sl := [sv cell_296, sv many_297, .any, .any, .any, .any, .any, .any, .any, .any]) ek ⟨⟨v_0, rfl, hv_0⟩, ⟨v_1, rfl, hv_1⟩, trivial, trivial, trivial, trivial, trivial, trivial, trivial, trivial, trivial⟩ ?_
    have q := rn_of q
    obtain ⟨r_298, h_r_298, hf⟩ := bind_some hf
    obtain ⟨some_299, h_some_299, hf⟩ := bind_some hf
    refine SB.seqB (fun kx_ => sb_asg (sl' := [sv cell_296, sv many_297, sv some_299, .any, .any, .any, .any, .any, .any, .any]) rfl (EV.cast (EN.ev (en_call (ea_cons (ev_var (i := 0) rfl) (ea_cons (ev_int 10) ea_nil)) h_r_298)) (Option.some.inj h_some_299)) (kx_ _ _ ?_))
    obtain ⟨i_300, h_i_300, hf⟩ := bind_some hf
    obtain ⟨size_301, h_size_301, hf⟩ := bind_some hf
    refine SB.seqB (fun kx_ => sb_asg (sl' := [sv cell_296, sv many_297, sv some_299, sv size_301, .any, .any, .any, .any, .any, .any]) rfl (EV.cast (ev_op (ev_int 1) (ev_op (ev_op (ev_var (i := 2) rfl) (ev_int 8) (r2_ixL h_i_300)) (ev_int 8) r2_mod) r2_add) (Option.some.inj h_size_301)) (kx_ _ _ ?_))
    obtain ⟨i_302, h_i_302, hf⟩ := bind_some hf
    obtain ⟨r_303, h_r_303, hf⟩ := bind_some hf
    obtain ⟨at_304, h_at_304, hf⟩ := bind_some hf
    refine SB.seqB (fun kx_ => sb_asg (sl' := [sv cell_296, sv many_297, sv some_299, sv size_301, sv at_304, .any, .any, .any, .any, .any]) rfl (EV.cast (ev_op (ev_op (ev_var (i := 2) rfl) (ev_int 9) (r2_ixL h_i_302)) (ev_var (i := 3) rfl) (r2_modO h_r_303)) (Option.some.inj h_at_304)) (kx_ _ _ ?_))
    obtain ⟨names_here_305, h_names_here_305, hf⟩ := bind_some hf
    refine SB.seqB (fun kx_ => sb_asgO (sl' := fun p_names_here_305 => [sv cell_296, sv many_297, sv some_299, sv size_301, sv at_304, .at p_names_here_305, .any, .any, .any, .any]) (fun _ => rfl) (EN.cast (en_lst el_nil) (Option.some.inj h_names_here_305)) (fun p_names_here_305 => (kx_ _ _ ?_)))
    obtain ⟨rg_306, h_rg_306, hf⟩ := bind_some hf
    obtain ⟨names_here_332, h_tot_313, hf⟩ := bind_some hf
    refine SB.seqB (fun kx_333 => sb_for (β := Int) (Sx := (List Str)) (fun s => [sv cell_296, sv many_297, sv some_299, sv size_301, sv at_304, .at p_names_here_305, .any, .any, .any, .any]) (fun s => [ol p_names_here_305 s]) (fun x s => [sv cell_296, sv many_297, sv some_299, sv size_301, sv at_304, .at p_names_here_305, sv x, .any, .any, .any]) [6] (fun xs s => forS (m__law_names_L1 some_299 size_301 at_304) xs s = some names_here_332) names_here_305 (IT.m (it_rng1 (ea_cons (ev_var (i := 1) rfl) ea_nil) h_rg_306)) h_tot_313 (.keep (.keep (.keep (.keep (.keep (.keep (.keep (.keep (.keep (.keep .nil)))))))))) (List.Sublist.refl _) (fun x s => (gt_name rfl)) ?_ ?_)
    · intro Kn1 b1 turn_308 rest_ names_here_307 hP_310 N_ hN_309
      obtain ⟨c_, hc_311, hP_310⟩ := bind_some hP_310
      have q_312 := q.base b1
      unfold m__law_names_L1 at hc_311
      refine SB.is (sl' := [sv cell_296, sv many_297, sv some_299, sv size_301, sv at_304, .at p_names_here_305, sv turn_308, .any, .any, .any]) (ow1 := [ol p_names_here_305 names_here_307]) rfl rfl ?_
      obtain ⟨name_314, h_name_314, hc_311⟩ := bind_some hc_311
      refine SB.seqB (fun kx_ => sb_asg (sl' := [sv cell_296, sv many_297, sv some_299, sv size_301, sv at_304, .at p_names_here_305, sv turn_308, sv name_314, .any, .any]) rfl (EV.cast (ev_str ("" : Str)) (Option.some.inj h_name_314)) (kx_ _ _ ?_))
      obtain ⟨rg_315, h_rg_315, hc_311⟩ := bind_some hc_311
      obtain ⟨name_329, h_tot_322, hc_311⟩ := bind_some hc_311
      refine SB.seqB (fun kx_330 => sb_for (β := Int) (Sx := Str) (fun s => [sv cell_296, sv many_297, sv some_299, sv size_301, sv at_304, .at p_names_here_305, sv turn_308, sv s, .any, .any]) (fun s => [ol p_names_here_305 names_here_307]) (fun x s => [sv cell_296, sv many_297, sv some_299, sv size_301, sv at_304, .at p_names_here_305, sv turn_308, sv s, sv x, .any]) [8] (fun xs s => forS (m__law_names_L2 some_299 at_304 turn_308) xs s = some name_329) name_314 (IT.m (it_rng1 (ea_cons (ev_var (i := 3) rfl) ea_nil) h_rg_315)) h_tot_322 (.keep (.keep (.keep (.keep (.keep (.keep (.keep (.keep (.keep (.keep .nil)))))))))) (List.Sublist.refl _) (fun x s => (gt_name rfl)) ?_ ?_)
      · intro Kn1 b1 k_317 rest_ name_316 hP_319 N_ hN_318
        obtain ⟨c_, hc_320, hP_319⟩ := bind_some hP_319
        have q_321 := q_312.base b1
        unfold m__law_names_L2 at hc_320
        refine SB.is (sl' := [sv cell_296, sv many_297, sv some_299, sv size_301, sv at_304, .at p_names_here_305, sv turn_308, sv name_316, sv k_317, .any]) (ow1 := [ol p_names_here_305 names_here_307]) rfl rfl ?_
        obtain ⟨m_323, h_m_323, hc_320⟩ := bind_some hc_320
        obtain ⟨more_324, h_more_324, hc_320⟩ := bind_some hc_320
        refine SB.seqB (fun kx_ => sb_asg (sl' := [sv cell_296, sv many_297, sv some_299, sv size_301, sv at_304, .at p_names_here_305, sv turn_308, sv name_316, sv k_317, sv more_324]) rfl (EV.cast (ev_op (ev_var (i := 6) rfl) (ev_cb (ea_cons (ev_op (ev_var (i := 8) rfl) (ev_var (i := 4) rfl) r2_eqI) ea_nil) rc_intB) (r2_mulO h_m_323)) (Option.some.inj h_more_324)) (kx_ _ _ ?_))
        obtain ⟨i_325, h_i_325, hc_320⟩ := bind_some hc_320
        obtain ⟨i_326, h_i_326, hc_320⟩ := bind_some hc_320
        obtain ⟨t_327, h_t_327, hc_320⟩ := bind_some hc_320
        obtain ⟨name_328, h_name_328, hc_320⟩ := bind_some hc_320
        refine sb_asg (sl' := [sv cell_296, sv many_297, sv some_299, sv size_301, sv at_304, .at p_names_here_305, sv turn_308, sv name_328, sv k_317, sv more_324]) rfl (EV.cast (ev_op (ev_var (i := 7) rfl) (ev_op (ev_str ("abcdefghijklmnopqrstuvwxyz" : Str)) (ev_op (ev_op (ev_op (ev_var (i := 2) rfl) (ev_var (i := 8) rfl) (r2_ixL h_i_325)) (ev_var (i := 9) rfl) r2_add) (ev_int 26) r2_mod) (r2_ixS h_i_326)) (r2_addS h_t_327)) (Option.some.inj h_name_328)) ?_
        cases hc_320
        exact fun σ Kn H s => hN_318 _ hP_319 σ Kn H ((s.le (.keep (.keep (.keep (.keep (.keep (.keep (.keep (.keep (.drop (.drop .nil))))))))))).sub (List.Sublist.refl _))
      · intro s_ h0
        cases h0
        refine kx_330 _ _ ?_
        refine SB.is (sl' := [sv cell_296, sv many_297, sv some_299, sv size_301, sv at_304, .at p_names_here_305, sv turn_308, sv name_329, .any, .any]) (ow1 := [ol p_names_here_305 names_here_307]) rfl rfl ?_
        obtain ⟨names_here_331, h_names_here_331, hc_311⟩ := bind_some hc_311
        refine sb_appO (i := 5) (j := 0) rfl rfl (ev_var (i := 7) rfl) h_names_here_331 (ow1 := [ol p_names_here_305 names_here_331]) rfl ?_
        cases hc_311
        exact fun σ Kn H s => hN_309 _ hP_310 σ Kn H ((s.le (.keep (.keep (.keep (.keep (.keep (.keep (.drop (.drop (.keep (.keep .nil))))))))))).sub (List.Sublist.refl _))
    · intro s_ h0
      cases h0
      refine kx_333 _ _ ?_
      refine SB.is (sl' := [sv cell_296, sv many_297, sv some_299, sv size_301, sv at_304, .at p_names_here_305, .any, .any, .any, .any]) (ow1 := [ol p_names_here_305 names_here_332]) rfl rfl ?_
      cases hf
      exact sb_retO (i := 5) (j := 0) rfl rfl q (List.Sublist.cons _ List.Sublist.slnil)
theorem sc__law_floats : FnScope ["_law_names_here", "_law_wide", "_law_cells", "_law_floats_here", "_law_k", "_law_cell", "_law_some", "_law_high"] ["_law_names_here", "_law_wide", "_law_cells"] (defScope s__law_floats) := ⟨rfl, rfl, rfl, by decide +kernel, rfl, by decide +kernel, by decide +kernel⟩
set_option maxHeartbeats 4000000 in
theorem ok__law_floats (T : TX K mg) : FnOk P w K mg base CX0 2 T.a__law_floats T.d__law_floats ["_law_names_here", "_law_wide", "_law_cells"] (PL (τ := (List Str) × Int × (List Int) × Unit) K (fun t => m__law_floats t.1 t.2.1 t.2.2.1)) := by
  refine T.F__law_floats.ok sc__law_floats (fun vs H Q E h => ?_) (fun cdv A outer s H vs Q E hr h => ?_)
  · obtain ⟨Kn, t, r, ek, h, hf, q⟩ := h
    exact Tp.len h
  · obtain ⟨Kn, t, r_, ek, h, hf, q⟩ := h
    obtain ⟨names_here_334, wide_335, cells_336, u_⟩ := t
    obtain ⟨v_0, rr_, rfl, hv_0, h⟩ := h
    obtain ⟨v_1, rr_, rfl, hv_1, h⟩ := h
    obtain ⟨v_2, rr_, rfl, hv_2, h⟩ := h
    obtain rfl := h
    replace hf : m__law_floats names_here_334 wide_335 cells_336 = some r_ := hf
    unfold m__law_floats at hf
    refine ⟨_, (pss_cons (ps_set (i := 3) sc__law_floats.nd rfl (.inl rfl) (pe_lst pa_nil))
      (pss_cons (ps_for PassesOwn.never rfl (pi_enum (by rfl) T.z_enumerate (pa_cons (pv 2) pa_nil)) (kpg_tup (pgs_cons (pg_name (i := 4) sc__law_floats.nd rfl (.inl rfl)) (pgs_cons (pg_name (i := 5) sc__law_floats.nd rfl (.inl rfl)) pgs_nil))) (pss_cons (ps_set (i := 6) sc__law_floats.nd rfl (.inl rfl) (pe_call (ok__law_numbers T) hr (by rfl) T.g__law_numbers T.F__law_numbers.kp T.b__law_numbers .nil pass0 (pa_cons (pv 5) (pa_cons pe_int pa_nil))))
      (pss_cons (ps_set (i := 7) sc__law_floats.nd rfl (.inl rfl) (pe_op op_add pe_int (pe_ix k_ixl (pe_lst (pa_cons (pe_op op_mod (pe_ix k_ixl (pv 6) pe_int (fun _ _ => rfl)) pe_int) (pa_cons (pe_op op_mod (pe_ix k_ixl (pv 6) pe_int (fun _ _ => rfl)) (pe_op op_pow pe_int pe_int)) pa_nil))) (pe_op op_fdiv (pe_op op_mod (pe_ix k_ixl (pv 6) pe_int (fun _ _ => rfl)) pe_int) pe_int) (fun _ _ => rfl))))
      (pss_one (ps_expr (pe_bm PySem.F.plainAttrs_list PySem.F.slot_list_append PySem.F.type_list_append mt_append (pv 3) (pa_cons (pe_tup (pa_cons (pe_ix k_ixl (pv 0) (pv 4) (fun _ _ => rfl)) (pa_cons (pe_ix k_ixl (pe_lst (pa_cons pe_str (pa_cons pe_str pa_nil))) (pe_op op_mod (pe_ix k_ixl (pv 6) pe_int (fun _ _ => rfl)) pe_int) (fun _ _ => rfl)) (pa_cons (pe_op op_add pe_int (pe_op op_mod (pe_ix k_ixl (pv 6) pe_int (fun _ _ => rfl)) (pv 1))) (pa_cons (pv 7) pa_nil))))) pa_nil)))))))
      (pss_one (ps_ret (pv 3))))), ?_⟩
    refine enter (Kn := Kn) (sl := [sv names_here_334, sv wide_335, sv cells_336, .any, .any, .any, .any, .any]) ek ⟨⟨v_0, rfl, hv_0⟩, ⟨v_1, rfl, hv_1⟩, ⟨v_2, rfl, hv_2⟩, trivial, trivial, trivial, trivial, trivial, trivial⟩ ?_
    have q := rn_of q
    obtain ⟨floats_here_337, h_floats_here_337, hf⟩ := bind_some hf
    refine SB.seqB (fun kx_ => sb_asgO (sl' := fun p_floats_here_337 => [sv names_here_334, sv wide_335, sv cells_336, .at p_floats_here_337, .any, .any, .any, .any]) (fun _ => rfl) (EN.cast (en_lst el_nil) (Option.some.inj h_floats_here_337)) (fun p_floats_here_337 => (kx_ _ _ ?_)))
    obtain ⟨floats_here_359, h_tot_345, hf⟩ := bind_some hf
    refine SB.seqB (fun kx_360 => sb_for (β := (Int × Int × Unit)) (Sx := (List (Str × Str × Int × Int × Unit))) (fun s => [sv names_here_334, sv wide_335, sv cells_336, .at p_floats_here_337, .any, .any, .any, .any]) (fun s => [ol p_floats_here_337 s]) (fun x s => [sv names_here_334, sv wide_335, sv cells_336, .at p_floats_here_337, sv x.1, sv x.2.1, .any, .any]) [4, 5] (fun xs s => forS (m__law_floats_L1 names_here_334 wide_335) xs s = some floats_here_359) floats_here_337 (IT.m (it_enum (ea_cons (ev_var (i := 2) rfl) ea_nil))) h_tot_345 (.keep (.keep (.keep (.keep (.keep (.keep (.keep (.keep .nil)))))))) (List.Sublist.refl _) (fun x s => (gt_tup (gts_cons (gt_name rfl) (gts_cons (gt_name rfl) gts_nil)))) ?_ ?_)
    · intro Kn1 b1 x_ rest_ floats_here_338 hP_342 N_ hN_341
      obtain ⟨k_339, cell_340, _⟩ := x_
      obtain ⟨c_, hc_343, hP_342⟩ := bind_some hP_342
      have q_344 := q.base b1
      unfold m__law_floats_L1 at hc_343
      refine SB.is (sl' := [sv names_here_334, sv wide_335, sv cells_336, .at p_floats_here_337, sv k_339, sv cell_340, .any, .any]) (ow1 := [ol p_floats_here_337 floats_here_338]) rfl rfl ?_
      obtain ⟨r_346, h_r_346, hc_343⟩ := bind_some hc_343
      obtain ⟨some_347, h_some_347, hc_343⟩ := bind_some hc_343
      refine SB.seqB (fun kx_ => sb_asg (sl' := [sv names_here_334, sv wide_335, sv cells_336, .at p_floats_here_337, sv k_339, sv cell_340, sv some_347, .any]) rfl (EV.cast (EN.ev (en_call (ea_cons (ev_var (i := 5) rfl) (ea_cons (ev_int 4) ea_nil)) h_r_346)) (Option.some.inj h_some_347)) (kx_ _ _ ?_))
      obtain ⟨i_348, h_i_348, hc_343⟩ := bind_some hc_343
      obtain ⟨i_349, h_i_349, hc_343⟩ := bind_some hc_343
      obtain ⟨i_350, h_i_350, hc_343⟩ := bind_some hc_343
      obtain ⟨i_351, h_i_351, hc_343⟩ := bind_some hc_343
      obtain ⟨high_352, h_high_352, hc_343⟩ := bind_some hc_343
      refine SB.seqB (fun kx_ => sb_asg (sl' := [sv names_here_334, sv wide_335, sv cells_336, .at p_floats_here_337, sv k_339, sv cell_340, sv some_347, sv high_352]) rfl (EV.cast (ev_op (ev_int 1) (ev_op (EN.ev (en_lst (el_cons (ev_op (ev_op (ev_var (i := 6) rfl) (ev_int 2) (r2_ixL h_i_348)) (ev_int 9) r2_mod) (el_cons (ev_op (ev_op (ev_var (i := 6) rfl) (ev_int 2) (r2_ixL h_i_349)) (ev_op (ev_int 10) (ev_int 6) (r2_pow (r := 1000000))) r2_mod) el_nil)))) (ev_op (ev_op (ev_op (ev_var (i := 6) rfl) (ev_int 3) (r2_ixL h_i_350)) (ev_int 3) r2_mod) (ev_int 2) r2_div) (r2_ixL h_i_351)) r2_add) (Option.some.inj h_high_352)) (kx_ _ _ ?_))
      obtain ⟨i_353, h_i_353, hc_343⟩ := bind_some hc_343
      obtain ⟨i_354, h_i_354, hc_343⟩ := bind_some hc_343
      obtain ⟨i_355, h_i_355, hc_343⟩ := bind_some hc_343
      obtain ⟨i_356, h_i_356, hc_343⟩ := bind_some hc_343
      obtain ⟨r_357, h_r_357, hc_343⟩ := bind_some hc_343
      obtain ⟨floats_here_358, h_floats_here_358, hc_343⟩ := bind_some hc_343
      refine sb_appO (i := 3) (j := 0) rfl rfl (ev_tup (ea_cons (ev_op (ev_var (i := 0) rfl) (ev_var (i := 4) rfl) (r2_ixL h_i_353)) (ea_cons (ev_op (EN.ev (en_lst (el_cons (ev_str ("left" : Str)) (el_cons (ev_str ("right" : Str)) el_nil)))) (ev_op (ev_op (ev_var (i := 6) rfl) (ev_int 0) (r2_ixL h_i_354)) (ev_int 2) r2_mod) (r2_ixL h_i_355)) (ea_cons (ev_op (ev_int 1) (ev_op (ev_op (ev_var (i := 6) rfl) (ev_int 1) (r2_ixL h_i_356)) (ev_var (i := 1) rfl) (r2_modO h_r_357)) r2_add) (ea_cons (ev_var (i := 7) rfl) ea_nil))))) h_floats_here_358 (ow1 := [ol p_floats_here_337 floats_here_358]) rfl ?_
      cases hc_343
      exact fun σ Kn H s => hN_341 _ hP_342 σ Kn H ((s.le (.keep (.keep (.keep (.keep (.drop (.drop (.drop (.drop .nil))))))))).sub (List.Sublist.refl _))
    · intro s_ h0
      cases h0
      refine kx_360 _ _ ?_
      refine SB.is (sl' := [sv names_here_334, sv wide_335, sv cells_336, .at p_floats_here_337, .any, .any, .any, .any]) (ow1 := [ol p_floats_here_337 floats_here_359]) rfl rfl ?_
      cases hf
      exact sb_retO (i := 3) (j := 0) rfl rfl q (List.Sublist.cons _ List.Sublist.slnil)
theorem sc__law_touch : FnScope ["_law_thing", "_law_row", "_law_high"] ["_law_thing", "_law_row", "_law_high"] (defScope s__law_touch) := ⟨rfl, rfl, rfl, by decide +kernel, rfl, by decide +kernel, by decide +kernel⟩
set_option maxHeartbeats 4000000 in
theorem ok__law_touch (T : TX K mg) : FnOk P w K mg base CX0 1 T.a__law_touch T.d__law_touch ["_law_thing", "_law_row", "_law_high"] (PF (τ := (Str × Int × Int × Int × Int × Unit) × Int × Int × Unit) K (fun t => m__law_touch t.1 t.2.1 t.2.2.1)) := by
  refine T.F__law_touch.ok sc__law_touch (fun vs H Q E h => ?_) (fun cdv A outer s H vs Q E hr h => ?_)
  · obtain ⟨Kn, t, r, ek, h, hf, q⟩ := h
    exact Tp.len h
  · obtain ⟨Kn, t, r_, ek, h, hf, q⟩ := h
    obtain ⟨thing_361, row_362, high_363, u_⟩ := t
    obtain ⟨v_0, rr_, rfl, hv_0, h⟩ := h
    obtain ⟨v_1, rr_, rfl, hv_1, h⟩ := h
    obtain ⟨v_2, rr_, rfl, hv_2, h⟩ := h
    obtain rfl := h
    replace hf : m__law_touch thing_361 row_362 high_363 = some r_ := hf
    unfold m__law_touch at hf
    refine ⟨_, (pss_one (ps_ret (pe_and (pe_cmpR op_lt (pe_ix k_ixt (pv 0) pe_int (fun _ _ => rfl)) (pe_op op_add (pv 1) (pv 2)) (nomark _)) (pe_one (pe_cmpR op_lt (pv 1) (pe_op op_add (pe_ix k_ixt (pv 0) pe_int (fun _ _ => rfl)) (pe_ix k_ixt (pv 0) pe_int (fun _ _ => rfl))) (nomark _)))))), ?_⟩
    refine enter (Kn := Kn) (sl := [sv thing_361, sv row_362, sv high_363]) ek ⟨⟨v_0, rfl, hv_0⟩, ⟨v_1, rfl, hv_1⟩, ⟨v_2, rfl, hv_2⟩, trivial⟩ ?_
    have q := rt_of q
    cases hf
    exact sb_ret (ev_andV (ev_op (ev_op (ev_var (i := 0) rfl) (ev_int 2) (r2_tix (n := 2) (At.s _ (At.s _ (At.z _ _))))) (ev_op (ev_var (i := 1) rfl) (ev_var (i := 2) rfl) r2_add) r2_lt) (fun _ => (ev_op (ev_var (i := 1) rfl) (ev_op (ev_op (ev_var (i := 0) rfl) (ev_int 2) (r2_tix (n := 2) (At.s _ (At.s _ (At.z _ _))))) (ev_op (ev_var (i := 0) rfl) (ev_int 4) (r2_tix (n := 4) (At.s _ (At.s _ (At.s _ (At.s _ (At.z _ _))))))) r2_add) r2_lt))) q (List.Sublist.refl _)
theorem sc__law_barred : FnScope ["_law_wide", "_law_ahead", "_law_triple", "_law_row", "_law_one", "_law_till", "_law_left", "_law_right", "_law_ends", "_law_k", "_law_name", "_law_thing"] ["_law_wide", "_law_ahead", "_law_triple", "_law_row", "_law_one"] (defScope s__law_barred) := ⟨rfl, rfl, rfl, by decide +kernel, rfl, by decide +kernel, by decide +kernel⟩
set_option maxHeartbeats 4000000 in
theorem ok__law_barred (T : TX K mg) : FnOk P w K mg base CX0 2 T.a__law_barred T.d__law_barred ["_law_wide", "_law_ahead", "_law_triple", "_law_row", "_law_one"] (PF (τ := Int × (Dc (Str × Str × Unit) (Str × Int × Int × Int × Int × Unit)) × (Int × Str × Str × Unit) × Int × (Str × Str × Int × Int × Unit) × Unit) K (fun t => m__law_barred t.1 t.2.1 t.2.2.1 t.2.2.2.1 t.2.2.2.2.1)) := by
  refine T.F__law_barred.ok sc__law_barred (fun vs H Q E h => ?_) (fun cdv A outer s H vs Q E hr h => ?_)
  · obtain ⟨Kn, t, r, ek, h, hf, q⟩ := h
    exact Tp.len h
  · obtain ⟨Kn, t, r_, ek, h, hf, q⟩ := h
    obtain ⟨wide_364, ahead_365, triple_366, row_367, one_368, u_⟩ := t
    obtain ⟨v_0, rr_, rfl, hv_0, h⟩ := h
    obtain ⟨v_1, rr_, rfl, hv_1, h⟩ := h
    obtain ⟨v_2, rr_, rfl, hv_2, h⟩ := h
    obtain ⟨v_3, rr_, rfl, hv_3, h⟩ := h
    obtain ⟨v_4, rr_, rfl, hv_4, h⟩ := h
    obtain rfl := h
    replace hf : m__law_barred wide_364 ahead_365 triple_366 row_367 one_368 = some r_ := hf
    unfold m__law_barred at hf
    refine ⟨_, (pss_cons (ps_asg (pv 2) (kpg_tup (pgs_cons (pg_name (i := 5) sc__law_barred.nd rfl (.inl rfl)) (pgs_cons (pg_name (i := 6) sc__law_barred.nd rfl (.inl rfl)) (pgs_cons (pg_name (i := 7) sc__law_barred.nd rfl (.inl rfl)) pgs_nil)))))
      (pss_cons (ps_set (i := 8) sc__law_barred.nd rfl (.inl rfl) (pe_lst (pa_cons pe_int (pa_cons (pv 0) pa_nil))))
      (pss_cons (ps_for PassesOwn.never rfl (pi_enum (by rfl) T.z_enumerate (pa_cons (pe_lst (pa_cons (pv 6) (pa_cons (pv 7) pa_nil))) pa_nil)) (kpg_tup (pgs_cons (pg_name (i := 9) sc__law_barred.nd rfl (.inl rfl)) (pgs_cons (pg_name (i := 10) sc__law_barred.nd rfl (.inl rfl)) pgs_nil))) (pss_one (ps_if (pt_cmpR op_ne (pv 10) pe_str (nomark _)) (pss_cons (ps_if (pt_cmp (k_dnotin hr.units (pe_tup (pa_cons (pv 10) (pa_cons (pe_ix k_ixl (pe_lst (pa_cons pe_str (pa_cons pe_str pa_nil))) (pv 9) (fun _ _ => rfl)) pa_nil))) (pv 1)) rfl) (pss_one (ps_ret pe_bl)) pss_nil)
      (pss_cons (ps_set (i := 11) sc__law_barred.nd rfl (.inl rfl) (k_dget hr.units (pv 1) (pe_tup (pa_cons (pv 10) (pa_cons (pe_ix k_ixl (pe_lst (pa_cons pe_str (pa_cons pe_str pa_nil))) (pv 9) (fun _ _ => rfl)) pa_nil))) (fun _ _ => rfl)))
      (pss_cons (ps_if (PW.pt (pw_or (pt_not (pt_val (pe_call (ok__law_touch T) hr (by rfl) T.g__law_touch T.F__law_touch.kp T.b__law_touch .nil pass0 (pa_cons (pv 11) (pa_cons (pv 3) (pa_cons (pe_ix k_ixt (pv 4) pe_int (fun _ _ => rfl)) pa_nil)))))) (pw_or1 (pt_not (pt_val (pe_call (ok__law_touch T) hr (by rfl) T.g__law_touch T.F__law_touch.kp T.b__law_touch .nil pass0 (pa_cons (pv 11) (pa_cons (pe_op op_sub (pv 5) pe_int) (pa_cons (pe_ix k_ixt (pv 4) pe_int (fun _ _ => rfl)) pa_nil))))))))) (pss_one (ps_ret pe_bl)) pss_nil)
      (pss_one (ps_asg (pe_ix k_ixl (pe_lst (pa_cons (pe_op op_add (pe_ix k_ixt (pv 11) pe_int (fun _ _ => rfl)) (pe_ix k_ixt (pv 11) pe_int (fun _ _ => rfl))) (pa_cons (pe_ix k_ixt (pv 11) pe_int (fun _ _ => rfl)) pa_nil))) (pv 9) (fun _ _ => rfl)) (pg_sub (pv 8) (pv 9) set_list)))))) pss_nil)))
      (pss_one (ps_ret (pe_cmpR op_lt (pe_op op_sub (pe_ix k_ixl (pv 8) pe_int (fun _ _ => rfl)) (pe_ix k_ixl (pv 8) pe_int (fun _ _ => rfl))) (pe_ix k_ixt (pv 4) pe_int (fun _ _ => rfl)) (nomark _))))))), ?_⟩
    refine enter (Kn := Kn) (sl := [sv wide_364, sv ahead_365, sv triple_366, sv row_367, sv one_368, .any, .any, .any, .any, .any, .any, .any]) ek ⟨⟨v_0, rfl, hv_0⟩, ⟨v_1, rfl, hv_1⟩, ⟨v_2, rfl, hv_2⟩, ⟨v_3, rfl, hv_3⟩, ⟨v_4, rfl, hv_4⟩, trivial, trivial, trivial, trivial, trivial, trivial, trivial, trivial⟩ ?_
    have q := rt_of q
    obtain ⟨⟨till_369, left_370, right_371, _⟩, h_till_369, hf⟩ := bind_some hf
    refine SB.seqB (fun kx_ => sb_unp (sl' := [sv wide_364, sv ahead_365, sv triple_366, sv row_367, sv one_368, sv till_369, sv left_370, sv right_371, .any, .any, .any, .any]) (EV.cast (ev_var (i := 2) rfl) (Option.some.inj h_till_369)) (gt_tup (gts_cons (gt_name rfl) (gts_cons (gt_name rfl) (gts_cons (gt_name rfl) gts_nil)))) (kx_ _ _ ?_))
    obtain ⟨ends_372, h_ends_372, hf⟩ := bind_some hf
    refine SB.seqB (fun kx_ => sb_asgO (sl' := fun p_ends_372 => [sv wide_364, sv ahead_365, sv triple_366, sv row_367, sv one_368, sv till_369, sv left_370, sv right_371, .at p_ends_372, .any, .any, .any]) (fun _ => rfl) (EN.cast (en_lst (el_cons (ev_int 0) (el_cons (ev_var (i := 0) rfl) el_nil))) (Option.some.inj h_ends_372)) (fun p_ends_372 => (kx_ _ _ ?_)))
    obtain ⟨tot_380, h_tot_380, hf⟩ := bind_some hf
    refine SB.seqB (fun kx_400 => sb_for (β := (Int × Str × Unit)) (Sx := (List Int)) (fun s => [sv wide_364, sv ahead_365, sv triple_366, sv row_367, sv one_368, sv till_369, sv left_370, sv right_371, .at p_ends_372, .any, .any, .any]) (fun s => [ol p_ends_372 s]) (fun x s => [sv wide_364, sv ahead_365, sv triple_366, sv row_367, sv one_368, sv till_369, sv left_370, sv right_371, .at p_ends_372, sv x.1, sv x.2.1, .any]) [9, 10] (fun xs s => forC (m__law_barred_L1 ahead_365 row_367 one_368 till_369) xs s = some tot_380) ends_372 (IT.m (it_enum (ea_cons (EN.ev (en_lst (el_cons (ev_var (i := 6) rfl) (el_cons (ev_var (i := 7) rfl) el_nil)))) ea_nil))) h_tot_380 (.keep (.keep (.keep (.keep (.keep (.keep (.keep (.keep (.keep (.keep (.keep (.keep .nil)))))))))))) (List.Sublist.refl _) (fun x s => (gt_tup (gts_cons (gt_name rfl) (gts_cons (gt_name rfl) gts_nil)))) ?_ ?_)
    · intro Kn1 b1 x_ rest_ ends_373 hP_377 N_ hN_376
      obtain ⟨k_374, name_375, _⟩ := x_
      obtain ⟨c_, hc_378, hP_377⟩ := bind_some hP_377
      have q_379 := q.base b1
      unfold m__law_barred_L1 at hc_378
      refine SB.is (sl' := [sv wide_364, sv ahead_365, sv triple_366, sv row_367, sv one_368, sv till_369, sv left_370, sv right_371, .at p_ends_372, sv k_374, sv name_375, .any]) (ow1 := [ol p_ends_372 ends_373]) rfl rfl ?_
      refine sb_if (b := (!decide (name_375 = ("" : Str)))) (et_test (ev_op (ev_var (i := 10) rfl) (ev_str ("" : Str)) r2_neS)) (fun hb_382 => ?_) (fun hb_382 => ?_)
      · have hc_378 := ite_t hb_382 hc_378
        obtain ⟨i_385, h_i_385, hc_378⟩ := bind_some hc_378
        refine SB.seqB (fun kx_387 => sb_if (b := (!(getD ahead_365.l (name_375, i_385, ())).isSome)) (et_B (ev_dnotin (ev_var (i := 1) rfl) (ev_tup (ea_cons (ev_var (i := 10) rfl) (ea_cons (ev_op (EN.ev (en_lst (el_cons (ev_str ("left" : Str)) (el_cons (ev_str ("right" : Str)) el_nil)))) (ev_var (i := 9) rfl) (r2_ixL h_i_385)) ea_nil))))) (fun hb_386 => ?_) (fun hb_386 => ?_))
        · have hc_378 := ite_t hb_386 hc_378
          cases hc_378
          replace hP_377 : some (Ctl.rt false) = some tot_380 := hP_377
          cases hP_377
          replace hf : some false = some r_ := hf
          cases hf
          exact sb_ret (ev_bool false) q_379 (List.Sublist.cons _ List.Sublist.slnil)
        · have hc_378 := ite_f hb_386 hc_378
          refine sb_nx ?_
          refine kx_387 _ _ ?_
          obtain ⟨i_388, h_i_388, hc_378⟩ := bind_some hc_378
          obtain ⟨i_389, h_i_389, hc_378⟩ := bind_some hc_378
          obtain ⟨thing_390, h_thing_390, hc_378⟩ := bind_some hc_378
          refine SB.seqB (fun kx_ => sb_asg (sl' := [sv wide_364, sv ahead_365, sv triple_366, sv row_367, sv one_368, sv till_369, sv left_370, sv right_371, .at p_ends_372, sv k_374, sv name_375, sv thing_390]) rfl (EV.cast (ev_dget (ev_var (i := 1) rfl) (ev_tup (ea_cons (ev_var (i := 10) rfl) (ea_cons (ev_op (EN.ev (en_lst (el_cons (ev_str ("left" : Str)) (el_cons (ev_str ("right" : Str)) el_nil)))) (ev_var (i := 9) rfl) (r2_ixL h_i_388)) ea_nil))) h_i_389) (Option.some.inj h_thing_390)) (kx_ _ _ ?_))
          obtain ⟨r_392, h_r_392, hc_378⟩ := bind_some hc_378
          obtain ⟨b_394, h_b_394, hc_378⟩ := bind_some hc_378
          refine SB.seqB (fun kx_396 => sb_if (b := b_394) (et_orO h_b_394 (et_not (et_B (ev_call (ea_cons (ev_var (i := 11) rfl) (ea_cons (ev_var (i := 3) rfl) (ea_cons (ev_op (ev_var (i := 4) rfl) (ev_int 3) (r2_tix (n := 3) (At.s _ (At.s _ (At.s _ (At.z _ _)))))) ea_nil))) h_r_392))) (fun _ _ h => by obtain ⟨r_393, h_r_393, h⟩ := bind_some h; have hz_ := Option.some.inj h; subst hz_; exact (et_not (et_B (ev_call (ea_cons (ev_var (i := 11) rfl) (ea_cons (ev_op (ev_var (i := 5) rfl) (ev_int 1) r2_sub) (ea_cons (ev_op (ev_var (i := 4) rfl) (ev_int 3) (r2_tix (n := 3) (At.s _ (At.s _ (At.s _ (At.z _ _)))))) ea_nil))) h_r_393))))) (fun hb_395 => ?_) (fun hb_395 => ?_))
          · have hc_378 := ite_t hb_395 hc_378
            cases hc_378
            replace hP_377 : some (Ctl.rt false) = some tot_380 := hP_377
            cases hP_377
            replace hf : some false = some r_ := hf
            cases hf
            exact sb_ret (ev_bool false) q_379 (List.Sublist.cons _ List.Sublist.slnil)
          · have hc_378 := ite_f hb_395 hc_378
            refine sb_nx ?_
            refine kx_396 _ _ ?_
            obtain ⟨i_397, h_i_397, hc_378⟩ := bind_some hc_378
            obtain ⟨ends_398, h_ends_398, hc_378⟩ := bind_some hc_378
            refine sb_setO (i := 8) (j := 0) rfl rfl (ev_op (EN.ev (en_lst (el_cons (ev_op (ev_op (ev_var (i := 11) rfl) (ev_int 1) (r2_tix (n := 1) (At.s _ (At.z _ _)))) (ev_op (ev_var (i := 11) rfl) (ev_int 3) (r2_tix (n := 3) (At.s _ (At.s _ (At.s _ (At.z _ _)))))) r2_add) (el_cons (ev_op (ev_var (i := 11) rfl) (ev_int 1) (r2_tix (n := 1) (At.s _ (At.z _ _)))) el_nil)))) (ev_var (i := 9) rfl) (r2_ixL h_i_397)) (ev_var (i := 9) rfl) h_ends_398 (ow1 := [ol p_ends_372 ends_398]) rfl ?_
            cases hc_378
            exact fun σ Kn H s => hN_376 _ hP_377 σ Kn H ((s.le (.keep (.keep (.keep (.keep (.keep (.keep (.keep (.keep (.keep (.drop (.drop (.drop .nil))))))))))))).sub (List.Sublist.refl _))
      · have hc_378 := ite_f hb_382 hc_378
        refine sb_nx ?_
        cases hc_378
        exact fun σ Kn H s => hN_376 _ hP_377 σ Kn H ((s.le (.keep (.keep (.keep (.keep (.keep (.keep (.keep (.keep (.keep (.drop (.drop (.keep .nil))))))))))))).sub (List.Sublist.refl _))
    · intro ends_399 h0
      cases h0
      refine kx_400 _ _ ?_
      refine SB.is (sl' := [sv wide_364, sv ahead_365, sv triple_366, sv row_367, sv one_368, sv till_369, sv left_370, sv right_371, .at p_ends_372, .any, .any, .any]) (ow1 := [ol p_ends_372 ends_399]) rfl rfl ?_
      refine sb_freeze (i := 8) (j := 0) (sl' := [sv wide_364, sv ahead_365, sv triple_366, sv row_367, sv one_368, sv till_369, sv left_370, sv right_371, sv ends_399, .any, .any, .any]) (ow1 := []) rfl rfl rfl rfl ?_
      obtain ⟨i_401, h_i_401, hf⟩ := bind_some hf
      obtain ⟨i_402, h_i_402, hf⟩ := bind_some hf
      cases hf
      exact sb_ret (ev_op (ev_op (ev_op (ev_var (i := 8) rfl) (ev_int 1) (r2_ixL h_i_401)) (ev_op (ev_var (i := 8) rfl) (ev_int 0) (r2_ixL h_i_402)) r2_sub) (ev_op (ev_var (i := 4) rfl) (ev_int 2) (r2_tix (n := 2) (At.s _ (At.s _ (At.z _ _))))) r2_lt) q (List.Sublist.refl _)
theorem sc__law_walked : FnScope ["_law_wide", "_law_floats_here", "_law_standing", "_law_papers", "_law_ahead", "_law_row", "_law_k", "_law_one", "_law_triple"] ["_law_wide", "_law_floats_here", "_law_standing", "_law_papers"] (defScope s__law_walked) := ⟨rfl, rfl, rfl, by decide +kernel, rfl, by decide +kernel, by decide +kernel⟩
set_option maxHeartbeats 4000000 in
theorem ok__law_walked (T : TX K mg) : FnOk P w K mg base CX0 3 T.a__law_walked T.d__law_walked ["_law_wide", "_law_floats_here", "_law_standing", "_law_papers"] (PF (τ := Int × (List (Str × Str × Int × Int × Unit)) × (List (Str × Int × Int × Int × Int × Unit)) × (List (List (Int × Str × Str × Unit))) × Unit) K (fun t => m__law_walked t.1 t.2.1 t.2.2.1 t.2.2.2.1)) := by
  refine T.F__law_walked.ok sc__law_walked (fun vs H Q E h => ?_) (fun cdv A outer s H vs Q E hr h => ?_)
  · obtain ⟨Kn, t, r, ek, h, hf, q⟩ := h
    exact Tp.len h
  · obtain ⟨Kn, t, r_, ek, h, hf, q⟩ := h
    obtain ⟨wide_403, floats_here_404, standing_405, papers_406, u_⟩ := t
    obtain ⟨v_0, rr_, rfl, hv_0, h⟩ := h
    obtain ⟨v_1, rr_, rfl, hv_1, h⟩ := h
    obtain ⟨v_2, rr_, rfl, hv_2, h⟩ := h
    obtain ⟨v_3, rr_, rfl, hv_3, h⟩ := h
    obtain rfl := h
    replace hf : m__law_walked wide_403 floats_here_404 standing_405 papers_406 = some r_ := hf
    unfold m__law_walked at hf
    refine ⟨_, (pss_cons (ps_set (i := 4) sc__law_walked.nd rfl (.inl rfl) pe_dnewT)
      (pss_cons (ps_set (i := 5) sc__law_walked.nd rfl (.inl rfl) pe_int)
      (pss_cons (ps_for PassesOwn.never rfl (pi_enum (by rfl) T.z_enumerate (pa_cons (pv 1) pa_nil)) (kpg_tup (pgs_cons (pg_name (i := 6) sc__law_walked.nd rfl (.inl rfl)) (pgs_cons (pg_name (i := 7) sc__law_walked.nd rfl (.inl rfl)) pgs_nil))) (pss_cons (ps_if (pt_not (pt_val (pe_callB k_isi (by rfl) T.z_isinstance (by decide +kernel) (pa_cons (pe_ix k_ixl (pv 3) (pv 6) (fun _ _ => rfl)) (pa_cons (pe_bltn (v := .ty "list") (u := .type "list") (by rfl) T.z_list (by decide +kernel) rfl) pa_nil))))) (pss_one (ps_ret pe_bl)) pss_nil)
      (pss_cons (ps_for PassesOwn.never rfl (kpi_list (pe_ix k_ixl (pv 3) (pv 6) (fun _ _ => rfl))) (pg_name (i := 8) sc__law_walked.nd rfl (.inl rfl)) (pss_cons (ps_if (PW.pt (pw_or (pt_cmpR op_le (pe_ix k_ixt (pv 8) pe_int (fun _ _ => rfl)) (pv 5) (nomark _)) (pw_or1 (pt_not (pt_val (pe_call (ok__law_barred T) hr (by rfl) T.g__law_barred T.F__law_barred.kp T.b__law_barred .nil pass0 (pa_cons (pv 0) (pa_cons (pv 4) (pa_cons (pv 8) (pa_cons (pv 5) (pa_cons (pv 7) pa_nil))))))))))) (pss_one (ps_ret pe_bl)) pss_nil)
      (pss_one (ps_set (i := 5) sc__law_walked.nd rfl (.inl rfl) (pe_ix k_ixt (pv 8) pe_int (fun _ _ => rfl))))))
      (pss_cons (ps_if (pt_cmpR op_ne (pe_ix k_ixt (pe_ix k_ixl (pv 2) (pv 6) (fun _ _ => rfl)) pe_int (fun _ _ => rfl)) (pv 5) (nomark _)) (pss_one (ps_ret pe_bl)) pss_nil)
      (pss_one (k_dput hr.units (pv 4) (pe_slice k_slt (pv 7) po_none (po_some pe_int)) (pe_ix k_ixl (pv 2) (pv 6) (fun _ _ => rfl)) rfl))))))
      (pss_one (ps_ret pe_bl))))), ?_⟩
    refine enter (Kn := Kn) (sl := [sv wide_403, sv floats_here_404, sv standing_405, sv papers_406, .any, .any, .any, .any, .any]) ek ⟨⟨v_0, rfl, hv_0⟩, ⟨v_1, rfl, hv_1⟩, ⟨v_2, rfl, hv_2⟩, ⟨v_3, rfl, hv_3⟩, trivial, trivial, trivial, trivial, trivial, trivial⟩ ?_
    have q := rt_of q
    refine SB.seqB (fun kx_ => sb_dnewT (κ := (Str × Str × Unit)) (β := (Str × Int × Int × Int × Int × Unit)) (sl' := fun p_ahead_407 => [sv wide_403, sv floats_here_404, sv standing_405, sv papers_406, .at p_ahead_407, .any, .any, .any, .any]) rfl (fun _ => rfl) (fun p_ahead_407 => (kx_ _ _ ?_)))
    obtain ⟨row_408, h_row_408, hf⟩ := bind_some hf
    refine SB.seqB (fun kx_ => sb_asg (sl' := [sv wide_403, sv floats_here_404, sv standing_405, sv papers_406, .at p_ahead_407, sv row_408, .any, .any, .any]) rfl (EV.cast (ev_int 0) (Option.some.inj h_row_408)) (kx_ _ _ ?_))
    obtain ⟨tot_417, h_tot_417, hf⟩ := bind_some hf
    refine SB.seqB (fun kx_446 => sb_for (β := (Int × (Str × Str × Int × Int × Unit) × Unit)) (Sx := Int × (Dc (Str × Str × Unit) (Str × Int × Int × Int × Int × Unit))) (fun s => [sv wide_403, sv floats_here_404, sv standing_405, sv papers_406, .at p_ahead_407, sv s.1, .any, .any, .any]) (fun s => [oo p_ahead_407 s.2]) (fun x s => [sv wide_403, sv floats_here_404, sv standing_405, sv papers_406, .at p_ahead_407, sv s.1, sv x.1, sv x.2.1, .any]) [6, 7] (fun xs s => forC (m__law_walked_L1 wide_403 standing_405 papers_406) xs s = some tot_417) (row_408, (Dc.mk ([] : List ((Str × Str × Unit) × (Str × Int × Int × Int × Int × Unit))))) (IT.m (it_enum (ea_cons (ev_var (i := 1) rfl) ea_nil))) h_tot_417 (.keep (.keep (.keep (.keep (.keep (.keep (.keep (.keep (.keep .nil))))))))) (List.Sublist.refl _) (fun x s => (gt_tup (gts_cons (gt_name rfl) (gts_cons (gt_name rfl) gts_nil)))) ?_ ?_)
    · intro Kn1 b1 x_ rest_ s_ hP_414 N_ hN_413
      obtain ⟨k_411, one_412, _⟩ := x_
      obtain ⟨row_409, ahead_410⟩ := s_
      obtain ⟨c_, hc_415, hP_414⟩ := bind_some hP_414
      have q_416 := q.base b1
      unfold m__law_walked_L1 at hc_415
      refine SB.is (sl' := [sv wide_403, sv floats_here_404, sv standing_405, sv papers_406, .at p_ahead_407, sv row_409, sv k_411, sv one_412, .any]) (ow1 := [oo p_ahead_407 ahead_410]) rfl rfl ?_
      obtain ⟨i_419, h_i_419, hc_415⟩ := bind_some hc_415
      refine SB.seqB (fun kx_421 => sb_if (b := (!true)) (et_not (et_B (ev_cb (ea_cons (ev_op (ev_var (i := 3) rfl) (ev_var (i := 6) rfl) (r2_ixL h_i_419)) (ea_cons (ev_ty "list") ea_nil)) (rc_isi (b := true) (by decide +kernel))))) (fun hb_420 => ?_) (fun hb_420 => ?_))
      · have hc_415 := ite_t hb_420 hc_415
        cases hc_415
        replace hP_414 : some (Ctl.rt false) = some tot_417 := hP_414
        cases hP_414
        replace hf : some false = some r_ := hf
        cases hf
        exact sb_ret (ev_bool false) q_416 (List.Sublist.cons _ List.Sublist.slnil)
      · have hc_415 := ite_f hb_420 hc_415
        refine sb_nx ?_
        refine kx_421 _ _ ?_
        obtain ⟨i_422, h_i_422, hc_415⟩ := bind_some hc_415
        obtain ⟨tot_429, h_tot_429, hc_415⟩ := bind_some hc_415
        refine SB.seqB (fun kx_437 => sb_for (β := (Int × Str × Str × Unit)) (Sx := Int) (fun s => [sv wide_403, sv floats_here_404, sv standing_405, sv papers_406, .at p_ahead_407, sv s, sv k_411, sv one_412, .any]) (fun s => [oo p_ahead_407 ahead_410]) (fun x s => [sv wide_403, sv floats_here_404, sv standing_405, sv papers_406, .at p_ahead_407, sv s, sv k_411, sv one_412, sv x]) [8] (fun xs s => forC (m__law_walked_L2 wide_403 one_412 ahead_410) xs s = some tot_429) row_409 (IT.m (it_list (ev_op (ev_var (i := 3) rfl) (ev_var (i := 6) rfl) (r2_ixL h_i_422)))) h_tot_429 (.keep (.keep (.keep (.keep (.keep (.keep (.keep (.keep (.keep .nil))))))))) (List.Sublist.refl _) (fun x s => (gt_name rfl)) ?_ ?_)
        · intro Kn1 b1 triple_424 rest_ row_423 hP_426 N_ hN_425
          obtain ⟨c_, hc_427, hP_426⟩ := bind_some hP_426
          have q_428 := q_416.base b1
          unfold m__law_walked_L2 at hc_427
          refine SB.is (sl' := [sv wide_403, sv floats_here_404, sv standing_405, sv papers_406, .at p_ahead_407, sv row_423, sv k_411, sv one_412, sv triple_424]) (ow1 := [oo p_ahead_407 ahead_410]) rfl rfl ?_
          obtain ⟨b_432, h_b_432, hc_427⟩ := bind_some hc_427
          refine SB.seqB (fun kx_434 => sb_if (b := b_432) (et_orO h_b_432 (et_test (ev_op (ev_op (ev_var (i := 8) rfl) (ev_int 0) (r2_tix (n := 0) (At.z _ _))) (ev_var (i := 5) rfl) r2_le)) (fun _ _ h => by obtain ⟨r_431, h_r_431, h⟩ := bind_some h; have hz_ := Option.some.inj h; subst hz_; exact (et_not (et_B (ev_borG (i := 4) (j := 0) (sl' := [sv wide_403, sv floats_here_404, sv standing_405, sv papers_406, sv ahead_410, sv row_423, sv k_411, sv one_412, sv triple_424]) (ow1 := []) rfl rfl rfl rfl (ev_call (ea_cons (ev_var (i := 0) rfl) (ea_cons (ev_var (i := 4) rfl) (ea_cons (ev_var (i := 8) rfl) (ea_cons (ev_var (i := 5) rfl) (ea_cons (ev_var (i := 7) rfl) ea_nil))))) h_r_431)))))) (fun hb_433 => ?_) (fun hb_433 => ?_))
          · have hc_427 := ite_t hb_433 hc_427
            cases hc_427
            replace hP_426 : some (Ctl.rt false) = some tot_429 := hP_426
            cases hP_426
            cases hc_415
            replace hP_414 : some (Ctl.rt false) = some tot_417 := hP_414
            cases hP_414
            replace hf : some false = some r_ := hf
            cases hf
            exact sb_ret (ev_bool false) q_428 (List.Sublist.cons _ List.Sublist.slnil)
          · have hc_427 := ite_f hb_433 hc_427
            refine sb_nx ?_
            refine kx_434 _ _ ?_
            obtain ⟨row_435, h_row_435, hc_427⟩ := bind_some hc_427
            refine sb_asg (sl' := [sv wide_403, sv floats_here_404, sv standing_405, sv papers_406, .at p_ahead_407, sv row_435, sv k_411, sv one_412, sv triple_424]) rfl (EV.cast (ev_op (ev_var (i := 8) rfl) (ev_int 0) (r2_tix (n := 0) (At.z _ _))) (Option.some.inj h_row_435)) ?_
            cases hc_427
            exact fun σ Kn H s => hN_425 _ hP_426 σ Kn H ((s.le (.keep (.keep (.keep (.keep (.keep (.keep (.keep (.keep (.drop .nil)))))))))).sub (List.Sublist.refl _))
        · intro row_436 h0
          cases h0
          refine kx_437 _ _ ?_
          refine SB.is (sl' := [sv wide_403, sv floats_here_404, sv standing_405, sv papers_406, .at p_ahead_407, sv row_436, sv k_411, sv one_412, .any]) (ow1 := [oo p_ahead_407 ahead_410]) rfl rfl ?_
          obtain ⟨i_439, h_i_439, hc_415⟩ := bind_some hc_415
          refine SB.seqB (fun kx_441 => sb_if (b := (!decide (i_439.2.2.1 = row_436))) (et_test (ev_op (ev_op (ev_op (ev_var (i := 2) rfl) (ev_var (i := 6) rfl) (r2_ixL h_i_439)) (ev_int 2) (r2_tix (n := 2) (At.s _ (At.s _ (At.z _ _))))) (ev_var (i := 5) rfl) r2_neI)) (fun hb_440 => ?_) (fun hb_440 => ?_))
          · have hc_415 := ite_t hb_440 hc_415
            cases hc_415
            replace hP_414 : some (Ctl.rt false) = some tot_417 := hP_414
            cases hP_414
            replace hf : some false = some r_ := hf
            cases hf
            exact sb_ret (ev_bool false) q_416 (List.Sublist.cons _ List.Sublist.slnil)
          · have hc_415 := ite_f hb_440 hc_415
            refine sb_nx ?_
            refine kx_441 _ _ ?_
            obtain ⟨i_442, h_i_442, hc_415⟩ := bind_some hc_415
            obtain ⟨ahead_443, h_ahead_443, hc_415⟩ := bind_some hc_415
            refine sb_dput (i := 4) (j := 0) rfl rfl (ev_op (ev_var (i := 2) rfl) (ev_var (i := 6) rfl) (r2_ixL h_i_442)) (ev_tsl (a := 0) (b := 2) (ev_var (i := 7) rfl) eo_none (eo_some (ev_int 2)) rfl rfl (by decide) (Cu.take _ (Cu.take _ (Cu.nil _)))) h_ahead_443 (ow1 := [oo p_ahead_407 ahead_443]) rfl ?_
            cases hc_415
            exact fun σ Kn H s => hN_413 _ hP_414 σ Kn H ((s.le (.keep (.keep (.keep (.keep (.keep (.keep (.drop (.drop (.keep .nil)))))))))).sub (List.Sublist.refl _))
    · intro s_ h0
      obtain ⟨row_444, ahead_445⟩ := s_
      cases h0
      refine kx_446 _ _ ?_
      refine SB.is (sl' := [sv wide_403, sv floats_here_404, sv standing_405, sv papers_406, .at p_ahead_407, sv row_444, .any, .any, .any]) (ow1 := [oo p_ahead_407 ahead_445]) rfl rfl ?_
      cases hf
      exact sb_ret (ev_bool true) q (List.Sublist.cons _ List.Sublist.slnil)
theorem sc_law : FnScope ["_law_script", "_law_cell", "_law_wide", "_law_floats_here", "_law_standing", "_law_papers", "_law_held", "_law_k", "_law_other", "_law_paper"] ["_law_script"] (defScope s_law) := ⟨rfl, rfl, rfl, by decide +kernel, rfl, by decide +kernel, by decide +kernel⟩
set_option maxHeartbeats 4000000 in
theorem ok_law (T : TX K mg) : FnOk P w K mg base CX0 5 T.a_law T.d_law ["_law_script"] (PF (τ := (Fz Int) × Unit) K (fun t => m_law t.1)) := by
  refine T.F_law.ok sc_law (fun vs H Q E h => ?_) (fun cdv A outer s H vs Q E hr h => ?_)
  · obtain ⟨Kn, t, r, ek, h, hf, q⟩ := h
    exact Tp.len h
  · obtain ⟨Kn, t, r_, ek, h, hf, q⟩ := h
    obtain ⟨script_447, u_⟩ := t
    obtain ⟨v_0, rr_, rfl, hv_0, h⟩ := h
    obtain rfl := h
    replace hf : m_law script_447 = some r_ := hf
    unfold m_law at hf
    refine ⟨_, (pss_cons (ps_set (i := 1) sc_law.nd rfl (.inl rfl) (pe_call (ok__law_cell_at T) (hr.mono (by decide)) (by rfl) T.g__law_cell_at T.F__law_cell_at.kp T.b__law_cell_at .nil pass0 (pa_cons (pv 0) (pa_cons pe_int pa_nil))))
      (pss_cons (ps_set (i := 2) sc_law.nd rfl (.inl rfl) (pe_op op_add pe_int (pe_ix k_ixl (pe_lst (pa_cons (pe_op op_mod (pe_op op_fdiv (pv 1) pe_int) pe_int) (pa_cons (pe_op op_mod (pe_op op_fdiv (pv 1) pe_int) (pe_op op_pow pe_int pe_int)) pa_nil))) (pe_op op_mod (pv 1) pe_int) (fun _ _ => rfl))))
      (pss_cons (ps_set (i := 3) sc_law.nd rfl (.inl rfl) (pe_call (ok__law_floats T) (hr.mono (by decide)) (by rfl) T.g__law_floats T.F__law_floats.kp T.b__law_floats .nil pass0 (pa_cons (pe_call (ok__law_names T) (hr.mono (by decide)) (by rfl) T.g__law_names T.F__law_names.kp T.b__law_names .nil pass0 (pa_cons (pe_call (ok__law_cell_at T) (hr.mono (by decide)) (by rfl) T.g__law_cell_at T.F__law_cell_at.kp T.b__law_cell_at .nil pass0 (pa_cons (pv 0) (pa_cons pe_int pa_nil))) (pa_cons pe_int pa_nil))) (pa_cons (pv 2) (pa_cons (pe_slice k_sll (pv 0) (po_some pe_int) (po_some pe_int)) pa_nil)))))
      (pss_cons (ps_asg (pe_call (ok_stand_floats T) (hr.mono (by decide)) (by rfl) T.g_stand_floats T.F_stand_floats.kp T.b_stand_floats .nil pass0 (pa_cons (pv 2) (pa_cons (pv 3) pa_nil))) (kpg_tup (pgs_cons (pg_name (i := 4) sc_law.nd rfl (.inl rfl)) (pgs_cons (pg_name (i := 5) sc_law.nd rfl (.inl rfl)) pgs_nil))))
      (pss_cons (ps_set (i := 6) sc_law.nd rfl (.inl rfl) (pe_lst (pa_cons (pe_callTy k_list (by rfl) T.z_list (by decide +kernel) (pa_cons (pv 3) pa_nil)) (pa_cons (pe_callTy k_list (by rfl) T.z_list (by decide +kernel) (pa_cons (pv 4) pa_nil)) (pa_cons (pe_lc (own := [("_law_paper", 9)]) (g := gName 9) (tt := tYes) (by rfl) sc_law.nd (kpi_list (pv 5)) (blkOk_by (own := [("_law_paper", 9)]) (N := ["_law_script", "_law_cell", "_law_wide", "_law_floats_here", "_law_standing", "_law_papers", "_law_held", "_law_k", "_law_other", "_law_paper"]) (sc := defScope s_law) (by decide +kernel)) (fun _ _ _ _ _ => (pg_name (i := 9) sc_law.nd rfl (Or.inl rfl))) (fun _ _ _ _ _ => pts_nil) (fun _ _ _ _ _ => (pe_callTy k_list (by rfl) T.z_list (by decide +kernel) (pa_cons (pv 9) pa_nil)))) pa_nil)))))
      (pss_cons (ps_if (PW.pt (pw_or (pt_cmpR op_notBl (pe_call (ok_stood T) hr (by rfl) T.g_stood T.F_stood.kp T.b_stood .nil pass0 (pa_cons (pv 2) (pa_cons (pv 3) (pa_cons (pv 4) (pa_cons (pv 5) pa_nil))))) pe_bl (nomark _)) (pw_or1 (pt_cmpR (k_neD hr.units) (pv 6) (pe_lst (pa_cons (pv 3) (pa_cons (pv 4) (pa_cons (pv 5) pa_nil)))) (nomark _))))) (pss_one (ps_ret pe_bl)) pss_nil)
      (pss_cons (ps_if (pt_not (pt_val (pe_call (ok__law_walked T) (hr.mono (by decide)) (by rfl) T.g__law_walked T.F__law_walked.kp T.b__law_walked .nil pass0 (pa_cons (pv 2) (pa_cons (pv 3) (pa_cons (pv 4) (pa_cons (pv 5) pa_nil))))))) (pss_one (ps_ret pe_bl)) pss_nil)
      (pss_cons (ps_for PassesOwn.never rfl (pi_range1 (by rfl) T.z_range (pa_cons (pe_callB k_len (by rfl) T.z_len PySem.boot_len (pa_cons (pv 3) pa_nil)) pa_nil)) (pg_name (i := 7) sc_law.nd rfl (.inl rfl)) (pss_cons (ps_set (i := 8) sc_law.nd rfl (.inl rfl) (pe_callTy k_list (by rfl) T.z_list (by decide +kernel) (pa_cons (pv 4) pa_nil)))
      (Evl.pss_cut (ps_if (pt_cmpR op_gt (pv 7) pe_int (nomark _)) (pss_cons (ps_asg (pe_ix k_ixl (pv 4) (pv 7) (fun _ _ => rfl)) (pg_sub (pv 8) (pe_op op_sub (pv 7) pe_int) set_list))
      (pss_one (ps_asg (pe_ix k_ixl (pv 4) (pe_op op_sub (pv 7) pe_int) (fun _ _ => rfl)) (pg_sub (pv 8) (pv 7) set_list)))) pss_nil)
      (pss_cons (ps_if (PW.pt (pw_and (pt_cmpR op_gt (pv 7) pe_int (nomark _)) (pw_and1 (pt_val (pe_call (ok_stood T) hr (by rfl) T.g_stood T.F_stood.kp T.b_stood .nil pass0 (pa_cons (pv 2) (pa_cons (pv 3) (pa_cons (pv 8) (pa_cons (pv 5) pa_nil))))))))) (pss_one (ps_ret pe_bl)) pss_nil)
      (pss_cons (ps_set (i := 8) sc_law.nd rfl (.inl rfl) (pe_op op_cat (pe_op op_cat (pe_slice k_sll (pv 5) po_none (po_some (pv 7))) (pe_lst (pa_cons (pe_lst pa_nil) pa_nil))) (pe_slice k_sll (pv 5) (po_some (pe_op op_add (pv 7) pe_int)) po_none)))
      (pss_cons (ps_if (PW.pt (pw_and (pt_cmpR (k_neD hr.units) (pe_ix k_ixl (pv 5) (pv 7) (fun _ _ => rfl)) (pe_lst pa_nil) (nomark _)) (pw_and1 (pt_val (pe_call (ok_stood T) hr (by rfl) T.g_stood T.F_stood.kp T.b_stood .nil pass0 (pa_cons (pv 2) (pa_cons (pv 3) (pa_cons (pv 4) (pa_cons (pv 8) pa_nil))))))))) (pss_one (ps_ret pe_bl)) pss_nil)
      (pss_one (ps_if (pt_val (pe_call (ok_stood T) hr (by rfl) T.g_stood T.F_stood.kp T.b_stood .nil pass0 (pa_cons (pv 2) (pa_cons (pv 3) (pa_cons (pv 4) (pa_cons (pe_op op_cat (pe_slice k_sll (pv 5) po_none (po_some (pv 7))) (pe_slice k_sll (pv 5) (po_some (pe_op op_add (pv 7) pe_int)) po_none)) pa_nil)))))) (pss_one (ps_ret pe_bl)) pss_nil))))))))
      (pss_one (ps_ret (pe_cmpR op_isBl (pe_call (ok_stood T) hr (by rfl) T.g_stood T.F_stood.kp T.b_stood .nil pass0 (pa_cons (pv 2) (pa_cons (pe_lst pa_nil) (pa_cons (pe_lst pa_nil) (pa_cons (pe_lst pa_nil) pa_nil))))) pe_bl (nomark _)))))))))))), ?_⟩
    refine enter (Kn := Kn) (sl := [sv script_447, .any, .any, .any, .any, .any, .any, .any, .any, .any]) ek ⟨⟨v_0, rfl, hv_0⟩, trivial, trivial, trivial, trivial, trivial, trivial, trivial, trivial, trivial, trivial⟩ ?_
    have q := rt_of q
    obtain ⟨r_448, h_r_448, hf⟩ := bind_some hf
    obtain ⟨cell_449, h_cell_449, hf⟩ := bind_some hf
    refine SB.seqB (fun kx_ => sb_asg (sl' := [sv script_447, sv cell_449, .any, .any, .any, .any, .any, .any, .any, .any]) rfl (EV.cast (ev_call (ea_cons (ev_var (i := 0) rfl) (ea_cons (ev_int 1) ea_nil)) h_r_448) (Option.some.inj h_cell_449)) (kx_ _ _ ?_))
    obtain ⟨i_450, h_i_450, hf⟩ := bind_some hf
    obtain ⟨wide_451, h_wide_451, hf⟩ := bind_some hf
    refine SB.seqB (fun kx_ => sb_asg (sl' := [sv script_447, sv cell_449, sv wide_451, .any, .any, .any, .any, .any, .any, .any]) rfl (EV.cast (ev_op (ev_int 1) (ev_op (EN.ev (en_lst (el_cons (ev_op (ev_op (ev_var (i := 1) rfl) (ev_int 2) r2_div) (ev_int 12) r2_mod) (el_cons (ev_op (ev_op (ev_var (i := 1) rfl) (ev_int 2) r2_div) (ev_op (ev_int 10) (ev_int 6) (r2_pow (r := 1000000))) r2_mod) el_nil)))) (ev_op (ev_var (i := 1) rfl) (ev_int 2) r2_mod) (r2_ixL h_i_450)) r2_add) (Option.some.inj h_wide_451)) (kx_ _ _ ?_))
    obtain ⟨r_452, h_r_452, hf⟩ := bind_some hf
    obtain ⟨r_453, h_r_453, hf⟩ := bind_some hf
    obtain ⟨r_454, h_r_454, hf⟩ := bind_some hf
    obtain ⟨floats_here_455, h_floats_here_455, hf⟩ := bind_some hf
    refine SB.seqB (fun kx_ => sb_asg (sl' := [sv script_447, sv cell_449, sv wide_451, sv floats_here_455, .any, .any, .any, .any, .any, .any]) rfl (EV.cast (EN.ev (en_call (ea_cons (EN.ev (en_call (ea_cons (ev_call (ea_cons (ev_var (i := 0) rfl) (ea_cons (ev_int 0) ea_nil)) h_r_452) (ea_cons (ev_int 12) ea_nil)) h_r_453)) (ea_cons (ev_var (i := 2) rfl) (ea_cons (EN.ev (en_slF (ev_var (i := 0) rfl) (eo_some (ev_int 2)) (eo_some (ev_int 14)))) ea_nil))) h_r_454)) (Option.some.inj h_floats_here_455)) (kx_ _ _ ?_))
    obtain ⟨r_456, h_r_456, hf⟩ := bind_some hf
    obtain ⟨⟨standing_457, papers_458, _⟩, h_standing_457, hf⟩ := bind_some hf
    refine SB.seqB (fun kx_ => sb_unp (sl' := [sv script_447, sv cell_449, sv wide_451, sv floats_here_455, sv standing_457, sv papers_458, .any, .any, .any, .any]) (EV.cast (ev_call (ea_cons (ev_var (i := 2) rfl) (ea_cons (ev_var (i := 3) rfl) ea_nil)) h_r_456) (Option.some.inj h_standing_457)) (gt_tup (gts_cons (gt_name rfl) (gts_cons (gt_name rfl) gts_nil))) (kx_ _ _ ?_))
    obtain ⟨zs_460, h_zs_460, hf⟩ := bind_some hf
    obtain ⟨held_461, h_held_461, hf⟩ := bind_some hf
    refine SB.seqB (fun kx_ => sb_asg (sl' := [sv script_447, sv cell_449, sv wide_451, sv floats_here_455, sv standing_457, sv papers_458, sv held_461, .any, .any, .any]) rfl (EV.cast (ev_hl (ea_cons (EN.ev (en_cb (ea_cons (ev_var (i := 3) rfl) ea_nil) rc_list)) (ea_cons (EN.ev (en_cb (ea_cons (ev_var (i := 4) rfl) ea_nil) rc_list)) (ea_cons (EN.ev (en_lc (js := [9]) (fun x => [sv script_447, sv cell_449, sv wide_451, sv floats_here_455, sv standing_457, sv papers_458, .any, .any, .any, sv x]) h_zs_460 (it_list (ev_var (i := 5) rfl)) (anyAt_of (by rfl)) (fun x => (gt_name rfl)) (sub_of (by rfl)) (fun _ _ x b h => by cases h; exact et_yes) (fun _ _ x z _ h => by obtain ⟨paper_459, hx_⟩ : ∃ y, y = x := ⟨x, rfl⟩; subst hx_; have hz_ := Option.some.inj h; subst hz_; exact EV.is (sl' := [sv script_447, sv cell_449, sv wide_451, sv floats_here_455, sv standing_457, sv papers_458, .any, .any, .any, sv paper_459]) rfl (EN.ev (en_cb (ea_cons (ev_var (i := 9) rfl) ea_nil) rc_list))))) ea_nil)))) (Option.some.inj h_held_461)) (kx_ _ _ ?_))
    obtain ⟨r_463, h_r_463, hf⟩ := bind_some hf
    obtain ⟨b_465, h_b_465, hf⟩ := bind_some hf
    refine SB.seqB (fun kx_467 => sb_if (b := b_465) (et_orO h_b_465 (et_test (ev_op (ev_call (ea_cons (ev_var (i := 2) rfl) (ea_cons (ev_var (i := 3) rfl) (ea_cons (ev_var (i := 4) rfl) (ea_cons (ev_var (i := 5) rfl) ea_nil)))) h_r_463) (ev_bool true) r2_notB)) (fun _ _ h => by obtain ⟨e_464, h_e_464, h⟩ := bind_some h; have hz_ := Option.some.inj h; subst hz_; exact (et_test (ev_op (ev_var (i := 6) rfl) (ev_hl (ea_cons (ev_var (i := 3) rfl) (ea_cons (ev_var (i := 4) rfl) (ea_cons (ev_var (i := 5) rfl) ea_nil)))) (r2_neO h_e_464))))) (fun hb_466 => ?_) (fun hb_466 => ?_))
    · have hf := ite_t hb_466 hf
      cases hf
      exact sb_ret (ev_bool false) q (List.Sublist.refl _)
    · have hf := ite_f hb_466 hf
      refine sb_nx ?_
      refine kx_467 _ _ ?_
      obtain ⟨r_469, h_r_469, hf⟩ := bind_some hf
      refine SB.seqB (fun kx_471 => sb_if (b := (!r_469)) (et_not (et_B (ev_call (ea_cons (ev_var (i := 2) rfl) (ea_cons (ev_var (i := 3) rfl) (ea_cons (ev_var (i := 4) rfl) (ea_cons (ev_var (i := 5) rfl) ea_nil)))) h_r_469))) (fun hb_470 => ?_) (fun hb_470 => ?_))
      · have hf := ite_t hb_470 hf
        cases hf
        exact sb_ret (ev_bool false) q (List.Sublist.refl _)
      · have hf := ite_f hb_470 hf
        refine sb_nx ?_
        refine kx_471 _ _ ?_
        obtain ⟨rg_472, h_rg_472, hf⟩ := bind_some hf
        obtain ⟨tot_478, h_tot_478, hf⟩ := bind_some hf
        refine SB.seqB (fun kx_508 => sb_for (β := Int) (Sx := Unit) (fun s => [sv script_447, sv cell_449, sv wide_451, sv floats_here_455, sv standing_457, sv papers_458, sv held_461, .any, .any, .any]) (fun s => []) (fun x s => [sv script_447, sv cell_449, sv wide_451, sv floats_here_455, sv standing_457, sv papers_458, sv held_461, sv x, .any, .any]) [7] (fun xs s => forC (m_law_L1 wide_451 floats_here_455 standing_457 papers_458) xs s = some tot_478) () (IT.m (it_rng1 (ea_cons (ev_cb (ea_cons (ev_var (i := 3) rfl) ea_nil) rc_len) ea_nil) h_rg_472)) h_tot_478 (.keep (.keep (.keep (.keep (.keep (.keep (.keep (.keep (.keep (.keep .nil)))))))))) (List.Sublist.refl _) (fun x s => (gt_name rfl)) ?_ ?_)
        · intro Kn1 b1 k_473 rest_ s_ hP_475 N_ hN_474
          obtain ⟨c_, hc_476, hP_475⟩ := bind_some hP_475
          have q_477 := q.base b1
          unfold m_law_L1 at hc_476
          refine SB.is (sl' := [sv script_447, sv cell_449, sv wide_451, sv floats_here_455, sv standing_457, sv papers_458, sv held_461, sv k_473, .any, .any]) (ow1 := []) rfl rfl ?_
          obtain ⟨other_479, h_other_479, hc_476⟩ := bind_some hc_476
          refine SB.seqB (fun kx_ => sb_asgO (sl' := fun p_other_479 => [sv script_447, sv cell_449, sv wide_451, sv floats_here_455, sv standing_457, sv papers_458, sv held_461, sv k_473, .at p_other_479, .any]) (fun _ => rfl) (EN.cast (en_cb (ea_cons (ev_var (i := 4) rfl) ea_nil) rc_list) (Option.some.inj h_other_479)) (fun p_other_479 => (kx_ _ _ ?_)))
          obtain ⟨other_486, hj_480, hc_476⟩ := bind_some hc_476
          refine SB.cutB (sl' := [sv script_447, sv cell_449, sv wide_451, sv floats_here_455, sv standing_457, sv papers_458, sv held_461, sv k_473, .at p_other_479, .any]) (ow1 := [ol p_other_479 other_486]) (fun km_487 => sb_if (b := (decide ((0 : Int) < k_473))) (et_test (ev_op (ev_var (i := 7) rfl) (ev_int 0) r2_gt)) (fun hb_481 => ?_) (fun hb_481 => ?_)) ?_
          · have hj_480 := ite_t hb_481 hj_480
            obtain ⟨i_482, h_i_482, hj_480⟩ := bind_some hj_480
            obtain ⟨other_483, h_other_483, hj_480⟩ := bind_some hj_480
            refine SB.seqB (fun kx_ => sb_setO (i := 8) (j := 0) rfl rfl (ev_op (ev_var (i := 4) rfl) (ev_var (i := 7) rfl) (r2_ixL h_i_482)) (ev_op (ev_var (i := 7) rfl) (ev_int 1) r2_sub) h_other_483 (ow1 := [ol p_other_479 other_483]) rfl (kx_ _ _ ?_))
            obtain ⟨i_484, h_i_484, hj_480⟩ := bind_some hj_480
            obtain ⟨other_485, h_other_485, hj_480⟩ := bind_some hj_480
            refine sb_setO (i := 8) (j := 0) rfl rfl (ev_op (ev_var (i := 4) rfl) (ev_op (ev_var (i := 7) rfl) (ev_int 1) r2_sub) (r2_ixL h_i_484)) (ev_var (i := 7) rfl) h_other_485 (ow1 := [ol p_other_479 other_485]) rfl ?_
            cases hj_480
            exact km_487 _ _ (.keep (.keep (.keep (.keep (.keep (.keep (.keep (.keep (.keep (.keep .nil)))))))))) (List.Sublist.refl _)
          · have hj_480 := ite_f hb_481 hj_480
            refine sb_nx ?_
            cases hj_480
            exact km_487 _ _ (.keep (.keep (.keep (.keep (.keep (.keep (.keep (.keep (.keep (.keep .nil)))))))))) (List.Sublist.refl _)
          refine sb_freeze (i := 8) (j := 0) (sl' := [sv script_447, sv cell_449, sv wide_451, sv floats_here_455, sv standing_457, sv papers_458, sv held_461, sv k_473, sv other_486, .any]) (ow1 := []) rfl rfl rfl rfl ?_
          obtain ⟨b_490, h_b_490, hc_476⟩ := bind_some hc_476
          refine SB.seqB (fun kx_492 => sb_if (b := b_490) (et_andO h_b_490 (et_test (ev_op (ev_var (i := 7) rfl) (ev_int 0) r2_gt)) (fun _ _ h => by obtain ⟨r_489, h_r_489, h⟩ := bind_some h; have hz_ := Option.some.inj h; subst hz_; exact (et_B (ev_call (ea_cons (ev_var (i := 2) rfl) (ea_cons (ev_var (i := 3) rfl) (ea_cons (ev_var (i := 8) rfl) (ea_cons (ev_var (i := 5) rfl) ea_nil)))) h_r_489)))) (fun hb_491 => ?_) (fun hb_491 => ?_))
          · have hc_476 := ite_t hb_491 hc_476
            cases hc_476
            replace hP_475 : some (Ctl.rt false) = some tot_478 := hP_475
            cases hP_475
            replace hf : some false = some r_ := hf
            cases hf
            exact sb_ret (ev_bool false) q_477 (List.Sublist.refl _)
          · have hc_476 := ite_f hb_491 hc_476
            refine sb_nx ?_
            refine kx_492 _ _ ?_
            obtain ⟨cat_493, h_cat_493, hc_476⟩ := bind_some hc_476
            obtain ⟨cat_494, h_cat_494, hc_476⟩ := bind_some hc_476
            obtain ⟨other_495, h_other_495, hc_476⟩ := bind_some hc_476
            refine SB.seqB (fun kx_ => sb_asgO (sl' := fun p_other_495 => [sv script_447, sv cell_449, sv wide_451, sv floats_here_455, sv standing_457, sv papers_458, sv held_461, sv k_473, .at p_other_495, .any]) (fun _ => rfl) (EN.cast (en_op (EN.ev (en_op (EN.ev (en_sl (ev_var (i := 5) rfl) eo_none (eo_some (ev_var (i := 7) rfl)))) (EN.ev (en_lst (el_cons (EN.ev (en_lst el_nil)) el_nil))) (r2_catO h_cat_493))) (EN.ev (en_sl (ev_var (i := 5) rfl) (eo_some (ev_op (ev_var (i := 7) rfl) (ev_int 1) r2_add)) eo_none)) (r2_catO h_cat_494)) (Option.some.inj h_other_495)) (fun p_other_495 => (kx_ _ _ ?_)))
            refine sb_freeze (i := 8) (j := 0) (sl' := [sv script_447, sv cell_449, sv wide_451, sv floats_here_455, sv standing_457, sv papers_458, sv held_461, sv k_473, sv other_495, .any]) (ow1 := []) rfl rfl rfl rfl ?_
            obtain ⟨i_497, h_i_497, hc_476⟩ := bind_some hc_476
            obtain ⟨e_498, h_e_498, hc_476⟩ := bind_some hc_476
            obtain ⟨b_500, h_b_500, hc_476⟩ := bind_some hc_476
            refine SB.seqB (fun kx_502 => sb_if (b := b_500) (et_andO h_b_500 (et_test (ev_op (ev_op (ev_var (i := 5) rfl) (ev_var (i := 7) rfl) (r2_ixL h_i_497)) (EN.ev (en_lst el_nil)) (r2_neO h_e_498))) (fun _ _ h => by obtain ⟨r_499, h_r_499, h⟩ := bind_some h; have hz_ := Option.some.inj h; subst hz_; exact (et_B (ev_call (ea_cons (ev_var (i := 2) rfl) (ea_cons (ev_var (i := 3) rfl) (ea_cons (ev_var (i := 4) rfl) (ea_cons (ev_var (i := 8) rfl) ea_nil)))) h_r_499)))) (fun hb_501 => ?_) (fun hb_501 => ?_))
            · have hc_476 := ite_t hb_501 hc_476
              cases hc_476
              replace hP_475 : some (Ctl.rt false) = some tot_478 := hP_475
              cases hP_475
              replace hf : some false = some r_ := hf
              cases hf
              exact sb_ret (ev_bool false) q_477 (List.Sublist.refl _)
            · have hc_476 := ite_f hb_501 hc_476
              refine sb_nx ?_
              refine kx_502 _ _ ?_
              obtain ⟨cat_504, h_cat_504, hc_476⟩ := bind_some hc_476
              obtain ⟨r_505, h_r_505, hc_476⟩ := bind_some hc_476
              refine sb_if (b := r_505) (et_B (ev_call (ea_cons (ev_var (i := 2) rfl) (ea_cons (ev_var (i := 3) rfl) (ea_cons (ev_var (i := 4) rfl) (ea_cons (EN.ev (en_op (EN.ev (en_sl (ev_var (i := 5) rfl) eo_none (eo_some (ev_var (i := 7) rfl)))) (EN.ev (en_sl (ev_var (i := 5) rfl) (eo_some (ev_op (ev_var (i := 7) rfl) (ev_int 1) r2_add)) eo_none)) (r2_catO h_cat_504))) ea_nil)))) h_r_505)) (fun hb_506 => ?_) (fun hb_506 => ?_)
              · have hc_476 := ite_t hb_506 hc_476
                cases hc_476
                replace hP_475 : some (Ctl.rt false) = some tot_478 := hP_475
                cases hP_475
                replace hf : some false = some r_ := hf
                cases hf
                exact sb_ret (ev_bool false) q_477 (List.Sublist.refl _)
              · have hc_476 := ite_f hb_506 hc_476
                refine sb_nx ?_
                cases hc_476
                exact fun σ Kn H s => hN_474 _ hP_475 σ Kn H ((s.le (.keep (.keep (.keep (.keep (.keep (.keep (.keep (.drop (.drop (.keep .nil))))))))))).sub (List.Sublist.refl _))
        · intro s_ h0
          cases h0
          refine kx_508 _ _ ?_
          refine SB.is (sl' := [sv script_447, sv cell_449, sv wide_451, sv floats_here_455, sv standing_457, sv papers_458, sv held_461, .any, .any, .any]) (ow1 := []) rfl rfl ?_
          obtain ⟨r_509, h_r_509, hf⟩ := bind_some hf
          cases hf
          exact sb_ret (ev_op (ev_call (ea_cons (ev_var (i := 2) rfl) (ea_cons (EN.ev (en_lst el_nil)) (ea_cons (EN.ev (en_lst el_nil)) (ea_cons (EN.ev (en_lst el_nil)) ea_nil)))) h_r_509) (ev_bool true) r2_isB) q (List.Sublist.refl _)
end
theorem all_mk (main : ∀ ns : List Int, ns.length ≤ 63 → m_law (Fz.mk ns) = some true) {l : PySem.W.OpenLaw} {w : World} {K : Fg} {h : Heap} {mg : Str → Option Value} {fa f_touches f_edges f_first_end f_stand_floats f_is_whole f_edge_by f_bars f_triple_shows f_paper_shows f_is_standing f_stands_there f_stood f__law_cell_at f__law_numbers f__law_names f__law_floats f__law_touch f__law_barred f__law_walked f_law : Addr} (X : K.In h) (G : h.Ns mainGlobals mg) (hfa : mg "law" = some (.ref fa))
     {od_touches an_touches : Option Addr} {sl_touches : Array (Option Value)} {oc_touches kV_touches dc_touches pm_touches cd_touches ct_touches : Value} {od_edges an_edges : Option Addr} {sl_edges : Array (Option Value)} {oc_edges kV_edges dc_edges pm_edges cd_edges ct_edges : Value} {od_first_end an_first_end : Option Addr} {sl_first_end : Array (Option Value)} {oc_first_end kV_first_end dc_first_end pm_first_end cd_first_end ct_first_end : Value} {od_stand_floats an_stand_floats : Option Addr} {sl_stand_floats : Array (Option Value)} {oc_stand_floats kV_stand_floats dc_stand_floats pm_stand_floats cd_stand_floats ct_stand_floats : Value} {od_is_whole an_is_whole : Option Addr} {sl_is_whole : Array (Option Value)} {oc_is_whole kV_is_whole dc_is_whole pm_is_whole cd_is_whole ct_is_whole : Value} {od_edge_by an_edge_by : Option Addr} {sl_edge_by : Array (Option Value)} {oc_edge_by kV_edge_by dc_edge_by pm_edge_by cd_edge_by ct_edge_by : Value} {od_bars an_bars : Option Addr} {sl_bars : Array (Option Value)} {oc_bars kV_bars dc_bars pm_bars cd_bars ct_bars : Value} {od_triple_shows an_triple_shows : Option Addr} {sl_triple_shows : Array (Option Value)} {oc_triple_shows kV_triple_shows dc_triple_shows pm_triple_shows cd_triple_shows ct_triple_shows : Value} {od_paper_shows an_paper_shows : Option Addr} {sl_paper_shows : Array (Option Value)} {oc_paper_shows kV_paper_shows dc_paper_shows pm_paper_shows cd_paper_shows ct_paper_shows : Value} {od_is_standing an_is_standing : Option Addr} {sl_is_standing : Array (Option Value)} {oc_is_standing kV_is_standing dc_is_standing pm_is_standing cd_is_standing ct_is_standing : Value} {od_stands_there an_stands_there : Option Addr} {sl_stands_there : Array (Option Value)} {oc_stands_there kV_stands_there dc_stands_there pm_stands_there cd_stands_there ct_stands_there : Value} {od_stood an_stood : Option Addr} {sl_stood : Array (Option Value)} {oc_stood kV_stood dc_stood pm_stood cd_stood ct_stood : Value} {od__law_cell_at an__law_cell_at : Option Addr} {sl__law_cell_at : Array (Option Value)} {oc__law_cell_at kV__law_cell_at dc__law_cell_at pm__law_cell_at cd__law_cell_at ct__law_cell_at : Value} {od__law_numbers an__law_numbers : Option Addr} {sl__law_numbers : Array (Option Value)} {oc__law_numbers kV__law_numbers dc__law_numbers pm__law_numbers cd__law_numbers ct__law_numbers : Value} {od__law_names an__law_names : Option Addr} {sl__law_names : Array (Option Value)} {oc__law_names kV__law_names dc__law_names pm__law_names cd__law_names ct__law_names : Value} {od__law_floats an__law_floats : Option Addr} {sl__law_floats : Array (Option Value)} {oc__law_floats kV__law_floats dc__law_floats pm__law_floats cd__law_floats ct__law_floats : Value} {od__law_touch an__law_touch : Option Addr} {sl__law_touch : Array (Option Value)} {oc__law_touch kV__law_touch dc__law_touch pm__law_touch cd__law_touch ct__law_touch : Value} {od__law_barred an__law_barred : Option Addr} {sl__law_barred : Array (Option Value)} {oc__law_barred kV__law_barred dc__law_barred pm__law_barred cd__law_barred ct__law_barred : Value} {od__law_walked an__law_walked : Option Addr} {sl__law_walked : Array (Option Value)} {oc__law_walked kV__law_walked dc__law_walked pm__law_walked cd__law_walked ct__law_walked : Value} {od_law an_law : Option Addr} {sl_law : Array (Option Value)} {oc_law kV_law dc_law pm_law cd_law ct_law : Value}
    (a_touches : PySem.W.nsIn K mainGlobals "touches" = some (some (.ref f_touches))) (l_touches : K.lookup f_touches = some ⟨oc_touches, od_touches, .func (PySem.W.fnOf "touches" "touches" (defArgs s_touches) (defBody s_touches) (defScope s_touches) .none kV_touches dc_touches pm_touches an_touches cd_touches ct_touches), sl_touches⟩) (c_touches : PySem.W.codeIn K cd_touches "touches" = true) (k_touches : PySem.W.keepIn K (.ref f_touches) = true)
    (a_edges : PySem.W.nsIn K mainGlobals "edges" = some (some (.ref f_edges))) (l_edges : K.lookup f_edges = some ⟨oc_edges, od_edges, .func (PySem.W.fnOf "edges" "edges" (defArgs s_edges) (defBody s_edges) (defScope s_edges) .none kV_edges dc_edges pm_edges an_edges cd_edges ct_edges), sl_edges⟩) (c_edges : PySem.W.codeIn K cd_edges "edges" = true) (k_edges : PySem.W.keepIn K (.ref f_edges) = true)
    (a_first_end : PySem.W.nsIn K mainGlobals "first_end" = some (some (.ref f_first_end))) (l_first_end : K.lookup f_first_end = some ⟨oc_first_end, od_first_end, .func (PySem.W.fnOf "first_end" "first_end" (defArgs s_first_end) (defBody s_first_end) (defScope s_first_end) .none kV_first_end dc_first_end pm_first_end an_first_end cd_first_end ct_first_end), sl_first_end⟩) (c_first_end : PySem.W.codeIn K cd_first_end "first_end" = true) (k_first_end : PySem.W.keepIn K (.ref f_first_end) = true)
    (a_stand_floats : PySem.W.nsIn K mainGlobals "stand_floats" = some (some (.ref f_stand_floats))) (l_stand_floats : K.lookup f_stand_floats = some ⟨oc_stand_floats, od_stand_floats, .func (PySem.W.fnOf "stand_floats" "stand_floats" (defArgs s_stand_floats) (defBody s_stand_floats) (defScope s_stand_floats) .none kV_stand_floats dc_stand_floats pm_stand_floats an_stand_floats cd_stand_floats ct_stand_floats), sl_stand_floats⟩) (c_stand_floats : PySem.W.codeIn K cd_stand_floats "stand_floats" = true) (k_stand_floats : PySem.W.keepIn K (.ref f_stand_floats) = true)
    (a_is_whole : PySem.W.nsIn K mainGlobals "is_whole" = some (some (.ref f_is_whole))) (l_is_whole : K.lookup f_is_whole = some ⟨oc_is_whole, od_is_whole, .func (PySem.W.fnOf "is_whole" "is_whole" (defArgs s_is_whole) (defBody s_is_whole) (defScope s_is_whole) .none kV_is_whole dc_is_whole pm_is_whole an_is_whole cd_is_whole ct_is_whole), sl_is_whole⟩) (c_is_whole : PySem.W.codeIn K cd_is_whole "is_whole" = true) (k_is_whole : PySem.W.keepIn K (.ref f_is_whole) = true)
    (a_edge_by : PySem.W.nsIn K mainGlobals "edge_by" = some (some (.ref f_edge_by))) (l_edge_by : K.lookup f_edge_by = some ⟨oc_edge_by, od_edge_by, .func (PySem.W.fnOf "edge_by" "edge_by" (defArgs s_edge_by) (defBody s_edge_by) (defScope s_edge_by) .none kV_edge_by dc_edge_by pm_edge_by an_edge_by cd_edge_by ct_edge_by), sl_edge_by⟩) (c_edge_by : PySem.W.codeIn K cd_edge_by "edge_by" = true) (k_edge_by : PySem.W.keepIn K (.ref f_edge_by) = true)
    (a_bars : PySem.W.nsIn K mainGlobals "bars" = some (some (.ref f_bars))) (l_bars : K.lookup f_bars = some ⟨oc_bars, od_bars, .func (PySem.W.fnOf "bars" "bars" (defArgs s_bars) (defBody s_bars) (defScope s_bars) .none kV_bars dc_bars pm_bars an_bars cd_bars ct_bars), sl_bars⟩) (c_bars : PySem.W.codeIn K cd_bars "bars" = true) (k_bars : PySem.W.keepIn K (.ref f_bars) = true)
    (a_triple_shows : PySem.W.nsIn K mainGlobals "triple_shows" = some (some (.ref f_triple_shows))) (l_triple_shows : K.lookup f_triple_shows = some ⟨oc_triple_shows, od_triple_shows, .func (PySem.W.fnOf "triple_shows" "triple_shows" (defArgs s_triple_shows) (defBody s_triple_shows) (defScope s_triple_shows) .none kV_triple_shows dc_triple_shows pm_triple_shows an_triple_shows cd_triple_shows ct_triple_shows), sl_triple_shows⟩) (c_triple_shows : PySem.W.codeIn K cd_triple_shows "triple_shows" = true) (k_triple_shows : PySem.W.keepIn K (.ref f_triple_shows) = true)
    (a_paper_shows : PySem.W.nsIn K mainGlobals "paper_shows" = some (some (.ref f_paper_shows))) (l_paper_shows : K.lookup f_paper_shows = some ⟨oc_paper_shows, od_paper_shows, .func (PySem.W.fnOf "paper_shows" "paper_shows" (defArgs s_paper_shows) (defBody s_paper_shows) (defScope s_paper_shows) .none kV_paper_shows dc_paper_shows pm_paper_shows an_paper_shows cd_paper_shows ct_paper_shows), sl_paper_shows⟩) (c_paper_shows : PySem.W.codeIn K cd_paper_shows "paper_shows" = true) (k_paper_shows : PySem.W.keepIn K (.ref f_paper_shows) = true)
    (a_is_standing : PySem.W.nsIn K mainGlobals "is_standing" = some (some (.ref f_is_standing))) (l_is_standing : K.lookup f_is_standing = some ⟨oc_is_standing, od_is_standing, .func (PySem.W.fnOf "is_standing" "is_standing" (defArgs s_is_standing) (defBody s_is_standing) (defScope s_is_standing) .none kV_is_standing dc_is_standing pm_is_standing an_is_standing cd_is_standing ct_is_standing), sl_is_standing⟩) (c_is_standing : PySem.W.codeIn K cd_is_standing "is_standing" = true) (k_is_standing : PySem.W.keepIn K (.ref f_is_standing) = true)
    (a_stands_there : PySem.W.nsIn K mainGlobals "stands_there" = some (some (.ref f_stands_there))) (l_stands_there : K.lookup f_stands_there = some ⟨oc_stands_there, od_stands_there, .func (PySem.W.fnOf "stands_there" "stands_there" (defArgs s_stands_there) (defBody s_stands_there) (defScope s_stands_there) .none kV_stands_there dc_stands_there pm_stands_there an_stands_there cd_stands_there ct_stands_there), sl_stands_there⟩) (c_stands_there : PySem.W.codeIn K cd_stands_there "stands_there" = true) (k_stands_there : PySem.W.keepIn K (.ref f_stands_there) = true)
    (a_stood : PySem.W.nsIn K mainGlobals "stood" = some (some (.ref f_stood))) (l_stood : K.lookup f_stood = some ⟨oc_stood, od_stood, .func (PySem.W.fnOf "stood" "stood" (defArgs s_stood) (defBody s_stood) (defScope s_stood) .none kV_stood dc_stood pm_stood an_stood cd_stood ct_stood), sl_stood⟩) (c_stood : PySem.W.codeIn K cd_stood "stood" = true) (k_stood : PySem.W.keepIn K (.ref f_stood) = true)
    (a__law_cell_at : PySem.W.nsIn K mainGlobals "_law_cell_at" = some (some (.ref f__law_cell_at))) (l__law_cell_at : K.lookup f__law_cell_at = some ⟨oc__law_cell_at, od__law_cell_at, .func (PySem.W.fnOf "_law_cell_at" "_law_cell_at" (defArgs s__law_cell_at) (defBody s__law_cell_at) (defScope s__law_cell_at) .none kV__law_cell_at dc__law_cell_at pm__law_cell_at an__law_cell_at cd__law_cell_at ct__law_cell_at), sl__law_cell_at⟩) (c__law_cell_at : PySem.W.codeIn K cd__law_cell_at "_law_cell_at" = true) (k__law_cell_at : PySem.W.keepIn K (.ref f__law_cell_at) = true)
    (a__law_numbers : PySem.W.nsIn K mainGlobals "_law_numbers" = some (some (.ref f__law_numbers))) (l__law_numbers : K.lookup f__law_numbers = some ⟨oc__law_numbers, od__law_numbers, .func (PySem.W.fnOf "_law_numbers" "_law_numbers" (defArgs s__law_numbers) (defBody s__law_numbers) (defScope s__law_numbers) .none kV__law_numbers dc__law_numbers pm__law_numbers an__law_numbers cd__law_numbers ct__law_numbers), sl__law_numbers⟩) (c__law_numbers : PySem.W.codeIn K cd__law_numbers "_law_numbers" = true) (k__law_numbers : PySem.W.keepIn K (.ref f__law_numbers) = true)
    (a__law_names : PySem.W.nsIn K mainGlobals "_law_names" = some (some (.ref f__law_names))) (l__law_names : K.lookup f__law_names = some ⟨oc__law_names, od__law_names, .func (PySem.W.fnOf "_law_names" "_law_names" (defArgs s__law_names) (defBody s__law_names) (defScope s__law_names) .none kV__law_names dc__law_names pm__law_names an__law_names cd__law_names ct__law_names), sl__law_names⟩) (c__law_names : PySem.W.codeIn K cd__law_names "_law_names" = true) (k__law_names : PySem.W.keepIn K (.ref f__law_names) = true)
    (a__law_floats : PySem.W.nsIn K mainGlobals "_law_floats" = some (some (.ref f__law_floats))) (l__law_floats : K.lookup f__law_floats = some ⟨oc__law_floats, od__law_floats, .func (PySem.W.fnOf "_law_floats" "_law_floats" (defArgs s__law_floats) (defBody s__law_floats) (defScope s__law_floats) .none kV__law_floats dc__law_floats pm__law_floats an__law_floats cd__law_floats ct__law_floats), sl__law_floats⟩) (c__law_floats : PySem.W.codeIn K cd__law_floats "_law_floats" = true) (k__law_floats : PySem.W.keepIn K (.ref f__law_floats) = true)
    (a__law_touch : PySem.W.nsIn K mainGlobals "_law_touch" = some (some (.ref f__law_touch))) (l__law_touch : K.lookup f__law_touch = some ⟨oc__law_touch, od__law_touch, .func (PySem.W.fnOf "_law_touch" "_law_touch" (defArgs s__law_touch) (defBody s__law_touch) (defScope s__law_touch) .none kV__law_touch dc__law_touch pm__law_touch an__law_touch cd__law_touch ct__law_touch), sl__law_touch⟩) (c__law_touch : PySem.W.codeIn K cd__law_touch "_law_touch" = true) (k__law_touch : PySem.W.keepIn K (.ref f__law_touch) = true)
    (a__law_barred : PySem.W.nsIn K mainGlobals "_law_barred" = some (some (.ref f__law_barred))) (l__law_barred : K.lookup f__law_barred = some ⟨oc__law_barred, od__law_barred, .func (PySem.W.fnOf "_law_barred" "_law_barred" (defArgs s__law_barred) (defBody s__law_barred) (defScope s__law_barred) .none kV__law_barred dc__law_barred pm__law_barred an__law_barred cd__law_barred ct__law_barred), sl__law_barred⟩) (c__law_barred : PySem.W.codeIn K cd__law_barred "_law_barred" = true) (k__law_barred : PySem.W.keepIn K (.ref f__law_barred) = true)
    (a__law_walked : PySem.W.nsIn K mainGlobals "_law_walked" = some (some (.ref f__law_walked))) (l__law_walked : K.lookup f__law_walked = some ⟨oc__law_walked, od__law_walked, .func (PySem.W.fnOf "_law_walked" "_law_walked" (defArgs s__law_walked) (defBody s__law_walked) (defScope s__law_walked) .none kV__law_walked dc__law_walked pm__law_walked an__law_walked cd__law_walked ct__law_walked), sl__law_walked⟩) (c__law_walked : PySem.W.codeIn K cd__law_walked "_law_walked" = true) (k__law_walked : PySem.W.keepIn K (.ref f__law_walked) = true)
    (a_law : PySem.W.nsIn K mainGlobals "law" = some (some (.ref f_law))) (l_law : K.lookup f_law = some ⟨oc_law, od_law, .func (PySem.W.fnOf "law" "law" (defArgs s_law) (defBody s_law) (defScope s_law) .none kV_law dc_law pm_law an_law cd_law ct_law), sl_law⟩) (c_law : PySem.W.codeIn K cd_law "law" = true) (k_law : PySem.W.keepIn K (.ref f_law) = true)
    (z_bool : PySem.W.nsIn K mainGlobals "bool" = some none)
    (z_enumerate : PySem.W.nsIn K mainGlobals "enumerate" = some none)
    (z_int : PySem.W.nsIn K mainGlobals "int" = some none)
    (z_isinstance : PySem.W.nsIn K mainGlobals "isinstance" = some none)
    (z_len : PySem.W.nsIn K mainGlobals "len" = some none)
    (z_list : PySem.W.nsIn K mainGlobals "list" = some none)
    (z_min : PySem.W.nsIn K mainGlobals "min" = some none)
    (z_range : PySem.W.nsIn K mainGlobals "range" = some none)
    (z_str : PySem.W.nsIn K mainGlobals "str" = some none)
    (z_tuple : PySem.W.nsIn K mainGlobals "tuple" = some none) :
    ∃ fd : FuncData, (∀ (s : Shared) (v : Value), BindsTo s fd ⟨[v], []⟩ [("_law_script", v)]) ∧ ∀ base : Heap, K.In base → base.Ns mainGlobals mg → FnOk l.prog w K mg base CX0 5 fa fd ["_law_script"] (spLaw K) := by
  have e := hfa.symm.trans (PySem.W.mg_of X G a_law)
  cases e
  have F_touches := fun_mk (st := s_touches) l_touches c_touches k_touches
  have F_edges := fun_mk (st := s_edges) l_edges c_edges k_edges
  have F_first_end := fun_mk (st := s_first_end) l_first_end c_first_end k_first_end
  have F_stand_floats := fun_mk (st := s_stand_floats) l_stand_floats c_stand_floats k_stand_floats
  have F_is_whole := fun_mk (st := s_is_whole) l_is_whole c_is_whole k_is_whole
  have F_edge_by := fun_mk (st := s_edge_by) l_edge_by c_edge_by k_edge_by
  have F_bars := fun_mk (st := s_bars) l_bars c_bars k_bars
  have F_triple_shows := fun_mk (st := s_triple_shows) l_triple_shows c_triple_shows k_triple_shows
  have F_paper_shows := fun_mk (st := s_paper_shows) l_paper_shows c_paper_shows k_paper_shows
  have F_is_standing := fun_mk (st := s_is_standing) l_is_standing c_is_standing k_is_standing
  have F_stands_there := fun_mk (st := s_stands_there) l_stands_there c_stands_there k_stands_there
  have F_stood := fun_mk (st := s_stood) l_stood c_stood k_stood
  have F__law_cell_at := fun_mk (st := s__law_cell_at) l__law_cell_at c__law_cell_at k__law_cell_at
  have F__law_numbers := fun_mk (st := s__law_numbers) l__law_numbers c__law_numbers k__law_numbers
  have F__law_names := fun_mk (st := s__law_names) l__law_names c__law_names k__law_names
  have F__law_floats := fun_mk (st := s__law_floats) l__law_floats c__law_floats k__law_floats
  have F__law_touch := fun_mk (st := s__law_touch) l__law_touch c__law_touch k__law_touch
  have F__law_barred := fun_mk (st := s__law_barred) l__law_barred c__law_barred k__law_barred
  have F__law_walked := fun_mk (st := s__law_walked) l__law_walked c__law_walked k__law_walked
  have F_law := fun_mk (st := s_law) l_law c_law k_law
  have b_touches := F_touches.binds (ps := ["thing", "row", "high"]) fun _ _ _ _ _ _ us hl => match us, hl with | [_, _, _], _ => rfl
  have b_edges := F_edges.binds (ps := ["width", "lefts", "rights", "row", "high"]) fun _ _ _ _ _ _ us hl => match us, hl with | [_, _, _, _, _], _ => rfl
  have b_first_end := F_first_end.binds (ps := ["things", "left", "right"]) fun _ _ _ _ _ _ us hl => match us, hl with | [_, _, _], _ => rfl
  have b_stand_floats := F_stand_floats.binds (ps := ["width", "floats"]) fun _ _ _ _ _ _ us hl => match us, hl with | [_, _], _ => rfl
  have b_is_whole := F_is_whole.binds (ps := ["thing"]) fun _ _ _ _ _ _ us hl => match us, hl with | [_], _ => rfl
  have b_edge_by := F_edge_by.binds (ps := ["things", "name", "none"]) fun _ _ _ _ _ _ us hl => match us, hl with | [_, _, _], _ => rfl
  have b_bars := F_bars.binds (ps := ["thing", "row", "till", "high"]) fun _ _ _ _ _ _ us hl => match us, hl with | [_, _, _, _], _ => rfl
  have b_triple_shows := F_triple_shows.binds (ps := ["ahead", "triple", "row", "float_", "width"]) fun _ _ _ _ _ _ us hl => match us, hl with | [_, _, _, _, _], _ => rfl
  have b_paper_shows := F_paper_shows.binds (ps := ["ahead", "paper", "row", "thing", "float_", "width"]) fun _ _ _ _ _ _ us hl => match us, hl with | [_, _, _, _, _, _], _ => rfl
  have b_is_standing := F_is_standing.binds (ps := ["thing", "float_"]) fun _ _ _ _ _ _ us hl => match us, hl with | [_, _], _ => rfl
  have b_stands_there := F_stands_there.binds (ps := ["ahead", "thing", "float_", "width"]) fun _ _ _ _ _ _ us hl => match us, hl with | [_, _, _, _], _ => rfl
  have b_stood := F_stood.binds (ps := ["width", "floats", "standing", "papers"]) fun _ _ _ _ _ _ us hl => match us, hl with | [_, _, _, _], _ => rfl
  have b__law_cell_at := F__law_cell_at.binds (ps := ["_law_script", "_law_k"]) fun _ _ _ _ _ _ us hl => match us, hl with | [_, _], _ => rfl
  have b__law_numbers := F__law_numbers.binds (ps := ["_law_cell", "_law_many"]) fun _ _ _ _ _ _ us hl => match us, hl with | [_, _], _ => rfl
  have b__law_names := F__law_names.binds (ps := ["_law_cell", "_law_many"]) fun _ _ _ _ _ _ us hl => match us, hl with | [_, _], _ => rfl
  have b__law_floats := F__law_floats.binds (ps := ["_law_names_here", "_law_wide", "_law_cells"]) fun _ _ _ _ _ _ us hl => match us, hl with | [_, _, _], _ => rfl
  have b__law_touch := F__law_touch.binds (ps := ["_law_thing", "_law_row", "_law_high"]) fun _ _ _ _ _ _ us hl => match us, hl with | [_, _, _], _ => rfl
  have b__law_barred := F__law_barred.binds (ps := ["_law_wide", "_law_ahead", "_law_triple", "_law_row", "_law_one"]) fun _ _ _ _ _ _ us hl => match us, hl with | [_, _, _, _, _], _ => rfl
  have b__law_walked := F__law_walked.binds (ps := ["_law_wide", "_law_floats_here", "_law_standing", "_law_papers"]) fun _ _ _ _ _ _ us hl => match us, hl with | [_, _, _, _], _ => rfl
  have b_law := F_law.binds (ps := ["_law_script"]) fun _ _ _ _ _ _ us hl => match us, hl with | [_], _ => rfl
  let T : TX K mg := ⟨_, _, F_touches, b_touches, PySem.W.mg_of X G a_touches, _, _, F_edges, b_edges, PySem.W.mg_of X G a_edges, _, _, F_first_end, b_first_end, PySem.W.mg_of X G a_first_end, _, _, F_stand_floats, b_stand_floats, PySem.W.mg_of X G a_stand_floats, _, _, F_is_whole, b_is_whole, PySem.W.mg_of X G a_is_whole, _, _, F_edge_by, b_edge_by, PySem.W.mg_of X G a_edge_by, _, _, F_bars, b_bars, PySem.W.mg_of X G a_bars, _, _, F_triple_shows, b_triple_shows, PySem.W.mg_of X G a_triple_shows, _, _, F_paper_shows, b_paper_shows, PySem.W.mg_of X G a_paper_shows, _, _, F_is_standing, b_is_standing, PySem.W.mg_of X G a_is_standing, _, _, F_stands_there, b_stands_there, PySem.W.mg_of X G a_stands_there, _, _, F_stood, b_stood, PySem.W.mg_of X G a_stood, _, _, F__law_cell_at, b__law_cell_at, PySem.W.mg_of X G a__law_cell_at, _, _, F__law_numbers, b__law_numbers, PySem.W.mg_of X G a__law_numbers, _, _, F__law_names, b__law_names, PySem.W.mg_of X G a__law_names, _, _, F__law_floats, b__law_floats, PySem.W.mg_of X G a__law_floats, _, _, F__law_touch, b__law_touch, PySem.W.mg_of X G a__law_touch, _, _, F__law_barred, b__law_barred, PySem.W.mg_of X G a__law_barred, _, _, F__law_walked, b__law_walked, PySem.W.mg_of X G a__law_walked, _, _, F_law, b_law, PySem.W.mg_of X G a_law, PySem.W.mg_none_of X G z_bool, PySem.W.mg_none_of X G z_enumerate, PySem.W.mg_none_of X G z_int, PySem.W.mg_none_of X G z_isinstance, PySem.W.mg_none_of X G z_len, PySem.W.mg_none_of X G z_list, PySem.W.mg_none_of X G z_min, PySem.W.mg_none_of X G z_range, PySem.W.mg_none_of X G z_str, PySem.W.mg_none_of X G z_tuple⟩
  refine ⟨PySem.W.fnOf "law" "law" (defArgs s_law) (defBody s_law) (defScope s_law) .none kV_law dc_law pm_law an_law cd_law ct_law, fun s v => .of_eq rfl, fun base _ _ => ?_⟩
  exact fn_weak (ok_law T) main
end Wk68
/-! Wp: plain facts about the mirrors' words -/
namespace Wk
open PySem L2

theorem bs {α β : Type} (a : α) (f : α → Option β) : (some a).bind f = f a := by rw [Option.bind_some]
theorem bind_ok {α β : Type} {m : Option α} {f : α → Option β} {a : α} (h : m = some a) : m.bind f = f a := by rw [h]; rfl
theorem atI_ok {α : Type} {xs : List α} {i : Int} (h0 : 0 ≤ i) (h : i < xs.length) : atI xs i = xs[i.toNat]? := by
  obtain ⟨k, rfl⟩ := Int.eq_ofNat_of_zero_le h0
  have hk : k < xs.length := by omega
  have e : xs[k]? = some xs[k] := List.getElem?_eq_getElem hk
  rw [show ((k : Int)).toNat = k from rfl, e]
  exact atI_nat e
theorem atI_some {α : Type} {xs : List α} {i : Int} (h0 : 0 ≤ i) (h : i < xs.length) : ∃ x, atI xs i = some x ∧ xs[i.toNat]? = some x := by
  have hk : i.toNat < xs.length := by omega
  exact ⟨xs[i.toNat], by rw [atI_ok h0 h]; exact List.getElem?_eq_getElem hk, List.getElem?_eq_getElem hk⟩
theorem pick2 {α : Type} (x y : α) {k : Int} (h0 : 0 ≤ k) (h : k < 2) : atI [x, y] k = some (if k = 0 then x else y) := by
  rcases (show k = 0 ∨ k = 1 by omega) with rfl | rfl <;> rfl
theorem pick3 {α : Type} (x y z : α) {k : Int} (h0 : 0 ≤ k) (h : k < 3) : atI [x, y, z] k = some (if k = 0 then x else if k = 1 then y else z) := by
  rcases (show k = 0 ∨ k = 1 ∨ k = 2 by omega) with rfl | rfl | rfl <;> rfl
theorem pick4 {α : Type} (x y z u : α) {k : Int} (h0 : 0 ≤ k) (h : k < 4) : atI [x, y, z, u] k = some (if k = 0 then x else if k = 1 then y else if k = 2 then z else u) := by
  rcases (show k = 0 ∨ k = 1 ∨ k = 2 ∨ k = 3 by omega) with rfl | rfl | rfl | rfl <;> rfl
theorem forC_all {β R : Type} {f : β → Unit → Option (Ctl Unit R)} : ∀ {xs : List β}, (∀ x ∈ xs, f x () = some (.nx ())) → forC f xs () = some (.nx ())
  | [], _ => rfl
  | x :: xs, h => by
    unfold forC
    rw [h x List.mem_cons_self]
    exact forC_all fun y hy => h y (List.mem_cons_of_mem _ hy)
/-- a loop that always goes on, by an invariant -/
theorem forC_inv {β Sx R : Type} {f : β → Sx → Option (Ctl Sx R)} (I : List β → Sx → Prop) : ∀ {xs : List β} {s : Sx}, I xs s → (∀ x rest s, I (x :: rest) s → ∃ s', f x s = some (.nx s') ∧ I rest s') → ∃ s', forC f xs s = some (.nx s') ∧ I [] s'
  | [], s, h, _ => ⟨s, rfl, h⟩
  | x :: xs, s, h, hs => by
    obtain ⟨s', e, h'⟩ := hs x xs s h
    obtain ⟨s2, e2, h2⟩ := forC_inv I h' hs
    refine ⟨s2, ?_, h2⟩
    unfold forC
    rw [e]
    exact e2
theorem forS_inv {β Sx : Type} {f : β → Sx → Option Sx} (I : List β → Sx → Prop) : ∀ {xs : List β} {s : Sx}, I xs s → (∀ x rest s, I (x :: rest) s → ∃ s', f x s = some s' ∧ I rest s') → ∃ s', forS f xs s = some s' ∧ I [] s'
  | [], s, h, _ => ⟨s, rfl, h⟩
  | x :: xs, s, h, hs => by
    obtain ⟨s', e, h'⟩ := hs x xs s h
    obtain ⟨s2, e2, h2⟩ := forS_inv I h' hs
    refine ⟨s2, ?_, h2⟩
    unfold forS
    rw [e]
    exact e2
/-- a loop as a fold -/
theorem forS_fold {β Sx : Type} {f : β → Sx → Option Sx} (g : Sx → β → Sx) (I : List β → Sx → Prop) : ∀ {xs : List β} {s : Sx}, I xs s → (∀ x rest s, I (x :: rest) s → f x s = some (g s x) ∧ I rest (g s x)) → forS f xs s = some (xs.foldl g s)
  | [], s, h, _ => rfl
  | x :: xs, s, h, hs => by
    obtain ⟨e, h'⟩ := hs x xs s h
    unfold forS
    rw [e]
    exact forS_fold g I h' hs
theorem forS_cons {β Sx : Type} {f : β → Sx → Option Sx} {x : β} {xs : List β} {s s' : Sx} (h : f x s = some s') : forS f (x :: xs) s = forS f xs s' := by
  show ((f x s).bind _) = _
  rw [h]
  rfl
theorem forC_cons {β Sx R : Type} {f : β → Sx → Option (Ctl Sx R)} {x : β} {xs : List β} {s s' : Sx} (h : f x s = some (.nx s')) : forC f (x :: xs) s = forC f xs s' := by
  show ((f x s).bind _) = _
  rw [h]
  rfl
/-- by places -/
theorem forS_ix {β Sx : Type} {f : β → Sx → Option Sx} {xs : List β} (P : Nat → Sx → Prop) {s : Sx} (h0 : P 0 s) (step : ∀ (i : Nat) (hi : i < xs.length) s, P i s → ∃ s', f xs[i] s = some s' ∧ P (i + 1) s') : ∃ s', forS f xs s = some s' ∧ P xs.length s' := by
  have key : ∀ (m i : Nat) (s : Sx), i + m = xs.length → P i s → ∃ s', forS f (xs.drop i) s = some s' ∧ P xs.length s' := by
    intro m
    induction m with
    | zero =>
      intro i s hi hp
      have e : i = xs.length := by omega
      subst e
      rw [List.drop_length]
      exact ⟨s, rfl, hp⟩
    | succ m ih =>
      intro i s hi hp
      have hl : i < xs.length := by omega
      obtain ⟨s', e, hp'⟩ := step i hl s hp
      obtain ⟨r, e2, h2⟩ := ih (i + 1) s' (by omega) hp'
      refine ⟨r, ?_, h2⟩
      rw [List.drop_eq_getElem_cons hl, forS_cons e]
      exact e2
  have := key xs.length 0 s (by omega) h0
  rwa [List.drop_zero] at this
theorem forC_ix {β Sx R : Type} {f : β → Sx → Option (Ctl Sx R)} {xs : List β} (P : Nat → Sx → Prop) {s : Sx} (h0 : P 0 s) (step : ∀ (i : Nat) (hi : i < xs.length) s, P i s → ∃ s', f xs[i] s = some (.nx s') ∧ P (i + 1) s') : ∃ s', forC f xs s = some (.nx s') ∧ P xs.length s' := by
  have key : ∀ (m i : Nat) (s : Sx), i + m = xs.length → P i s → ∃ s', forC f (xs.drop i) s = some (.nx s') ∧ P xs.length s' := by
    intro m
    induction m with
    | zero =>
      intro i s hi hp
      have e : i = xs.length := by omega
      subst e
      rw [List.drop_length]
      exact ⟨s, rfl, hp⟩
    | succ m ih =>
      intro i s hi hp
      have hl : i < xs.length := by omega
      obtain ⟨s', e, hp'⟩ := step i hl s hp
      obtain ⟨r, e2, h2⟩ := ih (i + 1) s' (by omega) hp'
      refine ⟨r, ?_, h2⟩
      rw [List.drop_eq_getElem_cons hl, forC_cons e]
      exact e2
  have := key xs.length 0 s (by omega) h0
  rwa [List.drop_zero] at this
/-- two loops over one list, turn by turn -/
theorem forS2_ix {β S1 S2 : Type} {f1 : β → S1 → Option S1} {f2 : β → S2 → Option S2} {xs : List β} (P : Nat → S1 → S2 → Prop) {s1 : S1} {s2 : S2} (h0 : P 0 s1 s2)
    (step : ∀ (i : Nat) (hi : i < xs.length) s1 s2, P i s1 s2 → ∃ s1' s2', f1 xs[i] s1 = some s1' ∧ f2 xs[i] s2 = some s2' ∧ P (i + 1) s1' s2') : ∃ r1 r2, forS f1 xs s1 = some r1 ∧ forS f2 xs s2 = some r2 ∧ P xs.length r1 r2 := by
  have key : ∀ (m i : Nat) (s1 : S1) (s2 : S2), i + m = xs.length → P i s1 s2 → ∃ r1 r2, forS f1 (xs.drop i) s1 = some r1 ∧ forS f2 (xs.drop i) s2 = some r2 ∧ P xs.length r1 r2 := by
    intro m
    induction m with
    | zero =>
      intro i s1 s2 hi hp
      have e : i = xs.length := by omega
      subst e
      rw [List.drop_length]
      exact ⟨s1, s2, rfl, rfl, hp⟩
    | succ m ih =>
      intro i s1 s2 hi hp
      have hl : i < xs.length := by omega
      obtain ⟨a, b, e1, e2, hp'⟩ := step i hl s1 s2 hp
      obtain ⟨r1, r2, h1, h2, h3⟩ := ih (i + 1) a b (by omega) hp'
      refine ⟨r1, r2, ?_, ?_, h3⟩
      · rw [List.drop_eq_getElem_cons hl, forS_cons e1]
        exact h1
      · rw [List.drop_eq_getElem_cons hl, forS_cons e2]
        exact h2
  have := key xs.length 0 s1 s2 (by omega) h0
  rwa [List.drop_zero] at this
theorem enumI_at {α : Type} (xs : List α) (i : Nat) (hi : i < (enumI xs).length) : (enumI xs)[i] = ((i : Int), xs[i]'(by simpa [enumI] using hi), ()) := by simp [enumI]
theorem whileS_inv {Sx : Type} {c : Sx → Option Bool} {f : Sx → Option Sx} (I : Sx → Prop) (μ : Sx → Nat) (step : ∀ s, I s → ∃ b, c s = some b ∧ (b = true → ∃ s', f s = some s' ∧ I s' ∧ μ s' < μ s)) :
    ∀ (n : Nat) {s : Sx}, I s → μ s < n → ∃ s', whileS c f n s = some s' ∧ I s' ∧ c s' = some false
  | 0, _, _, h => absurd h (Nat.not_lt_zero _)
  | n + 1, s, hI, hn => by
    obtain ⟨b, hb, hs⟩ := step s hI
    unfold whileS
    rw [hb]
    cases b with
    | false => exact ⟨s, rfl, hI, hb⟩
    | true =>
      obtain ⟨s', e, hI', hm⟩ := hs rfl
      obtain ⟨s2, e2, h2⟩ := whileS_inv I μ step n hI' (by omega)
      refine ⟨s2, ?_, h2⟩
      show ((f s).bind _) = _
      rw [e]
      exact e2
theorem whileF_inv {Sx : Type} {c : Sx → Option Bool} {f : Sx → Option Sx} (I : Sx → Prop) (μ : Sx → Nat) (step : ∀ s, I s → ∃ b, c s = some b ∧ (b = true → ∃ s', f s = some s' ∧ I s' ∧ μ s' < μ s)) {s : Sx} (h : I s) :
    ∃ s', whileF c f s = some s' ∧ I s' ∧ c s' = some false := by
  obtain ⟨s', e, h1, h2⟩ := whileS_inv I μ step (μ s + 1) h (Nat.lt_succ_self _)
  exact ⟨s', whileF_of e, h1, h2⟩
theorem cut_len {α : Type} (xs : List α) (lo hi : Option Int) : (cut xs lo hi).length ≤ xs.length := by
  unfold cut
  rw [List.length_take, List.length_drop]
  omega
theorem cut_mem {α : Type} {xs : List α} {lo hi : Option Int} {x : α} (h : x ∈ cut xs lo hi) : x ∈ xs := List.mem_of_mem_drop (List.mem_of_mem_take h)
theorem cut_from {α : Type} (xs : List α) (k : Nat) : cut xs (some (k : Int)) none = xs.drop k := by
  unfold cut
  rw [HT.sIx_nat, HT.sIx_none]
  by_cases h : k ≤ xs.length
  · rw [Nat.min_eq_left h, List.take_of_length_le (by rw [List.length_drop]; omega)]
  · rw [Nat.min_eq_right (by omega), List.drop_eq_nil_of_le (Nat.le_refl _), List.drop_eq_nil_of_le (show xs.length ≤ k by omega)]
    exact List.take_nil
theorem cut_to {α : Type} (xs : List α) (k : Nat) : cut xs none (some (k : Int)) = xs.take k := by
  unfold cut
  rw [HT.sIx_nat, HT.sIx_none, List.drop_zero, Nat.sub_zero]
  by_cases h : k ≤ xs.length
  · rw [Nat.min_eq_left h]
  · rw [Nat.min_eq_right (by omega), List.take_of_length_le (Nat.le_refl _), List.take_of_length_le (by omega)]
theorem rngO_ok {lo hi : Int} (h1 : -1000000000000 ≤ lo) (h2 : lo ≤ 1000000000000) (h3 : -1000000000000 ≤ hi) (h4 : hi ≤ 1000000000000) : rngO lo hi = some (irange lo hi) := if_pos ⟨h1, h2, h3, h4⟩
theorem irange_len (lo hi : Int) : (irange lo hi).length = (hi - lo).toNat := by simp [irange]
theorem enumI_len {α : Type} (xs : List α) : (enumI xs).length = xs.length := by simp [enumI]
theorem lcM_len {β γ : Type} {c : β → Option Bool} {f : β → Option γ} {xs : List β} (h : xs.length < 1000000) : lcM c f xs = lcGo c f xs := if_pos h
theorem lcGo_all {β γ : Type} {f : β → Option γ} (g : β → γ) : ∀ {xs : List β}, (∀ x ∈ xs, f x = some (g x)) → lcGo (fun _ => some true) f xs = some (xs.map g)
  | [], _ => rfl
  | x :: xs, h => by
    unfold lcGo
    show ((f x).bind _) = _
    rw [h x List.mem_cons_self, lcGo_all g fun y hy => h y (List.mem_cons_of_mem _ hy)]
    rfl
theorem lcGo_if {β γ : Type} {c : β → Option Bool} {f : β → Option γ} (p : β → Bool) (g : β → γ) : ∀ {xs : List β}, (∀ x ∈ xs, c x = some (p x)) → (∀ x ∈ xs, p x = true → f x = some (g x)) → lcGo c f xs = some ((xs.filter p).map g)
  | [], _, _ => rfl
  | x :: xs, hc, h => by
    unfold lcGo
    rw [hc x List.mem_cons_self]
    have ih := lcGo_if p g (xs := xs) (fun y hy => hc y (List.mem_cons_of_mem _ hy)) (fun y hy => h y (List.mem_cons_of_mem _ hy))
    cases e : p x with
    | true =>
      show ((f x).bind _) = _
      rw [h x List.mem_cons_self e, ih, List.filter_cons_of_pos e]
      rfl
    | false =>
      show lcGo c f xs = _
      rw [ih, List.filter_cons_of_neg (by rw [e]; exact Bool.false_ne_true)]
theorem lcM_all {β γ : Type} {f : β → Option γ} (g : β → γ) {xs : List β} (hl : xs.length < 1000000) (h : ∀ x ∈ xs, f x = some (g x)) : lcM (fun _ => some true) f xs = some (xs.map g) := by
  rw [lcM_len hl, lcGo_all g h]
/-- draws, one an item -/
theorem lcSGo_inv {β γ Sx : Type} {f : β → Sx → Option (γ × Sx)} (I : Sx → Prop) (P : γ → Prop) (step : ∀ x s, I s → ∃ z s', f x s = some (z, s') ∧ I s' ∧ P z) :
    ∀ {xs : List β} {s : Sx}, I s → ∃ zs s', lcSGo f xs s = some (zs, s') ∧ I s' ∧ zs.length = xs.length ∧ ∀ z ∈ zs, P z
  | [], s, h => ⟨[], s, rfl, h, rfl, fun _ hz => nomatch hz⟩
  | x :: xs, s, h => by
    obtain ⟨z, s', e, h', hp⟩ := step x s h
    obtain ⟨zs, s2, e2, h2, hl, hz⟩ := lcSGo_inv I P step (xs := xs) h'
    refine ⟨z :: zs, s2, ?_, h2, by rw [List.length_cons, List.length_cons, hl], fun y hy => ?_⟩
    · unfold lcSGo
      rw [e]
      show ((lcSGo f xs s').bind _) = _
      rw [e2]
      rfl
    · rcases List.mem_cons.mp hy with rfl | hy
      · exact hp
      · exact hz y hy
theorem lcS_inv {β γ Sx : Type} {f : β → Sx → Option (γ × Sx)} (I : Sx → Prop) (P : γ → Prop) (step : ∀ x s, I s → ∃ z s', f x s = some (z, s') ∧ I s' ∧ P z) {xs : List β} {s : Sx} (hl : xs.length < 1000000) (h : I s) :
    ∃ zs s', lcS f xs s = some (zs, s') ∧ I s' ∧ zs.length = xs.length ∧ ∀ z ∈ zs, P z := by
  unfold lcS
  rw [if_pos hl]
  exact lcSGo_inv I P step h
theorem forS_app {β γ : Type} {f : β → List γ → Option (List γ)} (g : β → γ) : ∀ {xs : List β} {s : List γ}, s.length + xs.length ≤ 1000000 → (∀ x ∈ xs, ∀ s : List γ, s.length < 1000000 → f x s = some (s ++ [g x])) → forS f xs s = some (s ++ xs.map g)
  | [], s, _, _ => by rw [List.map_nil, List.append_nil]; rfl
  | x :: xs, s, hl, h => by
    rw [List.length_cons] at hl
    rw [forS_cons (h x List.mem_cons_self s (by omega)), forS_app g (by rw [List.length_append, List.length_singleton]; omega) fun y hy => h y (List.mem_cons_of_mem _ hy), List.map_cons, List.append_assoc]
    rfl
theorem enumI_mem {α : Type} [Rp α] {xs : List α} {y : Int × α × Unit} (h : y ∈ enumI xs) : ∃ (i : Nat) (x : α), xs[i]? = some x ∧ y = ((i : Int), x, ()) := by
  obtain ⟨i, hi⟩ := List.getElem?_of_mem h
  obtain ⟨x, hx, e⟩ := enum_get hi
  exact ⟨i, x, hx, e⟩
theorem zipI_mem {α β : Type} [Rp α] [Rp β] {xs : List α} {ys : List β} {z : α × β × Unit} (h : z ∈ zipI xs ys) : ∃ (i : Nat) (x : α) (y : β), xs[i]? = some x ∧ ys[i]? = some y ∧ z = (x, y, ()) := by
  obtain ⟨i, hi⟩ := List.getElem?_of_mem h
  obtain ⟨x, y, hx, hy, e⟩ := zip_get hi
  exact ⟨i, x, y, hx, hy, e⟩
/-! texts -/
theorem len_app (x y : Str) : (x ++ y).length = x.length + y.length := by
  show (x.cps ++ y.cps).size = _
  rw [Array.size_append]
  rfl
theorem ok_app {x y : Str} (hx : PyData.strOk x = true) (hy : PyData.strOk y = true) : PyData.strOk (x ++ y) = true := by
  show (x.cps ++ y.cps).all _ = true
  rw [Array.all_append]
  exact Bool.and_eq_true_iff.mpr ⟨hx, hy⟩
theorem ok_join {s : Str} (hs : PyData.strOk s = true) : ∀ {ys : List Str}, (∀ y ∈ ys, PyData.strOk y = true) → PyData.strOk (Str.join s ys) = true
  | [], _ => by
    unfold Str.join
    decide +kernel
  | [x], h => h x List.mem_cons_self
  | x :: y :: r, h => ok_app (ok_app (h x List.mem_cons_self) hs) (ok_join hs fun z hz => h z (List.mem_cons_of_mem _ hz))
theorem joinO_ok {s : Str} {ys : List Str} (h : (ys.map (·.length)).sum + ys.length * s.length ≤ 1000000) : joinO s ys = some (Str.join s ys) := by
  unfold joinO
  rw [if_pos h, TL.join_eq]
/-- a sign of a written text -/
theorem ixS_ok {s : Str} {i : Int} (hl : s.length ≤ 100000) (h0 : 0 ≤ i) (h : i < (s.length : Int)) (hs : PyData.strOk s = true) : ∃ c, ixS s i = some ⟨#[c]⟩ ∧ PyData.strOk ⟨#[c]⟩ = true ∧ (⟨#[c]⟩ : Str).length = 1 := by
  have hl2 : s.cps.toList.length = s.length := Array.length_toList
  obtain ⟨c, e, e2⟩ := atI_some (xs := s.cps.toList) h0 (by rw [hl2]; exact h)
  refine ⟨c, ?_, ?_, rfl⟩
  · unfold ixS
    rw [if_pos hl, e]
    rfl
  · have hm : c ∈ s.cps := Array.mem_toList_iff.mp (List.mem_of_getElem? e2)
    have := Array.all_eq_true'.mp hs c hm
    show (#[c] : Array Nat).all _ = true
    simpa using this
/-! dicts, and more -/
theorem cut_init {α : Type} (xs : List α) : cut xs none (some (-(1 : Int))) = xs.dropLast := by
  unfold cut
  rw [HT.sIx_none, List.drop_zero, Nat.sub_zero, List.dropLast_eq_take]
  have e : HT.sIx xs.length xs.length (some (-(1 : Int))) = (-(1 : Int) + (xs.length : Int)).toNat := rfl
  rw [e]
  congr 1
  omega
theorem mem_irange {x a b : Int} : x ∈ irange a b ↔ a ≤ x ∧ x < b := by
  unfold irange
  rw [List.mem_map]
  constructor
  · rintro ⟨k, hk, rfl⟩
    rw [List.mem_range] at hk
    omega
  · intro h
    exact ⟨(x - a).toNat, List.mem_range.mpr (by omega), by omega⟩
section
variable {κ β : Type} [DecidableEq κ]
theorem getD_pos {p : κ × β} {r : List (κ × β)} {k : κ} (e : p.1 = k) : getD (p :: r) k = some p.2 := by simp [getD, List.find?_cons, e]
theorem getD_neg {p : κ × β} {r : List (κ × β)} {k : κ} (e : ¬ p.1 = k) : getD (p :: r) k = getD r k := by simp [getD, List.find?_cons, e]
theorem getD_map (k j : κ) (y : β) : ∀ kvs : List (κ × β), getD (kvs.map fun kv => if kv.1 = k then (kv.1, y) else kv) j = (getD kvs j).map fun x => if j = k then y else x
  | [] => rfl
  | p :: r => by
    rw [List.map_cons]
    have ih := getD_map k j y r
    by_cases a : p.1 = k
    · rw [if_pos a]
      by_cases b : p.1 = j
      · rw [getD_pos (p := (p.1, y)) b, getD_pos b, Option.map_some, if_pos (b.symm.trans a)]
      · rw [getD_neg (p := (p.1, y)) b, getD_neg b, ih]
    · rw [if_neg a]
      by_cases b : p.1 = j
      · rw [getD_pos b, getD_pos b, Option.map_some, if_neg (fun z => a (b.trans z))]
      · rw [getD_neg b, getD_neg b, ih]
theorem getD_snoc (k j : κ) (y : β) : ∀ kvs : List (κ × β), getD kvs k = none → getD (kvs ++ [(k, y)]) j = if j = k then some y else getD kvs j
  | [], _ => by
    by_cases e : k = j
    · rw [List.nil_append, getD_pos (p := (k, y)) e, if_pos e.symm]
    · rw [List.nil_append, getD_neg (p := (k, y)) e, if_neg (Ne.symm e)]
  | p :: r, h => by
    have hk : ¬ p.1 = k := fun e => by rw [getD_pos e] at h; cases h
    rw [getD_neg hk] at h
    have ih := getD_snoc k j y r h
    rw [List.cons_append]
    by_cases e : p.1 = j
    · rw [getD_pos e, getD_pos e, if_neg (fun z => hk (e.trans z))]
    · rw [getD_neg e, getD_neg e, ih]
theorem getD_put (kvs : List (κ × β)) (k j : κ) (y : β) : getD (putD kvs k y) j = if j = k then some y else getD kvs j := by
  unfold putD
  by_cases a : (getD kvs k).isSome = true
  · rw [if_pos a, getD_map]
    by_cases e : j = k
    · obtain ⟨x, hx⟩ := Option.isSome_iff_exists.mp a
      rw [if_pos e, e, hx, Option.map_some, if_pos rfl]
    · rw [if_neg e]
      cases getD kvs j with
      | none => rfl
      | some x => rw [Option.map_some, if_neg e]
  · rw [if_neg a]
    refine getD_snoc k j y kvs ?_
    cases q : getD kvs k with
    | none => rfl
    | some x => rw [q] at a; exact (a rfl).elim
theorem len_put (kvs : List (κ × β)) (k : κ) (y : β) : (putD kvs k y).length ≤ kvs.length + 1 := by
  unfold putD
  split
  · rw [List.length_map]; omega
  · rw [List.length_append, List.length_cons, List.length_nil]; omega
theorem putO_ok {d : Dc κ β} {k : κ} {y : β} (h : d.l.length < 1000000) : putO d k y = some ⟨putD d.l k y⟩ := if_pos h
end
theorem forC_any {β R : Type} {f : β → Unit → Option (Ctl Unit R)} {r : R} (p : β → Bool) : ∀ {xs : List β}, (∀ x ∈ xs, f x () = some (if p x = true then .rt r else .nx ())) → forC f xs () = some (if xs.any p = true then .rt r else .nx ())
  | [], _ => rfl
  | x :: xs, h => by
    have hx := h x List.mem_cons_self
    cases e : p x with
    | true =>
      rw [e] at hx
      show ((f x ()).bind _) = _
      rw [hx, List.any_cons, e]
      rfl
    | false =>
      rw [e] at hx
      rw [forC_cons (s' := ()) hx, forC_any p fun y hy => h y (List.mem_cons_of_mem _ hy), List.any_cons, e]
      rfl
end Wk
set_option synthInstance.maxHeartbeats 4000000
set_option synthInstance.maxSize 20000
namespace Wk68
open PySem L2 Wk
theorem cell_at {ns : List Int} (k : Int) (h0 : 0 ≤ k) : ∃ c, m__law_cell_at (Fz.mk ns) k = some c := by
  unfold m__law_cell_at
  by_cases h : k < (ns.length : Int)
  · obtain ⟨x, e, _⟩ := atI_some (xs := ns) h0 h
    exact ⟨x, by rw [if_pos (decide_eq_true h), e]; rfl⟩
  · exact ⟨0, by rw [if_neg (by simpa using h)]⟩
theorem numbers_ok (cell many : Int) (h0 : 0 ≤ many) (hm : many ≤ 1000) : ∃ f, m__law_numbers cell many = some f ∧ f.length = many.toNat := by
  unfold m__law_numbers
  simp only [bs]
  obtain ⟨⟨n1, f1⟩, e1, i1, _⟩ := whileF_inv (c := m__law_numbers_L1_c cell many) (f := m__law_numbers_L1 cell many) (fun s => (s.2.length : Int) ≤ many) (fun s => many.toNat - s.2.length) (fun s hs => by
    obtain ⟨n, f⟩ := s
    have hs : (f.length : Int) ≤ many := hs
    refine ⟨_, rfl, fun hb => ?_⟩
    simp only [Bool.and_eq_true, decide_eq_true_eq] at hb
    refine ⟨(n / 10000000, f ++ [n % 10000000]), ?_, ?_, ?_⟩
    · unfold m__law_numbers_L1
      simp only [appO_ok (show f.length < 1000000 by omega), bs]
    · simp; omega
    · simp; omega) (s := (cell / 2, [])) (by simpa using h0)
  rw [e1]
  simp only [bs]
  obtain ⟨⟨n2, f2⟩, e2, i2, h2⟩ := whileF_inv (c := m__law_numbers_L2_c many) (f := m__law_numbers_L2 many) (fun s => (s.2.length : Int) ≤ many) (fun s => many.toNat - s.2.length) (fun s hs => by
    obtain ⟨n, f⟩ := s
    have hs : (f.length : Int) ≤ many := hs
    refine ⟨_, rfl, fun hb => ?_⟩
    simp only [decide_eq_true_eq] at hb
    refine ⟨(((n + (f.length : Int) + 1) * 48271 % 2147483647), f ++ [((n + (f.length : Int) + 1) * 48271 % 2147483647) * 69621 % 2147483629]), ?_, ?_, ?_⟩
    · unfold m__law_numbers_L2
      simp only [appO_ok (show f.length < 1000000 by omega), bs]
    · simp; omega
    · simp; omega) (s := (cell % 2147483647, f1)) i1
  rw [e2]
  simp only [bs]
  have h2 : decide ((f2.length : Int) < many) = false := Option.some.inj h2
  simp only [decide_eq_false_iff_not] at h2
  have i2 : (f2.length : Int) ≤ many := i2
  exact ⟨f2, rfl, by omega⟩
/-! names that differ at one place -/
def alpha : Str := "abcdefghijklmnopqrstuvwxyz"
theorem alpha_at : ∀ i : Fin 26, alpha.cps[i.val]? = some (97 + i.val) := by decide +kernel
theorem alpha_size : alpha.cps.size = 26 := by decide +kernel
theorem letter (i : Int) : ixS alpha (i % 26) = some ⟨#[97 + (i % 26).toNat]⟩ := by
  have h1 : 0 ≤ i % 26 := by omega
  have h2 : i % 26 < 26 := by omega
  have hl : alpha.length = 26 := alpha_size
  unfold ixS
  rw [if_pos (by rw [hl]; omega), atI_ok h1 (by rw [Array.length_toList, alpha_size]; omega)]
  have e : alpha.cps.toList[(i % 26).toNat]? = some (97 + (i % 26).toNat) := by
    rw [Array.getElem?_toList]
    exact alpha_at ⟨(i % 26).toNat, by omega⟩
  rw [e]
  rfl
structure NmOk (some_ : List Int) (at_ turn : Int) (j : Nat) (n : Str) : Prop where
  size : n.cps.size = j
  at_ : ∀ (i : Nat) (s : Int), i < j → some_[i]? = some s → n.cps[i]? = some (97 + ((s + turn * (if (decide ((i : Int) = at_)) = true then (1 : Int) else 0)) % 26).toNat)
  ok : PyData.strOk n = true
theorem name_ok (some_ : List Int) (at_ turn size : Int) (hs : some_.length = 10) (h0 : 0 ≤ size) (h1 : size ≤ 8) (ht0 : 0 ≤ turn) (ht1 : turn < 1000) :
    ∃ n, forS (m__law_names_L2 some_ at_ turn) (irange 0 size) ("" : Str) = some n ∧ NmOk some_ at_ turn size.toNat n := by
  obtain ⟨n, e, h⟩ := forS_ix (f := m__law_names_L2 some_ at_ turn) (xs := irange 0 size) (fun j n => NmOk some_ at_ turn j n) (s := ("" : Str)) ⟨rfl, fun i s hi => absurd hi (Nat.not_lt_zero _), by decide +kernel⟩ (fun j hj n hn => by
    rw [irange_len] at hj
    have ej : (irange 0 size)[j]'(by rw [irange_len]; exact hj) = (j : Int) := by simp [irange]
    rw [ej]
    obtain ⟨s, e1, e2⟩ := atI_some (xs := some_) (i := (j : Int)) (by omega) (by omega)
    rw [show ((j : Int)).toNat = j from rfl] at e2
    have hsz : n.length = j := hn.size
    have e3 : ixS ("abcdefghijklmnopqrstuvwxyz" : Str) ((s + turn * (if (decide ((j : Int) = at_)) = true then (1 : Int) else 0)) % 26) = _ := letter _
    generalize hk : 97 + ((s + turn * (if (decide ((j : Int) = at_)) = true then (1 : Int) else 0)) % 26).toNat = k at e3
    have hk2 : k < 200 := by omega
    refine ⟨n ++ ⟨#[k]⟩, ?_, ?_, ?_, ?_⟩
    · unfold m__law_names_L2
      rw [mulO_ok (by omega) (by omega)]
      simp only [bs, e1, e3]
      have : addS n ⟨#[k]⟩ = some (n ++ ⟨#[k]⟩) := if_pos (by
        show n.length + 1 ≤ 1000000
        omega)
      rw [this]
      rfl
    · show (n.cps ++ #[k]).size = _
      rw [Array.size_append, hn.size]
      rfl
    · intro i s' hi hs'
      show (n.cps ++ #[k])[i]? = _
      by_cases hij : i < j
      · rw [Array.getElem?_append_left (by rw [hn.size]; exact hij)]
        exact hn.at_ i s' hij hs'
      · have : i = j := by omega
        subst this
        rw [e2] at hs'
        cases hs'
        rw [Array.getElem?_append_right (by rw [hn.size]; exact Nat.le_refl _), hn.size, Nat.sub_self, hk]
        rfl
    · refine ok_app hn.ok ?_
      show (#[k] : Array Nat).all _ = true
      have : ∀ k : Fin 200, PyData.strOk ⟨#[k.val]⟩ = true := by decide +kernel
      exact this ⟨k, hk2⟩)
  rw [irange_len, Int.sub_zero] at h
  exact ⟨n, e, h⟩
theorem names_ok (cell many : Int) (h0 : 0 ≤ many) (hm : many ≤ 26) : ∃ ns, m__law_names cell many = some ns ∧ ns.length = many.toNat ∧ ns.Nodup ∧ ∀ n ∈ ns, n ≠ "" ∧ PyData.strOk n = true := by
  obtain ⟨l, e0, hl⟩ := numbers_ok cell 10 (by omega) (by omega)
  obtain ⟨s8, e8, _⟩ := atI_some (xs := l) (i := 8) (by omega) (by omega)
  obtain ⟨s9, e9, _⟩ := atI_some (xs := l) (i := 9) (by omega) (by omega)
  unfold m__law_names
  simp only [e0, e8, e9, bs]
  rw [modO_ok (by omega), rngO_ok (by omega) (by omega) (by omega) (by omega)]
  simp only [bs]
  generalize hz : 1 + s8 % 8 = size
  have z1 : 1 ≤ size := by omega
  have z2 : size ≤ 8 := by omega
  have a1 := Int.emod_nonneg s9 (show size ≠ 0 by omega)
  have a2 := Int.emod_lt_of_pos s9 (show 0 < size by omega)
  generalize s9 % size = at_ at a1 a2
  obtain ⟨p, ep⟩ : ∃ p : Nat, at_ = p := ⟨at_.toNat, by omega⟩
  subst ep
  obtain ⟨sp, esp⟩ : ∃ sp, l[p]? = some sp := ⟨_, List.getElem?_eq_getElem (show p < l.length by omega)⟩
  obtain ⟨ns, e, h1, h2⟩ := forS_ix (f := m__law_names_L1 l size p) (xs := irange 0 many) (fun (j : Nat) (ns : List Str) => ns.length = j ∧ ∀ (i : Nat) (n : Str), ns[i]? = some n → NmOk l (p : Int) (i : Int) size.toNat n) (s := []) ⟨rfl, fun i n h => by simp at h⟩ (fun j hj ns hn => by
    rw [irange_len] at hj
    have ej : (irange 0 many)[j]'(by rw [irange_len]; exact hj) = (j : Int) := by simp [irange]
    rw [ej]
    obtain ⟨n, en, hn'⟩ := name_ok l p j size (by omega) (by omega) (by omega) (by omega) (by omega)
    refine ⟨ns ++ [n], ?_, by rw [List.length_append, hn.1]; rfl, fun i m hi => ?_⟩
    · unfold m__law_names_L1
      rw [rngO_ok (by omega) (by omega) (by omega) (by omega)]
      simp only [bs]
      rw [en, bs, appO_ok (show ns.length < 1000000 by omega)]
      rfl
    · by_cases hij : i < j
      · rw [List.getElem?_append_left (by omega)] at hi
        exact hn.2 i m hi
      · rw [List.getElem?_append_right (by omega)] at hi
        have : i = j := by
          cases q : i - ns.length with
          | zero => omega
          | succ k => rw [q] at hi; simp at hi
        subst this
        rw [hn.1, Nat.sub_self] at hi
        cases hi
        exact hn')
  rw [e, bs]
  rw [irange_len, Int.sub_zero] at h1
  refine ⟨ns, rfl, h1, ?_, fun n hn => ?_⟩
  · show List.Pairwise (· ≠ ·) ns
    rw [List.pairwise_iff_getElem]
    intro i j hi hj hij heq
    have ea : ns[i]? = some ns[i] := List.getElem?_eq_getElem hi
    have eb : ns[j]? = some ns[i] := by rw [heq]; exact List.getElem?_eq_getElem hj
    have q1 := (h2 i _ ea).at_ p sp (by omega) esp
    have q2 := (h2 j _ eb).at_ p sp (by omega) esp
    rw [q1] at q2
    simp at q2
    omega
  · obtain ⟨i, hi⟩ := List.getElem?_of_mem hn
    have q := h2 i n hi
    refine ⟨fun z => ?_, q.ok⟩
    have := q.size
    rw [z] at this
    have : size.toNat = 0 := this.symm
    omega
/-! floats: where they stand -/
abbrev Th := Str × Int × Int × Int × Int × Unit
abbrev Ft := Str × Str × Int × Int × Unit
abbrev Ed := Int × Str × Unit
abbrev Tr := Int × Str × Str × Unit
abbrev Z := Ft × Th
def tend (t : Th) : Int := t.2.2.1 + t.2.2.2.2.1
def tch (t : Th) (r h : Int) : Bool := decide (t.2.2.1 < r + h) && decide (r < tend t)
def stepL (r h : Int) (a : Ed) (t : Th) : Ed := if (tch t r h && decide (a.1 < t.2.1 + t.2.2.2.1)) = true then (t.2.1 + t.2.2.2.1, t.1, ()) else a
def stepR (r h : Int) (a : Ed) (t : Th) : Ed := if (tch t r h && decide (t.2.1 < a.1)) = true then (t.2.1, t.1, ()) else a
def eL (ls : List Th) (r h : Int) : Ed := ls.foldl (stepL r h) ((0 : Int), ("" : Str), ())
def eR (W : Int) (rs : List Th) (r h : Int) : Ed := rs.foldl (stepR r h) ((W : Int), ("" : Str), ())
theorem edges_eq (W : Int) (ls rs : List Th) (r h : Int) : m_edges W ls rs r h = some (eL ls r h, eR W rs r h, ()) := by
  unfold m_edges
  simp only [bs]
  have e1 : forS (m_edges_L1 r h) ls ((0 : Int), ("" : Str), ()) = some (eL ls r h) := forS_fold (stepL r h) (fun _ _ => True) trivial fun t rest a _ => ⟨by
    unfold m_edges_L1 m_touches stepL tch tend
    simp only [bs]
    split <;> rfl, trivial⟩
  have e2 : forS (m_edges_L2 r h) rs (W, ("" : Str), ()) = some (eR W rs r h) := forS_fold (stepR r h) (fun _ _ => True) trivial fun t rest a _ => ⟨by
    unfold m_edges_L2 m_touches stepR tch tend
    simp only [bs]
    split <;> rfl, trivial⟩
  rw [e1, bs, e2, bs]
theorem foldL_spec (r h : Int) : ∀ (ls : List Th) (a : Ed), a.1 ≤ (ls.foldl (stepL r h) a).1 ∧ (∀ t ∈ ls, tch t r h = true → t.2.1 + t.2.2.2.1 ≤ (ls.foldl (stepL r h) a).1) ∧ (ls.foldl (stepL r h) a = a ∨ ∃ t ∈ ls, tch t r h = true ∧ ls.foldl (stepL r h) a = (t.2.1 + t.2.2.2.1, t.1, ()))
  | [], a => ⟨Int.le_refl _, (fun _ h => nomatch h), .inl rfl⟩
  | u :: ls, a => by
    obtain ⟨h1, h2, h3⟩ := foldL_spec r h ls (stepL r h a u)
    rw [List.foldl_cons]
    generalize hb : stepL r h a u = b at h1 h2 h3
    generalize ls.foldl (stepL r h) b = c at h1 h2 h3
    have hab : a.1 ≤ b.1 ∧ (tch u r h = true → u.2.1 + u.2.2.2.1 ≤ b.1) ∧ (b = a ∨ (tch u r h = true ∧ b = (u.2.1 + u.2.2.2.1, u.1, ()))) := by
      unfold stepL at hb
      split at hb
      · rename_i q
        rw [Bool.and_eq_true, decide_eq_true_eq] at q
        subst hb
        exact ⟨by show a.1 ≤ u.2.1 + u.2.2.2.1; omega, fun _ => Int.le_refl _, .inr ⟨q.1, rfl⟩⟩
      · rename_i q
        subst hb
        refine ⟨Int.le_refl _, fun ht => ?_, .inl rfl⟩
        rw [ht, Bool.true_and, decide_eq_true_eq] at q
        omega
    refine ⟨by omega, fun t ht hc => ?_, ?_⟩
    · rcases List.mem_cons.mp ht with rfl | ht
      · have := hab.2.1 hc
        omega
      · exact h2 t ht hc
    · rcases h3 with h3 | ⟨t, ht, h3⟩
      · rcases hab.2.2 with q | ⟨q1, q2⟩
        · exact .inl (h3.trans q)
        · exact .inr ⟨u, List.mem_cons_self, q1, h3.trans q2⟩
      · exact .inr ⟨t, List.mem_cons_of_mem _ ht, h3⟩
theorem foldR_spec (r h : Int) : ∀ (rs : List Th) (a : Ed), (rs.foldl (stepR r h) a).1 ≤ a.1 ∧ (∀ t ∈ rs, tch t r h = true → (rs.foldl (stepR r h) a).1 ≤ t.2.1) ∧ (rs.foldl (stepR r h) a = a ∨ ∃ t ∈ rs, tch t r h = true ∧ rs.foldl (stepR r h) a = (t.2.1, t.1, ()))
  | [], a => ⟨Int.le_refl _, (fun _ h => nomatch h), .inl rfl⟩
  | u :: rs, a => by
    obtain ⟨h1, h2, h3⟩ := foldR_spec r h rs (stepR r h a u)
    rw [List.foldl_cons]
    generalize hb : stepR r h a u = b at h1 h2 h3
    generalize rs.foldl (stepR r h) b = c at h1 h2 h3
    have hab : b.1 ≤ a.1 ∧ (tch u r h = true → b.1 ≤ u.2.1) ∧ (b = a ∨ (tch u r h = true ∧ b = (u.2.1, u.1, ()))) := by
      unfold stepR at hb
      split at hb
      · rename_i q
        rw [Bool.and_eq_true, decide_eq_true_eq] at q
        subst hb
        exact ⟨by show u.2.1 ≤ a.1; omega, fun _ => Int.le_refl _, .inr ⟨q.1, rfl⟩⟩
      · rename_i q
        subst hb
        refine ⟨Int.le_refl _, fun ht => ?_, .inl rfl⟩
        rw [ht, Bool.true_and, decide_eq_true_eq] at q
        omega
    refine ⟨by omega, fun t ht hc => ?_, ?_⟩
    · rcases List.mem_cons.mp ht with rfl | ht
      · have := hab.2.1 hc
        omega
      · exact h2 t ht hc
    · rcases h3 with h3 | ⟨t, ht, h3⟩
      · rcases hab.2.2 with q | ⟨q1, q2⟩
        · exact .inl (h3.trans q)
        · exact .inr ⟨u, List.mem_cons_self, q1, h3.trans q2⟩
      · exact .inr ⟨t, List.mem_cons_of_mem _ ht, h3⟩
def LE (ls : List Th) (r h : Int) : Int := (eL ls r h).1
def RE (W : Int) (rs : List Th) (r h : Int) : Int := (eR W rs r h).1
theorem LE_nn (ls : List Th) (r h : Int) : 0 ≤ LE ls r h := (foldL_spec r h ls ((0 : Int), ("" : Str), ())).1
theorem LE_ge {ls : List Th} {r h : Int} {t : Th} (ht : t ∈ ls) (hc : tch t r h = true) : t.2.1 + t.2.2.2.1 ≤ LE ls r h := (foldL_spec r h ls ((0 : Int), ("" : Str), ())).2.1 t ht hc
theorem eL_is (ls : List Th) (r h : Int) : eL ls r h = ((0 : Int), ("" : Str), ()) ∨ ∃ t ∈ ls, tch t r h = true ∧ eL ls r h = (t.2.1 + t.2.2.2.1, t.1, ()) := (foldL_spec r h ls ((0 : Int), ("" : Str), ())).2.2
theorem RE_le (W : Int) (rs : List Th) (r h : Int) : RE W rs r h ≤ W := (foldR_spec r h rs ((W : Int), ("" : Str), ())).1
theorem RE_ge {W : Int} {rs : List Th} {r h : Int} {t : Th} (ht : t ∈ rs) (hc : tch t r h = true) : RE W rs r h ≤ t.2.1 := (foldR_spec r h rs ((W : Int), ("" : Str), ())).2.1 t ht hc
theorem eR_is (W : Int) (rs : List Th) (r h : Int) : eR W rs r h = ((W : Int), ("" : Str), ()) ∨ ∃ t ∈ rs, tch t r h = true ∧ eR W rs r h = (t.2.1, t.1, ()) := (foldR_spec r h rs ((W : Int), ("" : Str), ())).2.2
/-- what a triple shows -/
structure Bar (W wide high : Int) (ls rs : List Th) (b : Int) (q : Tr) : Prop where
  up : b < q.1
  two : ∃ x y, ((q.2.1 = "" ∧ x = 0) ∨ ∃ t ∈ ls, t.1 = q.2.1 ∧ x = t.2.1 + t.2.2.2.1 ∧ tch t b high = true ∧ q.1 ≤ tend t) ∧ ((q.2.2.1 = "" ∧ y = W) ∨ ∃ t ∈ rs, t.1 = q.2.2.1 ∧ y = t.2.1 ∧ tch t b high = true ∧ q.1 ≤ tend t) ∧ y - x < wide
inductive PW (W wide high : Int) (ls rs : List Th) (a : Int) : List Tr → Int → Prop
  | nil : PW W wide high ls rs a [] a
  | snoc {ps : List Tr} {b : Int} {q : Tr} : PW W wide high ls rs a ps b → Bar W wide high ls rs b q → PW W wide high ls rs a (ps ++ [q]) q.1
theorem filter_lt {α : Type} (p q : α → Bool) : ∀ {xs : List α}, (∀ x ∈ xs, q x = true → p x = true) → (∃ x ∈ xs, p x = true ∧ q x = false) → (xs.filter q).length < (xs.filter p).length
  | [], _, ⟨x, hx, _⟩ => nomatch hx
  | y :: ys, h, ⟨x, hx, h1, h2⟩ => by
    have le : (ys.filter q).length ≤ (ys.filter p).length := by
      have h' : ∀ x ∈ ys, q x = true → p x = true := fun z hz => h z (List.mem_cons_of_mem _ hz)
      clear h hx h1 h2
      induction ys with
      | nil => exact Nat.le_refl _
      | cons z zs ih =>
        have ih := ih fun w hw => h' w (List.mem_cons_of_mem _ hw)
        have hz := h' z List.mem_cons_self
        cases e : q z with
        | true => rw [List.filter_cons_of_pos e, List.filter_cons_of_pos (hz e), List.length_cons, List.length_cons]; omega
        | false =>
          rw [List.filter_cons_of_neg (by rw [e]; exact Bool.false_ne_true)]
          cases e2 : p z with
          | true => rw [List.filter_cons_of_pos e2, List.length_cons]; omega
          | false => rw [List.filter_cons_of_neg (by rw [e2]; exact Bool.false_ne_true)]; exact ih
    rcases List.mem_cons.mp hx with rfl | hx
    · rw [List.filter_cons_of_pos h1, List.filter_cons_of_neg (by rw [h2]; exact Bool.false_ne_true), List.length_cons]
      omega
    · have ih := filter_lt p q (xs := ys) (fun z hz => h z (List.mem_cons_of_mem _ hz)) ⟨x, hx, h1, h2⟩
      have hy := h y List.mem_cons_self
      cases e : q y with
      | true => rw [List.filter_cons_of_pos e, List.filter_cons_of_pos (hy e), List.length_cons, List.length_cons]; omega
      | false =>
        rw [List.filter_cons_of_neg (by rw [e]; exact Bool.false_ne_true)]
        cases e2 : p y with
        | true => rw [List.filter_cons_of_pos e2, List.length_cons]; omega
        | false => rw [List.filter_cons_of_neg (by rw [e2]; exact Bool.false_ne_true)]; exact ih
def cnt (sd : List Th) (r : Int) : Nat := (sd.filter fun t => decide (r < tend t)).length
structure WI (W wide high base : Int) (sd rs ls : List Th) (s : Int × Ed × Ed × List Tr) : Prop where
  lo : base ≤ s.1
  l : s.2.1 = eL ls s.1 high
  r : s.2.2.1 = eR W rs s.1 high
  no : ∀ r, base ≤ r → r < s.1 → RE W rs r high - LE ls r high < wide
  len : s.2.2.2.length + cnt sd s.1 ≤ sd.length
  pap : PW W wide high ls rs base s.2.2.2 s.1
theorem place_ok {W wide high base : Int} {sd rs ls : List Th} (hn : ∀ t ∈ sd, ∀ u ∈ sd, t.1 = u.1 → t = u) (he : ∀ t ∈ sd, t.1 ≠ ("" : Str)) (hl : ∀ t ∈ ls, t ∈ sd) (hr : ∀ t ∈ rs, t ∈ sd) (hw : wide ≤ W) (hs : sd.length < 1000) :
    ∃ row paper, whileF (m_stand_floats_L3_c W wide high sd rs ls) (m_stand_floats_L3 W wide high sd rs ls) (base, eL ls base high, eR W rs base high, []) = some (row, eL ls row high, eR W rs row high, paper) ∧
      WI W wide high base sd rs ls (row, eL ls row high, eR W rs row high, paper) ∧ wide ≤ RE W rs row high - LE ls row high := by
  obtain ⟨⟨row, L, R, paper⟩, e, hi, hc⟩ := whileF_inv (c := m_stand_floats_L3_c W wide high sd rs ls) (f := m_stand_floats_L3 W wide high sd rs ls) (WI W wide high base sd rs ls) (fun s => cnt sd s.1) (fun s hi => by
    obtain ⟨row, L, R, paper⟩ := s
    have hL : L = eL ls row high := hi.l
    have hR : R = eR W rs row high := hi.r
    refine ⟨_, rfl, fun hb => ?_⟩
    simp only [decide_eq_true_eq] at hb
    have hb : R.1 - L.1 < wide := hb
    have tl := eL_is ls row high
    have tr := eR_is W rs row high
    rw [← hL] at tl
    rw [← hR] at tr
    -- those named touch
    have nmL : ∀ u ∈ sd, u.1 = L.2.1 → tch u row high = true := by
      intro u hu q
      rcases tl with z | ⟨t, ht, hc, z⟩
      · rw [z] at q
        exact absurd q (he u hu)
      · rw [z] at q
        rw [hn u hu t (hl t ht) q]
        exact hc
    have nmR : ∀ u ∈ sd, u.1 = R.2.1 → tch u row high = true := by
      intro u hu q
      rcases tr with z | ⟨t, ht, hc, z⟩
      · rw [z] at q
        exact absurd q (he u hu)
      · rw [z] at q
        rw [hn u hu t (hr t ht) q]
        exact hc
    have some_one : ∃ u ∈ sd, (decide (u.1 = L.2.1) || decide (u.1 = R.2.1)) = true := by
      rcases tl with z | ⟨t, ht, hc, z⟩
      · rcases tr with z2 | ⟨t, ht, hc, z2⟩
        · rw [z, z2] at hb
          simp at hb
          omega
        · exact ⟨t, hr t ht, by rw [z2]; simp⟩
      · exact ⟨t, hl t ht, by rw [z]; simp⟩
    have fe : ∃ m, m_first_end sd L.2.1 R.2.1 = some m ∧ (∃ u ∈ sd, tend u = m ∧ tch u row high = true) ∧ ∀ u ∈ sd, (u.1 = L.2.1 ∨ u.1 = R.2.1) → m ≤ tend u := by
      unfold m_first_end
      have e := lcGo_if (c := fun u : Th => some (decide (u.1 = L.2.1) || decide (u.1 = R.2.1))) (f := fun u : Th => some (u.2.2.1 + u.2.2.2.2.1)) (fun u : Th => decide (u.1 = L.2.1) || decide (u.1 = R.2.1)) tend (xs := sd) (fun _ _ => rfl) (fun _ _ _ => rfl)
      rw [lcM_len (by omega), e]
      simp only [bs]
      generalize hz : (sd.filter fun u : Th => decide (u.1 = L.2.1) || decide (u.1 = R.2.1)).map tend = zs
      obtain ⟨u, hu, hq⟩ := some_one
      have hm : tend u ∈ zs := by
        rw [← hz]
        exact List.mem_map.mpr ⟨u, List.mem_filter.mpr ⟨hu, hq⟩, rfl⟩
      match zs, hm, hz with
      | y :: ys, hm, hz =>
        have hmin : minL (y :: ys) = some (minG y ys) := rfl
        obtain ⟨q1, q2⟩ := minL_spec hmin
        rw [hmin]
        refine ⟨minG y ys, rfl, ?_, fun v hv hq => q2 _ ?_⟩
        · rw [← hz] at q1
          obtain ⟨v, hv, q3⟩ := List.mem_map.mp q1
          obtain ⟨hv, q4⟩ := List.mem_filter.mp hv
          rw [Bool.or_eq_true, decide_eq_true_eq, decide_eq_true_eq] at q4
          refine ⟨v, hv, q3, ?_⟩
          rcases q4 with q4 | q4
          · exact nmL v hv q4
          · exact nmR v hv q4
        · rw [← hz]
          refine List.mem_map.mpr ⟨v, List.mem_filter.mpr ⟨hv, ?_⟩, rfl⟩
          rw [Bool.or_eq_true, decide_eq_true_eq, decide_eq_true_eq]
          exact hq
    obtain ⟨m, em, ⟨u, hu, um, uc⟩, hm⟩ := fe
    have hrm : row < m := by
      unfold tch at uc
      rw [Bool.and_eq_true, decide_eq_true_eq, decide_eq_true_eq] at uc
      omega
    have hlen := hi.len
    have hlen : paper.length + cnt sd row ≤ sd.length := hlen
    have hcm : cnt sd m < cnt sd row := filter_lt _ _ (fun t _ q => by
      rw [decide_eq_true_eq] at q ⊢
      omega) ⟨u, hu, decide_eq_true (by omega), decide_eq_false (by omega)⟩
    refine ⟨(m, eL ls m high, eR W rs m high, paper ++ [(m, L.2.1, R.2.1, ())]), ?_, ⟨?_, rfl, rfl, ?_, ?_, ?_⟩, hcm⟩
    · unfold m_stand_floats_L3
      simp only [bs, em, appO_ok (show paper.length < 1000000 by omega), edges_eq]
    · have := hi.lo
      have : base ≤ row := this
      show base ≤ m
      omega
    · intro r h1 h2
      have h2 : r < m := h2
      by_cases h3 : r < row
      · exact hi.no r h1 h3
      · have k1 : L.1 ≤ LE ls r high := by
          rcases tl with z | ⟨t, ht, hc, z⟩
          · rw [z]
            exact LE_nn _ _ _
          · rw [z]
            refine LE_ge ht ?_
            have := hm t (hl t ht) (.inl (by rw [z]))
            unfold tch at hc ⊢
            rw [Bool.and_eq_true, decide_eq_true_eq, decide_eq_true_eq] at hc ⊢
            omega
        have k2 : RE W rs r high ≤ R.1 := by
          rcases tr with z | ⟨t, ht, hc, z⟩
          · rw [z]
            exact RE_le _ _ _ _
          · rw [z]
            refine RE_ge ht ?_
            have := hm t (hr t ht) (.inr (by rw [z]))
            unfold tch at hc ⊢
            rw [Bool.and_eq_true, decide_eq_true_eq, decide_eq_true_eq] at hc ⊢
            omega
        omega
    · show (paper ++ [_]).length + cnt sd m ≤ _
      rw [List.length_append, List.length_singleton]
      omega
    · refine PW.snoc (q := (m, L.2.1, R.2.1, ())) hi.pap ⟨hrm, L.1, R.1, ?_, ?_, hb⟩
      · rcases tl with z | ⟨t, ht, hc, z⟩
        · exact .inl (by rw [z]; exact ⟨rfl, rfl⟩)
        · exact .inr ⟨t, ht, by rw [z], by rw [z], hc, hm t (hl t ht) (.inl (by rw [z]))⟩
      · rcases tr with z | ⟨t, ht, hc, z⟩
        · exact .inl (by rw [z]; exact ⟨rfl, rfl⟩)
        · exact .inr ⟨t, ht, by rw [z], by rw [z], hc, hm t (hr t ht) (.inr (by rw [z]))⟩) (s := (base, eL ls base high, eR W rs base high, [])) ⟨Int.le_refl _, rfl, rfl, fun r h1 h2 => absurd h2 (by show ¬ r < base; omega), by
      show 0 + cnt sd base ≤ _
      have := List.length_filter_le (fun t => decide (base < tend t)) sd
      unfold cnt
      omega, PW.nil⟩
  have hL : L = eL ls row high := hi.l
  have hR : R = eR W rs row high := hi.r
  subst hL hR
  refine ⟨row, paper, e, hi, ?_⟩
  have hc : decide (RE W rs row high - LE ls row high < wide) = false := Option.some.inj hc
  rw [decide_eq_false_iff_not] at hc
  omega
/-! all of them -/
def ls (zs : List Z) : List Th := (zs.filter fun z => decide (z.1.2.1 = ("left" : Str))).map (·.2)
def rs (zs : List Z) : List Th := (zs.filter fun z => !decide (z.1.2.1 = ("left" : Str))).map (·.2)
def lastrow (zs : List Z) : Int := match zs.getLast? with | none => 0 | some z => z.2.2.2.1
theorem lastrow_snoc (zs : List Z) (z : Z) : lastrow (zs ++ [z]) = z.2.2.2.1 := by
  unfold lastrow
  rw [List.getLast?_append, List.getLast?_singleton]
  rfl
theorem ls_snoc (zs : List Z) (z : Z) : ls (zs ++ [z]) = if z.1.2.1 = ("left" : Str) then ls zs ++ [z.2] else ls zs := by
  unfold ls
  rw [List.filter_append, List.map_append]
  by_cases h : z.1.2.1 = ("left" : Str)
  · rw [if_pos h]; simp [h]
  · rw [if_neg h]; simp [h]
theorem rs_snoc (zs : List Z) (z : Z) : rs (zs ++ [z]) = if z.1.2.1 = ("left" : Str) then rs zs else rs zs ++ [z.2] := by
  unfold rs
  rw [List.filter_append, List.map_append]
  by_cases h : z.1.2.1 = ("left" : Str)
  · rw [if_pos h]; simp [h]
  · rw [if_neg h]; simp [h]
theorem ls_mem {zs : List Z} {t : Th} (h : t ∈ ls zs) : ∃ z ∈ zs, z.2 = t ∧ z.1.2.1 = ("left" : Str) := by
  obtain ⟨z, hz, e⟩ := List.mem_map.mp h
  obtain ⟨h1, h2⟩ := List.mem_filter.mp hz
  exact ⟨z, h1, e, of_decide_eq_true h2⟩
theorem rs_mem {zs : List Z} {t : Th} (h : t ∈ rs zs) : ∃ z ∈ zs, z.2 = t ∧ z.1.2.1 ≠ ("left" : Str) := by
  obtain ⟨z, hz, e⟩ := List.mem_map.mp h
  obtain ⟨h1, h2⟩ := List.mem_filter.mp hz
  exact ⟨z, h1, e, by simpa using h2⟩
theorem mem_ls {zs : List Z} {z : Z} (h : z ∈ zs) (hs : z.1.2.1 = ("left" : Str)) : z.2 ∈ ls zs := List.mem_map.mpr ⟨z, List.mem_filter.mpr ⟨h, decide_eq_true hs⟩, rfl⟩
theorem mem_rs {zs : List Z} {z : Z} (h : z ∈ zs) (hs : z.1.2.1 ≠ ("left" : Str)) : z.2 ∈ rs zs := List.mem_map.mpr ⟨z, List.mem_filter.mpr ⟨h, by simp [hs]⟩, rfl⟩
structure Nx (W : Int) (zs : List Z) (z : Z) : Prop where
  nm : z.2.1 = z.1.1
  w : z.2.2.2.2.1 = z.1.2.2.1
  h : z.2.2.2.2.2.1 = z.1.2.2.2.1
  row : lastrow zs ≤ z.2.2.2.1
  fit : z.1.2.2.1 ≤ RE W (rs zs) z.2.2.2.1 z.1.2.2.2.1 - LE (ls zs) z.2.2.2.1 z.1.2.2.2.1
  low : ∀ r, lastrow zs ≤ r → r < z.2.2.2.1 → RE W (rs zs) r z.1.2.2.2.1 - LE (ls zs) r z.1.2.2.2.1 < z.1.2.2.1
  x : z.2.2.1 = if z.1.2.1 = ("left" : Str) then LE (ls zs) z.2.2.2.1 z.1.2.2.2.1 else RE W (rs zs) z.2.2.2.1 z.1.2.2.2.1 - z.1.2.2.1
inductive Ch (W : Int) : List Z → Prop
  | nil : Ch W []
  | snoc {zs : List Z} {z : Z} : Ch W zs → Nx W zs z → Ch W (zs ++ [z])
theorem Ch.at {W : Int} {zs : List Z} (h : Ch W zs) : ∀ {i : Nat} {z : Z}, zs[i]? = some z → Nx W (zs.take i) z := by
  induction h with
  | nil => intro i z h; simp at h
  | @snoc zs y hc hn ih =>
    intro i z hi
    by_cases hl : i < zs.length
    · rw [List.getElem?_append_left hl] at hi
      rw [List.take_append_of_le_length (by omega)]
      exact ih hi
    · rw [List.getElem?_append_right (by omega)] at hi
      have : i = zs.length := by
        cases q : i - zs.length with
        | zero => omega
        | succ k => rw [q] at hi; simp at hi
      subst this
      rw [Nat.sub_self] at hi
      cases hi
      rw [List.take_left]
      exact hn
theorem Nx.one {W : Int} {zs : List Z} {f : Ft} {t u : Th} (a : Nx W zs (f, t)) (b : Nx W zs (f, u)) : t = u := by
  obtain ⟨n1, x1, y1, w1, h1, ⟨⟩⟩ := t
  obtain ⟨n2, x2, y2, w2, h2, ⟨⟩⟩ := u
  have e1 : n1 = n2 := a.nm.trans b.nm.symm
  have e2 : w1 = w2 := a.w.trans b.w.symm
  have e3 : h1 = h2 := a.h.trans b.h.symm
  have e4 : y1 = y2 := by
    have q1 : ¬ y1 < y2 := fun z => by
      have := b.low y1 a.row z
      have := a.fit
      simp only at *
      omega
    have q2 : ¬ y2 < y1 := fun z => by
      have := a.low y2 b.row z
      have := b.fit
      simp only at *
      omega
    omega
  subst e1 e2 e3 e4
  have e5 : x1 = x2 := a.x.trans b.x.symm
  subst e5
  rfl
theorem Ch.one {W : Int} {zs : List Z} (h : Ch W zs) : ∀ {ys : List Z}, Ch W ys → ys.map (·.1) = zs.map (·.1) → ys = zs := by
  induction h with
  | nil =>
    intro ys _ e
    exact List.map_eq_nil_iff.mp e
  | @snoc zs z hc hn ih =>
    intro ys hy e
    cases hy with
    | nil => simp at e
    | @snoc xs y hx hny =>
      rw [List.map_append, List.map_append] at e
      have e' := List.append_inj' e rfl
      have := ih hx e'.1
      subst this
      have ef : y.1 = z.1 := by simpa using e'.2
      obtain ⟨f, t⟩ := y
      obtain ⟨f2, u⟩ := z
      simp only at ef
      subst ef
      rw [Nx.one hny hn]
structure Pap (W : Int) (zs : List Z) (ps : List (List Tr)) : Prop where
  len : ps.length = zs.length
  at_ : ∀ (i : Nat) (z : Z) (p : List Tr), zs[i]? = some z → ps[i]? = some p → p.length ≤ zs.length ∧ PW W z.1.2.2.1 z.1.2.2.2.1 (ls (zs.take i)) (rs (zs.take i)) (lastrow (zs.take i)) p z.2.2.2.1
structure SI (W : Int) (fs : List Ft) (i : Nat) (s : Int × List (List Tr) × List Th × List Th × List Th) : Prop where
  ex : ∃ zs : List Z, zs.map (·.1) = fs.take i ∧ Ch W zs ∧ Pap W zs s.2.1 ∧ s.1 = lastrow zs ∧ s.2.2.1 = zs.map (·.2) ∧ s.2.2.2.1 = rs zs ∧ s.2.2.2.2 = ls zs
theorem stand_loop {W : Int} {fs : List Ft} (hf : ∀ f ∈ fs, f.2.2.1 ≤ W) (hnd : (fs.map (·.1)).Nodup) (hne : ∀ f ∈ fs, f.1 ≠ ("" : Str)) (hl : fs.length < 1000) :
    ∃ zs ps, forS (m_stand_floats_L2 W) fs (0, [], [], [], []) = some (lastrow zs, ps, zs.map (·.2), rs zs, ls zs) ∧ zs.map (·.1) = fs ∧ Ch W zs ∧ Pap W zs ps := by
  obtain ⟨s, e, ⟨zs, h1, h2, h3, h4, h5, h6, h7⟩⟩ := forS_ix (f := m_stand_floats_L2 W) (xs := fs) (SI W fs) (s := (0, [], [], [], [])) ⟨[], rfl, Ch.nil, ⟨rfl, fun i z p h => by simp at h⟩, rfl, rfl, rfl, rfl⟩ (fun i hi s hs => by
    obtain ⟨row, ps, sd, rr, ll⟩ := s
    obtain ⟨zs, h1, h2, h3, h4, h5, h6, h7⟩ := hs
    simp only at h1 h2 h3 h4 h5 h6 h7
    subst h4 h5 h6 h7
    have hzl : zs.length = i := by
      have := congrArg List.length h1
      rw [List.length_map, List.length_take] at this
      omega
    have hn : ∀ (j : Nat) (z : Z), zs[j]? = some z → z.2.1 = z.1.1 ∧ fs[j]? = some z.1 := by
      intro j z hz
      have hj : j < zs.length := (List.getElem?_eq_some_iff.mp hz).1
      refine ⟨(h2.at hz).nm, ?_⟩
      have : (fs.take i)[j]? = some z.1 := by rw [← h1, List.getElem?_map, hz]; rfl
      rwa [List.getElem?_take_of_lt (by omega)] at this
    generalize hfi : fs[i] = f
    have hfi' : fs[i]? = some f := by rw [← hfi]; exact List.getElem?_eq_getElem hi
    obtain ⟨name, side, wide, high, u⟩ := f
    have hfm : (name, side, wide, high, u) ∈ fs := List.mem_of_getElem? hfi'
    have dist : ∀ t ∈ zs.map (·.2), ∀ u ∈ zs.map (·.2), t.1 = u.1 → t = u := by
      intro t ht v hv q
      obtain ⟨z1, m1, rfl⟩ := List.mem_map.mp ht
      obtain ⟨z2, m2, rfl⟩ := List.mem_map.mp hv
      obtain ⟨j1, k1⟩ := List.getElem?_of_mem m1
      obtain ⟨j2, k2⟩ := List.getElem?_of_mem m2
      obtain ⟨a1, b1⟩ := hn j1 z1 k1
      obtain ⟨a2, b2⟩ := hn j2 z2 k2
      have l1 : j1 < (fs.map (·.1)).length := by rw [List.length_map]; exact (List.getElem?_eq_some_iff.mp b1).1
      have : j1 = j2 := by
        refine (List.getElem?_inj l1 hnd).mp ?_
        rw [List.getElem?_map, List.getElem?_map, b1, b2]
        show some z1.1.1 = some z2.1.1
        rw [← a1, ← a2]
        exact congrArg some q
      subst this
      rw [k1] at k2
      cases k2
      rfl
    have nemp : ∀ t ∈ zs.map (·.2), t.1 ≠ ("" : Str) := by
      intro t ht
      obtain ⟨z1, m1, rfl⟩ := List.mem_map.mp ht
      obtain ⟨j1, k1⟩ := List.getElem?_of_mem m1
      obtain ⟨a1, b1⟩ := hn j1 z1 k1
      rw [a1]
      exact hne _ (List.mem_of_getElem? b1)
    have hlm : ∀ t ∈ ls zs, t ∈ zs.map (·.2) := fun t ht => by
      obtain ⟨z, hz, e, _⟩ := ls_mem ht
      exact List.mem_map.mpr ⟨z, hz, e⟩
    have hrm : ∀ t ∈ rs zs, t ∈ zs.map (·.2) := fun t ht => by
      obtain ⟨z, hz, e, _⟩ := rs_mem ht
      exact List.mem_map.mpr ⟨z, hz, e⟩
    have hlls : (ls zs).length ≤ i := by
      unfold ls
      rw [List.length_map]
      exact Nat.le_trans (List.length_filter_le _ _) (by omega)
    have hlrs : (rs zs).length ≤ i := by
      unfold rs
      rw [List.length_map]
      exact Nat.le_trans (List.length_filter_le _ _) (by omega)
    obtain ⟨row, paper, ew, wi, fit⟩ := place_ok (W := W) (wide := wide) (high := high) (base := lastrow zs) dist nemp hlm hrm (hf _ hfm) (by rw [List.length_map]; omega)
    have hpl : paper.length ≤ zs.length := by
      have := wi.len
      rw [List.length_map] at this
      have : paper.length + cnt (zs.map (·.2)) row ≤ zs.length := this
      omega
    have hps : ps.length = i := by rw [h3.len, hzl]
    generalize ht : ((name, (if side = ("left" : Str) then LE (ls zs) row high else RE W (rs zs) row high - wide), row, wide, high, ()) : Th) = t
    have hnx : Nx W zs ((name, side, wide, high, u), t) := by
      subst ht
      exact ⟨rfl, rfl, rfl, wi.lo, fit, wi.no, rfl⟩
    refine ⟨(row, ps ++ [paper], zs.map (·.2) ++ [t], (if side = ("left" : Str) then rs zs else rs zs ++ [t]), (if side = ("left" : Str) then ls zs ++ [t] else ls zs)), ?_, ⟨zs ++ [((name, side, wide, high, u), t)], ?_, Ch.snoc h2 hnx, ⟨?_, ?_⟩, ?_, ?_, ?_, ?_⟩⟩
    · unfold m_stand_floats_L2
      simp only [bs, edges_eq, ew]
      by_cases hs : side = ("left" : Str)
      · rw [if_pos (decide_eq_true hs), if_pos hs, if_pos hs]
        rw [if_pos hs] at ht
        rw [← ht]
        simp only [bs, appO_ok (show (ls zs).length < 1000000 by omega)]
        rw [appO_ok (by rw [List.length_map]; omega), bs, appO_ok (by omega)]
        rfl
      · rw [if_neg (by simpa using hs), if_neg hs, if_neg hs]
        rw [if_neg hs] at ht
        rw [← ht]
        simp only [bs, appO_ok (show (rs zs).length < 1000000 by omega)]
        rw [appO_ok (by rw [List.length_map]; omega), bs, appO_ok (by omega)]
        rfl
    · rw [List.map_append, h1, List.take_succ, hfi']
      rfl
    · show (ps ++ [paper]).length = _
      rw [List.length_append, List.length_append, h3.len]
      rfl
    · intro j z p hz hp
      have hp : (ps ++ [paper])[j]? = some p := hp
      by_cases hj : j < zs.length
      · rw [List.getElem?_append_left hj] at hz
        rw [List.getElem?_append_left (by omega)] at hp
        rw [List.take_append_of_le_length (by omega)]
        obtain ⟨a, b⟩ := h3.at_ j z p hz hp
        exact ⟨by rw [List.length_append]; omega, b⟩
      · rw [List.getElem?_append_right (by omega)] at hz hp
        have : j = zs.length := by
          cases q : j - zs.length with
          | zero => omega
          | succ k => rw [q] at hz; simp at hz
        subst this
        rw [Nat.sub_self] at hz
        rw [hps, hzl, Nat.sub_self] at hp
        cases hz
        cases hp
        rw [List.take_left]
        subst ht
        exact ⟨by rw [List.length_append]; omega, wi.pap⟩
    · rw [lastrow_snoc]
      subst ht
      rfl
    · show _ = (zs ++ [_]).map _
      rw [List.map_append]
      rfl
    · show _ = rs (zs ++ [_])
      rw [rs_snoc]
    · show _ = ls (zs ++ [_])
      rw [ls_snoc])
  obtain ⟨row, ps, sd, rr, ll⟩ := s
  simp only at h3 h4 h5 h6 h7
  subst h4 h5 h6 h7
  rw [List.take_length] at h1
  exact ⟨zs, ps, e, h1, h2, h3⟩
theorem stand_ok {W : Int} {fs : List Ft} (hf : ∀ f ∈ fs, f.2.2.1 ≤ W) (hnd : (fs.map (·.1)).Nodup) (hne : ∀ f ∈ fs, f.1 ≠ ("" : Str)) (hl : fs.length < 1000) :
    ∃ zs ps, m_stand_floats W fs = some (zs.map (·.2), ps, ()) ∧ zs.map (·.1) = fs ∧ Ch W zs ∧ Pap W zs ps := by
  obtain ⟨zs, ps, e, h1, h2, h3⟩ := stand_loop hf hnd hne hl
  refine ⟨zs, ps, ?_, h1, h2, h3⟩
  unfold m_stand_floats
  have e1 : forS (m_stand_floats_L1 W) fs () = some () := by
    obtain ⟨s, q, _⟩ := forS_inv (f := m_stand_floats_L1 W) (fun r _ => ∀ f ∈ r, f ∈ fs) (xs := fs) (s := ()) (fun _ h => h) (fun f rest _ h => ⟨(), by
      have := hf f (h f List.mem_cons_self)
      unfold m_stand_floats_L1
      obtain ⟨a, b, c, d, u⟩ := f
      have : c ≤ W := this
      show (if decide (W < c) = true then none else some ()) = some ()
      rw [if_neg (by rw [decide_eq_true_eq]; omega)], fun g hg => h g (List.mem_cons_of_mem _ hg)⟩)
    exact q
  rw [e1]
  simp only [bs]
  rw [e]
  simp only [bs]
structure Stands (W : Int) (zs : List Z) (i : Nat) (z : Z) : Prop where
  x0 : 0 ≤ z.2.2.1
  x1 : z.2.2.1 + z.2.2.2.2.1 ≤ W
  y0 : i = 0 → z.2.2.2.1 = 0
  y1 : ∀ j u, j + 1 = i → zs[j]? = some u → u.2.2.2.1 ≤ z.2.2.2.1
  left : ∀ j u, j < i → zs[j]? = some u → u.1.2.1 = ("left" : Str) → tch u.2 z.2.2.2.1 z.2.2.2.2.2.1 = true → u.2.2.1 + u.2.2.2.2.1 ≤ z.2.2.1
  right : ∀ j u, j < i → zs[j]? = some u → u.1.2.1 ≠ ("left" : Str) → tch u.2 z.2.2.2.1 z.2.2.2.2.2.1 = true → z.2.2.1 + z.2.2.2.2.1 ≤ u.2.2.1
theorem take_mem {α : Type} {xs : List α} {i j : Nat} {x : α} (h : j < i) (e : xs[j]? = some x) : x ∈ xs.take i := List.mem_of_getElem? (i := j) (by rw [List.getElem?_take_of_lt h]; exact e)
theorem lastrow_take {zs : List Z} {j : Nat} {u : Z} (e : zs[j]? = some u) : lastrow (zs.take (j + 1)) = u.2.2.2.1 := by
  rw [List.take_succ, e]
  exact lastrow_snoc _ _
theorem Ch.stands {W : Int} {zs : List Z} (h : Ch W zs) {i : Nat} {z : Z} (hz : zs[i]? = some z) (hw : z.1.2.2.1 ≤ W) : Stands W zs i z := by
  have n := h.at hz
  obtain ⟨⟨fn, fs, fw, fh, fu⟩, ⟨tn, tx, ty, tw, th, tu⟩⟩ := z
  have e1 : tw = fw := n.w
  have e2 : th = fh := n.h
  subst e1 e2
  have hx : tx = if fs = ("left" : Str) then LE (ls (zs.take i)) ty th else RE W (rs (zs.take i)) ty th - tw := n.x
  have hf : tw ≤ RE W (rs (zs.take i)) ty th - LE (ls (zs.take i)) ty th := n.fit
  have hr := RE_le W (rs (zs.take i)) ty th
  have hl := LE_nn (ls (zs.take i)) ty th
  have bd : LE (ls (zs.take i)) ty th ≤ tx ∧ tx + tw ≤ RE W (rs (zs.take i)) ty th := by
    split at hx <;> omega
  refine ⟨by show 0 ≤ tx; omega, by show tx + tw ≤ W; omega, fun e => ?_, fun j u hj hu => ?_, fun j u hj hu hs hc => ?_, fun j u hj hu hs hc => ?_⟩
  · subst e
    have q := n.row
    have q : 0 ≤ ty := q
    show ty = 0
    have k : ¬ 0 < ty := fun z => by
      have := n.low 0 (Int.le_refl _) z
      have : W - 0 < tw := this
      have hw : tw ≤ W := hw
      omega
    omega
  · subst hj
    have q := n.row
    rw [lastrow_take hu] at q
    exact q
  · have := LE_ge (mem_ls (take_mem hj hu) hs) hc
    show _ ≤ tx
    exact Int.le_trans this bd.1
  · have := RE_ge (W := W) (mem_rs (take_mem hj hu) hs) hc
    show tx + tw ≤ _
    exact Int.le_trans bd.2 this
theorem map_take_nd {ns : List Str} {fs : List Ft} (hnd : ns.Nodup) (h : ∀ (j : Nat) (f : Ft), fs[j]? = some f → ns[j]? = some f.1) : (fs.map (·.1)).Nodup := by
  have e : fs.map (·.1) = ns.take fs.length := by
    refine List.ext_getElem? fun j => ?_
    by_cases hj : j < fs.length
    · have e1 : fs[j]? = some fs[j] := List.getElem?_eq_getElem hj
      rw [List.getElem?_map, e1, List.getElem?_take_of_lt hj, h j _ e1]
      rfl
    · rw [List.getElem?_eq_none (by rw [List.length_map]; omega), List.getElem?_eq_none (by rw [List.length_take]; omega)]
  rw [e]
  exact hnd.sublist (List.take_sublist _ _)
theorem cut_le {α : Type} (xs : List α) (a b : Nat) : (cut xs (some (a : Int)) (some (b : Int))).length ≤ b - a := by
  unfold cut
  rw [HT.sIx_nat, HT.sIx_nat, List.length_take]
  omega
structure FtOk (W : Int) (f : Ft) : Prop where
  side : f.2.1 = ("left" : Str) ∨ f.2.1 = ("right" : Str)
  w1 : f.2.2.1 ≤ W
  h1 : 1 ≤ f.2.2.2.1
theorem floats_ok {ns : List Str} {W : Int} (hW : 1 ≤ W) {cells : List Int} (hc : cells.length ≤ ns.length) (hl : ns.length < 1000) :
    ∃ fs, m__law_floats ns W cells = some fs ∧ fs.length = cells.length ∧ ∀ (j : Nat) (f : Ft), fs[j]? = some f → ns[j]? = some f.1 ∧ FtOk W f := by
  unfold m__law_floats
  simp only [bs]
  obtain ⟨fs, e, h1, h2⟩ := forS_ix (f := m__law_floats_L1 ns W) (xs := enumI cells) (fun i (fs : List Ft) => fs.length = i ∧ ∀ (j : Nat) (f : Ft), fs[j]? = some f → ns[j]? = some f.1 ∧ FtOk W f) (s := []) ⟨rfl, fun j f h => by simp at h⟩ (fun i hi fs hfs => by
    rw [enumI_len] at hi
    rw [enumI_at]
    obtain ⟨l, e0, hl4⟩ := numbers_ok cells[i] 4 (by omega) (by omega)
    match l, hl4 with
    | [a, b, c, d], _ =>
      obtain ⟨n, en, en2⟩ := atI_some (xs := ns) (i := (i : Int)) (by omega) (by omega)
      unfold m__law_floats_L1
      simp only [bs, e0, en, show atI [a, b, c, d] (0 : Int) = some a from rfl, show atI [a, b, c, d] (1 : Int) = some b from rfl, show atI [a, b, c, d] (2 : Int) = some c from rfl, show atI [a, b, c, d] (3 : Int) = some d from rfl]
      rw [pick2 _ _ (k := d % 3 / 2) (by omega) (by omega)]
      simp only [bs]
      rw [pick2 _ _ (k := a % 2) (by omega) (by omega), modO_ok (by omega)]
      simp only [bs]
      rw [appO_ok (by omega)]
      have q2 := Int.emod_lt_of_pos b (show 0 < W by omega)
      refine ⟨_, rfl, by rw [List.length_append, hfs.1]; rfl, fun j f hj => ?_⟩
      by_cases hij : j < i
      · rw [List.getElem?_append_left (by omega)] at hj
        exact hfs.2 j f hj
      · rw [List.getElem?_append_right (by omega)] at hj
        have : j = i := by
          cases q : j - fs.length with
          | zero => omega
          | succ k => rw [q] at hj; simp at hj
        subst this
        rw [hfs.1, Nat.sub_self] at hj
        cases hj
        refine ⟨en2, ?_, by show 1 + b % W ≤ W; omega, ?_⟩
        · show (if a % 2 = 0 then ("left" : Str) else ("right" : Str)) = _ ∨ _
          split
          · exact .inl rfl
          · exact .inr rfl
        · show 1 ≤ 1 + (if d % 3 / 2 = 0 then c % 9 else c % 1000000)
          split <;> omega)
  rw [e, bs]
  rw [enumI_len] at h1
  exact ⟨fs, rfl, h1, h2⟩
/-- names among those that stand -/
structure Nms (ts : List Th) : Prop where
  one : ∀ t ∈ ts, ∀ u ∈ ts, t.1 = u.1 → t = u
  ne : ∀ t ∈ ts, t.1 ≠ ("" : Str)
theorem edge_empty (ts : List Th) (d : Th) : m_edge_by ts ("" : Str) d = some (some d) := rfl
theorem edge_found {ts : List Th} (hn : Nms ts) {t : Th} (ht : t ∈ ts) (d : Th) : m_edge_by ts t.1 d = some (some t) := by
  unfold m_edge_by
  rw [if_neg (by rw [decide_eq_true_eq]; exact hn.ne t ht)]
  have key : ∀ us : List Th, (∀ u ∈ us, u ∈ ts) → t ∈ us → forC (m_edge_by_L1 t.1) us () = some (.rt (some t)) := by
    intro us
    induction us with
    | nil => exact fun _ h => nomatch h
    | cons u us ih =>
      intro h1 h2
      by_cases e : u.1 = t.1
      · have : u = t := hn.one u (h1 u List.mem_cons_self) t ht e
        subst this
        show ((m_edge_by_L1 u.1 u ()).bind _) = _
        unfold m_edge_by_L1
        rw [decide_eq_true rfl]
        rfl
      · rw [forC_cons (s' := ())]
        · refine ih (fun v hv => h1 v (List.mem_cons_of_mem _ hv)) ?_
          rcases List.mem_cons.mp h2 with h | h
          · exact absurd (congrArg (·.1) h).symm e
          · exact h
        · unfold m_edge_by_L1
          rw [if_neg (by rw [decide_eq_true_eq]; exact e)]
  rw [key ts (fun _ h => h) ht]
  rfl
theorem shows_ok {W wide high b : Int} {l r : List Th} (hl : Nms l) (hr : Nms r) (hh : 1 ≤ high) {q : Tr} (hb : Bar W wide high l r b q) {f : Ft} (fw : f.2.2.1 = wide) (fh : f.2.2.2.1 = high) : m_triple_shows (l, r, ()) q b f W = some true := by
  obtain ⟨till, ln, rn, u⟩ := q
  obtain ⟨hup, x, y, h1, h2, h3⟩ := hb
  have hup : b < till := hup
  have e1 : ∃ t : Th, m_edge_by l ln (("" : Str), (0 : Int), b, (0 : Int), (till - b), ()) = some (some t) ∧ m_bars t b till high = some true ∧ t.2.1 + t.2.2.2.1 = x := by
    rcases h1 with ⟨e, ex⟩ | ⟨t, ht, e, ex, hc, he⟩
    · have e : ln = ("" : Str) := e
      subst e
      refine ⟨_, edge_empty _ _, ?_, by show (0 : Int) + 0 = x; omega⟩
      unfold m_bars
      simp only
      rw [decide_eq_true (by omega), decide_eq_true (by omega)]
      rfl
    · have e : t.1 = ln := e
      subst e
      refine ⟨t, edge_found hl ht _, ?_, ex.symm⟩
      have he : till ≤ tend t := he
      unfold tch at hc
      unfold tend at hc he
      rw [Bool.and_eq_true, decide_eq_true_eq, decide_eq_true_eq] at hc
      unfold m_bars
      rw [decide_eq_true hc.1, decide_eq_true (by omega)]
      rfl
  have e2 : ∃ t : Th, m_edge_by r rn (("" : Str), W, b, (0 : Int), (till - b), ()) = some (some t) ∧ m_bars t b till high = some true ∧ t.2.1 = y := by
    rcases h2 with ⟨e, ex⟩ | ⟨t, ht, e, ex, hc, he⟩
    · have e : rn = ("" : Str) := e
      subst e
      refine ⟨_, edge_empty _ _, ?_, ex.symm⟩
      unfold m_bars
      simp only
      rw [decide_eq_true (by omega), decide_eq_true (by omega)]
      rfl
    · have e : t.1 = rn := e
      subst e
      refine ⟨t, edge_found hr ht _, ?_, ex.symm⟩
      have he : till ≤ tend t := he
      unfold tch at hc
      unfold tend at hc he
      rw [Bool.and_eq_true, decide_eq_true_eq, decide_eq_true_eq] at hc
      unfold m_bars
      rw [decide_eq_true hc.1, decide_eq_true (by omega)]
      rfl
  obtain ⟨t1, a1, a2, a3⟩ := e1
  obtain ⟨t2, b1, b2, b3⟩ := e2
  unfold m_triple_shows m_is_whole
  simp only [bs, decide_true, Bool.not_true, Bool.not_false, Bool.and_self, Bool.or_self, Bool.false_eq_true, if_false, fh]
  rw [decide_eq_false (show ¬ till ≤ b by omega)]
  simp only [Bool.or_self, Bool.false_eq_true, if_false, a1, b1, bs, Option.isNone_some, a2, b2, Bool.not_true, fw]
  rw [decide_eq_true (by omega)]
theorem paper_ok {W wide high a b : Int} {l r : List Th} (hl : Nms l) (hr : Nms r) (hh : 1 ≤ high) {p : List Tr} (hp : PW W wide high l r a p b) {f : Ft} (fw : f.2.2.1 = wide) (fh : f.2.2.2.1 = high) : ∀ rest, forC (m_paper_shows_L1 (l, r, ()) f W) (p ++ rest) a = forC (m_paper_shows_L1 (l, r, ()) f W) rest b := by
  induction hp with
  | nil => exact fun _ => rfl
  | @snoc ps b q hps hb ih =>
    intro rest
    rw [List.append_assoc, ih]
    refine forC_cons ?_
    unfold m_paper_shows_L1
    rw [shows_ok hl hr hh hb fw fh]
    rfl
theorem pw_le {W wide high a b : Int} {l r : List Th} {p : List Tr} (hp : PW W wide high l r a p b) : a ≤ b ∧ (p ≠ [] → a < b) := by
  induction hp with
  | nil => exact ⟨Int.le_refl _, fun h => absurd rfl h⟩
  | @snoc ps b q hps hb ih =>
    have := hb.up
    exact ⟨by omega, fun _ => by omega⟩
/-! the looker -/
structure All (W : Int) (zs : List Z) (ps : List (List Tr)) : Prop where
  ch : Ch W zs
  pap : Pap W zs ps
  ok : ∀ z ∈ zs, FtOk W z.1
  nd : (zs.map (·.1.1)).Nodup
  ne : ∀ z ∈ zs, z.1.1 ≠ ("" : Str)
  len : zs.length ≤ 12
theorem All.nm {W : Int} {zs : List Z} {ps : List (List Tr)} (h : All W zs ps) {z : Z} (hz : z ∈ zs) : z.2.1 = z.1.1 := by
  obtain ⟨i, hi⟩ := List.getElem?_of_mem hz
  exact (h.ch.at hi).nm
theorem All.inj {W : Int} {zs : List Z} {ps : List (List Tr)} (h : All W zs ps) {i j : Nat} {y z : Z} (hi : zs[i]? = some y) (hj : zs[j]? = some z) (e : y.1.1 = z.1.1) : i = j := by
  have hil := (List.getElem?_eq_some_iff.mp hi).1
  refine (List.getElem?_inj (by rw [List.length_map]; exact hil) h.nd).mp ?_
  rw [List.getElem?_map, List.getElem?_map, hi, hj]
  exact congrArg some e
theorem All.nms {W : Int} {zs : List Z} {ps : List (List Tr)} (h : All W zs ps) (i : Nat) : Nms (ls (zs.take i)) ∧ Nms (rs (zs.take i)) := by
  have key : ∀ (us : List Th), (∀ t ∈ us, ∃ z ∈ zs, z.2 = t) → Nms us := fun us hu => ⟨fun t ht u hu' e => by
    obtain ⟨y, hy, rfl⟩ := hu t ht
    obtain ⟨z, hz, rfl⟩ := hu u hu'
    obtain ⟨i, hi⟩ := List.getElem?_of_mem hy
    obtain ⟨j, hj⟩ := List.getElem?_of_mem hz
    have := h.inj hi hj (by rw [← h.nm hy, ← h.nm hz]; exact e)
    subst this
    rw [hi] at hj
    cases hj
    rfl, fun t ht => by
    obtain ⟨y, hy, rfl⟩ := hu t ht
    rw [h.nm hy]
    exact h.ne y hy⟩
  refine ⟨key _ fun t ht => ?_, key _ fun t ht => ?_⟩
  · obtain ⟨z, hz, e, _⟩ := ls_mem ht
    exact ⟨z, List.mem_of_mem_take hz, e⟩
  · obtain ⟨z, hz, e, _⟩ := rs_mem ht
    exact ⟨z, List.mem_of_mem_take hz, e⟩
theorem standing_ok {W : Int} {zs : List Z} {i : Nat} {z : Z} (n : Nx W zs z) : m_is_standing z.2 z.1 = some true := by
  unfold m_is_standing m_is_whole
  rw [n.nm, n.w, n.h]
  simp only [bs, decide_true, Bool.not_true, Bool.or_self, Bool.false_eq_true, if_false, Bool.not_false, Bool.and_self]
  rw [lcM_all (f := fun _ : Int => some true) (fun _ => true) (by simp) (fun _ _ => rfl)]
  simp only [bs]
  simp
theorem there_ok {W : Int} {zs : List Z} {z : Z} (n : Nx W zs z) : m_stands_there (ls zs, rs zs, ()) z.2 z.1 W = some true := by
  unfold m_stands_there
  simp only [edges_eq, bs]
  have f1 := n.fit
  have x1 := n.x
  rw [n.h, n.w]
  unfold LE RE at f1 x1
  rw [if_neg (by rw [decide_eq_true_eq]; omega)]
  by_cases h : z.1.2.1 = ("left" : Str)
  · rw [if_pos h] at x1
    rw [if_pos (decide_eq_true h), decide_eq_true x1]
  · rw [if_neg h] at x1
    rw [if_neg (by rw [decide_eq_true_eq]; exact h), decide_eq_true x1]
theorem step_ok {W : Int} {zs : List Z} {ps : List (List Tr)} (h : All W zs ps) {st : List Th} {pp : List (List Tr)} {i : Nat} {z : Z} {p : List Tr} (hz : zs[i]? = some z) (hp : ps[i]? = some p) (hs : st[i]? = some z.2) (hpp : pp[i]? = some p) :
    m_stood_L1 W st pp ((i : Int), z.1, ()) (lastrow (zs.take i), ls (zs.take i), rs (zs.take i)) = some (.nx (lastrow (zs.take (i + 1)), ls (zs.take (i + 1)), rs (zs.take (i + 1)))) := by
  have n := h.ch.at hz
  have o := h.ok z (List.mem_of_getElem? hz)
  obtain ⟨nl, nr⟩ := h.nms i
  have et : zs.take (i + 1) = zs.take i ++ [z] := by rw [List.take_succ, hz]; rfl
  have hil := (List.getElem?_eq_some_iff.mp hz).1
  have hpq := paper_ok nl nr o.h1 (h.pap.at_ i z p hz hp).2 (f := z.1) rfl rfl []
  rw [List.append_nil] at hpq
  have hll : (ls (zs.take i)).length ≤ i := by
    unfold ls
    rw [List.length_map]
    exact Nat.le_trans (List.length_filter_le _ _) (by rw [List.length_take]; omega)
  have hrl : (rs (zs.take i)).length ≤ i := by
    unfold rs
    rw [List.length_map]
    exact Nat.le_trans (List.length_filter_le _ _) (by rw [List.length_take]; omega)
  have hlen := h.len
  unfold m_stood_L1
  simp only [atI_nat hs, atI_nat hpp, bs, standing_ok (i := i) n, Bool.not_true, Bool.false_eq_true, if_false]
  unfold m_paper_shows
  simp only [Bool.not_true, Bool.false_eq_true, if_false, hpq]
  show ((some (decide (z.2.2.2.1 = z.2.2.2.1))).bind _).bind _ = _
  rw [decide_eq_true rfl]
  simp only [bs, Bool.not_true, Bool.false_eq_true, if_false, there_ok n]
  rw [et, lastrow_snoc, ls_snoc, rs_snoc]
  unfold appP
  rw [if_pos ⟨by omega, by omega⟩]
  rcases o.side with q | q
  · rw [q, show decide (("left" : Str) = ("right" : Str)) = false by decide +kernel, if_pos rfl, if_pos rfl]
    rfl
  · rw [q, show decide (("right" : Str) = ("right" : Str)) = true by decide +kernel, if_neg (show ¬ (("right" : Str) = ("left" : Str)) by decide +kernel), if_neg (show ¬ (("right" : Str) = ("left" : Str)) by decide +kernel)]
    rfl
theorem enum_drop {α : Type} {xs : List α} {i : Nat} {x : α} (h : xs[i]? = some x) : (enumI xs).drop i = ((i : Int), x, ()) :: (enumI xs).drop (i + 1) := by
  obtain ⟨hl, e⟩ := List.getElem?_eq_some_iff.mp h
  rw [List.drop_eq_getElem_cons (by rw [enumI_len]; exact hl), enumI_at, e]
theorem upto {W : Int} {zs : List Z} {ps : List (List Tr)} (h : All W zs ps) {st : List Th} {pp : List (List Tr)} : ∀ m, m ≤ zs.length → (∀ i z p, i < m → zs[i]? = some z → ps[i]? = some p → st[i]? = some z.2 ∧ pp[i]? = some p) →
    forC (m_stood_L1 W st pp) (enumI (zs.map (·.1))) (0, [], []) = forC (m_stood_L1 W st pp) ((enumI (zs.map (·.1))).drop m) (lastrow (zs.take m), ls (zs.take m), rs (zs.take m))
  | 0, _, _ => rfl
  | m + 1, hm, hs => by
    rw [upto h m (by omega) fun i z p hi => hs i z p (by omega)]
    obtain ⟨z, hz⟩ : ∃ z, zs[m]? = some z := ⟨_, List.getElem?_eq_getElem (by omega)⟩
    obtain ⟨p, hp⟩ : ∃ p, ps[m]? = some p := ⟨_, List.getElem?_eq_getElem (by rw [h.pap.len]; omega)⟩
    obtain ⟨q1, q2⟩ := hs m z p (Nat.lt_succ_self _) hz hp
    rw [enum_drop (x := z.1) (by rw [List.getElem?_map, hz]; rfl)]
    exact forC_cons (step_ok h hz hp q1 q2)
theorem stood_ok {W : Int} {zs : List Z} {ps : List (List Tr)} (h : All W zs ps) : m_stood W (zs.map (·.1)) (zs.map (·.2)) ps = some true := by
  unfold m_stood
  have hpl := h.pap.len
  rw [if_neg (by simp), if_neg (by rw [hpl]; simp), bs, upto h zs.length (Nat.le_refl _) fun i z p _ hz hp => ⟨by rw [List.getElem?_map, hz]; rfl, hp⟩, List.drop_of_length_le (by rw [enumI_len, List.length_map]; exact Nat.le_refl _)]
  rfl
/-- two neighbours exchanged -/
theorem stood_swap {W : Int} {zs : List Z} {ps : List (List Tr)} (h : All W zs ps) {st : List Th} {k : Nat} {y z : Z} (hl : st.length = zs.length) (hy : zs[k]? = some y) (hz : zs[k + 1]? = some z) (hs : ∀ i, i < k → st[i]? = (zs.map (·.2))[i]?) (hk : st[k]? = some z.2) :
    m_stood W (zs.map (·.1)) st ps = some false := by
  unfold m_stood
  have hpl := h.pap.len
  have hkl := (List.getElem?_eq_some_iff.mp hy).1
  rw [if_neg (by simp), if_neg (by rw [hpl, hl]; simp), bs, upto h k (by omega) fun i z p hi hz hp => ⟨by rw [hs i hi, List.getElem?_map, hz]; rfl, hp⟩]
  rw [enum_drop (x := y.1) (by rw [List.getElem?_map, hy]; rfl)]
  have hne : ¬ z.2.1 = y.1.1 := fun e => by
    rw [h.nm (List.mem_of_getElem? hz)] at e
    have := h.inj hz hy e
    omega
  have e1 : m_is_standing z.2 y.1 = some false := by
    unfold m_is_standing
    rw [decide_eq_false hne]
    rfl
  have e : m_stood_L1 W st ps ((k : Int), y.1, ()) (lastrow (zs.take k), ls (zs.take k), rs (zs.take k)) = some (.rt false) := by
    unfold m_stood_L1
    simp only [atI_nat hk, bs, e1, Bool.not_false, if_true]
  show (((m_stood_L1 W st ps _ _).bind _).bind _) = _
  rw [e]
  rfl
/-- a paper emptied -/
theorem stood_empty {W : Int} {zs : List Z} {ps : List (List Tr)} (h : All W zs ps) {pp : List (List Tr)} {k : Nat} {z : Z} {p : List Tr} (hl : pp.length = zs.length) (hz : zs[k]? = some z) (hp : ps[k]? = some p) (hne : p ≠ []) (hs : ∀ i, i < k → pp[i]? = ps[i]?) (hk : pp[k]? = some []) :
    m_stood W (zs.map (·.1)) (zs.map (·.2)) pp = some false := by
  unfold m_stood
  have hkl := (List.getElem?_eq_some_iff.mp hz).1
  rw [if_neg (by simp), if_neg (by rw [hl]; simp), bs, upto h k (by omega) fun i z p hi hz hp => ⟨by rw [List.getElem?_map, hz]; rfl, by rw [hs i hi]; exact hp⟩]
  rw [enum_drop (x := z.1) (by rw [List.getElem?_map, hz]; rfl)]
  have n := h.ch.at hz
  have e0 : (zs.map (·.2))[k]? = some z.2 := by rw [List.getElem?_map, hz]; rfl
  have hlt := (pw_le (h.pap.at_ k z p hz hp).2).2 hne
  have e : m_stood_L1 W (zs.map (·.2)) pp ((k : Int), z.1, ()) (lastrow (zs.take k), ls (zs.take k), rs (zs.take k)) = some (.rt false) := by
    unfold m_stood_L1 m_paper_shows
    simp only [atI_nat e0, atI_nat hk, bs, standing_ok (i := k) n, Bool.not_true, Bool.false_eq_true, if_false]
    show (((some (decide (lastrow (zs.take k) = z.2.2.2.1))).bind _).bind _).bind _ = _
    rw [decide_eq_false (by omega)]
    rfl
  show (((m_stood_L1 W (zs.map (·.2)) pp _ _).bind _).bind _) = _
  rw [e]
  rfl
theorem stood_less {W : Int} {fs : List Ft} {st : List Th} {pp : List (List Tr)} (hl : pp.length ≠ fs.length) : m_stood W fs st pp = some false := by
  unfold m_stood
  rw [if_neg (by simp), if_pos]
  have : ¬ ((pp.length : Int) = (fs.length : Int)) := by omega
  rw [decide_eq_false this]
  simp
/-! walked by the law -/
abbrev DkT := Dc (Str × Str × Unit) Th
theorem barred_ok {W : Int} {zs : List Z} {ps : List (List Tr)} (h : All W zs ps) {i : Nat} {d : DkT} (hd : ∀ j z, j < i → zs[j]? = some z → getD d.l (z.1.1, z.1.2.1, ()) = some z.2) {wide high b : Int} {q : Tr} (hb : Bar W wide high (ls (zs.take i)) (rs (zs.take i)) b q) {f : Ft} (fw : f.2.2.1 = wide) (fh : f.2.2.2.1 = high) :
    m__law_barred W d q b f = some true := by
  obtain ⟨nl, nr⟩ := h.nms i
  obtain ⟨till, ln, rn, u⟩ := q
  obtain ⟨hup, x, y, h1, h2, h3⟩ := hb
  have hup : b < till := hup
  have e1 : ∀ e1 : Int, m__law_barred_L1 d b f till ((0 : Int), ln, ()) [0, e1] = some (.nx [x, e1]) := by
    intro w
    rcases h1 with ⟨e, ex⟩ | ⟨t, ht, e, ex, hc, he⟩
    · have e : ln = ("" : Str) := e
      subst e
      unfold m__law_barred_L1
      simp only [decide_true, Bool.not_true, Bool.false_eq_true, if_false]
      rw [ex]
    · have e : t.1 = ln := e
      have hne : ¬ ln = ("" : Str) := by rw [← e]; exact nl.ne t ht
      obtain ⟨z, hz, rfl, hs⟩ := ls_mem ht
      obtain ⟨j, hj⟩ := List.getElem?_of_mem hz
      have hj1 := (List.getElem?_eq_some_iff.mp hj).1
      rw [List.length_take] at hj1
      rw [List.getElem?_take_of_lt (by omega)] at hj
      have hg := hd j z (by omega) hj
      rw [hs, ← h.nm (List.mem_of_getElem? hj), e] at hg
      have he : till ≤ tend z.2 := he
      unfold tch at hc
      unfold tend at hc he
      rw [Bool.and_eq_true, decide_eq_true_eq, decide_eq_true_eq] at hc
      unfold m__law_barred_L1 m__law_touch
      simp only [show atI ([("left" : Str), ("right" : Str)] : List Str) (0 : Int) = some ("left" : Str) from rfl, bs, hg, fh]
      rw [decide_eq_false hne]
      simp only [Bool.not_false, if_true, Option.isSome_some, Bool.not_true, Bool.false_eq_true, if_false]
      rw [decide_eq_true hc.1, decide_eq_true hc.2, decide_eq_true (show z.2.2.2.1 < till - 1 + high by omega), decide_eq_true (show till - 1 < z.2.2.2.1 + z.2.2.2.2.2.1 by omega)]
      simp only [Bool.and_self, Bool.not_true, Bool.false_eq_true, if_false, bs]
      rw [ex]
      rfl
  have e2 : ∀ w : Int, m__law_barred_L1 d b f till ((1 : Int), rn, ()) [w, W] = some (.nx [w, y]) := by
    intro w
    rcases h2 with ⟨e, ex⟩ | ⟨t, ht, e, ex, hc, he⟩
    · have e : rn = ("" : Str) := e
      subst e
      unfold m__law_barred_L1
      simp only [decide_true, Bool.not_true, Bool.false_eq_true, if_false]
      rw [ex]
    · have e : t.1 = rn := e
      have hne : ¬ rn = ("" : Str) := by rw [← e]; exact nr.ne t ht
      obtain ⟨z, hz, rfl, hs⟩ := rs_mem ht
      obtain ⟨j, hj⟩ := List.getElem?_of_mem hz
      have hj1 := (List.getElem?_eq_some_iff.mp hj).1
      rw [List.length_take] at hj1
      rw [List.getElem?_take_of_lt (by omega)] at hj
      have hg := hd j z (by omega) hj
      rw [(h.ok z (List.mem_of_getElem? hj)).side.resolve_left hs, ← h.nm (List.mem_of_getElem? hj), e] at hg
      have he : till ≤ tend z.2 := he
      unfold tch at hc
      unfold tend at hc he
      rw [Bool.and_eq_true, decide_eq_true_eq, decide_eq_true_eq] at hc
      unfold m__law_barred_L1 m__law_touch
      simp only [show atI ([("left" : Str), ("right" : Str)] : List Str) (1 : Int) = some ("right" : Str) from rfl, bs, hg, fh]
      rw [decide_eq_false hne]
      simp only [Bool.not_false, if_true, Option.isSome_some, Bool.not_true, Bool.false_eq_true, if_false]
      rw [decide_eq_true hc.1, decide_eq_true hc.2, decide_eq_true (show z.2.2.2.1 < till - 1 + high by omega), decide_eq_true (show till - 1 < z.2.2.2.1 + z.2.2.2.2.2.1 by omega)]
      simp only [Bool.and_self, Bool.not_true, Bool.false_eq_true, if_false, bs]
      rw [ex]
      rfl
  unfold m__law_barred
  simp only [bs]
  rw [show enumI ([ln, rn] : List Str) = [((0 : Int), ln, ()), ((1 : Int), rn, ())] from rfl, forC_cons (e1 W), forC_cons (e2 x)]
  rw [show forC (m__law_barred_L1 d b f till) ([] : List (Int × Str × Unit)) [x, y] = some (.nx [x, y]) from rfl]
  simp only [bs, show atI [x, y] (1 : Int) = some y from rfl, show atI [x, y] (0 : Int) = some x from rfl, fw]
  rw [decide_eq_true h3]
theorem walk_paper {W : Int} {zs : List Z} {ps : List (List Tr)} (h : All W zs ps) {i : Nat} {d : DkT} (hd : ∀ j z, j < i → zs[j]? = some z → getD d.l (z.1.1, z.1.2.1, ()) = some z.2) {wide high a b : Int} {p : List Tr} (hp : PW W wide high (ls (zs.take i)) (rs (zs.take i)) a p b) {f : Ft} (fw : f.2.2.1 = wide) (fh : f.2.2.2.1 = high) :
    ∀ rest, forC (m__law_walked_L2 W f d) (p ++ rest) a = forC (m__law_walked_L2 W f d) rest b := by
  induction hp with
  | nil => exact fun _ => rfl
  | @snoc qs b q hps hb ih =>
    intro rest
    rw [List.append_assoc, ih]
    refine forC_cons ?_
    unfold m__law_walked_L2
    have hup := hb.up
    rw [barred_ok h hd hb fw fh, decide_eq_false (by omega)]
    rfl
theorem walked_ok {W : Int} {zs : List Z} {ps : List (List Tr)} (h : All W zs ps) : m__law_walked W (zs.map (·.1)) (zs.map (·.2)) ps = some true := by
  unfold m__law_walked
  simp only [bs]
  have hlen := h.len
  obtain ⟨s, e, _⟩ := forC_ix (f := m__law_walked_L1 W (zs.map (·.2)) ps) (xs := enumI (zs.map (·.1))) (fun i (s : Int × DkT) => s.1 = lastrow (zs.take i) ∧ s.2.l.length ≤ i ∧ ∀ j z, j < i → zs[j]? = some z → getD s.2.l (z.1.1, z.1.2.1, ()) = some z.2) (s := (0, Dc.mk [])) ⟨rfl, Nat.le_refl _, fun j z h => absurd h (Nat.not_lt_zero _)⟩ (fun i hi s hs => by
    rw [enumI_len, List.length_map] at hi
    obtain ⟨row, d⟩ := s
    obtain ⟨h1, h2, h3⟩ := hs
    simp only at h1 h2 h3
    subst h1
    have hz : zs[i]? = some zs[i] := List.getElem?_eq_getElem hi
    rw [enumI_at, List.getElem_map]
    generalize zs[i] = z at hz
    obtain ⟨p, hp⟩ : ∃ p, ps[i]? = some p := ⟨_, List.getElem?_eq_getElem (by rw [h.pap.len]; exact hi)⟩
    have e0 : (zs.map (·.2))[i]? = some z.2 := by rw [List.getElem?_map, hz]; rfl
    have hw := walk_paper h h3 (h.pap.at_ i z p hz hp).2 (f := z.1) rfl rfl []
    rw [List.append_nil] at hw
    have et : zs.take (i + 1) = zs.take i ++ [z] := by rw [List.take_succ, hz]; rfl
    refine ⟨(z.2.2.2.1, ⟨putD d.l (z.1.1, z.1.2.1, ()) z.2⟩), ?_, ?_, ?_, fun j y hj hy => ?_⟩
    · unfold m__law_walked_L1
      simp only [atI_nat hp, atI_nat e0, bs, Bool.not_true, Bool.false_eq_true, if_false, hw]
      show (if (!decide (z.2.2.2.1 = z.2.2.2.1)) = true then some (Ctl.rt false) else _) = _
      rw [decide_eq_true rfl]
      simp only [Bool.not_true, Bool.false_eq_true, if_false]
      rw [putO_ok (by omega)]
      rfl
    · rw [et, lastrow_snoc]
    · have := len_put d.l (z.1.1, z.1.2.1, ()) z.2
      show (putD _ _ _).length ≤ _
      omega
    · show getD (putD _ _ _) _ = _
      rw [getD_put]
      by_cases e : y.1.1 = z.1.1
      · have := h.inj hy hz e
        subst this
        rw [hz] at hy
        cases hy
        rw [if_pos rfl]
      · rw [if_neg (fun q => e (congrArg (·.1) q))]
        refine h3 j y ?_ hy
        have : j ≠ i := fun q => by
          subst q
          rw [hz] at hy
          cases hy
          exact e rfl
        omega)
  rw [e]
  rfl
theorem okTh {t : Th} (h : PyData.strOk t.1 = true) : okD t = true := by
  show PyData.canLay0 (.tuple [.str t.1, .int t.2.1, .int t.2.2.1, .int t.2.2.2.1, .int t.2.2.2.2.1]) = true
  simp only [PyData.canLay0, PyData.canLayAll0, h, Bool.and_self]
theorem okFt {t : Ft} (h : PyData.strOk t.1 = true) (h2 : PyData.strOk t.2.1 = true) : okD t = true := by
  show PyData.canLay0 (.tuple [.str t.1, .str t.2.1, .int t.2.2.1, .int t.2.2.2.1]) = true
  simp only [PyData.canLay0, PyData.canLayAll0, h, h2, Bool.and_self]
theorem okTr {t : Tr} (h : PyData.strOk t.2.1 = true) (h2 : PyData.strOk t.2.2.1 = true) : okD t = true := by
  show PyData.canLay0 (.tuple [.int t.1, .str t.2.1, .str t.2.2.1]) = true
  simp only [PyData.canLay0, PyData.canLayAll0, h, h2, Bool.and_self]
theorem pw_names {W wide high a b : Int} {l r : List Th} {ps : List Tr} (h : PW W wide high l r a ps b) (hl : ∀ t ∈ l, PyData.strOk t.1 = true) (hr : ∀ t ∈ r, PyData.strOk t.1 = true) : ∀ q ∈ ps, okD q = true := by
  induction h with
  | nil => exact fun _ h => nomatch h
  | @snoc ps b q hp hb ih =>
    intro q' hq
    rcases List.mem_append.mp hq with hq | hq
    · exact ih q' hq
    · have : q' = q := List.mem_singleton.mp hq
      subst this
      obtain ⟨x, y, h1, h2, _⟩ := hb.two
      have e0 : PyData.strOk ("" : Str) = true := by decide +kernel
      refine okTr ?_ ?_
      · rcases h1 with ⟨h1, _⟩ | ⟨t, ht, e, _⟩
        · rw [h1]; exact e0
        · rw [← e]; exact hl t ht
      · rcases h2 with ⟨h1, _⟩ | ⟨t, ht, e, _⟩
        · rw [h1]; exact e0
        · rw [← e]; exact hr t ht
theorem okHl {a : List Ft} {b : List Th} {c : List (List Tr)} (h1 : okD a = true) (h2 : okD b = true) (h3 : okD c = true) : okD (Hl.mk ((a, b, c, ()) : List Ft × List Th × List (List Tr) × Unit)) = true := by
  show PyData.canLay0 (.list [Pd.toD a, Pd.toD b, Pd.toD c]) = true
  have h1 : PyData.canLay0 (Pd.toD a) = true := h1
  have h2 : PyData.canLay0 (Pd.toD b) = true := h2
  have h3 : PyData.canLay0 (Pd.toD c) = true := h3
  rw [PyData.canLay0]
  simp only [PyData.canLayAll0, h1, h2, h3, Bool.and_self]
theorem setI_nat {α : Type} {xs : List α} {i : Nat} {x : α} (h : i < xs.length) : setI xs (i : Int) x = some (xs.set i x) := by
  unfold setI ixN
  simp
  exact h
theorem turn {W : Int} {zs : List Z} {ps : List (List Tr)} (h : All W zs ps) (hps : ∀ p ∈ ps, okD p = true) {k : Nat} (hk : k < zs.length) : m_law_L1 W (zs.map (·.1)) (zs.map (·.2)) ps (k : Int) () = some (.nx ()) := by
  have hlen := h.len
  have hpl := h.pap.len
  obtain ⟨z, hz⟩ : ∃ z, zs[k]? = some z := ⟨_, List.getElem?_eq_getElem hk⟩
  obtain ⟨p, hp⟩ : ∃ p, ps[k]? = some p := ⟨_, List.getElem?_eq_getElem (by omega)⟩
  have c1 : cut ps none (some (k : Int)) = ps.take k := cut_to ps k
  have c2 : cut ps (some ((k : Int) + 1)) none = ps.drop (k + 1) := by
    rw [show (k : Int) + 1 = ((k + 1 : Nat) : Int) by omega]
    exact cut_from ps (k + 1)
  have second : (((if (!decide (p = ([] : List Tr))) = true then ((m_stood W (zs.map (·.1)) (zs.map (·.2)) ((ps.take k ++ [[]]) ++ ps.drop (k + 1))).bind fun r_499 => some r_499) else some false)) : Option Bool) = some false := by
    by_cases e : p = []
    · rw [decide_eq_true e]
      rfl
    · rw [decide_eq_false e]
      simp only [Bool.not_false, if_true]
      have hl : (ps.take k ++ [[]] ++ ps.drop (k + 1)).length = zs.length := by
        rw [List.length_append, List.length_append, List.length_take, List.length_drop, List.length_singleton]
        omega
      have htl : (ps.take k).length = k := by rw [List.length_take]; omega
      rw [stood_empty h hl hz hp e (fun i hi => by
        rw [List.append_assoc, List.getElem?_append_left (by omega), List.getElem?_take_of_lt hi]) (by
        rw [List.append_assoc, List.getElem?_append_right (by omega), htl, Nat.sub_self]
        rfl)]
      rfl
  have third : m_stood W (zs.map (·.1)) (zs.map (·.2)) (ps.take k ++ ps.drop (k + 1)) = some false := stood_less (by
    rw [List.length_append, List.length_take, List.length_drop, List.length_map]
    omega)
  have okp := hps p (List.mem_of_getElem? hp)
  have first : (((if (decide ((0 : Int) < (k : Int))) = true then ((atI (zs.map (·.2)) (k : Int)).bind fun i_482 =>
      (setI (zs.map (·.2)) ((k : Int) - (1 : Int)) i_482).bind fun other_483 =>
      (atI (zs.map (·.2)) ((k : Int) - (1 : Int))).bind fun i_484 =>
      (setI other_483 (k : Int) i_484).bind fun other_485 =>
      some other_485) else (some (zs.map (·.2))))).bind fun other_486 =>
      ((if (decide ((0 : Int) < (k : Int))) = true then ((m_stood W (zs.map (·.1)) other_486 ps).bind fun r_489 => some r_489) else some false)).bind fun b => some b) = some false := by
    by_cases h0 : k = 0
    · subst h0
      rfl
    · obtain ⟨j, rfl⟩ : ∃ j, k = j + 1 := ⟨k - 1, by omega⟩
      obtain ⟨y, hy⟩ : ∃ y, zs[j]? = some y := ⟨_, List.getElem?_eq_getElem (by omega)⟩
      have ez : (zs.map (·.2))[j + 1]? = some z.2 := by rw [List.getElem?_map, hz]; rfl
      have ey : (zs.map (·.2))[j]? = some y.2 := by rw [List.getElem?_map, hy]; rfl
      rw [if_pos (show decide ((0 : Int) < ((j + 1 : Nat) : Int)) = true by rw [decide_eq_true_eq]; omega), atI_nat ez, show ((j + 1 : Nat) : Int) - 1 = (j : Int) by omega]
      simp only [bs]
      rw [setI_nat (by rw [List.length_map]; omega)]
      simp only [bs]
      rw [atI_nat ey]
      simp only [bs]
      rw [setI_nat (by rw [List.length_set, List.length_map]; omega)]
      simp only [bs]
      rw [if_pos (show decide ((0 : Int) < ((j + 1 : Nat) : Int)) = true by rw [decide_eq_true_eq]; omega)]
      rw [stood_swap h (k := j) (by rw [List.length_set, List.length_set, List.length_map]) hy hz (fun i hi => by
        rw [List.getElem?_set_ne (by omega), List.getElem?_set_ne (by omega)]) (by
        rw [List.getElem?_set_ne (by omega), List.getElem?_set_self (by rw [List.length_map]; omega)])]
      rfl
  obtain ⟨o1, f1, f2⟩ := bind_some first
  obtain ⟨b1, f3, f4⟩ := bind_some f2
  have f4 := Option.some.inj f4
  subst f4
  unfold m_law_L1
  simp only [bs]
  rw [f1]
  simp only [bs]
  rw [f3]
  simp only [bs, Bool.false_eq_true, if_false]
  rw [c1, c2, catO_ok (by rw [List.length_take]; simp; omega)]
  simp only [bs]
  rw [catO_ok (by rw [List.length_append, List.length_take, List.length_drop]; simp; omega)]
  simp only [bs]
  rw [atI_nat hp]
  simp only [bs]
  rw [neO_ok okp rfl]
  simp only [bs]
  rw [second]
  simp only [bs, Bool.false_eq_true, if_false]
  rw [catO_ok (by rw [List.length_take, List.length_drop]; omega)]
  simp only [bs, third, Bool.false_eq_true, if_false]
theorem law_main (ns : List Int) (hl : ns.length ≤ 63) : m_law (Fz.mk ns) = some true := by
  obtain ⟨c1, e1⟩ := cell_at (ns := ns) 1 (by omega)
  obtain ⟨c0, e0⟩ := cell_at (ns := ns) 0 (by omega)
  unfold m_law
  simp only [e1, e0, bs]
  rw [pick2 _ _ (k := c1 % 2) (by omega) (by omega)]
  simp only [bs]
  generalize hW : 1 + (if c1 % 2 = 0 then c1 / 2 % 12 else c1 / 2 % 1000000) = W
  have hW1 : 1 ≤ W := by
    rw [← hW]
    split <;> omega
  obtain ⟨nm, en, nl, nnd, nne⟩ := names_ok c0 12 (by omega) (by omega)
  rw [en]
  simp only [bs]
  have hcl : (cut ns (some 2) (some 14)).length ≤ 12 := cut_le ns 2 14
  obtain ⟨fs, ef, fl, fo⟩ := floats_ok (ns := nm) hW1 (cells := cut ns (some 2) (some 14)) (by rw [nl]; exact hcl) (by rw [nl]; decide)
  rw [ef]
  simp only [bs]
  have fok : ∀ f ∈ fs, FtOk W f := fun f hf => by
    obtain ⟨j, hj⟩ := List.getElem?_of_mem hf
    exact (fo j f hj).2
  have fnm : ∀ f ∈ fs, f.1 ≠ ("" : Str) ∧ PyData.strOk f.1 = true := fun f hf => by
    obtain ⟨j, hj⟩ := List.getElem?_of_mem hf
    exact nne _ (List.mem_of_getElem? (fo j f hj).1)
  have fnd := map_take_nd nnd fun j f hj => (fo j f hj).1
  have hfl : fs.length ≤ 12 := by omega
  obtain ⟨zs, ps, es, zf, hch, hp⟩ := stand_ok (W := W) (fs := fs) (fun f hf => (fok f hf).w1) fnd (fun f hf => (fnm f hf).1) (by omega)
  subst zf
  rw [List.length_map] at hfl
  rw [es]
  simp only [bs]
  have hall : All W zs ps := ⟨hch, hp, fun z hz => fok _ (List.mem_map.mpr ⟨z, hz, rfl⟩), by rw [List.map_map] at fnd; exact fnd, fun z hz => (fnm _ (List.mem_map.mpr ⟨z, hz, rfl⟩)).1, hfl⟩
  have znm : ∀ z ∈ zs, PyData.strOk z.2.1 = true := fun z hz => by
    rw [hall.nm hz]
    exact (fnm _ (List.mem_map.mpr ⟨z, hz, rfl⟩)).2
  have ok1 : okD (zs.map (·.2)) = true := okD_list fun t ht => by
    obtain ⟨z, hz, rfl⟩ := List.mem_map.mp ht
    exact okTh (znm z hz)
  have ok2 : okD (zs.map (·.1)) = true := okD_list fun f hf => by
    refine okFt (fnm f hf).2 ?_
    rcases (fok f hf).side with h | h <;> rw [h] <;> decide +kernel
  have okp : ∀ p ∈ ps, okD p = true := fun p hpm => by
    obtain ⟨i, hi⟩ := List.getElem?_of_mem hpm
    have hil : i < ps.length := (List.getElem?_eq_some_iff.mp hi).1
    obtain ⟨z, hz⟩ : ∃ z, zs[i]? = some z := ⟨_, List.getElem?_eq_getElem (by rw [← hp.len]; exact hil)⟩
    have q := (hp.at_ i z p hz hi).2
    refine okD_list (pw_names q (fun t ht => ?_) (fun t ht => ?_))
    · obtain ⟨z, hz, rfl, _⟩ := ls_mem ht
      exact znm z (List.mem_of_mem_take hz)
    · obtain ⟨z, hz, rfl, _⟩ := rs_mem ht
      exact znm z (List.mem_of_mem_take hz)
  have ok3 : okD ps = true := okD_list okp
  rw [lcM_all (fun p : List Tr => p) (by rw [hp.len]; omega) fun _ _ => rfl]
  simp only [bs, List.map_id', stood_ok hall, decide_true, Bool.not_true, Bool.false_eq_true, if_false]
  rw [neO_ok (okHl ok2 ok1 ok3) (okHl ok2 ok1 ok3)]
  simp only [bs, decide_true, Bool.not_true, Bool.false_eq_true, if_false, walked_ok hall]
  rw [rngO_ok (by omega) (by omega) (by omega) (by rw [List.length_map]; omega)]
  simp only [bs]
  rw [forC_all fun y hy => by
    rw [mem_irange, List.length_map] at hy
    obtain ⟨k, rfl⟩ := Int.eq_ofNat_of_zero_le hy.1
    exact turn hall okp (by omega)]
  simp only [bs]
  rfl
end Wk68
set_option synthInstance.maxHeartbeats 4000000
set_option synthInstance.maxSize 20000
open PySem PySem.W PyProof.Rows in
set_option maxRecDepth 100000 in
set_option maxHeartbeats 0 in
theorem PySem.Challenge.cw_boxgalley_k68_papers_of_floats_holds : PySem.Challenge.rw_boxgalley_k68_papers_of_floats.Holds := by
  w_on; o_law; k_head; (case hw => w_witness2)
  k_fill
  refine L2.walk_of (l := PySem.Challenge.rw_boxgalley_k68_papers_of_floats) (n := 63) (k := 5) (x := "_law_script") (CX := fun _ => L2.CX0) (sp := fun w => Wk68.spLaw _) rfl (by decide) rfl ⟨rfl, by decide, by decide⟩ (fun w h Y => PySem.W.kIn_of Y) ?F (fun _ _ a ns hl _ hS => ⟨a, ns, rfl, hS, hl, fun _ => rfl⟩) (fun _ _ _ _ _ h => h)
  case F =>
    intro w mg fa h KX G hmg
    refine' Wk68.all_mk Wk68.law_main KX G hmg ?a_touches ?l_touches ?c_touches ?k_touches ?a_edges ?l_edges ?c_edges ?k_edges ?a_first_end ?l_first_end ?c_first_end ?k_first_end ?a_stand_floats ?l_stand_floats ?c_stand_floats ?k_stand_floats ?a_is_whole ?l_is_whole ?c_is_whole ?k_is_whole ?a_edge_by ?l_edge_by ?c_edge_by ?k_edge_by ?a_bars ?l_bars ?c_bars ?k_bars ?a_triple_shows ?l_triple_shows ?c_triple_shows ?k_triple_shows ?a_paper_shows ?l_paper_shows ?c_paper_shows ?k_paper_shows ?a_is_standing ?l_is_standing ?c_is_standing ?k_is_standing ?a_stands_there ?l_stands_there ?c_stands_there ?k_stands_there ?a_stood ?l_stood ?c_stood ?k_stood ?a__law_cell_at ?l__law_cell_at ?c__law_cell_at ?k__law_cell_at ?a__law_numbers ?l__law_numbers ?c__law_numbers ?k__law_numbers ?a__law_names ?l__law_names ?c__law_names ?k__law_names ?a__law_floats ?l__law_floats ?c__law_floats ?k__law_floats ?a__law_touch ?l__law_touch ?c__law_touch ?k__law_touch ?a__law_barred ?l__law_barred ?c__law_barred ?k__law_barred ?a__law_walked ?l__law_walked ?c__law_walked ?k__law_walked ?a_law ?l_law ?c_law ?k_law ?z_bool ?z_enumerate ?z_int ?z_isinstance ?z_len ?z_list ?z_min ?z_range ?z_str ?z_tuple
    (case a_touches => k_is)
    (case l_touches => k_is)
    (case c_touches => k_is)
    (case k_touches => k_is)
    (case a_edges => k_is)
    (case l_edges => k_is)
    (case c_edges => k_is)
    (case k_edges => k_is)
    (case a_first_end => k_is)
    (case l_first_end => k_is)
    (case c_first_end => k_is)
    (case k_first_end => k_is)
    (case a_stand_floats => k_is)
    (case l_stand_floats => k_is)
    (case c_stand_floats => k_is)
    (case k_stand_floats => k_is)
    (case a_is_whole => k_is)
    (case l_is_whole => k_is)
    (case c_is_whole => k_is)
    (case k_is_whole => k_is)
    (case a_edge_by => k_is)
    (case l_edge_by => k_is)
    (case c_edge_by => k_is)
    (case k_edge_by => k_is)
    (case a_bars => k_is)
    (case l_bars => k_is)
    (case c_bars => k_is)
    (case k_bars => k_is)
    (case a_triple_shows => k_is)
    (case l_triple_shows => k_is)
    (case c_triple_shows => k_is)
    (case k_triple_shows => k_is)
    (case a_paper_shows => k_is)
    (case l_paper_shows => k_is)
    (case c_paper_shows => k_is)
    (case k_paper_shows => k_is)
    (case a_is_standing => k_is)
    (case l_is_standing => k_is)
    (case c_is_standing => k_is)
    (case k_is_standing => k_is)
    (case a_stands_there => k_is)
    (case l_stands_there => k_is)
    (case c_stands_there => k_is)
    (case k_stands_there => k_is)
    (case a_stood => k_is)
    (case l_stood => k_is)
    (case c_stood => k_is)
    (case k_stood => k_is)
    (case a__law_cell_at => k_is)
    (case l__law_cell_at => k_is)
    (case c__law_cell_at => k_is)
    (case k__law_cell_at => k_is)
    (case a__law_numbers => k_is)
    (case l__law_numbers => k_is)
    (case c__law_numbers => k_is)
    (case k__law_numbers => k_is)
    (case a__law_names => k_is)
    (case l__law_names => k_is)
    (case c__law_names => k_is)
    (case k__law_names => k_is)
    (case a__law_floats => k_is)
    (case l__law_floats => k_is)
    (case c__law_floats => k_is)
    (case k__law_floats => k_is)
    (case a__law_touch => k_is)
    (case l__law_touch => k_is)
    (case c__law_touch => k_is)
    (case k__law_touch => k_is)
    (case a__law_barred => k_is)
    (case l__law_barred => k_is)
    (case c__law_barred => k_is)
    (case k__law_barred => k_is)
    (case a__law_walked => k_is)
    (case l__law_walked => k_is)
    (case c__law_walked => k_is)
    (case k__law_walked => k_is)
    (case a_law => k_is)
    (case l_law => k_is)
    (case c_law => k_is)
    (case k_law => k_is)
    (case z_bool => k_is)
    (case z_enumerate => k_is)
    (case z_int => k_is)
    (case z_isinstance => k_is)
    (case z_len => k_is)
    (case z_list => k_is)
    (case z_min => k_is)
    (case z_range => k_is)
    (case z_str => k_is)
    (case z_tuple => k_is)
