import PyProof.Rows.All
import Wide.All
import OpenK.AllK
import Wide.FinOn
import HandS.ForMost
import HandS.Evl
import HandS.Wide
import HandS.IsInst
import HandS.SortInts
import HandS.TupAny
import HandS.Dict
import KE.SortData
import HandS.Style
import HandS.More
import HandS.Sort
import HandS.StrMore
import PyProof.SumAny
import HandS.Text
import HandS.SortKw
import PySem.Challenge.RW_boxgalley_k32_whole_raises_add_up
set_option Elab.async false
set_option linter.all false
set_option maxRecDepth 100000
set_option maxHeartbeats 2000000
/-! Wk: typed mirrors over the hand layer: what a value stands for, a state by slots and owned objects, one rule a construct. -/
namespace Wk
open PySem PySem.Spec L2 Evl

abbrev Fg := PySem.W.Frag
/-- v stands for a, by what is known in H -/
class Rp (α : Type) where
  rep : Fg → Hp → V → α → Prop
  mono : ∀ {K : Fg} {H H' : Hp} {v : V} {a : α}, Ex H H' → rep K H v a → rep K H' v a
/-- the places of a tuple | the arguments of a call -/
class Tp (τ : Type) where
  n : Nat
  rept : Fg → Hp → List V → τ → Prop
  len : ∀ {K : Fg} {H : Hp} {vs : List V} {t : τ}, rept K H vs t → vs.length = n
  mono : ∀ {K : Fg} {H H' : Hp} {vs : List V} {t : τ}, Ex H H' → rept K H vs t → rept K H' vs t
abbrev rep {α : Type} [Rp α] (K : Fg) (H : Hp) (v : V) (a : α) : Prop := Rp.rep K H v a
abbrev rept {τ : Type} [Tp τ] (K : Fg) (H : Hp) (vs : List V) (t : τ) : Prop := Tp.rept K H vs t
/-- what needs no heap -/
class Fl (α : Type) [Rp α] where
  toV : α → V
  iff : ∀ {K : Fg} {H : Hp} {v : V} {a : α}, Rp.rep K H v a ↔ v = toV a

inductive Nn where | nn
  deriving DecidableEq
instance rpInt : Rp Int := { rep := fun _ _ v a => v = .int a, mono := fun _ h => h }
instance : Fl Int := { toV := V.int, iff := Iff.rfl }
instance rpBool : Rp Bool := { rep := fun _ _ v a => v = .bl a, mono := fun _ h => h }
instance : Fl Bool := { toV := V.bl, iff := Iff.rfl }
instance rpStr : Rp Str := { rep := fun _ _ v a => v = .str a, mono := fun _ h => h }
instance : Fl Str := { toV := V.str, iff := Iff.rfl }
instance rpNn : Rp Nn := { rep := fun _ _ v _ => v = .non, mono := fun _ h => h }
instance : Fl Nn := { toV := fun _ => V.non, iff := Iff.rfl }
/-- None, or something -/
instance {α : Type} [Rp α] : Rp (Option α) where
  rep K H v a := match a with | none => v = .non | some x => v ≠ .non ∧ rep K H v x
  mono {K H H' v a} e h := match a, h with
    | none, h => h
    | some _, h => ⟨h.1, Rp.mono e h.2⟩

theorem paired_mono {α : Type} [Rp α] {K : Fg} {H H' : Hp} (e : Ex H H') {vs : List V} {xs : List α} (h : Paired (rep K H) vs xs) : Paired (rep K H') vs xs :=
  Paired.mapP h fun _ _ q => Rp.mono e q
/-- a list that stands exactly so -/
instance {α : Type} [Rp α] : Rp (List α) where
  rep K H v xs := ∃ p vs, v = .ref p ∧ H p = some (.lst vs) ∧ Paired (rep K H) vs xs
  mono e h := by
    obtain ⟨p, vs, h1, h2, h3⟩ := h
    exact ⟨p, vs, h1, e _ _ h2, paired_mono e h3⟩
/-- a list that is read (the script, a list of the top) -/
structure Fz (α : Type) where
  l : List α
instance {α : Type} [Rp α] : Rp (Fz α) where
  rep K H v xs := ∃ p vs, v = .ref p ∧ SqL K H p vs ∧ Paired (rep K H) vs xs.l
  mono e h := by
    obtain ⟨p, vs, h1, h2, h3⟩ := h
    exact ⟨p, vs, h1, ex_l e h2, paired_mono e h3⟩
/-- a tuple of the top -/
structure Kt (α : Type) where
  l : List α
instance {α : Type} [Rp α] : Rp (Kt α) where
  rep K H v xs := ∃ p vs, v = .ref p ∧ SqT K H p vs ∧ Paired (rep K H) vs xs.l
  mono e h := by
    obtain ⟨p, vs, h1, h2, h3⟩ := h
    exact ⟨p, vs, h1, ex_t e h2, paired_mono e h3⟩
/-- a tuple of alike things, of any length -/
structure Tu (α : Type) where
  l : List α
  deriving DecidableEq
instance {α : Type} [Rp α] : Rp (Tu α) where
  rep K H v xs := ∃ p vs, v = .ref p ∧ H p = some (.tup vs) ∧ Paired (rep K H) vs xs.l
  mono e h := by
    obtain ⟨p, vs, h1, h2, h3⟩ := h
    exact ⟨p, vs, h1, e _ _ h2, paired_mono e h3⟩
instance : Tp Unit where
  n := 0
  rept _ _ vs _ := vs = []
  len h := by rw [h]; rfl
  mono _ h := h
instance {α τ : Type} [Rp α] [Tp τ] : Tp (α × τ) where
  n := Tp.n τ + 1
  rept K H vs t := ∃ v r, vs = v :: r ∧ rep K H v t.1 ∧ rept K H r t.2
  len h := by
    obtain ⟨v, r, h1, h2, h3⟩ := h
    rw [h1, List.length_cons, Tp.len h3]
  mono e h := by
    obtain ⟨v, r, h1, h2, h3⟩ := h
    exact ⟨v, r, h1, Rp.mono e h2, Tp.mono e h3⟩
/-- a tuple: (a, (b, (c, ()))) -/
instance {α τ : Type} [Rp α] [Tp τ] : Rp (α × τ) where
  rep K H v t := ∃ p vs, v = .ref p ∧ H p = some (.tup vs) ∧ rept K H vs t
  mono e h := by
    obtain ⟨p, vs, h1, h2, h3⟩ := h
    exact ⟨p, vs, h1, e _ _ h2, Tp.mono e h3⟩

/-! ### the state -/
inductive Sl : Type 1 where
  | any
  | val (α : Type) (i : Rp α) (x : α)
  | at (p : Addr)
def sv {α : Type} [i : Rp α] (x : α) : Sl := .val α i x
def Sl.ok (K : Fg) (Kn : Hp) : Sl → Option V → Prop
  | .any, _ => True
  | .val _ i x, o => ∃ v, o = some v ∧ i.rep K Kn v x
  | .at p, o => o = some (.ref p)
def SlsOk (K : Fg) (Kn : Hp) : List Sl → St → Prop
  | [], [] => True
  | s :: ss, o :: os => s.ok K Kn o ∧ SlsOk K Kn ss os
  | _, _ => False
theorem Sl.ok_mono {K : Fg} {H H' : Hp} (e : Ex H H') : ∀ {s : Sl} {o : Option V}, s.ok K H o → s.ok K H' o
  | .any, _, _ => trivial
  | .val _ i _, _, ⟨v, h1, h2⟩ => ⟨v, h1, i.mono e h2⟩
  | .at _, _, h => h
theorem SlsOk.mono {K : Fg} {H H' : Hp} (e : Ex H H') : ∀ {ss : List Sl} {σ : St}, SlsOk K H ss σ → SlsOk K H' ss σ
  | [], [], _ => trivial
  | _ :: _, _ :: _, h => ⟨Sl.ok_mono e h.1, SlsOk.mono e h.2⟩
theorem SlsOk.get {K : Fg} {H : Hp} : ∀ {ss : List Sl} {σ : St} {i : Nat} {s : Sl}, SlsOk K H ss σ → ss[i]? = some s → ∃ o, σ[i]? = some o ∧ s.ok K H o
  | _ :: _, o :: _, 0, _, h, e => by
    cases Option.some.inj e
    exact ⟨o, rfl, h.1⟩
  | _ :: ss, _ :: os, i + 1, s, h, e => SlsOk.get (ss := ss) (σ := os) (i := i) h.2 e
theorem SlsOk.set {K : Fg} {H : Hp} {s : Sl} {o : Option V} (hs : s.ok K H o) : ∀ {ss : List Sl} {σ : St} (i : Nat), SlsOk K H ss σ → SlsOk K H (ss.set i s) (σ.set i o)
  | [], [], _, _ => trivial
  | _ :: _, _ :: _, 0, h => ⟨hs, h.2⟩
  | _ :: _, _ :: _, i + 1, h => ⟨h.1, SlsOk.set hs i h.2⟩
/-- less is known -/
inductive SlLe : List Sl → List Sl → Prop
  | nil : SlLe [] []
  | keep {s : Sl} {a b : List Sl} : SlLe a b → SlLe (s :: a) (s :: b)
  | drop {s : Sl} {a b : List Sl} : SlLe a b → SlLe (s :: a) (.any :: b)
theorem SlLe.refl : ∀ (a : List Sl), SlLe a a
  | [] => .nil
  | _ :: r => .keep (SlLe.refl r)
theorem SlsOk.le {K : Fg} {H : Hp} : ∀ {a b : List Sl} {σ : St}, SlLe a b → SlsOk K H a σ → SlsOk K H b σ
  | _, _, [], .nil, _ => trivial
  | _, _, _ :: _, .keep l, h => ⟨h.1, SlsOk.le l h.2⟩
  | _, _, _ :: _, .drop l, h => ⟨trivial, SlsOk.le l h.2⟩

/-- what an object stands for, by what is known in H -/
class Ob (γ : Type) where
  ob : Fg → Hp → HO → γ → Prop
  mono : ∀ {K : Fg} {H H' : Hp} {o : HO} {x : γ}, Ex H H' → ob K H o x → ob K H' o x
/-- an object of one's own, that may change -/
inductive Ow : Type 1 where
  | lst (p : Addr) (α : Type) (i : Rp α) (xs : List α)
  | obj (p : Addr) (γ : Type) (i : Ob γ) (x : γ)
def oo {γ : Type} [i : Ob γ] (p : Addr) (x : γ) : Ow := .obj p γ i x
def ol {α : Type} [i : Rp α] (p : Addr) (xs : List α) : Ow := .lst p α i xs
def Ow.ad : Ow → Addr
  | .lst p _ _ _ => p
  | .obj p _ _ _ => p
def Ow.ok (K : Fg) (Kn H : Hp) : Ow → Prop
  | .lst p _ i xs => ∃ vs, H p = some (.lst vs) ∧ Paired (i.rep K Kn) vs xs
  | .obj p _ i x => ∃ o, H p = some o ∧ i.ob K Kn o x
theorem Ow.ok_mono {K : Fg} {Kn Kn' H H' : Hp} (e : Ex Kn Kn') : ∀ {o : Ow}, H' o.ad = H o.ad → o.ok K Kn H → o.ok K Kn' H'
  | .lst _ _ i _, eh, ⟨vs, h1, h2⟩ => ⟨vs, eh.trans h1, Paired.mapP h2 fun _ _ q => i.mono e q⟩
  | .obj _ _ i _, eh, ⟨o, h1, h2⟩ => ⟨o, eh.trans h1, i.mono e h2⟩
theorem ne_none_of {H : Hp} {p : Addr} {o : HO} (h : H p = some o) : H p ≠ none := fun z => by
  rw [h] at z
  cases z
theorem Ow.there {K : Fg} {Kn H : Hp} : ∀ {o : Ow}, o.ok K Kn H → H o.ad ≠ none
  | .lst p _ _ _, h => by
    obtain ⟨vs, h, _⟩ := h
    exact ne_none_of (show H p = some (.lst vs) from h)
  | .obj p _ _ _, h => by
    obtain ⟨o, h, _⟩ := h
    exact ne_none_of (show H p = some o from h)
structure OwsOk (K : Fg) (F Kn H : Hp) (ow : List Ow) : Prop where
  each : ∀ o ∈ ow, F o.ad = none ∧ Kn o.ad = none ∧ o.ok K Kn H
  nd : (ow.map Ow.ad).Nodup

/-- the state: F stands untouched, Kn is known (by and by more), the slots, the objects of one's own -/
structure S (K : Fg) (F Kn0 : Hp) (sl : List Sl) (ow : List Ow) (σ : St) (Kn H : Hp) : Prop where
  e0 : Ex Kn0 Kn
  ek : Ex Kn H
  ef : Ex F H
  sep : ∀ p, F p ≠ none → Kn0 p = none → Kn p = none
  sl : SlsOk K Kn sl σ
  ow : OwsOk K F Kn H ow

/-- growth: nothing that stood is touched, nothing that stood unknown is known -/
structure Gr (Kn H Kn' H' : Hp) : Prop where
  kk : Ex Kn Kn'
  hh : Ex H H'
  kh : Ex Kn' H'
  sp : ∀ p, H p ≠ none → Kn p = none → Kn' p = none
theorem Gr.refl {Kn H : Hp} (e : Ex Kn H) : Gr Kn H Kn H := ⟨Ex.refl _, Ex.refl _, e, fun _ _ h => h⟩
theorem Ex.nn {H H' : Hp} (e : Ex H H') {p : Addr} (h : H p ≠ none) : H' p ≠ none := by
  cases q : H p with
  | none => exact absurd q h
  | some o => exact ne_none_of (e _ _ q)
theorem Ex.at_eq {H H' : Hp} (e : Ex H H') {p : Addr} (h : H p ≠ none) : H' p = H p := by
  cases q : H p with
  | none => exact absurd q h
  | some o => exact e _ _ q
theorem Gr.trans {Kn H Kn1 H1 Kn2 H2 : Hp} (a : Gr Kn H Kn1 H1) (b : Gr Kn1 H1 Kn2 H2) : Gr Kn H Kn2 H2 :=
  ⟨a.kk.trans b.kk, a.hh.trans b.hh, b.kh, fun p h1 h2 => b.sp p (Ex.nn a.hh h1) (a.sp p h1 h2)⟩
/-- a new object, known -/
theorem Gr.new {Kn H : Hp} {p : Addr} {o : HO} (e : Ex Kn H) (hp : H p = none) : Gr Kn H (upd Kn p o) (upd H p o) := by
  have kp : Kn p = none := fresh_back e hp
  refine ⟨Ex.new kp, Ex.new hp, fun a u h => ?_, fun q h1 h2 => ?_⟩
  · by_cases hq : a = p
    · subst hq
      rw [upd_same] at h ⊢
      exact h
    · rw [upd_ne hq] at h ⊢
      exact e _ _ h
  · have hq : q ≠ p := fun z => by
      subst z
      exact h1 hp
    rw [upd_ne hq]
    exact h2
/-- a new object, not known yet -/
theorem Gr.newU {Kn H : Hp} {p : Addr} {o : HO} (e : Ex Kn H) (hp : H p = none) : Gr Kn H Kn (upd H p o) :=
  ⟨Ex.refl _, Ex.new hp, e.trans (Ex.new hp), fun _ _ h2 => h2⟩
/-- what was new is known from now on -/
theorem Gr.know {Kn H Kn' H' : Hp} {p : Addr} {o : HO} (g : Gr Kn H Kn' H') (hp : H p = none) (kp : Kn' p = none) (hp' : H' p = some o) : Gr Kn H (upd Kn' p o) H' :=
  ⟨g.kk.trans (Ex.new kp), g.hh, fun a u h => by
    by_cases hq : a = p
    · subst hq
      rw [upd_same] at h
      rw [← h]
      exact hp'
    · rw [upd_ne hq] at h
      exact g.kh _ _ h, fun q h1 h2 => by
    have hq : q ≠ p := fun z => by
      subst z
      exact h1 hp
    rw [upd_ne hq]
    exact g.sp q h1 h2⟩

section
variable {K : Fg} {F Kn0 : Hp} {sl sl' : List Sl} {ow ow' : List Ow} {σ : St} {Kn H Kn' H' : Hp}
theorem S.grow (s : S K F Kn0 sl ow σ Kn H) (g : Gr Kn H Kn' H') : S K F Kn0 sl ow σ Kn' H' :=
  ⟨s.e0.trans g.kk, g.kh, s.ef.trans g.hh, fun p h1 h2 => g.sp p (Ex.nn s.ef h1) (s.sep p h1 h2), s.sl.mono g.kk,
    ⟨fun o ho => by
      obtain ⟨h1, h2, h3⟩ := s.ow.each o ho
      have h4 := Ow.there h3
      exact ⟨h1, g.sp _ h4 h2, Ow.ok_mono g.kk (Ex.at_eq g.hh h4) h3⟩, s.ow.nd⟩⟩
theorem S.le (s : S K F Kn0 sl ow σ Kn H) (l : SlLe sl sl') : S K F Kn0 sl' ow σ Kn H := ⟨s.e0, s.ek, s.ef, s.sep, s.sl.le l, s.ow⟩
theorem S.set (s : S K F Kn0 sl ow σ Kn H) {x : Sl} {o : Option V} (i : Nat) (h : x.ok K Kn o) : S K F Kn0 (sl.set i x) ow (σ.set i o) Kn H :=
  ⟨s.e0, s.ek, s.ef, s.sep, SlsOk.set h i s.sl, s.ow⟩
theorem S.setv (s : S K F Kn0 sl ow σ Kn H) {α : Type} [Rp α] {x : α} {v : V} (i : Nat) (h : rep K Kn v x) : S K F Kn0 (sl.set i (sv x)) ow (σ.set i (some v)) Kn H :=
  s.set i ⟨v, rfl, h⟩
/-- some objects are not named any more -/
theorem S.sub (s : S K F Kn0 sl ow σ Kn H) (l : ow'.Sublist ow) : S K F Kn0 sl ow' σ Kn H :=
  ⟨s.e0, s.ek, s.ef, s.sep, s.sl, ⟨fun o ho => s.ow.each o (l.subset ho), s.ow.nd.sublist (l.map _)⟩⟩
theorem S.fin (s : S K F Kn0 sl ow σ Kn H) : S K F Kn0 [] ow [] Kn H := ⟨s.e0, s.ek, s.ef, s.sep, trivial, s.ow⟩
end

/-! ### the judgements -/
section
variable (K : Fg) (F Kn0 : Hp) (sl : List Sl) (ow : List Ow)
def EV {α : Type} [Rp α] (te : TE) (x : α) : Prop := ∀ σ Kn H, S K F Kn0 sl ow σ Kn H → ∀ Q : VK, (∀ v Kn' H', Gr Kn H Kn' H' → rep K Kn' v x → Q v H') → te σ H Q
/-- a new list -/
def EN {α : Type} [Rp α] (te : TE) (xs : List α) : Prop := ∀ σ Kn H, S K F Kn0 sl ow σ Kn H → ∀ Q : VK,
  (∀ p ws Kn' H', Gr Kn H Kn' H' → H p = none → Kn' p = none → H' p = some (.lst ws) → Paired (rep K Kn') ws xs → Q (.ref p) H') → te σ H Q
/-- what is changed on the way is told: ow, then ow' -/
def EM {α : Type} [Rp α] (te : TE) (ow' : List Ow) (x : α) : Prop := ∀ σ Kn H, S K F Kn0 sl ow σ Kn H → ∀ Q : VK,
  (∀ v Kn' H', Ex Kn Kn' → S K F Kn0 sl ow' σ Kn' H' → rep K Kn' v x → Q v H') → te σ H Q
def ENM {α : Type} [Rp α] (te : TE) (ow' : List Ow) (xs : List α) : Prop := ∀ σ Kn H, S K F Kn0 sl ow σ Kn H → ∀ Q : VK,
  (∀ p ws Kn' H', Ex Kn Kn' → S K F Kn0 sl ow' σ Kn' H' → F p = none → Kn' p = none → (∀ o ∈ ow', o.ad ≠ p) → H' p = some (.lst ws) → Paired (rep K Kn') ws xs → Q (.ref p) H') → te σ H Q
def ET (tt : TT) (b : Bool) : Prop := ∀ σ Kn H, S K F Kn0 sl ow σ Kn H → ∀ Q : Bool → Hp → Prop, (∀ Kn' H', Gr Kn H Kn' H' → Q b H') → tt σ H Q
def EA {τ : Type} [Tp τ] (ta : TA) (t : τ) : Prop := ∀ σ Kn H, S K F Kn0 sl ow σ Kn H → ∀ Q : List V → Hp → Prop, (∀ vs Kn' H', Gr Kn H Kn' H' → rept K Kn' vs t → Q vs H') → ta σ H Q
def EAM {τ : Type} [Tp τ] (ta : TA) (ow' : List Ow) (t : τ) : Prop := ∀ σ Kn H, S K F Kn0 sl ow σ Kn H → ∀ Q : List V → Hp → Prop,
  (∀ vs Kn' H', Ex Kn Kn' → S K F Kn0 sl ow' σ Kn' H' → rept K Kn' vs t → Q vs H') → ta σ H Q
def SB (D : Ends) (ts : TS) : Prop := ∀ σ Kn H, S K F Kn0 sl ow σ Kn H → ts D σ H
/-- what is wanted of a return -/
def RT (R : VK) {α : Type} [Rp α] (x : α) : Prop := ∀ v Kn H, S K F Kn0 [] ow [] Kn H → rep K Kn v x → R v H
def RN (R : VK) {α : Type} [Rp α] (xs : List α) : Prop := ∀ p ws Kn H, S K F Kn0 [] ow [] Kn H → F p = none → Kn p = none → H p = some (.lst ws) → Paired (rep K Kn) ws xs → R (.ref p) H
end

section
variable {K : Fg} {F Kn0 : Hp} {sl sl' : List Sl} {ow ow1 ow2 : List Ow} {α β γ : Type} [Rp α] [Rp β] [Rp γ] {ta tb te : TE} {x : α} {y : β} {z : γ}
theorem EN.ev {xs : List α} (h : EN K F Kn0 sl ow te xs) : EV K F Kn0 sl ow te xs := fun σ Kn H s Q q => h σ Kn H s Q fun p ws Kn' H' g hp kp hw r =>
  q _ (upd Kn' p (.lst ws)) H' (g.know hp kp hw) ⟨p, ws, rfl, upd_same, paired_mono (Ex.new kp) r⟩
theorem EV.em (h : EV K F Kn0 sl ow te x) : EM K F Kn0 sl ow te ow x := fun σ Kn H s Q q => h σ Kn H s Q fun v Kn' H' g r => q v Kn' H' g.kk (s.grow g) r
theorem owned_ne {σ : St} {Kn H : Hp} (s : S K F Kn0 sl ow σ Kn H) {p : Addr} (hp : H p = none) : ∀ o ∈ ow, o.ad ≠ p := fun o ho z => by
  have := Ow.there (s.ow.each o ho).2.2
  rw [z] at this
  exact this hp
theorem EN.em {xs : List α} (h : EN K F Kn0 sl ow te xs) : ENM K F Kn0 sl ow te ow xs := fun σ Kn H s Q q => h σ Kn H s Q fun p ws Kn' H' g hp kp hw r =>
  q p ws Kn' H' g.kk (s.grow g) (fresh_back s.ef hp) kp (owned_ne s hp) hw r
theorem S.know {σ : St} {Kn H : Hp} (s : S K F Kn0 sl ow σ Kn H) {p : Addr} {o : HO} (fp : F p = none) (kp : Kn p = none) (no : ∀ o ∈ ow, o.ad ≠ p) (hp : H p = some o) : S K F Kn0 sl ow σ (upd Kn p o) H :=
  ⟨s.e0.trans (Ex.new kp), fun a u h => by
    by_cases hq : a = p
    · subst hq
      rw [upd_same] at h
      rw [← h]
      exact hp
    · rw [upd_ne hq] at h
      exact s.ek _ _ h, s.ef, fun q h1 h2 => by
    have hq : q ≠ p := fun z => by
      subst z
      exact h1 fp
    rw [upd_ne hq]
    exact s.sep q h1 h2, s.sl.mono (Ex.new kp), ⟨fun o ho => by
      obtain ⟨h1, h2, h3⟩ := s.ow.each o ho
      exact ⟨h1, by rw [upd_ne (no o ho)]; exact h2, Ow.ok_mono (Ex.new kp) rfl h3⟩, s.ow.nd⟩⟩
theorem ENM.em {xs : List α} (h : ENM K F Kn0 sl ow te ow1 xs) : EM K F Kn0 sl ow te ow1 xs := fun σ Kn H s Q q => h σ Kn H s Q fun p ws Kn' H' e s' fp kp no hw r =>
  q _ (upd Kn' p (.lst ws)) H' (e.trans (Ex.new kp)) (s'.know fp kp no hw) ⟨p, ws, rfl, upd_same, paired_mono (Ex.new kp) r⟩
theorem EV.cast {x' : α} (h : EV K F Kn0 sl ow te x) (e : x = x') : EV K F Kn0 sl ow te x' := e ▸ h
theorem ET.cast {tt : TT} {b b' : Bool} (h : ET K F Kn0 sl ow tt b) (e : b = b') : ET K F Kn0 sl ow tt b' := e ▸ h
end
end Wk
/-! Wk2: rules for expressions -/
namespace Wk
open PySem PySem.Spec L2 Evl
section
variable {K : Fg} {F Kn0 : Hp} {sl sl' : List Sl} {ow ow1 ow2 : List Ow} {α β γ τ : Type} [Rp α] [Rp β] [Rp γ] [Tp τ] {ta tb te : TE} {x : α} {y : β} {z : γ}

theorem paired_fl {α : Type} [Rp α] [Fl α] {H : Hp} : ∀ {vs : List V} {xs : List α}, Paired (rep K H) vs xs → vs = xs.map Fl.toV
  | _, _, .nil => rfl
  | _, _, .cons h t => by rw [List.map_cons, ← paired_fl t, Fl.iff.mp h]
theorem fl_paired {α : Type} [Rp α] [Fl α] {H : Hp} : ∀ (xs : List α), Paired (rep K H) (xs.map Fl.toV) xs
  | [] => .nil
  | _ :: t => .cons (Fl.iff.mpr rfl) (fl_paired t)
theorem paired_len {H : Hp} {vs : List V} {xs : List α} (h : Paired (rep K H) vs xs) : vs.length = xs.length := Paired.length h
theorem paired_at {F : V → α → Prop} : ∀ {vs : List V} {xs : List α}, Paired F vs xs → ∀ {j : Nat} {a : α}, xs[j]? = some a → ∃ v, vs[j]? = some v ∧ F v a
  | _, _, .nil, _, _, e => by simp at e
  | _, _, .cons r _, 0, _, e => by
    simp at e
    subst e
    exact ⟨_, rfl, r⟩
  | _, _, .cons _ t, j + 1, a, e => by
    obtain ⟨v, h1, h2⟩ := paired_at t (j := j) (a := a) (by simpa using e)
    exact ⟨v, by simpa using h1, h2⟩
theorem paired_append {F : V → α → Prop} : ∀ {vs ws : List V} {xs ys : List α}, Paired F vs xs → Paired F ws ys → Paired F (vs ++ ws) (xs ++ ys)
  | _, _, _, _, .nil, h => h
  | _, _, _, _, .cons r t, h => .cons r (paired_append t h)
theorem paired_drop {F : V → α → Prop} : ∀ {vs : List V} {xs : List α} (n : Nat), Paired F vs xs → Paired F (vs.drop n) (xs.drop n)
  | _, _, 0, h => h
  | _, _, _ + 1, .nil => .nil
  | _, _, n + 1, .cons _ t => paired_drop n t
theorem paired_take {F : V → α → Prop} : ∀ {vs : List V} {xs : List α} (n : Nat), Paired F vs xs → Paired F (vs.take n) (xs.take n)
  | _, _, 0, _ => .nil
  | _, _, _ + 1, .nil => .nil
  | _, _, n + 1, .cons r t => .cons r (paired_take n t)
theorem paired_set {F : V → α → Prop} {v : V} {a : α} (h : F v a) : ∀ {vs : List V} {xs : List α} (n : Nat), Paired F vs xs → Paired F (vs.set n v) (xs.set n a)
  | _, _, _, .nil => .nil
  | _, _, 0, .cons _ t => .cons h t
  | _, _, n + 1, .cons r t => .cons r (paired_set h n t)
theorem paired_atI {H : Hp} {vs : List V} {xs : List α} (h : Paired (rep K H) vs xs) {i : Int} {a : α} (e : atI xs i = some a) : ∃ v, atI vs i = some v ∧ rep K H v a := by
  unfold atI at e ⊢
  rw [paired_len h]
  cases q : ixN xs.length i with
  | none => rw [q] at e; cases e
  | some j =>
    rw [q] at e
    exact paired_at h e

/-! ### results of rules by values -/
def RS (K : Fg) (Kn H : Hp) (Q : VK) (z : γ) : Prop := ∀ u Kn' H', Gr Kn H Kn' H' → rep K Kn' u z → Q u H'
def RL (K : Fg) (Kn H : Hp) (Q : VK) (zs : List γ) : Prop := ∀ p ws Kn' H', Gr Kn H Kn' H' → H p = none → Kn' p = none → H' p = some (.lst ws) → Paired (rep K Kn') ws zs → Q (.ref p) H'
theorem RS.rl {Kn H : Hp} {Q : VK} {zs : List γ} (h : RS K Kn H Q zs) : RL K Kn H Q zs := fun p ws Kn' H' g hp kp hw r =>
  h _ (upd Kn' p (.lst ws)) H' (g.know hp kp hw) ⟨p, ws, rfl, upd_same, paired_mono (Ex.new kp) r⟩
theorem RS.fl {γ : Type} [Rp γ] [Fl γ] {z : γ} {Kn H : Hp} {Q : VK} (h : RS K Kn H Q z) (e : Ex Kn H) : Q (Fl.toV z) H := h _ Kn H (Gr.refl e) (Fl.iff.mpr rfl)
theorem RS.at {Kn H : Hp} {Q : VK} {z : γ} (h : RS K Kn H Q z) (e : Ex Kn H) {v : V} (r : rep K Kn v z) : Q v H := h _ Kn H (Gr.refl e) r

def R1V (r : V → Hp → VK → Prop) (x : α) (z : γ) : Prop := ∀ (K : Fg) Kn H v, Ex Kn H → rep K Kn v x → ∀ Q, RS K Kn H Q z → r v H Q
def R2V (K : Fg) (r : R2) (x : α) (y : β) (z : γ) : Prop := ∀ Kn H v w, Ex Kn H → rep K Kn v x → rep K Kn w y → ∀ Q, RS K Kn H Q z → r v w H Q
def R2L (K : Fg) (r : R2) (x : α) (y : β) (zs : List γ) : Prop := ∀ Kn H v w, Ex Kn H → rep K Kn v x → rep K Kn w y → ∀ Q, RL K Kn H Q zs → r v w H Q
def RCV (K : Fg) (r : List V → Hp → VK → Prop) (t : τ) (z : γ) : Prop := ∀ Kn H vs, Ex Kn H → rept K Kn vs t → ∀ Q, RS K Kn H Q z → r vs H Q
def RCL (K : Fg) (r : List V → Hp → VK → Prop) (t : τ) (zs : List γ) : Prop := ∀ Kn H vs, Ex Kn H → rept K Kn vs t → ∀ Q, RL K Kn H Q zs → r vs H Q

/-! ### names, constants, operators -/
theorem ev_var {i : Nat} (h : sl[i]? = some (sv x)) : EV K F Kn0 sl ow (tVar i) x := fun σ Kn H s Q q => by
  obtain ⟨o, h1, v, h2, h3⟩ := s.sl.get h
  exact ⟨v, by rw [h1, h2], q v Kn H (Gr.refl s.ek) h3⟩
theorem ev_c {γ : Type} [Rp γ] [Fl γ] (z : γ) {v : V} (e : v = Fl.toV z := by rfl) : EV K F Kn0 sl ow (tC v) z := fun σ Kn H s Q q => q v Kn H (Gr.refl s.ek) (Fl.iff.mpr e)
theorem ev_none : EV K F Kn0 sl ow (tC .non) (none : Option α) := fun σ Kn H s Q q => q .non Kn H (Gr.refl s.ek) rfl
theorem ev_un {r : V → Hp → VK → Prop} (ha : EV K F Kn0 sl ow ta x) (hr : R1V r x z) : EV K F Kn0 sl ow (tUn r ta) z := fun σ Kn H s Q q =>
  ha σ Kn H s _ fun v Kn1 H1 g1 r1 => hr K Kn1 H1 v g1.kh r1 Q fun u Kn' H' g' r' => q u Kn' H' (g1.trans g') r'
theorem ev_op {r : R2} (ha : EV K F Kn0 sl ow ta x) (hb : EV K F Kn0 sl ow tb y) (hr : R2V K r x y z) : EV K F Kn0 sl ow (tOp r ta tb) z := fun σ Kn H s Q q =>
  ha σ Kn H s _ fun v Kn1 H1 g1 r1 => hb σ Kn1 H1 (s.grow g1) _ fun w Kn2 H2 g2 r2 => hr Kn2 H2 v w g2.kh (Rp.mono g2.kk r1) r2 Q fun u Kn' H' g' r' => q u Kn' H' ((g1.trans g2).trans g') r'
theorem en_op {r : R2} {zs : List γ} (ha : EV K F Kn0 sl ow ta x) (hb : EV K F Kn0 sl ow tb y) (hr : R2L K r x y zs) : EN K F Kn0 sl ow (tOp r ta tb) zs := fun σ Kn H s Q q =>
  ha σ Kn H s _ fun v Kn1 H1 g1 r1 => hb σ Kn1 H1 (s.grow g1) _ fun w Kn2 H2 g2 r2 => hr Kn2 H2 v w g2.kh (Rp.mono g2.kk r1) r2 Q fun p ws Kn' H' g' hp kp hw r' =>
    q p ws Kn' H' ((g1.trans g2).trans g') (fresh_back (g1.trans g2).hh hp) kp hw r'
theorem em_op {r : R2} (ha : EM K F Kn0 sl ow ta ow1 x) (hb : EM K F Kn0 sl ow1 tb ow2 y) (hr : R2V K r x y z) : EM K F Kn0 sl ow (tOp r ta tb) ow2 z := fun σ Kn H s Q q =>
  ha σ Kn H s _ fun v Kn1 H1 e1 s1 r1 => hb σ Kn1 H1 s1 _ fun w Kn2 H2 e2 s2 r2 => hr Kn2 H2 v w s2.ek (Rp.mono e2 r1) r2 Q fun u Kn' H' g' r' => q u Kn' H' ((e1.trans e2).trans g'.kk) (s2.grow g') r'
theorem r2_I0 {γ : Type} [Rp γ] [Fl γ] {z : γ} {g : Int → Int → V} {i j : Int} (e : g i j = Fl.toV z := by rfl) : R2V K (rI0 g) i j z := fun Kn H v w ek h1 h2 Q q => ⟨i, j, h1, h2, e ▸ q.fl ek⟩
theorem r2_I {γ : Type} [Rp γ] [Fl γ] {z : γ} {C : Int → Int → Prop} {g : Int → Int → V} {i j : Int} (c : C i j) (e : g i j = Fl.toV z := by rfl) : R2V K (rI C g) i j z := fun Kn H v w ek h1 h2 Q q => ⟨i, j, h1, h2, c, e ▸ q.fl ek⟩
theorem r1_neg {i : Int} : R1V (rU fun i => .int (-i)) i (-i) := fun K Kn H v ek h1 Q q => ⟨i, h1, q.fl ek⟩
theorem r2_eqI {i j : Int} : R2V K rEq i j (decide (i = j)) := fun Kn H v w ek h1 h2 Q q => by
  cases h1
  cases h2
  refine ⟨rfl, ?_⟩
  have e : decide (V.int i = V.int j) = decide (i = j) := by simp
  rw [e]
  exact q.fl ek
theorem r2_neI {i j : Int} : R2V K rNe i j (!decide (i = j)) := fun Kn H v w ek h1 h2 Q q => by
  cases h1
  cases h2
  refine ⟨rfl, ?_⟩
  have e : decide (V.int i = V.int j) = decide (i = j) := by simp
  rw [e]
  exact q.fl ek
theorem r2_eqS {i j : Str} : R2V K rEq i j (decide (i = j)) := fun Kn H v w ek h1 h2 Q q => by
  cases h1
  cases h2
  refine ⟨rfl, ?_⟩
  have e : decide (V.str i = V.str j) = decide (i = j) := by simp
  rw [e]
  exact q.fl ek
theorem r2_neS {i j : Str} : R2V K rNe i j (!decide (i = j)) := fun Kn H v w ek h1 h2 Q q => by
  cases h1
  cases h2
  refine ⟨rfl, ?_⟩
  have e : decide (V.str i = V.str j) = decide (i = j) := by simp
  rw [e]
  exact q.fl ek
theorem r2_eqB {i j : Bool} : R2V K rEq i j (decide (i = j)) := fun Kn H v w ek h1 h2 Q q => by
  cases h1
  cases h2
  refine ⟨rfl, ?_⟩
  have e : decide (V.bl i = V.bl j) = decide (i = j) := by simp
  rw [e]
  exact q.fl ek

/-! ### arguments, tuples, lists -/
theorem ea_nil : EA K F Kn0 sl ow tNil () := fun σ Kn H s Q q => q [] Kn H (Gr.refl s.ek) rfl
theorem ea_cons {tr : TA} {t : τ} (h : EV K F Kn0 sl ow ta x) (hr : EA K F Kn0 sl ow tr t) : EA K F Kn0 sl ow (tCons ta tr) (x, t) := fun σ Kn H s Q q =>
  h σ Kn H s _ fun v Kn1 H1 g1 r1 => hr σ Kn1 H1 (s.grow g1) _ fun vs Kn2 H2 g2 r2 => q _ Kn2 H2 (g1.trans g2) ⟨v, vs, rfl, Rp.mono g2.kk r1, r2⟩
theorem eam_nil : EAM K F Kn0 sl ow tNil ow () := fun σ Kn H s Q q => q [] Kn H (Ex.refl _) s rfl
theorem eam_cons {tr : TA} {t : τ} (h : EM K F Kn0 sl ow ta ow1 x) (hr : EAM K F Kn0 sl ow1 tr ow2 t) : EAM K F Kn0 sl ow (tCons ta tr) ow2 (x, t) := fun σ Kn H s Q q =>
  h σ Kn H s _ fun v Kn1 H1 e1 s1 r1 => hr σ Kn1 H1 s1 _ fun vs Kn2 H2 e2 s2 r2 => q _ Kn2 H2 (e1.trans e2) s2 ⟨v, vs, rfl, Rp.mono e2 r1, r2⟩
theorem EA.eam {ta : TA} {t : τ} (h : EA K F Kn0 sl ow ta t) : EAM K F Kn0 sl ow ta ow t := fun σ Kn H s Q q => h σ Kn H s Q fun vs Kn' H' g r => q vs Kn' H' g.kk (s.grow g) r
/-- alike things -/
def EL {α : Type} [Rp α] (K : Fg) (F Kn0 : Hp) (sl : List Sl) (ow : List Ow) (ta : TA) (xs : List α) : Prop := ∀ σ Kn H, S K F Kn0 sl ow σ Kn H → ∀ Q : List V → Hp → Prop, (∀ vs Kn' H', Gr Kn H Kn' H' → Paired (rep K Kn') vs xs → Q vs H') → ta σ H Q
def ELM {α : Type} [Rp α] (K : Fg) (F Kn0 : Hp) (sl : List Sl) (ow : List Ow) (ta : TA) (ow' : List Ow) (xs : List α) : Prop := ∀ σ Kn H, S K F Kn0 sl ow σ Kn H → ∀ Q : List V → Hp → Prop, (∀ vs Kn' H', Ex Kn Kn' → S K F Kn0 sl ow' σ Kn' H' → Paired (rep K Kn') vs xs → Q vs H') → ta σ H Q
theorem el_nil : EL K F Kn0 sl ow tNil ([] : List α) := fun σ Kn H s Q q => q [] Kn H (Gr.refl s.ek) .nil
theorem el_cons {tr : TA} {xs : List α} (h : EV K F Kn0 sl ow ta x) (hr : EL K F Kn0 sl ow tr xs) : EL K F Kn0 sl ow (tCons ta tr) (x :: xs) := fun σ Kn H s Q q =>
  h σ Kn H s _ fun v Kn1 H1 g1 r1 => hr σ Kn1 H1 (s.grow g1) _ fun vs Kn2 H2 g2 r2 => q _ Kn2 H2 (g1.trans g2) (.cons (Rp.mono g2.kk r1) r2)
theorem elm_nil : ELM K F Kn0 sl ow tNil ow ([] : List α) := fun σ Kn H s Q q => q [] Kn H (Ex.refl _) s .nil
theorem elm_cons {tr : TA} {xs : List α} (h : EM K F Kn0 sl ow ta ow1 x) (hr : ELM K F Kn0 sl ow1 tr ow2 xs) : ELM K F Kn0 sl ow (tCons ta tr) ow2 (x :: xs) := fun σ Kn H s Q q =>
  h σ Kn H s _ fun v Kn1 H1 e1 s1 r1 => hr σ Kn1 H1 s1 _ fun vs Kn2 H2 e2 s2 r2 => q _ Kn2 H2 (e1.trans e2) s2 (.cons (Rp.mono e2 r1) r2)
theorem le_line {n : Nat} (h : n ≤ 1000000) : n ≤ sizeLine := Nat.le_trans h (by decide)
theorem lt_line {n : Nat} (h : n < 1000000) : n < sizeLine := Nat.lt_of_lt_of_le h (by decide)
theorem en_lst {ta : TA} {xs : List α} (h : EL K F Kn0 sl ow ta xs) (hz : xs.length ≤ 1000000 := by exact Nat.le_of_ble_eq_true rfl) : EN K F Kn0 sl ow (tLst ta) xs := fun σ Kn H s Q q =>
  h σ Kn H s _ fun vs Kn1 H1 g1 r1 => ⟨by rw [paired_len r1]; exact le_line hz, fun p hp => q p vs Kn1 _ (g1.trans (Gr.newU g1.kh hp)) (fresh_back g1.hh hp) (fresh_back g1.kh hp) upd_same r1⟩
theorem enm_lst {ta : TA} {xs : List α} (h : ELM K F Kn0 sl ow ta ow1 xs) (hz : xs.length ≤ 1000000 := by exact Nat.le_of_ble_eq_true rfl) : ENM K F Kn0 sl ow (tLst ta) ow1 xs := fun σ Kn H s Q q =>
  h σ Kn H s _ fun vs Kn1 H1 e1 s1 r1 => ⟨by rw [paired_len r1]; exact le_line hz, fun p hp =>
    q p vs Kn1 _ e1 (s1.grow (Gr.newU s1.ek hp)) (fresh_back s1.ef hp) (fresh_back s1.ek hp) (owned_ne s1 hp) upd_same r1⟩
theorem ev_tup {ta : TA} {t : α × τ} (h : EA K F Kn0 sl ow ta t) (hz : Tp.n (α × τ) ≤ 1000000 := by decide) : EV K F Kn0 sl ow (tTup ta) t := fun σ Kn H s Q q =>
  h σ Kn H s _ fun vs Kn1 H1 g1 r1 => ⟨by rw [Tp.len r1]; exact le_line hz, fun p hp =>
    q _ (upd Kn1 p (.tup vs)) _ (g1.trans (Gr.new g1.kh hp)) ⟨p, vs, rfl, upd_same, Tp.mono (Gr.new g1.kh hp).kk r1⟩⟩
theorem em_tup {ta : TA} {t : α × τ} (h : EAM K F Kn0 sl ow ta ow1 t) (hz : Tp.n (α × τ) ≤ 1000000 := by decide) : EM K F Kn0 sl ow (tTup ta) ow1 t := fun σ Kn H s Q q =>
  h σ Kn H s _ fun vs Kn1 H1 e1 s1 r1 => ⟨by rw [Tp.len r1]; exact le_line hz, fun p hp =>
    q _ (upd Kn1 p (.tup vs)) _ (e1.trans (Gr.new s1.ek hp).kk) (s1.grow (Gr.new s1.ek hp)) ⟨p, vs, rfl, upd_same, Tp.mono (Gr.new s1.ek hp).kk r1⟩⟩
theorem ev_tuH {ta : TA} {xs : List α} (h : EL K F Kn0 sl ow ta xs) (hz : xs.length ≤ 1000000 := by exact Nat.le_of_ble_eq_true rfl) : EV K F Kn0 sl ow (tTup ta) (Tu.mk xs) := fun σ Kn H s Q q =>
  h σ Kn H s _ fun vs Kn1 H1 g1 r1 => ⟨by rw [paired_len r1]; exact le_line hz, fun p hp =>
    q _ (upd Kn1 p (.tup vs)) _ (g1.trans (Gr.new g1.kh hp)) ⟨p, vs, rfl, upd_same, paired_mono (Gr.new g1.kh hp).kk r1⟩⟩

/-! ### built-ins, defs -/
theorem ev_cb {r : List V → Hp → VK → Prop} {ta : TA} {t : τ} (h : EA K F Kn0 sl ow ta t) (hr : RCV K r t z) : EV K F Kn0 sl ow (tCB r ta) z := fun σ Kn H s Q q =>
  h σ Kn H s _ fun vs Kn1 H1 g1 r1 => hr Kn1 H1 vs g1.kh r1 Q fun u Kn' H' g' r' => q u Kn' H' (g1.trans g') r'
theorem en_cb {r : List V → Hp → VK → Prop} {ta : TA} {t : τ} {zs : List γ} (h : EA K F Kn0 sl ow ta t) (hr : RCL K r t zs) : EN K F Kn0 sl ow (tCB r ta) zs := fun σ Kn H s Q q =>
  h σ Kn H s _ fun vs Kn1 H1 g1 r1 => hr Kn1 H1 vs g1.kh r1 Q fun p ws Kn' H' g' hp kp hw r' => q p ws Kn' H' (g1.trans g') (fresh_back g1.hh hp) kp hw r'
theorem em_cb {r : List V → Hp → VK → Prop} {ta : TA} {t : τ} (h : EAM K F Kn0 sl ow ta ow1 t) (hr : RCV K r t z) : EM K F Kn0 sl ow (tCB r ta) ow1 z := fun σ Kn H s Q q =>
  h σ Kn H s _ fun vs Kn1 H1 e1 s1 r1 => hr Kn1 H1 vs s1.ek r1 Q fun u Kn' H' g' r' => q u Kn' H' (e1.trans g'.kk) (s1.grow g') r'
theorem one_arg {Kn : Hp} {vs : List V} {x : α} (h : rept K Kn vs (x, ())) : ∃ v, vs = [v] ∧ rep K Kn v x := by
  obtain ⟨v, r, rfl, h1, h2⟩ := h
  cases h2
  exact ⟨v, rfl, h1⟩
theorem two_args {Kn : Hp} {vs : List V} {x : α} {y : β} (h : rept K Kn vs (x, y, ())) : ∃ v w, vs = [v, w] ∧ rep K Kn v x ∧ rep K Kn w y := by
  obtain ⟨v, r, rfl, h1, h2⟩ := h
  obtain ⟨w, rfl, h3⟩ := one_arg h2
  exact ⟨v, w, rfl, h1, h3⟩
theorem rc_max {i j : Int} : RCV K (fun xs H Q => ∃ i j, xs = [.int i, .int j] ∧ Q (.int (if j > i then j else i)) H) (i, j, ()) (max i j) := fun Kn H vs ek h Q q => by
  obtain ⟨v, w, rfl, h1, h2⟩ := two_args h
  cases h1
  cases h2
  refine ⟨i, j, rfl, ?_⟩
  have e : (if j > i then j else i) = max i j := by split <;> omega
  rw [e]
  exact q.fl ek
theorem rc_min {i j : Int} : RCV K (fun xs H Q => ∃ i j, xs = [.int i, .int j] ∧ Q (.int (if j < i then j else i)) H) (i, j, ()) (min i j) := fun Kn H vs ek h Q q => by
  obtain ⟨v, w, rfl, h1, h2⟩ := two_args h
  cases h1
  cases h2
  refine ⟨i, j, rfl, ?_⟩
  have e : (if j < i then j else i) = min i j := by split <;> omega
  rw [e]
  exact q.fl ek
theorem rc_abs {i : Int} : RCV K (fun xs H Q => ∃ i, xs = [.int i] ∧ Q (.int (if i < 0 then -i else i)) H) (i, ()) ((i.natAbs : Int)) := fun Kn H vs ek h Q q => by
  obtain ⟨v, rfl, h1⟩ := one_arg h
  cases h1
  refine ⟨i, rfl, ?_⟩
  have e : (if i < 0 then -i else i) = (i.natAbs : Int) := by split <;> omega
  rw [e]
  exact q.fl ek
theorem rc_len {xs : List α} : RCV K (fun xs H Q => ∃ p ys, xs = [.ref p] ∧ (SqL K H p ys ∨ SqT K H p ys) ∧ Q (.int ys.length) H) (xs, ()) (xs.length : Int) := fun Kn H vs ek h Q q => by
  obtain ⟨v, rfl, p, ws, rfl, h1, h2⟩ := one_arg h
  refine ⟨p, ws, rfl, .inl (sq_of (ek _ _ h1)), ?_⟩
  rw [paired_len h2]
  exact q.fl ek
theorem rc_lenF {xs : Fz α} : RCV K (fun xs H Q => ∃ p ys, xs = [.ref p] ∧ (SqL K H p ys ∨ SqT K H p ys) ∧ Q (.int ys.length) H) (xs, ()) (xs.l.length : Int) := fun Kn H vs ek h Q q => by
  obtain ⟨v, rfl, p, ws, rfl, h1, h2⟩ := one_arg h
  refine ⟨p, ws, rfl, .inl (ex_l ek h1), ?_⟩
  rw [paired_len h2]
  exact q.fl ek
theorem rc_lenT {xs : Tu α} : RCV K (fun xs H Q => ∃ p ys, xs = [.ref p] ∧ (SqL K H p ys ∨ SqT K H p ys) ∧ Q (.int ys.length) H) (xs, ()) (xs.l.length : Int) := fun Kn H vs ek h Q q => by
  obtain ⟨v, rfl, p, ws, rfl, h1, h2⟩ := one_arg h
  refine ⟨p, ws, rfl, .inr (st_of (ek _ _ h1)), ?_⟩
  rw [paired_len h2]
  exact q.fl ek
theorem rc_lenP {t : α × τ} : RCV K (fun xs H Q => ∃ p ys, xs = [.ref p] ∧ (SqL K H p ys ∨ SqT K H p ys) ∧ Q (.int ys.length) H) (t, ()) ((Tp.n (α × τ) : Nat) : Int) := fun Kn H vs ek h Q q => by
  obtain ⟨v, rfl, p, ws, rfl, h1, h2⟩ := one_arg h
  refine ⟨p, ws, rfl, .inr (st_of (ek _ _ h1)), ?_⟩
  rw [Tp.len h2]
  exact q.fl ek
theorem rc_sum {xs : List Int} : RCV K (rSum K) (xs, ()) xs.sum := fun Kn H vs ek h Q q => by
  obtain ⟨v, rfl, p, ws, rfl, h1, h2⟩ := one_arg h
  have e := paired_fl h2
  subst e
  exact ⟨p, xs, rfl, sq_of (ek _ _ h1), q.fl ek⟩
theorem rc_all {xs : List Bool} : RCV K (rAll K) (xs, ()) (xs.all id) := fun Kn H vs ek h Q q => by
  obtain ⟨v, rfl, p, ws, rfl, h1, h2⟩ := one_arg h
  have e := paired_fl h2
  subst e
  exact ⟨p, xs, rfl, sq_of (ek _ _ h1), q.fl ek⟩
theorem rc_any {xs : List Bool} : RCV K (rAny K) (xs, ()) (xs.any id) := fun Kn H vs ek h Q q => by
  obtain ⟨v, rfl, p, ws, rfl, h1, h2⟩ := one_arg h
  have e := paired_fl h2
  subst e
  exact ⟨p, xs, rfl, sq_of (ek _ _ h1), q.fl ek⟩
theorem rc_list {xs : List α} : RCL K (fun xs H Q => ∃ p ys, xs = [.ref p] ∧ (SqL K H p ys ∨ SqT K H p ys) ∧ ∀ l, H l = none → Q (.ref l) (upd H l (.lst ys))) (xs, ()) xs := fun Kn H vs ek h Q q => by
  obtain ⟨v, rfl, p, ws, rfl, h1, h2⟩ := one_arg h
  exact ⟨p, ws, rfl, .inl (sq_of (ek _ _ h1)), fun l hl => q l ws Kn _ (Gr.newU ek hl) hl (fresh_back ek hl) upd_same h2⟩
theorem rc_listF {xs : Fz α} : RCL K (fun xs H Q => ∃ p ys, xs = [.ref p] ∧ (SqL K H p ys ∨ SqT K H p ys) ∧ ∀ l, H l = none → Q (.ref l) (upd H l (.lst ys))) (xs, ()) xs.l := fun Kn H vs ek h Q q => by
  obtain ⟨v, rfl, p, ws, rfl, h1, h2⟩ := one_arg h
  exact ⟨p, ws, rfl, .inl (ex_l ek h1), fun l hl => q l ws Kn _ (Gr.newU ek hl) hl (fresh_back ek hl) upd_same h2⟩
theorem rc_listT {xs : Tu α} : RCL K (fun xs H Q => ∃ p ys, xs = [.ref p] ∧ (SqL K H p ys ∨ SqT K H p ys) ∧ ∀ l, H l = none → Q (.ref l) (upd H l (.lst ys))) (xs, ()) xs.l := fun Kn H vs ek h Q q => by
  obtain ⟨v, rfl, p, ws, rfl, h1, h2⟩ := one_arg h
  exact ⟨p, ws, rfl, .inr (st_of (ek _ _ h1)), fun l hl => q l ws Kn _ (Gr.newU ek hl) hl (fresh_back ek hl) upd_same h2⟩
theorem rc_tuple {xs : List α} : RCV K (fun xs H Q => ∃ p ys, xs = [.ref p] ∧ ((SqL K H p ys ∧ ∀ l, H l = none → Q (.ref l) (upd H l (.tup ys))) ∨ (SqT K H p ys ∧ Q (.ref p) H))) (xs, ()) (Tu.mk xs) := fun Kn H vs ek h Q q => by
  obtain ⟨v, rfl, p, ws, rfl, h1, h2⟩ := one_arg h
  exact ⟨p, ws, rfl, .inl ⟨sq_of (ek _ _ h1), fun l hl => q _ (upd Kn l (.tup ws)) _ (Gr.new ek hl) ⟨l, ws, rfl, upd_same, paired_mono (Gr.new ek hl).kk h2⟩⟩⟩
end

/-! ### items, slices -/
section
variable {K : Fg} {F Kn0 : Hp} {sl sl' : List Sl} {ow ow1 ow2 : List Ow} {α β γ τ : Type} [Rp α] [Rp β] [Rp γ] [Tp τ] {ta tb te : TE}
theorem r2_ixL {xs : List α} {i : Int} {z : α} (h : atI xs i = some z) : R2V K (rIxL K) xs i z := fun Kn H v w ek h1 h2 Q q => by
  obtain ⟨p, ws, rfl, h3, h4⟩ := h1
  cases h2
  obtain ⟨u, e, r⟩ := paired_atI h4 h
  exact ⟨p, ws, i, u, rfl, rfl, sq_of (ek _ _ h3), e, q.at ek r⟩
theorem r2_ixF {xs : Fz α} {i : Int} {z : α} (h : atI xs.l i = some z) : R2V K (rIxL K) xs i z := fun Kn H v w ek h1 h2 Q q => by
  obtain ⟨p, ws, rfl, h3, h4⟩ := h1
  cases h2
  obtain ⟨u, e, r⟩ := paired_atI h4 h
  exact ⟨p, ws, i, u, rfl, rfl, ex_l ek h3, e, q.at ek r⟩
theorem r2_ixU {xs : Tu α} {i : Int} {z : α} (h : atI xs.l i = some z) : R2V K (rIxT K) xs i z := fun Kn H v w ek h1 h2 Q q => by
  obtain ⟨p, ws, rfl, h3, h4⟩ := h1
  cases h2
  obtain ⟨u, e, r⟩ := paired_atI h4 h
  exact ⟨p, ws, i, u, rfl, rfl, st_of (ek _ _ h3), e, q.at ek r⟩
theorem r2_ixK {xs : Kt α} {i : Int} {z : α} (h : atI xs.l i = some z) : R2V K (rIxT K) xs i z := fun Kn H v w ek h1 h2 Q q => by
  obtain ⟨p, ws, rfl, h3, h4⟩ := h1
  cases h2
  obtain ⟨u, e, r⟩ := paired_atI h4 h
  exact ⟨p, ws, i, u, rfl, rfl, ex_t ek h3, e, q.at ek r⟩
/-- the n-th place of a tuple -/
inductive At : {τ : Type} → [Tp τ] → Nat → {α : Type} → [Rp α] → τ → α → Prop
  | z {α τ : Type} [Rp α] [Tp τ] (x : α) (t : τ) : At 0 (x, t) x
  | s {α β τ : Type} [Rp α] [Rp β] [Tp τ] {n : Nat} (x : α) {t : τ} {y : β} : At n t y → At (n + 1) (x, t) y
theorem At.get {K : Fg} {H : Hp} {τ : Type} [i : Tp τ] {n : Nat} {α : Type} [j : Rp α] {t : τ} {a : α} (h : At n t a) : ∀ {vs : List V}, rept K H vs t → ∃ v, vs[n]? = some v ∧ rep K H v a := by
  induction h with
  | z x t =>
    intro vs r
    obtain ⟨v, r, rfl, h1, h2⟩ := r
    exact ⟨v, rfl, h1⟩
  | s x _ ih =>
    intro vs r
    obtain ⟨v, r, rfl, h1, h2⟩ := r
    obtain ⟨w, e, h3⟩ := ih h2
    exact ⟨w, e, h3⟩
theorem r2_tix {t : α × τ} {n : Nat} {z : γ} (h : At n t z) : R2V K (rIxT K) t (n : Int) z := fun Kn H v w ek h1 h2 Q q => by
  obtain ⟨p, ws, rfl, h3, h4⟩ := h1
  cases h2
  obtain ⟨u, e, r⟩ := h.get h4
  exact ⟨p, ws, n, u, rfl, rfl, st_of (ek _ _ h3), atI_nat e, q.at ek r⟩
/-- one sign of a text -/
def ixS (z : Str) (i : Int) : Option Str := if z.length ≤ 100000 then (atI z.cps.toList i).map (fun c => ⟨#[c]⟩) else none
theorem r2_ixS {x : Str} {i : Int} {z : Str} (h : ixS x i = some z) : R2V K rIxS x i z := fun Kn H v w ek h1 h2 Q q => by
  cases h1
  cases h2
  unfold ixS at h
  split at h
  · rename_i hl
    cases e : atI x.cps.toList i with
    | none => rw [e] at h; cases h
    | some c =>
      rw [e] at h
      cases h
      exact ⟨x, i, c, rfl, rfl, le_line (by omega), e, q.fl ek⟩
  · cases h
def cut {α : Type} (xs : List α) (lo hi : Option Int) : List α := (xs.drop (HT.sIx xs.length 0 lo)).take (HT.sIx xs.length xs.length hi - HT.sIx xs.length 0 lo)
theorem paired_cut {F : V → α → Prop} {vs : List V} {xs : List α} (h : Paired F vs xs) (lo hi : Option Int) : Paired F (cutV vs lo hi) (cut xs lo hi) := by
  unfold cutV cut
  rw [Paired.length h]
  exact paired_take _ (paired_drop _ h)
def EO (K : Fg) (F Kn0 : Hp) (sl : List Sl) (ow : List Ow) (to : TO) (o : Option Int) : Prop := ∀ σ Kn H, S K F Kn0 sl ow σ Kn H → ∀ Q : Option Int → Hp → Prop, (∀ Kn' H', Gr Kn H Kn' H' → Q o H') → to σ H Q
theorem eo_none : EO K F Kn0 sl ow tNoPart none := fun σ Kn H s Q q => q Kn H (Gr.refl s.ek)
theorem eo_some {i : Int} (h : EV K F Kn0 sl ow te i) : EO K F Kn0 sl ow (tPart te) (some i) := fun σ Kn H s Q q => h σ Kn H s _ fun v Kn1 H1 g1 r1 => ⟨i, r1, q Kn1 H1 g1⟩
theorem en_sl {xs : List α} {tl th : TO} {lo hi : Option Int} (h : EV K F Kn0 sl ow te xs) (hl : EO K F Kn0 sl ow tl lo) (hh : EO K F Kn0 sl ow th hi) : EN K F Kn0 sl ow (tSl (rSlL K) te tl th) (cut xs lo hi) := fun σ Kn H s Q q =>
  h σ Kn H s _ fun v Kn1 H1 g1 r1 => hl σ Kn1 H1 (s.grow g1) _ fun Kn2 H2 g2 => hh σ Kn2 H2 ((s.grow g1).grow g2) _ fun Kn3 H3 g3 => by
    obtain ⟨p, ws, rfl, h3, h4⟩ := r1
    have g : Gr Kn H Kn3 H3 := (g1.trans g2).trans g3
    have e13 : Ex Kn1 Kn3 := g2.kk.trans g3.kk
    exact ⟨p, ws, rfl, sq_of (g3.kh _ _ (e13 _ _ h3)), fun l hl => q l _ Kn3 _ (g.trans (Gr.newU g3.kh hl)) (fresh_back g.hh hl) (fresh_back g3.kh hl) upd_same (paired_cut (paired_mono e13 h4) lo hi)⟩
theorem en_slF {xs : Fz α} {tl th : TO} {lo hi : Option Int} (h : EV K F Kn0 sl ow te xs) (hl : EO K F Kn0 sl ow tl lo) (hh : EO K F Kn0 sl ow th hi) : EN K F Kn0 sl ow (tSl (rSlL K) te tl th) (cut xs.l lo hi) := fun σ Kn H s Q q =>
  h σ Kn H s _ fun v Kn1 H1 g1 r1 => hl σ Kn1 H1 (s.grow g1) _ fun Kn2 H2 g2 => hh σ Kn2 H2 ((s.grow g1).grow g2) _ fun Kn3 H3 g3 => by
    obtain ⟨p, ws, rfl, h3, h4⟩ := r1
    have g : Gr Kn H Kn3 H3 := (g1.trans g2).trans g3
    have e13 : Ex Kn1 Kn3 := g2.kk.trans g3.kk
    exact ⟨p, ws, rfl, ex_l (e13.trans g3.kh) h3, fun l hl => q l _ Kn3 _ (g.trans (Gr.newU g3.kh hl)) (fresh_back g.hh hl) (fresh_back g3.kh hl) upd_same (paired_cut (paired_mono e13 h4) lo hi)⟩
theorem r2_cat {xs ys : List α} (hz : xs.length + ys.length ≤ 1000000) : R2L K rCat xs ys (xs ++ ys) := fun Kn H v w ek h1 h2 Q q => by
  obtain ⟨p, ws, rfl, h3, h4⟩ := h1
  obtain ⟨p2, ws2, rfl, h5, h6⟩ := h2
  exact ⟨p, p2, ws, ws2, rfl, rfl, ek _ _ h3, ek _ _ h5, by rw [paired_len h4, paired_len h6]; exact le_line hz, fun l hl =>
    q l _ Kn _ (Gr.newU ek hl) hl (fresh_back ek hl) upd_same (paired_append h4 h6)⟩

/-! ### tests -/
variable {t u : TT} {a b c : Bool}
theorem et_test (h : EV K F Kn0 sl ow te b) : ET K F Kn0 sl ow (tTest te) b := fun σ Kn H s Q q => h σ Kn H s _ fun v Kn' H' g r => ⟨b, r, q Kn' H' g⟩
theorem et_B (h : EV K F Kn0 sl ow te b) : ET K F Kn0 sl ow (tB te) b := fun σ Kn H s Q q => h σ Kn H s _ fun v Kn' H' g r => ⟨b, r, q Kn' H' g⟩
theorem et_not (h : ET K F Kn0 sl ow t b) : ET K F Kn0 sl ow (tNot t) (!b) := fun σ Kn H s Q q => h σ Kn H s _ fun Kn' H' g => q Kn' H' g
theorem et_and (h1 : ET K F Kn0 sl ow t a) (h2 : a = true → ET K F Kn0 sl ow u b) : ET K F Kn0 sl ow (tAnd t u) (a && b) := fun σ Kn H s Q q => h1 σ Kn H s _ fun Kn1 H1 g1 => by
  cases a with
  | true => exact iteT (h2 rfl σ Kn1 H1 (s.grow g1) Q fun Kn2 H2 g2 => q Kn2 H2 (g1.trans g2))
  | false => exact iteF (q Kn1 H1 g1)
theorem et_or (h1 : ET K F Kn0 sl ow t a) (h2 : a = false → ET K F Kn0 sl ow u b) : ET K F Kn0 sl ow (tOr t u) (a || b) := fun σ Kn H s Q q => h1 σ Kn H s _ fun Kn1 H1 g1 => by
  cases a with
  | true => exact iteT (q Kn1 H1 g1)
  | false => exact iteF (h2 rfl σ Kn1 H1 (s.grow g1) Q fun Kn2 H2 g2 => q Kn2 H2 (g1.trans g2))
theorem et_andO {m : Option Bool} (h : (if a = true then m else some false) = some c) (h1 : ET K F Kn0 sl ow t a) (h2 : ∀ b, a = true → m = some b → ET K F Kn0 sl ow u b) : ET K F Kn0 sl ow (tAnd t u) c := fun σ Kn H s Q q => h1 σ Kn H s _ fun Kn1 H1 g1 => by
  cases a with
  | true => exact iteT (h2 c rfl h σ Kn1 H1 (s.grow g1) Q fun Kn2 H2 g2 => q Kn2 H2 (g1.trans g2))
  | false =>
    cases h
    exact iteF (q Kn1 H1 g1)
theorem et_orO {m : Option Bool} (h : (if a = true then some true else m) = some c) (h1 : ET K F Kn0 sl ow t a) (h2 : ∀ b, a = false → m = some b → ET K F Kn0 sl ow u b) : ET K F Kn0 sl ow (tOr t u) c := fun σ Kn H s Q q => h1 σ Kn H s _ fun Kn1 H1 g1 => by
  cases a with
  | false => exact iteF (h2 c rfl h σ Kn1 H1 (s.grow g1) Q fun Kn2 H2 g2 => q Kn2 H2 (g1.trans g2))
  | true =>
    cases h
    exact iteT (q Kn1 H1 g1)
theorem ev_andO {m : Option Bool} (h : (if a = true then m else some false) = some c) (h1 : EV K F Kn0 sl ow ta a) (h2 : ∀ b, a = true → m = some b → EV K F Kn0 sl ow tb b) : EV K F Kn0 sl ow (tAndV ta tb) c := fun σ Kn H s Q q => h1 σ Kn H s _ fun v Kn1 H1 g1 r1 => ⟨a, r1, by
  cases a with
  | true => exact iteT (h2 c rfl h σ Kn1 H1 (s.grow g1) Q fun v Kn2 H2 g2 r2 => q v Kn2 H2 (g1.trans g2) r2)
  | false =>
    cases h
    exact iteF (q _ Kn1 H1 g1 rfl)⟩
theorem ev_orO {m : Option Bool} (h : (if a = true then some true else m) = some c) (h1 : EV K F Kn0 sl ow ta a) (h2 : ∀ b, a = false → m = some b → EV K F Kn0 sl ow tb b) : EV K F Kn0 sl ow (tOrV ta tb) c := fun σ Kn H s Q q => h1 σ Kn H s _ fun v Kn1 H1 g1 r1 => ⟨a, r1, by
  cases a with
  | false => exact iteF (h2 c rfl h σ Kn1 H1 (s.grow g1) Q fun v Kn2 H2 g2 r2 => q v Kn2 H2 (g1.trans g2) r2)
  | true =>
    cases h
    exact iteT (q _ Kn1 H1 g1 rfl)⟩
theorem ev_andV (h1 : EV K F Kn0 sl ow ta a) (h2 : a = true → EV K F Kn0 sl ow tb b) : EV K F Kn0 sl ow (tAndV ta tb) (a && b) := fun σ Kn H s Q q => h1 σ Kn H s _ fun v Kn1 H1 g1 r1 => ⟨a, r1, by
  cases a with
  | true => exact iteT (h2 rfl σ Kn1 H1 (s.grow g1) Q fun v Kn2 H2 g2 r2 => q v Kn2 H2 (g1.trans g2) r2)
  | false => exact iteF (q _ Kn1 H1 g1 rfl)⟩
theorem ev_orV (h1 : EV K F Kn0 sl ow ta a) (h2 : a = false → EV K F Kn0 sl ow tb b) : EV K F Kn0 sl ow (tOrV ta tb) (a || b) := fun σ Kn H s Q q => h1 σ Kn H s _ fun v Kn1 H1 g1 r1 => ⟨a, r1, by
  cases a with
  | false => exact iteF (h2 rfl σ Kn1 H1 (s.grow g1) Q fun v Kn2 H2 g2 r2 => q v Kn2 H2 (g1.trans g2) r2)
  | true => exact iteT (q _ Kn1 H1 g1 rfl)⟩
theorem ev_notV (h1 : EV K F Kn0 sl ow ta a) : EV K F Kn0 sl ow (tNotV ta) (!a) := fun σ Kn H s Q q => h1 σ Kn H s _ fun v Kn1 H1 g1 r1 => ⟨a, r1, q _ Kn1 H1 g1 rfl⟩
theorem ev_if {x y : α} (h : ET K F Kn0 sl ow t b) (h1 : b = true → EV K F Kn0 sl ow ta x) (h2 : b = false → EV K F Kn0 sl ow tb y) : EV K F Kn0 sl ow (tIf t ta tb) (if b = true then x else y) := fun σ Kn H s Q q => h σ Kn H s _ fun Kn1 H1 g1 => by
  cases b with
  | true => exact iteT (h1 rfl σ Kn1 H1 (s.grow g1) Q fun v Kn2 H2 g2 r2 => q v Kn2 H2 (g1.trans g2) r2)
  | false => exact iteF (h2 rfl σ Kn1 H1 (s.grow g1) Q fun v Kn2 H2 g2 r2 => q v Kn2 H2 (g1.trans g2) r2)
theorem ev_ifO {m n : Option α} {z : α} (hz : (if b = true then m else n) = some z) (h : ET K F Kn0 sl ow t b) (h1 : ∀ x, b = true → m = some x → EV K F Kn0 sl ow ta x) (h2 : ∀ y, b = false → n = some y → EV K F Kn0 sl ow tb y) : EV K F Kn0 sl ow (tIf t ta tb) z := fun σ Kn H s Q q => h σ Kn H s _ fun Kn1 H1 g1 => by
  cases b with
  | true => exact iteT (h1 z rfl hz σ Kn1 H1 (s.grow g1) Q fun v Kn2 H2 g2 r2 => q v Kn2 H2 (g1.trans g2) r2)
  | false => exact iteF (h2 z rfl hz σ Kn1 H1 (s.grow g1) Q fun v Kn2 H2 g2 r2 => q v Kn2 H2 (g1.trans g2) r2)
/-- truth of a list -/
theorem et_truL {xs : List α} (h : EV K F Kn0 sl ow ta xs) : ET K F Kn0 sl ow (fun σ H Q => ta σ H fun x H' => ∃ k, TruV K x H' k ∧ Q k H') (!xs.isEmpty) := fun σ Kn H s Q q => h σ Kn H s _ fun v Kn1 H1 g1 r1 => by
  obtain ⟨p, ws, rfl, h3, h4⟩ := r1
  refine ⟨_, .inl ⟨ws, sq_of (g1.kh _ _ h3), rfl⟩, ?_⟩
  have e : (!ws.isEmpty) = !xs.isEmpty := by
    cases h4 <;> rfl
  rw [e]
  exact q Kn1 H1 g1
end
end Wk
/-! Wk3: calls, statements, loops, comprehensions -/
namespace Wk
open PySem PySem.Spec L2 Evl

/-! ### promises -/
section
variable {α τ : Type} [Rp α] [Tp τ]
/-- a def that changes nothing: it tells f of its arguments -/
def PF (K : Fg) (f : τ → Option α) : Sp := fun vs H Q _ => ∃ Kn t r, Ex Kn H ∧ rept K Kn vs t ∧ f t = some r ∧ RS K Kn H Q r
/-- .. a new list -/
def PL (K : Fg) (f : τ → Option (List α)) : Sp := fun vs H Q _ => ∃ Kn t r, Ex Kn H ∧ rept K Kn vs t ∧ f t = some r ∧ RL K Kn H Q r
/-- its first argument is a list that it changes -/
def PM {β : Type} [Rp β] (K : Fg) (f : List β → τ → Option (α × List β)) : Sp := fun vs H Q _ => ∃ Kn p ws rest t xs r xs', vs = .ref p :: rest ∧ Ex Kn H ∧ Kn p = none ∧ H p = some (.lst ws) ∧ Paired (rep K Kn) ws xs ∧ rept K Kn rest t ∧ f xs t = some (r, xs') ∧
  ∀ v Kn' H' ws', Ex Kn Kn' → Ex Kn' H' → (∀ q, q ≠ p → H q ≠ none → H' q = H q) → (∀ q, H q ≠ none → Kn q = none → Kn' q = none) → H' p = some (.lst ws') → Paired (rep K Kn') ws' xs' → rep K Kn' v r → Q v H'
end
section
variable {K : Fg} {F Kn0 : Hp} {sl sl' : List Sl} {ow ow1 ow2 : List Ow} {α β γ τ : Type} [Rp α] [Rp β] [Rp γ] [Tp τ] {ta : TA} {te : TE} {t : τ} {E : XK}
theorem ev_call {f : τ → Option α} {r : α} (h : EA K F Kn0 sl ow ta t) (hf : f t = some r) : EV K F Kn0 sl ow (tCall (PF K f) [] E ta) r := fun σ Kn H s Q q =>
  h σ Kn H s _ fun vs Kn1 H1 g1 r1 => by
    show PF K f (vs ++ []) H1 Q E
    rw [List.append_nil]
    exact ⟨Kn1, t, r, g1.kh, r1, hf, fun u Kn' H' g' r' => q u Kn' H' (g1.trans g') r'⟩
theorem en_call {f : τ → Option (List α)} {r : List α} (h : EA K F Kn0 sl ow ta t) (hf : f t = some r) : EN K F Kn0 sl ow (tCall (PL K f) [] E ta) r := fun σ Kn H s Q q =>
  h σ Kn H s _ fun vs Kn1 H1 g1 r1 => by
    show PL K f (vs ++ []) H1 Q E
    rw [List.append_nil]
    exact ⟨Kn1, t, r, g1.kh, r1, hf, fun p ws Kn' H' g' hp kp hw r' => q p ws Kn' H' (g1.trans g') (fresh_back g1.hh hp) kp hw r'⟩
theorem em_call {f : τ → Option α} {r : α} (h : EAM K F Kn0 sl ow ta ow1 t) (hf : f t = some r) : EM K F Kn0 sl ow (tCall (PF K f) [] E ta) ow1 r := fun σ Kn H s Q q =>
  h σ Kn H s _ fun vs Kn1 H1 e1 s1 r1 => by
    show PF K f (vs ++ []) H1 Q E
    rw [List.append_nil]
    exact ⟨Kn1, t, r, s1.ek, r1, hf, fun u Kn' H' g' r' => q u Kn' H' (e1.trans g'.kk) (s1.grow g') r'⟩
theorem enm_call {f : τ → Option (List α)} {r : List α} (h : EAM K F Kn0 sl ow ta ow1 t) (hf : f t = some r) : ENM K F Kn0 sl ow (tCall (PL K f) [] E ta) ow1 r := fun σ Kn H s Q q =>
  h σ Kn H s _ fun vs Kn1 H1 e1 s1 r1 => by
    show PL K f (vs ++ []) H1 Q E
    rw [List.append_nil]
    exact ⟨Kn1, t, r, s1.ek, r1, hf, fun p ws Kn' H' g' hp kp hw r' => q p ws Kn' H' (e1.trans g'.kk) (s1.grow g') (fresh_back s1.ef hp) kp (owned_ne s1 hp) hw r'⟩
theorem ow_at {ow : List Ow} (h : (ow.map Ow.ad).Nodup) {i j : Nat} {o u : Ow} (hi : ow[i]? = some o) (hj : ow[j]? = some u) (e : o.ad = u.ad) : i = j := by
  have a1 : (ow.map Ow.ad)[i]? = some o.ad := by rw [List.getElem?_map, hi]; rfl
  have a2 : (ow.map Ow.ad)[j]? = some o.ad := by rw [List.getElem?_map, hj, e]; rfl
  exact nd_ix h a1 a2
/-- the object at place j is another one now, all else as it was -/
theorem S.write {σ : L2.St} {Kn H Kn' H' : Hp} {p : Addr} {xs xs' : List β} {ws : List V} {j : Nat} (s : S K F Kn0 sl ow σ Kn H) (hj : ow[j]? = some (ol p xs)) (kk : Ex Kn Kn') (kh : Ex Kn' H')
    (hq : ∀ q, q ≠ p → H q ≠ none → H' q = H q) (sp : ∀ q, H q ≠ none → Kn q = none → Kn' q = none) (hp : H' p = some (.lst ws)) (r : Paired (rep K Kn') ws xs') : S K F Kn0 sl (ow.set j (ol p xs')) σ Kn' H' := by
  obtain ⟨f1, f2, f3⟩ := s.ow.each _ (List.mem_of_getElem? hj)
  have f1 : F p = none := f1
  have f2 : Kn p = none := f2
  have f4 : H p ≠ none := Ow.there f3
  have jl : j < ow.length := (List.getElem?_eq_some_iff.mp hj).1
  refine ⟨s.e0.trans kk, kh, fun a u h => ?_, fun a h1 h2 => sp a (Ex.nn s.ef h1) (s.sep a h1 h2), s.sl.mono kk, ⟨fun o ho => ?_, ?_⟩⟩
  · have hne : a ≠ p := fun z => by rw [z, f1] at h; cases h
    rw [hq a hne (ne_none_of (s.ef _ _ h))]
    exact s.ef _ _ h
  · obtain ⟨i, hi⟩ := List.getElem?_of_mem ho
    by_cases e : i = j
    · subst e
      rw [List.getElem?_set_self jl] at hi
      cases hi
      exact ⟨f1, sp p f4 f2, ws, hp, r⟩
    · rw [List.getElem?_set_ne (Ne.symm e)] at hi
      obtain ⟨h1, h2, h3⟩ := s.ow.each o (List.mem_of_getElem? hi)
      have h4 := Ow.there h3
      have hne : o.ad ≠ p := fun z => e (ow_at s.ow.nd hi hj z)
      exact ⟨h1, sp _ h4 h2, Ow.ok_mono kk (hq _ hne h4) h3⟩
  · have e : (ow.set j (ol p xs')).map Ow.ad = ow.map Ow.ad := by
      rw [List.map_set]
      refine List.ext_getElem? fun i => ?_
      by_cases e : j = i
      · subst e
        rw [List.getElem?_set_self (by rw [List.length_map]; exact jl), List.getElem?_map, hj]
        rfl
      · rw [List.getElem?_set_ne e]
    rw [e]
    exact s.ow.nd
theorem em_callM {f : List β → τ → Option (α × List β)} {r : α} {i j : Nat} {p : Addr} {xs xs' : List β} (hi : sl[i]? = some (.at p)) (h : EAM K F Kn0 sl ow ta ow1 t) (hj : ow1[j]? = some (ol p xs)) (hf : f xs t = some (r, xs')) :
    EM K F Kn0 sl ow (tCall (PM K f) [] E (tCons (tVar i) ta)) (ow1.set j (ol p xs')) r := fun σ Kn H s Q q => by
  obtain ⟨o, h1, h2⟩ := s.sl.get hi
  refine ⟨.ref p, by rw [h1]; exact congrArg some h2, h σ Kn H s _ fun vs Kn1 H1 e1 s1 r1 => ?_⟩
  show PM K f ((.ref p :: vs) ++ []) H1 Q E
  rw [List.append_nil]
  obtain ⟨f1, f2, ws, f3, f4⟩ := s1.ow.each _ (List.mem_of_getElem? hj)
  exact ⟨Kn1, p, ws, vs, t, xs, r, xs', rfl, s1.ek, f2, f3, f4, r1, hf, fun v Kn' H' ws' kk kh hq sp hp rr rv => q v Kn' H' (e1.trans kk) (s1.write hj kk kh hq sp hp rr) rv⟩
end

/-! ### statements -/
section
variable (K : Fg) (F Kn0 : Hp) (sl : List Sl) (ow : List Ow)
def SN (D : Ends) : Prop := ∀ σ Kn H, S K F Kn0 sl ow σ Kn H → D.nx σ H
def SC (D : Ends) : Prop := ∀ σ Kn H, S K F Kn0 sl ow σ Kn H → D.ct σ H
def SK (D : Ends) : Prop := ∀ σ Kn H, S K F Kn0 sl ow σ Kn H → D.bk σ H
end
section
variable {K : Fg} {F Kn0 : Hp} {sl sl' : List Sl} {ow ow0 ow1 ow2 : List Ow} {α β γ τ : Type} [Rp α] [Rp β] [Rp γ] [Tp τ] {ta tb te : TE} {x : α} {D : Ends} {t u tz : TS} {tt : TT} {b : Bool} {i j : Nat} {p : Addr}
theorem SB.seq (h : SB K F Kn0 sl ow { D with nx := tz D } t) : SB K F Kn0 sl ow D (tSeq t tz) := h
theorem SB.le (h : SB K F Kn0 sl' ow D t) (l : SlLe sl sl') : SB K F Kn0 sl ow D t := fun σ Kn H s => h σ Kn H (s.le l)
theorem SB.sub (h : SB K F Kn0 sl ow1 D t) (l : ow1.Sublist ow) : SB K F Kn0 sl ow D t := fun σ Kn H s => h σ Kn H (s.sub l)
theorem SN.le (h : SN K F Kn0 sl' ow D) (l : SlLe sl sl') : SN K F Kn0 sl ow D := fun σ Kn H s => h σ Kn H (s.le l)
theorem SN.sub (h : SN K F Kn0 sl ow1 D) (l : ow1.Sublist ow) : SN K F Kn0 sl ow D := fun σ Kn H s => h σ Kn H (s.sub l)
theorem EN.le {xs : List α} (h : EN K F Kn0 sl' ow te xs) (l : SlLe sl sl') : EN K F Kn0 sl ow te xs := fun σ Kn H s => h σ Kn H (s.le l)
theorem EV.le (h : EV K F Kn0 sl' ow te x) (l : SlLe sl sl') : EV K F Kn0 sl ow te x := fun σ Kn H s => h σ Kn H (s.le l)
theorem sb_nx (k : SN K F Kn0 sl ow D) : SB K F Kn0 sl ow D tNext := k
theorem sb_ct (k : SC K F Kn0 sl ow D) : SB K F Kn0 sl ow D tCont := k
theorem sb_bk (k : SK K F Kn0 sl ow D) : SB K F Kn0 sl ow D tBreak := k
theorem sb_asg (hs : sl.set i (sv x) = sl') (h : EV K F Kn0 sl ow te x) (k : SN K F Kn0 sl' ow D) : SB K F Kn0 sl ow D (tAsg te (gName i)) := fun σ Kn H s =>
  h σ Kn H s _ fun v Kn1 H1 g1 r1 => k _ Kn1 H1 (hs ▸ (s.grow g1).setv i r1)
theorem sb_asgM (hs : sl.set i (sv x) = sl') (h : EM K F Kn0 sl ow te ow1 x) (k : SN K F Kn0 sl' ow1 D) : SB K F Kn0 sl ow D (tAsg te (gName i)) := fun σ Kn H s =>
  h σ Kn H s _ fun v Kn1 H1 e1 s1 r1 => k _ Kn1 H1 (hs ▸ s1.setv i r1)
/-- a new object is one's own -/
theorem S.own {σ : L2.St} {Kn H : Hp} {xs : List α} {ws : List V} (s : S K F Kn0 sl ow σ Kn H) (fp : F p = none) (kp : Kn p = none) (no : ∀ o ∈ ow, o.ad ≠ p) (hp : H p = some (.lst ws)) (r : Paired (rep K Kn) ws xs) : S K F Kn0 sl (ol p xs :: ow) σ Kn H :=
  ⟨s.e0, s.ek, s.ef, s.sep, s.sl, ⟨fun o ho => by
    rcases List.mem_cons.mp ho with rfl | ho
    · exact ⟨fp, kp, ws, hp, r⟩
    · exact s.ow.each o ho, List.nodup_cons.mpr ⟨fun h => by
      obtain ⟨o, ho, e⟩ := List.mem_map.mp h
      exact no o ho e, s.ow.nd⟩⟩⟩
theorem S.seta {σ : L2.St} {Kn H : Hp} (s : S K F Kn0 sl ow σ Kn H) (i : Nat) : S K F Kn0 (sl.set i (.at p)) ow (σ.set i (some (.ref p))) Kn H := s.set i rfl
theorem sb_asgO {xs : List α} {sl' : Addr → List Sl} (hs : ∀ p, sl.set i (.at p) = sl' p) (h : EN K F Kn0 sl ow te xs) (k : ∀ p, SN K F Kn0 (sl' p) (ol p xs :: ow) D) : SB K F Kn0 sl ow D (tAsg te (gName i)) := fun σ Kn H s =>
  h σ Kn H s _ fun p ws Kn1 H1 g1 hp kp hw r1 => k p _ Kn1 H1 (hs p ▸ ((s.grow g1).own (fresh_back s.ef hp) kp (owned_ne s hp) hw r1).seta i)
theorem sb_asgOM {xs : List α} {sl' : Addr → List Sl} (hs : ∀ p, sl.set i (.at p) = sl' p) (h : ENM K F Kn0 sl ow te ow1 xs) (k : ∀ p, SN K F Kn0 (sl' p) (ol p xs :: ow1) D) : SB K F Kn0 sl ow D (tAsg te (gName i)) := fun σ Kn H s =>
  h σ Kn H s _ fun p ws Kn1 H1 e1 s1 fp kp no hw r1 => k p _ Kn1 H1 (hs p ▸ (s1.own fp kp no hw r1).seta i)
theorem sb_aug {a c : Int} {f : Int → Int → Int} (hi : sl[i]? = some (sv a)) (hs : sl.set i (sv (f a c)) = sl') (h : EV K F Kn0 sl ow te c) (k : SN K F Kn0 sl' ow D) : SB K F Kn0 sl ow D (tAug i te (ipI f)) := fun σ Kn H s => by
  obtain ⟨o, h1, v, h2, h3⟩ := s.sl.get hi
  cases h3
  exact ⟨.int a, by rw [h1, h2], h σ Kn H s _ fun v Kn1 H1 g1 r1 => ⟨a, c, rfl, r1, k _ Kn1 H1 (hs ▸ (s.grow g1).setv (x := f a c) i rfl)⟩⟩
theorem sb_drop (h : EV K F Kn0 sl ow te x) (k : SN K F Kn0 sl ow D) : SB K F Kn0 sl ow D (tDrop te) := fun σ Kn H s => h σ Kn H s _ fun v Kn1 H1 g1 r1 => k _ Kn1 H1 (s.grow g1)
theorem sb_dropM (h : EM K F Kn0 sl ow te ow1 x) (k : SN K F Kn0 sl ow1 D) : SB K F Kn0 sl ow D (tDrop te) := fun σ Kn H s => h σ Kn H s _ fun v Kn1 H1 e1 s1 r1 => k _ Kn1 H1 s1
theorem upd_in {Kn H : Hp} {o : HO} (ek : Ex Kn H) (kp : Kn p = none) : Ex Kn (upd H p o) := fun a u h => by
  have hq : a ≠ p := fun z => by rw [z, kp] at h; cases h
  rw [upd_ne hq]
  exact ek _ _ h
/-- found.append(e) -/
theorem sb_app {xs : List α} (hi : sl[i]? = some (.at p)) (hj : ow[j]? = some (ol p xs)) (h : EV K F Kn0 sl ow te x) (hz : xs.length < 1000000) (k : SN K F Kn0 sl (ow.set j (ol p (xs ++ [x]))) D) :
    SB K F Kn0 sl ow D (tDrop (tBM K "list" rAppend (tVar i) (tCons te tNil))) := fun σ Kn H s => by
  obtain ⟨o, h1, h2⟩ := s.sl.get hi
  obtain ⟨f1, f2, ws, f3, f4⟩ := s.ow.each _ (List.mem_of_getElem? hj)
  refine ⟨.ref p, by rw [h1]; exact congrArg some h2, Or.inl ⟨rfl, ws, sq_of f3⟩, h σ Kn H s _ fun v Kn1 H1 g1 r1 => ?_⟩
  refine ⟨p, ws, v, rfl, rfl, g1.hh _ _ f3, by rw [paired_len f4]; exact lt_line hz, k _ Kn1 _ ?_⟩
  have kp1 : Kn1 p = none := g1.sp p (ne_none_of f3) f2
  exact (s.grow g1).write hj (Ex.refl _) (upd_in g1.kh kp1) (fun q hq _ => upd_ne hq) (fun _ _ h => h) upd_same (paired_append (paired_mono g1.kk f4) (.cons r1 .nil))
theorem sb_appM {xs : List α} (hi : sl[i]? = some (.at p)) (hi0 : ow[j]? = some (ol p xs)) (h : EM K F Kn0 sl ow te ow1 x) (hj : ow1[j]? = some (ol p xs)) (hz : xs.length < 1000000) (k : SN K F Kn0 sl (ow1.set j (ol p (xs ++ [x]))) D) :
    SB K F Kn0 sl ow D (tDrop (tBM K "list" rAppend (tVar i) (tCons te tNil))) := fun σ Kn H s => by
  obtain ⟨o, h1, h2⟩ := s.sl.get hi
  obtain ⟨_, _, ws0, f0, _⟩ := s.ow.each _ (List.mem_of_getElem? hi0)
  refine ⟨.ref p, by rw [h1]; exact congrArg some h2, Or.inl ⟨rfl, ws0, sq_of f0⟩, h σ Kn H s _ fun v Kn1 H1 e1 s1 r1 => ?_⟩
  obtain ⟨f1, f2, ws, f3, f4⟩ := s1.ow.each _ (List.mem_of_getElem? hj)
  refine ⟨p, ws, v, rfl, rfl, f3, by rw [paired_len f4]; exact lt_line hz, k _ Kn1 _ ?_⟩
  exact s1.write hj (Ex.refl _) (upd_in s1.ek f2) (fun q hq _ => upd_ne hq) (fun _ _ h => h) upd_same (paired_append f4 (.cons r1 .nil))
/-- the place of a written index -/
def setI {α : Type} (xs : List α) (i : Int) (x : α) : Option (List α) := (ixN xs.length i).map fun j => xs.set j x
/-- found[e] = x -/
theorem sb_setI {xs xs' : List α} {n : Int} (hi : sl[i]? = some (.at p)) (hj : ow[j]? = some (ol p xs)) (h : EV K F Kn0 sl ow te x) (hn : EV K F Kn0 sl ow tb n) (hx : setI xs n x = some xs') (k : SN K F Kn0 sl (ow.set j (ol p xs')) D) :
    SB K F Kn0 sl ow D (tAsg te (gSub (tVar i) tb rSetL)) := fun σ Kn H s => h σ Kn H s _ fun v Kn1 H1 g1 r1 => by
  obtain ⟨o, h1, h2⟩ := s.sl.get hi
  refine ⟨.ref p, by rw [h1]; exact congrArg some h2, hn σ Kn1 H1 (s.grow g1) _ fun w Kn2 H2 g2 r2 => ?_⟩
  have s2 := (s.grow g1).grow g2
  obtain ⟨f1, f2, ws, f3, f4⟩ := s2.ow.each _ (List.mem_of_getElem? hj)
  unfold setI at hx
  cases e : ixN xs.length n with
  | none => rw [e] at hx; cases hx
  | some m =>
    rw [e] at hx
    cases hx
    cases r2
    refine ⟨p, ws, n, m, rfl, rfl, f3, by rw [paired_len f4]; exact e, k _ Kn2 _ ?_⟩
    exact s2.write hj (Ex.refl _) (upd_in g2.kh f2) (fun q hq _ => upd_ne hq) (fun _ _ h => h) upd_same (paired_set (Rp.mono g2.kk r1) m f4)
/-- from now on it is known and stays as it is -/
theorem sb_freeze {xs : List α} (hi : sl[i]? = some (.at p)) (hj : ow[j]? = some (ol p xs)) (hs : sl.set i (sv xs) = sl') (ho : ow.eraseIdx j = ow1) (k : SB K F Kn0 sl' ow1 D t) : SB K F Kn0 sl ow D t := fun σ Kn H s => by
  obtain ⟨o, h1, h2⟩ := s.sl.get hi
  have h2 : o = some (.ref p) := h2
  obtain ⟨f1, f2, ws, f3, f4⟩ := s.ow.each _ (List.mem_of_getElem? hj)
  have hsub : ow1.Sublist ow := ho ▸ List.eraseIdx_sublist ow j
  have s1 := s.sub hsub
  have no : ∀ o ∈ ow1, o.ad ≠ p := fun o hm z => by
    have hnd := s.ow.nd
    subst ho
    obtain ⟨m, hm'⟩ := List.getElem?_of_mem hm
    rw [List.getElem?_eraseIdx] at hm'
    split at hm'
    · rename_i hlt
      have := ow_at hnd hm' hj z
      omega
    · rename_i hge
      have := ow_at hnd hm' hj z
      omega
  have s2 := s1.know (o := .lst ws) f1 f2 no f3
  have hσ : σ.set i o = σ := by
    refine List.ext_getElem? fun m => ?_
    by_cases e : i = m
    · subst e
      rw [List.getElem?_set_self (List.getElem?_eq_some_iff.mp h1).1, h1]
    · rw [List.getElem?_set_ne e]
  have s3 := s2.set (x := sv xs) (o := o) i ⟨.ref p, h2, p, ws, rfl, upd_same, paired_mono (Ex.new f2) f4⟩
  rw [hs, hσ] at s3
  exact k σ _ H s3
theorem sb_if (h : ET K F Kn0 sl ow tt b) (h1 : b = true → SB K F Kn0 sl ow D t) (h2 : b = false → SB K F Kn0 sl ow D u) : SB K F Kn0 sl ow D (tIfS tt t u) := fun σ Kn H s => h σ Kn H s _ fun Kn1 H1 g1 => by
  cases b with
  | true => exact iteT (h1 rfl σ Kn1 H1 (s.grow g1))
  | false => exact iteF (h2 rfl σ Kn1 H1 (s.grow g1))
theorem sb_cut (h : SB K F Kn0 sl ow { D with nx := fun σ H => ∃ Kn, S K F Kn0 sl' ow1 σ Kn H } t) (k : SB K F Kn0 sl' ow1 D tz) : SB K F Kn0 sl ow D (tCut t tz) := fun σ Kn H s => ⟨_, h σ Kn H s, fun σ' H' ⟨Kn', s'⟩ => k σ' Kn' H' s'⟩
theorem sn_mid (l : SlLe sl sl') (l2 : ow1.Sublist ow) : SN K F Kn0 sl ow { D with nx := fun σ H => ∃ Kn, S K F Kn0 sl' ow1 σ Kn H } := fun σ Kn H s => ⟨Kn, (s.le l).sub l2⟩
/-- returns -/
theorem sb_ret {R : VK} (h : EV K F Kn0 sl ow te x) (q : RT K F Kn0 ow0 R x) (l : ow0.Sublist ow) (hR : D.rt = R := by rfl) : SB K F Kn0 sl ow D (tRet te) := fun σ Kn H s => by
  subst hR
  exact h σ Kn H s _ fun v Kn1 H1 g1 r1 => q v Kn1 H1 ((s.grow g1).sub l).fin r1
theorem sb_retM {R : VK} (h : EM K F Kn0 sl ow te ow1 x) (q : RT K F Kn0 ow0 R x) (l : ow0.Sublist ow1) (hR : D.rt = R := by rfl) : SB K F Kn0 sl ow D (tRet te) := fun σ Kn H s => by
  subst hR
  exact h σ Kn H s _ fun v Kn1 H1 e1 s1 r1 => q v Kn1 H1 (s1.sub l).fin r1
theorem sb_retL {R : VK} {xs : List α} (h : EN K F Kn0 sl ow te xs) (q : RN K F Kn0 ow0 R xs) (l : ow0.Sublist ow) (hR : D.rt = R := by rfl) : SB K F Kn0 sl ow D (tRet te) := fun σ Kn H s => by
  subst hR
  exact h σ Kn H s _ fun p ws Kn1 H1 g1 hp kp hw r1 => q p ws Kn1 H1 ((s.grow g1).sub l).fin (fresh_back s.ef hp) kp hw r1
/-- a list of one's own is told -/
theorem sb_retO {R : VK} {xs : List α} (hi : sl[i]? = some (.at p)) (hj : ow[j]? = some (ol p xs)) (q : RN K F Kn0 ow0 R xs) (l : ow0.Sublist ow) (hR : D.rt = R := by rfl) : SB K F Kn0 sl ow D (tRet (tVar i)) := fun σ Kn H s => by
  subst hR
  obtain ⟨o, h1, h2⟩ := s.sl.get hi
  obtain ⟨f1, f2, ws, f3, f4⟩ := s.ow.each _ (List.mem_of_getElem? hj)
  exact ⟨.ref p, by rw [h1]; exact congrArg some h2, q p ws Kn H (s.sub l).fin f1 f2 f3 f4⟩
theorem SB.seqB (h : (∀ sl' ow', SB K F Kn0 sl' ow' D tz → SN K F Kn0 sl' ow' { D with nx := tz D }) → SB K F Kn0 sl ow { D with nx := tz D } t) : SB K F Kn0 sl ow D (tSeq t tz) := h fun _ _ k => k
theorem SB.cutB (h : (∀ sl2 ow2, SlLe sl2 sl' → ow1.Sublist ow2 → SN K F Kn0 sl2 ow2 { D with nx := fun σ H => ∃ Kn, S K F Kn0 sl' ow1 σ Kn H }) → SB K F Kn0 sl ow { D with nx := fun σ H => ∃ Kn, S K F Kn0 sl' ow1 σ Kn H } t) (k : SB K F Kn0 sl' ow1 D tz) : SB K F Kn0 sl ow D (tCut t tz) :=
  sb_cut (h fun _ _ l l2 => sn_mid l l2) k
end

/-! ### targets -/
section
variable {α β τ : Type} [Rp α] [Rp β] [Tp τ] {sl sl' sl2 : List Sl} {K : Fg}
theorem wipe_set : ∀ {vs : List Nat} {i : Nat} {o : Option V} {σ : L2.St}, i ∈ vs → wipe (σ.set i o) vs = wipe σ vs
  | v :: vs, i, o, σ, h => by
    by_cases e : i ∈ vs
    · unfold wipe
      rw [wipe_set e]
    · have hv : i = v := (List.mem_cons.mp h).resolve_right e
      subst hv
      have w : ∀ (vs : List Nat) (σ : L2.St), i ∉ vs → wipe (σ.set i o) vs = (wipe σ vs).set i o := by
        intro vs
        induction vs with
        | nil => intro σ _; rfl
        | cons a r ih =>
          intro σ hn
          show (wipe (σ.set i o) r).set a none = ((wipe σ r).set a none).set i o
          rw [ih σ (fun z => hn (List.mem_cons_of_mem _ z)), List.set_comm]
          exact fun z => hn (by rw [z]; exact List.mem_cons_self)
      show (wipe (σ.set i o) vs).set i none = (wipe σ vs).set i none
      rw [w vs σ e, List.set_set]
def GT (K : Fg) (g : TG) (sl sl' : List Sl) (js : List Nat) (x : α) : Prop := ∀ σ Kn H v, SlsOk K Kn sl σ → Ex Kn H → rep K Kn v x → ∀ Q : L2.St → Hp → Prop, (∀ σ', SlsOk K Kn sl' σ' → (∀ vs, (∀ j ∈ js, j ∈ vs) → wipe σ' vs = wipe σ vs) → Q σ' H) → g v σ H Q
def GTs (K : Fg) (g : TGs) (sl sl' : List Sl) (js : List Nat) (t : τ) : Prop := ∀ σ Kn H vs, SlsOk K Kn sl σ → Ex Kn H → rept K Kn vs t → ∀ Q : L2.St → Hp → Prop, (∀ σ', SlsOk K Kn sl' σ' → (∀ vs, (∀ j ∈ js, j ∈ vs) → wipe σ' vs = wipe σ vs) → Q σ' H) → g vs σ H Q
theorem gt_name {i : Nat} {x : α} (hs : sl.set i (sv x) = sl') : GT K (gName i) sl sl' [i] x := fun σ Kn H v s ek r Q q => q _ (hs ▸ SlsOk.set (s := sv x) ⟨v, rfl, r⟩ i s) fun vs h => wipe_set (h i (by simp))
theorem gts_nil : GTs K gNil sl sl [] () := fun σ Kn H vs s ek r Q q => ⟨r, q σ s fun _ _ => rfl⟩
theorem gts_cons {g : TG} {gs : TGs} {js ks : List Nat} {x : α} {t : τ} (h1 : GT K g sl sl' js x) (h2 : GTs K gs sl' sl2 ks t) : GTs K (gCons g gs) sl sl2 (js ++ ks) (x, t) := fun σ Kn H vs s ek r Q q => by
  obtain ⟨v, rest, rfl, r1, r2⟩ := r
  exact ⟨v, rest, rfl, h1 σ Kn H v s ek r1 _ fun σ1 s1 w1 => h2 σ1 Kn H rest s1 ek r2 _ fun σ2 s2 w2 => q σ2 s2 fun vs h => (w2 vs fun j hj => h j (List.mem_append_right _ hj)).trans (w1 vs fun j hj => h j (List.mem_append_left _ hj))⟩
theorem gt_tup {gs : TGs} {js : List Nat} {n : Nat} {t : α × τ} (h : GTs K gs sl sl' js t) (hn : Tp.n (α × τ) = n := by rfl) : GT K (gTup K n gs) sl sl' js t := fun σ Kn H v s ek r Q q => by
  obtain ⟨p, ws, rfl, h1, h2⟩ := r
  exact ⟨p, ws, rfl, st_of (ek _ _ h1), (Tp.len h2).trans hn, h σ Kn H ws s ek h2 Q q⟩
end
section
variable {K : Fg} {F Kn0 : Hp} {sl sl' : List Sl} {ow ow1 : List Ow} {α : Type} [Rp α] {te : TE} {x : α} {D : Ends} {g : TG} {js : List Nat}
/-- a, b = e -/
theorem sb_unp (h : EV K F Kn0 sl ow te x) (hg : GT K g sl sl' js x) (k : SN K F Kn0 sl' ow D) : SB K F Kn0 sl ow D (tAsg te g) := fun σ Kn H s =>
  h σ Kn H s _ fun v Kn1 H1 g1 r1 => by
    have s1 := s.grow g1
    exact hg σ Kn1 H1 v s1.sl s1.ek r1 _ fun σ' h' _ => k σ' Kn1 H1 ⟨s1.e0, s1.ek, s1.ef, s1.sep, h', s1.ow⟩
theorem sb_unpM (h : EM K F Kn0 sl ow te ow1 x) (hg : GT K g sl sl' js x) (k : SN K F Kn0 sl' ow1 D) : SB K F Kn0 sl ow D (tAsg te g) := fun σ Kn H s =>
  h σ Kn H s _ fun v Kn1 H1 e1 s1 r1 => hg σ Kn1 H1 v s1.sl s1.ek r1 _ fun σ' h' _ => k σ' Kn1 H1 ⟨s1.e0, s1.ek, s1.ef, s1.sep, h', s1.ow⟩
/-- a, b = e1, e2 -/
theorem sb_par {α β : Type} [Rp α] [Rp β] {ta : TA} {i j : Nat} {x : α} {y : β} (hs : (sl.set i (sv x)).set j (sv y) = sl') (h : EA K F Kn0 sl ow ta (x, y, ())) (k : SN K F Kn0 sl' ow D) : SB K F Kn0 sl ow D (tPar i j ta) := fun σ Kn H s =>
  h σ Kn H s _ fun vs Kn1 H1 g1 r1 => by
    obtain ⟨v, w, rfl, h1, h2⟩ := two_args r1
    exact ⟨v, w, rfl, k _ Kn1 H1 (hs ▸ ((s.grow g1).setv i h1).setv j h2)⟩
end

/-! ### what is walked -/
def WK {β : Type} [Rp β] (K : Fg) (Kn1 : Hp) (J : It) (xs : List β) : Prop := ∀ i Kn' H', Ex Kn1 Kn' → Ex Kn' H' →
  (∀ x, xs[i]? = some x → J.go i H' ∧ ∀ v H2, J.yld i H' v H2 → ∃ Kn2, Gr Kn' H' Kn2 H2 ∧ rep K Kn2 v x) ∧ (xs.length ≤ i → J.stop i H')
section
variable (K : Fg) (F Kn0 : Hp) (sl : List Sl) (ow : List Ow)
def IT {β : Type} [Rp β] (wi : TI) (xs : List β) : Prop := ∀ σ Kn H, S K F Kn0 sl ow σ Kn H → ∀ R : It → Hp → Prop, (∀ J Kn1 H1, Gr Kn H Kn1 H1 → WK K Kn1 J xs → R J H1) → wi σ H R
def ITM {β : Type} [Rp β] (wi : TI) (ow' : List Ow) (xs : List β) : Prop := ∀ σ Kn H, S K F Kn0 sl ow σ Kn H → ∀ R : It → Hp → Prop, (∀ J Kn1 H1, Ex Kn Kn1 → S K F Kn0 sl ow' σ Kn1 H1 → WK K Kn1 J xs → R J H1) → wi σ H R
end
/-- lo, lo + 1 .. below hi -/
def irange (lo hi : Int) : List Int := (List.range (hi - lo).toNat).map fun (k : Nat) => lo + (k : Int)
def rngO (lo hi : Int) : Option (List Int) := if -1000000000000 ≤ lo ∧ lo ≤ 1000000000000 ∧ -1000000000000 ≤ hi ∧ hi ≤ 1000000000000 then some (irange lo hi) else none
def enumI {α : Type} (xs : List α) : List (Int × α × Unit) := xs.mapIdx fun i x => ((i : Int), x, ())
def zipI {α β : Type} (xs : List α) (ys : List β) : List (α × β × Unit) := List.zipWith (fun a b => (a, b, ())) xs ys
section
variable {K : Fg} {F Kn0 : Hp} {sl sl' : List Sl} {ow ow1 : List Ow} {α β : Type} [Rp α] [Rp β] {te : TE} {ta : TA}
theorem IT.m {wi : TI} {xs : List β} (h : IT K F Kn0 sl ow wi xs) : ITM K F Kn0 sl ow wi ow xs := fun σ Kn H s R q => h σ Kn H s R fun J Kn1 H1 g w => q J Kn1 H1 g.kk (s.grow g) w
theorem wk_list {Kn1 : Hp} {p : Addr} {ws : List V} {xs : List α} (h : SqL K Kn1 p ws) (r : Paired (rep K Kn1) ws xs) : WK K Kn1 (Itl K p) xs := fun i Kn' H' e1 e2 => by
  have hq : SqL K H' p ws := ex_l (e1.trans e2) h
  refine ⟨fun x hx => ?_, fun hl => ⟨ws, hq, by rw [paired_len r]; exact hl⟩⟩
  obtain ⟨v, hv, rv⟩ := paired_at r hx
  refine ⟨⟨ws, v, hq, hv⟩, fun u H2 hy => ?_⟩
  obtain ⟨rfl, f⟩ := hy
  have : v = u := Option.some.inj (hv.symm.trans (f ws hq))
  subst this
  exact ⟨Kn', Gr.refl e2, Rp.mono e1 rv⟩
theorem it_list {xs : List α} (h : EV K F Kn0 sl ow te xs) : IT K F Kn0 sl ow (iList K te) xs := fun σ Kn H s R q => h σ Kn H s _ fun v Kn1 H1 g1 r1 => by
  obtain ⟨p, ws, rfl, h3, h4⟩ := r1
  exact ⟨p, rfl, ⟨ws, sq_of (g1.kh _ _ h3)⟩, q _ Kn1 H1 g1 (wk_list (sq_of h3) h4)⟩
theorem it_listF {xs : Fz α} (h : EV K F Kn0 sl ow te xs) : IT K F Kn0 sl ow (iList K te) xs.l := fun σ Kn H s R q => h σ Kn H s _ fun v Kn1 H1 g1 r1 => by
  obtain ⟨p, ws, rfl, h3, h4⟩ := r1
  exact ⟨p, rfl, ⟨ws, ex_l g1.kh h3⟩, q _ Kn1 H1 g1 (wk_list h3 h4)⟩
theorem itm_list {xs : List α} (h : ENM K F Kn0 sl ow te ow1 xs) : ITM K F Kn0 sl ow (iList K te) ow1 xs := fun σ Kn H s R q => h σ Kn H s _ fun p ws Kn1 H1 e1 s1 fp kp no hw r1 => by
  have s2 := s1.know (o := .lst ws) fp kp no hw
  exact ⟨p, rfl, ⟨ws, sq_of hw⟩, q _ _ H1 (e1.trans (Ex.new kp)) s2 (wk_list (sq_of upd_same) (paired_mono (Ex.new kp) r1))⟩
theorem it_tup {xs : Tu α} (h : EV K F Kn0 sl ow te xs) : IT K F Kn0 sl ow (iTup K te) xs.l := fun σ Kn H s R q => h σ Kn H s _ fun v Kn1 H1 g1 r1 => by
  obtain ⟨p, ws, rfl, h3, h4⟩ := r1
  refine ⟨p, rfl, ⟨ws, st_of (g1.kh _ _ h3)⟩, q _ Kn1 H1 g1 fun i Kn' H' e1 e2 => ?_⟩
  have hq : SqT K H' p ws := st_of ((e1.trans e2) _ _ h3)
  refine ⟨fun x hx => ?_, fun hl => ⟨ws, hq, by rw [paired_len h4]; exact hl⟩⟩
  obtain ⟨v, hv, rv⟩ := paired_at h4 hx
  refine ⟨⟨ws, v, hq, hv⟩, fun u H2 hy => ?_⟩
  obtain ⟨rfl, f⟩ := hy
  have : v = u := Option.some.inj (hv.symm.trans (f ws hq))
  subst this
  exact ⟨Kn', Gr.refl e2, Rp.mono e1 rv⟩
theorem wk_range {Kn1 : Hp} (lo hi : Int) : WK K Kn1 (Itr lo (hi - lo).toNat) (irange lo hi) := fun i Kn' H' e1 e2 => by
  refine ⟨fun x hx => ?_, fun hl => ?_⟩
  · unfold irange at hx
    rw [List.getElem?_map] at hx
    cases q : (List.range (hi - lo).toNat)[i]? with
    | none => rw [q] at hx; cases hx
    | some m =>
      rw [q] at hx
      obtain ⟨hlt, he⟩ := List.getElem?_eq_some_iff.mp q
      rw [List.getElem_range] at he
      rw [List.length_range] at hlt
      subst he
      cases hx
      refine ⟨hlt, fun v H2 hy => ?_⟩
      obtain ⟨rfl, rfl⟩ := hy
      exact ⟨Kn', Gr.refl e2, rfl⟩
  · unfold irange at hl
    rw [List.length_map, List.length_range] at hl
    exact hl
theorem it_rng1 {n : Int} {xs : List Int} (h : EA K F Kn0 sl ow ta (n, ())) (hx : rngO 0 n = some xs) : IT K F Kn0 sl ow (iRng1 ta) xs := fun σ Kn H s R q => h σ Kn H s _ fun vs Kn1 H1 g1 r1 => by
  obtain ⟨v, rfl, h1⟩ := one_arg r1
  cases h1
  unfold rngO at hx
  split at hx
  · rename_i hb
    cases hx
    refine ⟨n, rfl, by omega, by omega, q _ Kn1 H1 g1 ?_⟩
    have w := wk_range (K := K) (Kn1 := Kn1) 0 n
    rw [Int.sub_zero] at w
    exact w
  · cases hx
theorem itm_rng1 {n : Int} {xs : List Int} (h : EAM K F Kn0 sl ow ta ow1 (n, ())) (hx : rngO 0 n = some xs) : ITM K F Kn0 sl ow (iRng1 ta) ow1 xs := fun σ Kn H s R q => h σ Kn H s _ fun vs Kn1 H1 e1 s1 r1 => by
  obtain ⟨v, rfl, h1⟩ := one_arg r1
  cases h1
  unfold rngO at hx
  split at hx
  · rename_i hb
    cases hx
    refine ⟨n, rfl, by omega, by omega, q _ Kn1 H1 e1 s1 ?_⟩
    have w := wk_range (K := K) (Kn1 := Kn1) 0 n
    rw [Int.sub_zero] at w
    exact w
  · cases hx
theorem it_rng2 {lo n : Int} {xs : List Int} (h : EA K F Kn0 sl ow ta (lo, n, ())) (hx : rngO lo n = some xs) : IT K F Kn0 sl ow (iRng2 ta) xs := fun σ Kn H s R q => h σ Kn H s _ fun vs Kn1 H1 g1 r1 => by
  obtain ⟨v, w, rfl, h1, h2⟩ := two_args r1
  cases h1
  cases h2
  unfold rngO at hx
  split at hx
  · rename_i hb
    cases hx
    exact ⟨lo, n, rfl, ⟨by omega, by omega, by omega, by omega⟩, q _ Kn1 H1 g1 (wk_range lo n)⟩
  · cases hx
theorem enum_get {xs : List α} {i : Nat} {y : Int × α × Unit} (h : (enumI xs)[i]? = some y) : ∃ x, xs[i]? = some x ∧ y = ((i : Int), x, ()) := by
  unfold enumI at h
  rw [List.getElem?_mapIdx] at h
  cases q : xs[i]? with
  | none => rw [q] at h; cases h
  | some x => rw [q] at h; cases h; exact ⟨x, rfl, rfl⟩
theorem wk_enum {Kn1 : Hp} {p : Addr} {ws : List V} {xs : List α} (h : SqL K Kn1 p ws) (r : Paired (rep K Kn1) ws xs) : WK K Kn1 (Ite K p) (enumI xs) := fun i Kn' H' e1 e2 => by
  have hq : SqL K H' p ws := ex_l (e1.trans e2) h
  refine ⟨fun y hy => ?_, fun hl => ⟨ws, hq, by rw [paired_len r]; simpa [enumI] using hl⟩⟩
  obtain ⟨x, hx, rfl⟩ := enum_get hy
  obtain ⟨v, hv, rv⟩ := paired_at r hx
  refine ⟨⟨ws, v, hq, hv⟩, fun u H2 hy => ?_⟩
  obtain ⟨T, z, rfl, hT, rfl, f⟩ := hy
  have : v = z := Option.some.inj (hv.symm.trans (f ws hq))
  subst this
  have g : Gr Kn' H' (upd Kn' T (.tup [.int (i : Nat), v])) (upd H' T (.tup [.int (i : Nat), v])) := Gr.new e2 hT
  exact ⟨_, g, T, _, rfl, upd_same, .int (i : Nat), [v], rfl, rfl, v, [], rfl, Rp.mono (e1.trans g.kk) rv, rfl⟩
theorem it_enum {xs : List α} (h : EA K F Kn0 sl ow ta (xs, ())) : IT K F Kn0 sl ow (iEnum K ta) (enumI xs) := fun σ Kn H s R q => h σ Kn H s _ fun vs Kn1 H1 g1 r1 => by
  obtain ⟨v, rfl, p, ws, rfl, h3, h4⟩ := one_arg r1
  exact ⟨p, ws, rfl, sq_of (g1.kh _ _ h3), q _ Kn1 H1 g1 (wk_enum (sq_of h3) h4)⟩
theorem zip_get {xs : List α} {ys : List β} {i : Nat} {z : α × β × Unit} (h : (zipI xs ys)[i]? = some z) : ∃ x y, xs[i]? = some x ∧ ys[i]? = some y ∧ z = (x, y, ()) := by
  unfold zipI at h
  rw [List.getElem?_zipWith] at h
  cases q : xs[i]? with
  | none => rw [q] at h; simp at h
  | some x =>
    cases q2 : ys[i]? with
    | none => rw [q, q2] at h; simp at h
    | some y =>
      rw [q, q2] at h
      simp at h
      exact ⟨x, y, rfl, rfl, h.symm⟩
theorem it_zip {xs : List α} {ys : List β} (h : EA K F Kn0 sl ow ta (xs, ys, ())) : IT K F Kn0 sl ow (iZip K ta) (zipI xs ys) := fun σ Kn H s R q => h σ Kn H s _ fun vs Kn1 H1 g1 r1 => by
  obtain ⟨v, w, rfl, ⟨p, ws, rfl, h3, h4⟩, ⟨p2, ws2, rfl, h5, h6⟩⟩ := two_args r1
  refine ⟨p, p2, ws, ws2, rfl, sq_of (g1.kh _ _ h3), sq_of (g1.kh _ _ h5), q _ Kn1 H1 g1 fun i Kn' H' e1 e2 => ?_⟩
  have hq : SqL K H' p ws := sq_of ((e1.trans e2) _ _ h3)
  have hq2 : SqL K H' p2 ws2 := sq_of ((e1.trans e2) _ _ h5)
  refine ⟨fun y hy => ?_, fun hl => ⟨ws, ws2, hq, hq2, ?_⟩⟩
  · obtain ⟨x, y, hx, hy2, rfl⟩ := zip_get hy
    obtain ⟨v, hv, rv⟩ := paired_at h4 hx
    obtain ⟨v2, hv2, rv2⟩ := paired_at h6 hy2
    refine ⟨⟨ws, ws2, v, v2, hq, hq2, hv, hv2⟩, fun u H2 hy => ?_⟩
    obtain ⟨T, z, z2, rfl, hT, rfl, f, f2⟩ := hy
    have e3 : v = z := Option.some.inj (hv.symm.trans (f ws hq))
    have e4 : v2 = z2 := Option.some.inj (hv2.symm.trans (f2 ws2 hq2))
    subst e3
    subst e4
    have g : Gr Kn' H' (upd Kn' T (.tup [v, v2])) (upd H' T (.tup [v, v2])) := Gr.new e2 hT
    exact ⟨_, g, T, _, rfl, upd_same, v, [v2], rfl, Rp.mono (e1.trans g.kk) rv, v2, [], rfl, Rp.mono (e1.trans g.kk) rv2, rfl⟩
  · rw [paired_len h4, paired_len h6]
    simp [zipI] at hl
    omega
end

/-! ### loops -/
structure Bs (F Kn0 Kn1 : Hp) : Prop where
  e : Ex Kn0 Kn1
  sp : ∀ p, F p ≠ none → Kn0 p = none → Kn1 p = none
section
variable {K : Fg} {F Kn0 Kn1 : Hp} {sl sl' : List Sl} {ow ow0 ow1 : List Ow} {α β γ : Type} [Rp α] [Rp β] [Rp γ] {D : Ends} {σ : L2.St} {Kn H : Hp}
theorem Bs.refl : Bs F Kn0 Kn0 := ⟨Ex.refl _, fun _ _ h => h⟩
theorem S.bs (s : S K F Kn0 sl ow σ Kn H) : Bs F Kn0 Kn := ⟨s.e0, s.sep⟩
theorem S.rebase (s : S K F Kn0 sl ow σ Kn H) : S K F Kn sl ow σ Kn H := ⟨Ex.refl _, s.ek, s.ef, fun _ _ h => h, s.sl, s.ow⟩
theorem S.unbase (b : Bs F Kn0 Kn1) (s : S K F Kn1 sl ow σ Kn H) : S K F Kn0 sl ow σ Kn H := ⟨b.e.trans s.e0, s.ek, s.ef, fun p h1 h2 => s.sep p h1 (b.sp p h1 h2), s.sl, s.ow⟩
theorem RT.base {R : VK} {x : α} (q : RT K F Kn0 ow R x) (b : Bs F Kn0 Kn1) : RT K F Kn1 ow R x := fun v Kn H s => q v Kn H (s.unbase b)
theorem RN.base {R : VK} {xs : List α} (q : RN K F Kn0 ow R xs) (b : Bs F Kn0 Kn1) : RN K F Kn1 ow R xs := fun p ws Kn H s => q p ws Kn H (s.unbase b)
theorem SN.base (q : SN K F Kn0 sl ow D) (b : Bs F Kn0 Kn1) : SN K F Kn1 sl ow D := fun σ Kn H s => q σ Kn H (s.unbase b)
theorem sb_for {wi : TI} {g : TG} {tb : TS} {Sx : Type} {xs : List β} (slx : Sx → List Sl) (owx : Sx → List Ow) (gx : β → Sx → List Sl) (js : List Nat) (P : List β → Sx → Prop) (s0 : Sx) (hi : ITM K F Kn0 sl ow wi ow1 xs) (h0 : P xs s0) (le : SlLe sl (slx s0)) (eo : (owx s0).Sublist ow1)
    (hg : ∀ x s, GT K g (slx s) (gx x s) js x)
    (step : ∀ Kn1, Bs F Kn0 Kn1 → ∀ x rest s, P (x :: rest) s → ∀ N : L2.St → Hp → Prop, (∀ s', P rest s' → ∀ σ Kn H, S K F Kn1 (slx s') (owx s') σ Kn H → N σ H) → SB K F Kn1 (gx x s) (owx s) { D with nx := N, ct := N, bk := D.nx } tb)
    (done : ∀ s, P [] s → SN K F Kn0 (slx s) (owx s) D) : SB K F Kn0 sl ow D (tFor wi g tb) := fun σ Kn H s =>
  hi σ Kn H s _ fun J Kn1 H1 e1 s1 w => by
    have b : Bs F Kn0 Kn1 := s1.bs
    refine ⟨fun i m σ H => i + m = xs.length ∧ ∃ Kn s, P (xs.drop i) s ∧ S K F Kn1 (slx s) (owx s) σ Kn H, ⟨xs.length, by omega, Kn1, s0, h0, (s1.rebase.le le).sub eo⟩, fun i m σ H hW => ?_⟩
    obtain ⟨em, Kn, s, hP, hS⟩ := hW
    by_cases hlt : i < xs.length
    · have hx : xs[i]? = some xs[i] := List.getElem?_eq_getElem hlt
      have hd : xs.drop i = xs[i] :: xs.drop (i + 1) := List.drop_eq_getElem_cons hlt
      rw [hd] at hP
      obtain ⟨go, yl⟩ := (w i Kn H hS.e0 hS.ek).1 _ hx
      refine .inr ⟨go, fun σ' H' => ∃ Kn s, P (xs.drop (i + 1)) s ∧ S K F Kn1 (slx s) (owx s) σ' Kn H', fun σ' H' ⟨Kn', s', h1, h2⟩ => ⟨m - 1, by omega, by omega, Kn', s', h1, h2⟩, fun v H' hy => ?_⟩
      obtain ⟨Kn2, g2, rv⟩ := yl v H' hy
      have hS2 := hS.grow g2
      refine hg _ s σ Kn2 H' v hS2.sl hS2.ek rv _ fun σ2 h2 _ => ?_
      exact step Kn1 b _ _ s hP _ (fun s' hs' σ Kn H hS' => ⟨Kn, s', hs', hS'⟩) σ2 Kn2 H' ⟨hS2.e0, hS2.ek, hS2.ef, hS2.sep, h2, hS2.ow⟩
    · have hd : xs.drop i = [] := List.drop_eq_nil_of_le (by omega)
      rw [hd] at hP
      exact .inl ⟨(w i Kn H hS.e0 hS.ek).2 (by omega), done s hP σ Kn H (hS.unbase b)⟩
theorem sb_while {tt : TT} {tb : TS} {Sx : Type} (slx : Sx → List Sl) (owx : Sx → List Ow) (P : Nat → Sx → Prop) (n0 : Nat) (s0 : Sx) (h0 : P n0 s0) (le : SlLe sl (slx s0)) (eo : (owx s0).Sublist ow)
    (step : ∀ n s, P n s → ∃ b, ET K F Kn0 (slx s) (owx s) tt b ∧
      (b = true → ∀ N : L2.St → Hp → Prop, (∀ m s', m < n → P m s' → ∀ σ Kn H, S K F Kn0 (slx s') (owx s') σ Kn H → N σ H) → SB K F Kn0 (slx s) (owx s) { D with nx := N, ct := N, bk := D.nx } tb) ∧ (b = false → SN K F Kn0 (slx s) (owx s) D)) :
    SB K F Kn0 sl ow D (tWhile tt tb) := fun σ Kn H s => by
  refine ⟨fun n σ H => ∃ Kn s, P n s ∧ S K F Kn0 (slx s) (owx s) σ Kn H, ⟨n0, Kn, s0, h0, (s.le le).sub eo⟩, fun n σ H hW => ?_⟩
  obtain ⟨Kn, s, hP, hS⟩ := hW
  obtain ⟨b, h1, h2, h3⟩ := step n s hP
  refine h1 σ Kn H hS _ fun Kn1 H1 g1 => ?_
  cases b with
  | true => exact iteT ⟨fun σ H => ∃ m Kn s, m < n ∧ P m s ∧ S K F Kn0 (slx s) (owx s) σ Kn H, fun σ' H' ⟨m, Kn', s', hm, hp, hs⟩ => ⟨m, hm, Kn', s', hp, hs⟩, h2 rfl _ (fun m s' hm hp σ Kn H hs => ⟨m, Kn, s', hm, hp, hs⟩) σ Kn1 H1 (hS.grow g1)⟩
  | false => exact iteF (h3 rfl σ Kn1 H1 (hS.grow g1))
end

/-! ### comprehensions -/
def lcGo {β γ : Type} (c : β → Option Bool) (f : β → Option γ) : List β → Option (List γ)
  | [] => some []
  | x :: xs => (c x).bind fun b => if b = true then (f x).bind fun z => (lcGo c f xs).bind fun zs => some (z :: zs) else lcGo c f xs
def lcM {β γ : Type} (c : β → Option Bool) (f : β → Option γ) (xs : List β) : Option (List γ) := if xs.length < 1000000 then lcGo c f xs else none
def lcSGo {β γ Sx : Type} (f : β → Sx → Option (γ × Sx)) : List β → Sx → Option (List γ × Sx)
  | [], s => some ([], s)
  | x :: xs, s => (f x s).bind fun r => (lcSGo f xs r.2).bind fun q => some (r.1 :: q.1, q.2)
def lcS {β γ Sx : Type} (f : β → Sx → Option (γ × Sx)) (xs : List β) (s : Sx) : Option (List γ × Sx) := if xs.length < 1000000 then lcSGo f xs s else none
section
variable {K : Fg} {F Kn0 : Hp} {sl sl' : List Sl} {ow ow0 ow1 : List Ow} {α β γ : Type} [Rp α] [Rp β] [Rp γ] {σ : L2.St} {Kn H : Hp} {tt : TT} {te : TE} {wi : TI} {g : TG} {vs js : List Nat}
theorem bind_some {α β : Type} {m : Option α} {f : α → Option β} {r : β} (h : m.bind f = some r) : ∃ a, m = some a ∧ f a = some r := by
  cases m with
  | none => cases h
  | some a => exact ⟨a, rfl, h⟩
theorem SlsOk.wipe : ∀ {vs : List Nat} {Kn : Hp} {sl : List Sl} {σ : L2.St}, (∀ j ∈ vs, sl[j]? = some .any) → SlsOk K Kn sl σ → SlsOk K Kn sl (wipe σ vs)
  | [], _, _, _, _, h => h
  | v :: vs, Kn, sl, σ, hv, h => by
    have h1 := SlsOk.wipe (vs := vs) (fun j hj => hv j (List.mem_cons_of_mem _ hj)) h
    have h2 := SlsOk.set (K := K) (H := Kn) (s := .any) (o := none) trivial v h1
    have e : sl.set v .any = sl := by
      refine List.ext_getElem? fun m => ?_
      have hm := hv v List.mem_cons_self
      by_cases q : v = m
      · subst q
        rw [List.getElem?_set_self (List.getElem?_eq_some_iff.mp hm).1, hm]
      · rw [List.getElem?_set_ne q]
    rw [e] at h2
    exact h2
theorem S.wipe (s : S K F Kn0 sl ow σ Kn H) (hv : ∀ j ∈ vs, sl[j]? = some .any) : S K F Kn0 sl ow (wipe σ vs) Kn H := ⟨s.e0, s.ek, s.ef, s.sep, s.sl.wipe hv, s.ow⟩
theorem Gr.mut {Kn' H' : Hp} {p : Addr} {o : HO} (g : Gr Kn H Kn' H') (hp : H p = none) (kp : Kn' p = none) : Gr Kn H Kn' (upd H' p o) :=
  ⟨g.kk, Ex.mut g.hh hp, upd_in g.kh kp, g.sp⟩
theorem S.slots {σ2 : L2.St} (s : S K F Kn0 sl ow σ Kn H) (h : SlsOk K Kn sl' σ2) : S K F Kn0 sl' ow σ2 Kn H := ⟨s.e0, s.ek, s.ef, s.sep, h, s.ow⟩
theorem en_lc {xs : List β} {zs : List γ} {c : β → Option Bool} {f : β → Option γ} (gx : β → List Sl) (hm : lcM c f xs = some zs) (hi : IT K F Kn0 sl ow wi xs) (hv : ∀ j ∈ vs, sl[j]? = some .any) (hg : ∀ x, GT K g sl (gx x) js x) (hj : ∀ j ∈ js, j ∈ vs)
    (ht : ∀ p (acc : List γ) x b, c x = some b → ET K F Kn0 (gx x) (ol p acc :: ow) tt b) (he : ∀ p (acc : List γ) x z, c x = some true → f x = some z → EV K F Kn0 (gx x) (ol p acc :: ow) te z) :
    EN K F Kn0 sl ow (tLc wi g tt te vs) zs := fun σ Kn H s Q q => by
  unfold lcM at hm
  split at hm
  case isFalse => cases hm
  rename_i hlen
  refine hi σ Kn H s _ fun J Kn1 H1 g1 w D hD => ?_
  have s1 := s.grow g1
  have kD : Kn1 D = none := fresh_back s1.ek hD
  have fD : F D = none := fresh_back s1.ef hD
  refine ⟨fun i m H' => i + m = xs.length ∧ ∃ Kn' ws acc rest, Gr Kn1 H1 Kn' H' ∧ Kn' D = none ∧ H' D = some (.lst ws) ∧ Paired (rep K Kn') ws acc ∧ acc.length ≤ i ∧ lcGo c f (xs.drop i) = some rest ∧ acc ++ rest = zs,
    ⟨xs.length, by omega, Kn1, [], [], zs, (Gr.newU g1.kh hD), kD, upd_same, .nil, Nat.le_refl _, hm, rfl⟩, fun i m H' hW => ?_⟩
  obtain ⟨em, Kn', ws, acc, rest, gr, kD', hD', rp, hal, hrest, hz⟩ := hW
  have s' : S K F Kn0 sl (ol D acc :: ow) σ Kn' H' := (s1.grow gr).own fD kD' (owned_ne s1 hD) hD' rp
  by_cases hlt : i < xs.length
  · have hx : xs[i]? = some xs[i] := List.getElem?_eq_getElem hlt
    have hd : xs.drop i = xs[i] :: xs.drop (i + 1) := List.drop_eq_getElem_cons hlt
    rw [hd] at hrest
    obtain ⟨b, hb, hrest⟩ := bind_some hrest
    obtain ⟨go, yl⟩ := (w i Kn' H' gr.kk gr.kh).1 _ hx
    refine .inr ⟨go, fun H'' => ∃ Kn' ws acc rest, Gr Kn1 H1 Kn' H'' ∧ Kn' D = none ∧ H'' D = some (.lst ws) ∧ Paired (rep K Kn') ws acc ∧ acc.length ≤ i + 1 ∧ lcGo c f (xs.drop (i + 1)) = some rest ∧ acc ++ rest = zs, fun H'' h => ⟨m - 1, by omega, by omega, h⟩, fun v H2 hy => ?_⟩
    obtain ⟨Kn2, g2, rv⟩ := yl v H2 hy
    have s2 := (s'.grow g2).wipe hv
    refine hg _ _ Kn2 H2 v s2.sl s2.ek rv _ fun σ3 h3 hw3 => ?_
    have s3 := s2.slots h3
    have hDn : H' D ≠ none := ne_none_of hD'
    refine ⟨(hw3 vs hj).trans ?_, ht D acc _ b hb σ3 Kn2 H2 s3 _ fun Kn3 H3 g3 => ?_⟩
    · have ww : ∀ (vs us : List Nat) (σ : L2.St), (∀ j ∈ vs, j ∈ us) → L2.wipe (L2.wipe σ vs) us = L2.wipe σ us := by
        intro vs
        induction vs with
        | nil => intro us σ _; rfl
        | cons a r ih =>
          intro us σ hh
          show L2.wipe ((L2.wipe σ r).set a none) us = L2.wipe σ us
          rw [wipe_set (hh a List.mem_cons_self)]
          exact ih us σ fun j hj => hh j (List.mem_cons_of_mem _ hj)
      exact ww vs vs σ fun _ h => h
    · have g123 : Gr Kn1 H1 Kn3 H3 := (gr.trans g2).trans g3
      have kD3 : Kn3 D = none := (g2.trans g3).sp D hDn kD'
      have hD3 : H3 D = some (.lst ws) := (g2.trans g3).hh _ _ hD'
      cases b with
      | true =>
        obtain ⟨z, hfz, hrest⟩ := bind_some (show (f xs[i]).bind _ = some rest from hrest)
        obtain ⟨zs', hzs, hrest⟩ := bind_some hrest
        cases hrest
        refine iteT (he D acc _ z hb hfz σ3 Kn3 H3 (s3.grow g3) _ fun y Kn4 H4 g4 ry => ?_)
        have g234 := (g2.trans g3).trans g4
        have kD4 : Kn4 D = none := g4.sp D (ne_none_of hD3) kD3
        refine ⟨ws, g4.hh _ _ hD3, by rw [paired_len rp]; exact lt_line (by omega), Kn4, ws ++ [y], acc ++ [z], zs', (gr.trans g234).mut hD kD4, kD4, upd_same, paired_append (paired_mono g234.kk rp) (.cons ry .nil), ?_, hzs, ?_⟩
        · rw [List.length_append, List.length_singleton]; omega
        · rw [List.append_assoc]; exact hz
      | false =>
        have hrest : lcGo c f (xs.drop (i + 1)) = some rest := hrest
        exact iteF ⟨Kn3, ws, acc, rest, g123, kD3, hD3, paired_mono (g2.trans g3).kk rp, by omega, hrest, hz⟩
  · have hd : xs.drop i = [] := List.drop_eq_nil_of_le (by omega)
    rw [hd] at hrest
    cases hrest
    rw [List.append_nil] at hz
    subst hz
    exact .inl ⟨(w i Kn' H' gr.kk gr.kh).2 (by omega), q D ws Kn' H' (g1.trans gr) (fresh_back g1.hh hD) kD' hD' rp⟩
theorem et_yes : ET K F Kn0 sl ow tYes true := fun σ Kn H s Q q => q Kn H (Gr.refl s.ek)
/-- what changes on the way: owx -/
theorem enm_lc {Sx : Type} {xs : List β} {zs : List γ} {f : β → Sx → Option (γ × Sx)} (owx : Sx → List Ow) (gx : β → List Sl) (s0 s9 : Sx) (hm : lcS f xs s0 = some (zs, s9)) (hi : ITM K F Kn0 sl ow wi (owx s0) xs) (hv : ∀ j ∈ vs, sl[j]? = some .any) (hg : ∀ x, GT K g sl (gx x) js x) (hj : ∀ j ∈ js, j ∈ vs)
    (he : ∀ Kn1, Bs F Kn0 Kn1 → ∀ p (acc : List γ) x s z s', f x s = some (z, s') → EM K F Kn1 (gx x) (ol p acc :: owx s) te (ol p acc :: owx s') z) :
    ENM K F Kn0 sl ow (tLc wi g tYes te vs) (owx s9) zs := fun σ Kn H s Q q => by
  unfold lcS at hm
  split at hm
  case isFalse => cases hm
  rename_i hlen
  refine hi σ Kn H s _ fun J Kn1 H1 e1 s1 w D hD => ?_
  have kD : Kn1 D = none := fresh_back s1.ek hD
  have fD : F D = none := fresh_back s1.ef hD
  have b1 : Bs F Kn0 Kn1 := s1.bs
  refine ⟨fun i m H' => i + m = xs.length ∧ ∃ Kn' st acc rest, S K F Kn1 sl (ol D acc :: owx st) σ Kn' H' ∧ acc.length ≤ i ∧ lcSGo f (xs.drop i) st = some (rest, s9) ∧ acc ++ rest = zs,
    ⟨xs.length, by omega, Kn1, s0, [], zs, ?_, Nat.le_refl _, hm, rfl⟩, fun i m H' hW => ?_⟩
  · have s2 := s1.rebase.grow (Gr.newU (o := .lst []) s1.ek hD)
    exact s2.own fD kD (owned_ne s1 hD) upd_same .nil
  obtain ⟨em, Kn', st, acc, rest, s', hal, hrest, hz⟩ := hW
  obtain ⟨_, kD', ws, hD', rp⟩ := s'.ow.each (ol D acc) List.mem_cons_self
  have hD' : H' D = some (.lst ws) := hD'
  by_cases hlt : i < xs.length
  · have hx : xs[i]? = some xs[i] := List.getElem?_eq_getElem hlt
    have hd : xs.drop i = xs[i] :: xs.drop (i + 1) := List.drop_eq_getElem_cons hlt
    rw [hd] at hrest
    obtain ⟨⟨z, st'⟩, hf, hrest⟩ := bind_some hrest
    obtain ⟨⟨zs', s9'⟩, hzs, hrest⟩ := bind_some hrest
    have h9 := Option.some.inj hrest
    have h91 : z :: zs' = rest := congrArg Prod.fst h9
    have h92 : s9' = s9 := congrArg Prod.snd h9
    rw [h92] at hzs
    subst h91
    obtain ⟨go, yl⟩ := (w i Kn' H' s'.e0 s'.ek).1 _ hx
    refine .inr ⟨go, fun H'' => ∃ Kn' st acc rest, S K F Kn1 sl (ol D acc :: owx st) σ Kn' H'' ∧ acc.length ≤ i + 1 ∧ lcSGo f (xs.drop (i + 1)) st = some (rest, s9) ∧ acc ++ rest = zs, fun H'' h => ⟨m - 1, by omega, by omega, h⟩, fun v H2 hy => ?_⟩
    obtain ⟨Kn2, g2, rv⟩ := yl v H2 hy
    have s2 := (s'.grow g2).wipe hv
    refine hg _ _ Kn2 H2 v s2.sl s2.ek rv _ fun σ3 h3 hw3 => ?_
    have s3 := s2.slots h3
    refine ⟨(hw3 vs hj).trans ?_, ?_⟩
    · have ww : ∀ (vs us : List Nat) (σ : L2.St), (∀ j ∈ vs, j ∈ us) → L2.wipe (L2.wipe σ vs) us = L2.wipe σ us := by
        intro vs
        induction vs with
        | nil => intro us σ _; rfl
        | cons a r ih =>
          intro us σ hh
          show L2.wipe ((L2.wipe σ r).set a none) us = L2.wipe σ us
          rw [wipe_set (hh a List.mem_cons_self)]
          exact ih us σ fun j hj => hh j (List.mem_cons_of_mem _ hj)
      exact ww vs vs σ fun _ h => h
    · unfold tYes
      refine iteT ?_
      refine he Kn1 b1 D acc _ st z st' hf σ3 Kn2 H2 s3 _ fun y Kn4 H4 e4 s4 ry => ?_
      obtain ⟨_, kD4, ws4, hD4, rp4⟩ := s4.ow.each (ol D acc) List.mem_cons_self
      have kD4 : Kn4 D = none := kD4
      have s5 : S K F Kn1 (gx xs[i]) (ol D (acc ++ [z]) :: owx st') σ3 Kn4 (upd H4 D (.lst (ws4 ++ [y]))) := s4.write (j := 0) (xs' := acc ++ [z]) rfl (Ex.refl _) (upd_in s4.ek kD4) (fun q hq _ => upd_ne hq) (fun _ _ h => h) upd_same (paired_append rp4 (.cons ry .nil))
      have hsl : SlsOk K Kn4 sl σ := s'.sl.mono (g2.kk.trans e4)
      refine ⟨ws4, hD4, by rw [paired_len rp4]; exact lt_line (by omega), Kn4, st', acc ++ [z], zs', s5.slots hsl, ?_, hzs, ?_⟩
      · rw [List.length_append, List.length_singleton]; omega
      · rw [List.append_assoc]; exact hz
  · have hd : xs.drop i = [] := List.drop_eq_nil_of_le (by omega)
    rw [hd] at hrest
    have h9 := Option.some.inj hrest
    have h91 : [] = rest := congrArg Prod.fst h9
    have h92 : st = s9 := congrArg Prod.snd h9
    subst h91
    subst h92
    rw [List.append_nil] at hz
    subst hz
    have no : ∀ o ∈ owx st, o.ad ≠ D := fun o ho z => (List.nodup_cons.mp s'.ow.nd).1 (List.mem_map.mpr ⟨o, ho, z⟩)
    exact .inl ⟨(w i Kn' H' s'.e0 s'.ek).2 (by omega), q D ws Kn' H' (e1.trans s'.e0) ((s'.unbase b1).sub (List.sublist_cons_self _ _)) fD kD' no hD' rp⟩
end
end Wk
/-! Wk4: loops as functions, == of data, kinds, lists of one's own that are read -/
namespace Wk
open PySem PySem.Spec L2 Evl

/-! ### the mirrors' words -/
inductive Ctl (Sx R : Type) where
  | nx (s : Sx)
  | bk (s : Sx)
  | rt (r : R)
def forS {β Sx : Type} (f : β → Sx → Option Sx) : List β → Sx → Option Sx
  | [], s => some s
  | x :: xs, s => (f x s).bind (forS f xs)
def forC {β Sx R : Type} (f : β → Sx → Option (Ctl Sx R)) : List β → Sx → Option (Ctl Sx R)
  | [], s => some (.nx s)
  | x :: xs, s => (f x s).bind fun c => match c with
    | .nx s' => forC f xs s'
    | .bk s' => some (.nx s')
    | .rt r => some (.rt r)
def whileS {Sx : Type} (c : Sx → Option Bool) (f : Sx → Option Sx) : Nat → Sx → Option Sx
  | 0, _ => none
  | n + 1, s => (c s).bind fun b => if b = true then (f s).bind (whileS c f n) else some s
def whileC {Sx R : Type} (c : Sx → Option Bool) (f : Sx → Option (Ctl Sx R)) : Nat → Sx → Option (Ctl Sx R)
  | 0, _ => none
  | n + 1, s => (c s).bind fun b => if b = true then (f s).bind fun c' => match c' with
    | .nx s' => whileC c f n s'
    | .bk s' => some (.nx s')
    | .rt r => some (.rt r) else some (.nx s)
theorem whileS_more {Sx : Type} {c : Sx → Option Bool} {f : Sx → Option Sx} : ∀ {n m : Nat} {s r : Sx}, whileS c f n s = some r → n ≤ m → whileS c f m s = some r
  | 0, _, _, _, h, _ => by cases h
  | n + 1, 0, _, _, _, h => absurd h (Nat.not_succ_le_zero _)
  | n + 1, m + 1, s, r, h, hm => by
    unfold whileS at h ⊢
    cases e : c s with
    | none => rw [e] at h; cases h
    | some b =>
      rw [e] at h
      cases b with
      | false => exact h
      | true =>
        have h : ((f s).bind (whileS c f n)) = some r := h
        show ((f s).bind (whileS c f m)) = some r
        cases e2 : f s with
        | none => rw [e2] at h; cases h
        | some s' =>
          rw [e2] at h
          exact whileS_more (show whileS c f n s' = some r from h) (Nat.le_of_succ_le_succ hm)
theorem whileC_more {Sx R : Type} {c : Sx → Option Bool} {f : Sx → Option (Ctl Sx R)} : ∀ {n m : Nat} {s : Sx} {r : Ctl Sx R}, whileC c f n s = some r → n ≤ m → whileC c f m s = some r
  | 0, _, _, _, h, _ => by cases h
  | n + 1, 0, _, _, _, h => absurd h (Nat.not_succ_le_zero _)
  | n + 1, m + 1, s, r, h, hm => by
    unfold whileC at h ⊢
    cases e : c s with
    | none => rw [e] at h; cases h
    | some b =>
      rw [e] at h
      cases b with
      | false => exact h
      | true =>
        have h : ((f s).bind _) = some r := h
        show ((f s).bind _) = some r
        cases e2 : f s with
        | none => rw [e2] at h; cases h
        | some k =>
          rw [e2] at h
          cases k with
          | nx s' => exact whileC_more (show whileC c f n s' = some r from h) (Nat.le_of_succ_le_succ hm)
          | bk _ => exact h
          | rt _ => exact h
/-- a while, for as many turns as it takes -/
noncomputable def whileF {Sx : Type} (c : Sx → Option Bool) (f : Sx → Option Sx) (s : Sx) : Option Sx := by
  classical exact if h : ∃ n r, whileS c f n s = some r then some h.choose_spec.choose else none
theorem whileF_some {Sx : Type} {c : Sx → Option Bool} {f : Sx → Option Sx} {s r : Sx} (h : whileF c f s = some r) : ∃ n, whileS c f n s = some r := by
  unfold whileF at h
  split at h
  · rename_i he
    refine ⟨he.choose, ?_⟩
    rw [← Option.some.inj h]
    exact he.choose_spec.choose_spec
  · cases h
theorem whileF_of {Sx : Type} {c : Sx → Option Bool} {f : Sx → Option Sx} {n : Nat} {s r : Sx} (h : whileS c f n s = some r) : whileF c f s = some r := by
  have he : ∃ n r, whileS c f n s = some r := ⟨n, r, h⟩
  unfold whileF
  rw [dif_pos he]
  have h2 := he.choose_spec.choose_spec
  have a := whileS_more h (Nat.le_max_left n he.choose)
  have b := whileS_more h2 (Nat.le_max_right n he.choose)
  exact b.symm.trans a
noncomputable def whileCF {Sx R : Type} (c : Sx → Option Bool) (f : Sx → Option (Ctl Sx R)) (s : Sx) : Option (Ctl Sx R) := by
  classical exact if h : ∃ n r, whileC c f n s = some r then some h.choose_spec.choose else none
theorem whileCF_some {Sx R : Type} {c : Sx → Option Bool} {f : Sx → Option (Ctl Sx R)} {s : Sx} {r : Ctl Sx R} (h : whileCF c f s = some r) : ∃ n, whileC c f n s = some r := by
  unfold whileCF at h
  split at h
  · rename_i he
    refine ⟨he.choose, ?_⟩
    rw [← Option.some.inj h]
    exact he.choose_spec.choose_spec
  · cases h
theorem whileCF_of {Sx R : Type} {c : Sx → Option Bool} {f : Sx → Option (Ctl Sx R)} {n : Nat} {s : Sx} {r : Ctl Sx R} (h : whileC c f n s = some r) : whileCF c f s = some r := by
  have he : ∃ n r, whileC c f n s = some r := ⟨n, r, h⟩
  unfold whileCF
  rw [dif_pos he]
  have h2 := he.choose_spec.choose_spec
  have a := whileC_more h (Nat.le_max_left n he.choose)
  have b := whileC_more h2 (Nat.le_max_right n he.choose)
  exact b.symm.trans a
def appO {α : Type} (xs : List α) (x : α) : Option (List α) := if xs.length < 1000000 then some (xs ++ [x]) else none
def modO (i j : Int) : Option Int := if 0 < j then some (i % j) else none
def divO (i j : Int) : Option Int := if 0 < j ∧ j < 1073741824 then some (i / j) else none
def mulO (i j : Int) : Option Int := if -18446744073709551616 < i ∧ i < 18446744073709551616 then some (i * j) else none
def catO {α : Type} (xs ys : List α) : Option (List α) := if xs.length + ys.length ≤ 1000000 then some (xs ++ ys) else none
theorem appO_some {α : Type} {xs ys : List α} {x : α} (h : appO xs x = some ys) : xs.length < 1000000 ∧ ys = xs ++ [x] := by
  unfold appO at h
  split at h
  · exact ⟨by assumption, (Option.some.inj h).symm⟩
  · cases h
theorem appO_ok {α : Type} {xs : List α} {x : α} (h : xs.length < 1000000) : appO xs x = some (xs ++ [x]) := if_pos h
theorem modO_ok {i j : Int} (h : 0 < j) : modO i j = some (i % j) := if_pos h
theorem divO_ok {i j : Int} (h : 0 < j) (h2 : j < 1073741824) : divO i j = some (i / j) := if_pos ⟨h, h2⟩
theorem mulO_ok {i j : Int} (h : -18446744073709551616 < i) (h2 : i < 18446744073709551616) : mulO i j = some (i * j) := if_pos ⟨h, h2⟩
theorem catO_ok {α : Type} {xs ys : List α} (h : xs.length + ys.length ≤ 1000000) : catO xs ys = some (xs ++ ys) := if_pos h

section
variable {K : Fg} {F Kn0 : Hp} {sl sl' : List Sl} {ow ow0 ow1 ow2 : List Ow} {α β γ τ : Type} [Rp α] [Rp β] [Rp γ] [Tp τ] {ta tb te : TE} {x : α} {D : Ends} {t u tz : TS} {tt : TT} {b : Bool} {i j : Nat} {p : Addr}
theorem SB.sn (h : SB K F Kn0 sl ow D tz) : SN K F Kn0 sl ow { D with nx := tz D } := h
theorem r2_modO {i j z : Int} (h : modO i j = some z) : R2V K (rI (fun _ j => 0 < j) fun i j => .int (i % j)) i j z := by
  unfold modO at h
  split at h
  · cases h
    exact r2_I (by assumption)
  · cases h
theorem r2_divO {i j z : Int} (h : divO i j = some z) : R2V K (rI CDiv fun i j => .int (i / j)) i j z := by
  unfold divO at h
  split at h
  · cases h
    exact r2_I (by assumption)
  · cases h
theorem r2_mulO {i j z : Int} (h : mulO i j = some z) : R2V K (rI CMul fun i j => .int (i * j)) i j z := by
  unfold mulO at h
  split at h
  · rename_i hb
    cases h
    exact r2_I (.inl ⟨by omega, by omega⟩)
  · cases h
theorem r2_catO {xs ys zs : List α} (h : catO xs ys = some zs) : R2L K rCat xs ys zs := by
  unfold catO at h
  split at h
  · cases h
    exact r2_cat (by assumption)
  · cases h
theorem sb_appO {xs xs' : List α} (hi : sl[i]? = some (.at p)) (hj : ow[j]? = some (ol p xs)) (h : EV K F Kn0 sl ow te x) (hx : appO xs x = some xs') (ho : ow.set j (ol p xs') = ow1) (k : SN K F Kn0 sl ow1 D) :
    SB K F Kn0 sl ow D (tDrop (tBM K "list" rAppend (tVar i) (tCons te tNil))) := by
  obtain ⟨h1, rfl⟩ := appO_some hx
  subst ho
  exact sb_app hi hj h h1 k
theorem sb_appOM {xs xs' : List α} (hi : sl[i]? = some (.at p)) (hi0 : ow[j]? = some (ol p xs)) (h : EM K F Kn0 sl ow te ow1 x) (hj : ow1[j]? = some (ol p xs)) (hx : appO xs x = some xs') (ho : ow1.set j (ol p xs') = ow2) (k : SN K F Kn0 sl ow2 D) :
    SB K F Kn0 sl ow D (tDrop (tBM K "list" rAppend (tVar i) (tCons te tNil))) := by
  obtain ⟨h1, rfl⟩ := appO_some hx
  subst ho
  exact sb_appM hi hi0 h hj h1 k
theorem sb_setO {xs xs' : List α} {n : Int} (hi : sl[i]? = some (.at p)) (hj : ow[j]? = some (ol p xs)) (h : EV K F Kn0 sl ow te x) (hn : EV K F Kn0 sl ow tb n) (hx : setI xs n x = some xs') (ho : ow.set j (ol p xs') = ow1) (k : SN K F Kn0 sl ow1 D) :
    SB K F Kn0 sl ow D (tAsg te (gSub (tVar i) tb rSetL)) := by
  subst ho
  exact sb_setI hi hj h hn hx k

/-! ### lists of one's own, read -/
theorem S.borrow {σ : L2.St} {Kn H : Hp} {xs : List α} (s : S K F Kn0 sl ow σ Kn H) (hi : sl[i]? = some (.at p)) (hj : ow[j]? = some (ol p xs)) : ∃ ws, Kn p = none ∧ H p = some (.lst ws) ∧ S K F Kn0 (sl.set i (sv xs)) (ow.eraseIdx j) σ (upd Kn p (.lst ws)) H := by
  obtain ⟨o, h1, h2⟩ := s.sl.get hi
  have h2 : o = some (.ref p) := h2
  obtain ⟨f1, f2, ws, f3, f4⟩ := s.ow.each _ (List.mem_of_getElem? hj)
  have s1 := s.sub (List.eraseIdx_sublist ow j)
  have no : ∀ o ∈ ow.eraseIdx j, o.ad ≠ p := fun o hm z => by
    obtain ⟨m, hm'⟩ := List.getElem?_of_mem hm
    rw [List.getElem?_eraseIdx] at hm'
    split at hm'
    · have := ow_at s.ow.nd hm' hj z
      omega
    · have := ow_at s.ow.nd hm' hj z
      omega
  have s2 := s1.know (o := .lst ws) f1 f2 no f3
  have hσ : σ.set i o = σ := by
    refine List.ext_getElem? fun m => ?_
    by_cases e : i = m
    · subst e
      rw [List.getElem?_set_self (List.getElem?_eq_some_iff.mp h1).1, h1]
    · rw [List.getElem?_set_ne e]
  have s3 := s2.set (x := sv xs) (o := o) i ⟨.ref p, h2, p, ws, rfl, upd_same, paired_mono (Ex.new f2) f4⟩
  rw [hσ] at s3
  exact ⟨ws, f2, f3, s3⟩
theorem ev_bor {γ : Type} [Rp γ] [Fl γ] {z : γ} {xs : List α} (hi : sl[i]? = some (.at p)) (hj : ow[j]? = some (ol p xs)) (hs : sl.set i (sv xs) = sl') (ho : ow.eraseIdx j = ow1) (h : EV K F Kn0 sl' ow1 te z) : EV K F Kn0 sl ow te z := fun σ Kn H s Q q => by
  obtain ⟨ws, kp, hp, s1⟩ := s.borrow hi hj
  subst hs
  subst ho
  exact h σ _ H s1 Q fun v Kn' H' g r => q v Kn H' ⟨Ex.refl _, g.hh, s.ek.trans g.hh, fun _ _ h => h⟩ (Fl.iff.mpr (Fl.iff.mp r))
theorem et_bor {xs : List α} (hi : sl[i]? = some (.at p)) (hj : ow[j]? = some (ol p xs)) (hs : sl.set i (sv xs) = sl') (ho : ow.eraseIdx j = ow1) (h : ET K F Kn0 sl' ow1 tt b) : ET K F Kn0 sl ow tt b := fun σ Kn H s Q q => by
  obtain ⟨ws, kp, hp, s1⟩ := s.borrow hi hj
  subst hs
  subst ho
  exact h σ _ H s1 Q fun Kn' H' g => q Kn H' ⟨Ex.refl _, g.hh, s.ek.trans g.hh, fun _ _ h => h⟩
theorem ev_ixO {xs : List α} {n : Int} {z : α} (hi : sl[i]? = some (.at p)) (hj : ow[j]? = some (ol p xs)) (hn : EV K F Kn0 sl ow tb n) (hz : atI xs n = some z) : EV K F Kn0 sl ow (tOp (rIxL K) (tVar i) tb) z := fun σ Kn H s Q q => by
  obtain ⟨o, h1, h2⟩ := s.sl.get hi
  obtain ⟨f1, f2, ws, f3, f4⟩ := s.ow.each _ (List.mem_of_getElem? hj)
  refine ⟨.ref p, by rw [h1]; exact congrArg some h2, hn σ Kn H s _ fun v Kn1 H1 g1 r1 => ?_⟩
  cases r1
  obtain ⟨u, e, r⟩ := paired_atI f4 hz
  exact ⟨p, ws, n, u, rfl, rfl, sq_of (g1.hh _ _ f3), e, q u Kn1 H1 g1 (Rp.mono g1.kk r)⟩
theorem en_slO {xs : List α} {tl th : TO} {lo hi : Option Int} (hx : sl[i]? = some (.at p)) (hj : ow[j]? = some (ol p xs)) (hl : EO K F Kn0 sl ow tl lo) (hh : EO K F Kn0 sl ow th hi) : EN K F Kn0 sl ow (tSl (rSlL K) (tVar i) tl th) (cut xs lo hi) := fun σ Kn H s Q q => by
  obtain ⟨o, h1, h2⟩ := s.sl.get hx
  obtain ⟨f1, f2, ws, f3, f4⟩ := s.ow.each _ (List.mem_of_getElem? hj)
  refine ⟨.ref p, by rw [h1]; exact congrArg some h2, hl σ Kn H s _ fun Kn2 H2 g2 => hh σ Kn2 H2 (s.grow g2) _ fun Kn3 H3 g3 => ?_⟩
  have g := g2.trans g3
  exact ⟨p, ws, rfl, sq_of (g.hh _ _ f3), fun l hl => q l _ Kn3 _ (g.trans (Gr.newU g3.kh hl)) (fresh_back g.hh hl) (fresh_back g3.kh hl) upd_same (paired_cut (paired_mono g.kk f4) lo hi)⟩
end

/-! ### == -/
class Pd (α : Type) [Rp α] where
  toD : α → PyData
  dp : Nat
  isD : ∀ {K : Fg} {H : Hp} {v : V} {a : α}, rep K H v a → Dp K H v (toD a)
  dep : ∀ a, (toD a).depth ≤ dp
  eqd : ∀ a b : α, PyData.eqv (toD a) (toD b) = true ↔ a = b
class Pq (τ : Type) [Tp τ] where
  toDs : τ → List PyData
  dp : Nat
  isD : ∀ {K : Fg} {H : Hp} {vs : List V} {a : τ}, rept K H vs a → DpAll K H vs (toDs a)
  dep : ∀ a, PyData.depthAll (toDs a) ≤ dp
  eqd : ∀ a b : τ, PyData.eqvAll (toDs a) (toDs b) = true ↔ a = b
def okD {α : Type} [Rp α] [Pd α] (a : α) : Bool := (Pd.toD a).canLay0
instance : Pd Int := { toD := .int, dp := 0, isD := fun h => by cases h; exact .int _, dep := fun a => Nat.le_refl _, eqd := fun a b => by simp [PyData.eqv] }
instance : Pd Bool := { toD := .bool, dp := 0, isD := fun h => by cases h; exact .bl _, dep := fun a => Nat.le_refl _, eqd := fun a b => by simp [PyData.eqv] }
instance : Pd Str := { toD := .str, dp := 0, isD := fun h => by cases h; exact .str _, dep := fun a => Nat.le_refl _, eqd := fun a b => by simp [PyData.eqv] }
theorem eqvAll_map {α : Type} [Rp α] [Pd α] : ∀ (xs ys : List α), PyData.eqvAll (xs.map Pd.toD) (ys.map Pd.toD) = true ↔ xs = ys
  | [], [] => by simp [PyData.eqvAll]
  | [], y :: ys => by simp [PyData.eqvAll]
  | x :: xs, [] => by simp [PyData.eqvAll]
  | x :: xs, y :: ys => by
    simp only [List.map_cons, PyData.eqvAll, Bool.and_eq_true, Pd.eqd, eqvAll_map xs ys, List.cons.injEq]
theorem depthAll_map {α : Type} [Rp α] [Pd α] : ∀ (xs : List α), PyData.depthAll (xs.map Pd.toD) ≤ Pd.dp α
  | [] => Nat.zero_le _
  | x :: xs => by
    simp only [List.map_cons, PyData.depthAll]
    exact Nat.max_le.mpr ⟨Pd.dep x, depthAll_map xs⟩
theorem dpAll_of {α : Type} [Rp α] [Pd α] {K : Fg} {H : Hp} : ∀ {vs : List V} {xs : List α}, Paired (rep K H) vs xs → DpAll K H vs (xs.map Pd.toD)
  | _, _, .nil => .nil
  | _, _, .cons r t => .cons (Pd.isD r) (dpAll_of t)
instance {α : Type} [Rp α] [Pd α] : Pd (List α) where
  toD xs := .list (xs.map Pd.toD)
  dp := Pd.dp α + 1
  isD h := by
    obtain ⟨p, vs, rfl, h1, h2⟩ := h
    exact .lst (sq_of h1) (dpAll_of h2)
  dep a := by
    simp only [PyData.depth]
    exact Nat.succ_le_succ (depthAll_map a)
  eqd a b := by
    simp only [PyData.eqv]
    exact eqvAll_map a b
instance {α : Type} [Rp α] [Pd α] : Pd (Tu α) where
  toD xs := .tuple (xs.l.map Pd.toD)
  dp := Pd.dp α + 1
  isD h := by
    obtain ⟨p, vs, rfl, h1, h2⟩ := h
    exact .tup (st_of h1) (dpAll_of h2)
  dep a := by
    simp only [PyData.depth]
    exact Nat.succ_le_succ (depthAll_map a.l)
  eqd a b := by
    simp only [PyData.eqv]
    rw [eqvAll_map]
    cases a
    cases b
    simp
instance : Pq Unit where
  toDs _ := []
  dp := 0
  isD h := by cases h; exact .nil
  dep _ := Nat.le_refl _
  eqd _ _ := by simp [PyData.eqvAll]
instance {α τ : Type} [Rp α] [Tp τ] [Pd α] [Pq τ] : Pq (α × τ) where
  toDs t := Pd.toD t.1 :: Pq.toDs t.2
  dp := max (Pd.dp α) (Pq.dp τ)
  isD h := by
    obtain ⟨v, r, rfl, h1, h2⟩ := h
    exact .cons (Pd.isD h1) (Pq.isD h2)
  dep a := by
    simp only [PyData.depthAll]
    exact Nat.max_le.mpr ⟨Nat.le_trans (Pd.dep _) (Nat.le_max_left _ _), Nat.le_trans (Pq.dep _) (Nat.le_max_right _ _)⟩
  eqd a b := by
    simp only [PyData.eqvAll, Bool.and_eq_true, Pd.eqd, Pq.eqd]
    constructor
    · rintro ⟨h1, h2⟩
      exact Prod.ext h1 h2
    · rintro rfl
      exact ⟨rfl, rfl⟩
instance {α τ : Type} [Rp α] [Tp τ] [Pd α] [Pq τ] : Pd (α × τ) where
  toD t := .tuple (Pq.toDs t)
  dp := Pq.dp (α × τ) + 1
  isD h := by
    obtain ⟨p, vs, rfl, h1, h2⟩ := h
    exact .tup (st_of h1) (Pq.isD h2)
  dep a := by
    simp only [PyData.depth]
    exact Nat.succ_le_succ (Pq.dep a)
  eqd a b := by
    simp only [PyData.eqv]
    exact Pq.eqd a b
/-- the same kind on both sides -/
def eqO {α : Type} [Rp α] [Pd α] [DecidableEq α] (a b : α) : Option Bool := if (okD a && okD b && decide (Pd.dp α ≤ 64)) = true then some (decide (a = b)) else none
def neO {α : Type} [Rp α] [Pd α] [DecidableEq α] (a b : α) : Option Bool := if (okD a && okD b && decide (Pd.dp α ≤ 64)) = true then some (!decide (a = b)) else none
section
variable {K : Fg} {α : Type} [Rp α] [Pd α] [DecidableEq α]
theorem shaped_of {a : α} (h : okD a = true) (h2 : Pd.dp α ≤ 64) : SeqAt.shaped (Pd.toD a) = true := by
  unfold SeqAt.shaped
  rw [Bool.and_eq_true]
  exact ⟨h, decide_eq_true (Nat.le_trans (Pd.dep a) h2)⟩
theorem eqv_dec (a b : α) : PyData.eqv (Pd.toD a) (Pd.toD b) = decide (a = b) := by
  by_cases h : a = b
  · rw [decide_eq_true h]
    exact (Pd.eqd a b).mpr h
  · rw [decide_eq_false h]
    cases e : PyData.eqv (Pd.toD a) (Pd.toD b) with
    | false => rfl
    | true => exact absurd ((Pd.eqd a b).mp e) h
theorem dp_mono {H H' : Hp} (e : Ex H H') : ∀ {v : V} {d : PyData}, Dp K H v d → Dp K H' v d := fun h =>
  Dp.rec (motive_1 := fun v d _ => Dp K H' v d) (motive_2 := fun vs ds _ => DpAll K H' vs ds) .non .bl .int .str (fun s _ ih => .lst (ex_l e s) ih) (fun s _ ih => .tup (ex_t e s) ih) .nil (fun _ _ h1 h2 => .cons h1 h2) h
theorem r2_eqO {a b : α} {c : Bool} (h : eqO a b = some c) : R2V K (rEqD K) a b c := fun Kn H v w ek h1 h2 Q q => by
  unfold eqO at h
  split at h
  · rename_i hb
    rw [Bool.and_eq_true, Bool.and_eq_true] at hb
    cases h
    refine ⟨Pd.toD a, Pd.toD b, dp_mono ek (Pd.isD h1), dp_mono ek (Pd.isD h2), shaped_of hb.1.1 (of_decide_eq_true hb.2), shaped_of hb.1.2 (of_decide_eq_true hb.2), ?_⟩
    rw [eqv_dec]
    exact q.fl ek
  · cases h
theorem r2_neO {a b : α} {c : Bool} (h : neO a b = some c) : R2V K (rNeD K) a b c := fun Kn H v w ek h1 h2 Q q => by
  unfold neO at h
  split at h
  · rename_i hb
    rw [Bool.and_eq_true, Bool.and_eq_true] at hb
    cases h
    refine ⟨Pd.toD a, Pd.toD b, dp_mono ek (Pd.isD h1), dp_mono ek (Pd.isD h2), shaped_of hb.1.1 (of_decide_eq_true hb.2), shaped_of hb.1.2 (of_decide_eq_true hb.2), ?_⟩
    rw [eqv_dec]
    exact q.fl ek
  · cases h
/-- data without texts: always -/
class Pt (α : Type) [Rp α] [Pd α] : Prop where
  ok : ∀ a : α, okD a = true
class Pu (τ : Type) [Tp τ] [Pq τ] : Prop where
  ok : ∀ a : τ, PyData.canLayAll0 (Pq.toDs a) = true
instance : Pt Int := ⟨fun _ => rfl⟩
instance : Pt Bool := ⟨fun _ => rfl⟩
theorem canLayAll_map {α : Type} [Rp α] [Pd α] : ∀ (xs : List α), (∀ x ∈ xs, okD x = true) → PyData.canLayAll0 (xs.map Pd.toD) = true
  | [], _ => by simp [PyData.canLayAll0]
  | x :: xs, h => by
    simp only [List.map_cons, PyData.canLayAll0, Bool.and_eq_true]
    exact ⟨h x List.mem_cons_self, canLayAll_map xs fun y hy => h y (List.mem_cons_of_mem _ hy)⟩
theorem okD_list {α : Type} [Rp α] [Pd α] {xs : List α} (h : ∀ x ∈ xs, okD x = true) : okD xs = true := by
  show PyData.canLay0 (.list _) = true
  simp only [PyData.canLay0]
  exact canLayAll_map xs h
theorem okD_tu {α : Type} [Rp α] [Pd α] {xs : Tu α} (h : ∀ x ∈ xs.l, okD x = true) : okD xs = true := by
  show PyData.canLay0 (.tuple _) = true
  simp only [PyData.canLay0]
  exact canLayAll_map xs.l h
theorem okD_pair {α τ : Type} [Rp α] [Tp τ] [Pd α] [Pq τ] {t : α × τ} (h : okD t.1 = true) (h2 : PyData.canLayAll0 (Pq.toDs t.2) = true) : okD t = true := by
  show PyData.canLay0 (.tuple (Pd.toD t.1 :: Pq.toDs t.2)) = true
  simp only [PyData.canLay0, PyData.canLayAll0, Bool.and_eq_true]
  exact ⟨h, h2⟩
theorem okDs_cons {α τ : Type} [Rp α] [Tp τ] [Pd α] [Pq τ] {t : α × τ} (h : okD t.1 = true) (h2 : PyData.canLayAll0 (Pq.toDs t.2) = true) : PyData.canLayAll0 (Pq.toDs t) = true := by
  show PyData.canLayAll0 (Pd.toD t.1 :: Pq.toDs t.2) = true
  simp only [PyData.canLayAll0, Bool.and_eq_true]
  exact ⟨h, h2⟩
instance {α : Type} [Rp α] [Pd α] [Pt α] : Pt (List α) := ⟨fun _ => okD_list fun x _ => Pt.ok x⟩
instance {α : Type} [Rp α] [Pd α] [Pt α] : Pt (Tu α) := ⟨fun _ => okD_tu fun x _ => Pt.ok x⟩
instance : Pu Unit := ⟨fun _ => rfl⟩
instance {α τ : Type} [Rp α] [Tp τ] [Pd α] [Pq τ] [Pt α] [Pu τ] : Pu (α × τ) := ⟨fun _ => okDs_cons (Pt.ok _) (Pu.ok _)⟩
instance {α τ : Type} [Rp α] [Tp τ] [Pd α] [Pq τ] [Pt α] [Pu τ] : Pt (α × τ) := ⟨fun _ => okD_pair (Pt.ok _) (Pu.ok _)⟩
theorem r2_eqT [Pt α] {a b : α} (hd : Pd.dp α ≤ 64 := by decide) : R2V K (rEqD K) a b (decide (a = b)) := r2_eqO (by
  unfold eqO
  rw [Pt.ok a, Pt.ok b, decide_eq_true hd]
  rfl)
theorem r2_neT [Pt α] {a b : α} (hd : Pd.dp α ≤ 64 := by decide) : R2V K (rNeD K) a b (!decide (a = b)) := r2_neO (by
  unfold neO
  rw [Pt.ok a, Pt.ok b, decide_eq_true hd]
  rfl)
theorem eqO_ok {a b : α} (h1 : okD a = true) (h2 : okD b = true) (hd : Pd.dp α ≤ 64 := by decide) : eqO a b = some (decide (a = b)) := by
  unfold eqO
  rw [h1, h2, decide_eq_true hd]
  rfl
theorem neO_ok {a b : α} (h1 : okD a = true) (h2 : okD b = true) (hd : Pd.dp α ≤ 64 := by decide) : neO a b = some (!decide (a = b)) := by
  unfold neO
  rw [h1, h2, decide_eq_true hd]
  rfl
end

/-! ### isinstance -/
structure TyN where
  n : String
instance rpTyN : Rp TyN := { rep := fun _ _ v a => v = .ty a.n, mono := fun _ h => h }
instance : Fl TyN := { toV := fun a => V.ty a.n, iff := Iff.rfl }
class Tn (α : Type) [Rp α] where
  nm : String
  is : ∀ {K : Fg} {H : Hp} {v : V} {a : α}, rep K H v a → TyX K H v (.type nm)
instance : Tn Int := ⟨"int", fun h => by cases h; exact .base (.int _)⟩
instance : Tn Bool := ⟨"bool", fun h => by cases h; exact .base (.bl _)⟩
instance : Tn Str := ⟨"str", fun h => by cases h; exact .base (.str _)⟩
instance : Tn Nn := ⟨"NoneType", fun h => by cases h; exact .base .non⟩
instance {α : Type} [Rp α] : Tn (List α) := ⟨"list", fun h => by
  obtain ⟨p, vs, rfl, h1, _⟩ := h
  exact .base (.lst h1)⟩
instance {α : Type} [Rp α] : Tn (Tu α) := ⟨"tuple", fun h => by
  obtain ⟨p, vs, rfl, h1, _⟩ := h
  exact .base (.tup h1)⟩
instance {α τ : Type} [Rp α] [Tp τ] : Tn (α × τ) := ⟨"tuple", fun h => by
  obtain ⟨p, vs, rfl, h1, _⟩ := h
  exact .base (.tup h1)⟩
theorem rc_isi {K : Fg} {α : Type} [Rp α] [Tn α] {x : α} {n : String} {b : Bool} (h : kitB (Tn.nm α) n = some b) : RCV K (rIsi K) (x, TyN.mk n, ()) b := fun Kn H vs ek hr Q q => by
  obtain ⟨v, w, rfl, h1, h2⟩ := two_args hr
  cases h2
  refine ⟨v, .ty n, .type (Tn.nm α), .type n, b, rfl, .ty n, ?_, kit_ty h, q.fl ek⟩
  exact Tn.is (Rp.mono ek h1)

/-! ### great divisors -/
theorem r2_divW {K : Fg} {i j : Int} {b : Nat} (h : 0 < j) (hb : j.natAbs < 2 ^ b) (h0 : 0 < b) (h9 : b ≤ 9000) : R2V K (rI CDivW fun i j => .int (i / j)) i j (i / j) := r2_I (wide_div h hb h0 h9)

/-! ### sorted of whole numbers -/
def srt (xs : List Int) : List Int := xs.mergeSort fun a b => decide (a ≤ b)
theorem srt_perm (xs : List Int) : (srt xs).Perm xs := List.mergeSort_perm xs _
theorem srt_pw (xs : List Int) : (srt xs).Pairwise (· ≤ ·) := by
  have h := List.pairwise_mergeSort (le := fun a b => decide (a ≤ b)) (fun a b c h1 h2 => by
    have h1 := of_decide_eq_true h1
    have h2 := of_decide_eq_true h2
    exact decide_eq_true (by omega)) (fun a b => by
    rcases Int.le_total a b with h | h
    · rw [decide_eq_true h]; rfl
    · rw [decide_eq_true h]; exact Bool.or_true _) xs
  exact h.imp fun h => of_decide_eq_true h
theorem srt_one {xs ys : List Int} (p : ys.Perm xs) (s : ys.Pairwise (· ≤ ·)) : ys = srt xs :=
  List.Perm.eq_of_pairwise (le := fun a b : Int => a ≤ b) (fun a b _ _ h1 h2 => Int.le_antisymm h1 h2) s (srt_pw xs) (p.trans (srt_perm xs).symm)
theorem rc_sorted {K : Fg} {xs : List Int} : RCL K (rSortedI K) (xs, ()) (srt xs) := fun Kn H vs ek h Q q => by
  obtain ⟨v, rfl, p, ws, rfl, h1, h2⟩ := one_arg h
  have e := paired_fl h2
  subst e
  refine ⟨p, xs, rfl, sq_of (ek _ _ h1), fun ns' l pm pw hl => ?_⟩
  rw [srt_one pm pw]
  exact q l _ Kn _ (Gr.newU ek hl) hl (fresh_back ek hl) upd_same (fl_paired (srt xs))
end Wk

namespace Wk
open PySem PySem.Spec L2 Evl
section
variable {K : Fg} {F Kn0 : Hp} {sl sl' : List Sl} {ow ow0 ow1 ow2 : List Ow} {α β γ τ : Type} [Rp α] [Rp β] [Rp γ] [Tp τ] {ta tb te : TE} {x : α} {D : Ends} {t u tz : TS} {tt : TT} {b : Bool} {i j : Nat} {p : Addr}
theorem ev_int (n : Int) : EV K F Kn0 sl ow (tC (.int n)) n := ev_c n
theorem ev_bool (n : Bool) : EV K F Kn0 sl ow (tC (.bl n)) n := ev_c n
theorem ev_str (n : Str) : EV K F Kn0 sl ow (tC (.str n)) n := ev_c n
theorem ev_nn : EV K F Kn0 sl ow (tC .non) Nn.nn := ev_c Nn.nn
theorem ev_ty (n : String) : EV K F Kn0 sl ow (tC (.ty n)) (TyN.mk n) := ev_c (TyN.mk n)
variable {m n : Int}
theorem r2_add : R2V K (rI0 fun i j => .int (i + j)) m n (m + n) := r2_I0
theorem r2_sub : R2V K (rI0 fun i j => .int (i - j)) m n (m - n) := r2_I0
theorem r2_lt : R2V K (rI0 fun i j => .bl (decide (i < j))) m n (decide (m < n)) := r2_I0
theorem r2_le : R2V K (rI0 fun i j => .bl (decide (i ≤ j))) m n (decide (m ≤ n)) := r2_I0
theorem r2_gt : R2V K (rI0 fun i j => .bl (decide (j < i))) m n (decide (n < m)) := r2_I0
theorem r2_ge : R2V K (rI0 fun i j => .bl (decide (j ≤ i))) m n (decide (n ≤ m)) := r2_I0
theorem r2_mod (h : 0 < n := by decide) : R2V K (rI (fun _ j => 0 < j) fun i j => .int (i % j)) m n (m % n) := r2_I h
theorem r2_div (h : 0 < n ∧ n < 1073741824 := by decide) : R2V K (rI CDiv fun i j => .int (i / j)) m n (m / n) := r2_I h
theorem r2_mulr (h : -18446744073709551616 < n ∧ n < 18446744073709551616 := by decide) : R2V K (rI CMul fun i j => .int (i * j)) m n (m * n) := r2_I (.inr ⟨by omega, by omega⟩)
theorem r2_mull (h : -18446744073709551616 < m ∧ m < 18446744073709551616 := by decide) : R2V K (rI CMul fun i j => .int (i * j)) m n (m * n) := r2_I (.inl ⟨by omega, by omega⟩)
theorem r2_divw (h : 0 < n ∧ n < 18446744073709551616 := by decide) : R2V K (rI CDivW fun i j => .int (i / j)) m n (m / n) := r2_divW h.1 (b := 64) (by omega) (by decide) (by decide)
theorem r2_pow {r : Int} (h : 0 ≤ n ∧ n ≤ 1000000 ∧ m.natAbs < 18446744073709551616 := by decide) (e : m ^ n.toNat = r := by decide) : R2V K (rI CPow fun i j => .int (i ^ j.toNat)) m n r := e ▸ r2_I ⟨h.1, h.2.1, by omega⟩
theorem EN.cast {xs ys : List α} (h : EN K F Kn0 sl ow te xs) (e : xs = ys) : EN K F Kn0 sl ow te ys := e ▸ h
theorem EM.cast {y : α} (h : EM K F Kn0 sl ow te ow1 x) (e : x = y) : EM K F Kn0 sl ow te ow1 y := e ▸ h
theorem ENM.cast {xs ys : List α} (h : ENM K F Kn0 sl ow te ow1 xs) (e : xs = ys) : ENM K F Kn0 sl ow te ow1 ys := e ▸ h
theorem SB.is (h1 : sl = sl') (h2 : ow = ow1) (h : SB K F Kn0 sl' ow1 D t) : SB K F Kn0 sl ow D t := by subst h1; subst h2; exact h
theorem EV.is (h1 : sl = sl') (h : EV K F Kn0 sl' ow te x) : EV K F Kn0 sl ow te x := by subst h1; exact h
theorem EM.is (h1 : sl = sl') (h2 : ow = ow2) (h3 : ow1 = ow0) (h : EM K F Kn0 sl' ow2 te ow0 x) : EM K F Kn0 sl ow te ow1 x := by subst h1; subst h2; subst h3; exact h
theorem ET.is (h1 : sl = sl') (h : ET K F Kn0 sl' ow tt b) : ET K F Kn0 sl ow tt b := by subst h1; exact h
theorem ite_t {γ : Type} {b : Bool} {A B : Option γ} {r : γ} (hb : b = true) (h : (if b = true then A else B) = some r) : A = some r := by rw [if_pos hb] at h; exact h
theorem ite_f {γ : Type} {b : Bool} {A B : Option γ} {r : γ} (hb : b = false) (h : (if b = true then A else B) = some r) : B = some r := by rw [if_neg (by rw [hb]; exact Bool.false_ne_true)] at h; exact h
def anyAt (sl : List Sl) (vs : List Nat) : Bool := vs.all fun j => match sl[j]? with
  | some .any => true
  | _ => false
theorem anyAt_of {sl : List Sl} {vs : List Nat} (h : anyAt sl vs = true) : ∀ j ∈ vs, sl[j]? = some .any := fun j hj => by
  have q := List.all_eq_true.mp h j hj
  cases e : sl[j]? with
  | none => rw [e] at q; cases q
  | some s =>
    rw [e] at q
    cases s with
    | any => rfl
    | val _ _ _ => cases q
    | «at» _ => cases q
theorem sub_of {js vs : List Nat} (h : (js.all fun j => vs.contains j) = true) : ∀ j ∈ js, j ∈ vs := fun j hj => by
  have q := List.all_eq_true.mp h j hj
  simpa using q
theorem sn_end {R : VK} (q : RT K F Kn0 ow0 R Nn.nn) (hd : ∀ σ H, R .non H → D.nx σ H) (l : ow0.Sublist ow) : SN K F Kn0 sl ow D := fun σ Kn H s => hd σ H (q _ Kn H (s.sub l).fin rfl)
def EOM (K : Fg) (F Kn0 : Hp) (sl : List Sl) (ow : List Ow) (to : TO) (ow' : List Ow) (o : Option Int) : Prop := ∀ σ Kn H, S K F Kn0 sl ow σ Kn H → ∀ Q : Option Int → Hp → Prop, (∀ Kn' H', Ex Kn Kn' → S K F Kn0 sl ow' σ Kn' H' → Q o H') → to σ H Q
theorem EO.eom {to : TO} {o : Option Int} (h : EO K F Kn0 sl ow to o) : EOM K F Kn0 sl ow to ow o := fun σ Kn H s Q q => h σ Kn H s Q fun Kn' H' g => q Kn' H' g.kk (s.grow g)
theorem eom_some {i : Int} (h : EM K F Kn0 sl ow te ow1 i) : EOM K F Kn0 sl ow (tPart te) ow1 (some i) := fun σ Kn H s Q q => h σ Kn H s _ fun v Kn1 H1 e1 s1 r1 => ⟨i, r1, q Kn1 H1 e1 s1⟩
theorem enm_sl {ow3 : List Ow} {xs : List α} {tl th : TO} {lo hi : Option Int} (h : EM K F Kn0 sl ow te ow1 xs) (hl : EOM K F Kn0 sl ow1 tl ow2 lo) (hh : EOM K F Kn0 sl ow2 th ow3 hi) : ENM K F Kn0 sl ow (tSl (rSlL K) te tl th) ow3 (cut xs lo hi) := fun σ Kn H s Q q =>
  h σ Kn H s _ fun v Kn1 H1 e1 s1 r1 => hl σ Kn1 H1 s1 _ fun Kn2 H2 e2 s2 => hh σ Kn2 H2 s2 _ fun Kn3 H3 e3 s3 => by
    obtain ⟨p, ws, rfl, h3, h4⟩ := r1
    have e13 : Ex Kn1 Kn3 := e2.trans e3
    exact ⟨p, ws, rfl, sq_of (s3.ek _ _ (e13 _ _ h3)), fun l hl => q l _ Kn3 _ (e1.trans e13) (s3.grow (Gr.newU s3.ek hl)) (fresh_back s3.ef hl) (fresh_back s3.ek hl) (owned_ne s3 hl) upd_same (paired_cut (paired_mono e13 h4) lo hi)⟩
/-- the entry of a def -/
theorem enter {σ : L2.St} {Kn H : Hp} {D : Ends} {t : TS} (ek : Ex Kn H) (hs : SlsOk K Kn sl σ) (h : SB K H Kn sl [] D t) : t D σ H := h σ Kn H ⟨Ex.refl _, ek, Ex.refl _, fun _ _ h => h, hs, ⟨(fun _ h => nomatch h), List.nodup_nil⟩⟩
theorem rt_of {H Kn : Hp} {r : α} {Q : VK} (q : RS K Kn H Q r) : RT K H Kn [] Q r := fun v Kn' H' s rv => q v Kn' H' ⟨s.e0, s.ef, s.ek, s.sep⟩ rv
theorem rn_of {H Kn : Hp} {r : List α} {Q : VK} (q : RL K Kn H Q r) : RN K H Kn [] Q r := fun p ws Kn' H' s fp kp hw rv => q p ws Kn' H' ⟨s.e0, s.ef, s.ek, s.sep⟩ fp kp hw rv
/-- all but p -/
def but (H : Hp) (p : Addr) : Hp := fun a => if a = p then none else H a
theorem enterM {σ : L2.St} {Kn H : Hp} {D : Ends} {t : TS} {p : Addr} {ws : List V} {xs : List α} (ek : Ex Kn H) (kp : Kn p = none) (hp : H p = some (.lst ws)) (r : Paired (rep K Kn) ws xs) (hs : SlsOk K Kn sl σ) (h : SB K (but H p) Kn sl [ol p xs] D t) : t D σ H :=
  h σ Kn H ⟨Ex.refl _, ek, fun a u e => by
    unfold but at e
    split at e
    · cases e
    · exact e, fun _ _ h => h, hs, ⟨fun o ho => by
      cases List.mem_singleton.mp ho
      exact ⟨if_pos rfl, kp, ws, hp, r⟩, List.nodup_cons.mpr ⟨(fun h => nomatch h), List.nodup_nil⟩⟩⟩
theorem rt_ofM {H Kn : Hp} {r : β} {p : Addr} {xs' : List α} {Q : VK} (kp : Kn p = none) (q : ∀ v Kn' H' ws', Ex Kn Kn' → Ex Kn' H' → (∀ q, q ≠ p → H q ≠ none → H' q = H q) → (∀ q, H q ≠ none → Kn q = none → Kn' q = none) → H' p = some (.lst ws') → Paired (rep K Kn') ws' xs' → rep K Kn' v r → Q v H') :
    RT K (but H p) Kn [ol p xs'] Q r := fun v Kn' H' s rv => by
  obtain ⟨_, k1, ws, h1, h2⟩ := s.ow.each (ol p xs') List.mem_cons_self
  refine q v Kn' H' ws s.e0 s.ek (fun a ha hn => ?_) (fun a hn hk => ?_) h1 h2 rv
  · have e : but H p a = H a := if_neg ha
    exact (Ex.at_eq s.ef (by rw [e]; exact hn)).trans e
  · by_cases ha : a = p
    · subst ha
      exact k1
    · exact s.sep a (by unfold but; rw [if_neg ha]; exact hn) hk
end
end Wk

/-! ### rules whose readings name K itself (within comprehensions) -/
namespace Wk
open PySem PySem.Spec L2 Evl
section
variable {X : Cx} {K : Fg}
theorem k_isi (h : X.K = K := by rfl) : CallR X (.builtin "isinstance") (rIsi K) := h ▸ call_isi
theorem k_len (h : X.K = K := by rfl) : CallR X (.builtin "len") (fun xs H Q => ∃ p ys, xs = [.ref p] ∧ (SqL K H p ys ∨ SqT K H p ys) ∧ Q (.int ys.length) H) := h ▸ call_len_seq
theorem k_list (h : X.K = K := by rfl) : CallR X (.type "list") (fun xs H Q => ∃ p ys, xs = [.ref p] ∧ (SqL K H p ys ∨ SqT K H p ys) ∧ ∀ l, H l = none → Q (.ref l) (upd H l (.lst ys))) := h ▸ call_list_of
theorem k_tuple (h : X.K = K := by rfl) : CallR X (.type "tuple") (fun xs H Q => ∃ p ys, xs = [.ref p] ∧ ((SqL K H p ys ∧ ∀ l, H l = none → Q (.ref l) (upd H l (.tup ys))) ∨ (SqT K H p ys ∧ Q (.ref p) H))) := h ▸ call_tuple_of
theorem k_sum (hc : X.calm = true := by rfl) (h : X.K = K := by rfl) : CallR X (.builtin "sum") (rSum K) := h ▸ cr_sum hc
theorem k_any (hc : X.calm = true := by rfl) (h : X.K = K := by rfl) : CallR X (.builtin "any") (rAny K) := h ▸ cr_any hc
theorem k_all (hc : X.calm = true := by rfl) (h : X.K = K := by rfl) : CallR X (.builtin "all") (rAll K) := h ▸ cr_all hc
theorem k_max2 (hc : X.calm = true := by rfl) : CallR X (.builtin "max") (fun xs H Q => ∃ i j, xs = [.int i, .int j] ∧ Q (.int (if j > i then j else i)) H) := call_max2 hc
theorem k_min2 (hc : X.calm = true := by rfl) : CallR X (.builtin "min") (fun xs H Q => ∃ i j, xs = [.int i, .int j] ∧ Q (.int (if j < i then j else i)) H) := call_min2 hc
theorem k_sorted (h : X.K = K := by rfl) : CallR X (.builtin "sorted") (rSortedI K) := h ▸ cr_sortedI
theorem k_ixl (h : X.K = K := by rfl) : IxR X (rIxL K) := h ▸ ix_list
theorem k_ixt (h : X.K = K := by rfl) : IxR X (rIxT K) := h ▸ ix_tup
theorem k_sll (h : X.K = K := by rfl) : SlR X (rSlL K) := h ▸ sl_list
theorem k_eqD (hu : X.A.units + 64 < cLine) (h : X.K = K := by rfl) : OpR X (compareOp .Eq) (rEqD K) := h ▸ op_eqD hu
theorem k_neD (hu : X.A.units + 64 < cLine) (h : X.K = K := by rfl) : OpR X (compareOp .NotEq) (rNeD K) := h ▸ op_neD hu
theorem k_in (h : X.K = K := by rfl) : OpR X (compareOp .In) (rIn K false) := h ▸ op_in_seq
theorem k_notIn (h : X.K = K := by rfl) : OpR X (compareOp .NotIn) (rIn K true) := h ▸ op_notIn_seq
theorem kpg_tup {es : List Expr} {k : Nat} {t : TGs} {n : Nat} {pos : Pos} (hs : PGs X es t) (hc : X.calm = true := by rfl) (h : X.K = K := by rfl)
    (hn : (assignEach es X.env).length = n := by rfl) (hst : (assignEach es X.env).findIdx? (·.1) = none := by rfl) : PG X (.Tuple es k pos) (gTup K n t) := h ▸ pg_tup hc hs hn hst
theorem kpi_list {tg e : Expr} {te : TE} (he : PE X e te) (h : X.K = K := by rfl) : PI X tg e (iList K te) := h ▸ pi_list he
theorem kpi_tup {tg e : Expr} {te : TE} (he : PE X e te) (h : X.K = K := by rfl) : PI X tg e (iTup K te) := h ▸ pi_tup he
theorem kpt_truth {a : Expr} {ta : TE} (ha : PE X a ta) (he : ∀ whole, isTrue a X.env whole = (do let v ← whole; standAt a.pos; holding [v] (truthy v)) := by intro _; rfl) (h : X.K = K := by rfl) : PT X a (fun σ H Q => ta σ H fun x H' => ∃ k, TruV K x H' k ∧ Q k H') := h ▸ pt_truth ha he
end
end Wk
/-! Wk5: in, lists made longer, texts, chains, tuples put together -/
namespace Wk
open PySem PySem.Spec L2 Evl
class Fe (α : Type) [Rp α] [Fl α] [DecidableEq α] : Prop where
  flat : ∀ a : α, flatV (Fl.toV a) = true
  eq : ∀ a b : α, eqV (Fl.toV a) (Fl.toV b) = decide (a = b)
instance : Fe Int := ⟨fun _ => rfl, fun a b => by show (a == b) = decide (a = b); by_cases h : a = b <;> simp [h]⟩
instance : Fe Str := ⟨fun _ => rfl, fun a b => by show (a == b) = decide (a = b); by_cases h : a = b <;> simp [h]⟩
def repO {α : Type} (xs : List α) (k : Int) : Option (List α) := if -1000000000 ≤ k ∧ k ≤ 1000000000 ∧ xs.length * k.toNat ≤ 1000000 then some (List.replicate k.toNat xs).flatten else none
def addS (x y : Str) : Option Str := if x.length + y.length ≤ 1000000 then some (x ++ y) else none
def lenS (x : Str) : Option Int := if x.length ≤ 1000000 then some (x.length : Int) else none
def joinO (a : Str) (ys : List Str) : Option Str := if (ys.map (·.length)).sum + ys.length * a.length ≤ 1000000 then some (Txt.join a ys) else none
def powO (i j : Int) : Option Int := if 0 ≤ j ∧ j ≤ 1000000 ∧ i.natAbs < 18446744073709551616 then some (i ^ j.toNat) else none
section
variable {K : Fg} {F Kn0 : Hp} {sl sl' : List Sl} {ow ow0 ow1 ow2 : List Ow} {α β γ τ : Type} [Rp α] [Rp β] [Rp γ] [Tp τ] {ta tb tc te : TE} {x : α} {y : β} {z : γ} {D : Ends} {t u tz : TS} {tt : TT} {a b : Bool} {i j : Nat} {p : Addr}
theorem any_mem {α : Type} [Rp α] [Fl α] [DecidableEq α] [Fe α] (x : α) : ∀ xs : List α, inV (Fl.toV x) (xs.map Fl.toV) = decide (x ∈ xs)
  | [] => by simp [inV]
  | y :: ys => by
    have ih := any_mem x ys
    unfold inV at ih ⊢
    rw [List.map_cons, List.any_cons, ih, Fe.eq]
    by_cases h : y = x
    · subst h
      simp
    · have h' : ¬ x = y := fun e => h e.symm
      simp [h, h']
theorem all_flat {α : Type} [Rp α] [Fl α] [DecidableEq α] [Fe α] : ∀ xs : List α, (xs.map Fl.toV).all flatV = true
  | [] => rfl
  | y :: ys => by
    rw [List.map_cons, List.all_cons, Fe.flat, all_flat ys]
    rfl
theorem r2_in {α : Type} [Rp α] [Fl α] [DecidableEq α] [Fe α] {x : α} {xs : List α} : R2V K (rIn K false) x xs (decide (x ∈ xs)) := fun Kn H v w ek h1 h2 Q q => by
  obtain ⟨p, ws, rfl, h3, h4⟩ := h2
  have e := paired_fl h4
  subst e
  rw [Fl.iff.mp h1]
  refine ⟨p, _, rfl, .inl (sq_of (ek _ _ h3)), Fe.flat x, all_flat xs, ?_⟩
  rw [any_mem]
  exact q.fl ek
theorem r2_notIn {α : Type} [Rp α] [Fl α] [DecidableEq α] [Fe α] {x : α} {xs : List α} : R2V K (rIn K true) x xs (!decide (x ∈ xs)) := fun Kn H v w ek h1 h2 Q q => by
  obtain ⟨p, ws, rfl, h3, h4⟩ := h2
  have e := paired_fl h4
  subst e
  rw [Fl.iff.mp h1]
  refine ⟨p, _, rfl, .inl (sq_of (ek _ _ h3)), Fe.flat x, all_flat xs, ?_⟩
  rw [any_mem]
  exact q.fl ek
theorem r2_inU {α : Type} [Rp α] [Fl α] [DecidableEq α] [Fe α] {x : α} {xs : Tu α} : R2V K (rIn K false) x xs (decide (x ∈ xs.l)) := fun Kn H v w ek h1 h2 Q q => by
  obtain ⟨p, ws, rfl, h3, h4⟩ := h2
  have e := paired_fl h4
  subst e
  rw [Fl.iff.mp h1]
  refine ⟨p, _, rfl, .inr (st_of (ek _ _ h3)), Fe.flat x, all_flat xs.l, ?_⟩
  rw [any_mem]
  exact q.fl ek
theorem r2_notInU {α : Type} [Rp α] [Fl α] [DecidableEq α] [Fe α] {x : α} {xs : Tu α} : R2V K (rIn K true) x xs (!decide (x ∈ xs.l)) := fun Kn H v w ek h1 h2 Q q => by
  obtain ⟨p, ws, rfl, h3, h4⟩ := h2
  have e := paired_fl h4
  subst e
  rw [Fl.iff.mp h1]
  refine ⟨p, _, rfl, .inr (st_of (ek _ _ h3)), Fe.flat x, all_flat xs.l, ?_⟩
  rw [any_mem]
  exact q.fl ek
theorem paired_rep {F : V → α → Prop} {vs : List V} {xs : List α} (h : Paired F vs xs) : ∀ n : Nat, Paired F (List.replicate n vs).flatten (List.replicate n xs).flatten
  | 0 => .nil
  | n + 1 => by
    rw [List.replicate_succ, List.replicate_succ, List.flatten_cons, List.flatten_cons]
    exact paired_append h (paired_rep h n)
theorem r2_repO {xs zs : List α} {k : Int} (h : repO xs k = some zs) : R2L K rRep xs k zs := fun Kn H v w ek h1 h2 Q q => by
  unfold repO at h
  split at h
  · rename_i hb
    cases h
    obtain ⟨p, ws, rfl, h3, h4⟩ := h1
    cases h2
    refine ⟨p, k, ws, rfl, rfl, ek _ _ h3, by omega, by omega, by rw [paired_len h4]; exact le_line hb.2.2, fun l hl => q l _ Kn _ (Gr.newU ek hl) hl (fresh_back ek hl) upd_same (paired_rep h4 _)⟩
  · cases h
theorem r2_addS {x y z : Str} (h : addS x y = some z) : R2V K (fun x y H Q => ∃ i j, x = .str i ∧ y = .str j ∧ i.length + j.length ≤ sizeLine ∧ Q (.str (i ++ j)) H) x y z := fun Kn H v w ek h1 h2 Q q => by
  unfold addS at h
  split at h
  · rename_i hb
    cases h
    exact ⟨x, y, h1, h2, le_line hb, q.fl ek⟩
  · cases h
theorem rc_lenS {x : Str} {z : Int} (h : lenS x = some z) : RCV K (fun xs H Q => ∃ z, xs = [.str z] ∧ z.length ≤ sizeLine ∧ Q (.int z.length) H) (x, ()) z := fun Kn H vs ek hr Q q => by
  obtain ⟨v, rfl, h1⟩ := one_arg hr
  cases h1
  unfold lenS at h
  split at h
  · rename_i hb
    cases h
    exact ⟨x, rfl, le_line hb, q.fl ek⟩
  · cases h
theorem ev_joinO {s : Str} {ys : List Str} {z : Str} (ha : EV K F Kn0 sl ow ta s) (hb : EV K F Kn0 sl ow tb ys) (h : joinO s ys = some z) :
    EV K F Kn0 sl ow (tM1 (fun x xs H Q => ∃ a p, ∃ ys : List Str, x = .str a ∧ xs = [.ref p] ∧ (SqL K H p (ys.map V.str) ∨ SqT K H p (ys.map V.str)) ∧ (ys.map (·.length)).sum + ys.length * a.length ≤ 16777216 ∧ Q (.str (Txt.join a ys)) H) ta tb) z := fun σ Kn H s' Q q =>
  ha σ Kn H s' _ fun v Kn1 H1 g1 r1 => by
    cases r1
    refine ⟨⟨s, rfl⟩, hb σ Kn1 H1 (s'.grow g1) _ fun w Kn2 H2 g2 r2 => ?_⟩
    obtain ⟨p, ws, rfl, h3, h4⟩ := r2
    have e := paired_fl h4
    subst e
    unfold joinO at h
    split at h
    · rename_i hz
      cases h
      exact ⟨s, p, ys, rfl, rfl, .inl (sq_of (g2.kh _ _ h3)), by omega, q _ Kn2 H2 (g1.trans g2) rfl⟩
    · cases h
theorem rc_intB {x : Bool} : RCV K (fun xs H Q => (∃ i, xs = [.int i] ∧ Q (.int i) H) ∨ ∃ k, xs = [.bl k] ∧ Q (.int (if k then 1 else 0)) H) (x, ()) (if x = true then (1 : Int) else 0) := fun Kn H vs ek hr Q q => by
  obtain ⟨v, rfl, h1⟩ := one_arg hr
  cases h1
  exact .inr ⟨x, rfl, q.fl ek⟩
theorem rc_intI {x : Int} : RCV K (fun xs H Q => (∃ i, xs = [.int i] ∧ Q (.int i) H) ∨ ∃ k, xs = [.bl k] ∧ Q (.int (if k then 1 else 0)) H) (x, ()) x := fun Kn H vs ek hr Q q => by
  obtain ⟨v, rfl, h1⟩ := one_arg hr
  cases h1
  exact .inl ⟨x, rfl, q.fl ek⟩
theorem r2_powO {i j z : Int} (h : powO i j = some z) : R2V K (rI CPow fun i j => .int (i ^ j.toNat)) i j z := by
  unfold powO at h
  split at h
  · rename_i hb
    cases h
    exact r2_I ⟨hb.1, hb.2.1, by omega⟩
  · cases h
/-- x < y < z -/
theorem ev_chain {r r' : R2} (ha : EV K F Kn0 sl ow ta x) (hb : EV K F Kn0 sl ow tb y) (hr : R2V K r x y a) (hc : EV K F Kn0 sl ow tc z) (hr' : R2V K r' y z b) : EV K F Kn0 sl ow (tChain r r' ta tb tc) (a && b) := fun σ Kn H s Q q =>
  ha σ Kn H s _ fun v Kn1 H1 g1 r1 => hb σ Kn1 H1 (s.grow g1) _ fun w Kn2 H2 g2 r2 => hr Kn2 H2 v w g2.kh (Rp.mono g2.kk r1) r2 _ fun u Kn3 H3 g3 r3 => by
    refine ⟨a, r3, ?_⟩
    cases a with
    | true => exact iteT (hc σ Kn3 H3 (((s.grow g1).grow g2).grow g3) _ fun v4 Kn4 H4 g4 r4 => hr' Kn4 H4 w v4 g4.kh (Rp.mono (g3.kk.trans g4.kk) r2) r4 Q fun u5 Kn5 H5 g5 r5 => q u5 Kn5 H5 ((((g1.trans g2).trans g3).trans g4).trans g5) r5)
    | false => exact iteF (q _ Kn3 H3 ((g1.trans g2).trans g3) rfl)
/-- t3 is t1 and t2 put together -/
inductive Ap : {τ1 τ2 τ3 : Type} → [Tp τ1] → [Tp τ2] → [Tp τ3] → τ1 → τ2 → τ3 → Prop
  | z {τ : Type} [Tp τ] (t : τ) : Ap () t t
  | s {α τ1 τ2 τ3 : Type} [Rp α] [Tp τ1] [Tp τ2] [Tp τ3] (x : α) {t1 : τ1} {t2 : τ2} {t3 : τ3} : Ap t1 t2 t3 → Ap (x, t1) t2 (x, t3)
theorem Ap.rept {K : Fg} {H : Hp} {τ1 τ2 τ3 : Type} [i1 : Tp τ1] [i2 : Tp τ2] [i3 : Tp τ3] {t1 : τ1} {t2 : τ2} {t3 : τ3} (h : Ap t1 t2 t3) : ∀ {vs ws : List V}, Wk.rept K H vs t1 → Wk.rept K H ws t2 → Wk.rept K H (vs ++ ws) t3 := by
  induction h with
  | z t =>
    intro vs ws h1 h2
    cases h1
    exact h2
  | s x _ ih =>
    intro vs ws h1 h2
    obtain ⟨v, r, rfl, h3, h4⟩ := h1
    exact ⟨v, r ++ ws, rfl, h3, ih h4 h2⟩
theorem r2_catA {α1 τ1 α2 τ2 α3 τ3 : Type} [Rp α1] [Tp τ1] [Rp α2] [Tp τ2] [Rp α3] [Tp τ3] {t1 : α1 × τ1} {t2 : α2 × τ2} {t3 : α3 × τ3} (h : Ap t1 t2 t3) (hn : Tp.n (α1 × τ1) + Tp.n (α2 × τ2) ≤ 1000 := by decide) : R2V K (rCatA K) t1 t2 t3 := fun Kn H v w ek h1 h2 Q q => by
  obtain ⟨p, vs, rfl, h3, h4⟩ := h1
  obtain ⟨p2, ws, rfl, h5, h6⟩ := h2
  have n1 : vs ≠ [] := by
    obtain ⟨_, _, rfl, _⟩ := h4
    simp
  have n2 : ws ≠ [] := by
    obtain ⟨_, _, rfl, _⟩ := h6
    simp
  refine ⟨p, p2, vs, ws, rfl, rfl, st_of (ek _ _ h3), st_of (ek _ _ h5), ?_, fun e => absurd e n1, fun _ e => absurd e n2, fun _ _ l hl => ?_⟩
  · rw [Tp.len h4, Tp.len h6]
    exact le_line (by omega)
  · exact q _ (upd Kn l (.tup (vs ++ ws))) _ (Gr.new ek hl) ⟨l, _, rfl, upd_same, h.rept (Tp.mono (Gr.new ek hl).kk h4) (Tp.mono (Gr.new ek hl).kk h6)⟩
/-- found.clear() -/
theorem sb_clr {xs : List α} (hi : sl[i]? = some (.at p)) (hj : ow[j]? = some (ol p xs)) (ho : ow.set j (ol p ([] : List α)) = ow1) (k : SN K F Kn0 sl ow1 D) : SB K F Kn0 sl ow D (tDrop (tBM0 K "list" rClear (tVar i))) := fun σ Kn H s => by
  obtain ⟨o, h1, h2⟩ := s.sl.get hi
  obtain ⟨f1, f2, ws, f3, f4⟩ := s.ow.each _ (List.mem_of_getElem? hj)
  subst ho
  refine ⟨.ref p, by rw [h1]; exact congrArg some h2, Or.inl ⟨rfl, ws, sq_of f3⟩, p, ws, rfl, rfl, f3, k _ Kn _ ?_⟩
  exact s.write hj (Ex.refl _) (upd_in s.ek f2) (fun q hq _ => upd_ne hq) (fun _ _ h => h) upd_same .nil
theorem en_listO {xs : List α} (hi : sl[i]? = some (.at p)) (hj : ow[j]? = some (ol p xs)) : EN K F Kn0 sl ow (tCB (fun xs H Q => ∃ p ys, xs = [.ref p] ∧ (SqL K H p ys ∨ SqT K H p ys) ∧ ∀ l, H l = none → Q (.ref l) (upd H l (.lst ys))) (tCons (tVar i) tNil)) xs := fun σ Kn H s Q q => by
  obtain ⟨o, h1, h2⟩ := s.sl.get hi
  obtain ⟨f1, f2, ws, f3, f4⟩ := s.ow.each _ (List.mem_of_getElem? hj)
  exact ⟨.ref p, by rw [h1]; exact congrArg some h2, p, ws, rfl, .inl (sq_of f3), fun l hl => q l ws Kn _ (Gr.newU s.ek hl) hl (fresh_back s.ek hl) upd_same f4⟩
/-- a test that changes something on its way -/
def ETM (K : Fg) (F Kn0 : Hp) (sl : List Sl) (ow : List Ow) (tt : TT) (ow' : List Ow) (b : Bool) : Prop := ∀ σ Kn H, S K F Kn0 sl ow σ Kn H → ∀ Q : Bool → Hp → Prop, (∀ Kn' H', Ex Kn Kn' → S K F Kn0 sl ow' σ Kn' H' → Q b H') → tt σ H Q
theorem ET.etm (h : ET K F Kn0 sl ow tt b) : ETM K F Kn0 sl ow tt ow b := fun σ Kn H s Q q => h σ Kn H s Q fun Kn' H' g => q Kn' H' g.kk (s.grow g)
theorem etm_test (h : EM K F Kn0 sl ow te ow1 b) : ETM K F Kn0 sl ow (tTest te) ow1 b := fun σ Kn H s Q q => h σ Kn H s _ fun v Kn' H' e s' r => ⟨b, r, q Kn' H' e s'⟩
theorem etm_and {t u : TT} (h1 : ETM K F Kn0 sl ow t ow1 a) (h2 : a = true → ET K F Kn0 sl ow1 u b) : ETM K F Kn0 sl ow (tAnd t u) ow1 (a && b) := fun σ Kn H s Q q => h1 σ Kn H s _ fun Kn1 H1 e1 s1 => by
  cases a with
  | true => exact iteT (h2 rfl σ Kn1 H1 s1 Q fun Kn2 H2 g2 => q Kn2 H2 (e1.trans g2.kk) (s1.grow g2))
  | false => exact iteF (q Kn1 H1 e1 s1)
theorem etm_or {t u : TT} (h1 : ETM K F Kn0 sl ow t ow1 a) (h2 : a = false → ET K F Kn0 sl ow1 u b) : ETM K F Kn0 sl ow (tOr t u) ow1 (a || b) := fun σ Kn H s Q q => h1 σ Kn H s _ fun Kn1 H1 e1 s1 => by
  cases a with
  | true => exact iteT (q Kn1 H1 e1 s1)
  | false => exact iteF (h2 rfl σ Kn1 H1 s1 Q fun Kn2 H2 g2 => q Kn2 H2 (e1.trans g2.kk) (s1.grow g2))
theorem sb_ifM {t u : TS} (h : ETM K F Kn0 sl ow tt ow1 b) (h1 : b = true → SB K F Kn0 sl ow1 D t) (h2 : b = false → SB K F Kn0 sl ow1 D u) : SB K F Kn0 sl ow D (tIfS tt t u) := fun σ Kn H s => h σ Kn H s _ fun Kn1 H1 e1 s1 => by
  cases b with
  | true => exact iteT (h1 rfl σ Kn1 H1 s1)
  | false => exact iteF (h2 rfl σ Kn1 H1 s1)
end
section
variable {X : Cx} {K : Fg}
theorem k_catA (h : X.K = K := by rfl) : OpR X (binaryOp .Add) (rCatA K) := h ▸ op_catA
theorem k_join {to te : TE} {o e : Expr} {apos pos : Pos} (ho : PE X o to) (he : PE X e te) (hs : starEach [e] X.env = [(false, eval e X.env)] := by rfl) (hbase : attributeBase o "join" X.env (eval o X.env) = eval o X.env := by rfl) (hline : (apos.endLine == pos.line) = true := by rfl) (h : X.K = K := by rfl) :
    PE X (.Call (.Attribute o "join" apos) [e] [] pos) (tM1 (fun x xs H Q => ∃ a p, ∃ ys : List Str, x = .str a ∧ xs = [.ref p] ∧ (SqL K H p (ys.map V.str) ∨ SqT K H p (ys.map V.str)) ∧ (ys.map (·.length)).sum + ys.length * a.length ≤ 16777216 ∧ Q (.str (Txt.join a ys)) H) to te) := h ▸ pe_join ho he hs hbase hline
end
end Wk
/-! Wk6: dicts. -/
namespace Wk
open PySem PySem.Spec L2 Evl
/-- what may be a key -/
class K1 (α : Type) [Rp α] where
  key : α → Key
  inj : ∀ {a b : α}, key a = key b → a = b
  iff : ∀ {K : Fg} {H : Hp} {v : V} {a : α}, rep K H v a → v = kV (key a)
instance : K1 Int := { key := Sum.inl, inj := fun h => Sum.inl.inj h, iff := fun h => h }
instance : K1 Str := { key := Sum.inr, inj := fun h => Sum.inr.inj h, iff := fun h => h }
class KT1 (τ : Type) [Tp τ] where
  keys : τ → List Key
  inj : ∀ {a b : τ}, keys a = keys b → a = b
  iff : ∀ {K : Fg} {H : Hp} {vs : List V} {a : τ}, rept K H vs a → vs = (keys a).map kV
instance : KT1 Unit := { keys := fun _ => [], inj := fun _ => rfl, iff := fun h => h }
instance {α τ : Type} [Rp α] [Tp τ] [K1 α] [KT1 τ] : KT1 (α × τ) where
  keys t := K1.key t.1 :: KT1.keys t.2
  inj h := Prod.ext (K1.inj (List.cons.inj h).1) (KT1.inj (List.cons.inj h).2)
  iff h := by
    obtain ⟨v, r, h1, h2, h3⟩ := h
    rw [h1, K1.iff h2, KT1.iff h3]
    rfl
class Ky (κ : Type) [Rp κ] where
  kt : Type
  dec : DecidableEq kt
  key : κ → kt
  inj : ∀ {a b : κ}, key a = key b → a = b
  ho : List (kt × V) → HO
  get : ∀ {K : Fg} {Kh H : Hp} {p : Addr} {v : V} {a : κ} {ws : List (kt × V)}, rep K Kh v a → Ex Kh H → H p = some (ho ws) → DGet H p v (valV ws (key a))
  put : ∀ {K : Fg} {Kh H : Hp} {p : Addr} {v y : V} {a : κ} {ws : List (kt × V)}, rep K Kh v a → Ex Kh H → H p = some (ho ws) → ws.length < sizeLine → DPut H p v y (upd H p (ho (putK ws (key a) y)))
instance {κ : Type} [Rp κ] [Ky κ] : DecidableEq (Ky.kt κ) := Ky.dec
instance {α : Type} [Rp α] [K1 α] : Ky α where
  kt := Key
  dec := inferInstance
  key := K1.key
  inj := K1.inj
  ho := .dK
  get h _ e := by
    rw [K1.iff h]
    exact DGet.k e
  put h _ e l := by
    rw [K1.iff h]
    exact DPut.k e l
instance {α τ : Type} [Rp α] [Tp τ] [KT1 (α × τ)] : Ky (α × τ) where
  kt := List Key
  dec := inferInstance
  key := KT1.keys
  inj := KT1.inj
  ho := .dT
  get h x e := by
    obtain ⟨p, vs, h1, h2, h3⟩ := h
    rw [h1]
    have h4 := x _ _ h2
    rw [KT1.iff (τ := α × _) h3] at h4
    exact DGet.t e h4
  put h x e l := by
    obtain ⟨p, vs, h1, h2, h3⟩ := h
    rw [h1]
    have h4 := x _ _ h2
    rw [KT1.iff (τ := α × _) h3] at h4
    exact DPut.t e h4 l
/-- the table of a dict -/
structure Dc (κ β : Type) where
  l : List (κ × β)
section
variable {κ β : Type} [DecidableEq κ]
def getD (kvs : List (κ × β)) (k : κ) : Option β := (kvs.find? fun kv => decide (kv.1 = k)).map (·.2)
def putD (kvs : List (κ × β)) (k : κ) (y : β) : List (κ × β) := if (getD kvs k).isSome = true then kvs.map (fun kv => if kv.1 = k then (kv.1, y) else kv) else kvs ++ [(k, y)]
def putO (kvs : Dc κ β) (k : κ) (y : β) : Option (Dc κ β) := if kvs.l.length < 1000000 then some ⟨putD kvs.l k y⟩ else none
def mergeD (kvs more : List (κ × β)) : List (κ × β) := more.foldl (fun acc kv => putD acc kv.1 kv.2) kvs
end
section
variable {κ β : Type} [Rp κ] [Ky κ] [Rp β]
abbrev DK (K : Fg) (H : Hp) : List (Ky.kt κ × V) → List (κ × β) → Prop := Paired fun w kv => w.1 = Ky.key kv.1 ∧ rep K H w.2 kv.2
theorem DK.mono {K : Fg} {H H' : Hp} {ws : List (Ky.kt κ × V)} {kvs : List (κ × β)} (e : Ex H H') (h : DK K H ws kvs) : DK K H' ws kvs := Paired.mapP h fun _ _ q => ⟨q.1, Rp.mono e q.2⟩
instance obDc : Ob (Dc κ β) where
  ob K H o x := ∃ ws, o = Ky.ho (κ := κ) ws ∧ DK K H ws x.l
  mono e h := by
    obtain ⟨ws, h1, h2⟩ := h
    exact ⟨ws, h1, DK.mono e h2⟩
instance rpDc : Rp (Dc κ β) where
  rep K H v x := ∃ p o, v = .ref p ∧ H p = some o ∧ Ob.ob K H o x
  mono e h := by
    obtain ⟨p, o, h1, h2, h3⟩ := h
    exact ⟨p, o, h1, e _ _ h2, Ob.mono e h3⟩
variable [DecidableEq κ]
theorem DK.get {K : Fg} {H : Hp} {ws : List (Ky.kt κ × V)} {kvs : List (κ × β)} (k : κ) (h : DK K H ws kvs) : (getD kvs k = none ∧ valV ws (Ky.key k) = none) ∨ ∃ y v, getD kvs k = some y ∧ valV ws (Ky.key k) = some v ∧ rep K H v y := by
  unfold DK at h
  induction h with
  | nil => exact .inl ⟨rfl, rfl⟩
  | @cons w kv ws kvs h t ih =>
    unfold getD valV
    by_cases e : kv.1 = k
    · have e2 : w.1 = Ky.key k := h.1.trans (congrArg _ e)
      rw [List.find?_cons_of_pos (by simpa using e), List.find?_cons_of_pos (by simpa using e2)]
      exact .inr ⟨_, _, rfl, rfl, h.2⟩
    · have e2 : ¬ w.1 = Ky.key k := fun z => e (Ky.inj (h.1.symm.trans z))
      rw [List.find?_cons_of_neg (by simpa using e), List.find?_cons_of_neg (by simpa using e2)]
      exact ih
theorem DK.some {K : Fg} {H : Hp} {ws : List (Ky.kt κ × V)} {kvs : List (κ × β)} (k : κ) (h : DK K H ws kvs) : (valV ws (Ky.key k)).isSome = (getD kvs k).isSome := by
  rcases h.get k with ⟨h1, h2⟩ | ⟨y, v, h1, h2, _⟩
  · rw [h1, h2]
    rfl
  · rw [h1, h2]
    rfl
theorem DK.repl {K : Fg} {H : Hp} {ws : List (Ky.kt κ × V)} {kvs : List (κ × β)} (k : κ) {v : V} {y : β} (hv : rep K H v y) (h : DK K H ws kvs) : DK K H (ws.map fun kv => if kv.1 = Ky.key k then (kv.1, v) else kv) (kvs.map fun kv => if kv.1 = k then (kv.1, y) else kv) := by
  unfold DK at h ⊢
  induction h with
  | nil => exact .nil
  | @cons w kv ws kvs h t ih =>
    rw [List.map_cons, List.map_cons]
    refine .cons ?_ ih
    by_cases e : kv.1 = k
    · have e2 : w.1 = Ky.key k := h.1.trans (congrArg _ e)
      rw [if_pos e, if_pos e2]
      exact ⟨h.1, hv⟩
    · have e2 : ¬ w.1 = Ky.key k := fun z => e (Ky.inj (h.1.symm.trans z))
      rw [if_neg e, if_neg e2]
      exact h
theorem Paired.app2 {α β : Type} {R : α → β → Prop} : ∀ {xs xs' : List α} {ys ys' : List β}, Paired R xs ys → Paired R xs' ys' → Paired R (xs ++ xs') (ys ++ ys')
  | _, _, _, _, .nil, h => h
  | _, _, _, _, .cons q t, h => .cons q (Paired.app2 t h)
theorem DK.put {K : Fg} {H : Hp} {ws : List (Ky.kt κ × V)} {kvs : List (κ × β)} (k : κ) {v : V} {y : β} (hv : rep K H v y) (h : DK K H ws kvs) : DK K H (putK ws (Ky.key k) v) (putD kvs k y) := by
  unfold putK putD
  rw [valV_any, h.some k]
  split
  · exact DK.repl k hv h
  · exact Paired.app2 h (.cons ⟨rfl, hv⟩ .nil)
end
section
variable {K : Fg} {F Kn0 : Hp} {sl sl' : List Sl} {ow ow0 ow1 ow2 : List Ow} {κ β γ : Type} [Rp κ] [Ky κ] [DecidableEq κ] [Rp β] [Rp γ] {ta tb te td tk : TE} {k : κ} {x : γ} {D : Ends} {t u tz : TS} {b : Bool} {i j : Nat} {p : Addr}
/-- the object at place j is another one now, all else as it was -/
theorem S.writeG {σ : L2.St} {Kn H Kn' H' : Hp} {o1 o2 : Ow} (s : S K F Kn0 sl ow σ Kn H) (hj : ow[j]? = some o1) (ha : o1.ad = p) (hb : o2.ad = p) (kk : Ex Kn Kn') (kh : Ex Kn' H')
    (hq : ∀ q, q ≠ p → H q ≠ none → H' q = H q) (sp : ∀ q, H q ≠ none → Kn q = none → Kn' q = none) (hp : o2.ok K Kn' H') : S K F Kn0 sl (ow.set j o2) σ Kn' H' := by
  obtain ⟨f1, f2, f3⟩ := s.ow.each _ (List.mem_of_getElem? hj)
  have f4 := Ow.there f3
  rw [ha] at f1 f2 f4
  have jl : j < ow.length := (List.getElem?_eq_some_iff.mp hj).1
  refine ⟨s.e0.trans kk, kh, fun a u h => ?_, fun a h1 h2 => sp a (Ex.nn s.ef h1) (s.sep a h1 h2), s.sl.mono kk, ⟨fun o ho => ?_, ?_⟩⟩
  · have hne : a ≠ p := fun z => by rw [z, f1] at h; cases h
    rw [hq a hne (ne_none_of (s.ef _ _ h))]
    exact s.ef _ _ h
  · obtain ⟨i, hi⟩ := List.getElem?_of_mem ho
    by_cases e : i = j
    · subst e
      rw [List.getElem?_set_self jl] at hi
      cases hi
      rw [hb]
      exact ⟨f1, sp p f4 f2, hp⟩
    · rw [List.getElem?_set_ne (Ne.symm e)] at hi
      obtain ⟨h1, h2, h3⟩ := s.ow.each o (List.mem_of_getElem? hi)
      have h4 := Ow.there h3
      have hne : o.ad ≠ p := fun z => e (ow_at s.ow.nd hi hj (z.trans ha.symm))
      exact ⟨h1, sp _ h4 h2, Ow.ok_mono kk (hq _ hne h4) h3⟩
  · have e : (ow.set j o2).map Ow.ad = ow.map Ow.ad := by
      rw [List.map_set]
      refine List.ext_getElem? fun i => ?_
      by_cases e : j = i
      · subst e
        rw [List.getElem?_set_self (by rw [List.length_map]; exact jl), List.getElem?_map, hj, hb, ← ha]
        rfl
      · rw [List.getElem?_set_ne e]
    rw [e]
    exact s.ow.nd
theorem S.ownG {σ : L2.St} {Kn H : Hp} {o : Ow} (s : S K F Kn0 sl ow σ Kn H) (ha : o.ad = p) (fp : F p = none) (kp : Kn p = none) (no : ∀ o ∈ ow, o.ad ≠ p) (ok : o.ok K Kn H) : S K F Kn0 sl (o :: ow) σ Kn H :=
  ⟨s.e0, s.ek, s.ef, s.sep, s.sl, ⟨fun o ho => by
    rcases List.mem_cons.mp ho with rfl | ho
    · rw [ha]
      exact ⟨fp, kp, ok⟩
    · exact s.ow.each o ho, List.nodup_cons.mpr ⟨fun h => by
      obtain ⟨o, ho, e⟩ := List.mem_map.mp h
      exact no o ho (e.trans ha), s.ow.nd⟩⟩⟩
/-- x = {} -/
theorem sb_dnewK {sl' : Addr → List Sl} (hm : Ky.ho (κ := κ) [] = HO.dK []) (hs : ∀ p, sl.set i (.at p) = sl' p) (k : ∀ p, SN K F Kn0 (sl' p) (oo p (Dc.mk ([] : List (κ × β))) :: ow) D) : SB K F Kn0 sl ow D (tAsg tDNewK (gName i)) := fun σ Kn H s p hp =>
  k p _ Kn _ (hs p ▸ ((s.grow (Gr.newU s.ek hp)).ownG (p := p) (o := oo p (Dc.mk ([] : List (κ × β)))) rfl (fresh_back s.ef hp) (fresh_back s.ek hp) (owned_ne s hp) ⟨_, upd_same, [], hm.symm, .nil⟩).seta i)
theorem sb_dnewT {sl' : Addr → List Sl} (hm : Ky.ho (κ := κ) [] = HO.dT []) (hs : ∀ p, sl.set i (.at p) = sl' p) (k : ∀ p, SN K F Kn0 (sl' p) (oo p (Dc.mk ([] : List (κ × β))) :: ow) D) : SB K F Kn0 sl ow D (tAsg tDNewT (gName i)) := fun σ Kn H s p hp =>
  k p _ Kn _ (hs p ▸ ((s.grow (Gr.newU s.ek hp)).ownG (p := p) (o := oo p (Dc.mk ([] : List (κ × β)))) rfl (fresh_back s.ef hp) (fresh_back s.ek hp) (owned_ne s hp) ⟨_, upd_same, [], hm.symm, .nil⟩).seta i)
/-- d[k] = y -/
theorem sb_dput {y : β} {d d' : Dc κ β} (hi : sl[i]? = some (.at p)) (hj : ow[j]? = some (oo p d)) (h : EV K F Kn0 sl ow te y) (hk : EV K F Kn0 sl ow tk k) (hx : putO d k y = some d') (ho : ow.set j (oo p d') = ow1) (n : SN K F Kn0 sl ow1 D) :
    SB K F Kn0 sl ow D (sDPut (tVar i) tk te) := fun σ Kn H s => h σ Kn H s _ fun v Kn1 H1 g1 r1 => by
  obtain ⟨o, h1, h2⟩ := s.sl.get hi
  refine ⟨.ref p, by rw [h1]; exact congrArg some h2, hk σ Kn1 H1 (s.grow g1) _ fun w Kn2 H2 g2 r2 => ?_⟩
  have s2 := (s.grow g1).grow g2
  obtain ⟨f1, f2, o1, f3, ws, f4, f5⟩ := s2.ow.each _ (List.mem_of_getElem? hj)
  subst f4
  unfold putO at hx
  split at hx
  · case isTrue hl =>
    cases hx
    subst ho
    refine ⟨p, _, rfl, Ky.put r2 s2.ek f3 (by rw [f5.length]; exact lt_line hl), n _ Kn2 _ ?_⟩
    exact s2.writeG hj rfl rfl (Ex.refl _) (upd_in s2.ek f2) (fun q hq _ => upd_ne hq) (fun _ _ h => h) ⟨_, upd_same, _, rfl, DK.put k (Rp.mono g2.kk r1) f5⟩
  · cases hx
/-- k in d -/
theorem ev_dinO {d : Dc κ β} (hi : sl[i]? = some (.at p)) (hj : ow[j]? = some (oo p d)) (hk : EV K F Kn0 sl ow tk k) : EV K F Kn0 sl ow (tDIn tk (tVar i)) (getD d.l k).isSome := fun σ Kn H s Q q => hk σ Kn H s _ fun v Kn1 H1 g1 r1 => by
  have s1 := s.grow g1
  obtain ⟨o, h1, h2⟩ := s1.sl.get hi
  obtain ⟨f1, f2, o1, f3, ws, f4, f5⟩ := s1.ow.each _ (List.mem_of_getElem? hj)
  subst f4
  exact ⟨.ref p, by rw [h1]; exact congrArg some h2, p, _, rfl, Ky.get r1 s1.ek f3, q _ Kn1 H1 g1 (congrArg V.bl (f5.some k))⟩
theorem ev_din {d : Dc κ β} (hd : EV K F Kn0 sl ow td d) (hk : EV K F Kn0 sl ow tk k) : EV K F Kn0 sl ow (tDIn tk td) (getD d.l k).isSome := fun σ Kn H s Q q => hk σ Kn H s _ fun v Kn1 H1 g1 r1 => hd σ Kn1 H1 (s.grow g1) _ fun u Kn2 H2 g2 r2 => by
  obtain ⟨p, o1, e1, e2, ws, f4, f5⟩ := r2
  subst f4
  exact ⟨p, _, e1, Ky.get (Rp.mono g2.kk r1) g2.kh (g2.kh _ _ e2), q _ Kn2 H2 (g1.trans g2) (congrArg V.bl (f5.some k))⟩
theorem ev_dnotinO {d : Dc κ β} (hi : sl[i]? = some (.at p)) (hj : ow[j]? = some (oo p d)) (hk : EV K F Kn0 sl ow tk k) : EV K F Kn0 sl ow (tDNotIn tk (tVar i)) (!(getD d.l k).isSome) := fun σ Kn H s Q q => hk σ Kn H s _ fun v Kn1 H1 g1 r1 => by
  have s1 := s.grow g1
  obtain ⟨o, h1, h2⟩ := s1.sl.get hi
  obtain ⟨f1, f2, o1, f3, ws, f4, f5⟩ := s1.ow.each _ (List.mem_of_getElem? hj)
  subst f4
  exact ⟨.ref p, by rw [h1]; exact congrArg some h2, p, _, rfl, Ky.get r1 s1.ek f3, q _ Kn1 H1 g1 (congrArg (fun b => V.bl (!b)) (f5.some k))⟩
theorem ev_dnotin {d : Dc κ β} (hd : EV K F Kn0 sl ow td d) (hk : EV K F Kn0 sl ow tk k) : EV K F Kn0 sl ow (tDNotIn tk td) (!(getD d.l k).isSome) := fun σ Kn H s Q q => hk σ Kn H s _ fun v Kn1 H1 g1 r1 => hd σ Kn1 H1 (s.grow g1) _ fun u Kn2 H2 g2 r2 => by
  obtain ⟨p, o1, e1, e2, ws, f4, f5⟩ := r2
  subst f4
  exact ⟨p, _, e1, Ky.get (Rp.mono g2.kk r1) g2.kh (g2.kh _ _ e2), q _ Kn2 H2 (g1.trans g2) (congrArg (fun b => V.bl (!b)) (f5.some k))⟩
/-- d[k] -/
theorem ev_dgetO {d : Dc κ β} {y : β} (hi : sl[i]? = some (.at p)) (hj : ow[j]? = some (oo p d)) (hk : EV K F Kn0 sl ow tk k) (hy : getD d.l k = some y) : EV K F Kn0 sl ow (tDGet (tVar i) tk) y := fun σ Kn H s Q q => by
  obtain ⟨o, h1, h2⟩ := s.sl.get hi
  refine ⟨.ref p, by rw [h1]; exact congrArg some h2, hk σ Kn H s _ fun v Kn1 H1 g1 r1 => ?_⟩
  have s1 := s.grow g1
  obtain ⟨f1, f2, o1, f3, ws, f4, f5⟩ := s1.ow.each _ (List.mem_of_getElem? hj)
  subst f4
  rcases f5.get k with ⟨h1, h2⟩ | ⟨y2, w, h1, h2, h3⟩
  · rw [h1] at hy
    cases hy
  · rw [h1] at hy
    cases hy
    exact ⟨p, w, rfl, h2 ▸ Ky.get r1 s1.ek f3, q w Kn1 H1 g1 h3⟩
theorem ev_dget {d : Dc κ β} {y : β} (hd : EV K F Kn0 sl ow td d) (hk : EV K F Kn0 sl ow tk k) (hy : getD d.l k = some y) : EV K F Kn0 sl ow (tDGet td tk) y := fun σ Kn H s Q q => hd σ Kn H s _ fun u Kn1 H1 g1 r1 => hk σ Kn1 H1 (s.grow g1) _ fun v Kn2 H2 g2 r2 => by
  obtain ⟨p, o1, e1, e2, ws, f4, f5⟩ := Rp.mono g2.kk r1
  subst f4
  rcases f5.get k with ⟨h1, h2⟩ | ⟨y2, w, h1, h2, h3⟩
  · rw [h1] at hy
    cases hy
  · rw [h1] at hy
    cases hy
    exact ⟨p, w, e1, h2 ▸ Ky.get r2 g2.kh (g2.kh _ _ e2), q w Kn2 H2 (g1.trans g2) h3⟩
/-- a dict of one's own, lent -/
theorem S.borrowG {σ : L2.St} {Kn H : Hp} {d : Dc κ β} (s : S K F Kn0 sl ow σ Kn H) (hi : sl[i]? = some (.at p)) (hj : ow[j]? = some (oo p d)) : ∃ o, Kn p = none ∧ H p = some o ∧ S K F Kn0 (sl.set i (sv d)) (ow.eraseIdx j) σ (upd Kn p o) H := by
  obtain ⟨o, h1, h2⟩ := s.sl.get hi
  have h2 : o = some (.ref p) := h2
  obtain ⟨f1, f2, ob, f3, f4⟩ := s.ow.each _ (List.mem_of_getElem? hj)
  have s1 := s.sub (List.eraseIdx_sublist ow j)
  have no : ∀ o ∈ ow.eraseIdx j, o.ad ≠ p := fun o hm z => by
    obtain ⟨m, hm'⟩ := List.getElem?_of_mem hm
    rw [List.getElem?_eraseIdx] at hm'
    split at hm'
    · have := ow_at s.ow.nd hm' hj z
      omega
    · have := ow_at s.ow.nd hm' hj z
      omega
  have s2 := s1.know (o := ob) f1 f2 no f3
  have hσ : σ.set i o = σ := by
    refine List.ext_getElem? fun m => ?_
    by_cases e : i = m
    · subst e
      rw [List.getElem?_set_self (List.getElem?_eq_some_iff.mp h1).1, h1]
    · rw [List.getElem?_set_ne e]
  have s3 := s2.set (x := sv d) (o := o) i ⟨.ref p, h2, p, ob, rfl, upd_same, Ob.mono (Ex.new f2) f4⟩
  rw [hσ] at s3
  exact ⟨ob, f2, f3, s3⟩
theorem ev_borG [Fl γ] {z : γ} {d : Dc κ β} (hi : sl[i]? = some (.at p)) (hj : ow[j]? = some (oo p d)) (hs : sl.set i (sv d) = sl') (ho : ow.eraseIdx j = ow1) (h : EV K F Kn0 sl' ow1 te z) : EV K F Kn0 sl ow te z := fun σ Kn H s Q q => by
  obtain ⟨ws, kp, hp, s1⟩ := s.borrowG hi hj
  subst hs
  subst ho
  exact h σ _ H s1 Q fun v Kn' H' g r => q v Kn H' ⟨Ex.refl _, g.hh, s.ek.trans g.hh, fun _ _ h => h⟩ (Fl.iff.mpr (Fl.iff.mp r))
theorem et_borG {tt : TT} {d : Dc κ β} (hi : sl[i]? = some (.at p)) (hj : ow[j]? = some (oo p d)) (hs : sl.set i (sv d) = sl') (ho : ow.eraseIdx j = ow1) (h : ET K F Kn0 sl' ow1 tt b) : ET K F Kn0 sl ow tt b := fun σ Kn H s Q q => by
  obtain ⟨ws, kp, hp, s1⟩ := s.borrowG hi hj
  subst hs
  subst ho
  exact h σ _ H s1 Q fun Kn' H' g => q Kn H' ⟨Ex.refl _, g.hh, s.ek.trans g.hh, fun _ _ h => h⟩
end
section
variable {X : Cx} {o i e value : Expr} {pos pos' tpos : Pos} {td ty tv : TE}
theorem k_dget (hu : X.A.units + 64 < cLine) (ho : PE X o td) (hi : PE X i ty) (hs : NoSl i) : PE X (.Subscript o i pos) (tDGet td ty) := pe_dget (by omega) ho hi hs
theorem k_din (hu : X.A.units + 64 < cLine) (hi : PE X i ty) (ho : PE X o td) : PC X .In i o (tDIn ty td) := pc_din (by omega) hi ho
theorem k_dnotin (hu : X.A.units + 64 < cLine) (hi : PE X i ty) (ho : PE X o td) : PC X .NotIn i o (tDNotIn ty td) := pc_dnotin (by omega) hi ho
theorem k_dput (hu : X.A.units + 64 < cLine) (ho : PE X o td) (hi : PE X i ty) (hv : PE X value tv) (hs : swapsWith value (some (.Subscript o i pos')) pos.line X.env = pure false) : PS X (.Assign [.Subscript o i pos'] value pos) (sDPut td ty tv) := ps_dput (by omega) ho hi hv hs
end
/-! ### a new list out of an operation with effects -/
section
variable {K : Fg} {F Kn0 : Hp} {sl : List Sl} {ow ow1 ow2 : List Ow} {α β γ : Type} [Rp α] [Rp β] [Rp γ] {ta tb : TE} {x : α} {y : β}
theorem enm_op {r : R2} {zs : List γ} (ha : EM K F Kn0 sl ow ta ow1 x) (hb : EM K F Kn0 sl ow1 tb ow2 y) (hr : R2L K r x y zs) : ENM K F Kn0 sl ow (tOp r ta tb) ow2 zs := fun σ Kn H s Q q =>
  ha σ Kn H s _ fun v Kn1 H1 e1 s1 r1 => hb σ Kn1 H1 s1 _ fun w Kn2 H2 e2 s2 r2 => hr Kn2 H2 v w s2.ek (Rp.mono e2 r1) r2 Q fun p ws Kn' H' g' hp kp hw r' =>
    q p ws Kn' H' ((e1.trans e2).trans g'.kk) (s2.grow g') (fresh_back s2.ef hp) kp (owned_ne s2 hp) hw r'
end
/-! ### a display -/
section
variable {K : Fg} {F Kn0 : Hp} {sl : List Sl} {ow : List Ow} {κ β : Type} [Rp κ] [K1 κ] [DecidableEq κ] [Rp β] {tk tv : TE} {k : κ} {y : β} {trs : List (TE × TE)} {kvs : List (κ × β)}
def EPs (K : Fg) (F Kn0 : Hp) (sl : List Sl) (ow : List Ow) (trs : List (TE × TE)) (kvs : List (κ × β)) : Prop := ∀ σ Kn H, S K F Kn0 sl ow σ Kn H → ∀ Q : List (V × V) → Hp → Prop,
  (∀ ws Kn' H', Gr Kn H Kn' H' → DK K Kn' ws kvs → Q (ws.map fun w => (kV w.1, w.2)) H') → tPairs trs σ H Q
theorem eps_nil : EPs K F Kn0 sl ow [] ([] : List (κ × β)) := fun σ Kn H s Q q => q [] Kn H (Gr.refl s.ek) .nil
theorem eps_cons (hk : EV K F Kn0 sl ow tk k) (hv : EV K F Kn0 sl ow tv y) (hr : EPs K F Kn0 sl ow trs kvs) : EPs K F Kn0 sl ow ((tk, tv) :: trs) ((k, y) :: kvs) := fun σ Kn H s Q q =>
  hk σ Kn H s _ fun v Kn1 H1 g1 r1 => hv σ Kn1 H1 (s.grow g1) _ fun w Kn2 H2 g2 r2 => hr σ Kn2 H2 ((s.grow g1).grow g2) _ fun ws Kn3 H3 g3 r3 => by
    have e := K1.iff r1
    subst e
    exact q ((K1.key k, w) :: ws) Kn3 H3 ((g1.trans g2).trans g3) (.cons ⟨rfl, Rp.mono g3.kk r2⟩ r3)
theorem DK.merge {K : Fg} {H : Hp} : ∀ {ms : List (Key × V)} {more : List (κ × β)} {ws : List (Key × V)} {kvs : List (κ × β)}, DK K H ms more → DK K H ws kvs → DK K H (mergeK ws ms) (mergeD kvs more) := by
  intro ms more ws kvs h
  unfold DK at h
  induction h generalizing ws kvs with
  | nil => exact fun h => h
  | @cons w kv ms more h t ih =>
    intro q
    refine ih ?_
    show DK K H (putK ws w.1 w.2) (putD kvs kv.1 kv.2)
    rw [h.1]
    exact DK.put kv.1 h.2 q
/-- {..}[k] -/
theorem ev_pick (hp : EPs K F Kn0 sl ow trs kvs) (hk : EV K F Kn0 sl ow tk k) (hl : kvs.length ≤ 15) (hy : getD (mergeD [] kvs) k = some y) : EV K F Kn0 sl ow (tDGet (tDisp trs) tk) y := fun σ Kn H s Q q p hp0 => by
  have g0 : Gr Kn H Kn (upd H p (.dK [])) := Gr.newU s.ek hp0
  refine hp σ Kn _ (s.grow g0) _ fun ws Kn1 H1 g1 r1 => ?_
  have e1 : H1 p = some (.dK []) := g1.hh _ _ upd_same
  have kp : Kn1 p = none := g1.sp p (ne_none_of upd_same) (fresh_back s.ek hp0)
  have g : Gr Kn H Kn1 (upd H1 p (.dK (mergeK [] ws))) := ⟨g1.kk, fun a u h => by
    have hne : a ≠ p := fun z => by rw [z, hp0] at h; cases h
    rw [upd_ne hne]
    exact g1.hh _ _ (by rw [upd_ne hne]; exact h), upd_in g1.kh kp, fun a h1 h2 => g1.sp a (Ex.nn g0.hh h1) h2⟩
  refine ⟨e1, ws, rfl, by rw [r1.length]; exact hl, hk σ Kn1 _ (s.grow g) _ fun v Kn2 H2 g2 r2 => ?_⟩
  have r3 : DK K Kn1 (mergeK [] ws) (mergeD [] kvs) := DK.merge r1 .nil
  rcases r3.get k with ⟨h1, h2⟩ | ⟨y2, w, h1, h2, h3⟩
  · rw [h1] at hy
    cases hy
  · rw [h1] at hy
    cases hy
    exact ⟨p, w, rfl, h2 ▸ Ky.get r2 g2.kh (g2.hh _ _ upd_same), q w Kn2 H2 (g.trans g2) (Rp.mono g2.kk h3)⟩
end
end Wk
/-! Wsort: sorted of a list of alike data (numbers, texts, tuples of these); sorted of a dict's keys; xs[::-1] -/
namespace L2
open PySem PySem.Spec PyProof.Rows
/-- sorted(xs), xs a list of alike data -/
def rSortedD (K : PySem.W.Frag) : List V → Hp → VK → Prop := fun vs H Q => ∃ (a : Addr) (bs : List (V × PyData)), vs = [V.ref a] ∧ SqL K H a (bs.map (·.1)) ∧ (∀ b ∈ bs, Dp K H b.1 b.2) ∧ PySem.W.AllAlike (bs.map (·.2)) ∧ PySem.W.Sortable (bs.map (·.2)) ∧ bs.length ≤ 1000000 ∧ (∀ b ∈ bs, b.2.depth ≤ 60) ∧
  ∀ p, H p = none → Q (.ref p) (upd H p (.lst ((bs.mergeSort (PySem.W.dataLe false (fun b : V × PyData => b.2))).map (·.1))))
theorem each_vals : ∀ {bs : List (V × PyData)} {us : List Value}, Vals (bs.map (·.1)) us → PySem.W.EachIs (fun v (b : V × PyData) => RelV b.1 v) us bs
  | [], _, h => by
    have h' : Vals [] _ := h
    cases h'
    exact .nil
  | b :: bs, _, h => by
    have h' : Vals (b.1 :: bs.map (·.1)) _ := h
    cases h' with
    | cons r t => exact .cons r (each_vals t)
theorem vals_each : ∀ {bs : List (V × PyData)} {us : List Value}, PySem.W.EachIs (fun v (b : V × PyData) => RelV b.1 v) us bs → Vals (bs.map (·.1)) us
  | _, _, .nil => .nil
  | _, _, .cons r t => .cons r (vals_each t)
theorem each_reads {X : Cx} {pins : List (Addr × Obj)} {σ : St} {H : Hp} {s : Shared} (I : Inv X pins σ H s) : ∀ {bs : List (V × PyData)} {us : List Value}, (∀ b ∈ bs, Dp X.K H b.1 b.2) → PySem.W.EachIs (fun v (b : V × PyData) => RelV b.1 v) us bs → PySem.W.EachIs (fun v (b : V × PyData) => ∃ as, Reads s.heap v b.2 as) us bs
  | _, _, _, .nil => .nil
  | _, _, h, .cons r t => .cons (Dp.reads I _ _ _ (h _ List.mem_cons_self) r) (each_reads I (fun b hb => h b (List.mem_cons_of_mem _ hb)) t)
theorem cr_sortedD {X : Cx} (hu : X.A.units + 64 < cLine) : CallR X (.builtin "sorted") (rSortedD X.K) := by
  intro pins s σ H vs us Q I r h
  obtain ⟨a, bs, rfl, hs, hd, hal, hk, hL, hdp, q⟩ := h
  obtain ⟨its, rv, hl, hz⟩ := I.list hs
  rw [Vals.ref1 r]
  have e := each_vals rv
  have hL' : bs.length ≤ sizeLine := Nat.le_trans hL (by decide)
  refine PySem.W.sorted_data (vs := its) (enc := fun b : V × PyData => b.2) hl.isList e (each_reads I hd e) hal hk hL' (fun b hb => by have := hdp b hb; omega) fun out ho eo => ?_
  obtain ⟨ep, he'⟩ := PyProof.Rows.sortedAll_at s.heap its out.toArray
  have hlen : ((bs.mergeSort (PySem.W.dataLe false (fun b : V × PyData => b.2))).map (·.1)).length ≤ sizeLine := by
    rw [List.length_map, List.length_mergeSort]
    exact hL'
  exact ⟨.ref _, upd H (s.heap.objs.size + 1) (.lst _), I.laid (t' := s.toks) (fun _ _ => PyProof.Rows.sortedAll_old) (Nat.le_succ _) ⟨hlen, out, ep, vals_each eo, he'⟩, rfl, q _ (I.hok.fresh (Nat.le_succ _))⟩
end L2
namespace Wk
open PySem PySem.Spec L2 Evl
/-- alike, one with the other -/
class Al (α : Type) [Rp α] [Pd α] : Prop where
  al : ∀ a b : α, PySem.W.alike (Pd.toD a) (Pd.toD b) = true
class Als (τ : Type) [Tp τ] [Pq τ] : Prop where
  al : ∀ a b : τ, PySem.W.alikeAll (Pq.toDs a) (Pq.toDs b) = true
class So (α : Type) [Rp α] [Pd α] : Prop where
  so : (∀ a : α, ∃ x r, Pd.toD a = .tuple (x :: r)) ∨ ∀ a : α, Pd.toD a ≠ .none ∧ ∀ xs, Pd.toD a ≠ .tuple xs
instance : Al Int := ⟨fun _ _ => rfl⟩
instance : Al Str := ⟨fun _ _ => rfl⟩
instance : Al Bool := ⟨fun _ _ => rfl⟩
instance : Als Unit := ⟨fun _ _ => rfl⟩
instance {α τ : Type} [Rp α] [Tp τ] [Pd α] [Pq τ] [Al α] [Als τ] : Als (α × τ) := ⟨fun a b => by
  show PySem.W.alikeAll (Pd.toD a.1 :: Pq.toDs a.2) (Pd.toD b.1 :: Pq.toDs b.2) = true
  rw [PySem.W.alikeAll, Al.al, Als.al]
  rfl⟩
instance {α τ : Type} [Rp α] [Tp τ] [Pd α] [Pq τ] [Al α] [Als τ] : Al (α × τ) := ⟨fun a b => by
  show PySem.W.alike (.tuple (Pq.toDs a)) (.tuple (Pq.toDs b)) = true
  rw [PySem.W.alike, Als.al]⟩
instance : So Int := ⟨.inr fun a => ⟨(fun h => nomatch h), (fun _ h => nomatch h)⟩⟩
instance : So Str := ⟨.inr fun a => ⟨(fun h => nomatch h), (fun _ h => nomatch h)⟩⟩
instance : So Bool := ⟨.inr fun a => ⟨(fun h => nomatch h), (fun _ h => nomatch h)⟩⟩
instance {α τ : Type} [Rp α] [Tp τ] [Pd α] [Pq τ] : So (α × τ) := ⟨.inl fun a => ⟨_, _, rfl⟩⟩
def leD {α : Type} [Rp α] [Pd α] (a b : α) : Bool := PySem.W.dataLe false (fun c : α => Pd.toD c) a b
def srtD {α : Type} [Rp α] [Pd α] (xs : List α) : List α := xs.mergeSort leD
def srtDO {α : Type} [Rp α] [Pd α] (xs : List α) : Option (List α) := if xs.length ≤ 1000000 ∧ Pd.dp α ≤ 60 then some (srtD xs) else none
theorem paired_zip {α β : Type} {R : α → β → Prop} : ∀ {vs : List α} {xs : List β}, Paired R vs xs → ∃ ps : List (α × β), ps.map (·.1) = vs ∧ ps.map (·.2) = xs ∧ ∀ c ∈ ps, R c.1 c.2
  | _, _, .nil => ⟨[], rfl, rfl, (fun _ h => nomatch h)⟩
  | _, _, .cons r t => by
    obtain ⟨ps, h1, h2, h3⟩ := paired_zip t
    refine ⟨(_, _) :: ps, by rw [List.map_cons, h1], by rw [List.map_cons, h2], fun c hc => ?_⟩
    rcases List.mem_cons.mp hc with rfl | hc
    · exact r
    · exact h3 c hc
theorem zip_paired {α β : Type} {R : α → β → Prop} : ∀ {ps : List (α × β)}, (∀ c ∈ ps, R c.1 c.2) → Paired R (ps.map (·.1)) (ps.map (·.2))
  | [], _ => .nil
  | c :: ps, h => .cons (h c List.mem_cons_self) (zip_paired fun d hd => h d (List.mem_cons_of_mem _ hd))
section
variable {K : Fg} {F Kn0 : Hp} {sl sl' : List Sl} {ow ow1 : List Ow} {α β γ : Type} [Rp α] [Rp β] [Rp γ] {te : TE} {i j : Nat} {p : Addr}
theorem rc_sortD {α : Type} [Rp α] [Pd α] [Al α] [So α] {xs zs : List α} (h : srtDO xs = some zs) : RCL K (rSortedD K) (xs, ()) zs := fun Kn H vs ek hv Q q => by
  unfold srtDO at h
  split at h
  case isFalse => cases h
  rename_i hl
  cases h
  obtain ⟨v, rfl, l, ws, rfl, h1, h2⟩ := one_arg hv
  obtain ⟨ps, e1, e2, e3⟩ := paired_zip h2
  have eb1 : (ps.map fun c => ((c.1, Pd.toD c.2) : V × PyData)).map (·.1) = ws := by
    rw [List.map_map, ← e1]
    rfl
  have lp : ps.length = xs.length := by rw [← e2, List.length_map]
  refine ⟨l, ps.map fun c => (c.1, Pd.toD c.2), rfl, by rw [eb1]; exact sq_of (ek _ _ h1), fun b hb => ?_, ?_, ?_, by rw [List.length_map, lp]; exact hl.1, fun b hb => ?_, fun p hp => ?_⟩
  · obtain ⟨c, hc, rfl⟩ := List.mem_map.mp hb
    exact Pd.isD (Rp.mono ek (e3 c hc))
  · rw [List.map_map]
    exact PySem.W.AllAlike.of fun a b => Al.al _ _
  · rw [List.map_map]
    rcases (So.so : _ ∨ ∀ a : α, _) with h | h
    · exact PySem.W.Sortable.tuples fun c => h _
    · exact PySem.W.Sortable.others fun c => h _
  · obtain ⟨c, hc, rfl⟩ := List.mem_map.mp hb
    exact Nat.le_trans (Pd.dep _) hl.2
  · have m1 : (ps.mergeSort fun a b => leD a.2 b.2).map (fun c => ((c.1, Pd.toD c.2) : V × PyData)) = (ps.map fun c => ((c.1, Pd.toD c.2) : V × PyData)).mergeSort (PySem.W.dataLe false (fun b : V × PyData => b.2)) := List.map_mergeSort fun a _ b _ => rfl
    have m2 : (ps.mergeSort fun a b => leD a.2 b.2).map (·.2) = srtD xs := by
      unfold srtD
      rw [← e2]
      exact List.map_mergeSort fun a _ b _ => rfl
    rw [← m1, List.map_map]
    refine q p _ Kn _ (Gr.newU ek hp) hp (fresh_back ek hp) upd_same ?_
    rw [← m2]
    exact zip_paired fun c hc => e3 c ((List.mergeSort_perm _ _).mem_iff.mp hc)
theorem en_rev {xs : List α} (h : EV K F Kn0 sl ow te xs) : EN K F Kn0 sl ow (tRevL K te) xs.reverse := fun σ Kn H s Q q => h σ Kn H s _ fun v Kn1 H1 g1 r1 => by
  obtain ⟨p, ws, rfl, h3, h4⟩ := r1
  refine ⟨p, ws, rfl, sq_of (g1.kh _ _ h3), fun l hl => q l _ Kn1 _ (g1.trans (Gr.newU g1.kh hl)) (fresh_back g1.hh hl) (fresh_back g1.kh hl) upd_same ?_⟩
  obtain ⟨ps, e1, e2, e3⟩ := paired_zip h4
  rw [← e1, ← e2, ← List.map_reverse, ← List.map_reverse]
  exact zip_paired fun c hc => e3 c (List.mem_reverse.mp hc)
theorem k_sortedD {X : Cx} (hu : X.A.units + 64 < cLine) (h : X.K = K := by rfl) : CallR X (.builtin "sorted") (rSortedD K) := h ▸ cr_sortedD hu
theorem k_revL {X : Cx} {e : Expr} {te : TE} {k : Nat} {p1 p2 p3 pos : Pos} (he : PE X e te) (h : X.K = K := by rfl) : PE X (.Subscript e (.Slice none none (some (.UnaryOp .USub (.Constant (.int 1) k p1) p2)) p3) pos) (tRevL K te) := h ▸ pe_revL he
/-- sorted(d), d a dict with text keys -/
def rSortedK : List V → Hp → VK → Prop := fun xs H Q => ∃ (a : Addr) (kvs : List (Key × V)) (ks : List Str), xs = [.ref a] ∧ Rd H a (.dK kvs) ∧ kvs.map (·.1) = ks.map Sum.inr ∧ ks.length < 64 ∧ ∀ ys p, ys.Perm ks → PyProof.Rows.sortedS ys = true → H p = none → Q (.ref p) (upd H p (.lst (ys.map V.str)))
theorem k_sortedK {X : Cx} (hc : X.calm = true := by rfl) : CallR X (.builtin "sorted") rSortedK := call_sortedD hc
end
end Wk
/-! Wdeal: sum(d.values()), divmod, d[k] += c, xs[i] += c, str(n), zfill, a dict of one's own told -/
namespace L2
open PySem PySem.Spec PyProof.Rows
section
variable {X : Cx}
theorem get_list : PGet X (rIxL X.K) := by
  intro pins s σ H x y v u Q I rx ry h
  obtain ⟨p, xs, i, z, rfl, rfl, hq, he, q⟩ := h
  cases rx
  obtain ⟨t, rfl⟩ := ry
  obtain ⟨its, r, pl, hz⟩ := I.list hq
  obtain ⟨j, h1, h2, h3, h4, h5⟩ := atI_get he
  obtain ⟨w, ew, rw'⟩ := r.get h2
  have hl := r.length
  have hn := line63
  have fin : EP X pins σ Q w s := ⟨z, H, I, rw', q⟩
  by_cases h0 : 0 ≤ i
  · have hj : i.toNat = j := by
      rw [seqIndex_of h0 h5] at h1
      exact Option.some.inj h1
    exact wpAny_getItem_list pl.isList h0 (by omega) (by rw [hj]; simpa using ew) fin
  · have hj : (i + (its.toArray.size : Int)).toNat = j := by
      rw [seqIndex_neg (by omega) h4] at h1
      rw [List.size_toArray, ← hl]
      exact Option.some.inj h1
    exact wpAny_getItem_list_neg pl.isList (by omega) (by rw [List.size_toArray] <;> omega) (by omega) (by rw [hj]; simpa using ew) fin
/-- sum(o.values()), a dict with int values -/
def tSumVals (td : TE) : TE := fun σ H Q => td σ H fun x H1 => ∃ (a : Addr) (kvs : List (Key × V)) (is : List Int), x = V.ref a ∧ H1 a = some (.dK kvs) ∧ kvs.map (·.2) = is.map V.int ∧ Q (.int is.sum) H1
theorem pre_sum (is : List Int) : ∀ n : Nat, n ≤ is.length → preSum (fun i => is.getD i 0) n = (is.take n).sum
  | 0, _ => rfl
  | n + 1, h => by
    have ih := pre_sum is n (by omega)
    show preSum (fun i => is.getD i 0) n + is.getD n 0 = _
    rw [ih, List.take_succ, List.sum_append, List.getD_eq_getElem?_getD, List.getElem?_eq_getElem (show n < is.length by omega)]
    simp
variable {o : Expr} {p pos apos mpos : Pos} {td : TE}
theorem pe_sumVals (hc : X.calm = true) (hg : Gl X "sum") (hm : X.mg "sum" = none) (hd : PE X o td) (hbase : attributeBase o "values" X.env (eval o X.env) = eval o X.env := by rfl) (hline : (apos.endLine == mpos.line) = true := by rfl)
    (hse : starEach [Expr.Call (.Attribute o "values" apos) [] [] mpos] X.env = [(false, eval (Expr.Call (.Attribute o "values" apos) [] [] mpos) X.env)] := by rfl) :
    PE X (.Call (.Name "sum" p) [.Call (.Attribute o "values" apos) [] [] mpos] [] pos) (tSumVals td) := by
  refine ⟨fun pins s σ H Q I h => ?_⟩
  refine wpAny_Call_Name_kw (ld_blt I hg hm (u := .builtin "sum") (by first | rfl | decide +kernel) ?_ (by first | decide +kernel | decide) (by first | decide +kernel | decide))
  rw [hse]
  refine PySem.callWith_builtin1 (wpAny_Call_method0_late hbase hline (thn (hd.run pins s σ H _ I h) fun v s1 ⟨x, H1, I1, r1, a, kvs, is, ex, ha, hv, q⟩ => ?_))
  subst ex
  obtain rfl : v = Value.ref a := r1
  obtain ⟨_, hsys, vs, rel, dof⟩ := dk_of I1.hok ha
  obtain ⟨ep, dat⟩ := dof.dictAt
  have dat' := dat
  obtain ⟨ob, es, ho, ex, hdat, hko, hpr, hnd⟩ := dat'
  refine ⟨"dict", "dict.values", F.plainAttrs_dict, F.slot_dict_values, F.type_dict_values, ⟨ob, ho, ex.1⟩, fun b e => ?_, Calls.callWith_builtin rfl (PySem.evalArgs_none ?_)⟩
  · cases e
    exact ⟨ob, ho, ex.2.1⟩
  refine call_meetsIn F.slot_dict_values ⟨ob, ho, ex.1⟩ F.entry_dict_values (F.args_dict_values_1 _) (meets_dict_values (mixKind X.prog X.w) a hsys) ⟨⟨vs, dof⟩, ?_⟩
  have k1 : ∀ b u, s1.heap.get? b = some u → (s1.heap.push { cls := .type "dict_values", data := .fields #[.ref a] }).get? b = some u := fun b u e => Heap.get?_push_of_some _ e
  have dat1 : (s1.heap.push { cls := .type "dict_values", data := .fields #[.ref a] }).DictAt (mixKind X.prog X.w) a vs ep := dat.keep k1
  have hlv : vs.length = is.length := by
    have e1 := congrArg List.length hv
    rw [List.length_map, List.length_map] at e1
    rw [← e1]
    exact (KV.length rel).symm
  have hval : ∀ (i : Nat) (v : Value), (∃ k, vs[i]? = some (k, v)) → ∃ t, v = Value.int (is.getD i 0) t := fun i v ⟨k, hk⟩ => by
    obtain ⟨x, h1, h2⟩ := KV.at' rel hk
    have e1 : (kvs.map (·.2))[i]? = some x := by rw [List.getElem?_map, h1] <;> rfl
    rw [hv, List.getElem?_map] at e1
    obtain ⟨j, hj, e2⟩ := Option.map_eq_some_iff.mp e1
    subst e2
    obtain ⟨t, e3⟩ := h2
    refine ⟨t, ?_⟩
    rw [e3, List.getD_eq_getElem?_getD, hj] <;> rfl
  refine PySem.call_sum_walkAnyS (wpAny_pyIter_values (v := s1.heap.objs.size) (d := a) ⟨_, Heap.get?_push_size _ rfl, rfl, rfl⟩ dat1 ?_)
  have hlt : a < s1.heap.objs.size := Heap.lt_size ho
  have hsz : (s1.heap.push { cls := .type "dict_values", data := .fields #[.ref a] }).objs.size = s1.heap.objs.size + 1 := Heap.size_push _ _
  refine ⟨_, _, _, _, _, _, _, _, rfl, (Walks.dictValues (knd := mixKind X.prog X.w) (A := X.A.in1) (I.ok.hd hc) (s1.heap.push { cls := .type "dict_values", data := .fields #[.ref a] }).objs.size a (by rw [hsz]; exact Nat.ne_of_lt (Nat.lt_succ_of_lt hlt)) vs ep).toS,
    ⟨⟨_, Heap.get?_push_size _ rfl, rfl, rfl⟩, dat1.keep fun b u e => Heap.get?_push_of_some _ e⟩, fun b hb => ?_, hval, fun s' t' hmv => ?_⟩
  · show b < ((s1.heap.push _).push _).objs.size
    rw [Heap.size_push, Heap.size_push]
    rw [hsz] at hb
    rcases List.mem_cons.mp hb with e | hb
    · rw [e]
      exact Nat.lt_succ_self _
    · have e : b = a := List.mem_singleton.mp hb
      rw [e]
      exact Nat.lt_succ_of_lt (Nat.lt_succ_of_lt hlt)
  · have hk : ∀ b u, s1.heap.get? b = some u → s'.heap.get? b = some u := fun b u e => hmv.heap b u (fun hmem => by
      have e1 : b = (s1.heap.push { cls := .type "dict_values", data := .fields #[.ref a] }).objs.size := List.mem_singleton.mp hmem
      have e2 := Heap.lt_size e
      rw [hsz] at e1
      rw [e1] at e2
      exact absurd e2 (Nat.not_lt.mpr (Nat.le_succ _))) (Heap.get?_push_of_some _ (k1 b u e))
    rw [Moved.eq_with hmv]
    have es : preSum (fun i => is.getD i 0) vs.length = is.sum := by
      rw [pre_sum is _ (by omega), hlv, List.take_length]
    refine ⟨.int is.sum, H1, I1.kept (t' := s'.toks) hk, ⟨t', ?_⟩, q⟩
    rw [es]
end
end L2
namespace Wk
open PySem PySem.Spec L2 Evl
theorem leD_total {α : Type} [Rp α] [Pd α] : PySem.W.TotalLe (leD (α := α)) := by
  have h : PySem.W.TotalLe (PySem.W.dataLe false (fun c : α => Pd.toD c)) := by
    unfold PySem.W.dataLe
    exact PySem.W.sortLe_total _ _ _
  exact ⟨fun a b c => h.trans a b c, fun a b => h.total a b⟩
/-- neither less than the other: the same -/
class Ti (α : Type) [Rp α] [Pd α] : Prop where
  ti : ∀ {a b : α}, PySem.W.dataLt (Pd.toD a) (Pd.toD b) = false → PySem.W.dataLt (Pd.toD b) (Pd.toD a) = false → a = b
class Tis (τ : Type) [Tp τ] [Pq τ] : Prop where
  ti : ∀ {a b : τ}, PySem.W.rowLt (Pq.toDs a) (Pq.toDs b) = false → PySem.W.rowLt (Pq.toDs b) (Pq.toDs a) = false → a = b
instance : Ti Int := ⟨fun {a b} h1 h2 => by
  have h1 : PySem.W.dataLt (.int a) (.int b) = false := h1
  have h2 : PySem.W.dataLt (.int b) (.int a) = false := h2
  rw [PySem.W.dataLt_int, decide_eq_false_iff_not] at h1 h2
  omega⟩
instance : Ti Str := ⟨fun {a b} h1 h2 => by
  have h1 : PySem.W.dataLt (.str a) (.str b) = false := h1
  have h2 : PySem.W.dataLt (.str b) (.str a) = false := h2
  rw [PySem.W.dataLt_str, decide_eq_false_iff_not] at h1 h2
  refine PySem.W.str_of_cps ?_
  exact List.le_antisymm (List.not_lt.mp h2) (List.not_lt.mp h1)⟩
instance : Tis Unit := ⟨fun _ _ => rfl⟩
instance {α τ : Type} [Rp α] [Tp τ] [Pd α] [Pq τ] [Al α] [Ti α] [Tis τ] : Tis (α × τ) := ⟨fun {a b} h1 h2 => by
  have h1 : PySem.W.rowLt (Pd.toD a.1 :: Pq.toDs a.2) (Pd.toD b.1 :: Pq.toDs b.2) = false := h1
  have h2 : PySem.W.rowLt (Pd.toD b.1 :: Pq.toDs b.2) (Pd.toD a.1 :: Pq.toDs a.2) = false := h2
  unfold PySem.W.rowLt at h1 h2
  rw [PySem.W.dataLt_cons (Al.al _ _)] at h1 h2
  by_cases e : a.1 = b.1
  · have e1 : PyData.eqv (Pd.toD a.1) (Pd.toD b.1) = true := (Pd.eqd _ _).mpr e
    have e2 : PyData.eqv (Pd.toD b.1) (Pd.toD a.1) = true := (Pd.eqd _ _).mpr e.symm
    rw [if_pos e1] at h1
    rw [if_pos e2] at h2
    exact Prod.ext e (Tis.ti h1 h2)
  · rw [if_neg (fun z => e ((Pd.eqd _ _).mp z))] at h1
    rw [if_neg (fun z => e ((Pd.eqd _ _).mp z).symm)] at h2
    exact absurd (Ti.ti h1 h2) e⟩
instance {α τ : Type} [Rp α] [Tp τ] [Pd α] [Pq τ] [Al α] [Ti α] [Tis τ] : Ti (α × τ) := ⟨fun {a b} h1 h2 => by
  have h1 : PySem.W.dataLt (.tuple (Pq.toDs a)) (.tuple (Pq.toDs b)) = false := h1
  have h2 : PySem.W.dataLt (.tuple (Pq.toDs b)) (.tuple (Pq.toDs a)) = false := h2
  rw [PySem.W.dataLt_tuple] at h1 h2
  exact Tis.ti (τ := α × τ) h1 h2⟩
theorem leD_anti {α : Type} [Rp α] [Pd α] [Ti α] {a b : α} (h1 : leD a b = true) (h2 : leD b a = true) : a = b := by
  have h1 : (!PySem.W.dataLt (Pd.toD b) (Pd.toD a)) = true := h1
  have h2 : (!PySem.W.dataLt (Pd.toD a) (Pd.toD b)) = true := h2
  rw [Bool.not_eq_true'] at h1 h2
  exact Ti.ti h2 h1
theorem srtD_perm {α : Type} [Rp α] [Pd α] (xs : List α) : (srtD xs).Perm xs := List.mergeSort_perm xs _
theorem srtD_pw {α : Type} [Rp α] [Pd α] (xs : List α) : (srtD xs).Pairwise (fun a b => leD a b = true) := List.pairwise_mergeSort (fun a b c => leD_total.trans a b c) (fun a b => by have := leD_total.total a b; simpa using this) xs
theorem srtD_one {α : Type} [Rp α] [Pd α] [Ti α] {xs ys : List α} (p : ys.Perm xs) (s : ys.Pairwise (fun a b => leD a b = true)) : ys = srtD xs :=
  List.Perm.eq_of_pairwise (le := fun a b : α => leD a b = true) (fun a b _ _ h1 h2 => leD_anti h1 h2) s (srtD_pw xs) (p.trans (srtD_perm xs).symm)
theorem leD_str (a b : Str) : leD a b = decide (a.cps.toList ≤ b.cps.toList) := by
  have := congrFun (congrFun (PySem.W.dataLe_str (fun c : Str => c)) a) b
  exact this
theorem sortedS_pw : ∀ (ys : List Str), PyProof.Rows.sortedS ys = true → ys.Pairwise (fun a b => leD a b = true) := by
  have key : ∀ (ys : List Str) (p : Str), PyProof.Rows.risingS p ys = true → (p :: ys).Pairwise (fun a b => leD a b = true) := by
    intro ys
    induction ys with
    | nil => exact fun p _ => List.pairwise_singleton _ _
    | cons y ys ih =>
      intro p h
      have h : (!ltCps y.cps.toList p.cps.toList && PyProof.Rows.risingS y ys) = true := h
      rw [Bool.and_eq_true] at h
      have h2 := ih y h.2
      have h1 : leD p y = true := by
        rw [leD_str, decide_eq_true_eq]
        have := h.1
        rw [PyProof.Rows.ltCps_eq, Bool.not_eq_true', decide_eq_false_iff_not] at this
        exact List.not_lt.mp this
      refine List.pairwise_cons.mpr ⟨fun z hz => ?_, h2⟩
      rcases List.mem_cons.mp hz with rfl | hz
      · exact h1
      · exact leD_total.trans _ _ _ h1 ((List.pairwise_cons.mp h2).1 z hz)
  intro ys h
  match ys, h with
  | [], _ => exact List.Pairwise.nil
  | y :: ys, h => exact key ys y h
/-! rules -/
def skO {β : Type} (d : Dc Str β) : Option (List Str) := if d.l.length < 64 then some (srtD (d.l.map (·.1))) else none
def dmO (a b : Int) : Option (Int × Int × Unit) := if 0 < b ∧ b < 1073741824 then some (a / b, a % b, ()) else none
def strIO (n : Int) : Option Str := if n.natAbs.log2 < 1920 then some ((toString n : String) : Str) else none
def zfO (s : Str) (n : Int) : Option Str := if PadOk n = true then some (Txt.zfill s n) else none
section
variable {K : Fg} {F Kn0 : Hp} {sl sl' : List Sl} {ow ow1 ow2 : List Ow} {α β γ τ : Type} [Rp α] [Rp β] [Rp γ] [Tp τ] {ta : TA} {ta1 tb te ti tk : TE} {D : Ends} {t : TS} {i j : Nat} {p : Addr}
theorem ev_sumVals {d : Dc Str Int} (h : EV K F Kn0 sl ow te d) : EV K F Kn0 sl ow (tSumVals te) (d.l.map (·.2)).sum := fun σ Kn H s Q q => h σ Kn H s _ fun v Kn1 H1 g1 r1 => by
  obtain ⟨p, o, rfl, h3, ws, rfl, h4⟩ := r1
  refine ⟨p, ws, d.l.map (·.2), rfl, g1.kh _ _ h3, ?_, q _ Kn1 H1 g1 rfl⟩
  unfold DK at h4
  clear h3 q h
  generalize d.l = kvs at h4
  induction h4 with
  | nil => rfl
  | cons r _ ih =>
    rw [List.map_cons, List.map_cons, List.map_cons, ih]
    congr 1
    exact r.2
theorem dk_keys {H : Hp} {ws : List (Key × V)} {kvs : List (Str × β)} (h : DK K H ws kvs) : ws.map (·.1) = (kvs.map (·.1)).map Sum.inr := by
  unfold DK at h
  induction h with
  | nil => rfl
  | cons r _ ih =>
    rw [List.map_cons, List.map_cons, List.map_cons, ih]
    congr 1
    exact r.1
theorem sk_fin {d : Dc Str β} {zs : List Str} (hz : skO d = some zs) {Kn H : Hp} {p : Addr} {ws : List (Key × V)} (ek : Ex Kn H) (hp : H p = some (.dK ws)) (h4 : DK K Kn ws d.l) {Q : VK} (q : RL K Kn H Q zs) : rSortedK [.ref p] H Q := by
  unfold skO at hz
  split at hz
  case isFalse => cases hz
  rename_i hl
  cases hz
  refine ⟨p, ws, d.l.map (·.1), rfl, Rd.of hp, dk_keys h4, by rw [List.length_map]; exact hl, fun ys l pm so hl2 => ?_⟩
  have e := srtD_one pm (sortedS_pw ys so)
  subst e
  exact q l _ Kn _ (Gr.newU ek hl2) hl2 (fresh_back ek hl2) upd_same (fl_paired _)
theorem rc_sortK {d : Dc Str β} {zs : List Str} (hz : skO d = some zs) : RCL K rSortedK (d, ()) zs := fun Kn H vs ek hv Q q => by
  obtain ⟨v, rfl, l, o, rfl, h1, ws, rfl, h2⟩ := one_arg hv
  exact sk_fin hz ek (ek _ _ h1) h2 q
theorem en_sortKO {d : Dc Str β} {zs : List Str} (hi : sl[i]? = some (.at p)) (hj : ow[j]? = some (oo p d)) (hz : skO d = some zs) : EN K F Kn0 sl ow (tCB rSortedK (tCons (tVar i) tNil)) zs := fun σ Kn H s Q q => by
  obtain ⟨o, h1, h2⟩ := s.sl.get hi
  obtain ⟨f1, f2, ob, f3, ws, f4, f5⟩ := s.ow.each _ (List.mem_of_getElem? hj)
  subst f4
  exact ⟨.ref p, by rw [h1]; exact congrArg some h2, sk_fin hz s.ek f3 f5 q⟩
theorem rc_divmod {a b : Int} {r : Int × Int × Unit} (h : dmO a b = some r) : RCV K (fun xs H Q => ∃ i j, xs = [.int i, .int j] ∧ CDiv i j ∧ ∀ p, H p = none → Q (.ref p) (upd H p (.tup [.int (i / j), .int (i % j)]))) (a, b, ()) r := fun Kn H vs ek hv Q q => by
  obtain ⟨v, w, rfl, h1, h2⟩ := two_args hv
  cases h1
  cases h2
  unfold dmO at h
  split at h
  case isFalse => cases h
  rename_i hb
  cases h
  exact ⟨a, b, rfl, hb, fun p hp => q _ _ _ (Gr.new ek hp) ⟨p, _, rfl, upd_same, .int (a / b), _, rfl, rfl, .int (a % b), _, rfl, rfl, rfl⟩⟩
theorem rc_strI {n : Int} {r : Str} (h : strIO n = some r) : RCV K (fun xs H Q => ∃ i, xs = [.int i] ∧ i.natAbs.log2 < 1920 ∧ Q (.str (toString i)) H) (n, ()) r := fun Kn H vs ek hv Q q => by
  obtain ⟨v, rfl, h1⟩ := one_arg hv
  cases h1
  unfold strIO at h
  split at h
  case isFalse => cases h
  rename_i hb
  cases h
  exact ⟨n, rfl, hb, q.fl ek⟩
theorem ev_zfill {x r : Str} {n : Int} (h : EV K F Kn0 sl ow te x) (hn : EV K F Kn0 sl ow tb n) (hz : zfO x n = some r) : EV K F Kn0 sl ow (tBM K "str" (fun x xs H Q => ∃ (a : Str) (i : Int), x = .str a ∧ xs = [.int i] ∧ PadOk i = true ∧ Q (.str (Txt.zfill a i)) H) te (tCons tb tNil)) r := fun σ Kn H s Q q =>
  h σ Kn H s _ fun v Kn1 H1 g1 r1 => by
    cases r1
    refine ⟨rfl, hn σ Kn1 H1 (s.grow g1) _ fun w Kn2 H2 g2 r2 => ?_⟩
    cases r2
    unfold zfO at hz
    split at hz
    case isFalse => cases hz
    rename_i hb
    cases hz
    exact ⟨x, n, rfl, rfl, hb, q _ Kn2 H2 (g1.trans g2) rfl⟩
/-- d[k] += c -/
theorem sb_daug {κ : Type} [Rp κ] [Ky κ] [DecidableEq κ] {d d' : Dc κ Int} {k : κ} {y c : Int} (hi : sl[i]? = some (.at p)) (hj : ow[j]? = some (oo p d)) (hk : EV K F Kn0 sl ow tk k) (hy : getD d.l k = some y) (h : EV K F Kn0 sl ow te c) (hx : putO d k (y + c) = some d') (ho : ow.set j (oo p d') = ow1) (n : SN K F Kn0 sl ow1 D) :
    SB K F Kn0 sl ow D (sDAug (tVar i) tk te L2.rAdd) := fun σ Kn H s => by
  obtain ⟨o, h1, h2⟩ := s.sl.get hi
  refine ⟨.ref p, by rw [h1]; exact congrArg some h2, hk σ Kn H s _ fun w Kn1 H1 g1 r1 => ?_⟩
  have s1 := s.grow g1
  obtain ⟨f1, f2, o1, f3, ws, f4, f5⟩ := s1.ow.each _ (List.mem_of_getElem? hj)
  subst f4
  rcases f5.get k with ⟨q1, q2⟩ | ⟨y2, w2, q1, q2, q3⟩
  · rw [q1] at hy
    cases hy
  · rw [q1] at hy
    cases hy
    refine ⟨p, w2, rfl, q2 ▸ Ky.get r1 s1.ek f3, h σ Kn1 H1 s1 _ fun u Kn2 H2 g2 r2 => ?_⟩
    cases r2
    cases q3
    refine ⟨y, c, rfl, rfl, ?_⟩
    have s2 := s1.grow g2
    have f3' : H2 p = some (Ky.ho ws) := g2.hh _ _ f3
    have f2' : Kn2 p = none := g2.sp p (ne_none_of f3) f2
    unfold putO at hx
    split at hx
    case isFalse => cases hx
    rename_i hl
    cases hx
    subst ho
    refine ⟨_, Ky.put (Rp.mono g2.kk r1) s2.ek f3' (by rw [f5.length]; exact lt_line hl), n _ Kn2 _ ?_⟩
    exact s2.writeG hj rfl rfl (Ex.refl _) (upd_in s2.ek f2') (fun q hq _ => upd_ne hq) (fun _ _ h => h) ⟨_, upd_same, _, rfl, DK.put k rfl (DK.mono g2.kk f5)⟩
/-- xs[n] += c -/
theorem sb_augI {xs xs' : List Int} {n a c : Int} {f : Int → Int → Int} (hi : sl[i]? = some (.at p)) (hj : ow[j]? = some (ol p xs)) (hn : EV K F Kn0 sl ow ti n) (ha : atI xs n = some a) (h : EV K F Kn0 sl ow te c) (hx : setI xs n (f a c) = some xs') (ho : ow.set j (ol p xs') = ow1) (k : SN K F Kn0 sl ow1 D) :
    SB K F Kn0 sl ow D (tAugS (tVar i) ti te (rIxL K) (ipI f) rSetL) := fun σ Kn H s => by
  obtain ⟨o, h1, h2⟩ := s.sl.get hi
  refine ⟨.ref p, by rw [h1]; exact congrArg some h2, hn σ Kn H s _ fun w Kn1 H1 g1 r1 => ?_⟩
  cases r1
  have s1 := s.grow g1
  obtain ⟨f1, f2, ws, f3, f4⟩ := s1.ow.each _ (List.mem_of_getElem? hj)
  obtain ⟨u, e, r⟩ := paired_atI f4 ha
  cases r
  refine ⟨p, ws, n, _, rfl, rfl, sq_of f3, e, h σ Kn1 H1 s1 _ fun v Kn2 H2 g2 r2 => ?_⟩
  cases r2
  refine ⟨a, c, rfl, rfl, ?_⟩
  have s2 := s1.grow g2
  have f3' : H2 p = some (.lst ws) := g2.hh _ _ f3
  have f2' : Kn2 p = none := g2.sp p (ne_none_of f3) f2
  unfold setI at hx
  cases em : ixN xs.length n with
  | none => rw [em] at hx; cases hx
  | some m =>
    rw [em] at hx
    cases hx
    subst ho
    refine ⟨p, ws, n, m, rfl, rfl, f3', by rw [paired_len f4]; exact em, k _ Kn2 _ ?_⟩
    exact s2.write hj (Ex.refl _) (upd_in s2.ek f2') (fun q hq _ => upd_ne hq) (fun _ _ h => h) upd_same (paired_set (show rep K Kn2 (V.int (f a c)) (f a c) from rfl) m (paired_mono g2.kk f4))
/-- a dict of one's own: from now on it is known and stays as it is -/
theorem sb_freezeG {κ : Type} [Rp κ] [Ky κ] [DecidableEq κ] {d : Dc κ β} (hi : sl[i]? = some (.at p)) (hj : ow[j]? = some (oo p d)) (hs : sl.set i (sv d) = sl') (ho : ow.eraseIdx j = ow1) (k : SB K F Kn0 sl' ow1 D t) : SB K F Kn0 sl ow D t := fun σ Kn H s => by
  obtain ⟨ob, kp, hp, s1⟩ := s.borrowG hi hj
  subst hs
  subst ho
  exact k σ _ H s1
theorem k_listGet {X : Cx} (h : X.K = K := by rfl) : PGet X (rIxL K) := h ▸ get_list
end
end Wk
namespace Wk
open PySem PySem.Spec L2 Evl
section
variable {X : Cx} {o i value : Expr} {tpos tpos' : Pos} {td ty tv : TE}
theorem k_daug (hu : X.A.units + 64 < cLine) (ho : PE X o td) (hi : PE X i ty) (hv : PE X value tv) (ha : ∀ ov iv new, augStore i ov iv new = (do holding [new, ov, iv] (setItem ov iv new); release [new, ov, iv] []; pure .next)) : PS X (.AugAssign (.Subscript o i tpos) .Add value tpos') (sDAug td ty tv L2.rAdd) := ps_daug (by omega) ho hi hv in_add ha
end
end Wk
/-! Wmix: slices of tuples and texts, extend, a list of unlike things -/
namespace Wk
open PySem PySem.Spec L2 Evl
/-- the places from a on, b of them -/
inductive Cu : {τ : Type} → [Tp τ] → Nat → Nat → {υ : Type} → [Tp υ] → τ → υ → Prop
  | nil {τ : Type} [Tp τ] (t : τ) : Cu 0 0 t ()
  | take {α τ υ : Type} [Rp α] [Tp τ] [Tp υ] {b : Nat} (x : α) {t : τ} {u : υ} : Cu 0 b t u → Cu 0 (b + 1) (x, t) (x, u)
  | drop {α τ υ : Type} [Rp α] [Tp τ] [Tp υ] {a b : Nat} (x : α) {t : τ} {u : υ} : Cu a b t u → Cu (a + 1) b (x, t) u
theorem Cu.get {K : Fg} {H : Hp} {τ : Type} [i : Tp τ] {a b : Nat} {υ : Type} [j : Tp υ] {t : τ} {u : υ} (h : Cu a b t u) : ∀ {vs : List V}, rept K H vs t → rept K H ((vs.drop a).take b) u := by
  induction h with
  | nil t => exact fun _ => rfl
  | take x _ ih =>
    intro vs r
    obtain ⟨v, r, rfl, h1, h2⟩ := r
    exact ⟨v, _, rfl, h1, ih h2⟩
  | drop x _ ih =>
    intro vs r
    obtain ⟨v, r, rfl, h1, h2⟩ := r
    exact ih h2
structure Hl (τ : Type) where
  t : τ
  deriving DecidableEq
instance {τ : Type} [Tp τ] : Rp (Hl τ) where
  rep K H v x := ∃ p vs, v = .ref p ∧ H p = some (.lst vs) ∧ rept K H vs x.t
  mono e h := by
    obtain ⟨p, vs, h1, h2, h3⟩ := h
    exact ⟨p, vs, h1, e _ _ h2, Tp.mono e h3⟩
instance {τ : Type} [Tp τ] [Pq τ] : Pd (Hl τ) where
  toD x := .list (Pq.toDs x.t)
  dp := Pq.dp τ + 1
  isD h := by
    obtain ⟨p, vs, rfl, h1, h2⟩ := h
    exact .lst (sq_of h1) (Pq.isD h2)
  dep a := by
    simp only [PyData.depth]
    exact Nat.succ_le_succ (Pq.dep a.t)
  eqd a b := by
    simp only [PyData.eqv]
    rw [Pq.eqd]
    cases a
    cases b
    simp
def cutSO (z : Str) (lo hi : Option Int) : Option Str := if z.length ≤ 1000000 then some (cutS z lo hi) else none
section
variable {K : Fg} {F Kn0 : Hp} {sl sl' : List Sl} {ow ow1 ow2 : List Ow} {α β γ τ υ : Type} [Rp α] [Rp β] [Rp γ] [Tp τ] [Tp υ] {ta : TA} {tb te : TE} {D : Ends} {i j : Nat} {p : Addr}
theorem ev_tsl {t : α × τ} {u : β × υ} {tl th : TO} {lo hi : Option Int} {a b : Nat} (h : EV K F Kn0 sl ow te t) (hl : EO K F Kn0 sl ow tl lo) (hh : EO K F Kn0 sl ow th hi)
    (ha : HT.sIx (Tp.n (α × τ)) 0 lo = a) (hb : HT.sIx (Tp.n (α × τ)) (Tp.n (α × τ)) hi - a = b) (hw : ¬ (HT.sIx (Tp.n (α × τ)) 0 lo = 0 ∧ HT.sIx (Tp.n (α × τ)) (Tp.n (α × τ)) hi = Tp.n (α × τ))) (hc : Cu a b t u) :
    EV K F Kn0 sl ow (tSl (rSlT K) te tl th) u := fun σ Kn H s Q q =>
  h σ Kn H s _ fun v Kn1 H1 g1 r1 => hl σ Kn1 H1 (s.grow g1) _ fun Kn2 H2 g2 => hh σ Kn2 H2 ((s.grow g1).grow g2) _ fun Kn3 H3 g3 => by
    obtain ⟨p, ws, rfl, h3, h4⟩ := r1
    have g : Gr Kn H Kn3 H3 := (g1.trans g2).trans g3
    have e13 : Ex Kn1 Kn3 := g2.kk.trans g3.kk
    have el := Tp.len h4
    refine ⟨p, ws, rfl, st_of ((e13.trans g3.kh) _ _ h3), by rw [el]; exact hw, fun l hl => ?_⟩
    have gn := Gr.new (o := .tup (cutV ws lo hi)) g3.kh hl
    refine q _ _ _ (g.trans gn) ⟨l, _, rfl, upd_same, ?_⟩
    have := hc.get (Tp.mono (e13.trans gn.kk) h4)
    have e : cutV ws lo hi = (ws.drop a).take b := by
      unfold cutV
      rw [el, ha, hb]
    rw [e] at this ⊢
    exact this
theorem ev_slS {z r : Str} {tl th : TO} {lo hi : Option Int} (h : EV K F Kn0 sl ow te z) (hl : EO K F Kn0 sl ow tl lo) (hh : EO K F Kn0 sl ow th hi) (hz : cutSO z lo hi = some r) : EV K F Kn0 sl ow (tSl rSlS te tl th) r := fun σ Kn H s Q q =>
  h σ Kn H s _ fun v Kn1 H1 g1 r1 => hl σ Kn1 H1 (s.grow g1) _ fun Kn2 H2 g2 => hh σ Kn2 H2 ((s.grow g1).grow g2) _ fun Kn3 H3 g3 => by
    cases r1
    unfold cutSO at hz
    split at hz
    · rename_i hq
      cases hz
      exact ⟨z, rfl, le_line hq, q _ Kn3 H3 ((g1.trans g2).trans g3) rfl⟩
    · cases hz
theorem ev_hl {t : τ} (h : EA K F Kn0 sl ow ta t) (hz : Tp.n τ ≤ 1000000 := by decide) : EV K F Kn0 sl ow (tLst ta) (Hl.mk t) := fun σ Kn H s Q q =>
  h σ Kn H s _ fun vs Kn1 H1 g1 r1 => ⟨by rw [Tp.len r1]; exact le_line hz, fun p hp =>
    q _ (upd Kn1 p (.lst vs)) _ (g1.trans (Gr.new g1.kh hp)) ⟨p, vs, rfl, upd_same, Tp.mono (Gr.new g1.kh hp).kk r1⟩⟩
theorem r2_hix {t : Hl τ} {n : Nat} {z : γ} (h : At n t.t z) : R2V K (rIxL K) t (n : Int) z := fun Kn H v w ek h1 h2 Q q => by
  obtain ⟨p, ws, rfl, h3, h4⟩ := h1
  cases h2
  obtain ⟨u, e, r⟩ := h.get h4
  exact ⟨p, ws, n, u, rfl, rfl, sq_of (ek _ _ h3), atI_nat e, q.at ek r⟩
theorem k_slt {X : Cx} (h : X.K = K := by rfl) : SlR X (rSlT K) := h ▸ sl_tup
/-- xs.extend(ys), xs one's own -/
theorem sb_extO {xs ys zs : List α} (hi : sl[i]? = some (.at p)) (hj : ow[j]? = some (ol p xs)) (h : EV K F Kn0 sl ow te ys) (hz : catO xs ys = some zs) (ho : ow.set j (ol p zs) = ow1) (k : SN K F Kn0 sl ow1 D) :
    SB K F Kn0 sl ow D (tDrop (tBM K "list" rExtend (tVar i) (tCons te tNil))) := fun σ Kn H s => by
  obtain ⟨o, h1, h2⟩ := s.sl.get hi
  obtain ⟨f1, f2, ws, f3, f4⟩ := s.ow.each _ (List.mem_of_getElem? hj)
  unfold catO at hz
  split at hz
  case isFalse => cases hz
  rename_i hq
  cases hz
  refine ⟨.ref p, by rw [h1]; exact congrArg some h2, Or.inl ⟨rfl, ws, sq_of f3⟩, h σ Kn H s _ fun v Kn1 H1 g1 r1 => ?_⟩
  obtain ⟨b, vs, rfl, h3, h4⟩ := r1
  refine ⟨p, b, ws, vs, rfl, rfl, g1.hh _ _ f3, g1.kh _ _ h3, by rw [paired_len f4, paired_len h4]; exact le_line hq, k _ Kn1 _ ?_⟩
  have kp1 : Kn1 p = none := g1.sp p (ne_none_of f3) f2
  subst ho
  exact (s.grow g1).write hj (Ex.refl _) (upd_in g1.kh kp1) (fun q hq _ => upd_ne hq) (fun _ _ h => h) upd_same (paired_append (paired_mono g1.kk f4) h4)
end
end Wk
/-! Wmut: a def that changes its second argument, a list; an effect behind and; sorted(xs, reverse=True) -/
namespace Wk
open PySem PySem.Spec L2 Evl
section
variable {α δ τ : Type} [Rp α] [Rp δ] [Tp τ]
def PM1 {β : Type} [Rp β] (K : Fg) (f : List β → δ × τ → Option (α × List β)) : Sp := fun vs H Q _ => ∃ Kn p ws v0 rest t0 t xs r xs', vs = v0 :: .ref p :: rest ∧ Ex Kn H ∧ Kn p = none ∧ H p = some (.lst ws) ∧ Paired (rep K Kn) ws xs ∧ rep K Kn v0 t0 ∧ rept K Kn rest t ∧ f xs (t0, t) = some (r, xs') ∧
  ∀ v Kn' H' ws', Ex Kn Kn' → Ex Kn' H' → (∀ q, q ≠ p → H q ≠ none → H' q = H q) → (∀ q, H q ≠ none → Kn q = none → Kn' q = none) → H' p = some (.lst ws') → Paired (rep K Kn') ws' xs' → rep K Kn' v r → Q v H'
end
section
variable {K : Fg} {F Kn0 : Hp} {sl sl' : List Sl} {ow ow1 ow2 : List Ow} {α β γ δ τ : Type} [Rp α] [Rp β] [Rp γ] [Rp δ] [Tp τ] {ta : TA} {te t0e : TE} {t : τ} {t0 : δ} {E : XK} {D : Ends} {i j : Nat} {p : Addr} {a b c : Bool}
theorem em_callM1 {f : List β → δ × τ → Option (α × List β)} {r : α} {xs xs' : List β} (h0 : EV K F Kn0 sl ow t0e t0) (hi : sl[i]? = some (.at p)) (hj : ow[j]? = some (ol p xs)) (h : EA K F Kn0 sl ow ta t) (hf : f xs (t0, t) = some (r, xs')) :
    EM K F Kn0 sl ow (tCall (PM1 K f) [] E (tCons t0e (tCons (tVar i) ta))) (ow.set j (ol p xs')) r := fun σ Kn H s Q q => h0 σ Kn H s _ fun v0 Kn0' H0 g0 r0 => by
  have s0 := s.grow g0
  obtain ⟨o, h1, h2⟩ := s0.sl.get hi
  refine ⟨.ref p, by rw [h1]; exact congrArg some h2, h σ Kn0' H0 s0 _ fun vs Kn1 H1 g1 r1 => ?_⟩
  have s1 := s0.grow g1
  show PM1 K f ((v0 :: .ref p :: vs) ++ []) H1 Q E
  rw [List.append_nil]
  obtain ⟨f1, f2, ws, f3, f4⟩ := s1.ow.each _ (List.mem_of_getElem? hj)
  exact ⟨Kn1, p, ws, v0, vs, t0, t, xs, r, xs', rfl, s1.ek, f2, f3, f4, Rp.mono g1.kk r0, r1, hf, fun v Kn' H' ws' kk kh hq sp hp rr rv => q v Kn' H' ((g0.kk.trans g1.kk).trans kk) (s1.write hj kk kh hq sp hp rr) rv⟩
/-- a and (b, which changes a list of one's own) -/
theorem etm_andO {t u : TT} {m : Option (Bool × List β)} {xs zs : List β} (h : (if a = true then m else some (false, xs)) = some (c, zs)) (hj : ow[j]? = some (ol p xs)) (h1 : ET K F Kn0 sl ow t a) (h2 : ∀ b ys, a = true → m = some (b, ys) → ETM K F Kn0 sl ow u (ow.set j (ol p ys)) b) :
    ETM K F Kn0 sl ow (tAnd t u) (ow.set j (ol p zs)) c := fun σ Kn H s Q q => h1 σ Kn H s _ fun Kn1 H1 g1 => by
  cases a with
  | true => exact iteT (h2 c zs rfl h σ Kn1 H1 (s.grow g1) Q fun Kn2 H2 e2 s2 => q Kn2 H2 (g1.kk.trans e2) s2)
  | false =>
    have h9 := Option.some.inj h
    have e1 : false = c := congrArg Prod.fst h9
    have e2 : xs = zs := congrArg Prod.snd h9
    subst e1
    subst e2
    have e : ow.set j (ol p xs) = ow := by
      refine List.ext_getElem? fun i => ?_
      by_cases e : j = i
      · subst e
        rw [List.getElem?_set_self (List.getElem?_eq_some_iff.mp hj).1, hj]
      · rw [List.getElem?_set_ne e]
    rw [e] at q
    exact iteF (q Kn1 H1 g1.kk (s.grow g1))
theorem etm_not {t : TT} (h : ETM K F Kn0 sl ow t ow1 b) : ETM K F Kn0 sl ow (tNot t) ow1 (!b) := fun σ Kn H s Q q => h σ Kn H s _ fun Kn' H' e s' => q Kn' H' e s'
theorem etm_B (h : EM K F Kn0 sl ow te ow1 b) : ETM K F Kn0 sl ow (tB te) ow1 b := fun σ Kn H s Q q => h σ Kn H s _ fun v Kn' H' e s' r => ⟨b, r, q Kn' H' e s'⟩
/-- falling -/
def srtR (xs : List Int) : List Int := xs.mergeSort fun a b => decide (b ≤ a)
theorem srtR_perm (xs : List Int) : (srtR xs).Perm xs := List.mergeSort_perm xs _
theorem srtR_pw (xs : List Int) : (srtR xs).Pairwise (· ≥ ·) := by
  have h := List.pairwise_mergeSort (le := fun a b : Int => decide (b ≤ a)) (fun a b c h1 h2 => by
    rw [decide_eq_true_eq] at h1 h2 ⊢
    omega) (fun a b => by
    rw [Bool.or_eq_true, decide_eq_true_eq, decide_eq_true_eq]
    omega) xs
  exact h.imp fun q => of_decide_eq_true q
theorem srtR_one {xs ys : List Int} (p : ys.Perm xs) (s : ys.Pairwise (· ≥ ·)) : ys = srtR xs :=
  List.Perm.eq_of_pairwise (le := fun a b : Int => a ≥ b) (fun a b _ _ h1 h2 => Int.le_antisymm h2 h1) s (srtR_pw xs) (p.trans (srtR_perm xs).symm)
theorem en_sortR {xs : List Int} (h : EV K F Kn0 sl ow te xs) : EN K F Kn0 sl ow (tCKw (rSortedKw K true [.bl true]) (tCons te tNil) (tCons (tC (.bl true)) tNil)) (srtR xs) := fun σ Kn H s Q q => h σ Kn H s _ fun v Kn1 H1 g1 r1 => by
  obtain ⟨p, ws, rfl, h3, h4⟩ := r1
  have e := paired_fl h4
  subst e
  refine ⟨p, xs, rfl, rfl, sq_of (g1.kh _ _ h3), fun ns' l pm so hl => ?_⟩
  have e := srtR_one pm so
  subst e
  exact q l _ Kn1 _ (g1.trans (Gr.newU g1.kh hl)) (fresh_back g1.hh hl) (fresh_back g1.kh hl) upd_same (fl_paired _)
theorem k_sortedRev {X : Cx} (h : X.K = K := by rfl) : CallRK X (.builtin "sorted") [Str.ofString "reverse"] (rSortedKw K true [.bl true]) := h ▸ cr_sortedRev
end
end Wk
set_option synthInstance.maxHeartbeats 400000
set_option synthInstance.maxSize 2000
/-! the mirrors of k32, printed by gen.py -/
namespace Wk32
open PySem L2 Wk
noncomputable def m_deal_L1 (room_1 : Int) (weights_2 : (Dc Str Int)) (total_3 : Int) : Str → ((List (Int × Str × Unit)) × (Dc Str Int)) → Option ((List (Int × Str × Unit)) × (Dc Str Int)) := fun name_9 (rests_7, found_8) =>
  (getD weights_2.l name_9).bind fun i_15 =>
  (mulO room_1 i_15).bind fun m_16 =>
  (dmO m_16 total_3).bind fun dm_17 =>
  (some dm_17).bind fun (part_18, rest_19, _) =>
  (putO found_8 name_9 part_18).bind fun found_20 =>
  (appO rests_7 ((-rest_19), name_9, ())).bind fun rests_21 =>
  some (rests_21, found_20)
noncomputable def m_deal_L2 : (Int × Str × Unit) → ((Dc Str Int)) → Option ((Dc Str Int)) := fun (rest_28, name_29, _) found_27 =>
  (getD found_27.l name_29).bind fun y_35 =>
  (putO found_27 name_29 (y_35 + (1 : Int))).bind fun found_36 =>
  some found_36
noncomputable def m_deal (room_1 : Int) (weights_2 : (Dc Str Int)) : Option (Dc Str Int) :=
  (some ((weights_2.l.map (·.2)).sum)).bind fun total_3 =>
  (some ([] : List (Int × Str × Unit))).bind fun rests_5 =>
  (skO weights_2).bind fun sk_6 =>
  (forS (m_deal_L1 room_1 weights_2 total_3) sk_6 (rests_5, (Dc.mk ([] : List (Str × Int))))).bind fun (rests_22, found_23) =>
  (some (room_1 - ((found_23.l.map (·.2)).sum))).bind fun left_25 =>
  (srtDO rests_22).bind fun sd_26 =>
  (forS (m_deal_L2) (cut sd_26 none (some left_25)) found_23).bind fun found_37 =>
  some found_37
noncomputable def m_gaps_in (gap_39 : Int) (many_40 : Int) : Option Int :=
  (mulO gap_39 (max (0 : Int) (many_40 - (1 : Int)))).bind fun m_41 =>
  some m_41
noncomputable def m_track_name (number_42 : Int) : Option Str :=
  (strIO number_42).bind fun sn_43 =>
  (zfO sn_43 (2 : Int)).bind fun z_44 =>
  some z_44
noncomputable def m_track_weights_L1 : Int → ((Dc Str Int)) → Option ((Dc Str Int)) := fun number_50 weights_49 =>
  (m_track_name number_50).bind fun r_56 =>
  (putO weights_49 r_56 (1 : Int)).bind fun weights_57 =>
  some weights_57
noncomputable def m_track_weights (first_45 : Int) (spanned_46 : Int) : Option (Dc Str Int) :=
  (rngO first_45 (first_45 + spanned_46)).bind fun rg_48 =>
  (forS (m_track_weights_L1) rg_48 (Dc.mk ([] : List (Str × Int)))).bind fun weights_58 =>
  some weights_58
noncomputable def m_alone_raised_L1 : (Str × Int × Int × Int × Unit) → ((List Int)) → Option ((List Int)) := fun (name_64, first_65, spanned_66, amount_67, _) numbers_63 =>
  (if (decide (spanned_66 = (1 : Int))) = true then ((atI numbers_63 first_65).bind fun i_76 =>
  (setI numbers_63 first_65 (max i_76 amount_67)).bind fun numbers_77 =>
  some numbers_77) else (some numbers_63))
noncomputable def m_alone_raised (floor_60 : (List Int)) (asks_61 : (List (Str × Int × Int × Int × Unit))) : Option (List Int) :=
  (some floor_60).bind fun numbers_62 =>
  (forS (m_alone_raised_L1) asks_61 numbers_62).bind fun numbers_78 =>
  some numbers_78
noncomputable def m_in_order_L1 : (Int × Str × Int × Int × Unit) → ((List (Str × Int × Int × Int × Unit))) → Option ((List (Str × Int × Int × Int × Unit))) := fun (spanned_86, name_87, first_88, amount_89, _) found_85 =>
  (appO found_85 (name_87, first_88, spanned_86, amount_89, ())).bind fun found_95 =>
  some found_95
noncomputable def m_in_order (asks_80 : (List (Str × Int × Int × Int × Unit))) : Option (List (Str × Int × Int × Int × Unit)) :=
  (some ([] : List (Str × Int × Int × Int × Unit))).bind fun found_81 =>
  (lcM (fun ask_82 => (some (decide ((1 : Int) < ask_82.2.2.1)))) (fun ask_82 => (some (ask_82.2.2.1, ask_82.1, ask_82.2.1, ask_82.2.2.2.1, ()))) asks_80).bind fun zs_83 =>
  (srtDO zs_83).bind fun sd_84 =>
  (forS (m_in_order_L1) sd_84 found_81).bind fun found_96 =>
  some found_96
noncomputable def m_lack_of (numbers_98 : (List Int)) (gap_99 : Int) (ask_100 : (Str × Int × Int × Int × Unit)) : Option Int :=
  (some ask_100).bind fun (name_101, first_102, spanned_103, amount_104, _) =>
  (m_gaps_in gap_99 spanned_103).bind fun r_105 =>
  some ((amount_104 - ((cut numbers_98 (some first_102) (some (first_102 + spanned_103)))).sum) - r_105)
noncomputable def m_raise_tracks_L2 (ask_116 : (Str × Int × Int × Int × Unit)) (cells_129 : (Dc Str Int)) : Int → ((List (Str × Int × Int × Unit)) × (List Int)) → Option ((List (Str × Int × Int × Unit)) × (List Int)) := fun number_133 (raises_131, numbers_132) =>
  (m_track_name number_133).bind fun r_140 =>
  (getD cells_129.l r_140).bind fun i_141 =>
  (if (decide ((0 : Int) < i_141)) = true then ((m_track_name number_133).bind fun r_144 =>
  (getD cells_129.l r_144).bind fun i_145 =>
  (appO raises_131 (ask_116.1, number_133, i_145, ())).bind fun raises_146 =>
  (atI numbers_132 number_133).bind fun y_147 =>
  (m_track_name number_133).bind fun r_148 =>
  (getD cells_129.l r_148).bind fun i_149 =>
  (setI numbers_132 number_133 (y_147 + i_149)).bind fun numbers_150 =>
  some (raises_146, numbers_150)) else (some (raises_131, numbers_132)))
noncomputable def m_raise_tracks_L1 (gap_107 : Int) : (Str × Int × Int × Int × Unit) → ((List (Str × Int × Int × Unit)) × (List Int)) → Option ((List (Str × Int × Int × Unit)) × (List Int)) := fun ask_116 (raises_114, numbers_115) =>
  (m_lack_of numbers_115 gap_107 ask_116).bind fun r_122 =>
  (some r_122).bind fun lack_123 =>
  (if (decide ((0 : Int) < lack_123)) = true then ((m_track_weights ask_116.2.1 ask_116.2.2.1).bind fun r_127 =>
  (m_deal lack_123 r_127).bind fun r_128 =>
  (some r_128).bind fun cells_129 =>
  (rngO ask_116.2.1 (ask_116.2.1 + ask_116.2.2.1)).bind fun rg_130 =>
  (forS (m_raise_tracks_L2 ask_116 cells_129) rg_130 (raises_114, numbers_115)).bind fun (raises_151, numbers_152) =>
  some (raises_151, numbers_152)) else (some (raises_114, numbers_115)))
noncomputable def m_raise_tracks (many_106 : Int) (gap_107 : Int) (floor_108 : (List Int)) (asks_109 : (List (Str × Int × Int × Int × Unit))) : Option ((List Int) × (List (Str × Int × Int × Unit)) × Unit) :=
  (m_alone_raised floor_108 asks_109).bind fun r_110 =>
  (some r_110).bind fun numbers_111 =>
  (some ([] : List (Str × Int × Int × Unit))).bind fun raises_112 =>
  (m_in_order asks_109).bind fun r_113 =>
  (forS (m_raise_tracks_L1 gap_107) r_113 (raises_112, numbers_111)).bind fun (raises_154, numbers_155) =>
  some (numbers_155, raises_154, ())
noncomputable def m__law_stream_L1 : Int → (Int) → Option (Int) := fun cell_160 seed_159 =>
  (some (((seed_159 * (1000003 : Int)) + cell_160) % (2305843009213693951 : Int))).bind fun seed_166 =>
  some seed_166
noncomputable def m__law_stream (script_157 : (Fz Int)) : Option (List Int) :=
  (some (7 : Int)).bind fun seed_158 =>
  (forS (m__law_stream_L1) (cut script_157.l none (some (63 : Int))) seed_158).bind fun seed_167 =>
  (some (0 : Int)).bind fun digits_169 =>
  ((if (decide ((1 : Int) < (script_157.l.length : Int))) = true then ((atI script_157.l (0 : Int)).bind fun i_171 => some (decide ((i_171 % (2 : Int)) = (0 : Int)))) else some false)).bind fun b_172 =>
  ((if b_172 = true then ((atI script_157.l (1 : Int)).bind fun i_174 =>
  (some (i_174.natAbs : Int)).bind fun digits_175 =>
  some digits_175) else (some digits_169))).bind fun digits_176 =>
  some ([digits_176, seed_167] : List Int)
noncomputable def m__law_take (stream_here_178 : (List Int)) (many_179 : Int) : Option (Int × (List Int)) :=
  (atI stream_here_178 (0 : Int)).bind fun i_181 =>
  (if (decide ((0 : Int) < i_181)) = true then ((atI stream_here_178 (0 : Int)).bind fun i_184 =>
  (modO i_184 many_179).bind fun r_185 =>
  (some r_185).bind fun digit_186 =>
  (atI stream_here_178 (0 : Int)).bind fun i_187 =>
  (divO i_187 many_179).bind fun q_188 =>
  (setI stream_here_178 (0 : Int) q_188).bind fun stream_here_189 =>
  some (digit_186, stream_here_189)) else ((atI stream_here_178 (1 : Int)).bind fun i_190 =>
  (setI stream_here_178 (1 : Int) (((i_190 * (48271 : Int)) + (1013904223 : Int)) % (2305843009213693951 : Int))).bind fun stream_here_191 =>
  (atI stream_here_191 (1 : Int)).bind fun i_192 =>
  (atI stream_here_191 (1 : Int)).bind fun i_193 =>
  (modO (((i_192 * (69621 : Int)) % (2147483629 : Int)) + (i_193 / (2147483647 : Int))) many_179).bind fun r_194 =>
  some (r_194, stream_here_191)))
noncomputable def m__law_names_L2 (letters_197 : Str) : Int → (Str × (List Int)) → Option (Str × (List Int)) := fun j_214 (name_212, stream_here_213) =>
  (m__law_take stream_here_213 (26 : Int)).bind fun (r_220, stream_here_221) =>
  (ixS letters_197 r_220).bind fun i_222 =>
  (addS name_212 i_222).bind fun t_223 =>
  (some t_223).bind fun name_224 =>
  some (name_224, stream_here_221)
noncomputable def m__law_names_L3_c (letters_197 : Str) (names_here_200 : (List Str)) : (Str × Int) → Option Bool := fun (name_229, turn_230) =>
  (some ((decide (name_229 ∈ names_here_200)) || (decide (name_229 = ("" : Str)))))
noncomputable def m__law_names_L3 (letters_197 : Str) (names_here_200 : (List Str)) : (Str × Int) → Option (Str × Int) := fun (name_229, turn_230) =>
  (lenS name_229).bind fun n_236 =>
  (ixS letters_197 (((turn_230 / (26 : Int)) + n_236) % (26 : Int))).bind fun i_237 =>
  (some i_237).bind fun other_238 =>
  (ixS letters_197 (turn_230 % (26 : Int))).bind fun i_239 =>
  (addS i_239 other_238).bind fun t_240 =>
  (cutSO name_229 none (some (4 : Int))).bind fun cs_241 =>
  (addS t_240 cs_241).bind fun t_242 =>
  (some t_242).bind fun name_243 =>
  (some (turn_230 + (7 : Int))).bind fun turn_244 =>
  some (name_243, turn_244)
noncomputable def m__law_names_L1 (letters_197 : Str) : Int → ((List Str) × (List Int)) → Option ((List Str) × (List Int)) := fun k_202 (names_here_200, stream_here_201) =>
  (some ("" : Str)).bind fun name_208 =>
  (m__law_take stream_here_201 (8 : Int)).bind fun (r_209, stream_here_210) =>
  (rngO 0 r_209).bind fun rg_211 =>
  (forS (m__law_names_L2 letters_197) rg_211 (name_208, stream_here_210)).bind fun (name_225, stream_here_226) =>
  (some k_202).bind fun turn_228 =>
  (whileF (m__law_names_L3_c letters_197 names_here_200) (m__law_names_L3 letters_197 names_here_200) (name_225, turn_228)).bind fun (name_245, turn_246) =>
  (appO names_here_200 name_245).bind fun names_here_248 =>
  some (names_here_248, stream_here_226)
noncomputable def m__law_names (stream_here_195 : (List Int)) (many_196 : Int) : Option ((List Str) × (List Int)) :=
  (some ("abcdefghijklmnopqrstuvwxyz" : Str)).bind fun letters_197 =>
  (some ([] : List Str)).bind fun names_here_198 =>
  (rngO 0 many_196).bind fun rg_199 =>
  (forS (m__law_names_L1 letters_197) rg_199 (names_here_198, stream_here_195)).bind fun (names_here_249, stream_here_250) =>
  some (names_here_249, stream_here_250)
noncomputable def m__law_asks_L1 (many_253 : Int) (top_255 : Int) : Str → ((List (Str × Int × Int × Int × Unit)) × (List Int)) → Option ((List (Str × Int × Int × Int × Unit)) × (List Int)) := fun name_259 (asks_here_257, stream_here_258) =>
  (m__law_take stream_here_258 many_253).bind fun (r_265, stream_here_266) =>
  (some r_265).bind fun first_267 =>
  (m__law_take stream_here_266 (2 : Int)).bind fun (r_268, stream_here_269) =>
  (atI ([(1 : Int), (many_253 - first_267)] : List Int) r_268).bind fun i_270 =>
  (m__law_take stream_here_269 i_270).bind fun (r_271, stream_here_272) =>
  (some ((1 : Int) + r_271)).bind fun spanned_273 =>
  (m__law_take stream_here_272 top_255).bind fun (r_274, stream_here_275) =>
  (appO asks_here_257 (name_259, first_267, spanned_273, r_274, ())).bind fun asks_here_276 =>
  some (asks_here_276, stream_here_275)
noncomputable def m__law_asks (stream_here_252 : (List Int)) (many_253 : Int) (names_here_254 : (List Str)) (top_255 : Int) : Option ((List (Str × Int × Int × Int × Unit)) × (List Int)) :=
  (some ([] : List (Str × Int × Int × Int × Unit))).bind fun asks_here_256 =>
  (forS (m__law_asks_L1 many_253 top_255) names_here_254 (asks_here_256, stream_here_252)).bind fun (asks_here_277, stream_here_278) =>
  some (asks_here_277, stream_here_278)
noncomputable def m__law_told (raises_280 : (List (Str × Int × Int × Unit))) (name_281 : Str) : Option (List (Int × Int × Unit)) :=
  (lcM (fun (told_here_282, number_283, cells_284, _) => (some (decide (told_here_282 = name_281)))) (fun (told_here_282, number_283, cells_284, _) => (some (number_283, cells_284, ()))) raises_280).bind fun zs_285 =>
  some zs_285
noncomputable def m__law_ask_right_L1 (first_291 : Int) (spanned_292 : Int) : (Int × Int × Unit) → ((List Int) × (List Int)) → Option (Ctl ((List Int) × (List Int)) (Bool × (List Int))) := fun (number_303, more_304, _) (cells_301, numbers_302) =>
  ((if (!((decide (first_291 ≤ number_303)) && (decide (number_303 < (first_291 + spanned_292))))) = true then some true else (((if (decide (more_304 < (1 : Int))) = true then some true else ((atI cells_301 (number_303 - first_291)).bind fun i_311 => some (!decide (i_311 = (0 : Int)))))).bind fun b_312 => some b_312))).bind fun b_313 =>
  (if b_313 = true then (some (Ctl.rt (false, numbers_302))) else ((setI cells_301 (number_303 - first_291) more_304).bind fun cells_316 =>
  (atI numbers_302 number_303).bind fun i_317 =>
  (setI numbers_302 number_303 (i_317 + more_304)).bind fun numbers_318 =>
  some (Ctl.nx (cells_316, numbers_318))))
noncomputable def m__law_ask_right (gap_286 : Int) (numbers_287 : (List Int)) (ask_288 : (Str × Int × Int × Int × Unit)) (mine_289 : (List (Int × Int × Unit))) : Option (Bool × (List Int)) :=
  (some ask_288).bind fun (name_290, first_291, spanned_292, amount_293, _) =>
  (mulO gap_286 (spanned_292 - (1 : Int))).bind fun m_294 =>
  (some ((amount_293 - ((cut numbers_287 (some first_291) (some (first_291 + spanned_292)))).sum) - m_294)).bind fun lack_295 =>
  (if (decide (lack_295 ≤ (0 : Int))) = true then (some ((decide (mine_289 = ([] : List (Int × Int × Unit)))), numbers_287)) else ((repO ([(0 : Int)] : List Int) spanned_292).bind fun rep_299 =>
  (some rep_299).bind fun cells_300 =>
  (forC (m__law_ask_right_L1 first_291 spanned_292) mine_289 (cells_300, numbers_287)).bind fun tot_309 => match tot_309 with
  | .nx (cells_319, numbers_320) => (((if (decide ((cells_319).sum = lack_295)) = true then (((if (decide (cells_319 = (srtR cells_319))) = true then ((atI cells_319 (0 : Int)).bind fun i_322 => (atI cells_319 (spanned_292 - (1 : Int))).bind fun i_323 => some (decide ((i_322 - i_323) < (2 : Int)))) else some false)).bind fun b_324 => some b_324) else some false)).bind fun b_325 =>
  some (b_325, numbers_320))
  | .bk _ => none
  | .rt r_ => some r_))
noncomputable def m__law_in_order_L1 : (Str × Int × Int × Int × Unit) → ((Dc Str (Int × Str × Unit))) → Option ((Dc Str (Int × Str × Unit))) := fun (name_330, first_331, spanned_332, amount_333, _) order_329 =>
  (putO order_329 name_330 (spanned_332, name_330, ())).bind fun order_339 =>
  some order_339
noncomputable def m__law_in_order (raises_326 : (List (Str × Int × Int × Unit))) (asks_here_327 : (List (Str × Int × Int × Int × Unit))) : Option Bool :=
  (forS (m__law_in_order_L1) asks_here_327 (Dc.mk ([] : List (Str × (Int × Str × Unit))))).bind fun order_340 =>
  (lcM (fun _ => some true) (fun (name_343, number_344, cells_345, _) => (((if (getD order_340.l name_343).isSome = true then ((getD order_340.l name_343).bind fun i_347 => some (decide ((1 : Int) < i_347.1))) else some false)).bind fun b_348 => some b_348)) raises_326).bind fun zs_346 =>
  (if (!(zs_346.all id)) = true then (some false) else ((lcM (fun _ => some true) (fun (name_351, number_352, cells_353, _) => ((getD order_340.l name_351).bind fun i_355 => some (i_355, number_352, ()))) raises_326).bind fun zs_354 =>
  (some zs_354).bind fun keys_356 =>
  (srtDO keys_356).bind fun sd_357 =>
  (eqO keys_356 sd_357).bind fun e_358 =>
  some e_358))
noncomputable def m_law_L1 : (Str × Int × Int × Int × Unit) → ((List Int)) → Option ((List Int)) := fun (name_399, first_400, spanned_401, amount_402, _) numbers_398 =>
  (if (decide (spanned_401 = (1 : Int))) = true then ((atI numbers_398 first_400).bind fun i_411 =>
  (setI numbers_398 first_400 (max i_411 amount_402)).bind fun numbers_412 =>
  some numbers_412) else (some numbers_398))
noncomputable def m_law_L3 (gap_386 : Int) (raises_396 : (List (Str × Int × Int × Unit))) (name_424 : Str) : (Str × Int × Int × Int × Unit) → ((List Int)) → Option (Ctl ((List Int)) Bool) := fun ask_431 numbers_430 =>
  ((if (decide (ask_431.1 = name_424)) = true then ((m__law_told raises_396 name_424).bind fun r_438 => (m__law_ask_right gap_386 numbers_430 ask_431 r_438).bind fun (r_439, numbers_440) => some ((!r_439), numbers_440)) else some (false, numbers_430))).bind fun (b_441, numbers_442) =>
  (if b_441 = true then (some (Ctl.rt false)) else (some (Ctl.nx numbers_442)))
noncomputable def m_law_L2 (gap_386 : Int) (asks_here_393 : (List (Str × Int × Int × Int × Unit))) (raises_396 : (List (Str × Int × Int × Unit))) : (Int × Str × Unit) → ((List Int)) → Option (Ctl ((List Int)) Bool) := fun (spanned_423, name_424, _) numbers_422 =>
  (forC (m_law_L3 gap_386 raises_396 name_424) asks_here_393 numbers_422).bind fun tot_436 => match tot_436 with
  | .nx numbers_445 => (some (Ctl.nx numbers_445))
  | .bk _ => none
  | .rt r_ => some (Ctl.rt r_)
noncomputable def m_law_L4 (gap_386 : Int) (found_395 : (List Int)) : (Str × Int × Int × Int × Unit) → (Unit) → Option (Ctl (Unit) Bool) := fun (name_449, first_450, spanned_451, amount_452, _) _ =>
  (mulO gap_386 (spanned_451 - (1 : Int))).bind fun m_459 =>
  (if (decide ((((cut found_395 (some first_450) (some (first_450 + spanned_451)))).sum + m_459) < amount_452)) = true then (some (Ctl.rt false)) else (some (Ctl.nx ())))
noncomputable def m_law (script_359 : (Fz Int)) : Option Bool :=
  (m__law_stream script_359).bind fun r_360 =>
  (some r_360).bind fun stream_here_361 =>
  (m__law_take stream_here_361 (12 : Int)).bind fun (r_362, stream_here_363) =>
  (some ((1 : Int) + r_362)).bind fun many_364 =>
  (m__law_take stream_here_363 (2 : Int)).bind fun (r_365, stream_here_366) =>
  (atI ([(61 : Int), ((1000000 : Int) + (1 : Int))] : List Int) r_365).bind fun i_367 =>
  (some i_367).bind fun top_368 =>
  (rngO 0 many_364).bind fun rg_369 =>
  (lcS (fun k_370 st_372 => ((m__law_take st_372 (2 : Int)).bind fun (r_374, stream_here_375) => (atI ([(9 : Int), top_368] : List Int) r_374).bind fun i_376 => (m__law_take stream_here_375 i_376).bind fun (r_377, stream_here_378) => some (r_377, stream_here_378))) rg_369 stream_here_366).bind fun (zs_371, stream_here_379) =>
  (some zs_371).bind fun floor_380 =>
  (m__law_take stream_here_379 (2 : Int)).bind fun (r_381, stream_here_382) =>
  (atI ([(5 : Int), (1001 : Int)] : List Int) r_381).bind fun i_383 =>
  (m__law_take stream_here_382 i_383).bind fun (r_384, stream_here_385) =>
  (some r_384).bind fun gap_386 =>
  (m__law_take stream_here_385 (11 : Int)).bind fun (r_387, stream_here_388) =>
  (m__law_names stream_here_388 r_387).bind fun (r_389, stream_here_390) =>
  (m__law_asks stream_here_390 many_364 r_389 top_368).bind fun (r_391, stream_here_392) =>
  (some r_391).bind fun asks_here_393 =>
  (m_raise_tracks many_364 gap_386 floor_380 asks_here_393).bind fun r_394 =>
  (some r_394).bind fun (found_395, raises_396, _) =>
  (some floor_380).bind fun numbers_397 =>
  (forS (m_law_L1) asks_here_393 numbers_397).bind fun numbers_413 =>
  (m__law_in_order raises_396 asks_here_393).bind fun r_416 =>
  (if (!r_416) = true then (some false) else ((lcM (fun ask_419 => (some (decide ((1 : Int) < ask_419.2.2.1)))) (fun ask_419 => (some (ask_419.2.2.1, ask_419.1, ()))) asks_here_393).bind fun zs_420 =>
  (srtDO zs_420).bind fun sd_421 =>
  (forC (m_law_L2 gap_386 asks_here_393 raises_396) sd_421 numbers_413).bind fun tot_429 => match tot_429 with
  | .nx numbers_447 => ((forC (m_law_L4 gap_386 found_395) asks_here_393 ()).bind fun tot_457 => match tot_457 with
  | .nx _ => (((if (decide (found_395 = numbers_447)) = true then ((m_raise_tracks many_364 gap_386 found_395 asks_here_393).bind fun r_463 => (eqO r_463 (found_395, ([] : List (Str × Int × Int × Unit)), ())).bind fun e_464 => some e_464) else some false)).bind fun b_465 =>
  some b_465)
  | .bk _ => none
  | .rt r_ => some r_)
  | .bk _ => none
  | .rt r_ => some r_))
end Wk32
set_option synthInstance.maxHeartbeats 400000
set_option synthInstance.maxSize 2000
/-! the walks of k32, printed by gen.py -/
namespace Wk32
open PySem L2 Wk
def topS (i : Nat) : Stmt := PySem.Challenge.pw_boxgalley_k32_whole_raises_add_up.main.body.getD i (.Pass ⟨0, 0, 0, 0⟩)
abbrev s_deal : Stmt := topS 1
abbrev s_gaps_in : Stmt := topS 3
abbrev s_track_name : Stmt := topS 5
abbrev s_track_weights : Stmt := topS 6
abbrev s_alone_raised : Stmt := topS 7
abbrev s_in_order : Stmt := topS 8
abbrev s_lack_of : Stmt := topS 9
abbrev s_raise_tracks : Stmt := topS 10
abbrev s__law_stream : Stmt := topS 12
abbrev s__law_take : Stmt := topS 13
abbrev s__law_names : Stmt := topS 14
abbrev s__law_asks : Stmt := topS 15
abbrev s__law_told : Stmt := topS 16
abbrev s__law_ask_right : Stmt := topS 17
abbrev s__law_in_order : Stmt := topS 18
abbrev s_law : Stmt := topS 19
structure TX (K : Fg) (mg : Str → Option Value) where
  a_deal : Addr
  d_deal : FuncData
  F_deal : Fun K "deal" "deal" s_deal a_deal d_deal
  b_deal : Binds K d_deal ["room", "weights"] []
  g_deal : mg "deal" = some (.ref a_deal)
  a_gaps_in : Addr
  d_gaps_in : FuncData
  F_gaps_in : Fun K "gaps_in" "gaps_in" s_gaps_in a_gaps_in d_gaps_in
  b_gaps_in : Binds K d_gaps_in ["gap", "many"] []
  g_gaps_in : mg "gaps_in" = some (.ref a_gaps_in)
  a_track_name : Addr
  d_track_name : FuncData
  F_track_name : Fun K "track_name" "track_name" s_track_name a_track_name d_track_name
  b_track_name : Binds K d_track_name ["number"] []
  g_track_name : mg "track_name" = some (.ref a_track_name)
  a_track_weights : Addr
  d_track_weights : FuncData
  F_track_weights : Fun K "track_weights" "track_weights" s_track_weights a_track_weights d_track_weights
  b_track_weights : Binds K d_track_weights ["first", "spanned"] []
  g_track_weights : mg "track_weights" = some (.ref a_track_weights)
  a_alone_raised : Addr
  d_alone_raised : FuncData
  F_alone_raised : Fun K "alone_raised" "alone_raised" s_alone_raised a_alone_raised d_alone_raised
  b_alone_raised : Binds K d_alone_raised ["floor", "asks"] []
  g_alone_raised : mg "alone_raised" = some (.ref a_alone_raised)
  a_in_order : Addr
  d_in_order : FuncData
  F_in_order : Fun K "in_order" "in_order" s_in_order a_in_order d_in_order
  b_in_order : Binds K d_in_order ["asks"] []
  g_in_order : mg "in_order" = some (.ref a_in_order)
  a_lack_of : Addr
  d_lack_of : FuncData
  F_lack_of : Fun K "lack_of" "lack_of" s_lack_of a_lack_of d_lack_of
  b_lack_of : Binds K d_lack_of ["numbers", "gap", "ask"] []
  g_lack_of : mg "lack_of" = some (.ref a_lack_of)
  a_raise_tracks : Addr
  d_raise_tracks : FuncData
  F_raise_tracks : Fun K "raise_tracks" "raise_tracks" s_raise_tracks a_raise_tracks d_raise_tracks
  b_raise_tracks : Binds K d_raise_tracks ["many", "gap", "floor", "asks"] []
  g_raise_tracks : mg "raise_tracks" = some (.ref a_raise_tracks)
  a__law_stream : Addr
  d__law_stream : FuncData
  F__law_stream : Fun K "_law_stream" "_law_stream" s__law_stream a__law_stream d__law_stream
  b__law_stream : Binds K d__law_stream ["_law_script"] []
  g__law_stream : mg "_law_stream" = some (.ref a__law_stream)
  a__law_take : Addr
  d__law_take : FuncData
  F__law_take : Fun K "_law_take" "_law_take" s__law_take a__law_take d__law_take
  b__law_take : Binds K d__law_take ["_law_stream_here", "_law_many"] []
  g__law_take : mg "_law_take" = some (.ref a__law_take)
  a__law_names : Addr
  d__law_names : FuncData
  F__law_names : Fun K "_law_names" "_law_names" s__law_names a__law_names d__law_names
  b__law_names : Binds K d__law_names ["_law_stream_here", "_law_many"] []
  g__law_names : mg "_law_names" = some (.ref a__law_names)
  a__law_asks : Addr
  d__law_asks : FuncData
  F__law_asks : Fun K "_law_asks" "_law_asks" s__law_asks a__law_asks d__law_asks
  b__law_asks : Binds K d__law_asks ["_law_stream_here", "_law_many", "_law_names_here", "_law_top"] []
  g__law_asks : mg "_law_asks" = some (.ref a__law_asks)
  a__law_told : Addr
  d__law_told : FuncData
  F__law_told : Fun K "_law_told" "_law_told" s__law_told a__law_told d__law_told
  b__law_told : Binds K d__law_told ["_law_raises", "_law_name"] []
  g__law_told : mg "_law_told" = some (.ref a__law_told)
  a__law_ask_right : Addr
  d__law_ask_right : FuncData
  F__law_ask_right : Fun K "_law_ask_right" "_law_ask_right" s__law_ask_right a__law_ask_right d__law_ask_right
  b__law_ask_right : Binds K d__law_ask_right ["_law_gap", "_law_numbers", "_law_ask", "_law_mine"] []
  g__law_ask_right : mg "_law_ask_right" = some (.ref a__law_ask_right)
  a__law_in_order : Addr
  d__law_in_order : FuncData
  F__law_in_order : Fun K "_law_in_order" "_law_in_order" s__law_in_order a__law_in_order d__law_in_order
  b__law_in_order : Binds K d__law_in_order ["_law_raises", "_law_asks_here"] []
  g__law_in_order : mg "_law_in_order" = some (.ref a__law_in_order)
  a_law : Addr
  d_law : FuncData
  F_law : Fun K "law" "law" s_law a_law d_law
  b_law : Binds K d_law ["_law_script"] []
  g_law : mg "law" = some (.ref a_law)
  z_abs : mg "abs" = none
  z_all : mg "all" = none
  z_divmod : mg "divmod" = none
  z_len : mg "len" = none
  z_list : mg "list" = none
  z_max : mg "max" = none
  z_range : mg "range" = none
  z_sorted : mg "sorted" = none
  z_str : mg "str" = none
  z_sum : mg "sum" = none
def spLaw (K : Fg) : Sp := fun vs H Q _ => ∃ (a : Addr) (ns : List Int), vs = [.ref a] ∧ SqL K H a (ns.map V.int) ∧ ns.length ≤ 63 ∧ ∀ H', Q (.bl true) H'
theorem fn_weak {P : Program} {w : World} {K : Fg} {mg : Str → Option Value} {base : Heap} {k : Nat} {f : Addr} {fd : FuncData} {m : Fz Int → Option Bool}
    (h : FnOk P w K mg base CX0 k f fd ["_law_script"] (PF (τ := Fz Int × Unit) K fun t => m t.1)) (main : ∀ ns : List Int, ns.length ≤ 63 → m (Fz.mk ns) = some true) : FnOk P w K mg base CX0 k f fd ["_law_script"] (spLaw K) :=
  h.imp fun vs H Q E hh => by
    obtain ⟨a, ns, rfl, hs, hl, q⟩ := hh
    exact ⟨H, (Fz.mk ns, ()), true, Evl.Ex.refl _, ⟨.ref a, [], rfl, ⟨a, ns.map V.int, rfl, hs, fl_paired ns⟩, rfl⟩, main ns hl, fun u Kn' H' g r => by cases r; exact q H'⟩
section
variable {P : Program} {w : World} {K : Fg} {mg : Str → Option Value} {base : Heap}
theorem sc_deal : FnScope ["room", "weights", "total", "found", "rests", "name", "part", "rest", "left"] ["room", "weights"] (defScope s_deal) := ⟨rfl, rfl, rfl, by decide +kernel, rfl, by decide +kernel, by decide +kernel⟩
set_option maxHeartbeats 4000000 in
theorem ok_deal (T : TX K mg) : FnOk P w K mg base CX0 1 T.a_deal T.d_deal ["room", "weights"] (PF (τ := Int × (Dc Str Int) × Unit) K (fun t => m_deal t.1 t.2.1)) := by
  refine T.F_deal.ok sc_deal (fun vs H Q E h => ?_) (fun cdv A outer s H vs Q E hr h => ?_)
  · obtain ⟨Kn, t, r, ek, h, hf, q⟩ := h
    exact Tp.len h
  · obtain ⟨Kn, t, r_, ek, h, hf, q⟩ := h
    obtain ⟨room_1, weights_2, u_⟩ := t
    obtain ⟨v_0, rr_, rfl, hv_0, h⟩ := h
    obtain ⟨v_1, rr_, rfl, hv_1, h⟩ := h
    obtain rfl := h
    replace hf : m_deal room_1 weights_2 = some r_ := hf
    unfold m_deal at hf
    refine ⟨_, (pss_cons (ps_set (i := 2) sc_deal.nd rfl (.inl rfl) (pe_sumVals rfl (by rfl) T.z_sum (pv 1)))
      (pss_cons (ps_set (i := 3) sc_deal.nd rfl (.inl rfl) pe_dnewK)
      (pss_cons (ps_set (i := 4) sc_deal.nd rfl (.inl rfl) (pe_lst pa_nil))
      (pss_cons (ps_for PassesOwn.never rfl (kpi_list (pe_callB k_sortedK (by rfl) T.z_sorted (by decide +kernel) (pa_cons (pv 1) pa_nil))) (pg_name (i := 5) sc_deal.nd rfl (.inl rfl)) (pss_cons (ps_asg (pe_callB call_divmod (by rfl) T.z_divmod (by decide +kernel) (pa_cons (pe_op op_mul (pv 0) (k_dget hr.units (pv 1) (pv 5) (fun _ _ => rfl))) (pa_cons (pv 2) pa_nil))) (kpg_tup (pgs_cons (pg_name (i := 6) sc_deal.nd rfl (.inl rfl)) (pgs_cons (pg_name (i := 7) sc_deal.nd rfl (.inl rfl)) pgs_nil))))
      (pss_cons (k_dput hr.units (pv 3) (pv 5) (pv 6) rfl)
      (pss_one (ps_expr (pe_bm PySem.F.plainAttrs_list PySem.F.slot_list_append PySem.F.type_list_append mt_append (pv 4) (pa_cons (pe_tup (pa_cons (pe_un un_neg (pv 7)) (pa_cons (pv 5) pa_nil))) pa_nil)))))))
      (pss_cons (ps_set (i := 8) sc_deal.nd rfl (.inl rfl) (pe_op op_sub (pv 0) (pe_sumVals rfl (by rfl) T.z_sum (pv 3))))
      (pss_cons (ps_for PassesOwn.never rfl (kpi_list (pe_slice k_sll (pe_callB (k_sortedD hr.units) (by rfl) T.z_sorted (by decide +kernel) (pa_cons (pv 4) pa_nil)) po_none (po_some (pv 8)))) (kpg_tup (pgs_cons (pg_name (i := 7) sc_deal.nd rfl (.inl rfl)) (pgs_cons (pg_name (i := 5) sc_deal.nd rfl (.inl rfl)) pgs_nil))) (pss_one (k_daug hr.units (pv 3) (pv 5) pe_int (fun _ _ _ => rfl))))
      (pss_one (ps_ret (pv 3))))))))), ?_⟩
    refine enter (Kn := Kn) (sl := [sv room_1, sv weights_2, .any, .any, .any, .any, .any, .any, .any]) ek ⟨⟨v_0, rfl, hv_0⟩, ⟨v_1, rfl, hv_1⟩, trivial, trivial, trivial, trivial, trivial, trivial, trivial, trivial⟩ ?_
    have q := rt_of q
    obtain ⟨total_3, h_total_3, hf⟩ := bind_some hf
    refine SB.seqB (fun kx_ => sb_asg (sl' := [sv room_1, sv weights_2, sv total_3, .any, .any, .any, .any, .any, .any]) rfl (EV.cast (ev_sumVals (ev_var (i := 1) rfl)) (Option.some.inj h_total_3)) (kx_ _ _ ?_))
    refine SB.seqB (fun kx_ => sb_dnewK (κ := Str) (β := Int) (sl' := fun p_found_4 => [sv room_1, sv weights_2, sv total_3, .at p_found_4, .any, .any, .any, .any, .any]) rfl (fun _ => rfl) (fun p_found_4 => (kx_ _ _ ?_)))
    obtain ⟨rests_5, h_rests_5, hf⟩ := bind_some hf
    refine SB.seqB (fun kx_ => sb_asgO (sl' := fun p_rests_5 => [sv room_1, sv weights_2, sv total_3, .at p_found_4, .at p_rests_5, .any, .any, .any, .any]) (fun _ => rfl) (EN.cast (en_lst el_nil) (Option.some.inj h_rests_5)) (fun p_rests_5 => (kx_ _ _ ?_)))
    obtain ⟨sk_6, h_sk_6, hf⟩ := bind_some hf
    obtain ⟨⟨rests_22, found_23⟩, h_tot_14, hf⟩ := bind_some hf
    refine SB.seqB (fun kx_24 => sb_for (β := Str) (Sx := (List (Int × Str × Unit)) × (Dc Str Int)) (fun s => [sv room_1, sv weights_2, sv total_3, .at p_found_4, .at p_rests_5, .any, .any, .any, .any]) (fun s => [ol p_rests_5 s.1, oo p_found_4 s.2]) (fun x s => [sv room_1, sv weights_2, sv total_3, .at p_found_4, .at p_rests_5, sv x, .any, .any, .any]) [5] (fun xs s => forS (m_deal_L1 room_1 weights_2 total_3) xs s = some (rests_22, found_23)) (rests_5, (Dc.mk ([] : List (Str × Int)))) (IT.m (it_list (EN.ev (en_cb (ea_cons (ev_var (i := 1) rfl) ea_nil) (rc_sortK h_sk_6))))) h_tot_14 (.keep (.keep (.keep (.keep (.keep (.keep (.keep (.keep (.keep .nil))))))))) (List.Sublist.refl _) (fun x s => (gt_name rfl)) ?_ ?_)
    · intro Kn1 b1 name_9 rest_ s_ hP_11 N_ hN_10
      obtain ⟨rests_7, found_8⟩ := s_
      obtain ⟨c_, hc_12, hP_11⟩ := bind_some hP_11
      have q_13 := q.base b1
      unfold m_deal_L1 at hc_12
      refine SB.is (sl' := [sv room_1, sv weights_2, sv total_3, .at p_found_4, .at p_rests_5, sv name_9, .any, .any, .any]) (ow1 := [ol p_rests_5 rests_7, oo p_found_4 found_8]) rfl rfl ?_
      obtain ⟨i_15, h_i_15, hc_12⟩ := bind_some hc_12
      obtain ⟨m_16, h_m_16, hc_12⟩ := bind_some hc_12
      obtain ⟨dm_17, h_dm_17, hc_12⟩ := bind_some hc_12
      obtain ⟨⟨part_18, rest_19, _⟩, h_part_18, hc_12⟩ := bind_some hc_12
      refine SB.seqB (fun kx_ => sb_unp (sl' := [sv room_1, sv weights_2, sv total_3, .at p_found_4, .at p_rests_5, sv name_9, sv part_18, sv rest_19, .any]) (EV.cast (ev_cb (ea_cons (ev_op (ev_var (i := 0) rfl) (ev_dget (ev_var (i := 1) rfl) (ev_var (i := 5) rfl) h_i_15) (r2_mulO h_m_16)) (ea_cons (ev_var (i := 2) rfl) ea_nil)) (rc_divmod h_dm_17)) (Option.some.inj h_part_18)) (gt_tup (gts_cons (gt_name rfl) (gts_cons (gt_name rfl) gts_nil))) (kx_ _ _ ?_))
      obtain ⟨found_20, h_found_20, hc_12⟩ := bind_some hc_12
      refine SB.seqB (fun kx_ => sb_dput (i := 3) (j := 1) rfl rfl (ev_var (i := 6) rfl) (ev_var (i := 5) rfl) h_found_20 (ow1 := [ol p_rests_5 rests_7, oo p_found_4 found_20]) rfl (kx_ _ _ ?_))
      obtain ⟨rests_21, h_rests_21, hc_12⟩ := bind_some hc_12
      refine sb_appO (i := 4) (j := 0) rfl rfl (ev_tup (ea_cons (ev_un (ev_var (i := 7) rfl) r1_neg) (ea_cons (ev_var (i := 5) rfl) ea_nil))) h_rests_21 (ow1 := [ol p_rests_5 rests_21, oo p_found_4 found_20]) rfl ?_
      cases hc_12
      exact fun σ Kn H s => hN_10 _ hP_11 σ Kn H ((s.le (.keep (.keep (.keep (.keep (.keep (.drop (.drop (.drop (.keep .nil)))))))))).sub (List.Sublist.refl _))
    · intro s_ h0
      cases h0
      refine kx_24 _ _ ?_
      refine SB.is (sl' := [sv room_1, sv weights_2, sv total_3, .at p_found_4, .at p_rests_5, .any, .any, .any, .any]) (ow1 := [ol p_rests_5 rests_22, oo p_found_4 found_23]) rfl rfl ?_
      obtain ⟨left_25, h_left_25, hf⟩ := bind_some hf
      refine SB.seqB (fun kx_ => sb_asg (sl' := [sv room_1, sv weights_2, sv total_3, .at p_found_4, .at p_rests_5, .any, .any, .any, sv left_25]) rfl (EV.cast (ev_op (ev_var (i := 0) rfl) (ev_borG (i := 3) (j := 1) (sl' := [sv room_1, sv weights_2, sv total_3, sv found_23, .at p_rests_5, .any, .any, .any, .any]) (ow1 := [ol p_rests_5 rests_22]) rfl rfl rfl rfl (ev_sumVals (ev_var (i := 3) rfl))) r2_sub) (Option.some.inj h_left_25)) (kx_ _ _ ?_))
      refine sb_freeze (i := 4) (j := 0) (sl' := [sv room_1, sv weights_2, sv total_3, .at p_found_4, sv rests_22, .any, .any, .any, sv left_25]) (ow1 := [oo p_found_4 found_23]) rfl rfl rfl rfl ?_
      obtain ⟨sd_26, h_sd_26, hf⟩ := bind_some hf
      obtain ⟨found_37, h_tot_34, hf⟩ := bind_some hf
      refine SB.seqB (fun kx_38 => sb_for (β := (Int × Str × Unit)) (Sx := (Dc Str Int)) (fun s => [sv room_1, sv weights_2, sv total_3, .at p_found_4, sv rests_22, .any, .any, .any, sv left_25]) (fun s => [oo p_found_4 s]) (fun x s => [sv room_1, sv weights_2, sv total_3, .at p_found_4, sv rests_22, sv x.2.1, .any, sv x.1, sv left_25]) [7, 5] (fun xs s => forS (m_deal_L2) xs s = some found_37) found_23 (IT.m (it_list (EN.ev (en_sl (EN.ev (en_cb (ea_cons (ev_var (i := 4) rfl) ea_nil) (rc_sortD h_sd_26))) eo_none (eo_some (ev_var (i := 8) rfl)))))) h_tot_34 (.keep (.keep (.keep (.keep (.keep (.keep (.keep (.keep (.keep .nil))))))))) (List.Sublist.refl _) (fun x s => (gt_tup (gts_cons (gt_name rfl) (gts_cons (gt_name rfl) gts_nil)))) ?_ ?_)
      · intro Kn1 b1 x_ rest_ found_27 hP_31 N_ hN_30
        obtain ⟨rest_28, name_29, _⟩ := x_
        obtain ⟨c_, hc_32, hP_31⟩ := bind_some hP_31
        have q_33 := q.base b1
        unfold m_deal_L2 at hc_32
        refine SB.is (sl' := [sv room_1, sv weights_2, sv total_3, .at p_found_4, sv rests_22, sv name_29, .any, sv rest_28, sv left_25]) (ow1 := [oo p_found_4 found_27]) rfl rfl ?_
        obtain ⟨y_35, h_y_35, hc_32⟩ := bind_some hc_32
        obtain ⟨found_36, h_found_36, hc_32⟩ := bind_some hc_32
        refine sb_daug (i := 3) (j := 0) rfl rfl (ev_var (i := 5) rfl) h_y_35 (ev_int 1) h_found_36 (ow1 := [oo p_found_4 found_36]) rfl ?_
        cases hc_32
        exact fun σ Kn H s => hN_30 _ hP_31 σ Kn H ((s.le (.keep (.keep (.keep (.keep (.keep (.drop (.keep (.drop (.keep .nil)))))))))).sub (List.Sublist.refl _))
      · intro s_ h0
        cases h0
        refine kx_38 _ _ ?_
        refine SB.is (sl' := [sv room_1, sv weights_2, sv total_3, .at p_found_4, sv rests_22, .any, .any, .any, sv left_25]) (ow1 := [oo p_found_4 found_37]) rfl rfl ?_
        refine sb_freezeG (i := 3) (j := 0) (sl' := [sv room_1, sv weights_2, sv total_3, sv found_37, sv rests_22, .any, .any, .any, sv left_25]) (ow1 := []) rfl rfl rfl rfl ?_
        cases hf
        exact sb_ret (ev_var (i := 3) rfl) q (List.Sublist.refl _)
theorem sc_gaps_in : FnScope ["gap", "many"] ["gap", "many"] (defScope s_gaps_in) := ⟨rfl, rfl, rfl, by decide +kernel, rfl, by decide +kernel, by decide +kernel⟩
set_option maxHeartbeats 4000000 in
theorem ok_gaps_in (T : TX K mg) : FnOk P w K mg base CX0 1 T.a_gaps_in T.d_gaps_in ["gap", "many"] (PF (τ := Int × Int × Unit) K (fun t => m_gaps_in t.1 t.2.1)) := by
  refine T.F_gaps_in.ok sc_gaps_in (fun vs H Q E h => ?_) (fun cdv A outer s H vs Q E hr h => ?_)
  · obtain ⟨Kn, t, r, ek, h, hf, q⟩ := h
    exact Tp.len h
  · obtain ⟨Kn, t, r_, ek, h, hf, q⟩ := h
    obtain ⟨gap_39, many_40, u_⟩ := t
    obtain ⟨v_0, rr_, rfl, hv_0, h⟩ := h
    obtain ⟨v_1, rr_, rfl, hv_1, h⟩ := h
    obtain rfl := h
    replace hf : m_gaps_in gap_39 many_40 = some r_ := hf
    unfold m_gaps_in at hf
    refine ⟨_, (pss_one (ps_ret (pe_op op_mul (pv 0) (pe_callB k_max2 (by rfl) T.z_max (by decide +kernel) (pa_cons pe_int (pa_cons (pe_op op_sub (pv 1) pe_int) pa_nil)))))), ?_⟩
    refine enter (Kn := Kn) (sl := [sv gap_39, sv many_40]) ek ⟨⟨v_0, rfl, hv_0⟩, ⟨v_1, rfl, hv_1⟩, trivial⟩ ?_
    have q := rt_of q
    obtain ⟨m_41, h_m_41, hf⟩ := bind_some hf
    cases hf
    exact sb_ret (ev_op (ev_var (i := 0) rfl) (ev_cb (ea_cons (ev_int 0) (ea_cons (ev_op (ev_var (i := 1) rfl) (ev_int 1) r2_sub) ea_nil)) rc_max) (r2_mulO h_m_41)) q (List.Sublist.refl _)
theorem sc_track_name : FnScope ["number"] ["number"] (defScope s_track_name) := ⟨rfl, rfl, rfl, by decide +kernel, rfl, by decide +kernel, by decide +kernel⟩
set_option maxHeartbeats 4000000 in
theorem ok_track_name (T : TX K mg) : FnOk P w K mg base CX0 1 T.a_track_name T.d_track_name ["number"] (PF (τ := Int × Unit) K (fun t => m_track_name t.1)) := by
  refine T.F_track_name.ok sc_track_name (fun vs H Q E h => ?_) (fun cdv A outer s H vs Q E hr h => ?_)
  · obtain ⟨Kn, t, r, ek, h, hf, q⟩ := h
    exact Tp.len h
  · obtain ⟨Kn, t, r_, ek, h, hf, q⟩ := h
    obtain ⟨number_42, u_⟩ := t
    obtain ⟨v_0, rr_, rfl, hv_0, h⟩ := h
    obtain rfl := h
    replace hf : m_track_name number_42 = some r_ := hf
    unfold m_track_name at hf
    refine ⟨_, (pss_one (ps_ret (pe_bm PySem.F.plainAttrs_str PySem.F.slot_str_zfill PySem.F.type_str_zfill mt_zfill (pe_callTy call_str_int (by rfl) T.z_str (by decide +kernel) (pa_cons (pv 0) pa_nil)) (pa_cons pe_int pa_nil)))), ?_⟩
    refine enter (Kn := Kn) (sl := [sv number_42]) ek ⟨⟨v_0, rfl, hv_0⟩, trivial⟩ ?_
    have q := rt_of q
    obtain ⟨sn_43, h_sn_43, hf⟩ := bind_some hf
    obtain ⟨z_44, h_z_44, hf⟩ := bind_some hf
    cases hf
    exact sb_ret (ev_zfill (ev_cb (ea_cons (ev_var (i := 0) rfl) ea_nil) (rc_strI h_sn_43)) (ev_int 2) h_z_44) q (List.Sublist.refl _)
theorem sc_track_weights : FnScope ["first", "spanned", "weights", "number"] ["first", "spanned"] (defScope s_track_weights) := ⟨rfl, rfl, rfl, by decide +kernel, rfl, by decide +kernel, by decide +kernel⟩
set_option maxHeartbeats 4000000 in
theorem ok_track_weights (T : TX K mg) : FnOk P w K mg base CX0 2 T.a_track_weights T.d_track_weights ["first", "spanned"] (PF (τ := Int × Int × Unit) K (fun t => m_track_weights t.1 t.2.1)) := by
  refine T.F_track_weights.ok sc_track_weights (fun vs H Q E h => ?_) (fun cdv A outer s H vs Q E hr h => ?_)
  · obtain ⟨Kn, t, r, ek, h, hf, q⟩ := h
    exact Tp.len h
  · obtain ⟨Kn, t, r_, ek, h, hf, q⟩ := h
    obtain ⟨first_45, spanned_46, u_⟩ := t
    obtain ⟨v_0, rr_, rfl, hv_0, h⟩ := h
    obtain ⟨v_1, rr_, rfl, hv_1, h⟩ := h
    obtain rfl := h
    replace hf : m_track_weights first_45 spanned_46 = some r_ := hf
    unfold m_track_weights at hf
    refine ⟨_, (pss_cons (ps_set (i := 2) sc_track_weights.nd rfl (.inl rfl) pe_dnewK)
      (pss_cons (ps_for PassesOwn.never rfl (pi_range2 (by rfl) T.z_range (pa_cons (pv 0) (pa_cons (pe_op op_add (pv 0) (pv 1)) pa_nil))) (pg_name (i := 3) sc_track_weights.nd rfl (.inl rfl)) (pss_one (k_dput hr.units (pv 2) (pe_call (ok_track_name T) hr (by rfl) T.g_track_name T.F_track_name.kp T.b_track_name .nil pass0 (pa_cons (pv 3) pa_nil)) pe_int rfl)))
      (pss_one (ps_ret (pv 2))))), ?_⟩
    refine enter (Kn := Kn) (sl := [sv first_45, sv spanned_46, .any, .any]) ek ⟨⟨v_0, rfl, hv_0⟩, ⟨v_1, rfl, hv_1⟩, trivial, trivial, trivial⟩ ?_
    have q := rt_of q
    refine SB.seqB (fun kx_ => sb_dnewK (κ := Str) (β := Int) (sl' := fun p_weights_47 => [sv first_45, sv spanned_46, .at p_weights_47, .any]) rfl (fun _ => rfl) (fun p_weights_47 => (kx_ _ _ ?_)))
    obtain ⟨rg_48, h_rg_48, hf⟩ := bind_some hf
    obtain ⟨weights_58, h_tot_55, hf⟩ := bind_some hf
    refine SB.seqB (fun kx_59 => sb_for (β := Int) (Sx := (Dc Str Int)) (fun s => [sv first_45, sv spanned_46, .at p_weights_47, .any]) (fun s => [oo p_weights_47 s]) (fun x s => [sv first_45, sv spanned_46, .at p_weights_47, sv x]) [3] (fun xs s => forS (m_track_weights_L1) xs s = some weights_58) (Dc.mk ([] : List (Str × Int))) (IT.m (it_rng2 (ea_cons (ev_var (i := 0) rfl) (ea_cons (ev_op (ev_var (i := 0) rfl) (ev_var (i := 1) rfl) r2_add) ea_nil)) h_rg_48)) h_tot_55 (.keep (.keep (.keep (.keep .nil)))) (List.Sublist.refl _) (fun x s => (gt_name rfl)) ?_ ?_)
    · intro Kn1 b1 number_50 rest_ weights_49 hP_52 N_ hN_51
      obtain ⟨c_, hc_53, hP_52⟩ := bind_some hP_52
      have q_54 := q.base b1
      unfold m_track_weights_L1 at hc_53
      refine SB.is (sl' := [sv first_45, sv spanned_46, .at p_weights_47, sv number_50]) (ow1 := [oo p_weights_47 weights_49]) rfl rfl ?_
      obtain ⟨r_56, h_r_56, hc_53⟩ := bind_some hc_53
      obtain ⟨weights_57, h_weights_57, hc_53⟩ := bind_some hc_53
      refine sb_dput (i := 2) (j := 0) rfl rfl (ev_int 1) (ev_call (ea_cons (ev_var (i := 3) rfl) ea_nil) h_r_56) h_weights_57 (ow1 := [oo p_weights_47 weights_57]) rfl ?_
      cases hc_53
      exact fun σ Kn H s => hN_51 _ hP_52 σ Kn H ((s.le (.keep (.keep (.keep (.drop .nil))))).sub (List.Sublist.refl _))
    · intro s_ h0
      cases h0
      refine kx_59 _ _ ?_
      refine SB.is (sl' := [sv first_45, sv spanned_46, .at p_weights_47, .any]) (ow1 := [oo p_weights_47 weights_58]) rfl rfl ?_
      refine sb_freezeG (i := 2) (j := 0) (sl' := [sv first_45, sv spanned_46, sv weights_58, .any]) (ow1 := []) rfl rfl rfl rfl ?_
      cases hf
      exact sb_ret (ev_var (i := 2) rfl) q (List.Sublist.refl _)
theorem sc_alone_raised : FnScope ["floor", "asks", "numbers", "name", "first", "spanned", "amount"] ["floor", "asks"] (defScope s_alone_raised) := ⟨rfl, rfl, rfl, by decide +kernel, rfl, by decide +kernel, by decide +kernel⟩
set_option maxHeartbeats 4000000 in
theorem ok_alone_raised (T : TX K mg) : FnOk P w K mg base CX0 1 T.a_alone_raised T.d_alone_raised ["floor", "asks"] (PL (τ := (List Int) × (List (Str × Int × Int × Int × Unit)) × Unit) K (fun t => m_alone_raised t.1 t.2.1)) := by
  refine T.F_alone_raised.ok sc_alone_raised (fun vs H Q E h => ?_) (fun cdv A outer s H vs Q E hr h => ?_)
  · obtain ⟨Kn, t, r, ek, h, hf, q⟩ := h
    exact Tp.len h
  · obtain ⟨Kn, t, r_, ek, h, hf, q⟩ := h
    obtain ⟨floor_60, asks_61, u_⟩ := t
    obtain ⟨v_0, rr_, rfl, hv_0, h⟩ := h
    obtain ⟨v_1, rr_, rfl, hv_1, h⟩ := h
    obtain rfl := h
    replace hf : m_alone_raised floor_60 asks_61 = some r_ := hf
    unfold m_alone_raised at hf
    refine ⟨_, (pss_cons (ps_set (i := 2) sc_alone_raised.nd rfl (.inl rfl) (pe_callTy k_list (by rfl) T.z_list (by decide +kernel) (pa_cons (pv 0) pa_nil)))
      (pss_cons (ps_for PassesOwn.never rfl (kpi_list (pv 1)) (kpg_tup (pgs_cons (pg_name (i := 3) sc_alone_raised.nd rfl (.inl rfl)) (pgs_cons (pg_name (i := 4) sc_alone_raised.nd rfl (.inl rfl)) (pgs_cons (pg_name (i := 5) sc_alone_raised.nd rfl (.inl rfl)) (pgs_cons (pg_name (i := 6) sc_alone_raised.nd rfl (.inl rfl)) pgs_nil))))) (pss_one (ps_if (pt_cmpR op_eq (pv 5) pe_int (nomark _)) (pss_one (ps_asg (pe_callB k_max2 (by rfl) T.z_max (by decide +kernel) (pa_cons (pe_ix k_ixl (pv 2) (pv 4) (fun _ _ => rfl)) (pa_cons (pv 6) pa_nil))) (pg_sub (pv 2) (pv 4) set_list))) pss_nil)))
      (pss_one (ps_ret (pv 2))))), ?_⟩
    refine enter (Kn := Kn) (sl := [sv floor_60, sv asks_61, .any, .any, .any, .any, .any]) ek ⟨⟨v_0, rfl, hv_0⟩, ⟨v_1, rfl, hv_1⟩, trivial, trivial, trivial, trivial, trivial, trivial⟩ ?_
    have q := rn_of q
    obtain ⟨numbers_62, h_numbers_62, hf⟩ := bind_some hf
    refine SB.seqB (fun kx_ => sb_asgO (sl' := fun p_numbers_62 => [sv floor_60, sv asks_61, .at p_numbers_62, .any, .any, .any, .any]) (fun _ => rfl) (EN.cast (en_cb (ea_cons (ev_var (i := 0) rfl) ea_nil) rc_list) (Option.some.inj h_numbers_62)) (fun p_numbers_62 => (kx_ _ _ ?_)))
    obtain ⟨numbers_78, h_tot_72, hf⟩ := bind_some hf
    refine SB.seqB (fun kx_79 => sb_for (β := (Str × Int × Int × Int × Unit)) (Sx := (List Int)) (fun s => [sv floor_60, sv asks_61, .at p_numbers_62, .any, .any, .any, .any]) (fun s => [ol p_numbers_62 s]) (fun x s => [sv floor_60, sv asks_61, .at p_numbers_62, sv x.1, sv x.2.1, sv x.2.2.1, sv x.2.2.2.1]) [3, 4, 5, 6] (fun xs s => forS (m_alone_raised_L1) xs s = some numbers_78) numbers_62 (IT.m (it_list (ev_var (i := 1) rfl))) h_tot_72 (.keep (.keep (.keep (.keep (.keep (.keep (.keep .nil))))))) (List.Sublist.refl _) (fun x s => (gt_tup (gts_cons (gt_name rfl) (gts_cons (gt_name rfl) (gts_cons (gt_name rfl) (gts_cons (gt_name rfl) gts_nil)))))) ?_ ?_)
    · intro Kn1 b1 x_ rest_ numbers_63 hP_69 N_ hN_68
      obtain ⟨name_64, first_65, spanned_66, amount_67, _⟩ := x_
      obtain ⟨c_, hc_70, hP_69⟩ := bind_some hP_69
      have q_71 := q.base b1
      unfold m_alone_raised_L1 at hc_70
      refine SB.is (sl' := [sv floor_60, sv asks_61, .at p_numbers_62, sv name_64, sv first_65, sv spanned_66, sv amount_67]) (ow1 := [ol p_numbers_62 numbers_63]) rfl rfl ?_
      refine sb_if (b := (decide (spanned_66 = (1 : Int)))) (et_test (ev_op (ev_var (i := 5) rfl) (ev_int 1) r2_eqI)) (fun hb_74 => ?_) (fun hb_74 => ?_)
      · have hc_70 := ite_t hb_74 hc_70
        obtain ⟨i_76, h_i_76, hc_70⟩ := bind_some hc_70
        obtain ⟨numbers_77, h_numbers_77, hc_70⟩ := bind_some hc_70
        refine sb_setO (i := 2) (j := 0) rfl rfl (ev_bor (i := 2) (j := 0) (sl' := [sv floor_60, sv asks_61, sv numbers_63, sv name_64, sv first_65, sv spanned_66, sv amount_67]) (ow1 := []) rfl rfl rfl rfl (ev_cb (ea_cons (ev_op (ev_var (i := 2) rfl) (ev_var (i := 4) rfl) (r2_ixL h_i_76)) (ea_cons (ev_var (i := 6) rfl) ea_nil)) rc_max)) (ev_var (i := 4) rfl) h_numbers_77 (ow1 := [ol p_numbers_62 numbers_77]) rfl ?_
        cases hc_70
        exact fun σ Kn H s => hN_68 _ hP_69 σ Kn H ((s.le (.keep (.keep (.keep (.drop (.drop (.drop (.drop .nil)))))))).sub (List.Sublist.refl _))
      · have hc_70 := ite_f hb_74 hc_70
        refine sb_nx ?_
        cases hc_70
        exact fun σ Kn H s => hN_68 _ hP_69 σ Kn H ((s.le (.keep (.keep (.keep (.drop (.drop (.drop (.drop .nil)))))))).sub (List.Sublist.refl _))
    · intro s_ h0
      cases h0
      refine kx_79 _ _ ?_
      refine SB.is (sl' := [sv floor_60, sv asks_61, .at p_numbers_62, .any, .any, .any, .any]) (ow1 := [ol p_numbers_62 numbers_78]) rfl rfl ?_
      cases hf
      exact sb_retO (i := 2) (j := 0) rfl rfl q (List.Sublist.cons _ List.Sublist.slnil)
theorem sc_in_order : FnScope ["asks", "found", "spanned", "name", "first", "amount", "ask"] ["asks"] (defScope s_in_order) := ⟨rfl, rfl, rfl, by decide +kernel, rfl, by decide +kernel, by decide +kernel⟩
set_option maxHeartbeats 4000000 in
theorem ok_in_order (T : TX K mg) : FnOk P w K mg base CX0 1 T.a_in_order T.d_in_order ["asks"] (PL (τ := (List (Str × Int × Int × Int × Unit)) × Unit) K (fun t => m_in_order t.1)) := by
  refine T.F_in_order.ok sc_in_order (fun vs H Q E h => ?_) (fun cdv A outer s H vs Q E hr h => ?_)
  · obtain ⟨Kn, t, r, ek, h, hf, q⟩ := h
    exact Tp.len h
  · obtain ⟨Kn, t, r_, ek, h, hf, q⟩ := h
    obtain ⟨asks_80, u_⟩ := t
    obtain ⟨v_0, rr_, rfl, hv_0, h⟩ := h
    obtain rfl := h
    replace hf : m_in_order asks_80 = some r_ := hf
    unfold m_in_order at hf
    refine ⟨_, (pss_cons (ps_set (i := 1) sc_in_order.nd rfl (.inl rfl) (pe_lst pa_nil))
      (pss_cons (ps_for PassesOwn.never rfl (kpi_list (pe_callB (k_sortedD hr.units) (by rfl) T.z_sorted (by decide +kernel) (pa_cons (pe_lc (own := [("ask", 6)]) (g := gName 6) (by rfl) sc_in_order.nd (kpi_list (pv 0)) (blkOk_by (own := [("ask", 6)]) (N := ["asks", "found", "spanned", "name", "first", "amount", "ask"]) (sc := defScope s_in_order) (by decide +kernel)) (fun _ _ _ _ _ => (pg_name (i := 6) sc_in_order.nd rfl (Or.inl rfl))) (fun _ _ _ _ _ => pts_one (pt_cmpR op_gt (pe_ix k_ixt (pv 6) pe_int (fun _ _ => rfl)) pe_int (nomark _))) (fun _ _ _ _ _ => (pe_tup (pa_cons (pe_ix k_ixt (pv 6) pe_int (fun _ _ => rfl)) (pa_cons (pe_ix k_ixt (pv 6) pe_int (fun _ _ => rfl)) (pa_cons (pe_ix k_ixt (pv 6) pe_int (fun _ _ => rfl)) (pa_cons (pe_ix k_ixt (pv 6) pe_int (fun _ _ => rfl)) pa_nil))))))) pa_nil))) (kpg_tup (pgs_cons (pg_name (i := 2) sc_in_order.nd rfl (.inl rfl)) (pgs_cons (pg_name (i := 3) sc_in_order.nd rfl (.inl rfl)) (pgs_cons (pg_name (i := 4) sc_in_order.nd rfl (.inl rfl)) (pgs_cons (pg_name (i := 5) sc_in_order.nd rfl (.inl rfl)) pgs_nil))))) (pss_one (ps_expr (pe_bm PySem.F.plainAttrs_list PySem.F.slot_list_append PySem.F.type_list_append mt_append (pv 1) (pa_cons (pe_tup (pa_cons (pv 3) (pa_cons (pv 4) (pa_cons (pv 2) (pa_cons (pv 5) pa_nil))))) pa_nil)))))
      (pss_one (ps_ret (pv 1))))), ?_⟩
    refine enter (Kn := Kn) (sl := [sv asks_80, .any, .any, .any, .any, .any, .any]) ek ⟨⟨v_0, rfl, hv_0⟩, trivial, trivial, trivial, trivial, trivial, trivial, trivial⟩ ?_
    have q := rn_of q
    obtain ⟨found_81, h_found_81, hf⟩ := bind_some hf
    refine SB.seqB (fun kx_ => sb_asgO (sl' := fun p_found_81 => [sv asks_80, .at p_found_81, .any, .any, .any, .any, .any]) (fun _ => rfl) (EN.cast (en_lst el_nil) (Option.some.inj h_found_81)) (fun p_found_81 => (kx_ _ _ ?_)))
    obtain ⟨zs_83, h_zs_83, hf⟩ := bind_some hf
    obtain ⟨sd_84, h_sd_84, hf⟩ := bind_some hf
    obtain ⟨found_96, h_tot_94, hf⟩ := bind_some hf
    refine SB.seqB (fun kx_97 => sb_for (β := (Int × Str × Int × Int × Unit)) (Sx := (List (Str × Int × Int × Int × Unit))) (fun s => [sv asks_80, .at p_found_81, .any, .any, .any, .any, .any]) (fun s => [ol p_found_81 s]) (fun x s => [sv asks_80, .at p_found_81, sv x.1, sv x.2.1, sv x.2.2.1, sv x.2.2.2.1, .any]) [2, 3, 4, 5] (fun xs s => forS (m_in_order_L1) xs s = some found_96) found_81 (IT.m (it_list (EN.ev (en_cb (ea_cons (EN.ev (en_lc (js := [6]) (fun x => [sv asks_80, .at p_found_81, .any, .any, .any, .any, sv x]) h_zs_83 (it_list (ev_var (i := 0) rfl)) (anyAt_of (by rfl)) (fun x => (gt_name rfl)) (sub_of (by rfl)) (fun _ _ x b h => by obtain ⟨ask_82, hx_⟩ : ∃ y, y = x := ⟨x, rfl⟩; subst hx_; have hz_ := Option.some.inj h; subst hz_; exact ET.is (sl' := [sv asks_80, .at p_found_81, .any, .any, .any, .any, sv ask_82]) rfl (et_test (ev_op (ev_op (ev_var (i := 6) rfl) (ev_int 2) (r2_tix (n := 2) (At.s _ (At.s _ (At.z _ _))))) (ev_int 1) r2_gt))) (fun _ _ x z _ h => by obtain ⟨ask_82, hx_⟩ : ∃ y, y = x := ⟨x, rfl⟩; subst hx_; have hz_ := Option.some.inj h; subst hz_; exact EV.is (sl' := [sv asks_80, .at p_found_81, .any, .any, .any, .any, sv ask_82]) rfl (ev_tup (ea_cons (ev_op (ev_var (i := 6) rfl) (ev_int 2) (r2_tix (n := 2) (At.s _ (At.s _ (At.z _ _))))) (ea_cons (ev_op (ev_var (i := 6) rfl) (ev_int 0) (r2_tix (n := 0) (At.z _ _))) (ea_cons (ev_op (ev_var (i := 6) rfl) (ev_int 1) (r2_tix (n := 1) (At.s _ (At.z _ _)))) (ea_cons (ev_op (ev_var (i := 6) rfl) (ev_int 3) (r2_tix (n := 3) (At.s _ (At.s _ (At.s _ (At.z _ _)))))) ea_nil)))))))) ea_nil) (rc_sortD h_sd_84))))) h_tot_94 (.keep (.keep (.keep (.keep (.keep (.keep (.keep .nil))))))) (List.Sublist.refl _) (fun x s => (gt_tup (gts_cons (gt_name rfl) (gts_cons (gt_name rfl) (gts_cons (gt_name rfl) (gts_cons (gt_name rfl) gts_nil)))))) ?_ ?_)
    · intro Kn1 b1 x_ rest_ found_85 hP_91 N_ hN_90
      obtain ⟨spanned_86, name_87, first_88, amount_89, _⟩ := x_
      obtain ⟨c_, hc_92, hP_91⟩ := bind_some hP_91
      have q_93 := q.base b1
      unfold m_in_order_L1 at hc_92
      refine SB.is (sl' := [sv asks_80, .at p_found_81, sv spanned_86, sv name_87, sv first_88, sv amount_89, .any]) (ow1 := [ol p_found_81 found_85]) rfl rfl ?_
      obtain ⟨found_95, h_found_95, hc_92⟩ := bind_some hc_92
      refine sb_appO (i := 1) (j := 0) rfl rfl (ev_tup (ea_cons (ev_var (i := 3) rfl) (ea_cons (ev_var (i := 4) rfl) (ea_cons (ev_var (i := 2) rfl) (ea_cons (ev_var (i := 5) rfl) ea_nil))))) h_found_95 (ow1 := [ol p_found_81 found_95]) rfl ?_
      cases hc_92
      exact fun σ Kn H s => hN_90 _ hP_91 σ Kn H ((s.le (.keep (.keep (.drop (.drop (.drop (.drop (.keep .nil)))))))).sub (List.Sublist.refl _))
    · intro s_ h0
      cases h0
      refine kx_97 _ _ ?_
      refine SB.is (sl' := [sv asks_80, .at p_found_81, .any, .any, .any, .any, .any]) (ow1 := [ol p_found_81 found_96]) rfl rfl ?_
      cases hf
      exact sb_retO (i := 1) (j := 0) rfl rfl q (List.Sublist.cons _ List.Sublist.slnil)
theorem sc_lack_of : FnScope ["numbers", "gap", "ask", "name", "first", "spanned", "amount"] ["numbers", "gap", "ask"] (defScope s_lack_of) := ⟨rfl, rfl, rfl, by decide +kernel, rfl, by decide +kernel, by decide +kernel⟩
set_option maxHeartbeats 4000000 in
theorem ok_lack_of (T : TX K mg) : FnOk P w K mg base CX0 2 T.a_lack_of T.d_lack_of ["numbers", "gap", "ask"] (PF (τ := (List Int) × Int × (Str × Int × Int × Int × Unit) × Unit) K (fun t => m_lack_of t.1 t.2.1 t.2.2.1)) := by
  refine T.F_lack_of.ok sc_lack_of (fun vs H Q E h => ?_) (fun cdv A outer s H vs Q E hr h => ?_)
  · obtain ⟨Kn, t, r, ek, h, hf, q⟩ := h
    exact Tp.len h
  · obtain ⟨Kn, t, r_, ek, h, hf, q⟩ := h
    obtain ⟨numbers_98, gap_99, ask_100, u_⟩ := t
    obtain ⟨v_0, rr_, rfl, hv_0, h⟩ := h
    obtain ⟨v_1, rr_, rfl, hv_1, h⟩ := h
    obtain ⟨v_2, rr_, rfl, hv_2, h⟩ := h
    obtain rfl := h
    replace hf : m_lack_of numbers_98 gap_99 ask_100 = some r_ := hf
    unfold m_lack_of at hf
    refine ⟨_, (pss_cons (ps_asg (pv 2) (kpg_tup (pgs_cons (pg_name (i := 3) sc_lack_of.nd rfl (.inl rfl)) (pgs_cons (pg_name (i := 4) sc_lack_of.nd rfl (.inl rfl)) (pgs_cons (pg_name (i := 5) sc_lack_of.nd rfl (.inl rfl)) (pgs_cons (pg_name (i := 6) sc_lack_of.nd rfl (.inl rfl)) pgs_nil))))))
      (pss_one (ps_ret (pe_op op_sub (pe_op op_sub (pv 6) (pe_callB k_sum (by rfl) T.z_sum (by decide +kernel) (pa_cons (pe_slice k_sll (pv 0) (po_some (pv 4)) (po_some (pe_op op_add (pv 4) (pv 5)))) pa_nil))) (pe_call (ok_gaps_in T) hr (by rfl) T.g_gaps_in T.F_gaps_in.kp T.b_gaps_in .nil pass0 (pa_cons (pv 1) (pa_cons (pv 5) pa_nil))))))), ?_⟩
    refine enter (Kn := Kn) (sl := [sv numbers_98, sv gap_99, sv ask_100, .any, .any, .any, .any]) ek ⟨⟨v_0, rfl, hv_0⟩, ⟨v_1, rfl, hv_1⟩, ⟨v_2, rfl, hv_2⟩, trivial, trivial, trivial, trivial, trivial⟩ ?_
    have q := rt_of q
    obtain ⟨⟨name_101, first_102, spanned_103, amount_104, _⟩, h_name_101, hf⟩ := bind_some hf
    refine SB.seqB (fun kx_ => sb_unp (sl' := [sv numbers_98, sv gap_99, sv ask_100, sv name_101, sv first_102, sv spanned_103, sv amount_104]) (EV.cast (ev_var (i := 2) rfl) (Option.some.inj h_name_101)) (gt_tup (gts_cons (gt_name rfl) (gts_cons (gt_name rfl) (gts_cons (gt_name rfl) (gts_cons (gt_name rfl) gts_nil))))) (kx_ _ _ ?_))
    obtain ⟨r_105, h_r_105, hf⟩ := bind_some hf
    cases hf
    exact sb_ret (ev_op (ev_op (ev_var (i := 6) rfl) (ev_cb (ea_cons (EN.ev (en_sl (ev_var (i := 0) rfl) (eo_some (ev_var (i := 4) rfl)) (eo_some (ev_op (ev_var (i := 4) rfl) (ev_var (i := 5) rfl) r2_add)))) ea_nil) rc_sum) r2_sub) (ev_call (ea_cons (ev_var (i := 1) rfl) (ea_cons (ev_var (i := 5) rfl) ea_nil)) h_r_105) r2_sub) q (List.Sublist.refl _)
theorem sc_raise_tracks : FnScope ["many", "gap", "floor", "asks", "numbers", "raises", "ask", "lack", "cells", "number"] ["many", "gap", "floor", "asks"] (defScope s_raise_tracks) := ⟨rfl, rfl, rfl, by decide +kernel, rfl, by decide +kernel, by decide +kernel⟩
set_option maxHeartbeats 4000000 in
theorem ok_raise_tracks (T : TX K mg) : FnOk P w K mg base CX0 3 T.a_raise_tracks T.d_raise_tracks ["many", "gap", "floor", "asks"] (PF (τ := Int × Int × (List Int) × (List (Str × Int × Int × Int × Unit)) × Unit) K (fun t => m_raise_tracks t.1 t.2.1 t.2.2.1 t.2.2.2.1)) := by
  refine T.F_raise_tracks.ok sc_raise_tracks (fun vs H Q E h => ?_) (fun cdv A outer s H vs Q E hr h => ?_)
  · obtain ⟨Kn, t, r, ek, h, hf, q⟩ := h
    exact Tp.len h
  · obtain ⟨Kn, t, r_, ek, h, hf, q⟩ := h
    obtain ⟨many_106, gap_107, floor_108, asks_109, u_⟩ := t
    obtain ⟨v_0, rr_, rfl, hv_0, h⟩ := h
    obtain ⟨v_1, rr_, rfl, hv_1, h⟩ := h
    obtain ⟨v_2, rr_, rfl, hv_2, h⟩ := h
    obtain ⟨v_3, rr_, rfl, hv_3, h⟩ := h
    obtain rfl := h
    replace hf : m_raise_tracks many_106 gap_107 floor_108 asks_109 = some r_ := hf
    unfold m_raise_tracks at hf
    refine ⟨_, (pss_cons (ps_set (i := 4) sc_raise_tracks.nd rfl (.inl rfl) (pe_call (ok_alone_raised T) (hr.mono (by decide)) (by rfl) T.g_alone_raised T.F_alone_raised.kp T.b_alone_raised .nil pass0 (pa_cons (pv 2) (pa_cons (pv 3) pa_nil))))
      (pss_cons (ps_set (i := 5) sc_raise_tracks.nd rfl (.inl rfl) (pe_lst pa_nil))
      (pss_cons (ps_for PassesOwn.never rfl (kpi_list (pe_call (ok_in_order T) (hr.mono (by decide)) (by rfl) T.g_in_order T.F_in_order.kp T.b_in_order .nil pass0 (pa_cons (pv 3) pa_nil))) (pg_name (i := 6) sc_raise_tracks.nd rfl (.inl rfl)) (pss_cons (ps_set (i := 7) sc_raise_tracks.nd rfl (.inl rfl) (pe_call (ok_lack_of T) hr (by rfl) T.g_lack_of T.F_lack_of.kp T.b_lack_of .nil pass0 (pa_cons (pv 4) (pa_cons (pv 1) (pa_cons (pv 6) pa_nil)))))
      (pss_one (ps_if (pt_cmpR op_gt (pv 7) pe_int (nomark _)) (pss_cons (ps_set (i := 8) sc_raise_tracks.nd rfl (.inl rfl) (pe_call (ok_deal T) (hr.mono (by decide)) (by rfl) T.g_deal T.F_deal.kp T.b_deal .nil pass0 (pa_cons (pv 7) (pa_cons (pe_call (ok_track_weights T) hr (by rfl) T.g_track_weights T.F_track_weights.kp T.b_track_weights .nil pass0 (pa_cons (pe_ix k_ixt (pv 6) pe_int (fun _ _ => rfl)) (pa_cons (pe_ix k_ixt (pv 6) pe_int (fun _ _ => rfl)) pa_nil))) pa_nil))))
      (pss_one (ps_for PassesOwn.never rfl (pi_range2 (by rfl) T.z_range (pa_cons (pe_ix k_ixt (pv 6) pe_int (fun _ _ => rfl)) (pa_cons (pe_op op_add (pe_ix k_ixt (pv 6) pe_int (fun _ _ => rfl)) (pe_ix k_ixt (pv 6) pe_int (fun _ _ => rfl))) pa_nil))) (pg_name (i := 9) sc_raise_tracks.nd rfl (.inl rfl)) (pss_one (ps_if (pt_cmpR op_gt (k_dget hr.units (pv 8) (pe_call (ok_track_name T) (hr.mono (by decide)) (by rfl) T.g_track_name T.F_track_name.kp T.b_track_name .nil pass0 (pa_cons (pv 9) pa_nil)) (fun _ _ => rfl)) pe_int (nomark _)) (pss_cons (ps_expr (pe_bm PySem.F.plainAttrs_list PySem.F.slot_list_append PySem.F.type_list_append mt_append (pv 5) (pa_cons (pe_tup (pa_cons (pe_ix k_ixt (pv 6) pe_int (fun _ _ => rfl)) (pa_cons (pv 9) (pa_cons (k_dget hr.units (pv 8) (pe_call (ok_track_name T) (hr.mono (by decide)) (by rfl) T.g_track_name T.F_track_name.kp T.b_track_name .nil pass0 (pa_cons (pv 9) pa_nil)) (fun _ _ => rfl)) pa_nil)))) pa_nil)))
      (pss_one (ps_augS (pv 4) (pv 9) k_listGet (k_dget hr.units (pv 8) (pe_call (ok_track_name T) (hr.mono (by decide)) (by rfl) T.g_track_name T.F_track_name.kp T.b_track_name .nil pass0 (pa_cons (pv 9) pa_nil)) (fun _ _ => rfl)) ip_add set_list))) pss_nil))))) pss_nil))))
      (pss_one (ps_ret (pe_tup (pa_cons (pv 4) (pa_cons (pv 5) pa_nil)))))))), ?_⟩
    refine enter (Kn := Kn) (sl := [sv many_106, sv gap_107, sv floor_108, sv asks_109, .any, .any, .any, .any, .any, .any]) ek ⟨⟨v_0, rfl, hv_0⟩, ⟨v_1, rfl, hv_1⟩, ⟨v_2, rfl, hv_2⟩, ⟨v_3, rfl, hv_3⟩, trivial, trivial, trivial, trivial, trivial, trivial, trivial⟩ ?_
    have q := rt_of q
    obtain ⟨r_110, h_r_110, hf⟩ := bind_some hf
    obtain ⟨numbers_111, h_numbers_111, hf⟩ := bind_some hf
    refine SB.seqB (fun kx_ => sb_asgO (sl' := fun p_numbers_111 => [sv many_106, sv gap_107, sv floor_108, sv asks_109, .at p_numbers_111, .any, .any, .any, .any, .any]) (fun _ => rfl) (EN.cast (en_call (ea_cons (ev_var (i := 2) rfl) (ea_cons (ev_var (i := 3) rfl) ea_nil)) h_r_110) (Option.some.inj h_numbers_111)) (fun p_numbers_111 => (kx_ _ _ ?_)))
    obtain ⟨raises_112, h_raises_112, hf⟩ := bind_some hf
    refine SB.seqB (fun kx_ => sb_asgO (sl' := fun p_raises_112 => [sv many_106, sv gap_107, sv floor_108, sv asks_109, .at p_numbers_111, .at p_raises_112, .any, .any, .any, .any]) (fun _ => rfl) (EN.cast (en_lst el_nil) (Option.some.inj h_raises_112)) (fun p_raises_112 => (kx_ _ _ ?_)))
    obtain ⟨r_113, h_r_113, hf⟩ := bind_some hf
    obtain ⟨⟨raises_154, numbers_155⟩, h_tot_121, hf⟩ := bind_some hf
    refine SB.seqB (fun kx_156 => sb_for (β := (Str × Int × Int × Int × Unit)) (Sx := (List (Str × Int × Int × Unit)) × (List Int)) (fun s => [sv many_106, sv gap_107, sv floor_108, sv asks_109, .at p_numbers_111, .at p_raises_112, .any, .any, .any, .any]) (fun s => [ol p_raises_112 s.1, ol p_numbers_111 s.2]) (fun x s => [sv many_106, sv gap_107, sv floor_108, sv asks_109, .at p_numbers_111, .at p_raises_112, sv x, .any, .any, .any]) [6] (fun xs s => forS (m_raise_tracks_L1 gap_107) xs s = some (raises_154, numbers_155)) (raises_112, numbers_111) (IT.m (it_list (EN.ev (en_call (ea_cons (ev_var (i := 3) rfl) ea_nil) h_r_113)))) h_tot_121 (.keep (.keep (.keep (.keep (.keep (.keep (.keep (.keep (.keep (.keep .nil)))))))))) (List.Sublist.refl _) (fun x s => (gt_name rfl)) ?_ ?_)
    · intro Kn1 b1 ask_116 rest_ s_ hP_118 N_ hN_117
      obtain ⟨raises_114, numbers_115⟩ := s_
      obtain ⟨c_, hc_119, hP_118⟩ := bind_some hP_118
      have q_120 := q.base b1
      unfold m_raise_tracks_L1 at hc_119
      refine SB.is (sl' := [sv many_106, sv gap_107, sv floor_108, sv asks_109, .at p_numbers_111, .at p_raises_112, sv ask_116, .any, .any, .any]) (ow1 := [ol p_raises_112 raises_114, ol p_numbers_111 numbers_115]) rfl rfl ?_
      obtain ⟨r_122, h_r_122, hc_119⟩ := bind_some hc_119
      obtain ⟨lack_123, h_lack_123, hc_119⟩ := bind_some hc_119
      refine SB.seqB (fun kx_ => sb_asg (sl' := [sv many_106, sv gap_107, sv floor_108, sv asks_109, .at p_numbers_111, .at p_raises_112, sv ask_116, sv lack_123, .any, .any]) rfl (EV.cast (ev_bor (i := 4) (j := 1) (sl' := [sv many_106, sv gap_107, sv floor_108, sv asks_109, sv numbers_115, .at p_raises_112, sv ask_116, .any, .any, .any]) (ow1 := [ol p_raises_112 raises_114]) rfl rfl rfl rfl (ev_call (ea_cons (ev_var (i := 4) rfl) (ea_cons (ev_var (i := 1) rfl) (ea_cons (ev_var (i := 6) rfl) ea_nil))) h_r_122)) (Option.some.inj h_lack_123)) (kx_ _ _ ?_))
      refine sb_if (b := (decide ((0 : Int) < lack_123))) (et_test (ev_op (ev_var (i := 7) rfl) (ev_int 0) r2_gt)) (fun hb_125 => ?_) (fun hb_125 => ?_)
      · have hc_119 := ite_t hb_125 hc_119
        obtain ⟨r_127, h_r_127, hc_119⟩ := bind_some hc_119
        obtain ⟨r_128, h_r_128, hc_119⟩ := bind_some hc_119
        obtain ⟨cells_129, h_cells_129, hc_119⟩ := bind_some hc_119
        refine SB.seqB (fun kx_ => sb_asg (sl' := [sv many_106, sv gap_107, sv floor_108, sv asks_109, .at p_numbers_111, .at p_raises_112, sv ask_116, sv lack_123, sv cells_129, .any]) rfl (EV.cast (ev_call (ea_cons (ev_var (i := 7) rfl) (ea_cons (ev_call (ea_cons (ev_op (ev_var (i := 6) rfl) (ev_int 1) (r2_tix (n := 1) (At.s _ (At.z _ _)))) (ea_cons (ev_op (ev_var (i := 6) rfl) (ev_int 2) (r2_tix (n := 2) (At.s _ (At.s _ (At.z _ _))))) ea_nil)) h_r_127) ea_nil)) h_r_128) (Option.some.inj h_cells_129)) (kx_ _ _ ?_))
        obtain ⟨rg_130, h_rg_130, hc_119⟩ := bind_some hc_119
        obtain ⟨⟨raises_151, numbers_152⟩, h_tot_138, hc_119⟩ := bind_some hc_119
        refine sb_for (β := Int) (Sx := (List (Str × Int × Int × Unit)) × (List Int)) (fun s => [sv many_106, sv gap_107, sv floor_108, sv asks_109, .at p_numbers_111, .at p_raises_112, sv ask_116, sv lack_123, sv cells_129, .any]) (fun s => [ol p_raises_112 s.1, ol p_numbers_111 s.2]) (fun x s => [sv many_106, sv gap_107, sv floor_108, sv asks_109, .at p_numbers_111, .at p_raises_112, sv ask_116, sv lack_123, sv cells_129, sv x]) [9] (fun xs s => forS (m_raise_tracks_L2 ask_116 cells_129) xs s = some (raises_151, numbers_152)) (raises_114, numbers_115) (IT.m (it_rng2 (ea_cons (ev_op (ev_var (i := 6) rfl) (ev_int 1) (r2_tix (n := 1) (At.s _ (At.z _ _)))) (ea_cons (ev_op (ev_op (ev_var (i := 6) rfl) (ev_int 1) (r2_tix (n := 1) (At.s _ (At.z _ _)))) (ev_op (ev_var (i := 6) rfl) (ev_int 2) (r2_tix (n := 2) (At.s _ (At.s _ (At.z _ _))))) r2_add) ea_nil)) h_rg_130)) h_tot_138 (.keep (.keep (.keep (.keep (.keep (.keep (.keep (.keep (.keep (.keep .nil)))))))))) (List.Sublist.refl _) (fun x s => (gt_name rfl)) ?_ ?_
        · intro Kn1 b1 number_133 rest_ s_ hP_135 N_ hN_134
          obtain ⟨raises_131, numbers_132⟩ := s_
          obtain ⟨c_, hc_136, hP_135⟩ := bind_some hP_135
          have q_137 := q_120.base b1
          unfold m_raise_tracks_L2 at hc_136
          refine SB.is (sl' := [sv many_106, sv gap_107, sv floor_108, sv asks_109, .at p_numbers_111, .at p_raises_112, sv ask_116, sv lack_123, sv cells_129, sv number_133]) (ow1 := [ol p_raises_112 raises_131, ol p_numbers_111 numbers_132]) rfl rfl ?_
          obtain ⟨r_140, h_r_140, hc_136⟩ := bind_some hc_136
          obtain ⟨i_141, h_i_141, hc_136⟩ := bind_some hc_136
          refine sb_if (b := (decide ((0 : Int) < i_141))) (et_test (ev_op (ev_dget (ev_var (i := 8) rfl) (ev_call (ea_cons (ev_var (i := 9) rfl) ea_nil) h_r_140) h_i_141) (ev_int 0) r2_gt)) (fun hb_142 => ?_) (fun hb_142 => ?_)
          · have hc_136 := ite_t hb_142 hc_136
            obtain ⟨r_144, h_r_144, hc_136⟩ := bind_some hc_136
            obtain ⟨i_145, h_i_145, hc_136⟩ := bind_some hc_136
            obtain ⟨raises_146, h_raises_146, hc_136⟩ := bind_some hc_136
            refine SB.seqB (fun kx_ => sb_appO (i := 5) (j := 0) rfl rfl (ev_tup (ea_cons (ev_op (ev_var (i := 6) rfl) (ev_int 0) (r2_tix (n := 0) (At.z _ _))) (ea_cons (ev_var (i := 9) rfl) (ea_cons (ev_dget (ev_var (i := 8) rfl) (ev_call (ea_cons (ev_var (i := 9) rfl) ea_nil) h_r_144) h_i_145) ea_nil)))) h_raises_146 (ow1 := [ol p_raises_112 raises_146, ol p_numbers_111 numbers_132]) rfl (kx_ _ _ ?_))
            obtain ⟨y_147, h_y_147, hc_136⟩ := bind_some hc_136
            obtain ⟨r_148, h_r_148, hc_136⟩ := bind_some hc_136
            obtain ⟨i_149, h_i_149, hc_136⟩ := bind_some hc_136
            obtain ⟨numbers_150, h_numbers_150, hc_136⟩ := bind_some hc_136
            refine sb_augI (f := fun a b => a + b) (i := 4) (j := 1) rfl rfl (ev_var (i := 9) rfl) h_y_147 (ev_dget (ev_var (i := 8) rfl) (ev_call (ea_cons (ev_var (i := 9) rfl) ea_nil) h_r_148) h_i_149) h_numbers_150 (ow1 := [ol p_raises_112 raises_146, ol p_numbers_111 numbers_150]) rfl ?_
            cases hc_136
            exact fun σ Kn H s => hN_134 _ hP_135 σ Kn H ((s.le (.keep (.keep (.keep (.keep (.keep (.keep (.keep (.keep (.keep (.drop .nil))))))))))).sub (List.Sublist.refl _))
          · have hc_136 := ite_f hb_142 hc_136
            refine sb_nx ?_
            cases hc_136
            exact fun σ Kn H s => hN_134 _ hP_135 σ Kn H ((s.le (.keep (.keep (.keep (.keep (.keep (.keep (.keep (.keep (.keep (.drop .nil))))))))))).sub (List.Sublist.refl _))
        · intro s_ h0
          cases h0
          show SN _ _ _ [sv many_106, sv gap_107, sv floor_108, sv asks_109, .at p_numbers_111, .at p_raises_112, sv ask_116, sv lack_123, sv cells_129, .any] [ol p_raises_112 raises_151, ol p_numbers_111 numbers_152] _
          cases hc_119
          exact fun σ Kn H s => hN_117 _ hP_118 σ Kn H ((s.le (.keep (.keep (.keep (.keep (.keep (.keep (.drop (.drop (.drop (.keep .nil))))))))))).sub (List.Sublist.refl _))
      · have hc_119 := ite_f hb_125 hc_119
        refine sb_nx ?_
        cases hc_119
        exact fun σ Kn H s => hN_117 _ hP_118 σ Kn H ((s.le (.keep (.keep (.keep (.keep (.keep (.keep (.drop (.drop (.keep (.keep .nil))))))))))).sub (List.Sublist.refl _))
    · intro s_ h0
      cases h0
      refine kx_156 _ _ ?_
      refine SB.is (sl' := [sv many_106, sv gap_107, sv floor_108, sv asks_109, .at p_numbers_111, .at p_raises_112, .any, .any, .any, .any]) (ow1 := [ol p_raises_112 raises_154, ol p_numbers_111 numbers_155]) rfl rfl ?_
      refine sb_freeze (i := 4) (j := 1) (sl' := [sv many_106, sv gap_107, sv floor_108, sv asks_109, sv numbers_155, .at p_raises_112, .any, .any, .any, .any]) (ow1 := [ol p_raises_112 raises_154]) rfl rfl rfl rfl ?_
      refine sb_freeze (i := 5) (j := 0) (sl' := [sv many_106, sv gap_107, sv floor_108, sv asks_109, sv numbers_155, sv raises_154, .any, .any, .any, .any]) (ow1 := []) rfl rfl rfl rfl ?_
      cases hf
      exact sb_ret (ev_tup (ea_cons (ev_var (i := 4) rfl) (ea_cons (ev_var (i := 5) rfl) ea_nil))) q (List.Sublist.refl _)
theorem sc__law_stream : FnScope ["_law_script", "_law_seed", "_law_cell", "_law_digits"] ["_law_script"] (defScope s__law_stream) := ⟨rfl, rfl, rfl, by decide +kernel, rfl, by decide +kernel, by decide +kernel⟩
set_option maxHeartbeats 4000000 in
theorem ok__law_stream (T : TX K mg) : FnOk P w K mg base CX0 1 T.a__law_stream T.d__law_stream ["_law_script"] (PL (τ := (Fz Int) × Unit) K (fun t => m__law_stream t.1)) := by
  refine T.F__law_stream.ok sc__law_stream (fun vs H Q E h => ?_) (fun cdv A outer s H vs Q E hr h => ?_)
  · obtain ⟨Kn, t, r, ek, h, hf, q⟩ := h
    exact Tp.len h
  · obtain ⟨Kn, t, r_, ek, h, hf, q⟩ := h
    obtain ⟨script_157, u_⟩ := t
    obtain ⟨v_0, rr_, rfl, hv_0, h⟩ := h
    obtain rfl := h
    replace hf : m__law_stream script_157 = some r_ := hf
    unfold m__law_stream at hf
    refine ⟨_, (pss_cons (ps_set (i := 1) sc__law_stream.nd rfl (.inl rfl) pe_int)
      (pss_cons (ps_for PassesOwn.never rfl (kpi_list (pe_slice k_sll (pv 0) po_none (po_some pe_int))) (pg_name (i := 2) sc__law_stream.nd rfl (.inl rfl)) (pss_one (ps_set (i := 1) sc__law_stream.nd rfl (.inl rfl) (pe_op op_mod (pe_op op_add (pe_op op_mul (pv 1) pe_int) (pv 2)) pe_int))))
      (pss_cons (ps_set (i := 3) sc__law_stream.nd rfl (.inl rfl) pe_int)
      (Evl.pss_cut (ps_if (PW.pt (pw_and (pt_cmpR op_gt (pe_callB k_len (by rfl) T.z_len PySem.boot_len (pa_cons (pv 0) pa_nil)) pe_int (nomark _)) (pw_and1 (pt_cmpR op_eq (pe_op op_mod (pe_ix k_ixl (pv 0) pe_int (fun _ _ => rfl)) pe_int) pe_int (nomark _))))) (pss_one (ps_set (i := 3) sc__law_stream.nd rfl (.inl rfl) (pe_callB call_abs (by rfl) T.z_abs (by decide +kernel) (pa_cons (pe_ix k_ixl (pv 0) pe_int (fun _ _ => rfl)) pa_nil)))) pss_nil)
      (pss_one (ps_ret (pe_lst (pa_cons (pv 3) (pa_cons (pv 1) pa_nil))))))))), ?_⟩
    refine enter (Kn := Kn) (sl := [sv script_157, .any, .any, .any]) ek ⟨⟨v_0, rfl, hv_0⟩, trivial, trivial, trivial, trivial⟩ ?_
    have q := rn_of q
    obtain ⟨seed_158, h_seed_158, hf⟩ := bind_some hf
    refine SB.seqB (fun kx_ => sb_asg (sl' := [sv script_157, sv seed_158, .any, .any]) rfl (EV.cast (ev_int 7) (Option.some.inj h_seed_158)) (kx_ _ _ ?_))
    obtain ⟨seed_167, h_tot_165, hf⟩ := bind_some hf
    refine SB.seqB (fun kx_168 => sb_for (β := Int) (Sx := Int) (fun s => [sv script_157, sv s, .any, .any]) (fun s => []) (fun x s => [sv script_157, sv s, sv x, .any]) [2] (fun xs s => forS (m__law_stream_L1) xs s = some seed_167) seed_158 (IT.m (it_list (EN.ev (en_slF (ev_var (i := 0) rfl) eo_none (eo_some (ev_int 63)))))) h_tot_165 (.keep (.keep (.keep (.keep .nil)))) (List.Sublist.refl _) (fun x s => (gt_name rfl)) ?_ ?_)
    · intro Kn1 b1 cell_160 rest_ seed_159 hP_162 N_ hN_161
      obtain ⟨c_, hc_163, hP_162⟩ := bind_some hP_162
      have q_164 := q.base b1
      unfold m__law_stream_L1 at hc_163
      refine SB.is (sl' := [sv script_157, sv seed_159, sv cell_160, .any]) (ow1 := []) rfl rfl ?_
      obtain ⟨seed_166, h_seed_166, hc_163⟩ := bind_some hc_163
      refine sb_asg (sl' := [sv script_157, sv seed_166, sv cell_160, .any]) rfl (EV.cast (ev_op (ev_op (ev_op (ev_var (i := 1) rfl) (ev_int 1000003) r2_mulr) (ev_var (i := 2) rfl) r2_add) (ev_int 2305843009213693951) r2_mod) (Option.some.inj h_seed_166)) ?_
      cases hc_163
      exact fun σ Kn H s => hN_161 _ hP_162 σ Kn H ((s.le (.keep (.keep (.drop (.keep .nil))))).sub (List.Sublist.refl _))
    · intro s_ h0
      cases h0
      refine kx_168 _ _ ?_
      refine SB.is (sl' := [sv script_157, sv seed_167, .any, .any]) (ow1 := []) rfl rfl ?_
      obtain ⟨digits_169, h_digits_169, hf⟩ := bind_some hf
      refine SB.seqB (fun kx_ => sb_asg (sl' := [sv script_157, sv seed_167, .any, sv digits_169]) rfl (EV.cast (ev_int 0) (Option.some.inj h_digits_169)) (kx_ _ _ ?_))
      obtain ⟨b_172, h_b_172, hf⟩ := bind_some hf
      obtain ⟨digits_176, hj_170, hf⟩ := bind_some hf
      refine SB.cutB (sl' := [sv script_157, sv seed_167, .any, sv digits_176]) (ow1 := []) (fun km_177 => sb_if (b := b_172) (et_andO h_b_172 (et_test (ev_op (ev_cb (ea_cons (ev_var (i := 0) rfl) ea_nil) rc_lenF) (ev_int 1) r2_gt)) (fun _ _ h => by obtain ⟨i_171, h_i_171, h⟩ := bind_some h; have hz_ := Option.some.inj h; subst hz_; exact (et_test (ev_op (ev_op (ev_op (ev_var (i := 0) rfl) (ev_int 0) (r2_ixF h_i_171)) (ev_int 2) r2_mod) (ev_int 0) r2_eqI)))) (fun hb_173 => ?_) (fun hb_173 => ?_)) ?_
      · have hj_170 := ite_t hb_173 hj_170
        obtain ⟨i_174, h_i_174, hj_170⟩ := bind_some hj_170
        obtain ⟨digits_175, h_digits_175, hj_170⟩ := bind_some hj_170
        refine sb_asg (sl' := [sv script_157, sv seed_167, .any, sv digits_175]) rfl (EV.cast (ev_cb (ea_cons (ev_op (ev_var (i := 0) rfl) (ev_int 1) (r2_ixF h_i_174)) ea_nil) rc_abs) (Option.some.inj h_digits_175)) ?_
        cases hj_170
        exact km_177 _ _ (.keep (.keep (.keep (.keep .nil)))) (List.Sublist.refl _)
      · have hj_170 := ite_f hb_173 hj_170
        refine sb_nx ?_
        cases hj_170
        exact km_177 _ _ (.keep (.keep (.keep (.keep .nil)))) (List.Sublist.refl _)
      cases hf
      exact sb_retL (en_lst (el_cons (ev_var (i := 3) rfl) (el_cons (ev_var (i := 1) rfl) el_nil))) q (List.Sublist.refl _)
theorem sc__law_take : FnScope ["_law_stream_here", "_law_many", "_law_digit"] ["_law_stream_here", "_law_many"] (defScope s__law_take) := ⟨rfl, rfl, rfl, by decide +kernel, rfl, by decide +kernel, by decide +kernel⟩
set_option maxHeartbeats 4000000 in
theorem ok__law_take (T : TX K mg) : FnOk P w K mg base CX0 1 T.a__law_take T.d__law_take ["_law_stream_here", "_law_many"] (PM (τ := Int × Unit) K (fun xs t => m__law_take xs t.1)) := by
  refine T.F__law_take.ok sc__law_take (fun vs H Q E h => ?_) (fun cdv A outer s H vs Q E hr h => ?_)
  · obtain ⟨Kn, p, ws, rest, t, xs, r, xs', rfl, ek, kp, hp, hw, h, hf, q⟩ := h
    show rest.length + 1 = _
    rw [Tp.len h]
    rfl
  · obtain ⟨Kn, p_0, ws, rest, t, stream_here_178, r_, xs_, rfl, ek, kp, hp, hw, h, hf, q⟩ := h
    obtain ⟨many_179, u_⟩ := t
    obtain ⟨v_1, rr_, rfl, hv_0, h⟩ := h
    obtain rfl := h
    replace hf : m__law_take stream_here_178 many_179 = some (r_, xs_) := hf
    unfold m__law_take at hf
    refine ⟨_, (pss_cons (ps_if (pt_cmpR op_gt (pe_ix k_ixl (pv 0) pe_int (fun _ _ => rfl)) pe_int (nomark _)) (pss_cons (ps_set (i := 2) sc__law_take.nd rfl (.inl rfl) (pe_op op_mod (pe_ix k_ixl (pv 0) pe_int (fun _ _ => rfl)) (pv 1)))
      (pss_cons (ps_asg (pe_op op_fdiv (pe_ix k_ixl (pv 0) pe_int (fun _ _ => rfl)) (pv 1)) (pg_sub (pv 0) pe_int set_list))
      (pss_one (ps_ret (pv 2))))) pss_nil)
      (pss_cons (ps_asg (pe_op op_mod (pe_op op_add (pe_op op_mul (pe_ix k_ixl (pv 0) pe_int (fun _ _ => rfl)) pe_int) pe_int) pe_int) (pg_sub (pv 0) pe_int set_list))
      (pss_one (ps_ret (pe_op op_mod (pe_op op_add (pe_op op_mod (pe_op op_mul (pe_ix k_ixl (pv 0) pe_int (fun _ _ => rfl)) pe_int) pe_int) (pe_op op_fdivW (pe_ix k_ixl (pv 0) pe_int (fun _ _ => rfl)) pe_int)) (pv 1)))))), ?_⟩
    refine enterM (sl := [.at p_0, sv many_179, .any]) (p := p_0) (xs := stream_here_178) ek kp hp hw ⟨rfl, ⟨v_1, rfl, hv_0⟩, trivial, trivial⟩ ?_
    have q := rt_ofM kp q
    clear hp hw ek kp
    obtain ⟨i_181, h_i_181, hf⟩ := bind_some hf
    refine SB.seqB (fun kx_183 => sb_if (b := (decide ((0 : Int) < i_181))) (et_test (ev_bor (i := 0) (j := 0) (sl' := [sv stream_here_178, sv many_179, .any]) (ow1 := []) rfl rfl rfl rfl (ev_op (ev_op (ev_var (i := 0) rfl) (ev_int 0) (r2_ixL h_i_181)) (ev_int 0) r2_gt))) (fun hb_182 => ?_) (fun hb_182 => ?_))
    · have hf := ite_t hb_182 hf
      obtain ⟨i_184, h_i_184, hf⟩ := bind_some hf
      obtain ⟨r_185, h_r_185, hf⟩ := bind_some hf
      obtain ⟨digit_186, h_digit_186, hf⟩ := bind_some hf
      refine SB.seqB (fun kx_ => sb_asg (sl' := [.at p_0, sv many_179, sv digit_186]) rfl (EV.cast (ev_op (ev_ixO (i := 0) (j := 0) rfl rfl (ev_int 0) h_i_184) (ev_var (i := 1) rfl) (r2_modO h_r_185)) (Option.some.inj h_digit_186)) (kx_ _ _ ?_))
      obtain ⟨i_187, h_i_187, hf⟩ := bind_some hf
      obtain ⟨q_188, h_q_188, hf⟩ := bind_some hf
      obtain ⟨stream_here_189, h_stream_here_189, hf⟩ := bind_some hf
      refine SB.seqB (fun kx_ => sb_setO (i := 0) (j := 0) rfl rfl (ev_op (ev_ixO (i := 0) (j := 0) rfl rfl (ev_int 0) h_i_187) (ev_var (i := 1) rfl) (r2_divO h_q_188)) (ev_int 0) h_stream_here_189 (ow1 := [ol p_0 stream_here_189]) rfl (kx_ _ _ ?_))
      cases hf
      exact sb_ret (ev_var (i := 2) rfl) q (List.Sublist.refl _)
    · have hf := ite_f hb_182 hf
      refine sb_nx ?_
      refine kx_183 _ _ ?_
      obtain ⟨i_190, h_i_190, hf⟩ := bind_some hf
      obtain ⟨stream_here_191, h_stream_here_191, hf⟩ := bind_some hf
      refine SB.seqB (fun kx_ => sb_setO (i := 0) (j := 0) rfl rfl (ev_op (ev_op (ev_op (ev_ixO (i := 0) (j := 0) rfl rfl (ev_int 1) h_i_190) (ev_int 48271) r2_mulr) (ev_int 1013904223) r2_add) (ev_int 2305843009213693951) r2_mod) (ev_int 1) h_stream_here_191 (ow1 := [ol p_0 stream_here_191]) rfl (kx_ _ _ ?_))
      obtain ⟨i_192, h_i_192, hf⟩ := bind_some hf
      obtain ⟨i_193, h_i_193, hf⟩ := bind_some hf
      obtain ⟨r_194, h_r_194, hf⟩ := bind_some hf
      cases hf
      exact sb_ret (ev_op (ev_op (ev_op (ev_op (ev_ixO (i := 0) (j := 0) rfl rfl (ev_int 1) h_i_192) (ev_int 69621) r2_mulr) (ev_int 2147483629) r2_mod) (ev_op (ev_ixO (i := 0) (j := 0) rfl rfl (ev_int 1) h_i_193) (ev_int 2147483647) r2_divw) r2_add) (ev_var (i := 1) rfl) (r2_modO h_r_194)) q (List.Sublist.refl _)
theorem sc__law_names : FnScope ["_law_stream_here", "_law_many", "_law_letters", "_law_names_here", "_law_k", "_law_name", "_law_j", "_law_turn", "_law_other"] ["_law_stream_here", "_law_many"] (defScope s__law_names) := ⟨rfl, rfl, rfl, by decide +kernel, rfl, by decide +kernel, by decide +kernel⟩
set_option maxHeartbeats 4000000 in
theorem ok__law_names (T : TX K mg) : FnOk P w K mg base CX0 2 T.a__law_names T.d__law_names ["_law_stream_here", "_law_many"] (PM (τ := Int × Unit) K (fun xs t => m__law_names xs t.1)) := by
  refine T.F__law_names.ok sc__law_names (fun vs H Q E h => ?_) (fun cdv A outer s H vs Q E hr h => ?_)
  · obtain ⟨Kn, p, ws, rest, t, xs, r, xs', rfl, ek, kp, hp, hw, h, hf, q⟩ := h
    show rest.length + 1 = _
    rw [Tp.len h]
    rfl
  · obtain ⟨Kn, p_0, ws, rest, t, stream_here_195, r_, xs_, rfl, ek, kp, hp, hw, h, hf, q⟩ := h
    obtain ⟨many_196, u_⟩ := t
    obtain ⟨v_1, rr_, rfl, hv_0, h⟩ := h
    obtain rfl := h
    replace hf : m__law_names stream_here_195 many_196 = some (r_, xs_) := hf
    unfold m__law_names at hf
    refine ⟨_, (pss_cons (ps_set (i := 2) sc__law_names.nd rfl (.inl rfl) pe_str)
      (pss_cons (ps_set (i := 3) sc__law_names.nd rfl (.inl rfl) (pe_lst pa_nil))
      (pss_cons (ps_for PassesOwn.never rfl (pi_range1 (by rfl) T.z_range (pa_cons (pv 1) pa_nil)) (pg_name (i := 4) sc__law_names.nd rfl (.inl rfl)) (pss_cons (ps_set (i := 5) sc__law_names.nd rfl (.inl rfl) pe_str)
      (pss_cons (ps_for PassesOwn.never rfl (pi_range1 (by rfl) T.z_range (pa_cons (pe_call (ok__law_take T) hr (by rfl) T.g__law_take T.F__law_take.kp T.b__law_take .nil pass0 (pa_cons (pv 0) (pa_cons pe_int pa_nil))) pa_nil)) (pg_name (i := 6) sc__law_names.nd rfl (.inl rfl)) (pss_one (ps_set (i := 5) sc__law_names.nd rfl (.inl rfl) (pe_op op_add_str (pv 5) (pe_ix ix_str (pv 2) (pe_call (ok__law_take T) hr (by rfl) T.g__law_take T.F__law_take.kp T.b__law_take .nil pass0 (pa_cons (pv 0) (pa_cons pe_int pa_nil))) (fun _ _ => rfl))))))
      (pss_cons (ps_set (i := 7) sc__law_names.nd rfl (.inl rfl) (pv 4))
      (pss_cons (ps_while PassesOwn.never (PW.pt (pw_or (pt_cmpR k_in (pv 5) (pv 3) (by rfl)) (pw_or1 (pt_cmpR op_eq (pv 5) pe_str (nomark _))))) (pss_cons (ps_set (i := 8) sc__law_names.nd rfl (.inl rfl) (pe_ix ix_str (pv 2) (pe_op op_mod (pe_op op_add (pe_op op_fdiv (pv 7) pe_int) (pe_callB call_len_str (by rfl) T.z_len PySem.boot_len (pa_cons (pv 5) pa_nil))) pe_int) (fun _ _ => rfl)))
      (pss_cons (ps_set (i := 5) sc__law_names.nd rfl (.inl rfl) (pe_op op_add_str (pe_op op_add_str (pe_ix ix_str (pv 2) (pe_op op_mod (pv 7) pe_int) (fun _ _ => rfl)) (pv 8)) (pe_slice sl_str (pv 5) po_none (po_some pe_int))))
      (pss_one (ps_set (i := 7) sc__law_names.nd rfl (.inl rfl) (pe_op op_add (pv 7) pe_int))))))
      (pss_one (ps_expr (pe_bm PySem.F.plainAttrs_list PySem.F.slot_list_append PySem.F.type_list_append mt_append (pv 3) (pa_cons (pv 5) pa_nil)))))))))
      (pss_one (ps_ret (pv 3)))))), ?_⟩
    refine enterM (sl := [.at p_0, sv many_196, .any, .any, .any, .any, .any, .any, .any]) (p := p_0) (xs := stream_here_195) ek kp hp hw ⟨rfl, ⟨v_1, rfl, hv_0⟩, trivial, trivial, trivial, trivial, trivial, trivial, trivial, trivial⟩ ?_
    have q := rt_ofM kp q
    clear hp hw ek kp
    obtain ⟨letters_197, h_letters_197, hf⟩ := bind_some hf
    refine SB.seqB (fun kx_ => sb_asg (sl' := [.at p_0, sv many_196, sv letters_197, .any, .any, .any, .any, .any, .any]) rfl (EV.cast (ev_str ("abcdefghijklmnopqrstuvwxyz" : Str)) (Option.some.inj h_letters_197)) (kx_ _ _ ?_))
    obtain ⟨names_here_198, h_names_here_198, hf⟩ := bind_some hf
    refine SB.seqB (fun kx_ => sb_asgO (sl' := fun p_names_here_198 => [.at p_0, sv many_196, sv letters_197, .at p_names_here_198, .any, .any, .any, .any, .any]) (fun _ => rfl) (EN.cast (en_lst el_nil) (Option.some.inj h_names_here_198)) (fun p_names_here_198 => (kx_ _ _ ?_)))
    obtain ⟨rg_199, h_rg_199, hf⟩ := bind_some hf
    obtain ⟨⟨names_here_249, stream_here_250⟩, h_tot_207, hf⟩ := bind_some hf
    refine SB.seqB (fun kx_251 => sb_for (β := Int) (Sx := (List Str) × (List Int)) (fun s => [.at p_0, sv many_196, sv letters_197, .at p_names_here_198, .any, .any, .any, .any, .any]) (fun s => [ol p_names_here_198 s.1, ol p_0 s.2]) (fun x s => [.at p_0, sv many_196, sv letters_197, .at p_names_here_198, sv x, .any, .any, .any, .any]) [4] (fun xs s => forS (m__law_names_L1 letters_197) xs s = some (names_here_249, stream_here_250)) (names_here_198, stream_here_195) (IT.m (it_rng1 (ea_cons (ev_var (i := 1) rfl) ea_nil) h_rg_199)) h_tot_207 (.keep (.keep (.keep (.keep (.keep (.keep (.keep (.keep (.keep .nil))))))))) (List.Sublist.refl _) (fun x s => (gt_name rfl)) ?_ ?_)
    · intro Kn1 b1 k_202 rest_ s_ hP_204 N_ hN_203
      obtain ⟨names_here_200, stream_here_201⟩ := s_
      obtain ⟨c_, hc_205, hP_204⟩ := bind_some hP_204
      have q_206 := q.base b1
      unfold m__law_names_L1 at hc_205
      refine SB.is (sl' := [.at p_0, sv many_196, sv letters_197, .at p_names_here_198, sv k_202, .any, .any, .any, .any]) (ow1 := [ol p_names_here_198 names_here_200, ol p_0 stream_here_201]) rfl rfl ?_
      obtain ⟨name_208, h_name_208, hc_205⟩ := bind_some hc_205
      refine SB.seqB (fun kx_ => sb_asg (sl' := [.at p_0, sv many_196, sv letters_197, .at p_names_here_198, sv k_202, sv name_208, .any, .any, .any]) rfl (EV.cast (ev_str ("" : Str)) (Option.some.inj h_name_208)) (kx_ _ _ ?_))
      obtain ⟨⟨r_209, stream_here_210⟩, h_r_209, hc_205⟩ := bind_some hc_205
      obtain ⟨rg_211, h_rg_211, hc_205⟩ := bind_some hc_205
      obtain ⟨⟨name_225, stream_here_226⟩, h_tot_219, hc_205⟩ := bind_some hc_205
      refine SB.seqB (fun kx_227 => sb_for (β := Int) (Sx := Str × (List Int)) (fun s => [.at p_0, sv many_196, sv letters_197, .at p_names_here_198, sv k_202, sv s.1, .any, .any, .any]) (fun s => [ol p_names_here_198 names_here_200, ol p_0 s.2]) (fun x s => [.at p_0, sv many_196, sv letters_197, .at p_names_here_198, sv k_202, sv s.1, sv x, .any, .any]) [6] (fun xs s => forS (m__law_names_L2 letters_197) xs s = some (name_225, stream_here_226)) (name_208, stream_here_210) (itm_rng1 (eam_cons (em_callM (i := 0) (j := 1) rfl (EA.eam (ea_cons (ev_int 8) ea_nil)) rfl h_r_209) eam_nil) h_rg_211) h_tot_219 (.keep (.keep (.keep (.keep (.keep (.keep (.keep (.keep (.keep .nil))))))))) (List.Sublist.refl _) (fun x s => (gt_name rfl)) ?_ ?_)
      · intro Kn1 b1 j_214 rest_ s_ hP_216 N_ hN_215
        obtain ⟨name_212, stream_here_213⟩ := s_
        obtain ⟨c_, hc_217, hP_216⟩ := bind_some hP_216
        have q_218 := q_206.base b1
        unfold m__law_names_L2 at hc_217
        refine SB.is (sl' := [.at p_0, sv many_196, sv letters_197, .at p_names_here_198, sv k_202, sv name_212, sv j_214, .any, .any]) (ow1 := [ol p_names_here_198 names_here_200, ol p_0 stream_here_213]) rfl rfl ?_
        obtain ⟨⟨r_220, stream_here_221⟩, h_r_220, hc_217⟩ := bind_some hc_217
        obtain ⟨i_222, h_i_222, hc_217⟩ := bind_some hc_217
        obtain ⟨t_223, h_t_223, hc_217⟩ := bind_some hc_217
        obtain ⟨name_224, h_name_224, hc_217⟩ := bind_some hc_217
        refine sb_asgM (sl' := [.at p_0, sv many_196, sv letters_197, .at p_names_here_198, sv k_202, sv name_224, sv j_214, .any, .any]) rfl (EM.cast (em_op (EV.em (ev_var (i := 5) rfl)) (em_op (EV.em (ev_var (i := 2) rfl)) (em_callM (i := 0) (j := 1) rfl (EA.eam (ea_cons (ev_int 26) ea_nil)) rfl h_r_220) (r2_ixS h_i_222)) (r2_addS h_t_223)) (Option.some.inj h_name_224)) ?_
        cases hc_217
        exact fun σ Kn H s => hN_215 _ hP_216 σ Kn H ((s.le (.keep (.keep (.keep (.keep (.keep (.keep (.drop (.keep (.keep .nil)))))))))).sub (List.Sublist.refl _))
      · intro s_ h0
        cases h0
        refine kx_227 _ _ ?_
        refine SB.is (sl' := [.at p_0, sv many_196, sv letters_197, .at p_names_here_198, sv k_202, sv name_225, .any, .any, .any]) (ow1 := [ol p_names_here_198 names_here_200, ol p_0 stream_here_226]) rfl rfl ?_
        obtain ⟨turn_228, h_turn_228, hc_205⟩ := bind_some hc_205
        refine SB.seqB (fun kx_ => sb_asg (sl' := [.at p_0, sv many_196, sv letters_197, .at p_names_here_198, sv k_202, sv name_225, .any, sv turn_228, .any]) rfl (EV.cast (ev_var (i := 4) rfl) (Option.some.inj h_turn_228)) (kx_ _ _ ?_))
        obtain ⟨⟨name_245, turn_246⟩, h_tot_235, hc_205⟩ := bind_some hc_205
        obtain ⟨n0_, h_tot_235⟩ := whileF_some h_tot_235
        refine SB.seqB (fun kx_247 => sb_while (Sx := Str × Int) (fun s => [.at p_0, sv many_196, sv letters_197, .at p_names_here_198, sv k_202, sv s.1, .any, sv s.2, .any]) (fun s => [ol p_names_here_198 names_here_200, ol p_0 stream_here_226]) (fun n s => whileS (m__law_names_L3_c letters_197 names_here_200) (m__law_names_L3 letters_197 names_here_200) n s = some (name_245, turn_246)) n0_ (name_225, turn_228) h_tot_235 (.keep (.keep (.keep (.keep (.keep (.keep (.keep (.keep (.keep .nil))))))))) (List.Sublist.refl _) ?_)
        intro n_ s_ hP_232
        obtain ⟨name_229, turn_230⟩ := s_
        cases n_ with
        | zero => cases hP_232
        | succ n_ =>
          obtain ⟨b_, ht_, hP_232⟩ := bind_some hP_232
          unfold m__law_names_L3_c at ht_
          cases ht_
          refine ⟨_, ET.is (sl' := [.at p_0, sv many_196, sv letters_197, .at p_names_here_198, sv k_202, sv name_229, .any, sv turn_230, .any]) rfl (et_or (et_test (ev_bor (i := 3) (j := 0) (sl' := [.at p_0, sv many_196, sv letters_197, sv names_here_200, sv k_202, sv name_229, .any, sv turn_230, .any]) (ow1 := [ol p_0 stream_here_226]) rfl rfl rfl rfl (ev_op (ev_var (i := 5) rfl) (ev_var (i := 3) rfl) r2_in))) (fun _ => (et_test (ev_op (ev_var (i := 5) rfl) (ev_str ("" : Str)) r2_eqS)))), fun hb_234 N_ hN_231 => ?_, fun hb_234 => ?_⟩
          · have hP_232 := ite_t hb_234 hP_232
            obtain ⟨c_, hc_233, hP_232⟩ := bind_some hP_232
            unfold m__law_names_L3 at hc_233
            refine SB.is (sl' := [.at p_0, sv many_196, sv letters_197, .at p_names_here_198, sv k_202, sv name_229, .any, sv turn_230, .any]) (ow1 := [ol p_names_here_198 names_here_200, ol p_0 stream_here_226]) rfl rfl ?_
            obtain ⟨n_236, h_n_236, hc_233⟩ := bind_some hc_233
            obtain ⟨i_237, h_i_237, hc_233⟩ := bind_some hc_233
            obtain ⟨other_238, h_other_238, hc_233⟩ := bind_some hc_233
            refine SB.seqB (fun kx_ => sb_asg (sl' := [.at p_0, sv many_196, sv letters_197, .at p_names_here_198, sv k_202, sv name_229, .any, sv turn_230, sv other_238]) rfl (EV.cast (ev_op (ev_var (i := 2) rfl) (ev_op (ev_op (ev_op (ev_var (i := 7) rfl) (ev_int 26) r2_div) (ev_cb (ea_cons (ev_var (i := 5) rfl) ea_nil) (rc_lenS h_n_236)) r2_add) (ev_int 26) r2_mod) (r2_ixS h_i_237)) (Option.some.inj h_other_238)) (kx_ _ _ ?_))
            obtain ⟨i_239, h_i_239, hc_233⟩ := bind_some hc_233
            obtain ⟨t_240, h_t_240, hc_233⟩ := bind_some hc_233
            obtain ⟨cs_241, h_cs_241, hc_233⟩ := bind_some hc_233
            obtain ⟨t_242, h_t_242, hc_233⟩ := bind_some hc_233
            obtain ⟨name_243, h_name_243, hc_233⟩ := bind_some hc_233
            refine SB.seqB (fun kx_ => sb_asg (sl' := [.at p_0, sv many_196, sv letters_197, .at p_names_here_198, sv k_202, sv name_243, .any, sv turn_230, sv other_238]) rfl (EV.cast (ev_op (ev_op (ev_op (ev_var (i := 2) rfl) (ev_op (ev_var (i := 7) rfl) (ev_int 26) r2_mod) (r2_ixS h_i_239)) (ev_var (i := 8) rfl) (r2_addS h_t_240)) (ev_slS (ev_var (i := 5) rfl) eo_none (eo_some (ev_int 4)) h_cs_241) (r2_addS h_t_242)) (Option.some.inj h_name_243)) (kx_ _ _ ?_))
            obtain ⟨turn_244, h_turn_244, hc_233⟩ := bind_some hc_233
            refine sb_asg (sl' := [.at p_0, sv many_196, sv letters_197, .at p_names_here_198, sv k_202, sv name_243, .any, sv turn_244, sv other_238]) rfl (EV.cast (ev_op (ev_var (i := 7) rfl) (ev_int 7) r2_add) (Option.some.inj h_turn_244)) ?_
            cases hc_233
            exact fun σ Kn H s => hN_231 _ _ (Nat.lt_succ_self _) hP_232 σ Kn H ((s.le (.keep (.keep (.keep (.keep (.keep (.keep (.keep (.keep (.drop .nil)))))))))).sub (List.Sublist.refl _))
          · have hP_232 := ite_f hb_234 hP_232
            cases hP_232
            refine kx_247 _ _ ?_
            refine SB.is (sl' := [.at p_0, sv many_196, sv letters_197, .at p_names_here_198, sv k_202, sv name_245, .any, sv turn_246, .any]) (ow1 := [ol p_names_here_198 names_here_200, ol p_0 stream_here_226]) rfl rfl ?_
            obtain ⟨names_here_248, h_names_here_248, hc_205⟩ := bind_some hc_205
            refine sb_appO (i := 3) (j := 0) rfl rfl (ev_var (i := 5) rfl) h_names_here_248 (ow1 := [ol p_names_here_198 names_here_248, ol p_0 stream_here_226]) rfl ?_
            cases hc_205
            exact fun σ Kn H s => hN_203 _ hP_204 σ Kn H ((s.le (.keep (.keep (.keep (.keep (.drop (.drop (.keep (.drop (.keep .nil)))))))))).sub (List.Sublist.refl _))
    · intro s_ h0
      cases h0
      refine kx_251 _ _ ?_
      refine SB.is (sl' := [.at p_0, sv many_196, sv letters_197, .at p_names_here_198, .any, .any, .any, .any, .any]) (ow1 := [ol p_names_here_198 names_here_249, ol p_0 stream_here_250]) rfl rfl ?_
      refine sb_freeze (i := 3) (j := 0) (sl' := [.at p_0, sv many_196, sv letters_197, sv names_here_249, .any, .any, .any, .any, .any]) (ow1 := [ol p_0 stream_here_250]) rfl rfl rfl rfl ?_
      cases hf
      exact sb_ret (ev_var (i := 3) rfl) q (List.Sublist.refl _)
theorem sc__law_asks : FnScope ["_law_stream_here", "_law_many", "_law_names_here", "_law_top", "_law_asks_here", "_law_name", "_law_first", "_law_spanned"] ["_law_stream_here", "_law_many", "_law_names_here", "_law_top"] (defScope s__law_asks) := ⟨rfl, rfl, rfl, by decide +kernel, rfl, by decide +kernel, by decide +kernel⟩
set_option maxHeartbeats 4000000 in
theorem ok__law_asks (T : TX K mg) : FnOk P w K mg base CX0 2 T.a__law_asks T.d__law_asks ["_law_stream_here", "_law_many", "_law_names_here", "_law_top"] (PM (τ := Int × (List Str) × Int × Unit) K (fun xs t => m__law_asks xs t.1 t.2.1 t.2.2.1)) := by
  refine T.F__law_asks.ok sc__law_asks (fun vs H Q E h => ?_) (fun cdv A outer s H vs Q E hr h => ?_)
  · obtain ⟨Kn, p, ws, rest, t, xs, r, xs', rfl, ek, kp, hp, hw, h, hf, q⟩ := h
    show rest.length + 1 = _
    rw [Tp.len h]
    rfl
  · obtain ⟨Kn, p_0, ws, rest, t, stream_here_252, r_, xs_, rfl, ek, kp, hp, hw, h, hf, q⟩ := h
    obtain ⟨many_253, names_here_254, top_255, u_⟩ := t
    obtain ⟨v_1, rr_, rfl, hv_0, h⟩ := h
    obtain ⟨v_2, rr_, rfl, hv_1, h⟩ := h
    obtain ⟨v_3, rr_, rfl, hv_2, h⟩ := h
    obtain rfl := h
    replace hf : m__law_asks stream_here_252 many_253 names_here_254 top_255 = some (r_, xs_) := hf
    unfold m__law_asks at hf
    refine ⟨_, (pss_cons (ps_set (i := 4) sc__law_asks.nd rfl (.inl rfl) (pe_lst pa_nil))
      (pss_cons (ps_for PassesOwn.never rfl (kpi_list (pv 2)) (pg_name (i := 5) sc__law_asks.nd rfl (.inl rfl)) (pss_cons (ps_set (i := 6) sc__law_asks.nd rfl (.inl rfl) (pe_call (ok__law_take T) hr (by rfl) T.g__law_take T.F__law_take.kp T.b__law_take .nil pass0 (pa_cons (pv 0) (pa_cons (pv 1) pa_nil))))
      (pss_cons (ps_set (i := 7) sc__law_asks.nd rfl (.inl rfl) (pe_op op_add pe_int (pe_call (ok__law_take T) hr (by rfl) T.g__law_take T.F__law_take.kp T.b__law_take .nil pass0 (pa_cons (pv 0) (pa_cons (pe_ix k_ixl (pe_lst (pa_cons pe_int (pa_cons (pe_op op_sub (pv 1) (pv 6)) pa_nil))) (pe_call (ok__law_take T) hr (by rfl) T.g__law_take T.F__law_take.kp T.b__law_take .nil pass0 (pa_cons (pv 0) (pa_cons pe_int pa_nil))) (fun _ _ => rfl)) pa_nil)))))
      (pss_one (ps_expr (pe_bm PySem.F.plainAttrs_list PySem.F.slot_list_append PySem.F.type_list_append mt_append (pv 4) (pa_cons (pe_tup (pa_cons (pv 5) (pa_cons (pv 6) (pa_cons (pv 7) (pa_cons (pe_call (ok__law_take T) hr (by rfl) T.g__law_take T.F__law_take.kp T.b__law_take .nil pass0 (pa_cons (pv 0) (pa_cons (pv 3) pa_nil))) pa_nil))))) pa_nil)))))))
      (pss_one (ps_ret (pv 4))))), ?_⟩
    refine enterM (sl := [.at p_0, sv many_253, sv names_here_254, sv top_255, .any, .any, .any, .any]) (p := p_0) (xs := stream_here_252) ek kp hp hw ⟨rfl, ⟨v_1, rfl, hv_0⟩, ⟨v_2, rfl, hv_1⟩, ⟨v_3, rfl, hv_2⟩, trivial, trivial, trivial, trivial, trivial⟩ ?_
    have q := rt_ofM kp q
    clear hp hw ek kp
    obtain ⟨asks_here_256, h_asks_here_256, hf⟩ := bind_some hf
    refine SB.seqB (fun kx_ => sb_asgO (sl' := fun p_asks_here_256 => [.at p_0, sv many_253, sv names_here_254, sv top_255, .at p_asks_here_256, .any, .any, .any]) (fun _ => rfl) (EN.cast (en_lst el_nil) (Option.some.inj h_asks_here_256)) (fun p_asks_here_256 => (kx_ _ _ ?_)))
    obtain ⟨⟨asks_here_277, stream_here_278⟩, h_tot_264, hf⟩ := bind_some hf
    refine SB.seqB (fun kx_279 => sb_for (β := Str) (Sx := (List (Str × Int × Int × Int × Unit)) × (List Int)) (fun s => [.at p_0, sv many_253, sv names_here_254, sv top_255, .at p_asks_here_256, .any, .any, .any]) (fun s => [ol p_asks_here_256 s.1, ol p_0 s.2]) (fun x s => [.at p_0, sv many_253, sv names_here_254, sv top_255, .at p_asks_here_256, sv x, .any, .any]) [5] (fun xs s => forS (m__law_asks_L1 many_253 top_255) xs s = some (asks_here_277, stream_here_278)) (asks_here_256, stream_here_252) (IT.m (it_list (ev_var (i := 2) rfl))) h_tot_264 (.keep (.keep (.keep (.keep (.keep (.keep (.keep (.keep .nil)))))))) (List.Sublist.refl _) (fun x s => (gt_name rfl)) ?_ ?_)
    · intro Kn1 b1 name_259 rest_ s_ hP_261 N_ hN_260
      obtain ⟨asks_here_257, stream_here_258⟩ := s_
      obtain ⟨c_, hc_262, hP_261⟩ := bind_some hP_261
      have q_263 := q.base b1
      unfold m__law_asks_L1 at hc_262
      refine SB.is (sl' := [.at p_0, sv many_253, sv names_here_254, sv top_255, .at p_asks_here_256, sv name_259, .any, .any]) (ow1 := [ol p_asks_here_256 asks_here_257, ol p_0 stream_here_258]) rfl rfl ?_
      obtain ⟨⟨r_265, stream_here_266⟩, h_r_265, hc_262⟩ := bind_some hc_262
      obtain ⟨first_267, h_first_267, hc_262⟩ := bind_some hc_262
      refine SB.seqB (fun kx_ => sb_asgM (sl' := [.at p_0, sv many_253, sv names_here_254, sv top_255, .at p_asks_here_256, sv name_259, sv first_267, .any]) rfl (EM.cast (em_callM (i := 0) (j := 1) rfl (EA.eam (ea_cons (ev_var (i := 1) rfl) ea_nil)) rfl h_r_265) (Option.some.inj h_first_267)) (kx_ _ _ ?_))
      obtain ⟨⟨r_268, stream_here_269⟩, h_r_268, hc_262⟩ := bind_some hc_262
      obtain ⟨i_270, h_i_270, hc_262⟩ := bind_some hc_262
      obtain ⟨⟨r_271, stream_here_272⟩, h_r_271, hc_262⟩ := bind_some hc_262
      obtain ⟨spanned_273, h_spanned_273, hc_262⟩ := bind_some hc_262
      refine SB.seqB (fun kx_ => sb_asgM (sl' := [.at p_0, sv many_253, sv names_here_254, sv top_255, .at p_asks_here_256, sv name_259, sv first_267, sv spanned_273]) rfl (EM.cast (em_op (EV.em (ev_int 1)) (em_callM (i := 0) (j := 1) rfl (eam_cons (em_op (EV.em (EN.ev (en_lst (el_cons (ev_int 1) (el_cons (ev_op (ev_var (i := 1) rfl) (ev_var (i := 6) rfl) r2_sub) el_nil))))) (em_callM (i := 0) (j := 1) rfl (EA.eam (ea_cons (ev_int 2) ea_nil)) rfl h_r_268) (r2_ixL h_i_270)) eam_nil) rfl h_r_271) r2_add) (Option.some.inj h_spanned_273)) (kx_ _ _ ?_))
      obtain ⟨⟨r_274, stream_here_275⟩, h_r_274, hc_262⟩ := bind_some hc_262
      obtain ⟨asks_here_276, h_asks_here_276, hc_262⟩ := bind_some hc_262
      refine sb_appOM (i := 4) (j := 0) rfl rfl (em_tup (eam_cons (EV.em (ev_var (i := 5) rfl)) (eam_cons (EV.em (ev_var (i := 6) rfl)) (eam_cons (EV.em (ev_var (i := 7) rfl)) (eam_cons (em_callM (i := 0) (j := 1) rfl (EA.eam (ea_cons (ev_var (i := 3) rfl) ea_nil)) rfl h_r_274) eam_nil))))) rfl h_asks_here_276 (ow2 := [ol p_asks_here_256 asks_here_276, ol p_0 stream_here_275]) rfl ?_
      cases hc_262
      exact fun σ Kn H s => hN_260 _ hP_261 σ Kn H ((s.le (.keep (.keep (.keep (.keep (.keep (.drop (.drop (.drop .nil))))))))).sub (List.Sublist.refl _))
    · intro s_ h0
      cases h0
      refine kx_279 _ _ ?_
      refine SB.is (sl' := [.at p_0, sv many_253, sv names_here_254, sv top_255, .at p_asks_here_256, .any, .any, .any]) (ow1 := [ol p_asks_here_256 asks_here_277, ol p_0 stream_here_278]) rfl rfl ?_
      refine sb_freeze (i := 4) (j := 0) (sl' := [.at p_0, sv many_253, sv names_here_254, sv top_255, sv asks_here_277, .any, .any, .any]) (ow1 := [ol p_0 stream_here_278]) rfl rfl rfl rfl ?_
      cases hf
      exact sb_ret (ev_var (i := 4) rfl) q (List.Sublist.refl _)
theorem sc__law_told : FnScope ["_law_raises", "_law_name", "_law_told_here", "_law_number", "_law_cells"] ["_law_raises", "_law_name"] (defScope s__law_told) := ⟨rfl, rfl, rfl, by decide +kernel, rfl, by decide +kernel, by decide +kernel⟩
set_option maxHeartbeats 4000000 in
theorem ok__law_told (T : TX K mg) : FnOk P w K mg base CX0 1 T.a__law_told T.d__law_told ["_law_raises", "_law_name"] (PL (τ := (List (Str × Int × Int × Unit)) × Str × Unit) K (fun t => m__law_told t.1 t.2.1)) := by
  refine T.F__law_told.ok sc__law_told (fun vs H Q E h => ?_) (fun cdv A outer s H vs Q E hr h => ?_)
  · obtain ⟨Kn, t, r, ek, h, hf, q⟩ := h
    exact Tp.len h
  · obtain ⟨Kn, t, r_, ek, h, hf, q⟩ := h
    obtain ⟨raises_280, name_281, u_⟩ := t
    obtain ⟨v_0, rr_, rfl, hv_0, h⟩ := h
    obtain ⟨v_1, rr_, rfl, hv_1, h⟩ := h
    obtain rfl := h
    replace hf : m__law_told raises_280 name_281 = some r_ := hf
    unfold m__law_told at hf
    refine ⟨_, (pss_one (ps_ret (pe_lc (own := [("_law_told_here", 2), ("_law_number", 3), ("_law_cells", 4)]) (g := gTup K 3 (gCons (gName 2) (gCons (gName 3) (gCons (gName 4) gNil)))) (by rfl) sc__law_told.nd (kpi_list (pv 0)) (blkOk_by (own := [("_law_told_here", 2), ("_law_number", 3), ("_law_cells", 4)]) (N := ["_law_raises", "_law_name", "_law_told_here", "_law_number", "_law_cells"]) (sc := defScope s__law_told) (by decide +kernel)) (fun _ _ _ _ _ => (kpg_tup (pgs_cons (pg_name (i := 2) sc__law_told.nd rfl (Or.inl rfl)) (pgs_cons (pg_name (i := 3) sc__law_told.nd rfl (Or.inl rfl)) (pgs_cons (pg_name (i := 4) sc__law_told.nd rfl (Or.inl rfl)) pgs_nil))))) (fun _ _ _ _ _ => pts_one (pt_cmpR op_eq (pv 2) (pv 1) (nomark _))) (fun _ _ _ _ _ => (pe_tup (pa_cons (pv 3) (pa_cons (pv 4) pa_nil))))))), ?_⟩
    refine enter (Kn := Kn) (sl := [sv raises_280, sv name_281, .any, .any, .any]) ek ⟨⟨v_0, rfl, hv_0⟩, ⟨v_1, rfl, hv_1⟩, trivial, trivial, trivial, trivial⟩ ?_
    have q := rn_of q
    obtain ⟨zs_285, h_zs_285, hf⟩ := bind_some hf
    cases hf
    exact sb_retL (en_lc (js := [2, 3, 4]) (fun x => [sv raises_280, sv name_281, sv x.1, sv x.2.1, sv x.2.2.1]) h_zs_285 (it_list (ev_var (i := 0) rfl)) (anyAt_of (by rfl)) (fun x => (gt_tup (gts_cons (gt_name rfl) (gts_cons (gt_name rfl) (gts_cons (gt_name rfl) gts_nil))))) (sub_of (by rfl)) (fun _ _ x b h => by obtain ⟨told_here_282, number_283, cells_284, _⟩ := x; have hz_ := Option.some.inj h; subst hz_; exact ET.is (sl' := [sv raises_280, sv name_281, sv told_here_282, sv number_283, sv cells_284]) rfl (et_test (ev_op (ev_var (i := 2) rfl) (ev_var (i := 1) rfl) r2_eqS))) (fun _ _ x z _ h => by obtain ⟨told_here_282, number_283, cells_284, _⟩ := x; have hz_ := Option.some.inj h; subst hz_; exact EV.is (sl' := [sv raises_280, sv name_281, sv told_here_282, sv number_283, sv cells_284]) rfl (ev_tup (ea_cons (ev_var (i := 3) rfl) (ea_cons (ev_var (i := 4) rfl) ea_nil))))) q (List.Sublist.refl _)
theorem sc__law_ask_right : FnScope ["_law_gap", "_law_numbers", "_law_ask", "_law_mine", "_law_name", "_law_first", "_law_spanned", "_law_amount", "_law_lack", "_law_cells", "_law_number", "_law_more"] ["_law_gap", "_law_numbers", "_law_ask", "_law_mine"] (defScope s__law_ask_right) := ⟨rfl, rfl, rfl, by decide +kernel, rfl, by decide +kernel, by decide +kernel⟩
set_option maxHeartbeats 4000000 in
theorem ok__law_ask_right (T : TX K mg) : FnOk P w K mg base CX0 1 T.a__law_ask_right T.d__law_ask_right ["_law_gap", "_law_numbers", "_law_ask", "_law_mine"] (PM1 (δ := Int) (τ := (Str × Int × Int × Int × Unit) × (List (Int × Int × Unit)) × Unit) K (fun xs t => m__law_ask_right t.1 xs t.2.1 t.2.2.1)) := by
  refine T.F__law_ask_right.ok sc__law_ask_right (fun vs H Q E h => ?_) (fun cdv A outer s H vs Q E hr h => ?_)
  · obtain ⟨Kn, p, ws, v0, rest, t0, t, xs, r, xs', rfl, ek, kp, hp, hw, h0, h, hf, q⟩ := h
    show rest.length + 1 + 1 = _
    rw [Tp.len h]
    rfl
  · obtain ⟨Kn, p_0, ws, v_0, rest, gap_286, t, numbers_287, r_, xs_, rfl, ek, kp, hp, hw, hv_0, h, hf, q⟩ := h
    obtain ⟨ask_288, mine_289, u_⟩ := t
    obtain ⟨v_2, rr_, rfl, hv_1, h⟩ := h
    obtain ⟨v_3, rr_, rfl, hv_2, h⟩ := h
    obtain rfl := h
    replace hf : m__law_ask_right gap_286 numbers_287 ask_288 mine_289 = some (r_, xs_) := hf
    unfold m__law_ask_right at hf
    refine ⟨_, (pss_cons (ps_asg (pv 2) (kpg_tup (pgs_cons (pg_name (i := 4) sc__law_ask_right.nd rfl (.inl rfl)) (pgs_cons (pg_name (i := 5) sc__law_ask_right.nd rfl (.inl rfl)) (pgs_cons (pg_name (i := 6) sc__law_ask_right.nd rfl (.inl rfl)) (pgs_cons (pg_name (i := 7) sc__law_ask_right.nd rfl (.inl rfl)) pgs_nil))))))
      (pss_cons (ps_set (i := 8) sc__law_ask_right.nd rfl (.inl rfl) (pe_op op_sub (pe_op op_sub (pv 7) (pe_callB k_sum (by rfl) T.z_sum (by decide +kernel) (pa_cons (pe_slice k_sll (pv 1) (po_some (pv 5)) (po_some (pe_op op_add (pv 5) (pv 6)))) pa_nil))) (pe_op op_mul (pv 0) (pe_op op_sub (pv 6) pe_int))))
      (pss_cons (ps_if (pt_cmpR op_le (pv 8) pe_int (nomark _)) (pss_one (ps_ret (pe_cmpR (k_eqD hr.units) (pv 3) (pe_lst pa_nil) (nomark _)))) pss_nil)
      (pss_cons (ps_set (i := 9) sc__law_ask_right.nd rfl (.inl rfl) (pe_op op_rep (pe_lst (pa_cons pe_int pa_nil)) (pv 6)))
      (pss_cons (ps_for PassesOwn.never rfl (kpi_list (pv 3)) (kpg_tup (pgs_cons (pg_name (i := 10) sc__law_ask_right.nd rfl (.inl rfl)) (pgs_cons (pg_name (i := 11) sc__law_ask_right.nd rfl (.inl rfl)) pgs_nil))) (pss_cons (ps_if (PW.pt (pw_or (pt_not (pt_chain op_le op_lt (pv 5) (pv 10) (pe_op op_add (pv 5) (pv 6)))) (pw_or (pt_cmpR op_lt (pv 11) pe_int (nomark _)) (pw_or1 (pt_cmpR op_ne (pe_ix k_ixl (pv 9) (pe_op op_sub (pv 10) (pv 5)) (fun _ _ => rfl)) pe_int (nomark _)))))) (pss_one (ps_ret pe_bl)) pss_nil)
      (pss_cons (ps_asg (pv 11) (pg_sub (pv 9) (pe_op op_sub (pv 10) (pv 5)) set_list))
      (pss_one (ps_asg (pe_op op_add (pe_ix k_ixl (pv 1) (pv 10) (fun _ _ => rfl)) (pv 11)) (pg_sub (pv 1) (pv 10) set_list))))))
      (pss_one (ps_ret (pe_and (pe_cmpR op_eq (pe_callB k_sum (by rfl) T.z_sum (by decide +kernel) (pa_cons (pv 9) pa_nil)) (pv 8) (nomark _)) (pe_and (pe_cmpR (k_eqD hr.units) (pv 9) (pe_callBK k_sortedRev (by rfl) T.z_sorted (by decide +kernel) (pa_cons (pv 9) pa_nil) (pk_cons pe_bl pk_nil)) (nomark _)) (pe_one (pe_cmpR op_lt (pe_op op_sub (pe_ix k_ixl (pv 9) pe_int (fun _ _ => rfl)) (pe_ix k_ixl (pv 9) (pe_op op_sub (pv 6) pe_int) (fun _ _ => rfl))) pe_int (nomark _)))))))))))), ?_⟩
    refine enterM (sl := [sv gap_286, .at p_0, sv ask_288, sv mine_289, .any, .any, .any, .any, .any, .any, .any, .any]) (p := p_0) (xs := numbers_287) ek kp hp hw ⟨⟨v_0, rfl, hv_0⟩, rfl, ⟨v_2, rfl, hv_1⟩, ⟨v_3, rfl, hv_2⟩, trivial, trivial, trivial, trivial, trivial, trivial, trivial, trivial, trivial⟩ ?_
    have q := rt_ofM kp q
    clear hp hw ek kp
    obtain ⟨⟨name_290, first_291, spanned_292, amount_293, _⟩, h_name_290, hf⟩ := bind_some hf
    refine SB.seqB (fun kx_ => sb_unp (sl' := [sv gap_286, .at p_0, sv ask_288, sv mine_289, sv name_290, sv first_291, sv spanned_292, sv amount_293, .any, .any, .any, .any]) (EV.cast (ev_var (i := 2) rfl) (Option.some.inj h_name_290)) (gt_tup (gts_cons (gt_name rfl) (gts_cons (gt_name rfl) (gts_cons (gt_name rfl) (gts_cons (gt_name rfl) gts_nil))))) (kx_ _ _ ?_))
    obtain ⟨m_294, h_m_294, hf⟩ := bind_some hf
    obtain ⟨lack_295, h_lack_295, hf⟩ := bind_some hf
    refine SB.seqB (fun kx_ => sb_asg (sl' := [sv gap_286, .at p_0, sv ask_288, sv mine_289, sv name_290, sv first_291, sv spanned_292, sv amount_293, sv lack_295, .any, .any, .any]) rfl (EV.cast (ev_op (ev_op (ev_var (i := 7) rfl) (ev_bor (i := 1) (j := 0) (sl' := [sv gap_286, sv numbers_287, sv ask_288, sv mine_289, sv name_290, sv first_291, sv spanned_292, sv amount_293, .any, .any, .any, .any]) (ow1 := []) rfl rfl rfl rfl (ev_cb (ea_cons (EN.ev (en_sl (ev_var (i := 1) rfl) (eo_some (ev_var (i := 5) rfl)) (eo_some (ev_op (ev_var (i := 5) rfl) (ev_var (i := 6) rfl) r2_add)))) ea_nil) rc_sum)) r2_sub) (ev_op (ev_var (i := 0) rfl) (ev_op (ev_var (i := 6) rfl) (ev_int 1) r2_sub) (r2_mulO h_m_294)) r2_sub) (Option.some.inj h_lack_295)) (kx_ _ _ ?_))
    refine SB.seqB (fun kx_298 => sb_if (b := (decide (lack_295 ≤ (0 : Int)))) (et_test (ev_op (ev_var (i := 8) rfl) (ev_int 0) r2_le)) (fun hb_297 => ?_) (fun hb_297 => ?_))
    · have hf := ite_t hb_297 hf
      cases hf
      exact sb_ret (ev_op (ev_var (i := 3) rfl) (EN.ev (en_lst el_nil)) r2_eqT) q (List.Sublist.refl _)
    · have hf := ite_f hb_297 hf
      refine sb_nx ?_
      refine kx_298 _ _ ?_
      obtain ⟨rep_299, h_rep_299, hf⟩ := bind_some hf
      obtain ⟨cells_300, h_cells_300, hf⟩ := bind_some hf
      refine SB.seqB (fun kx_ => sb_asgO (sl' := fun p_cells_300 => [sv gap_286, .at p_0, sv ask_288, sv mine_289, sv name_290, sv first_291, sv spanned_292, sv amount_293, sv lack_295, .at p_cells_300, .any, .any]) (fun _ => rfl) (EN.cast (en_op (EN.ev (en_lst (el_cons (ev_int 0) el_nil))) (ev_var (i := 6) rfl) (r2_repO h_rep_299)) (Option.some.inj h_cells_300)) (fun p_cells_300 => (kx_ _ _ ?_)))
      obtain ⟨tot_309, h_tot_309, hf⟩ := bind_some hf
      refine SB.seqB (fun kx_321 => sb_for (β := (Int × Int × Unit)) (Sx := (List Int) × (List Int)) (fun s => [sv gap_286, .at p_0, sv ask_288, sv mine_289, sv name_290, sv first_291, sv spanned_292, sv amount_293, sv lack_295, .at p_cells_300, .any, .any]) (fun s => [ol p_cells_300 s.1, ol p_0 s.2]) (fun x s => [sv gap_286, .at p_0, sv ask_288, sv mine_289, sv name_290, sv first_291, sv spanned_292, sv amount_293, sv lack_295, .at p_cells_300, sv x.1, sv x.2.1]) [10, 11] (fun xs s => forC (m__law_ask_right_L1 first_291 spanned_292) xs s = some tot_309) (cells_300, numbers_287) (IT.m (it_list (ev_var (i := 3) rfl))) h_tot_309 (.keep (.keep (.keep (.keep (.keep (.keep (.keep (.keep (.keep (.keep (.keep (.keep .nil)))))))))))) (List.Sublist.refl _) (fun x s => (gt_tup (gts_cons (gt_name rfl) (gts_cons (gt_name rfl) gts_nil)))) ?_ ?_)
      · intro Kn1 b1 x_ rest_ s_ hP_306 N_ hN_305
        obtain ⟨number_303, more_304, _⟩ := x_
        obtain ⟨cells_301, numbers_302⟩ := s_
        obtain ⟨c_, hc_307, hP_306⟩ := bind_some hP_306
        have q_308 := q.base b1
        unfold m__law_ask_right_L1 at hc_307
        refine SB.is (sl' := [sv gap_286, .at p_0, sv ask_288, sv mine_289, sv name_290, sv first_291, sv spanned_292, sv amount_293, sv lack_295, .at p_cells_300, sv number_303, sv more_304]) (ow1 := [ol p_cells_300 cells_301, ol p_0 numbers_302]) rfl rfl ?_
        obtain ⟨b_313, h_b_313, hc_307⟩ := bind_some hc_307
        refine SB.seqB (fun kx_315 => sb_if (b := b_313) (et_orO h_b_313 (et_not (et_test (ev_chain (ev_var (i := 5) rfl) (ev_var (i := 10) rfl) r2_le (ev_op (ev_var (i := 5) rfl) (ev_var (i := 6) rfl) r2_add) r2_lt))) (fun _ _ h => by obtain ⟨b_312, h_b_312, h⟩ := bind_some h; have hz_ := Option.some.inj h; subst hz_; exact (et_orO h_b_312 (et_test (ev_op (ev_var (i := 11) rfl) (ev_int 1) r2_lt)) (fun _ _ h => by obtain ⟨i_311, h_i_311, h⟩ := bind_some h; have hz_ := Option.some.inj h; subst hz_; exact (et_test (ev_bor (i := 9) (j := 0) (sl' := [sv gap_286, .at p_0, sv ask_288, sv mine_289, sv name_290, sv first_291, sv spanned_292, sv amount_293, sv lack_295, sv cells_301, sv number_303, sv more_304]) (ow1 := [ol p_0 numbers_302]) rfl rfl rfl rfl (ev_op (ev_op (ev_var (i := 9) rfl) (ev_op (ev_var (i := 10) rfl) (ev_var (i := 5) rfl) r2_sub) (r2_ixL h_i_311)) (ev_int 0) r2_neI))))))) (fun hb_314 => ?_) (fun hb_314 => ?_))
        · have hc_307 := ite_t hb_314 hc_307
          cases hc_307
          replace hP_306 : some (Ctl.rt (false, numbers_302)) = some tot_309 := hP_306
          cases hP_306
          replace hf : some (false, numbers_302) = some (r_, xs_) := hf
          cases hf
          exact sb_ret (ev_bool false) q_308 (List.Sublist.cons _ (List.Sublist.cons_cons _ List.Sublist.slnil))
        · have hc_307 := ite_f hb_314 hc_307
          refine sb_nx ?_
          refine kx_315 _ _ ?_
          obtain ⟨cells_316, h_cells_316, hc_307⟩ := bind_some hc_307
          refine SB.seqB (fun kx_ => sb_setO (i := 9) (j := 0) rfl rfl (ev_var (i := 11) rfl) (ev_op (ev_var (i := 10) rfl) (ev_var (i := 5) rfl) r2_sub) h_cells_316 (ow1 := [ol p_cells_300 cells_316, ol p_0 numbers_302]) rfl (kx_ _ _ ?_))
          obtain ⟨i_317, h_i_317, hc_307⟩ := bind_some hc_307
          obtain ⟨numbers_318, h_numbers_318, hc_307⟩ := bind_some hc_307
          refine sb_setO (i := 1) (j := 1) rfl rfl (ev_op (ev_ixO (i := 1) (j := 1) rfl rfl (ev_var (i := 10) rfl) h_i_317) (ev_var (i := 11) rfl) r2_add) (ev_var (i := 10) rfl) h_numbers_318 (ow1 := [ol p_cells_300 cells_316, ol p_0 numbers_318]) rfl ?_
          cases hc_307
          exact fun σ Kn H s => hN_305 _ hP_306 σ Kn H ((s.le (.keep (.keep (.keep (.keep (.keep (.keep (.keep (.keep (.keep (.keep (.drop (.drop .nil))))))))))))).sub (List.Sublist.refl _))
      · intro s_ h0
        obtain ⟨cells_319, numbers_320⟩ := s_
        cases h0
        refine kx_321 _ _ ?_
        refine SB.is (sl' := [sv gap_286, .at p_0, sv ask_288, sv mine_289, sv name_290, sv first_291, sv spanned_292, sv amount_293, sv lack_295, .at p_cells_300, .any, .any]) (ow1 := [ol p_cells_300 cells_319, ol p_0 numbers_320]) rfl rfl ?_
        refine sb_freeze (i := 9) (j := 0) (sl' := [sv gap_286, .at p_0, sv ask_288, sv mine_289, sv name_290, sv first_291, sv spanned_292, sv amount_293, sv lack_295, sv cells_319, .any, .any]) (ow1 := [ol p_0 numbers_320]) rfl rfl rfl rfl ?_
        obtain ⟨b_325, h_b_325, hf⟩ := bind_some hf
        cases hf
        exact sb_ret (ev_andO h_b_325 (ev_op (ev_cb (ea_cons (ev_var (i := 9) rfl) ea_nil) rc_sum) (ev_var (i := 8) rfl) r2_eqI) (fun _ _ h => by obtain ⟨b_324, h_b_324, h⟩ := bind_some h; have hz_ := Option.some.inj h; subst hz_; exact (ev_andO h_b_324 (ev_op (ev_var (i := 9) rfl) (EN.ev (en_sortR (ev_var (i := 9) rfl))) r2_eqT) (fun _ _ h => by obtain ⟨i_322, h_i_322, h⟩ := bind_some h; obtain ⟨i_323, h_i_323, h⟩ := bind_some h; have hz_ := Option.some.inj h; subst hz_; exact (ev_op (ev_op (ev_op (ev_var (i := 9) rfl) (ev_int 0) (r2_ixL h_i_322)) (ev_op (ev_var (i := 9) rfl) (ev_op (ev_var (i := 6) rfl) (ev_int 1) r2_sub) (r2_ixL h_i_323)) r2_sub) (ev_int 2) r2_lt))))) q (List.Sublist.refl _)
theorem sc__law_in_order : FnScope ["_law_raises", "_law_asks_here", "_law_order", "_law_name", "_law_first", "_law_spanned", "_law_amount", "_law_keys", "_law_number", "_law_cells"] ["_law_raises", "_law_asks_here"] (defScope s__law_in_order) := ⟨rfl, rfl, rfl, by decide +kernel, rfl, by decide +kernel, by decide +kernel⟩
set_option maxHeartbeats 4000000 in
theorem ok__law_in_order (T : TX K mg) : FnOk P w K mg base CX0 1 T.a__law_in_order T.d__law_in_order ["_law_raises", "_law_asks_here"] (PF (τ := (List (Str × Int × Int × Unit)) × (List (Str × Int × Int × Int × Unit)) × Unit) K (fun t => m__law_in_order t.1 t.2.1)) := by
  refine T.F__law_in_order.ok sc__law_in_order (fun vs H Q E h => ?_) (fun cdv A outer s H vs Q E hr h => ?_)
  · obtain ⟨Kn, t, r, ek, h, hf, q⟩ := h
    exact Tp.len h
  · obtain ⟨Kn, t, r_, ek, h, hf, q⟩ := h
    obtain ⟨raises_326, asks_here_327, u_⟩ := t
    obtain ⟨v_0, rr_, rfl, hv_0, h⟩ := h
    obtain ⟨v_1, rr_, rfl, hv_1, h⟩ := h
    obtain rfl := h
    replace hf : m__law_in_order raises_326 asks_here_327 = some r_ := hf
    unfold m__law_in_order at hf
    refine ⟨_, (pss_cons (ps_set (i := 2) sc__law_in_order.nd rfl (.inr rfl) pe_dnewK)
      (pss_cons (ps_for PassesOwn.never rfl (kpi_list (pv 1)) (kpg_tup (pgs_cons (pg_name (i := 3) sc__law_in_order.nd rfl (.inl rfl)) (pgs_cons (pg_name (i := 4) sc__law_in_order.nd rfl (.inl rfl)) (pgs_cons (pg_name (i := 5) sc__law_in_order.nd rfl (.inl rfl)) (pgs_cons (pg_name (i := 6) sc__law_in_order.nd rfl (.inl rfl)) pgs_nil))))) (pss_one (k_dput hr.units (pv 2) (pv 3) (pe_tup (pa_cons (pv 5) (pa_cons (pv 3) pa_nil))) rfl)))
      (pss_cons (ps_if (pt_not (pt_val (pe_callB k_all (by rfl) T.z_all (by decide +kernel) (pa_cons (pe_lc (own := [("_law_name", 3), ("_law_number", 8), ("_law_cells", 9)]) (g := gTup K 3 (gCons (gName 3) (gCons (gName 8) (gCons (gName 9) gNil)))) (tt := tYes) (by rfl) sc__law_in_order.nd (kpi_list (pv 0)) (blkOk_by (own := [("_law_name", 3), ("_law_number", 8), ("_law_cells", 9)]) (N := ["_law_raises", "_law_asks_here", "_law_order", "_law_name", "_law_first", "_law_spanned", "_law_amount", "_law_keys", "_law_number", "_law_cells"]) (sc := defScope s__law_in_order) (by decide +kernel)) (fun _ _ _ _ _ => (kpg_tup (pgs_cons (pg_name (i := 3) sc__law_in_order.nd rfl (Or.inl rfl)) (pgs_cons (pg_name (i := 8) sc__law_in_order.nd rfl (Or.inl rfl)) (pgs_cons (pg_name (i := 9) sc__law_in_order.nd rfl (Or.inl rfl)) pgs_nil))))) (fun _ _ _ _ _ => pts_nil) (fun _ _ _ _ _ => (pe_and (pe_cmp (k_din hr.units (pv 3) (pv 2)) rfl) (pe_one (pe_cmpR op_gt (pe_ix k_ixt (k_dget hr.units (pv 2) (pv 3) (fun _ _ => rfl)) pe_int (fun _ _ => rfl)) pe_int (nomark _)))))) pa_nil)))) (pss_one (ps_ret pe_bl)) pss_nil)
      (pss_cons (ps_setLc (i := 7) (own := [("_law_name", 3), ("_law_number", 8), ("_law_cells", 9)]) (g := gTup K 3 (gCons (gName 3) (gCons (gName 8) (gCons (gName 9) gNil)))) (tt := tYes) rfl sc__law_in_order.nd rfl rfl (sw_true rfl rfl rfl (by decide +kernel)) (kpi_list (pv 0)) (blkOk_by (own := [("_law_name", 3), ("_law_number", 8), ("_law_cells", 9)]) (N := ["_law_raises", "_law_asks_here", "_law_order", "_law_name", "_law_first", "_law_spanned", "_law_amount", "_law_keys", "_law_number", "_law_cells"]) (sc := defScope s__law_in_order) (by decide +kernel)) (fun _ _ _ _ _ => (kpg_tup (pgs_cons (pg_name (i := 3) sc__law_in_order.nd rfl (Or.inl rfl)) (pgs_cons (pg_name (i := 8) sc__law_in_order.nd rfl (Or.inl rfl)) (pgs_cons (pg_name (i := 9) sc__law_in_order.nd rfl (Or.inl rfl)) pgs_nil))))) (fun _ _ _ _ _ => pts_nil) (fun _ _ _ _ _ => (pe_tup (pa_cons (k_dget hr.units (pv 2) (pv 3) (fun _ _ => rfl)) (pa_cons (pv 8) pa_nil)))))
      (pss_one (ps_ret (pe_cmpR (k_eqD hr.units) (pv 7) (pe_callB (k_sortedD hr.units) (by rfl) T.z_sorted (by decide +kernel) (pa_cons (pv 7) pa_nil)) (nomark _)))))))), ?_⟩
    refine enter (Kn := Kn) (sl := [sv raises_326, sv asks_here_327, .any, .any, .any, .any, .any, .any, .any, .any]) ek ⟨⟨v_0, rfl, hv_0⟩, ⟨v_1, rfl, hv_1⟩, trivial, trivial, trivial, trivial, trivial, trivial, trivial, trivial, trivial⟩ ?_
    have q := rt_of q
    refine SB.seqB (fun kx_ => sb_dnewK (κ := Str) (β := (Int × Str × Unit)) (sl' := fun p_order_328 => [sv raises_326, sv asks_here_327, .at p_order_328, .any, .any, .any, .any, .any, .any, .any]) rfl (fun _ => rfl) (fun p_order_328 => (kx_ _ _ ?_)))
    obtain ⟨order_340, h_tot_338, hf⟩ := bind_some hf
    refine SB.seqB (fun kx_341 => sb_for (β := (Str × Int × Int × Int × Unit)) (Sx := (Dc Str (Int × Str × Unit))) (fun s => [sv raises_326, sv asks_here_327, .at p_order_328, .any, .any, .any, .any, .any, .any, .any]) (fun s => [oo p_order_328 s]) (fun x s => [sv raises_326, sv asks_here_327, .at p_order_328, sv x.1, sv x.2.1, sv x.2.2.1, sv x.2.2.2.1, .any, .any, .any]) [3, 4, 5, 6] (fun xs s => forS (m__law_in_order_L1) xs s = some order_340) (Dc.mk ([] : List (Str × (Int × Str × Unit)))) (IT.m (it_list (ev_var (i := 1) rfl))) h_tot_338 (.keep (.keep (.keep (.keep (.keep (.keep (.keep (.keep (.keep (.keep .nil)))))))))) (List.Sublist.refl _) (fun x s => (gt_tup (gts_cons (gt_name rfl) (gts_cons (gt_name rfl) (gts_cons (gt_name rfl) (gts_cons (gt_name rfl) gts_nil)))))) ?_ ?_)
    · intro Kn1 b1 x_ rest_ order_329 hP_335 N_ hN_334
      obtain ⟨name_330, first_331, spanned_332, amount_333, _⟩ := x_
      obtain ⟨c_, hc_336, hP_335⟩ := bind_some hP_335
      have q_337 := q.base b1
      unfold m__law_in_order_L1 at hc_336
      refine SB.is (sl' := [sv raises_326, sv asks_here_327, .at p_order_328, sv name_330, sv first_331, sv spanned_332, sv amount_333, .any, .any, .any]) (ow1 := [oo p_order_328 order_329]) rfl rfl ?_
      obtain ⟨order_339, h_order_339, hc_336⟩ := bind_some hc_336
      refine sb_dput (i := 2) (j := 0) rfl rfl (ev_tup (ea_cons (ev_var (i := 5) rfl) (ea_cons (ev_var (i := 3) rfl) ea_nil))) (ev_var (i := 3) rfl) h_order_339 (ow1 := [oo p_order_328 order_339]) rfl ?_
      cases hc_336
      exact fun σ Kn H s => hN_334 _ hP_335 σ Kn H ((s.le (.keep (.keep (.keep (.drop (.drop (.drop (.drop (.keep (.keep (.keep .nil))))))))))).sub (List.Sublist.refl _))
    · intro s_ h0
      cases h0
      refine kx_341 _ _ ?_
      refine SB.is (sl' := [sv raises_326, sv asks_here_327, .at p_order_328, .any, .any, .any, .any, .any, .any, .any]) (ow1 := [oo p_order_328 order_340]) rfl rfl ?_
      refine sb_freezeG (i := 2) (j := 0) (sl' := [sv raises_326, sv asks_here_327, sv order_340, .any, .any, .any, .any, .any, .any, .any]) (ow1 := []) rfl rfl rfl rfl ?_
      obtain ⟨zs_346, h_zs_346, hf⟩ := bind_some hf
      refine SB.seqB (fun kx_350 => sb_if (b := (!(zs_346.all id))) (et_not (et_B (ev_cb (ea_cons (EN.ev (en_lc (js := [3, 8, 9]) (fun x => [sv raises_326, sv asks_here_327, sv order_340, sv x.1, .any, .any, .any, .any, sv x.2.1, sv x.2.2.1]) h_zs_346 (it_list (ev_var (i := 0) rfl)) (anyAt_of (by rfl)) (fun x => (gt_tup (gts_cons (gt_name rfl) (gts_cons (gt_name rfl) (gts_cons (gt_name rfl) gts_nil))))) (sub_of (by rfl)) (fun _ _ x b h => by cases h; exact et_yes) (fun _ _ x z _ h => by obtain ⟨name_343, number_344, cells_345, _⟩ := x; obtain ⟨b_348, h_b_348, h⟩ := bind_some h; have hz_ := Option.some.inj h; subst hz_; exact EV.is (sl' := [sv raises_326, sv asks_here_327, sv order_340, sv name_343, .any, .any, .any, .any, sv number_344, sv cells_345]) rfl (ev_andO h_b_348 (ev_din (ev_var (i := 2) rfl) (ev_var (i := 3) rfl)) (fun _ _ h => by obtain ⟨i_347, h_i_347, h⟩ := bind_some h; have hz_ := Option.some.inj h; subst hz_; exact (ev_op (ev_op (ev_dget (ev_var (i := 2) rfl) (ev_var (i := 3) rfl) h_i_347) (ev_int 0) (r2_tix (n := 0) (At.z _ _))) (ev_int 1) r2_gt)))))) ea_nil) rc_all))) (fun hb_349 => ?_) (fun hb_349 => ?_))
      · have hf := ite_t hb_349 hf
        cases hf
        exact sb_ret (ev_bool false) q (List.Sublist.refl _)
      · have hf := ite_f hb_349 hf
        refine sb_nx ?_
        refine kx_350 _ _ ?_
        obtain ⟨zs_354, h_zs_354, hf⟩ := bind_some hf
        obtain ⟨keys_356, h_keys_356, hf⟩ := bind_some hf
        refine SB.seqB (fun kx_ => sb_asg (sl' := [sv raises_326, sv asks_here_327, sv order_340, .any, .any, .any, .any, sv keys_356, .any, .any]) rfl (EV.cast (EN.ev (en_lc (js := [3, 8, 9]) (fun x => [sv raises_326, sv asks_here_327, sv order_340, sv x.1, .any, .any, .any, .any, sv x.2.1, sv x.2.2.1]) h_zs_354 (it_list (ev_var (i := 0) rfl)) (anyAt_of (by rfl)) (fun x => (gt_tup (gts_cons (gt_name rfl) (gts_cons (gt_name rfl) (gts_cons (gt_name rfl) gts_nil))))) (sub_of (by rfl)) (fun _ _ x b h => by cases h; exact et_yes) (fun _ _ x z _ h => by obtain ⟨name_351, number_352, cells_353, _⟩ := x; obtain ⟨i_355, h_i_355, h⟩ := bind_some h; have hz_ := Option.some.inj h; subst hz_; exact EV.is (sl' := [sv raises_326, sv asks_here_327, sv order_340, sv name_351, .any, .any, .any, .any, sv number_352, sv cells_353]) rfl (ev_tup (ea_cons (ev_dget (ev_var (i := 2) rfl) (ev_var (i := 3) rfl) h_i_355) (ea_cons (ev_var (i := 8) rfl) ea_nil)))))) (Option.some.inj h_keys_356)) (kx_ _ _ ?_))
        obtain ⟨sd_357, h_sd_357, hf⟩ := bind_some hf
        obtain ⟨e_358, h_e_358, hf⟩ := bind_some hf
        cases hf
        exact sb_ret (ev_op (ev_var (i := 7) rfl) (EN.ev (en_cb (ea_cons (ev_var (i := 7) rfl) ea_nil) (rc_sortD h_sd_357))) (r2_eqO h_e_358)) q (List.Sublist.refl _)
theorem sc_law : FnScope ["_law_script", "_law_stream_here", "_law_many", "_law_top", "_law_floor", "_law_gap", "_law_asks_here", "_law_found", "_law_raises", "_law_numbers", "_law_name", "_law_first", "_law_spanned", "_law_amount", "_law_ask", "_law_k"] ["_law_script"] (defScope s_law) := ⟨rfl, rfl, rfl, by decide +kernel, rfl, by decide +kernel, by decide +kernel⟩
set_option maxHeartbeats 4000000 in
theorem ok_law (T : TX K mg) : FnOk P w K mg base CX0 4 T.a_law T.d_law ["_law_script"] (PF (τ := (Fz Int) × Unit) K (fun t => m_law t.1)) := by
  refine T.F_law.ok sc_law (fun vs H Q E h => ?_) (fun cdv A outer s H vs Q E hr h => ?_)
  · obtain ⟨Kn, t, r, ek, h, hf, q⟩ := h
    exact Tp.len h
  · obtain ⟨Kn, t, r_, ek, h, hf, q⟩ := h
    obtain ⟨script_359, u_⟩ := t
    obtain ⟨v_0, rr_, rfl, hv_0, h⟩ := h
    obtain rfl := h
    replace hf : m_law script_359 = some r_ := hf
    unfold m_law at hf
    refine ⟨_, (pss_cons (ps_set (i := 1) sc_law.nd rfl (.inr rfl) (pe_call (ok__law_stream T) (hr.mono (by decide)) (by rfl) T.g__law_stream T.F__law_stream.kp T.b__law_stream .nil pass0 (pa_cons (pv 0) pa_nil)))
      (pss_cons (ps_set (i := 2) sc_law.nd rfl (.inl rfl) (pe_op op_add pe_int (pe_call (ok__law_take T) (hr.mono (by decide)) (by rfl) T.g__law_take T.F__law_take.kp T.b__law_take .nil pass0 (pa_cons (pv 1) (pa_cons pe_int pa_nil)))))
      (pss_cons (ps_set (i := 3) sc_law.nd rfl (.inr rfl) (pe_ix k_ixl (pe_lst (pa_cons pe_int (pa_cons (pe_op op_add (pe_op op_pow pe_int pe_int) pe_int) pa_nil))) (pe_call (ok__law_take T) (hr.mono (by decide)) (by rfl) T.g__law_take T.F__law_take.kp T.b__law_take .nil pass0 (pa_cons (pv 1) (pa_cons pe_int pa_nil))) (fun _ _ => rfl)))
      (pss_cons (ps_setLc (i := 4) (own := [("_law_k", 15)]) (g := gName 15) (tt := tYes) rfl sc_law.nd rfl rfl (sw_true rfl rfl rfl (by decide +kernel)) (pi_range1 (by rfl) T.z_range (pa_cons (pv 2) pa_nil)) (blkOk_by (own := [("_law_k", 15)]) (N := ["_law_script", "_law_stream_here", "_law_many", "_law_top", "_law_floor", "_law_gap", "_law_asks_here", "_law_found", "_law_raises", "_law_numbers", "_law_name", "_law_first", "_law_spanned", "_law_amount", "_law_ask", "_law_k"]) (sc := defScope s_law) (by decide +kernel)) (fun _ _ _ _ _ => (pg_name (i := 15) sc_law.nd rfl (Or.inl rfl))) (fun _ _ _ _ _ => pts_nil) (fun _ _ _ _ _ => (pe_call (ok__law_take T) (hr.mono (by decide)) (by rfl) T.g__law_take T.F__law_take.kp T.b__law_take .nil pass0 (pa_cons (pv 1) (pa_cons (pe_ix k_ixl (pe_lst (pa_cons pe_int (pa_cons (pv 3) pa_nil))) (pe_call (ok__law_take T) (hr.mono (by decide)) (by rfl) T.g__law_take T.F__law_take.kp T.b__law_take .nil pass0 (pa_cons (pv 1) (pa_cons pe_int pa_nil))) (fun _ _ => rfl)) pa_nil)))))
      (pss_cons (ps_set (i := 5) sc_law.nd rfl (.inl rfl) (pe_call (ok__law_take T) (hr.mono (by decide)) (by rfl) T.g__law_take T.F__law_take.kp T.b__law_take .nil pass0 (pa_cons (pv 1) (pa_cons (pe_ix k_ixl (pe_lst (pa_cons pe_int (pa_cons pe_int pa_nil))) (pe_call (ok__law_take T) (hr.mono (by decide)) (by rfl) T.g__law_take T.F__law_take.kp T.b__law_take .nil pass0 (pa_cons (pv 1) (pa_cons pe_int pa_nil))) (fun _ _ => rfl)) pa_nil))))
      (pss_cons (ps_set (i := 6) sc_law.nd rfl (.inl rfl) (pe_call (ok__law_asks T) (hr.mono (by decide)) (by rfl) T.g__law_asks T.F__law_asks.kp T.b__law_asks .nil pass0 (pa_cons (pv 1) (pa_cons (pv 2) (pa_cons (pe_call (ok__law_names T) (hr.mono (by decide)) (by rfl) T.g__law_names T.F__law_names.kp T.b__law_names .nil pass0 (pa_cons (pv 1) (pa_cons (pe_call (ok__law_take T) (hr.mono (by decide)) (by rfl) T.g__law_take T.F__law_take.kp T.b__law_take .nil pass0 (pa_cons (pv 1) (pa_cons pe_int pa_nil))) pa_nil))) (pa_cons (pv 3) pa_nil))))))
      (pss_cons (ps_asg (pe_call (ok_raise_tracks T) hr (by rfl) T.g_raise_tracks T.F_raise_tracks.kp T.b_raise_tracks .nil pass0 (pa_cons (pv 2) (pa_cons (pv 5) (pa_cons (pv 4) (pa_cons (pv 6) pa_nil))))) (kpg_tup (pgs_cons (pg_name (i := 7) sc_law.nd rfl (.inl rfl)) (pgs_cons (pg_name (i := 8) sc_law.nd rfl (.inl rfl)) pgs_nil))))
      (pss_cons (ps_set (i := 9) sc_law.nd rfl (.inl rfl) (pe_callTy k_list (by rfl) T.z_list (by decide +kernel) (pa_cons (pv 4) pa_nil)))
      (pss_cons (ps_for PassesOwn.never rfl (kpi_list (pv 6)) (kpg_tup (pgs_cons (pg_name (i := 10) sc_law.nd rfl (.inl rfl)) (pgs_cons (pg_name (i := 11) sc_law.nd rfl (.inl rfl)) (pgs_cons (pg_name (i := 12) sc_law.nd rfl (.inl rfl)) (pgs_cons (pg_name (i := 13) sc_law.nd rfl (.inl rfl)) pgs_nil))))) (pss_one (ps_if (pt_cmpR op_eq (pv 12) pe_int (nomark _)) (pss_one (ps_asg (pe_callB k_max2 (by rfl) T.z_max (by decide +kernel) (pa_cons (pe_ix k_ixl (pv 9) (pv 11) (fun _ _ => rfl)) (pa_cons (pv 13) pa_nil))) (pg_sub (pv 9) (pv 11) set_list))) pss_nil)))
      (pss_cons (ps_if (pt_not (pt_val (pe_call (ok__law_in_order T) (hr.mono (by decide)) (by rfl) T.g__law_in_order T.F__law_in_order.kp T.b__law_in_order .nil pass0 (pa_cons (pv 8) (pa_cons (pv 6) pa_nil))))) (pss_one (ps_ret pe_bl)) pss_nil)
      (pss_cons (ps_for PassesOwn.never rfl (kpi_list (pe_callB (k_sortedD hr.units) (by rfl) T.z_sorted (by decide +kernel) (pa_cons (pe_lc (own := [("_law_ask", 14)]) (g := gName 14) (by rfl) sc_law.nd (kpi_list (pv 6)) (blkOk_by (own := [("_law_ask", 14)]) (N := ["_law_script", "_law_stream_here", "_law_many", "_law_top", "_law_floor", "_law_gap", "_law_asks_here", "_law_found", "_law_raises", "_law_numbers", "_law_name", "_law_first", "_law_spanned", "_law_amount", "_law_ask", "_law_k"]) (sc := defScope s_law) (by decide +kernel)) (fun _ _ _ _ _ => (pg_name (i := 14) sc_law.nd rfl (Or.inl rfl))) (fun _ _ _ _ _ => pts_one (pt_cmpR op_gt (pe_ix k_ixt (pv 14) pe_int (fun _ _ => rfl)) pe_int (nomark _))) (fun _ _ _ _ _ => (pe_tup (pa_cons (pe_ix k_ixt (pv 14) pe_int (fun _ _ => rfl)) (pa_cons (pe_ix k_ixt (pv 14) pe_int (fun _ _ => rfl)) pa_nil))))) pa_nil))) (kpg_tup (pgs_cons (pg_name (i := 12) sc_law.nd rfl (.inl rfl)) (pgs_cons (pg_name (i := 10) sc_law.nd rfl (.inl rfl)) pgs_nil))) (pss_one (ps_for PassesOwn.never rfl (kpi_list (pv 6)) (pg_name (i := 14) sc_law.nd rfl (.inl rfl)) (pss_one (ps_if (PW.pt (pw_and (pt_cmpR op_eq (pe_ix k_ixt (pv 14) pe_int (fun _ _ => rfl)) (pv 10) (nomark _)) (pw_and1 (pt_not (pt_val (pe_call (ok__law_ask_right T) (hr.mono (by decide)) (by rfl) T.g__law_ask_right T.F__law_ask_right.kp T.b__law_ask_right .nil pass0 (pa_cons (pv 5) (pa_cons (pv 9) (pa_cons (pv 14) (pa_cons (pe_call (ok__law_told T) (hr.mono (by decide)) (by rfl) T.g__law_told T.F__law_told.kp T.b__law_told .nil pass0 (pa_cons (pv 8) (pa_cons (pv 10) pa_nil))) pa_nil)))))))))) (pss_one (ps_ret pe_bl)) pss_nil)))))
      (pss_cons (ps_for PassesOwn.never rfl (kpi_list (pv 6)) (kpg_tup (pgs_cons (pg_name (i := 10) sc_law.nd rfl (.inl rfl)) (pgs_cons (pg_name (i := 11) sc_law.nd rfl (.inl rfl)) (pgs_cons (pg_name (i := 12) sc_law.nd rfl (.inl rfl)) (pgs_cons (pg_name (i := 13) sc_law.nd rfl (.inl rfl)) pgs_nil))))) (pss_one (ps_if (pt_cmpR op_lt (pe_op op_add (pe_callB k_sum (by rfl) T.z_sum (by decide +kernel) (pa_cons (pe_slice k_sll (pv 7) (po_some (pv 11)) (po_some (pe_op op_add (pv 11) (pv 12)))) pa_nil)) (pe_op op_mul (pv 5) (pe_op op_sub (pv 12) pe_int))) (pv 13) (nomark _)) (pss_one (ps_ret pe_bl)) pss_nil)))
      (pss_one (ps_ret (pe_and (pe_cmpR (k_eqD hr.units) (pv 7) (pv 9) (nomark _)) (pe_one (pe_cmpR (k_eqD hr.units) (pe_call (ok_raise_tracks T) hr (by rfl) T.g_raise_tracks T.F_raise_tracks.kp T.b_raise_tracks .nil pass0 (pa_cons (pv 2) (pa_cons (pv 5) (pa_cons (pv 7) (pa_cons (pv 6) pa_nil))))) (pe_tup (pa_cons (pv 7) (pa_cons (pe_lst pa_nil) pa_nil))) (nomark _)))))))))))))))))), ?_⟩
    refine enter (Kn := Kn) (sl := [sv script_359, .any, .any, .any, .any, .any, .any, .any, .any, .any, .any, .any, .any, .any, .any, .any]) ek ⟨⟨v_0, rfl, hv_0⟩, trivial, trivial, trivial, trivial, trivial, trivial, trivial, trivial, trivial, trivial, trivial, trivial, trivial, trivial, trivial, trivial⟩ ?_
    have q := rt_of q
    obtain ⟨r_360, h_r_360, hf⟩ := bind_some hf
    obtain ⟨stream_here_361, h_stream_here_361, hf⟩ := bind_some hf
    refine SB.seqB (fun kx_ => sb_asgO (sl' := fun p_stream_here_361 => [sv script_359, .at p_stream_here_361, .any, .any, .any, .any, .any, .any, .any, .any, .any, .any, .any, .any, .any, .any]) (fun _ => rfl) (EN.cast (en_call (ea_cons (ev_var (i := 0) rfl) ea_nil) h_r_360) (Option.some.inj h_stream_here_361)) (fun p_stream_here_361 => (kx_ _ _ ?_)))
    obtain ⟨⟨r_362, stream_here_363⟩, h_r_362, hf⟩ := bind_some hf
    obtain ⟨many_364, h_many_364, hf⟩ := bind_some hf
    refine SB.seqB (fun kx_ => sb_asgM (sl' := [sv script_359, .at p_stream_here_361, sv many_364, .any, .any, .any, .any, .any, .any, .any, .any, .any, .any, .any, .any, .any]) rfl (EM.cast (em_op (EV.em (ev_int 1)) (em_callM (i := 1) (j := 0) rfl (EA.eam (ea_cons (ev_int 12) ea_nil)) rfl h_r_362) r2_add) (Option.some.inj h_many_364)) (kx_ _ _ ?_))
    obtain ⟨⟨r_365, stream_here_366⟩, h_r_365, hf⟩ := bind_some hf
    obtain ⟨i_367, h_i_367, hf⟩ := bind_some hf
    obtain ⟨top_368, h_top_368, hf⟩ := bind_some hf
    refine SB.seqB (fun kx_ => sb_asgM (sl' := [sv script_359, .at p_stream_here_361, sv many_364, sv top_368, .any, .any, .any, .any, .any, .any, .any, .any, .any, .any, .any, .any]) rfl (EM.cast (em_op (EV.em (EN.ev (en_lst (el_cons (ev_int 61) (el_cons (ev_op (ev_op (ev_int 10) (ev_int 6) (r2_pow (r := 1000000))) (ev_int 1) r2_add) el_nil))))) (em_callM (i := 1) (j := 0) rfl (EA.eam (ea_cons (ev_int 2) ea_nil)) rfl h_r_365) (r2_ixL h_i_367)) (Option.some.inj h_top_368)) (kx_ _ _ ?_))
    obtain ⟨rg_369, h_rg_369, hf⟩ := bind_some hf
    obtain ⟨⟨zs_371, stream_here_379⟩, h_zs_371, hf⟩ := bind_some hf
    obtain ⟨floor_380, h_floor_380, hf⟩ := bind_some hf
    refine SB.seqB (fun kx_ => sb_asgM (sl' := [sv script_359, .at p_stream_here_361, sv many_364, sv top_368, sv floor_380, .any, .any, .any, .any, .any, .any, .any, .any, .any, .any, .any]) rfl (EM.cast (ENM.em (enm_lc (js := [15]) (fun s => [ol p_stream_here_361 s]) (fun x => [sv script_359, .at p_stream_here_361, sv many_364, sv top_368, .any, .any, .any, .any, .any, .any, .any, .any, .any, .any, .any, sv x]) _ _ h_zs_371 (IT.m (it_rng1 (ea_cons (ev_var (i := 2) rfl) ea_nil) h_rg_369)) (anyAt_of (by rfl)) (fun x => (gt_name rfl)) (sub_of (by rfl)) (fun Kn1 b1 p acc x st_372 z s' h => by obtain ⟨k_370, hx_⟩ : ∃ y, y = x := ⟨x, rfl⟩; subst hx_; obtain ⟨⟨r_374, stream_here_375⟩, h_r_374, h⟩ := bind_some h; obtain ⟨i_376, h_i_376, h⟩ := bind_some h; obtain ⟨⟨r_377, stream_here_378⟩, h_r_377, h⟩ := bind_some h; obtain ⟨hz1_, hz2_⟩ := Prod.mk.inj (Option.some.inj h); subst hz1_; subst hz2_; exact EM.is (sl' := [sv script_359, .at p_stream_here_361, sv many_364, sv top_368, .any, .any, .any, .any, .any, .any, .any, .any, .any, .any, .any, sv k_370]) rfl (ow2 := ol p acc :: [ol p_stream_here_361 st_372]) rfl (ow0 := ol p acc :: [ol p_stream_here_361 stream_here_378]) rfl (em_callM (i := 1) (j := 1) rfl (eam_cons (em_op (EV.em (EN.ev (en_lst (el_cons (ev_int 9) (el_cons (ev_var (i := 3) rfl) el_nil))))) (em_callM (i := 1) (j := 1) rfl (EA.eam (ea_cons (ev_int 2) ea_nil)) rfl h_r_374) (r2_ixL h_i_376)) eam_nil) rfl h_r_377)))) (Option.some.inj h_floor_380)) (kx_ _ _ ?_))
    obtain ⟨⟨r_381, stream_here_382⟩, h_r_381, hf⟩ := bind_some hf
    obtain ⟨i_383, h_i_383, hf⟩ := bind_some hf
    obtain ⟨⟨r_384, stream_here_385⟩, h_r_384, hf⟩ := bind_some hf
    obtain ⟨gap_386, h_gap_386, hf⟩ := bind_some hf
    refine SB.seqB (fun kx_ => sb_asgM (sl' := [sv script_359, .at p_stream_here_361, sv many_364, sv top_368, sv floor_380, sv gap_386, .any, .any, .any, .any, .any, .any, .any, .any, .any, .any]) rfl (EM.cast (em_callM (i := 1) (j := 0) rfl (eam_cons (em_op (EV.em (EN.ev (en_lst (el_cons (ev_int 5) (el_cons (ev_int 1001) el_nil))))) (em_callM (i := 1) (j := 0) rfl (EA.eam (ea_cons (ev_int 2) ea_nil)) rfl h_r_381) (r2_ixL h_i_383)) eam_nil) rfl h_r_384) (Option.some.inj h_gap_386)) (kx_ _ _ ?_))
    obtain ⟨⟨r_387, stream_here_388⟩, h_r_387, hf⟩ := bind_some hf
    obtain ⟨⟨r_389, stream_here_390⟩, h_r_389, hf⟩ := bind_some hf
    obtain ⟨⟨r_391, stream_here_392⟩, h_r_391, hf⟩ := bind_some hf
    obtain ⟨asks_here_393, h_asks_here_393, hf⟩ := bind_some hf
    refine SB.seqB (fun kx_ => sb_asgM (sl' := [sv script_359, .at p_stream_here_361, sv many_364, sv top_368, sv floor_380, sv gap_386, sv asks_here_393, .any, .any, .any, .any, .any, .any, .any, .any, .any]) rfl (EM.cast (em_callM (i := 1) (j := 0) rfl (eam_cons (EV.em (ev_var (i := 2) rfl)) (eam_cons (em_callM (i := 1) (j := 0) rfl (eam_cons (em_callM (i := 1) (j := 0) rfl (EA.eam (ea_cons (ev_int 11) ea_nil)) rfl h_r_387) eam_nil) rfl h_r_389) (eam_cons (EV.em (ev_var (i := 3) rfl)) eam_nil))) rfl h_r_391) (Option.some.inj h_asks_here_393)) (kx_ _ _ ?_))
    obtain ⟨r_394, h_r_394, hf⟩ := bind_some hf
    obtain ⟨⟨found_395, raises_396, _⟩, h_found_395, hf⟩ := bind_some hf
    refine SB.seqB (fun kx_ => sb_unp (sl' := [sv script_359, .at p_stream_here_361, sv many_364, sv top_368, sv floor_380, sv gap_386, sv asks_here_393, sv found_395, sv raises_396, .any, .any, .any, .any, .any, .any, .any]) (EV.cast (ev_call (ea_cons (ev_var (i := 2) rfl) (ea_cons (ev_var (i := 5) rfl) (ea_cons (ev_var (i := 4) rfl) (ea_cons (ev_var (i := 6) rfl) ea_nil)))) h_r_394) (Option.some.inj h_found_395)) (gt_tup (gts_cons (gt_name rfl) (gts_cons (gt_name rfl) gts_nil))) (kx_ _ _ ?_))
    obtain ⟨numbers_397, h_numbers_397, hf⟩ := bind_some hf
    refine SB.seqB (fun kx_ => sb_asgO (sl' := fun p_numbers_397 => [sv script_359, .at p_stream_here_361, sv many_364, sv top_368, sv floor_380, sv gap_386, sv asks_here_393, sv found_395, sv raises_396, .at p_numbers_397, .any, .any, .any, .any, .any, .any]) (fun _ => rfl) (EN.cast (en_cb (ea_cons (ev_var (i := 4) rfl) ea_nil) rc_list) (Option.some.inj h_numbers_397)) (fun p_numbers_397 => (kx_ _ _ ?_)))
    obtain ⟨numbers_413, h_tot_407, hf⟩ := bind_some hf
    refine SB.seqB (fun kx_414 => sb_for (β := (Str × Int × Int × Int × Unit)) (Sx := (List Int)) (fun s => [sv script_359, .at p_stream_here_361, sv many_364, sv top_368, sv floor_380, sv gap_386, sv asks_here_393, sv found_395, sv raises_396, .at p_numbers_397, .any, .any, .any, .any, .any, .any]) (fun s => [ol p_numbers_397 s, ol p_stream_here_361 stream_here_392]) (fun x s => [sv script_359, .at p_stream_here_361, sv many_364, sv top_368, sv floor_380, sv gap_386, sv asks_here_393, sv found_395, sv raises_396, .at p_numbers_397, sv x.1, sv x.2.1, sv x.2.2.1, sv x.2.2.2.1, .any, .any]) [10, 11, 12, 13] (fun xs s => forS (m_law_L1) xs s = some numbers_413) numbers_397 (IT.m (it_list (ev_var (i := 6) rfl))) h_tot_407 (.keep (.keep (.keep (.keep (.keep (.keep (.keep (.keep (.keep (.keep (.keep (.keep (.keep (.keep (.keep (.keep .nil)))))))))))))))) (List.Sublist.refl _) (fun x s => (gt_tup (gts_cons (gt_name rfl) (gts_cons (gt_name rfl) (gts_cons (gt_name rfl) (gts_cons (gt_name rfl) gts_nil)))))) ?_ ?_)
    · intro Kn1 b1 x_ rest_ numbers_398 hP_404 N_ hN_403
      obtain ⟨name_399, first_400, spanned_401, amount_402, _⟩ := x_
      obtain ⟨c_, hc_405, hP_404⟩ := bind_some hP_404
      have q_406 := q.base b1
      unfold m_law_L1 at hc_405
      refine SB.is (sl' := [sv script_359, .at p_stream_here_361, sv many_364, sv top_368, sv floor_380, sv gap_386, sv asks_here_393, sv found_395, sv raises_396, .at p_numbers_397, sv name_399, sv first_400, sv spanned_401, sv amount_402, .any, .any]) (ow1 := [ol p_numbers_397 numbers_398, ol p_stream_here_361 stream_here_392]) rfl rfl ?_
      refine sb_if (b := (decide (spanned_401 = (1 : Int)))) (et_test (ev_op (ev_var (i := 12) rfl) (ev_int 1) r2_eqI)) (fun hb_409 => ?_) (fun hb_409 => ?_)
      · have hc_405 := ite_t hb_409 hc_405
        obtain ⟨i_411, h_i_411, hc_405⟩ := bind_some hc_405
        obtain ⟨numbers_412, h_numbers_412, hc_405⟩ := bind_some hc_405
        refine sb_setO (i := 9) (j := 0) rfl rfl (ev_bor (i := 9) (j := 0) (sl' := [sv script_359, .at p_stream_here_361, sv many_364, sv top_368, sv floor_380, sv gap_386, sv asks_here_393, sv found_395, sv raises_396, sv numbers_398, sv name_399, sv first_400, sv spanned_401, sv amount_402, .any, .any]) (ow1 := [ol p_stream_here_361 stream_here_392]) rfl rfl rfl rfl (ev_cb (ea_cons (ev_op (ev_var (i := 9) rfl) (ev_var (i := 11) rfl) (r2_ixL h_i_411)) (ea_cons (ev_var (i := 13) rfl) ea_nil)) rc_max)) (ev_var (i := 11) rfl) h_numbers_412 (ow1 := [ol p_numbers_397 numbers_412, ol p_stream_here_361 stream_here_392]) rfl ?_
        cases hc_405
        exact fun σ Kn H s => hN_403 _ hP_404 σ Kn H ((s.le (.keep (.keep (.keep (.keep (.keep (.keep (.keep (.keep (.keep (.keep (.drop (.drop (.drop (.drop (.keep (.keep .nil))))))))))))))))).sub (List.Sublist.refl _))
      · have hc_405 := ite_f hb_409 hc_405
        refine sb_nx ?_
        cases hc_405
        exact fun σ Kn H s => hN_403 _ hP_404 σ Kn H ((s.le (.keep (.keep (.keep (.keep (.keep (.keep (.keep (.keep (.keep (.keep (.drop (.drop (.drop (.drop (.keep (.keep .nil))))))))))))))))).sub (List.Sublist.refl _))
    · intro s_ h0
      cases h0
      refine kx_414 _ _ ?_
      refine SB.is (sl' := [sv script_359, .at p_stream_here_361, sv many_364, sv top_368, sv floor_380, sv gap_386, sv asks_here_393, sv found_395, sv raises_396, .at p_numbers_397, .any, .any, .any, .any, .any, .any]) (ow1 := [ol p_numbers_397 numbers_413, ol p_stream_here_361 stream_here_392]) rfl rfl ?_
      obtain ⟨r_416, h_r_416, hf⟩ := bind_some hf
      refine SB.seqB (fun kx_418 => sb_if (b := (!r_416)) (et_not (et_B (ev_call (ea_cons (ev_var (i := 8) rfl) (ea_cons (ev_var (i := 6) rfl) ea_nil)) h_r_416))) (fun hb_417 => ?_) (fun hb_417 => ?_))
      · have hf := ite_t hb_417 hf
        cases hf
        exact sb_ret (ev_bool false) q (List.Sublist.cons _ (List.Sublist.cons _ List.Sublist.slnil))
      · have hf := ite_f hb_417 hf
        refine sb_nx ?_
        refine kx_418 _ _ ?_
        obtain ⟨zs_420, h_zs_420, hf⟩ := bind_some hf
        obtain ⟨sd_421, h_sd_421, hf⟩ := bind_some hf
        obtain ⟨tot_429, h_tot_429, hf⟩ := bind_some hf
        refine SB.seqB (fun kx_448 => sb_for (β := (Int × Str × Unit)) (Sx := (List Int)) (fun s => [sv script_359, .at p_stream_here_361, sv many_364, sv top_368, sv floor_380, sv gap_386, sv asks_here_393, sv found_395, sv raises_396, .at p_numbers_397, .any, .any, .any, .any, .any, .any]) (fun s => [ol p_numbers_397 s, ol p_stream_here_361 stream_here_392]) (fun x s => [sv script_359, .at p_stream_here_361, sv many_364, sv top_368, sv floor_380, sv gap_386, sv asks_here_393, sv found_395, sv raises_396, .at p_numbers_397, sv x.2.1, .any, sv x.1, .any, .any, .any]) [12, 10] (fun xs s => forC (m_law_L2 gap_386 asks_here_393 raises_396) xs s = some tot_429) numbers_413 (IT.m (it_list (EN.ev (en_cb (ea_cons (EN.ev (en_lc (js := [14]) (fun x => [sv script_359, .at p_stream_here_361, sv many_364, sv top_368, sv floor_380, sv gap_386, sv asks_here_393, sv found_395, sv raises_396, .at p_numbers_397, .any, .any, .any, .any, sv x, .any]) h_zs_420 (it_list (ev_var (i := 6) rfl)) (anyAt_of (by rfl)) (fun x => (gt_name rfl)) (sub_of (by rfl)) (fun _ _ x b h => by obtain ⟨ask_419, hx_⟩ : ∃ y, y = x := ⟨x, rfl⟩; subst hx_; have hz_ := Option.some.inj h; subst hz_; exact ET.is (sl' := [sv script_359, .at p_stream_here_361, sv many_364, sv top_368, sv floor_380, sv gap_386, sv asks_here_393, sv found_395, sv raises_396, .at p_numbers_397, .any, .any, .any, .any, sv ask_419, .any]) rfl (et_test (ev_op (ev_op (ev_var (i := 14) rfl) (ev_int 2) (r2_tix (n := 2) (At.s _ (At.s _ (At.z _ _))))) (ev_int 1) r2_gt))) (fun _ _ x z _ h => by obtain ⟨ask_419, hx_⟩ : ∃ y, y = x := ⟨x, rfl⟩; subst hx_; have hz_ := Option.some.inj h; subst hz_; exact EV.is (sl' := [sv script_359, .at p_stream_here_361, sv many_364, sv top_368, sv floor_380, sv gap_386, sv asks_here_393, sv found_395, sv raises_396, .at p_numbers_397, .any, .any, .any, .any, sv ask_419, .any]) rfl (ev_tup (ea_cons (ev_op (ev_var (i := 14) rfl) (ev_int 2) (r2_tix (n := 2) (At.s _ (At.s _ (At.z _ _))))) (ea_cons (ev_op (ev_var (i := 14) rfl) (ev_int 0) (r2_tix (n := 0) (At.z _ _))) ea_nil)))))) ea_nil) (rc_sortD h_sd_421))))) h_tot_429 (.keep (.keep (.keep (.keep (.keep (.keep (.keep (.keep (.keep (.keep (.keep (.keep (.keep (.keep (.keep (.keep .nil)))))))))))))))) (List.Sublist.refl _) (fun x s => (gt_tup (gts_cons (gt_name rfl) (gts_cons (gt_name rfl) gts_nil)))) ?_ ?_)
        · intro Kn1 b1 x_ rest_ numbers_422 hP_426 N_ hN_425
          obtain ⟨spanned_423, name_424, _⟩ := x_
          obtain ⟨c_, hc_427, hP_426⟩ := bind_some hP_426
          have q_428 := q.base b1
          unfold m_law_L2 at hc_427
          refine SB.is (sl' := [sv script_359, .at p_stream_here_361, sv many_364, sv top_368, sv floor_380, sv gap_386, sv asks_here_393, sv found_395, sv raises_396, .at p_numbers_397, sv name_424, .any, sv spanned_423, .any, .any, .any]) (ow1 := [ol p_numbers_397 numbers_422, ol p_stream_here_361 stream_here_392]) rfl rfl ?_
          obtain ⟨tot_436, h_tot_436, hc_427⟩ := bind_some hc_427
          refine sb_for (β := (Str × Int × Int × Int × Unit)) (Sx := (List Int)) (fun s => [sv script_359, .at p_stream_here_361, sv many_364, sv top_368, sv floor_380, sv gap_386, sv asks_here_393, sv found_395, sv raises_396, .at p_numbers_397, sv name_424, .any, sv spanned_423, .any, .any, .any]) (fun s => [ol p_numbers_397 s, ol p_stream_here_361 stream_here_392]) (fun x s => [sv script_359, .at p_stream_here_361, sv many_364, sv top_368, sv floor_380, sv gap_386, sv asks_here_393, sv found_395, sv raises_396, .at p_numbers_397, sv name_424, .any, sv spanned_423, .any, sv x, .any]) [14] (fun xs s => forC (m_law_L3 gap_386 raises_396 name_424) xs s = some tot_436) numbers_422 (IT.m (it_list (ev_var (i := 6) rfl))) h_tot_436 (.keep (.keep (.keep (.keep (.keep (.keep (.keep (.keep (.keep (.keep (.keep (.keep (.keep (.keep (.keep (.keep .nil)))))))))))))))) (List.Sublist.refl _) (fun x s => (gt_name rfl)) ?_ ?_
          · intro Kn1 b1 ask_431 rest_ numbers_430 hP_433 N_ hN_432
            obtain ⟨c_, hc_434, hP_433⟩ := bind_some hP_433
            have q_435 := q_428.base b1
            unfold m_law_L3 at hc_434
            refine SB.is (sl' := [sv script_359, .at p_stream_here_361, sv many_364, sv top_368, sv floor_380, sv gap_386, sv asks_here_393, sv found_395, sv raises_396, .at p_numbers_397, sv name_424, .any, sv spanned_423, .any, sv ask_431, .any]) (ow1 := [ol p_numbers_397 numbers_430, ol p_stream_here_361 stream_here_392]) rfl rfl ?_
            obtain ⟨⟨b_441, numbers_442⟩, h_b_441, hc_434⟩ := bind_some hc_434
            refine sb_ifM (b := b_441) (etm_andO (j := 0) h_b_441 rfl (et_test (ev_op (ev_op (ev_var (i := 14) rfl) (ev_int 0) (r2_tix (n := 0) (At.z _ _))) (ev_var (i := 10) rfl) r2_eqS)) (fun _ _ _ h => by obtain ⟨r_438, h_r_438, h⟩ := bind_some h; obtain ⟨⟨r_439, numbers_440⟩, h_r_439, h⟩ := bind_some h; obtain ⟨hz1_, hz2_⟩ := Prod.mk.inj (Option.some.inj h); subst hz1_; subst hz2_; exact (etm_not (etm_B (em_callM1 (i := 9) (j := 0) (ev_var (i := 5) rfl) rfl rfl (ea_cons (ev_var (i := 14) rfl) (ea_cons (EN.ev (en_call (ea_cons (ev_var (i := 8) rfl) (ea_cons (ev_var (i := 10) rfl) ea_nil)) h_r_438)) ea_nil)) h_r_439))))) (fun hb_443 => ?_) (fun hb_443 => ?_)
            · have hc_434 := ite_t hb_443 hc_434
              cases hc_434
              replace hP_433 : some (Ctl.rt false) = some tot_436 := hP_433
              cases hP_433
              cases hc_427
              replace hP_426 : some (Ctl.rt false) = some tot_429 := hP_426
              cases hP_426
              replace hf : some false = some r_ := hf
              cases hf
              exact sb_ret (ev_bool false) q_435 (List.Sublist.cons _ (List.Sublist.cons _ List.Sublist.slnil))
            · have hc_434 := ite_f hb_443 hc_434
              refine sb_nx ?_
              cases hc_434
              exact fun σ Kn H s => hN_432 _ hP_433 σ Kn H ((s.le (.keep (.keep (.keep (.keep (.keep (.keep (.keep (.keep (.keep (.keep (.keep (.keep (.keep (.keep (.drop (.keep .nil))))))))))))))))).sub (List.Sublist.refl _))
          · intro numbers_445 h0
            cases h0
            show SN _ _ _ [sv script_359, .at p_stream_here_361, sv many_364, sv top_368, sv floor_380, sv gap_386, sv asks_here_393, sv found_395, sv raises_396, .at p_numbers_397, sv name_424, .any, sv spanned_423, .any, .any, .any] [ol p_numbers_397 numbers_445, ol p_stream_here_361 stream_here_392] _
            cases hc_427
            exact fun σ Kn H s => hN_425 _ hP_426 σ Kn H ((s.le (.keep (.keep (.keep (.keep (.keep (.keep (.keep (.keep (.keep (.keep (.drop (.keep (.drop (.keep (.keep (.keep .nil))))))))))))))))).sub (List.Sublist.refl _))
        · intro numbers_447 h0
          cases h0
          refine kx_448 _ _ ?_
          refine SB.is (sl' := [sv script_359, .at p_stream_here_361, sv many_364, sv top_368, sv floor_380, sv gap_386, sv asks_here_393, sv found_395, sv raises_396, .at p_numbers_397, .any, .any, .any, .any, .any, .any]) (ow1 := [ol p_numbers_397 numbers_447, ol p_stream_here_361 stream_here_392]) rfl rfl ?_
          obtain ⟨tot_457, h_tot_457, hf⟩ := bind_some hf
          refine SB.seqB (fun kx_462 => sb_for (β := (Str × Int × Int × Int × Unit)) (Sx := Unit) (fun s => [sv script_359, .at p_stream_here_361, sv many_364, sv top_368, sv floor_380, sv gap_386, sv asks_here_393, sv found_395, sv raises_396, .at p_numbers_397, .any, .any, .any, .any, .any, .any]) (fun s => [ol p_numbers_397 numbers_447, ol p_stream_here_361 stream_here_392]) (fun x s => [sv script_359, .at p_stream_here_361, sv many_364, sv top_368, sv floor_380, sv gap_386, sv asks_here_393, sv found_395, sv raises_396, .at p_numbers_397, sv x.1, sv x.2.1, sv x.2.2.1, sv x.2.2.2.1, .any, .any]) [10, 11, 12, 13] (fun xs s => forC (m_law_L4 gap_386 found_395) xs s = some tot_457) () (IT.m (it_list (ev_var (i := 6) rfl))) h_tot_457 (.keep (.keep (.keep (.keep (.keep (.keep (.keep (.keep (.keep (.keep (.keep (.keep (.keep (.keep (.keep (.keep .nil)))))))))))))))) (List.Sublist.refl _) (fun x s => (gt_tup (gts_cons (gt_name rfl) (gts_cons (gt_name rfl) (gts_cons (gt_name rfl) (gts_cons (gt_name rfl) gts_nil)))))) ?_ ?_)
          · intro Kn1 b1 x_ rest_ s_ hP_454 N_ hN_453
            obtain ⟨name_449, first_450, spanned_451, amount_452, _⟩ := x_
            obtain ⟨c_, hc_455, hP_454⟩ := bind_some hP_454
            have q_456 := q.base b1
            unfold m_law_L4 at hc_455
            refine SB.is (sl' := [sv script_359, .at p_stream_here_361, sv many_364, sv top_368, sv floor_380, sv gap_386, sv asks_here_393, sv found_395, sv raises_396, .at p_numbers_397, sv name_449, sv first_450, sv spanned_451, sv amount_452, .any, .any]) (ow1 := [ol p_numbers_397 numbers_447, ol p_stream_here_361 stream_here_392]) rfl rfl ?_
            obtain ⟨m_459, h_m_459, hc_455⟩ := bind_some hc_455
            refine sb_if (b := (decide ((((cut found_395 (some first_450) (some (first_450 + spanned_451)))).sum + m_459) < amount_452))) (et_test (ev_op (ev_op (ev_cb (ea_cons (EN.ev (en_sl (ev_var (i := 7) rfl) (eo_some (ev_var (i := 11) rfl)) (eo_some (ev_op (ev_var (i := 11) rfl) (ev_var (i := 12) rfl) r2_add)))) ea_nil) rc_sum) (ev_op (ev_var (i := 5) rfl) (ev_op (ev_var (i := 12) rfl) (ev_int 1) r2_sub) (r2_mulO h_m_459)) r2_add) (ev_var (i := 13) rfl) r2_lt)) (fun hb_460 => ?_) (fun hb_460 => ?_)
            · have hc_455 := ite_t hb_460 hc_455
              cases hc_455
              replace hP_454 : some (Ctl.rt false) = some tot_457 := hP_454
              cases hP_454
              replace hf : some false = some r_ := hf
              cases hf
              exact sb_ret (ev_bool false) q_456 (List.Sublist.cons _ (List.Sublist.cons _ List.Sublist.slnil))
            · have hc_455 := ite_f hb_460 hc_455
              refine sb_nx ?_
              cases hc_455
              exact fun σ Kn H s => hN_453 _ hP_454 σ Kn H ((s.le (.keep (.keep (.keep (.keep (.keep (.keep (.keep (.keep (.keep (.keep (.drop (.drop (.drop (.drop (.keep (.keep .nil))))))))))))))))).sub (List.Sublist.refl _))
          · intro s_ h0
            cases h0
            refine kx_462 _ _ ?_
            refine SB.is (sl' := [sv script_359, .at p_stream_here_361, sv many_364, sv top_368, sv floor_380, sv gap_386, sv asks_here_393, sv found_395, sv raises_396, .at p_numbers_397, .any, .any, .any, .any, .any, .any]) (ow1 := [ol p_numbers_397 numbers_447, ol p_stream_here_361 stream_here_392]) rfl rfl ?_
            refine sb_freeze (i := 9) (j := 0) (sl' := [sv script_359, .at p_stream_here_361, sv many_364, sv top_368, sv floor_380, sv gap_386, sv asks_here_393, sv found_395, sv raises_396, sv numbers_447, .any, .any, .any, .any, .any, .any]) (ow1 := [ol p_stream_here_361 stream_here_392]) rfl rfl rfl rfl ?_
            obtain ⟨b_465, h_b_465, hf⟩ := bind_some hf
            cases hf
            exact sb_ret (ev_andO h_b_465 (ev_op (ev_var (i := 7) rfl) (ev_var (i := 9) rfl) r2_eqT) (fun _ _ h => by obtain ⟨r_463, h_r_463, h⟩ := bind_some h; obtain ⟨e_464, h_e_464, h⟩ := bind_some h; have hz_ := Option.some.inj h; subst hz_; exact (ev_op (ev_call (ea_cons (ev_var (i := 2) rfl) (ea_cons (ev_var (i := 5) rfl) (ea_cons (ev_var (i := 7) rfl) (ea_cons (ev_var (i := 6) rfl) ea_nil)))) h_r_463) (ev_tup (ea_cons (ev_var (i := 7) rfl) (ea_cons (EN.ev (en_lst el_nil)) ea_nil))) (r2_eqO h_e_464)))) q (List.Sublist.cons _ List.Sublist.slnil)
end
theorem all_mk (main : ∀ ns : List Int, ns.length ≤ 63 → m_law (Fz.mk ns) = some true) {l : PySem.W.OpenLaw} {w : World} {K : Fg} {h : Heap} {mg : Str → Option Value} {fa f_deal f_gaps_in f_track_name f_track_weights f_alone_raised f_in_order f_lack_of f_raise_tracks f__law_stream f__law_take f__law_names f__law_asks f__law_told f__law_ask_right f__law_in_order f_law : Addr} (X : K.In h) (G : h.Ns mainGlobals mg) (hfa : mg "law" = some (.ref fa))
     {od_deal an_deal : Option Addr} {sl_deal : Array (Option Value)} {oc_deal kV_deal dc_deal pm_deal cd_deal ct_deal : Value} {od_gaps_in an_gaps_in : Option Addr} {sl_gaps_in : Array (Option Value)} {oc_gaps_in kV_gaps_in dc_gaps_in pm_gaps_in cd_gaps_in ct_gaps_in : Value} {od_track_name an_track_name : Option Addr} {sl_track_name : Array (Option Value)} {oc_track_name kV_track_name dc_track_name pm_track_name cd_track_name ct_track_name : Value} {od_track_weights an_track_weights : Option Addr} {sl_track_weights : Array (Option Value)} {oc_track_weights kV_track_weights dc_track_weights pm_track_weights cd_track_weights ct_track_weights : Value} {od_alone_raised an_alone_raised : Option Addr} {sl_alone_raised : Array (Option Value)} {oc_alone_raised kV_alone_raised dc_alone_raised pm_alone_raised cd_alone_raised ct_alone_raised : Value} {od_in_order an_in_order : Option Addr} {sl_in_order : Array (Option Value)} {oc_in_order kV_in_order dc_in_order pm_in_order cd_in_order ct_in_order : Value} {od_lack_of an_lack_of : Option Addr} {sl_lack_of : Array (Option Value)} {oc_lack_of kV_lack_of dc_lack_of pm_lack_of cd_lack_of ct_lack_of : Value} {od_raise_tracks an_raise_tracks : Option Addr} {sl_raise_tracks : Array (Option Value)} {oc_raise_tracks kV_raise_tracks dc_raise_tracks pm_raise_tracks cd_raise_tracks ct_raise_tracks : Value} {od__law_stream an__law_stream : Option Addr} {sl__law_stream : Array (Option Value)} {oc__law_stream kV__law_stream dc__law_stream pm__law_stream cd__law_stream ct__law_stream : Value} {od__law_take an__law_take : Option Addr} {sl__law_take : Array (Option Value)} {oc__law_take kV__law_take dc__law_take pm__law_take cd__law_take ct__law_take : Value} {od__law_names an__law_names : Option Addr} {sl__law_names : Array (Option Value)} {oc__law_names kV__law_names dc__law_names pm__law_names cd__law_names ct__law_names : Value} {od__law_asks an__law_asks : Option Addr} {sl__law_asks : Array (Option Value)} {oc__law_asks kV__law_asks dc__law_asks pm__law_asks cd__law_asks ct__law_asks : Value} {od__law_told an__law_told : Option Addr} {sl__law_told : Array (Option Value)} {oc__law_told kV__law_told dc__law_told pm__law_told cd__law_told ct__law_told : Value} {od__law_ask_right an__law_ask_right : Option Addr} {sl__law_ask_right : Array (Option Value)} {oc__law_ask_right kV__law_ask_right dc__law_ask_right pm__law_ask_right cd__law_ask_right ct__law_ask_right : Value} {od__law_in_order an__law_in_order : Option Addr} {sl__law_in_order : Array (Option Value)} {oc__law_in_order kV__law_in_order dc__law_in_order pm__law_in_order cd__law_in_order ct__law_in_order : Value} {od_law an_law : Option Addr} {sl_law : Array (Option Value)} {oc_law kV_law dc_law pm_law cd_law ct_law : Value}
    (a_deal : PySem.W.nsIn K mainGlobals "deal" = some (some (.ref f_deal))) (l_deal : K.lookup f_deal = some ⟨oc_deal, od_deal, .func (PySem.W.fnOf "deal" "deal" (defArgs s_deal) (defBody s_deal) (defScope s_deal) .none kV_deal dc_deal pm_deal an_deal cd_deal ct_deal), sl_deal⟩) (c_deal : PySem.W.codeIn K cd_deal "deal" = true) (k_deal : PySem.W.keepIn K (.ref f_deal) = true)
    (a_gaps_in : PySem.W.nsIn K mainGlobals "gaps_in" = some (some (.ref f_gaps_in))) (l_gaps_in : K.lookup f_gaps_in = some ⟨oc_gaps_in, od_gaps_in, .func (PySem.W.fnOf "gaps_in" "gaps_in" (defArgs s_gaps_in) (defBody s_gaps_in) (defScope s_gaps_in) .none kV_gaps_in dc_gaps_in pm_gaps_in an_gaps_in cd_gaps_in ct_gaps_in), sl_gaps_in⟩) (c_gaps_in : PySem.W.codeIn K cd_gaps_in "gaps_in" = true) (k_gaps_in : PySem.W.keepIn K (.ref f_gaps_in) = true)
    (a_track_name : PySem.W.nsIn K mainGlobals "track_name" = some (some (.ref f_track_name))) (l_track_name : K.lookup f_track_name = some ⟨oc_track_name, od_track_name, .func (PySem.W.fnOf "track_name" "track_name" (defArgs s_track_name) (defBody s_track_name) (defScope s_track_name) .none kV_track_name dc_track_name pm_track_name an_track_name cd_track_name ct_track_name), sl_track_name⟩) (c_track_name : PySem.W.codeIn K cd_track_name "track_name" = true) (k_track_name : PySem.W.keepIn K (.ref f_track_name) = true)
    (a_track_weights : PySem.W.nsIn K mainGlobals "track_weights" = some (some (.ref f_track_weights))) (l_track_weights : K.lookup f_track_weights = some ⟨oc_track_weights, od_track_weights, .func (PySem.W.fnOf "track_weights" "track_weights" (defArgs s_track_weights) (defBody s_track_weights) (defScope s_track_weights) .none kV_track_weights dc_track_weights pm_track_weights an_track_weights cd_track_weights ct_track_weights), sl_track_weights⟩) (c_track_weights : PySem.W.codeIn K cd_track_weights "track_weights" = true) (k_track_weights : PySem.W.keepIn K (.ref f_track_weights) = true)
    (a_alone_raised : PySem.W.nsIn K mainGlobals "alone_raised" = some (some (.ref f_alone_raised))) (l_alone_raised : K.lookup f_alone_raised = some ⟨oc_alone_raised, od_alone_raised, .func (PySem.W.fnOf "alone_raised" "alone_raised" (defArgs s_alone_raised) (defBody s_alone_raised) (defScope s_alone_raised) .none kV_alone_raised dc_alone_raised pm_alone_raised an_alone_raised cd_alone_raised ct_alone_raised), sl_alone_raised⟩) (c_alone_raised : PySem.W.codeIn K cd_alone_raised "alone_raised" = true) (k_alone_raised : PySem.W.keepIn K (.ref f_alone_raised) = true)
    (a_in_order : PySem.W.nsIn K mainGlobals "in_order" = some (some (.ref f_in_order))) (l_in_order : K.lookup f_in_order = some ⟨oc_in_order, od_in_order, .func (PySem.W.fnOf "in_order" "in_order" (defArgs s_in_order) (defBody s_in_order) (defScope s_in_order) .none kV_in_order dc_in_order pm_in_order an_in_order cd_in_order ct_in_order), sl_in_order⟩) (c_in_order : PySem.W.codeIn K cd_in_order "in_order" = true) (k_in_order : PySem.W.keepIn K (.ref f_in_order) = true)
    (a_lack_of : PySem.W.nsIn K mainGlobals "lack_of" = some (some (.ref f_lack_of))) (l_lack_of : K.lookup f_lack_of = some ⟨oc_lack_of, od_lack_of, .func (PySem.W.fnOf "lack_of" "lack_of" (defArgs s_lack_of) (defBody s_lack_of) (defScope s_lack_of) .none kV_lack_of dc_lack_of pm_lack_of an_lack_of cd_lack_of ct_lack_of), sl_lack_of⟩) (c_lack_of : PySem.W.codeIn K cd_lack_of "lack_of" = true) (k_lack_of : PySem.W.keepIn K (.ref f_lack_of) = true)
    (a_raise_tracks : PySem.W.nsIn K mainGlobals "raise_tracks" = some (some (.ref f_raise_tracks))) (l_raise_tracks : K.lookup f_raise_tracks = some ⟨oc_raise_tracks, od_raise_tracks, .func (PySem.W.fnOf "raise_tracks" "raise_tracks" (defArgs s_raise_tracks) (defBody s_raise_tracks) (defScope s_raise_tracks) .none kV_raise_tracks dc_raise_tracks pm_raise_tracks an_raise_tracks cd_raise_tracks ct_raise_tracks), sl_raise_tracks⟩) (c_raise_tracks : PySem.W.codeIn K cd_raise_tracks "raise_tracks" = true) (k_raise_tracks : PySem.W.keepIn K (.ref f_raise_tracks) = true)
    (a__law_stream : PySem.W.nsIn K mainGlobals "_law_stream" = some (some (.ref f__law_stream))) (l__law_stream : K.lookup f__law_stream = some ⟨oc__law_stream, od__law_stream, .func (PySem.W.fnOf "_law_stream" "_law_stream" (defArgs s__law_stream) (defBody s__law_stream) (defScope s__law_stream) .none kV__law_stream dc__law_stream pm__law_stream an__law_stream cd__law_stream ct__law_stream), sl__law_stream⟩) (c__law_stream : PySem.W.codeIn K cd__law_stream "_law_stream" = true) (k__law_stream : PySem.W.keepIn K (.ref f__law_stream) = true)
    (a__law_take : PySem.W.nsIn K mainGlobals "_law_take" = some (some (.ref f__law_take))) (l__law_take : K.lookup f__law_take = some ⟨oc__law_take, od__law_take, .func (PySem.W.fnOf "_law_take" "_law_take" (defArgs s__law_take) (defBody s__law_take) (defScope s__law_take) .none kV__law_take dc__law_take pm__law_take an__law_take cd__law_take ct__law_take), sl__law_take⟩) (c__law_take : PySem.W.codeIn K cd__law_take "_law_take" = true) (k__law_take : PySem.W.keepIn K (.ref f__law_take) = true)
    (a__law_names : PySem.W.nsIn K mainGlobals "_law_names" = some (some (.ref f__law_names))) (l__law_names : K.lookup f__law_names = some ⟨oc__law_names, od__law_names, .func (PySem.W.fnOf "_law_names" "_law_names" (defArgs s__law_names) (defBody s__law_names) (defScope s__law_names) .none kV__law_names dc__law_names pm__law_names an__law_names cd__law_names ct__law_names), sl__law_names⟩) (c__law_names : PySem.W.codeIn K cd__law_names "_law_names" = true) (k__law_names : PySem.W.keepIn K (.ref f__law_names) = true)
    (a__law_asks : PySem.W.nsIn K mainGlobals "_law_asks" = some (some (.ref f__law_asks))) (l__law_asks : K.lookup f__law_asks = some ⟨oc__law_asks, od__law_asks, .func (PySem.W.fnOf "_law_asks" "_law_asks" (defArgs s__law_asks) (defBody s__law_asks) (defScope s__law_asks) .none kV__law_asks dc__law_asks pm__law_asks an__law_asks cd__law_asks ct__law_asks), sl__law_asks⟩) (c__law_asks : PySem.W.codeIn K cd__law_asks "_law_asks" = true) (k__law_asks : PySem.W.keepIn K (.ref f__law_asks) = true)
    (a__law_told : PySem.W.nsIn K mainGlobals "_law_told" = some (some (.ref f__law_told))) (l__law_told : K.lookup f__law_told = some ⟨oc__law_told, od__law_told, .func (PySem.W.fnOf "_law_told" "_law_told" (defArgs s__law_told) (defBody s__law_told) (defScope s__law_told) .none kV__law_told dc__law_told pm__law_told an__law_told cd__law_told ct__law_told), sl__law_told⟩) (c__law_told : PySem.W.codeIn K cd__law_told "_law_told" = true) (k__law_told : PySem.W.keepIn K (.ref f__law_told) = true)
    (a__law_ask_right : PySem.W.nsIn K mainGlobals "_law_ask_right" = some (some (.ref f__law_ask_right))) (l__law_ask_right : K.lookup f__law_ask_right = some ⟨oc__law_ask_right, od__law_ask_right, .func (PySem.W.fnOf "_law_ask_right" "_law_ask_right" (defArgs s__law_ask_right) (defBody s__law_ask_right) (defScope s__law_ask_right) .none kV__law_ask_right dc__law_ask_right pm__law_ask_right an__law_ask_right cd__law_ask_right ct__law_ask_right), sl__law_ask_right⟩) (c__law_ask_right : PySem.W.codeIn K cd__law_ask_right "_law_ask_right" = true) (k__law_ask_right : PySem.W.keepIn K (.ref f__law_ask_right) = true)
    (a__law_in_order : PySem.W.nsIn K mainGlobals "_law_in_order" = some (some (.ref f__law_in_order))) (l__law_in_order : K.lookup f__law_in_order = some ⟨oc__law_in_order, od__law_in_order, .func (PySem.W.fnOf "_law_in_order" "_law_in_order" (defArgs s__law_in_order) (defBody s__law_in_order) (defScope s__law_in_order) .none kV__law_in_order dc__law_in_order pm__law_in_order an__law_in_order cd__law_in_order ct__law_in_order), sl__law_in_order⟩) (c__law_in_order : PySem.W.codeIn K cd__law_in_order "_law_in_order" = true) (k__law_in_order : PySem.W.keepIn K (.ref f__law_in_order) = true)
    (a_law : PySem.W.nsIn K mainGlobals "law" = some (some (.ref f_law))) (l_law : K.lookup f_law = some ⟨oc_law, od_law, .func (PySem.W.fnOf "law" "law" (defArgs s_law) (defBody s_law) (defScope s_law) .none kV_law dc_law pm_law an_law cd_law ct_law), sl_law⟩) (c_law : PySem.W.codeIn K cd_law "law" = true) (k_law : PySem.W.keepIn K (.ref f_law) = true)
    (z_abs : PySem.W.nsIn K mainGlobals "abs" = some none)
    (z_all : PySem.W.nsIn K mainGlobals "all" = some none)
    (z_divmod : PySem.W.nsIn K mainGlobals "divmod" = some none)
    (z_len : PySem.W.nsIn K mainGlobals "len" = some none)
    (z_list : PySem.W.nsIn K mainGlobals "list" = some none)
    (z_max : PySem.W.nsIn K mainGlobals "max" = some none)
    (z_range : PySem.W.nsIn K mainGlobals "range" = some none)
    (z_sorted : PySem.W.nsIn K mainGlobals "sorted" = some none)
    (z_str : PySem.W.nsIn K mainGlobals "str" = some none)
    (z_sum : PySem.W.nsIn K mainGlobals "sum" = some none) :
    ∃ fd : FuncData, (∀ (s : Shared) (v : Value), BindsTo s fd ⟨[v], []⟩ [("_law_script", v)]) ∧ ∀ base : Heap, K.In base → base.Ns mainGlobals mg → FnOk l.prog w K mg base CX0 4 fa fd ["_law_script"] (spLaw K) := by
  have e := hfa.symm.trans (PySem.W.mg_of X G a_law)
  cases e
  have F_deal := fun_mk (st := s_deal) l_deal c_deal k_deal
  have F_gaps_in := fun_mk (st := s_gaps_in) l_gaps_in c_gaps_in k_gaps_in
  have F_track_name := fun_mk (st := s_track_name) l_track_name c_track_name k_track_name
  have F_track_weights := fun_mk (st := s_track_weights) l_track_weights c_track_weights k_track_weights
  have F_alone_raised := fun_mk (st := s_alone_raised) l_alone_raised c_alone_raised k_alone_raised
  have F_in_order := fun_mk (st := s_in_order) l_in_order c_in_order k_in_order
  have F_lack_of := fun_mk (st := s_lack_of) l_lack_of c_lack_of k_lack_of
  have F_raise_tracks := fun_mk (st := s_raise_tracks) l_raise_tracks c_raise_tracks k_raise_tracks
  have F__law_stream := fun_mk (st := s__law_stream) l__law_stream c__law_stream k__law_stream
  have F__law_take := fun_mk (st := s__law_take) l__law_take c__law_take k__law_take
  have F__law_names := fun_mk (st := s__law_names) l__law_names c__law_names k__law_names
  have F__law_asks := fun_mk (st := s__law_asks) l__law_asks c__law_asks k__law_asks
  have F__law_told := fun_mk (st := s__law_told) l__law_told c__law_told k__law_told
  have F__law_ask_right := fun_mk (st := s__law_ask_right) l__law_ask_right c__law_ask_right k__law_ask_right
  have F__law_in_order := fun_mk (st := s__law_in_order) l__law_in_order c__law_in_order k__law_in_order
  have F_law := fun_mk (st := s_law) l_law c_law k_law
  have b_deal := F_deal.binds (ps := ["room", "weights"]) fun _ _ _ _ _ _ us hl => match us, hl with | [_, _], _ => rfl
  have b_gaps_in := F_gaps_in.binds (ps := ["gap", "many"]) fun _ _ _ _ _ _ us hl => match us, hl with | [_, _], _ => rfl
  have b_track_name := F_track_name.binds (ps := ["number"]) fun _ _ _ _ _ _ us hl => match us, hl with | [_], _ => rfl
  have b_track_weights := F_track_weights.binds (ps := ["first", "spanned"]) fun _ _ _ _ _ _ us hl => match us, hl with | [_, _], _ => rfl
  have b_alone_raised := F_alone_raised.binds (ps := ["floor", "asks"]) fun _ _ _ _ _ _ us hl => match us, hl with | [_, _], _ => rfl
  have b_in_order := F_in_order.binds (ps := ["asks"]) fun _ _ _ _ _ _ us hl => match us, hl with | [_], _ => rfl
  have b_lack_of := F_lack_of.binds (ps := ["numbers", "gap", "ask"]) fun _ _ _ _ _ _ us hl => match us, hl with | [_, _, _], _ => rfl
  have b_raise_tracks := F_raise_tracks.binds (ps := ["many", "gap", "floor", "asks"]) fun _ _ _ _ _ _ us hl => match us, hl with | [_, _, _, _], _ => rfl
  have b__law_stream := F__law_stream.binds (ps := ["_law_script"]) fun _ _ _ _ _ _ us hl => match us, hl with | [_], _ => rfl
  have b__law_take := F__law_take.binds (ps := ["_law_stream_here", "_law_many"]) fun _ _ _ _ _ _ us hl => match us, hl with | [_, _], _ => rfl
  have b__law_names := F__law_names.binds (ps := ["_law_stream_here", "_law_many"]) fun _ _ _ _ _ _ us hl => match us, hl with | [_, _], _ => rfl
  have b__law_asks := F__law_asks.binds (ps := ["_law_stream_here", "_law_many", "_law_names_here", "_law_top"]) fun _ _ _ _ _ _ us hl => match us, hl with | [_, _, _, _], _ => rfl
  have b__law_told := F__law_told.binds (ps := ["_law_raises", "_law_name"]) fun _ _ _ _ _ _ us hl => match us, hl with | [_, _], _ => rfl
  have b__law_ask_right := F__law_ask_right.binds (ps := ["_law_gap", "_law_numbers", "_law_ask", "_law_mine"]) fun _ _ _ _ _ _ us hl => match us, hl with | [_, _, _, _], _ => rfl
  have b__law_in_order := F__law_in_order.binds (ps := ["_law_raises", "_law_asks_here"]) fun _ _ _ _ _ _ us hl => match us, hl with | [_, _], _ => rfl
  have b_law := F_law.binds (ps := ["_law_script"]) fun _ _ _ _ _ _ us hl => match us, hl with | [_], _ => rfl
  let T : TX K mg := ⟨_, _, F_deal, b_deal, PySem.W.mg_of X G a_deal, _, _, F_gaps_in, b_gaps_in, PySem.W.mg_of X G a_gaps_in, _, _, F_track_name, b_track_name, PySem.W.mg_of X G a_track_name, _, _, F_track_weights, b_track_weights, PySem.W.mg_of X G a_track_weights, _, _, F_alone_raised, b_alone_raised, PySem.W.mg_of X G a_alone_raised, _, _, F_in_order, b_in_order, PySem.W.mg_of X G a_in_order, _, _, F_lack_of, b_lack_of, PySem.W.mg_of X G a_lack_of, _, _, F_raise_tracks, b_raise_tracks, PySem.W.mg_of X G a_raise_tracks, _, _, F__law_stream, b__law_stream, PySem.W.mg_of X G a__law_stream, _, _, F__law_take, b__law_take, PySem.W.mg_of X G a__law_take, _, _, F__law_names, b__law_names, PySem.W.mg_of X G a__law_names, _, _, F__law_asks, b__law_asks, PySem.W.mg_of X G a__law_asks, _, _, F__law_told, b__law_told, PySem.W.mg_of X G a__law_told, _, _, F__law_ask_right, b__law_ask_right, PySem.W.mg_of X G a__law_ask_right, _, _, F__law_in_order, b__law_in_order, PySem.W.mg_of X G a__law_in_order, _, _, F_law, b_law, PySem.W.mg_of X G a_law, PySem.W.mg_none_of X G z_abs, PySem.W.mg_none_of X G z_all, PySem.W.mg_none_of X G z_divmod, PySem.W.mg_none_of X G z_len, PySem.W.mg_none_of X G z_list, PySem.W.mg_none_of X G z_max, PySem.W.mg_none_of X G z_range, PySem.W.mg_none_of X G z_sorted, PySem.W.mg_none_of X G z_str, PySem.W.mg_none_of X G z_sum⟩
  refine ⟨PySem.W.fnOf "law" "law" (defArgs s_law) (defBody s_law) (defScope s_law) .none kV_law dc_law pm_law an_law cd_law ct_law, fun s v => .of_eq rfl, fun base _ _ => ?_⟩
  exact fn_weak (ok_law T) main
end Wk32
/-! Wp: plain facts about the mirrors' words -/
namespace Wk
open PySem L2

theorem bs {α β : Type} (a : α) (f : α → Option β) : (some a).bind f = f a := by rw [Option.bind_some]
theorem bind_ok {α β : Type} {m : Option α} {f : α → Option β} {a : α} (h : m = some a) : m.bind f = f a := by rw [h]; rfl
theorem atI_ok {α : Type} {xs : List α} {i : Int} (h0 : 0 ≤ i) (h : i < xs.length) : atI xs i = xs[i.toNat]? := by
  obtain ⟨k, rfl⟩ := Int.eq_ofNat_of_zero_le h0
  have hk : k < xs.length := by omega
  have e : xs[k]? = some xs[k] := List.getElem?_eq_getElem hk
  rw [show ((k : Int)).toNat = k from rfl, e]
  exact atI_nat e
theorem atI_some {α : Type} {xs : List α} {i : Int} (h0 : 0 ≤ i) (h : i < xs.length) : ∃ x, atI xs i = some x ∧ xs[i.toNat]? = some x := by
  have hk : i.toNat < xs.length := by omega
  exact ⟨xs[i.toNat], by rw [atI_ok h0 h]; exact List.getElem?_eq_getElem hk, List.getElem?_eq_getElem hk⟩
theorem pick2 {α : Type} (x y : α) {k : Int} (h0 : 0 ≤ k) (h : k < 2) : atI [x, y] k = some (if k = 0 then x else y) := by
  rcases (show k = 0 ∨ k = 1 by omega) with rfl | rfl <;> rfl
theorem pick3 {α : Type} (x y z : α) {k : Int} (h0 : 0 ≤ k) (h : k < 3) : atI [x, y, z] k = some (if k = 0 then x else if k = 1 then y else z) := by
  rcases (show k = 0 ∨ k = 1 ∨ k = 2 by omega) with rfl | rfl | rfl <;> rfl
theorem pick4 {α : Type} (x y z u : α) {k : Int} (h0 : 0 ≤ k) (h : k < 4) : atI [x, y, z, u] k = some (if k = 0 then x else if k = 1 then y else if k = 2 then z else u) := by
  rcases (show k = 0 ∨ k = 1 ∨ k = 2 ∨ k = 3 by omega) with rfl | rfl | rfl | rfl <;> rfl
theorem forC_all {β R : Type} {f : β → Unit → Option (Ctl Unit R)} : ∀ {xs : List β}, (∀ x ∈ xs, f x () = some (.nx ())) → forC f xs () = some (.nx ())
  | [], _ => rfl
  | x :: xs, h => by
    unfold forC
    rw [h x List.mem_cons_self]
    exact forC_all fun y hy => h y (List.mem_cons_of_mem _ hy)
/-- a loop that always goes on, by an invariant -/
theorem forC_inv {β Sx R : Type} {f : β → Sx → Option (Ctl Sx R)} (I : List β → Sx → Prop) : ∀ {xs : List β} {s : Sx}, I xs s → (∀ x rest s, I (x :: rest) s → ∃ s', f x s = some (.nx s') ∧ I rest s') → ∃ s', forC f xs s = some (.nx s') ∧ I [] s'
  | [], s, h, _ => ⟨s, rfl, h⟩
  | x :: xs, s, h, hs => by
    obtain ⟨s', e, h'⟩ := hs x xs s h
    obtain ⟨s2, e2, h2⟩ := forC_inv I h' hs
    refine ⟨s2, ?_, h2⟩
    unfold forC
    rw [e]
    exact e2
theorem forS_inv {β Sx : Type} {f : β → Sx → Option Sx} (I : List β → Sx → Prop) : ∀ {xs : List β} {s : Sx}, I xs s → (∀ x rest s, I (x :: rest) s → ∃ s', f x s = some s' ∧ I rest s') → ∃ s', forS f xs s = some s' ∧ I [] s'
  | [], s, h, _ => ⟨s, rfl, h⟩
  | x :: xs, s, h, hs => by
    obtain ⟨s', e, h'⟩ := hs x xs s h
    obtain ⟨s2, e2, h2⟩ := forS_inv I h' hs
    refine ⟨s2, ?_, h2⟩
    unfold forS
    rw [e]
    exact e2
/-- a loop as a fold -/
theorem forS_fold {β Sx : Type} {f : β → Sx → Option Sx} (g : Sx → β → Sx) (I : List β → Sx → Prop) : ∀ {xs : List β} {s : Sx}, I xs s → (∀ x rest s, I (x :: rest) s → f x s = some (g s x) ∧ I rest (g s x)) → forS f xs s = some (xs.foldl g s)
  | [], s, h, _ => rfl
  | x :: xs, s, h, hs => by
    obtain ⟨e, h'⟩ := hs x xs s h
    unfold forS
    rw [e]
    exact forS_fold g I h' hs
theorem forS_cons {β Sx : Type} {f : β → Sx → Option Sx} {x : β} {xs : List β} {s s' : Sx} (h : f x s = some s') : forS f (x :: xs) s = forS f xs s' := by
  show ((f x s).bind _) = _
  rw [h]
  rfl
theorem forC_cons {β Sx R : Type} {f : β → Sx → Option (Ctl Sx R)} {x : β} {xs : List β} {s s' : Sx} (h : f x s = some (.nx s')) : forC f (x :: xs) s = forC f xs s' := by
  show ((f x s).bind _) = _
  rw [h]
  rfl
/-- by places -/
theorem forS_ix {β Sx : Type} {f : β → Sx → Option Sx} {xs : List β} (P : Nat → Sx → Prop) {s : Sx} (h0 : P 0 s) (step : ∀ (i : Nat) (hi : i < xs.length) s, P i s → ∃ s', f xs[i] s = some s' ∧ P (i + 1) s') : ∃ s', forS f xs s = some s' ∧ P xs.length s' := by
  have key : ∀ (m i : Nat) (s : Sx), i + m = xs.length → P i s → ∃ s', forS f (xs.drop i) s = some s' ∧ P xs.length s' := by
    intro m
    induction m with
    | zero =>
      intro i s hi hp
      have e : i = xs.length := by omega
      subst e
      rw [List.drop_length]
      exact ⟨s, rfl, hp⟩
    | succ m ih =>
      intro i s hi hp
      have hl : i < xs.length := by omega
      obtain ⟨s', e, hp'⟩ := step i hl s hp
      obtain ⟨r, e2, h2⟩ := ih (i + 1) s' (by omega) hp'
      refine ⟨r, ?_, h2⟩
      rw [List.drop_eq_getElem_cons hl, forS_cons e]
      exact e2
  have := key xs.length 0 s (by omega) h0
  rwa [List.drop_zero] at this
theorem forC_ix {β Sx R : Type} {f : β → Sx → Option (Ctl Sx R)} {xs : List β} (P : Nat → Sx → Prop) {s : Sx} (h0 : P 0 s) (step : ∀ (i : Nat) (hi : i < xs.length) s, P i s → ∃ s', f xs[i] s = some (.nx s') ∧ P (i + 1) s') : ∃ s', forC f xs s = some (.nx s') ∧ P xs.length s' := by
  have key : ∀ (m i : Nat) (s : Sx), i + m = xs.length → P i s → ∃ s', forC f (xs.drop i) s = some (.nx s') ∧ P xs.length s' := by
    intro m
    induction m with
    | zero =>
      intro i s hi hp
      have e : i = xs.length := by omega
      subst e
      rw [List.drop_length]
      exact ⟨s, rfl, hp⟩
    | succ m ih =>
      intro i s hi hp
      have hl : i < xs.length := by omega
      obtain ⟨s', e, hp'⟩ := step i hl s hp
      obtain ⟨r, e2, h2⟩ := ih (i + 1) s' (by omega) hp'
      refine ⟨r, ?_, h2⟩
      rw [List.drop_eq_getElem_cons hl, forC_cons e]
      exact e2
  have := key xs.length 0 s (by omega) h0
  rwa [List.drop_zero] at this
/-- two loops over one list, turn by turn -/
theorem forS2_ix {β S1 S2 : Type} {f1 : β → S1 → Option S1} {f2 : β → S2 → Option S2} {xs : List β} (P : Nat → S1 → S2 → Prop) {s1 : S1} {s2 : S2} (h0 : P 0 s1 s2)
    (step : ∀ (i : Nat) (hi : i < xs.length) s1 s2, P i s1 s2 → ∃ s1' s2', f1 xs[i] s1 = some s1' ∧ f2 xs[i] s2 = some s2' ∧ P (i + 1) s1' s2') : ∃ r1 r2, forS f1 xs s1 = some r1 ∧ forS f2 xs s2 = some r2 ∧ P xs.length r1 r2 := by
  have key : ∀ (m i : Nat) (s1 : S1) (s2 : S2), i + m = xs.length → P i s1 s2 → ∃ r1 r2, forS f1 (xs.drop i) s1 = some r1 ∧ forS f2 (xs.drop i) s2 = some r2 ∧ P xs.length r1 r2 := by
    intro m
    induction m with
    | zero =>
      intro i s1 s2 hi hp
      have e : i = xs.length := by omega
      subst e
      rw [List.drop_length]
      exact ⟨s1, s2, rfl, rfl, hp⟩
    | succ m ih =>
      intro i s1 s2 hi hp
      have hl : i < xs.length := by omega
      obtain ⟨a, b, e1, e2, hp'⟩ := step i hl s1 s2 hp
      obtain ⟨r1, r2, h1, h2, h3⟩ := ih (i + 1) a b (by omega) hp'
      refine ⟨r1, r2, ?_, ?_, h3⟩
      · rw [List.drop_eq_getElem_cons hl, forS_cons e1]
        exact h1
      · rw [List.drop_eq_getElem_cons hl, forS_cons e2]
        exact h2
  have := key xs.length 0 s1 s2 (by omega) h0
  rwa [List.drop_zero] at this
theorem enumI_at {α : Type} (xs : List α) (i : Nat) (hi : i < (enumI xs).length) : (enumI xs)[i] = ((i : Int), xs[i]'(by simpa [enumI] using hi), ()) := by simp [enumI]
theorem whileS_inv {Sx : Type} {c : Sx → Option Bool} {f : Sx → Option Sx} (I : Sx → Prop) (μ : Sx → Nat) (step : ∀ s, I s → ∃ b, c s = some b ∧ (b = true → ∃ s', f s = some s' ∧ I s' ∧ μ s' < μ s)) :
    ∀ (n : Nat) {s : Sx}, I s → μ s < n → ∃ s', whileS c f n s = some s' ∧ I s' ∧ c s' = some false
  | 0, _, _, h => absurd h (Nat.not_lt_zero _)
  | n + 1, s, hI, hn => by
    obtain ⟨b, hb, hs⟩ := step s hI
    unfold whileS
    rw [hb]
    cases b with
    | false => exact ⟨s, rfl, hI, hb⟩
    | true =>
      obtain ⟨s', e, hI', hm⟩ := hs rfl
      obtain ⟨s2, e2, h2⟩ := whileS_inv I μ step n hI' (by omega)
      refine ⟨s2, ?_, h2⟩
      show ((f s).bind _) = _
      rw [e]
      exact e2
theorem whileF_inv {Sx : Type} {c : Sx → Option Bool} {f : Sx → Option Sx} (I : Sx → Prop) (μ : Sx → Nat) (step : ∀ s, I s → ∃ b, c s = some b ∧ (b = true → ∃ s', f s = some s' ∧ I s' ∧ μ s' < μ s)) {s : Sx} (h : I s) :
    ∃ s', whileF c f s = some s' ∧ I s' ∧ c s' = some false := by
  obtain ⟨s', e, h1, h2⟩ := whileS_inv I μ step (μ s + 1) h (Nat.lt_succ_self _)
  exact ⟨s', whileF_of e, h1, h2⟩
theorem cut_len {α : Type} (xs : List α) (lo hi : Option Int) : (cut xs lo hi).length ≤ xs.length := by
  unfold cut
  rw [List.length_take, List.length_drop]
  omega
theorem cut_mem {α : Type} {xs : List α} {lo hi : Option Int} {x : α} (h : x ∈ cut xs lo hi) : x ∈ xs := List.mem_of_mem_drop (List.mem_of_mem_take h)
theorem cut_from {α : Type} (xs : List α) (k : Nat) : cut xs (some (k : Int)) none = xs.drop k := by
  unfold cut
  rw [HT.sIx_nat, HT.sIx_none]
  by_cases h : k ≤ xs.length
  · rw [Nat.min_eq_left h, List.take_of_length_le (by rw [List.length_drop]; omega)]
  · rw [Nat.min_eq_right (by omega), List.drop_eq_nil_of_le (Nat.le_refl _), List.drop_eq_nil_of_le (show xs.length ≤ k by omega)]
    exact List.take_nil
theorem cut_to {α : Type} (xs : List α) (k : Nat) : cut xs none (some (k : Int)) = xs.take k := by
  unfold cut
  rw [HT.sIx_nat, HT.sIx_none, List.drop_zero, Nat.sub_zero]
  by_cases h : k ≤ xs.length
  · rw [Nat.min_eq_left h]
  · rw [Nat.min_eq_right (by omega), List.take_of_length_le (Nat.le_refl _), List.take_of_length_le (by omega)]
theorem rngO_ok {lo hi : Int} (h1 : -1000000000000 ≤ lo) (h2 : lo ≤ 1000000000000) (h3 : -1000000000000 ≤ hi) (h4 : hi ≤ 1000000000000) : rngO lo hi = some (irange lo hi) := if_pos ⟨h1, h2, h3, h4⟩
theorem irange_len (lo hi : Int) : (irange lo hi).length = (hi - lo).toNat := by simp [irange]
theorem enumI_len {α : Type} (xs : List α) : (enumI xs).length = xs.length := by simp [enumI]
theorem lcM_len {β γ : Type} {c : β → Option Bool} {f : β → Option γ} {xs : List β} (h : xs.length < 1000000) : lcM c f xs = lcGo c f xs := if_pos h
theorem lcGo_all {β γ : Type} {f : β → Option γ} (g : β → γ) : ∀ {xs : List β}, (∀ x ∈ xs, f x = some (g x)) → lcGo (fun _ => some true) f xs = some (xs.map g)
  | [], _ => rfl
  | x :: xs, h => by
    unfold lcGo
    show ((f x).bind _) = _
    rw [h x List.mem_cons_self, lcGo_all g fun y hy => h y (List.mem_cons_of_mem _ hy)]
    rfl
theorem lcGo_if {β γ : Type} {c : β → Option Bool} {f : β → Option γ} (p : β → Bool) (g : β → γ) : ∀ {xs : List β}, (∀ x ∈ xs, c x = some (p x)) → (∀ x ∈ xs, p x = true → f x = some (g x)) → lcGo c f xs = some ((xs.filter p).map g)
  | [], _, _ => rfl
  | x :: xs, hc, h => by
    unfold lcGo
    rw [hc x List.mem_cons_self]
    have ih := lcGo_if p g (xs := xs) (fun y hy => hc y (List.mem_cons_of_mem _ hy)) (fun y hy => h y (List.mem_cons_of_mem _ hy))
    cases e : p x with
    | true =>
      show ((f x).bind _) = _
      rw [h x List.mem_cons_self e, ih, List.filter_cons_of_pos e]
      rfl
    | false =>
      show lcGo c f xs = _
      rw [ih, List.filter_cons_of_neg (by rw [e]; exact Bool.false_ne_true)]
theorem lcM_all {β γ : Type} {f : β → Option γ} (g : β → γ) {xs : List β} (hl : xs.length < 1000000) (h : ∀ x ∈ xs, f x = some (g x)) : lcM (fun _ => some true) f xs = some (xs.map g) := by
  rw [lcM_len hl, lcGo_all g h]
/-- draws, one an item -/
theorem lcSGo_inv {β γ Sx : Type} {f : β → Sx → Option (γ × Sx)} (I : Sx → Prop) (P : γ → Prop) (step : ∀ x s, I s → ∃ z s', f x s = some (z, s') ∧ I s' ∧ P z) :
    ∀ {xs : List β} {s : Sx}, I s → ∃ zs s', lcSGo f xs s = some (zs, s') ∧ I s' ∧ zs.length = xs.length ∧ ∀ z ∈ zs, P z
  | [], s, h => ⟨[], s, rfl, h, rfl, fun _ hz => nomatch hz⟩
  | x :: xs, s, h => by
    obtain ⟨z, s', e, h', hp⟩ := step x s h
    obtain ⟨zs, s2, e2, h2, hl, hz⟩ := lcSGo_inv I P step (xs := xs) h'
    refine ⟨z :: zs, s2, ?_, h2, by rw [List.length_cons, List.length_cons, hl], fun y hy => ?_⟩
    · unfold lcSGo
      rw [e]
      show ((lcSGo f xs s').bind _) = _
      rw [e2]
      rfl
    · rcases List.mem_cons.mp hy with rfl | hy
      · exact hp
      · exact hz y hy
theorem lcS_inv {β γ Sx : Type} {f : β → Sx → Option (γ × Sx)} (I : Sx → Prop) (P : γ → Prop) (step : ∀ x s, I s → ∃ z s', f x s = some (z, s') ∧ I s' ∧ P z) {xs : List β} {s : Sx} (hl : xs.length < 1000000) (h : I s) :
    ∃ zs s', lcS f xs s = some (zs, s') ∧ I s' ∧ zs.length = xs.length ∧ ∀ z ∈ zs, P z := by
  unfold lcS
  rw [if_pos hl]
  exact lcSGo_inv I P step h
theorem forS_app {β γ : Type} {f : β → List γ → Option (List γ)} (g : β → γ) : ∀ {xs : List β} {s : List γ}, s.length + xs.length ≤ 1000000 → (∀ x ∈ xs, ∀ s : List γ, s.length < 1000000 → f x s = some (s ++ [g x])) → forS f xs s = some (s ++ xs.map g)
  | [], s, _, _ => by rw [List.map_nil, List.append_nil]; rfl
  | x :: xs, s, hl, h => by
    rw [List.length_cons] at hl
    rw [forS_cons (h x List.mem_cons_self s (by omega)), forS_app g (by rw [List.length_append, List.length_singleton]; omega) fun y hy => h y (List.mem_cons_of_mem _ hy), List.map_cons, List.append_assoc]
    rfl
theorem enumI_mem {α : Type} [Rp α] {xs : List α} {y : Int × α × Unit} (h : y ∈ enumI xs) : ∃ (i : Nat) (x : α), xs[i]? = some x ∧ y = ((i : Int), x, ()) := by
  obtain ⟨i, hi⟩ := List.getElem?_of_mem h
  obtain ⟨x, hx, e⟩ := enum_get hi
  exact ⟨i, x, hx, e⟩
theorem zipI_mem {α β : Type} [Rp α] [Rp β] {xs : List α} {ys : List β} {z : α × β × Unit} (h : z ∈ zipI xs ys) : ∃ (i : Nat) (x : α) (y : β), xs[i]? = some x ∧ ys[i]? = some y ∧ z = (x, y, ()) := by
  obtain ⟨i, hi⟩ := List.getElem?_of_mem h
  obtain ⟨x, y, hx, hy, e⟩ := zip_get hi
  exact ⟨i, x, y, hx, hy, e⟩
/-! texts -/
theorem len_app (x y : Str) : (x ++ y).length = x.length + y.length := by
  show (x.cps ++ y.cps).size = _
  rw [Array.size_append]
  rfl
theorem ok_app {x y : Str} (hx : PyData.strOk x = true) (hy : PyData.strOk y = true) : PyData.strOk (x ++ y) = true := by
  show (x.cps ++ y.cps).all _ = true
  rw [Array.all_append]
  exact Bool.and_eq_true_iff.mpr ⟨hx, hy⟩
theorem ok_join {s : Str} (hs : PyData.strOk s = true) : ∀ {ys : List Str}, (∀ y ∈ ys, PyData.strOk y = true) → PyData.strOk (Str.join s ys) = true
  | [], _ => by
    unfold Str.join
    decide +kernel
  | [x], h => h x List.mem_cons_self
  | x :: y :: r, h => ok_app (ok_app (h x List.mem_cons_self) hs) (ok_join hs fun z hz => h z (List.mem_cons_of_mem _ hz))
theorem joinO_ok {s : Str} {ys : List Str} (h : (ys.map (·.length)).sum + ys.length * s.length ≤ 1000000) : joinO s ys = some (Str.join s ys) := by
  unfold joinO
  rw [if_pos h, TL.join_eq]
/-- a sign of a written text -/
theorem ixS_ok {s : Str} {i : Int} (hl : s.length ≤ 100000) (h0 : 0 ≤ i) (h : i < (s.length : Int)) (hs : PyData.strOk s = true) : ∃ c, ixS s i = some ⟨#[c]⟩ ∧ PyData.strOk ⟨#[c]⟩ = true ∧ (⟨#[c]⟩ : Str).length = 1 := by
  have hl2 : s.cps.toList.length = s.length := Array.length_toList
  obtain ⟨c, e, e2⟩ := atI_some (xs := s.cps.toList) h0 (by rw [hl2]; exact h)
  refine ⟨c, ?_, ?_, rfl⟩
  · unfold ixS
    rw [if_pos hl, e]
    rfl
  · have hm : c ∈ s.cps := Array.mem_toList_iff.mp (List.mem_of_getElem? e2)
    have := Array.all_eq_true'.mp hs c hm
    show (#[c] : Array Nat).all _ = true
    simpa using this
/-! dicts, and more -/
theorem cut_init {α : Type} (xs : List α) : cut xs none (some (-(1 : Int))) = xs.dropLast := by
  unfold cut
  rw [HT.sIx_none, List.drop_zero, Nat.sub_zero, List.dropLast_eq_take]
  have e : HT.sIx xs.length xs.length (some (-(1 : Int))) = (-(1 : Int) + (xs.length : Int)).toNat := rfl
  rw [e]
  congr 1
  omega
theorem mem_irange {x a b : Int} : x ∈ irange a b ↔ a ≤ x ∧ x < b := by
  unfold irange
  rw [List.mem_map]
  constructor
  · rintro ⟨k, hk, rfl⟩
    rw [List.mem_range] at hk
    omega
  · intro h
    exact ⟨(x - a).toNat, List.mem_range.mpr (by omega), by omega⟩
section
variable {κ β : Type} [DecidableEq κ]
theorem getD_pos {p : κ × β} {r : List (κ × β)} {k : κ} (e : p.1 = k) : getD (p :: r) k = some p.2 := by simp [getD, List.find?_cons, e]
theorem getD_neg {p : κ × β} {r : List (κ × β)} {k : κ} (e : ¬ p.1 = k) : getD (p :: r) k = getD r k := by simp [getD, List.find?_cons, e]
theorem getD_map (k j : κ) (y : β) : ∀ kvs : List (κ × β), getD (kvs.map fun kv => if kv.1 = k then (kv.1, y) else kv) j = (getD kvs j).map fun x => if j = k then y else x
  | [] => rfl
  | p :: r => by
    rw [List.map_cons]
    have ih := getD_map k j y r
    by_cases a : p.1 = k
    · rw [if_pos a]
      by_cases b : p.1 = j
      · rw [getD_pos (p := (p.1, y)) b, getD_pos b, Option.map_some, if_pos (b.symm.trans a)]
      · rw [getD_neg (p := (p.1, y)) b, getD_neg b, ih]
    · rw [if_neg a]
      by_cases b : p.1 = j
      · rw [getD_pos b, getD_pos b, Option.map_some, if_neg (fun z => a (b.trans z))]
      · rw [getD_neg b, getD_neg b, ih]
theorem getD_snoc (k j : κ) (y : β) : ∀ kvs : List (κ × β), getD kvs k = none → getD (kvs ++ [(k, y)]) j = if j = k then some y else getD kvs j
  | [], _ => by
    by_cases e : k = j
    · rw [List.nil_append, getD_pos (p := (k, y)) e, if_pos e.symm]
    · rw [List.nil_append, getD_neg (p := (k, y)) e, if_neg (Ne.symm e)]
  | p :: r, h => by
    have hk : ¬ p.1 = k := fun e => by rw [getD_pos e] at h; cases h
    rw [getD_neg hk] at h
    have ih := getD_snoc k j y r h
    rw [List.cons_append]
    by_cases e : p.1 = j
    · rw [getD_pos e, getD_pos e, if_neg (fun z => hk (e.trans z))]
    · rw [getD_neg e, getD_neg e, ih]
theorem getD_put (kvs : List (κ × β)) (k j : κ) (y : β) : getD (putD kvs k y) j = if j = k then some y else getD kvs j := by
  unfold putD
  by_cases a : (getD kvs k).isSome = true
  · rw [if_pos a, getD_map]
    by_cases e : j = k
    · obtain ⟨x, hx⟩ := Option.isSome_iff_exists.mp a
      rw [if_pos e, e, hx, Option.map_some, if_pos rfl]
    · rw [if_neg e]
      cases getD kvs j with
      | none => rfl
      | some x => rw [Option.map_some, if_neg e]
  · rw [if_neg a]
    refine getD_snoc k j y kvs ?_
    cases q : getD kvs k with
    | none => rfl
    | some x => rw [q] at a; exact (a rfl).elim
theorem len_put (kvs : List (κ × β)) (k : κ) (y : β) : (putD kvs k y).length ≤ kvs.length + 1 := by
  unfold putD
  split
  · rw [List.length_map]; omega
  · rw [List.length_append, List.length_cons, List.length_nil]; omega
theorem putO_ok {d : Dc κ β} {k : κ} {y : β} (h : d.l.length < 1000000) : putO d k y = some ⟨putD d.l k y⟩ := if_pos h
end
theorem forC_any {β R : Type} {f : β → Unit → Option (Ctl Unit R)} {r : R} (p : β → Bool) : ∀ {xs : List β}, (∀ x ∈ xs, f x () = some (if p x = true then .rt r else .nx ())) → forC f xs () = some (if xs.any p = true then .rt r else .nx ())
  | [], _ => rfl
  | x :: xs, h => by
    have hx := h x List.mem_cons_self
    cases e : p x with
    | true =>
      rw [e] at hx
      show ((f x ()).bind _) = _
      rw [hx, List.any_cons, e]
      rfl
    | false =>
      rw [e] at hx
      rw [forC_cons (s' := ()) hx, forC_any p fun y hy => h y (List.mem_cons_of_mem _ hy), List.any_cons, e]
      rfl
end Wk
set_option synthInstance.maxHeartbeats 400000
set_option synthInstance.maxSize 2000
namespace Wk32
open PySem L2 Wk
/-! draws of a stream -/
def Good (st : List Int) : Prop := ∃ d s, st = [d, s]
theorem take_ok {st : List Int} {many : Int} (g : Good st) (h : 0 < many) (h2 : many < 1073741824) : ∃ r st', m__law_take st many = some (r, st') ∧ 0 ≤ r ∧ r < many ∧ Good st' := by
  obtain ⟨d, s, rfl⟩ := g
  unfold m__law_take
  have x0 : atI [d, s] (0 : Int) = some d := rfl
  have y0 : ∀ z : Int, setI [d, s] (0 : Int) z = some [z, s] := fun _ => rfl
  have y1 : ∀ z : Int, setI [d, s] (1 : Int) z = some [d, z] := fun _ => rfl
  have x1 : ∀ z : Int, atI [d, z] (1 : Int) = some z := fun _ => rfl
  simp only [x0, bs]
  by_cases hd : 0 < d
  · rw [if_pos (decide_eq_true hd), modO_ok h]
    simp only [bs]
    rw [divO_ok h h2]
    simp only [bs, y0]
    exact ⟨_, _, rfl, Int.emod_nonneg _ (by omega), Int.emod_lt_of_pos _ h, _, _, rfl⟩
  · rw [if_neg (by simpa using hd)]
    simp only [x1, y1, bs]
    rw [modO_ok h]
    simp only [bs]
    exact ⟨_, _, rfl, Int.emod_nonneg _ (by omega), Int.emod_lt_of_pos _ h, _, _, rfl⟩
theorem stream_ok {ns : List Int} (hl : ns.length ≤ 63) : ∃ st, m__law_stream (Fz.mk ns) = some st ∧ Good st := by
  unfold m__law_stream
  simp only [bs]
  obtain ⟨s', e, _⟩ := forS_inv (f := m__law_stream_L1) (fun _ _ => True) (xs := cut ns none (some 63)) (s := 7) trivial (fun x rest s _ => ⟨_, by unfold m__law_stream_L1; exact rfl, trivial⟩)
  rw [e]
  simp only [bs]
  by_cases h1 : 1 < (ns.length : Int)
  · obtain ⟨a, ea, _⟩ := atI_some (xs := ns) (i := 0) (by omega) (by omega)
    obtain ⟨b, eb, _⟩ := atI_some (xs := ns) (i := 1) (by omega) (by omega)
    rw [decide_eq_true h1]
    simp only [ea, bs, if_true]
    by_cases h2 : a % 2 = 0
    · rw [decide_eq_true h2]
      simp only [if_true, eb, bs]
      exact ⟨_, rfl, _, _, rfl⟩
    · rw [decide_eq_false h2]
      simp only [Bool.false_eq_true, if_false, bs]
      exact ⟨_, rfl, _, _, rfl⟩
  · rw [decide_eq_false h1]
    simp only [Bool.false_eq_true, if_false, bs]
    exact ⟨_, rfl, _, _, rfl⟩
/-- a row of draws -/
theorem takes_ok {β : Type} {xs : List β} {st : List Int} {top : Int} {f : β → List Int → Option (Int × List Int)} (hf : ∀ x st, f x st = (m__law_take st top).bind fun p => some (p.1, p.2)) (hl : xs.length < 1000000) (g : Good st) (h : 0 < top) (h2 : top < 1073741824) :
    ∃ zs st', lcS f xs st = some (zs, st') ∧ Good st' ∧ zs.length = xs.length ∧ ∀ z ∈ zs, 0 ≤ z ∧ z < top :=
  lcS_inv Good (fun z => 0 ≤ z ∧ z < top) (fun x s hs => by
    obtain ⟨r, st', e, h1, h2, g'⟩ := take_ok hs h h2
    exact ⟨r, st', by rw [hf, e, bs], g', h1, h2⟩) hl g
/-! names that are drawn, none twice -/
def alpha : Str := "abcdefghijklmnopqrstuvwxyz"
theorem alpha_at : ∀ i : Fin 26, alpha.cps[i.val]? = some (97 + i.val) := by decide +kernel
theorem alpha_size : alpha.cps.size = 26 := by decide +kernel
theorem letter (i : Int) : ixS alpha (i % 26) = some ⟨#[97 + (i % 26).toNat]⟩ := by
  have h1 : 0 ≤ i % 26 := by omega
  have h2 : i % 26 < 26 := by omega
  have hl : alpha.length = 26 := alpha_size
  unfold ixS
  rw [if_pos (by rw [hl]; omega), atI_ok h1 (by rw [Array.length_toList, alpha_size]; omega)]
  have e : alpha.cps.toList[(i % 26).toNat]? = some (97 + (i % 26).toNat) := by
    rw [Array.getElem?_toList]
    exact alpha_at ⟨(i % 26).toNat, by omega⟩
  rw [e]
  rfl
theorem ok_letter (i : Int) : PyData.strOk ⟨#[97 + (i % 26).toNat]⟩ = true := by
  have : ∀ k : Fin 26, PyData.strOk ⟨#[97 + k.val]⟩ = true := by decide +kernel
  exact this ⟨(i % 26).toNat, by omega⟩
theorem addS_ok {x y : Str} (h : x.length + y.length ≤ 1000000) : addS x y = some (x ++ y) := if_pos h
theorem cut4 {z : Str} (h : PyData.strOk z = true) (hl : z.length ≤ 1000) : ∃ r, cutSO z none (some (4 : Int)) = some r ∧ PyData.strOk r = true ∧ r.length ≤ 4 := by
  refine ⟨cutS z none (some 4), if_pos (by omega), ?_, ?_⟩
  · have hz := Array.all_eq_true'.mp h
    show ((cutS z none (some 4)).cps).all _ = true
    unfold cutS
    refine Array.all_eq_true'.mpr fun x hx => hz x ?_
    have hx := List.mem_of_mem_drop (List.mem_of_mem_take (Array.mem_toList_iff.mpr hx))
    exact Array.mem_toList_iff.mp hx
  · show ((cutS z none (some 4)).cps).size ≤ 4
    unfold cutS
    show (List.take _ _).toArray.size ≤ 4
    rw [List.size_toArray, List.length_take]
    have e : HT.sIx z.length z.length (some ((4 : Nat) : Int)) = min 4 z.length := HT.sIx_nat _ _ _
    have e' : HT.sIx z.length z.length (some (4 : Int)) = min 4 z.length := e
    omega
theorem nodup_le {α : Type} [DecidableEq α] : ∀ {l m : List α}, l.Nodup → (∀ x ∈ l, x ∈ m) → l.length ≤ m.length
  | [], _, _, _ => Nat.zero_le _
  | a :: t, m, hn, hs => by
    rw [List.nodup_cons] at hn
    have ha := hs a List.mem_cons_self
    have := nodup_le (l := t) (m := m.erase a) hn.2 fun x hx => (List.mem_erase_of_ne (fun z => hn.1 (by rw [← z]; exact hx))).mpr (hs x (List.mem_cons_of_mem _ hx))
    rw [List.length_erase_of_mem ha] at this
    have : 0 < m.length := List.length_pos_of_mem ha
    rw [List.length_cons]
    omega
def hd (k : Int) (i : Nat) : Nat := 97 + ((k + 7 * (i : Int)) % 26).toNat
theorem heads {k : Int} {ns : List Str} {m : Nat} (hm : m ≤ 26) (h : ∀ i, i < m → ∃ n ∈ ns, n.cps[0]? = some (hd k i)) : m ≤ ns.length := by
  have := nodup_le (l := (List.range m).map (hd k)) (m := ns.map fun n => (n.cps[0]?).getD 0) (by
    show List.Pairwise (· ≠ ·) _
    rw [List.pairwise_map]
    refine List.Pairwise.imp_of_mem ?_ List.pairwise_lt_range
    intro a b ha hb hab
    rw [List.mem_range] at ha hb
    unfold hd
    omega) (fun x hx => by
    obtain ⟨i, hi, rfl⟩ := List.mem_map.mp hx
    rw [List.mem_range] at hi
    obtain ⟨n, hn, e⟩ := h i hi
    exact List.mem_map.mpr ⟨n, hn, by rw [e]; rfl⟩)
  rwa [List.length_map, List.length_map, List.length_range] at this
structure NI (k : Int) (ns : List Str) (s : Str × Int) (j : Nat) : Prop where
  turn : s.2 = k + 7 * (j : Int)
  ok : PyData.strOk s.1 = true
  len : s.1.length ≤ 8
  head : 1 ≤ j → s.1.cps[0]? = some (hd k (j - 1))
  met : ∀ i, i + 1 < j → ∃ n ∈ ns, n.cps[0]? = some (hd k i)
  few : j ≤ ns.length + 1
theorem unlike_ok {k : Int} {ns : List Str} (hns : ns.length ≤ 20) {n0 : Str} (h0 : PyData.strOk n0 = true) (hl : n0.length ≤ 8) :
    ∃ n t, whileF (m__law_names_L3_c alpha ns) (m__law_names_L3 alpha ns) (n0, k) = some (n, t) ∧ PyData.strOk n = true ∧ n.length ≤ 8 ∧ n ∉ ns := by
  obtain ⟨⟨n, t⟩, e, ⟨j, hi⟩, hc⟩ := whileF_inv (c := m__law_names_L3_c alpha ns) (f := m__law_names_L3 alpha ns) (fun s => ∃ j, NI k ns s j) (fun s => (k + 7 * ((ns.length : Int) + 1) - s.2).toNat) (fun s hs => by
    obtain ⟨n, t⟩ := s
    obtain ⟨j, hi⟩ := hs
    refine ⟨_, rfl, fun hb => ?_⟩
    have et : t = k + 7 * (j : Int) := hi.turn
    have hok : PyData.strOk n = true := hi.ok
    have hlen : n.length ≤ 8 := hi.len
    rw [Bool.or_eq_true, decide_eq_true_eq, decide_eq_true_eq] at hb
    have hm : 1 ≤ j → n ∈ ns := fun hj => by
      rcases hb with hb | hb
      · exact hb
      · have := hi.head hj
        have : n.cps[0]? = some (hd k (j - 1)) := this
        rw [hb] at this
        cases this
    have met' : ∀ i, i < j → ∃ n ∈ ns, n.cps[0]? = some (hd k i) := fun i hij => by
      by_cases h : i + 1 < j
      · exact hi.met i h
      · have : i = j - 1 := by omega
        subst this
        exact ⟨n, hm (by omega), hi.head (by omega)⟩
    have hj : j ≤ ns.length := by
      have := hi.few
      exact heads (by omega) met'
    obtain ⟨c4, e4, o4, l4⟩ := cut4 hok (by omega)
    have e1 : lenS n = some (n.length : Int) := if_pos (by omega)
    have hsz1 : ∀ i : Int, (⟨#[97 + (i % 26).toNat]⟩ : Str).length = 1 := fun _ => rfl
    refine ⟨((⟨#[97 + (t % 26).toNat]⟩ ++ ⟨#[97 + ((t / 26 + (n.length : Int)) % 26).toNat]⟩) ++ c4, t + 7), ?_, ⟨j + 1, ?_⟩, ?_⟩
    · unfold m__law_names_L3
      simp only [e1, bs, letter, e4]
      rw [addS_ok (by rw [hsz1, hsz1]; omega)]
      simp only [bs]
      rw [addS_ok (by rw [len_app, hsz1, hsz1]; omega)]
      simp only [bs]
    · refine ⟨by show t + 7 = _; omega, ok_app (ok_app (ok_letter _) (ok_letter _)) o4, ?_, fun _ => ?_, fun i hij => met' i (by omega), by omega⟩
      · show ((_ ++ _) ++ c4 : Str).length ≤ 8
        rw [len_app, len_app, hsz1, hsz1]
        omega
      · show ((#[97 + (t % 26).toNat] ++ #[97 + ((t / 26 + (n.length : Int)) % 26).toNat]) ++ c4.cps)[0]? = _
        rw [Array.getElem?_append_left (by rw [Array.size_append]; show 0 < 1 + 1; omega), Array.getElem?_append_left (by show 0 < 1; omega)]
        show some (97 + (t % 26).toNat) = some (hd k (j + 1 - 1))
        unfold hd
        rw [et, Nat.add_sub_cancel]
    · show (k + 7 * ((ns.length : Int) + 1) - (t + 7)).toNat < (k + 7 * ((ns.length : Int) + 1) - t).toNat
      omega) (s := (n0, k)) ⟨0, by show k = _; omega, h0, hl, fun h => absurd h (by omega), fun i h => absurd h (by omega), by omega⟩
  have hc : (decide (n ∈ ns) || decide (n = ("" : Str))) = false := Option.some.inj hc
  rw [Bool.or_eq_false_iff, decide_eq_false_iff_not] at hc
  exact ⟨n, t, e, hi.ok, hi.len, hc.1⟩
theorem names_ok {st : List Int} {many : Int} (g : Good st) (h0 : 0 ≤ many) (hm : many ≤ 15) : ∃ ns st', m__law_names st many = some (ns, st') ∧ Good st' ∧ ns.length = many.toNat ∧ (∀ n ∈ ns, PyData.strOk n = true) ∧ ns.Nodup := by
  unfold m__law_names
  simp only [bs]
  rw [rngO_ok (by omega) (by omega) (by omega) (by omega)]
  simp only [bs]
  obtain ⟨⟨ns, st'⟩, e, h1, h2, h3, h5⟩ := forS_ix (f := m__law_names_L1 alpha) (xs := irange 0 many) (fun i (s : List Str × List Int) => s.1.length = i ∧ (∀ n ∈ s.1, PyData.strOk n = true) ∧ Good s.2 ∧ s.1.Nodup) (s := ([], st)) ⟨rfl, (fun _ h => nomatch h), g, List.nodup_nil⟩ (fun i hi s hs => by
    obtain ⟨ns, st1⟩ := s
    obtain ⟨h1, h2, h3, h5⟩ := hs
    rw [irange_len] at hi
    have h1 : ns.length = i := h1
    generalize (irange 0 many)[i]'(by rw [irange_len]; exact hi) = k
    obtain ⟨r, st2, e2, r0, r1, g2⟩ := take_ok h3 (many := 8) (by omega) (by omega)
    unfold m__law_names_L1
    simp only [bs, e2]
    rw [rngO_ok (by omega) (by omega) (by omega) (by omega)]
    simp only [bs]
    obtain ⟨⟨n0, st3⟩, e3, q1, q2, q3⟩ := forS_ix (f := m__law_names_L2 alpha) (xs := irange 0 r) (fun i (s : Str × List Int) => s.1.length = i ∧ PyData.strOk s.1 = true ∧ Good s.2) (s := (("" : Str), st2)) ⟨rfl, (by decide +kernel : PyData.strOk ("" : Str) = true), g2⟩ (fun i hi s hs => by
      obtain ⟨n, st3⟩ := s
      obtain ⟨p1, p2, p3⟩ := hs
      have p1 : n.length = i := p1
      rw [irange_len] at hi
      obtain ⟨c, st4, e4, c0, c1, g4⟩ := take_ok p3 (many := 26) (by omega) (by omega)
      have el := letter c
      rw [Int.emod_eq_of_lt c0 c1] at el
      have eo := ok_letter c
      rw [Int.emod_eq_of_lt c0 c1] at eo
      refine ⟨(n ++ ⟨#[97 + c.toNat]⟩, st4), ?_, by show (n ++ _ : Str).length = _; rw [len_app, p1]; rfl, ok_app p2 eo, g4⟩
      unfold m__law_names_L2
      simp only [bs, e4, el]
      rw [addS_ok (by rw [p1]; show i + 1 ≤ _; omega)]
      simp only [bs])
    rw [irange_len] at q1
    have q1 : n0.length = (r - 0).toNat := q1
    rw [e3]
    simp only [bs]
    obtain ⟨n, t, e5, n5, l5, u5⟩ := unlike_ok (k := k) (ns := ns) (by omega) q2 (by omega)
    rw [e5]
    simp only [bs]
    rw [appO_ok (by omega)]
    refine ⟨_, rfl, by show (ns ++ [n]).length = _; rw [List.length_append, h1]; rfl, fun m hm => ?_, q3, ?_⟩
    · rcases List.mem_append.mp hm with hm | hm
      · exact h2 m hm
      · rw [List.mem_singleton.mp hm]
        exact n5
    · show (ns ++ [n]).Nodup
      rw [List.nodup_append]
      refine ⟨h5, by simp, fun a ha b hb => ?_⟩
      rw [List.mem_singleton.mp hb]
      exact fun z => u5 (z ▸ ha))
  have e' : forS (m__law_names_L1 ("abcdefghijklmnopqrstuvwxyz" : Str)) (irange 0 many) ([], st) = some (ns, st') := e
  rw [e']
  rw [irange_len] at h1
  exact ⟨ns, st', rfl, h3, by show ns.length = _; rw [show ns.length = (many - 0).toNat from h1, Int.sub_zero], h2, h5⟩
/-! tracks: what is dealt among alike ones, and what is raised -/
abbrev Ask := Str × Int × Int × Int × Unit
abbrev Sk := Int × Str × Int × Int × Unit
abbrev Rz := Str × Int × Int × Unit
def tn (n : Int) : Str := Txt.zfill ((toString n : String) : Str) 2
theorem tn_ok {n : Int} (h0 : 0 ≤ n) (h1 : n < 12) : m_track_name n = some (tn n) := by
  unfold m_track_name strIO zfO tn
  have hb : n.natAbs.log2 < 1920 := by
    have : ∀ k : Fin 12, (k.val).log2 < 1920 := by decide +kernel
    have := this ⟨n.natAbs, by omega⟩
    exact this
  have hp : PadOk 2 = true := by decide +kernel
  rw [if_pos hb, bs, if_pos hp, bs]
theorem tn_lt : ∀ a b : Fin 12, a.val < b.val → leD (tn (a.val : Int)) (tn (b.val : Int)) = true ∧ tn (a.val : Int) ≠ tn (b.val : Int) := by
  simp only [leD_str]
  decide +kernel
theorem tn_up {a b : Int} (h0 : 0 ≤ a) (h1 : a < b) (h2 : b < 12) : leD (tn a) (tn b) = true ∧ tn a ≠ tn b := by
  have := tn_lt ⟨a.toNat, by omega⟩ ⟨b.toNat, by omega⟩ (by show a.toNat < b.toNat; omega)
  rw [show ((a.toNat : Nat) : Int) = a by omega, show ((b.toNat : Nat) : Int) = b by omega] at this
  exact this
theorem tn_inj {a b : Int} (h0 : 0 ≤ a) (h1 : a < 12) (h2 : 0 ≤ b) (h3 : b < 12) (e : tn a = tn b) : a = b := by
  have q1 : ¬ a < b := fun z => (tn_up h0 z h3).2 e
  have q2 : ¬ b < a := fun z => (tn_up h2 z h1).2 e.symm
  omega
theorem leD_refl {α : Type} [Rp α] [Pd α] (a : α) : leD a a = true := by
  rcases leD_total.total a a with h | h <;> exact h
theorem leD_pair (x : Int) (a b : Str) : leD ((x, a, ()) : Int × Str × Unit) (x, b, ()) = leD a b := by
  show (!PySem.W.dataLt (.tuple [.int x, .str b]) (.tuple [.int x, .str a])) = (!PySem.W.dataLt (.str b) (.str a))
  rw [PySem.W.dataLt_pair rfl rfl]
  have e : PyData.eqv (.int x) (.int x) = true := by simp [PyData.eqv]
  rw [if_pos e]
  by_cases q : b = a
  · subst q
    have e2 : PyData.eqv (.str b) (.str b) = true := by simp [PyData.eqv]
    rw [if_pos e2, PySem.W.dataLt_str]
    simp
  · have e2 : ¬ PyData.eqv (.str b) (.str a) = true := by simp [PyData.eqv, q]
    rw [if_neg e2]
/-- the names of neighbouring tracks -/
def tns (first : Int) (s : Nat) : List Str := (List.range s).map fun (k : Nat) => tn (first + (k : Int))
theorem tns_at {first : Int} {s k : Nat} (h : k < s) : (tns first s)[k]? = some (tn (first + (k : Int))) := by
  unfold tns
  rw [List.getElem?_map, List.getElem?_range h]
  rfl
theorem tns_pw {first : Int} {s : Nat} (h0 : 0 ≤ first) (h1 : first + (s : Int) ≤ 12) : (tns first s).Pairwise fun a b => leD a b = true ∧ a ≠ b := by
  unfold tns
  rw [List.pairwise_map]
  refine List.Pairwise.imp_of_mem ?_ List.pairwise_lt_range
  intro a b ha hb hab
  rw [List.mem_range] at ha hb
  exact tn_up (by omega) (by omega) (by omega)
theorem irange_at {lo hi : Int} {i : Nat} (h : i < (irange lo hi).length) : (irange lo hi)[i] = lo + (i : Int) := by simp [irange]
theorem getD_none {β : Type} {l : List (Str × β)} {x : Str} (h : ∀ kv ∈ l, kv.1 ≠ x) : getD l x = none := by
  unfold getD
  rw [List.find?_eq_none.mpr (fun kv hkv => by simpa using h kv hkv)]
  rfl
theorem put_new {β : Type} {l : List (Str × β)} {x : Str} (y : β) (h : ∀ kv ∈ l, kv.1 ≠ x) : putD l x y = l ++ [(x, y)] := by
  unfold putD
  rw [getD_none h]
  rfl
theorem getD_zip {β : Type} (g : Str → β) : ∀ {xs : List Str}, ∀ {x : Str}, x ∈ xs → getD (xs.map fun z => (z, g z)) x = some (g x)
  | y :: ys, x, h => by
    rw [List.map_cons]
    by_cases e : y = x
    · rw [getD_pos (p := (y, g y)) e, e]
    · rw [getD_neg (p := (y, g y)) e]
      exact getD_zip g ((List.mem_cons.mp h).resolve_left (fun z => e z.symm))
theorem weights_ok {first : Int} {s : Nat} (h0 : 0 ≤ first) (h1 : first + (s : Int) ≤ 12) : m_track_weights first (s : Int) = some ⟨(tns first s).map fun z => (z, (1 : Int))⟩ := by
  unfold m_track_weights
  rw [rngO_ok (by omega) (by omega) (by omega) (by omega)]
  simp only [bs]
  obtain ⟨d, e, h⟩ := forS_ix (f := m_track_weights_L1) (xs := irange first (first + (s : Int))) (fun i (d : Dc Str Int) => d.l = (tns first i).map fun z => (z, (1 : Int))) (s := Dc.mk []) rfl (fun i hi d hd => by
    rw [irange_at hi]
    rw [irange_len] at hi
    refine ⟨⟨(tns first (i + 1)).map fun z => (z, (1 : Int))⟩, ?_, rfl⟩
    unfold m_track_weights_L1
    rw [tn_ok (by omega) (by omega)]
    simp only [bs]
    rw [putO_ok (by rw [hd, List.length_map]; unfold tns; rw [List.length_map, List.length_range]; omega), hd, put_new]
    · rw [bs]
      congr 2
      unfold tns
      rw [List.range_succ, List.map_append, List.map_append]
      rfl
    · intro kv hkv
      obtain ⟨z, hz, rfl⟩ := List.mem_map.mp hkv
      unfold tns at hz
      obtain ⟨k, hk, rfl⟩ := List.mem_map.mp hz
      rw [List.mem_range] at hk
      exact (tn_up (by omega) (by omega) (by omega)).2)
  rw [e, bs]
  rw [irange_len, show (first + (s : Int) - first).toNat = s by omega] at h
  obtain ⟨l⟩ := d
  have h : l = _ := h
  rw [h]
def dealt (lack : Int) (s k : Nat) : Int := lack / (s : Int) + if (k : Int) < lack % (s : Int) then 1 else 0
theorem sum_ones : ∀ xs : List Str, ((xs.map fun z => (z, (1 : Int))).map (·.2)).sum = (xs.length : Int)
  | [] => rfl
  | x :: xs => by
    rw [List.map_cons, List.map_cons, List.sum_cons, sum_ones xs, List.length_cons]
    omega
theorem sum_same (q : Int) : ∀ xs : List Str, ((xs.map fun z => (z, q)).map (·.2)).sum = (xs.length : Int) * q
  | [] => by simp
  | x :: xs => by
    rw [List.map_cons, List.map_cons, List.sum_cons, sum_same q xs, List.length_cons, Int.natCast_add, Int.add_mul]
    simp
    omega
theorem tns_len (first : Int) (s : Nat) : (tns first s).length = s := by
  unfold tns
  rw [List.length_map, List.length_range]
theorem deal_ok {lack first : Int} {s : Nat} (hs : 1 ≤ s) (hl0 : 0 ≤ lack) (hl1 : lack ≤ 100000000) (h0 : 0 ≤ first) (h1 : first + (s : Int) ≤ 12) :
    ∃ d, m_deal lack ⟨(tns first s).map fun z => (z, (1 : Int))⟩ = some d ∧ ∀ k, k < s → getD d.l (tn (first + (k : Int))) = some (dealt lack s k) := by
  have pw := tns_pw h0 h1
  generalize hn : tns first s = ns at pw
  have nl : ns.length = s := by rw [← hn, tns_len]
  have nat_ : ∀ k, k < s → ns[k]? = some (tn (first + (k : Int))) := fun k hk => by rw [← hn]; exact tns_at hk
  have nd : ns.Nodup := pw.imp fun h => h.2
  have ns_srt : srtD ns = ns := (srtD_one (List.Perm.refl _) (pw.imp fun h => h.1)).symm
  generalize hq : lack / (s : Int) = q
  generalize hr : lack % (s : Int) = r
  have r0 : 0 ≤ r := by rw [← hr]; exact Int.emod_nonneg _ (by omega)
  have r1 : r < s := by rw [← hr]; exact Int.emod_lt_of_pos _ (by omega)
  have eqr : (s : Int) * q + r = lack := by rw [← hq, ← hr]; exact Int.mul_ediv_add_emod lack s
  unfold m_deal
  simp only [bs]
  rw [sum_ones, nl]
  have esk : skO (⟨ns.map fun z => (z, (1 : Int))⟩ : Dc Str Int) = some ns := by
    unfold skO
    rw [if_pos (by show (ns.map _).length < 64; rw [List.length_map]; omega)]
    show some (srtD ((ns.map fun z => (z, (1 : Int))).map (·.1))) = _
    rw [List.map_map]
    show some (srtD (ns.map id)) = _
    rw [List.map_id, ns_srt]
  rw [esk]
  simp only [bs]
  have e1 : forS (m_deal_L1 lack ⟨ns.map fun z => (z, (1 : Int))⟩ (s : Int)) ns ([], Dc.mk []) = some (ns.map (fun z => (-r, z, ())), ⟨ns.map fun z => (z, q)⟩) := by
    obtain ⟨⟨rs, d⟩, e, h2, h3⟩ := forS_ix (f := m_deal_L1 lack ⟨ns.map fun z => (z, (1 : Int))⟩ (s : Int)) (xs := ns) (fun i (st : List (Int × Str × Unit) × Dc Str Int) => st.1 = (ns.take i).map (fun z => (-r, z, ())) ∧ st.2.l = (ns.take i).map fun z => (z, q)) (s := ([], Dc.mk [])) ⟨rfl, rfl⟩ (fun i hi st hst => by
      obtain ⟨rs, ⟨l⟩⟩ := st
      obtain ⟨h2, h3⟩ := hst
      simp only at h2 h3
      subst h2 h3
      have hx : ns[i]? = some ns[i] := List.getElem?_eq_getElem hi
      generalize hxe : ns[i] = x at hx
      have hg : getD (ns.map fun z => (z, (1 : Int))) x = some 1 := getD_zip (fun _ => (1 : Int)) (List.mem_of_getElem? hx)
      have hnew : ∀ kv ∈ (ns.take i).map (fun z => (z, q)), kv.1 ≠ x := by
        intro kv hkv
        obtain ⟨z, hz, rfl⟩ := List.mem_map.mp hkv
        intro ez
        have ez : z = x := ez
        subst ez
        obtain ⟨j, hj⟩ := List.getElem?_of_mem hz
        have hj1 := (List.getElem?_eq_some_iff.mp hj).1
        rw [List.length_take] at hj1
        rw [List.getElem?_take_of_lt (by omega)] at hj
        have := (List.getElem?_inj (by omega) nd).mp (hj.trans hx.symm)
        omega
      refine ⟨((ns.take (i + 1)).map (fun z => (-r, z, ())), ⟨(ns.take (i + 1)).map fun z => (z, q)⟩), ?_, rfl, rfl⟩
      unfold m_deal_L1
      simp only [hg, bs]
      rw [mulO_ok (by omega) (by omega)]
      simp only [bs, Int.mul_one]
      have edm : dmO lack (s : Int) = some (q, r, ()) := by
        unfold dmO
        rw [if_pos ⟨by omega, by omega⟩, hq, hr]
      rw [edm]
      simp only [bs]
      rw [putO_ok (by rw [List.length_map, List.length_take]; omega), put_new q hnew]
      simp only [bs]
      rw [appO_ok (by rw [List.length_map, List.length_take]; omega), bs, List.take_succ, hx, List.map_append, List.map_append]
      rfl)
    rw [e]
    rw [List.take_length] at h2 h3
    obtain ⟨l⟩ := d
    simp only at h2 h3
    rw [h2, h3]
  rw [e1]
  simp only [bs]
  rw [sum_same, nl, show lack - (s : Int) * q = r by omega]
  have e2 : srtDO (ns.map (fun z => ((-r, z, ()) : Int × Str × Unit))) = some (ns.map fun z => (-r, z, ())) := by
    unfold srtDO
    rw [if_pos ⟨by rw [List.length_map]; omega, by decide⟩]
    congr 1
    refine (srtD_one (List.Perm.refl _) ?_).symm
    rw [List.pairwise_map]
    exact pw.imp fun h => by rw [leD_pair]; exact h.1
  rw [e2]
  simp only [bs]
  obtain ⟨m, rfl⟩ := Int.eq_ofNat_of_zero_le r0
  rw [cut_to, ← List.map_take]
  obtain ⟨d, e3, h2, h3⟩ := forS_ix (f := m_deal_L2) (xs := (ns.take m).map (fun z => ((-(m : Int), z, ()) : Int × Str × Unit))) (fun i (d : Dc Str Int) => d.l.length ≤ s + i ∧ ∀ k, k < s → getD d.l (tn (first + (k : Int))) = some (q + if k < i then 1 else 0)) (s := ⟨ns.map fun z => (z, q)⟩) ⟨by show (ns.map _).length ≤ _; rw [List.length_map]; omega, fun k hk => by
    rw [if_neg (Nat.not_lt_zero _), Int.add_zero]
    exact getD_zip (fun _ => q) (List.mem_of_getElem? (nat_ k hk))⟩ (fun i hi d hd => by
    rw [List.length_map, List.length_take] at hi
    have ei : ((ns.take m).map (fun z => ((-(m : Int), z, ()) : Int × Str × Unit)))[i]'(by rw [List.length_map, List.length_take]; exact hi) = (-(m : Int), tn (first + (i : Int)), ()) := by
      rw [List.getElem_map, List.getElem_take]
      have := nat_ i (by omega)
      rw [List.getElem?_eq_getElem (by omega)] at this
      rw [Option.some.inj this]
    rw [ei]
    have hy := hd.2 i (by omega)
    refine ⟨⟨putD d.l (tn (first + (i : Int))) (q + (if i < i then 1 else 0) + 1)⟩, ?_, ?_, fun k hk => ?_⟩
    · unfold m_deal_L2
      simp only [hy, bs]
      rw [putO_ok (by have := hd.1; omega)]
      rfl
    · have := len_put d.l (tn (first + (i : Int))) (q + (if i < i then 1 else 0) + 1)
      have := hd.1
      show (putD _ _ _).length ≤ _
      omega
    · show getD (putD _ _ _) _ = _
      rw [getD_put]
      by_cases e : k = i
      · subst e
        rw [if_pos rfl, if_neg (Nat.lt_irrefl _), if_pos (Nat.lt_succ_self _), Int.add_zero]
      · rw [if_neg (fun z => e (by have := tn_inj (by omega) (by omega) (by omega) (by omega) z; omega)), hd.2 k hk]
        by_cases h : k < i
        · rw [if_pos h, if_pos (by omega)]
        · rw [if_neg h, if_neg (by omega)])
  rw [e3]
  refine ⟨d, rfl, fun k hk => ?_⟩
  rw [h3 k hk, List.length_map, List.length_take]
  unfold dealt
  rw [hq, hr]
  congr 2
  by_cases h : k < m
  · rw [if_pos (by omega), if_pos (by omega)]
  · rw [if_neg (by omega), if_neg (by omega)]
structure NumOk (many : Nat) (nu : List Int) : Prop where
  len : nu.length = many
  nn : ∀ x ∈ nu, 0 ≤ x
structure AskOk (many : Nat) (a : Ask) : Prop where
  nm : PyData.strOk a.1 = true
  f0 : 0 ≤ a.2.1
  s1 : 1 ≤ a.2.2.1
  fs : a.2.1 + a.2.2.1 ≤ (many : Int)
  a0 : 0 ≤ a.2.2.2.1
  a1 : a.2.2.2.1 ≤ 100000000
def stepR (name : Str) (first : Int) (s : List Rz × List Int) (kc : Int × Int × Unit) : List Rz × List Int :=
  (if 0 < kc.2.1 then s.1 ++ [(name, first + kc.1, kc.2.1, ())] else s.1, s.2.set (first + kc.1).toNat (s.2.getD (first + kc.1).toNat 0 + kc.2.1))
def cells (lack : Int) (s : Nat) : List Int := (List.range s).map fun k => dealt lack s k
theorem cells_at {lack : Int} {s i : Nat} (h : i < (enumI (cells lack s)).length) : (enumI (cells lack s))[i] = ((i : Int), dealt lack s i, ()) := by
  rw [enumI_at]
  simp [cells]
theorem cells_len (lack : Int) (s : Nat) : (enumI (cells lack s)).length = s := by
  rw [enumI_len]
  simp [cells]
theorem dealt_nn {lack : Int} {s : Nat} (h : 0 ≤ lack) (k : Nat) : 0 ≤ dealt lack s k := by
  have : 0 ≤ lack / (s : Int) := Int.ediv_nonneg h (by omega)
  unfold dealt
  split <;> omega
theorem atI_get0 {xs : List Int} {i : Int} (h0 : 0 ≤ i) (h : i < xs.length) : atI xs i = some (xs.getD i.toNat 0) := by
  rw [atI_ok h0 h, List.getD_eq_getElem?_getD, List.getElem?_eq_getElem (show i.toNat < xs.length by omega)]
  rfl
theorem setI_ok {xs : List Int} {i x : Int} (h0 : 0 ≤ i) (h : i < xs.length) : setI xs i x = some (xs.set i.toNat x) := by
  unfold setI ixN
  simp
  rw [if_pos (by omega)]
  rw [if_pos (by omega)]
  exact ⟨_, rfl, rfl⟩
theorem set_same {xs : List Int} {n : Nat} (h : n < xs.length) : xs.set n (xs.getD n 0 + 0) = xs := by
  rw [Int.add_zero, List.getD_eq_getElem?_getD, List.getElem?_eq_getElem h]
  exact List.set_getElem_self h
structure RI (many : Nat) (name : Str) (ra : List Rz) (nu : List Int) (lack first : Int) (s i : Nat) (st : List Rz × List Int) : Prop where
  eq : st = ((enumI (cells lack s)).take i).foldl (stepR name first) (ra, nu)
  num : NumOk many st.2
  len : st.1.length ≤ ra.length + i
  nm : ∀ r ∈ st.1, PyData.strOk r.1 = true
theorem RI.next {many : Nat} {name : Str} {ra : List Rz} {nu : List Int} {lack first : Int} {s i : Nat} {st : List Rz × List Int} (h : RI many name ra nu lack first s i st) (hn : PyData.strOk name = true) (hi : i < s) (h0 : 0 ≤ lack) : RI many name ra nu lack first s (i + 1) (stepR name first st ((i : Int), dealt lack s i, ())) := by
  have hx : (enumI (cells lack s))[i]? = some ((i : Int), dealt lack s i, ()) := by
    rw [List.getElem?_eq_getElem (by rw [cells_len]; exact hi), cells_at]
  have hd := dealt_nn (lack := lack) (s := s) h0 i
  refine ⟨?_, ⟨?_, fun x hxm => ?_⟩, ?_, fun r hr => ?_⟩
  · rw [List.take_succ, hx, List.foldl_append, ← h.eq]
    rfl
  · show (st.2.set _ _).length = many
    rw [List.length_set, h.num.len]
  · have hxm : x ∈ st.2.set (first + (i : Int)).toNat (st.2.getD (first + (i : Int)).toNat 0 + dealt lack s i) := hxm
    rcases List.mem_or_eq_of_mem_set hxm with q | q
    · exact h.num.nn x q
    · have : 0 ≤ st.2.getD (first + (i : Int)).toNat 0 := by
        rw [List.getD_eq_getElem?_getD]
        cases e : st.2[(first + (i : Int)).toNat]? with
        | none => exact Int.le_refl _
        | some y => exact h.num.nn y (List.mem_of_getElem? e)
      omega
  · show (if 0 < dealt lack s i then st.1 ++ [_] else st.1).length ≤ _
    have := h.len
    split
    · rw [List.length_append, List.length_singleton]
      omega
    · omega
  · have hr : r ∈ (if 0 < dealt lack s i then st.1 ++ [(name, first + (i : Int), dealt lack s i, ())] else st.1) := hr
    split at hr
    · rcases List.mem_append.mp hr with q | q
      · exact h.nm r q
      · rw [List.mem_singleton.mp q]
        exact hn
    · exact h.nm r hr
theorem inner1 {many : Nat} (hm : many ≤ 12) {a : Ask} (ha : AskOk many a) {s : Nat} (hs : a.2.2.1 = (s : Int)) {lack : Int} (h0 : 0 ≤ lack) {ra : List Rz} {nu : List Int} (hnu : NumOk many nu) (hra : ra.length ≤ 1000) (hrn : ∀ r ∈ ra, PyData.strOk r.1 = true)
    {d : Dc Str Int} (hd : ∀ k, k < s → getD d.l (tn (a.2.1 + (k : Int))) = some (dealt lack s k)) :
    ∃ st, forS (m_raise_tracks_L2 a d) (irange a.2.1 (a.2.1 + (s : Int))) (ra, nu) = some st ∧ RI many a.1 ra nu lack a.2.1 s s st := by
  have f0 := ha.f0
  have fs := ha.fs
  rw [hs] at fs
  obtain ⟨st, e, h⟩ := forS_ix (f := m_raise_tracks_L2 a d) (xs := irange a.2.1 (a.2.1 + (s : Int))) (fun i st => RI many a.1 ra nu lack a.2.1 s i st) (s := (ra, nu)) ⟨rfl, hnu, Nat.le_refl _, hrn⟩ (fun i hi st hst => by
    rw [irange_at hi]
    rw [irange_len] at hi
    have hi : i < s := by omega
    refine ⟨_, ?_, hst.next ha.nm hi h0⟩
    obtain ⟨rr, nn⟩ := st
    have hl := hst.num.len
    have hlr := hst.len
    simp only at hl hlr
    unfold m_raise_tracks_L2
    rw [tn_ok (by omega) (by omega)]
    simp only [bs, hd i hi]
    by_cases hp : 0 < dealt lack s i
    · rw [if_pos (decide_eq_true hp), appO_ok (by omega)]
      simp only [bs]
      rw [atI_get0 (by omega) (by omega)]
      simp only [bs]
      rw [setI_ok (by omega) (by omega)]
      simp only [bs]
      unfold stepR
      rw [if_pos hp]
    · rw [if_neg (by simpa using hp)]
      have hz : dealt lack s i = 0 := by
        have := dealt_nn (lack := lack) (s := s) h0 i
        omega
      unfold stepR
      rw [if_neg hp]
      simp only [hz]
      rw [set_same (by omega)])
  rw [irange_len, show (a.2.1 + (s : Int) - a.2.1).toNat = s by omega] at h
  exact ⟨st, e, h⟩
/-- what one ask raises -/
def lackOf (gap : Int) (nu : List Int) (t : Sk) : Int := t.2.2.2.1 - gap * (t.1 - 1) - (cut nu (some t.2.2.1) (some (t.2.2.1 + t.1))).sum
def raise1 (gap : Int) (s : List Rz × List Int) (t : Sk) : List Rz × List Int :=
  if 0 < lackOf gap s.2 t then (enumI (cells (lackOf gap s.2 t) t.1.toNat)).foldl (stepR t.2.1 t.2.2.1) s else s
def back (t : Sk) : Ask := (t.2.1, t.2.2.1, t.1, t.2.2.2.1, ())
structure OI (many i : Nat) (s : List Rz × List Int) : Prop where
  num : NumOk many s.2
  len : s.1.length ≤ 12 * i
  nm : ∀ r ∈ s.1, PyData.strOk r.1 = true
theorem sum_nn : ∀ {xs : List Int}, (∀ x ∈ xs, 0 ≤ x) → 0 ≤ xs.sum
  | [], _ => Int.le_refl _
  | x :: xs, h => by
    have := sum_nn (xs := xs) fun y hy => h y (List.mem_cons_of_mem _ hy)
    have := h x List.mem_cons_self
    rw [List.sum_cons]
    omega
theorem lack_hi {many : Nat} {gap : Int} (hg : 0 ≤ gap) {nu : List Int} (hnu : NumOk many nu) {t : Sk} (ht : AskOk many (back t)) : lackOf gap nu t ≤ 100000000 := by
  have h1 := ht.a1
  have h2 := ht.s1
  have h1 : t.2.2.2.1 ≤ 100000000 := h1
  have h2 : 1 ≤ t.1 := h2
  have h3 : 0 ≤ gap * (t.1 - 1) := Int.mul_nonneg hg (by omega)
  have h4 : 0 ≤ (cut nu (some t.2.2.1) (some (t.2.2.1 + t.1))).sum := sum_nn fun x hx => hnu.nn x (cut_mem hx)
  unfold lackOf
  omega
theorem raise_ok {many : Nat} (hm : many ≤ 12) {gap : Int} (hg : 0 ≤ gap) (hg2 : gap ≤ 100000) {t : Sk} (ht : AskOk many (back t)) {i : Nat} (hi : i ≤ 50) {s : List Rz × List Int} (hs : OI many i s) :
    m_raise_tracks_L1 gap (back t) s = some (raise1 gap s t) ∧ OI many (i + 1) (raise1 gap s t) := by
  obtain ⟨ra, nu⟩ := s
  have hnu := hs.num
  have hlen := hs.len
  have hnm := hs.nm
  simp only at hnu hlen hnm
  have s1 := ht.s1
  have s1 : 1 ≤ t.1 := s1
  have fs := ht.fs
  have fs : t.2.2.1 + t.1 ≤ (many : Int) := fs
  have f0 := ht.f0
  have f0 : 0 ≤ t.2.2.1 := f0
  obtain ⟨sp, esp⟩ := Int.eq_ofNat_of_zero_le (show 0 ≤ t.1 by omega)
  have el : m_lack_of nu gap (back t) = some (lackOf gap nu t) := by
    unfold m_lack_of m_gaps_in back
    simp only [bs]
    rw [mulO_ok (by omega) (by omega)]
    simp only [bs]
    unfold lackOf
    rw [show max 0 (t.1 - 1) = t.1 - 1 by omega]
    congr 1
    omega
  unfold m_raise_tracks_L1
  simp only [bs, el]
  by_cases hp : 0 < lackOf gap nu t
  · rw [if_pos (decide_eq_true hp)]
    have e1 : raise1 gap (ra, nu) t = (enumI (cells (lackOf gap nu t) sp)).foldl (stepR t.2.1 t.2.2.1) (ra, nu) := by
      unfold raise1
      rw [if_pos hp, esp]
      rfl
    have ew := weights_ok (first := t.2.2.1) (s := sp) f0 (by omega)
    obtain ⟨d, ed, hd⟩ := deal_ok (lack := lackOf gap nu t) (first := t.2.2.1) (s := sp) (by omega) (by omega) (lack_hi hg hnu ht) f0 (by omega)
    have ew' : m_track_weights (back t).2.1 (back t).2.2.1 = some ⟨(tns t.2.2.1 sp).map fun z => (z, (1 : Int))⟩ := by
      show m_track_weights t.2.2.1 t.1 = _
      rw [esp]
      exact ew
    rw [ew']
    simp only [bs, ed]
    have er : rngO (back t).2.1 ((back t).2.1 + (back t).2.2.1) = some (irange t.2.2.1 (t.2.2.1 + (sp : Int))) := by
      show rngO t.2.2.1 (t.2.2.1 + t.1) = _
      rw [rngO_ok (by omega) (by omega) (by omega) (by omega), esp]
    rw [er]
    simp only [bs]
    obtain ⟨st, e2, h2⟩ := inner1 hm ht (s := sp) esp (lack := lackOf gap nu t) (by omega) hnu (ra := ra) (by omega) hnm hd
    have e2 : forS (m_raise_tracks_L2 (back t) d) (irange t.2.2.1 (t.2.2.1 + (sp : Int))) (ra, nu) = some st := e2
    rw [e2]
    have eq := h2.eq
    rw [show (enumI (cells (lackOf gap nu t) sp)).take sp = enumI (cells (lackOf gap nu t) sp) from List.take_of_length_le (by rw [cells_len]; exact Nat.le_refl _)] at eq
    rw [e1]
    have eq : st = (enumI (cells (lackOf gap nu t) sp)).foldl (stepR t.2.1 t.2.2.1) (ra, nu) := eq
    rw [← eq]
    obtain ⟨rr, nn⟩ := st
    simp only [bs]
    refine ⟨trivial, ⟨h2.num, ?_, h2.nm⟩⟩
    have := h2.len
    show rr.length ≤ 12 * (i + 1)
    have : rr.length ≤ ra.length + sp := this
    omega
  · rw [if_neg (by simpa using hp)]
    have e1 : raise1 gap (ra, nu) t = (ra, nu) := by
      unfold raise1
      rw [if_neg hp]
    rw [e1]
    exact ⟨rfl, ⟨hnu, by show ra.length ≤ _; omega, hnm⟩⟩
/-- asks of one track alone -/
def alone1 (nu : List Int) (a : Ask) : List Int := if a.2.2.1 = 1 then nu.set a.2.1.toNat (max (nu.getD a.2.1.toNat 0) a.2.2.2.1) else nu
theorem alone1_ok {many : Nat} {nu : List Int} (hnu : NumOk many nu) {a : Ask} (ha : AskOk many a) : m_alone_raised_L1 a nu = some (alone1 nu a) ∧ NumOk many (alone1 nu a) := by
  have hl := hnu.len
  have f0 := ha.f0
  have s1 := ha.s1
  have fs := ha.fs
  have a0 := ha.a0
  obtain ⟨nm, fi, sp, am, u⟩ := a
  simp only at f0 s1 fs a0
  unfold m_alone_raised_L1 alone1
  simp only
  by_cases h : sp = 1
  · rw [if_pos (decide_eq_true h), if_pos h, atI_get0 f0 (by omega)]
    simp only [bs]
    rw [setI_ok f0 (by omega)]
    refine ⟨rfl, ⟨by rw [List.length_set]; exact hl, fun x hx => ?_⟩⟩
    rcases List.mem_or_eq_of_mem_set hx with q | q
    · exact hnu.nn x q
    · omega
  · rw [if_neg (by simpa using h), if_neg h]
    exact ⟨rfl, hnu⟩
theorem alone_ok {many : Nat} {nu : List Int} (hnu : NumOk many nu) {asks : List Ask} (ha : ∀ a ∈ asks, AskOk many a) : forS m_alone_raised_L1 asks nu = some (asks.foldl alone1 nu) ∧ NumOk many (asks.foldl alone1 nu) := by
  refine ⟨forS_fold alone1 (fun r nu => NumOk many nu ∧ ∀ a ∈ r, a ∈ asks) ⟨hnu, fun _ h => h⟩ fun a rest nu h => ?_, ?_⟩
  · obtain ⟨h1, h2⟩ := alone1_ok h.1 (ha a (h.2 a List.mem_cons_self))
    exact ⟨h1, h2, fun b hb => h.2 b (List.mem_cons_of_mem _ hb)⟩
  · induction asks generalizing nu with
    | nil => exact hnu
    | cons a rest ih => exact ih (alone1_ok hnu (ha a List.mem_cons_self)).2 fun b hb => ha b (List.mem_cons_of_mem _ hb)
/-- the asks of several, in order -/
def sev (asks : List Ask) : List Sk := (asks.filter fun a => decide (1 < a.2.2.1)).map fun a => (a.2.2.1, a.1, a.2.1, a.2.2.2.1, ())
theorem sev_ok {asks : List Ask} (hl : asks.length ≤ 100) : lcM (fun ask_82 : Ask => (some (decide ((1 : Int) < ask_82.2.2.1)))) (fun ask_82 : Ask => (some (ask_82.2.2.1, ask_82.1, ask_82.2.1, ask_82.2.2.2.1, ()))) asks = some (sev asks) := by
  rw [lcM_len (by omega)]
  exact lcGo_if (c := fun ask_82 : Ask => (some (decide ((1 : Int) < ask_82.2.2.1)))) (f := fun ask_82 : Ask => (some (ask_82.2.2.1, ask_82.1, ask_82.2.1, ask_82.2.2.2.1, ()))) (fun a => decide (1 < a.2.2.1)) (fun a : Ask => ((a.2.2.1, a.1, a.2.1, a.2.2.2.1, ()) : Sk)) (fun _ _ => rfl) (fun _ _ _ => rfl)
theorem sev_len (asks : List Ask) : (sev asks).length ≤ asks.length := by
  unfold sev
  rw [List.length_map]
  exact List.length_filter_le _ _
theorem srt_sev {asks : List Ask} (hl : asks.length ≤ 100) : srtDO (sev asks) = some (srtD (sev asks)) := by
  unfold srtDO
  have := sev_len asks
  rw [if_pos ⟨by omega, by decide⟩]
theorem sev_mem {many : Nat} {asks : List Ask} (ha : ∀ a ∈ asks, AskOk many a) {t : Sk} (ht : t ∈ srtD (sev asks)) : AskOk many (back t) := by
  have ht := (srtD_perm _).mem_iff.mp ht
  unfold sev at ht
  obtain ⟨a, h1, rfl⟩ := List.mem_map.mp ht
  exact ha a (List.mem_filter.mp h1).1
def raisedAll (gap : Int) (floor : List Int) (asks : List Ask) : List Rz × List Int := (srtD (sev asks)).foldl (raise1 gap) ([], asks.foldl alone1 floor)
theorem fold_ok {many : Nat} (hm : many ≤ 12) {gap : Int} (hg : 0 ≤ gap) (hg2 : gap ≤ 100000) : ∀ {ts : List Sk}, (∀ t ∈ ts, AskOk many (back t)) → ∀ {i : Nat} {s : List Rz × List Int}, i + ts.length ≤ 50 → OI many i s →
    forS (m_raise_tracks_L1 gap) (ts.map back) s = some (ts.foldl (raise1 gap) s) ∧ OI many (i + ts.length) (ts.foldl (raise1 gap) s)
  | [], _, i, s, _, h => ⟨rfl, h⟩
  | t :: ts, ht, i, s, hi, h => by
    rw [List.length_cons] at hi
    obtain ⟨h1, h2⟩ := raise_ok hm hg hg2 (ht t List.mem_cons_self) (by omega) h
    obtain ⟨h3, h4⟩ := fold_ok hm hg hg2 (ts := ts) (fun u hu => ht u (List.mem_cons_of_mem _ hu)) (i := i + 1) (by omega) h2
    refine ⟨?_, ?_⟩
    · rw [List.map_cons, forS_cons h1]
      exact h3
    · rw [List.length_cons, show i + (ts.length + 1) = i + 1 + ts.length by omega]
      exact h4
theorem raise_tracks_ok {many : Nat} (hm : many ≤ 12) {gap : Int} (hg : 0 ≤ gap) (hg2 : gap ≤ 100000) {floor : List Int} (hf : NumOk many floor) {asks : List Ask} (ha : ∀ a ∈ asks, AskOk many a) (hl : asks.length ≤ 40) (m : Int) :
    m_raise_tracks m gap floor asks = some ((raisedAll gap floor asks).2, (raisedAll gap floor asks).1, ()) ∧ OI many 40 (raisedAll gap floor asks) := by
  obtain ⟨h1, h2⟩ := alone_ok hf ha
  have hsl : (srtD (sev asks)).length ≤ 40 := by
    have e : (srtD (sev asks)).length = (sev asks).length := (srtD_perm _).length_eq
    have := sev_len asks
    omega
  have e1 : m_in_order asks = some ((srtD (sev asks)).map back) := by
    unfold m_in_order
    simp only [bs]
    rw [sev_ok (by omega), bs, srt_sev (by omega), bs]
    rw [forS_app back (s := []) (by simp; omega) (fun t _ s hs => by
      obtain ⟨a, b, c, d, u⟩ := t
      unfold m_in_order_L1
      simp only [appO_ok hs, bs]
      rfl)]
    simp only [bs, List.nil_append]
  obtain ⟨h3, h4⟩ := fold_ok hm hg hg2 (ts := srtD (sev asks)) (fun t ht => sev_mem ha ht) (i := 0) (s := ([], asks.foldl alone1 floor)) (by omega) ⟨h2, Nat.le_refl _, (fun _ h => nomatch h)⟩
  refine ⟨?_, ?_⟩
  · unfold m_raise_tracks m_alone_raised
    simp only [bs, h1, e1]
    rw [h3]
    rfl
  · refine ⟨h4.num, ?_, h4.nm⟩
    have := h4.len
    unfold raisedAll
    omega
theorem asks_ok {st : List Int} {many : Nat} {top : Int} {ns : List Str} (g : Good st) (hm : 1 ≤ many) (hm2 : many ≤ 12) (ht : 0 < top) (ht2 : top ≤ 100000000) (hn : ∀ n ∈ ns, PyData.strOk n = true) (hl : ns.length ≤ 100) :
    ∃ asks st', m__law_asks st (many : Int) ns top = some (asks, st') ∧ Good st' ∧ asks.length = ns.length ∧ (∀ a ∈ asks, AskOk many a) ∧ asks.map (·.1) = ns := by
  unfold m__law_asks
  simp only [bs]
  obtain ⟨⟨asks, st'⟩, e, h1, h2, h3, h4⟩ := forS_ix (f := m__law_asks_L1 (many : Int) top) (xs := ns) (fun i (s : List Ask × List Int) => s.1.length = i ∧ (∀ a ∈ s.1, AskOk many a) ∧ Good s.2 ∧ s.1.map (·.1) = ns.take i) (s := ([], st)) ⟨rfl, (fun _ h => nomatch h), g, rfl⟩ (fun i hi s hs => by
    obtain ⟨as, st1⟩ := s
    obtain ⟨h1, h2, h3, h9⟩ := hs
    have h1 : as.length = i := h1
    have hnm := hn _ (List.getElem_mem hi)
    have hni : ns[i]? = some ns[i] := List.getElem?_eq_getElem hi
    generalize ns[i] = n at hnm hni
    obtain ⟨f, st2, e2, f0, f1, g2⟩ := take_ok h3 (many := (many : Int)) (by omega) (by omega)
    obtain ⟨w, st3, e3, w0, w1, g3⟩ := take_ok g2 (many := 2) (by omega) (by omega)
    unfold m__law_asks_L1
    simp only [bs, e2, e3]
    rw [pick2 _ _ w0 w1]
    simp only [bs]
    obtain ⟨r, st4, e4, r0, r1, g4⟩ := take_ok g3 (many := if w = 0 then 1 else (many : Int) - f) (by split <;> omega) (by split <;> omega)
    rw [e4]
    simp only [bs]
    obtain ⟨a, st5, e5, a0, a1, g5⟩ := take_ok g4 (many := top) ht (by omega)
    rw [e5]
    simp only [bs]
    rw [appO_ok (by omega)]
    refine ⟨_, rfl, by show (as ++ [_]).length = _; rw [List.length_append, h1]; rfl, fun x hx => ?_, g5, by show (as ++ [_]).map _ = _; rw [List.map_append, show as.map (·.1) = ns.take i from h9, List.take_succ, hni]; rfl⟩
    rcases List.mem_append.mp hx with hx | hx
    · exact h2 x hx
    · rw [List.mem_singleton.mp hx]
      exact ⟨hnm, f0, by show 1 ≤ 1 + r; omega, by show f + (1 + r) ≤ (many : Int); split at r1 <;> omega, a0, by show a ≤ _; omega⟩)
  rw [e]
  rw [List.take_length] at h4
  exact ⟨asks, st', rfl, h3, h1, h2, h4⟩
/-! blocks of raises -/
abbrev Pr := Int × Str × Unit
def pairOf (t : Sk) : Pr := (t.1, t.2.1, ())
def blk (gap : Int) (nu : List Int) (t : Sk) : List Rz := (raise1 gap ([], nu) t).1
def nxt (gap : Int) (nu : List Int) (t : Sk) : List Int := (raise1 gap ([], nu) t).2
def allb (gap : Int) : List Sk → List Int → List Rz
  | [], _ => []
  | t :: ts, nu => blk gap nu t ++ allb gap ts (nxt gap nu t)
def nums (gap : Int) : List Sk → List Int → List Int
  | [], nu => nu
  | t :: ts, nu => nums gap ts (nxt gap nu t)
theorem step_app (name : Str) (first : Int) : ∀ (kcs : List (Int × Int × Unit)) (ra rb : List Rz) (nu : List Int), kcs.foldl (stepR name first) (ra ++ rb, nu) = (ra ++ (kcs.foldl (stepR name first) (rb, nu)).1, (kcs.foldl (stepR name first) (rb, nu)).2)
  | [], _, _, _ => rfl
  | kc :: kcs, ra, rb, nu => by
    rw [List.foldl_cons, List.foldl_cons]
    have e : stepR name first (ra ++ rb, nu) kc = (ra ++ (stepR name first (rb, nu) kc).1, (stepR name first (rb, nu) kc).2) := by
      unfold stepR
      split
      · rw [List.append_assoc]
      · rfl
    rw [e]
    exact step_app name first kcs ra _ _
theorem raise1_split (gap : Int) (ra : List Rz) (nu : List Int) (t : Sk) : raise1 gap (ra, nu) t = (ra ++ blk gap nu t, nxt gap nu t) := by
  unfold blk nxt raise1
  split
  · have := step_app t.2.1 t.2.2.1 (enumI (cells (lackOf gap nu t) t.1.toNat)) ra [] nu
    rw [List.append_nil] at this
    exact this
  · rw [List.append_nil]
theorem fold_split (gap : Int) : ∀ (ts : List Sk) (ra : List Rz) (nu : List Int), ts.foldl (raise1 gap) (ra, nu) = (ra ++ allb gap ts nu, nums gap ts nu)
  | [], ra, nu => by rw [show allb gap [] nu = [] from rfl, List.append_nil]; rfl
  | t :: ts, ra, nu => by
    rw [List.foldl_cons, raise1_split, fold_split gap ts, List.append_assoc]
    rfl
def pos (kc : Int × Int × Unit) : Bool := decide (0 < kc.2.1)
theorem step_fst (name : Str) (first : Int) : ∀ (kcs : List (Int × Int × Unit)) (rb : List Rz) (nu : List Int), (kcs.foldl (stepR name first) (rb, nu)).1 = rb ++ (kcs.filter pos).map fun kc => (name, first + kc.1, kc.2.1, ())
  | [], rb, nu => by simp
  | kc :: kcs, rb, nu => by
    rw [List.foldl_cons]
    by_cases h : 0 < kc.2.1
    · have e : stepR name first (rb, nu) kc = (rb ++ [(name, first + kc.1, kc.2.1, ())], (stepR name first (rb, nu) kc).2) := by
        unfold stepR
        rw [if_pos h]
      rw [e, step_fst name first kcs, List.filter_cons_of_pos (show pos kc = true from decide_eq_true h), List.map_cons, List.append_assoc]
      rfl
    · have e : stepR name first (rb, nu) kc = (rb, (stepR name first (rb, nu) kc).2) := by
        unfold stepR
        rw [if_neg h]
      rw [e, step_fst name first kcs, List.filter_cons_of_neg (show ¬ pos kc = true by unfold pos; simpa using h)]
theorem blk_is {gap : Int} {nu : List Int} {t : Sk} (h : 0 < lackOf gap nu t) : blk gap nu t = ((enumI (cells (lackOf gap nu t) t.1.toNat)).filter pos).map fun kc => (t.2.1, t.2.2.1 + kc.1, kc.2.1, ()) := by
  unfold blk raise1
  rw [if_pos h]
  exact step_fst _ _ _ _ _
theorem blk_no {gap : Int} {nu : List Int} {t : Sk} (h : ¬ 0 < lackOf gap nu t) : blk gap nu t = [] ∧ nxt gap nu t = nu := by
  unfold blk nxt raise1
  rw [if_neg h]
  exact ⟨rfl, rfl⟩
theorem blk_nm {gap : Int} {nu : List Int} {t : Sk} {r : Rz} (h : r ∈ blk gap nu t) : r.1 = t.2.1 := by
  by_cases hp : 0 < lackOf gap nu t
  · rw [blk_is hp] at h
    obtain ⟨kc, _, rfl⟩ := List.mem_map.mp h
    rfl
  · rw [(blk_no hp).1] at h
    cases h
theorem allb_nm {gap : Int} : ∀ {ts : List Sk} {nu : List Int} {r : Rz}, r ∈ allb gap ts nu → ∃ t ∈ ts, r.1 = t.2.1
  | t :: ts, nu, r, h => by
    rcases List.mem_append.mp (show r ∈ blk gap nu t ++ allb gap ts (nxt gap nu t) from h) with h | h
    · exact ⟨t, List.mem_cons_self, blk_nm h⟩
    · obtain ⟨u, hu, e⟩ := allb_nm h
      exact ⟨u, List.mem_cons_of_mem _ hu, e⟩
/-! one ask, step by step -/
theorem RI.all {many : Nat} {name : Str} {nu : List Int} {lack first : Int} {s : Nat} (hn : PyData.strOk name = true) (h0 : 0 ≤ lack) (hnu : NumOk many nu) : ∀ i, i ≤ s → RI many name [] nu lack first s i (((enumI (cells lack s)).take i).foldl (stepR name first) ([], nu))
  | 0, _ => ⟨rfl, hnu, Nat.le_refl _, (fun _ h => nomatch h)⟩
  | i + 1, h => by
    have ih := RI.all (first := first) (s := s) hn h0 hnu i (by omega)
    have := ih.next hn (by omega) h0
    have e := this.eq
    rw [← e]
    exact this
def nust (name : Str) (first lack : Int) (s : Nat) (nu : List Int) (i : Nat) : List Int := (((enumI (cells lack s)).take i).foldl (stepR name first) ([], nu)).2
theorem enum_cell {lack : Int} {s i : Nat} (h : i < s) : (enumI (cells lack s))[i]? = some ((i : Int), dealt lack s i, ()) := by
  rw [List.getElem?_eq_getElem (by rw [cells_len]; exact h), cells_at]
theorem nust_succ {name : Str} {first lack : Int} {s : Nat} {nu : List Int} {i : Nat} (h : i < s) : nust name first lack s nu (i + 1) = (nust name first lack s nu i).set (first + (i : Int)).toNat ((nust name first lack s nu i).getD (first + (i : Int)).toNat 0 + dealt lack s i) := by
  unfold nust
  rw [List.take_succ, enum_cell h, List.foldl_append]
  rfl
theorem nust_get {many : Nat} {name : Str} (hn : PyData.strOk name = true) {lack : Int} (h0 : 0 ≤ lack) {nu : List Int} (hnu : NumOk many nu) {fi s : Nat} (hf : fi + s ≤ many) : ∀ i, i ≤ s → ∀ j, (nust name (fi : Int) lack s nu i)[j]? = (nu[j]?).map fun x => x + if fi ≤ j ∧ j < fi + i then dealt lack s (j - fi) else 0
  | 0, _, j => by
    show nu[j]? = _
    cases nu[j]? with
    | none => rfl
    | some x => rw [Option.map_some, if_neg (by omega), Int.add_zero]
  | i + 1, h, j => by
    have ih := nust_get hn h0 hnu hf i (by omega)
    have hl := (RI.all (first := (fi : Int)) hn h0 hnu i (show i ≤ s by omega)).num.len
    have hl : (nust name (fi : Int) lack s nu i).length = many := hl
    rw [nust_succ (by omega), show ((fi : Int) + (i : Int)).toNat = fi + i by omega]
    by_cases e : fi + i = j
    · subst e
      rw [List.getElem?_set_self (by omega), List.getD_eq_getElem?_getD, ih (fi + i)]
      have hx : nu[fi + i]? = some (nu[fi + i]'(by rw [hnu.len]; omega)) := List.getElem?_eq_getElem _
      rw [hx]
      simp only [Option.map_some, Option.getD_some]
      rw [if_neg (by omega), if_pos (by omega), Int.add_zero, show fi + i - fi = i by omega]
    · rw [List.getElem?_set_ne e, ih j]
      cases nu[j]? with
      | none => rfl
      | some x =>
        rw [Option.map_some, Option.map_some]
        congr 2
        by_cases q : fi ≤ j ∧ j < fi + i
        · rw [if_pos q, if_pos (by omega)]
        · rw [if_neg q, if_neg (by omega)]
theorem nxt_is {gap : Int} {nu : List Int} {t : Sk} (h : 0 < lackOf gap nu t) : nxt gap nu t = nust t.2.1 t.2.2.1 (lackOf gap nu t) t.1.toNat nu t.1.toNat := by
  unfold nxt raise1 nust
  rw [if_pos h, List.take_of_length_le (by rw [cells_len]; exact Nat.le_refl _)]
theorem nxt_ok {many : Nat} {gap : Int} {nu : List Int} {t : Sk} (ht : AskOk many (back t)) (hnu : NumOk many nu) : NumOk many (nxt gap nu t) := by
  by_cases h : 0 < lackOf gap nu t
  · rw [nxt_is h]
    exact (RI.all (first := t.2.2.1) (s := t.1.toNat) ht.nm (by omega) hnu _ (Nat.le_refl _)).num
  · rw [(blk_no h).2]
    exact hnu
/-- no less at any place -/
def Ge (a b : List Int) : Prop := a.length = b.length ∧ ∀ j : Nat, b.getD j 0 ≤ a.getD j 0
theorem Ge.refl (a : List Int) : Ge a a := ⟨rfl, fun _ => Int.le_refl _⟩
theorem Ge.trans {a b c : List Int} (h1 : Ge a b) (h2 : Ge b c) : Ge a c := ⟨h1.1.trans h2.1, fun j => Int.le_trans (h2.2 j) (h1.2 j)⟩
theorem nxt_ge {many : Nat} {gap : Int} {nu : List Int} {t : Sk} (ht : AskOk many (back t)) (hnu : NumOk many nu) : Ge (nxt gap nu t) nu := by
  by_cases h : 0 < lackOf gap nu t
  · refine ⟨by rw [(nxt_ok ht hnu).len, hnu.len], fun j => ?_⟩
    have f0 : 0 ≤ t.2.2.1 := ht.f0
    have s1 : 1 ≤ t.1 := ht.s1
    have fs : t.2.2.1 + t.1 ≤ (many : Int) := ht.fs
    obtain ⟨fi, ef⟩ := Int.eq_ofNat_of_zero_le f0
    have g := nust_get (many := many) (name := t.2.1) ht.nm (lack := lackOf gap nu t) (by omega) hnu (fi := fi) (s := t.1.toNat) (by omega) t.1.toNat (Nat.le_refl _) j
    rw [nxt_is h, ef, List.getD_eq_getElem?_getD, List.getD_eq_getElem?_getD, g]
    cases nu[j]? with
    | none => exact Int.le_refl _
    | some x =>
      rw [Option.map_some, Option.getD_some, Option.getD_some]
      have := dealt_nn (lack := lackOf gap nu t) (s := t.1.toNat) (by omega) (j - fi)
      split <;> omega
  · rw [(blk_no h).2]
    exact Ge.refl _
theorem nums_ok {many : Nat} {gap : Int} : ∀ {ts : List Sk} {nu : List Int}, (∀ t ∈ ts, AskOk many (back t)) → NumOk many nu → NumOk many (nums gap ts nu) ∧ Ge (nums gap ts nu) nu
  | [], nu, _, h => ⟨h, Ge.refl _⟩
  | t :: ts, nu, ht, h => by
    have h1 := nxt_ok (gap := gap) (ht t List.mem_cons_self) h
    obtain ⟨h2, h3⟩ := nums_ok (gap := gap) (ts := ts) (fun u hu => ht u (List.mem_cons_of_mem _ hu)) h1
    exact ⟨h2, h3.trans (nxt_ge (ht t List.mem_cons_self) h)⟩
/-! sums -/
theorem cut_mid (xs : List Int) (a s : Nat) (h : a + s ≤ xs.length) : cut xs (some (a : Int)) (some ((a : Int) + (s : Int))) = (xs.drop a).take s := by
  unfold cut
  rw [show (a : Int) + (s : Int) = ((a + s : Nat) : Int) by omega, HT.sIx_nat, HT.sIx_nat, Nat.min_eq_left h, Nat.min_eq_left (show a ≤ xs.length by omega)]
  congr 1
  omega
theorem sum_zip : ∀ {xs ys : List Int}, xs.length = ys.length → (List.zipWith (· + ·) xs ys).sum = xs.sum + ys.sum
  | [], [], _ => rfl
  | x :: xs, y :: ys, h => by
    have := sum_zip (xs := xs) (ys := ys) (by simpa using h)
    rw [List.zipWith_cons_cons, List.sum_cons, List.sum_cons, List.sum_cons, this]
    omega
theorem sum_le : ∀ {xs ys : List Int}, xs.length = ys.length → (∀ j : Nat, xs.getD j 0 ≤ ys.getD j 0) → xs.sum ≤ ys.sum
  | [], [], _, _ => Int.le_refl _
  | x :: xs, y :: ys, h, hj => by
    have h1 := sum_le (xs := xs) (ys := ys) (by simpa using h) fun j => by simpa using hj (j + 1)
    have h2 : x ≤ y := by simpa using hj 0
    rw [List.sum_cons, List.sum_cons]
    omega
theorem sum_cells (lack : Int) (s : Nat) (hs : 1 ≤ s) (h0 : 0 ≤ lack) : (cells lack s).sum = lack := by
  have r0 : 0 ≤ lack % (s : Int) := Int.emod_nonneg _ (by omega)
  have r1 : lack % (s : Int) < s := Int.emod_lt_of_pos _ (by omega)
  have eqr := Int.mul_ediv_add_emod lack s
  have key : ∀ m : Nat, ((List.range m).map (dealt lack s)).sum = (m : Int) * (lack / (s : Int)) + min (m : Int) (lack % (s : Int)) := by
    intro m
    induction m with
    | zero => simp; omega
    | succ m ih =>
      rw [List.range_succ, List.map_append, List.sum_append, ih, show ((m + 1 : Nat) : Int) = (m : Int) + 1 by omega, Int.add_mul, Int.one_mul]
      have : ([m].map (dealt lack s)).sum = lack / (s : Int) + if (m : Int) < lack % (s : Int) then 1 else 0 := by simp [dealt]
      rw [this]
      split <;> omega
  have e : (cells lack s).sum = ((List.range s).map (dealt lack s)).sum := rfl
  rw [e, key s]
  omega
theorem slice_sum {many : Nat} {gap : Int} {nu : List Int} {t : Sk} (ht : AskOk many (back t)) (hnu : NumOk many nu) : lackOf gap (nxt gap nu t) t ≤ 0 := by
  by_cases h : 0 < lackOf gap nu t
  · have f0 : 0 ≤ t.2.2.1 := ht.f0
    have s1 : 1 ≤ t.1 := ht.s1
    have fs : t.2.2.1 + t.1 ≤ (many : Int) := ht.fs
    obtain ⟨fi, ef⟩ := Int.eq_ofNat_of_zero_le f0
    obtain ⟨s, es⟩ := Int.eq_ofNat_of_zero_le (show 0 ≤ t.1 by omega)
    have hl := hnu.len
    have hl2 := (nxt_ok (gap := gap) ht hnu).len
    have key : (cut (nxt gap nu t) (some t.2.2.1) (some (t.2.2.1 + t.1))).sum = (cut nu (some t.2.2.1) (some (t.2.2.1 + t.1))).sum + lackOf gap nu t := by
      have c1 : (cells (lackOf gap nu t) s).sum = lackOf gap nu t := sum_cells _ _ (by omega) (by omega)
      rw [ef, es, cut_mid _ _ _ (by omega), cut_mid _ _ _ (by omega)]
      have hz : ((nxt gap nu t).drop fi).take s = List.zipWith (· + ·) ((nu.drop fi).take s) (cells (lackOf gap nu t) s) := by
        refine List.ext_getElem? fun k => ?_
        by_cases hk : k < s
        · rw [List.getElem?_take_of_lt hk, List.getElem?_drop, nxt_is h, es, ef, show ((s : Nat) : Int).toNat = s from rfl]
          rw [nust_get (many := many) (name := t.2.1) ht.nm (lack := lackOf gap nu t) (by omega) hnu (fi := fi) (s := s) (by omega) s (Nat.le_refl _) (fi + k)]
          rw [List.getElem?_zipWith, List.getElem?_take_of_lt hk, List.getElem?_drop]
          have hx : nu[fi + k]? = some (nu[fi + k]'(by omega)) := List.getElem?_eq_getElem _
          have hc : (cells (lackOf gap nu t) s)[k]? = some (dealt (lackOf gap nu t) s k) := by
            unfold cells
            rw [List.getElem?_map, List.getElem?_range hk]
            rfl
          rw [hx, hc, Option.map_some, if_pos (by omega), show fi + k - fi = k by omega]
        · rw [List.getElem?_eq_none (by rw [List.length_take]; omega), List.getElem?_eq_none (by rw [List.length_zipWith, List.length_take]; omega)]
      rw [hz, sum_zip, c1]
      rw [List.length_take, List.length_drop]
      unfold cells
      rw [List.length_map, List.length_range]
      omega
    have e : lackOf gap (nxt gap nu t) t = t.2.2.2.1 - gap * (t.1 - 1) - (cut (nxt gap nu t) (some t.2.2.1) (some (t.2.2.1 + t.1))).sum := rfl
    have e2 : lackOf gap nu t = t.2.2.2.1 - gap * (t.1 - 1) - (cut nu (some t.2.2.1) (some (t.2.2.1 + t.1))).sum := rfl
    rw [e, key]
    omega
  · rw [(blk_no h).2]
    omega
theorem lack_mono {many : Nat} {gap : Int} {a b : List Int} {t : Sk} (ht : AskOk many (back t)) (ha : a.length = many) (h : Ge a b) : lackOf gap a t ≤ lackOf gap b t := by
  have f0 : 0 ≤ t.2.2.1 := ht.f0
  have s1 : 1 ≤ t.1 := ht.s1
  have fs : t.2.2.1 + t.1 ≤ (many : Int) := ht.fs
  obtain ⟨fi, ef⟩ := Int.eq_ofNat_of_zero_le f0
  obtain ⟨s, es⟩ := Int.eq_ofNat_of_zero_le (show 0 ≤ t.1 by omega)
  have hb := h.1
  unfold lackOf
  have : (cut b (some t.2.2.1) (some (t.2.2.1 + t.1))).sum ≤ (cut a (some t.2.2.1) (some (t.2.2.1 + t.1))).sum := by
    rw [ef, es, cut_mid _ _ _ (by omega), cut_mid _ _ _ (by omega)]
    refine sum_le (by rw [List.length_take, List.length_take, List.length_drop, List.length_drop]; omega) fun j => ?_
    by_cases hj : j < s
    · have q := h.2 (fi + j)
      rw [List.getD_eq_getElem?_getD, List.getD_eq_getElem?_getD] at q ⊢
      rw [List.getElem?_take_of_lt hj, List.getElem?_take_of_lt hj, List.getElem?_drop, List.getElem?_drop]
      exact q
    · rw [List.getD_eq_getElem?_getD, List.getD_eq_getElem?_getD, List.getElem?_eq_none (by rw [List.length_take]; omega), List.getElem?_eq_none (by rw [List.length_take]; omega)]
      exact Int.le_refl _
  omega
theorem lack_end {many : Nat} {gap : Int} : ∀ {ts : List Sk} {nu : List Int}, (∀ t ∈ ts, AskOk many (back t)) → NumOk many nu → ∀ t ∈ ts, lackOf gap (nums gap ts nu) t ≤ 0
  | t :: ts, nu, ht, h, u, hu => by
    have h1 := nxt_ok (gap := gap) (ht t List.mem_cons_self) h
    have ht' : ∀ v ∈ ts, AskOk many (back v) := fun v hv => ht v (List.mem_cons_of_mem _ hv)
    rcases List.mem_cons.mp hu with rfl | hu
    · obtain ⟨h2, h3⟩ := nums_ok (gap := gap) ht' h1
      exact Int.le_trans (lack_mono (ht u List.mem_cons_self) h2.len h3) (slice_sum (ht u List.mem_cons_self) h)
    · exact lack_end ht' h1 u hu
/-! the looker at one ask -/
def cst (lack : Int) (s i : Nat) : List Int := (cells lack s).take i ++ List.replicate (s - i) 0
theorem cells_length (lack : Int) (s : Nat) : (cells lack s).length = s := by
  unfold cells
  rw [List.length_map, List.length_range]
theorem cst_len {lack : Int} {s i : Nat} (h : i ≤ s) : (cst lack s i).length = s := by
  unfold cst
  rw [List.length_append, List.length_take, List.length_replicate, cells_length]
  omega
theorem cst_succ {lack : Int} {s i : Nat} (h : i < s) : (cst lack s i).set i (dealt lack s i) = cst lack s (i + 1) := by
  have hl : ((cells lack s).take i).length = i := by rw [List.length_take, cells_length]; omega
  have hc : (cells lack s)[i]? = some (dealt lack s i) := by
    unfold cells
    rw [List.getElem?_map, List.getElem?_range h]
    rfl
  unfold cst
  rw [List.set_append_right _ _ (by omega), hl, Nat.sub_self, show s - i = (s - (i + 1)) + 1 by omega, List.replicate_succ, List.set_cons_zero, List.take_succ, hc, List.append_assoc]
  rfl
theorem cst_at {lack : Int} {s i : Nat} (h : i < s) : (cst lack s i)[i]? = some 0 := by
  have hl : ((cells lack s).take i).length = i := by rw [List.length_take, cells_length]; omega
  unfold cst
  rw [List.getElem?_append_right (by omega), hl, Nat.sub_self, show s - i = (s - (i + 1)) + 1 by omega, List.replicate_succ]
  rfl
theorem cst_same {lack : Int} {s i : Nat} (h : i < s) (hz : dealt lack s i = 0) : cst lack s (i + 1) = cst lack s i := by
  rw [← cst_succ h, hz]
  have := cst_at (lack := lack) h
  refine List.ext_getElem? fun j => ?_
  by_cases e : i = j
  · subst e
    rw [List.getElem?_set_self (by rw [cst_len (by omega)]; exact h), this]
  · rw [List.getElem?_set_ne e]
theorem mine_ok {many : Nat} {t : Sk} (ht : AskOk many (back t)) {s : Nat} (es : t.1 = (s : Int)) {lack : Int} (h0 : 0 ≤ lack) {nu : List Int} (hnu : NumOk many nu) : ∀ m i : Nat, i + m = s →
    forC (m__law_ask_right_L1 t.2.2.1 t.1) ((((enumI (cells lack s)).drop i).filter pos).map fun kc => (t.2.2.1 + kc.1, kc.2.1, ())) (cst lack s i, nust t.2.1 t.2.2.1 lack s nu i) = some (.nx (cells lack s, nust t.2.1 t.2.2.1 lack s nu s))
  | 0, i, h => by
    have e : i = s := by omega
    subst e
    rw [List.drop_of_length_le (by rw [cells_len]; exact Nat.le_refl _)]
    show some (Ctl.nx (cst lack i i, _)) = _
    have : cst lack i i = cells lack i := by
      unfold cst
      rw [Nat.sub_self, List.take_of_length_le (by rw [cells_length]; exact Nat.le_refl _)]
      exact List.append_nil _
    rw [this]
  | m + 1, i, h => by
    have hi : i < s := by omega
    have f0 : 0 ≤ t.2.2.1 := ht.f0
    have fs : t.2.2.1 + t.1 ≤ (many : Int) := ht.fs
    have hd : (enumI (cells lack s)).drop i = ((i : Int), dealt lack s i, ()) :: (enumI (cells lack s)).drop (i + 1) := by
      rw [List.drop_eq_getElem_cons (by rw [cells_len]; exact hi), cells_at]
    have ih := mine_ok ht es h0 hnu m (i + 1) (by omega)
    have hl := (RI.all (first := t.2.2.1) (s := s) ht.nm h0 hnu i (by omega)).num.len
    have hl : (nust t.2.1 t.2.2.1 lack s nu i).length = many := hl
    rw [hd]
    by_cases hp : 0 < dealt lack s i
    · rw [List.filter_cons_of_pos (show pos ((i : Int), dealt lack s i, ()) = true from decide_eq_true hp), List.map_cons]
      rw [forC_cons (s' := (cst lack s (i + 1), nust t.2.1 t.2.2.1 lack s nu (i + 1)))]
      · exact ih
      · unfold m__law_ask_right_L1
        simp only
        have e1 : atI (cst lack s i) (t.2.2.1 + (i : Int) - t.2.2.1) = some 0 := by
          rw [show t.2.2.1 + (i : Int) - t.2.2.1 = (i : Int) by omega]
          exact atI_nat (cst_at hi)
        rw [decide_eq_true (show t.2.2.1 ≤ t.2.2.1 + (i : Int) by omega), decide_eq_true (show t.2.2.1 + (i : Int) < t.2.2.1 + t.1 by omega), e1]
        simp only [bs, Bool.and_self, Bool.not_true, Bool.false_eq_true, if_false, decide_true]
        rw [decide_eq_false (show ¬ dealt lack s i < 1 by omega)]
        simp only [bs, Bool.false_eq_true, if_false]
        rw [setI_ok (by omega) (by rw [cst_len (by omega)]; omega), show (t.2.2.1 + (i : Int) - t.2.2.1).toNat = i by omega, cst_succ hi]
        simp only [bs]
        rw [atI_get0 (by omega) (by omega)]
        simp only [bs]
        rw [setI_ok (by omega) (by omega)]
        simp only [bs]
        rw [nust_succ hi]
    · have hz : dealt lack s i = 0 := by
        have := dealt_nn (lack := lack) (s := s) h0 i
        omega
      rw [List.filter_cons_of_neg (show ¬ pos ((i : Int), dealt lack s i, ()) = true by unfold pos; simpa using hp)]
      have e2 : nust t.2.1 t.2.2.1 lack s nu (i + 1) = nust t.2.1 t.2.2.1 lack s nu i := by
        rw [nust_succ hi, hz, set_same (by omega)]
      rw [cst_same hi hz, e2] at ih
      exact ih
theorem dealt_fall {lack : Int} {s i j : Nat} (h : i < j) : dealt lack s j ≤ dealt lack s i := by
  unfold dealt
  split <;> split <;> omega
theorem ask_right_ok {many : Nat} (hm : many ≤ 12) {gap : Int} (hg : 0 ≤ gap) (hg2 : gap ≤ 100000) {t : Sk} (ht : AskOk many (back t)) {nu : List Int} (hnu : NumOk many nu) :
    m__law_ask_right gap nu (back t) ((blk gap nu t).map fun r => (r.2.1, r.2.2.1, ())) = some (true, nxt gap nu t) := by
  have f0 : 0 ≤ t.2.2.1 := ht.f0
  have s1 : 1 ≤ t.1 := ht.s1
  have fs : t.2.2.1 + t.1 ≤ (many : Int) := ht.fs
  obtain ⟨s, es⟩ := Int.eq_ofNat_of_zero_le (show 0 ≤ t.1 by omega)
  unfold m__law_ask_right back
  simp only [bs]
  rw [mulO_ok (by omega) (by omega)]
  simp only [bs]
  have el : t.2.2.2.1 - (cut nu (some t.2.2.1) (some (t.2.2.1 + t.1))).sum - gap * (t.1 - 1) = lackOf gap nu t := by
    unfold lackOf
    omega
  rw [el]
  by_cases h : 0 < lackOf gap nu t
  · rw [if_neg (show ¬ decide (lackOf gap nu t ≤ 0) = true by rw [decide_eq_true_eq]; omega)]
    have er : repO ([(0 : Int)] : List Int) t.1 = some (cst (lackOf gap nu t) s 0) := by
      unfold repO cst
      rw [if_pos ⟨by omega, by omega, by show 1 * t.1.toNat ≤ 1000000; omega⟩, es, show ((s : Nat) : Int).toNat = s from rfl]
      congr 1
      have : ∀ m : Nat, (List.replicate m [(0 : Int)]).flatten = List.replicate m 0 := by
        intro m
        induction m with
        | zero => rfl
        | succ m ih => rw [List.replicate_succ, List.flatten_cons, ih, List.replicate_succ]; rfl
      rw [this]
      rfl
    rw [er]
    simp only [bs]
    have em := mine_ok ht es (lack := lackOf gap nu t) (by omega) hnu s 0 (by omega)
    have eb : (blk gap nu t).map (fun r : Rz => ((r.2.1, r.2.2.1, ()) : Int × Int × Unit)) = (((enumI (cells (lackOf gap nu t) s)).drop 0).filter pos).map fun kc => (t.2.2.1 + kc.1, kc.2.1, ()) := by
      rw [blk_is h, List.map_map, List.drop_zero, es]
      rfl
    rw [eb]
    have en : nust t.2.1 t.2.2.1 (lackOf gap nu t) s nu 0 = nu := rfl
    rw [en] at em
    rw [em]
    simp only [bs]
    have c1 : (cells (lackOf gap nu t) s).sum = lackOf gap nu t := sum_cells _ _ (by omega) (by omega)
    have c2 : srtR (cells (lackOf gap nu t) s) = cells (lackOf gap nu t) s := by
      refine (srtR_one (List.Perm.refl _) ?_).symm
      unfold cells
      rw [List.pairwise_map]
      exact List.pairwise_lt_range.imp fun h => dealt_fall h
    have c3 : ∀ k, k < s → atI (cells (lackOf gap nu t) s) (k : Int) = some (dealt (lackOf gap nu t) s k) := fun k hk => atI_nat (by
      unfold cells
      rw [List.getElem?_map, List.getElem?_range hk]
      rfl)
    have c4 := c3 0 (by omega)
    have c5 := c3 (s - 1) (by omega)
    rw [show ((s - 1 : Nat) : Int) = t.1 - 1 by omega] at c5
    have c4 : atI (cells (lackOf gap nu t) s) (0 : Int) = some (dealt (lackOf gap nu t) s 0) := c4
    rw [c1, c2, c4, c5]
    simp only [bs, decide_true, if_true]
    have c6 : dealt (lackOf gap nu t) s 0 - dealt (lackOf gap nu t) s (s - 1) < 2 := by
      unfold dealt
      split <;> split <;> omega
    rw [decide_eq_true c6, nxt_is h, es]
    rfl
  · rw [if_pos (show decide (lackOf gap nu t ≤ 0) = true by rw [decide_eq_true_eq]; omega), (blk_no h).1, (blk_no h).2]
    rfl
/-! all asks -/
theorem told_ok {rs : List Rz} (name : Str) (hl : rs.length ≤ 1000) : m__law_told rs name = some ((rs.filter fun r => decide (r.1 = name)).map fun r => (r.2.1, r.2.2.1, ())) := by
  unfold m__law_told
  rw [lcM_len (by omega)]
  have e := lcGo_if (c := fun r : Rz => match r with | (told_here_282, number_283, cells_284, _) => (some (decide (told_here_282 = name)))) (f := fun r : Rz => match r with | (told_here_282, number_283, cells_284, _) => some ((number_283, cells_284, ()) : Int × Int × Unit)) (fun r => decide (r.1 = name)) (fun r => (r.2.1, r.2.2.1, ())) (xs := rs) (fun _ _ => rfl) (fun _ _ _ => rfl)
  rw [e, bs]
theorem forC_ix2 {β Sx R : Type} {f : β → Sx → Option (Ctl Sx R)} {xs : List β} (P : Nat → Sx → Prop) {s : Sx} (h0 : P 0 s) (step : ∀ (i : Nat) (x : β) s, xs[i]? = some x → P i s → ∃ s', f x s = some (.nx s') ∧ P (i + 1) s') : ∃ s', forC f xs s = some (.nx s') ∧ P xs.length s' :=
  forC_ix P h0 fun i hi s hs => step i xs[i] s (List.getElem?_eq_getElem hi) hs
theorem inner_ok {many : Nat} (hm : many ≤ 12) {gap : Int} (hg : 0 ≤ gap) (hg2 : gap ≤ 100000) {t : Sk} (ht : AskOk many (back t)) {nu : List Int} (hnu : NumOk many nu) {asks : List Ask} (hnd : (asks.map (·.1)).Nodup) (hmem : back t ∈ asks)
    {rs : List Rz} (hrs : rs.length ≤ 1000) (hf : (rs.filter fun r => decide (r.1 = t.2.1)) = blk gap nu t) : forC (m_law_L3 gap rs t.2.1) asks nu = some (.nx (nxt gap nu t)) := by
  obtain ⟨k, hk⟩ := List.getElem?_of_mem hmem
  have hkl := (List.getElem?_eq_some_iff.mp hk).1
  obtain ⟨nu', e, h⟩ := forC_ix2 (f := m_law_L3 gap rs t.2.1) (xs := asks) (fun i nu' => nu' = if k < i then nxt gap nu t else nu) (s := nu) (by rw [if_neg (Nat.not_lt_zero _)]) (fun i a nu' ha h => by
    subst h
    by_cases e : i = k
    · subst e
      rw [hk] at ha
      cases ha
      rw [if_neg (Nat.lt_irrefl _)]
      refine ⟨nxt gap nu t, ?_, by rw [if_pos (Nat.lt_succ_self _)]⟩
      unfold m_law_L3
      simp only
      rw [show (back t).1 = t.2.1 from rfl, decide_eq_true rfl, if_pos rfl, told_ok _ hrs, bs, hf, ask_right_ok hm hg hg2 ht hnu]
      rfl
    · have hne : ¬ a.1 = t.2.1 := fun z => by
        have hi := (List.getElem?_eq_some_iff.mp ha).1
        refine e ((List.getElem?_inj (by rw [List.length_map]; exact hi) hnd).mp ?_)
        rw [List.getElem?_map, List.getElem?_map, ha, hk]
        exact congrArg some z
      refine ⟨if k < i then nxt gap nu t else nu, ?_, ?_⟩
      · unfold m_law_L3
        rw [decide_eq_false hne]
        rfl
      · by_cases q : k < i
        · rw [if_pos q, if_pos (by omega)]
        · rw [if_neg q, if_neg (by omega)])
  rw [e, h, if_pos hkl]
theorem outer_ok {many : Nat} (hm : many ≤ 12) {gap : Int} (hg : 0 ≤ gap) (hg2 : gap ≤ 100000) {asks : List Ask} (hnd : (asks.map (·.1)).Nodup) : ∀ {ts : List Sk} {nu : List Int} {pre : List Rz}, (∀ t ∈ ts, AskOk many (back t)) → NumOk many nu → (∀ t ∈ ts, back t ∈ asks) → (ts.map (·.2.1)).Nodup → (pre ++ allb gap ts nu).length ≤ 1000 → (∀ r ∈ pre, ∀ t ∈ ts, r.1 ≠ t.2.1) →
    forC (m_law_L2 gap asks (pre ++ allb gap ts nu)) (ts.map pairOf) nu = some (.nx (nums gap ts nu))
  | [], nu, pre, _, _, _, _, _, _ => rfl
  | t :: ts, nu, pre, ht, hnu, hmem, hd, hl, hpre => by
    rw [List.map_cons, List.nodup_cons] at hd
    have h1 := nxt_ok (gap := gap) (ht t List.mem_cons_self) hnu
    have ea : allb gap (t :: ts) nu = blk gap nu t ++ allb gap ts (nxt gap nu t) := rfl
    have hne : ∀ u ∈ ts, t.2.1 ≠ u.2.1 := fun u hu z => hd.1 (List.mem_map.mpr ⟨u, hu, z.symm⟩)
    have hf : ((pre ++ allb gap (t :: ts) nu).filter fun r => decide (r.1 = t.2.1)) = blk gap nu t := by
      rw [ea, List.filter_append, List.filter_append]
      have q1 : (pre.filter fun r => decide (r.1 = t.2.1)) = [] := List.filter_eq_nil_iff.mpr fun r hr => by simpa using hpre r hr t List.mem_cons_self
      have q2 : ((blk gap nu t).filter fun r => decide (r.1 = t.2.1)) = blk gap nu t := List.filter_eq_self.mpr fun r hr => decide_eq_true (blk_nm hr)
      have q3 : ((allb gap ts (nxt gap nu t)).filter fun r => decide (r.1 = t.2.1)) = [] := List.filter_eq_nil_iff.mpr fun r hr => by
        obtain ⟨u, hu, e⟩ := allb_nm hr
        have := hne u hu
        rw [decide_eq_true_eq, e]
        exact fun z => this z.symm
      rw [q1, q2, q3, List.append_nil]
      rfl
    have hi := inner_ok hm hg hg2 (ht t List.mem_cons_self) hnu hnd (hmem t List.mem_cons_self) hl hf
    rw [List.map_cons, forC_cons (s' := nxt gap nu t)]
    · have e9 : pre ++ allb gap (t :: ts) nu = (pre ++ blk gap nu t) ++ allb gap ts (nxt gap nu t) := by rw [ea, List.append_assoc]
      rw [e9] at hl ⊢
      refine outer_ok hm hg hg2 hnd (fun u hu => ht u (List.mem_cons_of_mem _ hu)) h1 (fun u hu => hmem u (List.mem_cons_of_mem _ hu)) hd.2 hl fun r hr u hu => ?_
      rcases List.mem_append.mp hr with hr | hr
      · exact hpre r hr u (List.mem_cons_of_mem _ hu)
      · rw [blk_nm hr]
        exact hne u hu
    · unfold m_law_L2 pairOf
      simp only
      rw [hi]
      rfl
/-! orders -/
theorem leD_pre {t u : Sk} (h : leD t u = true) : leD (pairOf t) (pairOf u) = true := by
  have h : (!PySem.W.dataLt (.tuple [.int u.1, .str u.2.1, .int u.2.2.1, .int u.2.2.2.1]) (.tuple [.int t.1, .str t.2.1, .int t.2.2.1, .int t.2.2.2.1])) = true := h
  show (!PySem.W.dataLt (.tuple [.int u.1, .str u.2.1]) (.tuple [.int t.1, .str t.2.1])) = true
  rw [PySem.W.dataLt_tuple, PySem.W.dataLt_cons rfl, PySem.W.dataLt_cons rfl] at h
  rw [PySem.W.dataLt_pair rfl rfl]
  by_cases e1 : PyData.eqv (.int u.1) (.int t.1) = true
  · rw [if_pos e1] at h ⊢
    by_cases e2 : PyData.eqv (.str u.2.1) (.str t.2.1) = true
    · rw [if_pos e2]
      rfl
    · rw [if_neg e2] at h ⊢
      exact h
  · rw [if_neg e1] at h ⊢
    exact h
abbrev Ky2 := Pr × Int × Unit
theorem leD_key {p q : Pr} {x y : Int} (h : leD p q = true) (hx : p = q → x ≤ y) : leD ((p, x, ()) : Ky2) (q, y, ()) = true := by
  show (!PySem.W.dataLt (.tuple [Pd.toD q, .int y]) (.tuple [Pd.toD p, .int x])) = true
  rw [PySem.W.dataLt_pair (Al.al q p) rfl]
  by_cases e : PyData.eqv (Pd.toD q) (Pd.toD p) = true
  · rw [if_pos e]
    have := hx ((Pd.eqd q p).mp e).symm
    by_cases e2 : PyData.eqv (.int y) (.int x) = true
    · rw [if_pos e2]
      rfl
    · rw [if_neg e2, PySem.W.dataLt_int, decide_eq_false (by omega)]
      rfl
  · rw [if_neg e]
    exact h
theorem keys_pw {gap : Int} {O : Str → Pr} : ∀ {ts : List Sk} {nu : List Int}, ts.Pairwise (fun t u => leD (pairOf t) (pairOf u) = true) → (ts.map (·.2.1)).Nodup → (∀ t ∈ ts, O t.2.1 = pairOf t) → (allb gap ts nu).Pairwise fun r r' => leD ((O r.1, r.2.1, ()) : Ky2) (O r'.1, r'.2.1, ()) = true
  | [], _, _, _, _ => List.Pairwise.nil
  | t :: ts, nu, hp, hd, ho => by
    rw [List.pairwise_cons] at hp
    rw [List.map_cons, List.nodup_cons] at hd
    show (blk gap nu t ++ allb gap ts (nxt gap nu t)).Pairwise _
    rw [List.pairwise_append]
    refine ⟨?_, keys_pw hp.2 hd.2 fun u hu => ho u (List.mem_cons_of_mem _ hu), fun r hr r' hr' => ?_⟩
    · by_cases h : 0 < lackOf gap nu t
      · rw [blk_is h, List.pairwise_map]
        have hpw : (enumI (cells (lackOf gap nu t) t.1.toNat)).Pairwise fun a b => a.1 ≤ b.1 := by
          rw [List.pairwise_iff_getElem]
          intro i j hi hj hij
          rw [cells_at, cells_at]
          show (i : Int) ≤ (j : Int)
          omega
        refine (hpw.filter _).imp fun {a b} hab => leD_key (leD_refl _) fun _ => ?_
        show t.2.2.1 + a.1 ≤ t.2.2.1 + b.1
        omega
      · rw [(blk_no h).1]
        exact List.Pairwise.nil
    · obtain ⟨u, hu, e⟩ := allb_nm hr'
      rw [blk_nm hr, e, ho t List.mem_cons_self, ho u (List.mem_cons_of_mem _ hu)]
      refine leD_key (hp.1 u hu) fun z => ?_
      have : t.2.1 = u.2.1 := congrArg (·.2.1) z
      exact absurd (List.mem_map.mpr ⟨u, hu, this.symm⟩) hd.1
theorem order_ok {asks : List Ask} (hnd : (asks.map (·.1)).Nodup) (hl : asks.length ≤ 1000) : ∃ d : Dc Str Pr, forS m__law_in_order_L1 asks (Dc.mk []) = some d ∧ ∀ a ∈ asks, getD d.l a.1 = some (a.2.2.1, a.1, ()) := by
  obtain ⟨d, e, h1, h2⟩ := forS_ix (f := m__law_in_order_L1) (xs := asks) (fun i (d : Dc Str Pr) => d.l.length ≤ i ∧ ∀ j a, j < i → asks[j]? = some a → getD d.l a.1 = some (a.2.2.1, a.1, ())) (s := Dc.mk []) ⟨Nat.le_refl _, fun j a h => absurd h (Nat.not_lt_zero _)⟩ (fun i hi d hd => by
    have ha : asks[i]? = some asks[i] := List.getElem?_eq_getElem hi
    generalize asks[i] = a at ha
    refine ⟨⟨putD d.l a.1 (a.2.2.1, a.1, ())⟩, ?_, ?_, fun j b hj hb => ?_⟩
    · unfold m__law_in_order_L1
      obtain ⟨n, f, s, m, u⟩ := a
      simp only
      rw [putO_ok (by have := hd.1; omega)]
      rfl
    · have := len_put d.l a.1 (a.2.2.1, a.1, ())
      have := hd.1
      show (putD _ _ _).length ≤ _
      omega
    · show getD (putD _ _ _) _ = _
      rw [getD_put]
      by_cases e : b.1 = a.1
      · have hb1 := (List.getElem?_eq_some_iff.mp hb).1
        have : j = i := (List.getElem?_inj (by rw [List.length_map]; exact hb1) hnd).mp (by
          rw [List.getElem?_map, List.getElem?_map, hb, ha]
          exact congrArg some e)
        subst this
        rw [ha] at hb
        cases hb
        rw [if_pos rfl]
      · rw [if_neg e]
        refine hd.2 j b ?_ hb
        have : j ≠ i := fun z => by
          subst z
          rw [ha] at hb
          cases hb
          exact e rfl
        omega)
  exact ⟨d, e, fun a ha => by
    obtain ⟨j, hj⟩ := List.getElem?_of_mem ha
    exact h2 j a (List.getElem?_eq_some_iff.mp hj).1 hj⟩
theorem ts_back {asks : List Ask} {t : Sk} (h : t ∈ srtD (sev asks)) : back t ∈ asks ∧ 1 < t.1 := by
  have h := (srtD_perm _).mem_iff.mp h
  unfold sev at h
  obtain ⟨a, h1, rfl⟩ := List.mem_map.mp h
  obtain ⟨h1, h2⟩ := List.mem_filter.mp h1
  exact ⟨h1, of_decide_eq_true h2⟩
theorem okKey {k : Ky2} (h : PyData.strOk k.1.2.1 = true) : okD k = true := by
  show PyData.canLay0 (.tuple [.tuple [.int k.1.1, .str k.1.2.1], .int k.2.1]) = true
  simp only [PyData.canLay0, PyData.canLayAll0, h, Bool.and_self]
theorem in_order_ok {many : Nat} {gap : Int} {asks : List Ask} (ha : ∀ a ∈ asks, AskOk many a) (hnd : (asks.map (·.1)).Nodup) (hl : asks.length ≤ 100) {nu : List Int} (hts : ((srtD (sev asks)).map (·.2.1)).Nodup) (hr : (allb gap (srtD (sev asks)) nu).length ≤ 1000) :
    m__law_in_order (allb gap (srtD (sev asks)) nu) asks = some true := by
  obtain ⟨d, e, hd⟩ := order_ok hnd (by omega)
  have hb : ∀ t ∈ srtD (sev asks), getD d.l t.2.1 = some (pairOf t) := fun t ht => hd (back t) (ts_back ht).1
  have hrr : ∀ r ∈ allb gap (srtD (sev asks)) nu, ∃ t ∈ srtD (sev asks), r.1 = t.2.1 := fun r hr => allb_nm hr
  unfold m__law_in_order
  rw [e]
  simp only [bs]
  rw [lcM_all (f := fun r : Rz => match r with | (name_343, number_344, cells_345, _) => (((if (getD d.l name_343).isSome = true then ((getD d.l name_343).bind fun i_347 => some (decide ((1 : Int) < i_347.1))) else some false)).bind fun b_348 => some b_348)) (fun _ => true) (by omega) (fun r hr => by
    obtain ⟨t, ht, er⟩ := hrr r hr
    obtain ⟨n, x, c, u⟩ := r
    have er : n = t.2.1 := er
    subst er
    simp only
    rw [hb t ht]
    simp only [Option.isSome_some, if_true, bs]
    have := (ts_back ht).2
    rw [show (pairOf t).1 = t.1 from rfl, decide_eq_true this])]
  simp only [bs]
  rw [if_neg (by
    rw [Bool.not_eq_true', Bool.not_eq_false, List.all_eq_true]
    intro b hb
    obtain ⟨_, _, rfl⟩ := List.mem_map.mp hb
    rfl)]
  rw [lcM_all (f := fun r : Rz => match r with | (name_351, number_352, cells_353, _) => ((getD d.l name_351).bind fun i_355 => some ((i_355, number_352, ()) : Ky2))) (fun r => (((getD d.l r.1).getD default, r.2.1, ()) : Ky2)) (by omega) (fun r hr => by
    obtain ⟨t, ht, er⟩ := hrr r hr
    obtain ⟨n, x, c, u⟩ := r
    have er : n = t.2.1 := er
    subst er
    simp only
    rw [hb t ht]
    rfl)]
  simp only [bs]
  have pw : (srtD (sev asks)).Pairwise (fun t u => leD (pairOf t) (pairOf u) = true) := (srtD_pw _).imp fun h => leD_pre h
  have kp := keys_pw (gap := gap) (O := fun n => (getD d.l n).getD default) (nu := nu) pw hts fun t ht => by
    show (getD d.l t.2.1).getD default = _
    rw [hb t ht]
    rfl
  generalize hk : (allb gap (srtD (sev asks)) nu).map (fun r => (((getD d.l r.1).getD default, r.2.1, ()) : Ky2)) = keys
  have ks : srtD keys = keys := by
    refine (srtD_one (List.Perm.refl _) ?_).symm
    rw [← hk, List.pairwise_map]
    exact kp
  have kl : keys.length ≤ 1000 := by rw [← hk, List.length_map]; exact hr
  have esd : srtDO keys = some keys := by
    unfold srtDO
    rw [if_pos ⟨by omega, by decide⟩, ks]
  have ok : okD keys = true := okD_list fun k hk2 => by
    rw [← hk] at hk2
    obtain ⟨r, hr, rfl⟩ := List.mem_map.mp hk2
    obtain ⟨t, ht, er⟩ := hrr r hr
    refine okKey ?_
    show PyData.strOk ((getD d.l r.1).getD default).2.1 = true
    rw [er, hb t ht]
    exact (ha _ (ts_back ht).1).nm
  rw [esd]
  simp only [bs]
  rw [eqO_ok ok ok]
  simp only [bs, decide_true]
theorem pairs_ok {asks : List Ask} (hl : asks.length ≤ 100) : ((lcM (fun ask_419 : Ask => (some (decide ((1 : Int) < ask_419.2.2.1)))) (fun ask_419 : Ask => (some ((ask_419.2.2.1, ask_419.1, ()) : Pr))) asks).bind fun zs => srtDO zs) = some ((srtD (sev asks)).map pairOf) := by
  have e := lcGo_if (c := fun ask_419 : Ask => (some (decide ((1 : Int) < ask_419.2.2.1)))) (f := fun ask_419 : Ask => (some ((ask_419.2.2.1, ask_419.1, ()) : Pr))) (fun a => decide (1 < a.2.2.1)) (fun a : Ask => ((a.2.2.1, a.1, ()) : Pr)) (xs := asks) (fun _ _ => rfl) (fun _ _ _ => rfl)
  rw [lcM_len (by omega), e, bs]
  have es : (asks.filter fun a => decide (1 < a.2.2.1)).map (fun a : Ask => ((a.2.2.1, a.1, ()) : Pr)) = (sev asks).map pairOf := by
    unfold sev
    rw [List.map_map]
    rfl
  rw [es]
  unfold srtDO
  have := sev_len asks
  rw [if_pos ⟨by rw [List.length_map]; omega, by decide⟩]
  congr 1
  refine (srtD_one (((srtD_perm _)).map _) ?_).symm
  rw [List.pairwise_map]
  exact (srtD_pw _).imp fun h => leD_pre h
theorem ts_nd {asks : List Ask} (hnd : (asks.map (·.1)).Nodup) : ((srtD (sev asks)).map (·.2.1)).Nodup := by
  have p : ((srtD (sev asks)).map (·.2.1)).Perm ((sev asks).map (·.2.1)) := (srtD_perm _).map _
  rw [p.nodup_iff]
  unfold sev
  rw [List.map_map]
  exact hnd.sublist (((List.filter_sublist).map (fun a : Ask => a.1)))
/-! alone -/
theorem alone_ge (nu : List Int) (a : Ask) : Ge (alone1 nu a) nu := by
  unfold alone1
  split
  · refine ⟨List.length_set, fun j => ?_⟩
    rw [List.getD_eq_getElem?_getD, List.getD_eq_getElem?_getD]
    by_cases e : a.2.1.toNat = j
    · subst e
      by_cases h : a.2.1.toNat < nu.length
      · rw [List.getElem?_set_self h]
        have : nu.getD a.2.1.toNat 0 = (nu[a.2.1.toNat]?).getD 0 := List.getD_eq_getElem?_getD
        show _ ≤ max (nu.getD a.2.1.toNat 0) a.2.2.2.1
        omega
      · rw [List.set_eq_of_length_le (by omega)]
        exact Int.le_refl _
    · rw [List.getElem?_set_ne e]
      exact Int.le_refl _
  · exact Ge.refl _
theorem alone_fold : ∀ (asks : List Ask) (nu : List Int), Ge (asks.foldl alone1 nu) nu
  | [], nu => Ge.refl _
  | a :: r, nu => (alone_fold r _).trans (alone_ge nu a)
theorem alone_hi {many : Nat} : ∀ {asks : List Ask} {nu : List Int}, nu.length = many → (∀ a ∈ asks, AskOk many a) → ∀ a ∈ asks, a.2.2.1 = 1 → a.2.2.2.1 ≤ (asks.foldl alone1 nu).getD a.2.1.toNat 0
  | b :: r, nu, hl, hb, a, ha, h1 => by
    have hl1 : (alone1 nu b).length = many := (alone_ge nu b).1.trans hl
    rcases List.mem_cons.mp ha with rfl | ha
    · have f0 := (hb a List.mem_cons_self).f0
      have fs := (hb a List.mem_cons_self).fs
      have q := (alone_fold r (alone1 nu a)).2 a.2.1.toNat
      refine Int.le_trans ?_ q
      unfold alone1
      rw [if_pos h1, List.getD_eq_getElem?_getD, List.getElem?_set_self (by omega)]
      show a.2.2.2.1 ≤ max (nu.getD a.2.1.toNat 0) a.2.2.2.1
      omega
    · exact alone_hi hl1 (fun c hc => hb c (List.mem_cons_of_mem _ hc)) a ha h1
theorem alone_stays {nu : List Int} : ∀ {asks : List Ask}, (∀ a ∈ asks, a.2.2.1 = 1 → a.2.1.toNat < nu.length ∧ a.2.2.2.1 ≤ nu.getD a.2.1.toNat 0) → asks.foldl alone1 nu = nu
  | [], _ => rfl
  | a :: r, h => by
    rw [List.foldl_cons]
    have e : alone1 nu a = nu := by
      unfold alone1
      split
      · rename_i h1
        obtain ⟨q1, q2⟩ := h a List.mem_cons_self h1
        rw [show max (nu.getD a.2.1.toNat 0) a.2.2.2.1 = nu.getD a.2.1.toNat 0 + 0 by omega]
        exact set_same q1
      · rfl
    rw [e]
    exact alone_stays fun b hb => h b (List.mem_cons_of_mem _ hb)
theorem raise_stays {gap : Int} {nu : List Int} : ∀ {ts : List Sk} {ra : List Rz}, (∀ t ∈ ts, lackOf gap nu t ≤ 0) → ts.foldl (raise1 gap) (ra, nu) = (ra, nu)
  | [], _, _ => rfl
  | t :: ts, ra, h => by
    rw [List.foldl_cons]
    have e : raise1 gap (ra, nu) t = (ra, nu) := by
      unfold raise1
      rw [if_neg (by have := h t List.mem_cons_self; show ¬ 0 < lackOf gap nu t; omega)]
    rw [e]
    exact raise_stays fun u hu => h u (List.mem_cons_of_mem _ hu)
theorem okPair {a : List Int} {b : List Rz} (h1 : okD a = true) (h2 : okD b = true) : okD ((a, b, ()) : List Int × List Rz × Unit) = true := by
  show PyData.canLay0 (.tuple [Pd.toD a, Pd.toD b]) = true
  have h1 : PyData.canLay0 (Pd.toD a) = true := h1
  have h2 : PyData.canLay0 (Pd.toD b) = true := h2
  rw [PyData.canLay0]
  simp only [PyData.canLayAll0, h1, h2, Bool.and_self]
theorem okInts (xs : List Int) : okD xs = true := okD_list fun x _ => rfl
theorem law_main (ns : List Int) (hl : ns.length ≤ 63) : m_law (Fz.mk ns) = some true := by
  obtain ⟨st0, e0, g0⟩ := stream_ok hl
  obtain ⟨m1, st1, e1, m0, mh, g1⟩ := take_ok g0 (many := 12) (by omega) (by omega)
  obtain ⟨w, st2, e2, w0, w1, g2⟩ := take_ok g1 (many := 2) (by omega) (by omega)
  unfold m_law
  simp only [e0, e1, e2, bs]
  rw [pick2 _ _ w0 w1]
  simp only [bs]
  generalize htop : (if w = 0 then (61 : Int) else 1000000 + 1) = top
  have ht0 : 0 < top := by rw [← htop]; split <;> omega
  have ht1 : top ≤ 1000001 := by rw [← htop]; split <;> omega
  obtain ⟨many, em⟩ := Int.eq_ofNat_of_zero_le (show 0 ≤ 1 + m1 by omega)
  rw [em, rngO_ok (by omega) (by omega) (by omega) (by omega)]
  simp only [bs]
  obtain ⟨floor, st3, e3, g3, fl, f0⟩ := lcS_inv (f := fun (k_363 : Int) st_365 => ((m__law_take st_365 (2 : Int)).bind fun x => match x with | (r_367, stream_here_368) => (atI ([(9 : Int), top] : List Int) r_367).bind fun i_369 => (m__law_take stream_here_368 i_369).bind fun x => match x with | (r_370, stream_here_371) => some (r_370, stream_here_371))) (xs := irange 0 (many : Int)) (s := st2) Good (fun z => 0 ≤ z) (fun k s hs => by
    obtain ⟨a, s1, h1, a0, a1, q1⟩ := take_ok hs (many := 2) (by omega) (by omega)
    obtain ⟨b, s2, h2, b0, b1, q2⟩ := take_ok q1 (many := if a = 0 then 9 else top) (by split <;> omega) (by split <;> omega)
    refine ⟨b, s2, ?_, q2, b0⟩
    simp only [h1, bs]
    rw [pick2 _ _ a0 a1]
    simp only [bs, h2]) (by rw [irange_len]; omega) g2
  rw [e3]
  simp only [bs]
  rw [irange_len, show ((many : Int) - 0).toNat = many by omega] at fl
  have hf : NumOk many floor := ⟨fl, f0⟩
  obtain ⟨v, st4, e4, v0, v1, g4⟩ := take_ok g3 (many := 2) (by omega) (by omega)
  rw [e4]
  simp only [bs]
  rw [pick2 _ _ v0 v1]
  simp only [bs]
  obtain ⟨gap, st5, e5, gp0, gp1, g5⟩ := take_ok g4 (many := if v = 0 then 5 else 1001) (by split <;> omega) (by split <;> omega)
  have gp2 : gap ≤ 100000 := by split at gp1 <;> omega
  rw [e5]
  simp only [bs]
  obtain ⟨nn, st6, e6, nn0, nn1, g6⟩ := take_ok g5 (many := 11) (by omega) (by omega)
  obtain ⟨nms, st7, e7, g7, nl, nok, nnd⟩ := names_ok g6 nn0 (by omega)
  obtain ⟨asks, st8, e8, g8, al, aok, anm⟩ := asks_ok g7 (many := many) (top := top) (ns := nms) (by omega) (by omega) ht0 (by omega) nok (by omega)
  rw [e6]
  simp only [bs, e7, e8]
  have hnd : (asks.map (·.1)).Nodup := by rw [anm]; exact nnd
  obtain ⟨r1, r2⟩ := raise_tracks_ok (many := many) (by omega) gp0 gp2 hf aok (by omega) (many : Int)
  rw [r1]
  obtain ⟨a1, a2⟩ := alone_ok hf aok
  have es : raisedAll gap floor asks = (allb gap (srtD (sev asks)) (asks.foldl alone1 floor), nums gap (srtD (sev asks)) (asks.foldl alone1 floor)) := by
    unfold raisedAll
    rw [fold_split, List.nil_append]
  have tok : ∀ t ∈ srtD (sev asks), AskOk many (back t) := fun t ht => sev_mem aok ht
  have hlen := r2.len
  rw [es] at hlen r2 ⊢
  have hlen : (allb gap (srtD (sev asks)) (asks.foldl alone1 floor)).length ≤ 12 * 40 := hlen
  simp only [bs]
  have eL1 : m_law_L1 = m_alone_raised_L1 := rfl
  rw [eL1, a1]
  simp only [bs]
  rw [in_order_ok aok hnd (by omega) (ts_nd hnd) (by omega)]
  simp only [bs, Bool.not_true, Bool.false_eq_true, if_false]
  have hp := pairs_ok (asks := asks) (by omega)
  obtain ⟨zs, hz1, hz2⟩ := bind_some hp
  rw [hz1]
  simp only [bs]
  rw [hz2]
  simp only [bs]
  have ho := outer_ok (many := many) (by omega) gp0 gp2 hnd (ts := srtD (sev asks)) (nu := asks.foldl alone1 floor) (pre := []) tok a2 (fun t ht => (ts_back ht).1) (ts_nd hnd) (by rw [List.nil_append]; omega) (fun r hr => nomatch hr)
  rw [List.nil_append] at ho
  rw [ho]
  simp only [bs]
  obtain ⟨n1, n2⟩ := nums_ok (gap := gap) tok a2
  have hend := lack_end (gap := gap) tok a2
  generalize hN : nums gap (srtD (sev asks)) (asks.foldl alone1 floor) = N at *
  have hone : ∀ a ∈ asks, a.2.2.1 = 1 → a.2.1.toNat < N.length ∧ a.2.2.2.1 ≤ N.getD a.2.1.toNat 0 := fun a ha h1 => by
    have o := aok a ha
    have f0 := o.f0
    have fs := o.fs
    refine ⟨by rw [n1.len]; omega, Int.le_trans (alone_hi fl aok a ha h1) (n2.2 _)⟩
  rw [forC_all fun a ha => by
    have o := aok a ha
    have f0 := o.f0
    have fs := o.fs
    have s1 := o.s1
    have hsum : a.2.2.2.1 ≤ (cut N (some a.2.1) (some (a.2.1 + a.2.2.1))).sum + gap * (a.2.2.1 - 1) := by
      by_cases h1 : a.2.2.1 = 1
      · obtain ⟨q1, q2⟩ := hone a ha h1
        obtain ⟨fi, ef⟩ := Int.eq_ofNat_of_zero_le f0
        rw [h1, ef, show ((fi : Int) + 1) = ((fi : Int) + ((1 : Nat) : Int)) from rfl, cut_mid N fi 1 (by omega)]
        rw [ef] at q2
        have : (N.drop fi).take 1 = [N.getD fi 0] := by
          rw [ef] at q1
          have q1 : fi < N.length := q1
          rw [List.drop_eq_getElem_cons q1, List.getD_eq_getElem?_getD, List.getElem?_eq_getElem q1]
          rfl
        rw [this]
        have q2 : a.2.2.2.1 ≤ N.getD fi 0 := q2
        rw [List.sum_cons, List.sum_nil]
        omega
      · have hm : ((a.2.2.1, a.1, a.2.1, a.2.2.2.1, ()) : Sk) ∈ srtD (sev asks) := by
          refine (srtD_perm _).mem_iff.mpr ?_
          unfold sev
          exact List.mem_map.mpr ⟨a, List.mem_filter.mpr ⟨ha, decide_eq_true (by omega)⟩, rfl⟩
        have q := hend _ hm
        unfold lackOf at q
        simp only at q
        omega
    obtain ⟨n, f, s, m, u⟩ := a
    unfold m_law_L4
    simp only at hsum f0 fs s1 ⊢
    rw [mulO_ok (by omega) (by omega)]
    simp only [bs]
    rw [if_neg (by rw [decide_eq_true_eq]; omega)]]
  simp only [bs, decide_true, if_true]
  obtain ⟨q1, _⟩ := raise_tracks_ok (many := many) (by omega) gp0 gp2 (floor := N) n1 aok (by omega) (many : Int)
  have q2 : raisedAll gap N asks = ([], N) := by
    unfold raisedAll
    rw [alone_stays hone, raise_stays hend]
  rw [q2] at q1
  rw [q1]
  simp only [bs]
  have ok3 : okD ((N, ([] : List Rz), ()) : List Int × List Rz × Unit) = true := okPair (okInts _) rfl
  rw [eqO_ok ok3 ok3]
  simp only [bs, decide_true]
end Wk32
set_option synthInstance.maxHeartbeats 400000
set_option synthInstance.maxSize 2000
open PySem PySem.W PyProof.Rows in
set_option maxRecDepth 100000 in
set_option maxHeartbeats 0 in
theorem PySem.Challenge.cw_boxgalley_k32_whole_raises_add_up_holds : PySem.Challenge.rw_boxgalley_k32_whole_raises_add_up.Holds := by
  w_on; o_law; k_head; (case hw => w_witness2)
  k_fill
  refine L2.walk_of (l := PySem.Challenge.rw_boxgalley_k32_whole_raises_add_up) (n := 63) (k := 4) (x := "_law_script") (CX := fun _ => L2.CX0) (sp := fun w => Wk32.spLaw _) rfl (by decide) rfl ⟨rfl, by decide, by decide⟩ (fun w h Y => PySem.W.kIn_of Y) ?F (fun _ _ a ns hl _ hS => ⟨a, ns, rfl, hS, hl, fun _ => rfl⟩) (fun _ _ _ _ _ h => h)
  case F =>
    intro w mg fa h KX G hmg
    refine' Wk32.all_mk Wk32.law_main KX G hmg ?a_deal ?l_deal ?c_deal ?k_deal ?a_gaps_in ?l_gaps_in ?c_gaps_in ?k_gaps_in ?a_track_name ?l_track_name ?c_track_name ?k_track_name ?a_track_weights ?l_track_weights ?c_track_weights ?k_track_weights ?a_alone_raised ?l_alone_raised ?c_alone_raised ?k_alone_raised ?a_in_order ?l_in_order ?c_in_order ?k_in_order ?a_lack_of ?l_lack_of ?c_lack_of ?k_lack_of ?a_raise_tracks ?l_raise_tracks ?c_raise_tracks ?k_raise_tracks ?a__law_stream ?l__law_stream ?c__law_stream ?k__law_stream ?a__law_take ?l__law_take ?c__law_take ?k__law_take ?a__law_names ?l__law_names ?c__law_names ?k__law_names ?a__law_asks ?l__law_asks ?c__law_asks ?k__law_asks ?a__law_told ?l__law_told ?c__law_told ?k__law_told ?a__law_ask_right ?l__law_ask_right ?c__law_ask_right ?k__law_ask_right ?a__law_in_order ?l__law_in_order ?c__law_in_order ?k__law_in_order ?a_law ?l_law ?c_law ?k_law ?z_abs ?z_all ?z_divmod ?z_len ?z_list ?z_max ?z_range ?z_sorted ?z_str ?z_sum
    (case a_deal => k_is)
    (case l_deal => k_is)
    (case c_deal => k_is)
    (case k_deal => k_is)
    (case a_gaps_in => k_is)
    (case l_gaps_in => k_is)
    (case c_gaps_in => k_is)
    (case k_gaps_in => k_is)
    (case a_track_name => k_is)
    (case l_track_name => k_is)
    (case c_track_name => k_is)
    (case k_track_name => k_is)
    (case a_track_weights => k_is)
    (case l_track_weights => k_is)
    (case c_track_weights => k_is)
    (case k_track_weights => k_is)
    (case a_alone_raised => k_is)
    (case l_alone_raised => k_is)
    (case c_alone_raised => k_is)
    (case k_alone_raised => k_is)
    (case a_in_order => k_is)
    (case l_in_order => k_is)
    (case c_in_order => k_is)
    (case k_in_order => k_is)
    (case a_lack_of => k_is)
    (case l_lack_of => k_is)
    (case c_lack_of => k_is)
    (case k_lack_of => k_is)
    (case a_raise_tracks => k_is)
    (case l_raise_tracks => k_is)
    (case c_raise_tracks => k_is)
    (case k_raise_tracks => k_is)
    (case a__law_stream => k_is)
    (case l__law_stream => k_is)
    (case c__law_stream => k_is)
    (case k__law_stream => k_is)
    (case a__law_take => k_is)
    (case l__law_take => k_is)
    (case c__law_take => k_is)
    (case k__law_take => k_is)
    (case a__law_names => k_is)
    (case l__law_names => k_is)
    (case c__law_names => k_is)
    (case k__law_names => k_is)
    (case a__law_asks => k_is)
    (case l__law_asks => k_is)
    (case c__law_asks => k_is)
    (case k__law_asks => k_is)
    (case a__law_told => k_is)
    (case l__law_told => k_is)
    (case c__law_told => k_is)
    (case k__law_told => k_is)
    (case a__law_ask_right => k_is)
    (case l__law_ask_right => k_is)
    (case c__law_ask_right => k_is)
    (case k__law_ask_right => k_is)
    (case a__law_in_order => k_is)
    (case l__law_in_order => k_is)
    (case c__law_in_order => k_is)
    (case k__law_in_order => k_is)
    (case a_law => k_is)
    (case l_law => k_is)
    (case c_law => k_is)
    (case k_law => k_is)
    (case z_abs => k_is)
    (case z_all => k_is)
    (case z_divmod => k_is)
    (case z_len => k_is)
    (case z_list => k_is)
    (case z_max => k_is)
    (case z_range => k_is)
    (case z_sorted => k_is)
    (case z_str => k_is)
    (case z_sum => k_is)
