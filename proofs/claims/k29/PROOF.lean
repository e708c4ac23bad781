import PyProof.Rows.All
import Wide.All
import OpenK.AllK
import Wide.FinOn
import HandS.ForMost
import HandS.Evl
import HandS.Wide
import HandS.IsInst
import HandS.SortInts
import HandS.TupAny
import HandS.Dict
import KE.KDictPairs
import KE.KDictCopyH
import PySem.Challenge.RW_boxgalley_k29_cells_put
set_option Elab.async false
set_option linter.all false
set_option maxRecDepth 100000
set_option maxHeartbeats 2000000
/-! Wk: typed mirrors over the hand layer: what a value stands for, a state by slots and owned objects, one rule a construct. -/
namespace Wk
open PySem PySem.Spec L2 Evl

abbrev Fg := PySem.W.Frag
/-- v stands for a, by what is known in H -/
class Rp (α : Type) where
  rep : Fg → Hp → V → α → Prop
  mono : ∀ {K : Fg} {H H' : Hp} {v : V} {a : α}, Ex H H' → rep K H v a → rep K H' v a
/-- the places of a tuple | the arguments of a call -/
class Tp (τ : Type) where
  n : Nat
  rept : Fg → Hp → List V → τ → Prop
  len : ∀ {K : Fg} {H : Hp} {vs : List V} {t : τ}, rept K H vs t → vs.length = n
  mono : ∀ {K : Fg} {H H' : Hp} {vs : List V} {t : τ}, Ex H H' → rept K H vs t → rept K H' vs t
abbrev rep {α : Type} [Rp α] (K : Fg) (H : Hp) (v : V) (a : α) : Prop := Rp.rep K H v a
abbrev rept {τ : Type} [Tp τ] (K : Fg) (H : Hp) (vs : List V) (t : τ) : Prop := Tp.rept K H vs t
/-- what needs no heap -/
class Fl (α : Type) [Rp α] where
  toV : α → V
  iff : ∀ {K : Fg} {H : Hp} {v : V} {a : α}, Rp.rep K H v a ↔ v = toV a

inductive Nn where | nn
  deriving DecidableEq
instance rpInt : Rp Int := { rep := fun _ _ v a => v = .int a, mono := fun _ h => h }
instance : Fl Int := { toV := V.int, iff := Iff.rfl }
instance rpBool : Rp Bool := { rep := fun _ _ v a => v = .bl a, mono := fun _ h => h }
instance : Fl Bool := { toV := V.bl, iff := Iff.rfl }
instance rpStr : Rp Str := { rep := fun _ _ v a => v = .str a, mono := fun _ h => h }
instance : Fl Str := { toV := V.str, iff := Iff.rfl }
instance rpNn : Rp Nn := { rep := fun _ _ v _ => v = .non, mono := fun _ h => h }
instance : Fl Nn := { toV := fun _ => V.non, iff := Iff.rfl }
/-- None, or something -/
instance {α : Type} [Rp α] : Rp (Option α) where
  rep K H v a := match a with | none => v = .non | some x => v ≠ .non ∧ rep K H v x
  mono {K H H' v a} e h := match a, h with
    | none, h => h
    | some _, h => ⟨h.1, Rp.mono e h.2⟩

theorem paired_mono {α : Type} [Rp α] {K : Fg} {H H' : Hp} (e : Ex H H') {vs : List V} {xs : List α} (h : Paired (rep K H) vs xs) : Paired (rep K H') vs xs :=
  Paired.mapP h fun _ _ q => Rp.mono e q
/-- a list that stands exactly so -/
instance {α : Type} [Rp α] : Rp (List α) where
  rep K H v xs := ∃ p vs, v = .ref p ∧ H p = some (.lst vs) ∧ Paired (rep K H) vs xs
  mono e h := by
    obtain ⟨p, vs, h1, h2, h3⟩ := h
    exact ⟨p, vs, h1, e _ _ h2, paired_mono e h3⟩
/-- a list that is read (the script, a list of the top) -/
structure Fz (α : Type) where
  l : List α
instance {α : Type} [Rp α] : Rp (Fz α) where
  rep K H v xs := ∃ p vs, v = .ref p ∧ SqL K H p vs ∧ Paired (rep K H) vs xs.l
  mono e h := by
    obtain ⟨p, vs, h1, h2, h3⟩ := h
    exact ⟨p, vs, h1, ex_l e h2, paired_mono e h3⟩
/-- a tuple of the top -/
structure Kt (α : Type) where
  l : List α
instance {α : Type} [Rp α] : Rp (Kt α) where
  rep K H v xs := ∃ p vs, v = .ref p ∧ SqT K H p vs ∧ Paired (rep K H) vs xs.l
  mono e h := by
    obtain ⟨p, vs, h1, h2, h3⟩ := h
    exact ⟨p, vs, h1, ex_t e h2, paired_mono e h3⟩
/-- a tuple of alike things, of any length -/
structure Tu (α : Type) where
  l : List α
  deriving DecidableEq
instance {α : Type} [Rp α] : Rp (Tu α) where
  rep K H v xs := ∃ p vs, v = .ref p ∧ H p = some (.tup vs) ∧ Paired (rep K H) vs xs.l
  mono e h := by
    obtain ⟨p, vs, h1, h2, h3⟩ := h
    exact ⟨p, vs, h1, e _ _ h2, paired_mono e h3⟩
instance : Tp Unit where
  n := 0
  rept _ _ vs _ := vs = []
  len h := by rw [h]; rfl
  mono _ h := h
instance {α τ : Type} [Rp α] [Tp τ] : Tp (α × τ) where
  n := Tp.n τ + 1
  rept K H vs t := ∃ v r, vs = v :: r ∧ rep K H v t.1 ∧ rept K H r t.2
  len h := by
    obtain ⟨v, r, h1, h2, h3⟩ := h
    rw [h1, List.length_cons, Tp.len h3]
  mono e h := by
    obtain ⟨v, r, h1, h2, h3⟩ := h
    exact ⟨v, r, h1, Rp.mono e h2, Tp.mono e h3⟩
/-- a tuple: (a, (b, (c, ()))) -/
instance {α τ : Type} [Rp α] [Tp τ] : Rp (α × τ) where
  rep K H v t := ∃ p vs, v = .ref p ∧ H p = some (.tup vs) ∧ rept K H vs t
  mono e h := by
    obtain ⟨p, vs, h1, h2, h3⟩ := h
    exact ⟨p, vs, h1, e _ _ h2, Tp.mono e h3⟩

/-! ### the state -/
inductive Sl : Type 1 where
  | any
  | val (α : Type) (i : Rp α) (x : α)
  | at (p : Addr)
def sv {α : Type} [i : Rp α] (x : α) : Sl := .val α i x
def Sl.ok (K : Fg) (Kn : Hp) : Sl → Option V → Prop
  | .any, _ => True
  | .val _ i x, o => ∃ v, o = some v ∧ i.rep K Kn v x
  | .at p, o => o = some (.ref p)
def SlsOk (K : Fg) (Kn : Hp) : List Sl → St → Prop
  | [], [] => True
  | s :: ss, o :: os => s.ok K Kn o ∧ SlsOk K Kn ss os
  | _, _ => False
theorem Sl.ok_mono {K : Fg} {H H' : Hp} (e : Ex H H') : ∀ {s : Sl} {o : Option V}, s.ok K H o → s.ok K H' o
  | .any, _, _ => trivial
  | .val _ i _, _, ⟨v, h1, h2⟩ => ⟨v, h1, i.mono e h2⟩
  | .at _, _, h => h
theorem SlsOk.mono {K : Fg} {H H' : Hp} (e : Ex H H') : ∀ {ss : List Sl} {σ : St}, SlsOk K H ss σ → SlsOk K H' ss σ
  | [], [], _ => trivial
  | _ :: _, _ :: _, h => ⟨Sl.ok_mono e h.1, SlsOk.mono e h.2⟩
theorem SlsOk.get {K : Fg} {H : Hp} : ∀ {ss : List Sl} {σ : St} {i : Nat} {s : Sl}, SlsOk K H ss σ → ss[i]? = some s → ∃ o, σ[i]? = some o ∧ s.ok K H o
  | _ :: _, o :: _, 0, _, h, e => by
    cases Option.some.inj e
    exact ⟨o, rfl, h.1⟩
  | _ :: ss, _ :: os, i + 1, s, h, e => SlsOk.get (ss := ss) (σ := os) (i := i) h.2 e
theorem SlsOk.set {K : Fg} {H : Hp} {s : Sl} {o : Option V} (hs : s.ok K H o) : ∀ {ss : List Sl} {σ : St} (i : Nat), SlsOk K H ss σ → SlsOk K H (ss.set i s) (σ.set i o)
  | [], [], _, _ => trivial
  | _ :: _, _ :: _, 0, h => ⟨hs, h.2⟩
  | _ :: _, _ :: _, i + 1, h => ⟨h.1, SlsOk.set hs i h.2⟩
/-- less is known -/
inductive SlLe : List Sl → List Sl → Prop
  | nil : SlLe [] []
  | keep {s : Sl} {a b : List Sl} : SlLe a b → SlLe (s :: a) (s :: b)
  | drop {s : Sl} {a b : List Sl} : SlLe a b → SlLe (s :: a) (.any :: b)
theorem SlLe.refl : ∀ (a : List Sl), SlLe a a
  | [] => .nil
  | _ :: r => .keep (SlLe.refl r)
theorem SlsOk.le {K : Fg} {H : Hp} : ∀ {a b : List Sl} {σ : St}, SlLe a b → SlsOk K H a σ → SlsOk K H b σ
  | _, _, [], .nil, _ => trivial
  | _, _, _ :: _, .keep l, h => ⟨h.1, SlsOk.le l h.2⟩
  | _, _, _ :: _, .drop l, h => ⟨trivial, SlsOk.le l h.2⟩

/-- what an object stands for, by what is known in H -/
class Ob (γ : Type) where
  ob : Fg → Hp → HO → γ → Prop
  mono : ∀ {K : Fg} {H H' : Hp} {o : HO} {x : γ}, Ex H H' → ob K H o x → ob K H' o x
/-- an object of one's own, that may change -/
inductive Ow : Type 1 where
  | lst (p : Addr) (α : Type) (i : Rp α) (xs : List α)
  | obj (p : Addr) (γ : Type) (i : Ob γ) (x : γ)
def oo {γ : Type} [i : Ob γ] (p : Addr) (x : γ) : Ow := .obj p γ i x
def ol {α : Type} [i : Rp α] (p : Addr) (xs : List α) : Ow := .lst p α i xs
def Ow.ad : Ow → Addr
  | .lst p _ _ _ => p
  | .obj p _ _ _ => p
def Ow.ok (K : Fg) (Kn H : Hp) : Ow → Prop
  | .lst p _ i xs => ∃ vs, H p = some (.lst vs) ∧ Paired (i.rep K Kn) vs xs
  | .obj p _ i x => ∃ o, H p = some o ∧ i.ob K Kn o x
theorem Ow.ok_mono {K : Fg} {Kn Kn' H H' : Hp} (e : Ex Kn Kn') : ∀ {o : Ow}, H' o.ad = H o.ad → o.ok K Kn H → o.ok K Kn' H'
  | .lst _ _ i _, eh, ⟨vs, h1, h2⟩ => ⟨vs, eh.trans h1, Paired.mapP h2 fun _ _ q => i.mono e q⟩
  | .obj _ _ i _, eh, ⟨o, h1, h2⟩ => ⟨o, eh.trans h1, i.mono e h2⟩
theorem ne_none_of {H : Hp} {p : Addr} {o : HO} (h : H p = some o) : H p ≠ none := fun z => by
  rw [h] at z
  cases z
theorem Ow.there {K : Fg} {Kn H : Hp} : ∀ {o : Ow}, o.ok K Kn H → H o.ad ≠ none
  | .lst p _ _ _, h => by
    obtain ⟨vs, h, _⟩ := h
    exact ne_none_of (show H p = some (.lst vs) from h)
  | .obj p _ _ _, h => by
    obtain ⟨o, h, _⟩ := h
    exact ne_none_of (show H p = some o from h)
structure OwsOk (K : Fg) (F Kn H : Hp) (ow : List Ow) : Prop where
  each : ∀ o ∈ ow, F o.ad = none ∧ Kn o.ad = none ∧ o.ok K Kn H
  nd : (ow.map Ow.ad).Nodup

/-- the state: F stands untouched, Kn is known (by and by more), the slots, the objects of one's own -/
structure S (K : Fg) (F Kn0 : Hp) (sl : List Sl) (ow : List Ow) (σ : St) (Kn H : Hp) : Prop where
  e0 : Ex Kn0 Kn
  ek : Ex Kn H
  ef : Ex F H
  sep : ∀ p, F p ≠ none → Kn0 p = none → Kn p = none
  sl : SlsOk K Kn sl σ
  ow : OwsOk K F Kn H ow

/-- growth: nothing that stood is touched, nothing that stood unknown is known -/
structure Gr (Kn H Kn' H' : Hp) : Prop where
  kk : Ex Kn Kn'
  hh : Ex H H'
  kh : Ex Kn' H'
  sp : ∀ p, H p ≠ none → Kn p = none → Kn' p = none
theorem Gr.refl {Kn H : Hp} (e : Ex Kn H) : Gr Kn H Kn H := ⟨Ex.refl _, Ex.refl _, e, fun _ _ h => h⟩
theorem Ex.nn {H H' : Hp} (e : Ex H H') {p : Addr} (h : H p ≠ none) : H' p ≠ none := by
  cases q : H p with
  | none => exact absurd q h
  | some o => exact ne_none_of (e _ _ q)
theorem Ex.at_eq {H H' : Hp} (e : Ex H H') {p : Addr} (h : H p ≠ none) : H' p = H p := by
  cases q : H p with
  | none => exact absurd q h
  | some o => exact e _ _ q
theorem Gr.trans {Kn H Kn1 H1 Kn2 H2 : Hp} (a : Gr Kn H Kn1 H1) (b : Gr Kn1 H1 Kn2 H2) : Gr Kn H Kn2 H2 :=
  ⟨a.kk.trans b.kk, a.hh.trans b.hh, b.kh, fun p h1 h2 => b.sp p (Ex.nn a.hh h1) (a.sp p h1 h2)⟩
/-- a new object, known -/
theorem Gr.new {Kn H : Hp} {p : Addr} {o : HO} (e : Ex Kn H) (hp : H p = none) : Gr Kn H (upd Kn p o) (upd H p o) := by
  have kp : Kn p = none := fresh_back e hp
  refine ⟨Ex.new kp, Ex.new hp, fun a u h => ?_, fun q h1 h2 => ?_⟩
  · by_cases hq : a = p
    · subst hq
      rw [upd_same] at h ⊢
      exact h
    · rw [upd_ne hq] at h ⊢
      exact e _ _ h
  · have hq : q ≠ p := fun z => by
      subst z
      exact h1 hp
    rw [upd_ne hq]
    exact h2
/-- a new object, not known yet -/
theorem Gr.newU {Kn H : Hp} {p : Addr} {o : HO} (e : Ex Kn H) (hp : H p = none) : Gr Kn H Kn (upd H p o) :=
  ⟨Ex.refl _, Ex.new hp, e.trans (Ex.new hp), fun _ _ h2 => h2⟩
/-- what was new is known from now on -/
theorem Gr.know {Kn H Kn' H' : Hp} {p : Addr} {o : HO} (g : Gr Kn H Kn' H') (hp : H p = none) (kp : Kn' p = none) (hp' : H' p = some o) : Gr Kn H (upd Kn' p o) H' :=
  ⟨g.kk.trans (Ex.new kp), g.hh, fun a u h => by
    by_cases hq : a = p
    · subst hq
      rw [upd_same] at h
      rw [← h]
      exact hp'
    · rw [upd_ne hq] at h
      exact g.kh _ _ h, fun q h1 h2 => by
    have hq : q ≠ p := fun z => by
      subst z
      exact h1 hp
    rw [upd_ne hq]
    exact g.sp q h1 h2⟩

section
variable {K : Fg} {F Kn0 : Hp} {sl sl' : List Sl} {ow ow' : List Ow} {σ : St} {Kn H Kn' H' : Hp}
theorem S.grow (s : S K F Kn0 sl ow σ Kn H) (g : Gr Kn H Kn' H') : S K F Kn0 sl ow σ Kn' H' :=
  ⟨s.e0.trans g.kk, g.kh, s.ef.trans g.hh, fun p h1 h2 => g.sp p (Ex.nn s.ef h1) (s.sep p h1 h2), s.sl.mono g.kk,
    ⟨fun o ho => by
      obtain ⟨h1, h2, h3⟩ := s.ow.each o ho
      have h4 := Ow.there h3
      exact ⟨h1, g.sp _ h4 h2, Ow.ok_mono g.kk (Ex.at_eq g.hh h4) h3⟩, s.ow.nd⟩⟩
theorem S.le (s : S K F Kn0 sl ow σ Kn H) (l : SlLe sl sl') : S K F Kn0 sl' ow σ Kn H := ⟨s.e0, s.ek, s.ef, s.sep, s.sl.le l, s.ow⟩
theorem S.set (s : S K F Kn0 sl ow σ Kn H) {x : Sl} {o : Option V} (i : Nat) (h : x.ok K Kn o) : S K F Kn0 (sl.set i x) ow (σ.set i o) Kn H :=
  ⟨s.e0, s.ek, s.ef, s.sep, SlsOk.set h i s.sl, s.ow⟩
theorem S.setv (s : S K F Kn0 sl ow σ Kn H) {α : Type} [Rp α] {x : α} {v : V} (i : Nat) (h : rep K Kn v x) : S K F Kn0 (sl.set i (sv x)) ow (σ.set i (some v)) Kn H :=
  s.set i ⟨v, rfl, h⟩
/-- some objects are not named any more -/
theorem S.sub (s : S K F Kn0 sl ow σ Kn H) (l : ow'.Sublist ow) : S K F Kn0 sl ow' σ Kn H :=
  ⟨s.e0, s.ek, s.ef, s.sep, s.sl, ⟨fun o ho => s.ow.each o (l.subset ho), s.ow.nd.sublist (l.map _)⟩⟩
theorem S.fin (s : S K F Kn0 sl ow σ Kn H) : S K F Kn0 [] ow [] Kn H := ⟨s.e0, s.ek, s.ef, s.sep, trivial, s.ow⟩
end

/-! ### the judgements -/
section
variable (K : Fg) (F Kn0 : Hp) (sl : List Sl) (ow : List Ow)
def EV {α : Type} [Rp α] (te : TE) (x : α) : Prop := ∀ σ Kn H, S K F Kn0 sl ow σ Kn H → ∀ Q : VK, (∀ v Kn' H', Gr Kn H Kn' H' → rep K Kn' v x → Q v H') → te σ H Q
/-- a new list -/
def EN {α : Type} [Rp α] (te : TE) (xs : List α) : Prop := ∀ σ Kn H, S K F Kn0 sl ow σ Kn H → ∀ Q : VK,
  (∀ p ws Kn' H', Gr Kn H Kn' H' → H p = none → Kn' p = none → H' p = some (.lst ws) → Paired (rep K Kn') ws xs → Q (.ref p) H') → te σ H Q
/-- what is changed on the way is told: ow, then ow' -/
def EM {α : Type} [Rp α] (te : TE) (ow' : List Ow) (x : α) : Prop := ∀ σ Kn H, S K F Kn0 sl ow σ Kn H → ∀ Q : VK,
  (∀ v Kn' H', Ex Kn Kn' → S K F Kn0 sl ow' σ Kn' H' → rep K Kn' v x → Q v H') → te σ H Q
def ENM {α : Type} [Rp α] (te : TE) (ow' : List Ow) (xs : List α) : Prop := ∀ σ Kn H, S K F Kn0 sl ow σ Kn H → ∀ Q : VK,
  (∀ p ws Kn' H', Ex Kn Kn' → S K F Kn0 sl ow' σ Kn' H' → F p = none → Kn' p = none → (∀ o ∈ ow', o.ad ≠ p) → H' p = some (.lst ws) → Paired (rep K Kn') ws xs → Q (.ref p) H') → te σ H Q
def ET (tt : TT) (b : Bool) : Prop := ∀ σ Kn H, S K F Kn0 sl ow σ Kn H → ∀ Q : Bool → Hp → Prop, (∀ Kn' H', Gr Kn H Kn' H' → Q b H') → tt σ H Q
def EA {τ : Type} [Tp τ] (ta : TA) (t : τ) : Prop := ∀ σ Kn H, S K F Kn0 sl ow σ Kn H → ∀ Q : List V → Hp → Prop, (∀ vs Kn' H', Gr Kn H Kn' H' → rept K Kn' vs t → Q vs H') → ta σ H Q
def EAM {τ : Type} [Tp τ] (ta : TA) (ow' : List Ow) (t : τ) : Prop := ∀ σ Kn H, S K F Kn0 sl ow σ Kn H → ∀ Q : List V → Hp → Prop,
  (∀ vs Kn' H', Ex Kn Kn' → S K F Kn0 sl ow' σ Kn' H' → rept K Kn' vs t → Q vs H') → ta σ H Q
def SB (D : Ends) (ts : TS) : Prop := ∀ σ Kn H, S K F Kn0 sl ow σ Kn H → ts D σ H
/-- what is wanted of a return -/
def RT (R : VK) {α : Type} [Rp α] (x : α) : Prop := ∀ v Kn H, S K F Kn0 [] ow [] Kn H → rep K Kn v x → R v H
def RN (R : VK) {α : Type} [Rp α] (xs : List α) : Prop := ∀ p ws Kn H, S K F Kn0 [] ow [] Kn H → F p = none → Kn p = none → H p = some (.lst ws) → Paired (rep K Kn) ws xs → R (.ref p) H
end

section
variable {K : Fg} {F Kn0 : Hp} {sl sl' : List Sl} {ow ow1 ow2 : List Ow} {α β γ : Type} [Rp α] [Rp β] [Rp γ] {ta tb te : TE} {x : α} {y : β} {z : γ}
theorem EN.ev {xs : List α} (h : EN K F Kn0 sl ow te xs) : EV K F Kn0 sl ow te xs := fun σ Kn H s Q q => h σ Kn H s Q fun p ws Kn' H' g hp kp hw r =>
  q _ (upd Kn' p (.lst ws)) H' (g.know hp kp hw) ⟨p, ws, rfl, upd_same, paired_mono (Ex.new kp) r⟩
theorem EV.em (h : EV K F Kn0 sl ow te x) : EM K F Kn0 sl ow te ow x := fun σ Kn H s Q q => h σ Kn H s Q fun v Kn' H' g r => q v Kn' H' g.kk (s.grow g) r
theorem owned_ne {σ : St} {Kn H : Hp} (s : S K F Kn0 sl ow σ Kn H) {p : Addr} (hp : H p = none) : ∀ o ∈ ow, o.ad ≠ p := fun o ho z => by
  have := Ow.there (s.ow.each o ho).2.2
  rw [z] at this
  exact this hp
theorem EN.em {xs : List α} (h : EN K F Kn0 sl ow te xs) : ENM K F Kn0 sl ow te ow xs := fun σ Kn H s Q q => h σ Kn H s Q fun p ws Kn' H' g hp kp hw r =>
  q p ws Kn' H' g.kk (s.grow g) (fresh_back s.ef hp) kp (owned_ne s hp) hw r
theorem S.know {σ : St} {Kn H : Hp} (s : S K F Kn0 sl ow σ Kn H) {p : Addr} {o : HO} (fp : F p = none) (kp : Kn p = none) (no : ∀ o ∈ ow, o.ad ≠ p) (hp : H p = some o) : S K F Kn0 sl ow σ (upd Kn p o) H :=
  ⟨s.e0.trans (Ex.new kp), fun a u h => by
    by_cases hq : a = p
    · subst hq
      rw [upd_same] at h
      rw [← h]
      exact hp
    · rw [upd_ne hq] at h
      exact s.ek _ _ h, s.ef, fun q h1 h2 => by
    have hq : q ≠ p := fun z => by
      subst z
      exact h1 fp
    rw [upd_ne hq]
    exact s.sep q h1 h2, s.sl.mono (Ex.new kp), ⟨fun o ho => by
      obtain ⟨h1, h2, h3⟩ := s.ow.each o ho
      exact ⟨h1, by rw [upd_ne (no o ho)]; exact h2, Ow.ok_mono (Ex.new kp) rfl h3⟩, s.ow.nd⟩⟩
theorem ENM.em {xs : List α} (h : ENM K F Kn0 sl ow te ow1 xs) : EM K F Kn0 sl ow te ow1 xs := fun σ Kn H s Q q => h σ Kn H s Q fun p ws Kn' H' e s' fp kp no hw r =>
  q _ (upd Kn' p (.lst ws)) H' (e.trans (Ex.new kp)) (s'.know fp kp no hw) ⟨p, ws, rfl, upd_same, paired_mono (Ex.new kp) r⟩
theorem EV.cast {x' : α} (h : EV K F Kn0 sl ow te x) (e : x = x') : EV K F Kn0 sl ow te x' := e ▸ h
theorem ET.cast {tt : TT} {b b' : Bool} (h : ET K F Kn0 sl ow tt b) (e : b = b') : ET K F Kn0 sl ow tt b' := e ▸ h
end
end Wk
/-! Wk2: rules for expressions -/
namespace Wk
open PySem PySem.Spec L2 Evl
section
variable {K : Fg} {F Kn0 : Hp} {sl sl' : List Sl} {ow ow1 ow2 : List Ow} {α β γ τ : Type} [Rp α] [Rp β] [Rp γ] [Tp τ] {ta tb te : TE} {x : α} {y : β} {z : γ}

theorem paired_fl {α : Type} [Rp α] [Fl α] {H : Hp} : ∀ {vs : List V} {xs : List α}, Paired (rep K H) vs xs → vs = xs.map Fl.toV
  | _, _, .nil => rfl
  | _, _, .cons h t => by rw [List.map_cons, ← paired_fl t, Fl.iff.mp h]
theorem fl_paired {α : Type} [Rp α] [Fl α] {H : Hp} : ∀ (xs : List α), Paired (rep K H) (xs.map Fl.toV) xs
  | [] => .nil
  | _ :: t => .cons (Fl.iff.mpr rfl) (fl_paired t)
theorem paired_len {H : Hp} {vs : List V} {xs : List α} (h : Paired (rep K H) vs xs) : vs.length = xs.length := Paired.length h
theorem paired_at {F : V → α → Prop} : ∀ {vs : List V} {xs : List α}, Paired F vs xs → ∀ {j : Nat} {a : α}, xs[j]? = some a → ∃ v, vs[j]? = some v ∧ F v a
  | _, _, .nil, _, _, e => by simp at e
  | _, _, .cons r _, 0, _, e => by
    simp at e
    subst e
    exact ⟨_, rfl, r⟩
  | _, _, .cons _ t, j + 1, a, e => by
    obtain ⟨v, h1, h2⟩ := paired_at t (j := j) (a := a) (by simpa using e)
    exact ⟨v, by simpa using h1, h2⟩
theorem paired_append {F : V → α → Prop} : ∀ {vs ws : List V} {xs ys : List α}, Paired F vs xs → Paired F ws ys → Paired F (vs ++ ws) (xs ++ ys)
  | _, _, _, _, .nil, h => h
  | _, _, _, _, .cons r t, h => .cons r (paired_append t h)
theorem paired_drop {F : V → α → Prop} : ∀ {vs : List V} {xs : List α} (n : Nat), Paired F vs xs → Paired F (vs.drop n) (xs.drop n)
  | _, _, 0, h => h
  | _, _, _ + 1, .nil => .nil
  | _, _, n + 1, .cons _ t => paired_drop n t
theorem paired_take {F : V → α → Prop} : ∀ {vs : List V} {xs : List α} (n : Nat), Paired F vs xs → Paired F (vs.take n) (xs.take n)
  | _, _, 0, _ => .nil
  | _, _, _ + 1, .nil => .nil
  | _, _, n + 1, .cons r t => .cons r (paired_take n t)
theorem paired_set {F : V → α → Prop} {v : V} {a : α} (h : F v a) : ∀ {vs : List V} {xs : List α} (n : Nat), Paired F vs xs → Paired F (vs.set n v) (xs.set n a)
  | _, _, _, .nil => .nil
  | _, _, 0, .cons _ t => .cons h t
  | _, _, n + 1, .cons r t => .cons r (paired_set h n t)
theorem paired_atI {H : Hp} {vs : List V} {xs : List α} (h : Paired (rep K H) vs xs) {i : Int} {a : α} (e : atI xs i = some a) : ∃ v, atI vs i = some v ∧ rep K H v a := by
  unfold atI at e ⊢
  rw [paired_len h]
  cases q : ixN xs.length i with
  | none => rw [q] at e; cases e
  | some j =>
    rw [q] at e
    exact paired_at h e

/-! ### results of rules by values -/
def RS (K : Fg) (Kn H : Hp) (Q : VK) (z : γ) : Prop := ∀ u Kn' H', Gr Kn H Kn' H' → rep K Kn' u z → Q u H'
def RL (K : Fg) (Kn H : Hp) (Q : VK) (zs : List γ) : Prop := ∀ p ws Kn' H', Gr Kn H Kn' H' → H p = none → Kn' p = none → H' p = some (.lst ws) → Paired (rep K Kn') ws zs → Q (.ref p) H'
theorem RS.rl {Kn H : Hp} {Q : VK} {zs : List γ} (h : RS K Kn H Q zs) : RL K Kn H Q zs := fun p ws Kn' H' g hp kp hw r =>
  h _ (upd Kn' p (.lst ws)) H' (g.know hp kp hw) ⟨p, ws, rfl, upd_same, paired_mono (Ex.new kp) r⟩
theorem RS.fl {γ : Type} [Rp γ] [Fl γ] {z : γ} {Kn H : Hp} {Q : VK} (h : RS K Kn H Q z) (e : Ex Kn H) : Q (Fl.toV z) H := h _ Kn H (Gr.refl e) (Fl.iff.mpr rfl)
theorem RS.at {Kn H : Hp} {Q : VK} {z : γ} (h : RS K Kn H Q z) (e : Ex Kn H) {v : V} (r : rep K Kn v z) : Q v H := h _ Kn H (Gr.refl e) r

def R1V (r : V → Hp → VK → Prop) (x : α) (z : γ) : Prop := ∀ (K : Fg) Kn H v, Ex Kn H → rep K Kn v x → ∀ Q, RS K Kn H Q z → r v H Q
def R2V (K : Fg) (r : R2) (x : α) (y : β) (z : γ) : Prop := ∀ Kn H v w, Ex Kn H → rep K Kn v x → rep K Kn w y → ∀ Q, RS K Kn H Q z → r v w H Q
def R2L (K : Fg) (r : R2) (x : α) (y : β) (zs : List γ) : Prop := ∀ Kn H v w, Ex Kn H → rep K Kn v x → rep K Kn w y → ∀ Q, RL K Kn H Q zs → r v w H Q
def RCV (K : Fg) (r : List V → Hp → VK → Prop) (t : τ) (z : γ) : Prop := ∀ Kn H vs, Ex Kn H → rept K Kn vs t → ∀ Q, RS K Kn H Q z → r vs H Q
def RCL (K : Fg) (r : List V → Hp → VK → Prop) (t : τ) (zs : List γ) : Prop := ∀ Kn H vs, Ex Kn H → rept K Kn vs t → ∀ Q, RL K Kn H Q zs → r vs H Q

/-! ### names, constants, operators -/
theorem ev_var {i : Nat} (h : sl[i]? = some (sv x)) : EV K F Kn0 sl ow (tVar i) x := fun σ Kn H s Q q => by
  obtain ⟨o, h1, v, h2, h3⟩ := s.sl.get h
  exact ⟨v, by rw [h1, h2], q v Kn H (Gr.refl s.ek) h3⟩
theorem ev_c {γ : Type} [Rp γ] [Fl γ] (z : γ) {v : V} (e : v = Fl.toV z := by rfl) : EV K F Kn0 sl ow (tC v) z := fun σ Kn H s Q q => q v Kn H (Gr.refl s.ek) (Fl.iff.mpr e)
theorem ev_none : EV K F Kn0 sl ow (tC .non) (none : Option α) := fun σ Kn H s Q q => q .non Kn H (Gr.refl s.ek) rfl
theorem ev_un {r : V → Hp → VK → Prop} (ha : EV K F Kn0 sl ow ta x) (hr : R1V r x z) : EV K F Kn0 sl ow (tUn r ta) z := fun σ Kn H s Q q =>
  ha σ Kn H s _ fun v Kn1 H1 g1 r1 => hr K Kn1 H1 v g1.kh r1 Q fun u Kn' H' g' r' => q u Kn' H' (g1.trans g') r'
theorem ev_op {r : R2} (ha : EV K F Kn0 sl ow ta x) (hb : EV K F Kn0 sl ow tb y) (hr : R2V K r x y z) : EV K F Kn0 sl ow (tOp r ta tb) z := fun σ Kn H s Q q =>
  ha σ Kn H s _ fun v Kn1 H1 g1 r1 => hb σ Kn1 H1 (s.grow g1) _ fun w Kn2 H2 g2 r2 => hr Kn2 H2 v w g2.kh (Rp.mono g2.kk r1) r2 Q fun u Kn' H' g' r' => q u Kn' H' ((g1.trans g2).trans g') r'
theorem en_op {r : R2} {zs : List γ} (ha : EV K F Kn0 sl ow ta x) (hb : EV K F Kn0 sl ow tb y) (hr : R2L K r x y zs) : EN K F Kn0 sl ow (tOp r ta tb) zs := fun σ Kn H s Q q =>
  ha σ Kn H s _ fun v Kn1 H1 g1 r1 => hb σ Kn1 H1 (s.grow g1) _ fun w Kn2 H2 g2 r2 => hr Kn2 H2 v w g2.kh (Rp.mono g2.kk r1) r2 Q fun p ws Kn' H' g' hp kp hw r' =>
    q p ws Kn' H' ((g1.trans g2).trans g') (fresh_back (g1.trans g2).hh hp) kp hw r'
theorem em_op {r : R2} (ha : EM K F Kn0 sl ow ta ow1 x) (hb : EM K F Kn0 sl ow1 tb ow2 y) (hr : R2V K r x y z) : EM K F Kn0 sl ow (tOp r ta tb) ow2 z := fun σ Kn H s Q q =>
  ha σ Kn H s _ fun v Kn1 H1 e1 s1 r1 => hb σ Kn1 H1 s1 _ fun w Kn2 H2 e2 s2 r2 => hr Kn2 H2 v w s2.ek (Rp.mono e2 r1) r2 Q fun u Kn' H' g' r' => q u Kn' H' ((e1.trans e2).trans g'.kk) (s2.grow g') r'
theorem r2_I0 {γ : Type} [Rp γ] [Fl γ] {z : γ} {g : Int → Int → V} {i j : Int} (e : g i j = Fl.toV z := by rfl) : R2V K (rI0 g) i j z := fun Kn H v w ek h1 h2 Q q => ⟨i, j, h1, h2, e ▸ q.fl ek⟩
theorem r2_I {γ : Type} [Rp γ] [Fl γ] {z : γ} {C : Int → Int → Prop} {g : Int → Int → V} {i j : Int} (c : C i j) (e : g i j = Fl.toV z := by rfl) : R2V K (rI C g) i j z := fun Kn H v w ek h1 h2 Q q => ⟨i, j, h1, h2, c, e ▸ q.fl ek⟩
theorem r1_neg {i : Int} : R1V (rU fun i => .int (-i)) i (-i) := fun K Kn H v ek h1 Q q => ⟨i, h1, q.fl ek⟩
theorem r2_eqI {i j : Int} : R2V K rEq i j (decide (i = j)) := fun Kn H v w ek h1 h2 Q q => by
  cases h1
  cases h2
  refine ⟨rfl, ?_⟩
  have e : decide (V.int i = V.int j) = decide (i = j) := by simp
  rw [e]
  exact q.fl ek
theorem r2_neI {i j : Int} : R2V K rNe i j (!decide (i = j)) := fun Kn H v w ek h1 h2 Q q => by
  cases h1
  cases h2
  refine ⟨rfl, ?_⟩
  have e : decide (V.int i = V.int j) = decide (i = j) := by simp
  rw [e]
  exact q.fl ek
theorem r2_eqS {i j : Str} : R2V K rEq i j (decide (i = j)) := fun Kn H v w ek h1 h2 Q q => by
  cases h1
  cases h2
  refine ⟨rfl, ?_⟩
  have e : decide (V.str i = V.str j) = decide (i = j) := by simp
  rw [e]
  exact q.fl ek
theorem r2_neS {i j : Str} : R2V K rNe i j (!decide (i = j)) := fun Kn H v w ek h1 h2 Q q => by
  cases h1
  cases h2
  refine ⟨rfl, ?_⟩
  have e : decide (V.str i = V.str j) = decide (i = j) := by simp
  rw [e]
  exact q.fl ek
theorem r2_eqB {i j : Bool} : R2V K rEq i j (decide (i = j)) := fun Kn H v w ek h1 h2 Q q => by
  cases h1
  cases h2
  refine ⟨rfl, ?_⟩
  have e : decide (V.bl i = V.bl j) = decide (i = j) := by simp
  rw [e]
  exact q.fl ek

/-! ### arguments, tuples, lists -/
theorem ea_nil : EA K F Kn0 sl ow tNil () := fun σ Kn H s Q q => q [] Kn H (Gr.refl s.ek) rfl
theorem ea_cons {tr : TA} {t : τ} (h : EV K F Kn0 sl ow ta x) (hr : EA K F Kn0 sl ow tr t) : EA K F Kn0 sl ow (tCons ta tr) (x, t) := fun σ Kn H s Q q =>
  h σ Kn H s _ fun v Kn1 H1 g1 r1 => hr σ Kn1 H1 (s.grow g1) _ fun vs Kn2 H2 g2 r2 => q _ Kn2 H2 (g1.trans g2) ⟨v, vs, rfl, Rp.mono g2.kk r1, r2⟩
theorem eam_nil : EAM K F Kn0 sl ow tNil ow () := fun σ Kn H s Q q => q [] Kn H (Ex.refl _) s rfl
theorem eam_cons {tr : TA} {t : τ} (h : EM K F Kn0 sl ow ta ow1 x) (hr : EAM K F Kn0 sl ow1 tr ow2 t) : EAM K F Kn0 sl ow (tCons ta tr) ow2 (x, t) := fun σ Kn H s Q q =>
  h σ Kn H s _ fun v Kn1 H1 e1 s1 r1 => hr σ Kn1 H1 s1 _ fun vs Kn2 H2 e2 s2 r2 => q _ Kn2 H2 (e1.trans e2) s2 ⟨v, vs, rfl, Rp.mono e2 r1, r2⟩
theorem EA.eam {ta : TA} {t : τ} (h : EA K F Kn0 sl ow ta t) : EAM K F Kn0 sl ow ta ow t := fun σ Kn H s Q q => h σ Kn H s Q fun vs Kn' H' g r => q vs Kn' H' g.kk (s.grow g) r
/-- alike things -/
def EL {α : Type} [Rp α] (K : Fg) (F Kn0 : Hp) (sl : List Sl) (ow : List Ow) (ta : TA) (xs : List α) : Prop := ∀ σ Kn H, S K F Kn0 sl ow σ Kn H → ∀ Q : List V → Hp → Prop, (∀ vs Kn' H', Gr Kn H Kn' H' → Paired (rep K Kn') vs xs → Q vs H') → ta σ H Q
def ELM {α : Type} [Rp α] (K : Fg) (F Kn0 : Hp) (sl : List Sl) (ow : List Ow) (ta : TA) (ow' : List Ow) (xs : List α) : Prop := ∀ σ Kn H, S K F Kn0 sl ow σ Kn H → ∀ Q : List V → Hp → Prop, (∀ vs Kn' H', Ex Kn Kn' → S K F Kn0 sl ow' σ Kn' H' → Paired (rep K Kn') vs xs → Q vs H') → ta σ H Q
theorem el_nil : EL K F Kn0 sl ow tNil ([] : List α) := fun σ Kn H s Q q => q [] Kn H (Gr.refl s.ek) .nil
theorem el_cons {tr : TA} {xs : List α} (h : EV K F Kn0 sl ow ta x) (hr : EL K F Kn0 sl ow tr xs) : EL K F Kn0 sl ow (tCons ta tr) (x :: xs) := fun σ Kn H s Q q =>
  h σ Kn H s _ fun v Kn1 H1 g1 r1 => hr σ Kn1 H1 (s.grow g1) _ fun vs Kn2 H2 g2 r2 => q _ Kn2 H2 (g1.trans g2) (.cons (Rp.mono g2.kk r1) r2)
theorem elm_nil : ELM K F Kn0 sl ow tNil ow ([] : List α) := fun σ Kn H s Q q => q [] Kn H (Ex.refl _) s .nil
theorem elm_cons {tr : TA} {xs : List α} (h : EM K F Kn0 sl ow ta ow1 x) (hr : ELM K F Kn0 sl ow1 tr ow2 xs) : ELM K F Kn0 sl ow (tCons ta tr) ow2 (x :: xs) := fun σ Kn H s Q q =>
  h σ Kn H s _ fun v Kn1 H1 e1 s1 r1 => hr σ Kn1 H1 s1 _ fun vs Kn2 H2 e2 s2 r2 => q _ Kn2 H2 (e1.trans e2) s2 (.cons (Rp.mono e2 r1) r2)
theorem le_line {n : Nat} (h : n ≤ 1000000) : n ≤ sizeLine := Nat.le_trans h (by decide)
theorem lt_line {n : Nat} (h : n < 1000000) : n < sizeLine := Nat.lt_of_lt_of_le h (by decide)
theorem en_lst {ta : TA} {xs : List α} (h : EL K F Kn0 sl ow ta xs) (hz : xs.length ≤ 1000000 := by exact Nat.le_of_ble_eq_true rfl) : EN K F Kn0 sl ow (tLst ta) xs := fun σ Kn H s Q q =>
  h σ Kn H s _ fun vs Kn1 H1 g1 r1 => ⟨by rw [paired_len r1]; exact le_line hz, fun p hp => q p vs Kn1 _ (g1.trans (Gr.newU g1.kh hp)) (fresh_back g1.hh hp) (fresh_back g1.kh hp) upd_same r1⟩
theorem enm_lst {ta : TA} {xs : List α} (h : ELM K F Kn0 sl ow ta ow1 xs) (hz : xs.length ≤ 1000000 := by exact Nat.le_of_ble_eq_true rfl) : ENM K F Kn0 sl ow (tLst ta) ow1 xs := fun σ Kn H s Q q =>
  h σ Kn H s _ fun vs Kn1 H1 e1 s1 r1 => ⟨by rw [paired_len r1]; exact le_line hz, fun p hp =>
    q p vs Kn1 _ e1 (s1.grow (Gr.newU s1.ek hp)) (fresh_back s1.ef hp) (fresh_back s1.ek hp) (owned_ne s1 hp) upd_same r1⟩
theorem ev_tup {ta : TA} {t : α × τ} (h : EA K F Kn0 sl ow ta t) (hz : Tp.n (α × τ) ≤ 1000000 := by decide) : EV K F Kn0 sl ow (tTup ta) t := fun σ Kn H s Q q =>
  h σ Kn H s _ fun vs Kn1 H1 g1 r1 => ⟨by rw [Tp.len r1]; exact le_line hz, fun p hp =>
    q _ (upd Kn1 p (.tup vs)) _ (g1.trans (Gr.new g1.kh hp)) ⟨p, vs, rfl, upd_same, Tp.mono (Gr.new g1.kh hp).kk r1⟩⟩
theorem em_tup {ta : TA} {t : α × τ} (h : EAM K F Kn0 sl ow ta ow1 t) (hz : Tp.n (α × τ) ≤ 1000000 := by decide) : EM K F Kn0 sl ow (tTup ta) ow1 t := fun σ Kn H s Q q =>
  h σ Kn H s _ fun vs Kn1 H1 e1 s1 r1 => ⟨by rw [Tp.len r1]; exact le_line hz, fun p hp =>
    q _ (upd Kn1 p (.tup vs)) _ (e1.trans (Gr.new s1.ek hp).kk) (s1.grow (Gr.new s1.ek hp)) ⟨p, vs, rfl, upd_same, Tp.mono (Gr.new s1.ek hp).kk r1⟩⟩
theorem ev_tuH {ta : TA} {xs : List α} (h : EL K F Kn0 sl ow ta xs) (hz : xs.length ≤ 1000000 := by exact Nat.le_of_ble_eq_true rfl) : EV K F Kn0 sl ow (tTup ta) (Tu.mk xs) := fun σ Kn H s Q q =>
  h σ Kn H s _ fun vs Kn1 H1 g1 r1 => ⟨by rw [paired_len r1]; exact le_line hz, fun p hp =>
    q _ (upd Kn1 p (.tup vs)) _ (g1.trans (Gr.new g1.kh hp)) ⟨p, vs, rfl, upd_same, paired_mono (Gr.new g1.kh hp).kk r1⟩⟩

/-! ### built-ins, defs -/
theorem ev_cb {r : List V → Hp → VK → Prop} {ta : TA} {t : τ} (h : EA K F Kn0 sl ow ta t) (hr : RCV K r t z) : EV K F Kn0 sl ow (tCB r ta) z := fun σ Kn H s Q q =>
  h σ Kn H s _ fun vs Kn1 H1 g1 r1 => hr Kn1 H1 vs g1.kh r1 Q fun u Kn' H' g' r' => q u Kn' H' (g1.trans g') r'
theorem en_cb {r : List V → Hp → VK → Prop} {ta : TA} {t : τ} {zs : List γ} (h : EA K F Kn0 sl ow ta t) (hr : RCL K r t zs) : EN K F Kn0 sl ow (tCB r ta) zs := fun σ Kn H s Q q =>
  h σ Kn H s _ fun vs Kn1 H1 g1 r1 => hr Kn1 H1 vs g1.kh r1 Q fun p ws Kn' H' g' hp kp hw r' => q p ws Kn' H' (g1.trans g') (fresh_back g1.hh hp) kp hw r'
theorem em_cb {r : List V → Hp → VK → Prop} {ta : TA} {t : τ} (h : EAM K F Kn0 sl ow ta ow1 t) (hr : RCV K r t z) : EM K F Kn0 sl ow (tCB r ta) ow1 z := fun σ Kn H s Q q =>
  h σ Kn H s _ fun vs Kn1 H1 e1 s1 r1 => hr Kn1 H1 vs s1.ek r1 Q fun u Kn' H' g' r' => q u Kn' H' (e1.trans g'.kk) (s1.grow g') r'
theorem one_arg {Kn : Hp} {vs : List V} {x : α} (h : rept K Kn vs (x, ())) : ∃ v, vs = [v] ∧ rep K Kn v x := by
  obtain ⟨v, r, rfl, h1, h2⟩ := h
  cases h2
  exact ⟨v, rfl, h1⟩
theorem two_args {Kn : Hp} {vs : List V} {x : α} {y : β} (h : rept K Kn vs (x, y, ())) : ∃ v w, vs = [v, w] ∧ rep K Kn v x ∧ rep K Kn w y := by
  obtain ⟨v, r, rfl, h1, h2⟩ := h
  obtain ⟨w, rfl, h3⟩ := one_arg h2
  exact ⟨v, w, rfl, h1, h3⟩
theorem rc_max {i j : Int} : RCV K (fun xs H Q => ∃ i j, xs = [.int i, .int j] ∧ Q (.int (if j > i then j else i)) H) (i, j, ()) (max i j) := fun Kn H vs ek h Q q => by
  obtain ⟨v, w, rfl, h1, h2⟩ := two_args h
  cases h1
  cases h2
  refine ⟨i, j, rfl, ?_⟩
  have e : (if j > i then j else i) = max i j := by split <;> omega
  rw [e]
  exact q.fl ek
theorem rc_min {i j : Int} : RCV K (fun xs H Q => ∃ i j, xs = [.int i, .int j] ∧ Q (.int (if j < i then j else i)) H) (i, j, ()) (min i j) := fun Kn H vs ek h Q q => by
  obtain ⟨v, w, rfl, h1, h2⟩ := two_args h
  cases h1
  cases h2
  refine ⟨i, j, rfl, ?_⟩
  have e : (if j < i then j else i) = min i j := by split <;> omega
  rw [e]
  exact q.fl ek
theorem rc_abs {i : Int} : RCV K (fun xs H Q => ∃ i, xs = [.int i] ∧ Q (.int (if i < 0 then -i else i)) H) (i, ()) ((i.natAbs : Int)) := fun Kn H vs ek h Q q => by
  obtain ⟨v, rfl, h1⟩ := one_arg h
  cases h1
  refine ⟨i, rfl, ?_⟩
  have e : (if i < 0 then -i else i) = (i.natAbs : Int) := by split <;> omega
  rw [e]
  exact q.fl ek
theorem rc_len {xs : List α} : RCV K (fun xs H Q => ∃ p ys, xs = [.ref p] ∧ (SqL K H p ys ∨ SqT K H p ys) ∧ Q (.int ys.length) H) (xs, ()) (xs.length : Int) := fun Kn H vs ek h Q q => by
  obtain ⟨v, rfl, p, ws, rfl, h1, h2⟩ := one_arg h
  refine ⟨p, ws, rfl, .inl (sq_of (ek _ _ h1)), ?_⟩
  rw [paired_len h2]
  exact q.fl ek
theorem rc_lenF {xs : Fz α} : RCV K (fun xs H Q => ∃ p ys, xs = [.ref p] ∧ (SqL K H p ys ∨ SqT K H p ys) ∧ Q (.int ys.length) H) (xs, ()) (xs.l.length : Int) := fun Kn H vs ek h Q q => by
  obtain ⟨v, rfl, p, ws, rfl, h1, h2⟩ := one_arg h
  refine ⟨p, ws, rfl, .inl (ex_l ek h1), ?_⟩
  rw [paired_len h2]
  exact q.fl ek
theorem rc_lenT {xs : Tu α} : RCV K (fun xs H Q => ∃ p ys, xs = [.ref p] ∧ (SqL K H p ys ∨ SqT K H p ys) ∧ Q (.int ys.length) H) (xs, ()) (xs.l.length : Int) := fun Kn H vs ek h Q q => by
  obtain ⟨v, rfl, p, ws, rfl, h1, h2⟩ := one_arg h
  refine ⟨p, ws, rfl, .inr (st_of (ek _ _ h1)), ?_⟩
  rw [paired_len h2]
  exact q.fl ek
theorem rc_lenP {t : α × τ} : RCV K (fun xs H Q => ∃ p ys, xs = [.ref p] ∧ (SqL K H p ys ∨ SqT K H p ys) ∧ Q (.int ys.length) H) (t, ()) ((Tp.n (α × τ) : Nat) : Int) := fun Kn H vs ek h Q q => by
  obtain ⟨v, rfl, p, ws, rfl, h1, h2⟩ := one_arg h
  refine ⟨p, ws, rfl, .inr (st_of (ek _ _ h1)), ?_⟩
  rw [Tp.len h2]
  exact q.fl ek
theorem rc_sum {xs : List Int} : RCV K (rSum K) (xs, ()) xs.sum := fun Kn H vs ek h Q q => by
  obtain ⟨v, rfl, p, ws, rfl, h1, h2⟩ := one_arg h
  have e := paired_fl h2
  subst e
  exact ⟨p, xs, rfl, sq_of (ek _ _ h1), q.fl ek⟩
theorem rc_all {xs : List Bool} : RCV K (rAll K) (xs, ()) (xs.all id) := fun Kn H vs ek h Q q => by
  obtain ⟨v, rfl, p, ws, rfl, h1, h2⟩ := one_arg h
  have e := paired_fl h2
  subst e
  exact ⟨p, xs, rfl, sq_of (ek _ _ h1), q.fl ek⟩
theorem rc_any {xs : List Bool} : RCV K (rAny K) (xs, ()) (xs.any id) := fun Kn H vs ek h Q q => by
  obtain ⟨v, rfl, p, ws, rfl, h1, h2⟩ := one_arg h
  have e := paired_fl h2
  subst e
  exact ⟨p, xs, rfl, sq_of (ek _ _ h1), q.fl ek⟩
theorem rc_list {xs : List α} : RCL K (fun xs H Q => ∃ p ys, xs = [.ref p] ∧ (SqL K H p ys ∨ SqT K H p ys) ∧ ∀ l, H l = none → Q (.ref l) (upd H l (.lst ys))) (xs, ()) xs := fun Kn H vs ek h Q q => by
  obtain ⟨v, rfl, p, ws, rfl, h1, h2⟩ := one_arg h
  exact ⟨p, ws, rfl, .inl (sq_of (ek _ _ h1)), fun l hl => q l ws Kn _ (Gr.newU ek hl) hl (fresh_back ek hl) upd_same h2⟩
theorem rc_listF {xs : Fz α} : RCL K (fun xs H Q => ∃ p ys, xs = [.ref p] ∧ (SqL K H p ys ∨ SqT K H p ys) ∧ ∀ l, H l = none → Q (.ref l) (upd H l (.lst ys))) (xs, ()) xs.l := fun Kn H vs ek h Q q => by
  obtain ⟨v, rfl, p, ws, rfl, h1, h2⟩ := one_arg h
  exact ⟨p, ws, rfl, .inl (ex_l ek h1), fun l hl => q l ws Kn _ (Gr.newU ek hl) hl (fresh_back ek hl) upd_same h2⟩
theorem rc_listT {xs : Tu α} : RCL K (fun xs H Q => ∃ p ys, xs = [.ref p] ∧ (SqL K H p ys ∨ SqT K H p ys) ∧ ∀ l, H l = none → Q (.ref l) (upd H l (.lst ys))) (xs, ()) xs.l := fun Kn H vs ek h Q q => by
  obtain ⟨v, rfl, p, ws, rfl, h1, h2⟩ := one_arg h
  exact ⟨p, ws, rfl, .inr (st_of (ek _ _ h1)), fun l hl => q l ws Kn _ (Gr.newU ek hl) hl (fresh_back ek hl) upd_same h2⟩
theorem rc_tuple {xs : List α} : RCV K (fun xs H Q => ∃ p ys, xs = [.ref p] ∧ ((SqL K H p ys ∧ ∀ l, H l = none → Q (.ref l) (upd H l (.tup ys))) ∨ (SqT K H p ys ∧ Q (.ref p) H))) (xs, ()) (Tu.mk xs) := fun Kn H vs ek h Q q => by
  obtain ⟨v, rfl, p, ws, rfl, h1, h2⟩ := one_arg h
  exact ⟨p, ws, rfl, .inl ⟨sq_of (ek _ _ h1), fun l hl => q _ (upd Kn l (.tup ws)) _ (Gr.new ek hl) ⟨l, ws, rfl, upd_same, paired_mono (Gr.new ek hl).kk h2⟩⟩⟩
end

/-! ### items, slices -/
section
variable {K : Fg} {F Kn0 : Hp} {sl sl' : List Sl} {ow ow1 ow2 : List Ow} {α β γ τ : Type} [Rp α] [Rp β] [Rp γ] [Tp τ] {ta tb te : TE}
theorem r2_ixL {xs : List α} {i : Int} {z : α} (h : atI xs i = some z) : R2V K (rIxL K) xs i z := fun Kn H v w ek h1 h2 Q q => by
  obtain ⟨p, ws, rfl, h3, h4⟩ := h1
  cases h2
  obtain ⟨u, e, r⟩ := paired_atI h4 h
  exact ⟨p, ws, i, u, rfl, rfl, sq_of (ek _ _ h3), e, q.at ek r⟩
theorem r2_ixF {xs : Fz α} {i : Int} {z : α} (h : atI xs.l i = some z) : R2V K (rIxL K) xs i z := fun Kn H v w ek h1 h2 Q q => by
  obtain ⟨p, ws, rfl, h3, h4⟩ := h1
  cases h2
  obtain ⟨u, e, r⟩ := paired_atI h4 h
  exact ⟨p, ws, i, u, rfl, rfl, ex_l ek h3, e, q.at ek r⟩
theorem r2_ixU {xs : Tu α} {i : Int} {z : α} (h : atI xs.l i = some z) : R2V K (rIxT K) xs i z := fun Kn H v w ek h1 h2 Q q => by
  obtain ⟨p, ws, rfl, h3, h4⟩ := h1
  cases h2
  obtain ⟨u, e, r⟩ := paired_atI h4 h
  exact ⟨p, ws, i, u, rfl, rfl, st_of (ek _ _ h3), e, q.at ek r⟩
theorem r2_ixK {xs : Kt α} {i : Int} {z : α} (h : atI xs.l i = some z) : R2V K (rIxT K) xs i z := fun Kn H v w ek h1 h2 Q q => by
  obtain ⟨p, ws, rfl, h3, h4⟩ := h1
  cases h2
  obtain ⟨u, e, r⟩ := paired_atI h4 h
  exact ⟨p, ws, i, u, rfl, rfl, ex_t ek h3, e, q.at ek r⟩
/-- the n-th place of a tuple -/
inductive At : {τ : Type} → [Tp τ] → Nat → {α : Type} → [Rp α] → τ → α → Prop
  | z {α τ : Type} [Rp α] [Tp τ] (x : α) (t : τ) : At 0 (x, t) x
  | s {α β τ : Type} [Rp α] [Rp β] [Tp τ] {n : Nat} (x : α) {t : τ} {y : β} : At n t y → At (n + 1) (x, t) y
theorem At.get {K : Fg} {H : Hp} {τ : Type} [i : Tp τ] {n : Nat} {α : Type} [j : Rp α] {t : τ} {a : α} (h : At n t a) : ∀ {vs : List V}, rept K H vs t → ∃ v, vs[n]? = some v ∧ rep K H v a := by
  induction h with
  | z x t =>
    intro vs r
    obtain ⟨v, r, rfl, h1, h2⟩ := r
    exact ⟨v, rfl, h1⟩
  | s x _ ih =>
    intro vs r
    obtain ⟨v, r, rfl, h1, h2⟩ := r
    obtain ⟨w, e, h3⟩ := ih h2
    exact ⟨w, e, h3⟩
theorem r2_tix {t : α × τ} {n : Nat} {z : γ} (h : At n t z) : R2V K (rIxT K) t (n : Int) z := fun Kn H v w ek h1 h2 Q q => by
  obtain ⟨p, ws, rfl, h3, h4⟩ := h1
  cases h2
  obtain ⟨u, e, r⟩ := h.get h4
  exact ⟨p, ws, n, u, rfl, rfl, st_of (ek _ _ h3), atI_nat e, q.at ek r⟩
/-- one sign of a text -/
def ixS (z : Str) (i : Int) : Option Str := if z.length ≤ 100000 then (atI z.cps.toList i).map (fun c => ⟨#[c]⟩) else none
theorem r2_ixS {x : Str} {i : Int} {z : Str} (h : ixS x i = some z) : R2V K rIxS x i z := fun Kn H v w ek h1 h2 Q q => by
  cases h1
  cases h2
  unfold ixS at h
  split at h
  · rename_i hl
    cases e : atI x.cps.toList i with
    | none => rw [e] at h; cases h
    | some c =>
      rw [e] at h
      cases h
      exact ⟨x, i, c, rfl, rfl, le_line (by omega), e, q.fl ek⟩
  · cases h
def cut {α : Type} (xs : List α) (lo hi : Option Int) : List α := (xs.drop (HT.sIx xs.length 0 lo)).take (HT.sIx xs.length xs.length hi - HT.sIx xs.length 0 lo)
theorem paired_cut {F : V → α → Prop} {vs : List V} {xs : List α} (h : Paired F vs xs) (lo hi : Option Int) : Paired F (cutV vs lo hi) (cut xs lo hi) := by
  unfold cutV cut
  rw [Paired.length h]
  exact paired_take _ (paired_drop _ h)
def EO (K : Fg) (F Kn0 : Hp) (sl : List Sl) (ow : List Ow) (to : TO) (o : Option Int) : Prop := ∀ σ Kn H, S K F Kn0 sl ow σ Kn H → ∀ Q : Option Int → Hp → Prop, (∀ Kn' H', Gr Kn H Kn' H' → Q o H') → to σ H Q
theorem eo_none : EO K F Kn0 sl ow tNoPart none := fun σ Kn H s Q q => q Kn H (Gr.refl s.ek)
theorem eo_some {i : Int} (h : EV K F Kn0 sl ow te i) : EO K F Kn0 sl ow (tPart te) (some i) := fun σ Kn H s Q q => h σ Kn H s _ fun v Kn1 H1 g1 r1 => ⟨i, r1, q Kn1 H1 g1⟩
theorem en_sl {xs : List α} {tl th : TO} {lo hi : Option Int} (h : EV K F Kn0 sl ow te xs) (hl : EO K F Kn0 sl ow tl lo) (hh : EO K F Kn0 sl ow th hi) : EN K F Kn0 sl ow (tSl (rSlL K) te tl th) (cut xs lo hi) := fun σ Kn H s Q q =>
  h σ Kn H s _ fun v Kn1 H1 g1 r1 => hl σ Kn1 H1 (s.grow g1) _ fun Kn2 H2 g2 => hh σ Kn2 H2 ((s.grow g1).grow g2) _ fun Kn3 H3 g3 => by
    obtain ⟨p, ws, rfl, h3, h4⟩ := r1
    have g : Gr Kn H Kn3 H3 := (g1.trans g2).trans g3
    have e13 : Ex Kn1 Kn3 := g2.kk.trans g3.kk
    exact ⟨p, ws, rfl, sq_of (g3.kh _ _ (e13 _ _ h3)), fun l hl => q l _ Kn3 _ (g.trans (Gr.newU g3.kh hl)) (fresh_back g.hh hl) (fresh_back g3.kh hl) upd_same (paired_cut (paired_mono e13 h4) lo hi)⟩
theorem en_slF {xs : Fz α} {tl th : TO} {lo hi : Option Int} (h : EV K F Kn0 sl ow te xs) (hl : EO K F Kn0 sl ow tl lo) (hh : EO K F Kn0 sl ow th hi) : EN K F Kn0 sl ow (tSl (rSlL K) te tl th) (cut xs.l lo hi) := fun σ Kn H s Q q =>
  h σ Kn H s _ fun v Kn1 H1 g1 r1 => hl σ Kn1 H1 (s.grow g1) _ fun Kn2 H2 g2 => hh σ Kn2 H2 ((s.grow g1).grow g2) _ fun Kn3 H3 g3 => by
    obtain ⟨p, ws, rfl, h3, h4⟩ := r1
    have g : Gr Kn H Kn3 H3 := (g1.trans g2).trans g3
    have e13 : Ex Kn1 Kn3 := g2.kk.trans g3.kk
    exact ⟨p, ws, rfl, ex_l (e13.trans g3.kh) h3, fun l hl => q l _ Kn3 _ (g.trans (Gr.newU g3.kh hl)) (fresh_back g.hh hl) (fresh_back g3.kh hl) upd_same (paired_cut (paired_mono e13 h4) lo hi)⟩
theorem r2_cat {xs ys : List α} (hz : xs.length + ys.length ≤ 1000000) : R2L K rCat xs ys (xs ++ ys) := fun Kn H v w ek h1 h2 Q q => by
  obtain ⟨p, ws, rfl, h3, h4⟩ := h1
  obtain ⟨p2, ws2, rfl, h5, h6⟩ := h2
  exact ⟨p, p2, ws, ws2, rfl, rfl, ek _ _ h3, ek _ _ h5, by rw [paired_len h4, paired_len h6]; exact le_line hz, fun l hl =>
    q l _ Kn _ (Gr.newU ek hl) hl (fresh_back ek hl) upd_same (paired_append h4 h6)⟩

/-! ### tests -/
variable {t u : TT} {a b c : Bool}
theorem et_test (h : EV K F Kn0 sl ow te b) : ET K F Kn0 sl ow (tTest te) b := fun σ Kn H s Q q => h σ Kn H s _ fun v Kn' H' g r => ⟨b, r, q Kn' H' g⟩
theorem et_B (h : EV K F Kn0 sl ow te b) : ET K F Kn0 sl ow (tB te) b := fun σ Kn H s Q q => h σ Kn H s _ fun v Kn' H' g r => ⟨b, r, q Kn' H' g⟩
theorem et_not (h : ET K F Kn0 sl ow t b) : ET K F Kn0 sl ow (tNot t) (!b) := fun σ Kn H s Q q => h σ Kn H s _ fun Kn' H' g => q Kn' H' g
theorem et_and (h1 : ET K F Kn0 sl ow t a) (h2 : a = true → ET K F Kn0 sl ow u b) : ET K F Kn0 sl ow (tAnd t u) (a && b) := fun σ Kn H s Q q => h1 σ Kn H s _ fun Kn1 H1 g1 => by
  cases a with
  | true => exact iteT (h2 rfl σ Kn1 H1 (s.grow g1) Q fun Kn2 H2 g2 => q Kn2 H2 (g1.trans g2))
  | false => exact iteF (q Kn1 H1 g1)
theorem et_or (h1 : ET K F Kn0 sl ow t a) (h2 : a = false → ET K F Kn0 sl ow u b) : ET K F Kn0 sl ow (tOr t u) (a || b) := fun σ Kn H s Q q => h1 σ Kn H s _ fun Kn1 H1 g1 => by
  cases a with
  | true => exact iteT (q Kn1 H1 g1)
  | false => exact iteF (h2 rfl σ Kn1 H1 (s.grow g1) Q fun Kn2 H2 g2 => q Kn2 H2 (g1.trans g2))
theorem et_andO {m : Option Bool} (h : (if a = true then m else some false) = some c) (h1 : ET K F Kn0 sl ow t a) (h2 : ∀ b, a = true → m = some b → ET K F Kn0 sl ow u b) : ET K F Kn0 sl ow (tAnd t u) c := fun σ Kn H s Q q => h1 σ Kn H s _ fun Kn1 H1 g1 => by
  cases a with
  | true => exact iteT (h2 c rfl h σ Kn1 H1 (s.grow g1) Q fun Kn2 H2 g2 => q Kn2 H2 (g1.trans g2))
  | false =>
    cases h
    exact iteF (q Kn1 H1 g1)
theorem et_orO {m : Option Bool} (h : (if a = true then some true else m) = some c) (h1 : ET K F Kn0 sl ow t a) (h2 : ∀ b, a = false → m = some b → ET K F Kn0 sl ow u b) : ET K F Kn0 sl ow (tOr t u) c := fun σ Kn H s Q q => h1 σ Kn H s _ fun Kn1 H1 g1 => by
  cases a with
  | false => exact iteF (h2 c rfl h σ Kn1 H1 (s.grow g1) Q fun Kn2 H2 g2 => q Kn2 H2 (g1.trans g2))
  | true =>
    cases h
    exact iteT (q Kn1 H1 g1)
theorem ev_andO {m : Option Bool} (h : (if a = true then m else some false) = some c) (h1 : EV K F Kn0 sl ow ta a) (h2 : ∀ b, a = true → m = some b → EV K F Kn0 sl ow tb b) : EV K F Kn0 sl ow (tAndV ta tb) c := fun σ Kn H s Q q => h1 σ Kn H s _ fun v Kn1 H1 g1 r1 => ⟨a, r1, by
  cases a with
  | true => exact iteT (h2 c rfl h σ Kn1 H1 (s.grow g1) Q fun v Kn2 H2 g2 r2 => q v Kn2 H2 (g1.trans g2) r2)
  | false =>
    cases h
    exact iteF (q _ Kn1 H1 g1 rfl)⟩
theorem ev_orO {m : Option Bool} (h : (if a = true then some true else m) = some c) (h1 : EV K F Kn0 sl ow ta a) (h2 : ∀ b, a = false → m = some b → EV K F Kn0 sl ow tb b) : EV K F Kn0 sl ow (tOrV ta tb) c := fun σ Kn H s Q q => h1 σ Kn H s _ fun v Kn1 H1 g1 r1 => ⟨a, r1, by
  cases a with
  | false => exact iteF (h2 c rfl h σ Kn1 H1 (s.grow g1) Q fun v Kn2 H2 g2 r2 => q v Kn2 H2 (g1.trans g2) r2)
  | true =>
    cases h
    exact iteT (q _ Kn1 H1 g1 rfl)⟩
theorem ev_andV (h1 : EV K F Kn0 sl ow ta a) (h2 : a = true → EV K F Kn0 sl ow tb b) : EV K F Kn0 sl ow (tAndV ta tb) (a && b) := fun σ Kn H s Q q => h1 σ Kn H s _ fun v Kn1 H1 g1 r1 => ⟨a, r1, by
  cases a with
  | true => exact iteT (h2 rfl σ Kn1 H1 (s.grow g1) Q fun v Kn2 H2 g2 r2 => q v Kn2 H2 (g1.trans g2) r2)
  | false => exact iteF (q _ Kn1 H1 g1 rfl)⟩
theorem ev_orV (h1 : EV K F Kn0 sl ow ta a) (h2 : a = false → EV K F Kn0 sl ow tb b) : EV K F Kn0 sl ow (tOrV ta tb) (a || b) := fun σ Kn H s Q q => h1 σ Kn H s _ fun v Kn1 H1 g1 r1 => ⟨a, r1, by
  cases a with
  | false => exact iteF (h2 rfl σ Kn1 H1 (s.grow g1) Q fun v Kn2 H2 g2 r2 => q v Kn2 H2 (g1.trans g2) r2)
  | true => exact iteT (q _ Kn1 H1 g1 rfl)⟩
theorem ev_notV (h1 : EV K F Kn0 sl ow ta a) : EV K F Kn0 sl ow (tNotV ta) (!a) := fun σ Kn H s Q q => h1 σ Kn H s _ fun v Kn1 H1 g1 r1 => ⟨a, r1, q _ Kn1 H1 g1 rfl⟩
theorem ev_if {x y : α} (h : ET K F Kn0 sl ow t b) (h1 : b = true → EV K F Kn0 sl ow ta x) (h2 : b = false → EV K F Kn0 sl ow tb y) : EV K F Kn0 sl ow (tIf t ta tb) (if b = true then x else y) := fun σ Kn H s Q q => h σ Kn H s _ fun Kn1 H1 g1 => by
  cases b with
  | true => exact iteT (h1 rfl σ Kn1 H1 (s.grow g1) Q fun v Kn2 H2 g2 r2 => q v Kn2 H2 (g1.trans g2) r2)
  | false => exact iteF (h2 rfl σ Kn1 H1 (s.grow g1) Q fun v Kn2 H2 g2 r2 => q v Kn2 H2 (g1.trans g2) r2)
theorem ev_ifO {m n : Option α} {z : α} (hz : (if b = true then m else n) = some z) (h : ET K F Kn0 sl ow t b) (h1 : ∀ x, b = true → m = some x → EV K F Kn0 sl ow ta x) (h2 : ∀ y, b = false → n = some y → EV K F Kn0 sl ow tb y) : EV K F Kn0 sl ow (tIf t ta tb) z := fun σ Kn H s Q q => h σ Kn H s _ fun Kn1 H1 g1 => by
  cases b with
  | true => exact iteT (h1 z rfl hz σ Kn1 H1 (s.grow g1) Q fun v Kn2 H2 g2 r2 => q v Kn2 H2 (g1.trans g2) r2)
  | false => exact iteF (h2 z rfl hz σ Kn1 H1 (s.grow g1) Q fun v Kn2 H2 g2 r2 => q v Kn2 H2 (g1.trans g2) r2)
/-- truth of a list -/
theorem et_truL {xs : List α} (h : EV K F Kn0 sl ow ta xs) : ET K F Kn0 sl ow (fun σ H Q => ta σ H fun x H' => ∃ k, TruV K x H' k ∧ Q k H') (!xs.isEmpty) := fun σ Kn H s Q q => h σ Kn H s _ fun v Kn1 H1 g1 r1 => by
  obtain ⟨p, ws, rfl, h3, h4⟩ := r1
  refine ⟨_, .inl ⟨ws, sq_of (g1.kh _ _ h3), rfl⟩, ?_⟩
  have e : (!ws.isEmpty) = !xs.isEmpty := by
    cases h4 <;> rfl
  rw [e]
  exact q Kn1 H1 g1
end
end Wk
/-! Wk3: calls, statements, loops, comprehensions -/
namespace Wk
open PySem PySem.Spec L2 Evl

/-! ### promises -/
section
variable {α τ : Type} [Rp α] [Tp τ]
/-- a def that changes nothing: it tells f of its arguments -/
def PF (K : Fg) (f : τ → Option α) : Sp := fun vs H Q _ => ∃ Kn t r, Ex Kn H ∧ rept K Kn vs t ∧ f t = some r ∧ RS K Kn H Q r
/-- .. a new list -/
def PL (K : Fg) (f : τ → Option (List α)) : Sp := fun vs H Q _ => ∃ Kn t r, Ex Kn H ∧ rept K Kn vs t ∧ f t = some r ∧ RL K Kn H Q r
/-- its first argument is a list that it changes -/
def PM {β : Type} [Rp β] (K : Fg) (f : List β → τ → Option (α × List β)) : Sp := fun vs H Q _ => ∃ Kn p ws rest t xs r xs', vs = .ref p :: rest ∧ Ex Kn H ∧ Kn p = none ∧ H p = some (.lst ws) ∧ Paired (rep K Kn) ws xs ∧ rept K Kn rest t ∧ f xs t = some (r, xs') ∧
  ∀ v Kn' H' ws', Ex Kn Kn' → Ex Kn' H' → (∀ q, q ≠ p → H q ≠ none → H' q = H q) → (∀ q, H q ≠ none → Kn q = none → Kn' q = none) → H' p = some (.lst ws') → Paired (rep K Kn') ws' xs' → rep K Kn' v r → Q v H'
end
section
variable {K : Fg} {F Kn0 : Hp} {sl sl' : List Sl} {ow ow1 ow2 : List Ow} {α β γ τ : Type} [Rp α] [Rp β] [Rp γ] [Tp τ] {ta : TA} {te : TE} {t : τ} {E : XK}
theorem ev_call {f : τ → Option α} {r : α} (h : EA K F Kn0 sl ow ta t) (hf : f t = some r) : EV K F Kn0 sl ow (tCall (PF K f) [] E ta) r := fun σ Kn H s Q q =>
  h σ Kn H s _ fun vs Kn1 H1 g1 r1 => by
    show PF K f (vs ++ []) H1 Q E
    rw [List.append_nil]
    exact ⟨Kn1, t, r, g1.kh, r1, hf, fun u Kn' H' g' r' => q u Kn' H' (g1.trans g') r'⟩
theorem en_call {f : τ → Option (List α)} {r : List α} (h : EA K F Kn0 sl ow ta t) (hf : f t = some r) : EN K F Kn0 sl ow (tCall (PL K f) [] E ta) r := fun σ Kn H s Q q =>
  h σ Kn H s _ fun vs Kn1 H1 g1 r1 => by
    show PL K f (vs ++ []) H1 Q E
    rw [List.append_nil]
    exact ⟨Kn1, t, r, g1.kh, r1, hf, fun p ws Kn' H' g' hp kp hw r' => q p ws Kn' H' (g1.trans g') (fresh_back g1.hh hp) kp hw r'⟩
theorem em_call {f : τ → Option α} {r : α} (h : EAM K F Kn0 sl ow ta ow1 t) (hf : f t = some r) : EM K F Kn0 sl ow (tCall (PF K f) [] E ta) ow1 r := fun σ Kn H s Q q =>
  h σ Kn H s _ fun vs Kn1 H1 e1 s1 r1 => by
    show PF K f (vs ++ []) H1 Q E
    rw [List.append_nil]
    exact ⟨Kn1, t, r, s1.ek, r1, hf, fun u Kn' H' g' r' => q u Kn' H' (e1.trans g'.kk) (s1.grow g') r'⟩
theorem enm_call {f : τ → Option (List α)} {r : List α} (h : EAM K F Kn0 sl ow ta ow1 t) (hf : f t = some r) : ENM K F Kn0 sl ow (tCall (PL K f) [] E ta) ow1 r := fun σ Kn H s Q q =>
  h σ Kn H s _ fun vs Kn1 H1 e1 s1 r1 => by
    show PL K f (vs ++ []) H1 Q E
    rw [List.append_nil]
    exact ⟨Kn1, t, r, s1.ek, r1, hf, fun p ws Kn' H' g' hp kp hw r' => q p ws Kn' H' (e1.trans g'.kk) (s1.grow g') (fresh_back s1.ef hp) kp (owned_ne s1 hp) hw r'⟩
theorem ow_at {ow : List Ow} (h : (ow.map Ow.ad).Nodup) {i j : Nat} {o u : Ow} (hi : ow[i]? = some o) (hj : ow[j]? = some u) (e : o.ad = u.ad) : i = j := by
  have a1 : (ow.map Ow.ad)[i]? = some o.ad := by rw [List.getElem?_map, hi]; rfl
  have a2 : (ow.map Ow.ad)[j]? = some o.ad := by rw [List.getElem?_map, hj, e]; rfl
  exact nd_ix h a1 a2
/-- the object at place j is another one now, all else as it was -/
theorem S.write {σ : L2.St} {Kn H Kn' H' : Hp} {p : Addr} {xs xs' : List β} {ws : List V} {j : Nat} (s : S K F Kn0 sl ow σ Kn H) (hj : ow[j]? = some (ol p xs)) (kk : Ex Kn Kn') (kh : Ex Kn' H')
    (hq : ∀ q, q ≠ p → H q ≠ none → H' q = H q) (sp : ∀ q, H q ≠ none → Kn q = none → Kn' q = none) (hp : H' p = some (.lst ws)) (r : Paired (rep K Kn') ws xs') : S K F Kn0 sl (ow.set j (ol p xs')) σ Kn' H' := by
  obtain ⟨f1, f2, f3⟩ := s.ow.each _ (List.mem_of_getElem? hj)
  have f1 : F p = none := f1
  have f2 : Kn p = none := f2
  have f4 : H p ≠ none := Ow.there f3
  have jl : j < ow.length := (List.getElem?_eq_some_iff.mp hj).1
  refine ⟨s.e0.trans kk, kh, fun a u h => ?_, fun a h1 h2 => sp a (Ex.nn s.ef h1) (s.sep a h1 h2), s.sl.mono kk, ⟨fun o ho => ?_, ?_⟩⟩
  · have hne : a ≠ p := fun z => by rw [z, f1] at h; cases h
    rw [hq a hne (ne_none_of (s.ef _ _ h))]
    exact s.ef _ _ h
  · obtain ⟨i, hi⟩ := List.getElem?_of_mem ho
    by_cases e : i = j
    · subst e
      rw [List.getElem?_set_self jl] at hi
      cases hi
      exact ⟨f1, sp p f4 f2, ws, hp, r⟩
    · rw [List.getElem?_set_ne (Ne.symm e)] at hi
      obtain ⟨h1, h2, h3⟩ := s.ow.each o (List.mem_of_getElem? hi)
      have h4 := Ow.there h3
      have hne : o.ad ≠ p := fun z => e (ow_at s.ow.nd hi hj z)
      exact ⟨h1, sp _ h4 h2, Ow.ok_mono kk (hq _ hne h4) h3⟩
  · have e : (ow.set j (ol p xs')).map Ow.ad = ow.map Ow.ad := by
      rw [List.map_set]
      refine List.ext_getElem? fun i => ?_
      by_cases e : j = i
      · subst e
        rw [List.getElem?_set_self (by rw [List.length_map]; exact jl), List.getElem?_map, hj]
        rfl
      · rw [List.getElem?_set_ne e]
    rw [e]
    exact s.ow.nd
theorem em_callM {f : List β → τ → Option (α × List β)} {r : α} {i j : Nat} {p : Addr} {xs xs' : List β} (hi : sl[i]? = some (.at p)) (h : EAM K F Kn0 sl ow ta ow1 t) (hj : ow1[j]? = some (ol p xs)) (hf : f xs t = some (r, xs')) :
    EM K F Kn0 sl ow (tCall (PM K f) [] E (tCons (tVar i) ta)) (ow1.set j (ol p xs')) r := fun σ Kn H s Q q => by
  obtain ⟨o, h1, h2⟩ := s.sl.get hi
  refine ⟨.ref p, by rw [h1]; exact congrArg some h2, h σ Kn H s _ fun vs Kn1 H1 e1 s1 r1 => ?_⟩
  show PM K f ((.ref p :: vs) ++ []) H1 Q E
  rw [List.append_nil]
  obtain ⟨f1, f2, ws, f3, f4⟩ := s1.ow.each _ (List.mem_of_getElem? hj)
  exact ⟨Kn1, p, ws, vs, t, xs, r, xs', rfl, s1.ek, f2, f3, f4, r1, hf, fun v Kn' H' ws' kk kh hq sp hp rr rv => q v Kn' H' (e1.trans kk) (s1.write hj kk kh hq sp hp rr) rv⟩
end

/-! ### statements -/
section
variable (K : Fg) (F Kn0 : Hp) (sl : List Sl) (ow : List Ow)
def SN (D : Ends) : Prop := ∀ σ Kn H, S K F Kn0 sl ow σ Kn H → D.nx σ H
def SC (D : Ends) : Prop := ∀ σ Kn H, S K F Kn0 sl ow σ Kn H → D.ct σ H
def SK (D : Ends) : Prop := ∀ σ Kn H, S K F Kn0 sl ow σ Kn H → D.bk σ H
end
section
variable {K : Fg} {F Kn0 : Hp} {sl sl' : List Sl} {ow ow0 ow1 ow2 : List Ow} {α β γ τ : Type} [Rp α] [Rp β] [Rp γ] [Tp τ] {ta tb te : TE} {x : α} {D : Ends} {t u tz : TS} {tt : TT} {b : Bool} {i j : Nat} {p : Addr}
theorem SB.seq (h : SB K F Kn0 sl ow { D with nx := tz D } t) : SB K F Kn0 sl ow D (tSeq t tz) := h
theorem SB.le (h : SB K F Kn0 sl' ow D t) (l : SlLe sl sl') : SB K F Kn0 sl ow D t := fun σ Kn H s => h σ Kn H (s.le l)
theorem SB.sub (h : SB K F Kn0 sl ow1 D t) (l : ow1.Sublist ow) : SB K F Kn0 sl ow D t := fun σ Kn H s => h σ Kn H (s.sub l)
theorem SN.le (h : SN K F Kn0 sl' ow D) (l : SlLe sl sl') : SN K F Kn0 sl ow D := fun σ Kn H s => h σ Kn H (s.le l)
theorem SN.sub (h : SN K F Kn0 sl ow1 D) (l : ow1.Sublist ow) : SN K F Kn0 sl ow D := fun σ Kn H s => h σ Kn H (s.sub l)
theorem EN.le {xs : List α} (h : EN K F Kn0 sl' ow te xs) (l : SlLe sl sl') : EN K F Kn0 sl ow te xs := fun σ Kn H s => h σ Kn H (s.le l)
theorem EV.le (h : EV K F Kn0 sl' ow te x) (l : SlLe sl sl') : EV K F Kn0 sl ow te x := fun σ Kn H s => h σ Kn H (s.le l)
theorem sb_nx (k : SN K F Kn0 sl ow D) : SB K F Kn0 sl ow D tNext := k
theorem sb_ct (k : SC K F Kn0 sl ow D) : SB K F Kn0 sl ow D tCont := k
theorem sb_bk (k : SK K F Kn0 sl ow D) : SB K F Kn0 sl ow D tBreak := k
theorem sb_asg (hs : sl.set i (sv x) = sl') (h : EV K F Kn0 sl ow te x) (k : SN K F Kn0 sl' ow D) : SB K F Kn0 sl ow D (tAsg te (gName i)) := fun σ Kn H s =>
  h σ Kn H s _ fun v Kn1 H1 g1 r1 => k _ Kn1 H1 (hs ▸ (s.grow g1).setv i r1)
theorem sb_asgM (hs : sl.set i (sv x) = sl') (h : EM K F Kn0 sl ow te ow1 x) (k : SN K F Kn0 sl' ow1 D) : SB K F Kn0 sl ow D (tAsg te (gName i)) := fun σ Kn H s =>
  h σ Kn H s _ fun v Kn1 H1 e1 s1 r1 => k _ Kn1 H1 (hs ▸ s1.setv i r1)
/-- a new object is one's own -/
theorem S.own {σ : L2.St} {Kn H : Hp} {xs : List α} {ws : List V} (s : S K F Kn0 sl ow σ Kn H) (fp : F p = none) (kp : Kn p = none) (no : ∀ o ∈ ow, o.ad ≠ p) (hp : H p = some (.lst ws)) (r : Paired (rep K Kn) ws xs) : S K F Kn0 sl (ol p xs :: ow) σ Kn H :=
  ⟨s.e0, s.ek, s.ef, s.sep, s.sl, ⟨fun o ho => by
    rcases List.mem_cons.mp ho with rfl | ho
    · exact ⟨fp, kp, ws, hp, r⟩
    · exact s.ow.each o ho, List.nodup_cons.mpr ⟨fun h => by
      obtain ⟨o, ho, e⟩ := List.mem_map.mp h
      exact no o ho e, s.ow.nd⟩⟩⟩
theorem S.seta {σ : L2.St} {Kn H : Hp} (s : S K F Kn0 sl ow σ Kn H) (i : Nat) : S K F Kn0 (sl.set i (.at p)) ow (σ.set i (some (.ref p))) Kn H := s.set i rfl
theorem sb_asgO {xs : List α} {sl' : Addr → List Sl} (hs : ∀ p, sl.set i (.at p) = sl' p) (h : EN K F Kn0 sl ow te xs) (k : ∀ p, SN K F Kn0 (sl' p) (ol p xs :: ow) D) : SB K F Kn0 sl ow D (tAsg te (gName i)) := fun σ Kn H s =>
  h σ Kn H s _ fun p ws Kn1 H1 g1 hp kp hw r1 => k p _ Kn1 H1 (hs p ▸ ((s.grow g1).own (fresh_back s.ef hp) kp (owned_ne s hp) hw r1).seta i)
theorem sb_asgOM {xs : List α} {sl' : Addr → List Sl} (hs : ∀ p, sl.set i (.at p) = sl' p) (h : ENM K F Kn0 sl ow te ow1 xs) (k : ∀ p, SN K F Kn0 (sl' p) (ol p xs :: ow1) D) : SB K F Kn0 sl ow D (tAsg te (gName i)) := fun σ Kn H s =>
  h σ Kn H s _ fun p ws Kn1 H1 e1 s1 fp kp no hw r1 => k p _ Kn1 H1 (hs p ▸ (s1.own fp kp no hw r1).seta i)
theorem sb_aug {a c : Int} {f : Int → Int → Int} (hi : sl[i]? = some (sv a)) (hs : sl.set i (sv (f a c)) = sl') (h : EV K F Kn0 sl ow te c) (k : SN K F Kn0 sl' ow D) : SB K F Kn0 sl ow D (tAug i te (ipI f)) := fun σ Kn H s => by
  obtain ⟨o, h1, v, h2, h3⟩ := s.sl.get hi
  cases h3
  exact ⟨.int a, by rw [h1, h2], h σ Kn H s _ fun v Kn1 H1 g1 r1 => ⟨a, c, rfl, r1, k _ Kn1 H1 (hs ▸ (s.grow g1).setv (x := f a c) i rfl)⟩⟩
theorem sb_drop (h : EV K F Kn0 sl ow te x) (k : SN K F Kn0 sl ow D) : SB K F Kn0 sl ow D (tDrop te) := fun σ Kn H s => h σ Kn H s _ fun v Kn1 H1 g1 r1 => k _ Kn1 H1 (s.grow g1)
theorem sb_dropM (h : EM K F Kn0 sl ow te ow1 x) (k : SN K F Kn0 sl ow1 D) : SB K F Kn0 sl ow D (tDrop te) := fun σ Kn H s => h σ Kn H s _ fun v Kn1 H1 e1 s1 r1 => k _ Kn1 H1 s1
theorem upd_in {Kn H : Hp} {o : HO} (ek : Ex Kn H) (kp : Kn p = none) : Ex Kn (upd H p o) := fun a u h => by
  have hq : a ≠ p := fun z => by rw [z, kp] at h; cases h
  rw [upd_ne hq]
  exact ek _ _ h
/-- found.append(e) -/
theorem sb_app {xs : List α} (hi : sl[i]? = some (.at p)) (hj : ow[j]? = some (ol p xs)) (h : EV K F Kn0 sl ow te x) (hz : xs.length < 1000000) (k : SN K F Kn0 sl (ow.set j (ol p (xs ++ [x]))) D) :
    SB K F Kn0 sl ow D (tDrop (tBM K "list" rAppend (tVar i) (tCons te tNil))) := fun σ Kn H s => by
  obtain ⟨o, h1, h2⟩ := s.sl.get hi
  obtain ⟨f1, f2, ws, f3, f4⟩ := s.ow.each _ (List.mem_of_getElem? hj)
  refine ⟨.ref p, by rw [h1]; exact congrArg some h2, Or.inl ⟨rfl, ws, sq_of f3⟩, h σ Kn H s _ fun v Kn1 H1 g1 r1 => ?_⟩
  refine ⟨p, ws, v, rfl, rfl, g1.hh _ _ f3, by rw [paired_len f4]; exact lt_line hz, k _ Kn1 _ ?_⟩
  have kp1 : Kn1 p = none := g1.sp p (ne_none_of f3) f2
  exact (s.grow g1).write hj (Ex.refl _) (upd_in g1.kh kp1) (fun q hq _ => upd_ne hq) (fun _ _ h => h) upd_same (paired_append (paired_mono g1.kk f4) (.cons r1 .nil))
theorem sb_appM {xs : List α} (hi : sl[i]? = some (.at p)) (hi0 : ow[j]? = some (ol p xs)) (h : EM K F Kn0 sl ow te ow1 x) (hj : ow1[j]? = some (ol p xs)) (hz : xs.length < 1000000) (k : SN K F Kn0 sl (ow1.set j (ol p (xs ++ [x]))) D) :
    SB K F Kn0 sl ow D (tDrop (tBM K "list" rAppend (tVar i) (tCons te tNil))) := fun σ Kn H s => by
  obtain ⟨o, h1, h2⟩ := s.sl.get hi
  obtain ⟨_, _, ws0, f0, _⟩ := s.ow.each _ (List.mem_of_getElem? hi0)
  refine ⟨.ref p, by rw [h1]; exact congrArg some h2, Or.inl ⟨rfl, ws0, sq_of f0⟩, h σ Kn H s _ fun v Kn1 H1 e1 s1 r1 => ?_⟩
  obtain ⟨f1, f2, ws, f3, f4⟩ := s1.ow.each _ (List.mem_of_getElem? hj)
  refine ⟨p, ws, v, rfl, rfl, f3, by rw [paired_len f4]; exact lt_line hz, k _ Kn1 _ ?_⟩
  exact s1.write hj (Ex.refl _) (upd_in s1.ek f2) (fun q hq _ => upd_ne hq) (fun _ _ h => h) upd_same (paired_append f4 (.cons r1 .nil))
/-- the place of a written index -/
def setI {α : Type} (xs : List α) (i : Int) (x : α) : Option (List α) := (ixN xs.length i).map fun j => xs.set j x
/-- found[e] = x -/
theorem sb_setI {xs xs' : List α} {n : Int} (hi : sl[i]? = some (.at p)) (hj : ow[j]? = some (ol p xs)) (h : EV K F Kn0 sl ow te x) (hn : EV K F Kn0 sl ow tb n) (hx : setI xs n x = some xs') (k : SN K F Kn0 sl (ow.set j (ol p xs')) D) :
    SB K F Kn0 sl ow D (tAsg te (gSub (tVar i) tb rSetL)) := fun σ Kn H s => h σ Kn H s _ fun v Kn1 H1 g1 r1 => by
  obtain ⟨o, h1, h2⟩ := s.sl.get hi
  refine ⟨.ref p, by rw [h1]; exact congrArg some h2, hn σ Kn1 H1 (s.grow g1) _ fun w Kn2 H2 g2 r2 => ?_⟩
  have s2 := (s.grow g1).grow g2
  obtain ⟨f1, f2, ws, f3, f4⟩ := s2.ow.each _ (List.mem_of_getElem? hj)
  unfold setI at hx
  cases e : ixN xs.length n with
  | none => rw [e] at hx; cases hx
  | some m =>
    rw [e] at hx
    cases hx
    cases r2
    refine ⟨p, ws, n, m, rfl, rfl, f3, by rw [paired_len f4]; exact e, k _ Kn2 _ ?_⟩
    exact s2.write hj (Ex.refl _) (upd_in g2.kh f2) (fun q hq _ => upd_ne hq) (fun _ _ h => h) upd_same (paired_set (Rp.mono g2.kk r1) m f4)
/-- from now on it is known and stays as it is -/
theorem sb_freeze {xs : List α} (hi : sl[i]? = some (.at p)) (hj : ow[j]? = some (ol p xs)) (hs : sl.set i (sv xs) = sl') (ho : ow.eraseIdx j = ow1) (k : SB K F Kn0 sl' ow1 D t) : SB K F Kn0 sl ow D t := fun σ Kn H s => by
  obtain ⟨o, h1, h2⟩ := s.sl.get hi
  have h2 : o = some (.ref p) := h2
  obtain ⟨f1, f2, ws, f3, f4⟩ := s.ow.each _ (List.mem_of_getElem? hj)
  have hsub : ow1.Sublist ow := ho ▸ List.eraseIdx_sublist ow j
  have s1 := s.sub hsub
  have no : ∀ o ∈ ow1, o.ad ≠ p := fun o hm z => by
    have hnd := s.ow.nd
    subst ho
    obtain ⟨m, hm'⟩ := List.getElem?_of_mem hm
    rw [List.getElem?_eraseIdx] at hm'
    split at hm'
    · rename_i hlt
      have := ow_at hnd hm' hj z
      omega
    · rename_i hge
      have := ow_at hnd hm' hj z
      omega
  have s2 := s1.know (o := .lst ws) f1 f2 no f3
  have hσ : σ.set i o = σ := by
    refine List.ext_getElem? fun m => ?_
    by_cases e : i = m
    · subst e
      rw [List.getElem?_set_self (List.getElem?_eq_some_iff.mp h1).1, h1]
    · rw [List.getElem?_set_ne e]
  have s3 := s2.set (x := sv xs) (o := o) i ⟨.ref p, h2, p, ws, rfl, upd_same, paired_mono (Ex.new f2) f4⟩
  rw [hs, hσ] at s3
  exact k σ _ H s3
theorem sb_if (h : ET K F Kn0 sl ow tt b) (h1 : b = true → SB K F Kn0 sl ow D t) (h2 : b = false → SB K F Kn0 sl ow D u) : SB K F Kn0 sl ow D (tIfS tt t u) := fun σ Kn H s => h σ Kn H s _ fun Kn1 H1 g1 => by
  cases b with
  | true => exact iteT (h1 rfl σ Kn1 H1 (s.grow g1))
  | false => exact iteF (h2 rfl σ Kn1 H1 (s.grow g1))
theorem sb_cut (h : SB K F Kn0 sl ow { D with nx := fun σ H => ∃ Kn, S K F Kn0 sl' ow1 σ Kn H } t) (k : SB K F Kn0 sl' ow1 D tz) : SB K F Kn0 sl ow D (tCut t tz) := fun σ Kn H s => ⟨_, h σ Kn H s, fun σ' H' ⟨Kn', s'⟩ => k σ' Kn' H' s'⟩
theorem sn_mid (l : SlLe sl sl') (l2 : ow1.Sublist ow) : SN K F Kn0 sl ow { D with nx := fun σ H => ∃ Kn, S K F Kn0 sl' ow1 σ Kn H } := fun σ Kn H s => ⟨Kn, (s.le l).sub l2⟩
/-- returns -/
theorem sb_ret {R : VK} (h : EV K F Kn0 sl ow te x) (q : RT K F Kn0 ow0 R x) (l : ow0.Sublist ow) (hR : D.rt = R := by rfl) : SB K F Kn0 sl ow D (tRet te) := fun σ Kn H s => by
  subst hR
  exact h σ Kn H s _ fun v Kn1 H1 g1 r1 => q v Kn1 H1 ((s.grow g1).sub l).fin r1
theorem sb_retM {R : VK} (h : EM K F Kn0 sl ow te ow1 x) (q : RT K F Kn0 ow0 R x) (l : ow0.Sublist ow1) (hR : D.rt = R := by rfl) : SB K F Kn0 sl ow D (tRet te) := fun σ Kn H s => by
  subst hR
  exact h σ Kn H s _ fun v Kn1 H1 e1 s1 r1 => q v Kn1 H1 (s1.sub l).fin r1
theorem sb_retL {R : VK} {xs : List α} (h : EN K F Kn0 sl ow te xs) (q : RN K F Kn0 ow0 R xs) (l : ow0.Sublist ow) (hR : D.rt = R := by rfl) : SB K F Kn0 sl ow D (tRet te) := fun σ Kn H s => by
  subst hR
  exact h σ Kn H s _ fun p ws Kn1 H1 g1 hp kp hw r1 => q p ws Kn1 H1 ((s.grow g1).sub l).fin (fresh_back s.ef hp) kp hw r1
/-- a list of one's own is told -/
theorem sb_retO {R : VK} {xs : List α} (hi : sl[i]? = some (.at p)) (hj : ow[j]? = some (ol p xs)) (q : RN K F Kn0 ow0 R xs) (l : ow0.Sublist ow) (hR : D.rt = R := by rfl) : SB K F Kn0 sl ow D (tRet (tVar i)) := fun σ Kn H s => by
  subst hR
  obtain ⟨o, h1, h2⟩ := s.sl.get hi
  obtain ⟨f1, f2, ws, f3, f4⟩ := s.ow.each _ (List.mem_of_getElem? hj)
  exact ⟨.ref p, by rw [h1]; exact congrArg some h2, q p ws Kn H (s.sub l).fin f1 f2 f3 f4⟩
theorem SB.seqB (h : (∀ sl' ow', SB K F Kn0 sl' ow' D tz → SN K F Kn0 sl' ow' { D with nx := tz D }) → SB K F Kn0 sl ow { D with nx := tz D } t) : SB K F Kn0 sl ow D (tSeq t tz) := h fun _ _ k => k
theorem SB.cutB (h : (∀ sl2 ow2, SlLe sl2 sl' → ow1.Sublist ow2 → SN K F Kn0 sl2 ow2 { D with nx := fun σ H => ∃ Kn, S K F Kn0 sl' ow1 σ Kn H }) → SB K F Kn0 sl ow { D with nx := fun σ H => ∃ Kn, S K F Kn0 sl' ow1 σ Kn H } t) (k : SB K F Kn0 sl' ow1 D tz) : SB K F Kn0 sl ow D (tCut t tz) :=
  sb_cut (h fun _ _ l l2 => sn_mid l l2) k
end

/-! ### targets -/
section
variable {α β τ : Type} [Rp α] [Rp β] [Tp τ] {sl sl' sl2 : List Sl} {K : Fg}
theorem wipe_set : ∀ {vs : List Nat} {i : Nat} {o : Option V} {σ : L2.St}, i ∈ vs → wipe (σ.set i o) vs = wipe σ vs
  | v :: vs, i, o, σ, h => by
    by_cases e : i ∈ vs
    · unfold wipe
      rw [wipe_set e]
    · have hv : i = v := (List.mem_cons.mp h).resolve_right e
      subst hv
      have w : ∀ (vs : List Nat) (σ : L2.St), i ∉ vs → wipe (σ.set i o) vs = (wipe σ vs).set i o := by
        intro vs
        induction vs with
        | nil => intro σ _; rfl
        | cons a r ih =>
          intro σ hn
          show (wipe (σ.set i o) r).set a none = ((wipe σ r).set a none).set i o
          rw [ih σ (fun z => hn (List.mem_cons_of_mem _ z)), List.set_comm]
          exact fun z => hn (by rw [z]; exact List.mem_cons_self)
      show (wipe (σ.set i o) vs).set i none = (wipe σ vs).set i none
      rw [w vs σ e, List.set_set]
def GT (K : Fg) (g : TG) (sl sl' : List Sl) (js : List Nat) (x : α) : Prop := ∀ σ Kn H v, SlsOk K Kn sl σ → Ex Kn H → rep K Kn v x → ∀ Q : L2.St → Hp → Prop, (∀ σ', SlsOk K Kn sl' σ' → (∀ vs, (∀ j ∈ js, j ∈ vs) → wipe σ' vs = wipe σ vs) → Q σ' H) → g v σ H Q
def GTs (K : Fg) (g : TGs) (sl sl' : List Sl) (js : List Nat) (t : τ) : Prop := ∀ σ Kn H vs, SlsOk K Kn sl σ → Ex Kn H → rept K Kn vs t → ∀ Q : L2.St → Hp → Prop, (∀ σ', SlsOk K Kn sl' σ' → (∀ vs, (∀ j ∈ js, j ∈ vs) → wipe σ' vs = wipe σ vs) → Q σ' H) → g vs σ H Q
theorem gt_name {i : Nat} {x : α} (hs : sl.set i (sv x) = sl') : GT K (gName i) sl sl' [i] x := fun σ Kn H v s ek r Q q => q _ (hs ▸ SlsOk.set (s := sv x) ⟨v, rfl, r⟩ i s) fun vs h => wipe_set (h i (by simp))
theorem gts_nil : GTs K gNil sl sl [] () := fun σ Kn H vs s ek r Q q => ⟨r, q σ s fun _ _ => rfl⟩
theorem gts_cons {g : TG} {gs : TGs} {js ks : List Nat} {x : α} {t : τ} (h1 : GT K g sl sl' js x) (h2 : GTs K gs sl' sl2 ks t) : GTs K (gCons g gs) sl sl2 (js ++ ks) (x, t) := fun σ Kn H vs s ek r Q q => by
  obtain ⟨v, rest, rfl, r1, r2⟩ := r
  exact ⟨v, rest, rfl, h1 σ Kn H v s ek r1 _ fun σ1 s1 w1 => h2 σ1 Kn H rest s1 ek r2 _ fun σ2 s2 w2 => q σ2 s2 fun vs h => (w2 vs fun j hj => h j (List.mem_append_right _ hj)).trans (w1 vs fun j hj => h j (List.mem_append_left _ hj))⟩
theorem gt_tup {gs : TGs} {js : List Nat} {n : Nat} {t : α × τ} (h : GTs K gs sl sl' js t) (hn : Tp.n (α × τ) = n := by rfl) : GT K (gTup K n gs) sl sl' js t := fun σ Kn H v s ek r Q q => by
  obtain ⟨p, ws, rfl, h1, h2⟩ := r
  exact ⟨p, ws, rfl, st_of (ek _ _ h1), (Tp.len h2).trans hn, h σ Kn H ws s ek h2 Q q⟩
end
section
variable {K : Fg} {F Kn0 : Hp} {sl sl' : List Sl} {ow ow1 : List Ow} {α : Type} [Rp α] {te : TE} {x : α} {D : Ends} {g : TG} {js : List Nat}
/-- a, b = e -/
theorem sb_unp (h : EV K F Kn0 sl ow te x) (hg : GT K g sl sl' js x) (k : SN K F Kn0 sl' ow D) : SB K F Kn0 sl ow D (tAsg te g) := fun σ Kn H s =>
  h σ Kn H s _ fun v Kn1 H1 g1 r1 => by
    have s1 := s.grow g1
    exact hg σ Kn1 H1 v s1.sl s1.ek r1 _ fun σ' h' _ => k σ' Kn1 H1 ⟨s1.e0, s1.ek, s1.ef, s1.sep, h', s1.ow⟩
theorem sb_unpM (h : EM K F Kn0 sl ow te ow1 x) (hg : GT K g sl sl' js x) (k : SN K F Kn0 sl' ow1 D) : SB K F Kn0 sl ow D (tAsg te g) := fun σ Kn H s =>
  h σ Kn H s _ fun v Kn1 H1 e1 s1 r1 => hg σ Kn1 H1 v s1.sl s1.ek r1 _ fun σ' h' _ => k σ' Kn1 H1 ⟨s1.e0, s1.ek, s1.ef, s1.sep, h', s1.ow⟩
/-- a, b = e1, e2 -/
theorem sb_par {α β : Type} [Rp α] [Rp β] {ta : TA} {i j : Nat} {x : α} {y : β} (hs : (sl.set i (sv x)).set j (sv y) = sl') (h : EA K F Kn0 sl ow ta (x, y, ())) (k : SN K F Kn0 sl' ow D) : SB K F Kn0 sl ow D (tPar i j ta) := fun σ Kn H s =>
  h σ Kn H s _ fun vs Kn1 H1 g1 r1 => by
    obtain ⟨v, w, rfl, h1, h2⟩ := two_args r1
    exact ⟨v, w, rfl, k _ Kn1 H1 (hs ▸ ((s.grow g1).setv i h1).setv j h2)⟩
end

/-! ### what is walked -/
def WK {β : Type} [Rp β] (K : Fg) (Kn1 : Hp) (J : It) (xs : List β) : Prop := ∀ i Kn' H', Ex Kn1 Kn' → Ex Kn' H' →
  (∀ x, xs[i]? = some x → J.go i H' ∧ ∀ v H2, J.yld i H' v H2 → ∃ Kn2, Gr Kn' H' Kn2 H2 ∧ rep K Kn2 v x) ∧ (xs.length ≤ i → J.stop i H')
section
variable (K : Fg) (F Kn0 : Hp) (sl : List Sl) (ow : List Ow)
def IT {β : Type} [Rp β] (wi : TI) (xs : List β) : Prop := ∀ σ Kn H, S K F Kn0 sl ow σ Kn H → ∀ R : It → Hp → Prop, (∀ J Kn1 H1, Gr Kn H Kn1 H1 → WK K Kn1 J xs → R J H1) → wi σ H R
def ITM {β : Type} [Rp β] (wi : TI) (ow' : List Ow) (xs : List β) : Prop := ∀ σ Kn H, S K F Kn0 sl ow σ Kn H → ∀ R : It → Hp → Prop, (∀ J Kn1 H1, Ex Kn Kn1 → S K F Kn0 sl ow' σ Kn1 H1 → WK K Kn1 J xs → R J H1) → wi σ H R
end
/-- lo, lo + 1 .. below hi -/
def irange (lo hi : Int) : List Int := (List.range (hi - lo).toNat).map fun (k : Nat) => lo + (k : Int)
def rngO (lo hi : Int) : Option (List Int) := if -1000000000000 ≤ lo ∧ lo ≤ 1000000000000 ∧ -1000000000000 ≤ hi ∧ hi ≤ 1000000000000 then some (irange lo hi) else none
def enumI {α : Type} (xs : List α) : List (Int × α × Unit) := xs.mapIdx fun i x => ((i : Int), x, ())
def zipI {α β : Type} (xs : List α) (ys : List β) : List (α × β × Unit) := List.zipWith (fun a b => (a, b, ())) xs ys
section
variable {K : Fg} {F Kn0 : Hp} {sl sl' : List Sl} {ow ow1 : List Ow} {α β : Type} [Rp α] [Rp β] {te : TE} {ta : TA}
theorem IT.m {wi : TI} {xs : List β} (h : IT K F Kn0 sl ow wi xs) : ITM K F Kn0 sl ow wi ow xs := fun σ Kn H s R q => h σ Kn H s R fun J Kn1 H1 g w => q J Kn1 H1 g.kk (s.grow g) w
theorem wk_list {Kn1 : Hp} {p : Addr} {ws : List V} {xs : List α} (h : SqL K Kn1 p ws) (r : Paired (rep K Kn1) ws xs) : WK K Kn1 (Itl K p) xs := fun i Kn' H' e1 e2 => by
  have hq : SqL K H' p ws := ex_l (e1.trans e2) h
  refine ⟨fun x hx => ?_, fun hl => ⟨ws, hq, by rw [paired_len r]; exact hl⟩⟩
  obtain ⟨v, hv, rv⟩ := paired_at r hx
  refine ⟨⟨ws, v, hq, hv⟩, fun u H2 hy => ?_⟩
  obtain ⟨rfl, f⟩ := hy
  have : v = u := Option.some.inj (hv.symm.trans (f ws hq))
  subst this
  exact ⟨Kn', Gr.refl e2, Rp.mono e1 rv⟩
theorem it_list {xs : List α} (h : EV K F Kn0 sl ow te xs) : IT K F Kn0 sl ow (iList K te) xs := fun σ Kn H s R q => h σ Kn H s _ fun v Kn1 H1 g1 r1 => by
  obtain ⟨p, ws, rfl, h3, h4⟩ := r1
  exact ⟨p, rfl, ⟨ws, sq_of (g1.kh _ _ h3)⟩, q _ Kn1 H1 g1 (wk_list (sq_of h3) h4)⟩
theorem it_listF {xs : Fz α} (h : EV K F Kn0 sl ow te xs) : IT K F Kn0 sl ow (iList K te) xs.l := fun σ Kn H s R q => h σ Kn H s _ fun v Kn1 H1 g1 r1 => by
  obtain ⟨p, ws, rfl, h3, h4⟩ := r1
  exact ⟨p, rfl, ⟨ws, ex_l g1.kh h3⟩, q _ Kn1 H1 g1 (wk_list h3 h4)⟩
theorem itm_list {xs : List α} (h : ENM K F Kn0 sl ow te ow1 xs) : ITM K F Kn0 sl ow (iList K te) ow1 xs := fun σ Kn H s R q => h σ Kn H s _ fun p ws Kn1 H1 e1 s1 fp kp no hw r1 => by
  have s2 := s1.know (o := .lst ws) fp kp no hw
  exact ⟨p, rfl, ⟨ws, sq_of hw⟩, q _ _ H1 (e1.trans (Ex.new kp)) s2 (wk_list (sq_of upd_same) (paired_mono (Ex.new kp) r1))⟩
theorem it_tup {xs : Tu α} (h : EV K F Kn0 sl ow te xs) : IT K F Kn0 sl ow (iTup K te) xs.l := fun σ Kn H s R q => h σ Kn H s _ fun v Kn1 H1 g1 r1 => by
  obtain ⟨p, ws, rfl, h3, h4⟩ := r1
  refine ⟨p, rfl, ⟨ws, st_of (g1.kh _ _ h3)⟩, q _ Kn1 H1 g1 fun i Kn' H' e1 e2 => ?_⟩
  have hq : SqT K H' p ws := st_of ((e1.trans e2) _ _ h3)
  refine ⟨fun x hx => ?_, fun hl => ⟨ws, hq, by rw [paired_len h4]; exact hl⟩⟩
  obtain ⟨v, hv, rv⟩ := paired_at h4 hx
  refine ⟨⟨ws, v, hq, hv⟩, fun u H2 hy => ?_⟩
  obtain ⟨rfl, f⟩ := hy
  have : v = u := Option.some.inj (hv.symm.trans (f ws hq))
  subst this
  exact ⟨Kn', Gr.refl e2, Rp.mono e1 rv⟩
theorem wk_range {Kn1 : Hp} (lo hi : Int) : WK K Kn1 (Itr lo (hi - lo).toNat) (irange lo hi) := fun i Kn' H' e1 e2 => by
  refine ⟨fun x hx => ?_, fun hl => ?_⟩
  · unfold irange at hx
    rw [List.getElem?_map] at hx
    cases q : (List.range (hi - lo).toNat)[i]? with
    | none => rw [q] at hx; cases hx
    | some m =>
      rw [q] at hx
      obtain ⟨hlt, he⟩ := List.getElem?_eq_some_iff.mp q
      rw [List.getElem_range] at he
      rw [List.length_range] at hlt
      subst he
      cases hx
      refine ⟨hlt, fun v H2 hy => ?_⟩
      obtain ⟨rfl, rfl⟩ := hy
      exact ⟨Kn', Gr.refl e2, rfl⟩
  · unfold irange at hl
    rw [List.length_map, List.length_range] at hl
    exact hl
theorem it_rng1 {n : Int} {xs : List Int} (h : EA K F Kn0 sl ow ta (n, ())) (hx : rngO 0 n = some xs) : IT K F Kn0 sl ow (iRng1 ta) xs := fun σ Kn H s R q => h σ Kn H s _ fun vs Kn1 H1 g1 r1 => by
  obtain ⟨v, rfl, h1⟩ := one_arg r1
  cases h1
  unfold rngO at hx
  split at hx
  · rename_i hb
    cases hx
    refine ⟨n, rfl, by omega, by omega, q _ Kn1 H1 g1 ?_⟩
    have w := wk_range (K := K) (Kn1 := Kn1) 0 n
    rw [Int.sub_zero] at w
    exact w
  · cases hx
theorem itm_rng1 {n : Int} {xs : List Int} (h : EAM K F Kn0 sl ow ta ow1 (n, ())) (hx : rngO 0 n = some xs) : ITM K F Kn0 sl ow (iRng1 ta) ow1 xs := fun σ Kn H s R q => h σ Kn H s _ fun vs Kn1 H1 e1 s1 r1 => by
  obtain ⟨v, rfl, h1⟩ := one_arg r1
  cases h1
  unfold rngO at hx
  split at hx
  · rename_i hb
    cases hx
    refine ⟨n, rfl, by omega, by omega, q _ Kn1 H1 e1 s1 ?_⟩
    have w := wk_range (K := K) (Kn1 := Kn1) 0 n
    rw [Int.sub_zero] at w
    exact w
  · cases hx
theorem it_rng2 {lo n : Int} {xs : List Int} (h : EA K F Kn0 sl ow ta (lo, n, ())) (hx : rngO lo n = some xs) : IT K F Kn0 sl ow (iRng2 ta) xs := fun σ Kn H s R q => h σ Kn H s _ fun vs Kn1 H1 g1 r1 => by
  obtain ⟨v, w, rfl, h1, h2⟩ := two_args r1
  cases h1
  cases h2
  unfold rngO at hx
  split at hx
  · rename_i hb
    cases hx
    exact ⟨lo, n, rfl, ⟨by omega, by omega, by omega, by omega⟩, q _ Kn1 H1 g1 (wk_range lo n)⟩
  · cases hx
theorem enum_get {xs : List α} {i : Nat} {y : Int × α × Unit} (h : (enumI xs)[i]? = some y) : ∃ x, xs[i]? = some x ∧ y = ((i : Int), x, ()) := by
  unfold enumI at h
  rw [List.getElem?_mapIdx] at h
  cases q : xs[i]? with
  | none => rw [q] at h; cases h
  | some x => rw [q] at h; cases h; exact ⟨x, rfl, rfl⟩
theorem wk_enum {Kn1 : Hp} {p : Addr} {ws : List V} {xs : List α} (h : SqL K Kn1 p ws) (r : Paired (rep K Kn1) ws xs) : WK K Kn1 (Ite K p) (enumI xs) := fun i Kn' H' e1 e2 => by
  have hq : SqL K H' p ws := ex_l (e1.trans e2) h
  refine ⟨fun y hy => ?_, fun hl => ⟨ws, hq, by rw [paired_len r]; simpa [enumI] using hl⟩⟩
  obtain ⟨x, hx, rfl⟩ := enum_get hy
  obtain ⟨v, hv, rv⟩ := paired_at r hx
  refine ⟨⟨ws, v, hq, hv⟩, fun u H2 hy => ?_⟩
  obtain ⟨T, z, rfl, hT, rfl, f⟩ := hy
  have : v = z := Option.some.inj (hv.symm.trans (f ws hq))
  subst this
  have g : Gr Kn' H' (upd Kn' T (.tup [.int (i : Nat), v])) (upd H' T (.tup [.int (i : Nat), v])) := Gr.new e2 hT
  exact ⟨_, g, T, _, rfl, upd_same, .int (i : Nat), [v], rfl, rfl, v, [], rfl, Rp.mono (e1.trans g.kk) rv, rfl⟩
theorem it_enum {xs : List α} (h : EA K F Kn0 sl ow ta (xs, ())) : IT K F Kn0 sl ow (iEnum K ta) (enumI xs) := fun σ Kn H s R q => h σ Kn H s _ fun vs Kn1 H1 g1 r1 => by
  obtain ⟨v, rfl, p, ws, rfl, h3, h4⟩ := one_arg r1
  exact ⟨p, ws, rfl, sq_of (g1.kh _ _ h3), q _ Kn1 H1 g1 (wk_enum (sq_of h3) h4)⟩
theorem zip_get {xs : List α} {ys : List β} {i : Nat} {z : α × β × Unit} (h : (zipI xs ys)[i]? = some z) : ∃ x y, xs[i]? = some x ∧ ys[i]? = some y ∧ z = (x, y, ()) := by
  unfold zipI at h
  rw [List.getElem?_zipWith] at h
  cases q : xs[i]? with
  | none => rw [q] at h; simp at h
  | some x =>
    cases q2 : ys[i]? with
    | none => rw [q, q2] at h; simp at h
    | some y =>
      rw [q, q2] at h
      simp at h
      exact ⟨x, y, rfl, rfl, h.symm⟩
theorem it_zip {xs : List α} {ys : List β} (h : EA K F Kn0 sl ow ta (xs, ys, ())) : IT K F Kn0 sl ow (iZip K ta) (zipI xs ys) := fun σ Kn H s R q => h σ Kn H s _ fun vs Kn1 H1 g1 r1 => by
  obtain ⟨v, w, rfl, ⟨p, ws, rfl, h3, h4⟩, ⟨p2, ws2, rfl, h5, h6⟩⟩ := two_args r1
  refine ⟨p, p2, ws, ws2, rfl, sq_of (g1.kh _ _ h3), sq_of (g1.kh _ _ h5), q _ Kn1 H1 g1 fun i Kn' H' e1 e2 => ?_⟩
  have hq : SqL K H' p ws := sq_of ((e1.trans e2) _ _ h3)
  have hq2 : SqL K H' p2 ws2 := sq_of ((e1.trans e2) _ _ h5)
  refine ⟨fun y hy => ?_, fun hl => ⟨ws, ws2, hq, hq2, ?_⟩⟩
  · obtain ⟨x, y, hx, hy2, rfl⟩ := zip_get hy
    obtain ⟨v, hv, rv⟩ := paired_at h4 hx
    obtain ⟨v2, hv2, rv2⟩ := paired_at h6 hy2
    refine ⟨⟨ws, ws2, v, v2, hq, hq2, hv, hv2⟩, fun u H2 hy => ?_⟩
    obtain ⟨T, z, z2, rfl, hT, rfl, f, f2⟩ := hy
    have e3 : v = z := Option.some.inj (hv.symm.trans (f ws hq))
    have e4 : v2 = z2 := Option.some.inj (hv2.symm.trans (f2 ws2 hq2))
    subst e3
    subst e4
    have g : Gr Kn' H' (upd Kn' T (.tup [v, v2])) (upd H' T (.tup [v, v2])) := Gr.new e2 hT
    exact ⟨_, g, T, _, rfl, upd_same, v, [v2], rfl, Rp.mono (e1.trans g.kk) rv, v2, [], rfl, Rp.mono (e1.trans g.kk) rv2, rfl⟩
  · rw [paired_len h4, paired_len h6]
    simp [zipI] at hl
    omega
end

/-! ### loops -/
structure Bs (F Kn0 Kn1 : Hp) : Prop where
  e : Ex Kn0 Kn1
  sp : ∀ p, F p ≠ none → Kn0 p = none → Kn1 p = none
section
variable {K : Fg} {F Kn0 Kn1 : Hp} {sl sl' : List Sl} {ow ow0 ow1 : List Ow} {α β γ : Type} [Rp α] [Rp β] [Rp γ] {D : Ends} {σ : L2.St} {Kn H : Hp}
theorem Bs.refl : Bs F Kn0 Kn0 := ⟨Ex.refl _, fun _ _ h => h⟩
theorem S.bs (s : S K F Kn0 sl ow σ Kn H) : Bs F Kn0 Kn := ⟨s.e0, s.sep⟩
theorem S.rebase (s : S K F Kn0 sl ow σ Kn H) : S K F Kn sl ow σ Kn H := ⟨Ex.refl _, s.ek, s.ef, fun _ _ h => h, s.sl, s.ow⟩
theorem S.unbase (b : Bs F Kn0 Kn1) (s : S K F Kn1 sl ow σ Kn H) : S K F Kn0 sl ow σ Kn H := ⟨b.e.trans s.e0, s.ek, s.ef, fun p h1 h2 => s.sep p h1 (b.sp p h1 h2), s.sl, s.ow⟩
theorem RT.base {R : VK} {x : α} (q : RT K F Kn0 ow R x) (b : Bs F Kn0 Kn1) : RT K F Kn1 ow R x := fun v Kn H s => q v Kn H (s.unbase b)
theorem RN.base {R : VK} {xs : List α} (q : RN K F Kn0 ow R xs) (b : Bs F Kn0 Kn1) : RN K F Kn1 ow R xs := fun p ws Kn H s => q p ws Kn H (s.unbase b)
theorem SN.base (q : SN K F Kn0 sl ow D) (b : Bs F Kn0 Kn1) : SN K F Kn1 sl ow D := fun σ Kn H s => q σ Kn H (s.unbase b)
theorem sb_for {wi : TI} {g : TG} {tb : TS} {Sx : Type} {xs : List β} (slx : Sx → List Sl) (owx : Sx → List Ow) (gx : β → Sx → List Sl) (js : List Nat) (P : List β → Sx → Prop) (s0 : Sx) (hi : ITM K F Kn0 sl ow wi ow1 xs) (h0 : P xs s0) (le : SlLe sl (slx s0)) (eo : (owx s0).Sublist ow1)
    (hg : ∀ x s, GT K g (slx s) (gx x s) js x)
    (step : ∀ Kn1, Bs F Kn0 Kn1 → ∀ x rest s, P (x :: rest) s → ∀ N : L2.St → Hp → Prop, (∀ s', P rest s' → ∀ σ Kn H, S K F Kn1 (slx s') (owx s') σ Kn H → N σ H) → SB K F Kn1 (gx x s) (owx s) { D with nx := N, ct := N, bk := D.nx } tb)
    (done : ∀ s, P [] s → SN K F Kn0 (slx s) (owx s) D) : SB K F Kn0 sl ow D (tFor wi g tb) := fun σ Kn H s =>
  hi σ Kn H s _ fun J Kn1 H1 e1 s1 w => by
    have b : Bs F Kn0 Kn1 := s1.bs
    refine ⟨fun i m σ H => i + m = xs.length ∧ ∃ Kn s, P (xs.drop i) s ∧ S K F Kn1 (slx s) (owx s) σ Kn H, ⟨xs.length, by omega, Kn1, s0, h0, (s1.rebase.le le).sub eo⟩, fun i m σ H hW => ?_⟩
    obtain ⟨em, Kn, s, hP, hS⟩ := hW
    by_cases hlt : i < xs.length
    · have hx : xs[i]? = some xs[i] := List.getElem?_eq_getElem hlt
      have hd : xs.drop i = xs[i] :: xs.drop (i + 1) := List.drop_eq_getElem_cons hlt
      rw [hd] at hP
      obtain ⟨go, yl⟩ := (w i Kn H hS.e0 hS.ek).1 _ hx
      refine .inr ⟨go, fun σ' H' => ∃ Kn s, P (xs.drop (i + 1)) s ∧ S K F Kn1 (slx s) (owx s) σ' Kn H', fun σ' H' ⟨Kn', s', h1, h2⟩ => ⟨m - 1, by omega, by omega, Kn', s', h1, h2⟩, fun v H' hy => ?_⟩
      obtain ⟨Kn2, g2, rv⟩ := yl v H' hy
      have hS2 := hS.grow g2
      refine hg _ s σ Kn2 H' v hS2.sl hS2.ek rv _ fun σ2 h2 _ => ?_
      exact step Kn1 b _ _ s hP _ (fun s' hs' σ Kn H hS' => ⟨Kn, s', hs', hS'⟩) σ2 Kn2 H' ⟨hS2.e0, hS2.ek, hS2.ef, hS2.sep, h2, hS2.ow⟩
    · have hd : xs.drop i = [] := List.drop_eq_nil_of_le (by omega)
      rw [hd] at hP
      exact .inl ⟨(w i Kn H hS.e0 hS.ek).2 (by omega), done s hP σ Kn H (hS.unbase b)⟩
theorem sb_while {tt : TT} {tb : TS} {Sx : Type} (slx : Sx → List Sl) (owx : Sx → List Ow) (P : Nat → Sx → Prop) (n0 : Nat) (s0 : Sx) (h0 : P n0 s0) (le : SlLe sl (slx s0)) (eo : (owx s0).Sublist ow)
    (step : ∀ n s, P n s → ∃ b, ET K F Kn0 (slx s) (owx s) tt b ∧
      (b = true → ∀ N : L2.St → Hp → Prop, (∀ m s', m < n → P m s' → ∀ σ Kn H, S K F Kn0 (slx s') (owx s') σ Kn H → N σ H) → SB K F Kn0 (slx s) (owx s) { D with nx := N, ct := N, bk := D.nx } tb) ∧ (b = false → SN K F Kn0 (slx s) (owx s) D)) :
    SB K F Kn0 sl ow D (tWhile tt tb) := fun σ Kn H s => by
  refine ⟨fun n σ H => ∃ Kn s, P n s ∧ S K F Kn0 (slx s) (owx s) σ Kn H, ⟨n0, Kn, s0, h0, (s.le le).sub eo⟩, fun n σ H hW => ?_⟩
  obtain ⟨Kn, s, hP, hS⟩ := hW
  obtain ⟨b, h1, h2, h3⟩ := step n s hP
  refine h1 σ Kn H hS _ fun Kn1 H1 g1 => ?_
  cases b with
  | true => exact iteT ⟨fun σ H => ∃ m Kn s, m < n ∧ P m s ∧ S K F Kn0 (slx s) (owx s) σ Kn H, fun σ' H' ⟨m, Kn', s', hm, hp, hs⟩ => ⟨m, hm, Kn', s', hp, hs⟩, h2 rfl _ (fun m s' hm hp σ Kn H hs => ⟨m, Kn, s', hm, hp, hs⟩) σ Kn1 H1 (hS.grow g1)⟩
  | false => exact iteF (h3 rfl σ Kn1 H1 (hS.grow g1))
end

/-! ### comprehensions -/
def lcGo {β γ : Type} (c : β → Option Bool) (f : β → Option γ) : List β → Option (List γ)
  | [] => some []
  | x :: xs => (c x).bind fun b => if b = true then (f x).bind fun z => (lcGo c f xs).bind fun zs => some (z :: zs) else lcGo c f xs
def lcM {β γ : Type} (c : β → Option Bool) (f : β → Option γ) (xs : List β) : Option (List γ) := if xs.length < 1000000 then lcGo c f xs else none
def lcSGo {β γ Sx : Type} (f : β → Sx → Option (γ × Sx)) : List β → Sx → Option (List γ × Sx)
  | [], s => some ([], s)
  | x :: xs, s => (f x s).bind fun r => (lcSGo f xs r.2).bind fun q => some (r.1 :: q.1, q.2)
def lcS {β γ Sx : Type} (f : β → Sx → Option (γ × Sx)) (xs : List β) (s : Sx) : Option (List γ × Sx) := if xs.length < 1000000 then lcSGo f xs s else none
section
variable {K : Fg} {F Kn0 : Hp} {sl sl' : List Sl} {ow ow0 ow1 : List Ow} {α β γ : Type} [Rp α] [Rp β] [Rp γ] {σ : L2.St} {Kn H : Hp} {tt : TT} {te : TE} {wi : TI} {g : TG} {vs js : List Nat}
theorem bind_some {α β : Type} {m : Option α} {f : α → Option β} {r : β} (h : m.bind f = some r) : ∃ a, m = some a ∧ f a = some r := by
  cases m with
  | none => cases h
  | some a => exact ⟨a, rfl, h⟩
theorem SlsOk.wipe : ∀ {vs : List Nat} {Kn : Hp} {sl : List Sl} {σ : L2.St}, (∀ j ∈ vs, sl[j]? = some .any) → SlsOk K Kn sl σ → SlsOk K Kn sl (wipe σ vs)
  | [], _, _, _, _, h => h
  | v :: vs, Kn, sl, σ, hv, h => by
    have h1 := SlsOk.wipe (vs := vs) (fun j hj => hv j (List.mem_cons_of_mem _ hj)) h
    have h2 := SlsOk.set (K := K) (H := Kn) (s := .any) (o := none) trivial v h1
    have e : sl.set v .any = sl := by
      refine List.ext_getElem? fun m => ?_
      have hm := hv v List.mem_cons_self
      by_cases q : v = m
      · subst q
        rw [List.getElem?_set_self (List.getElem?_eq_some_iff.mp hm).1, hm]
      · rw [List.getElem?_set_ne q]
    rw [e] at h2
    exact h2
theorem S.wipe (s : S K F Kn0 sl ow σ Kn H) (hv : ∀ j ∈ vs, sl[j]? = some .any) : S K F Kn0 sl ow (wipe σ vs) Kn H := ⟨s.e0, s.ek, s.ef, s.sep, s.sl.wipe hv, s.ow⟩
theorem Gr.mut {Kn' H' : Hp} {p : Addr} {o : HO} (g : Gr Kn H Kn' H') (hp : H p = none) (kp : Kn' p = none) : Gr Kn H Kn' (upd H' p o) :=
  ⟨g.kk, Ex.mut g.hh hp, upd_in g.kh kp, g.sp⟩
theorem S.slots {σ2 : L2.St} (s : S K F Kn0 sl ow σ Kn H) (h : SlsOk K Kn sl' σ2) : S K F Kn0 sl' ow σ2 Kn H := ⟨s.e0, s.ek, s.ef, s.sep, h, s.ow⟩
theorem en_lc {xs : List β} {zs : List γ} {c : β → Option Bool} {f : β → Option γ} (gx : β → List Sl) (hm : lcM c f xs = some zs) (hi : IT K F Kn0 sl ow wi xs) (hv : ∀ j ∈ vs, sl[j]? = some .any) (hg : ∀ x, GT K g sl (gx x) js x) (hj : ∀ j ∈ js, j ∈ vs)
    (ht : ∀ p (acc : List γ) x b, c x = some b → ET K F Kn0 (gx x) (ol p acc :: ow) tt b) (he : ∀ p (acc : List γ) x z, c x = some true → f x = some z → EV K F Kn0 (gx x) (ol p acc :: ow) te z) :
    EN K F Kn0 sl ow (tLc wi g tt te vs) zs := fun σ Kn H s Q q => by
  unfold lcM at hm
  split at hm
  case isFalse => cases hm
  rename_i hlen
  refine hi σ Kn H s _ fun J Kn1 H1 g1 w D hD => ?_
  have s1 := s.grow g1
  have kD : Kn1 D = none := fresh_back s1.ek hD
  have fD : F D = none := fresh_back s1.ef hD
  refine ⟨fun i m H' => i + m = xs.length ∧ ∃ Kn' ws acc rest, Gr Kn1 H1 Kn' H' ∧ Kn' D = none ∧ H' D = some (.lst ws) ∧ Paired (rep K Kn') ws acc ∧ acc.length ≤ i ∧ lcGo c f (xs.drop i) = some rest ∧ acc ++ rest = zs,
    ⟨xs.length, by omega, Kn1, [], [], zs, (Gr.newU g1.kh hD), kD, upd_same, .nil, Nat.le_refl _, hm, rfl⟩, fun i m H' hW => ?_⟩
  obtain ⟨em, Kn', ws, acc, rest, gr, kD', hD', rp, hal, hrest, hz⟩ := hW
  have s' : S K F Kn0 sl (ol D acc :: ow) σ Kn' H' := (s1.grow gr).own fD kD' (owned_ne s1 hD) hD' rp
  by_cases hlt : i < xs.length
  · have hx : xs[i]? = some xs[i] := List.getElem?_eq_getElem hlt
    have hd : xs.drop i = xs[i] :: xs.drop (i + 1) := List.drop_eq_getElem_cons hlt
    rw [hd] at hrest
    obtain ⟨b, hb, hrest⟩ := bind_some hrest
    obtain ⟨go, yl⟩ := (w i Kn' H' gr.kk gr.kh).1 _ hx
    refine .inr ⟨go, fun H'' => ∃ Kn' ws acc rest, Gr Kn1 H1 Kn' H'' ∧ Kn' D = none ∧ H'' D = some (.lst ws) ∧ Paired (rep K Kn') ws acc ∧ acc.length ≤ i + 1 ∧ lcGo c f (xs.drop (i + 1)) = some rest ∧ acc ++ rest = zs, fun H'' h => ⟨m - 1, by omega, by omega, h⟩, fun v H2 hy => ?_⟩
    obtain ⟨Kn2, g2, rv⟩ := yl v H2 hy
    have s2 := (s'.grow g2).wipe hv
    refine hg _ _ Kn2 H2 v s2.sl s2.ek rv _ fun σ3 h3 hw3 => ?_
    have s3 := s2.slots h3
    have hDn : H' D ≠ none := ne_none_of hD'
    refine ⟨(hw3 vs hj).trans ?_, ht D acc _ b hb σ3 Kn2 H2 s3 _ fun Kn3 H3 g3 => ?_⟩
    · have ww : ∀ (vs us : List Nat) (σ : L2.St), (∀ j ∈ vs, j ∈ us) → L2.wipe (L2.wipe σ vs) us = L2.wipe σ us := by
        intro vs
        induction vs with
        | nil => intro us σ _; rfl
        | cons a r ih =>
          intro us σ hh
          show L2.wipe ((L2.wipe σ r).set a none) us = L2.wipe σ us
          rw [wipe_set (hh a List.mem_cons_self)]
          exact ih us σ fun j hj => hh j (List.mem_cons_of_mem _ hj)
      exact ww vs vs σ fun _ h => h
    · have g123 : Gr Kn1 H1 Kn3 H3 := (gr.trans g2).trans g3
      have kD3 : Kn3 D = none := (g2.trans g3).sp D hDn kD'
      have hD3 : H3 D = some (.lst ws) := (g2.trans g3).hh _ _ hD'
      cases b with
      | true =>
        obtain ⟨z, hfz, hrest⟩ := bind_some (show (f xs[i]).bind _ = some rest from hrest)
        obtain ⟨zs', hzs, hrest⟩ := bind_some hrest
        cases hrest
        refine iteT (he D acc _ z hb hfz σ3 Kn3 H3 (s3.grow g3) _ fun y Kn4 H4 g4 ry => ?_)
        have g234 := (g2.trans g3).trans g4
        have kD4 : Kn4 D = none := g4.sp D (ne_none_of hD3) kD3
        refine ⟨ws, g4.hh _ _ hD3, by rw [paired_len rp]; exact lt_line (by omega), Kn4, ws ++ [y], acc ++ [z], zs', (gr.trans g234).mut hD kD4, kD4, upd_same, paired_append (paired_mono g234.kk rp) (.cons ry .nil), ?_, hzs, ?_⟩
        · rw [List.length_append, List.length_singleton]; omega
        · rw [List.append_assoc]; exact hz
      | false =>
        have hrest : lcGo c f (xs.drop (i + 1)) = some rest := hrest
        exact iteF ⟨Kn3, ws, acc, rest, g123, kD3, hD3, paired_mono (g2.trans g3).kk rp, by omega, hrest, hz⟩
  · have hd : xs.drop i = [] := List.drop_eq_nil_of_le (by omega)
    rw [hd] at hrest
    cases hrest
    rw [List.append_nil] at hz
    subst hz
    exact .inl ⟨(w i Kn' H' gr.kk gr.kh).2 (by omega), q D ws Kn' H' (g1.trans gr) (fresh_back g1.hh hD) kD' hD' rp⟩
theorem et_yes : ET K F Kn0 sl ow tYes true := fun σ Kn H s Q q => q Kn H (Gr.refl s.ek)
/-- what changes on the way: owx -/
theorem enm_lc {Sx : Type} {xs : List β} {zs : List γ} {f : β → Sx → Option (γ × Sx)} (owx : Sx → List Ow) (gx : β → List Sl) (s0 s9 : Sx) (hm : lcS f xs s0 = some (zs, s9)) (hi : ITM K F Kn0 sl ow wi (owx s0) xs) (hv : ∀ j ∈ vs, sl[j]? = some .any) (hg : ∀ x, GT K g sl (gx x) js x) (hj : ∀ j ∈ js, j ∈ vs)
    (he : ∀ Kn1, Bs F Kn0 Kn1 → ∀ p (acc : List γ) x s z s', f x s = some (z, s') → EM K F Kn1 (gx x) (ol p acc :: owx s) te (ol p acc :: owx s') z) :
    ENM K F Kn0 sl ow (tLc wi g tYes te vs) (owx s9) zs := fun σ Kn H s Q q => by
  unfold lcS at hm
  split at hm
  case isFalse => cases hm
  rename_i hlen
  refine hi σ Kn H s _ fun J Kn1 H1 e1 s1 w D hD => ?_
  have kD : Kn1 D = none := fresh_back s1.ek hD
  have fD : F D = none := fresh_back s1.ef hD
  have b1 : Bs F Kn0 Kn1 := s1.bs
  refine ⟨fun i m H' => i + m = xs.length ∧ ∃ Kn' st acc rest, S K F Kn1 sl (ol D acc :: owx st) σ Kn' H' ∧ acc.length ≤ i ∧ lcSGo f (xs.drop i) st = some (rest, s9) ∧ acc ++ rest = zs,
    ⟨xs.length, by omega, Kn1, s0, [], zs, ?_, Nat.le_refl _, hm, rfl⟩, fun i m H' hW => ?_⟩
  · have s2 := s1.rebase.grow (Gr.newU (o := .lst []) s1.ek hD)
    exact s2.own fD kD (owned_ne s1 hD) upd_same .nil
  obtain ⟨em, Kn', st, acc, rest, s', hal, hrest, hz⟩ := hW
  obtain ⟨_, kD', ws, hD', rp⟩ := s'.ow.each (ol D acc) List.mem_cons_self
  have hD' : H' D = some (.lst ws) := hD'
  by_cases hlt : i < xs.length
  · have hx : xs[i]? = some xs[i] := List.getElem?_eq_getElem hlt
    have hd : xs.drop i = xs[i] :: xs.drop (i + 1) := List.drop_eq_getElem_cons hlt
    rw [hd] at hrest
    obtain ⟨⟨z, st'⟩, hf, hrest⟩ := bind_some hrest
    obtain ⟨⟨zs', s9'⟩, hzs, hrest⟩ := bind_some hrest
    have h9 := Option.some.inj hrest
    have h91 : z :: zs' = rest := congrArg Prod.fst h9
    have h92 : s9' = s9 := congrArg Prod.snd h9
    rw [h92] at hzs
    subst h91
    obtain ⟨go, yl⟩ := (w i Kn' H' s'.e0 s'.ek).1 _ hx
    refine .inr ⟨go, fun H'' => ∃ Kn' st acc rest, S K F Kn1 sl (ol D acc :: owx st) σ Kn' H'' ∧ acc.length ≤ i + 1 ∧ lcSGo f (xs.drop (i + 1)) st = some (rest, s9) ∧ acc ++ rest = zs, fun H'' h => ⟨m - 1, by omega, by omega, h⟩, fun v H2 hy => ?_⟩
    obtain ⟨Kn2, g2, rv⟩ := yl v H2 hy
    have s2 := (s'.grow g2).wipe hv
    refine hg _ _ Kn2 H2 v s2.sl s2.ek rv _ fun σ3 h3 hw3 => ?_
    have s3 := s2.slots h3
    refine ⟨(hw3 vs hj).trans ?_, ?_⟩
    · have ww : ∀ (vs us : List Nat) (σ : L2.St), (∀ j ∈ vs, j ∈ us) → L2.wipe (L2.wipe σ vs) us = L2.wipe σ us := by
        intro vs
        induction vs with
        | nil => intro us σ _; rfl
        | cons a r ih =>
          intro us σ hh
          show L2.wipe ((L2.wipe σ r).set a none) us = L2.wipe σ us
          rw [wipe_set (hh a List.mem_cons_self)]
          exact ih us σ fun j hj => hh j (List.mem_cons_of_mem _ hj)
      exact ww vs vs σ fun _ h => h
    · unfold tYes
      refine iteT ?_
      refine he Kn1 b1 D acc _ st z st' hf σ3 Kn2 H2 s3 _ fun y Kn4 H4 e4 s4 ry => ?_
      obtain ⟨_, kD4, ws4, hD4, rp4⟩ := s4.ow.each (ol D acc) List.mem_cons_self
      have kD4 : Kn4 D = none := kD4
      have s5 : S K F Kn1 (gx xs[i]) (ol D (acc ++ [z]) :: owx st') σ3 Kn4 (upd H4 D (.lst (ws4 ++ [y]))) := s4.write (j := 0) (xs' := acc ++ [z]) rfl (Ex.refl _) (upd_in s4.ek kD4) (fun q hq _ => upd_ne hq) (fun _ _ h => h) upd_same (paired_append rp4 (.cons ry .nil))
      have hsl : SlsOk K Kn4 sl σ := s'.sl.mono (g2.kk.trans e4)
      refine ⟨ws4, hD4, by rw [paired_len rp4]; exact lt_line (by omega), Kn4, st', acc ++ [z], zs', s5.slots hsl, ?_, hzs, ?_⟩
      · rw [List.length_append, List.length_singleton]; omega
      · rw [List.append_assoc]; exact hz
  · have hd : xs.drop i = [] := List.drop_eq_nil_of_le (by omega)
    rw [hd] at hrest
    have h9 := Option.some.inj hrest
    have h91 : [] = rest := congrArg Prod.fst h9
    have h92 : st = s9 := congrArg Prod.snd h9
    subst h91
    subst h92
    rw [List.append_nil] at hz
    subst hz
    have no : ∀ o ∈ owx st, o.ad ≠ D := fun o ho z => (List.nodup_cons.mp s'.ow.nd).1 (List.mem_map.mpr ⟨o, ho, z⟩)
    exact .inl ⟨(w i Kn' H' s'.e0 s'.ek).2 (by omega), q D ws Kn' H' (e1.trans s'.e0) ((s'.unbase b1).sub (List.sublist_cons_self _ _)) fD kD' no hD' rp⟩
end
end Wk
/-! Wk4: loops as functions, == of data, kinds, lists of one's own that are read -/
namespace Wk
open PySem PySem.Spec L2 Evl

/-! ### the mirrors' words -/
inductive Ctl (Sx R : Type) where
  | nx (s : Sx)
  | bk (s : Sx)
  | rt (r : R)
def forS {β Sx : Type} (f : β → Sx → Option Sx) : List β → Sx → Option Sx
  | [], s => some s
  | x :: xs, s => (f x s).bind (forS f xs)
def forC {β Sx R : Type} (f : β → Sx → Option (Ctl Sx R)) : List β → Sx → Option (Ctl Sx R)
  | [], s => some (.nx s)
  | x :: xs, s => (f x s).bind fun c => match c with
    | .nx s' => forC f xs s'
    | .bk s' => some (.nx s')
    | .rt r => some (.rt r)
def whileS {Sx : Type} (c : Sx → Option Bool) (f : Sx → Option Sx) : Nat → Sx → Option Sx
  | 0, _ => none
  | n + 1, s => (c s).bind fun b => if b = true then (f s).bind (whileS c f n) else some s
def whileC {Sx R : Type} (c : Sx → Option Bool) (f : Sx → Option (Ctl Sx R)) : Nat → Sx → Option (Ctl Sx R)
  | 0, _ => none
  | n + 1, s => (c s).bind fun b => if b = true then (f s).bind fun c' => match c' with
    | .nx s' => whileC c f n s'
    | .bk s' => some (.nx s')
    | .rt r => some (.rt r) else some (.nx s)
theorem whileS_more {Sx : Type} {c : Sx → Option Bool} {f : Sx → Option Sx} : ∀ {n m : Nat} {s r : Sx}, whileS c f n s = some r → n ≤ m → whileS c f m s = some r
  | 0, _, _, _, h, _ => by cases h
  | n + 1, 0, _, _, _, h => absurd h (Nat.not_succ_le_zero _)
  | n + 1, m + 1, s, r, h, hm => by
    unfold whileS at h ⊢
    cases e : c s with
    | none => rw [e] at h; cases h
    | some b =>
      rw [e] at h
      cases b with
      | false => exact h
      | true =>
        have h : ((f s).bind (whileS c f n)) = some r := h
        show ((f s).bind (whileS c f m)) = some r
        cases e2 : f s with
        | none => rw [e2] at h; cases h
        | some s' =>
          rw [e2] at h
          exact whileS_more (show whileS c f n s' = some r from h) (Nat.le_of_succ_le_succ hm)
theorem whileC_more {Sx R : Type} {c : Sx → Option Bool} {f : Sx → Option (Ctl Sx R)} : ∀ {n m : Nat} {s : Sx} {r : Ctl Sx R}, whileC c f n s = some r → n ≤ m → whileC c f m s = some r
  | 0, _, _, _, h, _ => by cases h
  | n + 1, 0, _, _, _, h => absurd h (Nat.not_succ_le_zero _)
  | n + 1, m + 1, s, r, h, hm => by
    unfold whileC at h ⊢
    cases e : c s with
    | none => rw [e] at h; cases h
    | some b =>
      rw [e] at h
      cases b with
      | false => exact h
      | true =>
        have h : ((f s).bind _) = some r := h
        show ((f s).bind _) = some r
        cases e2 : f s with
        | none => rw [e2] at h; cases h
        | some k =>
          rw [e2] at h
          cases k with
          | nx s' => exact whileC_more (show whileC c f n s' = some r from h) (Nat.le_of_succ_le_succ hm)
          | bk _ => exact h
          | rt _ => exact h
/-- a while, for as many turns as it takes -/
noncomputable def whileF {Sx : Type} (c : Sx → Option Bool) (f : Sx → Option Sx) (s : Sx) : Option Sx := by
  classical exact if h : ∃ n r, whileS c f n s = some r then some h.choose_spec.choose else none
theorem whileF_some {Sx : Type} {c : Sx → Option Bool} {f : Sx → Option Sx} {s r : Sx} (h : whileF c f s = some r) : ∃ n, whileS c f n s = some r := by
  unfold whileF at h
  split at h
  · rename_i he
    refine ⟨he.choose, ?_⟩
    rw [← Option.some.inj h]
    exact he.choose_spec.choose_spec
  · cases h
theorem whileF_of {Sx : Type} {c : Sx → Option Bool} {f : Sx → Option Sx} {n : Nat} {s r : Sx} (h : whileS c f n s = some r) : whileF c f s = some r := by
  have he : ∃ n r, whileS c f n s = some r := ⟨n, r, h⟩
  unfold whileF
  rw [dif_pos he]
  have h2 := he.choose_spec.choose_spec
  have a := whileS_more h (Nat.le_max_left n he.choose)
  have b := whileS_more h2 (Nat.le_max_right n he.choose)
  exact b.symm.trans a
noncomputable def whileCF {Sx R : Type} (c : Sx → Option Bool) (f : Sx → Option (Ctl Sx R)) (s : Sx) : Option (Ctl Sx R) := by
  classical exact if h : ∃ n r, whileC c f n s = some r then some h.choose_spec.choose else none
theorem whileCF_some {Sx R : Type} {c : Sx → Option Bool} {f : Sx → Option (Ctl Sx R)} {s : Sx} {r : Ctl Sx R} (h : whileCF c f s = some r) : ∃ n, whileC c f n s = some r := by
  unfold whileCF at h
  split at h
  · rename_i he
    refine ⟨he.choose, ?_⟩
    rw [← Option.some.inj h]
    exact he.choose_spec.choose_spec
  · cases h
theorem whileCF_of {Sx R : Type} {c : Sx → Option Bool} {f : Sx → Option (Ctl Sx R)} {n : Nat} {s : Sx} {r : Ctl Sx R} (h : whileC c f n s = some r) : whileCF c f s = some r := by
  have he : ∃ n r, whileC c f n s = some r := ⟨n, r, h⟩
  unfold whileCF
  rw [dif_pos he]
  have h2 := he.choose_spec.choose_spec
  have a := whileC_more h (Nat.le_max_left n he.choose)
  have b := whileC_more h2 (Nat.le_max_right n he.choose)
  exact b.symm.trans a
def appO {α : Type} (xs : List α) (x : α) : Option (List α) := if xs.length < 1000000 then some (xs ++ [x]) else none
def modO (i j : Int) : Option Int := if 0 < j then some (i % j) else none
def divO (i j : Int) : Option Int := if 0 < j ∧ j < 1073741824 then some (i / j) else none
def mulO (i j : Int) : Option Int := if -18446744073709551616 < i ∧ i < 18446744073709551616 then some (i * j) else none
def catO {α : Type} (xs ys : List α) : Option (List α) := if xs.length + ys.length ≤ 1000000 then some (xs ++ ys) else none
theorem appO_some {α : Type} {xs ys : List α} {x : α} (h : appO xs x = some ys) : xs.length < 1000000 ∧ ys = xs ++ [x] := by
  unfold appO at h
  split at h
  · exact ⟨by assumption, (Option.some.inj h).symm⟩
  · cases h
theorem appO_ok {α : Type} {xs : List α} {x : α} (h : xs.length < 1000000) : appO xs x = some (xs ++ [x]) := if_pos h
theorem modO_ok {i j : Int} (h : 0 < j) : modO i j = some (i % j) := if_pos h
theorem divO_ok {i j : Int} (h : 0 < j) (h2 : j < 1073741824) : divO i j = some (i / j) := if_pos ⟨h, h2⟩
theorem mulO_ok {i j : Int} (h : -18446744073709551616 < i) (h2 : i < 18446744073709551616) : mulO i j = some (i * j) := if_pos ⟨h, h2⟩
theorem catO_ok {α : Type} {xs ys : List α} (h : xs.length + ys.length ≤ 1000000) : catO xs ys = some (xs ++ ys) := if_pos h

section
variable {K : Fg} {F Kn0 : Hp} {sl sl' : List Sl} {ow ow0 ow1 ow2 : List Ow} {α β γ τ : Type} [Rp α] [Rp β] [Rp γ] [Tp τ] {ta tb te : TE} {x : α} {D : Ends} {t u tz : TS} {tt : TT} {b : Bool} {i j : Nat} {p : Addr}
theorem SB.sn (h : SB K F Kn0 sl ow D tz) : SN K F Kn0 sl ow { D with nx := tz D } := h
theorem r2_modO {i j z : Int} (h : modO i j = some z) : R2V K (rI (fun _ j => 0 < j) fun i j => .int (i % j)) i j z := by
  unfold modO at h
  split at h
  · cases h
    exact r2_I (by assumption)
  · cases h
theorem r2_divO {i j z : Int} (h : divO i j = some z) : R2V K (rI CDiv fun i j => .int (i / j)) i j z := by
  unfold divO at h
  split at h
  · cases h
    exact r2_I (by assumption)
  · cases h
theorem r2_mulO {i j z : Int} (h : mulO i j = some z) : R2V K (rI CMul fun i j => .int (i * j)) i j z := by
  unfold mulO at h
  split at h
  · rename_i hb
    cases h
    exact r2_I (.inl ⟨by omega, by omega⟩)
  · cases h
theorem r2_catO {xs ys zs : List α} (h : catO xs ys = some zs) : R2L K rCat xs ys zs := by
  unfold catO at h
  split at h
  · cases h
    exact r2_cat (by assumption)
  · cases h
theorem sb_appO {xs xs' : List α} (hi : sl[i]? = some (.at p)) (hj : ow[j]? = some (ol p xs)) (h : EV K F Kn0 sl ow te x) (hx : appO xs x = some xs') (ho : ow.set j (ol p xs') = ow1) (k : SN K F Kn0 sl ow1 D) :
    SB K F Kn0 sl ow D (tDrop (tBM K "list" rAppend (tVar i) (tCons te tNil))) := by
  obtain ⟨h1, rfl⟩ := appO_some hx
  subst ho
  exact sb_app hi hj h h1 k
theorem sb_appOM {xs xs' : List α} (hi : sl[i]? = some (.at p)) (hi0 : ow[j]? = some (ol p xs)) (h : EM K F Kn0 sl ow te ow1 x) (hj : ow1[j]? = some (ol p xs)) (hx : appO xs x = some xs') (ho : ow1.set j (ol p xs') = ow2) (k : SN K F Kn0 sl ow2 D) :
    SB K F Kn0 sl ow D (tDrop (tBM K "list" rAppend (tVar i) (tCons te tNil))) := by
  obtain ⟨h1, rfl⟩ := appO_some hx
  subst ho
  exact sb_appM hi hi0 h hj h1 k
theorem sb_setO {xs xs' : List α} {n : Int} (hi : sl[i]? = some (.at p)) (hj : ow[j]? = some (ol p xs)) (h : EV K F Kn0 sl ow te x) (hn : EV K F Kn0 sl ow tb n) (hx : setI xs n x = some xs') (ho : ow.set j (ol p xs') = ow1) (k : SN K F Kn0 sl ow1 D) :
    SB K F Kn0 sl ow D (tAsg te (gSub (tVar i) tb rSetL)) := by
  subst ho
  exact sb_setI hi hj h hn hx k

/-! ### lists of one's own, read -/
theorem S.borrow {σ : L2.St} {Kn H : Hp} {xs : List α} (s : S K F Kn0 sl ow σ Kn H) (hi : sl[i]? = some (.at p)) (hj : ow[j]? = some (ol p xs)) : ∃ ws, Kn p = none ∧ H p = some (.lst ws) ∧ S K F Kn0 (sl.set i (sv xs)) (ow.eraseIdx j) σ (upd Kn p (.lst ws)) H := by
  obtain ⟨o, h1, h2⟩ := s.sl.get hi
  have h2 : o = some (.ref p) := h2
  obtain ⟨f1, f2, ws, f3, f4⟩ := s.ow.each _ (List.mem_of_getElem? hj)
  have s1 := s.sub (List.eraseIdx_sublist ow j)
  have no : ∀ o ∈ ow.eraseIdx j, o.ad ≠ p := fun o hm z => by
    obtain ⟨m, hm'⟩ := List.getElem?_of_mem hm
    rw [List.getElem?_eraseIdx] at hm'
    split at hm'
    · have := ow_at s.ow.nd hm' hj z
      omega
    · have := ow_at s.ow.nd hm' hj z
      omega
  have s2 := s1.know (o := .lst ws) f1 f2 no f3
  have hσ : σ.set i o = σ := by
    refine List.ext_getElem? fun m => ?_
    by_cases e : i = m
    · subst e
      rw [List.getElem?_set_self (List.getElem?_eq_some_iff.mp h1).1, h1]
    · rw [List.getElem?_set_ne e]
  have s3 := s2.set (x := sv xs) (o := o) i ⟨.ref p, h2, p, ws, rfl, upd_same, paired_mono (Ex.new f2) f4⟩
  rw [hσ] at s3
  exact ⟨ws, f2, f3, s3⟩
theorem ev_bor {γ : Type} [Rp γ] [Fl γ] {z : γ} {xs : List α} (hi : sl[i]? = some (.at p)) (hj : ow[j]? = some (ol p xs)) (hs : sl.set i (sv xs) = sl') (ho : ow.eraseIdx j = ow1) (h : EV K F Kn0 sl' ow1 te z) : EV K F Kn0 sl ow te z := fun σ Kn H s Q q => by
  obtain ⟨ws, kp, hp, s1⟩ := s.borrow hi hj
  subst hs
  subst ho
  exact h σ _ H s1 Q fun v Kn' H' g r => q v Kn H' ⟨Ex.refl _, g.hh, s.ek.trans g.hh, fun _ _ h => h⟩ (Fl.iff.mpr (Fl.iff.mp r))
theorem et_bor {xs : List α} (hi : sl[i]? = some (.at p)) (hj : ow[j]? = some (ol p xs)) (hs : sl.set i (sv xs) = sl') (ho : ow.eraseIdx j = ow1) (h : ET K F Kn0 sl' ow1 tt b) : ET K F Kn0 sl ow tt b := fun σ Kn H s Q q => by
  obtain ⟨ws, kp, hp, s1⟩ := s.borrow hi hj
  subst hs
  subst ho
  exact h σ _ H s1 Q fun Kn' H' g => q Kn H' ⟨Ex.refl _, g.hh, s.ek.trans g.hh, fun _ _ h => h⟩
theorem ev_ixO {xs : List α} {n : Int} {z : α} (hi : sl[i]? = some (.at p)) (hj : ow[j]? = some (ol p xs)) (hn : EV K F Kn0 sl ow tb n) (hz : atI xs n = some z) : EV K F Kn0 sl ow (tOp (rIxL K) (tVar i) tb) z := fun σ Kn H s Q q => by
  obtain ⟨o, h1, h2⟩ := s.sl.get hi
  obtain ⟨f1, f2, ws, f3, f4⟩ := s.ow.each _ (List.mem_of_getElem? hj)
  refine ⟨.ref p, by rw [h1]; exact congrArg some h2, hn σ Kn H s _ fun v Kn1 H1 g1 r1 => ?_⟩
  cases r1
  obtain ⟨u, e, r⟩ := paired_atI f4 hz
  exact ⟨p, ws, n, u, rfl, rfl, sq_of (g1.hh _ _ f3), e, q u Kn1 H1 g1 (Rp.mono g1.kk r)⟩
theorem en_slO {xs : List α} {tl th : TO} {lo hi : Option Int} (hx : sl[i]? = some (.at p)) (hj : ow[j]? = some (ol p xs)) (hl : EO K F Kn0 sl ow tl lo) (hh : EO K F Kn0 sl ow th hi) : EN K F Kn0 sl ow (tSl (rSlL K) (tVar i) tl th) (cut xs lo hi) := fun σ Kn H s Q q => by
  obtain ⟨o, h1, h2⟩ := s.sl.get hx
  obtain ⟨f1, f2, ws, f3, f4⟩ := s.ow.each _ (List.mem_of_getElem? hj)
  refine ⟨.ref p, by rw [h1]; exact congrArg some h2, hl σ Kn H s _ fun Kn2 H2 g2 => hh σ Kn2 H2 (s.grow g2) _ fun Kn3 H3 g3 => ?_⟩
  have g := g2.trans g3
  exact ⟨p, ws, rfl, sq_of (g.hh _ _ f3), fun l hl => q l _ Kn3 _ (g.trans (Gr.newU g3.kh hl)) (fresh_back g.hh hl) (fresh_back g3.kh hl) upd_same (paired_cut (paired_mono g.kk f4) lo hi)⟩
end

/-! ### == -/
class Pd (α : Type) [Rp α] where
  toD : α → PyData
  dp : Nat
  isD : ∀ {K : Fg} {H : Hp} {v : V} {a : α}, rep K H v a → Dp K H v (toD a)
  dep : ∀ a, (toD a).depth ≤ dp
  eqd : ∀ a b : α, PyData.eqv (toD a) (toD b) = true ↔ a = b
class Pq (τ : Type) [Tp τ] where
  toDs : τ → List PyData
  dp : Nat
  isD : ∀ {K : Fg} {H : Hp} {vs : List V} {a : τ}, rept K H vs a → DpAll K H vs (toDs a)
  dep : ∀ a, PyData.depthAll (toDs a) ≤ dp
  eqd : ∀ a b : τ, PyData.eqvAll (toDs a) (toDs b) = true ↔ a = b
def okD {α : Type} [Rp α] [Pd α] (a : α) : Bool := (Pd.toD a).canLay0
instance : Pd Int := { toD := .int, dp := 0, isD := fun h => by cases h; exact .int _, dep := fun a => Nat.le_refl _, eqd := fun a b => by simp [PyData.eqv] }
instance : Pd Bool := { toD := .bool, dp := 0, isD := fun h => by cases h; exact .bl _, dep := fun a => Nat.le_refl _, eqd := fun a b => by simp [PyData.eqv] }
instance : Pd Str := { toD := .str, dp := 0, isD := fun h => by cases h; exact .str _, dep := fun a => Nat.le_refl _, eqd := fun a b => by simp [PyData.eqv] }
theorem eqvAll_map {α : Type} [Rp α] [Pd α] : ∀ (xs ys : List α), PyData.eqvAll (xs.map Pd.toD) (ys.map Pd.toD) = true ↔ xs = ys
  | [], [] => by simp [PyData.eqvAll]
  | [], y :: ys => by simp [PyData.eqvAll]
  | x :: xs, [] => by simp [PyData.eqvAll]
  | x :: xs, y :: ys => by
    simp only [List.map_cons, PyData.eqvAll, Bool.and_eq_true, Pd.eqd, eqvAll_map xs ys, List.cons.injEq]
theorem depthAll_map {α : Type} [Rp α] [Pd α] : ∀ (xs : List α), PyData.depthAll (xs.map Pd.toD) ≤ Pd.dp α
  | [] => Nat.zero_le _
  | x :: xs => by
    simp only [List.map_cons, PyData.depthAll]
    exact Nat.max_le.mpr ⟨Pd.dep x, depthAll_map xs⟩
theorem dpAll_of {α : Type} [Rp α] [Pd α] {K : Fg} {H : Hp} : ∀ {vs : List V} {xs : List α}, Paired (rep K H) vs xs → DpAll K H vs (xs.map Pd.toD)
  | _, _, .nil => .nil
  | _, _, .cons r t => .cons (Pd.isD r) (dpAll_of t)
instance {α : Type} [Rp α] [Pd α] : Pd (List α) where
  toD xs := .list (xs.map Pd.toD)
  dp := Pd.dp α + 1
  isD h := by
    obtain ⟨p, vs, rfl, h1, h2⟩ := h
    exact .lst (sq_of h1) (dpAll_of h2)
  dep a := by
    simp only [PyData.depth]
    exact Nat.succ_le_succ (depthAll_map a)
  eqd a b := by
    simp only [PyData.eqv]
    exact eqvAll_map a b
instance {α : Type} [Rp α] [Pd α] : Pd (Tu α) where
  toD xs := .tuple (xs.l.map Pd.toD)
  dp := Pd.dp α + 1
  isD h := by
    obtain ⟨p, vs, rfl, h1, h2⟩ := h
    exact .tup (st_of h1) (dpAll_of h2)
  dep a := by
    simp only [PyData.depth]
    exact Nat.succ_le_succ (depthAll_map a.l)
  eqd a b := by
    simp only [PyData.eqv]
    rw [eqvAll_map]
    cases a
    cases b
    simp
instance : Pq Unit where
  toDs _ := []
  dp := 0
  isD h := by cases h; exact .nil
  dep _ := Nat.le_refl _
  eqd _ _ := by simp [PyData.eqvAll]
instance {α τ : Type} [Rp α] [Tp τ] [Pd α] [Pq τ] : Pq (α × τ) where
  toDs t := Pd.toD t.1 :: Pq.toDs t.2
  dp := max (Pd.dp α) (Pq.dp τ)
  isD h := by
    obtain ⟨v, r, rfl, h1, h2⟩ := h
    exact .cons (Pd.isD h1) (Pq.isD h2)
  dep a := by
    simp only [PyData.depthAll]
    exact Nat.max_le.mpr ⟨Nat.le_trans (Pd.dep _) (Nat.le_max_left _ _), Nat.le_trans (Pq.dep _) (Nat.le_max_right _ _)⟩
  eqd a b := by
    simp only [PyData.eqvAll, Bool.and_eq_true, Pd.eqd, Pq.eqd]
    constructor
    · rintro ⟨h1, h2⟩
      exact Prod.ext h1 h2
    · rintro rfl
      exact ⟨rfl, rfl⟩
instance {α τ : Type} [Rp α] [Tp τ] [Pd α] [Pq τ] : Pd (α × τ) where
  toD t := .tuple (Pq.toDs t)
  dp := Pq.dp (α × τ) + 1
  isD h := by
    obtain ⟨p, vs, rfl, h1, h2⟩ := h
    exact .tup (st_of h1) (Pq.isD h2)
  dep a := by
    simp only [PyData.depth]
    exact Nat.succ_le_succ (Pq.dep a)
  eqd a b := by
    simp only [PyData.eqv]
    exact Pq.eqd a b
/-- the same kind on both sides -/
def eqO {α : Type} [Rp α] [Pd α] [DecidableEq α] (a b : α) : Option Bool := if (okD a && okD b && decide (Pd.dp α ≤ 64)) = true then some (decide (a = b)) else none
def neO {α : Type} [Rp α] [Pd α] [DecidableEq α] (a b : α) : Option Bool := if (okD a && okD b && decide (Pd.dp α ≤ 64)) = true then some (!decide (a = b)) else none
section
variable {K : Fg} {α : Type} [Rp α] [Pd α] [DecidableEq α]
theorem shaped_of {a : α} (h : okD a = true) (h2 : Pd.dp α ≤ 64) : SeqAt.shaped (Pd.toD a) = true := by
  unfold SeqAt.shaped
  rw [Bool.and_eq_true]
  exact ⟨h, decide_eq_true (Nat.le_trans (Pd.dep a) h2)⟩
theorem eqv_dec (a b : α) : PyData.eqv (Pd.toD a) (Pd.toD b) = decide (a = b) := by
  by_cases h : a = b
  · rw [decide_eq_true h]
    exact (Pd.eqd a b).mpr h
  · rw [decide_eq_false h]
    cases e : PyData.eqv (Pd.toD a) (Pd.toD b) with
    | false => rfl
    | true => exact absurd ((Pd.eqd a b).mp e) h
theorem dp_mono {H H' : Hp} (e : Ex H H') : ∀ {v : V} {d : PyData}, Dp K H v d → Dp K H' v d := fun h =>
  Dp.rec (motive_1 := fun v d _ => Dp K H' v d) (motive_2 := fun vs ds _ => DpAll K H' vs ds) .non .bl .int .str (fun s _ ih => .lst (ex_l e s) ih) (fun s _ ih => .tup (ex_t e s) ih) .nil (fun _ _ h1 h2 => .cons h1 h2) h
theorem r2_eqO {a b : α} {c : Bool} (h : eqO a b = some c) : R2V K (rEqD K) a b c := fun Kn H v w ek h1 h2 Q q => by
  unfold eqO at h
  split at h
  · rename_i hb
    rw [Bool.and_eq_true, Bool.and_eq_true] at hb
    cases h
    refine ⟨Pd.toD a, Pd.toD b, dp_mono ek (Pd.isD h1), dp_mono ek (Pd.isD h2), shaped_of hb.1.1 (of_decide_eq_true hb.2), shaped_of hb.1.2 (of_decide_eq_true hb.2), ?_⟩
    rw [eqv_dec]
    exact q.fl ek
  · cases h
theorem r2_neO {a b : α} {c : Bool} (h : neO a b = some c) : R2V K (rNeD K) a b c := fun Kn H v w ek h1 h2 Q q => by
  unfold neO at h
  split at h
  · rename_i hb
    rw [Bool.and_eq_true, Bool.and_eq_true] at hb
    cases h
    refine ⟨Pd.toD a, Pd.toD b, dp_mono ek (Pd.isD h1), dp_mono ek (Pd.isD h2), shaped_of hb.1.1 (of_decide_eq_true hb.2), shaped_of hb.1.2 (of_decide_eq_true hb.2), ?_⟩
    rw [eqv_dec]
    exact q.fl ek
  · cases h
/-- data without texts: always -/
class Pt (α : Type) [Rp α] [Pd α] : Prop where
  ok : ∀ a : α, okD a = true
class Pu (τ : Type) [Tp τ] [Pq τ] : Prop where
  ok : ∀ a : τ, PyData.canLayAll0 (Pq.toDs a) = true
instance : Pt Int := ⟨fun _ => rfl⟩
instance : Pt Bool := ⟨fun _ => rfl⟩
theorem canLayAll_map {α : Type} [Rp α] [Pd α] : ∀ (xs : List α), (∀ x ∈ xs, okD x = true) → PyData.canLayAll0 (xs.map Pd.toD) = true
  | [], _ => by simp [PyData.canLayAll0]
  | x :: xs, h => by
    simp only [List.map_cons, PyData.canLayAll0, Bool.and_eq_true]
    exact ⟨h x List.mem_cons_self, canLayAll_map xs fun y hy => h y (List.mem_cons_of_mem _ hy)⟩
theorem okD_list {α : Type} [Rp α] [Pd α] {xs : List α} (h : ∀ x ∈ xs, okD x = true) : okD xs = true := by
  show PyData.canLay0 (.list _) = true
  simp only [PyData.canLay0]
  exact canLayAll_map xs h
theorem okD_tu {α : Type} [Rp α] [Pd α] {xs : Tu α} (h : ∀ x ∈ xs.l, okD x = true) : okD xs = true := by
  show PyData.canLay0 (.tuple _) = true
  simp only [PyData.canLay0]
  exact canLayAll_map xs.l h
theorem okD_pair {α τ : Type} [Rp α] [Tp τ] [Pd α] [Pq τ] {t : α × τ} (h : okD t.1 = true) (h2 : PyData.canLayAll0 (Pq.toDs t.2) = true) : okD t = true := by
  show PyData.canLay0 (.tuple (Pd.toD t.1 :: Pq.toDs t.2)) = true
  simp only [PyData.canLay0, PyData.canLayAll0, Bool.and_eq_true]
  exact ⟨h, h2⟩
theorem okDs_cons {α τ : Type} [Rp α] [Tp τ] [Pd α] [Pq τ] {t : α × τ} (h : okD t.1 = true) (h2 : PyData.canLayAll0 (Pq.toDs t.2) = true) : PyData.canLayAll0 (Pq.toDs t) = true := by
  show PyData.canLayAll0 (Pd.toD t.1 :: Pq.toDs t.2) = true
  simp only [PyData.canLayAll0, Bool.and_eq_true]
  exact ⟨h, h2⟩
instance {α : Type} [Rp α] [Pd α] [Pt α] : Pt (List α) := ⟨fun _ => okD_list fun x _ => Pt.ok x⟩
instance {α : Type} [Rp α] [Pd α] [Pt α] : Pt (Tu α) := ⟨fun _ => okD_tu fun x _ => Pt.ok x⟩
instance : Pu Unit := ⟨fun _ => rfl⟩
instance {α τ : Type} [Rp α] [Tp τ] [Pd α] [Pq τ] [Pt α] [Pu τ] : Pu (α × τ) := ⟨fun _ => okDs_cons (Pt.ok _) (Pu.ok _)⟩
instance {α τ : Type} [Rp α] [Tp τ] [Pd α] [Pq τ] [Pt α] [Pu τ] : Pt (α × τ) := ⟨fun _ => okD_pair (Pt.ok _) (Pu.ok _)⟩
theorem r2_eqT [Pt α] {a b : α} (hd : Pd.dp α ≤ 64 := by decide) : R2V K (rEqD K) a b (decide (a = b)) := r2_eqO (by
  unfold eqO
  rw [Pt.ok a, Pt.ok b, decide_eq_true hd]
  rfl)
theorem r2_neT [Pt α] {a b : α} (hd : Pd.dp α ≤ 64 := by decide) : R2V K (rNeD K) a b (!decide (a = b)) := r2_neO (by
  unfold neO
  rw [Pt.ok a, Pt.ok b, decide_eq_true hd]
  rfl)
theorem eqO_ok {a b : α} (h1 : okD a = true) (h2 : okD b = true) (hd : Pd.dp α ≤ 64 := by decide) : eqO a b = some (decide (a = b)) := by
  unfold eqO
  rw [h1, h2, decide_eq_true hd]
  rfl
theorem neO_ok {a b : α} (h1 : okD a = true) (h2 : okD b = true) (hd : Pd.dp α ≤ 64 := by decide) : neO a b = some (!decide (a = b)) := by
  unfold neO
  rw [h1, h2, decide_eq_true hd]
  rfl
end

/-! ### isinstance -/
structure TyN where
  n : String
instance rpTyN : Rp TyN := { rep := fun _ _ v a => v = .ty a.n, mono := fun _ h => h }
instance : Fl TyN := { toV := fun a => V.ty a.n, iff := Iff.rfl }
class Tn (α : Type) [Rp α] where
  nm : String
  is : ∀ {K : Fg} {H : Hp} {v : V} {a : α}, rep K H v a → TyX K H v (.type nm)
instance : Tn Int := ⟨"int", fun h => by cases h; exact .base (.int _)⟩
instance : Tn Bool := ⟨"bool", fun h => by cases h; exact .base (.bl _)⟩
instance : Tn Str := ⟨"str", fun h => by cases h; exact .base (.str _)⟩
instance : Tn Nn := ⟨"NoneType", fun h => by cases h; exact .base .non⟩
instance {α : Type} [Rp α] : Tn (List α) := ⟨"list", fun h => by
  obtain ⟨p, vs, rfl, h1, _⟩ := h
  exact .base (.lst h1)⟩
instance {α : Type} [Rp α] : Tn (Tu α) := ⟨"tuple", fun h => by
  obtain ⟨p, vs, rfl, h1, _⟩ := h
  exact .base (.tup h1)⟩
instance {α τ : Type} [Rp α] [Tp τ] : Tn (α × τ) := ⟨"tuple", fun h => by
  obtain ⟨p, vs, rfl, h1, _⟩ := h
  exact .base (.tup h1)⟩
theorem rc_isi {K : Fg} {α : Type} [Rp α] [Tn α] {x : α} {n : String} {b : Bool} (h : kitB (Tn.nm α) n = some b) : RCV K (rIsi K) (x, TyN.mk n, ()) b := fun Kn H vs ek hr Q q => by
  obtain ⟨v, w, rfl, h1, h2⟩ := two_args hr
  cases h2
  refine ⟨v, .ty n, .type (Tn.nm α), .type n, b, rfl, .ty n, ?_, kit_ty h, q.fl ek⟩
  exact Tn.is (Rp.mono ek h1)

/-! ### great divisors -/
theorem r2_divW {K : Fg} {i j : Int} {b : Nat} (h : 0 < j) (hb : j.natAbs < 2 ^ b) (h0 : 0 < b) (h9 : b ≤ 9000) : R2V K (rI CDivW fun i j => .int (i / j)) i j (i / j) := r2_I (wide_div h hb h0 h9)

/-! ### sorted of whole numbers -/
def srt (xs : List Int) : List Int := xs.mergeSort fun a b => decide (a ≤ b)
theorem srt_perm (xs : List Int) : (srt xs).Perm xs := List.mergeSort_perm xs _
theorem srt_pw (xs : List Int) : (srt xs).Pairwise (· ≤ ·) := by
  have h := List.pairwise_mergeSort (le := fun a b => decide (a ≤ b)) (fun a b c h1 h2 => by
    have h1 := of_decide_eq_true h1
    have h2 := of_decide_eq_true h2
    exact decide_eq_true (by omega)) (fun a b => by
    rcases Int.le_total a b with h | h
    · rw [decide_eq_true h]; rfl
    · rw [decide_eq_true h]; exact Bool.or_true _) xs
  exact h.imp fun h => of_decide_eq_true h
theorem srt_one {xs ys : List Int} (p : ys.Perm xs) (s : ys.Pairwise (· ≤ ·)) : ys = srt xs :=
  List.Perm.eq_of_pairwise (le := fun a b : Int => a ≤ b) (fun a b _ _ h1 h2 => Int.le_antisymm h1 h2) s (srt_pw xs) (p.trans (srt_perm xs).symm)
theorem rc_sorted {K : Fg} {xs : List Int} : RCL K (rSortedI K) (xs, ()) (srt xs) := fun Kn H vs ek h Q q => by
  obtain ⟨v, rfl, p, ws, rfl, h1, h2⟩ := one_arg h
  have e := paired_fl h2
  subst e
  refine ⟨p, xs, rfl, sq_of (ek _ _ h1), fun ns' l pm pw hl => ?_⟩
  rw [srt_one pm pw]
  exact q l _ Kn _ (Gr.newU ek hl) hl (fresh_back ek hl) upd_same (fl_paired (srt xs))
end Wk

namespace Wk
open PySem PySem.Spec L2 Evl
section
variable {K : Fg} {F Kn0 : Hp} {sl sl' : List Sl} {ow ow0 ow1 ow2 : List Ow} {α β γ τ : Type} [Rp α] [Rp β] [Rp γ] [Tp τ] {ta tb te : TE} {x : α} {D : Ends} {t u tz : TS} {tt : TT} {b : Bool} {i j : Nat} {p : Addr}
theorem ev_int (n : Int) : EV K F Kn0 sl ow (tC (.int n)) n := ev_c n
theorem ev_bool (n : Bool) : EV K F Kn0 sl ow (tC (.bl n)) n := ev_c n
theorem ev_str (n : Str) : EV K F Kn0 sl ow (tC (.str n)) n := ev_c n
theorem ev_nn : EV K F Kn0 sl ow (tC .non) Nn.nn := ev_c Nn.nn
theorem ev_ty (n : String) : EV K F Kn0 sl ow (tC (.ty n)) (TyN.mk n) := ev_c (TyN.mk n)
variable {m n : Int}
theorem r2_add : R2V K (rI0 fun i j => .int (i + j)) m n (m + n) := r2_I0
theorem r2_sub : R2V K (rI0 fun i j => .int (i - j)) m n (m - n) := r2_I0
theorem r2_lt : R2V K (rI0 fun i j => .bl (decide (i < j))) m n (decide (m < n)) := r2_I0
theorem r2_le : R2V K (rI0 fun i j => .bl (decide (i ≤ j))) m n (decide (m ≤ n)) := r2_I0
theorem r2_gt : R2V K (rI0 fun i j => .bl (decide (j < i))) m n (decide (n < m)) := r2_I0
theorem r2_ge : R2V K (rI0 fun i j => .bl (decide (j ≤ i))) m n (decide (n ≤ m)) := r2_I0
theorem r2_mod (h : 0 < n := by decide) : R2V K (rI (fun _ j => 0 < j) fun i j => .int (i % j)) m n (m % n) := r2_I h
theorem r2_div (h : 0 < n ∧ n < 1073741824 := by decide) : R2V K (rI CDiv fun i j => .int (i / j)) m n (m / n) := r2_I h
theorem r2_mulr (h : -18446744073709551616 < n ∧ n < 18446744073709551616 := by decide) : R2V K (rI CMul fun i j => .int (i * j)) m n (m * n) := r2_I (.inr ⟨by omega, by omega⟩)
theorem r2_mull (h : -18446744073709551616 < m ∧ m < 18446744073709551616 := by decide) : R2V K (rI CMul fun i j => .int (i * j)) m n (m * n) := r2_I (.inl ⟨by omega, by omega⟩)
theorem r2_divw (h : 0 < n ∧ n < 18446744073709551616 := by decide) : R2V K (rI CDivW fun i j => .int (i / j)) m n (m / n) := r2_divW h.1 (b := 64) (by omega) (by decide) (by decide)
theorem r2_pow {r : Int} (h : 0 ≤ n ∧ n ≤ 1000000 ∧ m.natAbs < 18446744073709551616 := by decide) (e : m ^ n.toNat = r := by decide) : R2V K (rI CPow fun i j => .int (i ^ j.toNat)) m n r := e ▸ r2_I ⟨h.1, h.2.1, by omega⟩
theorem EN.cast {xs ys : List α} (h : EN K F Kn0 sl ow te xs) (e : xs = ys) : EN K F Kn0 sl ow te ys := e ▸ h
theorem EM.cast {y : α} (h : EM K F Kn0 sl ow te ow1 x) (e : x = y) : EM K F Kn0 sl ow te ow1 y := e ▸ h
theorem ENM.cast {xs ys : List α} (h : ENM K F Kn0 sl ow te ow1 xs) (e : xs = ys) : ENM K F Kn0 sl ow te ow1 ys := e ▸ h
theorem SB.is (h1 : sl = sl') (h2 : ow = ow1) (h : SB K F Kn0 sl' ow1 D t) : SB K F Kn0 sl ow D t := by subst h1; subst h2; exact h
theorem EV.is (h1 : sl = sl') (h : EV K F Kn0 sl' ow te x) : EV K F Kn0 sl ow te x := by subst h1; exact h
theorem EM.is (h1 : sl = sl') (h2 : ow = ow2) (h3 : ow1 = ow0) (h : EM K F Kn0 sl' ow2 te ow0 x) : EM K F Kn0 sl ow te ow1 x := by subst h1; subst h2; subst h3; exact h
theorem ET.is (h1 : sl = sl') (h : ET K F Kn0 sl' ow tt b) : ET K F Kn0 sl ow tt b := by subst h1; exact h
theorem ite_t {γ : Type} {b : Bool} {A B : Option γ} {r : γ} (hb : b = true) (h : (if b = true then A else B) = some r) : A = some r := by rw [if_pos hb] at h; exact h
theorem ite_f {γ : Type} {b : Bool} {A B : Option γ} {r : γ} (hb : b = false) (h : (if b = true then A else B) = some r) : B = some r := by rw [if_neg (by rw [hb]; exact Bool.false_ne_true)] at h; exact h
def anyAt (sl : List Sl) (vs : List Nat) : Bool := vs.all fun j => match sl[j]? with
  | some .any => true
  | _ => false
theorem anyAt_of {sl : List Sl} {vs : List Nat} (h : anyAt sl vs = true) : ∀ j ∈ vs, sl[j]? = some .any := fun j hj => by
  have q := List.all_eq_true.mp h j hj
  cases e : sl[j]? with
  | none => rw [e] at q; cases q
  | some s =>
    rw [e] at q
    cases s with
    | any => rfl
    | val _ _ _ => cases q
    | «at» _ => cases q
theorem sub_of {js vs : List Nat} (h : (js.all fun j => vs.contains j) = true) : ∀ j ∈ js, j ∈ vs := fun j hj => by
  have q := List.all_eq_true.mp h j hj
  simpa using q
theorem sn_end {R : VK} (q : RT K F Kn0 ow0 R Nn.nn) (hd : ∀ σ H, R .non H → D.nx σ H) (l : ow0.Sublist ow) : SN K F Kn0 sl ow D := fun σ Kn H s => hd σ H (q _ Kn H (s.sub l).fin rfl)
def EOM (K : Fg) (F Kn0 : Hp) (sl : List Sl) (ow : List Ow) (to : TO) (ow' : List Ow) (o : Option Int) : Prop := ∀ σ Kn H, S K F Kn0 sl ow σ Kn H → ∀ Q : Option Int → Hp → Prop, (∀ Kn' H', Ex Kn Kn' → S K F Kn0 sl ow' σ Kn' H' → Q o H') → to σ H Q
theorem EO.eom {to : TO} {o : Option Int} (h : EO K F Kn0 sl ow to o) : EOM K F Kn0 sl ow to ow o := fun σ Kn H s Q q => h σ Kn H s Q fun Kn' H' g => q Kn' H' g.kk (s.grow g)
theorem eom_some {i : Int} (h : EM K F Kn0 sl ow te ow1 i) : EOM K F Kn0 sl ow (tPart te) ow1 (some i) := fun σ Kn H s Q q => h σ Kn H s _ fun v Kn1 H1 e1 s1 r1 => ⟨i, r1, q Kn1 H1 e1 s1⟩
theorem enm_sl {ow3 : List Ow} {xs : List α} {tl th : TO} {lo hi : Option Int} (h : EM K F Kn0 sl ow te ow1 xs) (hl : EOM K F Kn0 sl ow1 tl ow2 lo) (hh : EOM K F Kn0 sl ow2 th ow3 hi) : ENM K F Kn0 sl ow (tSl (rSlL K) te tl th) ow3 (cut xs lo hi) := fun σ Kn H s Q q =>
  h σ Kn H s _ fun v Kn1 H1 e1 s1 r1 => hl σ Kn1 H1 s1 _ fun Kn2 H2 e2 s2 => hh σ Kn2 H2 s2 _ fun Kn3 H3 e3 s3 => by
    obtain ⟨p, ws, rfl, h3, h4⟩ := r1
    have e13 : Ex Kn1 Kn3 := e2.trans e3
    exact ⟨p, ws, rfl, sq_of (s3.ek _ _ (e13 _ _ h3)), fun l hl => q l _ Kn3 _ (e1.trans e13) (s3.grow (Gr.newU s3.ek hl)) (fresh_back s3.ef hl) (fresh_back s3.ek hl) (owned_ne s3 hl) upd_same (paired_cut (paired_mono e13 h4) lo hi)⟩
/-- the entry of a def -/
theorem enter {σ : L2.St} {Kn H : Hp} {D : Ends} {t : TS} (ek : Ex Kn H) (hs : SlsOk K Kn sl σ) (h : SB K H Kn sl [] D t) : t D σ H := h σ Kn H ⟨Ex.refl _, ek, Ex.refl _, fun _ _ h => h, hs, ⟨(fun _ h => nomatch h), List.nodup_nil⟩⟩
theorem rt_of {H Kn : Hp} {r : α} {Q : VK} (q : RS K Kn H Q r) : RT K H Kn [] Q r := fun v Kn' H' s rv => q v Kn' H' ⟨s.e0, s.ef, s.ek, s.sep⟩ rv
theorem rn_of {H Kn : Hp} {r : List α} {Q : VK} (q : RL K Kn H Q r) : RN K H Kn [] Q r := fun p ws Kn' H' s fp kp hw rv => q p ws Kn' H' ⟨s.e0, s.ef, s.ek, s.sep⟩ fp kp hw rv
/-- all but p -/
def but (H : Hp) (p : Addr) : Hp := fun a => if a = p then none else H a
theorem enterM {σ : L2.St} {Kn H : Hp} {D : Ends} {t : TS} {p : Addr} {ws : List V} {xs : List α} (ek : Ex Kn H) (kp : Kn p = none) (hp : H p = some (.lst ws)) (r : Paired (rep K Kn) ws xs) (hs : SlsOk K Kn sl σ) (h : SB K (but H p) Kn sl [ol p xs] D t) : t D σ H :=
  h σ Kn H ⟨Ex.refl _, ek, fun a u e => by
    unfold but at e
    split at e
    · cases e
    · exact e, fun _ _ h => h, hs, ⟨fun o ho => by
      cases List.mem_singleton.mp ho
      exact ⟨if_pos rfl, kp, ws, hp, r⟩, List.nodup_cons.mpr ⟨(fun h => nomatch h), List.nodup_nil⟩⟩⟩
theorem rt_ofM {H Kn : Hp} {r : β} {p : Addr} {xs' : List α} {Q : VK} (kp : Kn p = none) (q : ∀ v Kn' H' ws', Ex Kn Kn' → Ex Kn' H' → (∀ q, q ≠ p → H q ≠ none → H' q = H q) → (∀ q, H q ≠ none → Kn q = none → Kn' q = none) → H' p = some (.lst ws') → Paired (rep K Kn') ws' xs' → rep K Kn' v r → Q v H') :
    RT K (but H p) Kn [ol p xs'] Q r := fun v Kn' H' s rv => by
  obtain ⟨_, k1, ws, h1, h2⟩ := s.ow.each (ol p xs') List.mem_cons_self
  refine q v Kn' H' ws s.e0 s.ek (fun a ha hn => ?_) (fun a hn hk => ?_) h1 h2 rv
  · have e : but H p a = H a := if_neg ha
    exact (Ex.at_eq s.ef (by rw [e]; exact hn)).trans e
  · by_cases ha : a = p
    · subst ha
      exact k1
    · exact s.sep a (by unfold but; rw [if_neg ha]; exact hn) hk
end
end Wk

/-! ### rules whose readings name K itself (within comprehensions) -/
namespace Wk
open PySem PySem.Spec L2 Evl
section
variable {X : Cx} {K : Fg}
theorem k_isi (h : X.K = K := by rfl) : CallR X (.builtin "isinstance") (rIsi K) := h ▸ call_isi
theorem k_len (h : X.K = K := by rfl) : CallR X (.builtin "len") (fun xs H Q => ∃ p ys, xs = [.ref p] ∧ (SqL K H p ys ∨ SqT K H p ys) ∧ Q (.int ys.length) H) := h ▸ call_len_seq
theorem k_list (h : X.K = K := by rfl) : CallR X (.type "list") (fun xs H Q => ∃ p ys, xs = [.ref p] ∧ (SqL K H p ys ∨ SqT K H p ys) ∧ ∀ l, H l = none → Q (.ref l) (upd H l (.lst ys))) := h ▸ call_list_of
theorem k_tuple (h : X.K = K := by rfl) : CallR X (.type "tuple") (fun xs H Q => ∃ p ys, xs = [.ref p] ∧ ((SqL K H p ys ∧ ∀ l, H l = none → Q (.ref l) (upd H l (.tup ys))) ∨ (SqT K H p ys ∧ Q (.ref p) H))) := h ▸ call_tuple_of
theorem k_sum (hc : X.calm = true := by rfl) (h : X.K = K := by rfl) : CallR X (.builtin "sum") (rSum K) := h ▸ cr_sum hc
theorem k_any (hc : X.calm = true := by rfl) (h : X.K = K := by rfl) : CallR X (.builtin "any") (rAny K) := h ▸ cr_any hc
theorem k_all (hc : X.calm = true := by rfl) (h : X.K = K := by rfl) : CallR X (.builtin "all") (rAll K) := h ▸ cr_all hc
theorem k_max2 (hc : X.calm = true := by rfl) : CallR X (.builtin "max") (fun xs H Q => ∃ i j, xs = [.int i, .int j] ∧ Q (.int (if j > i then j else i)) H) := call_max2 hc
theorem k_min2 (hc : X.calm = true := by rfl) : CallR X (.builtin "min") (fun xs H Q => ∃ i j, xs = [.int i, .int j] ∧ Q (.int (if j < i then j else i)) H) := call_min2 hc
theorem k_sorted (h : X.K = K := by rfl) : CallR X (.builtin "sorted") (rSortedI K) := h ▸ cr_sortedI
theorem k_ixl (h : X.K = K := by rfl) : IxR X (rIxL K) := h ▸ ix_list
theorem k_ixt (h : X.K = K := by rfl) : IxR X (rIxT K) := h ▸ ix_tup
theorem k_sll (h : X.K = K := by rfl) : SlR X (rSlL K) := h ▸ sl_list
theorem k_eqD (hu : X.A.units + 64 < cLine) (h : X.K = K := by rfl) : OpR X (compareOp .Eq) (rEqD K) := h ▸ op_eqD hu
theorem k_neD (hu : X.A.units + 64 < cLine) (h : X.K = K := by rfl) : OpR X (compareOp .NotEq) (rNeD K) := h ▸ op_neD hu
theorem k_in (h : X.K = K := by rfl) : OpR X (compareOp .In) (rIn K false) := h ▸ op_in_seq
theorem k_notIn (h : X.K = K := by rfl) : OpR X (compareOp .NotIn) (rIn K true) := h ▸ op_notIn_seq
theorem kpg_tup {es : List Expr} {k : Nat} {t : TGs} {n : Nat} {pos : Pos} (hs : PGs X es t) (hc : X.calm = true := by rfl) (h : X.K = K := by rfl)
    (hn : (assignEach es X.env).length = n := by rfl) (hst : (assignEach es X.env).findIdx? (·.1) = none := by rfl) : PG X (.Tuple es k pos) (gTup K n t) := h ▸ pg_tup hc hs hn hst
theorem kpi_list {tg e : Expr} {te : TE} (he : PE X e te) (h : X.K = K := by rfl) : PI X tg e (iList K te) := h ▸ pi_list he
theorem kpi_tup {tg e : Expr} {te : TE} (he : PE X e te) (h : X.K = K := by rfl) : PI X tg e (iTup K te) := h ▸ pi_tup he
theorem kpt_truth {a : Expr} {ta : TE} (ha : PE X a ta) (he : ∀ whole, isTrue a X.env whole = (do let v ← whole; standAt a.pos; holding [v] (truthy v)) := by intro _; rfl) (h : X.K = K := by rfl) : PT X a (fun σ H Q => ta σ H fun x H' => ∃ k, TruV K x H' k ∧ Q k H') := h ▸ pt_truth ha he
end
end Wk
/-! Wk5: in, lists made longer, texts, chains, tuples put together -/
namespace Wk
open PySem PySem.Spec L2 Evl
class Fe (α : Type) [Rp α] [Fl α] [DecidableEq α] : Prop where
  flat : ∀ a : α, flatV (Fl.toV a) = true
  eq : ∀ a b : α, eqV (Fl.toV a) (Fl.toV b) = decide (a = b)
instance : Fe Int := ⟨fun _ => rfl, fun a b => by show (a == b) = decide (a = b); by_cases h : a = b <;> simp [h]⟩
instance : Fe Str := ⟨fun _ => rfl, fun a b => by show (a == b) = decide (a = b); by_cases h : a = b <;> simp [h]⟩
def repO {α : Type} (xs : List α) (k : Int) : Option (List α) := if -1000000000 ≤ k ∧ k ≤ 1000000000 ∧ xs.length * k.toNat ≤ 1000000 then some (List.replicate k.toNat xs).flatten else none
def addS (x y : Str) : Option Str := if x.length + y.length ≤ 1000000 then some (x ++ y) else none
def lenS (x : Str) : Option Int := if x.length ≤ 1000000 then some (x.length : Int) else none
def joinO (a : Str) (ys : List Str) : Option Str := if (ys.map (·.length)).sum + ys.length * a.length ≤ 1000000 then some (Txt.join a ys) else none
def powO (i j : Int) : Option Int := if 0 ≤ j ∧ j ≤ 1000000 ∧ i.natAbs < 18446744073709551616 then some (i ^ j.toNat) else none
section
variable {K : Fg} {F Kn0 : Hp} {sl sl' : List Sl} {ow ow0 ow1 ow2 : List Ow} {α β γ τ : Type} [Rp α] [Rp β] [Rp γ] [Tp τ] {ta tb tc te : TE} {x : α} {y : β} {z : γ} {D : Ends} {t u tz : TS} {tt : TT} {a b : Bool} {i j : Nat} {p : Addr}
theorem any_mem {α : Type} [Rp α] [Fl α] [DecidableEq α] [Fe α] (x : α) : ∀ xs : List α, inV (Fl.toV x) (xs.map Fl.toV) = decide (x ∈ xs)
  | [] => by simp [inV]
  | y :: ys => by
    have ih := any_mem x ys
    unfold inV at ih ⊢
    rw [List.map_cons, List.any_cons, ih, Fe.eq]
    by_cases h : y = x
    · subst h
      simp
    · have h' : ¬ x = y := fun e => h e.symm
      simp [h, h']
theorem all_flat {α : Type} [Rp α] [Fl α] [DecidableEq α] [Fe α] : ∀ xs : List α, (xs.map Fl.toV).all flatV = true
  | [] => rfl
  | y :: ys => by
    rw [List.map_cons, List.all_cons, Fe.flat, all_flat ys]
    rfl
theorem r2_in {α : Type} [Rp α] [Fl α] [DecidableEq α] [Fe α] {x : α} {xs : List α} : R2V K (rIn K false) x xs (decide (x ∈ xs)) := fun Kn H v w ek h1 h2 Q q => by
  obtain ⟨p, ws, rfl, h3, h4⟩ := h2
  have e := paired_fl h4
  subst e
  rw [Fl.iff.mp h1]
  refine ⟨p, _, rfl, .inl (sq_of (ek _ _ h3)), Fe.flat x, all_flat xs, ?_⟩
  rw [any_mem]
  exact q.fl ek
theorem r2_notIn {α : Type} [Rp α] [Fl α] [DecidableEq α] [Fe α] {x : α} {xs : List α} : R2V K (rIn K true) x xs (!decide (x ∈ xs)) := fun Kn H v w ek h1 h2 Q q => by
  obtain ⟨p, ws, rfl, h3, h4⟩ := h2
  have e := paired_fl h4
  subst e
  rw [Fl.iff.mp h1]
  refine ⟨p, _, rfl, .inl (sq_of (ek _ _ h3)), Fe.flat x, all_flat xs, ?_⟩
  rw [any_mem]
  exact q.fl ek
theorem r2_inU {α : Type} [Rp α] [Fl α] [DecidableEq α] [Fe α] {x : α} {xs : Tu α} : R2V K (rIn K false) x xs (decide (x ∈ xs.l)) := fun Kn H v w ek h1 h2 Q q => by
  obtain ⟨p, ws, rfl, h3, h4⟩ := h2
  have e := paired_fl h4
  subst e
  rw [Fl.iff.mp h1]
  refine ⟨p, _, rfl, .inr (st_of (ek _ _ h3)), Fe.flat x, all_flat xs.l, ?_⟩
  rw [any_mem]
  exact q.fl ek
theorem r2_notInU {α : Type} [Rp α] [Fl α] [DecidableEq α] [Fe α] {x : α} {xs : Tu α} : R2V K (rIn K true) x xs (!decide (x ∈ xs.l)) := fun Kn H v w ek h1 h2 Q q => by
  obtain ⟨p, ws, rfl, h3, h4⟩ := h2
  have e := paired_fl h4
  subst e
  rw [Fl.iff.mp h1]
  refine ⟨p, _, rfl, .inr (st_of (ek _ _ h3)), Fe.flat x, all_flat xs.l, ?_⟩
  rw [any_mem]
  exact q.fl ek
theorem paired_rep {F : V → α → Prop} {vs : List V} {xs : List α} (h : Paired F vs xs) : ∀ n : Nat, Paired F (List.replicate n vs).flatten (List.replicate n xs).flatten
  | 0 => .nil
  | n + 1 => by
    rw [List.replicate_succ, List.replicate_succ, List.flatten_cons, List.flatten_cons]
    exact paired_append h (paired_rep h n)
theorem r2_repO {xs zs : List α} {k : Int} (h : repO xs k = some zs) : R2L K rRep xs k zs := fun Kn H v w ek h1 h2 Q q => by
  unfold repO at h
  split at h
  · rename_i hb
    cases h
    obtain ⟨p, ws, rfl, h3, h4⟩ := h1
    cases h2
    refine ⟨p, k, ws, rfl, rfl, ek _ _ h3, by omega, by omega, by rw [paired_len h4]; exact le_line hb.2.2, fun l hl => q l _ Kn _ (Gr.newU ek hl) hl (fresh_back ek hl) upd_same (paired_rep h4 _)⟩
  · cases h
theorem r2_addS {x y z : Str} (h : addS x y = some z) : R2V K (fun x y H Q => ∃ i j, x = .str i ∧ y = .str j ∧ i.length + j.length ≤ sizeLine ∧ Q (.str (i ++ j)) H) x y z := fun Kn H v w ek h1 h2 Q q => by
  unfold addS at h
  split at h
  · rename_i hb
    cases h
    exact ⟨x, y, h1, h2, le_line hb, q.fl ek⟩
  · cases h
theorem rc_lenS {x : Str} {z : Int} (h : lenS x = some z) : RCV K (fun xs H Q => ∃ z, xs = [.str z] ∧ z.length ≤ sizeLine ∧ Q (.int z.length) H) (x, ()) z := fun Kn H vs ek hr Q q => by
  obtain ⟨v, rfl, h1⟩ := one_arg hr
  cases h1
  unfold lenS at h
  split at h
  · rename_i hb
    cases h
    exact ⟨x, rfl, le_line hb, q.fl ek⟩
  · cases h
theorem ev_joinO {s : Str} {ys : List Str} {z : Str} (ha : EV K F Kn0 sl ow ta s) (hb : EV K F Kn0 sl ow tb ys) (h : joinO s ys = some z) :
    EV K F Kn0 sl ow (tM1 (fun x xs H Q => ∃ a p, ∃ ys : List Str, x = .str a ∧ xs = [.ref p] ∧ (SqL K H p (ys.map V.str) ∨ SqT K H p (ys.map V.str)) ∧ (ys.map (·.length)).sum + ys.length * a.length ≤ 16777216 ∧ Q (.str (Txt.join a ys)) H) ta tb) z := fun σ Kn H s' Q q =>
  ha σ Kn H s' _ fun v Kn1 H1 g1 r1 => by
    cases r1
    refine ⟨⟨s, rfl⟩, hb σ Kn1 H1 (s'.grow g1) _ fun w Kn2 H2 g2 r2 => ?_⟩
    obtain ⟨p, ws, rfl, h3, h4⟩ := r2
    have e := paired_fl h4
    subst e
    unfold joinO at h
    split at h
    · rename_i hz
      cases h
      exact ⟨s, p, ys, rfl, rfl, .inl (sq_of (g2.kh _ _ h3)), by omega, q _ Kn2 H2 (g1.trans g2) rfl⟩
    · cases h
theorem rc_intB {x : Bool} : RCV K (fun xs H Q => (∃ i, xs = [.int i] ∧ Q (.int i) H) ∨ ∃ k, xs = [.bl k] ∧ Q (.int (if k then 1 else 0)) H) (x, ()) (if x = true then (1 : Int) else 0) := fun Kn H vs ek hr Q q => by
  obtain ⟨v, rfl, h1⟩ := one_arg hr
  cases h1
  exact .inr ⟨x, rfl, q.fl ek⟩
theorem rc_intI {x : Int} : RCV K (fun xs H Q => (∃ i, xs = [.int i] ∧ Q (.int i) H) ∨ ∃ k, xs = [.bl k] ∧ Q (.int (if k then 1 else 0)) H) (x, ()) x := fun Kn H vs ek hr Q q => by
  obtain ⟨v, rfl, h1⟩ := one_arg hr
  cases h1
  exact .inl ⟨x, rfl, q.fl ek⟩
theorem r2_powO {i j z : Int} (h : powO i j = some z) : R2V K (rI CPow fun i j => .int (i ^ j.toNat)) i j z := by
  unfold powO at h
  split at h
  · rename_i hb
    cases h
    exact r2_I ⟨hb.1, hb.2.1, by omega⟩
  · cases h
/-- x < y < z -/
theorem ev_chain {r r' : R2} (ha : EV K F Kn0 sl ow ta x) (hb : EV K F Kn0 sl ow tb y) (hr : R2V K r x y a) (hc : EV K F Kn0 sl ow tc z) (hr' : R2V K r' y z b) : EV K F Kn0 sl ow (tChain r r' ta tb tc) (a && b) := fun σ Kn H s Q q =>
  ha σ Kn H s _ fun v Kn1 H1 g1 r1 => hb σ Kn1 H1 (s.grow g1) _ fun w Kn2 H2 g2 r2 => hr Kn2 H2 v w g2.kh (Rp.mono g2.kk r1) r2 _ fun u Kn3 H3 g3 r3 => by
    refine ⟨a, r3, ?_⟩
    cases a with
    | true => exact iteT (hc σ Kn3 H3 (((s.grow g1).grow g2).grow g3) _ fun v4 Kn4 H4 g4 r4 => hr' Kn4 H4 w v4 g4.kh (Rp.mono (g3.kk.trans g4.kk) r2) r4 Q fun u5 Kn5 H5 g5 r5 => q u5 Kn5 H5 ((((g1.trans g2).trans g3).trans g4).trans g5) r5)
    | false => exact iteF (q _ Kn3 H3 ((g1.trans g2).trans g3) rfl)
/-- t3 is t1 and t2 put together -/
inductive Ap : {τ1 τ2 τ3 : Type} → [Tp τ1] → [Tp τ2] → [Tp τ3] → τ1 → τ2 → τ3 → Prop
  | z {τ : Type} [Tp τ] (t : τ) : Ap () t t
  | s {α τ1 τ2 τ3 : Type} [Rp α] [Tp τ1] [Tp τ2] [Tp τ3] (x : α) {t1 : τ1} {t2 : τ2} {t3 : τ3} : Ap t1 t2 t3 → Ap (x, t1) t2 (x, t3)
theorem Ap.rept {K : Fg} {H : Hp} {τ1 τ2 τ3 : Type} [i1 : Tp τ1] [i2 : Tp τ2] [i3 : Tp τ3] {t1 : τ1} {t2 : τ2} {t3 : τ3} (h : Ap t1 t2 t3) : ∀ {vs ws : List V}, Wk.rept K H vs t1 → Wk.rept K H ws t2 → Wk.rept K H (vs ++ ws) t3 := by
  induction h with
  | z t =>
    intro vs ws h1 h2
    cases h1
    exact h2
  | s x _ ih =>
    intro vs ws h1 h2
    obtain ⟨v, r, rfl, h3, h4⟩ := h1
    exact ⟨v, r ++ ws, rfl, h3, ih h4 h2⟩
theorem r2_catA {α1 τ1 α2 τ2 α3 τ3 : Type} [Rp α1] [Tp τ1] [Rp α2] [Tp τ2] [Rp α3] [Tp τ3] {t1 : α1 × τ1} {t2 : α2 × τ2} {t3 : α3 × τ3} (h : Ap t1 t2 t3) (hn : Tp.n (α1 × τ1) + Tp.n (α2 × τ2) ≤ 1000 := by decide) : R2V K (rCatA K) t1 t2 t3 := fun Kn H v w ek h1 h2 Q q => by
  obtain ⟨p, vs, rfl, h3, h4⟩ := h1
  obtain ⟨p2, ws, rfl, h5, h6⟩ := h2
  have n1 : vs ≠ [] := by
    obtain ⟨_, _, rfl, _⟩ := h4
    simp
  have n2 : ws ≠ [] := by
    obtain ⟨_, _, rfl, _⟩ := h6
    simp
  refine ⟨p, p2, vs, ws, rfl, rfl, st_of (ek _ _ h3), st_of (ek _ _ h5), ?_, fun e => absurd e n1, fun _ e => absurd e n2, fun _ _ l hl => ?_⟩
  · rw [Tp.len h4, Tp.len h6]
    exact le_line (by omega)
  · exact q _ (upd Kn l (.tup (vs ++ ws))) _ (Gr.new ek hl) ⟨l, _, rfl, upd_same, h.rept (Tp.mono (Gr.new ek hl).kk h4) (Tp.mono (Gr.new ek hl).kk h6)⟩
/-- found.clear() -/
theorem sb_clr {xs : List α} (hi : sl[i]? = some (.at p)) (hj : ow[j]? = some (ol p xs)) (ho : ow.set j (ol p ([] : List α)) = ow1) (k : SN K F Kn0 sl ow1 D) : SB K F Kn0 sl ow D (tDrop (tBM0 K "list" rClear (tVar i))) := fun σ Kn H s => by
  obtain ⟨o, h1, h2⟩ := s.sl.get hi
  obtain ⟨f1, f2, ws, f3, f4⟩ := s.ow.each _ (List.mem_of_getElem? hj)
  subst ho
  refine ⟨.ref p, by rw [h1]; exact congrArg some h2, Or.inl ⟨rfl, ws, sq_of f3⟩, p, ws, rfl, rfl, f3, k _ Kn _ ?_⟩
  exact s.write hj (Ex.refl _) (upd_in s.ek f2) (fun q hq _ => upd_ne hq) (fun _ _ h => h) upd_same .nil
theorem en_listO {xs : List α} (hi : sl[i]? = some (.at p)) (hj : ow[j]? = some (ol p xs)) : EN K F Kn0 sl ow (tCB (fun xs H Q => ∃ p ys, xs = [.ref p] ∧ (SqL K H p ys ∨ SqT K H p ys) ∧ ∀ l, H l = none → Q (.ref l) (upd H l (.lst ys))) (tCons (tVar i) tNil)) xs := fun σ Kn H s Q q => by
  obtain ⟨o, h1, h2⟩ := s.sl.get hi
  obtain ⟨f1, f2, ws, f3, f4⟩ := s.ow.each _ (List.mem_of_getElem? hj)
  exact ⟨.ref p, by rw [h1]; exact congrArg some h2, p, ws, rfl, .inl (sq_of f3), fun l hl => q l ws Kn _ (Gr.newU s.ek hl) hl (fresh_back s.ek hl) upd_same f4⟩
/-- a test that changes something on its way -/
def ETM (K : Fg) (F Kn0 : Hp) (sl : List Sl) (ow : List Ow) (tt : TT) (ow' : List Ow) (b : Bool) : Prop := ∀ σ Kn H, S K F Kn0 sl ow σ Kn H → ∀ Q : Bool → Hp → Prop, (∀ Kn' H', Ex Kn Kn' → S K F Kn0 sl ow' σ Kn' H' → Q b H') → tt σ H Q
theorem ET.etm (h : ET K F Kn0 sl ow tt b) : ETM K F Kn0 sl ow tt ow b := fun σ Kn H s Q q => h σ Kn H s Q fun Kn' H' g => q Kn' H' g.kk (s.grow g)
theorem etm_test (h : EM K F Kn0 sl ow te ow1 b) : ETM K F Kn0 sl ow (tTest te) ow1 b := fun σ Kn H s Q q => h σ Kn H s _ fun v Kn' H' e s' r => ⟨b, r, q Kn' H' e s'⟩
theorem etm_and {t u : TT} (h1 : ETM K F Kn0 sl ow t ow1 a) (h2 : a = true → ET K F Kn0 sl ow1 u b) : ETM K F Kn0 sl ow (tAnd t u) ow1 (a && b) := fun σ Kn H s Q q => h1 σ Kn H s _ fun Kn1 H1 e1 s1 => by
  cases a with
  | true => exact iteT (h2 rfl σ Kn1 H1 s1 Q fun Kn2 H2 g2 => q Kn2 H2 (e1.trans g2.kk) (s1.grow g2))
  | false => exact iteF (q Kn1 H1 e1 s1)
theorem etm_or {t u : TT} (h1 : ETM K F Kn0 sl ow t ow1 a) (h2 : a = false → ET K F Kn0 sl ow1 u b) : ETM K F Kn0 sl ow (tOr t u) ow1 (a || b) := fun σ Kn H s Q q => h1 σ Kn H s _ fun Kn1 H1 e1 s1 => by
  cases a with
  | true => exact iteT (q Kn1 H1 e1 s1)
  | false => exact iteF (h2 rfl σ Kn1 H1 s1 Q fun Kn2 H2 g2 => q Kn2 H2 (e1.trans g2.kk) (s1.grow g2))
theorem sb_ifM {t u : TS} (h : ETM K F Kn0 sl ow tt ow1 b) (h1 : b = true → SB K F Kn0 sl ow1 D t) (h2 : b = false → SB K F Kn0 sl ow1 D u) : SB K F Kn0 sl ow D (tIfS tt t u) := fun σ Kn H s => h σ Kn H s _ fun Kn1 H1 e1 s1 => by
  cases b with
  | true => exact iteT (h1 rfl σ Kn1 H1 s1)
  | false => exact iteF (h2 rfl σ Kn1 H1 s1)
end
section
variable {X : Cx} {K : Fg}
theorem k_catA (h : X.K = K := by rfl) : OpR X (binaryOp .Add) (rCatA K) := h ▸ op_catA
theorem k_join {to te : TE} {o e : Expr} {apos pos : Pos} (ho : PE X o to) (he : PE X e te) (hs : starEach [e] X.env = [(false, eval e X.env)] := by rfl) (hbase : attributeBase o "join" X.env (eval o X.env) = eval o X.env := by rfl) (hline : (apos.endLine == pos.line) = true := by rfl) (h : X.K = K := by rfl) :
    PE X (.Call (.Attribute o "join" apos) [e] [] pos) (tM1 (fun x xs H Q => ∃ a p, ∃ ys : List Str, x = .str a ∧ xs = [.ref p] ∧ (SqL K H p (ys.map V.str) ∨ SqT K H p (ys.map V.str)) ∧ (ys.map (·.length)).sum + ys.length * a.length ≤ 16777216 ∧ Q (.str (Txt.join a ys)) H) to te) := h ▸ pe_join ho he hs hbase hline
end
end Wk
/-! Wk6: dicts. -/
namespace Wk
open PySem PySem.Spec L2 Evl
/-- what may be a key -/
class K1 (α : Type) [Rp α] where
  key : α → Key
  inj : ∀ {a b : α}, key a = key b → a = b
  iff : ∀ {K : Fg} {H : Hp} {v : V} {a : α}, rep K H v a → v = kV (key a)
instance : K1 Int := { key := Sum.inl, inj := fun h => Sum.inl.inj h, iff := fun h => h }
instance : K1 Str := { key := Sum.inr, inj := fun h => Sum.inr.inj h, iff := fun h => h }
class KT1 (τ : Type) [Tp τ] where
  keys : τ → List Key
  inj : ∀ {a b : τ}, keys a = keys b → a = b
  iff : ∀ {K : Fg} {H : Hp} {vs : List V} {a : τ}, rept K H vs a → vs = (keys a).map kV
instance : KT1 Unit := { keys := fun _ => [], inj := fun _ => rfl, iff := fun h => h }
instance {α τ : Type} [Rp α] [Tp τ] [K1 α] [KT1 τ] : KT1 (α × τ) where
  keys t := K1.key t.1 :: KT1.keys t.2
  inj h := Prod.ext (K1.inj (List.cons.inj h).1) (KT1.inj (List.cons.inj h).2)
  iff h := by
    obtain ⟨v, r, h1, h2, h3⟩ := h
    rw [h1, K1.iff h2, KT1.iff h3]
    rfl
class Ky (κ : Type) [Rp κ] where
  kt : Type
  dec : DecidableEq kt
  key : κ → kt
  inj : ∀ {a b : κ}, key a = key b → a = b
  ho : List (kt × V) → HO
  get : ∀ {K : Fg} {Kh H : Hp} {p : Addr} {v : V} {a : κ} {ws : List (kt × V)}, rep K Kh v a → Ex Kh H → H p = some (ho ws) → DGet H p v (valV ws (key a))
  put : ∀ {K : Fg} {Kh H : Hp} {p : Addr} {v y : V} {a : κ} {ws : List (kt × V)}, rep K Kh v a → Ex Kh H → H p = some (ho ws) → ws.length < sizeLine → DPut H p v y (upd H p (ho (putK ws (key a) y)))
instance {κ : Type} [Rp κ] [Ky κ] : DecidableEq (Ky.kt κ) := Ky.dec
instance {α : Type} [Rp α] [K1 α] : Ky α where
  kt := Key
  dec := inferInstance
  key := K1.key
  inj := K1.inj
  ho := .dK
  get h _ e := by
    rw [K1.iff h]
    exact DGet.k e
  put h _ e l := by
    rw [K1.iff h]
    exact DPut.k e l
instance {α τ : Type} [Rp α] [Tp τ] [KT1 (α × τ)] : Ky (α × τ) where
  kt := List Key
  dec := inferInstance
  key := KT1.keys
  inj := KT1.inj
  ho := .dT
  get h x e := by
    obtain ⟨p, vs, h1, h2, h3⟩ := h
    rw [h1]
    have h4 := x _ _ h2
    rw [KT1.iff (τ := α × _) h3] at h4
    exact DGet.t e h4
  put h x e l := by
    obtain ⟨p, vs, h1, h2, h3⟩ := h
    rw [h1]
    have h4 := x _ _ h2
    rw [KT1.iff (τ := α × _) h3] at h4
    exact DPut.t e h4 l
/-- the table of a dict -/
structure Dc (κ β : Type) where
  l : List (κ × β)
section
variable {κ β : Type} [DecidableEq κ]
def getD (kvs : List (κ × β)) (k : κ) : Option β := (kvs.find? fun kv => decide (kv.1 = k)).map (·.2)
def putD (kvs : List (κ × β)) (k : κ) (y : β) : List (κ × β) := if (getD kvs k).isSome = true then kvs.map (fun kv => if kv.1 = k then (kv.1, y) else kv) else kvs ++ [(k, y)]
def putO (kvs : Dc κ β) (k : κ) (y : β) : Option (Dc κ β) := if kvs.l.length < 1000000 then some ⟨putD kvs.l k y⟩ else none
def mergeD (kvs more : List (κ × β)) : List (κ × β) := more.foldl (fun acc kv => putD acc kv.1 kv.2) kvs
end
section
variable {κ β : Type} [Rp κ] [Ky κ] [Rp β]
abbrev DK (K : Fg) (H : Hp) : List (Ky.kt κ × V) → List (κ × β) → Prop := Paired fun w kv => w.1 = Ky.key kv.1 ∧ rep K H w.2 kv.2
theorem DK.mono {K : Fg} {H H' : Hp} {ws : List (Ky.kt κ × V)} {kvs : List (κ × β)} (e : Ex H H') (h : DK K H ws kvs) : DK K H' ws kvs := Paired.mapP h fun _ _ q => ⟨q.1, Rp.mono e q.2⟩
instance obDc : Ob (Dc κ β) where
  ob K H o x := ∃ ws, o = Ky.ho (κ := κ) ws ∧ DK K H ws x.l
  mono e h := by
    obtain ⟨ws, h1, h2⟩ := h
    exact ⟨ws, h1, DK.mono e h2⟩
instance rpDc : Rp (Dc κ β) where
  rep K H v x := ∃ p o, v = .ref p ∧ H p = some o ∧ Ob.ob K H o x
  mono e h := by
    obtain ⟨p, o, h1, h2, h3⟩ := h
    exact ⟨p, o, h1, e _ _ h2, Ob.mono e h3⟩
variable [DecidableEq κ]
theorem DK.get {K : Fg} {H : Hp} {ws : List (Ky.kt κ × V)} {kvs : List (κ × β)} (k : κ) (h : DK K H ws kvs) : (getD kvs k = none ∧ valV ws (Ky.key k) = none) ∨ ∃ y v, getD kvs k = some y ∧ valV ws (Ky.key k) = some v ∧ rep K H v y := by
  unfold DK at h
  induction h with
  | nil => exact .inl ⟨rfl, rfl⟩
  | @cons w kv ws kvs h t ih =>
    unfold getD valV
    by_cases e : kv.1 = k
    · have e2 : w.1 = Ky.key k := h.1.trans (congrArg _ e)
      rw [List.find?_cons_of_pos (by simpa using e), List.find?_cons_of_pos (by simpa using e2)]
      exact .inr ⟨_, _, rfl, rfl, h.2⟩
    · have e2 : ¬ w.1 = Ky.key k := fun z => e (Ky.inj (h.1.symm.trans z))
      rw [List.find?_cons_of_neg (by simpa using e), List.find?_cons_of_neg (by simpa using e2)]
      exact ih
theorem DK.some {K : Fg} {H : Hp} {ws : List (Ky.kt κ × V)} {kvs : List (κ × β)} (k : κ) (h : DK K H ws kvs) : (valV ws (Ky.key k)).isSome = (getD kvs k).isSome := by
  rcases h.get k with ⟨h1, h2⟩ | ⟨y, v, h1, h2, _⟩
  · rw [h1, h2]
    rfl
  · rw [h1, h2]
    rfl
theorem DK.repl {K : Fg} {H : Hp} {ws : List (Ky.kt κ × V)} {kvs : List (κ × β)} (k : κ) {v : V} {y : β} (hv : rep K H v y) (h : DK K H ws kvs) : DK K H (ws.map fun kv => if kv.1 = Ky.key k then (kv.1, v) else kv) (kvs.map fun kv => if kv.1 = k then (kv.1, y) else kv) := by
  unfold DK at h ⊢
  induction h with
  | nil => exact .nil
  | @cons w kv ws kvs h t ih =>
    rw [List.map_cons, List.map_cons]
    refine .cons ?_ ih
    by_cases e : kv.1 = k
    · have e2 : w.1 = Ky.key k := h.1.trans (congrArg _ e)
      rw [if_pos e, if_pos e2]
      exact ⟨h.1, hv⟩
    · have e2 : ¬ w.1 = Ky.key k := fun z => e (Ky.inj (h.1.symm.trans z))
      rw [if_neg e, if_neg e2]
      exact h
theorem Paired.app2 {α β : Type} {R : α → β → Prop} : ∀ {xs xs' : List α} {ys ys' : List β}, Paired R xs ys → Paired R xs' ys' → Paired R (xs ++ xs') (ys ++ ys')
  | _, _, _, _, .nil, h => h
  | _, _, _, _, .cons q t, h => .cons q (Paired.app2 t h)
theorem DK.put {K : Fg} {H : Hp} {ws : List (Ky.kt κ × V)} {kvs : List (κ × β)} (k : κ) {v : V} {y : β} (hv : rep K H v y) (h : DK K H ws kvs) : DK K H (putK ws (Ky.key k) v) (putD kvs k y) := by
  unfold putK putD
  rw [valV_any, h.some k]
  split
  · exact DK.repl k hv h
  · exact Paired.app2 h (.cons ⟨rfl, hv⟩ .nil)
end
section
variable {K : Fg} {F Kn0 : Hp} {sl sl' : List Sl} {ow ow0 ow1 ow2 : List Ow} {κ β γ : Type} [Rp κ] [Ky κ] [DecidableEq κ] [Rp β] [Rp γ] {ta tb te td tk : TE} {k : κ} {x : γ} {D : Ends} {t u tz : TS} {b : Bool} {i j : Nat} {p : Addr}
/-- the object at place j is another one now, all else as it was -/
theorem S.writeG {σ : L2.St} {Kn H Kn' H' : Hp} {o1 o2 : Ow} (s : S K F Kn0 sl ow σ Kn H) (hj : ow[j]? = some o1) (ha : o1.ad = p) (hb : o2.ad = p) (kk : Ex Kn Kn') (kh : Ex Kn' H')
    (hq : ∀ q, q ≠ p → H q ≠ none → H' q = H q) (sp : ∀ q, H q ≠ none → Kn q = none → Kn' q = none) (hp : o2.ok K Kn' H') : S K F Kn0 sl (ow.set j o2) σ Kn' H' := by
  obtain ⟨f1, f2, f3⟩ := s.ow.each _ (List.mem_of_getElem? hj)
  have f4 := Ow.there f3
  rw [ha] at f1 f2 f4
  have jl : j < ow.length := (List.getElem?_eq_some_iff.mp hj).1
  refine ⟨s.e0.trans kk, kh, fun a u h => ?_, fun a h1 h2 => sp a (Ex.nn s.ef h1) (s.sep a h1 h2), s.sl.mono kk, ⟨fun o ho => ?_, ?_⟩⟩
  · have hne : a ≠ p := fun z => by rw [z, f1] at h; cases h
    rw [hq a hne (ne_none_of (s.ef _ _ h))]
    exact s.ef _ _ h
  · obtain ⟨i, hi⟩ := List.getElem?_of_mem ho
    by_cases e : i = j
    · subst e
      rw [List.getElem?_set_self jl] at hi
      cases hi
      rw [hb]
      exact ⟨f1, sp p f4 f2, hp⟩
    · rw [List.getElem?_set_ne (Ne.symm e)] at hi
      obtain ⟨h1, h2, h3⟩ := s.ow.each o (List.mem_of_getElem? hi)
      have h4 := Ow.there h3
      have hne : o.ad ≠ p := fun z => e (ow_at s.ow.nd hi hj (z.trans ha.symm))
      exact ⟨h1, sp _ h4 h2, Ow.ok_mono kk (hq _ hne h4) h3⟩
  · have e : (ow.set j o2).map Ow.ad = ow.map Ow.ad := by
      rw [List.map_set]
      refine List.ext_getElem? fun i => ?_
      by_cases e : j = i
      · subst e
        rw [List.getElem?_set_self (by rw [List.length_map]; exact jl), List.getElem?_map, hj, hb, ← ha]
        rfl
      · rw [List.getElem?_set_ne e]
    rw [e]
    exact s.ow.nd
theorem S.ownG {σ : L2.St} {Kn H : Hp} {o : Ow} (s : S K F Kn0 sl ow σ Kn H) (ha : o.ad = p) (fp : F p = none) (kp : Kn p = none) (no : ∀ o ∈ ow, o.ad ≠ p) (ok : o.ok K Kn H) : S K F Kn0 sl (o :: ow) σ Kn H :=
  ⟨s.e0, s.ek, s.ef, s.sep, s.sl, ⟨fun o ho => by
    rcases List.mem_cons.mp ho with rfl | ho
    · rw [ha]
      exact ⟨fp, kp, ok⟩
    · exact s.ow.each o ho, List.nodup_cons.mpr ⟨fun h => by
      obtain ⟨o, ho, e⟩ := List.mem_map.mp h
      exact no o ho (e.trans ha), s.ow.nd⟩⟩⟩
/-- x = {} -/
theorem sb_dnewK {sl' : Addr → List Sl} (hm : Ky.ho (κ := κ) [] = HO.dK []) (hs : ∀ p, sl.set i (.at p) = sl' p) (k : ∀ p, SN K F Kn0 (sl' p) (oo p (Dc.mk ([] : List (κ × β))) :: ow) D) : SB K F Kn0 sl ow D (tAsg tDNewK (gName i)) := fun σ Kn H s p hp =>
  k p _ Kn _ (hs p ▸ ((s.grow (Gr.newU s.ek hp)).ownG (p := p) (o := oo p (Dc.mk ([] : List (κ × β)))) rfl (fresh_back s.ef hp) (fresh_back s.ek hp) (owned_ne s hp) ⟨_, upd_same, [], hm.symm, .nil⟩).seta i)
theorem sb_dnewT {sl' : Addr → List Sl} (hm : Ky.ho (κ := κ) [] = HO.dT []) (hs : ∀ p, sl.set i (.at p) = sl' p) (k : ∀ p, SN K F Kn0 (sl' p) (oo p (Dc.mk ([] : List (κ × β))) :: ow) D) : SB K F Kn0 sl ow D (tAsg tDNewT (gName i)) := fun σ Kn H s p hp =>
  k p _ Kn _ (hs p ▸ ((s.grow (Gr.newU s.ek hp)).ownG (p := p) (o := oo p (Dc.mk ([] : List (κ × β)))) rfl (fresh_back s.ef hp) (fresh_back s.ek hp) (owned_ne s hp) ⟨_, upd_same, [], hm.symm, .nil⟩).seta i)
/-- d[k] = y -/
theorem sb_dput {y : β} {d d' : Dc κ β} (hi : sl[i]? = some (.at p)) (hj : ow[j]? = some (oo p d)) (h : EV K F Kn0 sl ow te y) (hk : EV K F Kn0 sl ow tk k) (hx : putO d k y = some d') (ho : ow.set j (oo p d') = ow1) (n : SN K F Kn0 sl ow1 D) :
    SB K F Kn0 sl ow D (sDPut (tVar i) tk te) := fun σ Kn H s => h σ Kn H s _ fun v Kn1 H1 g1 r1 => by
  obtain ⟨o, h1, h2⟩ := s.sl.get hi
  refine ⟨.ref p, by rw [h1]; exact congrArg some h2, hk σ Kn1 H1 (s.grow g1) _ fun w Kn2 H2 g2 r2 => ?_⟩
  have s2 := (s.grow g1).grow g2
  obtain ⟨f1, f2, o1, f3, ws, f4, f5⟩ := s2.ow.each _ (List.mem_of_getElem? hj)
  subst f4
  unfold putO at hx
  split at hx
  · case isTrue hl =>
    cases hx
    subst ho
    refine ⟨p, _, rfl, Ky.put r2 s2.ek f3 (by rw [f5.length]; exact lt_line hl), n _ Kn2 _ ?_⟩
    exact s2.writeG hj rfl rfl (Ex.refl _) (upd_in s2.ek f2) (fun q hq _ => upd_ne hq) (fun _ _ h => h) ⟨_, upd_same, _, rfl, DK.put k (Rp.mono g2.kk r1) f5⟩
  · cases hx
/-- k in d -/
theorem ev_dinO {d : Dc κ β} (hi : sl[i]? = some (.at p)) (hj : ow[j]? = some (oo p d)) (hk : EV K F Kn0 sl ow tk k) : EV K F Kn0 sl ow (tDIn tk (tVar i)) (getD d.l k).isSome := fun σ Kn H s Q q => hk σ Kn H s _ fun v Kn1 H1 g1 r1 => by
  have s1 := s.grow g1
  obtain ⟨o, h1, h2⟩ := s1.sl.get hi
  obtain ⟨f1, f2, o1, f3, ws, f4, f5⟩ := s1.ow.each _ (List.mem_of_getElem? hj)
  subst f4
  exact ⟨.ref p, by rw [h1]; exact congrArg some h2, p, _, rfl, Ky.get r1 s1.ek f3, q _ Kn1 H1 g1 (congrArg V.bl (f5.some k))⟩
theorem ev_din {d : Dc κ β} (hd : EV K F Kn0 sl ow td d) (hk : EV K F Kn0 sl ow tk k) : EV K F Kn0 sl ow (tDIn tk td) (getD d.l k).isSome := fun σ Kn H s Q q => hk σ Kn H s _ fun v Kn1 H1 g1 r1 => hd σ Kn1 H1 (s.grow g1) _ fun u Kn2 H2 g2 r2 => by
  obtain ⟨p, o1, e1, e2, ws, f4, f5⟩ := r2
  subst f4
  exact ⟨p, _, e1, Ky.get (Rp.mono g2.kk r1) g2.kh (g2.kh _ _ e2), q _ Kn2 H2 (g1.trans g2) (congrArg V.bl (f5.some k))⟩
theorem ev_dnotinO {d : Dc κ β} (hi : sl[i]? = some (.at p)) (hj : ow[j]? = some (oo p d)) (hk : EV K F Kn0 sl ow tk k) : EV K F Kn0 sl ow (tDNotIn tk (tVar i)) (!(getD d.l k).isSome) := fun σ Kn H s Q q => hk σ Kn H s _ fun v Kn1 H1 g1 r1 => by
  have s1 := s.grow g1
  obtain ⟨o, h1, h2⟩ := s1.sl.get hi
  obtain ⟨f1, f2, o1, f3, ws, f4, f5⟩ := s1.ow.each _ (List.mem_of_getElem? hj)
  subst f4
  exact ⟨.ref p, by rw [h1]; exact congrArg some h2, p, _, rfl, Ky.get r1 s1.ek f3, q _ Kn1 H1 g1 (congrArg (fun b => V.bl (!b)) (f5.some k))⟩
theorem ev_dnotin {d : Dc κ β} (hd : EV K F Kn0 sl ow td d) (hk : EV K F Kn0 sl ow tk k) : EV K F Kn0 sl ow (tDNotIn tk td) (!(getD d.l k).isSome) := fun σ Kn H s Q q => hk σ Kn H s _ fun v Kn1 H1 g1 r1 => hd σ Kn1 H1 (s.grow g1) _ fun u Kn2 H2 g2 r2 => by
  obtain ⟨p, o1, e1, e2, ws, f4, f5⟩ := r2
  subst f4
  exact ⟨p, _, e1, Ky.get (Rp.mono g2.kk r1) g2.kh (g2.kh _ _ e2), q _ Kn2 H2 (g1.trans g2) (congrArg (fun b => V.bl (!b)) (f5.some k))⟩
/-- d[k] -/
theorem ev_dgetO {d : Dc κ β} {y : β} (hi : sl[i]? = some (.at p)) (hj : ow[j]? = some (oo p d)) (hk : EV K F Kn0 sl ow tk k) (hy : getD d.l k = some y) : EV K F Kn0 sl ow (tDGet (tVar i) tk) y := fun σ Kn H s Q q => by
  obtain ⟨o, h1, h2⟩ := s.sl.get hi
  refine ⟨.ref p, by rw [h1]; exact congrArg some h2, hk σ Kn H s _ fun v Kn1 H1 g1 r1 => ?_⟩
  have s1 := s.grow g1
  obtain ⟨f1, f2, o1, f3, ws, f4, f5⟩ := s1.ow.each _ (List.mem_of_getElem? hj)
  subst f4
  rcases f5.get k with ⟨h1, h2⟩ | ⟨y2, w, h1, h2, h3⟩
  · rw [h1] at hy
    cases hy
  · rw [h1] at hy
    cases hy
    exact ⟨p, w, rfl, h2 ▸ Ky.get r1 s1.ek f3, q w Kn1 H1 g1 h3⟩
theorem ev_dget {d : Dc κ β} {y : β} (hd : EV K F Kn0 sl ow td d) (hk : EV K F Kn0 sl ow tk k) (hy : getD d.l k = some y) : EV K F Kn0 sl ow (tDGet td tk) y := fun σ Kn H s Q q => hd σ Kn H s _ fun u Kn1 H1 g1 r1 => hk σ Kn1 H1 (s.grow g1) _ fun v Kn2 H2 g2 r2 => by
  obtain ⟨p, o1, e1, e2, ws, f4, f5⟩ := Rp.mono g2.kk r1
  subst f4
  rcases f5.get k with ⟨h1, h2⟩ | ⟨y2, w, h1, h2, h3⟩
  · rw [h1] at hy
    cases hy
  · rw [h1] at hy
    cases hy
    exact ⟨p, w, e1, h2 ▸ Ky.get r2 g2.kh (g2.kh _ _ e2), q w Kn2 H2 (g1.trans g2) h3⟩
/-- a dict of one's own, lent -/
theorem S.borrowG {σ : L2.St} {Kn H : Hp} {d : Dc κ β} (s : S K F Kn0 sl ow σ Kn H) (hi : sl[i]? = some (.at p)) (hj : ow[j]? = some (oo p d)) : ∃ o, Kn p = none ∧ H p = some o ∧ S K F Kn0 (sl.set i (sv d)) (ow.eraseIdx j) σ (upd Kn p o) H := by
  obtain ⟨o, h1, h2⟩ := s.sl.get hi
  have h2 : o = some (.ref p) := h2
  obtain ⟨f1, f2, ob, f3, f4⟩ := s.ow.each _ (List.mem_of_getElem? hj)
  have s1 := s.sub (List.eraseIdx_sublist ow j)
  have no : ∀ o ∈ ow.eraseIdx j, o.ad ≠ p := fun o hm z => by
    obtain ⟨m, hm'⟩ := List.getElem?_of_mem hm
    rw [List.getElem?_eraseIdx] at hm'
    split at hm'
    · have := ow_at s.ow.nd hm' hj z
      omega
    · have := ow_at s.ow.nd hm' hj z
      omega
  have s2 := s1.know (o := ob) f1 f2 no f3
  have hσ : σ.set i o = σ := by
    refine List.ext_getElem? fun m => ?_
    by_cases e : i = m
    · subst e
      rw [List.getElem?_set_self (List.getElem?_eq_some_iff.mp h1).1, h1]
    · rw [List.getElem?_set_ne e]
  have s3 := s2.set (x := sv d) (o := o) i ⟨.ref p, h2, p, ob, rfl, upd_same, Ob.mono (Ex.new f2) f4⟩
  rw [hσ] at s3
  exact ⟨ob, f2, f3, s3⟩
theorem ev_borG [Fl γ] {z : γ} {d : Dc κ β} (hi : sl[i]? = some (.at p)) (hj : ow[j]? = some (oo p d)) (hs : sl.set i (sv d) = sl') (ho : ow.eraseIdx j = ow1) (h : EV K F Kn0 sl' ow1 te z) : EV K F Kn0 sl ow te z := fun σ Kn H s Q q => by
  obtain ⟨ws, kp, hp, s1⟩ := s.borrowG hi hj
  subst hs
  subst ho
  exact h σ _ H s1 Q fun v Kn' H' g r => q v Kn H' ⟨Ex.refl _, g.hh, s.ek.trans g.hh, fun _ _ h => h⟩ (Fl.iff.mpr (Fl.iff.mp r))
theorem et_borG {tt : TT} {d : Dc κ β} (hi : sl[i]? = some (.at p)) (hj : ow[j]? = some (oo p d)) (hs : sl.set i (sv d) = sl') (ho : ow.eraseIdx j = ow1) (h : ET K F Kn0 sl' ow1 tt b) : ET K F Kn0 sl ow tt b := fun σ Kn H s Q q => by
  obtain ⟨ws, kp, hp, s1⟩ := s.borrowG hi hj
  subst hs
  subst ho
  exact h σ _ H s1 Q fun Kn' H' g => q Kn H' ⟨Ex.refl _, g.hh, s.ek.trans g.hh, fun _ _ h => h⟩
end
section
variable {X : Cx} {o i e value : Expr} {pos pos' tpos : Pos} {td ty tv : TE}
theorem k_dget (hu : X.A.units + 64 < cLine) (ho : PE X o td) (hi : PE X i ty) (hs : NoSl i) : PE X (.Subscript o i pos) (tDGet td ty) := pe_dget (by omega) ho hi hs
theorem k_din (hu : X.A.units + 64 < cLine) (hi : PE X i ty) (ho : PE X o td) : PC X .In i o (tDIn ty td) := pc_din (by omega) hi ho
theorem k_dnotin (hu : X.A.units + 64 < cLine) (hi : PE X i ty) (ho : PE X o td) : PC X .NotIn i o (tDNotIn ty td) := pc_dnotin (by omega) hi ho
theorem k_dput (hu : X.A.units + 64 < cLine) (ho : PE X o td) (hi : PE X i ty) (hv : PE X value tv) (hs : swapsWith value (some (.Subscript o i pos')) pos.line X.env = pure false) : PS X (.Assign [.Subscript o i pos'] value pos) (sDPut td ty tv) := ps_dput (by omega) ho hi hv hs
end
/-! ### a new list out of an operation with effects -/
section
variable {K : Fg} {F Kn0 : Hp} {sl : List Sl} {ow ow1 ow2 : List Ow} {α β γ : Type} [Rp α] [Rp β] [Rp γ] {ta tb : TE} {x : α} {y : β}
theorem enm_op {r : R2} {zs : List γ} (ha : EM K F Kn0 sl ow ta ow1 x) (hb : EM K F Kn0 sl ow1 tb ow2 y) (hr : R2L K r x y zs) : ENM K F Kn0 sl ow (tOp r ta tb) ow2 zs := fun σ Kn H s Q q =>
  ha σ Kn H s _ fun v Kn1 H1 e1 s1 r1 => hb σ Kn1 H1 s1 _ fun w Kn2 H2 e2 s2 r2 => hr Kn2 H2 v w s2.ek (Rp.mono e2 r1) r2 Q fun p ws Kn' H' g' hp kp hw r' =>
    q p ws Kn' H' ((e1.trans e2).trans g'.kk) (s2.grow g') (fresh_back s2.ef hp) kp (owned_ne s2 hp) hw r'
end
/-! ### a display -/
section
variable {K : Fg} {F Kn0 : Hp} {sl : List Sl} {ow : List Ow} {κ β : Type} [Rp κ] [K1 κ] [DecidableEq κ] [Rp β] {tk tv : TE} {k : κ} {y : β} {trs : List (TE × TE)} {kvs : List (κ × β)}
def EPs (K : Fg) (F Kn0 : Hp) (sl : List Sl) (ow : List Ow) (trs : List (TE × TE)) (kvs : List (κ × β)) : Prop := ∀ σ Kn H, S K F Kn0 sl ow σ Kn H → ∀ Q : List (V × V) → Hp → Prop,
  (∀ ws Kn' H', Gr Kn H Kn' H' → DK K Kn' ws kvs → Q (ws.map fun w => (kV w.1, w.2)) H') → tPairs trs σ H Q
theorem eps_nil : EPs K F Kn0 sl ow [] ([] : List (κ × β)) := fun σ Kn H s Q q => q [] Kn H (Gr.refl s.ek) .nil
theorem eps_cons (hk : EV K F Kn0 sl ow tk k) (hv : EV K F Kn0 sl ow tv y) (hr : EPs K F Kn0 sl ow trs kvs) : EPs K F Kn0 sl ow ((tk, tv) :: trs) ((k, y) :: kvs) := fun σ Kn H s Q q =>
  hk σ Kn H s _ fun v Kn1 H1 g1 r1 => hv σ Kn1 H1 (s.grow g1) _ fun w Kn2 H2 g2 r2 => hr σ Kn2 H2 ((s.grow g1).grow g2) _ fun ws Kn3 H3 g3 r3 => by
    have e := K1.iff r1
    subst e
    exact q ((K1.key k, w) :: ws) Kn3 H3 ((g1.trans g2).trans g3) (.cons ⟨rfl, Rp.mono g3.kk r2⟩ r3)
theorem DK.merge {K : Fg} {H : Hp} : ∀ {ms : List (Key × V)} {more : List (κ × β)} {ws : List (Key × V)} {kvs : List (κ × β)}, DK K H ms more → DK K H ws kvs → DK K H (mergeK ws ms) (mergeD kvs more) := by
  intro ms more ws kvs h
  unfold DK at h
  induction h generalizing ws kvs with
  | nil => exact fun h => h
  | @cons w kv ms more h t ih =>
    intro q
    refine ih ?_
    show DK K H (putK ws w.1 w.2) (putD kvs kv.1 kv.2)
    rw [h.1]
    exact DK.put kv.1 h.2 q
/-- {..}[k] -/
theorem ev_pick (hp : EPs K F Kn0 sl ow trs kvs) (hk : EV K F Kn0 sl ow tk k) (hl : kvs.length ≤ 15) (hy : getD (mergeD [] kvs) k = some y) : EV K F Kn0 sl ow (tDGet (tDisp trs) tk) y := fun σ Kn H s Q q p hp0 => by
  have g0 : Gr Kn H Kn (upd H p (.dK [])) := Gr.newU s.ek hp0
  refine hp σ Kn _ (s.grow g0) _ fun ws Kn1 H1 g1 r1 => ?_
  have e1 : H1 p = some (.dK []) := g1.hh _ _ upd_same
  have kp : Kn1 p = none := g1.sp p (ne_none_of upd_same) (fresh_back s.ek hp0)
  have g : Gr Kn H Kn1 (upd H1 p (.dK (mergeK [] ws))) := ⟨g1.kk, fun a u h => by
    have hne : a ≠ p := fun z => by rw [z, hp0] at h; cases h
    rw [upd_ne hne]
    exact g1.hh _ _ (by rw [upd_ne hne]; exact h), upd_in g1.kh kp, fun a h1 h2 => g1.sp a (Ex.nn g0.hh h1) h2⟩
  refine ⟨e1, ws, rfl, by rw [r1.length]; exact hl, hk σ Kn1 _ (s.grow g) _ fun v Kn2 H2 g2 r2 => ?_⟩
  have r3 : DK K Kn1 (mergeK [] ws) (mergeD [] kvs) := DK.merge r1 .nil
  rcases r3.get k with ⟨h1, h2⟩ | ⟨y2, w, h1, h2, h3⟩
  · rw [h1] at hy
    cases hy
  · rw [h1] at hy
    cases hy
    exact ⟨p, w, rfl, h2 ▸ Ky.get r2 g2.kh (g2.hh _ _ upd_same), q w Kn2 H2 (g.trans g2) (Rp.mono g2.kk h3)⟩
end
end Wk
/-! Wupd: dict(pairs) and d.update(d2) with tuple keys. -/
namespace L2
open PySem PySem.Spec PyProof.Rows
def mergeT (kvs more : List (List Key × V)) : List (List Key × V) := more.foldl (fun acc kv => putK acc kv.1 kv.2) kvs
theorem length_mergeT : ∀ (more kvs : List (List Key × V)), (mergeT kvs more).length ≤ kvs.length + more.length
  | [], kvs => Nat.le_refl _
  | p :: r, kvs => by
    have h1 := length_mergeT r (putK kvs p.1 p.2)
    have h2 := length_putK kvs p.1 p.2
    show (mergeT (putK kvs p.1 p.2) r).length ≤ _
    rw [List.length_cons]
    omega
theorem KT.merge {H : Hp} : ∀ {more : List (List Key × V)} {ms : List (List Key × Addr × Value)} {kvs : List (List Key × V)} {xs : List (List Key × Addr × Value)}, KT H more ms → KT H kvs xs → KT H (mergeT kvs more) (storedAllH xs ms) := by
  intro more ms kvs xs r
  unfold KT at r
  induction r generalizing kvs xs with
  | nil => intro q; exact q
  | @cons p q ps qs h t ih =>
    intro r0
    have e : KT H (putK kvs p.1 p.2) (storedH xs q.1 q.2.1 q.2.2) := by
      have := r0.put p.1 h.2.1 h.2.2
      rw [← h.1]
      exact this
    exact ih e
section
variable {X : Cx} {pins : List (Addr × Obj)} {σ : St} {H : Hp} {s : Shared}
theorem pairsT_of (I : Inv X pins σ H s) : ∀ {ps : List Addr} {kvs : List (List Key × V)}, Paired (fun p kv => ∃ b, SqT X.K H p [.ref b, kv.2] ∧ H b = some (.tup (kv.1.map kV))) ps kvs →
    ∃ ms : List (List Key × Addr × Value), KT H kvs ms ∧ ms.length = ps.length ∧ ∀ (j : Nat) (m : List Key × Addr × Value), ms[j]? = some m → ∃ p : Addr, ps[j]? = some p ∧ IsTup s.heap p #[.ref m.2.1, m.2.2]
  | _, _, .nil => ⟨[], .nil, rfl, fun j q e => by simp at e⟩
  | _, _, .cons (a := p) (b := kv) h t => by
    obtain ⟨ms, r, hl, hp⟩ := pairsT_of I t
    obtain ⟨b, h1, h2⟩ := h
    obtain ⟨its, rv, ht, _⟩ := I.tuple h1
    obtain ⟨u, y, ei, ru, ry⟩ := vals2 rv
    subst ei
    cases ru
    refine ⟨(kv.1, b, y) :: ms, .cons ⟨rfl, h2, ry⟩ r, by rw [List.length_cons, List.length_cons, hl], fun j m e => ?_⟩
    cases j with
    | zero =>
      have e' : (kv.1, b, y) = m := Option.some.inj e
      subst e'
      exact ⟨p, rfl, ht⟩
    | succ j =>
      obtain ⟨p', e1, e2⟩ := hp j m (by simpa using e)
      exact ⟨p', by simpa using e1, e2⟩
theorem KT.is_all (I : Inv X pins σ H s) : ∀ {kvs : List (List Key × V)} {ms : List (List Key × Addr × Value)}, KT H kvs ms → ∀ x ∈ ms, (tupleKind (mixKind X.prog X.w)).is s.heap x.1 x.2.1 := by
  intro kvs ms q
  unfold KT at q
  induction q with
  | nil => intro x hx; exact nomatch hx
  | @cons p q ps qs hq t ih =>
    intro x hx
    rcases List.mem_cons.mp hx with e | hx
    · subst e
      exact key_of I.hok (by rw [← hq.1]; exact hq.2.1)
    · exact ih x hx
theorem key_stays {P : Program} {w : World} {h h' : Heap} {k : List Key} {b : Addr} (x : (tupleKind (mixKind P w)).is h k b) (e : ∀ o, h.get? b = some o → h'.get? b = some o) : (tupleKind (mixKind P w)).is h' k b := by
  obtain ⟨o, its, n, h1, h2, h3, h4⟩ := x
  exact ⟨o, its, n, e _ h1, h2, h3, h4⟩
theorem key_there {P : Program} {w : World} {h : Heap} {k : List Key} {b : Addr} (x : (tupleKind (mixKind P w)).is h k b) : b < h.objs.size := by
  obtain ⟨o, its, n, h1, h2, h3, h4⟩ := x
  exact Heap.lt_size h1
end
section
variable {X : Cx}
/-- dict(xs), xs a list of pairs whose keys are tuples -/
def rDictT (K : PySem.W.Frag) : List V → Hp → VK → Prop := fun xs H Q => ∃ (a : Addr) (ps : List Addr) (kvs : List (List Key × V)), xs = [.ref a] ∧ SqL K H a (ps.map V.ref) ∧ Paired (fun p kv => ∃ b, SqT K H p [.ref b, kv.2] ∧ H b = some (.tup (kv.1.map kV))) ps kvs ∧
    ∀ p, H p = none → Q (.ref p) (upd H p (.dT (mergeT [] kvs)))
theorem cr_dictT (hcalm : X.calm = true) (hu : X.A.units + 64 < cLine) : CallR X (.type "dict") (rDictT X.K) := by
  intro pins s σ H xs us Q I r q
  obtain ⟨a, ps, kvs, ex, hq, hp, q⟩ := q
  subst ex
  rw [Vals.ref1 r]
  obtain ⟨its, rv, pl, hz⟩ := I.list hq
  have ei := refs_at rv
  subst ei
  rw [List.length_map] at hz
  obtain ⟨ms, rel, hl, hpr⟩ := pairsT_of I hp
  obtain ⟨o, n, ho, hc, hd, hdat⟩ := pl
  have hall := KT.is_all I rel
  have hprs : (ms.map fun m => ((Value.ref m.2.1, m.2.2) : Value × Value)).length = ms.length := List.length_map _
  refine call_dict_pairsH (knd := tupleKind (mixKind X.prog X.w)) (ps := ms) (PairArg.list a (ps.map Value.ref).toArray (fun j => ps.getD j 0) (ms.map fun m => ((Value.ref m.2.1, m.2.2) : Value × Value))) (I.ok.hd hcalm)
    (show X.A.units + 1 + 1 < cLine by omega) ⟨⟨o, n, ho, hc, hd, hdat⟩, by simp [hl], fun j k v e => ?_⟩ ⟨by rw [hprs], fun i key v e => ?_⟩ (fun h' hk x hx => ?_) (by rw [hprs, hl]; exact hz) fun h' tk dd' k => ?_
  · rw [List.getElem?_map] at e
    cases em : ms[j]? with
    | none => rw [em] at e; cases e
    | some m =>
      rw [em] at e
      cases e
      obtain ⟨p, e1, e2⟩ := hpr j m em
      have eg : ps.getD j 0 = p := by rw [List.getD_eq_getElem?_getD, e1]; rfl
      refine ⟨by simp [e1], ?_⟩
      show PairAt s.heap (ps.getD j 0) _ _
      rw [eg]
      exact .inl e2
  · have e : (ms.map fun m => ((Value.ref m.2.1, m.2.2) : Value × Value))[i]? = some (key, v) := e
    rw [List.getElem?_map] at e
    cases em : ms[i]? with
    | none => rw [em] at e; cases e
    | some m =>
      rw [em] at e
      cases e
      exact ⟨m.1, m.2.1, rfl, rfl⟩
  · exact key_stays (hall x hx) fun o e => hk _ o (Nat.ne_of_lt (key_there (hall x hx))) (by simp) e
  · have hm : (s.heap.objs.size == sysModules) = false := beq_eq_false_iff_ne.mpr (Nat.ne_of_gt I.big)
    have hlen : (mergeT [] kvs).length ≤ sizeLine := by
      refine Nat.le_trans (length_mergeT kvs []) ?_
      rw [List.length_nil, Nat.zero_add, Paired.length rel, hl]
      exact hz
    have hf : H s.heap.objs.size = none := I.hok.fresh (Nat.le_refl _)
    obtain ⟨ob, es, ep, hq2, h2, h3, h4, _, h5⟩ := dd'
    have rel2 : KT (upd H s.heap.objs.size (.dT (mergeT [] kvs))) (mergeT [] kvs) (storedAllH [] ms) := (KT.merge rel .nil).keeps fun b ys e => by
      rw [upd_ne (ne_of_none e hf)]
      exact e
    exact ⟨.ref s.heap.objs.size, upd H s.heap.objs.size (.dT (mergeT [] kvs)), I.laid (t' := tk) (fun b o e => k b o (by simp) e) (Nat.le_refl _) ⟨hlen, hm, _, rel2, ob, es, ep, hq2, h2, h3, h4, h5⟩, rfl, q _ hf⟩
/-- d.update(d2), both with tuple keys -/
def rUpdT (P : Program) (w : World) : V → List V → Hp → VK → Prop := fun x xs H Q => ∃ (a o : Addr) (kvs more : List (List Key × V)), x = .ref a ∧ xs = [.ref o] ∧ H a = some (.dT kvs) ∧ H o = some (.dT more) ∧ a ≠ o ∧ kvs.length + more.length ≤ sizeLine ∧
  (kvs ≠ [] ∨ (more.map fun kv => tupleKeyHash (mixKind P w) kv.1).Nodup) ∧ Q .non (upd H a (.dT (mergeT kvs more)))
theorem mt_updT (hu : X.A.units + 64 < cLine) : MtR X "dict.update" (rUpdT X.prog X.w) := by
  intro pins s σ H x xs v us Q I rx rxs h
  obtain ⟨a, o, kvs, more, rfl, rfl, ha, ho, hao, hsz, hap, q⟩ := h
  cases rx
  rw [Vals.ref1 rxs]
  obtain ⟨z1, hd1, xs1, rel1, dd1⟩ := dt_of I.hok ha
  obtain ⟨z2, hd2, xs2, rel2, dd2⟩ := dt_of I.hok ho
  have l1 := Paired.length rel1
  have l2 := Paired.length rel2
  have hall := KT.is_all I rel2
  refine call_update_dictH (knd := tupleKind (mixKind X.prog X.w)) (show X.A.units + 1 < cLine by omega) hao hd2 dd1 dd2 ?_ (by rw [← l1, ← l2]; exact hsz) fun h' dd' _ hs => ?_
  · rcases hap with h | h
    · refine .inl fun e => h ?_
      rw [e] at l1
      exact List.length_eq_zero_iff.mp l1
    · refine .inr ⟨fun x hx => IsTupleKey.typeIs (hall x hx), ?_⟩
      have e : xs2.map (fun x => (tupleKind (mixKind X.prog X.w)).hash x.1) = more.map fun kv => tupleKeyHash (mixKind X.prog X.w) kv.1 := by
        clear h hsz l1 l2 hall dd2 ho q z2
        unfold KT at rel2
        induction rel2 with
        | nil => rfl
        | cons h t ih =>
          rw [List.map_cons, List.map_cons, ih, h.1]
          rfl
      rw [e]
      exact h
  · have hlen : (mergeT kvs more).length ≤ sizeLine := Nat.le_trans (length_mergeT more kvs) hsz
    obtain ⟨ob, es, ep, hq2, h2, h3, h4, _, h5⟩ := dd'
    have rel3 : KT (upd H a (.dT (mergeT kvs more))) (mergeT kvs more) (storedAllH xs1 xs2) := (KT.merge rel2 rel1).keeps fun c ys ec => by
      rw [upd_ne (ne_of ec ha (fun z => nomatch z))]
      exact ec
    exact ⟨.non, upd H a (.dT (mergeT kvs more)), d_write (ob := .dT (mergeT kvs more)) (t' := s.toks) I (by rw [ha]; exact True.intro) hs ⟨ob, hq2⟩ ⟨hlen, hd1, _, rel3, ob, es, ep, hq2, h2, h3, h4, h5⟩, rfl, q⟩
end
end L2
namespace Wk
open PySem PySem.Spec L2 Evl
abbrev C2 := Int × Int × Unit
def hash2 (x : C2) : Int := reduceHash (Builtin.Tuple.tupleHashOf [hashInt x.1, hashInt x.2.1])
def prs {β : Type} (more : List (C2 × β × Unit)) : List (C2 × β) := more.map fun t => (t.1, t.2.1)
open Classical in
noncomputable def updO {β : Type} (d : Dc C2 β) (more : List (C2 × β × Unit)) : Option (Dc C2 β) :=
  if d.l.length + more.length ≤ 900000 ∧ (d.l ≠ [] ∨ ((mergeD [] (prs more)).map fun t => hash2 t.1).Nodup) then some ⟨mergeD d.l (mergeD [] (prs more))⟩ else none
section
variable {K : Fg} {F Kn0 : Hp} {sl : List Sl} {ow ow1 : List Ow} {β : Type} [Rp β] {te : TE} {D : Ends} {i j : Nat} {p : Addr} {P : Program} {w : World}
theorem prs_of {Kn H : Hp} (e : Ex Kn H) : ∀ {vs : List V} {more : List (C2 × β × Unit)}, Paired (rep K Kn) vs more → ∃ (ps : List Addr) (kvs : List (List Key × V)), vs = ps.map V.ref ∧
    Paired (fun p kv => ∃ b, SqT K H p [.ref b, kv.2] ∧ H b = some (.tup (kv.1.map kV))) ps kvs ∧ DK (κ := C2) K Kn kvs (prs more)
  | _, _, .nil => ⟨[], [], rfl, .nil, .nil⟩
  | _, _, .cons (a := v) (b := t) h r => by
    obtain ⟨ps, kvs, e1, e2, e3⟩ := prs_of e r
    obtain ⟨q, ws, rfl, hq, kv, rest, rfl, hk, yv, rest2, rfl, hy, hu⟩ := h
    cases hu
    obtain ⟨b, us, rfl, hb, h3⟩ := hk
    have hus : us = (KT1.keys t.1).map kV := KT1.iff (τ := C2) h3
    subst hus
    refine ⟨q :: ps, (KT1.keys t.1, yv) :: kvs, by rw [e1]; rfl, .cons ⟨b, st_of (e _ _ hq), e _ _ hb⟩ e2, .cons ⟨rfl, hy⟩ e3⟩
theorem DK.mergeT {Kn : Hp} : ∀ {ms : List (List Key × V)} {more : List (C2 × β)} {ws : List (List Key × V)} {kvs : List (C2 × β)}, DK (κ := C2) K Kn ms more → DK (κ := C2) K Kn ws kvs → DK (κ := C2) K Kn (L2.mergeT ws ms) (mergeD kvs more) := by
  intro ms more ws kvs h
  unfold DK at h
  induction h generalizing ws kvs with
  | nil => exact fun h => h
  | @cons w kv ms more h t ih =>
    intro q
    refine ih ?_
    show DK (κ := C2) K Kn (putK ws w.1 w.2) (putD kvs kv.1 kv.2)
    rw [h.1]
    exact DK.put kv.1 h.2 q
theorem DK.hash {Kn : Hp} : ∀ {ms : List (List Key × V)} {more : List (C2 × β)}, DK (κ := C2) K Kn ms more → (ms.map fun kv => tupleKeyHash (mixKind P w) kv.1) = more.map fun t => hash2 t.1 := by
  intro ms more h
  unfold DK at h
  induction h with
  | nil => rfl
  | cons h t ih =>
    rw [List.map_cons, List.map_cons, ih, h.1]
    rfl
theorem sb_upd {d d' : Dc C2 β} {more : List (C2 × β × Unit)} (hi : sl[i]? = some (.at p)) (hj : ow[j]? = some (oo p d)) (h : EV K F Kn0 sl ow te more) (hx : updO d more = some d') (ho : ow.set j (oo p d') = ow1) (n : SN K F Kn0 sl ow1 D) :
    SB K F Kn0 sl ow D (tDrop (tBM K "dict" (rUpdT P w) (tVar i) (tCons (tCB (rDictT K) (tCons te tNil)) tNil))) := fun σ Kn H s => by
  obtain ⟨o, h1, h2⟩ := s.sl.get hi
  obtain ⟨f1, f2, o1, f3, ws, f4, f5⟩ := s.ow.each _ (List.mem_of_getElem? hj)
  subst f4
  have f3 : H p = some (.dT ws) := f3
  unfold updO at hx
  split at hx
  · case isTrue hc =>
    cases hx
    subst ho
    refine ⟨.ref p, by rw [h1]; exact congrArg some h2, .inr (.inr (.inl ⟨rfl, .inr ⟨ws, f3⟩⟩)), h σ Kn H s _ fun v Kn1 H1 g1 r1 => ?_⟩
    obtain ⟨a, vs, rfl, ha, hv⟩ := r1
    obtain ⟨ps, kvs, rfl, e2, e3⟩ := prs_of g1.kh hv
    refine ⟨a, ps, kvs, rfl, sq_of (g1.kh _ _ ha), e2, fun p2 hp2 => ?_⟩
    have s1 := s.grow g1
    have g2 : Gr Kn1 H1 Kn1 (upd H1 p2 (.dT (L2.mergeT [] kvs))) := Gr.newU g1.kh hp2
    have s2 := s1.grow g2
    have hp1 : H1 p = some (.dT ws) := g1.hh _ _ f3
    have hne : p ≠ p2 := fun z => by
      rw [z, hp2] at hp1
      cases hp1
    have hH2 : (upd H1 p2 (.dT (L2.mergeT [] kvs))) p = some (.dT ws) := by
      rw [upd_ne hne]
      exact hp1
    have f6 : DK (κ := C2) K Kn1 ws d.l := DK.mono g1.kk f5
    have e4 : DK (κ := C2) K Kn1 (L2.mergeT [] kvs) (mergeD [] (prs more)) := DK.mergeT e3 .nil
    have l1 : ws.length = d.l.length := f6.length
    have l2 : kvs.length = more.length := by
      rw [e3.length]
      exact List.length_map _
    have l3 := length_mergeT kvs []
    rw [List.length_nil] at l3
    have kp : Kn1 p = none := g1.sp p (ne_none_of f3) f2
    refine ⟨p, p2, ws, L2.mergeT [] kvs, rfl, rfl, hH2, upd_same, hne, ?_, ?_, n _ Kn1 _ ?_⟩
    · have hs : sizeLine ≥ 1000000 := by rw [sizeLine_eq]; decide
      omega
    · rcases hc.2 with hc | hc
      · refine .inl fun z => hc ?_
        rw [z] at l1
        exact List.length_eq_zero_iff.mp l1.symm
      · refine .inr ?_
        rw [DK.hash e4]
        exact hc
    · exact s2.writeG hj rfl rfl (Ex.refl _) (upd_in s2.ek kp) (fun q hq _ => upd_ne hq) (fun _ _ h => h) ⟨_, upd_same, _, rfl, DK.mergeT e4 f6⟩
  · cases hx
end
section
variable {X : Cx} {K : Fg} {P : Program} {w : World}
theorem k_dictT (hu : X.A.units + 64 < cLine) (hc : X.calm = true := by rfl) (h : X.K = K := by rfl) : CallR X (.type "dict") (rDictT K) := by
  subst h
  exact cr_dictT hc hu
theorem k_updT (hu : X.A.units + 64 < cLine) (h : X.prog = P := by rfl) (hw : X.w = w := by rfl) : MtR X "dict.update" (rUpdT P w) := by
  subst h
  subst hw
  exact mt_updT hu
end
end Wk
namespace Wk
open PySem PySem.Spec L2 Evl
/-- a list with a None put behind -/
structure Nx (α : Type) where
  l : List α
section
variable {K : Fg} {F Kn0 : Hp} {sl : List Sl} {ow ow1 : List Ow} {α γ : Type} [Rp α] [Rp γ] {te : TE} {D : Ends} {i j : Nat} {p : Addr}
instance obNx : Ob (Nx α) where
  ob K H o x := ∃ ws, o = .lst (ws ++ [.non]) ∧ Paired (rep K H) ws x.l
  mono e h := by
    obtain ⟨ws, h1, h2⟩ := h
    exact ⟨ws, h1, paired_mono e h2⟩
theorem sb_appN {xs : List α} (hi : sl[i]? = some (.at p)) (hj : ow[j]? = some (ol p xs)) (h : EV K F Kn0 sl ow te Nn.nn) (hz : (if xs.length < 1000000 then some () else none) = some ()) (ho : ow.set j (oo p (Nx.mk xs)) = ow1) (k : SN K F Kn0 sl ow1 D) :
    SB K F Kn0 sl ow D (tDrop (tBM K "list" rAppend (tVar i) (tCons te tNil))) := fun σ Kn H s => by
  obtain ⟨o, h1, h2⟩ := s.sl.get hi
  obtain ⟨f1, f2, ws, f3, f4⟩ := s.ow.each _ (List.mem_of_getElem? hj)
  have hz : xs.length < 1000000 := by
    by_cases e : xs.length < 1000000
    · exact e
    · rw [if_neg e] at hz
      cases hz
  refine ⟨.ref p, by rw [h1]; exact congrArg some h2, Or.inl ⟨rfl, ws, sq_of f3⟩, h σ Kn H s _ fun v Kn1 H1 g1 r1 => ?_⟩
  cases r1
  refine ⟨p, ws, .non, rfl, rfl, g1.hh _ _ f3, by rw [paired_len f4]; exact lt_line hz, k _ Kn1 _ ?_⟩
  have kp1 : Kn1 p = none := g1.sp p (ne_none_of f3) f2
  subst ho
  exact (s.grow g1).writeG hj rfl rfl (Ex.refl _) (upd_in g1.kh kp1) (fun q hq _ => upd_ne hq) (fun _ _ h => h) ⟨_, upd_same, ws, rfl, paired_mono g1.kk f4⟩
theorem cut_snoc (ws : List V) (v : V) : cut (ws ++ [v]) none (some (-(1 : Int))) = ws := by
  unfold cut
  rw [HT.sIx_none, List.drop_zero, Nat.sub_zero]
  have e : HT.sIx (ws ++ [v]).length (ws ++ [v]).length (some (-(1 : Int))) = (-(1 : Int) + ((ws ++ [v]).length : Int)).toNat := rfl
  rw [e, List.length_append, List.length_singleton, show (-(1 : Int) + ((ws.length + 1 : Nat) : Int)).toNat = ws.length by omega]
  exact List.take_left
theorem en_slN {xs : List α} {tl th : TO} (hx : sl[i]? = some (.at p)) (hj : ow[j]? = some (oo p (Nx.mk xs))) (hl : EO K F Kn0 sl ow tl none) (hh : EO K F Kn0 sl ow th (some (-(1 : Int)))) : EN K F Kn0 sl ow (tSl (rSlL K) (tVar i) tl th) xs := fun σ Kn H s Q q => by
  obtain ⟨o, h1, h2⟩ := s.sl.get hx
  obtain ⟨f1, f2, o1, f3, ws, f4, f5⟩ := s.ow.each _ (List.mem_of_getElem? hj)
  subst f4
  have f3 : H p = some (.lst (ws ++ [.non])) := f3
  refine ⟨.ref p, by rw [h1]; exact congrArg some h2, hl σ Kn H s _ fun Kn2 H2 g2 => hh σ Kn2 H2 (s.grow g2) _ fun Kn3 H3 g3 => ?_⟩
  have g := g2.trans g3
  refine ⟨p, ws ++ [.non], rfl, sq_of (g.hh _ _ f3), fun l hl => ?_⟩
  have e : cutV (ws ++ [V.non]) none (some (-(1 : Int))) = ws := cut_snoc ws .non
  exact q l _ Kn3 _ (g.trans (Gr.newU g3.kh hl)) (fresh_back g.hh hl) (fresh_back g3.kh hl) upd_same (by rw [e]; exact paired_mono g.kk f5)
end
end Wk
namespace Wk
open PySem PySem.Spec L2 Evl
/-- more is untouched -/
def Fle (F F' : Hp) : Prop := Ex F F'
section
variable {K : Fg} {F F' Kn0 : Hp} {sl sl' : List Sl} {ow ow0 ow1 : List Ow} {α γ : Type} [Rp α] [Rp γ] {D : Ends} {i j : Nat} {p : Addr}
theorem S.back {σ : L2.St} {Kn H : Hp} (f : Fle F F') (s : S K F' Kn0 sl ow σ Kn H) : S K F Kn0 sl ow σ Kn H :=
  ⟨s.e0, s.ek, Ex.trans f s.ef, fun q h1 h2 => s.sep q (Ex.nn f h1) h2, s.sl, ⟨fun o ho => by
    obtain ⟨h1, h2, h3⟩ := s.ow.each o ho
    exact ⟨fresh_back f h1, h2, h3⟩, s.ow.nd⟩⟩
theorem RT.fr {R : VK} {x : γ} (f : Fle F F') (q : RT K F Kn0 ow0 R x) : RT K F' Kn0 ow0 R x := fun v Kn H s r => q v Kn H (s.back f) r
theorem RN.fr {R : VK} {xs : List γ} (f : Fle F F') (q : RN K F Kn0 ow0 R xs) : RN K F' Kn0 ow0 R xs := fun p ws Kn H s fp kp hp r => q p ws Kn H (s.back f) (fresh_back f fp) kp hp r
/-- for x in xs, xs one's own, not touched on the way and one's own behind it -/
theorem sb_forO {g : TG} {tb : TS} {Sx : Type} {xs : List α} (hi : sl[i]? = some (.at p)) (hj : ow[j]? = some (ol p xs)) (ho : ow.eraseIdx j = ow1)
    (slx : Sx → List Sl) (owx : Sx → List Ow) (gx : α → Sx → List Sl) (js : List Nat) (P : List α → Sx → Prop) (s0 : Sx) (h0 : P xs s0) (le : SlLe sl (slx s0)) (eo : (owx s0).Sublist ow1)
    (hg : ∀ x s, GT K g (slx s) (gx x s) js x)
    (step : ∀ F', Fle F F' → ∀ Kn1, Bs F' Kn0 Kn1 → ∀ x rest s, P (x :: rest) s → ∀ N : L2.St → Hp → Prop, (∀ s', P rest s' → ∀ σ Kn H, S K F' Kn1 (slx s') (owx s') σ Kn H → N σ H) → SB K F' Kn1 (gx x s) (owx s) { D with nx := N, ct := N, bk := D.nx } tb)
    (done : ∀ s, P [] s → SN K F Kn0 (slx s) (ol p xs :: owx s) D) : SB K F Kn0 sl ow D (tFor (iList K (tVar i)) g tb) := fun σ Kn H s => by
  obtain ⟨o, h1, h2⟩ := s.sl.get hi
  obtain ⟨f1, f2, ws, f3, f4⟩ := s.ow.each _ (List.mem_of_getElem? hj)
  have f1 : F p = none := f1
  have f2 : Kn p = none := f2
  have fl : Fle F (upd F p (.lst ws)) := Ex.new f1
  have s1 := s.sub (List.eraseIdx_sublist ow j)
  have no : ∀ o ∈ ow.eraseIdx j, o.ad ≠ p := fun o hm z => by
    obtain ⟨m, hm'⟩ := List.getElem?_of_mem hm
    rw [List.getElem?_eraseIdx] at hm'
    split at hm'
    · have := ow_at s.ow.nd hm' hj z
      omega
    · have := ow_at s.ow.nd hm' hj z
      omega
  have s2 : S K (upd F p (.lst ws)) Kn0 sl (ow.eraseIdx j) σ Kn H := ⟨s1.e0, s1.ek, fun a u h => by
    by_cases hq : a = p
    · subst hq
      rw [upd_same] at h
      rw [← h]
      exact f3
    · rw [upd_ne hq] at h
      exact s1.ef _ _ h, fun q h1 h2 => by
    by_cases hq : q = p
    · rw [hq]
      exact f2
    · rw [upd_ne hq] at h1
      exact s1.sep q h1 h2, s1.sl, ⟨fun o ho => by
        obtain ⟨a1, a2, a3⟩ := s1.ow.each o ho
        refine ⟨?_, a2, a3⟩
        rw [upd_ne (no o ho)]
        exact a1, s1.ow.nd⟩⟩
  have b : Bs (upd F p (.lst ws)) Kn0 Kn := s2.bs
  refine ⟨.ref p, by rw [h1]; exact congrArg some h2, p, rfl, ⟨ws, sq_of f3⟩, ?_⟩
  refine ⟨fun i m σ H => i + m = xs.length ∧ ∃ Kn2 s, P (xs.drop i) s ∧ S K (upd F p (.lst ws)) Kn (slx s) (owx s) σ Kn2 H, ⟨xs.length, by omega, Kn, s0, h0, (s2.rebase.le le).sub (ho ▸ eo)⟩, fun i m σ H hW => ?_⟩
  obtain ⟨em, Kn2, st, hP, hS⟩ := hW
  have hp2 : H p = some (.lst ws) := hS.ef _ _ upd_same
  have f5 : Paired (rep K Kn2) ws xs := paired_mono hS.e0 f4
  by_cases hlt : i < xs.length
  · have hx : xs[i]? = some xs[i] := List.getElem?_eq_getElem hlt
    have hd : xs.drop i = xs[i] :: xs.drop (i + 1) := List.drop_eq_getElem_cons hlt
    rw [hd] at hP
    obtain ⟨v, hv, rv⟩ := paired_at f5 hx
    refine .inr ⟨⟨ws, v, sq_of hp2, hv⟩, fun σ' H' => ∃ Kn2 s, P (xs.drop (i + 1)) s ∧ S K (upd F p (.lst ws)) Kn (slx s) (owx s) σ' Kn2 H', fun σ' H' ⟨Kn', s', h1, h2⟩ => ⟨m - 1, by omega, by omega, Kn', s', h1, h2⟩, fun u H' hy => ?_⟩
    obtain ⟨rfl, f⟩ := hy
    have : v = u := Option.some.inj (hv.symm.trans (f ws (sq_of hp2)))
    subst this
    refine hg _ st σ Kn2 H' v hS.sl hS.ek rv _ fun σ2 h2 _ => ?_
    exact step _ fl Kn b _ _ st hP _ (fun s' hs' σ Kn2 H hS' => ⟨Kn2, s', hs', hS'⟩) σ2 Kn2 H' ⟨hS.e0, hS.ek, hS.ef, hS.sep, h2, hS.ow⟩
  · have hd : xs.drop i = [] := List.drop_eq_nil_of_le (by omega)
    rw [hd] at hP
    refine .inl ⟨⟨ws, sq_of hp2, by rw [paired_len f5]; omega⟩, done st hP σ Kn2 H ?_⟩
    have s3 := (hS.unbase b).back fl
    refine s3.own f1 (hS.sep p (by rw [upd_same]; exact fun z => nomatch z) f2) (fun o ho z => ?_) hp2 f5
    have := (hS.ow.each o ho).1
    rw [z, upd_same] at this
    cases this
end
end Wk
set_option synthInstance.maxHeartbeats 400000
set_option synthInstance.maxSize 2000
/-! the mirrors of k29, printed by gen.py -/
namespace Wk29
open PySem L2 Wk
noncomputable def m_cells_at (row_1 : Int) (column_2 : Int) (span_3 : (Int × Int × Unit)) : Option (List (Int × Int × Unit)) :=
  (mulO span_3.1 span_3.2.1).bind fun m_4 =>
  (rngO 0 m_4).bind fun rg_5 =>
  (lcM (fun _ => some true) (fun k_6 => ((divO k_6 span_3.1).bind fun q_8 => (modO k_6 span_3.1).bind fun r_9 => some ((row_1 + q_8), (column_2 + r_9), ()))) rg_5).bind fun zs_7 =>
  some zs_7
noncomputable def m_is_open_L2 (taken_10 : (Dc (Int × Int × Unit) Bool)) (there_15 : Int) : Int → (Unit) → Option (Ctl (Unit) Bool) := fun at_22 _ =>
  (if (getD taken_10.l (there_15, at_22, ())).isSome = true then (some (Ctl.rt false)) else (some (Ctl.nx ())))
noncomputable def m_is_open_L1 (taken_10 : (Dc (Int × Int × Unit) Bool)) (column_12 : Int) (span_13 : (Int × Int × Unit)) : Int → (Unit) → Option (Ctl (Unit) Bool) := fun there_15 _ =>
  (rngO column_12 (column_12 + span_13.1)).bind fun rg_21 =>
  (forC (m_is_open_L2 taken_10 there_15) rg_21 ()).bind fun tot_27 => match tot_27 with
  | .nx _ => some (Ctl.nx ())
  | .bk _ => none
  | .rt r_ => some (Ctl.rt r_)
noncomputable def m_is_open (taken_10 : (Dc (Int × Int × Unit) Bool)) (row_11 : Int) (column_12 : Int) (span_13 : (Int × Int × Unit)) : Option Bool :=
  (rngO row_11 (row_11 + span_13.2.1)).bind fun rg_14 =>
  (forC (m_is_open_L1 taken_10 column_12 span_13) rg_14 ()).bind fun tot_20 => match tot_20 with
  | .nx _ => some true
  | .bk _ => none
  | .rt r_ => some r_
noncomputable def m_put_cells_L2_c (columns_33 : Int) (span_39 : (Int × Int × Unit)) (taken_38 : (Dc (Int × Int × Unit) Bool)) : (Int) → Option Bool := fun at_46 =>
  ((modO at_46 columns_33).bind fun r_47 => ((if (decide (columns_33 < (r_47 + span_39.1))) = true then some true else ((divO at_46 columns_33).bind fun q_48 => (modO at_46 columns_33).bind fun r_49 => (m_is_open taken_38 q_48 r_49 span_39).bind fun r_50 => some (!r_50)))).bind fun b_51 => some b_51)
noncomputable def m_put_cells_L2 (columns_33 : Int) (span_39 : (Int × Int × Unit)) (taken_38 : (Dc (Int × Int × Unit) Bool)) : (Int) → Option (Int) := fun at_46 =>
  (some (at_46 + (1 : Int))).bind fun at_57 =>
  some at_57
noncomputable def m_put_cells_L3 : (Int × Int × Unit) → ((Dc (Int × Int × Unit) Bool)) → Option ((Dc (Int × Int × Unit) Bool)) := fun cell_64 taken_63 =>
  (putO taken_63 cell_64 true).bind fun taken_70 =>
  some taken_70
noncomputable def m_put_cells_L1 (columns_33 : Int) : (Int × Int × Unit) → ((List (Int × Int × Unit)) × (Dc (Int × Int × Unit) Bool)) → Option ((List (Int × Int × Unit)) × (Dc (Int × Int × Unit) Bool)) := fun span_39 (found_37, taken_38) =>
  (some (0 : Int)).bind fun at_45 =>
  (whileF (m_put_cells_L2_c columns_33 span_39 taken_38) (m_put_cells_L2 columns_33 span_39 taken_38) at_45).bind fun at_58 =>
  (divO at_58 columns_33).bind fun q_60 =>
  (modO at_58 columns_33).bind fun r_61 =>
  (m_cells_at q_60 r_61 span_39).bind fun r_62 =>
  (forS (m_put_cells_L3) r_62 taken_38).bind fun taken_71 =>
  (divO at_58 columns_33).bind fun q_73 =>
  (modO at_58 columns_33).bind fun r_74 =>
  (appO found_37 (q_73, r_74, ())).bind fun found_75 =>
  some (found_75, taken_71)
noncomputable def m_put_cells (columns_33 : Int) (spans_34 : (List (Int × Int × Unit))) : Option (List (Int × Int × Unit)) :=
  (some ([] : List (Int × Int × Unit))).bind fun found_36 =>
  (forS (m_put_cells_L1 columns_33) spans_34 (found_36, (Dc.mk ([] : List ((Int × Int × Unit) × Bool))))).bind fun (found_76, taken_77) =>
  some found_76
noncomputable def m__law_stream_L1 : Int → (Int) → Option (Int) := fun cell_82 seed_81 =>
  (some (((seed_81 * (1000003 : Int)) + cell_82) % (2305843009213693951 : Int))).bind fun seed_88 =>
  some seed_88
noncomputable def m__law_stream (script_79 : (Fz Int)) : Option (List Int) :=
  (some (7 : Int)).bind fun seed_80 =>
  (forS (m__law_stream_L1) (cut script_79.l none (some (63 : Int))) seed_80).bind fun seed_89 =>
  (some (0 : Int)).bind fun digits_91 =>
  ((if (decide ((1 : Int) < (script_79.l.length : Int))) = true then ((atI script_79.l (0 : Int)).bind fun i_93 => some (decide ((i_93 % (2 : Int)) = (0 : Int)))) else some false)).bind fun b_94 =>
  ((if b_94 = true then ((atI script_79.l (1 : Int)).bind fun i_96 =>
  (some (i_96.natAbs : Int)).bind fun digits_97 =>
  some digits_97) else (some digits_91))).bind fun digits_98 =>
  some ([digits_98, seed_89] : List Int)
noncomputable def m__law_take (stream_here_100 : (List Int)) (many_101 : Int) : Option (Int × (List Int)) :=
  (atI stream_here_100 (0 : Int)).bind fun i_103 =>
  (if (decide ((0 : Int) < i_103)) = true then ((atI stream_here_100 (0 : Int)).bind fun i_106 =>
  (modO i_106 many_101).bind fun r_107 =>
  (some r_107).bind fun digit_108 =>
  (atI stream_here_100 (0 : Int)).bind fun i_109 =>
  (divO i_109 many_101).bind fun q_110 =>
  (setI stream_here_100 (0 : Int) q_110).bind fun stream_here_111 =>
  some (digit_108, stream_here_111)) else ((atI stream_here_100 (1 : Int)).bind fun i_112 =>
  (setI stream_here_100 (1 : Int) (((i_112 * (48271 : Int)) + (1013904223 : Int)) % (2305843009213693951 : Int))).bind fun stream_here_113 =>
  (atI stream_here_113 (1 : Int)).bind fun i_114 =>
  (atI stream_here_113 (1 : Int)).bind fun i_115 =>
  (modO (((i_114 * (69621 : Int)) % (2147483629 : Int)) + (i_115 / (2147483647 : Int))) many_101).bind fun r_116 =>
  some (r_116, stream_here_113)))
noncomputable def m__law_cells_L2_c (columns_117 : Int) (across_123 : Int) (down_124 : Int) : (Int × (List (Int × Int × Unit)) × (Dc (Int × Int × Unit) Bool)) → Option Bool := fun (at_131, found_132, used_133) =>
  (some (decide ((0 : Int) ≤ at_131)))
noncomputable def m__law_cells_L2 (columns_117 : Int) (across_123 : Int) (down_124 : Int) : (Int × (List (Int × Int × Unit)) × (Dc (Int × Int × Unit) Bool)) → Option (Int × (List (Int × Int × Unit)) × (Dc (Int × Int × Unit) Bool)) := fun (at_131, found_132, used_133) =>
  (divO at_131 columns_117).bind fun q_139 =>
  (some q_139).bind fun row_140 =>
  (modO at_131 columns_117).bind fun r_141 =>
  (some r_141).bind fun column_142 =>
  (some ([] : List (Int × Int × Unit))).bind fun cells_here_143 =>
  ((if (decide ((column_142 + across_123) ≤ columns_117)) = true then ((mulO across_123 down_124).bind fun m_146 =>
  (rngO 0 m_146).bind fun rg_147 =>
  (lcM (fun _ => some true) (fun k_148 => ((divO k_148 across_123).bind fun q_150 => (modO k_148 across_123).bind fun r_151 => some ((row_140 + q_150), (column_142 + r_151), ()))) rg_147).bind fun zs_149 =>
  (some zs_149).bind fun cells_here_152 =>
  some cells_here_152) else (some cells_here_143))).bind fun cells_here_153 =>
  ((if (!decide (cells_here_153 = ([] : List (Int × Int × Unit)))) = true then ((lcM (fun _ => some true) (fun cell_156 => (some (getD used_133.l cell_156).isSome)) cells_here_153).bind fun zs_157 => some (!(zs_157.any id))) else some false)).bind fun b_158 =>
  ((if b_158 = true then ((appO found_132 (row_140, column_142, ())).bind fun found_160 =>
  (lcM (fun _ => some true) (fun cell_161 => (some (cell_161, true, ()))) cells_here_153).bind fun zs_162 =>
  (updO used_133 zs_162).bind fun used_163 =>
  (some (-(2 : Int))).bind fun at_164 =>
  some (at_164, found_160, used_163)) else (some (at_131, found_132, used_133)))).bind fun (at_165, found_166, used_167) =>
  (some (at_165 + (1 : Int))).bind fun at_169 =>
  some (at_169, found_166, used_167)
noncomputable def m__law_cells_L1 (columns_117 : Int) : (Int × Int × Unit) → ((List (Int × Int × Unit)) × (Dc (Int × Int × Unit) Bool)) → Option ((List (Int × Int × Unit)) × (Dc (Int × Int × Unit) Bool)) := fun (across_123, down_124, _) (found_121, used_122) =>
  (some (0 : Int)).bind fun at_130 =>
  (whileF (m__law_cells_L2_c columns_117 across_123 down_124) (m__law_cells_L2 columns_117 across_123 down_124) (at_130, found_121, used_122)).bind fun (at_170, found_171, used_172) =>
  some (found_171, used_172)
noncomputable def m__law_cells (columns_117 : Int) (spans_118 : (List (Int × Int × Unit))) : Option (List (Int × Int × Unit)) :=
  (some ([] : List (Int × Int × Unit))).bind fun found_120 =>
  (forS (m__law_cells_L1 columns_117) spans_118 (found_120, (Dc.mk ([] : List ((Int × Int × Unit) × Bool))))).bind fun (found_174, used_175) =>
  some found_174
noncomputable def m_law_L1 : (Int × Int × Unit) → (Unit) → Option (Ctl (Unit) Bool) := fun place_211 _ =>
  (if ((!true) || ((!decide ((2 : Int) = (2 : Int))) || false)) = true then (some (Ctl.rt false)) else (some (Ctl.nx ())))
noncomputable def m_law (script_177 : (Fz Int)) : Option Bool :=
  (m__law_stream script_177).bind fun r_178 =>
  (some r_178).bind fun stream_here_179 =>
  (m__law_take stream_here_179 (12 : Int)).bind fun (r_180, stream_here_181) =>
  (some ((1 : Int) + r_180)).bind fun columns_182 =>
  (m__law_take stream_here_181 (2 : Int)).bind fun (r_183, stream_here_184) =>
  (atI ([(columns_182, (6 : Int), (13 : Int), ()), ((min columns_182 (2 : Int)), (3 : Int), (41 : Int), ())] : List (Int × Int × Int × Unit)) r_183).bind fun i_185 =>
  (some i_185).bind fun (wide_186, high_187, most_188, _) =>
  (m__law_take stream_here_184 most_188).bind fun (r_189, stream_here_190) =>
  (some r_189).bind fun many_191 =>
  (rngO 0 many_191).bind fun rg_192 =>
  (lcS (fun k_193 st_195 => ((m__law_take st_195 wide_186).bind fun (r_197, stream_here_198) => (m__law_take stream_here_198 high_187).bind fun (r_199, stream_here_200) => some ((((1 : Int) + r_197), ((1 : Int) + r_199), ()), stream_here_200))) rg_192 stream_here_190).bind fun (zs_194, stream_here_201) =>
  (some zs_194).bind fun spans_202 =>
  (some spans_202).bind fun handed_203 =>
  (m_put_cells columns_182 handed_203).bind fun r_204 =>
  (some r_204).bind fun found_205 =>
  ((if (!true) = true then some true else ((m__law_cells columns_182 spans_202).bind fun r_207 => some ((!decide (found_205 = r_207)) || (!decide (handed_203 = spans_202)))))).bind fun b_208 =>
  (if b_208 = true then (some false) else ((forC (m_law_L1) found_205 ()).bind fun tot_216 => match tot_216 with
  | .nx _ => (if found_205.length < 1000000 then some () else none).bind fun u_221 =>
  (m_put_cells columns_182 spans_202).bind fun r_222 =>
  ((if (decide (r_222 = found_205)) = true then ((m_put_cells columns_182 ([] : List (Int × Int × Unit))).bind fun r_223 => some (decide (r_223 = ([] : List (Int × Int × Unit))))) else some false)).bind fun b_224 =>
  some b_224
  | .bk _ => none
  | .rt r_ => some r_))
end Wk29
set_option synthInstance.maxHeartbeats 400000
set_option synthInstance.maxSize 2000
/-! the walks of k29, printed by gen.py -/
namespace Wk29
open PySem L2 Wk
def topS (i : Nat) : Stmt := PySem.Challenge.pw_boxgalley_k29_cells_put.main.body.getD i (.Pass ⟨0, 0, 0, 0⟩)
abbrev s_cells_at : Stmt := topS 1
abbrev s_is_open : Stmt := topS 2
abbrev s_put_cells : Stmt := topS 3
abbrev s__law_stream : Stmt := topS 5
abbrev s__law_take : Stmt := topS 6
abbrev s__law_cells : Stmt := topS 7
abbrev s_law : Stmt := topS 8
structure TX (K : Fg) (mg : Str → Option Value) where
  a_cells_at : Addr
  d_cells_at : FuncData
  F_cells_at : Fun K "cells_at" "cells_at" s_cells_at a_cells_at d_cells_at
  b_cells_at : Binds K d_cells_at ["row", "column", "span"] []
  g_cells_at : mg "cells_at" = some (.ref a_cells_at)
  a_is_open : Addr
  d_is_open : FuncData
  F_is_open : Fun K "is_open" "is_open" s_is_open a_is_open d_is_open
  b_is_open : Binds K d_is_open ["taken", "row", "column", "span"] []
  g_is_open : mg "is_open" = some (.ref a_is_open)
  a_put_cells : Addr
  d_put_cells : FuncData
  F_put_cells : Fun K "put_cells" "put_cells" s_put_cells a_put_cells d_put_cells
  b_put_cells : Binds K d_put_cells ["columns", "spans"] []
  g_put_cells : mg "put_cells" = some (.ref a_put_cells)
  a__law_stream : Addr
  d__law_stream : FuncData
  F__law_stream : Fun K "_law_stream" "_law_stream" s__law_stream a__law_stream d__law_stream
  b__law_stream : Binds K d__law_stream ["_law_script"] []
  g__law_stream : mg "_law_stream" = some (.ref a__law_stream)
  a__law_take : Addr
  d__law_take : FuncData
  F__law_take : Fun K "_law_take" "_law_take" s__law_take a__law_take d__law_take
  b__law_take : Binds K d__law_take ["_law_stream_here", "_law_many"] []
  g__law_take : mg "_law_take" = some (.ref a__law_take)
  a__law_cells : Addr
  d__law_cells : FuncData
  F__law_cells : Fun K "_law_cells" "_law_cells" s__law_cells a__law_cells d__law_cells
  b__law_cells : Binds K d__law_cells ["_law_columns", "_law_spans"] []
  g__law_cells : mg "_law_cells" = some (.ref a__law_cells)
  a_law : Addr
  d_law : FuncData
  F_law : Fun K "law" "law" s_law a_law d_law
  b_law : Binds K d_law ["_law_script"] []
  g_law : mg "law" = some (.ref a_law)
  z_abs : mg "abs" = none
  z_any : mg "any" = none
  z_bool : mg "bool" = none
  z_dict : mg "dict" = none
  z_isinstance : mg "isinstance" = none
  z_len : mg "len" = none
  z_list : mg "list" = none
  z_min : mg "min" = none
  z_range : mg "range" = none
  z_tuple : mg "tuple" = none
def spLaw (K : Fg) : Sp := fun vs H Q _ => ∃ (a : Addr) (ns : List Int), vs = [.ref a] ∧ SqL K H a (ns.map V.int) ∧ ns.length ≤ 63 ∧ ∀ H', Q (.bl true) H'
theorem fn_weak {P : Program} {w : World} {K : Fg} {mg : Str → Option Value} {base : Heap} {k : Nat} {f : Addr} {fd : FuncData} {m : Fz Int → Option Bool}
    (h : FnOk P w K mg base CX0 k f fd ["_law_script"] (PF (τ := Fz Int × Unit) K fun t => m t.1)) (main : ∀ ns : List Int, ns.length ≤ 63 → m (Fz.mk ns) = some true) : FnOk P w K mg base CX0 k f fd ["_law_script"] (spLaw K) :=
  h.imp fun vs H Q E hh => by
    obtain ⟨a, ns, rfl, hs, hl, q⟩ := hh
    exact ⟨H, (Fz.mk ns, ()), true, Evl.Ex.refl _, ⟨.ref a, [], rfl, ⟨a, ns.map V.int, rfl, hs, fl_paired ns⟩, rfl⟩, main ns hl, fun u Kn' H' g r => by cases r; exact q H'⟩
section
variable {P : Program} {w : World} {K : Fg} {mg : Str → Option Value} {base : Heap}
theorem sc_cells_at : FnScope ["row", "column", "span", "k"] ["row", "column", "span"] (defScope s_cells_at) := ⟨rfl, rfl, rfl, by decide +kernel, rfl, by decide +kernel, by decide +kernel⟩
set_option maxHeartbeats 4000000 in
theorem ok_cells_at (T : TX K mg) : FnOk P w K mg base CX0 1 T.a_cells_at T.d_cells_at ["row", "column", "span"] (PL (τ := Int × Int × (Int × Int × Unit) × Unit) K (fun t => m_cells_at t.1 t.2.1 t.2.2.1)) := by
  refine T.F_cells_at.ok sc_cells_at (fun vs H Q E h => ?_) (fun cdv A outer s H vs Q E hr h => ?_)
  · obtain ⟨Kn, t, r, ek, h, hf, q⟩ := h
    exact Tp.len h
  · obtain ⟨Kn, t, r_, ek, h, hf, q⟩ := h
    obtain ⟨row_1, column_2, span_3, u_⟩ := t
    obtain ⟨v_0, rr_, rfl, hv_0, h⟩ := h
    obtain ⟨v_1, rr_, rfl, hv_1, h⟩ := h
    obtain ⟨v_2, rr_, rfl, hv_2, h⟩ := h
    obtain rfl := h
    replace hf : m_cells_at row_1 column_2 span_3 = some r_ := hf
    unfold m_cells_at at hf
    refine ⟨_, (pss_one (ps_ret (pe_lc (own := [("k", 3)]) (g := gName 3) (tt := tYes) (by rfl) sc_cells_at.nd (pi_range1 (by rfl) T.z_range (pa_cons (pe_op op_mul (pe_ix k_ixt (pv 2) pe_int (fun _ _ => rfl)) (pe_ix k_ixt (pv 2) pe_int (fun _ _ => rfl))) pa_nil)) (blkOk_by (own := [("k", 3)]) (N := ["row", "column", "span", "k"]) (sc := defScope s_cells_at) (by decide +kernel)) (fun _ _ _ _ _ => (pg_name (i := 3) sc_cells_at.nd rfl (Or.inl rfl))) (fun _ _ _ _ _ => pts_nil) (fun _ _ _ _ _ => (pe_tup (pa_cons (pe_op op_add (pv 0) (pe_op op_fdiv (pv 3) (pe_ix k_ixt (pv 2) pe_int (fun _ _ => rfl)))) (pa_cons (pe_op op_add (pv 1) (pe_op op_mod (pv 3) (pe_ix k_ixt (pv 2) pe_int (fun _ _ => rfl)))) pa_nil))))))), ?_⟩
    refine enter (Kn := Kn) (sl := [sv row_1, sv column_2, sv span_3, .any]) ek ⟨⟨v_0, rfl, hv_0⟩, ⟨v_1, rfl, hv_1⟩, ⟨v_2, rfl, hv_2⟩, trivial, trivial⟩ ?_
    have q := rn_of q
    obtain ⟨m_4, h_m_4, hf⟩ := bind_some hf
    obtain ⟨rg_5, h_rg_5, hf⟩ := bind_some hf
    obtain ⟨zs_7, h_zs_7, hf⟩ := bind_some hf
    cases hf
    exact sb_retL (en_lc (js := [3]) (fun x => [sv row_1, sv column_2, sv span_3, sv x]) h_zs_7 (it_rng1 (ea_cons (ev_op (ev_op (ev_var (i := 2) rfl) (ev_int 0) (r2_tix (n := 0) (At.z _ _))) (ev_op (ev_var (i := 2) rfl) (ev_int 1) (r2_tix (n := 1) (At.s _ (At.z _ _)))) (r2_mulO h_m_4)) ea_nil) h_rg_5) (anyAt_of (by rfl)) (fun x => (gt_name rfl)) (sub_of (by rfl)) (fun _ _ x b h => by cases h; exact et_yes) (fun _ _ x z _ h => by obtain ⟨k_6, hx_⟩ : ∃ y, y = x := ⟨x, rfl⟩; subst hx_; obtain ⟨q_8, h_q_8, h⟩ := bind_some h; obtain ⟨r_9, h_r_9, h⟩ := bind_some h; have hz_ := Option.some.inj h; subst hz_; exact EV.is (sl' := [sv row_1, sv column_2, sv span_3, sv k_6]) rfl (ev_tup (ea_cons (ev_op (ev_var (i := 0) rfl) (ev_op (ev_var (i := 3) rfl) (ev_op (ev_var (i := 2) rfl) (ev_int 0) (r2_tix (n := 0) (At.z _ _))) (r2_divO h_q_8)) r2_add) (ea_cons (ev_op (ev_var (i := 1) rfl) (ev_op (ev_var (i := 3) rfl) (ev_op (ev_var (i := 2) rfl) (ev_int 0) (r2_tix (n := 0) (At.z _ _))) (r2_modO h_r_9)) r2_add) ea_nil))))) q (List.Sublist.refl _)
theorem sc_is_open : FnScope ["taken", "row", "column", "span", "there", "at"] ["taken", "row", "column", "span"] (defScope s_is_open) := ⟨rfl, rfl, rfl, by decide +kernel, rfl, by decide +kernel, by decide +kernel⟩
set_option maxHeartbeats 4000000 in
theorem ok_is_open (T : TX K mg) : FnOk P w K mg base CX0 1 T.a_is_open T.d_is_open ["taken", "row", "column", "span"] (PF (τ := (Dc (Int × Int × Unit) Bool) × Int × Int × (Int × Int × Unit) × Unit) K (fun t => m_is_open t.1 t.2.1 t.2.2.1 t.2.2.2.1)) := by
  refine T.F_is_open.ok sc_is_open (fun vs H Q E h => ?_) (fun cdv A outer s H vs Q E hr h => ?_)
  · obtain ⟨Kn, t, r, ek, h, hf, q⟩ := h
    exact Tp.len h
  · obtain ⟨Kn, t, r_, ek, h, hf, q⟩ := h
    obtain ⟨taken_10, row_11, column_12, span_13, u_⟩ := t
    obtain ⟨v_0, rr_, rfl, hv_0, h⟩ := h
    obtain ⟨v_1, rr_, rfl, hv_1, h⟩ := h
    obtain ⟨v_2, rr_, rfl, hv_2, h⟩ := h
    obtain ⟨v_3, rr_, rfl, hv_3, h⟩ := h
    obtain rfl := h
    replace hf : m_is_open taken_10 row_11 column_12 span_13 = some r_ := hf
    unfold m_is_open at hf
    refine ⟨_, (pss_cons (ps_for PassesOwn.never rfl (pi_range2 (by rfl) T.z_range (pa_cons (pv 1) (pa_cons (pe_op op_add (pv 1) (pe_ix k_ixt (pv 3) pe_int (fun _ _ => rfl))) pa_nil))) (pg_name (i := 4) sc_is_open.nd rfl (.inl rfl)) (pss_one (ps_for PassesOwn.never rfl (pi_range2 (by rfl) T.z_range (pa_cons (pv 2) (pa_cons (pe_op op_add (pv 2) (pe_ix k_ixt (pv 3) pe_int (fun _ _ => rfl))) pa_nil))) (pg_name (i := 5) sc_is_open.nd rfl (.inl rfl)) (pss_one (ps_if (pt_cmp (k_din hr.units (pe_tup (pa_cons (pv 4) (pa_cons (pv 5) pa_nil))) (pv 0)) rfl) (pss_one (ps_ret pe_bl)) pss_nil)))))
      (pss_one (ps_ret pe_bl))), ?_⟩
    refine enter (Kn := Kn) (sl := [sv taken_10, sv row_11, sv column_12, sv span_13, .any, .any]) ek ⟨⟨v_0, rfl, hv_0⟩, ⟨v_1, rfl, hv_1⟩, ⟨v_2, rfl, hv_2⟩, ⟨v_3, rfl, hv_3⟩, trivial, trivial, trivial⟩ ?_
    have q := rt_of q
    obtain ⟨rg_14, h_rg_14, hf⟩ := bind_some hf
    obtain ⟨tot_20, h_tot_20, hf⟩ := bind_some hf
    refine SB.seqB (fun kx_32 => sb_for (β := Int) (Sx := Unit) (fun s => [sv taken_10, sv row_11, sv column_12, sv span_13, .any, .any]) (fun s => []) (fun x s => [sv taken_10, sv row_11, sv column_12, sv span_13, sv x, .any]) [4] (fun xs s => forC (m_is_open_L1 taken_10 column_12 span_13) xs s = some tot_20) () (IT.m (it_rng2 (ea_cons (ev_var (i := 1) rfl) (ea_cons (ev_op (ev_var (i := 1) rfl) (ev_op (ev_var (i := 3) rfl) (ev_int 1) (r2_tix (n := 1) (At.s _ (At.z _ _)))) r2_add) ea_nil)) h_rg_14)) h_tot_20 (.keep (.keep (.keep (.keep (.keep (.keep .nil)))))) (List.Sublist.refl _) (fun x s => (gt_name rfl)) ?_ ?_)
    · intro Kn1 b1 there_15 rest_ s_ hP_17 N_ hN_16
      obtain ⟨c_, hc_18, hP_17⟩ := bind_some hP_17
      have q_19 := q.base b1
      unfold m_is_open_L1 at hc_18
      refine SB.is (sl' := [sv taken_10, sv row_11, sv column_12, sv span_13, sv there_15, .any]) (ow1 := []) rfl rfl ?_
      obtain ⟨rg_21, h_rg_21, hc_18⟩ := bind_some hc_18
      obtain ⟨tot_27, h_tot_27, hc_18⟩ := bind_some hc_18
      refine sb_for (β := Int) (Sx := Unit) (fun s => [sv taken_10, sv row_11, sv column_12, sv span_13, sv there_15, .any]) (fun s => []) (fun x s => [sv taken_10, sv row_11, sv column_12, sv span_13, sv there_15, sv x]) [5] (fun xs s => forC (m_is_open_L2 taken_10 there_15) xs s = some tot_27) () (IT.m (it_rng2 (ea_cons (ev_var (i := 2) rfl) (ea_cons (ev_op (ev_var (i := 2) rfl) (ev_op (ev_var (i := 3) rfl) (ev_int 0) (r2_tix (n := 0) (At.z _ _))) r2_add) ea_nil)) h_rg_21)) h_tot_27 (.keep (.keep (.keep (.keep (.keep (.keep .nil)))))) (List.Sublist.refl _) (fun x s => (gt_name rfl)) ?_ ?_
      · intro Kn1 b1 at_22 rest_ s_ hP_24 N_ hN_23
        obtain ⟨c_, hc_25, hP_24⟩ := bind_some hP_24
        have q_26 := q_19.base b1
        unfold m_is_open_L2 at hc_25
        refine SB.is (sl' := [sv taken_10, sv row_11, sv column_12, sv span_13, sv there_15, sv at_22]) (ow1 := []) rfl rfl ?_
        refine sb_if (b := (getD taken_10.l (there_15, at_22, ())).isSome) (et_B (ev_din (ev_var (i := 0) rfl) (ev_tup (ea_cons (ev_var (i := 4) rfl) (ea_cons (ev_var (i := 5) rfl) ea_nil))))) (fun hb_29 => ?_) (fun hb_29 => ?_)
        · have hc_25 := ite_t hb_29 hc_25
          cases hc_25
          replace hP_24 : some (Ctl.rt false) = some tot_27 := hP_24
          cases hP_24
          cases hc_18
          replace hP_17 : some (Ctl.rt false) = some tot_20 := hP_17
          cases hP_17
          replace hf : some false = some r_ := hf
          cases hf
          exact sb_ret (ev_bool false) q_26 (List.Sublist.refl _)
        · have hc_25 := ite_f hb_29 hc_25
          refine sb_nx ?_
          cases hc_25
          exact fun σ Kn H s => hN_23 _ hP_24 σ Kn H ((s.le (.keep (.keep (.keep (.keep (.keep (.drop .nil))))))).sub (List.Sublist.refl _))
      · intro s_ h0
        cases h0
        show SN _ _ _ [sv taken_10, sv row_11, sv column_12, sv span_13, sv there_15, .any] [] _
        cases hc_18
        exact fun σ Kn H s => hN_16 _ hP_17 σ Kn H ((s.le (.keep (.keep (.keep (.keep (.drop (.keep .nil))))))).sub (List.Sublist.refl _))
    · intro s_ h0
      cases h0
      refine kx_32 _ _ ?_
      refine SB.is (sl' := [sv taken_10, sv row_11, sv column_12, sv span_13, .any, .any]) (ow1 := []) rfl rfl ?_
      cases hf
      exact sb_ret (ev_bool true) q (List.Sublist.refl _)
theorem sc_put_cells : FnScope ["columns", "spans", "taken", "found", "span", "at", "cell"] ["columns", "spans"] (defScope s_put_cells) := ⟨rfl, rfl, rfl, by decide +kernel, rfl, by decide +kernel, by decide +kernel⟩
set_option maxHeartbeats 4000000 in
theorem ok_put_cells (T : TX K mg) : FnOk P w K mg base CX0 2 T.a_put_cells T.d_put_cells ["columns", "spans"] (PL (τ := Int × (List (Int × Int × Unit)) × Unit) K (fun t => m_put_cells t.1 t.2.1)) := by
  refine T.F_put_cells.ok sc_put_cells (fun vs H Q E h => ?_) (fun cdv A outer s H vs Q E hr h => ?_)
  · obtain ⟨Kn, t, r, ek, h, hf, q⟩ := h
    exact Tp.len h
  · obtain ⟨Kn, t, r_, ek, h, hf, q⟩ := h
    obtain ⟨columns_33, spans_34, u_⟩ := t
    obtain ⟨v_0, rr_, rfl, hv_0, h⟩ := h
    obtain ⟨v_1, rr_, rfl, hv_1, h⟩ := h
    obtain rfl := h
    replace hf : m_put_cells columns_33 spans_34 = some r_ := hf
    unfold m_put_cells at hf
    refine ⟨_, (pss_cons (ps_set (i := 2) sc_put_cells.nd rfl (.inl rfl) pe_dnewT)
      (pss_cons (ps_set (i := 3) sc_put_cells.nd rfl (.inl rfl) (pe_lst pa_nil))
      (pss_cons (ps_for PassesOwn.never rfl (kpi_list (pv 1)) (pg_name (i := 4) sc_put_cells.nd rfl (.inl rfl)) (pss_cons (ps_set (i := 5) sc_put_cells.nd rfl (.inl rfl) pe_int)
      (pss_cons (ps_while PassesOwn.never (PW.pt (pw_or (pt_cmpR op_gt (pe_op op_add (pe_op op_mod (pv 5) (pv 0)) (pe_ix k_ixt (pv 4) pe_int (fun _ _ => rfl))) (pv 0) (nomark _)) (pw_or1 (pt_not (pt_val (pe_call (ok_is_open T) hr (by rfl) T.g_is_open T.F_is_open.kp T.b_is_open .nil pass0 (pa_cons (pv 2) (pa_cons (pe_op op_fdiv (pv 5) (pv 0)) (pa_cons (pe_op op_mod (pv 5) (pv 0)) (pa_cons (pv 4) pa_nil)))))))))) (pss_one (ps_aug (i := 5) sc_put_cells.nd rfl (.inl rfl) pe_int ip_add)))
      (pss_cons (ps_for PassesOwn.never rfl (kpi_list (pe_call (ok_cells_at T) hr (by rfl) T.g_cells_at T.F_cells_at.kp T.b_cells_at .nil pass0 (pa_cons (pe_op op_fdiv (pv 5) (pv 0)) (pa_cons (pe_op op_mod (pv 5) (pv 0)) (pa_cons (pv 4) pa_nil))))) (pg_name (i := 6) sc_put_cells.nd rfl (.inl rfl)) (pss_one (k_dput hr.units (pv 2) (pv 6) pe_bl rfl)))
      (pss_one (ps_expr (pe_bm PySem.F.plainAttrs_list PySem.F.slot_list_append PySem.F.type_list_append mt_append (pv 3) (pa_cons (pe_tup (pa_cons (pe_op op_fdiv (pv 5) (pv 0)) (pa_cons (pe_op op_mod (pv 5) (pv 0)) pa_nil))) pa_nil))))))))
      (pss_one (ps_ret (pv 3)))))), ?_⟩
    refine enter (Kn := Kn) (sl := [sv columns_33, sv spans_34, .any, .any, .any, .any, .any]) ek ⟨⟨v_0, rfl, hv_0⟩, ⟨v_1, rfl, hv_1⟩, trivial, trivial, trivial, trivial, trivial, trivial⟩ ?_
    have q := rn_of q
    refine SB.seqB (fun kx_ => sb_dnewT (κ := (Int × Int × Unit)) (β := Bool) (sl' := fun p_taken_35 => [sv columns_33, sv spans_34, .at p_taken_35, .any, .any, .any, .any]) rfl (fun _ => rfl) (fun p_taken_35 => (kx_ _ _ ?_)))
    obtain ⟨found_36, h_found_36, hf⟩ := bind_some hf
    refine SB.seqB (fun kx_ => sb_asgO (sl' := fun p_found_36 => [sv columns_33, sv spans_34, .at p_taken_35, .at p_found_36, .any, .any, .any]) (fun _ => rfl) (EN.cast (en_lst el_nil) (Option.some.inj h_found_36)) (fun p_found_36 => (kx_ _ _ ?_)))
    obtain ⟨⟨found_76, taken_77⟩, h_tot_44, hf⟩ := bind_some hf
    refine SB.seqB (fun kx_78 => sb_for (β := (Int × Int × Unit)) (Sx := (List (Int × Int × Unit)) × (Dc (Int × Int × Unit) Bool)) (fun s => [sv columns_33, sv spans_34, .at p_taken_35, .at p_found_36, .any, .any, .any]) (fun s => [ol p_found_36 s.1, oo p_taken_35 s.2]) (fun x s => [sv columns_33, sv spans_34, .at p_taken_35, .at p_found_36, sv x, .any, .any]) [4] (fun xs s => forS (m_put_cells_L1 columns_33) xs s = some (found_76, taken_77)) (found_36, (Dc.mk ([] : List ((Int × Int × Unit) × Bool)))) (IT.m (it_list (ev_var (i := 1) rfl))) h_tot_44 (.keep (.keep (.keep (.keep (.keep (.keep (.keep .nil))))))) (List.Sublist.refl _) (fun x s => (gt_name rfl)) ?_ ?_)
    · intro Kn1 b1 span_39 rest_ s_ hP_41 N_ hN_40
      obtain ⟨found_37, taken_38⟩ := s_
      obtain ⟨c_, hc_42, hP_41⟩ := bind_some hP_41
      have q_43 := q.base b1
      unfold m_put_cells_L1 at hc_42
      refine SB.is (sl' := [sv columns_33, sv spans_34, .at p_taken_35, .at p_found_36, sv span_39, .any, .any]) (ow1 := [ol p_found_36 found_37, oo p_taken_35 taken_38]) rfl rfl ?_
      obtain ⟨at_45, h_at_45, hc_42⟩ := bind_some hc_42
      refine SB.seqB (fun kx_ => sb_asg (sl' := [sv columns_33, sv spans_34, .at p_taken_35, .at p_found_36, sv span_39, sv at_45, .any]) rfl (EV.cast (ev_int 0) (Option.some.inj h_at_45)) (kx_ _ _ ?_))
      obtain ⟨at_58, h_tot_56, hc_42⟩ := bind_some hc_42
      obtain ⟨n0_, h_tot_56⟩ := whileF_some h_tot_56
      refine SB.seqB (fun kx_59 => sb_while (Sx := Int) (fun s => [sv columns_33, sv spans_34, .at p_taken_35, .at p_found_36, sv span_39, sv s, .any]) (fun s => [ol p_found_36 found_37, oo p_taken_35 taken_38]) (fun n s => whileS (m_put_cells_L2_c columns_33 span_39 taken_38) (m_put_cells_L2 columns_33 span_39 taken_38) n s = some at_58) n0_ at_45 h_tot_56 (.keep (.keep (.keep (.keep (.keep (.keep (.keep .nil))))))) (List.Sublist.refl _) ?_)
      intro n_ at_46 hP_53
      cases n_ with
      | zero => cases hP_53
      | succ n_ =>
        obtain ⟨b_, ht_, hP_53⟩ := bind_some hP_53
        unfold m_put_cells_L2_c at ht_
        obtain ⟨r_47, h_r_47, ht_⟩ := bind_some ht_
        obtain ⟨b_51, h_b_51, ht_⟩ := bind_some ht_
        cases ht_
        refine ⟨_, ET.is (sl' := [sv columns_33, sv spans_34, .at p_taken_35, .at p_found_36, sv span_39, sv at_46, .any]) rfl (et_orO h_b_51 (et_test (ev_op (ev_op (ev_op (ev_var (i := 5) rfl) (ev_var (i := 0) rfl) (r2_modO h_r_47)) (ev_op (ev_var (i := 4) rfl) (ev_int 0) (r2_tix (n := 0) (At.z _ _))) r2_add) (ev_var (i := 0) rfl) r2_gt)) (fun _ _ h => by obtain ⟨q_48, h_q_48, h⟩ := bind_some h; obtain ⟨r_49, h_r_49, h⟩ := bind_some h; obtain ⟨r_50, h_r_50, h⟩ := bind_some h; have hz_ := Option.some.inj h; subst hz_; exact (et_not (et_B (ev_borG (i := 2) (j := 1) (sl' := [sv columns_33, sv spans_34, sv taken_38, .at p_found_36, sv span_39, sv at_46, .any]) (ow1 := [ol p_found_36 found_37]) rfl rfl rfl rfl (ev_call (ea_cons (ev_var (i := 2) rfl) (ea_cons (ev_op (ev_var (i := 5) rfl) (ev_var (i := 0) rfl) (r2_divO h_q_48)) (ea_cons (ev_op (ev_var (i := 5) rfl) (ev_var (i := 0) rfl) (r2_modO h_r_49)) (ea_cons (ev_var (i := 4) rfl) ea_nil)))) h_r_50)))))), fun hb_55 N_ hN_52 => ?_, fun hb_55 => ?_⟩
        · have hP_53 := ite_t hb_55 hP_53
          obtain ⟨c_, hc_54, hP_53⟩ := bind_some hP_53
          unfold m_put_cells_L2 at hc_54
          refine SB.is (sl' := [sv columns_33, sv spans_34, .at p_taken_35, .at p_found_36, sv span_39, sv at_46, .any]) (ow1 := [ol p_found_36 found_37, oo p_taken_35 taken_38]) rfl rfl ?_
          obtain ⟨at_57, h_at_57, hc_54⟩ := bind_some hc_54
          have h_at_57 := Option.some.inj h_at_57
          refine sb_aug (i := 5) (a := at_46) (c := (1 : Int)) (sl' := [sv columns_33, sv spans_34, .at p_taken_35, .at p_found_36, sv span_39, sv at_57, .any]) rfl (h_at_57 ▸ rfl) (ev_int 1) ?_
          cases hc_54
          exact fun σ Kn H s => hN_52 _ _ (Nat.lt_succ_self _) hP_53 σ Kn H ((s.le (.keep (.keep (.keep (.keep (.keep (.keep (.keep .nil)))))))).sub (List.Sublist.refl _))
        · have hP_53 := ite_f hb_55 hP_53
          cases hP_53
          refine kx_59 _ _ ?_
          refine SB.is (sl' := [sv columns_33, sv spans_34, .at p_taken_35, .at p_found_36, sv span_39, sv at_58, .any]) (ow1 := [ol p_found_36 found_37, oo p_taken_35 taken_38]) rfl rfl ?_
          obtain ⟨q_60, h_q_60, hc_42⟩ := bind_some hc_42
          obtain ⟨r_61, h_r_61, hc_42⟩ := bind_some hc_42
          obtain ⟨r_62, h_r_62, hc_42⟩ := bind_some hc_42
          obtain ⟨taken_71, h_tot_69, hc_42⟩ := bind_some hc_42
          refine SB.seqB (fun kx_72 => sb_for (β := (Int × Int × Unit)) (Sx := (Dc (Int × Int × Unit) Bool)) (fun s => [sv columns_33, sv spans_34, .at p_taken_35, .at p_found_36, sv span_39, sv at_58, .any]) (fun s => [ol p_found_36 found_37, oo p_taken_35 s]) (fun x s => [sv columns_33, sv spans_34, .at p_taken_35, .at p_found_36, sv span_39, sv at_58, sv x]) [6] (fun xs s => forS (m_put_cells_L3) xs s = some taken_71) taken_38 (IT.m (it_list (EN.ev (en_call (ea_cons (ev_op (ev_var (i := 5) rfl) (ev_var (i := 0) rfl) (r2_divO h_q_60)) (ea_cons (ev_op (ev_var (i := 5) rfl) (ev_var (i := 0) rfl) (r2_modO h_r_61)) (ea_cons (ev_var (i := 4) rfl) ea_nil))) h_r_62)))) h_tot_69 (.keep (.keep (.keep (.keep (.keep (.keep (.keep .nil))))))) (List.Sublist.refl _) (fun x s => (gt_name rfl)) ?_ ?_)
          · intro Kn1 b1 cell_64 rest_ taken_63 hP_66 N_ hN_65
            obtain ⟨c_, hc_67, hP_66⟩ := bind_some hP_66
            have q_68 := q_43.base b1
            unfold m_put_cells_L3 at hc_67
            refine SB.is (sl' := [sv columns_33, sv spans_34, .at p_taken_35, .at p_found_36, sv span_39, sv at_58, sv cell_64]) (ow1 := [ol p_found_36 found_37, oo p_taken_35 taken_63]) rfl rfl ?_
            obtain ⟨taken_70, h_taken_70, hc_67⟩ := bind_some hc_67
            refine sb_dput (i := 2) (j := 1) rfl rfl (ev_bool true) (ev_var (i := 6) rfl) h_taken_70 (ow1 := [ol p_found_36 found_37, oo p_taken_35 taken_70]) rfl ?_
            cases hc_67
            exact fun σ Kn H s => hN_65 _ hP_66 σ Kn H ((s.le (.keep (.keep (.keep (.keep (.keep (.keep (.drop .nil)))))))).sub (List.Sublist.refl _))
          · intro s_ h0
            cases h0
            refine kx_72 _ _ ?_
            refine SB.is (sl' := [sv columns_33, sv spans_34, .at p_taken_35, .at p_found_36, sv span_39, sv at_58, .any]) (ow1 := [ol p_found_36 found_37, oo p_taken_35 taken_71]) rfl rfl ?_
            obtain ⟨q_73, h_q_73, hc_42⟩ := bind_some hc_42
            obtain ⟨r_74, h_r_74, hc_42⟩ := bind_some hc_42
            obtain ⟨found_75, h_found_75, hc_42⟩ := bind_some hc_42
            refine sb_appO (i := 3) (j := 0) rfl rfl (ev_tup (ea_cons (ev_op (ev_var (i := 5) rfl) (ev_var (i := 0) rfl) (r2_divO h_q_73)) (ea_cons (ev_op (ev_var (i := 5) rfl) (ev_var (i := 0) rfl) (r2_modO h_r_74)) ea_nil))) h_found_75 (ow1 := [ol p_found_36 found_75, oo p_taken_35 taken_71]) rfl ?_
            cases hc_42
            exact fun σ Kn H s => hN_40 _ hP_41 σ Kn H ((s.le (.keep (.keep (.keep (.keep (.drop (.drop (.keep .nil)))))))).sub (List.Sublist.refl _))
    · intro s_ h0
      cases h0
      refine kx_78 _ _ ?_
      refine SB.is (sl' := [sv columns_33, sv spans_34, .at p_taken_35, .at p_found_36, .any, .any, .any]) (ow1 := [ol p_found_36 found_76, oo p_taken_35 taken_77]) rfl rfl ?_
      cases hf
      exact sb_retO (i := 3) (j := 0) rfl rfl q (List.Sublist.cons _ (List.Sublist.cons _ List.Sublist.slnil))
theorem sc__law_stream : FnScope ["_law_script", "_law_seed", "_law_cell", "_law_digits"] ["_law_script"] (defScope s__law_stream) := ⟨rfl, rfl, rfl, by decide +kernel, rfl, by decide +kernel, by decide +kernel⟩
set_option maxHeartbeats 4000000 in
theorem ok__law_stream (T : TX K mg) : FnOk P w K mg base CX0 1 T.a__law_stream T.d__law_stream ["_law_script"] (PL (τ := (Fz Int) × Unit) K (fun t => m__law_stream t.1)) := by
  refine T.F__law_stream.ok sc__law_stream (fun vs H Q E h => ?_) (fun cdv A outer s H vs Q E hr h => ?_)
  · obtain ⟨Kn, t, r, ek, h, hf, q⟩ := h
    exact Tp.len h
  · obtain ⟨Kn, t, r_, ek, h, hf, q⟩ := h
    obtain ⟨script_79, u_⟩ := t
    obtain ⟨v_0, rr_, rfl, hv_0, h⟩ := h
    obtain rfl := h
    replace hf : m__law_stream script_79 = some r_ := hf
    unfold m__law_stream at hf
    refine ⟨_, (pss_cons (ps_set (i := 1) sc__law_stream.nd rfl (.inl rfl) pe_int)
      (pss_cons (ps_for PassesOwn.never rfl (kpi_list (pe_slice k_sll (pv 0) po_none (po_some pe_int))) (pg_name (i := 2) sc__law_stream.nd rfl (.inl rfl)) (pss_one (ps_set (i := 1) sc__law_stream.nd rfl (.inl rfl) (pe_op op_mod (pe_op op_add (pe_op op_mul (pv 1) pe_int) (pv 2)) pe_int))))
      (pss_cons (ps_set (i := 3) sc__law_stream.nd rfl (.inl rfl) pe_int)
      (Evl.pss_cut (ps_if (PW.pt (pw_and (pt_cmpR op_gt (pe_callB k_len (by rfl) T.z_len PySem.boot_len (pa_cons (pv 0) pa_nil)) pe_int (nomark _)) (pw_and1 (pt_cmpR op_eq (pe_op op_mod (pe_ix k_ixl (pv 0) pe_int (fun _ _ => rfl)) pe_int) pe_int (nomark _))))) (pss_one (ps_set (i := 3) sc__law_stream.nd rfl (.inl rfl) (pe_callB call_abs (by rfl) T.z_abs (by decide +kernel) (pa_cons (pe_ix k_ixl (pv 0) pe_int (fun _ _ => rfl)) pa_nil)))) pss_nil)
      (pss_one (ps_ret (pe_lst (pa_cons (pv 3) (pa_cons (pv 1) pa_nil))))))))), ?_⟩
    refine enter (Kn := Kn) (sl := [sv script_79, .any, .any, .any]) ek ⟨⟨v_0, rfl, hv_0⟩, trivial, trivial, trivial, trivial⟩ ?_
    have q := rn_of q
    obtain ⟨seed_80, h_seed_80, hf⟩ := bind_some hf
    refine SB.seqB (fun kx_ => sb_asg (sl' := [sv script_79, sv seed_80, .any, .any]) rfl (EV.cast (ev_int 7) (Option.some.inj h_seed_80)) (kx_ _ _ ?_))
    obtain ⟨seed_89, h_tot_87, hf⟩ := bind_some hf
    refine SB.seqB (fun kx_90 => sb_for (β := Int) (Sx := Int) (fun s => [sv script_79, sv s, .any, .any]) (fun s => []) (fun x s => [sv script_79, sv s, sv x, .any]) [2] (fun xs s => forS (m__law_stream_L1) xs s = some seed_89) seed_80 (IT.m (it_list (EN.ev (en_slF (ev_var (i := 0) rfl) eo_none (eo_some (ev_int 63)))))) h_tot_87 (.keep (.keep (.keep (.keep .nil)))) (List.Sublist.refl _) (fun x s => (gt_name rfl)) ?_ ?_)
    · intro Kn1 b1 cell_82 rest_ seed_81 hP_84 N_ hN_83
      obtain ⟨c_, hc_85, hP_84⟩ := bind_some hP_84
      have q_86 := q.base b1
      unfold m__law_stream_L1 at hc_85
      refine SB.is (sl' := [sv script_79, sv seed_81, sv cell_82, .any]) (ow1 := []) rfl rfl ?_
      obtain ⟨seed_88, h_seed_88, hc_85⟩ := bind_some hc_85
      refine sb_asg (sl' := [sv script_79, sv seed_88, sv cell_82, .any]) rfl (EV.cast (ev_op (ev_op (ev_op (ev_var (i := 1) rfl) (ev_int 1000003) r2_mulr) (ev_var (i := 2) rfl) r2_add) (ev_int 2305843009213693951) r2_mod) (Option.some.inj h_seed_88)) ?_
      cases hc_85
      exact fun σ Kn H s => hN_83 _ hP_84 σ Kn H ((s.le (.keep (.keep (.drop (.keep .nil))))).sub (List.Sublist.refl _))
    · intro s_ h0
      cases h0
      refine kx_90 _ _ ?_
      refine SB.is (sl' := [sv script_79, sv seed_89, .any, .any]) (ow1 := []) rfl rfl ?_
      obtain ⟨digits_91, h_digits_91, hf⟩ := bind_some hf
      refine SB.seqB (fun kx_ => sb_asg (sl' := [sv script_79, sv seed_89, .any, sv digits_91]) rfl (EV.cast (ev_int 0) (Option.some.inj h_digits_91)) (kx_ _ _ ?_))
      obtain ⟨b_94, h_b_94, hf⟩ := bind_some hf
      obtain ⟨digits_98, hj_92, hf⟩ := bind_some hf
      refine SB.cutB (sl' := [sv script_79, sv seed_89, .any, sv digits_98]) (ow1 := []) (fun km_99 => sb_if (b := b_94) (et_andO h_b_94 (et_test (ev_op (ev_cb (ea_cons (ev_var (i := 0) rfl) ea_nil) rc_lenF) (ev_int 1) r2_gt)) (fun _ _ h => by obtain ⟨i_93, h_i_93, h⟩ := bind_some h; have hz_ := Option.some.inj h; subst hz_; exact (et_test (ev_op (ev_op (ev_op (ev_var (i := 0) rfl) (ev_int 0) (r2_ixF h_i_93)) (ev_int 2) r2_mod) (ev_int 0) r2_eqI)))) (fun hb_95 => ?_) (fun hb_95 => ?_)) ?_
      · have hj_92 := ite_t hb_95 hj_92
        obtain ⟨i_96, h_i_96, hj_92⟩ := bind_some hj_92
        obtain ⟨digits_97, h_digits_97, hj_92⟩ := bind_some hj_92
        refine sb_asg (sl' := [sv script_79, sv seed_89, .any, sv digits_97]) rfl (EV.cast (ev_cb (ea_cons (ev_op (ev_var (i := 0) rfl) (ev_int 1) (r2_ixF h_i_96)) ea_nil) rc_abs) (Option.some.inj h_digits_97)) ?_
        cases hj_92
        exact km_99 _ _ (.keep (.keep (.keep (.keep .nil)))) (List.Sublist.refl _)
      · have hj_92 := ite_f hb_95 hj_92
        refine sb_nx ?_
        cases hj_92
        exact km_99 _ _ (.keep (.keep (.keep (.keep .nil)))) (List.Sublist.refl _)
      cases hf
      exact sb_retL (en_lst (el_cons (ev_var (i := 3) rfl) (el_cons (ev_var (i := 1) rfl) el_nil))) q (List.Sublist.refl _)
theorem sc__law_take : FnScope ["_law_stream_here", "_law_many", "_law_digit"] ["_law_stream_here", "_law_many"] (defScope s__law_take) := ⟨rfl, rfl, rfl, by decide +kernel, rfl, by decide +kernel, by decide +kernel⟩
set_option maxHeartbeats 4000000 in
theorem ok__law_take (T : TX K mg) : FnOk P w K mg base CX0 1 T.a__law_take T.d__law_take ["_law_stream_here", "_law_many"] (PM (τ := Int × Unit) K (fun xs t => m__law_take xs t.1)) := by
  refine T.F__law_take.ok sc__law_take (fun vs H Q E h => ?_) (fun cdv A outer s H vs Q E hr h => ?_)
  · obtain ⟨Kn, p, ws, rest, t, xs, r, xs', rfl, ek, kp, hp, hw, h, hf, q⟩ := h
    show rest.length + 1 = _
    rw [Tp.len h]
    rfl
  · obtain ⟨Kn, p_0, ws, rest, t, stream_here_100, r_, xs_, rfl, ek, kp, hp, hw, h, hf, q⟩ := h
    obtain ⟨many_101, u_⟩ := t
    obtain ⟨v_1, rr_, rfl, hv_0, h⟩ := h
    obtain rfl := h
    replace hf : m__law_take stream_here_100 many_101 = some (r_, xs_) := hf
    unfold m__law_take at hf
    refine ⟨_, (pss_cons (ps_if (pt_cmpR op_gt (pe_ix k_ixl (pv 0) pe_int (fun _ _ => rfl)) pe_int (nomark _)) (pss_cons (ps_set (i := 2) sc__law_take.nd rfl (.inl rfl) (pe_op op_mod (pe_ix k_ixl (pv 0) pe_int (fun _ _ => rfl)) (pv 1)))
      (pss_cons (ps_asg (pe_op op_fdiv (pe_ix k_ixl (pv 0) pe_int (fun _ _ => rfl)) (pv 1)) (pg_sub (pv 0) pe_int set_list))
      (pss_one (ps_ret (pv 2))))) pss_nil)
      (pss_cons (ps_asg (pe_op op_mod (pe_op op_add (pe_op op_mul (pe_ix k_ixl (pv 0) pe_int (fun _ _ => rfl)) pe_int) pe_int) pe_int) (pg_sub (pv 0) pe_int set_list))
      (pss_one (ps_ret (pe_op op_mod (pe_op op_add (pe_op op_mod (pe_op op_mul (pe_ix k_ixl (pv 0) pe_int (fun _ _ => rfl)) pe_int) pe_int) (pe_op op_fdivW (pe_ix k_ixl (pv 0) pe_int (fun _ _ => rfl)) pe_int)) (pv 1)))))), ?_⟩
    refine enterM (sl := [.at p_0, sv many_101, .any]) (p := p_0) (xs := stream_here_100) ek kp hp hw ⟨rfl, ⟨v_1, rfl, hv_0⟩, trivial, trivial⟩ ?_
    have q := rt_ofM kp q
    clear hp hw ek kp
    obtain ⟨i_103, h_i_103, hf⟩ := bind_some hf
    refine SB.seqB (fun kx_105 => sb_if (b := (decide ((0 : Int) < i_103))) (et_test (ev_bor (i := 0) (j := 0) (sl' := [sv stream_here_100, sv many_101, .any]) (ow1 := []) rfl rfl rfl rfl (ev_op (ev_op (ev_var (i := 0) rfl) (ev_int 0) (r2_ixL h_i_103)) (ev_int 0) r2_gt))) (fun hb_104 => ?_) (fun hb_104 => ?_))
    · have hf := ite_t hb_104 hf
      obtain ⟨i_106, h_i_106, hf⟩ := bind_some hf
      obtain ⟨r_107, h_r_107, hf⟩ := bind_some hf
      obtain ⟨digit_108, h_digit_108, hf⟩ := bind_some hf
      refine SB.seqB (fun kx_ => sb_asg (sl' := [.at p_0, sv many_101, sv digit_108]) rfl (EV.cast (ev_op (ev_ixO (i := 0) (j := 0) rfl rfl (ev_int 0) h_i_106) (ev_var (i := 1) rfl) (r2_modO h_r_107)) (Option.some.inj h_digit_108)) (kx_ _ _ ?_))
      obtain ⟨i_109, h_i_109, hf⟩ := bind_some hf
      obtain ⟨q_110, h_q_110, hf⟩ := bind_some hf
      obtain ⟨stream_here_111, h_stream_here_111, hf⟩ := bind_some hf
      refine SB.seqB (fun kx_ => sb_setO (i := 0) (j := 0) rfl rfl (ev_op (ev_ixO (i := 0) (j := 0) rfl rfl (ev_int 0) h_i_109) (ev_var (i := 1) rfl) (r2_divO h_q_110)) (ev_int 0) h_stream_here_111 (ow1 := [ol p_0 stream_here_111]) rfl (kx_ _ _ ?_))
      cases hf
      exact sb_ret (ev_var (i := 2) rfl) q (List.Sublist.refl _)
    · have hf := ite_f hb_104 hf
      refine sb_nx ?_
      refine kx_105 _ _ ?_
      obtain ⟨i_112, h_i_112, hf⟩ := bind_some hf
      obtain ⟨stream_here_113, h_stream_here_113, hf⟩ := bind_some hf
      refine SB.seqB (fun kx_ => sb_setO (i := 0) (j := 0) rfl rfl (ev_op (ev_op (ev_op (ev_ixO (i := 0) (j := 0) rfl rfl (ev_int 1) h_i_112) (ev_int 48271) r2_mulr) (ev_int 1013904223) r2_add) (ev_int 2305843009213693951) r2_mod) (ev_int 1) h_stream_here_113 (ow1 := [ol p_0 stream_here_113]) rfl (kx_ _ _ ?_))
      obtain ⟨i_114, h_i_114, hf⟩ := bind_some hf
      obtain ⟨i_115, h_i_115, hf⟩ := bind_some hf
      obtain ⟨r_116, h_r_116, hf⟩ := bind_some hf
      cases hf
      exact sb_ret (ev_op (ev_op (ev_op (ev_op (ev_ixO (i := 0) (j := 0) rfl rfl (ev_int 1) h_i_114) (ev_int 69621) r2_mulr) (ev_int 2147483629) r2_mod) (ev_op (ev_ixO (i := 0) (j := 0) rfl rfl (ev_int 1) h_i_115) (ev_int 2147483647) r2_divw) r2_add) (ev_var (i := 1) rfl) (r2_modO h_r_116)) q (List.Sublist.refl _)
theorem sc__law_cells : FnScope ["_law_columns", "_law_spans", "_law_used", "_law_found", "_law_across", "_law_down", "_law_at", "_law_row", "_law_column", "_law_cells_here", "_law_k", "_law_cell"] ["_law_columns", "_law_spans"] (defScope s__law_cells) := ⟨rfl, rfl, rfl, by decide +kernel, rfl, by decide +kernel, by decide +kernel⟩
set_option maxHeartbeats 4000000 in
theorem ok__law_cells (T : TX K mg) : FnOk P w K mg base CX0 1 T.a__law_cells T.d__law_cells ["_law_columns", "_law_spans"] (PL (τ := Int × (List (Int × Int × Unit)) × Unit) K (fun t => m__law_cells t.1 t.2.1)) := by
  refine T.F__law_cells.ok sc__law_cells (fun vs H Q E h => ?_) (fun cdv A outer s H vs Q E hr h => ?_)
  · obtain ⟨Kn, t, r, ek, h, hf, q⟩ := h
    exact Tp.len h
  · obtain ⟨Kn, t, r_, ek, h, hf, q⟩ := h
    obtain ⟨columns_117, spans_118, u_⟩ := t
    obtain ⟨v_0, rr_, rfl, hv_0, h⟩ := h
    obtain ⟨v_1, rr_, rfl, hv_1, h⟩ := h
    obtain rfl := h
    replace hf : m__law_cells columns_117 spans_118 = some r_ := hf
    unfold m__law_cells at hf
    refine ⟨_, (pss_cons (ps_set (i := 2) sc__law_cells.nd rfl (.inr rfl) pe_dnewT)
      (pss_cons (ps_set (i := 3) sc__law_cells.nd rfl (.inl rfl) (pe_lst pa_nil))
      (pss_cons (ps_for PassesOwn.never rfl (kpi_list (pv 1)) (kpg_tup (pgs_cons (pg_name (i := 4) sc__law_cells.nd rfl (.inr rfl)) (pgs_cons (pg_name (i := 5) sc__law_cells.nd rfl (.inl rfl)) pgs_nil))) (pss_cons (ps_set (i := 6) sc__law_cells.nd rfl (.inl rfl) pe_int)
      (pss_one (ps_while PassesOwn.never (pt_cmpR op_ge (pv 6) pe_int (nomark _)) (pss_cons (ps_set (i := 7) sc__law_cells.nd rfl (.inr rfl) (pe_op op_fdiv (pv 6) (pv 0)))
      (pss_cons (ps_set (i := 8) sc__law_cells.nd rfl (.inr rfl) (pe_op op_mod (pv 6) (pv 0)))
      (pss_cons (ps_set (i := 9) sc__law_cells.nd rfl (.inl rfl) (pe_lst pa_nil))
      (Evl.pss_cut (ps_if (pt_cmpR op_le (pe_op op_add (pv 8) (pv 4)) (pv 0) (nomark _)) (pss_one (ps_setLc (i := 9) (own := [("_law_k", 10)]) (g := gName 10) (tt := tYes) rfl sc__law_cells.nd rfl rfl (sw_true rfl rfl rfl (by decide +kernel)) (pi_range1 (by rfl) T.z_range (pa_cons (pe_op op_mul (pv 4) (pv 5)) pa_nil)) (blkOk_by (own := [("_law_k", 10)]) (N := ["_law_columns", "_law_spans", "_law_used", "_law_found", "_law_across", "_law_down", "_law_at", "_law_row", "_law_column", "_law_cells_here", "_law_k", "_law_cell"]) (sc := defScope s__law_cells) (by decide +kernel)) (fun _ _ _ _ _ => (pg_name (i := 10) sc__law_cells.nd rfl (Or.inl rfl))) (fun _ _ _ _ _ => pts_nil) (fun _ _ _ _ _ => (pe_tup (pa_cons (pe_op op_add (pv 7) (pe_op op_fdiv (pv 10) (pv 4))) (pa_cons (pe_op op_add (pv 8) (pe_op op_mod (pv 10) (pv 4))) pa_nil)))))) pss_nil)
      (Evl.pss_cut (ps_if (PW.pt (pw_and (pt_cmpR (k_neD hr.units) (pv 9) (pe_lst pa_nil) (nomark _)) (pw_and1 (pt_not (pt_val (pe_callB k_any (by rfl) T.z_any (by decide +kernel) (pa_cons (pe_lc (own := [("_law_cell", 11)]) (g := gName 11) (tt := tYes) (by rfl) sc__law_cells.nd (kpi_list (pv 9)) (blkOk_by (own := [("_law_cell", 11)]) (N := ["_law_columns", "_law_spans", "_law_used", "_law_found", "_law_across", "_law_down", "_law_at", "_law_row", "_law_column", "_law_cells_here", "_law_k", "_law_cell"]) (sc := defScope s__law_cells) (by decide +kernel)) (fun _ _ _ _ _ => (pg_name (i := 11) sc__law_cells.nd rfl (Or.inl rfl))) (fun _ _ _ _ _ => pts_nil) (fun _ _ _ _ _ => (pe_cmp (k_din hr.units (pv 11) (pv 2)) rfl))) pa_nil))))))) (pss_cons (ps_expr (pe_bm PySem.F.plainAttrs_list PySem.F.slot_list_append PySem.F.type_list_append mt_append (pv 3) (pa_cons (pe_tup (pa_cons (pv 7) (pa_cons (pv 8) pa_nil))) pa_nil)))
      (pss_cons (ps_expr (pe_bm PySem.F.plainAttrs_dict PySem.F.slot_dict_update PySem.F.type_dict_update (k_updT hr.units) (pv 2) (pa_cons (pe_callTy (k_dictT hr.units) (by rfl) T.z_dict (by decide +kernel) (pa_cons (pe_lc (own := [("_law_cell", 11)]) (g := gName 11) (tt := tYes) (by rfl) sc__law_cells.nd (kpi_list (pv 9)) (blkOk_by (own := [("_law_cell", 11)]) (N := ["_law_columns", "_law_spans", "_law_used", "_law_found", "_law_across", "_law_down", "_law_at", "_law_row", "_law_column", "_law_cells_here", "_law_k", "_law_cell"]) (sc := defScope s__law_cells) (by decide +kernel)) (fun _ _ _ _ _ => (pg_name (i := 11) sc__law_cells.nd rfl (Or.inl rfl))) (fun _ _ _ _ _ => pts_nil) (fun _ _ _ _ _ => (pe_tup (pa_cons (pv 11) (pa_cons pe_bl pa_nil))))) pa_nil)) pa_nil)))
      (pss_one (ps_set (i := 6) sc__law_cells.nd rfl (.inl rfl) (pe_un un_neg pe_int))))) pss_nil)
      (pss_one (ps_set (i := 6) sc__law_cells.nd rfl (.inl rfl) (pe_op op_add (pv 6) pe_int))))))))))))
      (pss_one (ps_ret (pv 3)))))), ?_⟩
    refine enter (Kn := Kn) (sl := [sv columns_117, sv spans_118, .any, .any, .any, .any, .any, .any, .any, .any, .any, .any]) ek ⟨⟨v_0, rfl, hv_0⟩, ⟨v_1, rfl, hv_1⟩, trivial, trivial, trivial, trivial, trivial, trivial, trivial, trivial, trivial, trivial, trivial⟩ ?_
    have q := rn_of q
    refine SB.seqB (fun kx_ => sb_dnewT (κ := (Int × Int × Unit)) (β := Bool) (sl' := fun p_used_119 => [sv columns_117, sv spans_118, .at p_used_119, .any, .any, .any, .any, .any, .any, .any, .any, .any]) rfl (fun _ => rfl) (fun p_used_119 => (kx_ _ _ ?_)))
    obtain ⟨found_120, h_found_120, hf⟩ := bind_some hf
    refine SB.seqB (fun kx_ => sb_asgO (sl' := fun p_found_120 => [sv columns_117, sv spans_118, .at p_used_119, .at p_found_120, .any, .any, .any, .any, .any, .any, .any, .any]) (fun _ => rfl) (EN.cast (en_lst el_nil) (Option.some.inj h_found_120)) (fun p_found_120 => (kx_ _ _ ?_)))
    obtain ⟨⟨found_174, used_175⟩, h_tot_129, hf⟩ := bind_some hf
    refine SB.seqB (fun kx_176 => sb_for (β := (Int × Int × Unit)) (Sx := (List (Int × Int × Unit)) × (Dc (Int × Int × Unit) Bool)) (fun s => [sv columns_117, sv spans_118, .at p_used_119, .at p_found_120, .any, .any, .any, .any, .any, .any, .any, .any]) (fun s => [ol p_found_120 s.1, oo p_used_119 s.2]) (fun x s => [sv columns_117, sv spans_118, .at p_used_119, .at p_found_120, sv x.1, sv x.2.1, .any, .any, .any, .any, .any, .any]) [4, 5] (fun xs s => forS (m__law_cells_L1 columns_117) xs s = some (found_174, used_175)) (found_120, (Dc.mk ([] : List ((Int × Int × Unit) × Bool)))) (IT.m (it_list (ev_var (i := 1) rfl))) h_tot_129 (.keep (.keep (.keep (.keep (.keep (.keep (.keep (.keep (.keep (.keep (.keep (.keep .nil)))))))))))) (List.Sublist.refl _) (fun x s => (gt_tup (gts_cons (gt_name rfl) (gts_cons (gt_name rfl) gts_nil)))) ?_ ?_)
    · intro Kn1 b1 x_ rest_ s_ hP_126 N_ hN_125
      obtain ⟨across_123, down_124, _⟩ := x_
      obtain ⟨found_121, used_122⟩ := s_
      obtain ⟨c_, hc_127, hP_126⟩ := bind_some hP_126
      have q_128 := q.base b1
      unfold m__law_cells_L1 at hc_127
      refine SB.is (sl' := [sv columns_117, sv spans_118, .at p_used_119, .at p_found_120, sv across_123, sv down_124, .any, .any, .any, .any, .any, .any]) (ow1 := [ol p_found_120 found_121, oo p_used_119 used_122]) rfl rfl ?_
      obtain ⟨at_130, h_at_130, hc_127⟩ := bind_some hc_127
      refine SB.seqB (fun kx_ => sb_asg (sl' := [sv columns_117, sv spans_118, .at p_used_119, .at p_found_120, sv across_123, sv down_124, sv at_130, .any, .any, .any, .any, .any]) rfl (EV.cast (ev_int 0) (Option.some.inj h_at_130)) (kx_ _ _ ?_))
      obtain ⟨⟨at_170, found_171, used_172⟩, h_tot_138, hc_127⟩ := bind_some hc_127
      obtain ⟨n0_, h_tot_138⟩ := whileF_some h_tot_138
      refine sb_while (Sx := Int × (List (Int × Int × Unit)) × (Dc (Int × Int × Unit) Bool)) (fun s => [sv columns_117, sv spans_118, .at p_used_119, .at p_found_120, sv across_123, sv down_124, sv s.1, .any, .any, .any, .any, .any]) (fun s => [ol p_found_120 s.2.1, oo p_used_119 s.2.2]) (fun n s => whileS (m__law_cells_L2_c columns_117 across_123 down_124) (m__law_cells_L2 columns_117 across_123 down_124) n s = some (at_170, found_171, used_172)) n0_ (at_130, found_121, used_122) h_tot_138 (.keep (.keep (.keep (.keep (.keep (.keep (.keep (.keep (.keep (.keep (.keep (.keep .nil)))))))))))) (List.Sublist.refl _) ?_
      intro n_ s_ hP_135
      obtain ⟨at_131, found_132, used_133⟩ := s_
      cases n_ with
      | zero => cases hP_135
      | succ n_ =>
        obtain ⟨b_, ht_, hP_135⟩ := bind_some hP_135
        unfold m__law_cells_L2_c at ht_
        cases ht_
        refine ⟨_, ET.is (sl' := [sv columns_117, sv spans_118, .at p_used_119, .at p_found_120, sv across_123, sv down_124, sv at_131, .any, .any, .any, .any, .any]) rfl (et_test (ev_op (ev_var (i := 6) rfl) (ev_int 0) r2_ge)), fun hb_137 N_ hN_134 => ?_, fun hb_137 => ?_⟩
        · have hP_135 := ite_t hb_137 hP_135
          obtain ⟨c_, hc_136, hP_135⟩ := bind_some hP_135
          unfold m__law_cells_L2 at hc_136
          refine SB.is (sl' := [sv columns_117, sv spans_118, .at p_used_119, .at p_found_120, sv across_123, sv down_124, sv at_131, .any, .any, .any, .any, .any]) (ow1 := [ol p_found_120 found_132, oo p_used_119 used_133]) rfl rfl ?_
          obtain ⟨q_139, h_q_139, hc_136⟩ := bind_some hc_136
          obtain ⟨row_140, h_row_140, hc_136⟩ := bind_some hc_136
          refine SB.seqB (fun kx_ => sb_asg (sl' := [sv columns_117, sv spans_118, .at p_used_119, .at p_found_120, sv across_123, sv down_124, sv at_131, sv row_140, .any, .any, .any, .any]) rfl (EV.cast (ev_op (ev_var (i := 6) rfl) (ev_var (i := 0) rfl) (r2_divO h_q_139)) (Option.some.inj h_row_140)) (kx_ _ _ ?_))
          obtain ⟨r_141, h_r_141, hc_136⟩ := bind_some hc_136
          obtain ⟨column_142, h_column_142, hc_136⟩ := bind_some hc_136
          refine SB.seqB (fun kx_ => sb_asg (sl' := [sv columns_117, sv spans_118, .at p_used_119, .at p_found_120, sv across_123, sv down_124, sv at_131, sv row_140, sv column_142, .any, .any, .any]) rfl (EV.cast (ev_op (ev_var (i := 6) rfl) (ev_var (i := 0) rfl) (r2_modO h_r_141)) (Option.some.inj h_column_142)) (kx_ _ _ ?_))
          obtain ⟨cells_here_143, h_cells_here_143, hc_136⟩ := bind_some hc_136
          refine SB.seqB (fun kx_ => sb_asg (sl' := [sv columns_117, sv spans_118, .at p_used_119, .at p_found_120, sv across_123, sv down_124, sv at_131, sv row_140, sv column_142, sv cells_here_143, .any, .any]) rfl (EV.cast (EN.ev (en_lst el_nil)) (Option.some.inj h_cells_here_143)) (kx_ _ _ ?_))
          obtain ⟨cells_here_153, hj_144, hc_136⟩ := bind_some hc_136
          refine SB.cutB (sl' := [sv columns_117, sv spans_118, .at p_used_119, .at p_found_120, sv across_123, sv down_124, sv at_131, sv row_140, sv column_142, sv cells_here_153, .any, .any]) (ow1 := [ol p_found_120 found_132, oo p_used_119 used_133]) (fun km_154 => sb_if (b := (decide ((column_142 + across_123) ≤ columns_117))) (et_test (ev_op (ev_op (ev_var (i := 8) rfl) (ev_var (i := 4) rfl) r2_add) (ev_var (i := 0) rfl) r2_le)) (fun hb_145 => ?_) (fun hb_145 => ?_)) ?_
          · have hj_144 := ite_t hb_145 hj_144
            obtain ⟨m_146, h_m_146, hj_144⟩ := bind_some hj_144
            obtain ⟨rg_147, h_rg_147, hj_144⟩ := bind_some hj_144
            obtain ⟨zs_149, h_zs_149, hj_144⟩ := bind_some hj_144
            obtain ⟨cells_here_152, h_cells_here_152, hj_144⟩ := bind_some hj_144
            refine sb_asg (sl' := [sv columns_117, sv spans_118, .at p_used_119, .at p_found_120, sv across_123, sv down_124, sv at_131, sv row_140, sv column_142, sv cells_here_152, .any, .any]) rfl (EV.cast (EN.ev (en_lc (js := [10]) (fun x => [sv columns_117, sv spans_118, .at p_used_119, .at p_found_120, sv across_123, sv down_124, sv at_131, sv row_140, sv column_142, sv cells_here_143, sv x, .any]) h_zs_149 (it_rng1 (ea_cons (ev_op (ev_var (i := 4) rfl) (ev_var (i := 5) rfl) (r2_mulO h_m_146)) ea_nil) h_rg_147) (anyAt_of (by rfl)) (fun x => (gt_name rfl)) (sub_of (by rfl)) (fun _ _ x b h => by cases h; exact et_yes) (fun _ _ x z _ h => by obtain ⟨k_148, hx_⟩ : ∃ y, y = x := ⟨x, rfl⟩; subst hx_; obtain ⟨q_150, h_q_150, h⟩ := bind_some h; obtain ⟨r_151, h_r_151, h⟩ := bind_some h; have hz_ := Option.some.inj h; subst hz_; exact EV.is (sl' := [sv columns_117, sv spans_118, .at p_used_119, .at p_found_120, sv across_123, sv down_124, sv at_131, sv row_140, sv column_142, sv cells_here_143, sv k_148, .any]) rfl (ev_tup (ea_cons (ev_op (ev_var (i := 7) rfl) (ev_op (ev_var (i := 10) rfl) (ev_var (i := 4) rfl) (r2_divO h_q_150)) r2_add) (ea_cons (ev_op (ev_var (i := 8) rfl) (ev_op (ev_var (i := 10) rfl) (ev_var (i := 4) rfl) (r2_modO h_r_151)) r2_add) ea_nil)))))) (Option.some.inj h_cells_here_152)) ?_
            cases hj_144
            exact km_154 _ _ (.keep (.keep (.keep (.keep (.keep (.keep (.keep (.keep (.keep (.keep (.keep (.keep .nil)))))))))))) (List.Sublist.refl _)
          · have hj_144 := ite_f hb_145 hj_144
            refine sb_nx ?_
            cases hj_144
            exact km_154 _ _ (.keep (.keep (.keep (.keep (.keep (.keep (.keep (.keep (.keep (.keep (.keep (.keep .nil)))))))))))) (List.Sublist.refl _)
          obtain ⟨b_158, h_b_158, hc_136⟩ := bind_some hc_136
          obtain ⟨⟨at_165, found_166, used_167⟩, hj_155, hc_136⟩ := bind_some hc_136
          refine SB.cutB (sl' := [sv columns_117, sv spans_118, .at p_used_119, .at p_found_120, sv across_123, sv down_124, sv at_165, sv row_140, sv column_142, sv cells_here_153, .any, .any]) (ow1 := [ol p_found_120 found_166, oo p_used_119 used_167]) (fun km_168 => sb_if (b := b_158) (et_andO h_b_158 (et_test (ev_op (ev_var (i := 9) rfl) (EN.ev (en_lst el_nil)) r2_neT)) (fun _ _ h => by obtain ⟨zs_157, h_zs_157, h⟩ := bind_some h; have hz_ := Option.some.inj h; subst hz_; exact (et_not (et_B (ev_borG (i := 2) (j := 1) (sl' := [sv columns_117, sv spans_118, sv used_133, .at p_found_120, sv across_123, sv down_124, sv at_131, sv row_140, sv column_142, sv cells_here_153, .any, .any]) (ow1 := [ol p_found_120 found_132]) rfl rfl rfl rfl (ev_cb (ea_cons (EN.ev (en_lc (js := [11]) (fun x => [sv columns_117, sv spans_118, sv used_133, .at p_found_120, sv across_123, sv down_124, sv at_131, sv row_140, sv column_142, sv cells_here_153, .any, sv x]) h_zs_157 (it_list (ev_var (i := 9) rfl)) (anyAt_of (by rfl)) (fun x => (gt_name rfl)) (sub_of (by rfl)) (fun _ _ x b h => by cases h; exact et_yes) (fun _ _ x z _ h => by obtain ⟨cell_156, hx_⟩ : ∃ y, y = x := ⟨x, rfl⟩; subst hx_; have hz_ := Option.some.inj h; subst hz_; exact EV.is (sl' := [sv columns_117, sv spans_118, sv used_133, .at p_found_120, sv across_123, sv down_124, sv at_131, sv row_140, sv column_142, sv cells_here_153, .any, sv cell_156]) rfl (ev_din (ev_var (i := 2) rfl) (ev_var (i := 11) rfl))))) ea_nil) rc_any)))))) (fun hb_159 => ?_) (fun hb_159 => ?_)) ?_
          · have hj_155 := ite_t hb_159 hj_155
            obtain ⟨found_160, h_found_160, hj_155⟩ := bind_some hj_155
            refine SB.seqB (fun kx_ => sb_appO (i := 3) (j := 0) rfl rfl (ev_tup (ea_cons (ev_var (i := 7) rfl) (ea_cons (ev_var (i := 8) rfl) ea_nil))) h_found_160 (ow1 := [ol p_found_120 found_160, oo p_used_119 used_133]) rfl (kx_ _ _ ?_))
            obtain ⟨zs_162, h_zs_162, hj_155⟩ := bind_some hj_155
            obtain ⟨used_163, h_used_163, hj_155⟩ := bind_some hj_155
            refine SB.seqB (fun kx_ => sb_upd (i := 2) (j := 1) rfl rfl (EN.ev (en_lc (js := [11]) (fun x => [sv columns_117, sv spans_118, .at p_used_119, .at p_found_120, sv across_123, sv down_124, sv at_131, sv row_140, sv column_142, sv cells_here_153, .any, sv x]) h_zs_162 (it_list (ev_var (i := 9) rfl)) (anyAt_of (by rfl)) (fun x => (gt_name rfl)) (sub_of (by rfl)) (fun _ _ x b h => by cases h; exact et_yes) (fun _ _ x z _ h => by obtain ⟨cell_161, hx_⟩ : ∃ y, y = x := ⟨x, rfl⟩; subst hx_; have hz_ := Option.some.inj h; subst hz_; exact EV.is (sl' := [sv columns_117, sv spans_118, .at p_used_119, .at p_found_120, sv across_123, sv down_124, sv at_131, sv row_140, sv column_142, sv cells_here_153, .any, sv cell_161]) rfl (ev_tup (ea_cons (ev_var (i := 11) rfl) (ea_cons (ev_bool true) ea_nil)))))) h_used_163 (ow1 := [ol p_found_120 found_160, oo p_used_119 used_163]) rfl (kx_ _ _ ?_))
            obtain ⟨at_164, h_at_164, hj_155⟩ := bind_some hj_155
            refine sb_asg (sl' := [sv columns_117, sv spans_118, .at p_used_119, .at p_found_120, sv across_123, sv down_124, sv at_164, sv row_140, sv column_142, sv cells_here_153, .any, .any]) rfl (EV.cast (ev_un (ev_int 2) r1_neg) (Option.some.inj h_at_164)) ?_
            cases hj_155
            exact km_168 _ _ (.keep (.keep (.keep (.keep (.keep (.keep (.keep (.keep (.keep (.keep (.keep (.keep .nil)))))))))))) (List.Sublist.refl _)
          · have hj_155 := ite_f hb_159 hj_155
            refine sb_nx ?_
            cases hj_155
            exact km_168 _ _ (.keep (.keep (.keep (.keep (.keep (.keep (.keep (.keep (.keep (.keep (.keep (.keep .nil)))))))))))) (List.Sublist.refl _)
          obtain ⟨at_169, h_at_169, hc_136⟩ := bind_some hc_136
          refine sb_asg (sl' := [sv columns_117, sv spans_118, .at p_used_119, .at p_found_120, sv across_123, sv down_124, sv at_169, sv row_140, sv column_142, sv cells_here_153, .any, .any]) rfl (EV.cast (ev_op (ev_var (i := 6) rfl) (ev_int 1) r2_add) (Option.some.inj h_at_169)) ?_
          cases hc_136
          exact fun σ Kn H s => hN_134 _ _ (Nat.lt_succ_self _) hP_135 σ Kn H ((s.le (.keep (.keep (.keep (.keep (.keep (.keep (.keep (.drop (.drop (.drop (.keep (.keep .nil))))))))))))).sub (List.Sublist.refl _))
        · have hP_135 := ite_f hb_137 hP_135
          cases hP_135
          show SN _ _ _ [sv columns_117, sv spans_118, .at p_used_119, .at p_found_120, sv across_123, sv down_124, sv at_170, .any, .any, .any, .any, .any] [ol p_found_120 found_171, oo p_used_119 used_172] _
          cases hc_127
          exact fun σ Kn H s => hN_125 _ hP_126 σ Kn H ((s.le (.keep (.keep (.keep (.keep (.drop (.drop (.drop (.keep (.keep (.keep (.keep (.keep .nil))))))))))))).sub (List.Sublist.refl _))
    · intro s_ h0
      cases h0
      refine kx_176 _ _ ?_
      refine SB.is (sl' := [sv columns_117, sv spans_118, .at p_used_119, .at p_found_120, .any, .any, .any, .any, .any, .any, .any, .any]) (ow1 := [ol p_found_120 found_174, oo p_used_119 used_175]) rfl rfl ?_
      cases hf
      exact sb_retO (i := 3) (j := 0) rfl rfl q (List.Sublist.cons _ (List.Sublist.cons _ List.Sublist.slnil))
theorem sc_law : FnScope ["_law_script", "_law_stream_here", "_law_columns", "_law_wide", "_law_high", "_law_most", "_law_many", "_law_spans", "_law_handed", "_law_found", "_law_place", "_law_k"] ["_law_script"] (defScope s_law) := ⟨rfl, rfl, rfl, by decide +kernel, rfl, by decide +kernel, by decide +kernel⟩
set_option maxHeartbeats 4000000 in
theorem ok_law (T : TX K mg) : FnOk P w K mg base CX0 3 T.a_law T.d_law ["_law_script"] (PF (τ := (Fz Int) × Unit) K (fun t => m_law t.1)) := by
  refine T.F_law.ok sc_law (fun vs H Q E h => ?_) (fun cdv A outer s H vs Q E hr h => ?_)
  · obtain ⟨Kn, t, r, ek, h, hf, q⟩ := h
    exact Tp.len h
  · obtain ⟨Kn, t, r_, ek, h, hf, q⟩ := h
    obtain ⟨script_177, u_⟩ := t
    obtain ⟨v_0, rr_, rfl, hv_0, h⟩ := h
    obtain rfl := h
    replace hf : m_law script_177 = some r_ := hf
    unfold m_law at hf
    refine ⟨_, (pss_cons (ps_set (i := 1) sc_law.nd rfl (.inr rfl) (pe_call (ok__law_stream T) (hr.mono (by decide)) (by rfl) T.g__law_stream T.F__law_stream.kp T.b__law_stream .nil pass0 (pa_cons (pv 0) pa_nil)))
      (pss_cons (ps_set (i := 2) sc_law.nd rfl (.inl rfl) (pe_op op_add pe_int (pe_call (ok__law_take T) (hr.mono (by decide)) (by rfl) T.g__law_take T.F__law_take.kp T.b__law_take .nil pass0 (pa_cons (pv 1) (pa_cons pe_int pa_nil)))))
      (pss_cons (ps_asg (pe_ix k_ixl (pe_lst (pa_cons (pe_tup (pa_cons (pv 2) (pa_cons pe_int (pa_cons pe_int pa_nil)))) (pa_cons (pe_tup (pa_cons (pe_callB k_min2 (by rfl) T.z_min (by decide +kernel) (pa_cons (pv 2) (pa_cons pe_int pa_nil))) (pa_cons pe_int (pa_cons pe_int pa_nil)))) pa_nil))) (pe_call (ok__law_take T) (hr.mono (by decide)) (by rfl) T.g__law_take T.F__law_take.kp T.b__law_take .nil pass0 (pa_cons (pv 1) (pa_cons pe_int pa_nil))) (fun _ _ => rfl)) (kpg_tup (pgs_cons (pg_name (i := 3) sc_law.nd rfl (.inr rfl)) (pgs_cons (pg_name (i := 4) sc_law.nd rfl (.inr rfl)) (pgs_cons (pg_name (i := 5) sc_law.nd rfl (.inl rfl)) pgs_nil)))))
      (pss_cons (ps_set (i := 6) sc_law.nd rfl (.inl rfl) (pe_call (ok__law_take T) (hr.mono (by decide)) (by rfl) T.g__law_take T.F__law_take.kp T.b__law_take .nil pass0 (pa_cons (pv 1) (pa_cons (pv 5) pa_nil))))
      (pss_cons (ps_setLc (i := 7) (own := [("_law_k", 11)]) (g := gName 11) (tt := tYes) rfl sc_law.nd rfl rfl (sw_true rfl rfl rfl (by decide +kernel)) (pi_range1 (by rfl) T.z_range (pa_cons (pv 6) pa_nil)) (blkOk_by (own := [("_law_k", 11)]) (N := ["_law_script", "_law_stream_here", "_law_columns", "_law_wide", "_law_high", "_law_most", "_law_many", "_law_spans", "_law_handed", "_law_found", "_law_place", "_law_k"]) (sc := defScope s_law) (by decide +kernel)) (fun _ _ _ _ _ => (pg_name (i := 11) sc_law.nd rfl (Or.inl rfl))) (fun _ _ _ _ _ => pts_nil) (fun _ _ _ _ _ => (pe_tup (pa_cons (pe_op op_add pe_int (pe_call (ok__law_take T) (hr.mono (by decide)) (by rfl) T.g__law_take T.F__law_take.kp T.b__law_take .nil pass0 (pa_cons (pv 1) (pa_cons (pv 3) pa_nil)))) (pa_cons (pe_op op_add pe_int (pe_call (ok__law_take T) (hr.mono (by decide)) (by rfl) T.g__law_take T.F__law_take.kp T.b__law_take .nil pass0 (pa_cons (pv 1) (pa_cons (pv 4) pa_nil)))) pa_nil)))))
      (pss_cons (ps_set (i := 8) sc_law.nd rfl (.inl rfl) (pe_callTy k_list (by rfl) T.z_list (by decide +kernel) (pa_cons (pv 7) pa_nil)))
      (pss_cons (ps_set (i := 9) sc_law.nd rfl (.inl rfl) (pe_call (ok_put_cells T) hr (by rfl) T.g_put_cells T.F_put_cells.kp T.b_put_cells .nil pass0 (pa_cons (pv 2) (pa_cons (pv 8) pa_nil))))
      (pss_cons (ps_if (PW.pt (pw_or (pt_not (pt_val (pe_callB k_isi (by rfl) T.z_isinstance (by decide +kernel) (pa_cons (pv 9) (pa_cons (pe_bltn (v := .ty "list") (u := .type "list") (by rfl) T.z_list (by decide +kernel) rfl) pa_nil))))) (pw_or (pt_cmpR (k_neD hr.units) (pv 9) (pe_call (ok__law_cells T) (hr.mono (by decide)) (by rfl) T.g__law_cells T.F__law_cells.kp T.b__law_cells .nil pass0 (pa_cons (pv 2) (pa_cons (pv 7) pa_nil))) (nomark _)) (pw_or1 (pt_cmpR (k_neD hr.units) (pv 8) (pv 7) (nomark _)))))) (pss_one (ps_ret pe_bl)) pss_nil)
      (pss_cons (ps_for PassesOwn.never rfl (kpi_list (pv 9)) (pg_name (i := 10) sc_law.nd rfl (.inl rfl)) (pss_one (ps_if (PW.pt (pw_or (pt_not (pt_val (pe_callB k_isi (by rfl) T.z_isinstance (by decide +kernel) (pa_cons (pv 10) (pa_cons (pe_bltn (v := .ty "tuple") (u := .type "tuple") (by rfl) T.z_tuple (by decide +kernel) rfl) pa_nil))))) (pw_or (pt_cmpR op_ne (pe_callB k_len (by rfl) T.z_len PySem.boot_len (pa_cons (pv 10) pa_nil)) pe_int (nomark _)) (pw_or1 (pt_val (pe_callB k_isi (by rfl) T.z_isinstance (by decide +kernel) (pa_cons (pe_ix k_ixt (pv 10) pe_int (fun _ _ => rfl)) (pa_cons (pe_bltn (v := .ty "bool") (u := .type "bool") (by rfl) T.z_bool (by decide +kernel) rfl) pa_nil)))))))) (pss_one (ps_ret pe_bl)) pss_nil)))
      (pss_cons (ps_expr (pe_bm PySem.F.plainAttrs_list PySem.F.slot_list_append PySem.F.type_list_append mt_append (pv 9) (pa_cons pe_non pa_nil)))
      (pss_one (ps_ret (pe_and (pe_cmpR (k_eqD hr.units) (pe_call (ok_put_cells T) hr (by rfl) T.g_put_cells T.F_put_cells.kp T.b_put_cells .nil pass0 (pa_cons (pv 2) (pa_cons (pv 7) pa_nil))) (pe_slice k_sll (pv 9) po_none (po_some (pe_un un_neg pe_int))) (nomark _)) (pe_one (pe_cmpR (k_eqD hr.units) (pe_call (ok_put_cells T) hr (by rfl) T.g_put_cells T.F_put_cells.kp T.b_put_cells .nil pass0 (pa_cons (pv 2) (pa_cons (pe_lst pa_nil) pa_nil))) (pe_lst pa_nil) (nomark _)))))))))))))))), ?_⟩
    refine enter (Kn := Kn) (sl := [sv script_177, .any, .any, .any, .any, .any, .any, .any, .any, .any, .any, .any]) ek ⟨⟨v_0, rfl, hv_0⟩, trivial, trivial, trivial, trivial, trivial, trivial, trivial, trivial, trivial, trivial, trivial, trivial⟩ ?_
    have q := rt_of q
    obtain ⟨r_178, h_r_178, hf⟩ := bind_some hf
    obtain ⟨stream_here_179, h_stream_here_179, hf⟩ := bind_some hf
    refine SB.seqB (fun kx_ => sb_asgO (sl' := fun p_stream_here_179 => [sv script_177, .at p_stream_here_179, .any, .any, .any, .any, .any, .any, .any, .any, .any, .any]) (fun _ => rfl) (EN.cast (en_call (ea_cons (ev_var (i := 0) rfl) ea_nil) h_r_178) (Option.some.inj h_stream_here_179)) (fun p_stream_here_179 => (kx_ _ _ ?_)))
    obtain ⟨⟨r_180, stream_here_181⟩, h_r_180, hf⟩ := bind_some hf
    obtain ⟨columns_182, h_columns_182, hf⟩ := bind_some hf
    refine SB.seqB (fun kx_ => sb_asgM (sl' := [sv script_177, .at p_stream_here_179, sv columns_182, .any, .any, .any, .any, .any, .any, .any, .any, .any]) rfl (EM.cast (em_op (EV.em (ev_int 1)) (em_callM (i := 1) (j := 0) rfl (EA.eam (ea_cons (ev_int 12) ea_nil)) rfl h_r_180) r2_add) (Option.some.inj h_columns_182)) (kx_ _ _ ?_))
    obtain ⟨⟨r_183, stream_here_184⟩, h_r_183, hf⟩ := bind_some hf
    obtain ⟨i_185, h_i_185, hf⟩ := bind_some hf
    obtain ⟨⟨wide_186, high_187, most_188, _⟩, h_wide_186, hf⟩ := bind_some hf
    refine SB.seqB (fun kx_ => sb_unpM (sl' := [sv script_177, .at p_stream_here_179, sv columns_182, sv wide_186, sv high_187, sv most_188, .any, .any, .any, .any, .any, .any]) (EM.cast (em_op (EV.em (EN.ev (en_lst (el_cons (ev_tup (ea_cons (ev_var (i := 2) rfl) (ea_cons (ev_int 6) (ea_cons (ev_int 13) ea_nil)))) (el_cons (ev_tup (ea_cons (ev_cb (ea_cons (ev_var (i := 2) rfl) (ea_cons (ev_int 2) ea_nil)) rc_min) (ea_cons (ev_int 3) (ea_cons (ev_int 41) ea_nil)))) el_nil))))) (em_callM (i := 1) (j := 0) rfl (EA.eam (ea_cons (ev_int 2) ea_nil)) rfl h_r_183) (r2_ixL h_i_185)) (Option.some.inj h_wide_186)) (gt_tup (gts_cons (gt_name rfl) (gts_cons (gt_name rfl) (gts_cons (gt_name rfl) gts_nil)))) (kx_ _ _ ?_))
    obtain ⟨⟨r_189, stream_here_190⟩, h_r_189, hf⟩ := bind_some hf
    obtain ⟨many_191, h_many_191, hf⟩ := bind_some hf
    refine SB.seqB (fun kx_ => sb_asgM (sl' := [sv script_177, .at p_stream_here_179, sv columns_182, sv wide_186, sv high_187, sv most_188, sv many_191, .any, .any, .any, .any, .any]) rfl (EM.cast (em_callM (i := 1) (j := 0) rfl (EA.eam (ea_cons (ev_var (i := 5) rfl) ea_nil)) rfl h_r_189) (Option.some.inj h_many_191)) (kx_ _ _ ?_))
    obtain ⟨rg_192, h_rg_192, hf⟩ := bind_some hf
    obtain ⟨⟨zs_194, stream_here_201⟩, h_zs_194, hf⟩ := bind_some hf
    obtain ⟨spans_202, h_spans_202, hf⟩ := bind_some hf
    refine SB.seqB (fun kx_ => sb_asgM (sl' := [sv script_177, .at p_stream_here_179, sv columns_182, sv wide_186, sv high_187, sv most_188, sv many_191, sv spans_202, .any, .any, .any, .any]) rfl (EM.cast (ENM.em (enm_lc (js := [11]) (fun s => [ol p_stream_here_179 s]) (fun x => [sv script_177, .at p_stream_here_179, sv columns_182, sv wide_186, sv high_187, sv most_188, sv many_191, .any, .any, .any, .any, sv x]) _ _ h_zs_194 (IT.m (it_rng1 (ea_cons (ev_var (i := 6) rfl) ea_nil) h_rg_192)) (anyAt_of (by rfl)) (fun x => (gt_name rfl)) (sub_of (by rfl)) (fun Kn1 b1 p acc x st_195 z s' h => by obtain ⟨k_193, hx_⟩ : ∃ y, y = x := ⟨x, rfl⟩; subst hx_; obtain ⟨⟨r_197, stream_here_198⟩, h_r_197, h⟩ := bind_some h; obtain ⟨⟨r_199, stream_here_200⟩, h_r_199, h⟩ := bind_some h; obtain ⟨hz1_, hz2_⟩ := Prod.mk.inj (Option.some.inj h); subst hz1_; subst hz2_; exact EM.is (sl' := [sv script_177, .at p_stream_here_179, sv columns_182, sv wide_186, sv high_187, sv most_188, sv many_191, .any, .any, .any, .any, sv k_193]) rfl (ow2 := ol p acc :: [ol p_stream_here_179 st_195]) rfl (ow0 := ol p acc :: [ol p_stream_here_179 stream_here_200]) rfl (em_tup (eam_cons (em_op (EV.em (ev_int 1)) (em_callM (i := 1) (j := 1) rfl (EA.eam (ea_cons (ev_var (i := 3) rfl) ea_nil)) rfl h_r_197) r2_add) (eam_cons (em_op (EV.em (ev_int 1)) (em_callM (i := 1) (j := 1) rfl (EA.eam (ea_cons (ev_var (i := 4) rfl) ea_nil)) rfl h_r_199) r2_add) eam_nil)))))) (Option.some.inj h_spans_202)) (kx_ _ _ ?_))
    obtain ⟨handed_203, h_handed_203, hf⟩ := bind_some hf
    refine SB.seqB (fun kx_ => sb_asg (sl' := [sv script_177, .at p_stream_here_179, sv columns_182, sv wide_186, sv high_187, sv most_188, sv many_191, sv spans_202, sv handed_203, .any, .any, .any]) rfl (EV.cast (EN.ev (en_cb (ea_cons (ev_var (i := 7) rfl) ea_nil) rc_list)) (Option.some.inj h_handed_203)) (kx_ _ _ ?_))
    obtain ⟨r_204, h_r_204, hf⟩ := bind_some hf
    obtain ⟨found_205, h_found_205, hf⟩ := bind_some hf
    refine SB.seqB (fun kx_ => sb_asgO (sl' := fun p_found_205 => [sv script_177, .at p_stream_here_179, sv columns_182, sv wide_186, sv high_187, sv most_188, sv many_191, sv spans_202, sv handed_203, .at p_found_205, .any, .any]) (fun _ => rfl) (EN.cast (en_call (ea_cons (ev_var (i := 2) rfl) (ea_cons (ev_var (i := 8) rfl) ea_nil)) h_r_204) (Option.some.inj h_found_205)) (fun p_found_205 => (kx_ _ _ ?_)))
    obtain ⟨b_208, h_b_208, hf⟩ := bind_some hf
    refine SB.seqB (fun kx_210 => sb_if (b := b_208) (et_orO h_b_208 (et_not (et_B (ev_bor (i := 9) (j := 0) (sl' := [sv script_177, .at p_stream_here_179, sv columns_182, sv wide_186, sv high_187, sv most_188, sv many_191, sv spans_202, sv handed_203, sv found_205, .any, .any]) (ow1 := [ol p_stream_here_179 stream_here_201]) rfl rfl rfl rfl (ev_cb (ea_cons (ev_var (i := 9) rfl) (ea_cons (ev_ty "list") ea_nil)) (rc_isi (b := true) (by decide +kernel)))))) (fun _ _ h => by obtain ⟨r_207, h_r_207, h⟩ := bind_some h; have hz_ := Option.some.inj h; subst hz_; exact (et_or (et_test (ev_bor (i := 9) (j := 0) (sl' := [sv script_177, .at p_stream_here_179, sv columns_182, sv wide_186, sv high_187, sv most_188, sv many_191, sv spans_202, sv handed_203, sv found_205, .any, .any]) (ow1 := [ol p_stream_here_179 stream_here_201]) rfl rfl rfl rfl (ev_op (ev_var (i := 9) rfl) (EN.ev (en_call (ea_cons (ev_var (i := 2) rfl) (ea_cons (ev_var (i := 7) rfl) ea_nil)) h_r_207)) r2_neT))) (fun _ => (et_test (ev_op (ev_var (i := 8) rfl) (ev_var (i := 7) rfl) r2_neT)))))) (fun hb_209 => ?_) (fun hb_209 => ?_))
    · have hf := ite_t hb_209 hf
      cases hf
      exact sb_ret (ev_bool false) q (List.Sublist.cons _ (List.Sublist.cons _ List.Sublist.slnil))
    · have hf := ite_f hb_209 hf
      refine sb_nx ?_
      refine kx_210 _ _ ?_
      obtain ⟨tot_216, h_tot_216, hf⟩ := bind_some hf
      refine SB.seqB (fun kx_220 => sb_forO (i := 9) (j := 0) (xs := found_205) rfl rfl (ow1 := [ol p_stream_here_179 stream_here_201]) rfl (Sx := Unit) (fun s => [sv script_177, .at p_stream_here_179, sv columns_182, sv wide_186, sv high_187, sv most_188, sv many_191, sv spans_202, sv handed_203, .at p_found_205, .any, .any]) (fun s => [ol p_stream_here_179 stream_here_201]) (fun x s => [sv script_177, .at p_stream_here_179, sv columns_182, sv wide_186, sv high_187, sv most_188, sv many_191, sv spans_202, sv handed_203, .at p_found_205, sv x, .any]) [10] (fun xs s => forC (m_law_L1) xs s = some tot_216) () h_tot_216 (.keep (.keep (.keep (.keep (.keep (.keep (.keep (.keep (.keep (.keep (.keep (.keep .nil)))))))))))) (List.Sublist.refl _) (fun x s => (gt_name rfl)) ?_ ?_)
      · intro F1_ fl_ Kn1 b1 place_211 rest_ s_ hP_213 N_ hN_212
        obtain ⟨c_, hc_214, hP_213⟩ := bind_some hP_213
        have q_215 := (q.fr fl_).base b1
        unfold m_law_L1 at hc_214
        refine SB.is (sl' := [sv script_177, .at p_stream_here_179, sv columns_182, sv wide_186, sv high_187, sv most_188, sv many_191, sv spans_202, sv handed_203, .at p_found_205, sv place_211, .any]) (ow1 := [ol p_stream_here_179 stream_here_201]) rfl rfl ?_
        refine sb_if (b := ((!true) || ((!decide ((2 : Int) = (2 : Int))) || false))) (et_or (et_not (et_B (ev_cb (ea_cons (ev_var (i := 10) rfl) (ea_cons (ev_ty "tuple") ea_nil)) (rc_isi (b := true) (by decide +kernel))))) (fun _ => (et_or (et_test (ev_op (ev_cb (ea_cons (ev_var (i := 10) rfl) ea_nil) rc_lenP) (ev_int 2) r2_neI)) (fun _ => (et_B (ev_cb (ea_cons (ev_op (ev_var (i := 10) rfl) (ev_int 0) (r2_tix (n := 0) (At.z _ _))) (ea_cons (ev_ty "bool") ea_nil)) (rc_isi (b := false) (by decide +kernel)))))))) (fun hb_218 => ?_) (fun hb_218 => ?_)
        · have hc_214 := ite_t hb_218 hc_214
          cases hc_214
          replace hP_213 : some (Ctl.rt false) = some tot_216 := hP_213
          cases hP_213
          replace hf : some false = some r_ := hf
          cases hf
          exact sb_ret (ev_bool false) q_215 (List.Sublist.cons _ List.Sublist.slnil)
        · have hc_214 := ite_f hb_218 hc_214
          refine sb_nx ?_
          cases hc_214
          exact fun σ Kn H s => hN_212 _ hP_213 σ Kn H ((s.le (.keep (.keep (.keep (.keep (.keep (.keep (.keep (.keep (.keep (.keep (.drop (.keep .nil))))))))))))).sub (List.Sublist.refl _))
      · intro s_ h0
        cases h0
        refine kx_220 _ _ ?_
        refine SB.is (sl' := [sv script_177, .at p_stream_here_179, sv columns_182, sv wide_186, sv high_187, sv most_188, sv many_191, sv spans_202, sv handed_203, .at p_found_205, .any, .any]) (ow1 := [ol p_found_205 found_205, ol p_stream_here_179 stream_here_201]) rfl rfl ?_
        obtain ⟨u_221, h_u_221, hf⟩ := bind_some hf
        refine SB.seqB (fun kx_ => sb_appN (i := 9) (j := 0) rfl rfl ev_nn h_u_221 (ow1 := [oo p_found_205 (Nx.mk found_205), ol p_stream_here_179 stream_here_201]) rfl (kx_ _ _ ?_))
        obtain ⟨r_222, h_r_222, hf⟩ := bind_some hf
        obtain ⟨b_224, h_b_224, hf⟩ := bind_some hf
        cases hf
        exact sb_ret (ev_andO h_b_224 (ev_op (EN.ev (en_call (ea_cons (ev_var (i := 2) rfl) (ea_cons (ev_var (i := 7) rfl) ea_nil)) h_r_222)) (EN.ev (en_slN (i := 9) (j := 0) rfl rfl eo_none (eo_some (ev_un (ev_int 1) r1_neg)))) r2_eqT) (fun _ _ h => by obtain ⟨r_223, h_r_223, h⟩ := bind_some h; have hz_ := Option.some.inj h; subst hz_; exact (ev_op (EN.ev (en_call (ea_cons (ev_var (i := 2) rfl) (ea_cons (EN.ev (en_lst el_nil)) ea_nil)) h_r_223)) (EN.ev (en_lst el_nil)) r2_eqT))) q (List.Sublist.cons _ (List.Sublist.cons _ List.Sublist.slnil))
end
theorem all_mk (main : ∀ ns : List Int, ns.length ≤ 63 → m_law (Fz.mk ns) = some true) {l : PySem.W.OpenLaw} {w : World} {K : Fg} {h : Heap} {mg : Str → Option Value} {fa f_cells_at f_is_open f_put_cells f__law_stream f__law_take f__law_cells f_law : Addr} (X : K.In h) (G : h.Ns mainGlobals mg) (hfa : mg "law" = some (.ref fa))
     {od_cells_at an_cells_at : Option Addr} {sl_cells_at : Array (Option Value)} {oc_cells_at kV_cells_at dc_cells_at pm_cells_at cd_cells_at ct_cells_at : Value} {od_is_open an_is_open : Option Addr} {sl_is_open : Array (Option Value)} {oc_is_open kV_is_open dc_is_open pm_is_open cd_is_open ct_is_open : Value} {od_put_cells an_put_cells : Option Addr} {sl_put_cells : Array (Option Value)} {oc_put_cells kV_put_cells dc_put_cells pm_put_cells cd_put_cells ct_put_cells : Value} {od__law_stream an__law_stream : Option Addr} {sl__law_stream : Array (Option Value)} {oc__law_stream kV__law_stream dc__law_stream pm__law_stream cd__law_stream ct__law_stream : Value} {od__law_take an__law_take : Option Addr} {sl__law_take : Array (Option Value)} {oc__law_take kV__law_take dc__law_take pm__law_take cd__law_take ct__law_take : Value} {od__law_cells an__law_cells : Option Addr} {sl__law_cells : Array (Option Value)} {oc__law_cells kV__law_cells dc__law_cells pm__law_cells cd__law_cells ct__law_cells : Value} {od_law an_law : Option Addr} {sl_law : Array (Option Value)} {oc_law kV_law dc_law pm_law cd_law ct_law : Value}
    (a_cells_at : PySem.W.nsIn K mainGlobals "cells_at" = some (some (.ref f_cells_at))) (l_cells_at : K.lookup f_cells_at = some ⟨oc_cells_at, od_cells_at, .func (PySem.W.fnOf "cells_at" "cells_at" (defArgs s_cells_at) (defBody s_cells_at) (defScope s_cells_at) .none kV_cells_at dc_cells_at pm_cells_at an_cells_at cd_cells_at ct_cells_at), sl_cells_at⟩) (c_cells_at : PySem.W.codeIn K cd_cells_at "cells_at" = true) (k_cells_at : PySem.W.keepIn K (.ref f_cells_at) = true)
    (a_is_open : PySem.W.nsIn K mainGlobals "is_open" = some (some (.ref f_is_open))) (l_is_open : K.lookup f_is_open = some ⟨oc_is_open, od_is_open, .func (PySem.W.fnOf "is_open" "is_open" (defArgs s_is_open) (defBody s_is_open) (defScope s_is_open) .none kV_is_open dc_is_open pm_is_open an_is_open cd_is_open ct_is_open), sl_is_open⟩) (c_is_open : PySem.W.codeIn K cd_is_open "is_open" = true) (k_is_open : PySem.W.keepIn K (.ref f_is_open) = true)
    (a_put_cells : PySem.W.nsIn K mainGlobals "put_cells" = some (some (.ref f_put_cells))) (l_put_cells : K.lookup f_put_cells = some ⟨oc_put_cells, od_put_cells, .func (PySem.W.fnOf "put_cells" "put_cells" (defArgs s_put_cells) (defBody s_put_cells) (defScope s_put_cells) .none kV_put_cells dc_put_cells pm_put_cells an_put_cells cd_put_cells ct_put_cells), sl_put_cells⟩) (c_put_cells : PySem.W.codeIn K cd_put_cells "put_cells" = true) (k_put_cells : PySem.W.keepIn K (.ref f_put_cells) = true)
    (a__law_stream : PySem.W.nsIn K mainGlobals "_law_stream" = some (some (.ref f__law_stream))) (l__law_stream : K.lookup f__law_stream = some ⟨oc__law_stream, od__law_stream, .func (PySem.W.fnOf "_law_stream" "_law_stream" (defArgs s__law_stream) (defBody s__law_stream) (defScope s__law_stream) .none kV__law_stream dc__law_stream pm__law_stream an__law_stream cd__law_stream ct__law_stream), sl__law_stream⟩) (c__law_stream : PySem.W.codeIn K cd__law_stream "_law_stream" = true) (k__law_stream : PySem.W.keepIn K (.ref f__law_stream) = true)
    (a__law_take : PySem.W.nsIn K mainGlobals "_law_take" = some (some (.ref f__law_take))) (l__law_take : K.lookup f__law_take = some ⟨oc__law_take, od__law_take, .func (PySem.W.fnOf "_law_take" "_law_take" (defArgs s__law_take) (defBody s__law_take) (defScope s__law_take) .none kV__law_take dc__law_take pm__law_take an__law_take cd__law_take ct__law_take), sl__law_take⟩) (c__law_take : PySem.W.codeIn K cd__law_take "_law_take" = true) (k__law_take : PySem.W.keepIn K (.ref f__law_take) = true)
    (a__law_cells : PySem.W.nsIn K mainGlobals "_law_cells" = some (some (.ref f__law_cells))) (l__law_cells : K.lookup f__law_cells = some ⟨oc__law_cells, od__law_cells, .func (PySem.W.fnOf "_law_cells" "_law_cells" (defArgs s__law_cells) (defBody s__law_cells) (defScope s__law_cells) .none kV__law_cells dc__law_cells pm__law_cells an__law_cells cd__law_cells ct__law_cells), sl__law_cells⟩) (c__law_cells : PySem.W.codeIn K cd__law_cells "_law_cells" = true) (k__law_cells : PySem.W.keepIn K (.ref f__law_cells) = true)
    (a_law : PySem.W.nsIn K mainGlobals "law" = some (some (.ref f_law))) (l_law : K.lookup f_law = some ⟨oc_law, od_law, .func (PySem.W.fnOf "law" "law" (defArgs s_law) (defBody s_law) (defScope s_law) .none kV_law dc_law pm_law an_law cd_law ct_law), sl_law⟩) (c_law : PySem.W.codeIn K cd_law "law" = true) (k_law : PySem.W.keepIn K (.ref f_law) = true)
    (z_abs : PySem.W.nsIn K mainGlobals "abs" = some none)
    (z_any : PySem.W.nsIn K mainGlobals "any" = some none)
    (z_bool : PySem.W.nsIn K mainGlobals "bool" = some none)
    (z_dict : PySem.W.nsIn K mainGlobals "dict" = some none)
    (z_isinstance : PySem.W.nsIn K mainGlobals "isinstance" = some none)
    (z_len : PySem.W.nsIn K mainGlobals "len" = some none)
    (z_list : PySem.W.nsIn K mainGlobals "list" = some none)
    (z_min : PySem.W.nsIn K mainGlobals "min" = some none)
    (z_range : PySem.W.nsIn K mainGlobals "range" = some none)
    (z_tuple : PySem.W.nsIn K mainGlobals "tuple" = some none) :
    ∃ fd : FuncData, (∀ (s : Shared) (v : Value), BindsTo s fd ⟨[v], []⟩ [("_law_script", v)]) ∧ ∀ base : Heap, K.In base → base.Ns mainGlobals mg → FnOk l.prog w K mg base CX0 3 fa fd ["_law_script"] (spLaw K) := by
  have e := hfa.symm.trans (PySem.W.mg_of X G a_law)
  cases e
  have F_cells_at := fun_mk (st := s_cells_at) l_cells_at c_cells_at k_cells_at
  have F_is_open := fun_mk (st := s_is_open) l_is_open c_is_open k_is_open
  have F_put_cells := fun_mk (st := s_put_cells) l_put_cells c_put_cells k_put_cells
  have F__law_stream := fun_mk (st := s__law_stream) l__law_stream c__law_stream k__law_stream
  have F__law_take := fun_mk (st := s__law_take) l__law_take c__law_take k__law_take
  have F__law_cells := fun_mk (st := s__law_cells) l__law_cells c__law_cells k__law_cells
  have F_law := fun_mk (st := s_law) l_law c_law k_law
  have b_cells_at := F_cells_at.binds (ps := ["row", "column", "span"]) fun _ _ _ _ _ _ us hl => match us, hl with | [_, _, _], _ => rfl
  have b_is_open := F_is_open.binds (ps := ["taken", "row", "column", "span"]) fun _ _ _ _ _ _ us hl => match us, hl with | [_, _, _, _], _ => rfl
  have b_put_cells := F_put_cells.binds (ps := ["columns", "spans"]) fun _ _ _ _ _ _ us hl => match us, hl with | [_, _], _ => rfl
  have b__law_stream := F__law_stream.binds (ps := ["_law_script"]) fun _ _ _ _ _ _ us hl => match us, hl with | [_], _ => rfl
  have b__law_take := F__law_take.binds (ps := ["_law_stream_here", "_law_many"]) fun _ _ _ _ _ _ us hl => match us, hl with | [_, _], _ => rfl
  have b__law_cells := F__law_cells.binds (ps := ["_law_columns", "_law_spans"]) fun _ _ _ _ _ _ us hl => match us, hl with | [_, _], _ => rfl
  have b_law := F_law.binds (ps := ["_law_script"]) fun _ _ _ _ _ _ us hl => match us, hl with | [_], _ => rfl
  let T : TX K mg := ⟨_, _, F_cells_at, b_cells_at, PySem.W.mg_of X G a_cells_at, _, _, F_is_open, b_is_open, PySem.W.mg_of X G a_is_open, _, _, F_put_cells, b_put_cells, PySem.W.mg_of X G a_put_cells, _, _, F__law_stream, b__law_stream, PySem.W.mg_of X G a__law_stream, _, _, F__law_take, b__law_take, PySem.W.mg_of X G a__law_take, _, _, F__law_cells, b__law_cells, PySem.W.mg_of X G a__law_cells, _, _, F_law, b_law, PySem.W.mg_of X G a_law, PySem.W.mg_none_of X G z_abs, PySem.W.mg_none_of X G z_any, PySem.W.mg_none_of X G z_bool, PySem.W.mg_none_of X G z_dict, PySem.W.mg_none_of X G z_isinstance, PySem.W.mg_none_of X G z_len, PySem.W.mg_none_of X G z_list, PySem.W.mg_none_of X G z_min, PySem.W.mg_none_of X G z_range, PySem.W.mg_none_of X G z_tuple⟩
  refine ⟨PySem.W.fnOf "law" "law" (defArgs s_law) (defBody s_law) (defScope s_law) .none kV_law dc_law pm_law an_law cd_law ct_law, fun s v => .of_eq rfl, fun base _ _ => ?_⟩
  exact fn_weak (ok_law T) main
end Wk29
/-! Wp: plain facts about the mirrors' words -/
namespace Wk
open PySem L2

theorem bs {α β : Type} (a : α) (f : α → Option β) : (some a).bind f = f a := by rw [Option.bind_some]
theorem bind_ok {α β : Type} {m : Option α} {f : α → Option β} {a : α} (h : m = some a) : m.bind f = f a := by rw [h]; rfl
theorem atI_ok {α : Type} {xs : List α} {i : Int} (h0 : 0 ≤ i) (h : i < xs.length) : atI xs i = xs[i.toNat]? := by
  obtain ⟨k, rfl⟩ := Int.eq_ofNat_of_zero_le h0
  have hk : k < xs.length := by omega
  have e : xs[k]? = some xs[k] := List.getElem?_eq_getElem hk
  rw [show ((k : Int)).toNat = k from rfl, e]
  exact atI_nat e
theorem atI_some {α : Type} {xs : List α} {i : Int} (h0 : 0 ≤ i) (h : i < xs.length) : ∃ x, atI xs i = some x ∧ xs[i.toNat]? = some x := by
  have hk : i.toNat < xs.length := by omega
  exact ⟨xs[i.toNat], by rw [atI_ok h0 h]; exact List.getElem?_eq_getElem hk, List.getElem?_eq_getElem hk⟩
theorem pick2 {α : Type} (x y : α) {k : Int} (h0 : 0 ≤ k) (h : k < 2) : atI [x, y] k = some (if k = 0 then x else y) := by
  rcases (show k = 0 ∨ k = 1 by omega) with rfl | rfl <;> rfl
theorem pick3 {α : Type} (x y z : α) {k : Int} (h0 : 0 ≤ k) (h : k < 3) : atI [x, y, z] k = some (if k = 0 then x else if k = 1 then y else z) := by
  rcases (show k = 0 ∨ k = 1 ∨ k = 2 by omega) with rfl | rfl | rfl <;> rfl
theorem pick4 {α : Type} (x y z u : α) {k : Int} (h0 : 0 ≤ k) (h : k < 4) : atI [x, y, z, u] k = some (if k = 0 then x else if k = 1 then y else if k = 2 then z else u) := by
  rcases (show k = 0 ∨ k = 1 ∨ k = 2 ∨ k = 3 by omega) with rfl | rfl | rfl | rfl <;> rfl
theorem forC_all {β R : Type} {f : β → Unit → Option (Ctl Unit R)} : ∀ {xs : List β}, (∀ x ∈ xs, f x () = some (.nx ())) → forC f xs () = some (.nx ())
  | [], _ => rfl
  | x :: xs, h => by
    unfold forC
    rw [h x List.mem_cons_self]
    exact forC_all fun y hy => h y (List.mem_cons_of_mem _ hy)
/-- a loop that always goes on, by an invariant -/
theorem forC_inv {β Sx R : Type} {f : β → Sx → Option (Ctl Sx R)} (I : List β → Sx → Prop) : ∀ {xs : List β} {s : Sx}, I xs s → (∀ x rest s, I (x :: rest) s → ∃ s', f x s = some (.nx s') ∧ I rest s') → ∃ s', forC f xs s = some (.nx s') ∧ I [] s'
  | [], s, h, _ => ⟨s, rfl, h⟩
  | x :: xs, s, h, hs => by
    obtain ⟨s', e, h'⟩ := hs x xs s h
    obtain ⟨s2, e2, h2⟩ := forC_inv I h' hs
    refine ⟨s2, ?_, h2⟩
    unfold forC
    rw [e]
    exact e2
theorem forS_inv {β Sx : Type} {f : β → Sx → Option Sx} (I : List β → Sx → Prop) : ∀ {xs : List β} {s : Sx}, I xs s → (∀ x rest s, I (x :: rest) s → ∃ s', f x s = some s' ∧ I rest s') → ∃ s', forS f xs s = some s' ∧ I [] s'
  | [], s, h, _ => ⟨s, rfl, h⟩
  | x :: xs, s, h, hs => by
    obtain ⟨s', e, h'⟩ := hs x xs s h
    obtain ⟨s2, e2, h2⟩ := forS_inv I h' hs
    refine ⟨s2, ?_, h2⟩
    unfold forS
    rw [e]
    exact e2
/-- a loop as a fold -/
theorem forS_fold {β Sx : Type} {f : β → Sx → Option Sx} (g : Sx → β → Sx) (I : List β → Sx → Prop) : ∀ {xs : List β} {s : Sx}, I xs s → (∀ x rest s, I (x :: rest) s → f x s = some (g s x) ∧ I rest (g s x)) → forS f xs s = some (xs.foldl g s)
  | [], s, h, _ => rfl
  | x :: xs, s, h, hs => by
    obtain ⟨e, h'⟩ := hs x xs s h
    unfold forS
    rw [e]
    exact forS_fold g I h' hs
theorem forS_cons {β Sx : Type} {f : β → Sx → Option Sx} {x : β} {xs : List β} {s s' : Sx} (h : f x s = some s') : forS f (x :: xs) s = forS f xs s' := by
  show ((f x s).bind _) = _
  rw [h]
  rfl
theorem forC_cons {β Sx R : Type} {f : β → Sx → Option (Ctl Sx R)} {x : β} {xs : List β} {s s' : Sx} (h : f x s = some (.nx s')) : forC f (x :: xs) s = forC f xs s' := by
  show ((f x s).bind _) = _
  rw [h]
  rfl
/-- by places -/
theorem forS_ix {β Sx : Type} {f : β → Sx → Option Sx} {xs : List β} (P : Nat → Sx → Prop) {s : Sx} (h0 : P 0 s) (step : ∀ (i : Nat) (hi : i < xs.length) s, P i s → ∃ s', f xs[i] s = some s' ∧ P (i + 1) s') : ∃ s', forS f xs s = some s' ∧ P xs.length s' := by
  have key : ∀ (m i : Nat) (s : Sx), i + m = xs.length → P i s → ∃ s', forS f (xs.drop i) s = some s' ∧ P xs.length s' := by
    intro m
    induction m with
    | zero =>
      intro i s hi hp
      have e : i = xs.length := by omega
      subst e
      rw [List.drop_length]
      exact ⟨s, rfl, hp⟩
    | succ m ih =>
      intro i s hi hp
      have hl : i < xs.length := by omega
      obtain ⟨s', e, hp'⟩ := step i hl s hp
      obtain ⟨r, e2, h2⟩ := ih (i + 1) s' (by omega) hp'
      refine ⟨r, ?_, h2⟩
      rw [List.drop_eq_getElem_cons hl, forS_cons e]
      exact e2
  have := key xs.length 0 s (by omega) h0
  rwa [List.drop_zero] at this
theorem forC_ix {β Sx R : Type} {f : β → Sx → Option (Ctl Sx R)} {xs : List β} (P : Nat → Sx → Prop) {s : Sx} (h0 : P 0 s) (step : ∀ (i : Nat) (hi : i < xs.length) s, P i s → ∃ s', f xs[i] s = some (.nx s') ∧ P (i + 1) s') : ∃ s', forC f xs s = some (.nx s') ∧ P xs.length s' := by
  have key : ∀ (m i : Nat) (s : Sx), i + m = xs.length → P i s → ∃ s', forC f (xs.drop i) s = some (.nx s') ∧ P xs.length s' := by
    intro m
    induction m with
    | zero =>
      intro i s hi hp
      have e : i = xs.length := by omega
      subst e
      rw [List.drop_length]
      exact ⟨s, rfl, hp⟩
    | succ m ih =>
      intro i s hi hp
      have hl : i < xs.length := by omega
      obtain ⟨s', e, hp'⟩ := step i hl s hp
      obtain ⟨r, e2, h2⟩ := ih (i + 1) s' (by omega) hp'
      refine ⟨r, ?_, h2⟩
      rw [List.drop_eq_getElem_cons hl, forC_cons e]
      exact e2
  have := key xs.length 0 s (by omega) h0
  rwa [List.drop_zero] at this
/-- two loops over one list, turn by turn -/
theorem forS2_ix {β S1 S2 : Type} {f1 : β → S1 → Option S1} {f2 : β → S2 → Option S2} {xs : List β} (P : Nat → S1 → S2 → Prop) {s1 : S1} {s2 : S2} (h0 : P 0 s1 s2)
    (step : ∀ (i : Nat) (hi : i < xs.length) s1 s2, P i s1 s2 → ∃ s1' s2', f1 xs[i] s1 = some s1' ∧ f2 xs[i] s2 = some s2' ∧ P (i + 1) s1' s2') : ∃ r1 r2, forS f1 xs s1 = some r1 ∧ forS f2 xs s2 = some r2 ∧ P xs.length r1 r2 := by
  have key : ∀ (m i : Nat) (s1 : S1) (s2 : S2), i + m = xs.length → P i s1 s2 → ∃ r1 r2, forS f1 (xs.drop i) s1 = some r1 ∧ forS f2 (xs.drop i) s2 = some r2 ∧ P xs.length r1 r2 := by
    intro m
    induction m with
    | zero =>
      intro i s1 s2 hi hp
      have e : i = xs.length := by omega
      subst e
      rw [List.drop_length]
      exact ⟨s1, s2, rfl, rfl, hp⟩
    | succ m ih =>
      intro i s1 s2 hi hp
      have hl : i < xs.length := by omega
      obtain ⟨a, b, e1, e2, hp'⟩ := step i hl s1 s2 hp
      obtain ⟨r1, r2, h1, h2, h3⟩ := ih (i + 1) a b (by omega) hp'
      refine ⟨r1, r2, ?_, ?_, h3⟩
      · rw [List.drop_eq_getElem_cons hl, forS_cons e1]
        exact h1
      · rw [List.drop_eq_getElem_cons hl, forS_cons e2]
        exact h2
  have := key xs.length 0 s1 s2 (by omega) h0
  rwa [List.drop_zero] at this
theorem enumI_at {α : Type} (xs : List α) (i : Nat) (hi : i < (enumI xs).length) : (enumI xs)[i] = ((i : Int), xs[i]'(by simpa [enumI] using hi), ()) := by simp [enumI]
theorem whileS_inv {Sx : Type} {c : Sx → Option Bool} {f : Sx → Option Sx} (I : Sx → Prop) (μ : Sx → Nat) (step : ∀ s, I s → ∃ b, c s = some b ∧ (b = true → ∃ s', f s = some s' ∧ I s' ∧ μ s' < μ s)) :
    ∀ (n : Nat) {s : Sx}, I s → μ s < n → ∃ s', whileS c f n s = some s' ∧ I s' ∧ c s' = some false
  | 0, _, _, h => absurd h (Nat.not_lt_zero _)
  | n + 1, s, hI, hn => by
    obtain ⟨b, hb, hs⟩ := step s hI
    unfold whileS
    rw [hb]
    cases b with
    | false => exact ⟨s, rfl, hI, hb⟩
    | true =>
      obtain ⟨s', e, hI', hm⟩ := hs rfl
      obtain ⟨s2, e2, h2⟩ := whileS_inv I μ step n hI' (by omega)
      refine ⟨s2, ?_, h2⟩
      show ((f s).bind _) = _
      rw [e]
      exact e2
theorem whileF_inv {Sx : Type} {c : Sx → Option Bool} {f : Sx → Option Sx} (I : Sx → Prop) (μ : Sx → Nat) (step : ∀ s, I s → ∃ b, c s = some b ∧ (b = true → ∃ s', f s = some s' ∧ I s' ∧ μ s' < μ s)) {s : Sx} (h : I s) :
    ∃ s', whileF c f s = some s' ∧ I s' ∧ c s' = some false := by
  obtain ⟨s', e, h1, h2⟩ := whileS_inv I μ step (μ s + 1) h (Nat.lt_succ_self _)
  exact ⟨s', whileF_of e, h1, h2⟩
theorem cut_len {α : Type} (xs : List α) (lo hi : Option Int) : (cut xs lo hi).length ≤ xs.length := by
  unfold cut
  rw [List.length_take, List.length_drop]
  omega
theorem cut_mem {α : Type} {xs : List α} {lo hi : Option Int} {x : α} (h : x ∈ cut xs lo hi) : x ∈ xs := List.mem_of_mem_drop (List.mem_of_mem_take h)
theorem cut_from {α : Type} (xs : List α) (k : Nat) : cut xs (some (k : Int)) none = xs.drop k := by
  unfold cut
  rw [HT.sIx_nat, HT.sIx_none]
  by_cases h : k ≤ xs.length
  · rw [Nat.min_eq_left h, List.take_of_length_le (by rw [List.length_drop]; omega)]
  · rw [Nat.min_eq_right (by omega), List.drop_eq_nil_of_le (Nat.le_refl _), List.drop_eq_nil_of_le (show xs.length ≤ k by omega)]
    exact List.take_nil
theorem cut_to {α : Type} (xs : List α) (k : Nat) : cut xs none (some (k : Int)) = xs.take k := by
  unfold cut
  rw [HT.sIx_nat, HT.sIx_none, List.drop_zero, Nat.sub_zero]
  by_cases h : k ≤ xs.length
  · rw [Nat.min_eq_left h]
  · rw [Nat.min_eq_right (by omega), List.take_of_length_le (Nat.le_refl _), List.take_of_length_le (by omega)]
theorem rngO_ok {lo hi : Int} (h1 : -1000000000000 ≤ lo) (h2 : lo ≤ 1000000000000) (h3 : -1000000000000 ≤ hi) (h4 : hi ≤ 1000000000000) : rngO lo hi = some (irange lo hi) := if_pos ⟨h1, h2, h3, h4⟩
theorem irange_len (lo hi : Int) : (irange lo hi).length = (hi - lo).toNat := by simp [irange]
theorem enumI_len {α : Type} (xs : List α) : (enumI xs).length = xs.length := by simp [enumI]
theorem lcM_len {β γ : Type} {c : β → Option Bool} {f : β → Option γ} {xs : List β} (h : xs.length < 1000000) : lcM c f xs = lcGo c f xs := if_pos h
theorem lcGo_all {β γ : Type} {f : β → Option γ} (g : β → γ) : ∀ {xs : List β}, (∀ x ∈ xs, f x = some (g x)) → lcGo (fun _ => some true) f xs = some (xs.map g)
  | [], _ => rfl
  | x :: xs, h => by
    unfold lcGo
    show ((f x).bind _) = _
    rw [h x List.mem_cons_self, lcGo_all g fun y hy => h y (List.mem_cons_of_mem _ hy)]
    rfl
theorem lcGo_if {β γ : Type} {c : β → Option Bool} {f : β → Option γ} (p : β → Bool) (g : β → γ) : ∀ {xs : List β}, (∀ x ∈ xs, c x = some (p x)) → (∀ x ∈ xs, p x = true → f x = some (g x)) → lcGo c f xs = some ((xs.filter p).map g)
  | [], _, _ => rfl
  | x :: xs, hc, h => by
    unfold lcGo
    rw [hc x List.mem_cons_self]
    have ih := lcGo_if p g (xs := xs) (fun y hy => hc y (List.mem_cons_of_mem _ hy)) (fun y hy => h y (List.mem_cons_of_mem _ hy))
    cases e : p x with
    | true =>
      show ((f x).bind _) = _
      rw [h x List.mem_cons_self e, ih, List.filter_cons_of_pos e]
      rfl
    | false =>
      show lcGo c f xs = _
      rw [ih, List.filter_cons_of_neg (by rw [e]; exact Bool.false_ne_true)]
theorem lcM_all {β γ : Type} {f : β → Option γ} (g : β → γ) {xs : List β} (hl : xs.length < 1000000) (h : ∀ x ∈ xs, f x = some (g x)) : lcM (fun _ => some true) f xs = some (xs.map g) := by
  rw [lcM_len hl, lcGo_all g h]
/-- draws, one an item -/
theorem lcSGo_inv {β γ Sx : Type} {f : β → Sx → Option (γ × Sx)} (I : Sx → Prop) (P : γ → Prop) (step : ∀ x s, I s → ∃ z s', f x s = some (z, s') ∧ I s' ∧ P z) :
    ∀ {xs : List β} {s : Sx}, I s → ∃ zs s', lcSGo f xs s = some (zs, s') ∧ I s' ∧ zs.length = xs.length ∧ ∀ z ∈ zs, P z
  | [], s, h => ⟨[], s, rfl, h, rfl, fun _ hz => nomatch hz⟩
  | x :: xs, s, h => by
    obtain ⟨z, s', e, h', hp⟩ := step x s h
    obtain ⟨zs, s2, e2, h2, hl, hz⟩ := lcSGo_inv I P step (xs := xs) h'
    refine ⟨z :: zs, s2, ?_, h2, by rw [List.length_cons, List.length_cons, hl], fun y hy => ?_⟩
    · unfold lcSGo
      rw [e]
      show ((lcSGo f xs s').bind _) = _
      rw [e2]
      rfl
    · rcases List.mem_cons.mp hy with rfl | hy
      · exact hp
      · exact hz y hy
theorem lcS_inv {β γ Sx : Type} {f : β → Sx → Option (γ × Sx)} (I : Sx → Prop) (P : γ → Prop) (step : ∀ x s, I s → ∃ z s', f x s = some (z, s') ∧ I s' ∧ P z) {xs : List β} {s : Sx} (hl : xs.length < 1000000) (h : I s) :
    ∃ zs s', lcS f xs s = some (zs, s') ∧ I s' ∧ zs.length = xs.length ∧ ∀ z ∈ zs, P z := by
  unfold lcS
  rw [if_pos hl]
  exact lcSGo_inv I P step h
theorem forS_app {β γ : Type} {f : β → List γ → Option (List γ)} (g : β → γ) : ∀ {xs : List β} {s : List γ}, s.length + xs.length ≤ 1000000 → (∀ x ∈ xs, ∀ s : List γ, s.length < 1000000 → f x s = some (s ++ [g x])) → forS f xs s = some (s ++ xs.map g)
  | [], s, _, _ => by rw [List.map_nil, List.append_nil]; rfl
  | x :: xs, s, hl, h => by
    rw [List.length_cons] at hl
    rw [forS_cons (h x List.mem_cons_self s (by omega)), forS_app g (by rw [List.length_append, List.length_singleton]; omega) fun y hy => h y (List.mem_cons_of_mem _ hy), List.map_cons, List.append_assoc]
    rfl
theorem enumI_mem {α : Type} [Rp α] {xs : List α} {y : Int × α × Unit} (h : y ∈ enumI xs) : ∃ (i : Nat) (x : α), xs[i]? = some x ∧ y = ((i : Int), x, ()) := by
  obtain ⟨i, hi⟩ := List.getElem?_of_mem h
  obtain ⟨x, hx, e⟩ := enum_get hi
  exact ⟨i, x, hx, e⟩
theorem zipI_mem {α β : Type} [Rp α] [Rp β] {xs : List α} {ys : List β} {z : α × β × Unit} (h : z ∈ zipI xs ys) : ∃ (i : Nat) (x : α) (y : β), xs[i]? = some x ∧ ys[i]? = some y ∧ z = (x, y, ()) := by
  obtain ⟨i, hi⟩ := List.getElem?_of_mem h
  obtain ⟨x, y, hx, hy, e⟩ := zip_get hi
  exact ⟨i, x, y, hx, hy, e⟩
/-! texts -/
theorem len_app (x y : Str) : (x ++ y).length = x.length + y.length := by
  show (x.cps ++ y.cps).size = _
  rw [Array.size_append]
  rfl
theorem ok_app {x y : Str} (hx : PyData.strOk x = true) (hy : PyData.strOk y = true) : PyData.strOk (x ++ y) = true := by
  show (x.cps ++ y.cps).all _ = true
  rw [Array.all_append]
  exact Bool.and_eq_true_iff.mpr ⟨hx, hy⟩
theorem ok_join {s : Str} (hs : PyData.strOk s = true) : ∀ {ys : List Str}, (∀ y ∈ ys, PyData.strOk y = true) → PyData.strOk (Str.join s ys) = true
  | [], _ => by
    unfold Str.join
    decide +kernel
  | [x], h => h x List.mem_cons_self
  | x :: y :: r, h => ok_app (ok_app (h x List.mem_cons_self) hs) (ok_join hs fun z hz => h z (List.mem_cons_of_mem _ hz))
theorem joinO_ok {s : Str} {ys : List Str} (h : (ys.map (·.length)).sum + ys.length * s.length ≤ 1000000) : joinO s ys = some (Str.join s ys) := by
  unfold joinO
  rw [if_pos h, TL.join_eq]
/-- a sign of a written text -/
theorem ixS_ok {s : Str} {i : Int} (hl : s.length ≤ 100000) (h0 : 0 ≤ i) (h : i < (s.length : Int)) (hs : PyData.strOk s = true) : ∃ c, ixS s i = some ⟨#[c]⟩ ∧ PyData.strOk ⟨#[c]⟩ = true ∧ (⟨#[c]⟩ : Str).length = 1 := by
  have hl2 : s.cps.toList.length = s.length := Array.length_toList
  obtain ⟨c, e, e2⟩ := atI_some (xs := s.cps.toList) h0 (by rw [hl2]; exact h)
  refine ⟨c, ?_, ?_, rfl⟩
  · unfold ixS
    rw [if_pos hl, e]
    rfl
  · have hm : c ∈ s.cps := Array.mem_toList_iff.mp (List.mem_of_getElem? e2)
    have := Array.all_eq_true'.mp hs c hm
    show (#[c] : Array Nat).all _ = true
    simpa using this
/-! dicts, and more -/
theorem cut_init {α : Type} (xs : List α) : cut xs none (some (-(1 : Int))) = xs.dropLast := by
  unfold cut
  rw [HT.sIx_none, List.drop_zero, Nat.sub_zero, List.dropLast_eq_take]
  have e : HT.sIx xs.length xs.length (some (-(1 : Int))) = (-(1 : Int) + (xs.length : Int)).toNat := rfl
  rw [e]
  congr 1
  omega
theorem mem_irange {x a b : Int} : x ∈ irange a b ↔ a ≤ x ∧ x < b := by
  unfold irange
  rw [List.mem_map]
  constructor
  · rintro ⟨k, hk, rfl⟩
    rw [List.mem_range] at hk
    omega
  · intro h
    exact ⟨(x - a).toNat, List.mem_range.mpr (by omega), by omega⟩
section
variable {κ β : Type} [DecidableEq κ]
theorem getD_pos {p : κ × β} {r : List (κ × β)} {k : κ} (e : p.1 = k) : getD (p :: r) k = some p.2 := by simp [getD, List.find?_cons, e]
theorem getD_neg {p : κ × β} {r : List (κ × β)} {k : κ} (e : ¬ p.1 = k) : getD (p :: r) k = getD r k := by simp [getD, List.find?_cons, e]
theorem getD_map (k j : κ) (y : β) : ∀ kvs : List (κ × β), getD (kvs.map fun kv => if kv.1 = k then (kv.1, y) else kv) j = (getD kvs j).map fun x => if j = k then y else x
  | [] => rfl
  | p :: r => by
    rw [List.map_cons]
    have ih := getD_map k j y r
    by_cases a : p.1 = k
    · rw [if_pos a]
      by_cases b : p.1 = j
      · rw [getD_pos (p := (p.1, y)) b, getD_pos b, Option.map_some, if_pos (b.symm.trans a)]
      · rw [getD_neg (p := (p.1, y)) b, getD_neg b, ih]
    · rw [if_neg a]
      by_cases b : p.1 = j
      · rw [getD_pos b, getD_pos b, Option.map_some, if_neg (fun z => a (b.trans z))]
      · rw [getD_neg b, getD_neg b, ih]
theorem getD_snoc (k j : κ) (y : β) : ∀ kvs : List (κ × β), getD kvs k = none → getD (kvs ++ [(k, y)]) j = if j = k then some y else getD kvs j
  | [], _ => by
    by_cases e : k = j
    · rw [List.nil_append, getD_pos (p := (k, y)) e, if_pos e.symm]
    · rw [List.nil_append, getD_neg (p := (k, y)) e, if_neg (Ne.symm e)]
  | p :: r, h => by
    have hk : ¬ p.1 = k := fun e => by rw [getD_pos e] at h; cases h
    rw [getD_neg hk] at h
    have ih := getD_snoc k j y r h
    rw [List.cons_append]
    by_cases e : p.1 = j
    · rw [getD_pos e, getD_pos e, if_neg (fun z => hk (e.trans z))]
    · rw [getD_neg e, getD_neg e, ih]
theorem getD_put (kvs : List (κ × β)) (k j : κ) (y : β) : getD (putD kvs k y) j = if j = k then some y else getD kvs j := by
  unfold putD
  by_cases a : (getD kvs k).isSome = true
  · rw [if_pos a, getD_map]
    by_cases e : j = k
    · obtain ⟨x, hx⟩ := Option.isSome_iff_exists.mp a
      rw [if_pos e, e, hx, Option.map_some, if_pos rfl]
    · rw [if_neg e]
      cases getD kvs j with
      | none => rfl
      | some x => rw [Option.map_some, if_neg e]
  · rw [if_neg a]
    refine getD_snoc k j y kvs ?_
    cases q : getD kvs k with
    | none => rfl
    | some x => rw [q] at a; exact (a rfl).elim
theorem len_put (kvs : List (κ × β)) (k : κ) (y : β) : (putD kvs k y).length ≤ kvs.length + 1 := by
  unfold putD
  split
  · rw [List.length_map]; omega
  · rw [List.length_append, List.length_cons, List.length_nil]; omega
theorem putO_ok {d : Dc κ β} {k : κ} {y : β} (h : d.l.length < 1000000) : putO d k y = some ⟨putD d.l k y⟩ := if_pos h
end
theorem forC_any {β R : Type} {f : β → Unit → Option (Ctl Unit R)} {r : R} (p : β → Bool) : ∀ {xs : List β}, (∀ x ∈ xs, f x () = some (if p x = true then .rt r else .nx ())) → forC f xs () = some (if xs.any p = true then .rt r else .nx ())
  | [], _ => rfl
  | x :: xs, h => by
    have hx := h x List.mem_cons_self
    cases e : p x with
    | true =>
      rw [e] at hx
      show ((f x ()).bind _) = _
      rw [hx, List.any_cons, e]
      rfl
    | false =>
      rw [e] at hx
      rw [forC_cons (s' := ()) hx, forC_any p fun y hy => h y (List.mem_cons_of_mem _ hy), List.any_cons, e]
      rfl
end Wk
set_option synthInstance.maxHeartbeats 400000
set_option synthInstance.maxSize 2000
namespace Wk29
open PySem L2 Wk
/-! draws of a stream -/
def Good (st : List Int) : Prop := ∃ d s, st = [d, s]
theorem take_ok {st : List Int} {many : Int} (g : Good st) (h : 0 < many) (h2 : many < 1073741824) : ∃ r st', m__law_take st many = some (r, st') ∧ 0 ≤ r ∧ r < many ∧ Good st' := by
  obtain ⟨d, s, rfl⟩ := g
  unfold m__law_take
  have x0 : atI [d, s] (0 : Int) = some d := rfl
  have y0 : ∀ z : Int, setI [d, s] (0 : Int) z = some [z, s] := fun _ => rfl
  have y1 : ∀ z : Int, setI [d, s] (1 : Int) z = some [d, z] := fun _ => rfl
  have x1 : ∀ z : Int, atI [d, z] (1 : Int) = some z := fun _ => rfl
  simp only [x0, bs]
  by_cases hd : 0 < d
  · rw [if_pos (decide_eq_true hd), modO_ok h]
    simp only [bs]
    rw [divO_ok h h2]
    simp only [bs, y0]
    exact ⟨_, _, rfl, Int.emod_nonneg _ (by omega), Int.emod_lt_of_pos _ h, _, _, rfl⟩
  · rw [if_neg (by simpa using hd)]
    simp only [x1, y1, bs]
    rw [modO_ok h]
    simp only [bs]
    exact ⟨_, _, rfl, Int.emod_nonneg _ (by omega), Int.emod_lt_of_pos _ h, _, _, rfl⟩
theorem stream_ok {ns : List Int} (hl : ns.length ≤ 63) : ∃ st, m__law_stream (Fz.mk ns) = some st ∧ Good st := by
  unfold m__law_stream
  simp only [bs]
  obtain ⟨s', e, _⟩ := forS_inv (f := m__law_stream_L1) (fun _ _ => True) (xs := cut ns none (some 63)) (s := 7) trivial (fun x rest s _ => ⟨_, by unfold m__law_stream_L1; exact rfl, trivial⟩)
  rw [e]
  simp only [bs]
  by_cases h1 : 1 < (ns.length : Int)
  · obtain ⟨a, ea, _⟩ := atI_some (xs := ns) (i := 0) (by omega) (by omega)
    obtain ⟨b, eb, _⟩ := atI_some (xs := ns) (i := 1) (by omega) (by omega)
    rw [decide_eq_true h1]
    simp only [ea, bs, if_true]
    by_cases h2 : a % 2 = 0
    · rw [decide_eq_true h2]
      simp only [if_true, eb, bs]
      exact ⟨_, rfl, _, _, rfl⟩
    · rw [decide_eq_false h2]
      simp only [Bool.false_eq_true, if_false, bs]
      exact ⟨_, rfl, _, _, rfl⟩
  · rw [decide_eq_false h1]
    simp only [Bool.false_eq_true, if_false, bs]
    exact ⟨_, rfl, _, _, rfl⟩
/-- a row of draws -/
theorem takes_ok {β : Type} {xs : List β} {st : List Int} {top : Int} {f : β → List Int → Option (Int × List Int)} (hf : ∀ x st, f x st = (m__law_take st top).bind fun p => some (p.1, p.2)) (hl : xs.length < 1000000) (g : Good st) (h : 0 < top) (h2 : top < 1073741824) :
    ∃ zs st', lcS f xs st = some (zs, st') ∧ Good st' ∧ zs.length = xs.length ∧ ∀ z ∈ zs, 0 ≤ z ∧ z < top :=
  lcS_inv Good (fun z => 0 ≤ z ∧ z < top) (fun x s hs => by
    obtain ⟨r, st', e, h1, h2, g'⟩ := take_ok hs h h2
    exact ⟨r, st', by rw [hf, e, bs], g', h1, h2⟩) hl g
abbrev P2 := Int × Int × Unit
abbrev Dk := Dc P2 Bool
def has (d : Dk) (x : P2) : Bool := (getD d.l x).isSome
def cov (r c : Int) (sp : P2) : List P2 := (irange 0 (sp.1 * sp.2.1)).map fun k => (r + k / sp.1, c + k % sp.1, ())
structure SpOk (C : Int) (sp : P2) : Prop where
  a1 : 1 ≤ sp.1
  a2 : sp.1 ≤ C
  b1 : 1 ≤ sp.2.1
  b2 : sp.2.1 ≤ 6
theorem area {C : Int} (hC : C ≤ 12) {sp : P2} (h : SpOk C sp) : 0 ≤ sp.1 * sp.2.1 ∧ sp.1 * sp.2.1 ≤ 72 := by
  have h1 := h.a1
  have h2 := h.a2
  have h3 := h.b1
  have h4 := h.b2
  constructor
  · exact Int.mul_nonneg (by omega) (by omega)
  · exact Int.le_trans (Int.mul_le_mul (show sp.1 ≤ 12 by omega) h4 (by omega) (by omega)) (by omega)
theorem cov_len {C : Int} (hC : C ≤ 12) {sp : P2} (h : SpOk C sp) (r c : Int) : (cov r c sp).length ≤ 72 := by
  unfold cov
  rw [List.length_map, irange_len]
  have := area hC h
  omega
theorem mem_cov {C : Int} {sp : P2} (h : SpOk C sp) {r c x y : Int} {u : Unit} : (x, y, u) ∈ cov r c sp ↔ (r ≤ x ∧ x < r + sp.2.1) ∧ (c ≤ y ∧ y < c + sp.1) := by
  have h1 := h.a1
  unfold cov
  rw [List.mem_map]
  constructor
  · rintro ⟨k, hk, e⟩
    rw [mem_irange] at hk
    have e1 : r + k / sp.1 = x := congrArg (·.1) e
    have e2 : c + k % sp.1 = y := congrArg (·.2.1) e
    have q1 := Int.emod_nonneg k (show sp.1 ≠ 0 by omega)
    have q2 := Int.emod_lt_of_pos k (show 0 < sp.1 by omega)
    have q3 : 0 ≤ k / sp.1 := Int.ediv_nonneg hk.1 (by omega)
    have q4 : k / sp.1 < sp.2.1 := Int.ediv_lt_of_lt_mul (by omega) (by rw [Int.mul_comm]; exact hk.2)
    omega
  · rintro ⟨⟨p1, p2⟩, p3, p4⟩
    refine ⟨(x - r) * sp.1 + (y - c), mem_irange.mpr ⟨?_, ?_⟩, ?_⟩
    · have := Int.mul_nonneg (show 0 ≤ x - r by omega) (show 0 ≤ sp.1 by omega)
      omega
    · have q : (x - r + 1) * sp.1 ≤ sp.2.1 * sp.1 := Int.mul_le_mul_of_nonneg_right (by omega) (by omega)
      rw [Int.add_mul, Int.one_mul, Int.mul_comm sp.2.1] at q
      omega
    · have e1 : ((x - r) * sp.1 + (y - c)) / sp.1 = x - r := by
        rw [Int.add_comm, Int.add_mul_ediv_right _ _ (show sp.1 ≠ 0 by omega), Int.ediv_eq_zero_of_lt (by omega) (by omega)]
        omega
      have e2 : ((x - r) * sp.1 + (y - c)) % sp.1 = y - c := by
        rw [Int.add_comm, Int.add_mul_emod_self_right, Int.emod_eq_of_lt (by omega) (by omega)]
      rw [e1, e2, show r + (x - r) = x by omega, show c + (y - c) = y by omega]
theorem cells_ok {C : Int} (hC : C ≤ 12) {sp : P2} (h : SpOk C sp) (r c : Int) : m_cells_at r c sp = some (cov r c sp) := by
  have h1 := h.a1
  have h2 := h.a2
  have ha := area hC h
  have hl : (irange 0 (sp.1 * sp.2.1)).length < 1000000 := by
    rw [irange_len]
    omega
  unfold m_cells_at
  rw [mulO_ok (by omega) (by omega)]
  simp only [bs]
  rw [rngO_ok (by omega) (by omega) (by omega) (by omega)]
  simp only [bs]
  have e : ∀ k ∈ irange 0 (sp.1 * sp.2.1), ((divO k sp.1).bind fun q_8 => (modO k sp.1).bind fun r_9 => some ((r + q_8), (c + r_9), ())) = some ((r + k / sp.1, c + k % sp.1, ()) : P2) := by
    intro k _
    rw [divO_ok (by omega) (by omega), modO_ok (by omega)]
    simp only [bs]
  rw [lcM_all (fun k => ((r + k / sp.1, c + k % sp.1, ()) : P2)) hl e]
  rfl
/-- what bars a place -/
def bar (C : Int) (d : Dk) (sp : P2) (at_ : Int) : Bool := decide (C < at_ % C + sp.1) || (cov (at_ / C) (at_ % C) sp).any (has d)
theorem open_ok {C : Int} {sp : P2} (h : SpOk C sp) (hC : C ≤ 12) {d : Dk} {r c : Int} (hr : 0 ≤ r ∧ r < 100000) (hc : 0 ≤ c ∧ c < 100000) : m_is_open d r c sp = some (!(cov r c sp).any (has d)) := by
  have h1 := h.a1
  have h2 := h.a2
  have h3 := h.b1
  have h4 := h.b2
  have inner : ∀ x, m_is_open_L1 d c sp x () = some (if (irange c (c + sp.1)).any (fun y => has d (x, y, ())) = true then .rt false else .nx ()) := by
    intro x
    unfold m_is_open_L1
    rw [rngO_ok (by omega) (by omega) (by omega) (by omega)]
    simp only [bs]
    rw [forC_any (fun y => has d (x, y, ())) (r := false) fun y _ => by
      unfold m_is_open_L2 has
      by_cases q : (getD d.l (x, y, ())).isSome = true
      · rw [if_pos q, if_pos q]
      · rw [if_neg q, if_neg q]]
    simp only [bs]
    cases (irange c (c + sp.1)).any (fun y => has d (x, y, ())) <;> rfl
  unfold m_is_open
  rw [rngO_ok (by omega) (by omega) (by omega) (by omega)]
  simp only [bs]
  rw [forC_any (fun x => (irange c (c + sp.1)).any (fun y => has d (x, y, ()))) (r := false) fun x _ => inner x]
  have e : (irange r (r + sp.2.1)).any (fun x => (irange c (c + sp.1)).any (fun y => has d (x, y, ()))) = (cov r c sp).any (has d) := by
    rw [Bool.eq_iff_iff, List.any_eq_true, List.any_eq_true]
    constructor
    · rintro ⟨x, hx, h5⟩
      rw [List.any_eq_true] at h5
      obtain ⟨y, hy, h6⟩ := h5
      exact ⟨(x, y, ()), (mem_cov h).mpr ⟨mem_irange.mp hx, mem_irange.mp hy⟩, h6⟩
    · rintro ⟨⟨x, y, u⟩, hx, h6⟩
      have := (mem_cov h).mp hx
      exact ⟨x, mem_irange.mpr this.1, List.any_eq_true.mpr ⟨y, mem_irange.mpr this.2, h6⟩⟩
  rw [e]
  cases (cov r c sp).any (has d) <;> rfl
theorem at_ok {C at_ : Int} (hC1 : 1 ≤ C) (hC : C ≤ 12) (h0 : 0 ≤ at_) (h1 : at_ < 100000) : (0 ≤ at_ / C ∧ at_ / C < 100000) ∧ (0 ≤ at_ % C ∧ at_ % C < C) := by
  have q1 := Int.emod_nonneg at_ (show C ≠ 0 by omega)
  have q2 := Int.emod_lt_of_pos at_ (show 0 < C by omega)
  have q3 : 0 ≤ at_ / C := Int.ediv_nonneg h0 (by omega)
  have q4 : at_ / C ≤ at_ := Int.ediv_le_self _ h0
  omega
theorem test_ok {C : Int} (hC1 : 1 ≤ C) (hC : C ≤ 12) {sp : P2} (h : SpOk C sp) {d : Dk} {at_ : Int} (h0 : 0 ≤ at_) (h1 : at_ < 100000) : m_put_cells_L2_c C sp d at_ = some (bar C d sp at_) := by
  obtain ⟨q1, q2⟩ := at_ok hC1 hC h0 h1
  unfold m_put_cells_L2_c
  rw [modO_ok (by omega), divO_ok (by omega) (by omega)]
  simp only [bs]
  rw [open_ok h hC q1 ⟨q2.1, by omega⟩]
  simp only [bs, Bool.not_not]
  unfold bar
  cases decide (C < at_ % C + sp.1) <;> rfl
/-! the first place -/
structure First (C : Int) (d : Dk) (sp : P2) (x : Int) : Prop where
  nn : 0 ≤ x
  free : bar C d sp x = false
  low : ∀ j, 0 ≤ j → j < x → bar C d sp j = true
structure Dok (d : Dk) (i : Nat) : Prop where
  rows : ∀ x : P2, has d x = true → x.1 < 6 * (i : Int)
  len : d.l.length ≤ 72 * i
theorem free_at {C : Int} (hC1 : 1 ≤ C) {sp : P2} (h : SpOk C sp) {d : Dk} {i : Nat} (hd : Dok d i) : bar C d sp (6 * (i : Int) * C) = false := by
  have h2 := h.a2
  unfold bar
  rw [Int.mul_emod_left, Int.mul_ediv_cancel _ (show C ≠ 0 by omega)]
  rw [decide_eq_false (by omega), Bool.false_or, ← Bool.not_eq_true, List.any_eq_true]
  rintro ⟨⟨x, y, u⟩, hx, h3⟩
  have h4 := (mem_cov h).mp hx
  have := hd.rows _ h3
  have : x < 6 * (i : Int) := this
  omega
theorem at_max {C : Int} (hC1 : 1 ≤ C) (hC : C ≤ 12) {i : Nat} (hi : i ≤ 100) : 0 ≤ 6 * (i : Int) * C ∧ 6 * (i : Int) * C ≤ 7200 := by
  constructor
  · exact Int.mul_nonneg (by omega) (by omega)
  · exact Int.le_trans (Int.mul_le_mul (show 6 * (i : Int) ≤ 600 by omega) hC (by omega) (by omega)) (by omega)
theorem first_ok {C : Int} (hC1 : 1 ≤ C) (hC : C ≤ 12) {sp : P2} (h : SpOk C sp) {d : Dk} {i : Nat} (hi : i ≤ 100) (hd : Dok d i) :
    ∃ x, whileF (m_put_cells_L2_c C sp d) (m_put_cells_L2 C sp d) 0 = some x ∧ First C d sp x ∧ x ≤ 6 * (i : Int) * C := by
  have hm := at_max hC1 hC hi
  have hf := free_at hC1 h hd
  obtain ⟨x, e, ⟨i1, i2, i3⟩, ec⟩ := whileF_inv (c := m_put_cells_L2_c C sp d) (f := m_put_cells_L2 C sp d) (fun s => 0 ≤ s ∧ s ≤ 6 * (i : Int) * C ∧ ∀ j, 0 ≤ j → j < s → bar C d sp j = true) (fun s => (6 * (i : Int) * C - s).toNat) (fun s hs => by
    obtain ⟨s1, s2, s3⟩ := hs
    refine ⟨_, test_ok hC1 hC h s1 (by omega), fun hb => ⟨s + 1, by unfold m_put_cells_L2; rfl, ⟨by omega, ?_, fun j j1 j2 => ?_⟩, ?_⟩⟩
    · have : s ≠ 6 * (i : Int) * C := fun z => by rw [z, hf] at hb; cases hb
      omega
    · by_cases e : j = s
      · rw [e]
        exact hb
      · exact s3 j j1 (by omega)
    · have : s ≠ 6 * (i : Int) * C := fun z => by rw [z, hf] at hb; cases hb
      omega) (s := 0) ⟨Int.le_refl _, hm.1, fun j j1 j2 => by omega⟩
  refine ⟨x, e, ⟨i1, ?_, i3⟩, i2⟩
  rw [test_ok hC1 hC h i1 (by omega)] at ec
  exact Option.some.inj ec
theorem First.one {C : Int} {d : Dk} {sp : P2} {x y : Int} (a : First C d sp x) (b : First C d sp y) : x = y := by
  have h1 : ¬ x < y := fun z => by
    have := b.low x a.nn z
    rw [a.free] at this
    cases this
  have h2 : ¬ y < x := fun z => by
    have := a.low y b.nn z
    rw [b.free] at this
    cases this
  omega
open Classical in
noncomputable def fst (C : Int) (d : Dk) (sp : P2) : Int := if h : ∃ x, First C d sp x then h.choose else 0
theorem fst_eq {C : Int} {d : Dk} {sp : P2} {x : Int} (h : First C d sp x) : fst C d sp = x := by
  have e : ∃ x, First C d sp x := ⟨x, h⟩
  unfold fst
  rw [dif_pos e]
  exact First.one e.choose_spec h
def add (d : Dk) (xs : List P2) : Dk := ⟨xs.foldl (fun l x => putD l x true) d.l⟩
theorem add_go1 : ∀ (xs : List P2) (d : Dk), d.l.length + xs.length ≤ 1000000 → forS m_put_cells_L3 xs d = some (add d xs)
  | [], d, _ => rfl
  | x :: xs, d, h => by
    rw [List.length_cons] at h
    have hl := len_put d.l x true
    have h1 := add_go1 xs ⟨putD d.l x true⟩ (by show (putD d.l x true).length + _ ≤ _; omega)
    rw [forS_cons (s' := ⟨putD d.l x true⟩) (by unfold m_put_cells_L3; rw [putO_ok (by omega)]; rfl), h1]
    rfl
theorem add_len : ∀ (xs : List P2) (d : Dk), (add d xs).l.length ≤ d.l.length + xs.length
  | [], d => Nat.le_refl _
  | x :: xs, d => by
    have hl := len_put d.l x true
    have := add_len xs ⟨putD d.l x true⟩
    rw [List.length_cons]
    have e : (add d (x :: xs)) = add ⟨putD d.l x true⟩ xs := rfl
    rw [e]
    have : (add ⟨putD d.l x true⟩ xs).l.length ≤ (putD d.l x true).length + xs.length := this
    omega
theorem add_has : ∀ (xs : List P2) (d : Dk) (y : P2), has (add d xs) y = true → y ∈ xs ∨ has d y = true
  | [], d, y, h => .inr h
  | x :: xs, d, y, h => by
    rcases add_has xs ⟨putD d.l x true⟩ y h with h | h
    · exact .inl (List.mem_cons_of_mem _ h)
    · unfold has at h
      rw [show (Dc.mk (putD d.l x true)).l = putD d.l x true from rfl, getD_put] at h
      by_cases e : y = x
      · exact .inl (e ▸ List.mem_cons_self)
      · rw [if_neg e] at h
        exact .inr h
theorem dok_next {C : Int} (hC1 : 1 ≤ C) (hC : C ≤ 12) {sp : P2} (h : SpOk C sp) {d : Dk} {i : Nat} (hd : Dok d i) {x : Int} (hx0 : 0 ≤ x) (hx : x ≤ 6 * (i : Int) * C) : Dok (add d (cov (x / C) (x % C) sp)) (i + 1) := by
  have h4 := h.b2
  have q : x / C ≤ 6 * (i : Int) := by
    have := Int.ediv_le_ediv (show 0 < C by omega) hx
    rwa [Int.mul_ediv_cancel _ (show C ≠ 0 by omega)] at this
  refine ⟨fun y hy => ?_, ?_⟩
  · rcases add_has _ _ _ hy with hy | hy
    · obtain ⟨a, b, u⟩ := y
      have := (mem_cov h).mp hy
      show a < _
      omega
    · have := hd.rows y hy
      omega
  · have h1 := add_len (cov (x / C) (x % C) sp) d
    have h2 := cov_len hC h (x / C) (x % C)
    have h3 := hd.len
    omega
/-! the places -/
noncomputable def pl (C : Int) (d : Dk) (sp : P2) : P2 := (fst C d sp / C, fst C d sp % C, ())
noncomputable def nd (C : Int) (d : Dk) (sp : P2) : Dk := add d (cov (fst C d sp / C) (fst C d sp % C) sp)
noncomputable def plc (C : Int) : Dk → List P2 → List P2
  | _, [] => []
  | d, sp :: r => pl C d sp :: plc C (nd C d sp) r
noncomputable def dd (C : Int) : Dk → List P2 → Dk
  | d, [] => d
  | d, sp :: r => dd C (nd C d sp) r
theorem plc_app (C : Int) : ∀ (xs ys : List P2) (d : Dk), plc C d (xs ++ ys) = plc C d xs ++ plc C (dd C d xs) ys
  | [], _, _ => rfl
  | x :: xs, ys, d => by
    show pl C d x :: plc C (nd C d x) (xs ++ ys) = _
    rw [plc_app C xs ys]
    rfl
theorem plc_len (C : Int) : ∀ (xs : List P2) (d : Dk), (plc C d xs).length = xs.length
  | [], _ => rfl
  | x :: xs, d => by
    show (plc C (nd C d x) xs).length + 1 = xs.length + 1
    rw [plc_len C xs]
theorem plc_init (C : Int) (xs : List P2) (d : Dk) : plc C d xs.dropLast = (plc C d xs).dropLast := by
  rcases List.eq_nil_or_concat xs with rfl | ⟨ys, y, rfl⟩
  · rfl
  · rw [List.concat_eq_append, List.dropLast_concat, plc_app]
    show _ = (plc C d ys ++ [pl C (dd C d ys) y]).dropLast
    rw [List.dropLast_concat]
theorem put_go {C : Int} (hC1 : 1 ≤ C) (hC : C ≤ 12) : ∀ (xs : List P2) (d : Dk) (acc : List P2) (i : Nat), Dok d i → (∀ x ∈ xs, SpOk C x) → i + xs.length ≤ 100 → acc.length + xs.length ≤ 1000 → forS (m_put_cells_L1 C) xs (acc, d) = some (acc ++ plc C d xs, dd C d xs)
  | [], d, acc, i, _, _, _, _ => by
    rw [show plc C d [] = [] from rfl, List.append_nil]
    rfl
  | x :: xs, d, acc, i, hd, hx, hi, ha => by
    rw [List.length_cons] at hi ha
    have h := hx x List.mem_cons_self
    obtain ⟨n, e, hf, hn⟩ := first_ok hC1 hC h (i := i) (by omega) hd
    have hm := at_max hC1 hC (i := i) (by omega)
    have hn0 := hf.nn
    have hl := cov_len hC h (n / C) (n % C)
    have hdl := hd.len
    rw [forS_cons (s' := (acc ++ [pl C d x], nd C d x)) ?_, put_go hC1 hC xs (nd C d x) _ (i + 1) ?_ (fun y hy => hx y (List.mem_cons_of_mem _ hy)) (by omega) (by rw [List.length_append, List.length_singleton]; omega), List.append_assoc]
    · rfl
    · unfold nd
      rw [fst_eq hf]
      exact dok_next hC1 hC h hd hn0 hn
    · unfold m_put_cells_L1
      simp only [bs]
      rw [e]
      simp only [bs]
      rw [divO_ok (by omega) (by omega), modO_ok (by omega)]
      simp only [bs]
      rw [cells_ok hC h _ _]
      simp only [bs]
      rw [add_go1 _ _ (by omega)]
      simp only [bs]
      rw [appO_ok (by omega)]
      unfold pl nd
      rw [fst_eq hf]
      rfl
theorem dok0 : Dok (Dc.mk []) 0 := ⟨(fun x h => by cases h), Nat.le_refl _⟩
theorem put_ok {C : Int} (hC1 : 1 ≤ C) (hC : C ≤ 12) {xs : List P2} (hx : ∀ x ∈ xs, SpOk C x) (hl : xs.length ≤ 100) : m_put_cells C xs = some (plc C (Dc.mk []) xs) := by
  unfold m_put_cells
  simp only [bs]
  rw [put_go hC1 hC xs (Dc.mk []) [] 0 dok0 hx (by omega) (by simp; omega)]
  rfl
/-! the law's own cells -/
theorem someD {l : List (P2 × Bool)} {x : P2} : (getD l x).isSome = true ↔ ∃ t ∈ l, t.1 = x := by
  induction l with
  | nil => simp [getD]
  | cons t l ih =>
    by_cases e : t.1 = x
    · rw [getD_pos e]
      exact ⟨fun _ => ⟨t, List.mem_cons_self, e⟩, fun _ => rfl⟩
    · rw [getD_neg e, ih]
      constructor
      · rintro ⟨u, h1, h2⟩
        exact ⟨u, List.mem_cons_of_mem _ h1, h2⟩
      · rintro ⟨u, h1, h2⟩
        rcases List.mem_cons.mp h1 with rfl | h1
        · exact absurd h2 e
        · exact ⟨u, h1, h2⟩
theorem some_put {l : List (P2 × Bool)} {k x : P2} {y : Bool} : (getD (putD l k y) x).isSome = true ↔ x = k ∨ (getD l x).isSome = true := by
  rw [getD_put]
  by_cases e : x = k
  · rw [if_pos e]
    exact ⟨fun _ => .inl e, fun _ => rfl⟩
  · rw [if_neg e]
    exact ⟨.inr, fun h => h.resolve_left e⟩
theorem some_merge : ∀ {more l : List (P2 × Bool)} {x : P2}, (getD (mergeD l more) x).isSome = true ↔ (∃ t ∈ more, t.1 = x) ∨ (getD l x).isSome = true
  | [], l, x => by
    show (getD l x).isSome = true ↔ _
    exact ⟨.inr, fun h => h.resolve_left fun ⟨t, h, _⟩ => nomatch h⟩
  | t :: more, l, x => by
    show (getD (mergeD (putD l t.1 t.2) more) x).isSome = true ↔ _
    rw [some_merge, some_put]
    constructor
    · rintro (⟨u, h1, h2⟩ | h | h)
      · exact .inl ⟨u, List.mem_cons_of_mem _ h1, h2⟩
      · exact .inl ⟨t, List.mem_cons_self, h.symm⟩
      · exact .inr h
    · rintro (⟨u, h1, h2⟩ | h)
      · rcases List.mem_cons.mp h1 with rfl | h1
        · exact .inr (.inl h2.symm)
        · exact .inl ⟨u, h1, h2⟩
      · exact .inr (.inr h)
theorem has_add : ∀ (xs : List P2) (d : Dk) (y : P2), has (add d xs) y = true ↔ y ∈ xs ∨ has d y = true
  | [], d, y => by
    show has d y = true ↔ _
    exact ⟨.inr, fun h => h.resolve_left fun h => nomatch h⟩
  | x :: xs, d, y => by
    show has (add ⟨putD d.l x true⟩ xs) y = true ↔ _
    rw [has_add xs]
    unfold has
    rw [show (Dc.mk (putD d.l x true)).l = putD d.l x true from rfl, some_put, List.mem_cons]
    constructor
    · rintro (h | h | h)
      · exact .inl (.inr h)
      · exact .inl (.inl h)
      · exact .inr h
    · rintro ((h | h) | h)
      · exact .inr (.inl h)
      · exact .inl h
      · exact .inr (.inr h)
theorem len_merge : ∀ (more l : List (P2 × Bool)), (mergeD l more).length ≤ l.length + more.length
  | [], l => Nat.le_refl _
  | t :: more, l => by
    have h1 := len_merge more (putD l t.1 t.2)
    have h2 := len_put l t.1 t.2
    show (mergeD (putD l t.1 t.2) more).length ≤ _
    rw [List.length_cons]
    omega
def KD (l : List (P2 × Bool)) : Prop := l.Pairwise fun a b => a.1 ≠ b.1
theorem kd_put {l : List (P2 × Bool)} (h : KD l) (k : P2) (y : Bool) : KD (putD l k y) := by
  unfold putD KD
  split
  · rw [List.pairwise_map]
    refine List.Pairwise.imp (fun {a b} hab => ?_) h
    have e : ∀ t : P2 × Bool, (if t.1 = k then (t.1, y) else t).1 = t.1 := fun t => by split <;> rfl
    rw [e, e]
    exact hab
  · next hn =>
    rw [List.pairwise_append]
    refine ⟨h, List.pairwise_singleton _ _, fun a ha b hb => ?_⟩
    rw [List.mem_singleton] at hb
    subst hb
    exact fun z => hn (someD.mpr ⟨a, ha, z⟩)
theorem kd_merge : ∀ (more l : List (P2 × Bool)), KD l → KD (mergeD l more)
  | [], _, h => h
  | t :: more, l, h => kd_merge more _ (kd_put h t.1 t.2)
def grid : List P2 := (List.range 6).flatMap fun r => (List.range 12).map fun c => (((r : Nat) : Int), ((c : Nat) : Int), ())
theorem grid_hash : (grid.map hash2).Nodup := by decide +kernel
theorem mem_grid {x y : Int} (h1 : 0 ≤ x) (h2 : x < 6) (h3 : 0 ≤ y) (h4 : y < 12) : (x, y, ()) ∈ grid := by
  unfold grid
  rw [List.mem_flatMap]
  exact ⟨x.toNat, List.mem_range.mpr (by omega), List.mem_map.mpr ⟨y.toNat, List.mem_range.mpr (by omega), by rw [Int.toNat_of_nonneg h1, Int.toNat_of_nonneg h3]⟩⟩
theorem hash_inj {a b : P2} (ha : a ∈ grid) (hb : b ∈ grid) (h : hash2 a = hash2 b) : a = b := by
  have hn := grid_hash
  rw [List.Nodup, List.pairwise_map] at hn
  obtain ⟨i, hi, rfl⟩ := List.getElem_of_mem ha
  obtain ⟨j, hj, rfl⟩ := List.getElem_of_mem hb
  rw [List.pairwise_iff_getElem] at hn
  rcases Nat.lt_trichotomy i j with k | k | k
  · exact absurd h (hn i j hi hj k)
  · subst k; rfl
  · exact absurd h.symm (hn j i hj hi k)
theorem prs_mem {xs : List P2} {x : P2} : (∃ t ∈ prs (xs.map fun c => ((c, true, ()) : P2 × Bool × Unit)), t.1 = x) ↔ x ∈ xs := by
  unfold prs
  rw [List.map_map]
  constructor
  · rintro ⟨t, ht, rfl⟩
    obtain ⟨c, hc, rfl⟩ := List.mem_map.mp ht
    exact hc
  · intro h
    exact ⟨(x, true), List.mem_map.mpr ⟨x, h, rfl⟩, rfl⟩
/-- the two tables tell the same -/
structure Same (d u : Dk) (i : Nat) : Prop where
  has : ∀ x, has u x = has d x
  nil : u.l = [] → i = 0
  len : u.l.length ≤ 72 * i
theorem upd_same {C : Int} (hC1 : 1 ≤ C) (hC : C ≤ 12) {sp : P2} (h : SpOk C sp) {d u : Dk} {i : Nat} (hi : i ≤ 100) (hs : Same d u i) {x : Int} (hx0 : 0 ≤ x) (hx : x ≤ 6 * (i : Int) * C) :
    ∃ u', updO u ((cov (x / C) (x % C) sp).map fun c => ((c, true, ()) : P2 × Bool × Unit)) = some u' ∧ Same (add d (cov (x / C) (x % C) sp)) u' (i + 1) := by
  have hl := cov_len hC h (x / C) (x % C)
  have hul := hs.len
  have l1 := len_merge (prs ((cov (x / C) (x % C) sp).map fun c => ((c, true, ()) : P2 × Bool × Unit))) []
  have l2 : (prs ((cov (x / C) (x % C) sp).map fun c => ((c, true, ()) : P2 × Bool × Unit))).length = (cov (x / C) (x % C) sp).length := by
    unfold prs
    rw [List.length_map, List.length_map]
  rw [l2, List.length_nil] at l1
  have hh : ∀ y, has ⟨mergeD u.l (mergeD [] (prs ((cov (x / C) (x % C) sp).map fun c => ((c, true, ()) : P2 × Bool × Unit))))⟩ y = has (add d (cov (x / C) (x % C) sp)) y := by
    intro y
    rw [Bool.eq_iff_iff, has_add, ← hs.has y]
    unfold has
    rw [show (Dc.mk (mergeD u.l (mergeD [] (prs ((cov (x / C) (x % C) sp).map fun c => ((c, true, ()) : P2 × Bool × Unit)))))).l = mergeD u.l (mergeD [] (prs ((cov (x / C) (x % C) sp).map fun c => ((c, true, ()) : P2 × Bool × Unit)))) from rfl]
    rw [some_merge, ← someD, some_merge, prs_mem]
    constructor
    · rintro ((h | h) | h)
      · exact .inl h
      · exact absurd h (by simp [getD])
      · exact .inr h
    · rintro (h | h)
      · exact .inl (.inl h)
      · exact .inr h
  have h1 := h.a1
  have h2 := h.a2
  have h3 := h.b1
  have h4 := h.b2
  have hnd : u.l ≠ [] ∨ ((mergeD [] (prs ((cov (x / C) (x % C) sp).map fun c => ((c, true, ()) : P2 × Bool × Unit)))).map fun t => hash2 t.1).Nodup := by
    by_cases e : u.l = []
    · refine .inr ?_
      have i0 := hs.nil e
      subst i0
      have x0 : x = 0 := by
        have : 6 * ((0 : Nat) : Int) * C = 0 := by simp
        omega
      subst x0
      rw [List.Nodup, List.pairwise_map]
      refine List.Pairwise.imp_of_mem (fun {a b} ha hb hab => ?_) (kd_merge _ [] List.Pairwise.nil)
      have mg : ∀ t ∈ mergeD [] (prs ((cov (0 / C) (0 % C) sp).map fun c => ((c, true, ()) : P2 × Bool × Unit))), t.1 ∈ grid := by
        intro t ht
        have := (some_merge (more := prs ((cov (0 / C) (0 % C) sp).map fun c => ((c, true, ()) : P2 × Bool × Unit))) (l := []) (x := t.1)).mp (someD.mpr ⟨t, ht, rfl⟩)
        rcases this with h5 | h5
        · have h6 := prs_mem.mp h5
          generalize t.1 = k at h6
          obtain ⟨p, q, un⟩ := k
          have h7 := (mem_cov h).mp h6
          rw [Int.zero_ediv, Int.zero_emod] at h7
          exact mem_grid (by omega) (by omega) (by omega) (by omega)
        · exact absurd h5 (by simp [getD])
      exact fun z => hab (hash_inj (mg a ha) (mg b hb) z)
    · exact .inl e
  refine ⟨_, if_pos ⟨by rw [List.length_map]; omega, hnd⟩, hh, fun z => ?_, ?_⟩
  · exfalso
    have hm : (x / C, x % C, ()) ∈ cov (x / C) (x % C) sp := (mem_cov h).mpr ⟨⟨Int.le_refl _, by omega⟩, Int.le_refl _, by omega⟩
    have := (has_add _ d (x / C, x % C, ())).mpr (.inl hm)
    rw [← hh] at this
    unfold has at this
    rw [z] at this
    cases this
  · have l3 := len_merge (mergeD [] (prs ((cov (x / C) (x % C) sp).map fun c => ((c, true, ()) : P2 × Bool × Unit)))) u.l
    show (mergeD u.l _).length ≤ _
    omega
theorem bar_same {C : Int} {d u : Dk} {i : Nat} (hs : Same d u i) (sp : P2) (x : Int) : bar C u sp x = bar C d sp x := by
  unfold bar
  rw [show has u = has d from funext hs.has]
theorem cov_ne {C : Int} {sp : P2} (h : SpOk C sp) (r c : Int) : cov r c sp ≠ [] := fun z => by
  have h1 := h.a1
  have h3 := h.b1
  have : (r, c, ()) ∈ cov r c sp := (mem_cov h).mpr ⟨⟨Int.le_refl _, by omega⟩, Int.le_refl _, by omega⟩
  rw [z] at this
  cases this
theorem body_bar {C : Int} (hC1 : 1 ≤ C) (hC : C ≤ 12) {sp : P2} (h : SpOk C sp) {u : Dk} {x : Int} (h0 : 0 ≤ x) (hx : x < 100000) (acc : List P2) (ha : acc.length < 1000) :
    (bar C u sp x = true → m__law_cells_L2 C sp.1 sp.2.1 (x, acc, u) = some (x + 1, acc, u)) ∧
    (bar C u sp x = false → m__law_cells_L2 C sp.1 sp.2.1 (x, acc, u) = (updO u ((cov (x / C) (x % C) sp).map fun c => ((c, true, ()) : P2 × Bool × Unit))).bind fun u' => some (-1, acc ++ [(x / C, x % C, ())], u')) := by
  have ar := area hC h
  have h1 := h.a1
  have h2 := h.a2
  have hl : (irange 0 (sp.1 * sp.2.1)).length < 1000000 := by
    rw [irange_len]
    omega
  have ecov : ((mulO sp.1 sp.2.1).bind fun m_146 =>
  (rngO 0 m_146).bind fun rg_147 =>
  (lcM (fun _ => some true) (fun k_148 => ((divO k_148 sp.1).bind fun q_150 => (modO k_148 sp.1).bind fun r_151 => some ((x / C + q_150), (x % C + r_151), ()))) rg_147).bind fun zs_149 =>
  (some zs_149).bind fun cells_here_152 =>
  some cells_here_152) = some (cov (x / C) (x % C) sp) := by
    have e := cells_ok hC h (x / C) (x % C)
    unfold m_cells_at at e
    simp only [bs] at e ⊢
    exact e
  unfold m__law_cells_L2
  simp only [bs]
  rw [divO_ok (by omega) (by omega), modO_ok (by omega)]
  simp only [bs] at ecov ⊢
  rw [ecov]
  unfold bar
  by_cases hc : x % C + sp.1 ≤ C
  · rw [decide_eq_true hc, decide_eq_false (show ¬ C < x % C + sp.1 by omega)]
    simp only [if_true, bs, Bool.false_or]
    rw [decide_eq_false (cov_ne h _ _)]
    simp only [Bool.not_false, if_true]
    rw [lcM_all (f := fun c => some (getD u.l c).isSome) (has u) (by have := cov_len hC h (x / C) (x % C); omega) fun _ _ => rfl]
    simp only [bs, List.any_map]
    rw [show (id ∘ has u) = has u from rfl]
    constructor
    · intro hb
      rw [hb]
      simp only [Bool.not_true, Bool.false_eq_true, if_false, bs]
    · intro hb
      rw [hb]
      simp only [Bool.not_false, if_true]
      rw [appO_ok (by omega)]
      simp only [bs]
      rw [lcM_all (f := fun c => some ((c, true, ()) : P2 × Bool × Unit)) (fun c => ((c, true, ()) : P2 × Bool × Unit)) (by have := cov_len hC h (x / C) (x % C); omega) fun _ _ => rfl]
      simp only [bs]
      cases updO u ((cov (x / C) (x % C) sp).map fun c => ((c, true, ()) : P2 × Bool × Unit)) <;> rfl
  · rw [decide_eq_false hc, decide_eq_true (show C < x % C + sp.1 by omega)]
    simp only [Bool.false_eq_true, if_false, bs, Bool.true_or]
    simp only [decide_true, Bool.not_true, Bool.false_eq_true, if_false, bs]
    exact ⟨fun _ => trivial, fun z => nomatch z⟩
theorem cells_go {C : Int} (hC1 : 1 ≤ C) (hC : C ≤ 12) : ∀ (xs : List P2) (d u : Dk) (acc : List P2) (i : Nat), Dok d i → Same d u i → (∀ x ∈ xs, SpOk C x) → i + xs.length ≤ 100 → acc.length + xs.length ≤ 900 → ∃ u', forS (m__law_cells_L1 C) xs (acc, u) = some (acc ++ plc C d xs, u')
  | [], d, u, acc, i, _, _, _, _, _ => ⟨u, by rw [show plc C d [] = [] from rfl, List.append_nil]; rfl⟩
  | x :: xs, d, u, acc, i, hd, hs, hx, hi, ha => by
    rw [List.length_cons] at hi ha
    have h := hx x List.mem_cons_self
    obtain ⟨n, _, hf, hn⟩ := first_ok hC1 hC h (i := i) (by omega) hd
    have hm := at_max hC1 hC (i := i) (by omega)
    have hn0 := hf.nn
    obtain ⟨u1, eu, hs1⟩ := upd_same hC1 hC h (by omega) hs hn0 hn
    have hd1 := dok_next hC1 hC h hd hn0 hn
    obtain ⟨u', e⟩ := cells_go hC1 hC xs (nd C d x) u1 (acc ++ [pl C d x]) (i + 1) (by unfold nd; rw [fst_eq hf]; exact hd1) (by unfold nd; rw [fst_eq hf]; exact hs1) (fun y hy => hx y (List.mem_cons_of_mem _ hy)) (by omega) (by rw [List.length_append, List.length_singleton]; omega)
    refine ⟨u', ?_⟩
    rw [forS_cons (s' := (acc ++ [pl C d x], u1)) ?_, e, List.append_assoc]
    · rfl
    · unfold m__law_cells_L1
      obtain ⟨a, b, un⟩ := x
      simp only [bs]
      obtain ⟨s', e2, hI, hc⟩ := whileF_inv (c := m__law_cells_L2_c C a b) (f := m__law_cells_L2 C a b) (fun s => (0 ≤ s.1 ∧ s.1 ≤ n ∧ s.2.1 = acc ∧ s.2.2 = u) ∨ (s.1 = -1 ∧ s.2.1 = acc ++ [(n / C, n % C, ())] ∧ s.2.2 = u1)) (fun s => if s.1 < 0 then 0 else (n - s.1).toNat + 1) (fun s hI => by
        obtain ⟨at_, f1, us⟩ := s
        refine ⟨_, rfl, fun hb => ?_⟩
        have hb : 0 ≤ at_ := of_decide_eq_true hb
        rcases hI with ⟨i1, i2, i3, i4⟩ | ⟨i1, _, _⟩
        · have i2 : at_ ≤ n := i2
          have i3 : f1 = acc := i3
          have i4 : us = u := i4
          subst i3
          subst i4
          obtain ⟨b1, b2⟩ := body_bar hC1 hC h (u := us) hb (show at_ < 100000 by omega) f1 (by omega)
          have b1 : bar C us (a, b, un) at_ = true → m__law_cells_L2 C a b (at_, f1, us) = some (at_ + 1, f1, us) := b1
          by_cases e3 : at_ = n
          · have hfr := hf.free
            rw [← bar_same hs] at hfr
            subst e3
            refine ⟨_, (b2 hfr).trans (by rw [eu]; rfl), .inr ⟨rfl, rfl, rfl⟩, ?_⟩
            show (if (-1 : Int) < 0 then 0 else _) < (if at_ < 0 then 0 else (at_ - at_).toNat + 1)
            rw [if_pos (by omega), if_neg (by omega)]
            omega
          · have hlo := hf.low at_ hb (by omega)
            rw [← bar_same hs] at hlo
            refine ⟨_, b1 hlo, .inl ⟨by show 0 ≤ at_ + 1; omega, by show at_ + 1 ≤ n; omega, rfl, rfl⟩, ?_⟩
            show (if at_ + 1 < 0 then 0 else (n - (at_ + 1)).toNat + 1) < (if at_ < 0 then 0 else (n - at_).toNat + 1)
            rw [if_neg (by omega), if_neg (by omega)]
            omega
        · have i1 : at_ = -1 := i1
          omega) (s := (0, acc, u)) (.inl ⟨Int.le_refl _, hn0, rfl, rfl⟩)
      rw [e2]
      obtain ⟨at_, f1, us⟩ := s'
      have hc : decide (0 ≤ at_) = false := Option.some.inj hc
      have hc := of_decide_eq_false hc
      rcases hI with ⟨i1, _, _, _⟩ | ⟨_, i3, i4⟩
      · have i1 : 0 ≤ at_ := i1
        omega
      · have i3 : f1 = acc ++ [(n / C, n % C, ())] := i3
        have i4 : us = u1 := i4
        subst i3
        subst i4
        unfold pl
        rw [fst_eq hf]
        rfl
theorem cells_law {C : Int} (hC1 : 1 ≤ C) (hC : C ≤ 12) {xs : List P2} (hx : ∀ x ∈ xs, SpOk C x) (hl : xs.length ≤ 100) : m__law_cells C xs = some (plc C (Dc.mk []) xs) := by
  unfold m__law_cells
  simp only [bs]
  obtain ⟨u', e⟩ := cells_go hC1 hC xs (Dc.mk []) (Dc.mk []) [] 0 dok0 ⟨fun _ => rfl, fun _ => rfl, Nat.le_refl _⟩ hx (by omega) (by simp; omega)
  rw [e]
  rfl
theorem law_main (ns : List Int) (hl : ns.length ≤ 63) : m_law (Fz.mk ns) = some true := by
  unfold m_law
  obtain ⟨st, e, g0⟩ := stream_ok (ns := ns) hl
  simp only [e, bs]
  obtain ⟨r1, st1, e1, a1, b1, g1⟩ := take_ok g0 (many := 12) (by omega) (by omega)
  simp only [e1, bs]
  generalize hC : 1 + r1 = C
  have hC1 : 1 ≤ C := by omega
  have hC2 : C ≤ 12 := by omega
  obtain ⟨r2, st2, e2, a2, b2, g2⟩ := take_ok g1 (many := 2) (by omega) (by omega)
  simp only [e2, bs]
  rw [pick2 _ _ a2 b2]
  simp only [bs]
  generalize hw : (if r2 = 0 then ((C, 6, 13, ()) : Int × Int × Int × Unit) else (min C 2, 3, 41, ())) = wh
  have hwh : 1 ≤ wh.1 ∧ wh.1 ≤ C ∧ 1 ≤ wh.2.1 ∧ wh.2.1 ≤ 6 ∧ 1 ≤ wh.2.2.1 ∧ wh.2.2.1 ≤ 41 := by
    rw [← hw]
    split
    · refine ⟨hC1, Int.le_refl _, ?_, ?_, ?_, ?_⟩ <;> simp
    · refine ⟨by show 1 ≤ min C 2; omega, by show min C 2 ≤ C; omega, ?_, ?_, ?_, ?_⟩ <;> simp
  obtain ⟨w, hh, mo, un⟩ := wh
  obtain ⟨w1, w2, w3, w4, w5, w6⟩ := hwh
  have w1 : 1 ≤ w := w1
  have w2 : w ≤ C := w2
  have w3 : 1 ≤ hh := w3
  have w4 : hh ≤ 6 := w4
  have w5 : 1 ≤ mo := w5
  have w6 : mo ≤ 41 := w6
  simp only [bs]
  obtain ⟨r4, st4, e4, a4, b4, g4⟩ := take_ok g2 (many := mo) (by omega) (by omega)
  simp only [e4, bs]
  rw [rngO_ok (by omega) (by omega) (by omega) (by omega)]
  simp only [bs]
  have sp2 : ∀ st, Good st → ∃ (p : P2) (st' : List Int), ((m__law_take st w).bind fun (r_199, stream_here_200) => (m__law_take stream_here_200 hh).bind fun (r_201, stream_here_202) => some ((((1 : Int) + r_199), ((1 : Int) + r_201), ()), stream_here_202)) = some (p, st') ∧ Good st' ∧ SpOk C p := by
    intro st g
    obtain ⟨x, st', e, a, b, g'⟩ := take_ok g (many := w) (by omega) (by omega)
    obtain ⟨y, st'', e', a', b', g''⟩ := take_ok g' (many := hh) (by omega) (by omega)
    simp only [e, e', bs]
    exact ⟨_, _, rfl, g'', by show 1 ≤ 1 + x; omega, by show 1 + x ≤ C; omega, by show 1 ≤ 1 + y; omega, by show 1 + y ≤ 6; omega⟩
  obtain ⟨zs, st5, e5, g5, hz, hzz⟩ := lcS_inv (xs := irange 0 r4) (f := fun k_195 st_197 => ((m__law_take st_197 w).bind fun (r_199, stream_here_200) => (m__law_take stream_here_200 hh).bind fun (r_201, stream_here_202) => some ((((1 : Int) + r_199), ((1 : Int) + r_201), ()), stream_here_202))) Good (SpOk C) (fun x s hs => sp2 s hs) (by rw [irange_len]; omega) g4
  rw [e5]
  simp only [bs]
  rw [irange_len] at hz
  rw [put_ok hC1 hC2 hzz (by omega), cells_law hC1 hC2 hzz (by omega)]
  simp only [bs, Bool.not_true, Bool.false_eq_true, if_false, decide_true, Bool.or_self]
  rw [forC_all fun x _ => by
    unfold m_law_L1
    rfl]
  simp only [bs]
  rw [if_pos (by rw [plc_len]; omega)]
  simp only [bs, if_true]
  rw [put_ok hC1 hC2 (xs := []) (fun _ h => nomatch h) (by simp)]
  rfl
end Wk29
set_option synthInstance.maxHeartbeats 400000
set_option synthInstance.maxSize 2000
open PySem PySem.W PyProof.Rows in
set_option maxRecDepth 100000 in
set_option maxHeartbeats 0 in
theorem PySem.Challenge.cw_boxgalley_k29_cells_put_holds : PySem.Challenge.rw_boxgalley_k29_cells_put.Holds := by
  w_on; o_law; k_head; (case hw => w_witness2)
  k_fill
  refine L2.walk_of (l := PySem.Challenge.rw_boxgalley_k29_cells_put) (n := 63) (k := 3) (x := "_law_script") (CX := fun _ => L2.CX0) (sp := fun w => Wk29.spLaw _) rfl (by decide) rfl ⟨rfl, by decide, by decide⟩ (fun w h Y => PySem.W.kIn_of Y) ?F (fun _ _ a ns hl _ hS => ⟨a, ns, rfl, hS, hl, fun _ => rfl⟩) (fun _ _ _ _ _ h => h)
  case F =>
    intro w mg fa h KX G hmg
    refine' Wk29.all_mk Wk29.law_main KX G hmg ?a_cells_at ?l_cells_at ?c_cells_at ?k_cells_at ?a_is_open ?l_is_open ?c_is_open ?k_is_open ?a_put_cells ?l_put_cells ?c_put_cells ?k_put_cells ?a__law_stream ?l__law_stream ?c__law_stream ?k__law_stream ?a__law_take ?l__law_take ?c__law_take ?k__law_take ?a__law_cells ?l__law_cells ?c__law_cells ?k__law_cells ?a_law ?l_law ?c_law ?k_law ?z_abs ?z_any ?z_bool ?z_dict ?z_isinstance ?z_len ?z_list ?z_min ?z_range ?z_tuple
    (case a_cells_at => k_is)
    (case l_cells_at => k_is)
    (case c_cells_at => k_is)
    (case k_cells_at => k_is)
    (case a_is_open => k_is)
    (case l_is_open => k_is)
    (case c_is_open => k_is)
    (case k_is_open => k_is)
    (case a_put_cells => k_is)
    (case l_put_cells => k_is)
    (case c_put_cells => k_is)
    (case k_put_cells => k_is)
    (case a__law_stream => k_is)
    (case l__law_stream => k_is)
    (case c__law_stream => k_is)
    (case k__law_stream => k_is)
    (case a__law_take => k_is)
    (case l__law_take => k_is)
    (case c__law_take => k_is)
    (case k__law_take => k_is)
    (case a__law_cells => k_is)
    (case l__law_cells => k_is)
    (case c__law_cells => k_is)
    (case k__law_cells => k_is)
    (case a_law => k_is)
    (case l_law => k_is)
    (case c_law => k_is)
    (case k_law => k_is)
    (case z_abs => k_is)
    (case z_any => k_is)
    (case z_bool => k_is)
    (case z_dict => k_is)
    (case z_isinstance => k_is)
    (case z_len => k_is)
    (case z_list => k_is)
    (case z_min => k_is)
    (case z_range => k_is)
    (case z_tuple => k_is)
