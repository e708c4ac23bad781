import PyProof.Rows.All
import Wide.All
import OpenK.AllK
import Wide.FinOn
import HandS.ForMost
import HandS.Evl
import HandS.Wide
import HandS.IsInst
import HandS.SortInts
import HandS.TupAny
import HandS.Dict
import KE.SortData
import HandS.Style
import HandS.More
import HandS.Sort
import HandS.StrMore
import PyProof.SumAny
import KE.DataCmp
import KE.DataMinMax
import PyProof.StrBlock2
import KE.GoesEnum
import HandS.Text
import HandS.RaiseMore
import PySem.Challenge.RW_boxgalley_k08_trees_as_texts
import KE.KIntText
import PyProof.FitsInt
import KE.KxAffix
set_option Elab.async false
set_option linter.all false
set_option maxRecDepth 100000
set_option maxHeartbeats 2000000
/-! Wk: typed mirrors over the hand layer: what a value stands for, a state by slots and owned objects, one rule a construct. -/
namespace Wk
open PySem PySem.Spec L2 Evl

abbrev Fg := PySem.W.Frag
def isDk : HO → Prop
  | .dK _ => True
  | .dT _ => True
  | _ => False
/-- all that stood stands; a dict may be locked, or set free again -/
def Sw (H H' : Hp) : Prop := ∀ q u, H q = some u → H' q = some u ∨ ∃ o w, isDk w ∧ ((u = w ∧ H' q = some (.frz o w)) ∨ (u = .frz o w ∧ H' q = some w))
theorem Sw.of {H H' : Hp} (e : Ex H H') : Sw H H' := fun q u h => .inl (e q u h)
theorem Sw.keep {H H' : Hp} (e : Sw H H') {q : Addr} {u : HO} (h : H q = some u) (n1 : ¬ isDk u) (n2 : ∀ o w, u ≠ .frz o w) : H' q = some u := by
  rcases e q u h with h | ⟨o, w, hw, ⟨rfl, _⟩ | ⟨h, _⟩⟩
  · exact h
  · exact absurd hw n1
  · exact absurd h (n2 o w)
theorem Sw.lst {H H' : Hp} (e : Sw H H') {q : Addr} {vs : List V} (h : H q = some (.lst vs)) : H' q = some (.lst vs) := e.keep h (fun z => z) (fun _ _ z => nomatch z)
theorem Sw.tup {H H' : Hp} (e : Sw H H') {q : Addr} {vs : List V} (h : H q = some (.tup vs)) : H' q = some (.tup vs) := e.keep h (fun z => z) (fun _ _ z => nomatch z)
theorem Sw.rdl {H H' : Hp} (e : Sw H H') {q : Addr} {u : HO} (h : Rd H q u) (n1 : ¬ isDk u) (n2 : ∀ o w, u ≠ .frz o w) : Rd H' q u := by
  rcases h with h | ⟨o, h⟩
  · exact .inl (e.keep h n1 n2)
  · rcases e q _ h with h | ⟨o2, w, hw, ⟨z, _⟩ | ⟨h, h2⟩⟩
    · exact .inr ⟨o, h⟩
    · subst z
      exact False.elim hw
    · cases h
      exact absurd hw n1
theorem Sw.rd {H H' : Hp} (e : Sw H H') {q : Addr} {u : HO} (h : Rd H q u) (n1 : isDk u) : Rd H' q u := by
  have n2 : ∀ o w, u ≠ .frz o w := fun o w z => by
    subst z
    exact n1
  rcases h with h | ⟨o, h⟩
  · rcases e q _ h with h | ⟨o2, w, hw, ⟨rfl, h⟩ | ⟨h, _⟩⟩
    · exact .inl h
    · exact .inr ⟨o2, h⟩
    · exact absurd h (n2 _ _)
  · rcases e q _ h with h | ⟨o2, w, hw, ⟨z, _⟩ | ⟨h, h2⟩⟩
    · exact .inr ⟨o, h⟩
    · subst z
      exact False.elim hw
    · cases h
      exact .inl h2
theorem Sw.l {K : Fg} {H H' : Hp} (e : Sw H H') {a : Addr} {xs : List V} (h : SqL K H a xs) : SqL K H' a xs := by
  rcases h with h | h
  · exact .inl (e.rdl h (fun z => z) (fun _ _ z => nomatch z))
  · exact .inr h
theorem Sw.t {K : Fg} {H H' : Hp} (e : Sw H H') {a : Addr} {xs : List V} (h : SqT K H a xs) : SqT K H' a xs := by
  rcases h with h | h
  · exact .inl (e.rdl h (fun z => z) (fun _ _ z => nomatch z))
  · exact .inr h
/-- v stands for a, by what is known in H -/
class Rp (α : Type) where
  rep : Fg → Hp → V → α → Prop
  swap : ∀ {K : Fg} {H H' : Hp} {v : V} {a : α}, Sw H H' → rep K H v a → rep K H' v a
theorem Rp.mono {α : Type} [i : Rp α] {K : Fg} {H H' : Hp} {v : V} {a : α} (e : Ex H H') (h : Rp.rep K H v a) : Rp.rep K H' v a := i.swap (.of e) h
/-- the places of a tuple | the arguments of a call -/
class Tp (τ : Type) where
  n : Nat
  rept : Fg → Hp → List V → τ → Prop
  len : ∀ {K : Fg} {H : Hp} {vs : List V} {t : τ}, rept K H vs t → vs.length = n
  swap : ∀ {K : Fg} {H H' : Hp} {vs : List V} {t : τ}, Sw H H' → rept K H vs t → rept K H' vs t
theorem Tp.mono {τ : Type} [i : Tp τ] {K : Fg} {H H' : Hp} {vs : List V} {t : τ} (e : Ex H H') (h : Tp.rept K H vs t) : Tp.rept K H' vs t := i.swap (.of e) h
abbrev rep {α : Type} [Rp α] (K : Fg) (H : Hp) (v : V) (a : α) : Prop := Rp.rep K H v a
abbrev rept {τ : Type} [Tp τ] (K : Fg) (H : Hp) (vs : List V) (t : τ) : Prop := Tp.rept K H vs t
/-- what needs no heap -/
class Fl (α : Type) [Rp α] where
  toV : α → V
  iff : ∀ {K : Fg} {H : Hp} {v : V} {a : α}, Rp.rep K H v a ↔ v = toV a

inductive Nn where | nn
  deriving DecidableEq
instance rpInt : Rp Int := { rep := fun _ _ v a => v = .int a, swap := fun _ h => h }
instance : Fl Int := { toV := V.int, iff := Iff.rfl }
instance rpBool : Rp Bool := { rep := fun _ _ v a => v = .bl a, swap := fun _ h => h }
instance : Fl Bool := { toV := V.bl, iff := Iff.rfl }
instance rpStr : Rp Str := { rep := fun _ _ v a => v = .str a, swap := fun _ h => h }
instance : Fl Str := { toV := V.str, iff := Iff.rfl }
instance rpNn : Rp Nn := { rep := fun _ _ v _ => v = .non, swap := fun _ h => h }
instance : Fl Nn := { toV := fun _ => V.non, iff := Iff.rfl }
/-- None, or something -/
instance {α : Type} [Rp α] : Rp (Option α) where
  rep K H v a := match a with | none => v = .non | some x => v ≠ .non ∧ rep K H v x
  swap {K H H' v a} e h := match a, h with
    | none, h => h
    | some _, h => ⟨h.1, Rp.swap e h.2⟩

theorem paired_mono {α : Type} [Rp α] {K : Fg} {H H' : Hp} (e : Ex H H') {vs : List V} {xs : List α} (h : Paired (rep K H) vs xs) : Paired (rep K H') vs xs :=
  Paired.mapP h fun _ _ q => Rp.mono e q
theorem paired_swap {α : Type} [Rp α] {K : Fg} {H H' : Hp} (e : Sw H H') {vs : List V} {xs : List α} (h : Paired (rep K H) vs xs) : Paired (rep K H') vs xs :=
  Paired.mapP h fun _ _ q => Rp.swap e q
/-- a list that stands exactly so -/
instance {α : Type} [Rp α] : Rp (List α) where
  rep K H v xs := ∃ p vs, v = .ref p ∧ H p = some (.lst vs) ∧ Paired (rep K H) vs xs
  swap e h := by
    obtain ⟨p, vs, h1, h2, h3⟩ := h
    exact ⟨p, vs, h1, e.lst h2, paired_swap e h3⟩
/-- a list that is read (the script, a list of the top) -/
structure Fz (α : Type) where
  l : List α
instance {α : Type} [Rp α] : Rp (Fz α) where
  rep K H v xs := ∃ p vs, v = .ref p ∧ SqL K H p vs ∧ Paired (rep K H) vs xs.l
  swap e h := by
    obtain ⟨p, vs, h1, h2, h3⟩ := h
    exact ⟨p, vs, h1, e.l h2, paired_swap e h3⟩
/-- a tuple of the top -/
structure Kt (α : Type) where
  l : List α
instance {α : Type} [Rp α] : Rp (Kt α) where
  rep K H v xs := ∃ p vs, v = .ref p ∧ SqT K H p vs ∧ Paired (rep K H) vs xs.l
  swap e h := by
    obtain ⟨p, vs, h1, h2, h3⟩ := h
    exact ⟨p, vs, h1, e.t h2, paired_swap e h3⟩
/-- a tuple of alike things, of any length -/
structure Tu (α : Type) where
  l : List α
  deriving DecidableEq
instance {α : Type} [Rp α] : Rp (Tu α) where
  rep K H v xs := ∃ p vs, v = .ref p ∧ H p = some (.tup vs) ∧ Paired (rep K H) vs xs.l
  swap e h := by
    obtain ⟨p, vs, h1, h2, h3⟩ := h
    exact ⟨p, vs, h1, e.tup h2, paired_swap e h3⟩
instance : Tp Unit where
  n := 0
  rept _ _ vs _ := vs = []
  len h := by rw [h]; rfl
  swap _ h := h
instance {α τ : Type} [Rp α] [Tp τ] : Tp (α × τ) where
  n := Tp.n τ + 1
  rept K H vs t := ∃ v r, vs = v :: r ∧ rep K H v t.1 ∧ rept K H r t.2
  len h := by
    obtain ⟨v, r, h1, h2, h3⟩ := h
    rw [h1, List.length_cons, Tp.len h3]
  swap e h := by
    obtain ⟨v, r, h1, h2, h3⟩ := h
    exact ⟨v, r, h1, Rp.swap e h2, Tp.swap e h3⟩
/-- a tuple: (a, (b, (c, ()))) -/
instance {α τ : Type} [Rp α] [Tp τ] : Rp (α × τ) where
  rep K H v t := ∃ p vs, v = .ref p ∧ H p = some (.tup vs) ∧ rept K H vs t
  swap e h := by
    obtain ⟨p, vs, h1, h2, h3⟩ := h
    exact ⟨p, vs, h1, e.tup h2, Tp.swap e h3⟩

/-! ### the state -/
inductive Sl : Type 1 where
  | any
  | val (α : Type) (i : Rp α) (x : α)
  | at (p : Addr)
def sv {α : Type} [i : Rp α] (x : α) : Sl := .val α i x
def Sl.ok (K : Fg) (Kn : Hp) : Sl → Option V → Prop
  | .any, _ => True
  | .val _ i x, o => ∃ v, o = some v ∧ i.rep K Kn v x
  | .at p, o => o = some (.ref p)
def SlsOk (K : Fg) (Kn : Hp) : List Sl → St → Prop
  | [], [] => True
  | s :: ss, o :: os => s.ok K Kn o ∧ SlsOk K Kn ss os
  | _, _ => False
theorem Sl.ok_mono {K : Fg} {H H' : Hp} (e : Ex H H') : ∀ {s : Sl} {o : Option V}, s.ok K H o → s.ok K H' o
  | .any, _, _ => trivial
  | .val _ i _, _, ⟨v, h1, h2⟩ => ⟨v, h1, i.swap (.of e) h2⟩
  | .at _, _, h => h
theorem SlsOk.mono {K : Fg} {H H' : Hp} (e : Ex H H') : ∀ {ss : List Sl} {σ : St}, SlsOk K H ss σ → SlsOk K H' ss σ
  | [], [], _ => trivial
  | _ :: _, _ :: _, h => ⟨Sl.ok_mono e h.1, SlsOk.mono e h.2⟩
theorem Sl.ok_swap {K : Fg} {H H' : Hp} (e : Sw H H') : ∀ {s : Sl} {o : Option V}, s.ok K H o → s.ok K H' o
  | .any, _, _ => trivial
  | .val _ i _, _, ⟨v, h1, h2⟩ => ⟨v, h1, i.swap e h2⟩
  | .at _, _, h => h
theorem SlsOk.swap {K : Fg} {H H' : Hp} (e : Sw H H') : ∀ {ss : List Sl} {σ : St}, SlsOk K H ss σ → SlsOk K H' ss σ
  | [], [], _ => trivial
  | _ :: _, _ :: _, h => ⟨Sl.ok_swap e h.1, SlsOk.swap e h.2⟩
theorem SlsOk.get {K : Fg} {H : Hp} : ∀ {ss : List Sl} {σ : St} {i : Nat} {s : Sl}, SlsOk K H ss σ → ss[i]? = some s → ∃ o, σ[i]? = some o ∧ s.ok K H o
  | _ :: _, o :: _, 0, _, h, e => by
    cases Option.some.inj e
    exact ⟨o, rfl, h.1⟩
  | _ :: ss, _ :: os, i + 1, s, h, e => SlsOk.get (ss := ss) (σ := os) (i := i) h.2 e
theorem SlsOk.set {K : Fg} {H : Hp} {s : Sl} {o : Option V} (hs : s.ok K H o) : ∀ {ss : List Sl} {σ : St} (i : Nat), SlsOk K H ss σ → SlsOk K H (ss.set i s) (σ.set i o)
  | [], [], _, _ => trivial
  | _ :: _, _ :: _, 0, h => ⟨hs, h.2⟩
  | _ :: _, _ :: _, i + 1, h => ⟨h.1, SlsOk.set hs i h.2⟩
/-- less is known -/
inductive SlLe : List Sl → List Sl → Prop
  | nil : SlLe [] []
  | keep {s : Sl} {a b : List Sl} : SlLe a b → SlLe (s :: a) (s :: b)
  | drop {s : Sl} {a b : List Sl} : SlLe a b → SlLe (s :: a) (.any :: b)
theorem SlLe.refl : ∀ (a : List Sl), SlLe a a
  | [] => .nil
  | _ :: r => .keep (SlLe.refl r)
theorem SlsOk.le {K : Fg} {H : Hp} : ∀ {a b : List Sl} {σ : St}, SlLe a b → SlsOk K H a σ → SlsOk K H b σ
  | _, _, [], .nil, _ => trivial
  | _, _, _ :: _, .keep l, h => ⟨h.1, SlsOk.le l h.2⟩
  | _, _, _ :: _, .drop l, h => ⟨trivial, SlsOk.le l h.2⟩

/-- what an object stands for, by what is known in H -/
class Ob (γ : Type) where
  ob : Fg → Hp → HO → γ → Prop
  swap : ∀ {K : Fg} {H H' : Hp} {o : HO} {x : γ}, Sw H H' → ob K H o x → ob K H' o x
theorem Ob.mono {γ : Type} [i : Ob γ] {K : Fg} {H H' : Hp} {o : HO} {x : γ} (e : Ex H H') (h : Ob.ob K H o x) : Ob.ob K H' o x := i.swap (.of e) h
/-- an object of one's own, that may change -/
inductive Ow : Type 1 where
  | lst (p : Addr) (α : Type) (i : Rp α) (xs : List α)
  | obj (p : Addr) (γ : Type) (i : Ob γ) (x : γ)
def oo {γ : Type} [i : Ob γ] (p : Addr) (x : γ) : Ow := .obj p γ i x
def ol {α : Type} [i : Rp α] (p : Addr) (xs : List α) : Ow := .lst p α i xs
def Ow.ad : Ow → Addr
  | .lst p _ _ _ => p
  | .obj p _ _ _ => p
def Ow.ok (K : Fg) (Kn H : Hp) : Ow → Prop
  | .lst p _ i xs => ∃ vs, H p = some (.lst vs) ∧ Paired (i.rep K Kn) vs xs
  | .obj p _ i x => ∃ o, H p = some o ∧ i.ob K Kn o x
theorem Ow.ok_swap {K : Fg} {Kn Kn' H H' : Hp} (e : Sw Kn Kn') : ∀ {o : Ow}, H' o.ad = H o.ad → o.ok K Kn H → o.ok K Kn' H'
  | .lst _ _ i _, eh, ⟨vs, h1, h2⟩ => ⟨vs, eh.trans h1, Paired.mapP h2 fun _ _ q => i.swap e q⟩
  | .obj _ _ i _, eh, ⟨o, h1, h2⟩ => ⟨o, eh.trans h1, i.swap e h2⟩
theorem Ow.ok_mono {K : Fg} {Kn Kn' H H' : Hp} (e : Ex Kn Kn') {o : Ow} (eh : H' o.ad = H o.ad) (h : o.ok K Kn H) : o.ok K Kn' H' := Ow.ok_swap (.of e) eh h
theorem ne_none_of {H : Hp} {p : Addr} {o : HO} (h : H p = some o) : H p ≠ none := fun z => by
  rw [h] at z
  cases z
theorem Ow.there {K : Fg} {Kn H : Hp} : ∀ {o : Ow}, o.ok K Kn H → H o.ad ≠ none
  | .lst p _ _ _, h => by
    obtain ⟨vs, h, _⟩ := h
    exact ne_none_of (show H p = some (.lst vs) from h)
  | .obj p _ _ _, h => by
    obtain ⟨o, h, _⟩ := h
    exact ne_none_of (show H p = some o from h)
structure OwsOk (K : Fg) (F Kn H : Hp) (ow : List Ow) : Prop where
  each : ∀ o ∈ ow, F o.ad = none ∧ Kn o.ad = none ∧ o.ok K Kn H
  nd : (ow.map Ow.ad).Nodup

/-- the state: F stands untouched, Kn is known (by and by more), the slots, the objects of one's own -/
structure S (K : Fg) (F Kn0 : Hp) (sl : List Sl) (ow : List Ow) (σ : St) (Kn H : Hp) : Prop where
  e0 : Ex Kn0 Kn
  ek : Ex Kn H
  ef : Ex F H
  sep : ∀ p, F p ≠ none → Kn0 p = none → Kn p = none
  sl : SlsOk K Kn sl σ
  ow : OwsOk K F Kn H ow

/-- growth: nothing that stood is touched, nothing that stood unknown is known -/
structure Gr (Kn H Kn' H' : Hp) : Prop where
  kk : Ex Kn Kn'
  hh : Ex H H'
  kh : Ex Kn' H'
  sp : ∀ p, H p ≠ none → Kn p = none → Kn' p = none
theorem Gr.refl {Kn H : Hp} (e : Ex Kn H) : Gr Kn H Kn H := ⟨Ex.refl _, Ex.refl _, e, fun _ _ h => h⟩
theorem Ex.nn {H H' : Hp} (e : Ex H H') {p : Addr} (h : H p ≠ none) : H' p ≠ none := by
  cases q : H p with
  | none => exact absurd q h
  | some o => exact ne_none_of (e _ _ q)
theorem Ex.at_eq {H H' : Hp} (e : Ex H H') {p : Addr} (h : H p ≠ none) : H' p = H p := by
  cases q : H p with
  | none => exact absurd q h
  | some o => exact e _ _ q
theorem Gr.trans {Kn H Kn1 H1 Kn2 H2 : Hp} (a : Gr Kn H Kn1 H1) (b : Gr Kn1 H1 Kn2 H2) : Gr Kn H Kn2 H2 :=
  ⟨a.kk.trans b.kk, a.hh.trans b.hh, b.kh, fun p h1 h2 => b.sp p (Ex.nn a.hh h1) (a.sp p h1 h2)⟩
/-- a new object, known -/
theorem Gr.new {Kn H : Hp} {p : Addr} {o : HO} (e : Ex Kn H) (hp : H p = none) : Gr Kn H (upd Kn p o) (upd H p o) := by
  have kp : Kn p = none := fresh_back e hp
  refine ⟨Ex.new kp, Ex.new hp, fun a u h => ?_, fun q h1 h2 => ?_⟩
  · by_cases hq : a = p
    · subst hq
      rw [upd_same] at h ⊢
      exact h
    · rw [upd_ne hq] at h ⊢
      exact e _ _ h
  · have hq : q ≠ p := fun z => by
      subst z
      exact h1 hp
    rw [upd_ne hq]
    exact h2
/-- a new object, not known yet -/
theorem Gr.newU {Kn H : Hp} {p : Addr} {o : HO} (e : Ex Kn H) (hp : H p = none) : Gr Kn H Kn (upd H p o) :=
  ⟨Ex.refl _, Ex.new hp, e.trans (Ex.new hp), fun _ _ h2 => h2⟩
/-- what was new is known from now on -/
theorem Gr.know {Kn H Kn' H' : Hp} {p : Addr} {o : HO} (g : Gr Kn H Kn' H') (hp : H p = none) (kp : Kn' p = none) (hp' : H' p = some o) : Gr Kn H (upd Kn' p o) H' :=
  ⟨g.kk.trans (Ex.new kp), g.hh, fun a u h => by
    by_cases hq : a = p
    · subst hq
      rw [upd_same] at h
      rw [← h]
      exact hp'
    · rw [upd_ne hq] at h
      exact g.kh _ _ h, fun q h1 h2 => by
    have hq : q ≠ p := fun z => by
      subst z
      exact h1 hp
    rw [upd_ne hq]
    exact g.sp q h1 h2⟩

section
variable {K : Fg} {F Kn0 : Hp} {sl sl' : List Sl} {ow ow' : List Ow} {σ : St} {Kn H Kn' H' : Hp}
theorem S.grow (s : S K F Kn0 sl ow σ Kn H) (g : Gr Kn H Kn' H') : S K F Kn0 sl ow σ Kn' H' :=
  ⟨s.e0.trans g.kk, g.kh, s.ef.trans g.hh, fun p h1 h2 => g.sp p (Ex.nn s.ef h1) (s.sep p h1 h2), s.sl.mono g.kk,
    ⟨fun o ho => by
      obtain ⟨h1, h2, h3⟩ := s.ow.each o ho
      have h4 := Ow.there h3
      exact ⟨h1, g.sp _ h4 h2, Ow.ok_mono g.kk (Ex.at_eq g.hh h4) h3⟩, s.ow.nd⟩⟩
theorem S.le (s : S K F Kn0 sl ow σ Kn H) (l : SlLe sl sl') : S K F Kn0 sl' ow σ Kn H := ⟨s.e0, s.ek, s.ef, s.sep, s.sl.le l, s.ow⟩
theorem S.set (s : S K F Kn0 sl ow σ Kn H) {x : Sl} {o : Option V} (i : Nat) (h : x.ok K Kn o) : S K F Kn0 (sl.set i x) ow (σ.set i o) Kn H :=
  ⟨s.e0, s.ek, s.ef, s.sep, SlsOk.set h i s.sl, s.ow⟩
theorem S.setv (s : S K F Kn0 sl ow σ Kn H) {α : Type} [Rp α] {x : α} {v : V} (i : Nat) (h : rep K Kn v x) : S K F Kn0 (sl.set i (sv x)) ow (σ.set i (some v)) Kn H :=
  s.set i ⟨v, rfl, h⟩
/-- some objects are not named any more -/
theorem S.sub (s : S K F Kn0 sl ow σ Kn H) (l : ow'.Sublist ow) : S K F Kn0 sl ow' σ Kn H :=
  ⟨s.e0, s.ek, s.ef, s.sep, s.sl, ⟨fun o ho => s.ow.each o (l.subset ho), s.ow.nd.sublist (l.map _)⟩⟩
theorem S.fin (s : S K F Kn0 sl ow σ Kn H) : S K F Kn0 [] ow [] Kn H := ⟨s.e0, s.ek, s.ef, s.sep, trivial, s.ow⟩
end

/-! ### the judgements -/
section
variable (K : Fg) (F Kn0 : Hp) (sl : List Sl) (ow : List Ow)
def EV {α : Type} [Rp α] (te : TE) (x : α) : Prop := ∀ σ Kn H, S K F Kn0 sl ow σ Kn H → ∀ Q : VK, (∀ v Kn' H', Gr Kn H Kn' H' → rep K Kn' v x → Q v H') → te σ H Q
/-- a new list -/
def EN {α : Type} [Rp α] (te : TE) (xs : List α) : Prop := ∀ σ Kn H, S K F Kn0 sl ow σ Kn H → ∀ Q : VK,
  (∀ p ws Kn' H', Gr Kn H Kn' H' → H p = none → Kn' p = none → H' p = some (.lst ws) → Paired (rep K Kn') ws xs → Q (.ref p) H') → te σ H Q
/-- what is changed on the way is told: ow, then ow' -/
def EM {α : Type} [Rp α] (te : TE) (ow' : List Ow) (x : α) : Prop := ∀ σ Kn H, S K F Kn0 sl ow σ Kn H → ∀ Q : VK,
  (∀ v Kn' H', Ex Kn Kn' → S K F Kn0 sl ow' σ Kn' H' → rep K Kn' v x → Q v H') → te σ H Q
def ENM {α : Type} [Rp α] (te : TE) (ow' : List Ow) (xs : List α) : Prop := ∀ σ Kn H, S K F Kn0 sl ow σ Kn H → ∀ Q : VK,
  (∀ p ws Kn' H', Ex Kn Kn' → S K F Kn0 sl ow' σ Kn' H' → F p = none → Kn' p = none → (∀ o ∈ ow', o.ad ≠ p) → H' p = some (.lst ws) → Paired (rep K Kn') ws xs → Q (.ref p) H') → te σ H Q
def ET (tt : TT) (b : Bool) : Prop := ∀ σ Kn H, S K F Kn0 sl ow σ Kn H → ∀ Q : Bool → Hp → Prop, (∀ Kn' H', Gr Kn H Kn' H' → Q b H') → tt σ H Q
def EA {τ : Type} [Tp τ] (ta : TA) (t : τ) : Prop := ∀ σ Kn H, S K F Kn0 sl ow σ Kn H → ∀ Q : List V → Hp → Prop, (∀ vs Kn' H', Gr Kn H Kn' H' → rept K Kn' vs t → Q vs H') → ta σ H Q
def EAM {τ : Type} [Tp τ] (ta : TA) (ow' : List Ow) (t : τ) : Prop := ∀ σ Kn H, S K F Kn0 sl ow σ Kn H → ∀ Q : List V → Hp → Prop,
  (∀ vs Kn' H', Ex Kn Kn' → S K F Kn0 sl ow' σ Kn' H' → rept K Kn' vs t → Q vs H') → ta σ H Q
def SB (D : Ends) (ts : TS) : Prop := ∀ σ Kn H, S K F Kn0 sl ow σ Kn H → ts D σ H
/-- what is wanted of a return -/
def RT (R : VK) {α : Type} [Rp α] (x : α) : Prop := ∀ v Kn H, S K F Kn0 [] ow [] Kn H → rep K Kn v x → R v H
def RN (R : VK) {α : Type} [Rp α] (xs : List α) : Prop := ∀ p ws Kn H, S K F Kn0 [] ow [] Kn H → F p = none → Kn p = none → H p = some (.lst ws) → Paired (rep K Kn) ws xs → R (.ref p) H
end

section
variable {K : Fg} {F Kn0 : Hp} {sl sl' : List Sl} {ow ow1 ow2 : List Ow} {α β γ : Type} [Rp α] [Rp β] [Rp γ] {ta tb te : TE} {x : α} {y : β} {z : γ}
theorem EN.ev {xs : List α} (h : EN K F Kn0 sl ow te xs) : EV K F Kn0 sl ow te xs := fun σ Kn H s Q q => h σ Kn H s Q fun p ws Kn' H' g hp kp hw r =>
  q _ (upd Kn' p (.lst ws)) H' (g.know hp kp hw) ⟨p, ws, rfl, upd_same, paired_mono (Ex.new kp) r⟩
theorem EV.em (h : EV K F Kn0 sl ow te x) : EM K F Kn0 sl ow te ow x := fun σ Kn H s Q q => h σ Kn H s Q fun v Kn' H' g r => q v Kn' H' g.kk (s.grow g) r
theorem owned_ne {σ : St} {Kn H : Hp} (s : S K F Kn0 sl ow σ Kn H) {p : Addr} (hp : H p = none) : ∀ o ∈ ow, o.ad ≠ p := fun o ho z => by
  have := Ow.there (s.ow.each o ho).2.2
  rw [z] at this
  exact this hp
theorem EN.em {xs : List α} (h : EN K F Kn0 sl ow te xs) : ENM K F Kn0 sl ow te ow xs := fun σ Kn H s Q q => h σ Kn H s Q fun p ws Kn' H' g hp kp hw r =>
  q p ws Kn' H' g.kk (s.grow g) (fresh_back s.ef hp) kp (owned_ne s hp) hw r
theorem S.know {σ : St} {Kn H : Hp} (s : S K F Kn0 sl ow σ Kn H) {p : Addr} {o : HO} (fp : F p = none) (kp : Kn p = none) (no : ∀ o ∈ ow, o.ad ≠ p) (hp : H p = some o) : S K F Kn0 sl ow σ (upd Kn p o) H :=
  ⟨s.e0.trans (Ex.new kp), fun a u h => by
    by_cases hq : a = p
    · subst hq
      rw [upd_same] at h
      rw [← h]
      exact hp
    · rw [upd_ne hq] at h
      exact s.ek _ _ h, s.ef, fun q h1 h2 => by
    have hq : q ≠ p := fun z => by
      subst z
      exact h1 fp
    rw [upd_ne hq]
    exact s.sep q h1 h2, s.sl.mono (Ex.new kp), ⟨fun o ho => by
      obtain ⟨h1, h2, h3⟩ := s.ow.each o ho
      exact ⟨h1, by rw [upd_ne (no o ho)]; exact h2, Ow.ok_mono (Ex.new kp) rfl h3⟩, s.ow.nd⟩⟩
theorem ENM.em {xs : List α} (h : ENM K F Kn0 sl ow te ow1 xs) : EM K F Kn0 sl ow te ow1 xs := fun σ Kn H s Q q => h σ Kn H s Q fun p ws Kn' H' e s' fp kp no hw r =>
  q _ (upd Kn' p (.lst ws)) H' (e.trans (Ex.new kp)) (s'.know fp kp no hw) ⟨p, ws, rfl, upd_same, paired_mono (Ex.new kp) r⟩
theorem EV.cast {x' : α} (h : EV K F Kn0 sl ow te x) (e : x = x') : EV K F Kn0 sl ow te x' := e ▸ h
theorem ET.cast {tt : TT} {b b' : Bool} (h : ET K F Kn0 sl ow tt b) (e : b = b') : ET K F Kn0 sl ow tt b' := e ▸ h
end
end Wk
/-! Wk2: rules for expressions -/
namespace Wk
open PySem PySem.Spec L2 Evl
section
variable {K : Fg} {F Kn0 : Hp} {sl sl' : List Sl} {ow ow1 ow2 : List Ow} {α β γ τ : Type} [Rp α] [Rp β] [Rp γ] [Tp τ] {ta tb te : TE} {x : α} {y : β} {z : γ}

theorem paired_fl {α : Type} [Rp α] [Fl α] {H : Hp} : ∀ {vs : List V} {xs : List α}, Paired (rep K H) vs xs → vs = xs.map Fl.toV
  | _, _, .nil => rfl
  | _, _, .cons h t => by rw [List.map_cons, ← paired_fl t, Fl.iff.mp h]
theorem fl_paired {α : Type} [Rp α] [Fl α] {H : Hp} : ∀ (xs : List α), Paired (rep K H) (xs.map Fl.toV) xs
  | [] => .nil
  | _ :: t => .cons (Fl.iff.mpr rfl) (fl_paired t)
theorem paired_len {H : Hp} {vs : List V} {xs : List α} (h : Paired (rep K H) vs xs) : vs.length = xs.length := Paired.length h
theorem paired_at {F : V → α → Prop} : ∀ {vs : List V} {xs : List α}, Paired F vs xs → ∀ {j : Nat} {a : α}, xs[j]? = some a → ∃ v, vs[j]? = some v ∧ F v a
  | _, _, .nil, _, _, e => by simp at e
  | _, _, .cons r _, 0, _, e => by
    simp at e
    subst e
    exact ⟨_, rfl, r⟩
  | _, _, .cons _ t, j + 1, a, e => by
    obtain ⟨v, h1, h2⟩ := paired_at t (j := j) (a := a) (by simpa using e)
    exact ⟨v, by simpa using h1, h2⟩
theorem paired_append {F : V → α → Prop} : ∀ {vs ws : List V} {xs ys : List α}, Paired F vs xs → Paired F ws ys → Paired F (vs ++ ws) (xs ++ ys)
  | _, _, _, _, .nil, h => h
  | _, _, _, _, .cons r t, h => .cons r (paired_append t h)
theorem paired_drop {F : V → α → Prop} : ∀ {vs : List V} {xs : List α} (n : Nat), Paired F vs xs → Paired F (vs.drop n) (xs.drop n)
  | _, _, 0, h => h
  | _, _, _ + 1, .nil => .nil
  | _, _, n + 1, .cons _ t => paired_drop n t
theorem paired_take {F : V → α → Prop} : ∀ {vs : List V} {xs : List α} (n : Nat), Paired F vs xs → Paired F (vs.take n) (xs.take n)
  | _, _, 0, _ => .nil
  | _, _, _ + 1, .nil => .nil
  | _, _, n + 1, .cons r t => .cons r (paired_take n t)
theorem paired_set {F : V → α → Prop} {v : V} {a : α} (h : F v a) : ∀ {vs : List V} {xs : List α} (n : Nat), Paired F vs xs → Paired F (vs.set n v) (xs.set n a)
  | _, _, _, .nil => .nil
  | _, _, 0, .cons _ t => .cons h t
  | _, _, n + 1, .cons r t => .cons r (paired_set h n t)
theorem paired_atI {H : Hp} {vs : List V} {xs : List α} (h : Paired (rep K H) vs xs) {i : Int} {a : α} (e : atI xs i = some a) : ∃ v, atI vs i = some v ∧ rep K H v a := by
  unfold atI at e ⊢
  rw [paired_len h]
  cases q : ixN xs.length i with
  | none => rw [q] at e; cases e
  | some j =>
    rw [q] at e
    exact paired_at h e

/-! ### results of rules by values -/
def RS (K : Fg) (Kn H : Hp) (Q : VK) (z : γ) : Prop := ∀ u Kn' H', Gr Kn H Kn' H' → rep K Kn' u z → Q u H'
def RL (K : Fg) (Kn H : Hp) (Q : VK) (zs : List γ) : Prop := ∀ p ws Kn' H', Gr Kn H Kn' H' → H p = none → Kn' p = none → H' p = some (.lst ws) → Paired (rep K Kn') ws zs → Q (.ref p) H'
theorem RS.rl {Kn H : Hp} {Q : VK} {zs : List γ} (h : RS K Kn H Q zs) : RL K Kn H Q zs := fun p ws Kn' H' g hp kp hw r =>
  h _ (upd Kn' p (.lst ws)) H' (g.know hp kp hw) ⟨p, ws, rfl, upd_same, paired_mono (Ex.new kp) r⟩
theorem RS.fl {γ : Type} [Rp γ] [Fl γ] {z : γ} {Kn H : Hp} {Q : VK} (h : RS K Kn H Q z) (e : Ex Kn H) : Q (Fl.toV z) H := h _ Kn H (Gr.refl e) (Fl.iff.mpr rfl)
theorem RS.at {Kn H : Hp} {Q : VK} {z : γ} (h : RS K Kn H Q z) (e : Ex Kn H) {v : V} (r : rep K Kn v z) : Q v H := h _ Kn H (Gr.refl e) r

def R1V (r : V → Hp → VK → Prop) (x : α) (z : γ) : Prop := ∀ (K : Fg) Kn H v, Ex Kn H → rep K Kn v x → ∀ Q, RS K Kn H Q z → r v H Q
def R2V (K : Fg) (r : R2) (x : α) (y : β) (z : γ) : Prop := ∀ Kn H v w, Ex Kn H → rep K Kn v x → rep K Kn w y → ∀ Q, RS K Kn H Q z → r v w H Q
def R2L (K : Fg) (r : R2) (x : α) (y : β) (zs : List γ) : Prop := ∀ Kn H v w, Ex Kn H → rep K Kn v x → rep K Kn w y → ∀ Q, RL K Kn H Q zs → r v w H Q
def RCV (K : Fg) (r : List V → Hp → VK → Prop) (t : τ) (z : γ) : Prop := ∀ Kn H vs, Ex Kn H → rept K Kn vs t → ∀ Q, RS K Kn H Q z → r vs H Q
def RCL (K : Fg) (r : List V → Hp → VK → Prop) (t : τ) (zs : List γ) : Prop := ∀ Kn H vs, Ex Kn H → rept K Kn vs t → ∀ Q, RL K Kn H Q zs → r vs H Q

/-! ### names, constants, operators -/
theorem ev_var {i : Nat} (h : sl[i]? = some (sv x)) : EV K F Kn0 sl ow (tVar i) x := fun σ Kn H s Q q => by
  obtain ⟨o, h1, v, h2, h3⟩ := s.sl.get h
  exact ⟨v, by rw [h1, h2], q v Kn H (Gr.refl s.ek) h3⟩
theorem ev_c {γ : Type} [Rp γ] [Fl γ] (z : γ) {v : V} (e : v = Fl.toV z := by rfl) : EV K F Kn0 sl ow (tC v) z := fun σ Kn H s Q q => q v Kn H (Gr.refl s.ek) (Fl.iff.mpr e)
theorem ev_none : EV K F Kn0 sl ow (tC .non) (none : Option α) := fun σ Kn H s Q q => q .non Kn H (Gr.refl s.ek) rfl
theorem ev_un {r : V → Hp → VK → Prop} (ha : EV K F Kn0 sl ow ta x) (hr : R1V r x z) : EV K F Kn0 sl ow (tUn r ta) z := fun σ Kn H s Q q =>
  ha σ Kn H s _ fun v Kn1 H1 g1 r1 => hr K Kn1 H1 v g1.kh r1 Q fun u Kn' H' g' r' => q u Kn' H' (g1.trans g') r'
theorem ev_op {r : R2} (ha : EV K F Kn0 sl ow ta x) (hb : EV K F Kn0 sl ow tb y) (hr : R2V K r x y z) : EV K F Kn0 sl ow (tOp r ta tb) z := fun σ Kn H s Q q =>
  ha σ Kn H s _ fun v Kn1 H1 g1 r1 => hb σ Kn1 H1 (s.grow g1) _ fun w Kn2 H2 g2 r2 => hr Kn2 H2 v w g2.kh (Rp.mono g2.kk r1) r2 Q fun u Kn' H' g' r' => q u Kn' H' ((g1.trans g2).trans g') r'
theorem en_op {r : R2} {zs : List γ} (ha : EV K F Kn0 sl ow ta x) (hb : EV K F Kn0 sl ow tb y) (hr : R2L K r x y zs) : EN K F Kn0 sl ow (tOp r ta tb) zs := fun σ Kn H s Q q =>
  ha σ Kn H s _ fun v Kn1 H1 g1 r1 => hb σ Kn1 H1 (s.grow g1) _ fun w Kn2 H2 g2 r2 => hr Kn2 H2 v w g2.kh (Rp.mono g2.kk r1) r2 Q fun p ws Kn' H' g' hp kp hw r' =>
    q p ws Kn' H' ((g1.trans g2).trans g') (fresh_back (g1.trans g2).hh hp) kp hw r'
theorem em_op {r : R2} (ha : EM K F Kn0 sl ow ta ow1 x) (hb : EM K F Kn0 sl ow1 tb ow2 y) (hr : R2V K r x y z) : EM K F Kn0 sl ow (tOp r ta tb) ow2 z := fun σ Kn H s Q q =>
  ha σ Kn H s _ fun v Kn1 H1 e1 s1 r1 => hb σ Kn1 H1 s1 _ fun w Kn2 H2 e2 s2 r2 => hr Kn2 H2 v w s2.ek (Rp.mono e2 r1) r2 Q fun u Kn' H' g' r' => q u Kn' H' ((e1.trans e2).trans g'.kk) (s2.grow g') r'
theorem r2_I0 {γ : Type} [Rp γ] [Fl γ] {z : γ} {g : Int → Int → V} {i j : Int} (e : g i j = Fl.toV z := by rfl) : R2V K (rI0 g) i j z := fun Kn H v w ek h1 h2 Q q => ⟨i, j, h1, h2, e ▸ q.fl ek⟩
theorem r2_I {γ : Type} [Rp γ] [Fl γ] {z : γ} {C : Int → Int → Prop} {g : Int → Int → V} {i j : Int} (c : C i j) (e : g i j = Fl.toV z := by rfl) : R2V K (rI C g) i j z := fun Kn H v w ek h1 h2 Q q => ⟨i, j, h1, h2, c, e ▸ q.fl ek⟩
theorem r1_neg {i : Int} : R1V (rU fun i => .int (-i)) i (-i) := fun K Kn H v ek h1 Q q => ⟨i, h1, q.fl ek⟩
theorem r2_eqI {i j : Int} : R2V K rEq i j (decide (i = j)) := fun Kn H v w ek h1 h2 Q q => by
  cases h1
  cases h2
  refine ⟨rfl, ?_⟩
  have e : decide (V.int i = V.int j) = decide (i = j) := by simp
  rw [e]
  exact q.fl ek
theorem r2_neI {i j : Int} : R2V K rNe i j (!decide (i = j)) := fun Kn H v w ek h1 h2 Q q => by
  cases h1
  cases h2
  refine ⟨rfl, ?_⟩
  have e : decide (V.int i = V.int j) = decide (i = j) := by simp
  rw [e]
  exact q.fl ek
theorem r2_eqS {i j : Str} : R2V K rEq i j (decide (i = j)) := fun Kn H v w ek h1 h2 Q q => by
  cases h1
  cases h2
  refine ⟨rfl, ?_⟩
  have e : decide (V.str i = V.str j) = decide (i = j) := by simp
  rw [e]
  exact q.fl ek
theorem r2_neS {i j : Str} : R2V K rNe i j (!decide (i = j)) := fun Kn H v w ek h1 h2 Q q => by
  cases h1
  cases h2
  refine ⟨rfl, ?_⟩
  have e : decide (V.str i = V.str j) = decide (i = j) := by simp
  rw [e]
  exact q.fl ek
theorem r2_eqB {i j : Bool} : R2V K rEq i j (decide (i = j)) := fun Kn H v w ek h1 h2 Q q => by
  cases h1
  cases h2
  refine ⟨rfl, ?_⟩
  have e : decide (V.bl i = V.bl j) = decide (i = j) := by simp
  rw [e]
  exact q.fl ek

/-! ### arguments, tuples, lists -/
theorem ea_nil : EA K F Kn0 sl ow tNil () := fun σ Kn H s Q q => q [] Kn H (Gr.refl s.ek) rfl
theorem ea_cons {tr : TA} {t : τ} (h : EV K F Kn0 sl ow ta x) (hr : EA K F Kn0 sl ow tr t) : EA K F Kn0 sl ow (tCons ta tr) (x, t) := fun σ Kn H s Q q =>
  h σ Kn H s _ fun v Kn1 H1 g1 r1 => hr σ Kn1 H1 (s.grow g1) _ fun vs Kn2 H2 g2 r2 => q _ Kn2 H2 (g1.trans g2) ⟨v, vs, rfl, Rp.mono g2.kk r1, r2⟩
theorem eam_nil : EAM K F Kn0 sl ow tNil ow () := fun σ Kn H s Q q => q [] Kn H (Ex.refl _) s rfl
theorem eam_cons {tr : TA} {t : τ} (h : EM K F Kn0 sl ow ta ow1 x) (hr : EAM K F Kn0 sl ow1 tr ow2 t) : EAM K F Kn0 sl ow (tCons ta tr) ow2 (x, t) := fun σ Kn H s Q q =>
  h σ Kn H s _ fun v Kn1 H1 e1 s1 r1 => hr σ Kn1 H1 s1 _ fun vs Kn2 H2 e2 s2 r2 => q _ Kn2 H2 (e1.trans e2) s2 ⟨v, vs, rfl, Rp.mono e2 r1, r2⟩
theorem EA.eam {ta : TA} {t : τ} (h : EA K F Kn0 sl ow ta t) : EAM K F Kn0 sl ow ta ow t := fun σ Kn H s Q q => h σ Kn H s Q fun vs Kn' H' g r => q vs Kn' H' g.kk (s.grow g) r
/-- alike things -/
def EL {α : Type} [Rp α] (K : Fg) (F Kn0 : Hp) (sl : List Sl) (ow : List Ow) (ta : TA) (xs : List α) : Prop := ∀ σ Kn H, S K F Kn0 sl ow σ Kn H → ∀ Q : List V → Hp → Prop, (∀ vs Kn' H', Gr Kn H Kn' H' → Paired (rep K Kn') vs xs → Q vs H') → ta σ H Q
def ELM {α : Type} [Rp α] (K : Fg) (F Kn0 : Hp) (sl : List Sl) (ow : List Ow) (ta : TA) (ow' : List Ow) (xs : List α) : Prop := ∀ σ Kn H, S K F Kn0 sl ow σ Kn H → ∀ Q : List V → Hp → Prop, (∀ vs Kn' H', Ex Kn Kn' → S K F Kn0 sl ow' σ Kn' H' → Paired (rep K Kn') vs xs → Q vs H') → ta σ H Q
theorem el_nil : EL K F Kn0 sl ow tNil ([] : List α) := fun σ Kn H s Q q => q [] Kn H (Gr.refl s.ek) .nil
theorem el_cons {tr : TA} {xs : List α} (h : EV K F Kn0 sl ow ta x) (hr : EL K F Kn0 sl ow tr xs) : EL K F Kn0 sl ow (tCons ta tr) (x :: xs) := fun σ Kn H s Q q =>
  h σ Kn H s _ fun v Kn1 H1 g1 r1 => hr σ Kn1 H1 (s.grow g1) _ fun vs Kn2 H2 g2 r2 => q _ Kn2 H2 (g1.trans g2) (.cons (Rp.mono g2.kk r1) r2)
theorem elm_nil : ELM K F Kn0 sl ow tNil ow ([] : List α) := fun σ Kn H s Q q => q [] Kn H (Ex.refl _) s .nil
theorem elm_cons {tr : TA} {xs : List α} (h : EM K F Kn0 sl ow ta ow1 x) (hr : ELM K F Kn0 sl ow1 tr ow2 xs) : ELM K F Kn0 sl ow (tCons ta tr) ow2 (x :: xs) := fun σ Kn H s Q q =>
  h σ Kn H s _ fun v Kn1 H1 e1 s1 r1 => hr σ Kn1 H1 s1 _ fun vs Kn2 H2 e2 s2 r2 => q _ Kn2 H2 (e1.trans e2) s2 (.cons (Rp.mono e2 r1) r2)
theorem le_line {n : Nat} (h : n ≤ 1000000) : n ≤ sizeLine := Nat.le_trans h (by decide)
theorem lt_line {n : Nat} (h : n < 1000000) : n < sizeLine := Nat.lt_of_lt_of_le h (by decide)
theorem en_lst {ta : TA} {xs : List α} (h : EL K F Kn0 sl ow ta xs) (hz : xs.length ≤ 1000000 := by exact Nat.le_of_ble_eq_true rfl) : EN K F Kn0 sl ow (tLst ta) xs := fun σ Kn H s Q q =>
  h σ Kn H s _ fun vs Kn1 H1 g1 r1 => ⟨by rw [paired_len r1]; exact le_line hz, fun p hp => q p vs Kn1 _ (g1.trans (Gr.newU g1.kh hp)) (fresh_back g1.hh hp) (fresh_back g1.kh hp) upd_same r1⟩
theorem enm_lst {ta : TA} {xs : List α} (h : ELM K F Kn0 sl ow ta ow1 xs) (hz : xs.length ≤ 1000000 := by exact Nat.le_of_ble_eq_true rfl) : ENM K F Kn0 sl ow (tLst ta) ow1 xs := fun σ Kn H s Q q =>
  h σ Kn H s _ fun vs Kn1 H1 e1 s1 r1 => ⟨by rw [paired_len r1]; exact le_line hz, fun p hp =>
    q p vs Kn1 _ e1 (s1.grow (Gr.newU s1.ek hp)) (fresh_back s1.ef hp) (fresh_back s1.ek hp) (owned_ne s1 hp) upd_same r1⟩
theorem ev_tup {ta : TA} {t : α × τ} (h : EA K F Kn0 sl ow ta t) (hz : Tp.n (α × τ) ≤ 1000000 := by decide) : EV K F Kn0 sl ow (tTup ta) t := fun σ Kn H s Q q =>
  h σ Kn H s _ fun vs Kn1 H1 g1 r1 => ⟨by rw [Tp.len r1]; exact le_line hz, fun p hp =>
    q _ (upd Kn1 p (.tup vs)) _ (g1.trans (Gr.new g1.kh hp)) ⟨p, vs, rfl, upd_same, Tp.mono (Gr.new g1.kh hp).kk r1⟩⟩
theorem em_tup {ta : TA} {t : α × τ} (h : EAM K F Kn0 sl ow ta ow1 t) (hz : Tp.n (α × τ) ≤ 1000000 := by decide) : EM K F Kn0 sl ow (tTup ta) ow1 t := fun σ Kn H s Q q =>
  h σ Kn H s _ fun vs Kn1 H1 e1 s1 r1 => ⟨by rw [Tp.len r1]; exact le_line hz, fun p hp =>
    q _ (upd Kn1 p (.tup vs)) _ (e1.trans (Gr.new s1.ek hp).kk) (s1.grow (Gr.new s1.ek hp)) ⟨p, vs, rfl, upd_same, Tp.mono (Gr.new s1.ek hp).kk r1⟩⟩
theorem ev_tuH {ta : TA} {xs : List α} (h : EL K F Kn0 sl ow ta xs) (hz : xs.length ≤ 1000000 := by exact Nat.le_of_ble_eq_true rfl) : EV K F Kn0 sl ow (tTup ta) (Tu.mk xs) := fun σ Kn H s Q q =>
  h σ Kn H s _ fun vs Kn1 H1 g1 r1 => ⟨by rw [paired_len r1]; exact le_line hz, fun p hp =>
    q _ (upd Kn1 p (.tup vs)) _ (g1.trans (Gr.new g1.kh hp)) ⟨p, vs, rfl, upd_same, paired_mono (Gr.new g1.kh hp).kk r1⟩⟩

/-! ### built-ins, defs -/
theorem ev_cb {r : List V → Hp → VK → Prop} {ta : TA} {t : τ} (h : EA K F Kn0 sl ow ta t) (hr : RCV K r t z) : EV K F Kn0 sl ow (tCB r ta) z := fun σ Kn H s Q q =>
  h σ Kn H s _ fun vs Kn1 H1 g1 r1 => hr Kn1 H1 vs g1.kh r1 Q fun u Kn' H' g' r' => q u Kn' H' (g1.trans g') r'
theorem en_cb {r : List V → Hp → VK → Prop} {ta : TA} {t : τ} {zs : List γ} (h : EA K F Kn0 sl ow ta t) (hr : RCL K r t zs) : EN K F Kn0 sl ow (tCB r ta) zs := fun σ Kn H s Q q =>
  h σ Kn H s _ fun vs Kn1 H1 g1 r1 => hr Kn1 H1 vs g1.kh r1 Q fun p ws Kn' H' g' hp kp hw r' => q p ws Kn' H' (g1.trans g') (fresh_back g1.hh hp) kp hw r'
theorem em_cb {r : List V → Hp → VK → Prop} {ta : TA} {t : τ} (h : EAM K F Kn0 sl ow ta ow1 t) (hr : RCV K r t z) : EM K F Kn0 sl ow (tCB r ta) ow1 z := fun σ Kn H s Q q =>
  h σ Kn H s _ fun vs Kn1 H1 e1 s1 r1 => hr Kn1 H1 vs s1.ek r1 Q fun u Kn' H' g' r' => q u Kn' H' (e1.trans g'.kk) (s1.grow g') r'
theorem one_arg {Kn : Hp} {vs : List V} {x : α} (h : rept K Kn vs (x, ())) : ∃ v, vs = [v] ∧ rep K Kn v x := by
  obtain ⟨v, r, rfl, h1, h2⟩ := h
  cases h2
  exact ⟨v, rfl, h1⟩
theorem two_args {Kn : Hp} {vs : List V} {x : α} {y : β} (h : rept K Kn vs (x, y, ())) : ∃ v w, vs = [v, w] ∧ rep K Kn v x ∧ rep K Kn w y := by
  obtain ⟨v, r, rfl, h1, h2⟩ := h
  obtain ⟨w, rfl, h3⟩ := one_arg h2
  exact ⟨v, w, rfl, h1, h3⟩
theorem rc_max {i j : Int} : RCV K (fun xs H Q => ∃ i j, xs = [.int i, .int j] ∧ Q (.int (if j > i then j else i)) H) (i, j, ()) (max i j) := fun Kn H vs ek h Q q => by
  obtain ⟨v, w, rfl, h1, h2⟩ := two_args h
  cases h1
  cases h2
  refine ⟨i, j, rfl, ?_⟩
  have e : (if j > i then j else i) = max i j := by split <;> omega
  rw [e]
  exact q.fl ek
theorem rc_min {i j : Int} : RCV K (fun xs H Q => ∃ i j, xs = [.int i, .int j] ∧ Q (.int (if j < i then j else i)) H) (i, j, ()) (min i j) := fun Kn H vs ek h Q q => by
  obtain ⟨v, w, rfl, h1, h2⟩ := two_args h
  cases h1
  cases h2
  refine ⟨i, j, rfl, ?_⟩
  have e : (if j < i then j else i) = min i j := by split <;> omega
  rw [e]
  exact q.fl ek
theorem rc_abs {i : Int} : RCV K (fun xs H Q => ∃ i, xs = [.int i] ∧ Q (.int (if i < 0 then -i else i)) H) (i, ()) ((i.natAbs : Int)) := fun Kn H vs ek h Q q => by
  obtain ⟨v, rfl, h1⟩ := one_arg h
  cases h1
  refine ⟨i, rfl, ?_⟩
  have e : (if i < 0 then -i else i) = (i.natAbs : Int) := by split <;> omega
  rw [e]
  exact q.fl ek
theorem rc_len {xs : List α} : RCV K (fun xs H Q => ∃ p ys, xs = [.ref p] ∧ (SqL K H p ys ∨ SqT K H p ys) ∧ Q (.int ys.length) H) (xs, ()) (xs.length : Int) := fun Kn H vs ek h Q q => by
  obtain ⟨v, rfl, p, ws, rfl, h1, h2⟩ := one_arg h
  refine ⟨p, ws, rfl, .inl (sq_of (ek _ _ h1)), ?_⟩
  rw [paired_len h2]
  exact q.fl ek
theorem rc_lenF {xs : Fz α} : RCV K (fun xs H Q => ∃ p ys, xs = [.ref p] ∧ (SqL K H p ys ∨ SqT K H p ys) ∧ Q (.int ys.length) H) (xs, ()) (xs.l.length : Int) := fun Kn H vs ek h Q q => by
  obtain ⟨v, rfl, p, ws, rfl, h1, h2⟩ := one_arg h
  refine ⟨p, ws, rfl, .inl (ex_l ek h1), ?_⟩
  rw [paired_len h2]
  exact q.fl ek
theorem rc_lenT {xs : Tu α} : RCV K (fun xs H Q => ∃ p ys, xs = [.ref p] ∧ (SqL K H p ys ∨ SqT K H p ys) ∧ Q (.int ys.length) H) (xs, ()) (xs.l.length : Int) := fun Kn H vs ek h Q q => by
  obtain ⟨v, rfl, p, ws, rfl, h1, h2⟩ := one_arg h
  refine ⟨p, ws, rfl, .inr (st_of (ek _ _ h1)), ?_⟩
  rw [paired_len h2]
  exact q.fl ek
theorem rc_lenP {t : α × τ} : RCV K (fun xs H Q => ∃ p ys, xs = [.ref p] ∧ (SqL K H p ys ∨ SqT K H p ys) ∧ Q (.int ys.length) H) (t, ()) ((Tp.n (α × τ) : Nat) : Int) := fun Kn H vs ek h Q q => by
  obtain ⟨v, rfl, p, ws, rfl, h1, h2⟩ := one_arg h
  refine ⟨p, ws, rfl, .inr (st_of (ek _ _ h1)), ?_⟩
  rw [Tp.len h2]
  exact q.fl ek
theorem rc_sum {xs : List Int} : RCV K (rSum K) (xs, ()) xs.sum := fun Kn H vs ek h Q q => by
  obtain ⟨v, rfl, p, ws, rfl, h1, h2⟩ := one_arg h
  have e := paired_fl h2
  subst e
  exact ⟨p, xs, rfl, sq_of (ek _ _ h1), q.fl ek⟩
theorem rc_all {xs : List Bool} : RCV K (rAll K) (xs, ()) (xs.all id) := fun Kn H vs ek h Q q => by
  obtain ⟨v, rfl, p, ws, rfl, h1, h2⟩ := one_arg h
  have e := paired_fl h2
  subst e
  exact ⟨p, xs, rfl, sq_of (ek _ _ h1), q.fl ek⟩
theorem rc_any {xs : List Bool} : RCV K (rAny K) (xs, ()) (xs.any id) := fun Kn H vs ek h Q q => by
  obtain ⟨v, rfl, p, ws, rfl, h1, h2⟩ := one_arg h
  have e := paired_fl h2
  subst e
  exact ⟨p, xs, rfl, sq_of (ek _ _ h1), q.fl ek⟩
theorem rc_list {xs : List α} : RCL K (fun xs H Q => ∃ p ys, xs = [.ref p] ∧ (SqL K H p ys ∨ SqT K H p ys) ∧ ∀ l, H l = none → Q (.ref l) (upd H l (.lst ys))) (xs, ()) xs := fun Kn H vs ek h Q q => by
  obtain ⟨v, rfl, p, ws, rfl, h1, h2⟩ := one_arg h
  exact ⟨p, ws, rfl, .inl (sq_of (ek _ _ h1)), fun l hl => q l ws Kn _ (Gr.newU ek hl) hl (fresh_back ek hl) upd_same h2⟩
theorem rc_listF {xs : Fz α} : RCL K (fun xs H Q => ∃ p ys, xs = [.ref p] ∧ (SqL K H p ys ∨ SqT K H p ys) ∧ ∀ l, H l = none → Q (.ref l) (upd H l (.lst ys))) (xs, ()) xs.l := fun Kn H vs ek h Q q => by
  obtain ⟨v, rfl, p, ws, rfl, h1, h2⟩ := one_arg h
  exact ⟨p, ws, rfl, .inl (ex_l ek h1), fun l hl => q l ws Kn _ (Gr.newU ek hl) hl (fresh_back ek hl) upd_same h2⟩
theorem rc_listT {xs : Tu α} : RCL K (fun xs H Q => ∃ p ys, xs = [.ref p] ∧ (SqL K H p ys ∨ SqT K H p ys) ∧ ∀ l, H l = none → Q (.ref l) (upd H l (.lst ys))) (xs, ()) xs.l := fun Kn H vs ek h Q q => by
  obtain ⟨v, rfl, p, ws, rfl, h1, h2⟩ := one_arg h
  exact ⟨p, ws, rfl, .inr (st_of (ek _ _ h1)), fun l hl => q l ws Kn _ (Gr.newU ek hl) hl (fresh_back ek hl) upd_same h2⟩
theorem rc_tuple {xs : List α} : RCV K (fun xs H Q => ∃ p ys, xs = [.ref p] ∧ ((SqL K H p ys ∧ ∀ l, H l = none → Q (.ref l) (upd H l (.tup ys))) ∨ (SqT K H p ys ∧ Q (.ref p) H))) (xs, ()) (Tu.mk xs) := fun Kn H vs ek h Q q => by
  obtain ⟨v, rfl, p, ws, rfl, h1, h2⟩ := one_arg h
  exact ⟨p, ws, rfl, .inl ⟨sq_of (ek _ _ h1), fun l hl => q _ (upd Kn l (.tup ws)) _ (Gr.new ek hl) ⟨l, ws, rfl, upd_same, paired_mono (Gr.new ek hl).kk h2⟩⟩⟩
end

/-! ### items, slices -/
section
variable {K : Fg} {F Kn0 : Hp} {sl sl' : List Sl} {ow ow1 ow2 : List Ow} {α β γ τ : Type} [Rp α] [Rp β] [Rp γ] [Tp τ] {ta tb te : TE}
theorem r2_ixL {xs : List α} {i : Int} {z : α} (h : atI xs i = some z) : R2V K (rIxL K) xs i z := fun Kn H v w ek h1 h2 Q q => by
  obtain ⟨p, ws, rfl, h3, h4⟩ := h1
  cases h2
  obtain ⟨u, e, r⟩ := paired_atI h4 h
  exact ⟨p, ws, i, u, rfl, rfl, sq_of (ek _ _ h3), e, q.at ek r⟩
theorem r2_ixF {xs : Fz α} {i : Int} {z : α} (h : atI xs.l i = some z) : R2V K (rIxL K) xs i z := fun Kn H v w ek h1 h2 Q q => by
  obtain ⟨p, ws, rfl, h3, h4⟩ := h1
  cases h2
  obtain ⟨u, e, r⟩ := paired_atI h4 h
  exact ⟨p, ws, i, u, rfl, rfl, ex_l ek h3, e, q.at ek r⟩
theorem r2_ixU {xs : Tu α} {i : Int} {z : α} (h : atI xs.l i = some z) : R2V K (rIxT K) xs i z := fun Kn H v w ek h1 h2 Q q => by
  obtain ⟨p, ws, rfl, h3, h4⟩ := h1
  cases h2
  obtain ⟨u, e, r⟩ := paired_atI h4 h
  exact ⟨p, ws, i, u, rfl, rfl, st_of (ek _ _ h3), e, q.at ek r⟩
theorem r2_ixK {xs : Kt α} {i : Int} {z : α} (h : atI xs.l i = some z) : R2V K (rIxT K) xs i z := fun Kn H v w ek h1 h2 Q q => by
  obtain ⟨p, ws, rfl, h3, h4⟩ := h1
  cases h2
  obtain ⟨u, e, r⟩ := paired_atI h4 h
  exact ⟨p, ws, i, u, rfl, rfl, ex_t ek h3, e, q.at ek r⟩
/-- the n-th place of a tuple -/
inductive At : {τ : Type} → [Tp τ] → Nat → {α : Type} → [Rp α] → τ → α → Prop
  | z {α τ : Type} [Rp α] [Tp τ] (x : α) (t : τ) : At 0 (x, t) x
  | s {α β τ : Type} [Rp α] [Rp β] [Tp τ] {n : Nat} (x : α) {t : τ} {y : β} : At n t y → At (n + 1) (x, t) y
theorem At.get {K : Fg} {H : Hp} {τ : Type} [i : Tp τ] {n : Nat} {α : Type} [j : Rp α] {t : τ} {a : α} (h : At n t a) : ∀ {vs : List V}, rept K H vs t → ∃ v, vs[n]? = some v ∧ rep K H v a := by
  induction h with
  | z x t =>
    intro vs r
    obtain ⟨v, r, rfl, h1, h2⟩ := r
    exact ⟨v, rfl, h1⟩
  | s x _ ih =>
    intro vs r
    obtain ⟨v, r, rfl, h1, h2⟩ := r
    obtain ⟨w, e, h3⟩ := ih h2
    exact ⟨w, e, h3⟩
theorem r2_tix {t : α × τ} {n : Nat} {z : γ} (h : At n t z) : R2V K (rIxT K) t (n : Int) z := fun Kn H v w ek h1 h2 Q q => by
  obtain ⟨p, ws, rfl, h3, h4⟩ := h1
  cases h2
  obtain ⟨u, e, r⟩ := h.get h4
  exact ⟨p, ws, n, u, rfl, rfl, st_of (ek _ _ h3), atI_nat e, q.at ek r⟩
/-- one sign of a text -/
def ixS (z : Str) (i : Int) : Option Str := if z.length ≤ 100000 then (atI z.cps.toList i).map (fun c => ⟨#[c]⟩) else none
theorem r2_ixS {x : Str} {i : Int} {z : Str} (h : ixS x i = some z) : R2V K rIxS x i z := fun Kn H v w ek h1 h2 Q q => by
  cases h1
  cases h2
  unfold ixS at h
  split at h
  · rename_i hl
    cases e : atI x.cps.toList i with
    | none => rw [e] at h; cases h
    | some c =>
      rw [e] at h
      cases h
      exact ⟨x, i, c, rfl, rfl, le_line (by omega), e, q.fl ek⟩
  · cases h
def cut {α : Type} (xs : List α) (lo hi : Option Int) : List α := (xs.drop (HT.sIx xs.length 0 lo)).take (HT.sIx xs.length xs.length hi - HT.sIx xs.length 0 lo)
theorem paired_cut {F : V → α → Prop} {vs : List V} {xs : List α} (h : Paired F vs xs) (lo hi : Option Int) : Paired F (cutV vs lo hi) (cut xs lo hi) := by
  unfold cutV cut
  rw [Paired.length h]
  exact paired_take _ (paired_drop _ h)
def EO (K : Fg) (F Kn0 : Hp) (sl : List Sl) (ow : List Ow) (to : TO) (o : Option Int) : Prop := ∀ σ Kn H, S K F Kn0 sl ow σ Kn H → ∀ Q : Option Int → Hp → Prop, (∀ Kn' H', Gr Kn H Kn' H' → Q o H') → to σ H Q
theorem eo_none : EO K F Kn0 sl ow tNoPart none := fun σ Kn H s Q q => q Kn H (Gr.refl s.ek)
theorem eo_some {i : Int} (h : EV K F Kn0 sl ow te i) : EO K F Kn0 sl ow (tPart te) (some i) := fun σ Kn H s Q q => h σ Kn H s _ fun v Kn1 H1 g1 r1 => ⟨i, r1, q Kn1 H1 g1⟩
theorem en_sl {xs : List α} {tl th : TO} {lo hi : Option Int} (h : EV K F Kn0 sl ow te xs) (hl : EO K F Kn0 sl ow tl lo) (hh : EO K F Kn0 sl ow th hi) : EN K F Kn0 sl ow (tSl (rSlL K) te tl th) (cut xs lo hi) := fun σ Kn H s Q q =>
  h σ Kn H s _ fun v Kn1 H1 g1 r1 => hl σ Kn1 H1 (s.grow g1) _ fun Kn2 H2 g2 => hh σ Kn2 H2 ((s.grow g1).grow g2) _ fun Kn3 H3 g3 => by
    obtain ⟨p, ws, rfl, h3, h4⟩ := r1
    have g : Gr Kn H Kn3 H3 := (g1.trans g2).trans g3
    have e13 : Ex Kn1 Kn3 := g2.kk.trans g3.kk
    exact ⟨p, ws, rfl, sq_of (g3.kh _ _ (e13 _ _ h3)), fun l hl => q l _ Kn3 _ (g.trans (Gr.newU g3.kh hl)) (fresh_back g.hh hl) (fresh_back g3.kh hl) upd_same (paired_cut (paired_mono e13 h4) lo hi)⟩
theorem en_slF {xs : Fz α} {tl th : TO} {lo hi : Option Int} (h : EV K F Kn0 sl ow te xs) (hl : EO K F Kn0 sl ow tl lo) (hh : EO K F Kn0 sl ow th hi) : EN K F Kn0 sl ow (tSl (rSlL K) te tl th) (cut xs.l lo hi) := fun σ Kn H s Q q =>
  h σ Kn H s _ fun v Kn1 H1 g1 r1 => hl σ Kn1 H1 (s.grow g1) _ fun Kn2 H2 g2 => hh σ Kn2 H2 ((s.grow g1).grow g2) _ fun Kn3 H3 g3 => by
    obtain ⟨p, ws, rfl, h3, h4⟩ := r1
    have g : Gr Kn H Kn3 H3 := (g1.trans g2).trans g3
    have e13 : Ex Kn1 Kn3 := g2.kk.trans g3.kk
    exact ⟨p, ws, rfl, ex_l (e13.trans g3.kh) h3, fun l hl => q l _ Kn3 _ (g.trans (Gr.newU g3.kh hl)) (fresh_back g.hh hl) (fresh_back g3.kh hl) upd_same (paired_cut (paired_mono e13 h4) lo hi)⟩
theorem r2_cat {xs ys : List α} (hz : xs.length + ys.length ≤ 1000000) : R2L K rCat xs ys (xs ++ ys) := fun Kn H v w ek h1 h2 Q q => by
  obtain ⟨p, ws, rfl, h3, h4⟩ := h1
  obtain ⟨p2, ws2, rfl, h5, h6⟩ := h2
  exact ⟨p, p2, ws, ws2, rfl, rfl, ek _ _ h3, ek _ _ h5, by rw [paired_len h4, paired_len h6]; exact le_line hz, fun l hl =>
    q l _ Kn _ (Gr.newU ek hl) hl (fresh_back ek hl) upd_same (paired_append h4 h6)⟩

/-! ### tests -/
variable {t u : TT} {a b c : Bool}
theorem et_test (h : EV K F Kn0 sl ow te b) : ET K F Kn0 sl ow (tTest te) b := fun σ Kn H s Q q => h σ Kn H s _ fun v Kn' H' g r => ⟨b, r, q Kn' H' g⟩
theorem et_B (h : EV K F Kn0 sl ow te b) : ET K F Kn0 sl ow (tB te) b := fun σ Kn H s Q q => h σ Kn H s _ fun v Kn' H' g r => ⟨b, r, q Kn' H' g⟩
theorem et_not (h : ET K F Kn0 sl ow t b) : ET K F Kn0 sl ow (tNot t) (!b) := fun σ Kn H s Q q => h σ Kn H s _ fun Kn' H' g => q Kn' H' g
theorem et_and (h1 : ET K F Kn0 sl ow t a) (h2 : a = true → ET K F Kn0 sl ow u b) : ET K F Kn0 sl ow (tAnd t u) (a && b) := fun σ Kn H s Q q => h1 σ Kn H s _ fun Kn1 H1 g1 => by
  cases a with
  | true => exact iteT (h2 rfl σ Kn1 H1 (s.grow g1) Q fun Kn2 H2 g2 => q Kn2 H2 (g1.trans g2))
  | false => exact iteF (q Kn1 H1 g1)
theorem et_or (h1 : ET K F Kn0 sl ow t a) (h2 : a = false → ET K F Kn0 sl ow u b) : ET K F Kn0 sl ow (tOr t u) (a || b) := fun σ Kn H s Q q => h1 σ Kn H s _ fun Kn1 H1 g1 => by
  cases a with
  | true => exact iteT (q Kn1 H1 g1)
  | false => exact iteF (h2 rfl σ Kn1 H1 (s.grow g1) Q fun Kn2 H2 g2 => q Kn2 H2 (g1.trans g2))
theorem et_andO {m : Option Bool} (h : (if a = true then m else some false) = some c) (h1 : ET K F Kn0 sl ow t a) (h2 : ∀ b, a = true → m = some b → ET K F Kn0 sl ow u b) : ET K F Kn0 sl ow (tAnd t u) c := fun σ Kn H s Q q => h1 σ Kn H s _ fun Kn1 H1 g1 => by
  cases a with
  | true => exact iteT (h2 c rfl h σ Kn1 H1 (s.grow g1) Q fun Kn2 H2 g2 => q Kn2 H2 (g1.trans g2))
  | false =>
    cases h
    exact iteF (q Kn1 H1 g1)
theorem et_orO {m : Option Bool} (h : (if a = true then some true else m) = some c) (h1 : ET K F Kn0 sl ow t a) (h2 : ∀ b, a = false → m = some b → ET K F Kn0 sl ow u b) : ET K F Kn0 sl ow (tOr t u) c := fun σ Kn H s Q q => h1 σ Kn H s _ fun Kn1 H1 g1 => by
  cases a with
  | false => exact iteF (h2 c rfl h σ Kn1 H1 (s.grow g1) Q fun Kn2 H2 g2 => q Kn2 H2 (g1.trans g2))
  | true =>
    cases h
    exact iteT (q Kn1 H1 g1)
theorem ev_andO {m : Option Bool} (h : (if a = true then m else some false) = some c) (h1 : EV K F Kn0 sl ow ta a) (h2 : ∀ b, a = true → m = some b → EV K F Kn0 sl ow tb b) : EV K F Kn0 sl ow (tAndV ta tb) c := fun σ Kn H s Q q => h1 σ Kn H s _ fun v Kn1 H1 g1 r1 => ⟨a, r1, by
  cases a with
  | true => exact iteT (h2 c rfl h σ Kn1 H1 (s.grow g1) Q fun v Kn2 H2 g2 r2 => q v Kn2 H2 (g1.trans g2) r2)
  | false =>
    cases h
    exact iteF (q _ Kn1 H1 g1 rfl)⟩
theorem ev_orO {m : Option Bool} (h : (if a = true then some true else m) = some c) (h1 : EV K F Kn0 sl ow ta a) (h2 : ∀ b, a = false → m = some b → EV K F Kn0 sl ow tb b) : EV K F Kn0 sl ow (tOrV ta tb) c := fun σ Kn H s Q q => h1 σ Kn H s _ fun v Kn1 H1 g1 r1 => ⟨a, r1, by
  cases a with
  | false => exact iteF (h2 c rfl h σ Kn1 H1 (s.grow g1) Q fun v Kn2 H2 g2 r2 => q v Kn2 H2 (g1.trans g2) r2)
  | true =>
    cases h
    exact iteT (q _ Kn1 H1 g1 rfl)⟩
theorem ev_andV (h1 : EV K F Kn0 sl ow ta a) (h2 : a = true → EV K F Kn0 sl ow tb b) : EV K F Kn0 sl ow (tAndV ta tb) (a && b) := fun σ Kn H s Q q => h1 σ Kn H s _ fun v Kn1 H1 g1 r1 => ⟨a, r1, by
  cases a with
  | true => exact iteT (h2 rfl σ Kn1 H1 (s.grow g1) Q fun v Kn2 H2 g2 r2 => q v Kn2 H2 (g1.trans g2) r2)
  | false => exact iteF (q _ Kn1 H1 g1 rfl)⟩
theorem ev_orV (h1 : EV K F Kn0 sl ow ta a) (h2 : a = false → EV K F Kn0 sl ow tb b) : EV K F Kn0 sl ow (tOrV ta tb) (a || b) := fun σ Kn H s Q q => h1 σ Kn H s _ fun v Kn1 H1 g1 r1 => ⟨a, r1, by
  cases a with
  | false => exact iteF (h2 rfl σ Kn1 H1 (s.grow g1) Q fun v Kn2 H2 g2 r2 => q v Kn2 H2 (g1.trans g2) r2)
  | true => exact iteT (q _ Kn1 H1 g1 rfl)⟩
theorem ev_notV (h1 : EV K F Kn0 sl ow ta a) : EV K F Kn0 sl ow (tNotV ta) (!a) := fun σ Kn H s Q q => h1 σ Kn H s _ fun v Kn1 H1 g1 r1 => ⟨a, r1, q _ Kn1 H1 g1 rfl⟩
theorem ev_if {x y : α} (h : ET K F Kn0 sl ow t b) (h1 : b = true → EV K F Kn0 sl ow ta x) (h2 : b = false → EV K F Kn0 sl ow tb y) : EV K F Kn0 sl ow (tIf t ta tb) (if b = true then x else y) := fun σ Kn H s Q q => h σ Kn H s _ fun Kn1 H1 g1 => by
  cases b with
  | true => exact iteT (h1 rfl σ Kn1 H1 (s.grow g1) Q fun v Kn2 H2 g2 r2 => q v Kn2 H2 (g1.trans g2) r2)
  | false => exact iteF (h2 rfl σ Kn1 H1 (s.grow g1) Q fun v Kn2 H2 g2 r2 => q v Kn2 H2 (g1.trans g2) r2)
theorem ev_ifO {m n : Option α} {z : α} (hz : (if b = true then m else n) = some z) (h : ET K F Kn0 sl ow t b) (h1 : ∀ x, b = true → m = some x → EV K F Kn0 sl ow ta x) (h2 : ∀ y, b = false → n = some y → EV K F Kn0 sl ow tb y) : EV K F Kn0 sl ow (tIf t ta tb) z := fun σ Kn H s Q q => h σ Kn H s _ fun Kn1 H1 g1 => by
  cases b with
  | true => exact iteT (h1 z rfl hz σ Kn1 H1 (s.grow g1) Q fun v Kn2 H2 g2 r2 => q v Kn2 H2 (g1.trans g2) r2)
  | false => exact iteF (h2 z rfl hz σ Kn1 H1 (s.grow g1) Q fun v Kn2 H2 g2 r2 => q v Kn2 H2 (g1.trans g2) r2)
/-- truth of a list -/
theorem et_truL {xs : List α} (h : EV K F Kn0 sl ow ta xs) : ET K F Kn0 sl ow (fun σ H Q => ta σ H fun x H' => ∃ k, TruV K x H' k ∧ Q k H') (!xs.isEmpty) := fun σ Kn H s Q q => h σ Kn H s _ fun v Kn1 H1 g1 r1 => by
  obtain ⟨p, ws, rfl, h3, h4⟩ := r1
  refine ⟨_, .inl ⟨ws, sq_of (g1.kh _ _ h3), rfl⟩, ?_⟩
  have e : (!ws.isEmpty) = !xs.isEmpty := by
    cases h4 <;> rfl
  rw [e]
  exact q Kn1 H1 g1
end
end Wk
/-! Wk3: calls, statements, loops, comprehensions -/
namespace Wk
open PySem PySem.Spec L2 Evl

/-! ### promises -/
section
variable {α τ : Type} [Rp α] [Tp τ]
/-- a def that changes nothing: it tells f of its arguments -/
def PF (K : Fg) (f : τ → Option α) : Sp := fun vs H Q _ => ∃ Kn t r, Ex Kn H ∧ rept K Kn vs t ∧ f t = some r ∧ RS K Kn H Q r
/-- .. a new list -/
def PL (K : Fg) (f : τ → Option (List α)) : Sp := fun vs H Q _ => ∃ Kn t r, Ex Kn H ∧ rept K Kn vs t ∧ f t = some r ∧ RL K Kn H Q r
/-- its first argument is a list that it changes -/
def PM {β : Type} [Rp β] (K : Fg) (f : List β → τ → Option (α × List β)) : Sp := fun vs H Q _ => ∃ Kn p ws rest t xs r xs', vs = .ref p :: rest ∧ Ex Kn H ∧ Kn p = none ∧ H p = some (.lst ws) ∧ Paired (rep K Kn) ws xs ∧ rept K Kn rest t ∧ f xs t = some (r, xs') ∧
  ∀ v Kn' H' ws', Ex Kn Kn' → Ex Kn' H' → (∀ q, q ≠ p → H q ≠ none → H' q = H q) → (∀ q, H q ≠ none → Kn q = none → Kn' q = none) → H' p = some (.lst ws') → Paired (rep K Kn') ws' xs' → rep K Kn' v r → Q v H'
end
section
variable {K : Fg} {F Kn0 : Hp} {sl sl' : List Sl} {ow ow1 ow2 : List Ow} {α β γ τ : Type} [Rp α] [Rp β] [Rp γ] [Tp τ] {ta : TA} {te : TE} {t : τ} {E : XK}
theorem ev_call {f : τ → Option α} {r : α} (h : EA K F Kn0 sl ow ta t) (hf : f t = some r) : EV K F Kn0 sl ow (tCall (PF K f) [] E ta) r := fun σ Kn H s Q q =>
  h σ Kn H s _ fun vs Kn1 H1 g1 r1 => by
    show PF K f (vs ++ []) H1 Q E
    rw [List.append_nil]
    exact ⟨Kn1, t, r, g1.kh, r1, hf, fun u Kn' H' g' r' => q u Kn' H' (g1.trans g') r'⟩
theorem en_call {f : τ → Option (List α)} {r : List α} (h : EA K F Kn0 sl ow ta t) (hf : f t = some r) : EN K F Kn0 sl ow (tCall (PL K f) [] E ta) r := fun σ Kn H s Q q =>
  h σ Kn H s _ fun vs Kn1 H1 g1 r1 => by
    show PL K f (vs ++ []) H1 Q E
    rw [List.append_nil]
    exact ⟨Kn1, t, r, g1.kh, r1, hf, fun p ws Kn' H' g' hp kp hw r' => q p ws Kn' H' (g1.trans g') (fresh_back g1.hh hp) kp hw r'⟩
theorem em_call {f : τ → Option α} {r : α} (h : EAM K F Kn0 sl ow ta ow1 t) (hf : f t = some r) : EM K F Kn0 sl ow (tCall (PF K f) [] E ta) ow1 r := fun σ Kn H s Q q =>
  h σ Kn H s _ fun vs Kn1 H1 e1 s1 r1 => by
    show PF K f (vs ++ []) H1 Q E
    rw [List.append_nil]
    exact ⟨Kn1, t, r, s1.ek, r1, hf, fun u Kn' H' g' r' => q u Kn' H' (e1.trans g'.kk) (s1.grow g') r'⟩
theorem enm_call {f : τ → Option (List α)} {r : List α} (h : EAM K F Kn0 sl ow ta ow1 t) (hf : f t = some r) : ENM K F Kn0 sl ow (tCall (PL K f) [] E ta) ow1 r := fun σ Kn H s Q q =>
  h σ Kn H s _ fun vs Kn1 H1 e1 s1 r1 => by
    show PL K f (vs ++ []) H1 Q E
    rw [List.append_nil]
    exact ⟨Kn1, t, r, s1.ek, r1, hf, fun p ws Kn' H' g' hp kp hw r' => q p ws Kn' H' (e1.trans g'.kk) (s1.grow g') (fresh_back s1.ef hp) kp (owned_ne s1 hp) hw r'⟩
theorem ow_at {ow : List Ow} (h : (ow.map Ow.ad).Nodup) {i j : Nat} {o u : Ow} (hi : ow[i]? = some o) (hj : ow[j]? = some u) (e : o.ad = u.ad) : i = j := by
  have a1 : (ow.map Ow.ad)[i]? = some o.ad := by rw [List.getElem?_map, hi]; rfl
  have a2 : (ow.map Ow.ad)[j]? = some o.ad := by rw [List.getElem?_map, hj, e]; rfl
  exact nd_ix h a1 a2
/-- the object at place j is another one now, all else as it was -/
theorem S.write {σ : L2.St} {Kn H Kn' H' : Hp} {p : Addr} {xs xs' : List β} {ws : List V} {j : Nat} (s : S K F Kn0 sl ow σ Kn H) (hj : ow[j]? = some (ol p xs)) (kk : Ex Kn Kn') (kh : Ex Kn' H')
    (hq : ∀ q, q ≠ p → H q ≠ none → H' q = H q) (sp : ∀ q, H q ≠ none → Kn q = none → Kn' q = none) (hp : H' p = some (.lst ws)) (r : Paired (rep K Kn') ws xs') : S K F Kn0 sl (ow.set j (ol p xs')) σ Kn' H' := by
  obtain ⟨f1, f2, f3⟩ := s.ow.each _ (List.mem_of_getElem? hj)
  have f1 : F p = none := f1
  have f2 : Kn p = none := f2
  have f4 : H p ≠ none := Ow.there f3
  have jl : j < ow.length := (List.getElem?_eq_some_iff.mp hj).1
  refine ⟨s.e0.trans kk, kh, fun a u h => ?_, fun a h1 h2 => sp a (Ex.nn s.ef h1) (s.sep a h1 h2), s.sl.mono kk, ⟨fun o ho => ?_, ?_⟩⟩
  · have hne : a ≠ p := fun z => by rw [z, f1] at h; cases h
    rw [hq a hne (ne_none_of (s.ef _ _ h))]
    exact s.ef _ _ h
  · obtain ⟨i, hi⟩ := List.getElem?_of_mem ho
    by_cases e : i = j
    · subst e
      rw [List.getElem?_set_self jl] at hi
      cases hi
      exact ⟨f1, sp p f4 f2, ws, hp, r⟩
    · rw [List.getElem?_set_ne (Ne.symm e)] at hi
      obtain ⟨h1, h2, h3⟩ := s.ow.each o (List.mem_of_getElem? hi)
      have h4 := Ow.there h3
      have hne : o.ad ≠ p := fun z => e (ow_at s.ow.nd hi hj z)
      exact ⟨h1, sp _ h4 h2, Ow.ok_mono kk (hq _ hne h4) h3⟩
  · have e : (ow.set j (ol p xs')).map Ow.ad = ow.map Ow.ad := by
      rw [List.map_set]
      refine List.ext_getElem? fun i => ?_
      by_cases e : j = i
      · subst e
        rw [List.getElem?_set_self (by rw [List.length_map]; exact jl), List.getElem?_map, hj]
        rfl
      · rw [List.getElem?_set_ne e]
    rw [e]
    exact s.ow.nd
theorem em_callM {f : List β → τ → Option (α × List β)} {r : α} {i j : Nat} {p : Addr} {xs xs' : List β} (hi : sl[i]? = some (.at p)) (h : EAM K F Kn0 sl ow ta ow1 t) (hj : ow1[j]? = some (ol p xs)) (hf : f xs t = some (r, xs')) :
    EM K F Kn0 sl ow (tCall (PM K f) [] E (tCons (tVar i) ta)) (ow1.set j (ol p xs')) r := fun σ Kn H s Q q => by
  obtain ⟨o, h1, h2⟩ := s.sl.get hi
  refine ⟨.ref p, by rw [h1]; exact congrArg some h2, h σ Kn H s _ fun vs Kn1 H1 e1 s1 r1 => ?_⟩
  show PM K f ((.ref p :: vs) ++ []) H1 Q E
  rw [List.append_nil]
  obtain ⟨f1, f2, ws, f3, f4⟩ := s1.ow.each _ (List.mem_of_getElem? hj)
  exact ⟨Kn1, p, ws, vs, t, xs, r, xs', rfl, s1.ek, f2, f3, f4, r1, hf, fun v Kn' H' ws' kk kh hq sp hp rr rv => q v Kn' H' (e1.trans kk) (s1.write hj kk kh hq sp hp rr) rv⟩
end

/-! ### statements -/
section
variable (K : Fg) (F Kn0 : Hp) (sl : List Sl) (ow : List Ow)
def SN (D : Ends) : Prop := ∀ σ Kn H, S K F Kn0 sl ow σ Kn H → D.nx σ H
def SC (D : Ends) : Prop := ∀ σ Kn H, S K F Kn0 sl ow σ Kn H → D.ct σ H
def SK (D : Ends) : Prop := ∀ σ Kn H, S K F Kn0 sl ow σ Kn H → D.bk σ H
end
section
variable {K : Fg} {F Kn0 : Hp} {sl sl' : List Sl} {ow ow0 ow1 ow2 : List Ow} {α β γ τ : Type} [Rp α] [Rp β] [Rp γ] [Tp τ] {ta tb te : TE} {x : α} {D : Ends} {t u tz : TS} {tt : TT} {b : Bool} {i j : Nat} {p : Addr}
theorem SB.seq (h : SB K F Kn0 sl ow { D with nx := tz D } t) : SB K F Kn0 sl ow D (tSeq t tz) := h
theorem SB.le (h : SB K F Kn0 sl' ow D t) (l : SlLe sl sl') : SB K F Kn0 sl ow D t := fun σ Kn H s => h σ Kn H (s.le l)
theorem SB.sub (h : SB K F Kn0 sl ow1 D t) (l : ow1.Sublist ow) : SB K F Kn0 sl ow D t := fun σ Kn H s => h σ Kn H (s.sub l)
theorem SN.le (h : SN K F Kn0 sl' ow D) (l : SlLe sl sl') : SN K F Kn0 sl ow D := fun σ Kn H s => h σ Kn H (s.le l)
theorem SN.sub (h : SN K F Kn0 sl ow1 D) (l : ow1.Sublist ow) : SN K F Kn0 sl ow D := fun σ Kn H s => h σ Kn H (s.sub l)
theorem EN.le {xs : List α} (h : EN K F Kn0 sl' ow te xs) (l : SlLe sl sl') : EN K F Kn0 sl ow te xs := fun σ Kn H s => h σ Kn H (s.le l)
theorem EV.le (h : EV K F Kn0 sl' ow te x) (l : SlLe sl sl') : EV K F Kn0 sl ow te x := fun σ Kn H s => h σ Kn H (s.le l)
theorem sb_nx (k : SN K F Kn0 sl ow D) : SB K F Kn0 sl ow D tNext := k
theorem sb_ct (k : SC K F Kn0 sl ow D) : SB K F Kn0 sl ow D tCont := k
theorem sb_bk (k : SK K F Kn0 sl ow D) : SB K F Kn0 sl ow D tBreak := k
theorem sb_asg (hs : sl.set i (sv x) = sl') (h : EV K F Kn0 sl ow te x) (k : SN K F Kn0 sl' ow D) : SB K F Kn0 sl ow D (tAsg te (gName i)) := fun σ Kn H s =>
  h σ Kn H s _ fun v Kn1 H1 g1 r1 => k _ Kn1 H1 (hs ▸ (s.grow g1).setv i r1)
theorem sb_asgM (hs : sl.set i (sv x) = sl') (h : EM K F Kn0 sl ow te ow1 x) (k : SN K F Kn0 sl' ow1 D) : SB K F Kn0 sl ow D (tAsg te (gName i)) := fun σ Kn H s =>
  h σ Kn H s _ fun v Kn1 H1 e1 s1 r1 => k _ Kn1 H1 (hs ▸ s1.setv i r1)
/-- a new object is one's own -/
theorem S.own {σ : L2.St} {Kn H : Hp} {xs : List α} {ws : List V} (s : S K F Kn0 sl ow σ Kn H) (fp : F p = none) (kp : Kn p = none) (no : ∀ o ∈ ow, o.ad ≠ p) (hp : H p = some (.lst ws)) (r : Paired (rep K Kn) ws xs) : S K F Kn0 sl (ol p xs :: ow) σ Kn H :=
  ⟨s.e0, s.ek, s.ef, s.sep, s.sl, ⟨fun o ho => by
    rcases List.mem_cons.mp ho with rfl | ho
    · exact ⟨fp, kp, ws, hp, r⟩
    · exact s.ow.each o ho, List.nodup_cons.mpr ⟨fun h => by
      obtain ⟨o, ho, e⟩ := List.mem_map.mp h
      exact no o ho e, s.ow.nd⟩⟩⟩
theorem S.seta {σ : L2.St} {Kn H : Hp} (s : S K F Kn0 sl ow σ Kn H) (i : Nat) : S K F Kn0 (sl.set i (.at p)) ow (σ.set i (some (.ref p))) Kn H := s.set i rfl
theorem sb_asgO {xs : List α} {sl' : Addr → List Sl} (hs : ∀ p, sl.set i (.at p) = sl' p) (h : EN K F Kn0 sl ow te xs) (k : ∀ p, SN K F Kn0 (sl' p) (ol p xs :: ow) D) : SB K F Kn0 sl ow D (tAsg te (gName i)) := fun σ Kn H s =>
  h σ Kn H s _ fun p ws Kn1 H1 g1 hp kp hw r1 => k p _ Kn1 H1 (hs p ▸ ((s.grow g1).own (fresh_back s.ef hp) kp (owned_ne s hp) hw r1).seta i)
theorem sb_asgOM {xs : List α} {sl' : Addr → List Sl} (hs : ∀ p, sl.set i (.at p) = sl' p) (h : ENM K F Kn0 sl ow te ow1 xs) (k : ∀ p, SN K F Kn0 (sl' p) (ol p xs :: ow1) D) : SB K F Kn0 sl ow D (tAsg te (gName i)) := fun σ Kn H s =>
  h σ Kn H s _ fun p ws Kn1 H1 e1 s1 fp kp no hw r1 => k p _ Kn1 H1 (hs p ▸ (s1.own fp kp no hw r1).seta i)
theorem sb_aug {a c : Int} {f : Int → Int → Int} (hi : sl[i]? = some (sv a)) (hs : sl.set i (sv (f a c)) = sl') (h : EV K F Kn0 sl ow te c) (k : SN K F Kn0 sl' ow D) : SB K F Kn0 sl ow D (tAug i te (ipI f)) := fun σ Kn H s => by
  obtain ⟨o, h1, v, h2, h3⟩ := s.sl.get hi
  cases h3
  exact ⟨.int a, by rw [h1, h2], h σ Kn H s _ fun v Kn1 H1 g1 r1 => ⟨a, c, rfl, r1, k _ Kn1 H1 (hs ▸ (s.grow g1).setv (x := f a c) i rfl)⟩⟩
theorem sb_drop (h : EV K F Kn0 sl ow te x) (k : SN K F Kn0 sl ow D) : SB K F Kn0 sl ow D (tDrop te) := fun σ Kn H s => h σ Kn H s _ fun v Kn1 H1 g1 r1 => k _ Kn1 H1 (s.grow g1)
theorem sb_dropM (h : EM K F Kn0 sl ow te ow1 x) (k : SN K F Kn0 sl ow1 D) : SB K F Kn0 sl ow D (tDrop te) := fun σ Kn H s => h σ Kn H s _ fun v Kn1 H1 e1 s1 r1 => k _ Kn1 H1 s1
theorem upd_in {Kn H : Hp} {o : HO} (ek : Ex Kn H) (kp : Kn p = none) : Ex Kn (upd H p o) := fun a u h => by
  have hq : a ≠ p := fun z => by rw [z, kp] at h; cases h
  rw [upd_ne hq]
  exact ek _ _ h
/-- found.append(e) -/
theorem sb_app {xs : List α} (hi : sl[i]? = some (.at p)) (hj : ow[j]? = some (ol p xs)) (h : EV K F Kn0 sl ow te x) (hz : xs.length < 1000000) (k : SN K F Kn0 sl (ow.set j (ol p (xs ++ [x]))) D) :
    SB K F Kn0 sl ow D (tDrop (tBM K "list" rAppend (tVar i) (tCons te tNil))) := fun σ Kn H s => by
  obtain ⟨o, h1, h2⟩ := s.sl.get hi
  obtain ⟨f1, f2, ws, f3, f4⟩ := s.ow.each _ (List.mem_of_getElem? hj)
  refine ⟨.ref p, by rw [h1]; exact congrArg some h2, Or.inl ⟨rfl, ws, sq_of f3⟩, h σ Kn H s _ fun v Kn1 H1 g1 r1 => ?_⟩
  refine ⟨p, ws, v, rfl, rfl, g1.hh _ _ f3, by rw [paired_len f4]; exact lt_line hz, k _ Kn1 _ ?_⟩
  have kp1 : Kn1 p = none := g1.sp p (ne_none_of f3) f2
  exact (s.grow g1).write hj (Ex.refl _) (upd_in g1.kh kp1) (fun q hq _ => upd_ne hq) (fun _ _ h => h) upd_same (paired_append (paired_mono g1.kk f4) (.cons r1 .nil))
theorem sb_appM {xs : List α} (hi : sl[i]? = some (.at p)) (hi0 : ow[j]? = some (ol p xs)) (h : EM K F Kn0 sl ow te ow1 x) (hj : ow1[j]? = some (ol p xs)) (hz : xs.length < 1000000) (k : SN K F Kn0 sl (ow1.set j (ol p (xs ++ [x]))) D) :
    SB K F Kn0 sl ow D (tDrop (tBM K "list" rAppend (tVar i) (tCons te tNil))) := fun σ Kn H s => by
  obtain ⟨o, h1, h2⟩ := s.sl.get hi
  obtain ⟨_, _, ws0, f0, _⟩ := s.ow.each _ (List.mem_of_getElem? hi0)
  refine ⟨.ref p, by rw [h1]; exact congrArg some h2, Or.inl ⟨rfl, ws0, sq_of f0⟩, h σ Kn H s _ fun v Kn1 H1 e1 s1 r1 => ?_⟩
  obtain ⟨f1, f2, ws, f3, f4⟩ := s1.ow.each _ (List.mem_of_getElem? hj)
  refine ⟨p, ws, v, rfl, rfl, f3, by rw [paired_len f4]; exact lt_line hz, k _ Kn1 _ ?_⟩
  exact s1.write hj (Ex.refl _) (upd_in s1.ek f2) (fun q hq _ => upd_ne hq) (fun _ _ h => h) upd_same (paired_append f4 (.cons r1 .nil))
/-- the place of a written index -/
def setI {α : Type} (xs : List α) (i : Int) (x : α) : Option (List α) := (ixN xs.length i).map fun j => xs.set j x
/-- found[e] = x -/
theorem sb_setI {xs xs' : List α} {n : Int} (hi : sl[i]? = some (.at p)) (hj : ow[j]? = some (ol p xs)) (h : EV K F Kn0 sl ow te x) (hn : EV K F Kn0 sl ow tb n) (hx : setI xs n x = some xs') (k : SN K F Kn0 sl (ow.set j (ol p xs')) D) :
    SB K F Kn0 sl ow D (tAsg te (gSub (tVar i) tb rSetL)) := fun σ Kn H s => h σ Kn H s _ fun v Kn1 H1 g1 r1 => by
  obtain ⟨o, h1, h2⟩ := s.sl.get hi
  refine ⟨.ref p, by rw [h1]; exact congrArg some h2, hn σ Kn1 H1 (s.grow g1) _ fun w Kn2 H2 g2 r2 => ?_⟩
  have s2 := (s.grow g1).grow g2
  obtain ⟨f1, f2, ws, f3, f4⟩ := s2.ow.each _ (List.mem_of_getElem? hj)
  unfold setI at hx
  cases e : ixN xs.length n with
  | none => rw [e] at hx; cases hx
  | some m =>
    rw [e] at hx
    cases hx
    cases r2
    refine ⟨p, ws, n, m, rfl, rfl, f3, by rw [paired_len f4]; exact e, k _ Kn2 _ ?_⟩
    exact s2.write hj (Ex.refl _) (upd_in g2.kh f2) (fun q hq _ => upd_ne hq) (fun _ _ h => h) upd_same (paired_set (Rp.mono g2.kk r1) m f4)
/-- from now on it is known and stays as it is -/
theorem sb_freeze {xs : List α} (hi : sl[i]? = some (.at p)) (hj : ow[j]? = some (ol p xs)) (hs : sl.set i (sv xs) = sl') (ho : ow.eraseIdx j = ow1) (k : SB K F Kn0 sl' ow1 D t) : SB K F Kn0 sl ow D t := fun σ Kn H s => by
  obtain ⟨o, h1, h2⟩ := s.sl.get hi
  have h2 : o = some (.ref p) := h2
  obtain ⟨f1, f2, ws, f3, f4⟩ := s.ow.each _ (List.mem_of_getElem? hj)
  have hsub : ow1.Sublist ow := ho ▸ List.eraseIdx_sublist ow j
  have s1 := s.sub hsub
  have no : ∀ o ∈ ow1, o.ad ≠ p := fun o hm z => by
    have hnd := s.ow.nd
    subst ho
    obtain ⟨m, hm'⟩ := List.getElem?_of_mem hm
    rw [List.getElem?_eraseIdx] at hm'
    split at hm'
    · rename_i hlt
      have := ow_at hnd hm' hj z
      omega
    · rename_i hge
      have := ow_at hnd hm' hj z
      omega
  have s2 := s1.know (o := .lst ws) f1 f2 no f3
  have hσ : σ.set i o = σ := by
    refine List.ext_getElem? fun m => ?_
    by_cases e : i = m
    · subst e
      rw [List.getElem?_set_self (List.getElem?_eq_some_iff.mp h1).1, h1]
    · rw [List.getElem?_set_ne e]
  have s3 := s2.set (x := sv xs) (o := o) i ⟨.ref p, h2, p, ws, rfl, upd_same, paired_mono (Ex.new f2) f4⟩
  rw [hs, hσ] at s3
  exact k σ _ H s3
theorem sb_if (h : ET K F Kn0 sl ow tt b) (h1 : b = true → SB K F Kn0 sl ow D t) (h2 : b = false → SB K F Kn0 sl ow D u) : SB K F Kn0 sl ow D (tIfS tt t u) := fun σ Kn H s => h σ Kn H s _ fun Kn1 H1 g1 => by
  cases b with
  | true => exact iteT (h1 rfl σ Kn1 H1 (s.grow g1))
  | false => exact iteF (h2 rfl σ Kn1 H1 (s.grow g1))
theorem sb_cut (h : SB K F Kn0 sl ow { D with nx := fun σ H => ∃ Kn, S K F Kn0 sl' ow1 σ Kn H } t) (k : SB K F Kn0 sl' ow1 D tz) : SB K F Kn0 sl ow D (tCut t tz) := fun σ Kn H s => ⟨_, h σ Kn H s, fun σ' H' ⟨Kn', s'⟩ => k σ' Kn' H' s'⟩
theorem sn_mid (l : SlLe sl sl') (l2 : ow1.Sublist ow) : SN K F Kn0 sl ow { D with nx := fun σ H => ∃ Kn, S K F Kn0 sl' ow1 σ Kn H } := fun σ Kn H s => ⟨Kn, (s.le l).sub l2⟩
/-- returns -/
theorem sb_ret {R : VK} (h : EV K F Kn0 sl ow te x) (q : RT K F Kn0 ow0 R x) (l : ow0.Sublist ow) (hR : D.rt = R := by rfl) : SB K F Kn0 sl ow D (tRet te) := fun σ Kn H s => by
  subst hR
  exact h σ Kn H s _ fun v Kn1 H1 g1 r1 => q v Kn1 H1 ((s.grow g1).sub l).fin r1
theorem sb_retM {R : VK} (h : EM K F Kn0 sl ow te ow1 x) (q : RT K F Kn0 ow0 R x) (l : ow0.Sublist ow1) (hR : D.rt = R := by rfl) : SB K F Kn0 sl ow D (tRet te) := fun σ Kn H s => by
  subst hR
  exact h σ Kn H s _ fun v Kn1 H1 e1 s1 r1 => q v Kn1 H1 (s1.sub l).fin r1
theorem sb_retL {R : VK} {xs : List α} (h : EN K F Kn0 sl ow te xs) (q : RN K F Kn0 ow0 R xs) (l : ow0.Sublist ow) (hR : D.rt = R := by rfl) : SB K F Kn0 sl ow D (tRet te) := fun σ Kn H s => by
  subst hR
  exact h σ Kn H s _ fun p ws Kn1 H1 g1 hp kp hw r1 => q p ws Kn1 H1 ((s.grow g1).sub l).fin (fresh_back s.ef hp) kp hw r1
/-- a list of one's own is told -/
theorem sb_retO {R : VK} {xs : List α} (hi : sl[i]? = some (.at p)) (hj : ow[j]? = some (ol p xs)) (q : RN K F Kn0 ow0 R xs) (l : ow0.Sublist ow) (hR : D.rt = R := by rfl) : SB K F Kn0 sl ow D (tRet (tVar i)) := fun σ Kn H s => by
  subst hR
  obtain ⟨o, h1, h2⟩ := s.sl.get hi
  obtain ⟨f1, f2, ws, f3, f4⟩ := s.ow.each _ (List.mem_of_getElem? hj)
  exact ⟨.ref p, by rw [h1]; exact congrArg some h2, q p ws Kn H (s.sub l).fin f1 f2 f3 f4⟩
theorem SB.seqB (h : (∀ sl' ow', SB K F Kn0 sl' ow' D tz → SN K F Kn0 sl' ow' { D with nx := tz D }) → SB K F Kn0 sl ow { D with nx := tz D } t) : SB K F Kn0 sl ow D (tSeq t tz) := h fun _ _ k => k
theorem SB.cutB (h : (∀ sl2 ow2, SlLe sl2 sl' → ow1.Sublist ow2 → SN K F Kn0 sl2 ow2 { D with nx := fun σ H => ∃ Kn, S K F Kn0 sl' ow1 σ Kn H }) → SB K F Kn0 sl ow { D with nx := fun σ H => ∃ Kn, S K F Kn0 sl' ow1 σ Kn H } t) (k : SB K F Kn0 sl' ow1 D tz) : SB K F Kn0 sl ow D (tCut t tz) :=
  sb_cut (h fun _ _ l l2 => sn_mid l l2) k
end

/-! ### targets -/
section
variable {α β τ : Type} [Rp α] [Rp β] [Tp τ] {sl sl' sl2 : List Sl} {K : Fg}
theorem wipe_set : ∀ {vs : List Nat} {i : Nat} {o : Option V} {σ : L2.St}, i ∈ vs → wipe (σ.set i o) vs = wipe σ vs
  | v :: vs, i, o, σ, h => by
    by_cases e : i ∈ vs
    · unfold wipe
      rw [wipe_set e]
    · have hv : i = v := (List.mem_cons.mp h).resolve_right e
      subst hv
      have w : ∀ (vs : List Nat) (σ : L2.St), i ∉ vs → wipe (σ.set i o) vs = (wipe σ vs).set i o := by
        intro vs
        induction vs with
        | nil => intro σ _; rfl
        | cons a r ih =>
          intro σ hn
          show (wipe (σ.set i o) r).set a none = ((wipe σ r).set a none).set i o
          rw [ih σ (fun z => hn (List.mem_cons_of_mem _ z)), List.set_comm]
          exact fun z => hn (by rw [z]; exact List.mem_cons_self)
      show (wipe (σ.set i o) vs).set i none = (wipe σ vs).set i none
      rw [w vs σ e, List.set_set]
def GT (K : Fg) (g : TG) (sl sl' : List Sl) (js : List Nat) (x : α) : Prop := ∀ σ Kn H v, SlsOk K Kn sl σ → Ex Kn H → rep K Kn v x → ∀ Q : L2.St → Hp → Prop, (∀ σ', SlsOk K Kn sl' σ' → (∀ vs, (∀ j ∈ js, j ∈ vs) → wipe σ' vs = wipe σ vs) → Q σ' H) → g v σ H Q
def GTs (K : Fg) (g : TGs) (sl sl' : List Sl) (js : List Nat) (t : τ) : Prop := ∀ σ Kn H vs, SlsOk K Kn sl σ → Ex Kn H → rept K Kn vs t → ∀ Q : L2.St → Hp → Prop, (∀ σ', SlsOk K Kn sl' σ' → (∀ vs, (∀ j ∈ js, j ∈ vs) → wipe σ' vs = wipe σ vs) → Q σ' H) → g vs σ H Q
theorem gt_name {i : Nat} {x : α} (hs : sl.set i (sv x) = sl') : GT K (gName i) sl sl' [i] x := fun σ Kn H v s ek r Q q => q _ (hs ▸ SlsOk.set (s := sv x) ⟨v, rfl, r⟩ i s) fun vs h => wipe_set (h i (by simp))
theorem gts_nil : GTs K gNil sl sl [] () := fun σ Kn H vs s ek r Q q => ⟨r, q σ s fun _ _ => rfl⟩
theorem gts_cons {g : TG} {gs : TGs} {js ks : List Nat} {x : α} {t : τ} (h1 : GT K g sl sl' js x) (h2 : GTs K gs sl' sl2 ks t) : GTs K (gCons g gs) sl sl2 (js ++ ks) (x, t) := fun σ Kn H vs s ek r Q q => by
  obtain ⟨v, rest, rfl, r1, r2⟩ := r
  exact ⟨v, rest, rfl, h1 σ Kn H v s ek r1 _ fun σ1 s1 w1 => h2 σ1 Kn H rest s1 ek r2 _ fun σ2 s2 w2 => q σ2 s2 fun vs h => (w2 vs fun j hj => h j (List.mem_append_right _ hj)).trans (w1 vs fun j hj => h j (List.mem_append_left _ hj))⟩
theorem gt_tup {gs : TGs} {js : List Nat} {n : Nat} {t : α × τ} (h : GTs K gs sl sl' js t) (hn : Tp.n (α × τ) = n := by rfl) : GT K (gTup K n gs) sl sl' js t := fun σ Kn H v s ek r Q q => by
  obtain ⟨p, ws, rfl, h1, h2⟩ := r
  exact ⟨p, ws, rfl, st_of (ek _ _ h1), (Tp.len h2).trans hn, h σ Kn H ws s ek h2 Q q⟩
end
section
variable {K : Fg} {F Kn0 : Hp} {sl sl' : List Sl} {ow ow1 : List Ow} {α : Type} [Rp α] {te : TE} {x : α} {D : Ends} {g : TG} {js : List Nat}
/-- a, b = e -/
theorem sb_unp (h : EV K F Kn0 sl ow te x) (hg : GT K g sl sl' js x) (k : SN K F Kn0 sl' ow D) : SB K F Kn0 sl ow D (tAsg te g) := fun σ Kn H s =>
  h σ Kn H s _ fun v Kn1 H1 g1 r1 => by
    have s1 := s.grow g1
    exact hg σ Kn1 H1 v s1.sl s1.ek r1 _ fun σ' h' _ => k σ' Kn1 H1 ⟨s1.e0, s1.ek, s1.ef, s1.sep, h', s1.ow⟩
theorem sb_unpM (h : EM K F Kn0 sl ow te ow1 x) (hg : GT K g sl sl' js x) (k : SN K F Kn0 sl' ow1 D) : SB K F Kn0 sl ow D (tAsg te g) := fun σ Kn H s =>
  h σ Kn H s _ fun v Kn1 H1 e1 s1 r1 => hg σ Kn1 H1 v s1.sl s1.ek r1 _ fun σ' h' _ => k σ' Kn1 H1 ⟨s1.e0, s1.ek, s1.ef, s1.sep, h', s1.ow⟩
/-- a, b = e1, e2 -/
theorem sb_par {α β : Type} [Rp α] [Rp β] {ta : TA} {i j : Nat} {x : α} {y : β} (hs : (sl.set i (sv x)).set j (sv y) = sl') (h : EA K F Kn0 sl ow ta (x, y, ())) (k : SN K F Kn0 sl' ow D) : SB K F Kn0 sl ow D (tPar i j ta) := fun σ Kn H s =>
  h σ Kn H s _ fun vs Kn1 H1 g1 r1 => by
    obtain ⟨v, w, rfl, h1, h2⟩ := two_args r1
    exact ⟨v, w, rfl, k _ Kn1 H1 (hs ▸ ((s.grow g1).setv i h1).setv j h2)⟩
end

/-! ### what is walked -/
def WK {β : Type} [Rp β] (K : Fg) (Kn1 : Hp) (J : It) (xs : List β) : Prop := ∀ i Kn' H', Ex Kn1 Kn' → Ex Kn' H' →
  (∀ x, xs[i]? = some x → J.go i H' ∧ ∀ v H2, J.yld i H' v H2 → ∃ Kn2, Gr Kn' H' Kn2 H2 ∧ rep K Kn2 v x) ∧ (xs.length ≤ i → J.stop i H')
section
variable (K : Fg) (F Kn0 : Hp) (sl : List Sl) (ow : List Ow)
def IT {β : Type} [Rp β] (wi : TI) (xs : List β) : Prop := ∀ σ Kn H, S K F Kn0 sl ow σ Kn H → ∀ R : It → Hp → Prop, (∀ J Kn1 H1, Gr Kn H Kn1 H1 → WK K Kn1 J xs → R J H1) → wi σ H R
def ITM {β : Type} [Rp β] (wi : TI) (ow' : List Ow) (xs : List β) : Prop := ∀ σ Kn H, S K F Kn0 sl ow σ Kn H → ∀ R : It → Hp → Prop, (∀ J Kn1 H1, Ex Kn Kn1 → S K F Kn0 sl ow' σ Kn1 H1 → WK K Kn1 J xs → R J H1) → wi σ H R
end
/-- lo, lo + 1 .. below hi -/
def irange (lo hi : Int) : List Int := (List.range (hi - lo).toNat).map fun (k : Nat) => lo + (k : Int)
def rngO (lo hi : Int) : Option (List Int) := if -1000000000000 ≤ lo ∧ lo ≤ 1000000000000 ∧ -1000000000000 ≤ hi ∧ hi ≤ 1000000000000 then some (irange lo hi) else none
def enumI {α : Type} (xs : List α) : List (Int × α × Unit) := xs.mapIdx fun i x => ((i : Int), x, ())
def zipI {α β : Type} (xs : List α) (ys : List β) : List (α × β × Unit) := List.zipWith (fun a b => (a, b, ())) xs ys
section
variable {K : Fg} {F Kn0 : Hp} {sl sl' : List Sl} {ow ow1 : List Ow} {α β : Type} [Rp α] [Rp β] {te : TE} {ta : TA}
theorem IT.m {wi : TI} {xs : List β} (h : IT K F Kn0 sl ow wi xs) : ITM K F Kn0 sl ow wi ow xs := fun σ Kn H s R q => h σ Kn H s R fun J Kn1 H1 g w => q J Kn1 H1 g.kk (s.grow g) w
theorem wk_list {Kn1 : Hp} {p : Addr} {ws : List V} {xs : List α} (h : SqL K Kn1 p ws) (r : Paired (rep K Kn1) ws xs) : WK K Kn1 (Itl K p) xs := fun i Kn' H' e1 e2 => by
  have hq : SqL K H' p ws := ex_l (e1.trans e2) h
  refine ⟨fun x hx => ?_, fun hl => ⟨ws, hq, by rw [paired_len r]; exact hl⟩⟩
  obtain ⟨v, hv, rv⟩ := paired_at r hx
  refine ⟨⟨ws, v, hq, hv⟩, fun u H2 hy => ?_⟩
  obtain ⟨rfl, f⟩ := hy
  have : v = u := Option.some.inj (hv.symm.trans (f ws hq))
  subst this
  exact ⟨Kn', Gr.refl e2, Rp.mono e1 rv⟩
theorem it_list {xs : List α} (h : EV K F Kn0 sl ow te xs) : IT K F Kn0 sl ow (iList K te) xs := fun σ Kn H s R q => h σ Kn H s _ fun v Kn1 H1 g1 r1 => by
  obtain ⟨p, ws, rfl, h3, h4⟩ := r1
  exact ⟨p, rfl, ⟨ws, sq_of (g1.kh _ _ h3)⟩, q _ Kn1 H1 g1 (wk_list (sq_of h3) h4)⟩
theorem it_listF {xs : Fz α} (h : EV K F Kn0 sl ow te xs) : IT K F Kn0 sl ow (iList K te) xs.l := fun σ Kn H s R q => h σ Kn H s _ fun v Kn1 H1 g1 r1 => by
  obtain ⟨p, ws, rfl, h3, h4⟩ := r1
  exact ⟨p, rfl, ⟨ws, ex_l g1.kh h3⟩, q _ Kn1 H1 g1 (wk_list h3 h4)⟩
theorem itm_list {xs : List α} (h : ENM K F Kn0 sl ow te ow1 xs) : ITM K F Kn0 sl ow (iList K te) ow1 xs := fun σ Kn H s R q => h σ Kn H s _ fun p ws Kn1 H1 e1 s1 fp kp no hw r1 => by
  have s2 := s1.know (o := .lst ws) fp kp no hw
  exact ⟨p, rfl, ⟨ws, sq_of hw⟩, q _ _ H1 (e1.trans (Ex.new kp)) s2 (wk_list (sq_of upd_same) (paired_mono (Ex.new kp) r1))⟩
theorem it_tup {xs : Tu α} (h : EV K F Kn0 sl ow te xs) : IT K F Kn0 sl ow (iTup K te) xs.l := fun σ Kn H s R q => h σ Kn H s _ fun v Kn1 H1 g1 r1 => by
  obtain ⟨p, ws, rfl, h3, h4⟩ := r1
  refine ⟨p, rfl, ⟨ws, st_of (g1.kh _ _ h3)⟩, q _ Kn1 H1 g1 fun i Kn' H' e1 e2 => ?_⟩
  have hq : SqT K H' p ws := st_of ((e1.trans e2) _ _ h3)
  refine ⟨fun x hx => ?_, fun hl => ⟨ws, hq, by rw [paired_len h4]; exact hl⟩⟩
  obtain ⟨v, hv, rv⟩ := paired_at h4 hx
  refine ⟨⟨ws, v, hq, hv⟩, fun u H2 hy => ?_⟩
  obtain ⟨rfl, f⟩ := hy
  have : v = u := Option.some.inj (hv.symm.trans (f ws hq))
  subst this
  exact ⟨Kn', Gr.refl e2, Rp.mono e1 rv⟩
theorem wk_range {Kn1 : Hp} (lo hi : Int) : WK K Kn1 (Itr lo (hi - lo).toNat) (irange lo hi) := fun i Kn' H' e1 e2 => by
  refine ⟨fun x hx => ?_, fun hl => ?_⟩
  · unfold irange at hx
    rw [List.getElem?_map] at hx
    cases q : (List.range (hi - lo).toNat)[i]? with
    | none => rw [q] at hx; cases hx
    | some m =>
      rw [q] at hx
      obtain ⟨hlt, he⟩ := List.getElem?_eq_some_iff.mp q
      rw [List.getElem_range] at he
      rw [List.length_range] at hlt
      subst he
      cases hx
      refine ⟨hlt, fun v H2 hy => ?_⟩
      obtain ⟨rfl, rfl⟩ := hy
      exact ⟨Kn', Gr.refl e2, rfl⟩
  · unfold irange at hl
    rw [List.length_map, List.length_range] at hl
    exact hl
theorem it_rng1 {n : Int} {xs : List Int} (h : EA K F Kn0 sl ow ta (n, ())) (hx : rngO 0 n = some xs) : IT K F Kn0 sl ow (iRng1 ta) xs := fun σ Kn H s R q => h σ Kn H s _ fun vs Kn1 H1 g1 r1 => by
  obtain ⟨v, rfl, h1⟩ := one_arg r1
  cases h1
  unfold rngO at hx
  split at hx
  · rename_i hb
    cases hx
    refine ⟨n, rfl, by omega, by omega, q _ Kn1 H1 g1 ?_⟩
    have w := wk_range (K := K) (Kn1 := Kn1) 0 n
    rw [Int.sub_zero] at w
    exact w
  · cases hx
theorem itm_rng1 {n : Int} {xs : List Int} (h : EAM K F Kn0 sl ow ta ow1 (n, ())) (hx : rngO 0 n = some xs) : ITM K F Kn0 sl ow (iRng1 ta) ow1 xs := fun σ Kn H s R q => h σ Kn H s _ fun vs Kn1 H1 e1 s1 r1 => by
  obtain ⟨v, rfl, h1⟩ := one_arg r1
  cases h1
  unfold rngO at hx
  split at hx
  · rename_i hb
    cases hx
    refine ⟨n, rfl, by omega, by omega, q _ Kn1 H1 e1 s1 ?_⟩
    have w := wk_range (K := K) (Kn1 := Kn1) 0 n
    rw [Int.sub_zero] at w
    exact w
  · cases hx
theorem it_rng2 {lo n : Int} {xs : List Int} (h : EA K F Kn0 sl ow ta (lo, n, ())) (hx : rngO lo n = some xs) : IT K F Kn0 sl ow (iRng2 ta) xs := fun σ Kn H s R q => h σ Kn H s _ fun vs Kn1 H1 g1 r1 => by
  obtain ⟨v, w, rfl, h1, h2⟩ := two_args r1
  cases h1
  cases h2
  unfold rngO at hx
  split at hx
  · rename_i hb
    cases hx
    exact ⟨lo, n, rfl, ⟨by omega, by omega, by omega, by omega⟩, q _ Kn1 H1 g1 (wk_range lo n)⟩
  · cases hx
theorem enum_get {xs : List α} {i : Nat} {y : Int × α × Unit} (h : (enumI xs)[i]? = some y) : ∃ x, xs[i]? = some x ∧ y = ((i : Int), x, ()) := by
  unfold enumI at h
  rw [List.getElem?_mapIdx] at h
  cases q : xs[i]? with
  | none => rw [q] at h; cases h
  | some x => rw [q] at h; cases h; exact ⟨x, rfl, rfl⟩
theorem wk_enum {Kn1 : Hp} {p : Addr} {ws : List V} {xs : List α} (h : SqL K Kn1 p ws) (r : Paired (rep K Kn1) ws xs) : WK K Kn1 (Ite K p) (enumI xs) := fun i Kn' H' e1 e2 => by
  have hq : SqL K H' p ws := ex_l (e1.trans e2) h
  refine ⟨fun y hy => ?_, fun hl => ⟨ws, hq, by rw [paired_len r]; simpa [enumI] using hl⟩⟩
  obtain ⟨x, hx, rfl⟩ := enum_get hy
  obtain ⟨v, hv, rv⟩ := paired_at r hx
  refine ⟨⟨ws, v, hq, hv⟩, fun u H2 hy => ?_⟩
  obtain ⟨T, z, rfl, hT, rfl, f⟩ := hy
  have : v = z := Option.some.inj (hv.symm.trans (f ws hq))
  subst this
  have g : Gr Kn' H' (upd Kn' T (.tup [.int (i : Nat), v])) (upd H' T (.tup [.int (i : Nat), v])) := Gr.new e2 hT
  exact ⟨_, g, T, _, rfl, upd_same, .int (i : Nat), [v], rfl, rfl, v, [], rfl, Rp.mono (e1.trans g.kk) rv, rfl⟩
theorem it_enum {xs : List α} (h : EA K F Kn0 sl ow ta (xs, ())) : IT K F Kn0 sl ow (iEnum K ta) (enumI xs) := fun σ Kn H s R q => h σ Kn H s _ fun vs Kn1 H1 g1 r1 => by
  obtain ⟨v, rfl, p, ws, rfl, h3, h4⟩ := one_arg r1
  exact ⟨p, ws, rfl, sq_of (g1.kh _ _ h3), q _ Kn1 H1 g1 (wk_enum (sq_of h3) h4)⟩
theorem zip_get {xs : List α} {ys : List β} {i : Nat} {z : α × β × Unit} (h : (zipI xs ys)[i]? = some z) : ∃ x y, xs[i]? = some x ∧ ys[i]? = some y ∧ z = (x, y, ()) := by
  unfold zipI at h
  rw [List.getElem?_zipWith] at h
  cases q : xs[i]? with
  | none => rw [q] at h; simp at h
  | some x =>
    cases q2 : ys[i]? with
    | none => rw [q, q2] at h; simp at h
    | some y =>
      rw [q, q2] at h
      simp at h
      exact ⟨x, y, rfl, rfl, h.symm⟩
theorem it_zip {xs : List α} {ys : List β} (h : EA K F Kn0 sl ow ta (xs, ys, ())) : IT K F Kn0 sl ow (iZip K ta) (zipI xs ys) := fun σ Kn H s R q => h σ Kn H s _ fun vs Kn1 H1 g1 r1 => by
  obtain ⟨v, w, rfl, ⟨p, ws, rfl, h3, h4⟩, ⟨p2, ws2, rfl, h5, h6⟩⟩ := two_args r1
  refine ⟨p, p2, ws, ws2, rfl, sq_of (g1.kh _ _ h3), sq_of (g1.kh _ _ h5), q _ Kn1 H1 g1 fun i Kn' H' e1 e2 => ?_⟩
  have hq : SqL K H' p ws := sq_of ((e1.trans e2) _ _ h3)
  have hq2 : SqL K H' p2 ws2 := sq_of ((e1.trans e2) _ _ h5)
  refine ⟨fun y hy => ?_, fun hl => ⟨ws, ws2, hq, hq2, ?_⟩⟩
  · obtain ⟨x, y, hx, hy2, rfl⟩ := zip_get hy
    obtain ⟨v, hv, rv⟩ := paired_at h4 hx
    obtain ⟨v2, hv2, rv2⟩ := paired_at h6 hy2
    refine ⟨⟨ws, ws2, v, v2, hq, hq2, hv, hv2⟩, fun u H2 hy => ?_⟩
    obtain ⟨T, z, z2, rfl, hT, rfl, f, f2⟩ := hy
    have e3 : v = z := Option.some.inj (hv.symm.trans (f ws hq))
    have e4 : v2 = z2 := Option.some.inj (hv2.symm.trans (f2 ws2 hq2))
    subst e3
    subst e4
    have g : Gr Kn' H' (upd Kn' T (.tup [v, v2])) (upd H' T (.tup [v, v2])) := Gr.new e2 hT
    exact ⟨_, g, T, _, rfl, upd_same, v, [v2], rfl, Rp.mono (e1.trans g.kk) rv, v2, [], rfl, Rp.mono (e1.trans g.kk) rv2, rfl⟩
  · rw [paired_len h4, paired_len h6]
    simp [zipI] at hl
    omega
end

/-! ### loops -/
structure Bs (F Kn0 Kn1 : Hp) : Prop where
  e : Ex Kn0 Kn1
  sp : ∀ p, F p ≠ none → Kn0 p = none → Kn1 p = none
section
variable {K : Fg} {F Kn0 Kn1 : Hp} {sl sl' : List Sl} {ow ow0 ow1 : List Ow} {α β γ : Type} [Rp α] [Rp β] [Rp γ] {D : Ends} {σ : L2.St} {Kn H : Hp}
theorem Bs.refl : Bs F Kn0 Kn0 := ⟨Ex.refl _, fun _ _ h => h⟩
theorem S.bs (s : S K F Kn0 sl ow σ Kn H) : Bs F Kn0 Kn := ⟨s.e0, s.sep⟩
theorem S.rebase (s : S K F Kn0 sl ow σ Kn H) : S K F Kn sl ow σ Kn H := ⟨Ex.refl _, s.ek, s.ef, fun _ _ h => h, s.sl, s.ow⟩
theorem S.unbase (b : Bs F Kn0 Kn1) (s : S K F Kn1 sl ow σ Kn H) : S K F Kn0 sl ow σ Kn H := ⟨b.e.trans s.e0, s.ek, s.ef, fun p h1 h2 => s.sep p h1 (b.sp p h1 h2), s.sl, s.ow⟩
theorem RT.base {R : VK} {x : α} (q : RT K F Kn0 ow R x) (b : Bs F Kn0 Kn1) : RT K F Kn1 ow R x := fun v Kn H s => q v Kn H (s.unbase b)
theorem RN.base {R : VK} {xs : List α} (q : RN K F Kn0 ow R xs) (b : Bs F Kn0 Kn1) : RN K F Kn1 ow R xs := fun p ws Kn H s => q p ws Kn H (s.unbase b)
theorem SN.base (q : SN K F Kn0 sl ow D) (b : Bs F Kn0 Kn1) : SN K F Kn1 sl ow D := fun σ Kn H s => q σ Kn H (s.unbase b)
theorem sb_for {wi : TI} {g : TG} {tb : TS} {Sx : Type} {xs : List β} (slx : Sx → List Sl) (owx : Sx → List Ow) (gx : β → Sx → List Sl) (js : List Nat) (P : List β → Sx → Prop) (s0 : Sx) (hi : ITM K F Kn0 sl ow wi ow1 xs) (h0 : P xs s0) (le : SlLe sl (slx s0)) (eo : (owx s0).Sublist ow1)
    (hg : ∀ x s, GT K g (slx s) (gx x s) js x)
    (step : ∀ Kn1, Bs F Kn0 Kn1 → ∀ x rest s, P (x :: rest) s → ∀ N : L2.St → Hp → Prop, (∀ s', P rest s' → ∀ σ Kn H, S K F Kn1 (slx s') (owx s') σ Kn H → N σ H) → SB K F Kn1 (gx x s) (owx s) { D with nx := N, ct := N, bk := D.nx } tb)
    (done : ∀ s, P [] s → SN K F Kn0 (slx s) (owx s) D) : SB K F Kn0 sl ow D (tFor wi g tb) := fun σ Kn H s =>
  hi σ Kn H s _ fun J Kn1 H1 e1 s1 w => by
    have b : Bs F Kn0 Kn1 := s1.bs
    refine ⟨fun i m σ H => i + m = xs.length ∧ ∃ Kn s, P (xs.drop i) s ∧ S K F Kn1 (slx s) (owx s) σ Kn H, ⟨xs.length, by omega, Kn1, s0, h0, (s1.rebase.le le).sub eo⟩, fun i m σ H hW => ?_⟩
    obtain ⟨em, Kn, s, hP, hS⟩ := hW
    by_cases hlt : i < xs.length
    · have hx : xs[i]? = some xs[i] := List.getElem?_eq_getElem hlt
      have hd : xs.drop i = xs[i] :: xs.drop (i + 1) := List.drop_eq_getElem_cons hlt
      rw [hd] at hP
      obtain ⟨go, yl⟩ := (w i Kn H hS.e0 hS.ek).1 _ hx
      refine .inr ⟨go, fun σ' H' => ∃ Kn s, P (xs.drop (i + 1)) s ∧ S K F Kn1 (slx s) (owx s) σ' Kn H', fun σ' H' ⟨Kn', s', h1, h2⟩ => ⟨m - 1, by omega, by omega, Kn', s', h1, h2⟩, fun v H' hy => ?_⟩
      obtain ⟨Kn2, g2, rv⟩ := yl v H' hy
      have hS2 := hS.grow g2
      refine hg _ s σ Kn2 H' v hS2.sl hS2.ek rv _ fun σ2 h2 _ => ?_
      exact step Kn1 b _ _ s hP _ (fun s' hs' σ Kn H hS' => ⟨Kn, s', hs', hS'⟩) σ2 Kn2 H' ⟨hS2.e0, hS2.ek, hS2.ef, hS2.sep, h2, hS2.ow⟩
    · have hd : xs.drop i = [] := List.drop_eq_nil_of_le (by omega)
      rw [hd] at hP
      exact .inl ⟨(w i Kn H hS.e0 hS.ek).2 (by omega), done s hP σ Kn H (hS.unbase b)⟩
theorem sb_while {tt : TT} {tb : TS} {Sx : Type} (slx : Sx → List Sl) (owx : Sx → List Ow) (P : Nat → Sx → Prop) (n0 : Nat) (s0 : Sx) (h0 : P n0 s0) (le : SlLe sl (slx s0)) (eo : (owx s0).Sublist ow)
    (step : ∀ n s, P n s → ∃ b, ET K F Kn0 (slx s) (owx s) tt b ∧
      (b = true → ∀ N : L2.St → Hp → Prop, (∀ m s', m < n → P m s' → ∀ σ Kn H, S K F Kn0 (slx s') (owx s') σ Kn H → N σ H) → SB K F Kn0 (slx s) (owx s) { D with nx := N, ct := N, bk := D.nx } tb) ∧ (b = false → SN K F Kn0 (slx s) (owx s) D)) :
    SB K F Kn0 sl ow D (tWhile tt tb) := fun σ Kn H s => by
  refine ⟨fun n σ H => ∃ Kn s, P n s ∧ S K F Kn0 (slx s) (owx s) σ Kn H, ⟨n0, Kn, s0, h0, (s.le le).sub eo⟩, fun n σ H hW => ?_⟩
  obtain ⟨Kn, s, hP, hS⟩ := hW
  obtain ⟨b, h1, h2, h3⟩ := step n s hP
  refine h1 σ Kn H hS _ fun Kn1 H1 g1 => ?_
  cases b with
  | true => exact iteT ⟨fun σ H => ∃ m Kn s, m < n ∧ P m s ∧ S K F Kn0 (slx s) (owx s) σ Kn H, fun σ' H' ⟨m, Kn', s', hm, hp, hs⟩ => ⟨m, hm, Kn', s', hp, hs⟩, h2 rfl _ (fun m s' hm hp σ Kn H hs => ⟨m, Kn, s', hm, hp, hs⟩) σ Kn1 H1 (hS.grow g1)⟩
  | false => exact iteF (h3 rfl σ Kn1 H1 (hS.grow g1))
end

/-! ### comprehensions -/
def lcGo {β γ : Type} (c : β → Option Bool) (f : β → Option γ) : List β → Option (List γ)
  | [] => some []
  | x :: xs => (c x).bind fun b => if b = true then (f x).bind fun z => (lcGo c f xs).bind fun zs => some (z :: zs) else lcGo c f xs
def lcM {β γ : Type} (c : β → Option Bool) (f : β → Option γ) (xs : List β) : Option (List γ) := if xs.length < 1000000 then lcGo c f xs else none
def lcSGo {β γ Sx : Type} (f : β → Sx → Option (γ × Sx)) : List β → Sx → Option (List γ × Sx)
  | [], s => some ([], s)
  | x :: xs, s => (f x s).bind fun r => (lcSGo f xs r.2).bind fun q => some (r.1 :: q.1, q.2)
def lcS {β γ Sx : Type} (f : β → Sx → Option (γ × Sx)) (xs : List β) (s : Sx) : Option (List γ × Sx) := if xs.length < 1000000 then lcSGo f xs s else none
section
variable {K : Fg} {F Kn0 : Hp} {sl sl' : List Sl} {ow ow0 ow1 : List Ow} {α β γ : Type} [Rp α] [Rp β] [Rp γ] {σ : L2.St} {Kn H : Hp} {tt : TT} {te : TE} {wi : TI} {g : TG} {vs js : List Nat}
theorem bind_some {α β : Type} {m : Option α} {f : α → Option β} {r : β} (h : m.bind f = some r) : ∃ a, m = some a ∧ f a = some r := by
  cases m with
  | none => cases h
  | some a => exact ⟨a, rfl, h⟩
theorem SlsOk.wipe : ∀ {vs : List Nat} {Kn : Hp} {sl : List Sl} {σ : L2.St}, (∀ j ∈ vs, sl[j]? = some .any) → SlsOk K Kn sl σ → SlsOk K Kn sl (wipe σ vs)
  | [], _, _, _, _, h => h
  | v :: vs, Kn, sl, σ, hv, h => by
    have h1 := SlsOk.wipe (vs := vs) (fun j hj => hv j (List.mem_cons_of_mem _ hj)) h
    have h2 := SlsOk.set (K := K) (H := Kn) (s := .any) (o := none) trivial v h1
    have e : sl.set v .any = sl := by
      refine List.ext_getElem? fun m => ?_
      have hm := hv v List.mem_cons_self
      by_cases q : v = m
      · subst q
        rw [List.getElem?_set_self (List.getElem?_eq_some_iff.mp hm).1, hm]
      · rw [List.getElem?_set_ne q]
    rw [e] at h2
    exact h2
theorem S.wipe (s : S K F Kn0 sl ow σ Kn H) (hv : ∀ j ∈ vs, sl[j]? = some .any) : S K F Kn0 sl ow (wipe σ vs) Kn H := ⟨s.e0, s.ek, s.ef, s.sep, s.sl.wipe hv, s.ow⟩
theorem Gr.mut {Kn' H' : Hp} {p : Addr} {o : HO} (g : Gr Kn H Kn' H') (hp : H p = none) (kp : Kn' p = none) : Gr Kn H Kn' (upd H' p o) :=
  ⟨g.kk, Ex.mut g.hh hp, upd_in g.kh kp, g.sp⟩
theorem S.slots {σ2 : L2.St} (s : S K F Kn0 sl ow σ Kn H) (h : SlsOk K Kn sl' σ2) : S K F Kn0 sl' ow σ2 Kn H := ⟨s.e0, s.ek, s.ef, s.sep, h, s.ow⟩
theorem en_lc {xs : List β} {zs : List γ} {c : β → Option Bool} {f : β → Option γ} (gx : β → List Sl) (hm : lcM c f xs = some zs) (hi : IT K F Kn0 sl ow wi xs) (hv : ∀ j ∈ vs, sl[j]? = some .any) (hg : ∀ x, GT K g sl (gx x) js x) (hj : ∀ j ∈ js, j ∈ vs)
    (ht : ∀ p (acc : List γ) x b, c x = some b → ET K F Kn0 (gx x) (ol p acc :: ow) tt b) (he : ∀ p (acc : List γ) x z, c x = some true → f x = some z → EV K F Kn0 (gx x) (ol p acc :: ow) te z) :
    EN K F Kn0 sl ow (tLc wi g tt te vs) zs := fun σ Kn H s Q q => by
  unfold lcM at hm
  split at hm
  case isFalse => cases hm
  rename_i hlen
  refine hi σ Kn H s _ fun J Kn1 H1 g1 w D hD => ?_
  have s1 := s.grow g1
  have kD : Kn1 D = none := fresh_back s1.ek hD
  have fD : F D = none := fresh_back s1.ef hD
  refine ⟨fun i m H' => i + m = xs.length ∧ ∃ Kn' ws acc rest, Gr Kn1 H1 Kn' H' ∧ Kn' D = none ∧ H' D = some (.lst ws) ∧ Paired (rep K Kn') ws acc ∧ acc.length ≤ i ∧ lcGo c f (xs.drop i) = some rest ∧ acc ++ rest = zs,
    ⟨xs.length, by omega, Kn1, [], [], zs, (Gr.newU g1.kh hD), kD, upd_same, .nil, Nat.le_refl _, hm, rfl⟩, fun i m H' hW => ?_⟩
  obtain ⟨em, Kn', ws, acc, rest, gr, kD', hD', rp, hal, hrest, hz⟩ := hW
  have s' : S K F Kn0 sl (ol D acc :: ow) σ Kn' H' := (s1.grow gr).own fD kD' (owned_ne s1 hD) hD' rp
  by_cases hlt : i < xs.length
  · have hx : xs[i]? = some xs[i] := List.getElem?_eq_getElem hlt
    have hd : xs.drop i = xs[i] :: xs.drop (i + 1) := List.drop_eq_getElem_cons hlt
    rw [hd] at hrest
    obtain ⟨b, hb, hrest⟩ := bind_some hrest
    obtain ⟨go, yl⟩ := (w i Kn' H' gr.kk gr.kh).1 _ hx
    refine .inr ⟨go, fun H'' => ∃ Kn' ws acc rest, Gr Kn1 H1 Kn' H'' ∧ Kn' D = none ∧ H'' D = some (.lst ws) ∧ Paired (rep K Kn') ws acc ∧ acc.length ≤ i + 1 ∧ lcGo c f (xs.drop (i + 1)) = some rest ∧ acc ++ rest = zs, fun H'' h => ⟨m - 1, by omega, by omega, h⟩, fun v H2 hy => ?_⟩
    obtain ⟨Kn2, g2, rv⟩ := yl v H2 hy
    have s2 := (s'.grow g2).wipe hv
    refine hg _ _ Kn2 H2 v s2.sl s2.ek rv _ fun σ3 h3 hw3 => ?_
    have s3 := s2.slots h3
    have hDn : H' D ≠ none := ne_none_of hD'
    refine ⟨(hw3 vs hj).trans ?_, ht D acc _ b hb σ3 Kn2 H2 s3 _ fun Kn3 H3 g3 => ?_⟩
    · have ww : ∀ (vs us : List Nat) (σ : L2.St), (∀ j ∈ vs, j ∈ us) → L2.wipe (L2.wipe σ vs) us = L2.wipe σ us := by
        intro vs
        induction vs with
        | nil => intro us σ _; rfl
        | cons a r ih =>
          intro us σ hh
          show L2.wipe ((L2.wipe σ r).set a none) us = L2.wipe σ us
          rw [wipe_set (hh a List.mem_cons_self)]
          exact ih us σ fun j hj => hh j (List.mem_cons_of_mem _ hj)
      exact ww vs vs σ fun _ h => h
    · have g123 : Gr Kn1 H1 Kn3 H3 := (gr.trans g2).trans g3
      have kD3 : Kn3 D = none := (g2.trans g3).sp D hDn kD'
      have hD3 : H3 D = some (.lst ws) := (g2.trans g3).hh _ _ hD'
      cases b with
      | true =>
        obtain ⟨z, hfz, hrest⟩ := bind_some (show (f xs[i]).bind _ = some rest from hrest)
        obtain ⟨zs', hzs, hrest⟩ := bind_some hrest
        cases hrest
        refine iteT (he D acc _ z hb hfz σ3 Kn3 H3 (s3.grow g3) _ fun y Kn4 H4 g4 ry => ?_)
        have g234 := (g2.trans g3).trans g4
        have kD4 : Kn4 D = none := g4.sp D (ne_none_of hD3) kD3
        refine ⟨ws, g4.hh _ _ hD3, by rw [paired_len rp]; exact lt_line (by omega), Kn4, ws ++ [y], acc ++ [z], zs', (gr.trans g234).mut hD kD4, kD4, upd_same, paired_append (paired_mono g234.kk rp) (.cons ry .nil), ?_, hzs, ?_⟩
        · rw [List.length_append, List.length_singleton]; omega
        · rw [List.append_assoc]; exact hz
      | false =>
        have hrest : lcGo c f (xs.drop (i + 1)) = some rest := hrest
        exact iteF ⟨Kn3, ws, acc, rest, g123, kD3, hD3, paired_mono (g2.trans g3).kk rp, by omega, hrest, hz⟩
  · have hd : xs.drop i = [] := List.drop_eq_nil_of_le (by omega)
    rw [hd] at hrest
    cases hrest
    rw [List.append_nil] at hz
    subst hz
    exact .inl ⟨(w i Kn' H' gr.kk gr.kh).2 (by omega), q D ws Kn' H' (g1.trans gr) (fresh_back g1.hh hD) kD' hD' rp⟩
theorem et_yes : ET K F Kn0 sl ow tYes true := fun σ Kn H s Q q => q Kn H (Gr.refl s.ek)
/-- what changes on the way: owx -/
theorem enm_lc {Sx : Type} {xs : List β} {zs : List γ} {f : β → Sx → Option (γ × Sx)} (owx : Sx → List Ow) (gx : β → List Sl) (s0 s9 : Sx) (hm : lcS f xs s0 = some (zs, s9)) (hi : ITM K F Kn0 sl ow wi (owx s0) xs) (hv : ∀ j ∈ vs, sl[j]? = some .any) (hg : ∀ x, GT K g sl (gx x) js x) (hj : ∀ j ∈ js, j ∈ vs)
    (he : ∀ Kn1, Bs F Kn0 Kn1 → ∀ p (acc : List γ) x s z s', f x s = some (z, s') → EM K F Kn1 (gx x) (ol p acc :: owx s) te (ol p acc :: owx s') z) :
    ENM K F Kn0 sl ow (tLc wi g tYes te vs) (owx s9) zs := fun σ Kn H s Q q => by
  unfold lcS at hm
  split at hm
  case isFalse => cases hm
  rename_i hlen
  refine hi σ Kn H s _ fun J Kn1 H1 e1 s1 w D hD => ?_
  have kD : Kn1 D = none := fresh_back s1.ek hD
  have fD : F D = none := fresh_back s1.ef hD
  have b1 : Bs F Kn0 Kn1 := s1.bs
  refine ⟨fun i m H' => i + m = xs.length ∧ ∃ Kn' st acc rest, S K F Kn1 sl (ol D acc :: owx st) σ Kn' H' ∧ acc.length ≤ i ∧ lcSGo f (xs.drop i) st = some (rest, s9) ∧ acc ++ rest = zs,
    ⟨xs.length, by omega, Kn1, s0, [], zs, ?_, Nat.le_refl _, hm, rfl⟩, fun i m H' hW => ?_⟩
  · have s2 := s1.rebase.grow (Gr.newU (o := .lst []) s1.ek hD)
    exact s2.own fD kD (owned_ne s1 hD) upd_same .nil
  obtain ⟨em, Kn', st, acc, rest, s', hal, hrest, hz⟩ := hW
  obtain ⟨_, kD', ws, hD', rp⟩ := s'.ow.each (ol D acc) List.mem_cons_self
  have hD' : H' D = some (.lst ws) := hD'
  by_cases hlt : i < xs.length
  · have hx : xs[i]? = some xs[i] := List.getElem?_eq_getElem hlt
    have hd : xs.drop i = xs[i] :: xs.drop (i + 1) := List.drop_eq_getElem_cons hlt
    rw [hd] at hrest
    obtain ⟨⟨z, st'⟩, hf, hrest⟩ := bind_some hrest
    obtain ⟨⟨zs', s9'⟩, hzs, hrest⟩ := bind_some hrest
    have h9 := Option.some.inj hrest
    have h91 : z :: zs' = rest := congrArg Prod.fst h9
    have h92 : s9' = s9 := congrArg Prod.snd h9
    rw [h92] at hzs
    subst h91
    obtain ⟨go, yl⟩ := (w i Kn' H' s'.e0 s'.ek).1 _ hx
    refine .inr ⟨go, fun H'' => ∃ Kn' st acc rest, S K F Kn1 sl (ol D acc :: owx st) σ Kn' H'' ∧ acc.length ≤ i + 1 ∧ lcSGo f (xs.drop (i + 1)) st = some (rest, s9) ∧ acc ++ rest = zs, fun H'' h => ⟨m - 1, by omega, by omega, h⟩, fun v H2 hy => ?_⟩
    obtain ⟨Kn2, g2, rv⟩ := yl v H2 hy
    have s2 := (s'.grow g2).wipe hv
    refine hg _ _ Kn2 H2 v s2.sl s2.ek rv _ fun σ3 h3 hw3 => ?_
    have s3 := s2.slots h3
    refine ⟨(hw3 vs hj).trans ?_, ?_⟩
    · have ww : ∀ (vs us : List Nat) (σ : L2.St), (∀ j ∈ vs, j ∈ us) → L2.wipe (L2.wipe σ vs) us = L2.wipe σ us := by
        intro vs
        induction vs with
        | nil => intro us σ _; rfl
        | cons a r ih =>
          intro us σ hh
          show L2.wipe ((L2.wipe σ r).set a none) us = L2.wipe σ us
          rw [wipe_set (hh a List.mem_cons_self)]
          exact ih us σ fun j hj => hh j (List.mem_cons_of_mem _ hj)
      exact ww vs vs σ fun _ h => h
    · unfold tYes
      refine iteT ?_
      refine he Kn1 b1 D acc _ st z st' hf σ3 Kn2 H2 s3 _ fun y Kn4 H4 e4 s4 ry => ?_
      obtain ⟨_, kD4, ws4, hD4, rp4⟩ := s4.ow.each (ol D acc) List.mem_cons_self
      have kD4 : Kn4 D = none := kD4
      have s5 : S K F Kn1 (gx xs[i]) (ol D (acc ++ [z]) :: owx st') σ3 Kn4 (upd H4 D (.lst (ws4 ++ [y]))) := s4.write (j := 0) (xs' := acc ++ [z]) rfl (Ex.refl _) (upd_in s4.ek kD4) (fun q hq _ => upd_ne hq) (fun _ _ h => h) upd_same (paired_append rp4 (.cons ry .nil))
      have hsl : SlsOk K Kn4 sl σ := s'.sl.mono (g2.kk.trans e4)
      refine ⟨ws4, hD4, by rw [paired_len rp4]; exact lt_line (by omega), Kn4, st', acc ++ [z], zs', s5.slots hsl, ?_, hzs, ?_⟩
      · rw [List.length_append, List.length_singleton]; omega
      · rw [List.append_assoc]; exact hz
  · have hd : xs.drop i = [] := List.drop_eq_nil_of_le (by omega)
    rw [hd] at hrest
    have h9 := Option.some.inj hrest
    have h91 : [] = rest := congrArg Prod.fst h9
    have h92 : st = s9 := congrArg Prod.snd h9
    subst h91
    subst h92
    rw [List.append_nil] at hz
    subst hz
    have no : ∀ o ∈ owx st, o.ad ≠ D := fun o ho z => (List.nodup_cons.mp s'.ow.nd).1 (List.mem_map.mpr ⟨o, ho, z⟩)
    exact .inl ⟨(w i Kn' H' s'.e0 s'.ek).2 (by omega), q D ws Kn' H' (e1.trans s'.e0) ((s'.unbase b1).sub (List.sublist_cons_self _ _)) fD kD' no hD' rp⟩
end
end Wk
/-! Wk4: loops as functions, == of data, kinds, lists of one's own that are read -/
namespace Wk
open PySem PySem.Spec L2 Evl

/-! ### the mirrors' words -/
inductive Ctl (Sx R : Type) where
  | nx (s : Sx)
  | bk (s : Sx)
  | rt (r : R)
def forS {β Sx : Type} (f : β → Sx → Option Sx) : List β → Sx → Option Sx
  | [], s => some s
  | x :: xs, s => (f x s).bind (forS f xs)
def forC {β Sx R : Type} (f : β → Sx → Option (Ctl Sx R)) : List β → Sx → Option (Ctl Sx R)
  | [], s => some (.nx s)
  | x :: xs, s => (f x s).bind fun c => match c with
    | .nx s' => forC f xs s'
    | .bk s' => some (.nx s')
    | .rt r => some (.rt r)
def whileS {Sx : Type} (c : Sx → Option Bool) (f : Sx → Option Sx) : Nat → Sx → Option Sx
  | 0, _ => none
  | n + 1, s => (c s).bind fun b => if b = true then (f s).bind (whileS c f n) else some s
def whileC {Sx R : Type} (c : Sx → Option Bool) (f : Sx → Option (Ctl Sx R)) : Nat → Sx → Option (Ctl Sx R)
  | 0, _ => none
  | n + 1, s => (c s).bind fun b => if b = true then (f s).bind fun c' => match c' with
    | .nx s' => whileC c f n s'
    | .bk s' => some (.nx s')
    | .rt r => some (.rt r) else some (.nx s)
theorem whileS_more {Sx : Type} {c : Sx → Option Bool} {f : Sx → Option Sx} : ∀ {n m : Nat} {s r : Sx}, whileS c f n s = some r → n ≤ m → whileS c f m s = some r
  | 0, _, _, _, h, _ => by cases h
  | n + 1, 0, _, _, _, h => absurd h (Nat.not_succ_le_zero _)
  | n + 1, m + 1, s, r, h, hm => by
    unfold whileS at h ⊢
    cases e : c s with
    | none => rw [e] at h; cases h
    | some b =>
      rw [e] at h
      cases b with
      | false => exact h
      | true =>
        have h : ((f s).bind (whileS c f n)) = some r := h
        show ((f s).bind (whileS c f m)) = some r
        cases e2 : f s with
        | none => rw [e2] at h; cases h
        | some s' =>
          rw [e2] at h
          exact whileS_more (show whileS c f n s' = some r from h) (Nat.le_of_succ_le_succ hm)
theorem whileC_more {Sx R : Type} {c : Sx → Option Bool} {f : Sx → Option (Ctl Sx R)} : ∀ {n m : Nat} {s : Sx} {r : Ctl Sx R}, whileC c f n s = some r → n ≤ m → whileC c f m s = some r
  | 0, _, _, _, h, _ => by cases h
  | n + 1, 0, _, _, _, h => absurd h (Nat.not_succ_le_zero _)
  | n + 1, m + 1, s, r, h, hm => by
    unfold whileC at h ⊢
    cases e : c s with
    | none => rw [e] at h; cases h
    | some b =>
      rw [e] at h
      cases b with
      | false => exact h
      | true =>
        have h : ((f s).bind _) = some r := h
        show ((f s).bind _) = some r
        cases e2 : f s with
        | none => rw [e2] at h; cases h
        | some k =>
          rw [e2] at h
          cases k with
          | nx s' => exact whileC_more (show whileC c f n s' = some r from h) (Nat.le_of_succ_le_succ hm)
          | bk _ => exact h
          | rt _ => exact h
/-- a while, for as many turns as it takes -/
noncomputable def whileF {Sx : Type} (c : Sx → Option Bool) (f : Sx → Option Sx) (s : Sx) : Option Sx := by
  classical exact if h : ∃ n r, whileS c f n s = some r then some h.choose_spec.choose else none
theorem whileF_some {Sx : Type} {c : Sx → Option Bool} {f : Sx → Option Sx} {s r : Sx} (h : whileF c f s = some r) : ∃ n, whileS c f n s = some r := by
  unfold whileF at h
  split at h
  · rename_i he
    refine ⟨he.choose, ?_⟩
    rw [← Option.some.inj h]
    exact he.choose_spec.choose_spec
  · cases h
theorem whileF_of {Sx : Type} {c : Sx → Option Bool} {f : Sx → Option Sx} {n : Nat} {s r : Sx} (h : whileS c f n s = some r) : whileF c f s = some r := by
  have he : ∃ n r, whileS c f n s = some r := ⟨n, r, h⟩
  unfold whileF
  rw [dif_pos he]
  have h2 := he.choose_spec.choose_spec
  have a := whileS_more h (Nat.le_max_left n he.choose)
  have b := whileS_more h2 (Nat.le_max_right n he.choose)
  exact b.symm.trans a
noncomputable def whileCF {Sx R : Type} (c : Sx → Option Bool) (f : Sx → Option (Ctl Sx R)) (s : Sx) : Option (Ctl Sx R) := by
  classical exact if h : ∃ n r, whileC c f n s = some r then some h.choose_spec.choose else none
theorem whileCF_some {Sx R : Type} {c : Sx → Option Bool} {f : Sx → Option (Ctl Sx R)} {s : Sx} {r : Ctl Sx R} (h : whileCF c f s = some r) : ∃ n, whileC c f n s = some r := by
  unfold whileCF at h
  split at h
  · rename_i he
    refine ⟨he.choose, ?_⟩
    rw [← Option.some.inj h]
    exact he.choose_spec.choose_spec
  · cases h
theorem whileCF_of {Sx R : Type} {c : Sx → Option Bool} {f : Sx → Option (Ctl Sx R)} {n : Nat} {s : Sx} {r : Ctl Sx R} (h : whileC c f n s = some r) : whileCF c f s = some r := by
  have he : ∃ n r, whileC c f n s = some r := ⟨n, r, h⟩
  unfold whileCF
  rw [dif_pos he]
  have h2 := he.choose_spec.choose_spec
  have a := whileC_more h (Nat.le_max_left n he.choose)
  have b := whileC_more h2 (Nat.le_max_right n he.choose)
  exact b.symm.trans a
def appO {α : Type} (xs : List α) (x : α) : Option (List α) := if xs.length < 1000000 then some (xs ++ [x]) else none
def modO (i j : Int) : Option Int := if 0 < j then some (i % j) else none
def divO (i j : Int) : Option Int := if 0 < j ∧ j < 18446744073709551616 then some (i / j) else none
def mulO (i j : Int) : Option Int := if -18446744073709551616 < i ∧ i < 18446744073709551616 then some (i * j) else none
def catO {α : Type} (xs ys : List α) : Option (List α) := if xs.length + ys.length ≤ 1000000 then some (xs ++ ys) else none
theorem appO_some {α : Type} {xs ys : List α} {x : α} (h : appO xs x = some ys) : xs.length < 1000000 ∧ ys = xs ++ [x] := by
  unfold appO at h
  split at h
  · exact ⟨by assumption, (Option.some.inj h).symm⟩
  · cases h
theorem appO_ok {α : Type} {xs : List α} {x : α} (h : xs.length < 1000000) : appO xs x = some (xs ++ [x]) := if_pos h
theorem modO_ok {i j : Int} (h : 0 < j) : modO i j = some (i % j) := if_pos h
theorem divO_ok {i j : Int} (h : 0 < j) (h2 : j < 18446744073709551616) : divO i j = some (i / j) := if_pos ⟨h, h2⟩
theorem mulO_ok {i j : Int} (h : -18446744073709551616 < i) (h2 : i < 18446744073709551616) : mulO i j = some (i * j) := if_pos ⟨h, h2⟩
theorem catO_ok {α : Type} {xs ys : List α} (h : xs.length + ys.length ≤ 1000000) : catO xs ys = some (xs ++ ys) := if_pos h

section
variable {K : Fg} {F Kn0 : Hp} {sl sl' : List Sl} {ow ow0 ow1 ow2 : List Ow} {α β γ τ : Type} [Rp α] [Rp β] [Rp γ] [Tp τ] {ta tb te : TE} {x : α} {D : Ends} {t u tz : TS} {tt : TT} {b : Bool} {i j : Nat} {p : Addr}
theorem SB.sn (h : SB K F Kn0 sl ow D tz) : SN K F Kn0 sl ow { D with nx := tz D } := h
theorem r2_modO {i j z : Int} (h : modO i j = some z) : R2V K (rI (fun _ j => 0 < j) fun i j => .int (i % j)) i j z := by
  unfold modO at h
  split at h
  · cases h
    exact r2_I (by assumption)
  · cases h
theorem r2_divO {i j z : Int} (h : divO i j = some z) : R2V K (rI CDivW fun i j => .int (i / j)) i j z := by
  unfold divO at h
  split at h
  · rename_i hb
    cases h
    exact r2_I (wide_div (b := 64) hb.1 (by omega) (by decide) (by decide))
  · cases h
theorem r2_mulO {i j z : Int} (h : mulO i j = some z) : R2V K (rI CMul fun i j => .int (i * j)) i j z := by
  unfold mulO at h
  split at h
  · rename_i hb
    cases h
    exact r2_I (.inl ⟨by omega, by omega⟩)
  · cases h
theorem r2_catO {xs ys zs : List α} (h : catO xs ys = some zs) : R2L K rCat xs ys zs := by
  unfold catO at h
  split at h
  · cases h
    exact r2_cat (by assumption)
  · cases h
theorem sb_appO {xs xs' : List α} (hi : sl[i]? = some (.at p)) (hj : ow[j]? = some (ol p xs)) (h : EV K F Kn0 sl ow te x) (hx : appO xs x = some xs') (ho : ow.set j (ol p xs') = ow1) (k : SN K F Kn0 sl ow1 D) :
    SB K F Kn0 sl ow D (tDrop (tBM K "list" rAppend (tVar i) (tCons te tNil))) := by
  obtain ⟨h1, rfl⟩ := appO_some hx
  subst ho
  exact sb_app hi hj h h1 k
theorem sb_appOM {xs xs' : List α} (hi : sl[i]? = some (.at p)) (hi0 : ow[j]? = some (ol p xs)) (h : EM K F Kn0 sl ow te ow1 x) (hj : ow1[j]? = some (ol p xs)) (hx : appO xs x = some xs') (ho : ow1.set j (ol p xs') = ow2) (k : SN K F Kn0 sl ow2 D) :
    SB K F Kn0 sl ow D (tDrop (tBM K "list" rAppend (tVar i) (tCons te tNil))) := by
  obtain ⟨h1, rfl⟩ := appO_some hx
  subst ho
  exact sb_appM hi hi0 h hj h1 k
theorem sb_setO {xs xs' : List α} {n : Int} (hi : sl[i]? = some (.at p)) (hj : ow[j]? = some (ol p xs)) (h : EV K F Kn0 sl ow te x) (hn : EV K F Kn0 sl ow tb n) (hx : setI xs n x = some xs') (ho : ow.set j (ol p xs') = ow1) (k : SN K F Kn0 sl ow1 D) :
    SB K F Kn0 sl ow D (tAsg te (gSub (tVar i) tb rSetL)) := by
  subst ho
  exact sb_setI hi hj h hn hx k

/-! ### lists of one's own, read -/
theorem S.borrow {σ : L2.St} {Kn H : Hp} {xs : List α} (s : S K F Kn0 sl ow σ Kn H) (hi : sl[i]? = some (.at p)) (hj : ow[j]? = some (ol p xs)) : ∃ ws, Kn p = none ∧ H p = some (.lst ws) ∧ S K F Kn0 (sl.set i (sv xs)) (ow.eraseIdx j) σ (upd Kn p (.lst ws)) H := by
  obtain ⟨o, h1, h2⟩ := s.sl.get hi
  have h2 : o = some (.ref p) := h2
  obtain ⟨f1, f2, ws, f3, f4⟩ := s.ow.each _ (List.mem_of_getElem? hj)
  have s1 := s.sub (List.eraseIdx_sublist ow j)
  have no : ∀ o ∈ ow.eraseIdx j, o.ad ≠ p := fun o hm z => by
    obtain ⟨m, hm'⟩ := List.getElem?_of_mem hm
    rw [List.getElem?_eraseIdx] at hm'
    split at hm'
    · have := ow_at s.ow.nd hm' hj z
      omega
    · have := ow_at s.ow.nd hm' hj z
      omega
  have s2 := s1.know (o := .lst ws) f1 f2 no f3
  have hσ : σ.set i o = σ := by
    refine List.ext_getElem? fun m => ?_
    by_cases e : i = m
    · subst e
      rw [List.getElem?_set_self (List.getElem?_eq_some_iff.mp h1).1, h1]
    · rw [List.getElem?_set_ne e]
  have s3 := s2.set (x := sv xs) (o := o) i ⟨.ref p, h2, p, ws, rfl, upd_same, paired_mono (Ex.new f2) f4⟩
  rw [hσ] at s3
  exact ⟨ws, f2, f3, s3⟩
theorem ev_bor {γ : Type} [Rp γ] [Fl γ] {z : γ} {xs : List α} (hi : sl[i]? = some (.at p)) (hj : ow[j]? = some (ol p xs)) (hs : sl.set i (sv xs) = sl') (ho : ow.eraseIdx j = ow1) (h : EV K F Kn0 sl' ow1 te z) : EV K F Kn0 sl ow te z := fun σ Kn H s Q q => by
  obtain ⟨ws, kp, hp, s1⟩ := s.borrow hi hj
  subst hs
  subst ho
  exact h σ _ H s1 Q fun v Kn' H' g r => q v Kn H' ⟨Ex.refl _, g.hh, s.ek.trans g.hh, fun _ _ h => h⟩ (Fl.iff.mpr (Fl.iff.mp r))
theorem et_bor {xs : List α} (hi : sl[i]? = some (.at p)) (hj : ow[j]? = some (ol p xs)) (hs : sl.set i (sv xs) = sl') (ho : ow.eraseIdx j = ow1) (h : ET K F Kn0 sl' ow1 tt b) : ET K F Kn0 sl ow tt b := fun σ Kn H s Q q => by
  obtain ⟨ws, kp, hp, s1⟩ := s.borrow hi hj
  subst hs
  subst ho
  exact h σ _ H s1 Q fun Kn' H' g => q Kn H' ⟨Ex.refl _, g.hh, s.ek.trans g.hh, fun _ _ h => h⟩
theorem ev_ixO {xs : List α} {n : Int} {z : α} (hi : sl[i]? = some (.at p)) (hj : ow[j]? = some (ol p xs)) (hn : EV K F Kn0 sl ow tb n) (hz : atI xs n = some z) : EV K F Kn0 sl ow (tOp (rIxL K) (tVar i) tb) z := fun σ Kn H s Q q => by
  obtain ⟨o, h1, h2⟩ := s.sl.get hi
  obtain ⟨f1, f2, ws, f3, f4⟩ := s.ow.each _ (List.mem_of_getElem? hj)
  refine ⟨.ref p, by rw [h1]; exact congrArg some h2, hn σ Kn H s _ fun v Kn1 H1 g1 r1 => ?_⟩
  cases r1
  obtain ⟨u, e, r⟩ := paired_atI f4 hz
  exact ⟨p, ws, n, u, rfl, rfl, sq_of (g1.hh _ _ f3), e, q u Kn1 H1 g1 (Rp.mono g1.kk r)⟩
theorem en_slO {xs : List α} {tl th : TO} {lo hi : Option Int} (hx : sl[i]? = some (.at p)) (hj : ow[j]? = some (ol p xs)) (hl : EO K F Kn0 sl ow tl lo) (hh : EO K F Kn0 sl ow th hi) : EN K F Kn0 sl ow (tSl (rSlL K) (tVar i) tl th) (cut xs lo hi) := fun σ Kn H s Q q => by
  obtain ⟨o, h1, h2⟩ := s.sl.get hx
  obtain ⟨f1, f2, ws, f3, f4⟩ := s.ow.each _ (List.mem_of_getElem? hj)
  refine ⟨.ref p, by rw [h1]; exact congrArg some h2, hl σ Kn H s _ fun Kn2 H2 g2 => hh σ Kn2 H2 (s.grow g2) _ fun Kn3 H3 g3 => ?_⟩
  have g := g2.trans g3
  exact ⟨p, ws, rfl, sq_of (g.hh _ _ f3), fun l hl => q l _ Kn3 _ (g.trans (Gr.newU g3.kh hl)) (fresh_back g.hh hl) (fresh_back g3.kh hl) upd_same (paired_cut (paired_mono g.kk f4) lo hi)⟩
end

/-! ### == -/
class Pd (α : Type) [Rp α] where
  toD : α → PyData
  dp : Nat
  isD : ∀ {K : Fg} {H : Hp} {v : V} {a : α}, rep K H v a → Dp K H v (toD a)
  dep : ∀ a, (toD a).depth ≤ dp
  eqd : ∀ a b : α, PyData.eqv (toD a) (toD b) = true ↔ a = b
class Pq (τ : Type) [Tp τ] where
  toDs : τ → List PyData
  dp : Nat
  isD : ∀ {K : Fg} {H : Hp} {vs : List V} {a : τ}, rept K H vs a → DpAll K H vs (toDs a)
  dep : ∀ a, PyData.depthAll (toDs a) ≤ dp
  eqd : ∀ a b : τ, PyData.eqvAll (toDs a) (toDs b) = true ↔ a = b
def okD {α : Type} [Rp α] [Pd α] (a : α) : Bool := (Pd.toD a).canLay0
instance : Pd Int := { toD := .int, dp := 0, isD := fun h => by cases h; exact .int _, dep := fun a => Nat.le_refl _, eqd := fun a b => by simp [PyData.eqv] }
instance : Pd Bool := { toD := .bool, dp := 0, isD := fun h => by cases h; exact .bl _, dep := fun a => Nat.le_refl _, eqd := fun a b => by simp [PyData.eqv] }
instance : Pd Str := { toD := .str, dp := 0, isD := fun h => by cases h; exact .str _, dep := fun a => Nat.le_refl _, eqd := fun a b => by simp [PyData.eqv] }
theorem eqvAll_map {α : Type} [Rp α] [Pd α] : ∀ (xs ys : List α), PyData.eqvAll (xs.map Pd.toD) (ys.map Pd.toD) = true ↔ xs = ys
  | [], [] => by simp [PyData.eqvAll]
  | [], y :: ys => by simp [PyData.eqvAll]
  | x :: xs, [] => by simp [PyData.eqvAll]
  | x :: xs, y :: ys => by
    simp only [List.map_cons, PyData.eqvAll, Bool.and_eq_true, Pd.eqd, eqvAll_map xs ys, List.cons.injEq]
theorem depthAll_map {α : Type} [Rp α] [Pd α] : ∀ (xs : List α), PyData.depthAll (xs.map Pd.toD) ≤ Pd.dp α
  | [] => Nat.zero_le _
  | x :: xs => by
    simp only [List.map_cons, PyData.depthAll]
    exact Nat.max_le.mpr ⟨Pd.dep x, depthAll_map xs⟩
theorem dpAll_of {α : Type} [Rp α] [Pd α] {K : Fg} {H : Hp} : ∀ {vs : List V} {xs : List α}, Paired (rep K H) vs xs → DpAll K H vs (xs.map Pd.toD)
  | _, _, .nil => .nil
  | _, _, .cons r t => .cons (Pd.isD r) (dpAll_of t)
instance {α : Type} [Rp α] [Pd α] : Pd (List α) where
  toD xs := .list (xs.map Pd.toD)
  dp := Pd.dp α + 1
  isD h := by
    obtain ⟨p, vs, rfl, h1, h2⟩ := h
    exact .lst (sq_of h1) (dpAll_of h2)
  dep a := by
    simp only [PyData.depth]
    exact Nat.succ_le_succ (depthAll_map a)
  eqd a b := by
    simp only [PyData.eqv]
    exact eqvAll_map a b
instance {α : Type} [Rp α] [Pd α] : Pd (Tu α) where
  toD xs := .tuple (xs.l.map Pd.toD)
  dp := Pd.dp α + 1
  isD h := by
    obtain ⟨p, vs, rfl, h1, h2⟩ := h
    exact .tup (st_of h1) (dpAll_of h2)
  dep a := by
    simp only [PyData.depth]
    exact Nat.succ_le_succ (depthAll_map a.l)
  eqd a b := by
    simp only [PyData.eqv]
    rw [eqvAll_map]
    cases a
    cases b
    simp
instance : Pq Unit where
  toDs _ := []
  dp := 0
  isD h := by cases h; exact .nil
  dep _ := Nat.le_refl _
  eqd _ _ := by simp [PyData.eqvAll]
instance {α τ : Type} [Rp α] [Tp τ] [Pd α] [Pq τ] : Pq (α × τ) where
  toDs t := Pd.toD t.1 :: Pq.toDs t.2
  dp := max (Pd.dp α) (Pq.dp τ)
  isD h := by
    obtain ⟨v, r, rfl, h1, h2⟩ := h
    exact .cons (Pd.isD h1) (Pq.isD h2)
  dep a := by
    simp only [PyData.depthAll]
    exact Nat.max_le.mpr ⟨Nat.le_trans (Pd.dep _) (Nat.le_max_left _ _), Nat.le_trans (Pq.dep _) (Nat.le_max_right _ _)⟩
  eqd a b := by
    simp only [PyData.eqvAll, Bool.and_eq_true, Pd.eqd, Pq.eqd]
    constructor
    · rintro ⟨h1, h2⟩
      exact Prod.ext h1 h2
    · rintro rfl
      exact ⟨rfl, rfl⟩
instance {α τ : Type} [Rp α] [Tp τ] [Pd α] [Pq τ] : Pd (α × τ) where
  toD t := .tuple (Pq.toDs t)
  dp := Pq.dp (α × τ) + 1
  isD h := by
    obtain ⟨p, vs, rfl, h1, h2⟩ := h
    exact .tup (st_of h1) (Pq.isD h2)
  dep a := by
    simp only [PyData.depth]
    exact Nat.succ_le_succ (Pq.dep a)
  eqd a b := by
    simp only [PyData.eqv]
    exact Pq.eqd a b
/-- the same kind on both sides -/
def eqO {α : Type} [Rp α] [Pd α] [DecidableEq α] (a b : α) : Option Bool := if (okD a && okD b && decide (Pd.dp α ≤ 64)) = true then some (decide (a = b)) else none
def neO {α : Type} [Rp α] [Pd α] [DecidableEq α] (a b : α) : Option Bool := if (okD a && okD b && decide (Pd.dp α ≤ 64)) = true then some (!decide (a = b)) else none
section
variable {K : Fg} {α : Type} [Rp α] [Pd α] [DecidableEq α]
theorem shaped_of {a : α} (h : okD a = true) (h2 : Pd.dp α ≤ 64) : SeqAt.shaped (Pd.toD a) = true := by
  unfold SeqAt.shaped
  rw [Bool.and_eq_true]
  exact ⟨h, decide_eq_true (Nat.le_trans (Pd.dep a) h2)⟩
theorem eqv_dec (a b : α) : PyData.eqv (Pd.toD a) (Pd.toD b) = decide (a = b) := by
  by_cases h : a = b
  · rw [decide_eq_true h]
    exact (Pd.eqd a b).mpr h
  · rw [decide_eq_false h]
    cases e : PyData.eqv (Pd.toD a) (Pd.toD b) with
    | false => rfl
    | true => exact absurd ((Pd.eqd a b).mp e) h
theorem dp_mono {H H' : Hp} (e : Ex H H') : ∀ {v : V} {d : PyData}, Dp K H v d → Dp K H' v d := fun h =>
  Dp.rec (motive_1 := fun v d _ => Dp K H' v d) (motive_2 := fun vs ds _ => DpAll K H' vs ds) .non .bl .int .str (fun s _ ih => .lst (ex_l e s) ih) (fun s _ ih => .tup (ex_t e s) ih) .nil (fun _ _ h1 h2 => .cons h1 h2) h
theorem r2_eqO {a b : α} {c : Bool} (h : eqO a b = some c) : R2V K (rEqD K) a b c := fun Kn H v w ek h1 h2 Q q => by
  unfold eqO at h
  split at h
  · rename_i hb
    rw [Bool.and_eq_true, Bool.and_eq_true] at hb
    cases h
    refine ⟨Pd.toD a, Pd.toD b, dp_mono ek (Pd.isD h1), dp_mono ek (Pd.isD h2), shaped_of hb.1.1 (of_decide_eq_true hb.2), shaped_of hb.1.2 (of_decide_eq_true hb.2), ?_⟩
    rw [eqv_dec]
    exact q.fl ek
  · cases h
theorem r2_neO {a b : α} {c : Bool} (h : neO a b = some c) : R2V K (rNeD K) a b c := fun Kn H v w ek h1 h2 Q q => by
  unfold neO at h
  split at h
  · rename_i hb
    rw [Bool.and_eq_true, Bool.and_eq_true] at hb
    cases h
    refine ⟨Pd.toD a, Pd.toD b, dp_mono ek (Pd.isD h1), dp_mono ek (Pd.isD h2), shaped_of hb.1.1 (of_decide_eq_true hb.2), shaped_of hb.1.2 (of_decide_eq_true hb.2), ?_⟩
    rw [eqv_dec]
    exact q.fl ek
  · cases h
/-- data without texts: always -/
class Pt (α : Type) [Rp α] [Pd α] : Prop where
  ok : ∀ a : α, okD a = true
class Pu (τ : Type) [Tp τ] [Pq τ] : Prop where
  ok : ∀ a : τ, PyData.canLayAll0 (Pq.toDs a) = true
instance : Pt Int := ⟨fun _ => rfl⟩
instance : Pt Bool := ⟨fun _ => rfl⟩
theorem canLayAll_map {α : Type} [Rp α] [Pd α] : ∀ (xs : List α), (∀ x ∈ xs, okD x = true) → PyData.canLayAll0 (xs.map Pd.toD) = true
  | [], _ => by simp [PyData.canLayAll0]
  | x :: xs, h => by
    simp only [List.map_cons, PyData.canLayAll0, Bool.and_eq_true]
    exact ⟨h x List.mem_cons_self, canLayAll_map xs fun y hy => h y (List.mem_cons_of_mem _ hy)⟩
theorem okD_list {α : Type} [Rp α] [Pd α] {xs : List α} (h : ∀ x ∈ xs, okD x = true) : okD xs = true := by
  show PyData.canLay0 (.list _) = true
  simp only [PyData.canLay0]
  exact canLayAll_map xs h
theorem okD_tu {α : Type} [Rp α] [Pd α] {xs : Tu α} (h : ∀ x ∈ xs.l, okD x = true) : okD xs = true := by
  show PyData.canLay0 (.tuple _) = true
  simp only [PyData.canLay0]
  exact canLayAll_map xs.l h
theorem okD_pair {α τ : Type} [Rp α] [Tp τ] [Pd α] [Pq τ] {t : α × τ} (h : okD t.1 = true) (h2 : PyData.canLayAll0 (Pq.toDs t.2) = true) : okD t = true := by
  show PyData.canLay0 (.tuple (Pd.toD t.1 :: Pq.toDs t.2)) = true
  simp only [PyData.canLay0, PyData.canLayAll0, Bool.and_eq_true]
  exact ⟨h, h2⟩
theorem okDs_cons {α τ : Type} [Rp α] [Tp τ] [Pd α] [Pq τ] {t : α × τ} (h : okD t.1 = true) (h2 : PyData.canLayAll0 (Pq.toDs t.2) = true) : PyData.canLayAll0 (Pq.toDs t) = true := by
  show PyData.canLayAll0 (Pd.toD t.1 :: Pq.toDs t.2) = true
  simp only [PyData.canLayAll0, Bool.and_eq_true]
  exact ⟨h, h2⟩
instance {α : Type} [Rp α] [Pd α] [Pt α] : Pt (List α) := ⟨fun _ => okD_list fun x _ => Pt.ok x⟩
instance {α : Type} [Rp α] [Pd α] [Pt α] : Pt (Tu α) := ⟨fun _ => okD_tu fun x _ => Pt.ok x⟩
instance : Pu Unit := ⟨fun _ => rfl⟩
instance {α τ : Type} [Rp α] [Tp τ] [Pd α] [Pq τ] [Pt α] [Pu τ] : Pu (α × τ) := ⟨fun _ => okDs_cons (Pt.ok _) (Pu.ok _)⟩
instance {α τ : Type} [Rp α] [Tp τ] [Pd α] [Pq τ] [Pt α] [Pu τ] : Pt (α × τ) := ⟨fun _ => okD_pair (Pt.ok _) (Pu.ok _)⟩
theorem r2_eqT [Pt α] {a b : α} (hd : Pd.dp α ≤ 64 := by decide) : R2V K (rEqD K) a b (decide (a = b)) := r2_eqO (by
  unfold eqO
  rw [Pt.ok a, Pt.ok b, decide_eq_true hd]
  rfl)
theorem r2_neT [Pt α] {a b : α} (hd : Pd.dp α ≤ 64 := by decide) : R2V K (rNeD K) a b (!decide (a = b)) := r2_neO (by
  unfold neO
  rw [Pt.ok a, Pt.ok b, decide_eq_true hd]
  rfl)
theorem eqO_ok {a b : α} (h1 : okD a = true) (h2 : okD b = true) (hd : Pd.dp α ≤ 64 := by decide) : eqO a b = some (decide (a = b)) := by
  unfold eqO
  rw [h1, h2, decide_eq_true hd]
  rfl
theorem neO_ok {a b : α} (h1 : okD a = true) (h2 : okD b = true) (hd : Pd.dp α ≤ 64 := by decide) : neO a b = some (!decide (a = b)) := by
  unfold neO
  rw [h1, h2, decide_eq_true hd]
  rfl
end

/-! ### isinstance -/
structure TyN where
  n : String
instance rpTyN : Rp TyN := { rep := fun _ _ v a => v = .ty a.n, swap := fun _ h => h }
instance : Fl TyN := { toV := fun a => V.ty a.n, iff := Iff.rfl }
class Tn (α : Type) [Rp α] where
  nm : String
  is : ∀ {K : Fg} {H : Hp} {v : V} {a : α}, rep K H v a → TyX K H v (.type nm)
instance : Tn Int := ⟨"int", fun h => by cases h; exact .base (.int _)⟩
instance : Tn Bool := ⟨"bool", fun h => by cases h; exact .base (.bl _)⟩
instance : Tn Str := ⟨"str", fun h => by cases h; exact .base (.str _)⟩
instance : Tn Nn := ⟨"NoneType", fun h => by cases h; exact .base .non⟩
instance {α : Type} [Rp α] : Tn (List α) := ⟨"list", fun h => by
  obtain ⟨p, vs, rfl, h1, _⟩ := h
  exact .base (.lst h1)⟩
instance {α : Type} [Rp α] : Tn (Tu α) := ⟨"tuple", fun h => by
  obtain ⟨p, vs, rfl, h1, _⟩ := h
  exact .base (.tup h1)⟩
instance {α τ : Type} [Rp α] [Tp τ] : Tn (α × τ) := ⟨"tuple", fun h => by
  obtain ⟨p, vs, rfl, h1, _⟩ := h
  exact .base (.tup h1)⟩
theorem rc_isi {K : Fg} {α : Type} [Rp α] [Tn α] {x : α} {n : String} {b : Bool} (h : kitB (Tn.nm α) n = some b) : RCV K (rIsi K) (x, TyN.mk n, ()) b := fun Kn H vs ek hr Q q => by
  obtain ⟨v, w, rfl, h1, h2⟩ := two_args hr
  cases h2
  refine ⟨v, .ty n, .type (Tn.nm α), .type n, b, rfl, .ty n, ?_, kit_ty h, q.fl ek⟩
  exact Tn.is (Rp.mono ek h1)

/-! ### great divisors -/
theorem r2_divW {K : Fg} {i j : Int} {b : Nat} (h : 0 < j) (hb : j.natAbs < 2 ^ b) (h0 : 0 < b) (h9 : b ≤ 9000) : R2V K (rI CDivW fun i j => .int (i / j)) i j (i / j) := r2_I (wide_div h hb h0 h9)

/-! ### sorted of whole numbers -/
def srt (xs : List Int) : List Int := xs.mergeSort fun a b => decide (a ≤ b)
theorem srt_perm (xs : List Int) : (srt xs).Perm xs := List.mergeSort_perm xs _
theorem srt_pw (xs : List Int) : (srt xs).Pairwise (· ≤ ·) := by
  have h := List.pairwise_mergeSort (le := fun a b => decide (a ≤ b)) (fun a b c h1 h2 => by
    have h1 := of_decide_eq_true h1
    have h2 := of_decide_eq_true h2
    exact decide_eq_true (by omega)) (fun a b => by
    rcases Int.le_total a b with h | h
    · rw [decide_eq_true h]; rfl
    · rw [decide_eq_true h]; exact Bool.or_true _) xs
  exact h.imp fun h => of_decide_eq_true h
theorem srt_one {xs ys : List Int} (p : ys.Perm xs) (s : ys.Pairwise (· ≤ ·)) : ys = srt xs :=
  List.Perm.eq_of_pairwise (le := fun a b : Int => a ≤ b) (fun a b _ _ h1 h2 => Int.le_antisymm h1 h2) s (srt_pw xs) (p.trans (srt_perm xs).symm)
theorem rc_sorted {K : Fg} {xs : List Int} : RCL K (rSortedI K) (xs, ()) (srt xs) := fun Kn H vs ek h Q q => by
  obtain ⟨v, rfl, p, ws, rfl, h1, h2⟩ := one_arg h
  have e := paired_fl h2
  subst e
  refine ⟨p, xs, rfl, sq_of (ek _ _ h1), fun ns' l pm pw hl => ?_⟩
  rw [srt_one pm pw]
  exact q l _ Kn _ (Gr.newU ek hl) hl (fresh_back ek hl) upd_same (fl_paired (srt xs))
end Wk

namespace Wk
open PySem PySem.Spec L2 Evl
section
variable {K : Fg} {F Kn0 : Hp} {sl sl' : List Sl} {ow ow0 ow1 ow2 : List Ow} {α β γ τ : Type} [Rp α] [Rp β] [Rp γ] [Tp τ] {ta tb te : TE} {x : α} {D : Ends} {t u tz : TS} {tt : TT} {b : Bool} {i j : Nat} {p : Addr}
theorem ev_int (n : Int) : EV K F Kn0 sl ow (tC (.int n)) n := ev_c n
theorem ev_bool (n : Bool) : EV K F Kn0 sl ow (tC (.bl n)) n := ev_c n
theorem ev_str (n : Str) : EV K F Kn0 sl ow (tC (.str n)) n := ev_c n
theorem ev_nn : EV K F Kn0 sl ow (tC .non) Nn.nn := ev_c Nn.nn
theorem ev_ty (n : String) : EV K F Kn0 sl ow (tC (.ty n)) (TyN.mk n) := ev_c (TyN.mk n)
variable {m n : Int}
theorem r2_add : R2V K (rI0 fun i j => .int (i + j)) m n (m + n) := r2_I0
theorem r2_sub : R2V K (rI0 fun i j => .int (i - j)) m n (m - n) := r2_I0
theorem r2_lt : R2V K (rI0 fun i j => .bl (decide (i < j))) m n (decide (m < n)) := r2_I0
theorem r2_le : R2V K (rI0 fun i j => .bl (decide (i ≤ j))) m n (decide (m ≤ n)) := r2_I0
theorem r2_gt : R2V K (rI0 fun i j => .bl (decide (j < i))) m n (decide (n < m)) := r2_I0
theorem r2_ge : R2V K (rI0 fun i j => .bl (decide (j ≤ i))) m n (decide (n ≤ m)) := r2_I0
theorem r2_mod (h : 0 < n := by decide) : R2V K (rI (fun _ j => 0 < j) fun i j => .int (i % j)) m n (m % n) := r2_I h
theorem r2_div (h : 0 < n ∧ n < 1073741824 := by decide) : R2V K (rI CDiv fun i j => .int (i / j)) m n (m / n) := r2_I h
theorem r2_mulr (h : -18446744073709551616 < n ∧ n < 18446744073709551616 := by decide) : R2V K (rI CMul fun i j => .int (i * j)) m n (m * n) := r2_I (.inr ⟨by omega, by omega⟩)
theorem r2_mull (h : -18446744073709551616 < m ∧ m < 18446744073709551616 := by decide) : R2V K (rI CMul fun i j => .int (i * j)) m n (m * n) := r2_I (.inl ⟨by omega, by omega⟩)
theorem r2_divw (h : 0 < n ∧ n < 18446744073709551616 := by decide) : R2V K (rI CDivW fun i j => .int (i / j)) m n (m / n) := r2_divW h.1 (b := 64) (by omega) (by decide) (by decide)
theorem r2_pow {r : Int} (h : 0 ≤ n ∧ n ≤ 1000000 ∧ m.natAbs < 18446744073709551616 := by decide) (e : m ^ n.toNat = r := by decide) : R2V K (rI CPow fun i j => .int (i ^ j.toNat)) m n r := e ▸ r2_I ⟨h.1, h.2.1, by omega⟩
theorem EN.cast {xs ys : List α} (h : EN K F Kn0 sl ow te xs) (e : xs = ys) : EN K F Kn0 sl ow te ys := e ▸ h
theorem EM.cast {y : α} (h : EM K F Kn0 sl ow te ow1 x) (e : x = y) : EM K F Kn0 sl ow te ow1 y := e ▸ h
theorem ENM.cast {xs ys : List α} (h : ENM K F Kn0 sl ow te ow1 xs) (e : xs = ys) : ENM K F Kn0 sl ow te ow1 ys := e ▸ h
theorem SB.is (h1 : sl = sl') (h2 : ow = ow1) (h : SB K F Kn0 sl' ow1 D t) : SB K F Kn0 sl ow D t := by subst h1; subst h2; exact h
theorem EV.is (h1 : sl = sl') (h : EV K F Kn0 sl' ow te x) : EV K F Kn0 sl ow te x := by subst h1; exact h
theorem EM.is (h1 : sl = sl') (h2 : ow = ow2) (h3 : ow1 = ow0) (h : EM K F Kn0 sl' ow2 te ow0 x) : EM K F Kn0 sl ow te ow1 x := by subst h1; subst h2; subst h3; exact h
theorem ET.is (h1 : sl = sl') (h : ET K F Kn0 sl' ow tt b) : ET K F Kn0 sl ow tt b := by subst h1; exact h
theorem ite_t {γ : Type} {b : Bool} {A B : Option γ} {r : γ} (hb : b = true) (h : (if b = true then A else B) = some r) : A = some r := by rw [if_pos hb] at h; exact h
theorem ite_f {γ : Type} {b : Bool} {A B : Option γ} {r : γ} (hb : b = false) (h : (if b = true then A else B) = some r) : B = some r := by rw [if_neg (by rw [hb]; exact Bool.false_ne_true)] at h; exact h
def anyAt (sl : List Sl) (vs : List Nat) : Bool := vs.all fun j => match sl[j]? with
  | some .any => true
  | _ => false
theorem anyAt_of {sl : List Sl} {vs : List Nat} (h : anyAt sl vs = true) : ∀ j ∈ vs, sl[j]? = some .any := fun j hj => by
  have q := List.all_eq_true.mp h j hj
  cases e : sl[j]? with
  | none => rw [e] at q; cases q
  | some s =>
    rw [e] at q
    cases s with
    | any => rfl
    | val _ _ _ => cases q
    | «at» _ => cases q
theorem sub_of {js vs : List Nat} (h : (js.all fun j => vs.contains j) = true) : ∀ j ∈ js, j ∈ vs := fun j hj => by
  have q := List.all_eq_true.mp h j hj
  simpa using q
theorem sn_end {R : VK} (q : RT K F Kn0 ow0 R Nn.nn) (hd : ∀ σ H, R .non H → D.nx σ H) (l : ow0.Sublist ow) : SN K F Kn0 sl ow D := fun σ Kn H s => hd σ H (q _ Kn H (s.sub l).fin rfl)
def EOM (K : Fg) (F Kn0 : Hp) (sl : List Sl) (ow : List Ow) (to : TO) (ow' : List Ow) (o : Option Int) : Prop := ∀ σ Kn H, S K F Kn0 sl ow σ Kn H → ∀ Q : Option Int → Hp → Prop, (∀ Kn' H', Ex Kn Kn' → S K F Kn0 sl ow' σ Kn' H' → Q o H') → to σ H Q
theorem EO.eom {to : TO} {o : Option Int} (h : EO K F Kn0 sl ow to o) : EOM K F Kn0 sl ow to ow o := fun σ Kn H s Q q => h σ Kn H s Q fun Kn' H' g => q Kn' H' g.kk (s.grow g)
theorem eom_some {i : Int} (h : EM K F Kn0 sl ow te ow1 i) : EOM K F Kn0 sl ow (tPart te) ow1 (some i) := fun σ Kn H s Q q => h σ Kn H s _ fun v Kn1 H1 e1 s1 r1 => ⟨i, r1, q Kn1 H1 e1 s1⟩
theorem enm_sl {ow3 : List Ow} {xs : List α} {tl th : TO} {lo hi : Option Int} (h : EM K F Kn0 sl ow te ow1 xs) (hl : EOM K F Kn0 sl ow1 tl ow2 lo) (hh : EOM K F Kn0 sl ow2 th ow3 hi) : ENM K F Kn0 sl ow (tSl (rSlL K) te tl th) ow3 (cut xs lo hi) := fun σ Kn H s Q q =>
  h σ Kn H s _ fun v Kn1 H1 e1 s1 r1 => hl σ Kn1 H1 s1 _ fun Kn2 H2 e2 s2 => hh σ Kn2 H2 s2 _ fun Kn3 H3 e3 s3 => by
    obtain ⟨p, ws, rfl, h3, h4⟩ := r1
    have e13 : Ex Kn1 Kn3 := e2.trans e3
    exact ⟨p, ws, rfl, sq_of (s3.ek _ _ (e13 _ _ h3)), fun l hl => q l _ Kn3 _ (e1.trans e13) (s3.grow (Gr.newU s3.ek hl)) (fresh_back s3.ef hl) (fresh_back s3.ek hl) (owned_ne s3 hl) upd_same (paired_cut (paired_mono e13 h4) lo hi)⟩
/-- the entry of a def -/
theorem enter {σ : L2.St} {Kn H : Hp} {D : Ends} {t : TS} (ek : Ex Kn H) (hs : SlsOk K Kn sl σ) (h : SB K H Kn sl [] D t) : t D σ H := h σ Kn H ⟨Ex.refl _, ek, Ex.refl _, fun _ _ h => h, hs, ⟨(fun _ h => nomatch h), List.nodup_nil⟩⟩
theorem rt_of {H Kn : Hp} {r : α} {Q : VK} (q : RS K Kn H Q r) : RT K H Kn [] Q r := fun v Kn' H' s rv => q v Kn' H' ⟨s.e0, s.ef, s.ek, s.sep⟩ rv
theorem rn_of {H Kn : Hp} {r : List α} {Q : VK} (q : RL K Kn H Q r) : RN K H Kn [] Q r := fun p ws Kn' H' s fp kp hw rv => q p ws Kn' H' ⟨s.e0, s.ef, s.ek, s.sep⟩ fp kp hw rv
/-- all but p -/
def but (H : Hp) (p : Addr) : Hp := fun a => if a = p then none else H a
theorem enterM {σ : L2.St} {Kn H : Hp} {D : Ends} {t : TS} {p : Addr} {ws : List V} {xs : List α} (ek : Ex Kn H) (kp : Kn p = none) (hp : H p = some (.lst ws)) (r : Paired (rep K Kn) ws xs) (hs : SlsOk K Kn sl σ) (h : SB K (but H p) Kn sl [ol p xs] D t) : t D σ H :=
  h σ Kn H ⟨Ex.refl _, ek, fun a u e => by
    unfold but at e
    split at e
    · cases e
    · exact e, fun _ _ h => h, hs, ⟨fun o ho => by
      cases List.mem_singleton.mp ho
      exact ⟨if_pos rfl, kp, ws, hp, r⟩, List.nodup_cons.mpr ⟨(fun h => nomatch h), List.nodup_nil⟩⟩⟩
theorem rt_ofM {H Kn : Hp} {r : β} {p : Addr} {xs' : List α} {Q : VK} (kp : Kn p = none) (q : ∀ v Kn' H' ws', Ex Kn Kn' → Ex Kn' H' → (∀ q, q ≠ p → H q ≠ none → H' q = H q) → (∀ q, H q ≠ none → Kn q = none → Kn' q = none) → H' p = some (.lst ws') → Paired (rep K Kn') ws' xs' → rep K Kn' v r → Q v H') :
    RT K (but H p) Kn [ol p xs'] Q r := fun v Kn' H' s rv => by
  obtain ⟨_, k1, ws, h1, h2⟩ := s.ow.each (ol p xs') List.mem_cons_self
  refine q v Kn' H' ws s.e0 s.ek (fun a ha hn => ?_) (fun a hn hk => ?_) h1 h2 rv
  · have e : but H p a = H a := if_neg ha
    exact (Ex.at_eq s.ef (by rw [e]; exact hn)).trans e
  · by_cases ha : a = p
    · subst ha
      exact k1
    · exact s.sep a (by unfold but; rw [if_neg ha]; exact hn) hk
end
end Wk

/-! ### rules whose readings name K itself (within comprehensions) -/
namespace Wk
open PySem PySem.Spec L2 Evl
section
variable {X : Cx} {K : Fg}
theorem k_isi (h : X.K = K := by rfl) : CallR X (.builtin "isinstance") (rIsi K) := h ▸ call_isi
theorem k_len (h : X.K = K := by rfl) : CallR X (.builtin "len") (fun xs H Q => ∃ p ys, xs = [.ref p] ∧ (SqL K H p ys ∨ SqT K H p ys) ∧ Q (.int ys.length) H) := h ▸ call_len_seq
theorem k_list (h : X.K = K := by rfl) : CallR X (.type "list") (fun xs H Q => ∃ p ys, xs = [.ref p] ∧ (SqL K H p ys ∨ SqT K H p ys) ∧ ∀ l, H l = none → Q (.ref l) (upd H l (.lst ys))) := h ▸ call_list_of
theorem k_tuple (h : X.K = K := by rfl) : CallR X (.type "tuple") (fun xs H Q => ∃ p ys, xs = [.ref p] ∧ ((SqL K H p ys ∧ ∀ l, H l = none → Q (.ref l) (upd H l (.tup ys))) ∨ (SqT K H p ys ∧ Q (.ref p) H))) := h ▸ call_tuple_of
theorem k_sum (hc : X.calm = true := by rfl) (h : X.K = K := by rfl) : CallR X (.builtin "sum") (rSum K) := h ▸ cr_sum hc
theorem k_any (hc : X.calm = true := by rfl) (h : X.K = K := by rfl) : CallR X (.builtin "any") (rAny K) := h ▸ cr_any hc
theorem k_all (hc : X.calm = true := by rfl) (h : X.K = K := by rfl) : CallR X (.builtin "all") (rAll K) := h ▸ cr_all hc
theorem k_max2 (hc : X.calm = true := by rfl) : CallR X (.builtin "max") (fun xs H Q => ∃ i j, xs = [.int i, .int j] ∧ Q (.int (if j > i then j else i)) H) := call_max2 hc
theorem k_min2 (hc : X.calm = true := by rfl) : CallR X (.builtin "min") (fun xs H Q => ∃ i j, xs = [.int i, .int j] ∧ Q (.int (if j < i then j else i)) H) := call_min2 hc
theorem k_sorted (h : X.K = K := by rfl) : CallR X (.builtin "sorted") (rSortedI K) := h ▸ cr_sortedI
theorem k_ixl (h : X.K = K := by rfl) : IxR X (rIxL K) := h ▸ ix_list
theorem k_ixt (h : X.K = K := by rfl) : IxR X (rIxT K) := h ▸ ix_tup
theorem k_sll (h : X.K = K := by rfl) : SlR X (rSlL K) := h ▸ sl_list
theorem k_eqD (hu : X.A.units + 64 < cLine) (h : X.K = K := by rfl) : OpR X (compareOp .Eq) (rEqD K) := h ▸ op_eqD hu
theorem k_neD (hu : X.A.units + 64 < cLine) (h : X.K = K := by rfl) : OpR X (compareOp .NotEq) (rNeD K) := h ▸ op_neD hu
theorem k_in (h : X.K = K := by rfl) : OpR X (compareOp .In) (rIn K false) := h ▸ op_in_seq
theorem k_notIn (h : X.K = K := by rfl) : OpR X (compareOp .NotIn) (rIn K true) := h ▸ op_notIn_seq
theorem kpg_tup {es : List Expr} {k : Nat} {t : TGs} {n : Nat} {pos : Pos} (hs : PGs X es t) (hc : X.calm = true := by rfl) (h : X.K = K := by rfl)
    (hn : (assignEach es X.env).length = n := by rfl) (hst : (assignEach es X.env).findIdx? (·.1) = none := by rfl) : PG X (.Tuple es k pos) (gTup K n t) := h ▸ pg_tup hc hs hn hst
theorem kpi_list {tg e : Expr} {te : TE} (he : PE X e te) (h : X.K = K := by rfl) : PI X tg e (iList K te) := h ▸ pi_list he
theorem kpi_tup {tg e : Expr} {te : TE} (he : PE X e te) (h : X.K = K := by rfl) : PI X tg e (iTup K te) := h ▸ pi_tup he
theorem kpt_truth {a : Expr} {ta : TE} (ha : PE X a ta) (he : ∀ whole, isTrue a X.env whole = (do let v ← whole; standAt a.pos; holding [v] (truthy v)) := by intro _; rfl) (h : X.K = K := by rfl) : PT X a (fun σ H Q => ta σ H fun x H' => ∃ k, TruV K x H' k ∧ Q k H') := h ▸ pt_truth ha he
end
end Wk
/-! Wk5: in, lists made longer, texts, chains, tuples put together -/
namespace Wk
open PySem PySem.Spec L2 Evl
class Fe (α : Type) [Rp α] [Fl α] [DecidableEq α] : Prop where
  flat : ∀ a : α, flatV (Fl.toV a) = true
  eq : ∀ a b : α, eqV (Fl.toV a) (Fl.toV b) = decide (a = b)
instance : Fe Int := ⟨fun _ => rfl, fun a b => by show (a == b) = decide (a = b); by_cases h : a = b <;> simp [h]⟩
instance : Fe Str := ⟨fun _ => rfl, fun a b => by show (a == b) = decide (a = b); by_cases h : a = b <;> simp [h]⟩
def repO {α : Type} (xs : List α) (k : Int) : Option (List α) := if -1000000000 ≤ k ∧ k ≤ 1000000000 ∧ xs.length * k.toNat ≤ 1000000 then some (List.replicate k.toNat xs).flatten else none
def addS (x y : Str) : Option Str := if x.length + y.length ≤ 1000000 then some (x ++ y) else none
def lenS (x : Str) : Option Int := if x.length ≤ 1000000 then some (x.length : Int) else none
def joinO (a : Str) (ys : List Str) : Option Str := if (ys.map (·.length)).sum + ys.length * a.length ≤ 1000000 then some (Txt.join a ys) else none
def powO (i j : Int) : Option Int := if 0 ≤ j ∧ j ≤ 1000000 ∧ i.natAbs < 18446744073709551616 then some (i ^ j.toNat) else none
section
variable {K : Fg} {F Kn0 : Hp} {sl sl' : List Sl} {ow ow0 ow1 ow2 : List Ow} {α β γ τ : Type} [Rp α] [Rp β] [Rp γ] [Tp τ] {ta tb tc te : TE} {x : α} {y : β} {z : γ} {D : Ends} {t u tz : TS} {tt : TT} {a b : Bool} {i j : Nat} {p : Addr}
theorem any_mem {α : Type} [Rp α] [Fl α] [DecidableEq α] [Fe α] (x : α) : ∀ xs : List α, inV (Fl.toV x) (xs.map Fl.toV) = decide (x ∈ xs)
  | [] => by simp [inV]
  | y :: ys => by
    have ih := any_mem x ys
    unfold inV at ih ⊢
    rw [List.map_cons, List.any_cons, ih, Fe.eq]
    by_cases h : y = x
    · subst h
      simp
    · have h' : ¬ x = y := fun e => h e.symm
      simp [h, h']
theorem all_flat {α : Type} [Rp α] [Fl α] [DecidableEq α] [Fe α] : ∀ xs : List α, (xs.map Fl.toV).all flatV = true
  | [] => rfl
  | y :: ys => by
    rw [List.map_cons, List.all_cons, Fe.flat, all_flat ys]
    rfl
theorem r2_in {α : Type} [Rp α] [Fl α] [DecidableEq α] [Fe α] {x : α} {xs : List α} : R2V K (rIn K false) x xs (decide (x ∈ xs)) := fun Kn H v w ek h1 h2 Q q => by
  obtain ⟨p, ws, rfl, h3, h4⟩ := h2
  have e := paired_fl h4
  subst e
  rw [Fl.iff.mp h1]
  refine ⟨p, _, rfl, .inl (sq_of (ek _ _ h3)), Fe.flat x, all_flat xs, ?_⟩
  rw [any_mem]
  exact q.fl ek
theorem r2_notIn {α : Type} [Rp α] [Fl α] [DecidableEq α] [Fe α] {x : α} {xs : List α} : R2V K (rIn K true) x xs (!decide (x ∈ xs)) := fun Kn H v w ek h1 h2 Q q => by
  obtain ⟨p, ws, rfl, h3, h4⟩ := h2
  have e := paired_fl h4
  subst e
  rw [Fl.iff.mp h1]
  refine ⟨p, _, rfl, .inl (sq_of (ek _ _ h3)), Fe.flat x, all_flat xs, ?_⟩
  rw [any_mem]
  exact q.fl ek
theorem r2_inU {α : Type} [Rp α] [Fl α] [DecidableEq α] [Fe α] {x : α} {xs : Tu α} : R2V K (rIn K false) x xs (decide (x ∈ xs.l)) := fun Kn H v w ek h1 h2 Q q => by
  obtain ⟨p, ws, rfl, h3, h4⟩ := h2
  have e := paired_fl h4
  subst e
  rw [Fl.iff.mp h1]
  refine ⟨p, _, rfl, .inr (st_of (ek _ _ h3)), Fe.flat x, all_flat xs.l, ?_⟩
  rw [any_mem]
  exact q.fl ek
theorem r2_notInU {α : Type} [Rp α] [Fl α] [DecidableEq α] [Fe α] {x : α} {xs : Tu α} : R2V K (rIn K true) x xs (!decide (x ∈ xs.l)) := fun Kn H v w ek h1 h2 Q q => by
  obtain ⟨p, ws, rfl, h3, h4⟩ := h2
  have e := paired_fl h4
  subst e
  rw [Fl.iff.mp h1]
  refine ⟨p, _, rfl, .inr (st_of (ek _ _ h3)), Fe.flat x, all_flat xs.l, ?_⟩
  rw [any_mem]
  exact q.fl ek
theorem paired_rep {F : V → α → Prop} {vs : List V} {xs : List α} (h : Paired F vs xs) : ∀ n : Nat, Paired F (List.replicate n vs).flatten (List.replicate n xs).flatten
  | 0 => .nil
  | n + 1 => by
    rw [List.replicate_succ, List.replicate_succ, List.flatten_cons, List.flatten_cons]
    exact paired_append h (paired_rep h n)
theorem r2_repO {xs zs : List α} {k : Int} (h : repO xs k = some zs) : R2L K rRep xs k zs := fun Kn H v w ek h1 h2 Q q => by
  unfold repO at h
  split at h
  · rename_i hb
    cases h
    obtain ⟨p, ws, rfl, h3, h4⟩ := h1
    cases h2
    refine ⟨p, k, ws, rfl, rfl, ek _ _ h3, by omega, by omega, by rw [paired_len h4]; exact le_line hb.2.2, fun l hl => q l _ Kn _ (Gr.newU ek hl) hl (fresh_back ek hl) upd_same (paired_rep h4 _)⟩
  · cases h
theorem r2_addS {x y z : Str} (h : addS x y = some z) : R2V K (fun x y H Q => ∃ i j, x = .str i ∧ y = .str j ∧ i.length + j.length ≤ sizeLine ∧ Q (.str (i ++ j)) H) x y z := fun Kn H v w ek h1 h2 Q q => by
  unfold addS at h
  split at h
  · rename_i hb
    cases h
    exact ⟨x, y, h1, h2, le_line hb, q.fl ek⟩
  · cases h
theorem rc_lenS {x : Str} {z : Int} (h : lenS x = some z) : RCV K (fun xs H Q => ∃ z, xs = [.str z] ∧ z.length ≤ sizeLine ∧ Q (.int z.length) H) (x, ()) z := fun Kn H vs ek hr Q q => by
  obtain ⟨v, rfl, h1⟩ := one_arg hr
  cases h1
  unfold lenS at h
  split at h
  · rename_i hb
    cases h
    exact ⟨x, rfl, le_line hb, q.fl ek⟩
  · cases h
theorem ev_joinO {s : Str} {ys : List Str} {z : Str} (ha : EV K F Kn0 sl ow ta s) (hb : EV K F Kn0 sl ow tb ys) (h : joinO s ys = some z) :
    EV K F Kn0 sl ow (tM1 (fun x xs H Q => ∃ a p, ∃ ys : List Str, x = .str a ∧ xs = [.ref p] ∧ (SqL K H p (ys.map V.str) ∨ SqT K H p (ys.map V.str)) ∧ (ys.map (·.length)).sum + ys.length * a.length ≤ 16777216 ∧ Q (.str (Txt.join a ys)) H) ta tb) z := fun σ Kn H s' Q q =>
  ha σ Kn H s' _ fun v Kn1 H1 g1 r1 => by
    cases r1
    refine ⟨⟨s, rfl⟩, hb σ Kn1 H1 (s'.grow g1) _ fun w Kn2 H2 g2 r2 => ?_⟩
    obtain ⟨p, ws, rfl, h3, h4⟩ := r2
    have e := paired_fl h4
    subst e
    unfold joinO at h
    split at h
    · rename_i hz
      cases h
      exact ⟨s, p, ys, rfl, rfl, .inl (sq_of (g2.kh _ _ h3)), by omega, q _ Kn2 H2 (g1.trans g2) rfl⟩
    · cases h
theorem rc_intB {x : Bool} : RCV K (fun xs H Q => (∃ i, xs = [.int i] ∧ Q (.int i) H) ∨ ∃ k, xs = [.bl k] ∧ Q (.int (if k then 1 else 0)) H) (x, ()) (if x = true then (1 : Int) else 0) := fun Kn H vs ek hr Q q => by
  obtain ⟨v, rfl, h1⟩ := one_arg hr
  cases h1
  exact .inr ⟨x, rfl, q.fl ek⟩
theorem rc_intI {x : Int} : RCV K (fun xs H Q => (∃ i, xs = [.int i] ∧ Q (.int i) H) ∨ ∃ k, xs = [.bl k] ∧ Q (.int (if k then 1 else 0)) H) (x, ()) x := fun Kn H vs ek hr Q q => by
  obtain ⟨v, rfl, h1⟩ := one_arg hr
  cases h1
  exact .inl ⟨x, rfl, q.fl ek⟩
theorem r2_powO {i j z : Int} (h : powO i j = some z) : R2V K (rI CPow fun i j => .int (i ^ j.toNat)) i j z := by
  unfold powO at h
  split at h
  · rename_i hb
    cases h
    exact r2_I ⟨hb.1, hb.2.1, by omega⟩
  · cases h
/-- x < y < z -/
theorem ev_chain {r r' : R2} (ha : EV K F Kn0 sl ow ta x) (hb : EV K F Kn0 sl ow tb y) (hr : R2V K r x y a) (hc : EV K F Kn0 sl ow tc z) (hr' : R2V K r' y z b) : EV K F Kn0 sl ow (tChain r r' ta tb tc) (a && b) := fun σ Kn H s Q q =>
  ha σ Kn H s _ fun v Kn1 H1 g1 r1 => hb σ Kn1 H1 (s.grow g1) _ fun w Kn2 H2 g2 r2 => hr Kn2 H2 v w g2.kh (Rp.mono g2.kk r1) r2 _ fun u Kn3 H3 g3 r3 => by
    refine ⟨a, r3, ?_⟩
    cases a with
    | true => exact iteT (hc σ Kn3 H3 (((s.grow g1).grow g2).grow g3) _ fun v4 Kn4 H4 g4 r4 => hr' Kn4 H4 w v4 g4.kh (Rp.mono (g3.kk.trans g4.kk) r2) r4 Q fun u5 Kn5 H5 g5 r5 => q u5 Kn5 H5 ((((g1.trans g2).trans g3).trans g4).trans g5) r5)
    | false => exact iteF (q _ Kn3 H3 ((g1.trans g2).trans g3) rfl)
/-- t3 is t1 and t2 put together -/
inductive Ap : {τ1 τ2 τ3 : Type} → [Tp τ1] → [Tp τ2] → [Tp τ3] → τ1 → τ2 → τ3 → Prop
  | z {τ : Type} [Tp τ] (t : τ) : Ap () t t
  | s {α τ1 τ2 τ3 : Type} [Rp α] [Tp τ1] [Tp τ2] [Tp τ3] (x : α) {t1 : τ1} {t2 : τ2} {t3 : τ3} : Ap t1 t2 t3 → Ap (x, t1) t2 (x, t3)
theorem Ap.rept {K : Fg} {H : Hp} {τ1 τ2 τ3 : Type} [i1 : Tp τ1] [i2 : Tp τ2] [i3 : Tp τ3] {t1 : τ1} {t2 : τ2} {t3 : τ3} (h : Ap t1 t2 t3) : ∀ {vs ws : List V}, Wk.rept K H vs t1 → Wk.rept K H ws t2 → Wk.rept K H (vs ++ ws) t3 := by
  induction h with
  | z t =>
    intro vs ws h1 h2
    cases h1
    exact h2
  | s x _ ih =>
    intro vs ws h1 h2
    obtain ⟨v, r, rfl, h3, h4⟩ := h1
    exact ⟨v, r ++ ws, rfl, h3, ih h4 h2⟩
theorem r2_catA {α1 τ1 α2 τ2 α3 τ3 : Type} [Rp α1] [Tp τ1] [Rp α2] [Tp τ2] [Rp α3] [Tp τ3] {t1 : α1 × τ1} {t2 : α2 × τ2} {t3 : α3 × τ3} (h : Ap t1 t2 t3) (hn : Tp.n (α1 × τ1) + Tp.n (α2 × τ2) ≤ 1000 := by decide) : R2V K (rCatA K) t1 t2 t3 := fun Kn H v w ek h1 h2 Q q => by
  obtain ⟨p, vs, rfl, h3, h4⟩ := h1
  obtain ⟨p2, ws, rfl, h5, h6⟩ := h2
  have n1 : vs ≠ [] := by
    obtain ⟨_, _, rfl, _⟩ := h4
    simp
  have n2 : ws ≠ [] := by
    obtain ⟨_, _, rfl, _⟩ := h6
    simp
  refine ⟨p, p2, vs, ws, rfl, rfl, st_of (ek _ _ h3), st_of (ek _ _ h5), ?_, fun e => absurd e n1, fun _ e => absurd e n2, fun _ _ l hl => ?_⟩
  · rw [Tp.len h4, Tp.len h6]
    exact le_line (by omega)
  · exact q _ (upd Kn l (.tup (vs ++ ws))) _ (Gr.new ek hl) ⟨l, _, rfl, upd_same, h.rept (Tp.mono (Gr.new ek hl).kk h4) (Tp.mono (Gr.new ek hl).kk h6)⟩
/-- found.clear() -/
theorem sb_clr {xs : List α} (hi : sl[i]? = some (.at p)) (hj : ow[j]? = some (ol p xs)) (ho : ow.set j (ol p ([] : List α)) = ow1) (k : SN K F Kn0 sl ow1 D) : SB K F Kn0 sl ow D (tDrop (tBM0 K "list" rClear (tVar i))) := fun σ Kn H s => by
  obtain ⟨o, h1, h2⟩ := s.sl.get hi
  obtain ⟨f1, f2, ws, f3, f4⟩ := s.ow.each _ (List.mem_of_getElem? hj)
  subst ho
  refine ⟨.ref p, by rw [h1]; exact congrArg some h2, Or.inl ⟨rfl, ws, sq_of f3⟩, p, ws, rfl, rfl, f3, k _ Kn _ ?_⟩
  exact s.write hj (Ex.refl _) (upd_in s.ek f2) (fun q hq _ => upd_ne hq) (fun _ _ h => h) upd_same .nil
theorem en_listO {xs : List α} (hi : sl[i]? = some (.at p)) (hj : ow[j]? = some (ol p xs)) : EN K F Kn0 sl ow (tCB (fun xs H Q => ∃ p ys, xs = [.ref p] ∧ (SqL K H p ys ∨ SqT K H p ys) ∧ ∀ l, H l = none → Q (.ref l) (upd H l (.lst ys))) (tCons (tVar i) tNil)) xs := fun σ Kn H s Q q => by
  obtain ⟨o, h1, h2⟩ := s.sl.get hi
  obtain ⟨f1, f2, ws, f3, f4⟩ := s.ow.each _ (List.mem_of_getElem? hj)
  exact ⟨.ref p, by rw [h1]; exact congrArg some h2, p, ws, rfl, .inl (sq_of f3), fun l hl => q l ws Kn _ (Gr.newU s.ek hl) hl (fresh_back s.ek hl) upd_same f4⟩
/-- a test that changes something on its way -/
def ETM (K : Fg) (F Kn0 : Hp) (sl : List Sl) (ow : List Ow) (tt : TT) (ow' : List Ow) (b : Bool) : Prop := ∀ σ Kn H, S K F Kn0 sl ow σ Kn H → ∀ Q : Bool → Hp → Prop, (∀ Kn' H', Ex Kn Kn' → S K F Kn0 sl ow' σ Kn' H' → Q b H') → tt σ H Q
theorem ET.etm (h : ET K F Kn0 sl ow tt b) : ETM K F Kn0 sl ow tt ow b := fun σ Kn H s Q q => h σ Kn H s Q fun Kn' H' g => q Kn' H' g.kk (s.grow g)
theorem etm_test (h : EM K F Kn0 sl ow te ow1 b) : ETM K F Kn0 sl ow (tTest te) ow1 b := fun σ Kn H s Q q => h σ Kn H s _ fun v Kn' H' e s' r => ⟨b, r, q Kn' H' e s'⟩
theorem etm_and {t u : TT} (h1 : ETM K F Kn0 sl ow t ow1 a) (h2 : a = true → ET K F Kn0 sl ow1 u b) : ETM K F Kn0 sl ow (tAnd t u) ow1 (a && b) := fun σ Kn H s Q q => h1 σ Kn H s _ fun Kn1 H1 e1 s1 => by
  cases a with
  | true => exact iteT (h2 rfl σ Kn1 H1 s1 Q fun Kn2 H2 g2 => q Kn2 H2 (e1.trans g2.kk) (s1.grow g2))
  | false => exact iteF (q Kn1 H1 e1 s1)
theorem etm_or {t u : TT} (h1 : ETM K F Kn0 sl ow t ow1 a) (h2 : a = false → ET K F Kn0 sl ow1 u b) : ETM K F Kn0 sl ow (tOr t u) ow1 (a || b) := fun σ Kn H s Q q => h1 σ Kn H s _ fun Kn1 H1 e1 s1 => by
  cases a with
  | true => exact iteT (q Kn1 H1 e1 s1)
  | false => exact iteF (h2 rfl σ Kn1 H1 s1 Q fun Kn2 H2 g2 => q Kn2 H2 (e1.trans g2.kk) (s1.grow g2))
theorem sb_ifM {t u : TS} (h : ETM K F Kn0 sl ow tt ow1 b) (h1 : b = true → SB K F Kn0 sl ow1 D t) (h2 : b = false → SB K F Kn0 sl ow1 D u) : SB K F Kn0 sl ow D (tIfS tt t u) := fun σ Kn H s => h σ Kn H s _ fun Kn1 H1 e1 s1 => by
  cases b with
  | true => exact iteT (h1 rfl σ Kn1 H1 s1)
  | false => exact iteF (h2 rfl σ Kn1 H1 s1)
end
section
variable {X : Cx} {K : Fg}
theorem k_catA (h : X.K = K := by rfl) : OpR X (binaryOp .Add) (rCatA K) := h ▸ op_catA
theorem k_join {to te : TE} {o e : Expr} {apos pos : Pos} (ho : PE X o to) (he : PE X e te) (hs : starEach [e] X.env = [(false, eval e X.env)] := by rfl) (hbase : attributeBase o "join" X.env (eval o X.env) = eval o X.env := by rfl) (hline : (apos.endLine == pos.line) = true := by rfl) (h : X.K = K := by rfl) :
    PE X (.Call (.Attribute o "join" apos) [e] [] pos) (tM1 (fun x xs H Q => ∃ a p, ∃ ys : List Str, x = .str a ∧ xs = [.ref p] ∧ (SqL K H p (ys.map V.str) ∨ SqT K H p (ys.map V.str)) ∧ (ys.map (·.length)).sum + ys.length * a.length ≤ 16777216 ∧ Q (.str (Txt.join a ys)) H) to te) := h ▸ pe_join ho he hs hbase hline
end
end Wk
/-! Wk6: dicts. -/
namespace Wk
open PySem PySem.Spec L2 Evl
/-- what may be a key -/
class K1 (α : Type) [Rp α] where
  key : α → Key
  inj : ∀ {a b : α}, key a = key b → a = b
  iff : ∀ {K : Fg} {H : Hp} {v : V} {a : α}, rep K H v a → v = kV (key a)
instance : K1 Int := { key := Sum.inl, inj := fun h => Sum.inl.inj h, iff := fun h => h }
instance : K1 Str := { key := Sum.inr, inj := fun h => Sum.inr.inj h, iff := fun h => h }
class KT1 (τ : Type) [Tp τ] where
  keys : τ → List Key
  inj : ∀ {a b : τ}, keys a = keys b → a = b
  iff : ∀ {K : Fg} {H : Hp} {vs : List V} {a : τ}, rept K H vs a → vs = (keys a).map kV
instance : KT1 Unit := { keys := fun _ => [], inj := fun _ => rfl, iff := fun h => h }
instance {α τ : Type} [Rp α] [Tp τ] [K1 α] [KT1 τ] : KT1 (α × τ) where
  keys t := K1.key t.1 :: KT1.keys t.2
  inj h := Prod.ext (K1.inj (List.cons.inj h).1) (KT1.inj (List.cons.inj h).2)
  iff h := by
    obtain ⟨v, r, h1, h2, h3⟩ := h
    rw [h1, K1.iff h2, KT1.iff h3]
    rfl
class Ky (κ : Type) [Rp κ] where
  kt : Type
  dec : DecidableEq kt
  key : κ → kt
  inj : ∀ {a b : κ}, key a = key b → a = b
  ho : List (kt × V) → HO
  isd : ∀ ws, isDk (ho ws)
  get : ∀ {K : Fg} {Kh H : Hp} {p : Addr} {v : V} {a : κ} {ws : List (kt × V)}, rep K Kh v a → Ex Kh H → Rd H p (ho ws) → DGet H p v (valV ws (key a))
  put : ∀ {K : Fg} {Kh H : Hp} {p : Addr} {v y : V} {a : κ} {ws : List (kt × V)}, rep K Kh v a → Ex Kh H → H p = some (ho ws) → ws.length < sizeLine → DPut H p v y (upd H p (ho (putK ws (key a) y)))
instance {κ : Type} [Rp κ] [Ky κ] : DecidableEq (Ky.kt κ) := Ky.dec
instance {α : Type} [Rp α] [K1 α] : Ky α where
  kt := Key
  dec := inferInstance
  key := K1.key
  inj := K1.inj
  ho := .dK
  isd _ := trivial
  get h _ e := by
    rw [K1.iff h]
    exact .inl ⟨_, _, e, rfl, rfl⟩
  put h _ e l := by
    rw [K1.iff h]
    exact DPut.k e l
instance {α τ : Type} [Rp α] [Tp τ] [KT1 (α × τ)] : Ky (α × τ) where
  kt := List Key
  dec := inferInstance
  key := KT1.keys
  inj := KT1.inj
  ho := .dT
  isd _ := trivial
  get h x e := by
    obtain ⟨p, vs, h1, h2, h3⟩ := h
    rw [h1]
    have h4 := x _ _ h2
    rw [KT1.iff (τ := α × _) h3] at h4
    exact .inr ⟨_, _, _, e, rfl, h4, rfl⟩
  put h x e l := by
    obtain ⟨p, vs, h1, h2, h3⟩ := h
    rw [h1]
    have h4 := x _ _ h2
    rw [KT1.iff (τ := α × _) h3] at h4
    exact DPut.t e h4 l
/-- the table of a dict -/
structure Dc (κ β : Type) where
  l : List (κ × β)
section
variable {κ β : Type} [DecidableEq κ]
def getD (kvs : List (κ × β)) (k : κ) : Option β := (kvs.find? fun kv => decide (kv.1 = k)).map (·.2)
def putD (kvs : List (κ × β)) (k : κ) (y : β) : List (κ × β) := if (getD kvs k).isSome = true then kvs.map (fun kv => if kv.1 = k then (kv.1, y) else kv) else kvs ++ [(k, y)]
def putO (kvs : Dc κ β) (k : κ) (y : β) : Option (Dc κ β) := if kvs.l.length < 1000000 then some ⟨putD kvs.l k y⟩ else none
def mergeD (kvs more : List (κ × β)) : List (κ × β) := more.foldl (fun acc kv => putD acc kv.1 kv.2) kvs
end
section
variable {κ β : Type} [Rp κ] [Ky κ] [Rp β]
abbrev DK (K : Fg) (H : Hp) : List (Ky.kt κ × V) → List (κ × β) → Prop := Paired fun w kv => w.1 = Ky.key kv.1 ∧ rep K H w.2 kv.2
theorem DK.mono {K : Fg} {H H' : Hp} {ws : List (Ky.kt κ × V)} {kvs : List (κ × β)} (e : Ex H H') (h : DK K H ws kvs) : DK K H' ws kvs := Paired.mapP h fun _ _ q => ⟨q.1, Rp.mono e q.2⟩
theorem DK.swap {K : Fg} {H H' : Hp} {ws : List (Ky.kt κ × V)} {kvs : List (κ × β)} (e : Sw H H') (h : DK K H ws kvs) : DK K H' ws kvs := Paired.mapP h fun _ _ q => ⟨q.1, Rp.swap e q.2⟩
instance obDc : Ob (Dc κ β) where
  ob K H o x := ∃ ws, o = Ky.ho (κ := κ) ws ∧ DK K H ws x.l
  swap e h := by
    obtain ⟨ws, h1, h2⟩ := h
    exact ⟨ws, h1, DK.swap e h2⟩
instance rpDc : Rp (Dc κ β) where
  rep K H v x := ∃ p ws, v = .ref p ∧ Rd H p (Ky.ho (κ := κ) ws) ∧ DK K H ws x.l
  swap e h := by
    obtain ⟨p, ws, h1, h2, h3⟩ := h
    exact ⟨p, ws, h1, e.rd h2 (Ky.isd ws), DK.swap e h3⟩
theorem rd_ex {H H' : Hp} (e : Ex H H') {q : Addr} {u : HO} (h : Rd H q u) : Rd H' q u := by
  rcases h with h | ⟨o, h⟩
  · exact .inl (e _ _ h)
  · exact .inr ⟨o, e _ _ h⟩
variable [DecidableEq κ]
theorem DK.get {K : Fg} {H : Hp} {ws : List (Ky.kt κ × V)} {kvs : List (κ × β)} (k : κ) (h : DK K H ws kvs) : (getD kvs k = none ∧ valV ws (Ky.key k) = none) ∨ ∃ y v, getD kvs k = some y ∧ valV ws (Ky.key k) = some v ∧ rep K H v y := by
  unfold DK at h
  induction h with
  | nil => exact .inl ⟨rfl, rfl⟩
  | @cons w kv ws kvs h t ih =>
    unfold getD valV
    by_cases e : kv.1 = k
    · have e2 : w.1 = Ky.key k := h.1.trans (congrArg _ e)
      rw [List.find?_cons_of_pos (by simpa using e), List.find?_cons_of_pos (by simpa using e2)]
      exact .inr ⟨_, _, rfl, rfl, h.2⟩
    · have e2 : ¬ w.1 = Ky.key k := fun z => e (Ky.inj (h.1.symm.trans z))
      rw [List.find?_cons_of_neg (by simpa using e), List.find?_cons_of_neg (by simpa using e2)]
      exact ih
theorem DK.some {K : Fg} {H : Hp} {ws : List (Ky.kt κ × V)} {kvs : List (κ × β)} (k : κ) (h : DK K H ws kvs) : (valV ws (Ky.key k)).isSome = (getD kvs k).isSome := by
  rcases h.get k with ⟨h1, h2⟩ | ⟨y, v, h1, h2, _⟩
  · rw [h1, h2]
    rfl
  · rw [h1, h2]
    rfl
theorem DK.repl {K : Fg} {H : Hp} {ws : List (Ky.kt κ × V)} {kvs : List (κ × β)} (k : κ) {v : V} {y : β} (hv : rep K H v y) (h : DK K H ws kvs) : DK K H (ws.map fun kv => if kv.1 = Ky.key k then (kv.1, v) else kv) (kvs.map fun kv => if kv.1 = k then (kv.1, y) else kv) := by
  unfold DK at h ⊢
  induction h with
  | nil => exact .nil
  | @cons w kv ws kvs h t ih =>
    rw [List.map_cons, List.map_cons]
    refine .cons ?_ ih
    by_cases e : kv.1 = k
    · have e2 : w.1 = Ky.key k := h.1.trans (congrArg _ e)
      rw [if_pos e, if_pos e2]
      exact ⟨h.1, hv⟩
    · have e2 : ¬ w.1 = Ky.key k := fun z => e (Ky.inj (h.1.symm.trans z))
      rw [if_neg e, if_neg e2]
      exact h
theorem Paired.app2 {α β : Type} {R : α → β → Prop} : ∀ {xs xs' : List α} {ys ys' : List β}, Paired R xs ys → Paired R xs' ys' → Paired R (xs ++ xs') (ys ++ ys')
  | _, _, _, _, .nil, h => h
  | _, _, _, _, .cons q t, h => .cons q (Paired.app2 t h)
theorem DK.put {K : Fg} {H : Hp} {ws : List (Ky.kt κ × V)} {kvs : List (κ × β)} (k : κ) {v : V} {y : β} (hv : rep K H v y) (h : DK K H ws kvs) : DK K H (putK ws (Ky.key k) v) (putD kvs k y) := by
  unfold putK putD
  rw [valV_any, h.some k]
  split
  · exact DK.repl k hv h
  · exact Paired.app2 h (.cons ⟨rfl, hv⟩ .nil)
end
section
variable {K : Fg} {F Kn0 : Hp} {sl sl' : List Sl} {ow ow0 ow1 ow2 : List Ow} {κ β γ : Type} [Rp κ] [Ky κ] [DecidableEq κ] [Rp β] [Rp γ] {ta tb te td tk : TE} {k : κ} {x : γ} {D : Ends} {t u tz : TS} {b : Bool} {i j : Nat} {p : Addr}
/-- the object at place j is another one now, all else as it was -/
theorem S.writeG {σ : L2.St} {Kn H Kn' H' : Hp} {o1 o2 : Ow} (s : S K F Kn0 sl ow σ Kn H) (hj : ow[j]? = some o1) (ha : o1.ad = p) (hb : o2.ad = p) (kk : Ex Kn Kn') (kh : Ex Kn' H')
    (hq : ∀ q, q ≠ p → H q ≠ none → H' q = H q) (sp : ∀ q, H q ≠ none → Kn q = none → Kn' q = none) (hp : o2.ok K Kn' H') : S K F Kn0 sl (ow.set j o2) σ Kn' H' := by
  obtain ⟨f1, f2, f3⟩ := s.ow.each _ (List.mem_of_getElem? hj)
  have f4 := Ow.there f3
  rw [ha] at f1 f2 f4
  have jl : j < ow.length := (List.getElem?_eq_some_iff.mp hj).1
  refine ⟨s.e0.trans kk, kh, fun a u h => ?_, fun a h1 h2 => sp a (Ex.nn s.ef h1) (s.sep a h1 h2), s.sl.mono kk, ⟨fun o ho => ?_, ?_⟩⟩
  · have hne : a ≠ p := fun z => by rw [z, f1] at h; cases h
    rw [hq a hne (ne_none_of (s.ef _ _ h))]
    exact s.ef _ _ h
  · obtain ⟨i, hi⟩ := List.getElem?_of_mem ho
    by_cases e : i = j
    · subst e
      rw [List.getElem?_set_self jl] at hi
      cases hi
      rw [hb]
      exact ⟨f1, sp p f4 f2, hp⟩
    · rw [List.getElem?_set_ne (Ne.symm e)] at hi
      obtain ⟨h1, h2, h3⟩ := s.ow.each o (List.mem_of_getElem? hi)
      have h4 := Ow.there h3
      have hne : o.ad ≠ p := fun z => e (ow_at s.ow.nd hi hj (z.trans ha.symm))
      exact ⟨h1, sp _ h4 h2, Ow.ok_mono kk (hq _ hne h4) h3⟩
  · have e : (ow.set j o2).map Ow.ad = ow.map Ow.ad := by
      rw [List.map_set]
      refine List.ext_getElem? fun i => ?_
      by_cases e : j = i
      · subst e
        rw [List.getElem?_set_self (by rw [List.length_map]; exact jl), List.getElem?_map, hj, hb, ← ha]
        rfl
      · rw [List.getElem?_set_ne e]
    rw [e]
    exact s.ow.nd
theorem S.ownG {σ : L2.St} {Kn H : Hp} {o : Ow} (s : S K F Kn0 sl ow σ Kn H) (ha : o.ad = p) (fp : F p = none) (kp : Kn p = none) (no : ∀ o ∈ ow, o.ad ≠ p) (ok : o.ok K Kn H) : S K F Kn0 sl (o :: ow) σ Kn H :=
  ⟨s.e0, s.ek, s.ef, s.sep, s.sl, ⟨fun o ho => by
    rcases List.mem_cons.mp ho with rfl | ho
    · rw [ha]
      exact ⟨fp, kp, ok⟩
    · exact s.ow.each o ho, List.nodup_cons.mpr ⟨fun h => by
      obtain ⟨o, ho, e⟩ := List.mem_map.mp h
      exact no o ho (e.trans ha), s.ow.nd⟩⟩⟩
/-- x = {} -/
theorem sb_dnewK {sl' : Addr → List Sl} (hm : Ky.ho (κ := κ) [] = HO.dK []) (hs : ∀ p, sl.set i (.at p) = sl' p) (k : ∀ p, SN K F Kn0 (sl' p) (oo p (Dc.mk ([] : List (κ × β))) :: ow) D) : SB K F Kn0 sl ow D (tAsg tDNewK (gName i)) := fun σ Kn H s p hp =>
  k p _ Kn _ (hs p ▸ ((s.grow (Gr.newU s.ek hp)).ownG (p := p) (o := oo p (Dc.mk ([] : List (κ × β)))) rfl (fresh_back s.ef hp) (fresh_back s.ek hp) (owned_ne s hp) ⟨_, upd_same, [], hm.symm, .nil⟩).seta i)
theorem sb_dnewT {sl' : Addr → List Sl} (hm : Ky.ho (κ := κ) [] = HO.dT []) (hs : ∀ p, sl.set i (.at p) = sl' p) (k : ∀ p, SN K F Kn0 (sl' p) (oo p (Dc.mk ([] : List (κ × β))) :: ow) D) : SB K F Kn0 sl ow D (tAsg tDNewT (gName i)) := fun σ Kn H s p hp =>
  k p _ Kn _ (hs p ▸ ((s.grow (Gr.newU s.ek hp)).ownG (p := p) (o := oo p (Dc.mk ([] : List (κ × β)))) rfl (fresh_back s.ef hp) (fresh_back s.ek hp) (owned_ne s hp) ⟨_, upd_same, [], hm.symm, .nil⟩).seta i)
/-- d[k] = y -/
theorem sb_dput {y : β} {d d' : Dc κ β} (hi : sl[i]? = some (.at p)) (hj : ow[j]? = some (oo p d)) (h : EV K F Kn0 sl ow te y) (hk : EV K F Kn0 sl ow tk k) (hx : putO d k y = some d') (ho : ow.set j (oo p d') = ow1) (n : SN K F Kn0 sl ow1 D) :
    SB K F Kn0 sl ow D (sDPut (tVar i) tk te) := fun σ Kn H s => h σ Kn H s _ fun v Kn1 H1 g1 r1 => by
  obtain ⟨o, h1, h2⟩ := s.sl.get hi
  refine ⟨.ref p, by rw [h1]; exact congrArg some h2, hk σ Kn1 H1 (s.grow g1) _ fun w Kn2 H2 g2 r2 => ?_⟩
  have s2 := (s.grow g1).grow g2
  obtain ⟨f1, f2, o1, f3, ws, f4, f5⟩ := s2.ow.each _ (List.mem_of_getElem? hj)
  subst f4
  unfold putO at hx
  split at hx
  · case isTrue hl =>
    cases hx
    subst ho
    refine ⟨p, _, rfl, Ky.put r2 s2.ek f3 (by rw [f5.length]; exact lt_line hl), n _ Kn2 _ ?_⟩
    exact s2.writeG hj rfl rfl (Ex.refl _) (upd_in s2.ek f2) (fun q hq _ => upd_ne hq) (fun _ _ h => h) ⟨_, upd_same, _, rfl, DK.put k (Rp.mono g2.kk r1) f5⟩
  · cases hx
/-- k in d -/
theorem ev_dinO {d : Dc κ β} (hi : sl[i]? = some (.at p)) (hj : ow[j]? = some (oo p d)) (hk : EV K F Kn0 sl ow tk k) : EV K F Kn0 sl ow (tDIn tk (tVar i)) (getD d.l k).isSome := fun σ Kn H s Q q => hk σ Kn H s _ fun v Kn1 H1 g1 r1 => by
  have s1 := s.grow g1
  obtain ⟨o, h1, h2⟩ := s1.sl.get hi
  obtain ⟨f1, f2, o1, f3, ws, f4, f5⟩ := s1.ow.each _ (List.mem_of_getElem? hj)
  subst f4
  exact ⟨.ref p, by rw [h1]; exact congrArg some h2, p, _, rfl, Ky.get r1 s1.ek (Rd.of f3), q _ Kn1 H1 g1 (congrArg V.bl (f5.some k))⟩
theorem ev_din {d : Dc κ β} (hd : EV K F Kn0 sl ow td d) (hk : EV K F Kn0 sl ow tk k) : EV K F Kn0 sl ow (tDIn tk td) (getD d.l k).isSome := fun σ Kn H s Q q => hk σ Kn H s _ fun v Kn1 H1 g1 r1 => hd σ Kn1 H1 (s.grow g1) _ fun u Kn2 H2 g2 r2 => by
  obtain ⟨p, ws, e1, e2, f5⟩ := r2
  exact ⟨p, _, e1, Ky.get (Rp.mono g2.kk r1) g2.kh (rd_ex g2.kh e2), q _ Kn2 H2 (g1.trans g2) (congrArg V.bl (f5.some k))⟩
theorem ev_dnotinO {d : Dc κ β} (hi : sl[i]? = some (.at p)) (hj : ow[j]? = some (oo p d)) (hk : EV K F Kn0 sl ow tk k) : EV K F Kn0 sl ow (tDNotIn tk (tVar i)) (!(getD d.l k).isSome) := fun σ Kn H s Q q => hk σ Kn H s _ fun v Kn1 H1 g1 r1 => by
  have s1 := s.grow g1
  obtain ⟨o, h1, h2⟩ := s1.sl.get hi
  obtain ⟨f1, f2, o1, f3, ws, f4, f5⟩ := s1.ow.each _ (List.mem_of_getElem? hj)
  subst f4
  exact ⟨.ref p, by rw [h1]; exact congrArg some h2, p, _, rfl, Ky.get r1 s1.ek (Rd.of f3), q _ Kn1 H1 g1 (congrArg (fun b => V.bl (!b)) (f5.some k))⟩
theorem ev_dnotin {d : Dc κ β} (hd : EV K F Kn0 sl ow td d) (hk : EV K F Kn0 sl ow tk k) : EV K F Kn0 sl ow (tDNotIn tk td) (!(getD d.l k).isSome) := fun σ Kn H s Q q => hk σ Kn H s _ fun v Kn1 H1 g1 r1 => hd σ Kn1 H1 (s.grow g1) _ fun u Kn2 H2 g2 r2 => by
  obtain ⟨p, ws, e1, e2, f5⟩ := r2
  exact ⟨p, _, e1, Ky.get (Rp.mono g2.kk r1) g2.kh (rd_ex g2.kh e2), q _ Kn2 H2 (g1.trans g2) (congrArg (fun b => V.bl (!b)) (f5.some k))⟩
/-- d[k] -/
theorem ev_dgetO {d : Dc κ β} {y : β} (hi : sl[i]? = some (.at p)) (hj : ow[j]? = some (oo p d)) (hk : EV K F Kn0 sl ow tk k) (hy : getD d.l k = some y) : EV K F Kn0 sl ow (tDGet (tVar i) tk) y := fun σ Kn H s Q q => by
  obtain ⟨o, h1, h2⟩ := s.sl.get hi
  refine ⟨.ref p, by rw [h1]; exact congrArg some h2, hk σ Kn H s _ fun v Kn1 H1 g1 r1 => ?_⟩
  have s1 := s.grow g1
  obtain ⟨f1, f2, o1, f3, ws, f4, f5⟩ := s1.ow.each _ (List.mem_of_getElem? hj)
  subst f4
  rcases f5.get k with ⟨h1, h2⟩ | ⟨y2, w, h1, h2, h3⟩
  · rw [h1] at hy
    cases hy
  · rw [h1] at hy
    cases hy
    exact ⟨p, w, rfl, h2 ▸ Ky.get r1 s1.ek (Rd.of f3), q w Kn1 H1 g1 h3⟩
theorem ev_dget {d : Dc κ β} {y : β} (hd : EV K F Kn0 sl ow td d) (hk : EV K F Kn0 sl ow tk k) (hy : getD d.l k = some y) : EV K F Kn0 sl ow (tDGet td tk) y := fun σ Kn H s Q q => hd σ Kn H s _ fun u Kn1 H1 g1 r1 => hk σ Kn1 H1 (s.grow g1) _ fun v Kn2 H2 g2 r2 => by
  obtain ⟨p, ws, e1, e2, f5⟩ := Rp.mono g2.kk r1
  rcases f5.get k with ⟨h1, h2⟩ | ⟨y2, w, h1, h2, h3⟩
  · rw [h1] at hy
    cases hy
  · rw [h1] at hy
    cases hy
    exact ⟨p, w, e1, h2 ▸ Ky.get r2 g2.kh (rd_ex g2.kh e2), q w Kn2 H2 (g1.trans g2) h3⟩
/-- a dict of one's own, lent -/
theorem S.borrowG {σ : L2.St} {Kn H : Hp} {d : Dc κ β} (s : S K F Kn0 sl ow σ Kn H) (hi : sl[i]? = some (.at p)) (hj : ow[j]? = some (oo p d)) : ∃ o, Kn p = none ∧ H p = some o ∧ S K F Kn0 (sl.set i (sv d)) (ow.eraseIdx j) σ (upd Kn p o) H := by
  obtain ⟨o, h1, h2⟩ := s.sl.get hi
  have h2 : o = some (.ref p) := h2
  obtain ⟨f1, f2, ob, f3, f4⟩ := s.ow.each _ (List.mem_of_getElem? hj)
  have s1 := s.sub (List.eraseIdx_sublist ow j)
  have no : ∀ o ∈ ow.eraseIdx j, o.ad ≠ p := fun o hm z => by
    obtain ⟨m, hm'⟩ := List.getElem?_of_mem hm
    rw [List.getElem?_eraseIdx] at hm'
    split at hm'
    · have := ow_at s.ow.nd hm' hj z
      omega
    · have := ow_at s.ow.nd hm' hj z
      omega
  have s2 := s1.know (o := ob) f1 f2 no f3
  have hσ : σ.set i o = σ := by
    refine List.ext_getElem? fun m => ?_
    by_cases e : i = m
    · subst e
      rw [List.getElem?_set_self (List.getElem?_eq_some_iff.mp h1).1, h1]
    · rw [List.getElem?_set_ne e]
  have s3 := s2.set (x := sv d) (o := o) i ⟨.ref p, h2, by
    obtain ⟨ws, rfl, f5⟩ := f4
    exact ⟨p, ws, rfl, Rd.of upd_same, DK.mono (Ex.new f2) f5⟩⟩
  rw [hσ] at s3
  exact ⟨ob, f2, f3, s3⟩
theorem ev_borG [Fl γ] {z : γ} {d : Dc κ β} (hi : sl[i]? = some (.at p)) (hj : ow[j]? = some (oo p d)) (hs : sl.set i (sv d) = sl') (ho : ow.eraseIdx j = ow1) (h : EV K F Kn0 sl' ow1 te z) : EV K F Kn0 sl ow te z := fun σ Kn H s Q q => by
  obtain ⟨ws, kp, hp, s1⟩ := s.borrowG hi hj
  subst hs
  subst ho
  exact h σ _ H s1 Q fun v Kn' H' g r => q v Kn H' ⟨Ex.refl _, g.hh, s.ek.trans g.hh, fun _ _ h => h⟩ (Fl.iff.mpr (Fl.iff.mp r))
theorem et_borG {tt : TT} {d : Dc κ β} (hi : sl[i]? = some (.at p)) (hj : ow[j]? = some (oo p d)) (hs : sl.set i (sv d) = sl') (ho : ow.eraseIdx j = ow1) (h : ET K F Kn0 sl' ow1 tt b) : ET K F Kn0 sl ow tt b := fun σ Kn H s Q q => by
  obtain ⟨ws, kp, hp, s1⟩ := s.borrowG hi hj
  subst hs
  subst ho
  exact h σ _ H s1 Q fun Kn' H' g => q Kn H' ⟨Ex.refl _, g.hh, s.ek.trans g.hh, fun _ _ h => h⟩
end
section
variable {X : Cx} {o i e value : Expr} {pos pos' tpos : Pos} {td ty tv : TE}
theorem k_dget (hu : X.A.units + 64 < cLine) (ho : PE X o td) (hi : PE X i ty) (hs : NoSl i) : PE X (.Subscript o i pos) (tDGet td ty) := pe_dget (by omega) ho hi hs
theorem k_din (hu : X.A.units + 64 < cLine) (hi : PE X i ty) (ho : PE X o td) : PC X .In i o (tDIn ty td) := pc_din (by omega) hi ho
theorem k_dnotin (hu : X.A.units + 64 < cLine) (hi : PE X i ty) (ho : PE X o td) : PC X .NotIn i o (tDNotIn ty td) := pc_dnotin (by omega) hi ho
theorem k_dput (hu : X.A.units + 64 < cLine) (ho : PE X o td) (hi : PE X i ty) (hv : PE X value tv) (hs : swapsWith value (some (.Subscript o i pos')) pos.line X.env = pure false) : PS X (.Assign [.Subscript o i pos'] value pos) (sDPut td ty tv) := ps_dput (by omega) ho hi hv hs
end
/-! ### a new list out of an operation with effects -/
section
variable {K : Fg} {F Kn0 : Hp} {sl : List Sl} {ow ow1 ow2 : List Ow} {α β γ : Type} [Rp α] [Rp β] [Rp γ] {ta tb : TE} {x : α} {y : β}
theorem enm_op {r : R2} {zs : List γ} (ha : EM K F Kn0 sl ow ta ow1 x) (hb : EM K F Kn0 sl ow1 tb ow2 y) (hr : R2L K r x y zs) : ENM K F Kn0 sl ow (tOp r ta tb) ow2 zs := fun σ Kn H s Q q =>
  ha σ Kn H s _ fun v Kn1 H1 e1 s1 r1 => hb σ Kn1 H1 s1 _ fun w Kn2 H2 e2 s2 r2 => hr Kn2 H2 v w s2.ek (Rp.mono e2 r1) r2 Q fun p ws Kn' H' g' hp kp hw r' =>
    q p ws Kn' H' ((e1.trans e2).trans g'.kk) (s2.grow g') (fresh_back s2.ef hp) kp (owned_ne s2 hp) hw r'
end
/-! ### a display -/
section
variable {K : Fg} {F Kn0 : Hp} {sl : List Sl} {ow : List Ow} {κ β : Type} [Rp κ] [K1 κ] [DecidableEq κ] [Rp β] {tk tv : TE} {k : κ} {y : β} {trs : List (TE × TE)} {kvs : List (κ × β)}
def EPs (K : Fg) (F Kn0 : Hp) (sl : List Sl) (ow : List Ow) (trs : List (TE × TE)) (kvs : List (κ × β)) : Prop := ∀ σ Kn H, S K F Kn0 sl ow σ Kn H → ∀ Q : List (V × V) → Hp → Prop,
  (∀ ws Kn' H', Gr Kn H Kn' H' → DK K Kn' ws kvs → Q (ws.map fun w => (kV w.1, w.2)) H') → tPairs trs σ H Q
theorem eps_nil : EPs K F Kn0 sl ow [] ([] : List (κ × β)) := fun σ Kn H s Q q => q [] Kn H (Gr.refl s.ek) .nil
theorem eps_cons (hk : EV K F Kn0 sl ow tk k) (hv : EV K F Kn0 sl ow tv y) (hr : EPs K F Kn0 sl ow trs kvs) : EPs K F Kn0 sl ow ((tk, tv) :: trs) ((k, y) :: kvs) := fun σ Kn H s Q q =>
  hk σ Kn H s _ fun v Kn1 H1 g1 r1 => hv σ Kn1 H1 (s.grow g1) _ fun w Kn2 H2 g2 r2 => hr σ Kn2 H2 ((s.grow g1).grow g2) _ fun ws Kn3 H3 g3 r3 => by
    have e := K1.iff r1
    subst e
    exact q ((K1.key k, w) :: ws) Kn3 H3 ((g1.trans g2).trans g3) (.cons ⟨rfl, Rp.mono g3.kk r2⟩ r3)
theorem DK.merge {K : Fg} {H : Hp} : ∀ {ms : List (Key × V)} {more : List (κ × β)} {ws : List (Key × V)} {kvs : List (κ × β)}, DK K H ms more → DK K H ws kvs → DK K H (mergeK ws ms) (mergeD kvs more) := by
  intro ms more ws kvs h
  unfold DK at h
  induction h generalizing ws kvs with
  | nil => exact fun h => h
  | @cons w kv ms more h t ih =>
    intro q
    refine ih ?_
    show DK K H (putK ws w.1 w.2) (putD kvs kv.1 kv.2)
    rw [h.1]
    exact DK.put kv.1 h.2 q
/-- {..}[k] -/
theorem ev_pick (hp : EPs K F Kn0 sl ow trs kvs) (hk : EV K F Kn0 sl ow tk k) (hl : kvs.length ≤ 15) (hy : getD (mergeD [] kvs) k = some y) : EV K F Kn0 sl ow (tDGet (tDisp trs) tk) y := fun σ Kn H s Q q p hp0 => by
  have g0 : Gr Kn H Kn (upd H p (.dK [])) := Gr.newU s.ek hp0
  refine hp σ Kn _ (s.grow g0) _ fun ws Kn1 H1 g1 r1 => ?_
  have e1 : H1 p = some (.dK []) := g1.hh _ _ upd_same
  have kp : Kn1 p = none := g1.sp p (ne_none_of upd_same) (fresh_back s.ek hp0)
  have g : Gr Kn H Kn1 (upd H1 p (.dK (mergeK [] ws))) := ⟨g1.kk, fun a u h => by
    have hne : a ≠ p := fun z => by rw [z, hp0] at h; cases h
    rw [upd_ne hne]
    exact g1.hh _ _ (by rw [upd_ne hne]; exact h), upd_in g1.kh kp, fun a h1 h2 => g1.sp a (Ex.nn g0.hh h1) h2⟩
  refine ⟨e1, ws, rfl, by rw [r1.length]; exact hl, hk σ Kn1 _ (s.grow g) _ fun v Kn2 H2 g2 r2 => ?_⟩
  have r3 : DK K Kn1 (mergeK [] ws) (mergeD [] kvs) := DK.merge r1 .nil
  rcases r3.get k with ⟨h1, h2⟩ | ⟨y2, w, h1, h2, h3⟩
  · rw [h1] at hy
    cases hy
  · rw [h1] at hy
    cases hy
    exact ⟨p, w, rfl, h2 ▸ Ky.get r2 g2.kh (Rd.of (g2.hh _ _ upd_same)), q w Kn2 H2 (g.trans g2) (Rp.mono g2.kk h3)⟩
end
end Wk
/-! Wsort: sorted of a list of alike data (numbers, texts, tuples of these); sorted of a dict's keys; xs[::-1] -/
namespace L2
open PySem PySem.Spec PyProof.Rows
/-- sorted(xs), xs a list of alike data -/
def rSortedD (K : PySem.W.Frag) : List V → Hp → VK → Prop := fun vs H Q => ∃ (a : Addr) (bs : List (V × PyData)), vs = [V.ref a] ∧ SqL K H a (bs.map (·.1)) ∧ (∀ b ∈ bs, Dp K H b.1 b.2) ∧ PySem.W.AllAlike (bs.map (·.2)) ∧ PySem.W.Sortable (bs.map (·.2)) ∧ bs.length ≤ 1000000 ∧ (∀ b ∈ bs, b.2.depth ≤ 60) ∧
  ∀ p, H p = none → Q (.ref p) (upd H p (.lst ((bs.mergeSort (PySem.W.dataLe false (fun b : V × PyData => b.2))).map (·.1))))
theorem each_vals : ∀ {bs : List (V × PyData)} {us : List Value}, Vals (bs.map (·.1)) us → PySem.W.EachIs (fun v (b : V × PyData) => RelV b.1 v) us bs
  | [], _, h => by
    have h' : Vals [] _ := h
    cases h'
    exact .nil
  | b :: bs, _, h => by
    have h' : Vals (b.1 :: bs.map (·.1)) _ := h
    cases h' with
    | cons r t => exact .cons r (each_vals t)
theorem vals_each : ∀ {bs : List (V × PyData)} {us : List Value}, PySem.W.EachIs (fun v (b : V × PyData) => RelV b.1 v) us bs → Vals (bs.map (·.1)) us
  | _, _, .nil => .nil
  | _, _, .cons r t => .cons r (vals_each t)
theorem each_reads {X : Cx} {pins : List (Addr × Obj)} {σ : St} {H : Hp} {s : Shared} (I : Inv X pins σ H s) : ∀ {bs : List (V × PyData)} {us : List Value}, (∀ b ∈ bs, Dp X.K H b.1 b.2) → PySem.W.EachIs (fun v (b : V × PyData) => RelV b.1 v) us bs → PySem.W.EachIs (fun v (b : V × PyData) => ∃ as, Reads s.heap v b.2 as) us bs
  | _, _, _, .nil => .nil
  | _, _, h, .cons r t => .cons (Dp.reads I _ _ _ (h _ List.mem_cons_self) r) (each_reads I (fun b hb => h b (List.mem_cons_of_mem _ hb)) t)
theorem cr_sortedD {X : Cx} (hu : X.A.units + 64 < cLine) : CallR X (.builtin "sorted") (rSortedD X.K) := by
  intro pins s σ H vs us Q I r h
  obtain ⟨a, bs, rfl, hs, hd, hal, hk, hL, hdp, q⟩ := h
  obtain ⟨its, rv, hl, hz⟩ := I.list hs
  rw [Vals.ref1 r]
  have e := each_vals rv
  have hL' : bs.length ≤ sizeLine := Nat.le_trans hL (by decide)
  refine PySem.W.sorted_data (vs := its) (enc := fun b : V × PyData => b.2) hl.isList e (each_reads I hd e) hal hk hL' (fun b hb => by have := hdp b hb; omega) fun out ho eo => ?_
  obtain ⟨ep, he'⟩ := PyProof.Rows.sortedAll_at s.heap its out.toArray
  have hlen : ((bs.mergeSort (PySem.W.dataLe false (fun b : V × PyData => b.2))).map (·.1)).length ≤ sizeLine := by
    rw [List.length_map, List.length_mergeSort]
    exact hL'
  exact ⟨.ref _, upd H (s.heap.objs.size + 1) (.lst _), I.laid (t' := s.toks) (fun _ _ => PyProof.Rows.sortedAll_old) (Nat.le_succ _) ⟨hlen, out, ep, vals_each eo, he'⟩, rfl, q _ (I.hok.fresh (Nat.le_succ _))⟩
end L2
namespace Wk
open PySem PySem.Spec L2 Evl
/-- alike, one with the other -/
class Al (α : Type) [Rp α] [Pd α] : Prop where
  al : ∀ a b : α, PySem.W.alike (Pd.toD a) (Pd.toD b) = true
class Als (τ : Type) [Tp τ] [Pq τ] : Prop where
  al : ∀ a b : τ, PySem.W.alikeAll (Pq.toDs a) (Pq.toDs b) = true
class So (α : Type) [Rp α] [Pd α] : Prop where
  so : (∀ a : α, ∃ x r, Pd.toD a = .tuple (x :: r)) ∨ ∀ a : α, Pd.toD a ≠ .none ∧ ∀ xs, Pd.toD a ≠ .tuple xs
instance : Al Int := ⟨fun _ _ => rfl⟩
instance : Al Str := ⟨fun _ _ => rfl⟩
instance : Al Bool := ⟨fun _ _ => rfl⟩
instance : Als Unit := ⟨fun _ _ => rfl⟩
instance {α τ : Type} [Rp α] [Tp τ] [Pd α] [Pq τ] [Al α] [Als τ] : Als (α × τ) := ⟨fun a b => by
  show PySem.W.alikeAll (Pd.toD a.1 :: Pq.toDs a.2) (Pd.toD b.1 :: Pq.toDs b.2) = true
  rw [PySem.W.alikeAll, Al.al, Als.al]
  rfl⟩
instance {α τ : Type} [Rp α] [Tp τ] [Pd α] [Pq τ] [Al α] [Als τ] : Al (α × τ) := ⟨fun a b => by
  show PySem.W.alike (.tuple (Pq.toDs a)) (.tuple (Pq.toDs b)) = true
  rw [PySem.W.alike, Als.al]⟩
instance : So Int := ⟨.inr fun a => ⟨(fun h => nomatch h), (fun _ h => nomatch h)⟩⟩
instance : So Str := ⟨.inr fun a => ⟨(fun h => nomatch h), (fun _ h => nomatch h)⟩⟩
instance : So Bool := ⟨.inr fun a => ⟨(fun h => nomatch h), (fun _ h => nomatch h)⟩⟩
instance {α τ : Type} [Rp α] [Tp τ] [Pd α] [Pq τ] : So (α × τ) := ⟨.inl fun a => ⟨_, _, rfl⟩⟩
def leD {α : Type} [Rp α] [Pd α] (a b : α) : Bool := PySem.W.dataLe false (fun c : α => Pd.toD c) a b
def srtD {α : Type} [Rp α] [Pd α] (xs : List α) : List α := xs.mergeSort leD
def srtDO {α : Type} [Rp α] [Pd α] (xs : List α) : Option (List α) := if xs.length ≤ 1000000 ∧ Pd.dp α ≤ 60 then some (srtD xs) else none
theorem paired_zip {α β : Type} {R : α → β → Prop} : ∀ {vs : List α} {xs : List β}, Paired R vs xs → ∃ ps : List (α × β), ps.map (·.1) = vs ∧ ps.map (·.2) = xs ∧ ∀ c ∈ ps, R c.1 c.2
  | _, _, .nil => ⟨[], rfl, rfl, (fun _ h => nomatch h)⟩
  | _, _, .cons r t => by
    obtain ⟨ps, h1, h2, h3⟩ := paired_zip t
    refine ⟨(_, _) :: ps, by rw [List.map_cons, h1], by rw [List.map_cons, h2], fun c hc => ?_⟩
    rcases List.mem_cons.mp hc with rfl | hc
    · exact r
    · exact h3 c hc
theorem zip_paired {α β : Type} {R : α → β → Prop} : ∀ {ps : List (α × β)}, (∀ c ∈ ps, R c.1 c.2) → Paired R (ps.map (·.1)) (ps.map (·.2))
  | [], _ => .nil
  | c :: ps, h => .cons (h c List.mem_cons_self) (zip_paired fun d hd => h d (List.mem_cons_of_mem _ hd))
section
variable {K : Fg} {F Kn0 : Hp} {sl sl' : List Sl} {ow ow1 : List Ow} {α β γ : Type} [Rp α] [Rp β] [Rp γ] {te : TE} {i j : Nat} {p : Addr}
theorem rc_sortD {α : Type} [Rp α] [Pd α] [Al α] [So α] {xs zs : List α} (h : srtDO xs = some zs) : RCL K (rSortedD K) (xs, ()) zs := fun Kn H vs ek hv Q q => by
  unfold srtDO at h
  split at h
  case isFalse => cases h
  rename_i hl
  cases h
  obtain ⟨v, rfl, l, ws, rfl, h1, h2⟩ := one_arg hv
  obtain ⟨ps, e1, e2, e3⟩ := paired_zip h2
  have eb1 : (ps.map fun c => ((c.1, Pd.toD c.2) : V × PyData)).map (·.1) = ws := by
    rw [List.map_map, ← e1]
    rfl
  have lp : ps.length = xs.length := by rw [← e2, List.length_map]
  refine ⟨l, ps.map fun c => (c.1, Pd.toD c.2), rfl, by rw [eb1]; exact sq_of (ek _ _ h1), fun b hb => ?_, ?_, ?_, by rw [List.length_map, lp]; exact hl.1, fun b hb => ?_, fun p hp => ?_⟩
  · obtain ⟨c, hc, rfl⟩ := List.mem_map.mp hb
    exact Pd.isD (Rp.mono ek (e3 c hc))
  · rw [List.map_map]
    exact PySem.W.AllAlike.of fun a b => Al.al _ _
  · rw [List.map_map]
    rcases (So.so : _ ∨ ∀ a : α, _) with h | h
    · exact PySem.W.Sortable.tuples fun c => h _
    · exact PySem.W.Sortable.others fun c => h _
  · obtain ⟨c, hc, rfl⟩ := List.mem_map.mp hb
    exact Nat.le_trans (Pd.dep _) hl.2
  · have m1 : (ps.mergeSort fun a b => leD a.2 b.2).map (fun c => ((c.1, Pd.toD c.2) : V × PyData)) = (ps.map fun c => ((c.1, Pd.toD c.2) : V × PyData)).mergeSort (PySem.W.dataLe false (fun b : V × PyData => b.2)) := List.map_mergeSort fun a _ b _ => rfl
    have m2 : (ps.mergeSort fun a b => leD a.2 b.2).map (·.2) = srtD xs := by
      unfold srtD
      rw [← e2]
      exact List.map_mergeSort fun a _ b _ => rfl
    rw [← m1, List.map_map]
    refine q p _ Kn _ (Gr.newU ek hp) hp (fresh_back ek hp) upd_same ?_
    rw [← m2]
    exact zip_paired fun c hc => e3 c ((List.mergeSort_perm _ _).mem_iff.mp hc)
theorem en_rev {xs : List α} (h : EV K F Kn0 sl ow te xs) : EN K F Kn0 sl ow (tRevL K te) xs.reverse := fun σ Kn H s Q q => h σ Kn H s _ fun v Kn1 H1 g1 r1 => by
  obtain ⟨p, ws, rfl, h3, h4⟩ := r1
  refine ⟨p, ws, rfl, sq_of (g1.kh _ _ h3), fun l hl => q l _ Kn1 _ (g1.trans (Gr.newU g1.kh hl)) (fresh_back g1.hh hl) (fresh_back g1.kh hl) upd_same ?_⟩
  obtain ⟨ps, e1, e2, e3⟩ := paired_zip h4
  rw [← e1, ← e2, ← List.map_reverse, ← List.map_reverse]
  exact zip_paired fun c hc => e3 c (List.mem_reverse.mp hc)
theorem k_sortedD {X : Cx} (hu : X.A.units + 64 < cLine) (h : X.K = K := by rfl) : CallR X (.builtin "sorted") (rSortedD K) := h ▸ cr_sortedD hu
theorem k_revL {X : Cx} {e : Expr} {te : TE} {k : Nat} {p1 p2 p3 pos : Pos} (he : PE X e te) (h : X.K = K := by rfl) : PE X (.Subscript e (.Slice none none (some (.UnaryOp .USub (.Constant (.int 1) k p1) p2)) p3) pos) (tRevL K te) := h ▸ pe_revL he
/-- sorted(d), d a dict with text keys -/
def rSortedK : List V → Hp → VK → Prop := fun xs H Q => ∃ (a : Addr) (kvs : List (Key × V)) (ks : List Str), xs = [.ref a] ∧ Rd H a (.dK kvs) ∧ kvs.map (·.1) = ks.map Sum.inr ∧ ks.length < 64 ∧ ∀ ys p, ys.Perm ks → PyProof.Rows.sortedS ys = true → H p = none → Q (.ref p) (upd H p (.lst (ys.map V.str)))
theorem k_sortedK {X : Cx} (hc : X.calm = true := by rfl) : CallR X (.builtin "sorted") rSortedK := call_sortedD hc
end
end Wk
/-! Wdeal: sum(d.values()), divmod, d[k] += c, xs[i] += c, str(n), zfill, a dict of one's own told -/
namespace L2
open PySem PySem.Spec PyProof.Rows
section
variable {X : Cx}
theorem get_list : PGet X (rIxL X.K) := by
  intro pins s σ H x y v u Q I rx ry h
  obtain ⟨p, xs, i, z, rfl, rfl, hq, he, q⟩ := h
  cases rx
  obtain ⟨t, rfl⟩ := ry
  obtain ⟨its, r, pl, hz⟩ := I.list hq
  obtain ⟨j, h1, h2, h3, h4, h5⟩ := atI_get he
  obtain ⟨w, ew, rw'⟩ := r.get h2
  have hl := r.length
  have hn := line63
  have fin : EP X pins σ Q w s := ⟨z, H, I, rw', q⟩
  by_cases h0 : 0 ≤ i
  · have hj : i.toNat = j := by
      rw [seqIndex_of h0 h5] at h1
      exact Option.some.inj h1
    exact wpAny_getItem_list pl.isList h0 (by omega) (by rw [hj]; simpa using ew) fin
  · have hj : (i + (its.toArray.size : Int)).toNat = j := by
      rw [seqIndex_neg (by omega) h4] at h1
      rw [List.size_toArray, ← hl]
      exact Option.some.inj h1
    exact wpAny_getItem_list_neg pl.isList (by omega) (by rw [List.size_toArray] <;> omega) (by omega) (by rw [hj]; simpa using ew) fin
/-- sum(o.values()), a dict with int values -/
def tSumVals (td : TE) : TE := fun σ H Q => td σ H fun x H1 => ∃ (a : Addr) (kvs : List (Key × V)) (is : List Int), x = V.ref a ∧ Rd H1 a (.dK kvs) ∧ kvs.map (·.2) = is.map V.int ∧ Q (.int is.sum) H1
theorem pre_sum (is : List Int) : ∀ n : Nat, n ≤ is.length → preSum (fun i => is.getD i 0) n = (is.take n).sum
  | 0, _ => rfl
  | n + 1, h => by
    have ih := pre_sum is n (by omega)
    show preSum (fun i => is.getD i 0) n + is.getD n 0 = _
    rw [ih, List.take_succ, List.sum_append, List.getD_eq_getElem?_getD, List.getElem?_eq_getElem (show n < is.length by omega)]
    simp
variable {o : Expr} {p pos apos mpos : Pos} {td : TE}
theorem pe_sumVals (hc : X.calm = true) (hg : Gl X "sum") (hm : X.mg "sum" = none) (hd : PE X o td) (hbase : attributeBase o "values" X.env (eval o X.env) = eval o X.env := by rfl) (hline : (apos.endLine == mpos.line) = true := by rfl)
    (hse : starEach [Expr.Call (.Attribute o "values" apos) [] [] mpos] X.env = [(false, eval (Expr.Call (.Attribute o "values" apos) [] [] mpos) X.env)] := by rfl) :
    PE X (.Call (.Name "sum" p) [.Call (.Attribute o "values" apos) [] [] mpos] [] pos) (tSumVals td) := by
  refine ⟨fun pins s σ H Q I h => ?_⟩
  refine wpAny_Call_Name_kw (ld_blt I hg hm (u := .builtin "sum") (by first | rfl | decide +kernel) ?_ (by first | decide +kernel | decide) (by first | decide +kernel | decide))
  rw [hse]
  refine PySem.callWith_builtin1 (wpAny_Call_method0_late hbase hline (thn (hd.run pins s σ H _ I h) fun v s1 ⟨x, H1, I1, r1, a, kvs, is, ex, ha, hv, q⟩ => ?_))
  subst ex
  obtain rfl : v = Value.ref a := r1
  obtain ⟨_, hsys, vs, rel, dof⟩ := dk_rd I1.hok ha
  obtain ⟨ep, dat⟩ := dof.dictAt
  have dat' := dat
  obtain ⟨ob, es, ho, ex, hdat, hko, hpr, hnd⟩ := dat'
  refine ⟨"dict", "dict.values", F.plainAttrs_dict, F.slot_dict_values, F.type_dict_values, ⟨ob, ho, ex.1⟩, fun b e => ?_, Calls.callWith_builtin rfl (PySem.evalArgs_none ?_)⟩
  · cases e
    exact ⟨ob, ho, ex.2.1⟩
  refine call_meetsIn F.slot_dict_values ⟨ob, ho, ex.1⟩ F.entry_dict_values (F.args_dict_values_1 _) (meets_dict_values (mixKind X.prog X.w) a hsys) ⟨⟨vs, dof⟩, ?_⟩
  have k1 : ∀ b u, s1.heap.get? b = some u → (s1.heap.push { cls := .type "dict_values", data := .fields #[.ref a] }).get? b = some u := fun b u e => Heap.get?_push_of_some _ e
  have dat1 : (s1.heap.push { cls := .type "dict_values", data := .fields #[.ref a] }).DictAt (mixKind X.prog X.w) a vs ep := dat.keep k1
  have hlv : vs.length = is.length := by
    have e1 := congrArg List.length hv
    rw [List.length_map, List.length_map] at e1
    rw [← e1]
    exact (KV.length rel).symm
  have hval : ∀ (i : Nat) (v : Value), (∃ k, vs[i]? = some (k, v)) → ∃ t, v = Value.int (is.getD i 0) t := fun i v ⟨k, hk⟩ => by
    obtain ⟨x, h1, h2⟩ := KV.at' rel hk
    have e1 : (kvs.map (·.2))[i]? = some x := by rw [List.getElem?_map, h1] <;> rfl
    rw [hv, List.getElem?_map] at e1
    obtain ⟨j, hj, e2⟩ := Option.map_eq_some_iff.mp e1
    subst e2
    obtain ⟨t, e3⟩ := h2
    refine ⟨t, ?_⟩
    rw [e3, List.getD_eq_getElem?_getD, hj] <;> rfl
  refine PySem.call_sum_walkAnyS (wpAny_pyIter_values (v := s1.heap.objs.size) (d := a) ⟨_, Heap.get?_push_size _ rfl, rfl, rfl⟩ dat1 ?_)
  have hlt : a < s1.heap.objs.size := Heap.lt_size ho
  have hsz : (s1.heap.push { cls := .type "dict_values", data := .fields #[.ref a] }).objs.size = s1.heap.objs.size + 1 := Heap.size_push _ _
  refine ⟨_, _, _, _, _, _, _, _, rfl, (Walks.dictValues (knd := mixKind X.prog X.w) (A := X.A.in1) (I.ok.hd hc) (s1.heap.push { cls := .type "dict_values", data := .fields #[.ref a] }).objs.size a (by rw [hsz]; exact Nat.ne_of_lt (Nat.lt_succ_of_lt hlt)) vs ep).toS,
    ⟨⟨_, Heap.get?_push_size _ rfl, rfl, rfl⟩, dat1.keep fun b u e => Heap.get?_push_of_some _ e⟩, fun b hb => ?_, hval, fun s' t' hmv => ?_⟩
  · show b < ((s1.heap.push _).push _).objs.size
    rw [Heap.size_push, Heap.size_push]
    rw [hsz] at hb
    rcases List.mem_cons.mp hb with e | hb
    · rw [e]
      exact Nat.lt_succ_self _
    · have e : b = a := List.mem_singleton.mp hb
      rw [e]
      exact Nat.lt_succ_of_lt (Nat.lt_succ_of_lt hlt)
  · have hk : ∀ b u, s1.heap.get? b = some u → s'.heap.get? b = some u := fun b u e => hmv.heap b u (fun hmem => by
      have e1 : b = (s1.heap.push { cls := .type "dict_values", data := .fields #[.ref a] }).objs.size := List.mem_singleton.mp hmem
      have e2 := Heap.lt_size e
      rw [hsz] at e1
      rw [e1] at e2
      exact absurd e2 (Nat.not_lt.mpr (Nat.le_succ _))) (Heap.get?_push_of_some _ (k1 b u e))
    rw [Moved.eq_with hmv]
    have es : preSum (fun i => is.getD i 0) vs.length = is.sum := by
      rw [pre_sum is _ (by omega), hlv, List.take_length]
    refine ⟨.int is.sum, H1, I1.kept (t' := s'.toks) hk, ⟨t', ?_⟩, q⟩
    rw [es]
end
end L2
namespace Wk
open PySem PySem.Spec L2 Evl
theorem leD_total {α : Type} [Rp α] [Pd α] : PySem.W.TotalLe (leD (α := α)) := by
  have h : PySem.W.TotalLe (PySem.W.dataLe false (fun c : α => Pd.toD c)) := by
    unfold PySem.W.dataLe
    exact PySem.W.sortLe_total _ _ _
  exact ⟨fun a b c => h.trans a b c, fun a b => h.total a b⟩
/-- neither less than the other: the same -/
class Ti (α : Type) [Rp α] [Pd α] : Prop where
  ti : ∀ {a b : α}, PySem.W.dataLt (Pd.toD a) (Pd.toD b) = false → PySem.W.dataLt (Pd.toD b) (Pd.toD a) = false → a = b
class Tis (τ : Type) [Tp τ] [Pq τ] : Prop where
  ti : ∀ {a b : τ}, PySem.W.rowLt (Pq.toDs a) (Pq.toDs b) = false → PySem.W.rowLt (Pq.toDs b) (Pq.toDs a) = false → a = b
instance : Ti Int := ⟨fun {a b} h1 h2 => by
  have h1 : PySem.W.dataLt (.int a) (.int b) = false := h1
  have h2 : PySem.W.dataLt (.int b) (.int a) = false := h2
  rw [PySem.W.dataLt_int, decide_eq_false_iff_not] at h1 h2
  omega⟩
instance : Ti Str := ⟨fun {a b} h1 h2 => by
  have h1 : PySem.W.dataLt (.str a) (.str b) = false := h1
  have h2 : PySem.W.dataLt (.str b) (.str a) = false := h2
  rw [PySem.W.dataLt_str, decide_eq_false_iff_not] at h1 h2
  refine PySem.W.str_of_cps ?_
  exact List.le_antisymm (List.not_lt.mp h2) (List.not_lt.mp h1)⟩
instance : Tis Unit := ⟨fun _ _ => rfl⟩
instance {α τ : Type} [Rp α] [Tp τ] [Pd α] [Pq τ] [Al α] [Ti α] [Tis τ] : Tis (α × τ) := ⟨fun {a b} h1 h2 => by
  have h1 : PySem.W.rowLt (Pd.toD a.1 :: Pq.toDs a.2) (Pd.toD b.1 :: Pq.toDs b.2) = false := h1
  have h2 : PySem.W.rowLt (Pd.toD b.1 :: Pq.toDs b.2) (Pd.toD a.1 :: Pq.toDs a.2) = false := h2
  unfold PySem.W.rowLt at h1 h2
  rw [PySem.W.dataLt_cons (Al.al _ _)] at h1 h2
  by_cases e : a.1 = b.1
  · have e1 : PyData.eqv (Pd.toD a.1) (Pd.toD b.1) = true := (Pd.eqd _ _).mpr e
    have e2 : PyData.eqv (Pd.toD b.1) (Pd.toD a.1) = true := (Pd.eqd _ _).mpr e.symm
    rw [if_pos e1] at h1
    rw [if_pos e2] at h2
    exact Prod.ext e (Tis.ti h1 h2)
  · rw [if_neg (fun z => e ((Pd.eqd _ _).mp z))] at h1
    rw [if_neg (fun z => e ((Pd.eqd _ _).mp z).symm)] at h2
    exact absurd (Ti.ti h1 h2) e⟩
instance {α τ : Type} [Rp α] [Tp τ] [Pd α] [Pq τ] [Al α] [Ti α] [Tis τ] : Ti (α × τ) := ⟨fun {a b} h1 h2 => by
  have h1 : PySem.W.dataLt (.tuple (Pq.toDs a)) (.tuple (Pq.toDs b)) = false := h1
  have h2 : PySem.W.dataLt (.tuple (Pq.toDs b)) (.tuple (Pq.toDs a)) = false := h2
  rw [PySem.W.dataLt_tuple] at h1 h2
  exact Tis.ti (τ := α × τ) h1 h2⟩
theorem leD_anti {α : Type} [Rp α] [Pd α] [Ti α] {a b : α} (h1 : leD a b = true) (h2 : leD b a = true) : a = b := by
  have h1 : (!PySem.W.dataLt (Pd.toD b) (Pd.toD a)) = true := h1
  have h2 : (!PySem.W.dataLt (Pd.toD a) (Pd.toD b)) = true := h2
  rw [Bool.not_eq_true'] at h1 h2
  exact Ti.ti h2 h1
theorem srtD_perm {α : Type} [Rp α] [Pd α] (xs : List α) : (srtD xs).Perm xs := List.mergeSort_perm xs _
theorem srtD_pw {α : Type} [Rp α] [Pd α] (xs : List α) : (srtD xs).Pairwise (fun a b => leD a b = true) := List.pairwise_mergeSort (fun a b c => leD_total.trans a b c) (fun a b => by have := leD_total.total a b; simpa using this) xs
theorem srtD_one {α : Type} [Rp α] [Pd α] [Ti α] {xs ys : List α} (p : ys.Perm xs) (s : ys.Pairwise (fun a b => leD a b = true)) : ys = srtD xs :=
  List.Perm.eq_of_pairwise (le := fun a b : α => leD a b = true) (fun a b _ _ h1 h2 => leD_anti h1 h2) s (srtD_pw xs) (p.trans (srtD_perm xs).symm)
theorem leD_str (a b : Str) : leD a b = decide (a.cps.toList ≤ b.cps.toList) := by
  have := congrFun (congrFun (PySem.W.dataLe_str (fun c : Str => c)) a) b
  exact this
theorem sortedS_pw : ∀ (ys : List Str), PyProof.Rows.sortedS ys = true → ys.Pairwise (fun a b => leD a b = true) := by
  have key : ∀ (ys : List Str) (p : Str), PyProof.Rows.risingS p ys = true → (p :: ys).Pairwise (fun a b => leD a b = true) := by
    intro ys
    induction ys with
    | nil => exact fun p _ => List.pairwise_singleton _ _
    | cons y ys ih =>
      intro p h
      have h : (!ltCps y.cps.toList p.cps.toList && PyProof.Rows.risingS y ys) = true := h
      rw [Bool.and_eq_true] at h
      have h2 := ih y h.2
      have h1 : leD p y = true := by
        rw [leD_str, decide_eq_true_eq]
        have := h.1
        rw [PyProof.Rows.ltCps_eq, Bool.not_eq_true', decide_eq_false_iff_not] at this
        exact List.not_lt.mp this
      refine List.pairwise_cons.mpr ⟨fun z hz => ?_, h2⟩
      rcases List.mem_cons.mp hz with rfl | hz
      · exact h1
      · exact leD_total.trans _ _ _ h1 ((List.pairwise_cons.mp h2).1 z hz)
  intro ys h
  match ys, h with
  | [], _ => exact List.Pairwise.nil
  | y :: ys, h => exact key ys y h
/-! rules -/
def skO {β : Type} (d : Dc Str β) : Option (List Str) := if d.l.length < 64 then some (srtD (d.l.map (·.1))) else none
def dmO (a b : Int) : Option (Int × Int × Unit) := if 0 < b ∧ b < 1073741824 then some (a / b, a % b, ()) else none
def strIO (n : Int) : Option Str := if n.natAbs.log2 < 1920 then some ((toString n : String) : Str) else none
def zfO (s : Str) (n : Int) : Option Str := if PadOk n = true then some (Txt.zfill s n) else none
section
variable {K : Fg} {F Kn0 : Hp} {sl sl' : List Sl} {ow ow1 ow2 : List Ow} {α β γ τ : Type} [Rp α] [Rp β] [Rp γ] [Tp τ] {ta : TA} {ta1 tb te ti tk : TE} {D : Ends} {t : TS} {i j : Nat} {p : Addr}
theorem ev_sumVals {d : Dc Str Int} (h : EV K F Kn0 sl ow te d) : EV K F Kn0 sl ow (tSumVals te) (d.l.map (·.2)).sum := fun σ Kn H s Q q => h σ Kn H s _ fun v Kn1 H1 g1 r1 => by
  obtain ⟨p, ws, rfl, h3, h4⟩ := r1
  refine ⟨p, ws, d.l.map (·.2), rfl, rd_ex g1.kh h3, ?_, q _ Kn1 H1 g1 rfl⟩
  unfold DK at h4
  clear h3 q h
  generalize d.l = kvs at h4
  induction h4 with
  | nil => rfl
  | cons r _ ih =>
    rw [List.map_cons, List.map_cons, List.map_cons, ih]
    congr 1
    exact r.2
theorem dk_keys {H : Hp} {ws : List (Key × V)} {kvs : List (Str × β)} (h : DK K H ws kvs) : ws.map (·.1) = (kvs.map (·.1)).map Sum.inr := by
  unfold DK at h
  induction h with
  | nil => rfl
  | cons r _ ih =>
    rw [List.map_cons, List.map_cons, List.map_cons, ih]
    congr 1
    exact r.1
theorem sk_fin {d : Dc Str β} {zs : List Str} (hz : skO d = some zs) {Kn H : Hp} {p : Addr} {ws : List (Key × V)} (ek : Ex Kn H) (hp : Rd H p (.dK ws)) (h4 : DK K Kn ws d.l) {Q : VK} (q : RL K Kn H Q zs) : rSortedK [.ref p] H Q := by
  unfold skO at hz
  split at hz
  case isFalse => cases hz
  rename_i hl
  cases hz
  refine ⟨p, ws, d.l.map (·.1), rfl, hp, dk_keys h4, by rw [List.length_map]; exact hl, fun ys l pm so hl2 => ?_⟩
  have e := srtD_one pm (sortedS_pw ys so)
  subst e
  exact q l _ Kn _ (Gr.newU ek hl2) hl2 (fresh_back ek hl2) upd_same (fl_paired _)
theorem rc_sortK {d : Dc Str β} {zs : List Str} (hz : skO d = some zs) : RCL K rSortedK (d, ()) zs := fun Kn H vs ek hv Q q => by
  obtain ⟨v, rfl, l, ws, rfl, h1, h2⟩ := one_arg hv
  exact sk_fin hz ek (rd_ex ek h1) h2 q
theorem en_sortKO {d : Dc Str β} {zs : List Str} (hi : sl[i]? = some (.at p)) (hj : ow[j]? = some (oo p d)) (hz : skO d = some zs) : EN K F Kn0 sl ow (tCB rSortedK (tCons (tVar i) tNil)) zs := fun σ Kn H s Q q => by
  obtain ⟨o, h1, h2⟩ := s.sl.get hi
  obtain ⟨f1, f2, ob, f3, ws, f4, f5⟩ := s.ow.each _ (List.mem_of_getElem? hj)
  subst f4
  exact ⟨.ref p, by rw [h1]; exact congrArg some h2, sk_fin hz s.ek (Rd.of f3) f5 q⟩
theorem rc_divmod {a b : Int} {r : Int × Int × Unit} (h : dmO a b = some r) : RCV K (fun xs H Q => ∃ i j, xs = [.int i, .int j] ∧ CDiv i j ∧ ∀ p, H p = none → Q (.ref p) (upd H p (.tup [.int (i / j), .int (i % j)]))) (a, b, ()) r := fun Kn H vs ek hv Q q => by
  obtain ⟨v, w, rfl, h1, h2⟩ := two_args hv
  cases h1
  cases h2
  unfold dmO at h
  split at h
  case isFalse => cases h
  rename_i hb
  cases h
  exact ⟨a, b, rfl, hb, fun p hp => q _ _ _ (Gr.new ek hp) ⟨p, _, rfl, upd_same, .int (a / b), _, rfl, rfl, .int (a % b), _, rfl, rfl, rfl⟩⟩
theorem rc_strI {n : Int} {r : Str} (h : strIO n = some r) : RCV K (fun xs H Q => ∃ i, xs = [.int i] ∧ i.natAbs.log2 < 1920 ∧ Q (.str (toString i)) H) (n, ()) r := fun Kn H vs ek hv Q q => by
  obtain ⟨v, rfl, h1⟩ := one_arg hv
  cases h1
  unfold strIO at h
  split at h
  case isFalse => cases h
  rename_i hb
  cases h
  exact ⟨n, rfl, hb, q.fl ek⟩
theorem ev_zfill {x r : Str} {n : Int} (h : EV K F Kn0 sl ow te x) (hn : EV K F Kn0 sl ow tb n) (hz : zfO x n = some r) : EV K F Kn0 sl ow (tBM K "str" (fun x xs H Q => ∃ (a : Str) (i : Int), x = .str a ∧ xs = [.int i] ∧ PadOk i = true ∧ Q (.str (Txt.zfill a i)) H) te (tCons tb tNil)) r := fun σ Kn H s Q q =>
  h σ Kn H s _ fun v Kn1 H1 g1 r1 => by
    cases r1
    refine ⟨rfl, hn σ Kn1 H1 (s.grow g1) _ fun w Kn2 H2 g2 r2 => ?_⟩
    cases r2
    unfold zfO at hz
    split at hz
    case isFalse => cases hz
    rename_i hb
    cases hz
    exact ⟨x, n, rfl, rfl, hb, q _ Kn2 H2 (g1.trans g2) rfl⟩
/-- d[k] += c -/
theorem sb_daug {κ : Type} [Rp κ] [Ky κ] [DecidableEq κ] {d d' : Dc κ Int} {k : κ} {y c : Int} (hi : sl[i]? = some (.at p)) (hj : ow[j]? = some (oo p d)) (hk : EV K F Kn0 sl ow tk k) (hy : getD d.l k = some y) (h : EV K F Kn0 sl ow te c) (hx : putO d k (y + c) = some d') (ho : ow.set j (oo p d') = ow1) (n : SN K F Kn0 sl ow1 D) :
    SB K F Kn0 sl ow D (sDAug (tVar i) tk te L2.rAdd) := fun σ Kn H s => by
  obtain ⟨o, h1, h2⟩ := s.sl.get hi
  refine ⟨.ref p, by rw [h1]; exact congrArg some h2, hk σ Kn H s _ fun w Kn1 H1 g1 r1 => ?_⟩
  have s1 := s.grow g1
  obtain ⟨f1, f2, o1, f3, ws, f4, f5⟩ := s1.ow.each _ (List.mem_of_getElem? hj)
  subst f4
  rcases f5.get k with ⟨q1, q2⟩ | ⟨y2, w2, q1, q2, q3⟩
  · rw [q1] at hy
    cases hy
  · rw [q1] at hy
    cases hy
    refine ⟨p, w2, rfl, q2 ▸ Ky.get r1 s1.ek (Rd.of f3), h σ Kn1 H1 s1 _ fun u Kn2 H2 g2 r2 => ?_⟩
    cases r2
    cases q3
    refine ⟨y, c, rfl, rfl, ?_⟩
    have s2 := s1.grow g2
    have f3' : H2 p = some (Ky.ho ws) := g2.hh _ _ f3
    have f2' : Kn2 p = none := g2.sp p (ne_none_of f3) f2
    unfold putO at hx
    split at hx
    case isFalse => cases hx
    rename_i hl
    cases hx
    subst ho
    refine ⟨_, Ky.put (Rp.mono g2.kk r1) s2.ek f3' (by rw [f5.length]; exact lt_line hl), n _ Kn2 _ ?_⟩
    exact s2.writeG hj rfl rfl (Ex.refl _) (upd_in s2.ek f2') (fun q hq _ => upd_ne hq) (fun _ _ h => h) ⟨_, upd_same, _, rfl, DK.put k rfl (DK.mono g2.kk f5)⟩
/-- xs[n] += c -/
theorem sb_augI {xs xs' : List Int} {n a c : Int} {f : Int → Int → Int} (hi : sl[i]? = some (.at p)) (hj : ow[j]? = some (ol p xs)) (hn : EV K F Kn0 sl ow ti n) (ha : atI xs n = some a) (h : EV K F Kn0 sl ow te c) (hx : setI xs n (f a c) = some xs') (ho : ow.set j (ol p xs') = ow1) (k : SN K F Kn0 sl ow1 D) :
    SB K F Kn0 sl ow D (tAugS (tVar i) ti te (rIxL K) (ipI f) rSetL) := fun σ Kn H s => by
  obtain ⟨o, h1, h2⟩ := s.sl.get hi
  refine ⟨.ref p, by rw [h1]; exact congrArg some h2, hn σ Kn H s _ fun w Kn1 H1 g1 r1 => ?_⟩
  cases r1
  have s1 := s.grow g1
  obtain ⟨f1, f2, ws, f3, f4⟩ := s1.ow.each _ (List.mem_of_getElem? hj)
  obtain ⟨u, e, r⟩ := paired_atI f4 ha
  cases r
  refine ⟨p, ws, n, _, rfl, rfl, sq_of f3, e, h σ Kn1 H1 s1 _ fun v Kn2 H2 g2 r2 => ?_⟩
  cases r2
  refine ⟨a, c, rfl, rfl, ?_⟩
  have s2 := s1.grow g2
  have f3' : H2 p = some (.lst ws) := g2.hh _ _ f3
  have f2' : Kn2 p = none := g2.sp p (ne_none_of f3) f2
  unfold setI at hx
  cases em : ixN xs.length n with
  | none => rw [em] at hx; cases hx
  | some m =>
    rw [em] at hx
    cases hx
    subst ho
    refine ⟨p, ws, n, m, rfl, rfl, f3', by rw [paired_len f4]; exact em, k _ Kn2 _ ?_⟩
    exact s2.write hj (Ex.refl _) (upd_in s2.ek f2') (fun q hq _ => upd_ne hq) (fun _ _ h => h) upd_same (paired_set (show rep K Kn2 (V.int (f a c)) (f a c) from rfl) m (paired_mono g2.kk f4))
/-- a dict of one's own: from now on it is known and stays as it is -/
theorem sb_freezeG {κ : Type} [Rp κ] [Ky κ] [DecidableEq κ] {d : Dc κ β} (hi : sl[i]? = some (.at p)) (hj : ow[j]? = some (oo p d)) (hs : sl.set i (sv d) = sl') (ho : ow.eraseIdx j = ow1) (k : SB K F Kn0 sl' ow1 D t) : SB K F Kn0 sl ow D t := fun σ Kn H s => by
  obtain ⟨ob, kp, hp, s1⟩ := s.borrowG hi hj
  subst hs
  subst ho
  exact k σ _ H s1
theorem k_listGet {X : Cx} (h : X.K = K := by rfl) : PGet X (rIxL K) := h ▸ get_list
end
end Wk
namespace Wk
open PySem PySem.Spec L2 Evl
section
variable {X : Cx} {o i value : Expr} {tpos tpos' : Pos} {td ty tv : TE}
theorem k_daug (hu : X.A.units + 64 < cLine) (ho : PE X o td) (hi : PE X i ty) (hv : PE X value tv) (ha : ∀ ov iv new, augStore i ov iv new = (do holding [new, ov, iv] (setItem ov iv new); release [new, ov, iv] []; pure .next)) : PS X (.AugAssign (.Subscript o i tpos) .Add value tpos') (sDAug td ty tv L2.rAdd) := ps_daug (by omega) ho hi hv in_add ha
end
end Wk
/-! Wbest: max and min of a list of alike data; < and > of alike data; a text many times -/
namespace L2
open PySem PySem.Spec PyProof.Rows
def rBestD (K : PySem.W.Frag) (best : PyData → List PyData → PyData) : List V → Hp → VK → Prop := fun vs H Q => ∃ (a : Addr) (b0 : V × PyData) (bs : List (V × PyData)), vs = [V.ref a] ∧ SqL K H a ((b0 :: bs).map (·.1)) ∧ (∀ b ∈ b0 :: bs, Dp K H b.1 b.2) ∧ PySem.W.AlikeAll ((b0 :: bs).map (·.2)) ∧ PyData.depthAll ((b0 :: bs).map (·.2)) ≤ 60 ∧
  ∀ b ∈ b0 :: bs, b.2 = best b0.2 (bs.map (·.2)) → Q b.1 H
theorem dpAll_of {K : PySem.W.Frag} {H : Hp} : ∀ {bs : List (V × PyData)}, (∀ b ∈ bs, Dp K H b.1 b.2) → DpAll K H (bs.map (·.1)) (bs.map (·.2))
  | [], _ => .nil
  | b :: bs, h => .cons (h b List.mem_cons_self) (dpAll_of fun c hc => h c (List.mem_cons_of_mem _ hc))
theorem best_fin {X : Cx} {pins : List (Addr × Obj)} {σ : St} {H : Hp} {s : Shared} {Q : VK} {bs : List (V × PyData)} {its : List Value} {k : Nat} {v : Value} {d : PyData} {h' : Heap} {tk : Nat} (I : Inv X pins σ H s) (rv : Vals (bs.map (·.1)) its) (hP : its.toArray[k]? = some v)
    (hb : (bs.map (fun b : V × PyData => b.2)).getD k .none = d) (q : ∀ b ∈ bs, b.2 = d → Q b.1 H) (hk : ∀ b o, s.heap.get? b = some o → h'.get? b = some o) : ∃ x H', Inv X pins σ H' { s with heap := h', toks := tk } ∧ RelV x v ∧ Q x H' := by
  have hP : its[k]? = some v := by simpa using hP
  have hl := rv.length
  rw [List.length_map] at hl
  have hlt : k < bs.length := by
    have := (List.getElem?_eq_some_iff.mp hP).1
    omega
  have hx : (bs.map (·.1))[k]? = some (bs[k]).1 := by rw [List.getElem?_map, List.getElem?_eq_getElem hlt]; rfl
  obtain ⟨w, hw, rw'⟩ := rv.get hx
  rw [hP] at hw
  cases hw
  refine ⟨(bs[k]).1, H, I.kept (t' := tk) hk, rw', q _ (List.getElem_mem hlt) ?_⟩
  rw [← hb, List.getD_eq_getElem?_getD, List.getElem?_map, List.getElem?_eq_getElem hlt]
  rfl
theorem cr_maxD {X : Cx} (hc : X.calm = true) (hu : X.A.units + 64 < cLine) : CallR X (.builtin "max") (rBestD X.K PySem.W.maxD) := by
  intro pins s σ H vs us Q I r h
  obtain ⟨a, b0, bs, rfl, hs, hd, hal, hdp, q⟩ := h
  obtain ⟨its, rv, hl, hz⟩ := I.list hs
  rw [Vals.ref1 r]
  obtain ⟨as, hr⟩ := Dp.readsAll I _ _ _ (dpAll_of hd) rv
  have hr' : ReadsAll s.heap its.toArray.toList (b0.2 :: bs.map (·.2)) as := by simpa using hr
  have hn : its.toArray.size = (bs.map (·.2)).length + 1 := PySem.W.readsAll_len hr'
  refine call_max_walkH (PySem.W.iter_listW (A := X.A.in1) (I.ok.hd hc) hl.isList fun s₂ e W st hfp hw hk => ?_)
  refine ⟨_, _, _, _, _, _, _, s.heap, _, rfl, W, st, hfp, by omega, hw, hk, PySem.W.cmpIn_gt (A := X.A.in1) hr' hal (by show X.A.units + 1 + _ < _; exact Nat.lt_of_le_of_lt (Nat.add_le_add_left hdp _) (by omega)), fun v s' hP m => ?_⟩
  obtain ⟨h', tk, rfl, hk'⟩ := PySem.W.moved_old e rfl m
  have e1 : its.toArray.size - 1 = (bs.map (·.2)).length := by omega
  obtain ⟨f1, f2⟩ := PySem.W.argBest_fold (fun a b => PySem.W.dataLt b a) PyData.none b0.2 (bs.map (·.2)) (bs.map (·.2)).length (Nat.le_refl _)
  rw [List.take_length] at f2
  rw [e1] at hP
  rw [← List.map_cons (f := fun b : V × PyData => b.2)] at f1 f2
  have hP : its.toArray[_]? = some v := hP
  exact best_fin I rv hP f2 q hk'
theorem cr_minD {X : Cx} (hc : X.calm = true) (hu : X.A.units + 64 < cLine) : CallR X (.builtin "min") (rBestD X.K PySem.W.minD) := by
  intro pins s σ H vs us Q I r h
  obtain ⟨a, b0, bs, rfl, hs, hd, hal, hdp, q⟩ := h
  obtain ⟨its, rv, hl, hz⟩ := I.list hs
  rw [Vals.ref1 r]
  obtain ⟨as, hr⟩ := Dp.readsAll I _ _ _ (dpAll_of hd) rv
  have hr' : ReadsAll s.heap its.toArray.toList (b0.2 :: bs.map (·.2)) as := by simpa using hr
  have hn : its.toArray.size = (bs.map (·.2)).length + 1 := PySem.W.readsAll_len hr'
  refine call_min_walkH (PySem.W.iter_listW (A := X.A.in1) (I.ok.hd hc) hl.isList fun s₂ e W st hfp hw hk => ?_)
  refine ⟨_, _, _, _, _, _, _, s.heap, _, rfl, W, st, hfp, by omega, hw, hk, PySem.W.cmpIn_lt (A := X.A.in1) hr' hal (by show X.A.units + 1 + _ < _; exact Nat.lt_of_le_of_lt (Nat.add_le_add_left hdp _) (by omega)), fun v s' hP m => ?_⟩
  obtain ⟨h', tk, rfl, hk'⟩ := PySem.W.moved_old e rfl m
  have e1 : its.toArray.size - 1 = (bs.map (·.2)).length := by omega
  obtain ⟨f1, f2⟩ := PySem.W.argBest_fold PySem.W.dataLt PyData.none b0.2 (bs.map (·.2)) (bs.map (·.2)).length (Nat.le_refl _)
  rw [List.take_length] at f2
  rw [e1] at hP
  rw [← List.map_cons (f := fun b : V × PyData => b.2)] at f1 f2
  have hP : its.toArray[_]? = some v := hP
  exact best_fin I rv hP f2 q hk'
/-- < and the like of alike data -/
def rCmpD (K : PySem.W.Frag) (c : PyData → PyData → Bool) : R2 := fun x y H Q => ∃ da db, Dp K H x da ∧ Dp K H y db ∧ PySem.W.alike da db = true ∧ da ≠ .none ∧ da.depth ≤ 60 ∧ Q (.bl (c da db)) H
section
variable {X : Cx}
theorem op_ltD (hu : X.A.units + 64 < cLine) : OpR X (compareOp .Lt) (rCmpD X.K fun a b => PySem.W.dataLt a b) := by
  intro pins s σ H x y v u Q I rx ry h
  obtain ⟨da, db, d1, d2, h1, h2, h3, q⟩ := h
  obtain ⟨as, r1⟩ := Dp.reads I _ _ _ d1 rx
  obtain ⟨bs, r2⟩ := Dp.reads I _ _ _ d2 ry
  exact PySem.W.lt_data r1 r2 h1 h2 (by have := Nat.min_le_left da.depth db.depth; omega) (fin_bl I q rfl)
theorem op_gtD (hu : X.A.units + 64 < cLine) : OpR X (compareOp .Gt) (rCmpD X.K fun a b => PySem.W.dataLt b a) := by
  intro pins s σ H x y v u Q I rx ry h
  obtain ⟨da, db, d1, d2, h1, h2, h3, q⟩ := h
  obtain ⟨as, r1⟩ := Dp.reads I _ _ _ d1 rx
  obtain ⟨bs, r2⟩ := Dp.reads I _ _ _ d2 ry
  exact PySem.W.gt_data r1 r2 h1 h2 (by have := Nat.min_le_left da.depth db.depth; omega) (fin_bl I q rfl)
/-- a text, n times -/
def rMulS : R2 := fun x y H Q => ∃ (t : Str) (n : Int), x = .str t ∧ y = .int n ∧ MulOk t n ∧ Q (.str (Txt.mul t n)) H
theorem op_mulS : OpR X (binaryOp .Mult) rMulS := by
  intro pins s σ H x y v u Q I rx ry h
  obtain ⟨t, n, rfl, rfl, hk, q⟩ := h
  obtain ⟨t1, rfl⟩ := rx
  obtain ⟨t2, rfl⟩ := ry
  exact SB.mul hk fun t' k => ⟨.str (Txt.mul t n), H, I.tok k, ⟨t', rfl⟩, q⟩
end
end L2
namespace Wk
open PySem PySem.Spec L2 Evl
def bestT {α : Type} (lt : α → α → Bool) : List α → Option α
  | [] => none
  | x :: xs => some (xs.foldl (fun a y => if lt y a = true then y else a) x)
def ltD {α : Type} [Rp α] [Pd α] (a b : α) : Bool := PySem.W.dataLt (Pd.toD a) (Pd.toD b)
/-- the least, the greatest, the first where there are more -/
def minT {α : Type} [Rp α] [Pd α] (xs : List α) : Option α := if Pd.dp α ≤ 59 then bestT ltD xs else none
def maxT {α : Type} [Rp α] [Pd α] (xs : List α) : Option α := if Pd.dp α ≤ 59 then bestT (fun a b => ltD b a) xs else none
def mulS (t : Str) (n : Int) : Option Str := if t.length ≤ 10000 ∧ 0 ≤ n ∧ n ≤ 1000 then some (Txt.mul t n) else none
def ltO {α : Type} [Rp α] [Pd α] (a b : α) : Option Bool := if Pd.dp α ≤ 60 then some (ltD a b) else none
theorem toD_inj {α : Type} [Rp α] [Pd α] {a b : α} (h : Pd.toD a = Pd.toD b) : a = b := by
  have := (Pd.eqd a a).mpr rfl
  rw [h] at this
  rw [← h] at this
  have h2 : PyData.eqv (Pd.toD a) (Pd.toD b) = true := by rw [← h]; exact (Pd.eqd a a).mpr rfl
  exact (Pd.eqd _ _).mp h2
theorem fold_toD {α : Type} [Rp α] [Pd α] (g : PyData → PyData → Bool) (f : α → α → Bool) (hf : ∀ a b, f a b = g (Pd.toD a) (Pd.toD b)) : ∀ (xs : List α) (x : α), (xs.map Pd.toD).foldl (fun a y => if g y a = true then y else a) (Pd.toD x) = Pd.toD (xs.foldl (fun a y => if f y a = true then y else a) x)
  | [], _ => rfl
  | y :: ys, x => by
    rw [List.map_cons, List.foldl_cons, List.foldl_cons, ← fold_toD g f hf ys, hf]
    congr 1
    split <;> rfl
theorem depth_all : ∀ (ds : List PyData) (n : Nat), (∀ d ∈ ds, d.depth ≤ n) → PyData.depthAll ds ≤ n
  | [], _, _ => Nat.zero_le _
  | d :: ds, n, h => by
    have := h d List.mem_cons_self
    have := depth_all ds n fun e he => h e (List.mem_cons_of_mem _ he)
    unfold PyData.depthAll
    omega
section
variable {K : Fg} {F Kn0 : Hp} {sl sl' : List Sl} {ow ow1 : List Ow} {α β : Type} [Rp α] [Pd α] [Al α] [So α]
theorem toD_nn (a : α) : Pd.toD a ≠ .none := by
  rcases (So.so : _ ∨ ∀ a : α, _) with h | h
  · obtain ⟨x, r, e⟩ := h a
    rw [e]
    exact fun z => nomatch z
  · exact (h a).1
theorem rc_best {lt : α → α → Bool} {best : PyData → List PyData → PyData} (hb : ∀ (x : α) (xs : List α), best (Pd.toD x) (xs.map Pd.toD) = Pd.toD (xs.foldl (fun a y => if lt y a = true then y else a) x)) {xs : List α} {z : α} (h : (if Pd.dp α ≤ 59 then bestT lt xs else none) = some z) : RCV K (rBestD K best) (xs, ()) z := fun Kn H vs ek hv Q q => by
  split at h
  case isFalse => cases h
  rename_i hl
  obtain ⟨v, rfl, l, ws, rfl, h1, h2⟩ := one_arg hv
  obtain ⟨ps, e1, e2, e3⟩ := paired_zip h2
  cases ps with
  | nil =>
    cases e2
    cases h
  | cons c ps =>
    subst e1
    subst e2
    have h : some _ = some z := h
    cases h
    refine ⟨l, (c.1, Pd.toD c.2), ps.map fun c => (c.1, Pd.toD c.2), rfl, ?_, fun b hb => ?_, ?_, ?_, fun b hm he => ?_⟩
    · have := sq_of (K := K) (ek _ _ h1)
      rw [← List.map_cons (f := fun c : V × α => ((c.1, Pd.toD c.2) : V × PyData)), List.map_map]
      exact this
    · rw [← List.map_cons (f := fun c : V × α => ((c.1, Pd.toD c.2) : V × PyData))] at hb
      obtain ⟨c', hc, rfl⟩ := List.mem_map.mp hb
      exact Pd.isD (Rp.mono ek (e3 c' hc))
    · rw [← List.map_cons (f := fun c : V × α => ((c.1, Pd.toD c.2) : V × PyData)), List.map_map]
      refine ⟨fun d hd e he => ?_, fun d hd => ?_⟩
      · obtain ⟨c1, _, rfl⟩ := List.mem_map.mp hd
        obtain ⟨c2, _, rfl⟩ := List.mem_map.mp he
        exact Al.al _ _
      · obtain ⟨c1, _, rfl⟩ := List.mem_map.mp hd
        exact toD_nn _
    · rw [← List.map_cons (f := fun c : V × α => ((c.1, Pd.toD c.2) : V × PyData)), List.map_map]
      refine depth_all _ _ fun d hd => ?_
      obtain ⟨c1, _, rfl⟩ := List.mem_map.mp hd
      exact Nat.le_trans (Pd.dep _) (by omega)
    · rw [← List.map_cons (f := fun c : V × α => ((c.1, Pd.toD c.2) : V × PyData))] at hm
      obtain ⟨c', hc, rfl⟩ := List.mem_map.mp hm
      have he : Pd.toD c'.2 = best (Pd.toD c.2) ((ps.map fun c => ((c.1, Pd.toD c.2) : V × PyData)).map (·.2)) := he
      have e4 : (ps.map fun c => ((c.1, Pd.toD c.2) : V × PyData)).map (·.2) = (ps.map (·.2)).map Pd.toD := by rw [List.map_map, List.map_map]; rfl
      rw [e4, hb] at he
      have := toD_inj he
      have h5 := e3 c' hc
      rw [this] at h5
      exact q.at ek h5
theorem rc_minT {xs : List α} {z : α} (h : minT xs = some z) : RCV K (rBestD K PySem.W.minD) (xs, ()) z := rc_best (lt := ltD) (fun x xs => fold_toD (fun a b => PySem.W.dataLt a b) ltD (fun _ _ => rfl) xs x) h
theorem rc_maxT {xs : List α} {z : α} (h : maxT xs = some z) : RCV K (rBestD K PySem.W.maxD) (xs, ()) z := rc_best (lt := fun a b => ltD b a) (fun x xs => fold_toD (fun a b => PySem.W.dataLt b a) (fun a b => ltD b a) (fun _ _ => rfl) xs x) h
theorem r2_ltD {a b : α} {r : Bool} (h : ltO a b = some r) : R2V K (rCmpD K fun a b => PySem.W.dataLt a b) a b r := fun Kn H v w ek h1 h2 Q q => by
  unfold ltO at h
  split at h
  case isFalse => cases h
  rename_i hl
  cases h
  exact ⟨_, _, Pd.isD (Rp.mono ek h1), Pd.isD (Rp.mono ek h2), Al.al _ _, toD_nn _, Nat.le_trans (Pd.dep _) hl, q.fl ek⟩
theorem r2_gtD {a b : α} {r : Bool} (h : ltO b a = some r) : R2V K (rCmpD K fun a b => PySem.W.dataLt b a) a b r := fun Kn H v w ek h1 h2 Q q => by
  unfold ltO at h
  split at h
  case isFalse => cases h
  rename_i hl
  cases h
  exact ⟨_, _, Pd.isD (Rp.mono ek h1), Pd.isD (Rp.mono ek h2), Al.al _ _, toD_nn _, Nat.le_trans (Pd.dep _) hl, q.fl ek⟩
theorem r2_mulS {t z : Str} {n : Int} (h : mulS t n = some z) : R2V K rMulS t n z := fun Kn H v w ek h1 h2 Q q => by
  cases h1
  cases h2
  unfold mulS at h
  split at h
  case isFalse => cases h
  rename_i hl
  cases h
  refine ⟨t, n, rfl, rfl, ⟨?_, fun h3 h4 => ?_, fun h3 h4 => ?_⟩, q.fl ek⟩
  · rw [Bool.or_eq_false_iff, decide_eq_false_iff_not, decide_eq_false_iff_not]
    omega
  · have h5 : (9007199254740993 : Int) ≤ (2 ^ 63 - 1) / n := by
      rw [Int.le_ediv_iff_mul_le (by omega)]
      omega
    have := hl.1
    omega
  · unfold Builtin.Str.tooLong
    rw [decide_eq_false_iff_not]
    have a1 : n.toNat ≤ 1000 := by omega
    have : t.length * n.toNat ≤ 10000 * 1000 := Nat.mul_le_mul hl.1 a1
    have l := le_line (n := 1000000) (by omega)
    rw [sizeLine_eq]
    omega
theorem k_maxT {X : Cx} (hc : X.calm = true) (hu : X.A.units + 64 < cLine) (h : X.K = K := by rfl) : CallR X (.builtin "max") (rBestD K PySem.W.maxD) := h ▸ cr_maxD hc hu
theorem k_minT {X : Cx} (hc : X.calm = true) (hu : X.A.units + 64 < cLine) (h : X.K = K := by rfl) : CallR X (.builtin "min") (rBestD K PySem.W.minD) := h ▸ cr_minD hc hu
theorem k_ltD {X : Cx} (hu : X.A.units + 64 < cLine) (h : X.K = K := by rfl) : OpR X (compareOp .Lt) (rCmpD K fun a b => PySem.W.dataLt a b) := h ▸ op_ltD hu
theorem k_gtD {X : Cx} (hu : X.A.units + 64 < cLine) (h : X.K = K := by rfl) : OpR X (compareOp .Gt) (rCmpD K fun a b => PySem.W.dataLt b a) := h ▸ op_gtD hu
end
end Wk
/-! Wdy: values of any kind (None, truths, numbers, texts, tuples and lists of these), read as data; a dict of the module; a def that calls itself -/
namespace Wk
open PySem PySem.Spec L2 Evl
mutual
inductive Dq (H : Hp) : V → PyData → Prop
  | non : Dq H .non .none
  | bl (b : Bool) : Dq H (.bl b) (.bool b)
  | int (i : Int) : Dq H (.int i) (.int i)
  | str (x : Str) : Dq H (.str x) (.str x)
  | lst {a : Addr} {xs : List V} {ds : List PyData} : H a = some (.lst xs) → DqAll H xs ds → Dq H (.ref a) (.list ds)
  | tup {a : Addr} {xs : List V} {ds : List PyData} : H a = some (.tup xs) → DqAll H xs ds → Dq H (.ref a) (.tuple ds)
inductive DqAll (H : Hp) : List V → List PyData → Prop
  | nil : DqAll H [] []
  | cons {v : V} {vs : List V} {d : PyData} {ds : List PyData} : Dq H v d → DqAll H vs ds → DqAll H (v :: vs) (d :: ds)
end
theorem Dq.swap {H H' : Hp} (e : Sw H H') {v : V} {d : PyData} (h : Dq H v d) : Dq H' v d :=
  Dq.rec (motive_1 := fun v d _ => Dq H' v d) (motive_2 := fun vs ds _ => DqAll H' vs ds) .non .bl .int .str (fun s _ ih => .lst (e.lst s) ih) (fun s _ ih => .tup (e.tup s) ih) .nil (fun _ _ h1 h2 => .cons h1 h2) h
theorem DqAll.swap {H H' : Hp} (e : Sw H H') {v : List V} {d : List PyData} (h : DqAll H v d) : DqAll H' v d :=
  DqAll.rec (motive_1 := fun v d _ => Dq H' v d) (motive_2 := fun vs ds _ => DqAll H' vs ds) .non .bl .int .str (fun s _ ih => .lst (e.lst s) ih) (fun s _ ih => .tup (e.tup s) ih) .nil (fun _ _ h1 h2 => .cons h1 h2) h
theorem Dq.dp {K : Fg} {H : Hp} {v : V} {d : PyData} (h : Dq H v d) : Dp K H v d :=
  Dq.rec (motive_1 := fun v d _ => Dp K H v d) (motive_2 := fun vs ds _ => DpAll K H vs ds) .non .bl .int .str (fun s _ ih => .lst (sq_of s) ih) (fun s _ ih => .tup (st_of s) ih) .nil (fun _ _ h1 h2 => .cons h1 h2) h
structure Dy where
  d : PyData
instance : Rp Dy := { rep := fun _ H v x => Dq H v x.d, swap := fun e h => Dq.swap e h }
/-- to data -/
class Ud (α : Type) [Rp α] where
  toD : α → PyData
  is : ∀ {K : Fg} {H : Hp} {v : V} {a : α}, rep K H v a → Dq H v (toD a)
class Us (τ : Type) [Tp τ] where
  toDs : τ → List PyData
  is : ∀ {K : Fg} {H : Hp} {vs : List V} {a : τ}, rept K H vs a → DqAll H vs (toDs a)
instance : Ud Int := ⟨.int, fun h => by cases h; exact .int _⟩
instance : Ud Bool := ⟨.bool, fun h => by cases h; exact .bl _⟩
instance : Ud Str := ⟨.str, fun h => by cases h; exact .str _⟩
instance : Ud Nn := ⟨fun _ => .none, fun h => by cases h; exact .non⟩
instance : Ud Dy := ⟨Dy.d, fun h => h⟩
instance {α : Type} [Rp α] [Ud α] : Ud (Option α) where
  toD x := match x with | none => .none | some a => Ud.toD a
  is {K H v a} h := by
    cases a with
    | none => cases h; exact .non
    | some a => exact Ud.is h.2
theorem dqAll_of {α : Type} [Rp α] [Ud α] {K : Fg} {H : Hp} : ∀ {vs : List V} {xs : List α}, Paired (rep K H) vs xs → DqAll H vs (xs.map Ud.toD)
  | _, _, .nil => .nil
  | _, _, .cons r t => .cons (Ud.is r) (dqAll_of t)
instance {α : Type} [Rp α] [Ud α] : Ud (List α) where
  toD xs := .list (xs.map Ud.toD)
  is h := by
    obtain ⟨p, vs, rfl, h1, h2⟩ := h
    exact .lst h1 (dqAll_of h2)
instance {α : Type} [Rp α] [Ud α] : Ud (Tu α) where
  toD xs := .tuple (xs.l.map Ud.toD)
  is h := by
    obtain ⟨p, vs, rfl, h1, h2⟩ := h
    exact .tup h1 (dqAll_of h2)
instance : Us Unit := ⟨fun _ => [], fun h => by cases h; exact .nil⟩
instance {α τ : Type} [Rp α] [Tp τ] [Ud α] [Us τ] : Us (α × τ) where
  toDs t := Ud.toD t.1 :: Us.toDs t.2
  is h := by
    obtain ⟨v, r, rfl, h1, h2⟩ := h
    exact .cons (Ud.is h1) (Us.is h2)
instance {α τ : Type} [Rp α] [Tp τ] [Ud α] [Us τ] : Ud (α × τ) where
  toD t := .tuple (Us.toDs (τ := α × τ) t)
  is h := by
    obtain ⟨p, vs, rfl, h1, h2⟩ := h
    exact .tup h1 (Us.is h2)
/-- out of data, where it is of the kind -/
class Od (α : Type) [Rp α] where
  of : PyData → Option α
  un : ∀ {K : Fg} {H : Hp} {v : V} {d : PyData} {a : α}, Dq H v d → of d = some a → rep K H v a
class Os (τ : Type) [Tp τ] where
  ofs : List PyData → Option τ
  un : ∀ {K : Fg} {H : Hp} {vs : List V} {ds : List PyData} {a : τ}, DqAll H vs ds → ofs ds = some a → rept K H vs a
instance : Od Int := ⟨fun d => match d with | .int i => some i | _ => none, fun h e => by cases h <;> cases e; rfl⟩
instance : Od Bool := ⟨fun d => match d with | .bool i => some i | _ => none, fun h e => by cases h <;> cases e; rfl⟩
instance : Od Str := ⟨fun d => match d with | .str i => some i | _ => none, fun h e => by cases h <;> cases e; rfl⟩
instance : Od Dy := ⟨fun d => some ⟨d⟩, fun h e => by cases e; exact h⟩
def ofAll {α : Type} [Rp α] [Od α] : List PyData → Option (List α)
  | [] => some []
  | d :: ds => (Od.of d).bind fun x => (ofAll ds).bind fun xs => some (x :: xs)
theorem ofAll_un {α : Type} [Rp α] [Od α] {K : Fg} {H : Hp} : ∀ {ds : List PyData} {vs : List V} {xs : List α}, DqAll H vs ds → ofAll ds = some xs → Paired (rep K H) vs xs
  | [], _, _, h, e => by
    cases h
    cases e
    exact .nil
  | d :: ds, _, xs, h, e => by
    cases h with
    | cons h1 h2 =>
      obtain ⟨x, ex, e⟩ := bind_some e
      obtain ⟨ys, ey, e⟩ := bind_some e
      cases e
      exact .cons (Od.un h1 ex) (ofAll_un h2 ey)
instance {α : Type} [Rp α] [Od α] : Od (Tu α) where
  of d := match d with | .tuple ds => (ofAll ds).map Tu.mk | _ => none
  un h e := by
    cases h with
    | tup h1 h2 =>
      obtain ⟨xs, e1, rfl⟩ := Option.map_eq_some_iff.mp e
      exact ⟨_, _, rfl, h1, ofAll_un h2 e1⟩
    | _ => cases e
instance {α : Type} [Rp α] [Od α] : Od (List α) where
  of d := match d with | .list ds => ofAll ds | _ => none
  un h e := by
    cases h with
    | lst h1 h2 => exact ⟨_, _, rfl, h1, ofAll_un h2 e⟩
    | _ => cases e
instance : Os Unit := ⟨fun ds => match ds with | [] => some () | _ => none, fun h e => by cases h <;> cases e; rfl⟩
instance {α τ : Type} [Rp α] [Tp τ] [Od α] [Os τ] : Os (α × τ) where
  ofs ds := match ds with | [] => none | d :: ds => (Od.of d).bind fun x => (Os.ofs ds).bind fun t => some (x, t)
  un h e := by
    cases h with
    | nil => cases e
    | cons h1 h2 =>
      obtain ⟨x, ex, e⟩ := bind_some e
      obtain ⟨t, et, e⟩ := bind_some e
      cases e
      exact ⟨_, _, rfl, Od.un h1 ex, Os.un h2 et⟩
instance {α τ : Type} [Rp α] [Tp τ] [Od α] [Os τ] : Od (α × τ) where
  of d := match d with | .tuple ds => Os.ofs (τ := α × τ) ds | _ => none
  un h e := by
    cases h with
    | tup h1 h2 => exact ⟨_, _, rfl, h1, Os.un h2 e⟩
    | _ => cases e
def ofD {α : Type} [Rp α] [Od α] (x : Dy) : Option α := Od.of x.d
def upD {α : Type} [Rp α] [Ud α] (x : α) : Dy := ⟨Ud.toD x⟩
def eqYO (a b : Dy) : Option Bool := if SeqAt.shaped a.d = true ∧ SeqAt.shaped b.d = true then some (PyData.eqv a.d b.d) else none
section
variable {K : Fg} {F Kn0 : Hp} {sl sl' : List Sl} {ow ow1 : List Ow} {α β τ : Type} [Rp α] [Rp β] [Tp τ] {te tk : TE} {x : Dy}
theorem ev_of [Od α] {y : α} (h : EV K F Kn0 sl ow te x) (e : ofD x = some y) : EV K F Kn0 sl ow te y := fun σ Kn H s Q q => h σ Kn H s Q fun v Kn' H' g r => q v Kn' H' g (Od.un r e)
theorem ev_up [Ud α] {y : α} (h : EV K F Kn0 sl ow te y) : EV K F Kn0 sl ow te (upD y) := fun σ Kn H s Q q => h σ Kn H s Q fun v Kn' H' g r => q v Kn' H' g (Ud.is r)
theorem em_up [Ud α] {y : α} (h : EM K F Kn0 sl ow te ow1 y) : EM K F Kn0 sl ow te ow1 (upD y) := fun σ Kn H s Q q => h σ Kn H s Q fun v Kn' H' e s' r => q v Kn' H' e s' (Ud.is r)
/-- a list, where a list is read -/
theorem ev_fz {xs : List α} (h : EV K F Kn0 sl ow te xs) : EV K F Kn0 sl ow te (Fz.mk xs) := fun σ Kn H s Q q => h σ Kn H s Q fun v Kn' H' g r => by
  obtain ⟨p, vs, rfl, h1, h2⟩ := r
  exact q _ Kn' H' g ⟨p, vs, rfl, sq_of h1, h2⟩
theorem r2_eqY {a b : Dy} {c : Bool} (h : eqYO a b = some c) : R2V K (rEqD K) a b c := fun Kn H v w ek h1 h2 Q q => by
  unfold eqYO at h
  split at h
  case isFalse => cases h
  rename_i hb
  cases h
  exact ⟨a.d, b.d, dp_mono ek (Dq.dp h1), dp_mono ek (Dq.dp h2), hb.1, hb.2, q.fl ek⟩
theorem r2_neY {a b : Dy} {c : Bool} (h : eqYO a b = some c) : R2V K (rNeD K) a b (!c) := fun Kn H v w ek h1 h2 Q q => by
  unfold eqYO at h
  split at h
  case isFalse => cases h
  rename_i hb
  cases h
  exact ⟨a.d, b.d, dp_mono ek (Dq.dp h1), dp_mono ek (Dq.dp h2), hb.1, hb.2, q.fl ek⟩
/-- D[k], D a dict of the module -/
theorem ev_kd {w : World} {p : Addr} {tab : List (Str × Str)} {k z : Str} (ht : ∀ kv ∈ tab, KDct K w p kv.1 (.str kv.2)) (hk : EV K F Kn0 sl ow tk k) (hz : getD tab k = some z) : EV K F Kn0 sl ow (tOp (rIxD K w) (tC (.ref p)) tk) z := fun σ Kn H s Q q =>
  hk σ Kn H s _ fun v Kn1 H1 g1 r1 => by
    cases r1
    unfold getD at hz
    obtain ⟨kv, hf, rfl⟩ := Option.map_eq_some_iff.mp hz
    have hk2 := List.find?_some hf
    rw [decide_eq_true_eq] at hk2
    have := ht kv (List.mem_of_find?_eq_some hf)
    rw [hk2] at this
    exact ⟨p, _, _, rfl, rfl, this, q _ Kn1 H1 g1 rfl⟩
theorem k_ixkd {X : Cx} {w : World} (h : X.K = K := by rfl) (hw : X.w = w := by rfl) : IxR X (rIxD K w) := by
  subst h
  subst hw
  exact ix_kdict


end
theorem fnok_none {P : Program} {w : World} {K : Fg} {mg : Str → Option Value} {base : Heap} {CX : CXT} {k : Nat} {f : Addr} {fd : FuncData} {ps : List Str} {τ α : Type} [Tp τ] [Rp α] : FnOk P w K mg base CX k f fd ps (PF K (fun _ : τ => (none : Option α))) := by
  refine ⟨fun vs H Q E h => ?_, fun A outer s H args us vs Q E hr he hb hv h => ?_⟩
  · obtain ⟨_, _, _, _, _, h, _⟩ := h
    cases h
  · obtain ⟨_, _, _, _, _, h, _⟩ := h
    cases h
theorem fnok_noneL {P : Program} {w : World} {K : Fg} {mg : Str → Option Value} {base : Heap} {CX : CXT} {k : Nat} {f : Addr} {fd : FuncData} {ps : List Str} {τ α : Type} [Tp τ] [Rp α] : FnOk P w K mg base CX k f fd ps (PL K (fun _ : τ => (none : Option (List α)))) := by
  refine ⟨fun vs H Q E h => ?_, fun A outer s H args us vs Q E hr he hb hv h => ?_⟩
  · obtain ⟨_, _, _, _, _, h, _⟩ := h
    cases h
  · obtain ⟨_, _, _, _, _, h, _⟩ := h
    cases h
end Wk
/-! Wenum: enumerate over a tuple. -/
namespace L2
open PySem PySem.Spec PyProof.Rows
theorem meets_enum_new1 {v : Value} {o : Obj} {H : Heap → Prop} (B : Begins v o H) :
    Meets (Builtin.«enumerate.__new__» ⟨[.type "enumerate", v], []⟩) (fun _ R s => H s.heap ∧
      R (.ok (.ret (.ref (s.heap.push o).objs.size))) { s with heap := (s.heap.push o).push { cls := .type "enumerate", data := .fields #[.none, .bool false, .ref s.heap.objs.size, rawInt 0, .none, .none] } }) :=
  .of_wp fun prog w A R s h => by
    obtain ⟨hp, g, d, tk, os⟩ := s
    obtain ⟨h1, h⟩ := h
    have hsub := sub_enumerate
    have q1 : ∀ {A' : Around} {E : Value → Shared → Prop} {Q : Value → Shared → Prop}, Q (.ref hp.objs.size) ⟨hp.push o, g, d, tk, os⟩ → wpAny (model prog w) A' (pyIter v) Q E ⟨hp, g, d, tk, os⟩ :=
      fun q => B.iter prog w _ _ ⟨hp, g, d, tk, os⟩ _ h1 q
    wp_walk using q1
    refine wpAny_stack_any fun st => wpAny_pure ?_
    split
    · rename_i c _ _ _ _ _
      cases (c == Value.type "enumerate")
      · wp_walk using q1
        exact ⟨_, rfl, h⟩
      · wp_walk using q1
        exact ⟨_, rfl, h⟩
    · wp_walk using q1
      exact ⟨_, rfl, h⟩
section
variable {prog : Program} {w : World} {A : Around} {E : Value → Shared → Prop} {s : Shared}
theorem enum_begins1 {v : Value} {o : Obj} {H : Heap → Prop} {Q : Value → Shared → Prop} (B : Begins v o H) (h1 : H s.heap)
    (h : ∀ h', IsEnum h' (s.heap.objs.size + 1) s.heap.objs.size 0 .none → h'.get? s.heap.objs.size = some o → h'.objs.size = s.heap.objs.size + 2 →
      (∀ b o, s.heap.get? b = some o → h'.get? b = some o) → Q (.ref (s.heap.objs.size + 1)) { s with heap := h' }) :
    wpAny (model prog w) A (call (.type "enumerate") [v]) Q E s := by
  refine callType_new F.called_enumerate (by decide) (F.typeCall_enumerate_1 _) (F.newCall_enumerate_1 _) (fun obj => F.args_object_init_2 obj _) F.entry_enumerate_new
    (meets_enum_new1 B) ⟨h1, ?_⟩
  have hz : (s.heap.push o).objs.size = s.heap.objs.size + 1 := Heap.size_push ..
  show _ ∧ _
  rw [hz]
  have he : IsEnum ((s.heap.push o).push { cls := .type "enumerate", data := .fields #[.none, .bool false, .ref s.heap.objs.size, rawInt 0, .none, .none] }) (s.heap.objs.size + 1) s.heap.objs.size 0 .none := by
    have := Heap.get?_push_size (s.heap.push o) (o := { cls := .type "enumerate", data := .fields #[.none, .bool false, .ref s.heap.objs.size, rawInt 0, .none, .none] }) rfl
    rw [hz] at this
    exact this
  refine ⟨⟨_, he, rfl⟩, h _ he (Heap.get?_push_of_some _ (Heap.get?_push_size _ B.free)) (by rw [Heap.size_push, hz]) fun b o x => Heap.get?_push_of_some _ (Heap.get?_push_of_some _ x)⟩
end
section
variable {prog : Program} {w : World} {A : Around} {E : Value → Shared → Prop} {s : Shared}
theorem wpAny_pyNext_enum_endT {e it l : Addr} {i : Nat} {items : Array Value} {old : Value} {Q : Option Value → Shared → Prop} (hh : A.handled = none)
    (he : IsEnum s.heap e it i old) (hit : s.heap.IsTupleIter it l i) (hl : s.heap.IsTuple l items) (hx : items[i]? = none)
    (hQ : ∀ h', Heap.ExtBut it s.heap h' → Q none { s with heap := h' }) : wpAny (model prog w) A (pyNext (.ref e)) Q E s := by
  have hT : s.TypeIs (.ref e) "enumerate" := ⟨_, he, rfl⟩
  unfold pyNext
  refine wpAny_bind (wpAny_attempt (wpAny_callSpecial?_slot (name := Str.ofString "__next__") hT F.slot_enumerate_next
    (wpAny_call_entry F.slot_enumerate_next hT F.entry_enumerate_next ?_ (F.args_enumerate_next_1 _))))
  show wpAny _ _ (field (.ref e) 2 >>= _) _ _ _
  refine wpAny_bind (wpAny_field he rfl (x := .ref it) rfl ?_)
  refine wpAny_bind (wpAny_nextOf_tuple_end (by simp [hh]) hit hl hx fun h' x he' hx' => ?_)
  obtain ⟨o, ho, hc⟩ := hx'
  refine wpAny_bind (wpAny_isInstance (T := "StopIteration") (b := true) ⟨o, ho, hc⟩ isSubtype_stop ?_)
  exact wpAny_pure (hQ _ he')
end
/-- the tuple at a, each item in a new pair -/
def IteT (K : PySem.W.Frag) (a : Addr) : It :=
  ⟨fun i H => ∃ (xs : List V) (x : V), SqT K H a xs ∧ xs[i]? = some x, fun i H v H' => ∃ T x, v = .ref T ∧ H T = none ∧ H' = upd H T (.tup [.int (i : Nat), x]) ∧ ∀ xs, SqT K H a xs → xs[i]? = some x, fun i H => ∃ xs : List V, SqT K H a xs ∧ xs.length ≤ i⟩
theorem turn_enumT {P : Program} {w : World} {K : PySem.W.Frag} {elts : List Expr} {kk : Nat} {tpos : Pos} (a e it : Addr) :
    Turn P w K (.Tuple elts kk tpos) (IteT K a) [e, it] e (fun i h => (∃ old, IsEnum h e it ((i : Nat) : Int) old) ∧ h.IsTupleIter it a i ∧ e ≠ it ∧ a ≠ it ∧ e ≠ a) where
  mem := by simp
  obj := fun i h st b hb => by
    obtain ⟨⟨old, he⟩, ⟨o, ho, hc, hd⟩, _⟩ := st
    have e' : b = e ∨ b = it := by simpa using hb
    rcases e' with z | z
    · rw [z]; exact ⟨_, he, fun v q => nomatch q⟩
    · rw [z]; exact ⟨o, ho, fun v q => by rw [hd] at q; cases q⟩
  keep := fun i h h' st k => let ⟨⟨old, he⟩, hi, hne⟩ := st; ⟨⟨old, k e (by simp) _ he⟩, hi.at fun o q => k it (by simp) o q, hne⟩
  item := by
    intro X hP hw hK hc i pins s σ H E I hf st hg
    subst hP hw hK
    obtain ⟨⟨old, he⟩, hit, hne, hai, hea⟩ := st
    obtain ⟨xs, x, hq, hx⟩ := hg
    obtain ⟨its, rv, p, hz⟩ := I.tuple hq
    obtain ⟨u, hu, ru⟩ := rv.get hx
    have hel : e < s.heap.objs.size := Heap.lt_size he
    have hil : it < s.heap.objs.size := by obtain ⟨_, q, _⟩ := hit; exact Heap.lt_size q
    have hlt : i < its.toArray.size := by
      rw [List.size_toArray]
      exact (List.getElem?_eq_some_iff.mp hu).1
    have hh : X.A.in1.handled = none := by simp [I.ok.hd hc]
    refine wpAny_pyNext_enum_itemD (Draws.tuple hh it a hai its.toArray) he ⟨hit, p⟩ hlt hne (by simp [hne, hea]) fun y h' tk hy ho hst hT hsz hk => ?_
    have ey : y = u := by
      rw [show its.toArray[i]? = its[i]? by simp, hu] at hy
      exact (Option.some.inj hy).symm
    subst ey
    obtain ⟨hit', _⟩ := hst
    refine ⟨_, rfl, wpAny_letOwnedTupleGo_enum (s := { s with heap := h', toks := tk + 1 }) ho fun h'' he' sb => ?_⟩
    have hT2 : h''.get? s.heap.objs.size = some { cls := .type "tuple", data := .seq #[.int i tk, y] } := (sb.2 _ (Nat.ne_of_gt hel)).trans hT
    have new : ObjOk X.prog X.w (upd H s.heap.objs.size (.tup [.int (i : Nat), x])) h'' s.heap.objs.size (.tup [.int (i : Nat), x]) :=
      ⟨by show 2 ≤ sizeLine; decide, [.int i tk, y], .cons ⟨_, rfl⟩ (.cons ru .nil), ⟨_, hT2, rfl, _, rfl⟩⟩
    have I1 : Inv X pins σ (upd H s.heap.objs.size (.tup [.int (i : Nat), x])) { s with heap := h'', toks := tk + 1 } :=
      I.turnedNew (ch := [e, it]) (fun b ob hb q => (sb.2 b (fun z => hb (by simp [z]))).trans (hk b ob (fun z => hb (by simp [z])) (fun z => hb (by simp [z])) q)) hf (Nat.le_refl _) new
    refine ⟨.ref s.heap.objs.size, _, I1, rfl, ⟨_, x, rfl, I.hok.fresh (Nat.le_refl _), rfl, fun ys hy => by rw [I.tuple_inj hy hq]; exact hx⟩, ⟨⟨y, ?_⟩, hit'.at fun o q => (sb.2 it (Ne.symm hne)).trans q, hne, hai, hea⟩, fun b hb => ?_⟩
    · have e1 : ((i + 1 : Nat) : Int) = (i : Int) + 1 := by omega
      rw [e1]; exact he'
    · have hb' : b < s.heap.objs.size := by
        have e' : b = e ∨ b = it := by simpa using hb
        rcases e' with z | z
        · rw [z]; exact hel
        · rw [z]; exact hil
      rw [upd_ne (Nat.ne_of_lt hb')]
      exact (hf b hb).1
  done := by
    intro X hP hw hK hc i pins s σ H E I hf st hg
    subst hP hw hK
    obtain ⟨⟨old, he⟩, hit, hne, hai, hea⟩ := st
    obtain ⟨xs, hq, hx⟩ := hg
    obtain ⟨its, rv, p, hz⟩ := I.tuple hq
    obtain ⟨f0, f1, f2, f3, f4, f5⟩ := hf it (by simp)
    have hl := rv.length
    exact wpAny_pyNext_enum_endT (I.ok.hd hc) he hit p (by simp; omega) fun h' eb => ⟨rfl, I.turned (t' := s.toks) (fun b o hb q => eb b o hb q) f0 f1 f3 f4 f5⟩
  self := fun A i s Q E st h => let ⟨⟨_, he⟩, _⟩ := st; wpAny_pyIter_enum he h
def iEnumT (K : PySem.W.Frag) (ta : TA) : TI := fun σ H R => ta σ H fun vs H1 => ∃ a xs, vs = [.ref a] ∧ SqT K H1 a xs ∧ R (IteT K a) H1
theorem pi_enumT {X : Cx} {e : Expr} {ta : TA} {p pos tpos : Pos} {elts : List Expr} {kk : Nat} (hg : Gl X "enumerate") (hm : X.mg "enumerate" = none) (ha : PA X [e] ta) (hs : starEach [e] X.env = [(false, eval e X.env)] := by rfl) :
    PI X (.Tuple elts kk tpos) (.Call (.Name "enumerate" p) [e] [] pos) (iEnumT X.K ta) := by
  refine ⟨fun pins s σ H R I h => ?_⟩
  refine Call_ (ld_blt I hg hm boot_enumerate (PyProof.Rows.callWith_type1 (thn (ha.run pos pins s σ H _ I h) fun us s1 ⟨vs, H1, I1, r1, q1⟩ => ?_) hs rfl))
  obtain ⟨a, xs, ex, hq, q⟩ := q1
  subst ex
  cases r1 with
  | cons r rr =>
    cases rr
    cases r
    obtain ⟨its, rv, p', hz⟩ := I1.tuple hq
    refine enum_begins1 (begins_tuple a its.toArray) p' fun h' he hit hsz hk => wpAny_pyIter_enum he ?_
    have I2 : Inv X pins σ H1 { s1 with heap := h' } := I1.kept (t' := s1.toks) hk
    have hal : a < s1.heap.objs.size := by
      obtain ⟨o, ho, _⟩ := p'
      exact Heap.lt_size ho
    refine ⟨s1.heap.objs.size + 1, [s1.heap.objs.size + 1, s1.heap.objs.size], _, _, H1, rfl, I2, turn_enumT a (s1.heap.objs.size + 1) s1.heap.objs.size, ⟨⟨.none, he⟩, ⟨_, hit, rfl, rfl⟩, Nat.succ_ne_self _, Nat.ne_of_lt hal, Nat.ne_of_gt (Nat.lt_succ_of_lt hal)⟩, fun b hb => ?_, q⟩
    have e' : b = s1.heap.objs.size + 1 ∨ b = s1.heap.objs.size := by simpa using hb
    have hle : s1.heap.objs.size ≤ b := by
      rcases e' with z | z
      · rw [z]; exact Nat.le_add_right _ _
      · rw [z]; exact Nat.le_refl _
    exact I1.fpOk hle (I1.hok.fresh hle)
end L2
namespace Wk
open PySem PySem.Spec L2 Evl
section
variable {K : Fg} {F Kn0 : Hp} {sl sl' : List Sl} {ow ow1 : List Ow} {α β : Type} [Rp α] [Rp β] {te : TE} {ta : TA} {i j : Nat} {p : Addr}
theorem wk_enumT {Kn1 : Hp} {p : Addr} {ws : List V} {xs : List α} (h : SqT K Kn1 p ws) (r : Paired (rep K Kn1) ws xs) : WK K Kn1 (IteT K p) (enumI xs) := fun i Kn' H' e1 e2 => by
  have hq : SqT K H' p ws := ex_t (e1.trans e2) h
  refine ⟨fun y hy => ?_, fun hl => ⟨ws, hq, by rw [paired_len r]; simpa [enumI] using hl⟩⟩
  obtain ⟨x, hx, rfl⟩ := enum_get hy
  obtain ⟨v, hv, rv⟩ := paired_at r hx
  refine ⟨⟨ws, v, hq, hv⟩, fun u H2 hy => ?_⟩
  obtain ⟨T, z, rfl, hT, rfl, f⟩ := hy
  have : v = z := Option.some.inj (hv.symm.trans (f ws hq))
  subst this
  have g : Gr Kn' H' (upd Kn' T (.tup [.int (i : Nat), v])) (upd H' T (.tup [.int (i : Nat), v])) := Gr.new e2 hT
  exact ⟨_, g, T, _, rfl, upd_same, .int (i : Nat), [v], rfl, rfl, v, [], rfl, Rp.mono (e1.trans g.kk) rv, rfl⟩
theorem it_enumT {xs : Tu α} (h : EA K F Kn0 sl ow ta (xs, ())) : IT K F Kn0 sl ow (iEnumT K ta) (enumI xs.l) := fun σ Kn H s R q => h σ Kn H s _ fun vs Kn1 H1 g1 r1 => by
  obtain ⟨v, rfl, p, ws, rfl, h3, h4⟩ := one_arg r1
  exact ⟨p, ws, rfl, st_of (g1.kh _ _ h3), q _ Kn1 H1 g1 (wk_enumT (st_of h3) h4)⟩
/-- tuple(xs), xs one's own -/
theorem ev_tupleO {xs : List α} (hi : sl[i]? = some (.at p)) (hj : ow[j]? = some (ol p xs)) :
    EV K F Kn0 sl ow (tCB (fun xs H Q => ∃ p ys, xs = [.ref p] ∧ ((SqL K H p ys ∧ ∀ l, H l = none → Q (.ref l) (upd H l (.tup ys))) ∨ (SqT K H p ys ∧ Q (.ref p) H))) (tCons (tVar i) tNil)) (Tu.mk xs) := fun σ Kn H s Q q => by
  obtain ⟨o, h1, h2⟩ := s.sl.get hi
  obtain ⟨f1, f2, ws, f3, f4⟩ := s.ow.each _ (List.mem_of_getElem? hj)
  refine ⟨.ref p, by rw [h1]; exact congrArg some h2, p, ws, rfl, .inl ⟨sq_of f3, fun l hl => ?_⟩⟩
  have g : Gr Kn H (upd Kn l (.tup ws)) (upd H l (.tup ws)) := Gr.new s.ek hl
  exact q _ _ _ g ⟨l, ws, rfl, upd_same, paired_mono g.kk f4⟩
end
end Wk
/-! Wmix: slices of tuples and texts, extend, a list of unlike things -/
namespace Wk
open PySem PySem.Spec L2 Evl
/-- the places from a on, b of them -/
inductive Cu : {τ : Type} → [Tp τ] → Nat → Nat → {υ : Type} → [Tp υ] → τ → υ → Prop
  | nil {τ : Type} [Tp τ] (t : τ) : Cu 0 0 t ()
  | take {α τ υ : Type} [Rp α] [Tp τ] [Tp υ] {b : Nat} (x : α) {t : τ} {u : υ} : Cu 0 b t u → Cu 0 (b + 1) (x, t) (x, u)
  | drop {α τ υ : Type} [Rp α] [Tp τ] [Tp υ] {a b : Nat} (x : α) {t : τ} {u : υ} : Cu a b t u → Cu (a + 1) b (x, t) u
theorem Cu.get {K : Fg} {H : Hp} {τ : Type} [i : Tp τ] {a b : Nat} {υ : Type} [j : Tp υ] {t : τ} {u : υ} (h : Cu a b t u) : ∀ {vs : List V}, rept K H vs t → rept K H ((vs.drop a).take b) u := by
  induction h with
  | nil t => exact fun _ => rfl
  | take x _ ih =>
    intro vs r
    obtain ⟨v, r, rfl, h1, h2⟩ := r
    exact ⟨v, _, rfl, h1, ih h2⟩
  | drop x _ ih =>
    intro vs r
    obtain ⟨v, r, rfl, h1, h2⟩ := r
    exact ih h2
structure Hl (τ : Type) where
  t : τ
  deriving DecidableEq
instance {τ : Type} [Tp τ] : Rp (Hl τ) where
  rep K H v x := ∃ p vs, v = .ref p ∧ H p = some (.lst vs) ∧ rept K H vs x.t
  swap e h := by
    obtain ⟨p, vs, h1, h2, h3⟩ := h
    exact ⟨p, vs, h1, e.lst h2, Tp.swap e h3⟩
instance {τ : Type} [Tp τ] [Pq τ] : Pd (Hl τ) where
  toD x := .list (Pq.toDs x.t)
  dp := Pq.dp τ + 1
  isD h := by
    obtain ⟨p, vs, rfl, h1, h2⟩ := h
    exact .lst (sq_of h1) (Pq.isD h2)
  dep a := by
    simp only [PyData.depth]
    exact Nat.succ_le_succ (Pq.dep a.t)
  eqd a b := by
    simp only [PyData.eqv]
    rw [Pq.eqd]
    cases a
    cases b
    simp
def cutSO (z : Str) (lo hi : Option Int) : Option Str := if z.length ≤ 1000000 then some (cutS z lo hi) else none
section
variable {K : Fg} {F Kn0 : Hp} {sl sl' : List Sl} {ow ow1 ow2 : List Ow} {α β γ τ υ : Type} [Rp α] [Rp β] [Rp γ] [Tp τ] [Tp υ] {ta : TA} {tb te : TE} {D : Ends} {i j : Nat} {p : Addr}
theorem ev_tsl {t : α × τ} {u : β × υ} {tl th : TO} {lo hi : Option Int} {a b : Nat} (h : EV K F Kn0 sl ow te t) (hl : EO K F Kn0 sl ow tl lo) (hh : EO K F Kn0 sl ow th hi)
    (ha : HT.sIx (Tp.n (α × τ)) 0 lo = a) (hb : HT.sIx (Tp.n (α × τ)) (Tp.n (α × τ)) hi - a = b) (hw : ¬ (HT.sIx (Tp.n (α × τ)) 0 lo = 0 ∧ HT.sIx (Tp.n (α × τ)) (Tp.n (α × τ)) hi = Tp.n (α × τ))) (hc : Cu a b t u) :
    EV K F Kn0 sl ow (tSl (rSlT K) te tl th) u := fun σ Kn H s Q q =>
  h σ Kn H s _ fun v Kn1 H1 g1 r1 => hl σ Kn1 H1 (s.grow g1) _ fun Kn2 H2 g2 => hh σ Kn2 H2 ((s.grow g1).grow g2) _ fun Kn3 H3 g3 => by
    obtain ⟨p, ws, rfl, h3, h4⟩ := r1
    have g : Gr Kn H Kn3 H3 := (g1.trans g2).trans g3
    have e13 : Ex Kn1 Kn3 := g2.kk.trans g3.kk
    have el := Tp.len h4
    refine ⟨p, ws, rfl, st_of ((e13.trans g3.kh) _ _ h3), by rw [el]; exact hw, fun l hl => ?_⟩
    have gn := Gr.new (o := .tup (cutV ws lo hi)) g3.kh hl
    refine q _ _ _ (g.trans gn) ⟨l, _, rfl, upd_same, ?_⟩
    have := hc.get (Tp.mono (e13.trans gn.kk) h4)
    have e : cutV ws lo hi = (ws.drop a).take b := by
      unfold cutV
      rw [el, ha, hb]
    rw [e] at this ⊢
    exact this
theorem ev_slS {z r : Str} {tl th : TO} {lo hi : Option Int} (h : EV K F Kn0 sl ow te z) (hl : EO K F Kn0 sl ow tl lo) (hh : EO K F Kn0 sl ow th hi) (hz : cutSO z lo hi = some r) : EV K F Kn0 sl ow (tSl rSlS te tl th) r := fun σ Kn H s Q q =>
  h σ Kn H s _ fun v Kn1 H1 g1 r1 => hl σ Kn1 H1 (s.grow g1) _ fun Kn2 H2 g2 => hh σ Kn2 H2 ((s.grow g1).grow g2) _ fun Kn3 H3 g3 => by
    cases r1
    unfold cutSO at hz
    split at hz
    · rename_i hq
      cases hz
      exact ⟨z, rfl, le_line hq, q _ Kn3 H3 ((g1.trans g2).trans g3) rfl⟩
    · cases hz
theorem ev_hl {t : τ} (h : EA K F Kn0 sl ow ta t) (hz : Tp.n τ ≤ 1000000 := by decide) : EV K F Kn0 sl ow (tLst ta) (Hl.mk t) := fun σ Kn H s Q q =>
  h σ Kn H s _ fun vs Kn1 H1 g1 r1 => ⟨by rw [Tp.len r1]; exact le_line hz, fun p hp =>
    q _ (upd Kn1 p (.lst vs)) _ (g1.trans (Gr.new g1.kh hp)) ⟨p, vs, rfl, upd_same, Tp.mono (Gr.new g1.kh hp).kk r1⟩⟩
theorem r2_hix {t : Hl τ} {n : Nat} {z : γ} (h : At n t.t z) : R2V K (rIxL K) t (n : Int) z := fun Kn H v w ek h1 h2 Q q => by
  obtain ⟨p, ws, rfl, h3, h4⟩ := h1
  cases h2
  obtain ⟨u, e, r⟩ := h.get h4
  exact ⟨p, ws, n, u, rfl, rfl, sq_of (ek _ _ h3), atI_nat e, q.at ek r⟩
theorem k_slt {X : Cx} (h : X.K = K := by rfl) : SlR X (rSlT K) := h ▸ sl_tup
/-- xs.extend(ys), xs one's own -/
theorem sb_extO {xs ys zs : List α} (hi : sl[i]? = some (.at p)) (hj : ow[j]? = some (ol p xs)) (h : EV K F Kn0 sl ow te ys) (hz : catO xs ys = some zs) (ho : ow.set j (ol p zs) = ow1) (k : SN K F Kn0 sl ow1 D) :
    SB K F Kn0 sl ow D (tDrop (tBM K "list" rExtend (tVar i) (tCons te tNil))) := fun σ Kn H s => by
  obtain ⟨o, h1, h2⟩ := s.sl.get hi
  obtain ⟨f1, f2, ws, f3, f4⟩ := s.ow.each _ (List.mem_of_getElem? hj)
  unfold catO at hz
  split at hz
  case isFalse => cases hz
  rename_i hq
  cases hz
  refine ⟨.ref p, by rw [h1]; exact congrArg some h2, Or.inl ⟨rfl, ws, sq_of f3⟩, h σ Kn H s _ fun v Kn1 H1 g1 r1 => ?_⟩
  obtain ⟨b, vs, rfl, h3, h4⟩ := r1
  refine ⟨p, b, ws, vs, rfl, rfl, g1.hh _ _ f3, g1.kh _ _ h3, by rw [paired_len f4, paired_len h4]; exact le_line hq, k _ Kn1 _ ?_⟩
  have kp1 : Kn1 p = none := g1.sp p (ne_none_of f3) f2
  subst ho
  exact (s.grow g1).write hj (Ex.refl _) (upd_in g1.kh kp1) (fun q hq _ => upd_ne hq) (fun _ _ h => h) upd_same (paired_append (paired_mono g1.kk f4) h4)
end
end Wk
/-! Wmut2: a def that changes two of its arguments -/
namespace Wk
open PySem PySem.Spec L2 Evl
/-- where the arguments stand: a value, one's own -/
def mV (f : List V → List V) : List V → List V := fun vs => match vs with
  | v :: r => v :: f r
  | [] => []
def mO (p : Addr) (f : List V → List V) : List V → List V := fun vs => .ref p :: f vs
def mE : List V → List V := fun vs => vs
def PM2 {α τ γ δ : Type} [Rp α] [Tp τ] (K : Fg) (mk : Addr → Addr → List V → List V) (o1 : Addr → γ → Ow) (o2 : Addr → δ → Ow) (f : γ → δ → τ → Option (α × γ × δ)) : Sp := fun vs H Q _ => ∃ Kn p q rest t x y r x' y', vs = mk p q rest ∧ Ex Kn H ∧ p ≠ q ∧ Kn p = none ∧ Kn q = none ∧ (o1 p x).ok K Kn H ∧ (o2 q y).ok K Kn H ∧ rept K Kn rest t ∧ f x y t = some (r, x', y') ∧
  ∀ v Kn' H', Ex Kn Kn' → Ex Kn' H' → (∀ a, a ≠ p → a ≠ q → H a ≠ none → H' a = H a) → (∀ a, H a ≠ none → Kn a = none → Kn' a = none) → (o1 p x').ok K Kn' H' → (o2 q y').ok K Kn' H' → rep K Kn' v r → Q v H'
section
variable {K : Fg} {F Kn0 : Hp} {sl : List Sl} {ow : List Ow} {α τ γ δ : Type} [Rp α] [Tp τ]
/-- the arguments: values that are told, own things by their names -/
def EMx (K : Fg) (F Kn0 : Hp) (sl : List Sl) (ow : List Ow) (ta : TA) (t : τ) (mk : List V → List V) : Prop := ∀ σ Kn H, S K F Kn0 sl ow σ Kn H → ∀ Q : List V → Hp → Prop, (∀ vs Kn' H', Gr Kn H Kn' H' → rept K Kn' vs t → Q (mk vs) H') → ta σ H Q
theorem emx_nil : EMx K F Kn0 sl ow tNil () mE := fun σ Kn H s Q q => q [] Kn H (Gr.refl s.ek) rfl
theorem emx_val {te : TE} {ta : TA} {x : α} {t : τ} {mk : List V → List V} (h : EV K F Kn0 sl ow te x) (h2 : EMx K F Kn0 sl ow ta t mk) : EMx K F Kn0 sl ow (tCons te ta) (x, t) (mV mk) := fun σ Kn H s Q q =>
  h σ Kn H s _ fun v Kn1 H1 g1 r1 => h2 σ Kn1 H1 (s.grow g1) _ fun vs Kn2 H2 g2 r2 => q (v :: vs) Kn2 H2 (g1.trans g2) ⟨v, vs, rfl, Rp.mono g2.kk r1, r2⟩
theorem emx_own {ta : TA} {t : τ} {mk : List V → List V} {i : Nat} {p : Addr} (hi : sl[i]? = some (.at p)) (h2 : EMx K F Kn0 sl ow ta t mk) : EMx K F Kn0 sl ow (tCons (tVar i) ta) t (mO p mk) := fun σ Kn H s Q q => by
  obtain ⟨o, h1, h3⟩ := s.sl.get hi
  exact ⟨.ref p, by rw [h1]; exact congrArg some h3, h2 σ Kn H s _ fun vs Kn2 H2 g2 r2 => q vs Kn2 H2 g2 r2⟩
theorem S.write2 {σ : L2.St} {Kn H Kn' H' : Hp} {p q : Addr} {a1 a2 b1 b2 : Ow} {j k : Nat} (s : S K F Kn0 sl ow σ Kn H) (hj : ow[j]? = some a1) (hk : ow[k]? = some a2) (hne : j ≠ k) (d1 : a1.ad = p) (d2 : a2.ad = q) (d3 : b1.ad = p) (d4 : b2.ad = q)
    (kk : Ex Kn Kn') (kh : Ex Kn' H') (hq : ∀ a, a ≠ p → a ≠ q → H a ≠ none → H' a = H a) (sp : ∀ a, H a ≠ none → Kn a = none → Kn' a = none) (h1 : b1.ok K Kn' H') (h2 : b2.ok K Kn' H') : S K F Kn0 sl ((ow.set j b1).set k b2) σ Kn' H' := by
  obtain ⟨f1, f2, f3⟩ := s.ow.each _ (List.mem_of_getElem? hj)
  obtain ⟨g1, g2, g3⟩ := s.ow.each _ (List.mem_of_getElem? hk)
  have f4 := Ow.there f3
  have g4 := Ow.there g3
  rw [d1] at f1 f2 f4
  rw [d2] at g1 g2 g4
  have jl : j < ow.length := (List.getElem?_eq_some_iff.mp hj).1
  have kl : k < ow.length := (List.getElem?_eq_some_iff.mp hk).1
  refine ⟨s.e0.trans kk, kh, fun a u h => ?_, fun a h1 h2 => sp a (Ex.nn s.ef h1) (s.sep a h1 h2), s.sl.mono kk, ⟨fun o ho => ?_, ?_⟩⟩
  · have n1 : a ≠ p := fun z => by rw [z, f1] at h; cases h
    have n2 : a ≠ q := fun z => by rw [z, g1] at h; cases h
    rw [hq a n1 n2 (ne_none_of (s.ef _ _ h))]
    exact s.ef _ _ h
  · obtain ⟨i, hi⟩ := List.getElem?_of_mem ho
    by_cases e : i = k
    · subst e
      rw [List.getElem?_set_self (by rw [List.length_set]; exact kl)] at hi
      cases hi
      rw [d4]
      exact ⟨g1, sp q g4 g2, h2⟩
    · rw [List.getElem?_set_ne (Ne.symm e)] at hi
      by_cases e2 : i = j
      · subst e2
        rw [List.getElem?_set_self jl] at hi
        cases hi
        rw [d3]
        exact ⟨f1, sp p f4 f2, h1⟩
      · rw [List.getElem?_set_ne (Ne.symm e2)] at hi
        obtain ⟨h1, h2, h3⟩ := s.ow.each o (List.mem_of_getElem? hi)
        have h4 := Ow.there h3
        have n1 : o.ad ≠ p := fun z => e2 (ow_at s.ow.nd hi hj (z.trans d1.symm))
        have n2 : o.ad ≠ q := fun z => e (ow_at s.ow.nd hi hk (z.trans d2.symm))
        exact ⟨h1, sp _ h4 h2, Ow.ok_mono kk (hq _ n1 n2 h4) h3⟩
  · have e : ((ow.set j b1).set k b2).map Ow.ad = ow.map Ow.ad := by
      refine List.ext_getElem? fun i => ?_
      rw [List.getElem?_map, List.getElem?_map]
      by_cases e : k = i
      · subst e
        rw [List.getElem?_set_self (by rw [List.length_set]; exact kl), hk]
        exact congrArg some (d4.trans d2.symm)
      · rw [List.getElem?_set_ne e]
        by_cases e2 : j = i
        · subst e2
          rw [List.getElem?_set_self jl, hj]
          exact congrArg some (d3.trans d1.symm)
        · rw [List.getElem?_set_ne e2]
    rw [e]
    exact s.ow.nd
theorem em_callM2 {mk : Addr → Addr → List V → List V} {o1 : Addr → γ → Ow} {o2 : Addr → δ → Ow} {f : γ → δ → τ → Option (α × γ × δ)} {ta : TA} {t : τ} {E : XK} {x x' : γ} {y y' : δ} {r : α} {p q : Addr} {j k : Nat} (h : EMx K F Kn0 sl ow ta t (mk p q)) (hj : ow[j]? = some (o1 p x)) (hk : ow[k]? = some (o2 q y)) (hne : j ≠ k) (a1 : ∀ p x, (o1 p x).ad = p) (a2 : ∀ p x, (o2 p x).ad = p)
    (hf : f x y t = some (r, x', y')) : EM K F Kn0 sl ow (tCall (PM2 K mk o1 o2 f) [] E ta) ((ow.set j (o1 p x')).set k (o2 q y')) r := fun σ Kn H s Q qq => h σ Kn H s _ fun vs Kn1 H1 g1 r1 => by
  have s1 := s.grow g1
  show PM2 K mk o1 o2 f (mk p q vs ++ []) H1 Q E
  rw [List.append_nil]
  obtain ⟨f1, f2, f3⟩ := s1.ow.each _ (List.mem_of_getElem? hj)
  obtain ⟨k1, k2, k3⟩ := s1.ow.each _ (List.mem_of_getElem? hk)
  rw [a1] at f1 f2
  rw [a2] at k1 k2
  have hpq : p ≠ q := fun z => hne (ow_at s1.ow.nd hj hk ((a1 p x).trans (z.trans (a2 q y).symm)))
  exact ⟨Kn1, p, q, vs, t, x, y, r, x', y', rfl, s1.ek, hpq, f2, k2, f3, k3, r1, hf, fun v Kn' H' kk kh hq sp h1 h2 rv => qq v Kn' H' (g1.kk.trans kk) (s1.write2 hj hk hne (a1 p x) (a2 q y) (a1 p x') (a2 q y') kk kh hq sp h1 h2) rv⟩
/-- the second of the changed things is a list made for the call -/
def EMxT {β : Type} [Rp β] (K : Fg) (F Kn0 : Hp) (sl : List Sl) (ow : List Ow) (ta : TA) (xs : List β) (t : τ) (mk : Addr → List V → List V) : Prop := ∀ σ Kn H, S K F Kn0 sl ow σ Kn H → ∀ Q : List V → Hp → Prop,
  (∀ vs q ws Kn' H', Gr Kn H Kn' H' → H q = none → Kn' q = none → H' q = some (.lst ws) → Paired (rep K Kn') ws xs → rept K Kn' vs t → Q (mk q vs) H') → ta σ H Q
theorem emt_new {β : Type} [Rp β] {te : TE} {ta : TA} {xs : List β} {t : τ} {mk : List V → List V} (h : EN K F Kn0 sl ow te xs) (h2 : EMx K F Kn0 sl ow ta t mk) : EMxT K F Kn0 sl ow (tCons te ta) xs t (fun q => mO q mk) := fun σ Kn H s Q qq =>
  h σ Kn H s _ fun q ws Kn1 H1 g1 hq kq hw r1 => h2 σ Kn1 H1 (s.grow g1) _ fun vs Kn2 H2 g2 r2 =>
    qq vs q ws Kn2 H2 (g1.trans g2) hq (g2.sp q (ne_none_of hw) kq) (g2.hh _ _ hw) (paired_mono g2.kk r1) r2
theorem emt_own {β : Type} [Rp β] {ta : TA} {xs : List β} {t : τ} {mk : Addr → List V → List V} {i : Nat} {p : Addr} (hi : sl[i]? = some (.at p)) (h2 : EMxT K F Kn0 sl ow ta xs t mk) : EMxT K F Kn0 sl ow (tCons (tVar i) ta) xs t (fun q => mO p (mk q)) := fun σ Kn H s Q qq => by
  obtain ⟨o, h1, h3⟩ := s.sl.get hi
  exact ⟨.ref p, by rw [h1]; exact congrArg some h3, h2 σ Kn H s _ fun vs q ws Kn2 H2 g2 a b c d r2 => qq vs q ws Kn2 H2 g2 a b c d r2⟩
theorem em_callM2T {β : Type} [Rp β] {mk : Addr → Addr → List V → List V} {o1 : Addr → γ → Ow} {f : γ → List β → τ → Option (α × γ × List β)} {ta : TA} {t : τ} {E : XK} {x x' : γ} {ys ys' : List β} {r : α} {p : Addr} {j : Nat} (h : EMxT K F Kn0 sl ow ta ys t (mk p)) (hj : ow[j]? = some (o1 p x)) (a1 : ∀ p x, (o1 p x).ad = p)
    (hf : f x ys t = some (r, x', ys')) : EM K F Kn0 sl ow (tCall (PM2 K mk o1 (fun p (xs : List β) => ol p xs) f) [] E ta) (ow.set j (o1 p x')) r := fun σ Kn H s Q qq => h σ Kn H s _ fun vs q ws Kn1 H1 g1 hq kq hw r0 r1 => by
  have s1 := s.grow g1
  show PM2 K mk o1 _ f (mk p q vs ++ []) H1 Q E
  rw [List.append_nil]
  have no : ∀ o ∈ ow, o.ad ≠ q := fun o ho z => by
    obtain ⟨_, _, h3⟩ := s.ow.each o ho
    exact Ow.there h3 (by rw [z]; exact hq)
  have s2 : S K F Kn0 sl (ol q ys :: ow) σ Kn1 H1 := s1.own (fresh_back s.ef hq) kq no hw r0
  obtain ⟨f1, f2, f3⟩ := s1.ow.each _ (List.mem_of_getElem? hj)
  have hpq : p ≠ q := fun z => no _ (List.mem_of_getElem? hj) ((a1 p x).trans z)
  rw [a1] at f1 f2
  refine ⟨Kn1, p, q, vs, t, x, ys, r, x', ys', rfl, s1.ek, hpq, f2, kq, f3, ⟨ws, hw, r0⟩, r1, hf, fun v Kn' H' kk kh hq2 sp h1 h2 rv => qq v Kn' H' (g1.kk.trans kk) ?_ rv⟩
  have s3 := s2.write2 (j := j + 1) (k := 0) (b2 := ol q ys') (show (ol q ys :: ow)[j + 1]? = some (o1 p x) from hj) rfl (by omega) (a1 p x) rfl (a1 p x') rfl kk kh hq2 sp h1 h2
  exact s3.sub (List.sublist_cons_self _ _)
theorem enterM2 {σ : L2.St} {Kn H : Hp} {D : Ends} {t : TS} {p q : Addr} {b1 b2 : Ow} (ek : Ex Kn H) (hpq : p ≠ q) (kp : Kn p = none) (kq : Kn q = none) (d1 : b1.ad = p) (d2 : b2.ad = q) (h1 : b1.ok K Kn H) (h2 : b2.ok K Kn H) (hs : SlsOk K Kn sl σ) (h : SB K (but (but H p) q) Kn sl [b1, b2] D t) : t D σ H :=
  h σ Kn H ⟨Ex.refl _, ek, fun a u e => by
    unfold but at e
    split at e
    · cases e
    · split at e
      · cases e
      · exact e, fun _ _ h => h, hs, ⟨fun o ho => by
      rcases List.mem_cons.mp ho with rfl | ho
      · rw [d1]
        refine ⟨?_, kp, h1⟩
        unfold but
        rw [if_neg hpq, if_pos rfl]
      · cases List.mem_singleton.mp ho
        rw [d2]
        exact ⟨if_pos rfl, kq, h2⟩, by
      show [b1.ad, b2.ad].Nodup
      rw [d1, d2]
      exact List.nodup_cons.mpr ⟨(fun h => hpq (List.mem_singleton.mp h)), List.nodup_cons.mpr ⟨(fun h => nomatch h), List.nodup_nil⟩⟩⟩⟩
theorem rt_ofM2 {H Kn : Hp} {r : α} {p q : Addr} {b1 b2 : Ow} {Q : VK} (hpq : p ≠ q) (kp : Kn p = none) (kq : Kn q = none) (d1 : b1.ad = p) (d2 : b2.ad = q)
    (qq : ∀ v Kn' H', Ex Kn Kn' → Ex Kn' H' → (∀ a, a ≠ p → a ≠ q → H a ≠ none → H' a = H a) → (∀ a, H a ≠ none → Kn a = none → Kn' a = none) → b1.ok K Kn' H' → b2.ok K Kn' H' → rep K Kn' v r → Q v H') :
    RT K (but (but H p) q) Kn [b1, b2] Q r := fun v Kn' H' s rv => by
  obtain ⟨_, k1, h1⟩ := s.ow.each b1 List.mem_cons_self
  obtain ⟨_, k2, h2⟩ := s.ow.each b2 (List.mem_cons_of_mem _ List.mem_cons_self)
  rw [d1] at k1
  rw [d2] at k2
  have eb : ∀ a, a ≠ p → a ≠ q → but (but H p) q a = H a := fun a ha hb => by
    unfold but
    rw [if_neg hb, if_neg ha]
  refine qq v Kn' H' s.e0 s.ek (fun a ha hb hn => ?_) (fun a hn hk => ?_) h1 h2 rv
  · exact (Ex.at_eq s.ef (by rw [eb a ha hb]; exact hn)).trans (eb a ha hb)
  · by_cases ha : a = p
    · subst ha
      exact k1
    · by_cases hb : a = q
      · subst hb
        exact k2
      · exact s.sep a (by rw [eb a ha hb]; exact hn) hk
end
theorem fnok_noneM2 {P : Program} {w : World} {K : Fg} {mg : Str → Option Value} {base : Heap} {CX : CXT} {k : Nat} {f : Addr} {fd : FuncData} {ps : List Str} {τ α γ δ : Type} [Tp τ] [Rp α] {mk : Addr → Addr → List V → List V} {o1 : Addr → γ → Ow} {o2 : Addr → δ → Ow} :
    FnOk P w K mg base CX k f fd ps (PM2 K mk o1 o2 (fun _ _ (_ : τ) => (none : Option (α × γ × δ)))) := by
  refine ⟨fun vs H Q E h => ?_, fun A outer s H args us vs Q E hr he hb hv h => ?_⟩
  · obtain ⟨_, _, _, _, _, _, _, _, _, _, _, _, _, _, _, _, _, _, h, _⟩ := h
    cases h
  · obtain ⟨_, _, _, _, _, _, _, _, _, _, _, _, _, _, _, _, _, _, h, _⟩ := h
    cases h
end Wk
/-! Wtxt: join of a tuple, startswith, str() of a number or a text, `in` a tuple of the module -/
namespace Wk
open PySem PySem.Spec L2 Evl
/-- str() of a value of any kind: a number or a text -/
def strDO (x : Dy) : Option Str := match x.d with
  | .int i => strIO i
  | .str s => some s
  | _ => none
def rStrD : List V → Hp → VK → Prop := fun xs H Q => (∃ i : Int, xs = [.int i] ∧ i.natAbs.log2 < 1920 ∧ Q (.str (toString i)) H) ∨ ∃ a, xs = [.str a] ∧ Q (.str a) H
theorem k_strD {X : Cx} : CallR X (.type "str") rStrD := by
  intro pins s σ H xs us Q I r h
  rcases h with ⟨i, h1, h2, h3⟩ | ⟨a, h1, h2⟩
  · exact call_str_int pins s σ H xs us Q I r ⟨i, h1, h2, h3⟩
  · exact SkE.call_str_str pins s σ H xs us Q I r ⟨a, h1, h2⟩
section
variable {K : Fg} {F Kn0 : Hp} {sl : List Sl} {ow : List Ow} {ta tb te tk : TE}
theorem rc_strD {x : Dy} {r : Str} (h : strDO x = some r) : RCV K rStrD (x, ()) r := fun Kn H vs ek hv Q q => by
  obtain ⟨v, rfl, h1⟩ := one_arg hv
  unfold strDO at h
  obtain ⟨d⟩ := x
  have h1 : Dq Kn v d := h1
  cases h1 with
  | int i =>
    have h : strIO i = some r := h
    unfold strIO at h
    split at h
    case isFalse => cases h
    rename_i hb
    cases h
    exact .inl ⟨i, rfl, hb, q.fl ek⟩
  | str z =>
    cases h
    exact .inr ⟨r, rfl, q.fl ek⟩
  | non => cases h
  | bl b => cases h
  | lst _ _ => cases h
  | tup _ _ => cases h
theorem ev_joinT {s : Str} {ys : Tu Str} {z : Str} (ha : EV K F Kn0 sl ow ta s) (hb : EV K F Kn0 sl ow tb ys) (h : joinO s ys.l = some z) :
    EV K F Kn0 sl ow (tM1 (fun x xs H Q => ∃ a p, ∃ ys : List Str, x = .str a ∧ xs = [.ref p] ∧ (SqL K H p (ys.map V.str) ∨ SqT K H p (ys.map V.str)) ∧ (ys.map (·.length)).sum + ys.length * a.length ≤ 16777216 ∧ Q (.str (Txt.join a ys)) H) ta tb) z := fun σ Kn H s' Q q =>
  ha σ Kn H s' _ fun v Kn1 H1 g1 r1 => by
    cases r1
    refine ⟨⟨s, rfl⟩, hb σ Kn1 H1 (s'.grow g1) _ fun w Kn2 H2 g2 r2 => ?_⟩
    obtain ⟨p, ws, rfl, h3, h4⟩ := r2
    have e := paired_fl h4
    subst e
    unfold joinO at h
    split at h
    · rename_i hz
      cases h
      exact ⟨s, p, ys.l, rfl, rfl, .inr (st_of (g2.kh _ _ h3)), by omega, q _ Kn2 H2 (g1.trans g2) rfl⟩
    · cases h
theorem ev_starts {x y : Str} (h : EV K F Kn0 sl ow te x) (hn : EV K F Kn0 sl ow tb y) : EV K F Kn0 sl ow (tBM K "str" (fun x xs H Q => ∃ a b, x = .str a ∧ xs = [.str b] ∧ Q (.bl (Txt.startswith a b)) H) te (tCons tb tNil)) (Txt.startswith x y) := fun σ Kn H s Q q =>
  h σ Kn H s _ fun v Kn1 H1 g1 r1 => by
    cases r1
    refine ⟨rfl, hn σ Kn1 H1 (s.grow g1) _ fun w Kn2 H2 g2 r2 => ?_⟩
    cases r2
    exact ⟨x, y, rfl, rfl, q _ Kn2 H2 (g1.trans g2) rfl⟩
/-- xs.pop() -/
def popO {α : Type} (xs : List α) : Option (α × List α) := xs.getLast?.map fun x => (x, xs.dropLast)
theorem paired_dropLast {α : Type} {R : V → α → Prop} : ∀ {ws : List V} {xs : List α}, Paired R ws xs → Paired R ws.dropLast xs.dropLast
  | _, _, .nil => .nil
  | _, _, .cons _ .nil => .nil
  | _, _, .cons h (.cons h2 t) => .cons h (paired_dropLast (.cons h2 t))
theorem em_pop {α : Type} [Rp α] {xs xs' : List α} {x : α} {i j : Nat} {p : Addr} (hi : sl[i]? = some (.at p)) (hj : ow[j]? = some (ol p xs)) (hx : popO xs = some (x, xs')) : EM K F Kn0 sl ow (tBM0 K "list" rPop (tVar i)) (ow.set j (ol p xs')) x := fun σ Kn H s Q q => by
  obtain ⟨o, h1, h2⟩ := s.sl.get hi
  obtain ⟨f1, f2, ws, f3, f4⟩ := s.ow.each _ (List.mem_of_getElem? hj)
  unfold popO at hx
  obtain ⟨y, hy, e⟩ := Option.map_eq_some_iff.mp hx
  cases e
  rw [List.getLast?_eq_getElem?] at hy
  obtain ⟨v, hv, rv⟩ := paired_at f4 hy
  have hl := paired_len f4
  refine ⟨.ref p, by rw [h1]; exact congrArg some h2, Or.inl ⟨rfl, ws, sq_of f3⟩, p, ws, v, rfl, rfl, f3, by rw [hl]; exact hv, q v Kn _ (Ex.refl _) ?_ rv⟩
  exact s.write hj (Ex.refl _) (upd_in s.ek f2) (fun q hq _ => upd_ne hq) (fun _ _ h => h) upd_same (paired_dropLast f4)
theorem k_starts {X : Cx} {to te : TE} {o e : Expr} {apos cpos : Pos} (ho : PE X o to) (he : PE X e te)
    (hbase : attributeBase o "startswith" X.env (eval o X.env) = eval o X.env := by rfl)
    (hfew : ((backTo cpos (starEach [e] X.env)).all (fun x => !x.1) && (backToKw cpos (keywordEach [] X.env)).all (fun x => x.1.isSome)
      && decide ([e].length + ([] : List Keyword).length + (if ([] : List Keyword).isEmpty then 0 else 1) < 30)) = true := by rfl)
    (hline : (apos.endLine == cpos.line) = true := by rfl) (hs : starEach [e] X.env = (false, eval e X.env) :: starEach [] X.env := by rfl) (h : X.K = K := by rfl) :
    PE X (.Call (.Attribute o "startswith" apos) [e] [] cpos) (tBM K "str" (fun x xs H Q => ∃ a b, x = .str a ∧ xs = [.str b] ∧ Q (.bl (Txt.startswith a b)) H) to (tCons te tNil)) :=
  h ▸ pe_bm PySem.F.plainAttrs_str PySem.F.slot_str_startswith PySem.F.type_str_startswith mt_startswith ho (pa_cons he pa_nil hs) hbase hfew hline hs
/-- a tuple of texts of the module -/
def KTup (K : Fg) (a : Addr) (tab : List Str) : Prop := ∃ (o : Obj) (its : Array Value) (n : Nat), K.lookup a = some o ∧ o.cls = .type "tuple" ∧ o.data = .seq its n ∧ its.size ≤ sizeLine ∧ Vals (tab.map V.str) its.toList
theorem ev_inK {p : Addr} {tab : List Str} {x : Str} (ht : KTup K p tab) (h : EV K F Kn0 sl ow te x) : EV K F Kn0 sl ow (tOp (rIn K false) te (tC (.ref p))) (decide (x ∈ tab)) := fun σ Kn H s Q q =>
  h σ Kn H s _ fun v Kn1 H1 g1 r1 => by
    cases r1
    refine ⟨p, tab.map V.str, rfl, .inr (.inr ht), Fe.flat x, all_flat tab, ?_⟩
    have e : inV (V.str x) (tab.map V.str) = decide (x ∈ tab) := any_mem x tab
    rw [if_neg (by decide), e]
    exact q _ Kn1 H1 g1 rfl
end
end Wk
set_option synthInstance.maxHeartbeats 4000000
set_option synthInstance.maxSize 20000
/-! the mirrors of k08, printed by gen.py -/
namespace Wk08
open PySem L2 Wk
noncomputable def m_words_told (words_1 : (Tu (Tu Str))) (joint_2 : Int) : Option (List Str) :=
  (some ([] : List Str)).bind fun told_3 =>
  ((if (!decide (joint_2 = (50 : Int))) = true then ((strIO joint_2).bind fun sn_6 =>
  (addS ("joint=" : Str) sn_6).bind fun t_7 =>
  (appO told_3 t_7).bind fun told_8 =>
  some told_8) else (some told_3))).bind fun told_9 =>
  ((if (decide ((0 : Int) < (words_1.l.length : Int))) = true then ((lcM (fun _ => some true) (fun word_13 => ((joinO ("|" : Str) word_13.l).bind fun j_15 => some j_15)) words_1.l).bind fun zs_14 =>
  (joinO (" " : Str) zs_14).bind fun j_16 =>
  (addS ("text=" : Str) j_16).bind fun t_17 =>
  (appO told_9 t_17).bind fun told_18 =>
  some told_18) else (some told_9))).bind fun told_19 =>
  some told_19
noncomputable def m_word_told (word_21 : Str) (value_22 : Str) (plain_23 : Str) : Option (List Str) :=
  (if (decide (value_22 = plain_23)) = true then (some ([] : List Str)) else ((addS word_21 ("=" : Str)).bind fun t_27 =>
  (addS t_27 value_22).bind fun t_28 =>
  some ([t_28] : List Str)))
noncomputable def m_numbers_told (word_29 : Str) (numbers_30 : (Tu Dy)) (mark_31 : Str) (plain_32 : Str) : Option (List Str) :=
  (lcM (fun _ => some true) (fun number_33 => ((strDO number_33).bind fun sn_35 => some sn_35)) numbers_30.l).bind fun zs_34 =>
  (joinO mark_31 zs_34).bind fun j_36 =>
  (m_word_told word_29 j_36 plain_32).bind fun r_37 =>
  some r_37
noncomputable def m_own_told (own_38 : Dy) : Option (List Str) :=
  ((ofD own_38 : Option (Tu Dy))).bind fun o_39 =>
  (atI o_39.l (0 : Int)).bind fun i_40 =>
  ((ofD i_40 : Option (Tu Dy))).bind fun o_41 =>
  (m_numbers_told ("wide" : Str) o_41 (".." : Str) ("0..1000000" : Str)).bind fun r_42 =>
  ((ofD own_38 : Option (Tu Dy))).bind fun o_43 =>
  (atI o_43.l (1 : Int)).bind fun i_44 =>
  ((ofD i_44 : Option (Tu Dy))).bind fun o_45 =>
  (m_numbers_told ("high" : Str) o_45 (".." : Str) ("0..1000000" : Str)).bind fun r_46 =>
  (catO r_42 r_46).bind fun cat_47 =>
  (some cat_47).bind fun words_48 =>
  ((ofD own_38 : Option (Tu Dy))).bind fun o_49 =>
  (atI o_49.l (2 : Int)).bind fun i_50 =>
  (strDO i_50).bind fun sn_51 =>
  (m_word_told ("grow" : Str) sn_51 ("0" : Str)).bind fun r_52 =>
  (catO words_48 r_52).bind fun cat_53 =>
  ((ofD own_38 : Option (Tu Dy))).bind fun o_54 =>
  (atI o_54.l (3 : Int)).bind fun i_55 =>
  (strDO i_55).bind fun sn_56 =>
  (m_word_told ("shrink" : Str) sn_56 ("1" : Str)).bind fun r_57 =>
  (catO cat_53 r_57).bind fun cat_58 =>
  (some cat_58).bind fun words_59 =>
  ((ofD own_38 : Option (Tu Dy))).bind fun o_60 =>
  (atI o_60.l (4 : Int)).bind fun i_61 =>
  (strDO i_61).bind fun sn_62 =>
  (m_word_told ("rank" : Str) sn_62 ("0" : Str)).bind fun r_63 =>
  (catO words_59 r_63).bind fun cat_64 =>
  ((ofD own_38 : Option (Tu Dy))).bind fun o_65 =>
  (atI o_65.l (5 : Int)).bind fun i_66 =>
  (strDO i_66).bind fun sn_67 =>
  (m_word_told ("alike" : Str) sn_67 ("0" : Str)).bind fun r_68 =>
  (catO cat_64 r_68).bind fun cat_69 =>
  some cat_69
noncomputable def m_what_told (kind_70 : Str) (what_71 : Dy) : Option (List Str) :=
  (if (decide (kind_70 = ("leaf" : Str))) = true then (((ofD what_71 : Option (Tu Dy))).bind fun o_75 =>
  (m_numbers_told ("wish" : Str) o_75 ("," : Str) ("0,0" : Str)).bind fun r_76 =>
  some r_76) else ((if (decide (kind_70 ∈ ([("row" : Str), ("column" : Str), ("wrap" : Str)] : List Str))) = true then (((ofD what_71 : Option (Tu Dy))).bind fun o_80 =>
  (atI o_80.l (0 : Int)).bind fun i_81 =>
  (strDO i_81).bind fun sn_82 =>
  (m_word_told ("gap" : Str) sn_82 ("0" : Str)).bind fun r_83 =>
  ((ofD what_71 : Option (Tu Dy))).bind fun o_84 =>
  (atI o_84.l (1 : Int)).bind fun i_85 =>
  ((ofD i_85 : Option Str)).bind fun o_86 =>
  (m_word_told ("align" : Str) o_86 ("start" : Str)).bind fun r_87 =>
  (catO r_83 r_87).bind fun cat_88 =>
  (some cat_88).bind fun words_89 =>
  ((ofD what_71 : Option (Tu Dy))).bind fun o_90 =>
  (atI o_90.l (2 : Int)).bind fun i_91 =>
  ((ofD i_91 : Option Str)).bind fun o_92 =>
  (m_word_told ("side" : Str) o_92 ("left" : Str)).bind fun r_93 =>
  (catO words_89 r_93).bind fun cat_94 =>
  some cat_94) else ((if (decide (kind_70 = ("table" : Str))) = true then (((ofD what_71 : Option (Tu Dy))).bind fun o_98 =>
  (atI o_98.l (0 : Int)).bind fun i_99 =>
  (strDO i_99).bind fun sn_100 =>
  (m_word_told ("columns" : Str) sn_100 ("1" : Str)).bind fun r_101 =>
  ((ofD what_71 : Option (Tu Dy))).bind fun o_102 =>
  (atI o_102.l (1 : Int)).bind fun i_103 =>
  (strDO i_103).bind fun sn_104 =>
  (m_word_told ("gap" : Str) sn_104 ("0" : Str)).bind fun r_105 =>
  (catO r_101 r_105).bind fun cat_106 =>
  (some cat_106).bind fun words_107 =>
  ((ofD what_71 : Option (Tu Dy))).bind fun o_108 =>
  (atI o_108.l (2 : Int)).bind fun i_109 =>
  ((ofD i_109 : Option Str)).bind fun o_110 =>
  (m_word_told ("side" : Str) o_110 ("left" : Str)).bind fun r_111 =>
  (catO words_107 r_111).bind fun cat_112 =>
  some cat_112) else (some ([] : List Str)))))))
noncomputable def m_part_told (elder_113 : Dy) (at_114 : Int) : Option (List Str) :=
  ((ofD elder_113 : Option (Dy × Dy × Dy × Dy × Dy × Unit))).bind fun o_115 =>
  (some o_115).bind fun (kind_116, name_117, own_118, what_119, parts_120, _) =>
  ((ofD kind_116 : Option Str)).bind fun o_122 =>
  (if (decide (o_122 = ("table" : Str))) = true then (((ofD what_119 : Option (Tu Dy))).bind fun o_125 =>
  (atI o_125.l (3 : Int)).bind fun i_126 =>
  ((ofD i_126 : Option (Tu Dy))).bind fun o_127 =>
  (atI o_127.l at_114).bind fun i_128 =>
  ((ofD i_128 : Option (Tu Dy))).bind fun o_129 =>
  (m_numbers_told ("span" : Str) o_129 ("," : Str) ("1,1" : Str)).bind fun r_130 =>
  some r_130) else (((ofD kind_116 : Option Str)).bind fun o_132 =>
  (if (decide (o_132 = ("flow" : Str))) = true then (((ofD what_119 : Option (Tu Dy))).bind fun o_135 =>
  (atI o_135.l (0 : Int)).bind fun i_136 =>
  ((ofD i_136 : Option (Tu Dy))).bind fun o_137 =>
  (atI o_137.l at_114).bind fun i_138 =>
  ((ofD i_138 : Option Str)).bind fun o_139 =>
  (m_word_told ("float" : Str) o_139 ("left" : Str)).bind fun r_140 =>
  some r_140) else (((ofD kind_116 : Option Str)).bind fun o_142 =>
  (if ((decide (o_142 = ("over" : Str))) && (decide ((0 : Int) < at_114))) = true then (((ofD what_119 : Option (Tu Dy))).bind fun o_145 =>
  (atI o_145.l (at_114 - (1 : Int))).bind fun i_146 =>
  ((ofD i_146 : Option ((Dy × Dy × Unit) × (Dy × Dy × Unit) × Unit))).bind fun o_147 =>
  (some o_147).bind fun (across_148, down_149, _) =>
  ((ofD (upD (across_148.1, across_148.2.1, down_149.1, down_149.2.1, ())) : Option (Tu Dy))).bind fun o_150 =>
  (m_numbers_told ("at" : Str) o_150 ("," : Str) ("start,0,start,0" : Str)).bind fun r_151 =>
  some r_151) else (some ([] : List Str)))))))
noncomputable def m_setting_told (kind_152 : Str) (what_153 : Dy) : Option (List Str) :=
  (if (decide (kind_152 = ("words" : Str))) = true then (((ofD what_153 : Option (Tu Dy))).bind fun o_157 =>
  (atI o_157.l (0 : Int)).bind fun i_158 =>
  ((ofD what_153 : Option (Tu Dy))).bind fun o_159 =>
  (atI o_159.l (1 : Int)).bind fun i_160 =>
  ((ofD i_158 : Option (Tu (Tu Str)))).bind fun o_161 =>
  ((ofD i_160 : Option Int)).bind fun o_162 =>
  (m_words_told o_161 o_162).bind fun r_163 =>
  some r_163) else ((if (decide (kind_152 = ("flow" : Str))) = true then (((ofD what_153 : Option (Tu Dy))).bind fun o_167 =>
  (atI o_167.l (1 : Int)).bind fun i_168 =>
  ((ofD what_153 : Option (Tu Dy))).bind fun o_169 =>
  (atI o_169.l (2 : Int)).bind fun i_170 =>
  ((ofD i_168 : Option (Tu (Tu Str)))).bind fun o_171 =>
  ((ofD i_170 : Option Int)).bind fun o_172 =>
  (m_words_told o_171 o_172).bind fun r_173 =>
  some r_173) else (some ([] : List Str)))))
noncomputable def m_rows_told_L1 (rec_rows_told : (Dy → Int → (List Str) → Option (List Str))) (tree_174 : Dy) (deep_175 : Int) : (Int × Dy × Unit) → ((List Str)) → Option ((List Str)) := fun (at_209, part_210, _) rows_208 =>
  (m_part_told tree_174 at_209).bind fun r_216 =>
  (rec_rows_told part_210 (deep_175 + (1 : Int)) r_216).bind fun r_217 =>
  (catO rows_208 r_217).bind fun rows_218 =>
  some rows_218
noncomputable def m_rows_told_step (rec_rows_told : (Dy → Int → (List Str) → Option (List Str))) (tree_174 : Dy) (deep_175 : Int) (extra_176 : (List Str)) : Option (List Str) :=
  ((ofD tree_174 : Option (Dy × Dy × Dy × Dy × Dy × Unit))).bind fun o_177 =>
  (some o_177).bind fun (kind_178, name_179, own_180, what_181, parts_182, _) =>
  ((ofD kind_178 : Option Str)).bind fun o_183 =>
  (m_setting_told o_183 what_181).bind fun r_184 =>
  (some r_184).bind fun setting_185 =>
  (lcM (fun word_186 => (some (Txt.startswith word_186 ("text=" : Str)))) (fun word_186 => (some word_186)) setting_185).bind fun zs_187 =>
  (some zs_187).bind fun texts_188 =>
  ((ofD kind_178 : Option Str)).bind fun o_189 =>
  ((ofD name_179 : Option Str)).bind fun o_190 =>
  (m_own_told own_180).bind fun r_191 =>
  (catO ([o_189, o_190] : List Str) r_191).bind fun cat_192 =>
  ((ofD kind_178 : Option Str)).bind fun o_193 =>
  (m_what_told o_193 what_181).bind fun r_194 =>
  (catO cat_192 r_194).bind fun cat_195 =>
  (some cat_195).bind fun words_196 =>
  (lcM (fun word_197 => (some (!(decide (word_197 ∈ texts_188))))) (fun word_197 => (some word_197)) setting_185).bind fun zs_198 =>
  (catO words_196 zs_198).bind fun cat_199 =>
  (catO cat_199 extra_176).bind fun cat_200 =>
  (catO cat_200 texts_188).bind fun cat_201 =>
  (some cat_201).bind fun words_202 =>
  (mulS ("  " : Str) deep_175).bind fun t_203 =>
  (joinO (" " : Str) words_202).bind fun j_204 =>
  (addS t_203 j_204).bind fun t_205 =>
  (some ([t_205] : List Str)).bind fun rows_206 =>
  ((ofD parts_182 : Option (Tu Dy))).bind fun o_207 =>
  (forS (m_rows_told_L1 rec_rows_told tree_174 deep_175) (enumI o_207.l) rows_206).bind fun rows_219 =>
  some rows_219
noncomputable def m_rows_told : Nat → Dy → Int → (List Str) → Option (List Str)
  | 0 => fun _ _ _ => none
  | n_ + 1 => m_rows_told_step (m_rows_told n_)
noncomputable def m_tree_text (tree_221 : Dy) : Option Str :=
  (m_rows_told 9 tree_221 (0 : Int) ([] : List Str)).bind fun r_222 =>
  (joinO ("\n" : Str) r_222).bind fun j_223 =>
  some j_223
noncomputable def m__law_stream_L1 : Int → (Int) → Option (Int) := fun cell_227 seed_226 =>
  (some (((seed_226 * (1000003 : Int)) + cell_227) % (2305843009213693951 : Int))).bind fun seed_233 =>
  some seed_233
noncomputable def m__law_stream (script_224 : (Fz Int)) : Option (List Int) :=
  (some (7 : Int)).bind fun seed_225 =>
  (forS (m__law_stream_L1) (cut script_224.l none (some (63 : Int))) seed_225).bind fun seed_234 =>
  (some (0 : Int)).bind fun digits_236 =>
  ((if (decide ((1 : Int) < (script_224.l.length : Int))) = true then ((atI script_224.l (0 : Int)).bind fun i_238 => some (decide ((i_238 % (2 : Int)) = (0 : Int)))) else some false)).bind fun b_239 =>
  ((if b_239 = true then ((atI script_224.l (1 : Int)).bind fun i_241 =>
  (some (i_241.natAbs : Int)).bind fun digits_242 =>
  some digits_242) else (some digits_236))).bind fun digits_243 =>
  some ([digits_243, seed_234] : List Int)
noncomputable def m__law_take (stream_here_245 : (List Int)) (many_246 : Int) : Option (Int × (List Int)) :=
  (atI stream_here_245 (0 : Int)).bind fun i_248 =>
  (if (decide ((0 : Int) < i_248)) = true then ((atI stream_here_245 (0 : Int)).bind fun i_251 =>
  (modO i_251 many_246).bind fun r_252 =>
  (some r_252).bind fun digit_253 =>
  (atI stream_here_245 (0 : Int)).bind fun i_254 =>
  (divO i_254 many_246).bind fun q_255 =>
  (setI stream_here_245 (0 : Int) q_255).bind fun stream_here_256 =>
  some (digit_253, stream_here_256)) else ((atI stream_here_245 (1 : Int)).bind fun i_257 =>
  (setI stream_here_245 (1 : Int) (((i_257 * (48271 : Int)) + (1013904223 : Int)) % (2305843009213693951 : Int))).bind fun stream_here_258 =>
  (atI stream_here_258 (1 : Int)).bind fun i_259 =>
  (atI stream_here_258 (1 : Int)).bind fun i_260 =>
  (modO (((i_259 * (69621 : Int)) % (2147483629 : Int)) + (i_260 / (2147483647 : Int))) many_246).bind fun r_261 =>
  some (r_261, stream_here_258)))
noncomputable def m__law_names_L2 (letters_264 : Str) : Int → (Str × (List Int)) → Option (Str × (List Int)) := fun j_281 (name_279, stream_here_280) =>
  (m__law_take stream_here_280 (26 : Int)).bind fun (r_287, stream_here_288) =>
  (ixS letters_264 r_287).bind fun i_289 =>
  (addS name_279 i_289).bind fun t_290 =>
  (some t_290).bind fun name_291 =>
  some (name_291, stream_here_288)
noncomputable def m__law_names_L3_c (letters_264 : Str) (names_here_267 : (List Str)) : (Str × Int) → Option Bool := fun (name_296, turn_297) =>
  (some ((decide (name_296 ∈ names_here_267)) || (decide (name_296 = ("" : Str)))))
noncomputable def m__law_names_L3 (letters_264 : Str) (names_here_267 : (List Str)) : (Str × Int) → Option (Str × Int) := fun (name_296, turn_297) =>
  (lenS name_296).bind fun n_303 =>
  (ixS letters_264 (((turn_297 / (26 : Int)) + n_303) % (26 : Int))).bind fun i_304 =>
  (some i_304).bind fun other_305 =>
  (ixS letters_264 (turn_297 % (26 : Int))).bind fun i_306 =>
  (addS i_306 other_305).bind fun t_307 =>
  (cutSO name_296 none (some (4 : Int))).bind fun cs_308 =>
  (addS t_307 cs_308).bind fun t_309 =>
  (some t_309).bind fun name_310 =>
  (some (turn_297 + (7 : Int))).bind fun turn_311 =>
  some (name_310, turn_311)
noncomputable def m__law_names_L1 (letters_264 : Str) : Int → ((List Str) × (List Int)) → Option ((List Str) × (List Int)) := fun k_269 (names_here_267, stream_here_268) =>
  (some ("" : Str)).bind fun name_275 =>
  (m__law_take stream_here_268 (8 : Int)).bind fun (r_276, stream_here_277) =>
  (rngO 0 r_276).bind fun rg_278 =>
  (forS (m__law_names_L2 letters_264) rg_278 (name_275, stream_here_277)).bind fun (name_292, stream_here_293) =>
  (some k_269).bind fun turn_295 =>
  (whileF (m__law_names_L3_c letters_264 names_here_267) (m__law_names_L3 letters_264 names_here_267) (name_292, turn_295)).bind fun (name_312, turn_313) =>
  (appO names_here_267 name_312).bind fun names_here_315 =>
  some (names_here_315, stream_here_293)
noncomputable def m__law_names (stream_here_262 : (List Int)) (many_263 : Int) : Option ((List Str) × (List Int)) :=
  (some ("abcdefghijklmnopqrstuvwxyz" : Str)).bind fun letters_264 =>
  (some ([] : List Str)).bind fun names_here_265 =>
  (rngO 0 many_263).bind fun rg_266 =>
  (forS (m__law_names_L1 letters_264) rg_266 (names_here_265, stream_here_262)).bind fun (names_here_316, stream_here_317) =>
  some (names_here_316, stream_here_317)
noncomputable def m__law_range (stream_here_319 : (List Int)) : Option ((Int × Int × Unit) × (List Int)) :=
  (m__law_take stream_here_319 (3 : Int)).bind fun (r_321, stream_here_322) =>
  (if (decide (r_321 = (0 : Int))) = true then (some (((0 : Int), (1000000 : Int), ()), stream_here_322)) else ((m__law_take stream_here_322 (3 : Int)).bind fun (r_325, stream_here_326) =>
  (atI ([(20 : Int), (1000 : Int), ((1000000 : Int) + (1 : Int))] : List Int) r_325).bind fun i_327 =>
  (m__law_take stream_here_326 i_327).bind fun (r_328, stream_here_329) =>
  (some r_328).bind fun least_330 =>
  (m__law_take stream_here_329 (((1000000 : Int) + (1 : Int)) - least_330)).bind fun (r_331, stream_here_332) =>
  some ((least_330, (least_330 + r_331), ()), stream_here_332)))
noncomputable def m__law_words_L3 : Int → (Str × (List Int)) → Option (Str × (List Int)) := fun i_364 (piece_362, stream_here_363) =>
  (m__law_take stream_here_363 (27 : Int)).bind fun (r_370, stream_here_371) =>
  (ixS ("abkxyzAZ019-=,.:;'^_~!#text" : Str) r_370).bind fun i_372 =>
  (addS piece_362 i_372).bind fun t_373 =>
  (some t_373).bind fun piece_374 =>
  some (piece_374, stream_here_371)
noncomputable def m__law_words_L2 : Int → ((List Str) × (List Int)) → Option ((List Str) × (List Int)) := fun j_352 (word_350, stream_here_351) =>
  (some ("" : Str)).bind fun piece_358 =>
  (m__law_take stream_here_351 (4 : Int)).bind fun (r_359, stream_here_360) =>
  (rngO 0 ((1 : Int) + r_359)).bind fun rg_361 =>
  (forS (m__law_words_L3) rg_361 (piece_358, stream_here_360)).bind fun (piece_375, stream_here_376) =>
  (appO word_350 piece_375).bind fun word_378 =>
  some (word_378, stream_here_376)
noncomputable def m__law_words_L1 : Int → ((List (Tu Str)) × (List Int)) → Option ((List (Tu Str)) × (List Int)) := fun k_340 (words_here_338, stream_here_339) =>
  (some ([] : List Str)).bind fun word_346 =>
  (m__law_take stream_here_339 (3 : Int)).bind fun (r_347, stream_here_348) =>
  (rngO 0 ((1 : Int) + r_347)).bind fun rg_349 =>
  (forS (m__law_words_L2) rg_349 (word_346, stream_here_348)).bind fun (word_379, stream_here_380) =>
  (appO words_here_338 (Tu.mk word_379)).bind fun words_here_382 =>
  some (words_here_382, stream_here_380)
noncomputable def m__law_words (stream_here_333 : (List Int)) : Option ((Tu (Tu Str)) × (List Int)) :=
  (some ([] : List (Tu Str))).bind fun words_here_334 =>
  (m__law_take stream_here_333 (4 : Int)).bind fun (r_335, stream_here_336) =>
  (rngO 0 r_335).bind fun rg_337 =>
  (forS (m__law_words_L1) rg_337 (words_here_334, stream_here_336)).bind fun (words_here_383, stream_here_384) =>
  some ((Tu.mk words_here_383), stream_here_384)
noncomputable def m__law_anchor (stream_here_386 : (List Int)) : Option ((Str × Int × Unit) × (List Int)) :=
  (m__law_take stream_here_386 (7 : Int)).bind fun (r_387, stream_here_388) =>
  (some (r_387 - (3 : Int))).bind fun by_389 =>
  (m__law_take stream_here_388 (4 : Int)).bind fun (r_391, stream_here_392) =>
  ((if (decide (r_391 = (0 : Int))) = true then ((m__law_take stream_here_392 (((2 : Int) * (1000000 : Int)) + (1 : Int))).bind fun (r_394, stream_here_395) =>
  (some (r_394 - (1000000 : Int))).bind fun by_396 =>
  some (by_396, stream_here_395)) else (some (by_389, stream_here_392)))).bind fun (by_397, stream_here_398) =>
  (m__law_take stream_here_398 (4 : Int)).bind fun (r_400, stream_here_401) =>
  (atI ([("start" : Str), ("mid" : Str), ("mid2" : Str), ("end" : Str)] : List Str) r_400).bind fun i_402 =>
  some ((i_402, by_397, ()), stream_here_401)
noncomputable def m__law_what (stream_here_403 : (List Int)) (kind_404 : Str) (many_405 : Int) : Option (Dy × (List Int)) :=
  (m__law_take stream_here_403 (2 : Int)).bind fun (r_406, stream_here_407) =>
  (atI ([("left" : Str), ("right" : Str)] : List Str) r_406).bind fun i_408 =>
  (some i_408).bind fun side_409 =>
  (if (decide (kind_404 = ("leaf" : Str))) = true then ((m__law_take stream_here_407 (60 : Int)).bind fun (r_413, stream_here_414) =>
  (m__law_take stream_here_414 ((1000000 : Int) + (1 : Int))).bind fun (r_415, stream_here_416) =>
  some ((upD (r_413, r_415, ())), stream_here_416)) else ((if (decide (kind_404 ∈ (Tu.mk [("row" : Str), ("column" : Str), ("wrap" : Str)]).l)) = true then ((m__law_take stream_here_407 (4 : Int)).bind fun (r_420, stream_here_421) =>
  (m__law_take stream_here_421 (4 : Int)).bind fun (r_422, stream_here_423) =>
  (atI ([("start" : Str), ("end" : Str), ("mid" : Str), ("mid2" : Str)] : List Str) r_422).bind fun i_424 =>
  some ((upD (r_420, i_424, side_409, ())), stream_here_423)) else ((if (decide (kind_404 = ("table" : Str))) = true then ((m__law_take stream_here_407 (12 : Int)).bind fun (r_428, stream_here_429) =>
  (some ((1 : Int) + r_428)).bind fun columns_430 =>
  (rngO 0 many_405).bind fun rg_431 =>
  (lcS (fun k_432 st_434 => ((m__law_take st_434 columns_430).bind fun (r_436, stream_here_437) => (m__law_take stream_here_437 (12 : Int)).bind fun (r_438, stream_here_439) => some ((((1 : Int) + r_436), ((1 : Int) + r_438), ()), stream_here_439))) rg_431 stream_here_429).bind fun (zs_433, stream_here_440) =>
  (some zs_433).bind fun spans_441 =>
  (m__law_take stream_here_440 (1001 : Int)).bind fun (r_442, stream_here_443) =>
  some ((upD (columns_430, r_442, side_409, (Tu.mk spans_441), ())), stream_here_443)) else ((m__law_take stream_here_407 (999 : Int)).bind fun (r_444, stream_here_445) =>
  (m__law_take stream_here_445 (3 : Int)).bind fun (r_446, stream_here_447) =>
  (atI ([(50 : Int), (0 : Int), ((1 : Int) + r_444)] : List Int) r_446).bind fun i_448 =>
  (some i_448).bind fun joint_449 =>
  (if (decide (kind_404 = ("words" : Str))) = true then ((m__law_words stream_here_447).bind fun (r_453, stream_here_454) =>
  some ((upD (r_453, joint_449, ())), stream_here_454)) else ((if (decide (kind_404 = ("flow" : Str))) = true then ((rngO 0 many_405).bind fun rg_458 =>
  (lcS (fun k_459 st_461 => ((m__law_take st_461 (2 : Int)).bind fun (r_463, stream_here_464) => (atI ([("left" : Str), ("right" : Str)] : List Str) r_463).bind fun i_465 => some (i_465, stream_here_464))) rg_458 stream_here_447).bind fun (zs_460, stream_here_466) =>
  (some zs_460).bind fun sides_467 =>
  (m__law_words stream_here_466).bind fun (r_468, stream_here_469) =>
  some ((upD ((Tu.mk sides_467), r_468, joint_449, ())), stream_here_469)) else ((rngO 0 (many_405 - (1 : Int))).bind fun rg_470 =>
  (lcS (fun k_471 st_473 => ((m__law_anchor st_473).bind fun (r_475, stream_here_476) => (m__law_anchor stream_here_476).bind fun (r_477, stream_here_478) => some ((r_475, r_477, ()), stream_here_478))) rg_470 stream_here_447).bind fun (zs_472, stream_here_479) =>
  some ((upD (Tu.mk zs_472)), stream_here_479)))))))))))
noncomputable def m__law_box_L1 (rec__law_box : ((List Int) → (List Str) → Int → Bool → Option (Dy × (List Int) × (List Str)))) (deep_482 : Int) (tabled_483 : Bool) (kind_500 : Str) : Int → ((List Dy) × (List Int) × (List Str)) → Option ((List Dy) × (List Int) × (List Str)) := fun k_513 (parts_510, stream_here_511, names_here_512) =>
  (neO names_here_512 ([] : List Str)).bind fun e_520 =>
  (if e_520 = true then ((rec__law_box stream_here_511 names_here_512 (deep_482 + (1 : Int)) (tabled_483 || (decide (kind_500 = ("table" : Str))))).bind fun (r_523, stream_here_524, names_here_525) =>
  (appO parts_510 r_523).bind fun parts_526 =>
  some (parts_526, stream_here_524, names_here_525)) else (some (parts_510, stream_here_511, names_here_512)))
noncomputable def m__law_box_step (rec__law_box : ((List Int) → (List Str) → Int → Bool → Option (Dy × (List Int) × (List Str)))) (stream_here_480 : (List Int)) (names_here_481 : (List Str)) (deep_482 : Int) (tabled_483 : Bool) : Option (Dy × (List Int) × (List Str)) :=
  (popO names_here_481).bind fun (pp_484, names_here_485) =>
  (some pp_484).bind fun name_486 =>
  (m__law_take stream_here_480 (8 : Int)).bind fun (r_487, stream_here_488) =>
  (atI ([("leaf" : Str), ("row" : Str), ("column" : Str), ("wrap" : Str), ("table" : Str), ("words" : Str), ("flow" : Str), ("over" : Str)] : List Str) r_487).bind fun i_489 =>
  (some i_489).bind fun kind_490 =>
  (m__law_take stream_here_488 (5 : Int)).bind fun (r_491, stream_here_492) =>
  (some (min r_491 (names_here_485.length : Int))).bind fun many_493 =>
  ((if ((decide ((7 : Int) < deep_482)) || ((decide (many_493 = (0 : Int))) && (decide (kind_490 = ("over" : Str))))) = true then ((m__law_take stream_here_492 (2 : Int)).bind fun (r_496, stream_here_497) =>
  (atI ([("leaf" : Str), ("words" : Str)] : List Str) r_496).bind fun i_498 =>
  (some i_498).bind fun kind_499 =>
  some (kind_499, stream_here_497)) else (some (kind_490, stream_here_492)))).bind fun (kind_500, stream_here_501) =>
  ((if (decide (kind_500 ∈ (Tu.mk [("leaf" : Str), ("words" : Str)]).l)) = true then ((some (0 : Int)).bind fun many_505 =>
  some many_505) else (some many_493))).bind fun many_506 =>
  (some ([] : List Dy)).bind fun parts_508 =>
  (rngO 0 many_506).bind fun rg_509 =>
  (forS (m__law_box_L1 rec__law_box deep_482 tabled_483 kind_500) rg_509 (parts_508, stream_here_501, names_here_485)).bind fun (parts_527, stream_here_528, names_here_529) =>
  (some (0 : Int)).bind fun alike_531 =>
  ((if ((decide (kind_500 ∈ (Tu.mk [("leaf" : Str), ("row" : Str), ("column" : Str), ("wrap" : Str)]).l)) && (!tabled_483)) = true then ((m__law_take stream_here_528 (8 : Int)).bind fun (r_534, stream_here_535) =>
  (m__law_take stream_here_535 (4 : Int)).bind fun (r_536, stream_here_537) =>
  (atI ([(0 : Int), (0 : Int), (1 : Int), ((2 : Int) + r_534)] : List Int) r_536).bind fun i_538 =>
  (some i_538).bind fun alike_539 =>
  some (alike_539, stream_here_537)) else (some (alike_531, stream_here_528)))).bind fun (alike_540, stream_here_541) =>
  (m__law_take stream_here_541 (100 : Int)).bind fun (r_543, stream_here_544) =>
  (m__law_take stream_here_544 (100 : Int)).bind fun (r_545, stream_here_546) =>
  (m__law_take stream_here_546 (3 : Int)).bind fun (r_547, stream_here_548) =>
  (atI ([((1 : Int), (1 : Int), ()), ((0 : Int), (1 : Int), ()), (r_543, r_545, ())] : List (Int × Int × Unit)) r_547).bind fun i_549 =>
  (some i_549).bind fun shares_550 =>
  (m__law_take stream_here_548 (10 : Int)).bind fun (r_551, stream_here_552) =>
  (m__law_take stream_here_552 (2 : Int)).bind fun (r_553, stream_here_554) =>
  (mulO r_551 r_553).bind fun m_555 =>
  (some m_555).bind fun rank_556 =>
  (m__law_range stream_here_554).bind fun (r_557, stream_here_558) =>
  (m__law_range stream_here_558).bind fun (r_559, stream_here_560) =>
  (some (r_557, r_559, shares_550.1, shares_550.2.1, rank_556, alike_540, ())).bind fun own_561 =>
  (m__law_what stream_here_560 kind_500 (parts_527.length : Int)).bind fun (r_562, stream_here_563) =>
  some ((upD (kind_500, name_486, own_561, r_562, (Tu.mk parts_527), ())), stream_here_563, names_here_529)
noncomputable def m__law_box : Nat → (List Int) → (List Str) → Int → Bool → Option (Dy × (List Int) × (List Str))
  | 0 => fun _ _ _ _ => none
  | n_ + 1 => m__law_box_step (m__law_box n_)
noncomputable def m__law_own_words_L1 : (Str × Dy × Unit) → ((List Str)) → Option ((List Str)) := fun (key_571, pair_572, _) words_here_570 =>
  (eqYO pair_572 (upD ((0 : Int), (1000000 : Int), ()))).bind fun e_579 =>
  (if (!e_579) = true then ((addS key_571 ("=" : Str)).bind fun t_582 =>
  ((ofD pair_572 : Option (Tu Dy))).bind fun o_583 =>
  (atI o_583.l (0 : Int)).bind fun i_584 =>
  (strDO i_584).bind fun sn_585 =>
  (addS t_582 sn_585).bind fun t_586 =>
  (addS t_586 (".." : Str)).bind fun t_587 =>
  ((ofD pair_572 : Option (Tu Dy))).bind fun o_588 =>
  (atI o_588.l (1 : Int)).bind fun i_589 =>
  (strDO i_589).bind fun sn_590 =>
  (addS t_587 sn_590).bind fun t_591 =>
  (appO words_here_570 t_591).bind fun words_here_592 =>
  some words_here_592) else (some words_here_570))
noncomputable def m__law_own_words_L2 : (Str × Dy × Int × Unit) → ((List Str)) → Option ((List Str)) := fun (key_604, number_605, plain_606, _) words_here_603 =>
  ((ofD number_605 : Option Int)).bind fun o_613 =>
  (if (!decide (o_613 = plain_606)) = true then ((addS key_604 ("=" : Str)).bind fun t_616 =>
  (strDO number_605).bind fun sn_617 =>
  (addS t_616 sn_617).bind fun t_618 =>
  (appO words_here_603 t_618).bind fun words_here_619 =>
  some words_here_619) else (some words_here_603))
noncomputable def m__law_own_words (own_564 : Dy) : Option (List Str) :=
  (some ([] : List Str)).bind fun words_here_565 =>
  ((ofD own_564 : Option (Tu Dy))).bind fun o_566 =>
  (atI o_566.l (0 : Int)).bind fun i_567 =>
  ((ofD own_564 : Option (Tu Dy))).bind fun o_568 =>
  (atI o_568.l (1 : Int)).bind fun i_569 =>
  (forS (m__law_own_words_L1) ([(("wide" : Str), i_567, ()), (("high" : Str), i_569, ())] : List (Str × Dy × Unit)) words_here_565).bind fun words_here_593 =>
  ((ofD own_564 : Option (Tu Dy))).bind fun o_595 =>
  (atI o_595.l (2 : Int)).bind fun i_596 =>
  ((ofD own_564 : Option (Tu Dy))).bind fun o_597 =>
  (atI o_597.l (3 : Int)).bind fun i_598 =>
  ((ofD own_564 : Option (Tu Dy))).bind fun o_599 =>
  (atI o_599.l (4 : Int)).bind fun i_600 =>
  ((ofD own_564 : Option (Tu Dy))).bind fun o_601 =>
  (atI o_601.l (5 : Int)).bind fun i_602 =>
  (forS (m__law_own_words_L2) ([(("grow" : Str), i_596, (0 : Int), ()), (("shrink" : Str), i_598, (1 : Int), ()), (("rank" : Str), i_600, (0 : Int), ()), (("alike" : Str), i_602, (0 : Int), ())] : List (Str × Dy × Int × Unit)) words_here_593).bind fun words_here_620 =>
  some words_here_620
noncomputable def m__law_what_words (kind_622 : Str) (what_here_623 : Dy) : Option (List Str) :=
  (some ([] : List Str)).bind fun words_here_624 =>
  ((if (decide (kind_622 = ("leaf" : Str))) = true then ((eqYO what_here_623 (upD ((0 : Int), (0 : Int), ()))).bind fun e_626 => some (!e_626)) else some false)).bind fun b_627 =>
  ((if b_627 = true then (((ofD what_here_623 : Option (Tu Dy))).bind fun o_629 =>
  (atI o_629.l (0 : Int)).bind fun i_630 =>
  (strDO i_630).bind fun sn_631 =>
  (addS ("wish=" : Str) sn_631).bind fun t_632 =>
  (addS t_632 ("," : Str)).bind fun t_633 =>
  ((ofD what_here_623 : Option (Tu Dy))).bind fun o_634 =>
  (atI o_634.l (1 : Int)).bind fun i_635 =>
  (strDO i_635).bind fun sn_636 =>
  (addS t_633 sn_636).bind fun t_637 =>
  (appO words_here_624 t_637).bind fun words_here_638 =>
  some words_here_638) else (some words_here_624))).bind fun words_here_639 =>
  ((if (decide (kind_622 = ("table" : Str))) = true then (((ofD what_here_623 : Option (Tu Dy))).bind fun o_644 =>
  (atI o_644.l (0 : Int)).bind fun i_645 =>
  ((ofD i_645 : Option Int)).bind fun o_646 =>
  ((if (!decide (o_646 = (1 : Int))) = true then (((ofD what_here_623 : Option (Tu Dy))).bind fun o_648 =>
  (atI o_648.l (0 : Int)).bind fun i_649 =>
  (strDO i_649).bind fun sn_650 =>
  (addS ("columns=" : Str) sn_650).bind fun t_651 =>
  (appO words_here_639 t_651).bind fun words_here_652 =>
  some words_here_652) else (some words_here_639))).bind fun words_here_653 =>
  ((ofD what_here_623 : Option (Tu Dy))).bind fun o_655 =>
  (atI o_655.l (1 : Int)).bind fun i_656 =>
  ((ofD what_here_623 : Option (Tu Dy))).bind fun o_657 =>
  (atI o_657.l (2 : Int)).bind fun i_658 =>
  (some (upD (i_656, ("start" : Str), i_658, ()))).bind fun what_here_659 =>
  some (what_here_659, words_here_653)) else (some (what_here_623, words_here_639)))).bind fun (what_here_660, words_here_661) =>
  ((if (decide (kind_622 ∈ (Tu.mk [("row" : Str), ("column" : Str), ("wrap" : Str), ("table" : Str)]).l)) = true then (((ofD what_here_660 : Option (Tu Dy))).bind fun o_666 =>
  (atI o_666.l (0 : Int)).bind fun i_667 =>
  ((ofD i_667 : Option Int)).bind fun o_668 =>
  ((if (!decide (o_668 = (0 : Int))) = true then (((ofD what_here_660 : Option (Tu Dy))).bind fun o_670 =>
  (atI o_670.l (0 : Int)).bind fun i_671 =>
  (strDO i_671).bind fun sn_672 =>
  (addS ("gap=" : Str) sn_672).bind fun t_673 =>
  (appO words_here_661 t_673).bind fun words_here_674 =>
  some words_here_674) else (some words_here_661))).bind fun words_here_675 =>
  ((ofD what_here_660 : Option (Tu Dy))).bind fun o_678 =>
  (atI o_678.l (1 : Int)).bind fun i_679 =>
  ((ofD i_679 : Option Str)).bind fun o_680 =>
  ((if (!decide (o_680 = ("start" : Str))) = true then (((ofD what_here_660 : Option (Tu Dy))).bind fun o_682 =>
  (atI o_682.l (1 : Int)).bind fun i_683 =>
  ((ofD i_683 : Option Str)).bind fun o_684 =>
  (addS ("align=" : Str) o_684).bind fun t_685 =>
  (appO words_here_675 t_685).bind fun words_here_686 =>
  some words_here_686) else (some words_here_675))).bind fun words_here_687 =>
  ((ofD what_here_660 : Option (Tu Dy))).bind fun o_690 =>
  (atI o_690.l (2 : Int)).bind fun i_691 =>
  ((ofD i_691 : Option Str)).bind fun o_692 =>
  (if (!decide (o_692 = ("left" : Str))) = true then (((ofD what_here_660 : Option (Tu Dy))).bind fun o_695 =>
  (atI o_695.l (2 : Int)).bind fun i_696 =>
  ((ofD i_696 : Option Str)).bind fun o_697 =>
  (addS ("side=" : Str) o_697).bind fun t_698 =>
  (appO words_here_687 t_698).bind fun words_here_699 =>
  some words_here_699) else (some words_here_687))) else (some words_here_661))).bind fun words_here_700 =>
  ((if (decide (kind_622 ∈ (Tu.mk [("words" : Str), ("flow" : Str)]).l)) = true then (((ofD what_here_660 : Option (Tu Dy))).bind fun o_703 => ((ofD what_here_660 : Option (Tu Dy))).bind fun o_704 => (atI o_703.l ((o_704.l.length : Int) - (1 : Int))).bind fun i_705 => ((ofD i_705 : Option Int)).bind fun o_706 => some (!decide (o_706 = (50 : Int)))) else some false)).bind fun b_707 =>
  ((if b_707 = true then (((ofD what_here_660 : Option (Tu Dy))).bind fun o_709 =>
  ((ofD what_here_660 : Option (Tu Dy))).bind fun o_710 =>
  (atI o_709.l ((o_710.l.length : Int) - (1 : Int))).bind fun i_711 =>
  (strDO i_711).bind fun sn_712 =>
  (addS ("joint=" : Str) sn_712).bind fun t_713 =>
  (appO words_here_700 t_713).bind fun words_here_714 =>
  some words_here_714) else (some words_here_700))).bind fun words_here_715 =>
  some words_here_715
noncomputable def m__law_part_words (kind_717 : Str) (what_here_718 : Dy) (at_719 : Int) : Option (List Str) :=
  ((if (decide (kind_717 = ("table" : Str))) = true then (((ofD what_here_718 : Option (Tu Dy))).bind fun o_721 => (atI o_721.l (3 : Int)).bind fun i_722 => ((ofD i_722 : Option (Tu Dy))).bind fun o_723 => (atI o_723.l at_719).bind fun i_724 => (eqYO i_724 (upD ((1 : Int), (1 : Int), ()))).bind fun e_725 => some (!e_725)) else some false)).bind fun b_726 =>
  (if b_726 = true then (((ofD what_here_718 : Option (Tu Dy))).bind fun o_729 =>
  (atI o_729.l (3 : Int)).bind fun i_730 =>
  ((ofD i_730 : Option (Tu Dy))).bind fun o_731 =>
  (atI o_731.l at_719).bind fun i_732 =>
  ((ofD i_732 : Option (Tu Dy))).bind fun o_733 =>
  (atI o_733.l (0 : Int)).bind fun i_734 =>
  (strDO i_734).bind fun sn_735 =>
  (addS ("span=" : Str) sn_735).bind fun t_736 =>
  (addS t_736 ("," : Str)).bind fun t_737 =>
  ((ofD what_here_718 : Option (Tu Dy))).bind fun o_738 =>
  (atI o_738.l (3 : Int)).bind fun i_739 =>
  ((ofD i_739 : Option (Tu Dy))).bind fun o_740 =>
  (atI o_740.l at_719).bind fun i_741 =>
  ((ofD i_741 : Option (Tu Dy))).bind fun o_742 =>
  (atI o_742.l (1 : Int)).bind fun i_743 =>
  (strDO i_743).bind fun sn_744 =>
  (addS t_737 sn_744).bind fun t_745 =>
  some ([t_745] : List Str)) else (((if (decide (kind_717 = ("flow" : Str))) = true then (((ofD what_here_718 : Option (Tu Dy))).bind fun o_747 => (atI o_747.l (0 : Int)).bind fun i_748 => ((ofD i_748 : Option (Tu Dy))).bind fun o_749 => (atI o_749.l at_719).bind fun i_750 => ((ofD i_750 : Option Str)).bind fun o_751 => some (!decide (o_751 = ("left" : Str)))) else some false)).bind fun b_752 =>
  (if b_752 = true then (some ([("float=right" : Str)] : List Str)) else (((if (decide (kind_717 = ("over" : Str))) = true then (((if (decide ((0 : Int) < at_719)) = true then (((ofD what_here_718 : Option (Tu Dy))).bind fun o_756 => (atI o_756.l (at_719 - (1 : Int))).bind fun i_757 => (eqYO i_757 (upD ((("start" : Str), (0 : Int), ()), (("start" : Str), (0 : Int), ()), ()))).bind fun e_758 => some (!e_758)) else some false)).bind fun b_759 => some b_759) else some false)).bind fun b_760 =>
  (if b_760 = true then (((ofD what_here_718 : Option (Tu Dy))).bind fun o_763 =>
  (atI o_763.l (at_719 - (1 : Int))).bind fun i_764 =>
  ((ofD i_764 : Option (Dy × Dy × Unit))).bind fun o_765 =>
  (some o_765).bind fun (one_766, other_767, _) =>
  ((ofD one_766 : Option (Tu Dy))).bind fun o_768 =>
  (atI o_768.l (0 : Int)).bind fun i_769 =>
  ((ofD i_769 : Option Str)).bind fun o_770 =>
  (addS ("at=" : Str) o_770).bind fun t_771 =>
  (addS t_771 ("," : Str)).bind fun t_772 =>
  ((ofD one_766 : Option (Tu Dy))).bind fun o_773 =>
  (atI o_773.l (1 : Int)).bind fun i_774 =>
  (strDO i_774).bind fun sn_775 =>
  (addS t_772 sn_775).bind fun t_776 =>
  (addS t_776 ("," : Str)).bind fun t_777 =>
  ((ofD other_767 : Option (Tu Dy))).bind fun o_778 =>
  (atI o_778.l (0 : Int)).bind fun i_779 =>
  ((ofD i_779 : Option Str)).bind fun o_780 =>
  (addS t_777 o_780).bind fun t_781 =>
  (addS t_781 ("," : Str)).bind fun t_782 =>
  ((ofD other_767 : Option (Tu Dy))).bind fun o_783 =>
  (atI o_783.l (1 : Int)).bind fun i_784 =>
  (strDO i_784).bind fun sn_785 =>
  (addS t_782 sn_785).bind fun t_786 =>
  some ([t_786] : List Str)) else (some ([] : List Str)))))))
noncomputable def m__law_text_words (kind_787 : Str) (what_here_788 : Dy) : Option (List Str) :=
  ((if (decide (kind_787 = ("words" : Str))) = true then (((ofD what_here_788 : Option (Tu Dy))).bind fun o_790 => (atI o_790.l (0 : Int)).bind fun i_791 => (eqYO i_791 (upD (Tu.mk ([] : List Int)))).bind fun e_792 => some (!e_792)) else some false)).bind fun b_793 =>
  (if b_793 = true then (((ofD what_here_788 : Option (Tu Dy))).bind fun o_796 =>
  (atI o_796.l (0 : Int)).bind fun i_797 =>
  ((ofD i_797 : Option (Tu Dy))).bind fun o_798 =>
  (lcM (fun _ => some true) (fun word_799 => (((ofD word_799 : Option (Tu Str))).bind fun o_801 => (joinO ("|" : Str) o_801.l).bind fun j_802 => some j_802)) o_798.l).bind fun zs_800 =>
  (joinO (" " : Str) zs_800).bind fun j_803 =>
  (addS ("text=" : Str) j_803).bind fun t_804 =>
  some ([t_804] : List Str)) else (((if (decide (kind_787 = ("flow" : Str))) = true then (((ofD what_here_788 : Option (Tu Dy))).bind fun o_806 => (atI o_806.l (1 : Int)).bind fun i_807 => (eqYO i_807 (upD (Tu.mk ([] : List Int)))).bind fun e_808 => some (!e_808)) else some false)).bind fun b_809 =>
  (if b_809 = true then (((ofD what_here_788 : Option (Tu Dy))).bind fun o_812 =>
  (atI o_812.l (1 : Int)).bind fun i_813 =>
  ((ofD i_813 : Option (Tu Dy))).bind fun o_814 =>
  (lcM (fun _ => some true) (fun word_815 => (((ofD word_815 : Option (Tu Str))).bind fun o_817 => (joinO ("|" : Str) o_817.l).bind fun j_818 => some j_818)) o_814.l).bind fun zs_816 =>
  (joinO (" " : Str) zs_816).bind fun j_819 =>
  (addS ("text=" : Str) j_819).bind fun t_820 =>
  some ([t_820] : List Str)) else (some ([] : List Str)))))
noncomputable def m__law_rows_L1 (rec__law_rows : (Dy → Int → (List Str) → Option (List Str))) (deep_822 : Int) (kind_825 : Dy) (what_here_828 : Dy) : (Int × Dy × Unit) → ((List Str)) → Option ((List Str)) := fun (at_848, part_849, _) rows_here_847 =>
  ((ofD kind_825 : Option Str)).bind fun o_855 =>
  (m__law_part_words o_855 what_here_828 at_848).bind fun r_856 =>
  (rec__law_rows part_849 (deep_822 + (1 : Int)) r_856).bind fun r_857 =>
  (catO rows_here_847 r_857).bind fun cat_858 =>
  (some cat_858).bind fun rows_here_859 =>
  some rows_here_859
noncomputable def m__law_rows_step (rec__law_rows : (Dy → Int → (List Str) → Option (List Str))) (box_here_821 : Dy) (deep_822 : Int) (extra_823 : (List Str)) : Option (List Str) :=
  ((ofD box_here_821 : Option (Dy × Dy × Dy × Dy × Dy × Unit))).bind fun o_824 =>
  (some o_824).bind fun (kind_825, name_826, own_827, what_here_828, parts_829, _) =>
  ((ofD kind_825 : Option Str)).bind fun o_830 =>
  ((ofD name_826 : Option Str)).bind fun o_831 =>
  (m__law_own_words own_827).bind fun r_832 =>
  (catO ([o_830, o_831] : List Str) r_832).bind fun cat_833 =>
  ((ofD kind_825 : Option Str)).bind fun o_834 =>
  (m__law_what_words o_834 what_here_828).bind fun r_835 =>
  (catO cat_833 r_835).bind fun cat_836 =>
  (catO cat_836 extra_823).bind fun cat_837 =>
  ((ofD kind_825 : Option Str)).bind fun o_838 =>
  (m__law_text_words o_838 what_here_828).bind fun r_839 =>
  (catO cat_837 r_839).bind fun cat_840 =>
  (some cat_840).bind fun words_here_841 =>
  (mulS ("  " : Str) deep_822).bind fun t_842 =>
  (joinO (" " : Str) words_here_841).bind fun j_843 =>
  (addS t_842 j_843).bind fun t_844 =>
  (some ([t_844] : List Str)).bind fun rows_here_845 =>
  ((ofD parts_829 : Option (Tu Dy))).bind fun o_846 =>
  (forS (m__law_rows_L1 rec__law_rows deep_822 kind_825 what_here_828) (enumI o_846.l) rows_here_845).bind fun rows_here_860 =>
  some rows_here_860
noncomputable def m__law_rows : Nat → Dy → Int → (List Str) → Option (List Str)
  | 0 => fun _ _ _ => none
  | n_ + 1 => m__law_rows_step (m__law_rows n_)
noncomputable def m__law_due (tree_862 : Dy) : Option Str :=
  (m__law_rows 9 tree_862 (0 : Int) ([] : List Str)).bind fun r_863 =>
  (joinO ("\n" : Str) r_863).bind fun j_864 =>
  some j_864
noncomputable def m_law (script_865 : (Fz Int)) : Option Bool :=
  (m__law_stream script_865).bind fun r_866 =>
  (some r_866).bind fun stream_here_867 =>
  (m__law_take stream_here_867 (14 : Int)).bind fun (r_868, stream_here_869) =>
  (m__law_names stream_here_869 ((1 : Int) + r_868)).bind fun (r_870, stream_here_871) =>
  (some r_870).bind fun names_here_872 =>
  (m__law_box 9 stream_here_871 names_here_872 (1 : Int) false).bind fun (r_873, stream_here_874, tmp_r_873) =>
  (some r_873).bind fun one_875 =>
  (m__law_box 9 stream_here_874 names_here_872 (1 : Int) false).bind fun (r_876, stream_here_877, tmp_r_876) =>
  (some r_876).bind fun other_878 =>
  (m_tree_text one_875).bind fun r_879 =>
  (some r_879).bind fun found_880 =>
  ((if (!true) = true then some true else ((m__law_due one_875).bind fun r_882 => some (!decide (found_880 = r_882))))).bind fun b_883 =>
  (if b_883 = true then (some false) else ((m_tree_text other_878).bind fun r_886 =>
  (m__law_due other_878).bind fun r_887 =>
  ((if (decide (r_886 = r_887)) = true then ((m_tree_text one_875).bind fun r_888 => some (decide (r_888 = found_880))) else some false)).bind fun b_889 =>
  some b_889))
end Wk08
set_option synthInstance.maxHeartbeats 4000000
set_option synthInstance.maxSize 20000
/-! the walks of k08, printed by gen.py -/
namespace Wk08
open PySem L2 Wk
def topS (i : Nat) : Stmt := PySem.Challenge.pw_boxgalley_k08_trees_as_texts.main.body.getD i (.Pass ⟨0, 0, 0, 0⟩)
abbrev s_words_told : Stmt := topS 2
abbrev s_word_told : Stmt := topS 6
abbrev s_numbers_told : Stmt := topS 7
abbrev s_own_told : Stmt := topS 8
abbrev s_what_told : Stmt := topS 9
abbrev s_part_told : Stmt := topS 10
abbrev s_setting_told : Stmt := topS 11
abbrev s_rows_told : Stmt := topS 12
abbrev s_tree_text : Stmt := topS 13
abbrev s__law_stream : Stmt := topS 15
abbrev s__law_take : Stmt := topS 16
abbrev s__law_names : Stmt := topS 17
abbrev s__law_range : Stmt := topS 18
abbrev s__law_words : Stmt := topS 19
abbrev s__law_anchor : Stmt := topS 20
abbrev s__law_what : Stmt := topS 21
abbrev s__law_box : Stmt := topS 22
abbrev s__law_own_words : Stmt := topS 23
abbrev s__law_what_words : Stmt := topS 24
abbrev s__law_part_words : Stmt := topS 25
abbrev s__law_text_words : Stmt := topS 26
abbrev s__law_rows : Stmt := topS 27
abbrev s__law_due : Stmt := topS 28
abbrev s_law : Stmt := topS 29
structure TX (K : Fg) (mg : Str → Option Value) (w : World) where
  a_words_told : Addr
  d_words_told : FuncData
  F_words_told : Fun K "words_told" "words_told" s_words_told a_words_told d_words_told
  b_words_told : Binds K d_words_told ["words", "joint"] []
  g_words_told : mg "words_told" = some (.ref a_words_told)
  a_word_told : Addr
  d_word_told : FuncData
  F_word_told : Fun K "word_told" "word_told" s_word_told a_word_told d_word_told
  b_word_told : Binds K d_word_told ["word", "value", "plain"] []
  g_word_told : mg "word_told" = some (.ref a_word_told)
  a_numbers_told : Addr
  d_numbers_told : FuncData
  F_numbers_told : Fun K "numbers_told" "numbers_told" s_numbers_told a_numbers_told d_numbers_told
  b_numbers_told : Binds K d_numbers_told ["word", "numbers", "mark", "plain"] []
  g_numbers_told : mg "numbers_told" = some (.ref a_numbers_told)
  a_own_told : Addr
  d_own_told : FuncData
  F_own_told : Fun K "own_told" "own_told" s_own_told a_own_told d_own_told
  b_own_told : Binds K d_own_told ["own"] []
  g_own_told : mg "own_told" = some (.ref a_own_told)
  a_what_told : Addr
  d_what_told : FuncData
  F_what_told : Fun K "what_told" "what_told" s_what_told a_what_told d_what_told
  b_what_told : Binds K d_what_told ["kind", "what"] []
  g_what_told : mg "what_told" = some (.ref a_what_told)
  a_part_told : Addr
  d_part_told : FuncData
  F_part_told : Fun K "part_told" "part_told" s_part_told a_part_told d_part_told
  b_part_told : Binds K d_part_told ["elder", "at"] []
  g_part_told : mg "part_told" = some (.ref a_part_told)
  a_setting_told : Addr
  d_setting_told : FuncData
  F_setting_told : Fun K "setting_told" "setting_told" s_setting_told a_setting_told d_setting_told
  b_setting_told : Binds K d_setting_told ["kind", "what"] []
  g_setting_told : mg "setting_told" = some (.ref a_setting_told)
  a_rows_told : Addr
  d_rows_told : FuncData
  F_rows_told : Fun K "rows_told" "rows_told" s_rows_told a_rows_told d_rows_told
  b_rows_told : Binds K d_rows_told ["tree", "deep", "extra"] []
  g_rows_told : mg "rows_told" = some (.ref a_rows_told)
  a_tree_text : Addr
  d_tree_text : FuncData
  F_tree_text : Fun K "tree_text" "tree_text" s_tree_text a_tree_text d_tree_text
  b_tree_text : Binds K d_tree_text ["tree"] []
  g_tree_text : mg "tree_text" = some (.ref a_tree_text)
  a__law_stream : Addr
  d__law_stream : FuncData
  F__law_stream : Fun K "_law_stream" "_law_stream" s__law_stream a__law_stream d__law_stream
  b__law_stream : Binds K d__law_stream ["_law_script"] []
  g__law_stream : mg "_law_stream" = some (.ref a__law_stream)
  a__law_take : Addr
  d__law_take : FuncData
  F__law_take : Fun K "_law_take" "_law_take" s__law_take a__law_take d__law_take
  b__law_take : Binds K d__law_take ["_law_stream_here", "_law_many"] []
  g__law_take : mg "_law_take" = some (.ref a__law_take)
  a__law_names : Addr
  d__law_names : FuncData
  F__law_names : Fun K "_law_names" "_law_names" s__law_names a__law_names d__law_names
  b__law_names : Binds K d__law_names ["_law_stream_here", "_law_many"] []
  g__law_names : mg "_law_names" = some (.ref a__law_names)
  a__law_range : Addr
  d__law_range : FuncData
  F__law_range : Fun K "_law_range" "_law_range" s__law_range a__law_range d__law_range
  b__law_range : Binds K d__law_range ["_law_stream_here"] []
  g__law_range : mg "_law_range" = some (.ref a__law_range)
  a__law_words : Addr
  d__law_words : FuncData
  F__law_words : Fun K "_law_words" "_law_words" s__law_words a__law_words d__law_words
  b__law_words : Binds K d__law_words ["_law_stream_here"] []
  g__law_words : mg "_law_words" = some (.ref a__law_words)
  a__law_anchor : Addr
  d__law_anchor : FuncData
  F__law_anchor : Fun K "_law_anchor" "_law_anchor" s__law_anchor a__law_anchor d__law_anchor
  b__law_anchor : Binds K d__law_anchor ["_law_stream_here"] []
  g__law_anchor : mg "_law_anchor" = some (.ref a__law_anchor)
  a__law_what : Addr
  d__law_what : FuncData
  F__law_what : Fun K "_law_what" "_law_what" s__law_what a__law_what d__law_what
  b__law_what : Binds K d__law_what ["_law_stream_here", "_law_kind", "_law_many"] []
  g__law_what : mg "_law_what" = some (.ref a__law_what)
  a__law_box : Addr
  d__law_box : FuncData
  F__law_box : Fun K "_law_box" "_law_box" s__law_box a__law_box d__law_box
  b__law_box : Binds K d__law_box ["_law_stream_here", "_law_names_here", "_law_deep", "_law_tabled"] []
  g__law_box : mg "_law_box" = some (.ref a__law_box)
  a__law_own_words : Addr
  d__law_own_words : FuncData
  F__law_own_words : Fun K "_law_own_words" "_law_own_words" s__law_own_words a__law_own_words d__law_own_words
  b__law_own_words : Binds K d__law_own_words ["_law_own"] []
  g__law_own_words : mg "_law_own_words" = some (.ref a__law_own_words)
  a__law_what_words : Addr
  d__law_what_words : FuncData
  F__law_what_words : Fun K "_law_what_words" "_law_what_words" s__law_what_words a__law_what_words d__law_what_words
  b__law_what_words : Binds K d__law_what_words ["_law_kind", "_law_what_here"] []
  g__law_what_words : mg "_law_what_words" = some (.ref a__law_what_words)
  a__law_part_words : Addr
  d__law_part_words : FuncData
  F__law_part_words : Fun K "_law_part_words" "_law_part_words" s__law_part_words a__law_part_words d__law_part_words
  b__law_part_words : Binds K d__law_part_words ["_law_kind", "_law_what_here", "_law_at"] []
  g__law_part_words : mg "_law_part_words" = some (.ref a__law_part_words)
  a__law_text_words : Addr
  d__law_text_words : FuncData
  F__law_text_words : Fun K "_law_text_words" "_law_text_words" s__law_text_words a__law_text_words d__law_text_words
  b__law_text_words : Binds K d__law_text_words ["_law_kind", "_law_what_here"] []
  g__law_text_words : mg "_law_text_words" = some (.ref a__law_text_words)
  a__law_rows : Addr
  d__law_rows : FuncData
  F__law_rows : Fun K "_law_rows" "_law_rows" s__law_rows a__law_rows d__law_rows
  b__law_rows : Binds K d__law_rows ["_law_box_here", "_law_deep", "_law_extra"] []
  g__law_rows : mg "_law_rows" = some (.ref a__law_rows)
  a__law_due : Addr
  d__law_due : FuncData
  F__law_due : Fun K "_law_due" "_law_due" s__law_due a__law_due d__law_due
  b__law_due : Binds K d__law_due ["_law_tree"] []
  g__law_due : mg "_law_due" = some (.ref a__law_due)
  a_law : Addr
  d_law : FuncData
  F_law : Fun K "law" "law" s_law a_law d_law
  b_law : Binds K d_law ["_law_script"] []
  g_law : mg "law" = some (.ref a_law)
  z_abs : mg "abs" = none
  z_enumerate : mg "enumerate" = none
  z_isinstance : mg "isinstance" = none
  z_len : mg "len" = none
  z_list : mg "list" = none
  z_min : mg "min" = none
  z_range : mg "range" = none
  z_str : mg "str" = none
  z_tuple : mg "tuple" = none
  ti_JOINT : Tok
  gi_JOINT : mg "JOINT" = some (.int 50 ti_JOINT)
  ti_WIDEST : Tok
  gi_WIDEST : mg "WIDEST" = some (.str "0..1000000" ti_WIDEST)
  ta_LINES : Addr
  gt_LINES : mg "LINES" = some (.ref ta_LINES)
  tt_LINES : KTup K ta_LINES ["row", "column", "wrap"]
def spLaw (K : Fg) : Sp := fun vs H Q _ => ∃ (a : Addr) (ns : List Int), vs = [.ref a] ∧ SqL K H a (ns.map V.int) ∧ ns.length ≤ 63 ∧ ∀ H', Q (.bl true) H'
theorem fn_weak {P : Program} {w : World} {K : Fg} {mg : Str → Option Value} {base : Heap} {k : Nat} {f : Addr} {fd : FuncData} {m : Fz Int → Option Bool}
    (h : FnOk P w K mg base CX0 k f fd ["_law_script"] (PF (τ := Fz Int × Unit) K fun t => m t.1)) (main : ∀ ns : List Int, ns.length ≤ 63 → m (Fz.mk ns) = some true) : FnOk P w K mg base CX0 k f fd ["_law_script"] (spLaw K) :=
  h.imp fun vs H Q E hh => by
    obtain ⟨a, ns, rfl, hs, hl, q⟩ := hh
    exact ⟨H, (Fz.mk ns, ()), true, Evl.Ex.refl _, ⟨.ref a, [], rfl, ⟨a, ns.map V.int, rfl, hs, fl_paired ns⟩, rfl⟩, main ns hl, fun u Kn' H' g r => by cases r; exact q H'⟩
section
variable {P : Program} {w : World} {K : Fg} {mg : Str → Option Value} {base : Heap}
theorem sc_words_told : FnScope ["words", "joint", "told", "word"] ["words", "joint"] (defScope s_words_told) := ⟨rfl, rfl, rfl, by decide +kernel, rfl, by decide +kernel, by decide +kernel⟩
set_option maxHeartbeats 4000000 in
theorem ok_words_told (T : TX K mg w) : FnOk P w K mg base CX0 1 T.a_words_told T.d_words_told ["words", "joint"] (PL (τ := (Tu (Tu Str)) × Int × Unit) K (fun t => m_words_told t.1 t.2.1)) := by
  refine T.F_words_told.ok sc_words_told (fun vs H Q E h => ?_) (fun cdv A outer s H vs Q E hr h => ?_)
  · obtain ⟨Kn, t, r, ek, h, hf, q⟩ := h
    exact Tp.len h
  · obtain ⟨Kn, t, r_, ek, h, hf, q⟩ := h
    obtain ⟨words_1, joint_2, u_⟩ := t
    obtain ⟨v_0, rr_, rfl, hv_0, h⟩ := h
    obtain ⟨v_1, rr_, rfl, hv_1, h⟩ := h
    obtain rfl := h
    replace hf : m_words_told words_1 joint_2 = some r_ := hf
    unfold m_words_told at hf
    refine ⟨_, (pss_cons (ps_set (i := 2) sc_words_told.nd rfl (.inl rfl) (pe_lst pa_nil))
      (Evl.pss_cut (ps_if (pt_cmpR op_ne (pv 1) (pe_glob (v := .int 50) (by rfl) T.gi_JOINT ⟨_, rfl⟩) (nomark _)) (pss_one (ps_expr (pe_bm PySem.F.plainAttrs_list PySem.F.slot_list_append PySem.F.type_list_append mt_append (pv 2) (pa_cons (pe_op op_add_str pe_str (pe_callTy call_str_int (by rfl) T.z_str (by decide +kernel) (pa_cons (pv 1) pa_nil))) pa_nil)))) pss_nil)
      (Evl.pss_cut (ps_if (pt_cmpR op_gt (pe_callB k_len (by rfl) T.z_len PySem.boot_len (pa_cons (pv 0) pa_nil)) pe_int (nomark _)) (pss_one (ps_expr (pe_bm PySem.F.plainAttrs_list PySem.F.slot_list_append PySem.F.type_list_append mt_append (pv 2) (pa_cons (pe_op op_add_str pe_str (k_join pe_str (pe_lc (own := [("word", 3)]) (g := gName 3) (tt := tYes) (by rfl) sc_words_told.nd (kpi_tup (pv 0)) (blkOk_by (own := [("word", 3)]) (N := ["words", "joint", "told", "word"]) (sc := defScope s_words_told) (by decide +kernel)) (fun _ _ _ _ _ => (pg_name (i := 3) sc_words_told.nd rfl (Or.inl rfl))) (fun _ _ _ _ _ => pts_nil) (fun _ _ _ _ _ => (k_join pe_str (pv 3)))))) pa_nil)))) pss_nil)
      (pss_one (ps_ret (pv 2)))))), ?_⟩
    refine enter (Kn := Kn) (sl := [sv words_1, sv joint_2, .any, .any]) ek ⟨⟨v_0, rfl, hv_0⟩, ⟨v_1, rfl, hv_1⟩, trivial, trivial, trivial⟩ ?_
    have q := rn_of q
    obtain ⟨told_3, h_told_3, hf⟩ := bind_some hf
    refine SB.seqB (fun kx_ => sb_asgO (sl' := fun p_told_3 => [sv words_1, sv joint_2, .at p_told_3, .any]) (fun _ => rfl) (EN.cast (en_lst el_nil) (Option.some.inj h_told_3)) (fun p_told_3 => (kx_ _ _ ?_)))
    obtain ⟨told_9, hj_4, hf⟩ := bind_some hf
    refine SB.cutB (sl' := [sv words_1, sv joint_2, .at p_told_3, .any]) (ow1 := [ol p_told_3 told_9]) (fun km_10 => sb_if (b := (!decide (joint_2 = (50 : Int)))) (et_test (ev_op (ev_var (i := 1) rfl) (ev_int 50) r2_neI)) (fun hb_5 => ?_) (fun hb_5 => ?_)) ?_
    · have hj_4 := ite_t hb_5 hj_4
      obtain ⟨sn_6, h_sn_6, hj_4⟩ := bind_some hj_4
      obtain ⟨t_7, h_t_7, hj_4⟩ := bind_some hj_4
      obtain ⟨told_8, h_told_8, hj_4⟩ := bind_some hj_4
      refine sb_appO (i := 2) (j := 0) rfl rfl (ev_op (ev_str ("joint=" : Str)) (ev_cb (ea_cons (ev_var (i := 1) rfl) ea_nil) (rc_strI h_sn_6)) (r2_addS h_t_7)) h_told_8 (ow1 := [ol p_told_3 told_8]) rfl ?_
      cases hj_4
      exact km_10 _ _ (.keep (.keep (.keep (.keep .nil)))) (List.Sublist.refl _)
    · have hj_4 := ite_f hb_5 hj_4
      refine sb_nx ?_
      cases hj_4
      exact km_10 _ _ (.keep (.keep (.keep (.keep .nil)))) (List.Sublist.refl _)
    obtain ⟨told_19, hj_11, hf⟩ := bind_some hf
    refine SB.cutB (sl' := [sv words_1, sv joint_2, .at p_told_3, .any]) (ow1 := [ol p_told_3 told_19]) (fun km_20 => sb_if (b := (decide ((0 : Int) < (words_1.l.length : Int)))) (et_test (ev_op (ev_cb (ea_cons (ev_var (i := 0) rfl) ea_nil) rc_lenT) (ev_int 0) r2_gt)) (fun hb_12 => ?_) (fun hb_12 => ?_)) ?_
    · have hj_11 := ite_t hb_12 hj_11
      obtain ⟨zs_14, h_zs_14, hj_11⟩ := bind_some hj_11
      obtain ⟨j_16, h_j_16, hj_11⟩ := bind_some hj_11
      obtain ⟨t_17, h_t_17, hj_11⟩ := bind_some hj_11
      obtain ⟨told_18, h_told_18, hj_11⟩ := bind_some hj_11
      refine sb_appO (i := 2) (j := 0) rfl rfl (ev_op (ev_str ("text=" : Str)) (ev_joinO (ev_str (" " : Str)) (EN.ev (en_lc (js := [3]) (fun x => [sv words_1, sv joint_2, .at p_told_3, sv x]) h_zs_14 (it_tup (ev_var (i := 0) rfl)) (anyAt_of (by rfl)) (fun x => (gt_name rfl)) (sub_of (by rfl)) (fun _ _ x b h => by cases h; exact et_yes) (fun _ _ x z _ h => by obtain ⟨word_13, hx_⟩ : ∃ y, y = x := ⟨x, rfl⟩; subst hx_; obtain ⟨j_15, h_j_15, h⟩ := bind_some h; have hz_ := Option.some.inj h; subst hz_; exact EV.is (sl' := [sv words_1, sv joint_2, .at p_told_3, sv word_13]) rfl (ev_joinT (ev_str ("|" : Str)) (ev_var (i := 3) rfl) h_j_15)))) h_j_16) (r2_addS h_t_17)) h_told_18 (ow1 := [ol p_told_3 told_18]) rfl ?_
      cases hj_11
      exact km_20 _ _ (.keep (.keep (.keep (.keep .nil)))) (List.Sublist.refl _)
    · have hj_11 := ite_f hb_12 hj_11
      refine sb_nx ?_
      cases hj_11
      exact km_20 _ _ (.keep (.keep (.keep (.keep .nil)))) (List.Sublist.refl _)
    cases hf
    exact sb_retO (i := 2) (j := 0) rfl rfl q (List.Sublist.cons _ List.Sublist.slnil)
theorem sc_word_told : FnScope ["word", "value", "plain"] ["word", "value", "plain"] (defScope s_word_told) := ⟨rfl, rfl, rfl, by decide +kernel, rfl, by decide +kernel, by decide +kernel⟩
set_option maxHeartbeats 4000000 in
theorem ok_word_told (T : TX K mg w) : FnOk P w K mg base CX0 1 T.a_word_told T.d_word_told ["word", "value", "plain"] (PL (τ := Str × Str × Str × Unit) K (fun t => m_word_told t.1 t.2.1 t.2.2.1)) := by
  refine T.F_word_told.ok sc_word_told (fun vs H Q E h => ?_) (fun cdv A outer s H vs Q E hr h => ?_)
  · obtain ⟨Kn, t, r, ek, h, hf, q⟩ := h
    exact Tp.len h
  · obtain ⟨Kn, t, r_, ek, h, hf, q⟩ := h
    obtain ⟨word_21, value_22, plain_23, u_⟩ := t
    obtain ⟨v_0, rr_, rfl, hv_0, h⟩ := h
    obtain ⟨v_1, rr_, rfl, hv_1, h⟩ := h
    obtain ⟨v_2, rr_, rfl, hv_2, h⟩ := h
    obtain rfl := h
    replace hf : m_word_told word_21 value_22 plain_23 = some r_ := hf
    unfold m_word_told at hf
    refine ⟨_, (pss_cons (ps_if (pt_cmpR op_eq (pv 1) (pv 2) (nomark _)) (pss_one (ps_ret (pe_lst pa_nil))) pss_nil)
      (pss_one (ps_ret (pe_lst (pa_cons (pe_op op_add_str (pe_op op_add_str (pv 0) pe_str) (pv 1)) pa_nil))))), ?_⟩
    refine enter (Kn := Kn) (sl := [sv word_21, sv value_22, sv plain_23]) ek ⟨⟨v_0, rfl, hv_0⟩, ⟨v_1, rfl, hv_1⟩, ⟨v_2, rfl, hv_2⟩, trivial⟩ ?_
    have q := rn_of q
    refine SB.seqB (fun kx_26 => sb_if (b := (decide (value_22 = plain_23))) (et_test (ev_op (ev_var (i := 1) rfl) (ev_var (i := 2) rfl) r2_eqS)) (fun hb_25 => ?_) (fun hb_25 => ?_))
    · have hf := ite_t hb_25 hf
      cases hf
      exact sb_retL (en_lst el_nil) q (List.Sublist.refl _)
    · have hf := ite_f hb_25 hf
      refine sb_nx ?_
      refine kx_26 _ _ ?_
      obtain ⟨t_27, h_t_27, hf⟩ := bind_some hf
      obtain ⟨t_28, h_t_28, hf⟩ := bind_some hf
      cases hf
      exact sb_retL (en_lst (el_cons (ev_op (ev_op (ev_var (i := 0) rfl) (ev_str ("=" : Str)) (r2_addS h_t_27)) (ev_var (i := 1) rfl) (r2_addS h_t_28)) el_nil)) q (List.Sublist.refl _)
theorem sc_numbers_told : FnScope ["word", "numbers", "mark", "plain", "number"] ["word", "numbers", "mark", "plain"] (defScope s_numbers_told) := ⟨rfl, rfl, rfl, by decide +kernel, rfl, by decide +kernel, by decide +kernel⟩
set_option maxHeartbeats 4000000 in
theorem ok_numbers_told (T : TX K mg w) : FnOk P w K mg base CX0 2 T.a_numbers_told T.d_numbers_told ["word", "numbers", "mark", "plain"] (PL (τ := Str × (Tu Dy) × Str × Str × Unit) K (fun t => m_numbers_told t.1 t.2.1 t.2.2.1 t.2.2.2.1)) := by
  refine T.F_numbers_told.ok sc_numbers_told (fun vs H Q E h => ?_) (fun cdv A outer s H vs Q E hr h => ?_)
  · obtain ⟨Kn, t, r, ek, h, hf, q⟩ := h
    exact Tp.len h
  · obtain ⟨Kn, t, r_, ek, h, hf, q⟩ := h
    obtain ⟨word_29, numbers_30, mark_31, plain_32, u_⟩ := t
    obtain ⟨v_0, rr_, rfl, hv_0, h⟩ := h
    obtain ⟨v_1, rr_, rfl, hv_1, h⟩ := h
    obtain ⟨v_2, rr_, rfl, hv_2, h⟩ := h
    obtain ⟨v_3, rr_, rfl, hv_3, h⟩ := h
    obtain rfl := h
    replace hf : m_numbers_told word_29 numbers_30 mark_31 plain_32 = some r_ := hf
    unfold m_numbers_told at hf
    refine ⟨_, (pss_one (ps_ret (pe_call (ok_word_told T) hr (by rfl) T.g_word_told T.F_word_told.kp T.b_word_told .nil pass0 (pa_cons (pv 0) (pa_cons (k_join (pv 2) (pe_lc (own := [("number", 4)]) (g := gName 4) (tt := tYes) (by rfl) sc_numbers_told.nd (kpi_tup (pv 1)) (blkOk_by (own := [("number", 4)]) (N := ["word", "numbers", "mark", "plain", "number"]) (sc := defScope s_numbers_told) (by decide +kernel)) (fun _ _ _ _ _ => (pg_name (i := 4) sc_numbers_told.nd rfl (Or.inl rfl))) (fun _ _ _ _ _ => pts_nil) (fun _ _ _ _ _ => (pe_callTy k_strD (by rfl) T.z_str (by decide +kernel) (pa_cons (pv 4) pa_nil))))) (pa_cons (pv 3) pa_nil)))))), ?_⟩
    refine enter (Kn := Kn) (sl := [sv word_29, sv numbers_30, sv mark_31, sv plain_32, .any]) ek ⟨⟨v_0, rfl, hv_0⟩, ⟨v_1, rfl, hv_1⟩, ⟨v_2, rfl, hv_2⟩, ⟨v_3, rfl, hv_3⟩, trivial, trivial⟩ ?_
    have q := rn_of q
    obtain ⟨zs_34, h_zs_34, hf⟩ := bind_some hf
    obtain ⟨j_36, h_j_36, hf⟩ := bind_some hf
    obtain ⟨r_37, h_r_37, hf⟩ := bind_some hf
    cases hf
    exact sb_retL (en_call (ea_cons (ev_var (i := 0) rfl) (ea_cons (ev_joinO (ev_var (i := 2) rfl) (EN.ev (en_lc (js := [4]) (fun x => [sv word_29, sv numbers_30, sv mark_31, sv plain_32, sv x]) h_zs_34 (it_tup (ev_var (i := 1) rfl)) (anyAt_of (by rfl)) (fun x => (gt_name rfl)) (sub_of (by rfl)) (fun _ _ x b h => by cases h; exact et_yes) (fun _ _ x z _ h => by obtain ⟨number_33, hx_⟩ : ∃ y, y = x := ⟨x, rfl⟩; subst hx_; obtain ⟨sn_35, h_sn_35, h⟩ := bind_some h; have hz_ := Option.some.inj h; subst hz_; exact EV.is (sl' := [sv word_29, sv numbers_30, sv mark_31, sv plain_32, sv number_33]) rfl (ev_cb (ea_cons (ev_var (i := 4) rfl) ea_nil) (rc_strD h_sn_35))))) h_j_36) (ea_cons (ev_var (i := 3) rfl) ea_nil))) h_r_37) q (List.Sublist.refl _)
theorem sc_own_told : FnScope ["own", "words"] ["own"] (defScope s_own_told) := ⟨rfl, rfl, rfl, by decide +kernel, rfl, by decide +kernel, by decide +kernel⟩
set_option maxHeartbeats 4000000 in
theorem ok_own_told (T : TX K mg w) : FnOk P w K mg base CX0 3 T.a_own_told T.d_own_told ["own"] (PL (τ := Dy × Unit) K (fun t => m_own_told t.1)) := by
  refine T.F_own_told.ok sc_own_told (fun vs H Q E h => ?_) (fun cdv A outer s H vs Q E hr h => ?_)
  · obtain ⟨Kn, t, r, ek, h, hf, q⟩ := h
    exact Tp.len h
  · obtain ⟨Kn, t, r_, ek, h, hf, q⟩ := h
    obtain ⟨own_38, u_⟩ := t
    obtain ⟨v_0, rr_, rfl, hv_0, h⟩ := h
    obtain rfl := h
    replace hf : m_own_told own_38 = some r_ := hf
    unfold m_own_told at hf
    refine ⟨_, (pss_cons (ps_set (i := 1) sc_own_told.nd rfl (.inl rfl) (pe_op op_cat (pe_call (ok_numbers_told T) hr (by rfl) T.g_numbers_told T.F_numbers_told.kp T.b_numbers_told .nil pass0 (pa_cons pe_str (pa_cons (pe_ix k_ixt (pv 0) pe_int (fun _ _ => rfl)) (pa_cons pe_str (pa_cons (pe_glob (v := .str "0..1000000") (by rfl) T.gi_WIDEST ⟨_, rfl⟩) pa_nil))))) (pe_call (ok_numbers_told T) hr (by rfl) T.g_numbers_told T.F_numbers_told.kp T.b_numbers_told .nil pass0 (pa_cons pe_str (pa_cons (pe_ix k_ixt (pv 0) pe_int (fun _ _ => rfl)) (pa_cons pe_str (pa_cons (pe_glob (v := .str "0..1000000") (by rfl) T.gi_WIDEST ⟨_, rfl⟩) pa_nil)))))))
      (pss_cons (ps_set (i := 1) sc_own_told.nd rfl (.inl rfl) (pe_op op_cat (pe_op op_cat (pv 1) (pe_call (ok_word_told T) (hr.mono (by decide)) (by rfl) T.g_word_told T.F_word_told.kp T.b_word_told .nil pass0 (pa_cons pe_str (pa_cons (pe_callTy k_strD (by rfl) T.z_str (by decide +kernel) (pa_cons (pe_ix k_ixt (pv 0) pe_int (fun _ _ => rfl)) pa_nil)) (pa_cons pe_str pa_nil))))) (pe_call (ok_word_told T) (hr.mono (by decide)) (by rfl) T.g_word_told T.F_word_told.kp T.b_word_told .nil pass0 (pa_cons pe_str (pa_cons (pe_callTy k_strD (by rfl) T.z_str (by decide +kernel) (pa_cons (pe_ix k_ixt (pv 0) pe_int (fun _ _ => rfl)) pa_nil)) (pa_cons pe_str pa_nil))))))
      (pss_one (ps_ret (pe_op op_cat (pe_op op_cat (pv 1) (pe_call (ok_word_told T) (hr.mono (by decide)) (by rfl) T.g_word_told T.F_word_told.kp T.b_word_told .nil pass0 (pa_cons pe_str (pa_cons (pe_callTy k_strD (by rfl) T.z_str (by decide +kernel) (pa_cons (pe_ix k_ixt (pv 0) pe_int (fun _ _ => rfl)) pa_nil)) (pa_cons pe_str pa_nil))))) (pe_call (ok_word_told T) (hr.mono (by decide)) (by rfl) T.g_word_told T.F_word_told.kp T.b_word_told .nil pass0 (pa_cons pe_str (pa_cons (pe_callTy k_strD (by rfl) T.z_str (by decide +kernel) (pa_cons (pe_ix k_ixt (pv 0) pe_int (fun _ _ => rfl)) pa_nil)) (pa_cons pe_str pa_nil))))))))), ?_⟩
    refine enter (Kn := Kn) (sl := [sv own_38, .any]) ek ⟨⟨v_0, rfl, hv_0⟩, trivial, trivial⟩ ?_
    have q := rn_of q
    obtain ⟨o_39, h_o_39, hf⟩ := bind_some hf
    obtain ⟨i_40, h_i_40, hf⟩ := bind_some hf
    obtain ⟨o_41, h_o_41, hf⟩ := bind_some hf
    obtain ⟨r_42, h_r_42, hf⟩ := bind_some hf
    obtain ⟨o_43, h_o_43, hf⟩ := bind_some hf
    obtain ⟨i_44, h_i_44, hf⟩ := bind_some hf
    obtain ⟨o_45, h_o_45, hf⟩ := bind_some hf
    obtain ⟨r_46, h_r_46, hf⟩ := bind_some hf
    obtain ⟨cat_47, h_cat_47, hf⟩ := bind_some hf
    obtain ⟨words_48, h_words_48, hf⟩ := bind_some hf
    refine SB.seqB (fun kx_ => sb_asg (sl' := [sv own_38, sv words_48]) rfl (EV.cast (EN.ev (en_op (EN.ev (en_call (ea_cons (ev_str ("wide" : Str)) (ea_cons (ev_of (ev_op (ev_of (ev_var (i := 0) rfl) h_o_39) (ev_int 0) (r2_ixU h_i_40)) h_o_41) (ea_cons (ev_str (".." : Str)) (ea_cons (ev_str ("0..1000000" : Str)) ea_nil)))) h_r_42)) (EN.ev (en_call (ea_cons (ev_str ("high" : Str)) (ea_cons (ev_of (ev_op (ev_of (ev_var (i := 0) rfl) h_o_43) (ev_int 1) (r2_ixU h_i_44)) h_o_45) (ea_cons (ev_str (".." : Str)) (ea_cons (ev_str ("0..1000000" : Str)) ea_nil)))) h_r_46)) (r2_catO h_cat_47))) (Option.some.inj h_words_48)) (kx_ _ _ ?_))
    obtain ⟨o_49, h_o_49, hf⟩ := bind_some hf
    obtain ⟨i_50, h_i_50, hf⟩ := bind_some hf
    obtain ⟨sn_51, h_sn_51, hf⟩ := bind_some hf
    obtain ⟨r_52, h_r_52, hf⟩ := bind_some hf
    obtain ⟨cat_53, h_cat_53, hf⟩ := bind_some hf
    obtain ⟨o_54, h_o_54, hf⟩ := bind_some hf
    obtain ⟨i_55, h_i_55, hf⟩ := bind_some hf
    obtain ⟨sn_56, h_sn_56, hf⟩ := bind_some hf
    obtain ⟨r_57, h_r_57, hf⟩ := bind_some hf
    obtain ⟨cat_58, h_cat_58, hf⟩ := bind_some hf
    obtain ⟨words_59, h_words_59, hf⟩ := bind_some hf
    refine SB.seqB (fun kx_ => sb_asg (sl' := [sv own_38, sv words_59]) rfl (EV.cast (EN.ev (en_op (EN.ev (en_op (ev_var (i := 1) rfl) (EN.ev (en_call (ea_cons (ev_str ("grow" : Str)) (ea_cons (ev_cb (ea_cons (ev_op (ev_of (ev_var (i := 0) rfl) h_o_49) (ev_int 2) (r2_ixU h_i_50)) ea_nil) (rc_strD h_sn_51)) (ea_cons (ev_str ("0" : Str)) ea_nil))) h_r_52)) (r2_catO h_cat_53))) (EN.ev (en_call (ea_cons (ev_str ("shrink" : Str)) (ea_cons (ev_cb (ea_cons (ev_op (ev_of (ev_var (i := 0) rfl) h_o_54) (ev_int 3) (r2_ixU h_i_55)) ea_nil) (rc_strD h_sn_56)) (ea_cons (ev_str ("1" : Str)) ea_nil))) h_r_57)) (r2_catO h_cat_58))) (Option.some.inj h_words_59)) (kx_ _ _ ?_))
    obtain ⟨o_60, h_o_60, hf⟩ := bind_some hf
    obtain ⟨i_61, h_i_61, hf⟩ := bind_some hf
    obtain ⟨sn_62, h_sn_62, hf⟩ := bind_some hf
    obtain ⟨r_63, h_r_63, hf⟩ := bind_some hf
    obtain ⟨cat_64, h_cat_64, hf⟩ := bind_some hf
    obtain ⟨o_65, h_o_65, hf⟩ := bind_some hf
    obtain ⟨i_66, h_i_66, hf⟩ := bind_some hf
    obtain ⟨sn_67, h_sn_67, hf⟩ := bind_some hf
    obtain ⟨r_68, h_r_68, hf⟩ := bind_some hf
    obtain ⟨cat_69, h_cat_69, hf⟩ := bind_some hf
    cases hf
    exact sb_retL (en_op (EN.ev (en_op (ev_var (i := 1) rfl) (EN.ev (en_call (ea_cons (ev_str ("rank" : Str)) (ea_cons (ev_cb (ea_cons (ev_op (ev_of (ev_var (i := 0) rfl) h_o_60) (ev_int 4) (r2_ixU h_i_61)) ea_nil) (rc_strD h_sn_62)) (ea_cons (ev_str ("0" : Str)) ea_nil))) h_r_63)) (r2_catO h_cat_64))) (EN.ev (en_call (ea_cons (ev_str ("alike" : Str)) (ea_cons (ev_cb (ea_cons (ev_op (ev_of (ev_var (i := 0) rfl) h_o_65) (ev_int 5) (r2_ixU h_i_66)) ea_nil) (rc_strD h_sn_67)) (ea_cons (ev_str ("0" : Str)) ea_nil))) h_r_68)) (r2_catO h_cat_69)) q (List.Sublist.refl _)
theorem sc_what_told : FnScope ["kind", "what", "words"] ["kind", "what"] (defScope s_what_told) := ⟨rfl, rfl, rfl, by decide +kernel, rfl, by decide +kernel, by decide +kernel⟩
set_option maxHeartbeats 4000000 in
theorem ok_what_told (T : TX K mg w) : FnOk P w K mg base CX0 3 T.a_what_told T.d_what_told ["kind", "what"] (PL (τ := Str × Dy × Unit) K (fun t => m_what_told t.1 t.2.1)) := by
  refine T.F_what_told.ok sc_what_told (fun vs H Q E h => ?_) (fun cdv A outer s H vs Q E hr h => ?_)
  · obtain ⟨Kn, t, r, ek, h, hf, q⟩ := h
    exact Tp.len h
  · obtain ⟨Kn, t, r_, ek, h, hf, q⟩ := h
    obtain ⟨kind_70, what_71, u_⟩ := t
    obtain ⟨v_0, rr_, rfl, hv_0, h⟩ := h
    obtain ⟨v_1, rr_, rfl, hv_1, h⟩ := h
    obtain rfl := h
    replace hf : m_what_told kind_70 what_71 = some r_ := hf
    unfold m_what_told at hf
    refine ⟨_, (pss_cons (ps_if (pt_cmpR op_eq (pv 0) pe_str (nomark _)) (pss_one (ps_ret (pe_call (ok_numbers_told T) hr (by rfl) T.g_numbers_told T.F_numbers_told.kp T.b_numbers_told .nil pass0 (pa_cons pe_str (pa_cons (pv 1) (pa_cons pe_str (pa_cons pe_str pa_nil))))))) pss_nil)
      (pss_cons (ps_if (pt_cmpR k_in (pv 0) (pe_glob (v := .ref T.ta_LINES) (by rfl) T.gt_LINES rfl) (by rfl)) (pss_cons (ps_set (i := 2) sc_what_told.nd rfl (.inl rfl) (pe_op op_cat (pe_call (ok_word_told T) (hr.mono (by decide)) (by rfl) T.g_word_told T.F_word_told.kp T.b_word_told .nil pass0 (pa_cons pe_str (pa_cons (pe_callTy k_strD (by rfl) T.z_str (by decide +kernel) (pa_cons (pe_ix k_ixt (pv 1) pe_int (fun _ _ => rfl)) pa_nil)) (pa_cons pe_str pa_nil)))) (pe_call (ok_word_told T) (hr.mono (by decide)) (by rfl) T.g_word_told T.F_word_told.kp T.b_word_told .nil pass0 (pa_cons pe_str (pa_cons (pe_ix k_ixt (pv 1) pe_int (fun _ _ => rfl)) (pa_cons pe_str pa_nil))))))
      (pss_one (ps_ret (pe_op op_cat (pv 2) (pe_call (ok_word_told T) (hr.mono (by decide)) (by rfl) T.g_word_told T.F_word_told.kp T.b_word_told .nil pass0 (pa_cons pe_str (pa_cons (pe_ix k_ixt (pv 1) pe_int (fun _ _ => rfl)) (pa_cons pe_str pa_nil)))))))) pss_nil)
      (pss_cons (ps_if (pt_cmpR op_eq (pv 0) pe_str (nomark _)) (pss_cons (ps_set (i := 2) sc_what_told.nd rfl (.inl rfl) (pe_op op_cat (pe_call (ok_word_told T) (hr.mono (by decide)) (by rfl) T.g_word_told T.F_word_told.kp T.b_word_told .nil pass0 (pa_cons pe_str (pa_cons (pe_callTy k_strD (by rfl) T.z_str (by decide +kernel) (pa_cons (pe_ix k_ixt (pv 1) pe_int (fun _ _ => rfl)) pa_nil)) (pa_cons pe_str pa_nil)))) (pe_call (ok_word_told T) (hr.mono (by decide)) (by rfl) T.g_word_told T.F_word_told.kp T.b_word_told .nil pass0 (pa_cons pe_str (pa_cons (pe_callTy k_strD (by rfl) T.z_str (by decide +kernel) (pa_cons (pe_ix k_ixt (pv 1) pe_int (fun _ _ => rfl)) pa_nil)) (pa_cons pe_str pa_nil))))))
      (pss_one (ps_ret (pe_op op_cat (pv 2) (pe_call (ok_word_told T) (hr.mono (by decide)) (by rfl) T.g_word_told T.F_word_told.kp T.b_word_told .nil pass0 (pa_cons pe_str (pa_cons (pe_ix k_ixt (pv 1) pe_int (fun _ _ => rfl)) (pa_cons pe_str pa_nil)))))))) pss_nil)
      (pss_one (ps_ret (pe_lst pa_nil)))))), ?_⟩
    refine enter (Kn := Kn) (sl := [sv kind_70, sv what_71, .any]) ek ⟨⟨v_0, rfl, hv_0⟩, ⟨v_1, rfl, hv_1⟩, trivial, trivial⟩ ?_
    have q := rn_of q
    refine SB.seqB (fun kx_74 => sb_if (b := (decide (kind_70 = ("leaf" : Str)))) (et_test (ev_op (ev_var (i := 0) rfl) (ev_str ("leaf" : Str)) r2_eqS)) (fun hb_73 => ?_) (fun hb_73 => ?_))
    · have hf := ite_t hb_73 hf
      obtain ⟨o_75, h_o_75, hf⟩ := bind_some hf
      obtain ⟨r_76, h_r_76, hf⟩ := bind_some hf
      cases hf
      exact sb_retL (en_call (ea_cons (ev_str ("wish" : Str)) (ea_cons (ev_of (ev_var (i := 1) rfl) h_o_75) (ea_cons (ev_str ("," : Str)) (ea_cons (ev_str ("0,0" : Str)) ea_nil)))) h_r_76) q (List.Sublist.refl _)
    · have hf := ite_f hb_73 hf
      refine sb_nx ?_
      refine kx_74 _ _ ?_
      refine SB.seqB (fun kx_79 => sb_if (b := (decide (kind_70 ∈ ([("row" : Str), ("column" : Str), ("wrap" : Str)] : List Str)))) (et_test (ev_inK T.tt_LINES (ev_var (i := 0) rfl))) (fun hb_78 => ?_) (fun hb_78 => ?_))
      · have hf := ite_t hb_78 hf
        obtain ⟨o_80, h_o_80, hf⟩ := bind_some hf
        obtain ⟨i_81, h_i_81, hf⟩ := bind_some hf
        obtain ⟨sn_82, h_sn_82, hf⟩ := bind_some hf
        obtain ⟨r_83, h_r_83, hf⟩ := bind_some hf
        obtain ⟨o_84, h_o_84, hf⟩ := bind_some hf
        obtain ⟨i_85, h_i_85, hf⟩ := bind_some hf
        obtain ⟨o_86, h_o_86, hf⟩ := bind_some hf
        obtain ⟨r_87, h_r_87, hf⟩ := bind_some hf
        obtain ⟨cat_88, h_cat_88, hf⟩ := bind_some hf
        obtain ⟨words_89, h_words_89, hf⟩ := bind_some hf
        refine SB.seqB (fun kx_ => sb_asg (sl' := [sv kind_70, sv what_71, sv words_89]) rfl (EV.cast (EN.ev (en_op (EN.ev (en_call (ea_cons (ev_str ("gap" : Str)) (ea_cons (ev_cb (ea_cons (ev_op (ev_of (ev_var (i := 1) rfl) h_o_80) (ev_int 0) (r2_ixU h_i_81)) ea_nil) (rc_strD h_sn_82)) (ea_cons (ev_str ("0" : Str)) ea_nil))) h_r_83)) (EN.ev (en_call (ea_cons (ev_str ("align" : Str)) (ea_cons (ev_of (ev_op (ev_of (ev_var (i := 1) rfl) h_o_84) (ev_int 1) (r2_ixU h_i_85)) h_o_86) (ea_cons (ev_str ("start" : Str)) ea_nil))) h_r_87)) (r2_catO h_cat_88))) (Option.some.inj h_words_89)) (kx_ _ _ ?_))
        obtain ⟨o_90, h_o_90, hf⟩ := bind_some hf
        obtain ⟨i_91, h_i_91, hf⟩ := bind_some hf
        obtain ⟨o_92, h_o_92, hf⟩ := bind_some hf
        obtain ⟨r_93, h_r_93, hf⟩ := bind_some hf
        obtain ⟨cat_94, h_cat_94, hf⟩ := bind_some hf
        cases hf
        exact sb_retL (en_op (ev_var (i := 2) rfl) (EN.ev (en_call (ea_cons (ev_str ("side" : Str)) (ea_cons (ev_of (ev_op (ev_of (ev_var (i := 1) rfl) h_o_90) (ev_int 2) (r2_ixU h_i_91)) h_o_92) (ea_cons (ev_str ("left" : Str)) ea_nil))) h_r_93)) (r2_catO h_cat_94)) q (List.Sublist.refl _)
      · have hf := ite_f hb_78 hf
        refine sb_nx ?_
        refine kx_79 _ _ ?_
        refine SB.seqB (fun kx_97 => sb_if (b := (decide (kind_70 = ("table" : Str)))) (et_test (ev_op (ev_var (i := 0) rfl) (ev_str ("table" : Str)) r2_eqS)) (fun hb_96 => ?_) (fun hb_96 => ?_))
        · have hf := ite_t hb_96 hf
          obtain ⟨o_98, h_o_98, hf⟩ := bind_some hf
          obtain ⟨i_99, h_i_99, hf⟩ := bind_some hf
          obtain ⟨sn_100, h_sn_100, hf⟩ := bind_some hf
          obtain ⟨r_101, h_r_101, hf⟩ := bind_some hf
          obtain ⟨o_102, h_o_102, hf⟩ := bind_some hf
          obtain ⟨i_103, h_i_103, hf⟩ := bind_some hf
          obtain ⟨sn_104, h_sn_104, hf⟩ := bind_some hf
          obtain ⟨r_105, h_r_105, hf⟩ := bind_some hf
          obtain ⟨cat_106, h_cat_106, hf⟩ := bind_some hf
          obtain ⟨words_107, h_words_107, hf⟩ := bind_some hf
          refine SB.seqB (fun kx_ => sb_asg (sl' := [sv kind_70, sv what_71, sv words_107]) rfl (EV.cast (EN.ev (en_op (EN.ev (en_call (ea_cons (ev_str ("columns" : Str)) (ea_cons (ev_cb (ea_cons (ev_op (ev_of (ev_var (i := 1) rfl) h_o_98) (ev_int 0) (r2_ixU h_i_99)) ea_nil) (rc_strD h_sn_100)) (ea_cons (ev_str ("1" : Str)) ea_nil))) h_r_101)) (EN.ev (en_call (ea_cons (ev_str ("gap" : Str)) (ea_cons (ev_cb (ea_cons (ev_op (ev_of (ev_var (i := 1) rfl) h_o_102) (ev_int 1) (r2_ixU h_i_103)) ea_nil) (rc_strD h_sn_104)) (ea_cons (ev_str ("0" : Str)) ea_nil))) h_r_105)) (r2_catO h_cat_106))) (Option.some.inj h_words_107)) (kx_ _ _ ?_))
          obtain ⟨o_108, h_o_108, hf⟩ := bind_some hf
          obtain ⟨i_109, h_i_109, hf⟩ := bind_some hf
          obtain ⟨o_110, h_o_110, hf⟩ := bind_some hf
          obtain ⟨r_111, h_r_111, hf⟩ := bind_some hf
          obtain ⟨cat_112, h_cat_112, hf⟩ := bind_some hf
          cases hf
          exact sb_retL (en_op (ev_var (i := 2) rfl) (EN.ev (en_call (ea_cons (ev_str ("side" : Str)) (ea_cons (ev_of (ev_op (ev_of (ev_var (i := 1) rfl) h_o_108) (ev_int 2) (r2_ixU h_i_109)) h_o_110) (ea_cons (ev_str ("left" : Str)) ea_nil))) h_r_111)) (r2_catO h_cat_112)) q (List.Sublist.refl _)
        · have hf := ite_f hb_96 hf
          refine sb_nx ?_
          refine kx_97 _ _ ?_
          cases hf
          exact sb_retL (en_lst el_nil) q (List.Sublist.refl _)
theorem sc_part_told : FnScope ["elder", "at", "kind", "name", "own", "what", "parts", "across", "down"] ["elder", "at"] (defScope s_part_told) := ⟨rfl, rfl, rfl, by decide +kernel, rfl, by decide +kernel, by decide +kernel⟩
set_option maxHeartbeats 4000000 in
theorem ok_part_told (T : TX K mg w) : FnOk P w K mg base CX0 3 T.a_part_told T.d_part_told ["elder", "at"] (PL (τ := Dy × Int × Unit) K (fun t => m_part_told t.1 t.2.1)) := by
  refine T.F_part_told.ok sc_part_told (fun vs H Q E h => ?_) (fun cdv A outer s H vs Q E hr h => ?_)
  · obtain ⟨Kn, t, r, ek, h, hf, q⟩ := h
    exact Tp.len h
  · obtain ⟨Kn, t, r_, ek, h, hf, q⟩ := h
    obtain ⟨elder_113, at_114, u_⟩ := t
    obtain ⟨v_0, rr_, rfl, hv_0, h⟩ := h
    obtain ⟨v_1, rr_, rfl, hv_1, h⟩ := h
    obtain rfl := h
    replace hf : m_part_told elder_113 at_114 = some r_ := hf
    unfold m_part_told at hf
    refine ⟨_, (pss_cons (ps_asg (pv 0) (kpg_tup (pgs_cons (pg_name (i := 2) sc_part_told.nd rfl (.inl rfl)) (pgs_cons (pg_name (i := 3) sc_part_told.nd rfl (.inl rfl)) (pgs_cons (pg_name (i := 4) sc_part_told.nd rfl (.inl rfl)) (pgs_cons (pg_name (i := 5) sc_part_told.nd rfl (.inl rfl)) (pgs_cons (pg_name (i := 6) sc_part_told.nd rfl (.inl rfl)) pgs_nil)))))))
      (pss_cons (ps_if (pt_cmpR op_eq (pv 2) pe_str (nomark _)) (pss_one (ps_ret (pe_call (ok_numbers_told T) hr (by rfl) T.g_numbers_told T.F_numbers_told.kp T.b_numbers_told .nil pass0 (pa_cons pe_str (pa_cons (pe_ix k_ixt (pe_ix k_ixt (pv 5) pe_int (fun _ _ => rfl)) (pv 1) (fun _ _ => rfl)) (pa_cons pe_str (pa_cons pe_str pa_nil))))))) pss_nil)
      (pss_cons (ps_if (pt_cmpR op_eq (pv 2) pe_str (nomark _)) (pss_one (ps_ret (pe_call (ok_word_told T) (hr.mono (by decide)) (by rfl) T.g_word_told T.F_word_told.kp T.b_word_told .nil pass0 (pa_cons pe_str (pa_cons (pe_ix k_ixt (pe_ix k_ixt (pv 5) pe_int (fun _ _ => rfl)) (pv 1) (fun _ _ => rfl)) (pa_cons pe_str pa_nil)))))) pss_nil)
      (pss_cons (ps_if (PW.pt (pw_and (pt_cmpR op_eq (pv 2) pe_str (nomark _)) (pw_and1 (pt_cmpR op_gt (pv 1) pe_int (nomark _))))) (pss_cons (ps_asg (pe_ix k_ixt (pv 5) (pe_op op_sub (pv 1) pe_int) (fun _ _ => rfl)) (kpg_tup (pgs_cons (pg_name (i := 7) sc_part_told.nd rfl (.inl rfl)) (pgs_cons (pg_name (i := 8) sc_part_told.nd rfl (.inl rfl)) pgs_nil))))
      (pss_one (ps_ret (pe_call (ok_numbers_told T) hr (by rfl) T.g_numbers_told T.F_numbers_told.kp T.b_numbers_told .nil pass0 (pa_cons pe_str (pa_cons (pe_op k_catA (pv 7) (pv 8)) (pa_cons pe_str (pa_cons pe_str pa_nil)))))))) pss_nil)
      (pss_one (ps_ret (pe_lst pa_nil))))))), ?_⟩
    refine enter (Kn := Kn) (sl := [sv elder_113, sv at_114, .any, .any, .any, .any, .any, .any, .any]) ek ⟨⟨v_0, rfl, hv_0⟩, ⟨v_1, rfl, hv_1⟩, trivial, trivial, trivial, trivial, trivial, trivial, trivial, trivial⟩ ?_
    have q := rn_of q
    obtain ⟨o_115, h_o_115, hf⟩ := bind_some hf
    obtain ⟨⟨kind_116, name_117, own_118, what_119, parts_120, _⟩, h_kind_116, hf⟩ := bind_some hf
    refine SB.seqB (fun kx_ => sb_unp (sl' := [sv elder_113, sv at_114, sv kind_116, sv name_117, sv own_118, sv what_119, sv parts_120, .any, .any]) (EV.cast (ev_of (ev_var (i := 0) rfl) h_o_115) (Option.some.inj h_kind_116)) (gt_tup (gts_cons (gt_name rfl) (gts_cons (gt_name rfl) (gts_cons (gt_name rfl) (gts_cons (gt_name rfl) (gts_cons (gt_name rfl) gts_nil)))))) (kx_ _ _ ?_))
    obtain ⟨o_122, h_o_122, hf⟩ := bind_some hf
    refine SB.seqB (fun kx_124 => sb_if (b := (decide (o_122 = ("table" : Str)))) (et_test (ev_op (ev_of (ev_var (i := 2) rfl) h_o_122) (ev_str ("table" : Str)) r2_eqS)) (fun hb_123 => ?_) (fun hb_123 => ?_))
    · have hf := ite_t hb_123 hf
      obtain ⟨o_125, h_o_125, hf⟩ := bind_some hf
      obtain ⟨i_126, h_i_126, hf⟩ := bind_some hf
      obtain ⟨o_127, h_o_127, hf⟩ := bind_some hf
      obtain ⟨i_128, h_i_128, hf⟩ := bind_some hf
      obtain ⟨o_129, h_o_129, hf⟩ := bind_some hf
      obtain ⟨r_130, h_r_130, hf⟩ := bind_some hf
      cases hf
      exact sb_retL (en_call (ea_cons (ev_str ("span" : Str)) (ea_cons (ev_of (ev_op (ev_of (ev_op (ev_of (ev_var (i := 5) rfl) h_o_125) (ev_int 3) (r2_ixU h_i_126)) h_o_127) (ev_var (i := 1) rfl) (r2_ixU h_i_128)) h_o_129) (ea_cons (ev_str ("," : Str)) (ea_cons (ev_str ("1,1" : Str)) ea_nil)))) h_r_130) q (List.Sublist.refl _)
    · have hf := ite_f hb_123 hf
      refine sb_nx ?_
      refine kx_124 _ _ ?_
      obtain ⟨o_132, h_o_132, hf⟩ := bind_some hf
      refine SB.seqB (fun kx_134 => sb_if (b := (decide (o_132 = ("flow" : Str)))) (et_test (ev_op (ev_of (ev_var (i := 2) rfl) h_o_132) (ev_str ("flow" : Str)) r2_eqS)) (fun hb_133 => ?_) (fun hb_133 => ?_))
      · have hf := ite_t hb_133 hf
        obtain ⟨o_135, h_o_135, hf⟩ := bind_some hf
        obtain ⟨i_136, h_i_136, hf⟩ := bind_some hf
        obtain ⟨o_137, h_o_137, hf⟩ := bind_some hf
        obtain ⟨i_138, h_i_138, hf⟩ := bind_some hf
        obtain ⟨o_139, h_o_139, hf⟩ := bind_some hf
        obtain ⟨r_140, h_r_140, hf⟩ := bind_some hf
        cases hf
        exact sb_retL (en_call (ea_cons (ev_str ("float" : Str)) (ea_cons (ev_of (ev_op (ev_of (ev_op (ev_of (ev_var (i := 5) rfl) h_o_135) (ev_int 0) (r2_ixU h_i_136)) h_o_137) (ev_var (i := 1) rfl) (r2_ixU h_i_138)) h_o_139) (ea_cons (ev_str ("left" : Str)) ea_nil))) h_r_140) q (List.Sublist.refl _)
      · have hf := ite_f hb_133 hf
        refine sb_nx ?_
        refine kx_134 _ _ ?_
        obtain ⟨o_142, h_o_142, hf⟩ := bind_some hf
        refine SB.seqB (fun kx_144 => sb_if (b := ((decide (o_142 = ("over" : Str))) && (decide ((0 : Int) < at_114)))) (et_and (et_test (ev_op (ev_of (ev_var (i := 2) rfl) h_o_142) (ev_str ("over" : Str)) r2_eqS)) (fun _ => (et_test (ev_op (ev_var (i := 1) rfl) (ev_int 0) r2_gt)))) (fun hb_143 => ?_) (fun hb_143 => ?_))
        · have hf := ite_t hb_143 hf
          obtain ⟨o_145, h_o_145, hf⟩ := bind_some hf
          obtain ⟨i_146, h_i_146, hf⟩ := bind_some hf
          obtain ⟨o_147, h_o_147, hf⟩ := bind_some hf
          obtain ⟨⟨across_148, down_149, _⟩, h_across_148, hf⟩ := bind_some hf
          refine SB.seqB (fun kx_ => sb_unp (sl' := [sv elder_113, sv at_114, sv kind_116, sv name_117, sv own_118, sv what_119, sv parts_120, sv across_148, sv down_149]) (EV.cast (ev_of (ev_op (ev_of (ev_var (i := 5) rfl) h_o_145) (ev_op (ev_var (i := 1) rfl) (ev_int 1) r2_sub) (r2_ixU h_i_146)) h_o_147) (Option.some.inj h_across_148)) (gt_tup (gts_cons (gt_name rfl) (gts_cons (gt_name rfl) gts_nil))) (kx_ _ _ ?_))
          obtain ⟨o_150, h_o_150, hf⟩ := bind_some hf
          obtain ⟨r_151, h_r_151, hf⟩ := bind_some hf
          cases hf
          exact sb_retL (en_call (ea_cons (ev_str ("at" : Str)) (ea_cons (ev_of (ev_up (ev_op (ev_var (i := 7) rfl) (ev_var (i := 8) rfl) (r2_catA (Ap.s _ (Ap.s _ (Ap.z _)))))) h_o_150) (ea_cons (ev_str ("," : Str)) (ea_cons (ev_str ("start,0,start,0" : Str)) ea_nil)))) h_r_151) q (List.Sublist.refl _)
        · have hf := ite_f hb_143 hf
          refine sb_nx ?_
          refine kx_144 _ _ ?_
          cases hf
          exact sb_retL (en_lst el_nil) q (List.Sublist.refl _)
theorem sc_setting_told : FnScope ["kind", "what"] ["kind", "what"] (defScope s_setting_told) := ⟨rfl, rfl, rfl, by decide +kernel, rfl, by decide +kernel, by decide +kernel⟩
set_option maxHeartbeats 4000000 in
theorem ok_setting_told (T : TX K mg w) : FnOk P w K mg base CX0 2 T.a_setting_told T.d_setting_told ["kind", "what"] (PL (τ := Str × Dy × Unit) K (fun t => m_setting_told t.1 t.2.1)) := by
  refine T.F_setting_told.ok sc_setting_told (fun vs H Q E h => ?_) (fun cdv A outer s H vs Q E hr h => ?_)
  · obtain ⟨Kn, t, r, ek, h, hf, q⟩ := h
    exact Tp.len h
  · obtain ⟨Kn, t, r_, ek, h, hf, q⟩ := h
    obtain ⟨kind_152, what_153, u_⟩ := t
    obtain ⟨v_0, rr_, rfl, hv_0, h⟩ := h
    obtain ⟨v_1, rr_, rfl, hv_1, h⟩ := h
    obtain rfl := h
    replace hf : m_setting_told kind_152 what_153 = some r_ := hf
    unfold m_setting_told at hf
    refine ⟨_, (pss_cons (ps_if (pt_cmpR op_eq (pv 0) pe_str (nomark _)) (pss_one (ps_ret (pe_call (ok_words_told T) hr (by rfl) T.g_words_told T.F_words_told.kp T.b_words_told .nil pass0 (pa_cons (pe_ix k_ixt (pv 1) pe_int (fun _ _ => rfl)) (pa_cons (pe_ix k_ixt (pv 1) pe_int (fun _ _ => rfl)) pa_nil))))) pss_nil)
      (pss_cons (ps_if (pt_cmpR op_eq (pv 0) pe_str (nomark _)) (pss_one (ps_ret (pe_call (ok_words_told T) hr (by rfl) T.g_words_told T.F_words_told.kp T.b_words_told .nil pass0 (pa_cons (pe_ix k_ixt (pv 1) pe_int (fun _ _ => rfl)) (pa_cons (pe_ix k_ixt (pv 1) pe_int (fun _ _ => rfl)) pa_nil))))) pss_nil)
      (pss_one (ps_ret (pe_lst pa_nil))))), ?_⟩
    refine enter (Kn := Kn) (sl := [sv kind_152, sv what_153]) ek ⟨⟨v_0, rfl, hv_0⟩, ⟨v_1, rfl, hv_1⟩, trivial⟩ ?_
    have q := rn_of q
    refine SB.seqB (fun kx_156 => sb_if (b := (decide (kind_152 = ("words" : Str)))) (et_test (ev_op (ev_var (i := 0) rfl) (ev_str ("words" : Str)) r2_eqS)) (fun hb_155 => ?_) (fun hb_155 => ?_))
    · have hf := ite_t hb_155 hf
      obtain ⟨o_157, h_o_157, hf⟩ := bind_some hf
      obtain ⟨i_158, h_i_158, hf⟩ := bind_some hf
      obtain ⟨o_159, h_o_159, hf⟩ := bind_some hf
      obtain ⟨i_160, h_i_160, hf⟩ := bind_some hf
      obtain ⟨o_161, h_o_161, hf⟩ := bind_some hf
      obtain ⟨o_162, h_o_162, hf⟩ := bind_some hf
      obtain ⟨r_163, h_r_163, hf⟩ := bind_some hf
      cases hf
      exact sb_retL (en_call (ea_cons (ev_of (ev_op (ev_of (ev_var (i := 1) rfl) h_o_157) (ev_int 0) (r2_ixU h_i_158)) h_o_161) (ea_cons (ev_of (ev_op (ev_of (ev_var (i := 1) rfl) h_o_159) (ev_int 1) (r2_ixU h_i_160)) h_o_162) ea_nil)) h_r_163) q (List.Sublist.refl _)
    · have hf := ite_f hb_155 hf
      refine sb_nx ?_
      refine kx_156 _ _ ?_
      refine SB.seqB (fun kx_166 => sb_if (b := (decide (kind_152 = ("flow" : Str)))) (et_test (ev_op (ev_var (i := 0) rfl) (ev_str ("flow" : Str)) r2_eqS)) (fun hb_165 => ?_) (fun hb_165 => ?_))
      · have hf := ite_t hb_165 hf
        obtain ⟨o_167, h_o_167, hf⟩ := bind_some hf
        obtain ⟨i_168, h_i_168, hf⟩ := bind_some hf
        obtain ⟨o_169, h_o_169, hf⟩ := bind_some hf
        obtain ⟨i_170, h_i_170, hf⟩ := bind_some hf
        obtain ⟨o_171, h_o_171, hf⟩ := bind_some hf
        obtain ⟨o_172, h_o_172, hf⟩ := bind_some hf
        obtain ⟨r_173, h_r_173, hf⟩ := bind_some hf
        cases hf
        exact sb_retL (en_call (ea_cons (ev_of (ev_op (ev_of (ev_var (i := 1) rfl) h_o_167) (ev_int 1) (r2_ixU h_i_168)) h_o_171) (ea_cons (ev_of (ev_op (ev_of (ev_var (i := 1) rfl) h_o_169) (ev_int 2) (r2_ixU h_i_170)) h_o_172) ea_nil)) h_r_173) q (List.Sublist.refl _)
      · have hf := ite_f hb_165 hf
        refine sb_nx ?_
        refine kx_166 _ _ ?_
        cases hf
        exact sb_retL (en_lst el_nil) q (List.Sublist.refl _)
theorem sc_rows_told : FnScope ["tree", "deep", "extra", "kind", "name", "own", "what", "parts", "setting", "texts", "words", "rows", "at", "part", "word"] ["tree", "deep", "extra"] (defScope s_rows_told) := ⟨rfl, rfl, rfl, by decide +kernel, rfl, by decide +kernel, by decide +kernel⟩
set_option maxHeartbeats 4000000 in
theorem step_rows_told (T : TX K mg w) (rec_rows_told : (Dy → Int → (List Str) → Option (List Str))) {k_ : Nat} (hk_ : 3 ≤ k_) (hrec : FnOk P w K mg base CX0 k_ T.a_rows_told T.d_rows_told ["tree", "deep", "extra"] (PL (τ := Dy × Int × (List Str) × Unit) K (fun t => rec_rows_told t.1 t.2.1 t.2.2.1))) : FnOk P w K mg base CX0 (k_ + 1) T.a_rows_told T.d_rows_told ["tree", "deep", "extra"] (PL (τ := Dy × Int × (List Str) × Unit) K (fun t => m_rows_told_step rec_rows_told t.1 t.2.1 t.2.2.1)) := by
  refine T.F_rows_told.ok sc_rows_told (fun vs H Q E h => ?_) (fun cdv A outer s H vs Q E hr h => ?_)
  · obtain ⟨Kn, t, r, ek, h, hf, q⟩ := h
    exact Tp.len h
  · obtain ⟨Kn, t, r_, ek, h, hf, q⟩ := h
    obtain ⟨tree_174, deep_175, extra_176, u_⟩ := t
    obtain ⟨v_0, rr_, rfl, hv_0, h⟩ := h
    obtain ⟨v_1, rr_, rfl, hv_1, h⟩ := h
    obtain ⟨v_2, rr_, rfl, hv_2, h⟩ := h
    obtain rfl := h
    replace hf : m_rows_told_step rec_rows_told tree_174 deep_175 extra_176 = some r_ := hf
    unfold m_rows_told_step at hf
    refine ⟨_, (pss_cons (ps_asg (pv 0) (kpg_tup (pgs_cons (pg_name (i := 3) sc_rows_told.nd rfl (.inl rfl)) (pgs_cons (pg_name (i := 4) sc_rows_told.nd rfl (.inl rfl)) (pgs_cons (pg_name (i := 5) sc_rows_told.nd rfl (.inl rfl)) (pgs_cons (pg_name (i := 6) sc_rows_told.nd rfl (.inl rfl)) (pgs_cons (pg_name (i := 7) sc_rows_told.nd rfl (.inl rfl)) pgs_nil)))))))
      (pss_cons (ps_set (i := 8) sc_rows_told.nd rfl (.inl rfl) (pe_call (ok_setting_told T) (hr.mono (by omega)) (by rfl) T.g_setting_told T.F_setting_told.kp T.b_setting_told .nil pass0 (pa_cons (pv 3) (pa_cons (pv 6) pa_nil))))
      (pss_cons (ps_set (i := 9) sc_rows_told.nd rfl (.inr rfl) (pe_lc (own := [("word", 14)]) (g := gName 14) (by rfl) sc_rows_told.nd (kpi_list (pv 8)) (blkOk_by (own := [("word", 14)]) (N := ["tree", "deep", "extra", "kind", "name", "own", "what", "parts", "setting", "texts", "words", "rows", "at", "part", "word"]) (sc := defScope s_rows_told) (by decide +kernel)) (fun _ _ _ _ _ => (pg_name (i := 14) sc_rows_told.nd rfl (Or.inl rfl))) (fun _ _ _ _ _ => pts_one (pt_val (k_starts (pv 14) pe_str))) (fun _ _ _ _ _ => (pv 14))))
      (pss_cons (ps_set (i := 10) sc_rows_told.nd rfl (.inl rfl) (pe_op op_cat (pe_op op_cat (pe_lst (pa_cons (pv 3) (pa_cons (pv 4) pa_nil))) (pe_call (ok_own_told T) (hr.mono (by omega)) (by rfl) T.g_own_told T.F_own_told.kp T.b_own_told .nil pass0 (pa_cons (pv 5) pa_nil))) (pe_call (ok_what_told T) (hr.mono (by omega)) (by rfl) T.g_what_told T.F_what_told.kp T.b_what_told .nil pass0 (pa_cons (pv 3) (pa_cons (pv 6) pa_nil)))))
      (pss_cons (ps_set (i := 10) sc_rows_told.nd rfl (.inl rfl) (pe_op op_cat (pe_op op_cat (pe_op op_cat (pv 10) (pe_lc (own := [("word", 14)]) (g := gName 14) (by rfl) sc_rows_told.nd (kpi_list (pv 8)) (blkOk_by (own := [("word", 14)]) (N := ["tree", "deep", "extra", "kind", "name", "own", "what", "parts", "setting", "texts", "words", "rows", "at", "part", "word"]) (sc := defScope s_rows_told) (by decide +kernel)) (fun _ _ _ _ _ => (pg_name (i := 14) sc_rows_told.nd rfl (Or.inl rfl))) (fun _ _ _ _ _ => pts_one (pt_cmpR k_notIn (pv 14) (pv 9) (by rfl))) (fun _ _ _ _ _ => (pv 14)))) (pv 2)) (pv 9)))
      (pss_cons (ps_set (i := 11) sc_rows_told.nd rfl (.inl rfl) (pe_lst (pa_cons (pe_op op_add_str (pe_op op_mulS pe_str (pv 1)) (k_join pe_str (pv 10))) pa_nil)))
      (pss_cons (ps_for PassesOwn.never rfl (pi_enumT (by rfl) T.z_enumerate (pa_cons (pv 7) pa_nil)) (kpg_tup (pgs_cons (pg_name (i := 12) sc_rows_told.nd rfl (.inl rfl)) (pgs_cons (pg_name (i := 13) sc_rows_told.nd rfl (.inl rfl)) pgs_nil))) (pss_one (ps_expr (pe_bm PySem.F.plainAttrs_list PySem.F.slot_list_extend PySem.F.type_list_extend mt_extend (pv 11) (pa_cons (pe_call hrec hr (by rfl) T.g_rows_told T.F_rows_told.kp T.b_rows_told .nil pass0 (pa_cons (pv 13) (pa_cons (pe_op op_add (pv 1) pe_int) (pa_cons (pe_call (ok_part_told T) (hr.mono (by omega)) (by rfl) T.g_part_told T.F_part_told.kp T.b_part_told .nil pass0 (pa_cons (pv 0) (pa_cons (pv 12) pa_nil))) pa_nil)))) pa_nil)))))
      (pss_one (ps_ret (pv 11)))))))))), ?_⟩
    refine enter (Kn := Kn) (sl := [sv tree_174, sv deep_175, sv extra_176, .any, .any, .any, .any, .any, .any, .any, .any, .any, .any, .any, .any]) ek ⟨⟨v_0, rfl, hv_0⟩, ⟨v_1, rfl, hv_1⟩, ⟨v_2, rfl, hv_2⟩, trivial, trivial, trivial, trivial, trivial, trivial, trivial, trivial, trivial, trivial, trivial, trivial, trivial⟩ ?_
    have q := rn_of q
    obtain ⟨o_177, h_o_177, hf⟩ := bind_some hf
    obtain ⟨⟨kind_178, name_179, own_180, what_181, parts_182, _⟩, h_kind_178, hf⟩ := bind_some hf
    refine SB.seqB (fun kx_ => sb_unp (sl' := [sv tree_174, sv deep_175, sv extra_176, sv kind_178, sv name_179, sv own_180, sv what_181, sv parts_182, .any, .any, .any, .any, .any, .any, .any]) (EV.cast (ev_of (ev_var (i := 0) rfl) h_o_177) (Option.some.inj h_kind_178)) (gt_tup (gts_cons (gt_name rfl) (gts_cons (gt_name rfl) (gts_cons (gt_name rfl) (gts_cons (gt_name rfl) (gts_cons (gt_name rfl) gts_nil)))))) (kx_ _ _ ?_))
    obtain ⟨o_183, h_o_183, hf⟩ := bind_some hf
    obtain ⟨r_184, h_r_184, hf⟩ := bind_some hf
    obtain ⟨setting_185, h_setting_185, hf⟩ := bind_some hf
    refine SB.seqB (fun kx_ => sb_asg (sl' := [sv tree_174, sv deep_175, sv extra_176, sv kind_178, sv name_179, sv own_180, sv what_181, sv parts_182, sv setting_185, .any, .any, .any, .any, .any, .any]) rfl (EV.cast (EN.ev (en_call (ea_cons (ev_of (ev_var (i := 3) rfl) h_o_183) (ea_cons (ev_var (i := 6) rfl) ea_nil)) h_r_184)) (Option.some.inj h_setting_185)) (kx_ _ _ ?_))
    obtain ⟨zs_187, h_zs_187, hf⟩ := bind_some hf
    obtain ⟨texts_188, h_texts_188, hf⟩ := bind_some hf
    refine SB.seqB (fun kx_ => sb_asg (sl' := [sv tree_174, sv deep_175, sv extra_176, sv kind_178, sv name_179, sv own_180, sv what_181, sv parts_182, sv setting_185, sv texts_188, .any, .any, .any, .any, .any]) rfl (EV.cast (EN.ev (en_lc (js := [14]) (fun x => [sv tree_174, sv deep_175, sv extra_176, sv kind_178, sv name_179, sv own_180, sv what_181, sv parts_182, sv setting_185, .any, .any, .any, .any, .any, sv x]) h_zs_187 (it_list (ev_var (i := 8) rfl)) (anyAt_of (by rfl)) (fun x => (gt_name rfl)) (sub_of (by rfl)) (fun _ _ x b h => by obtain ⟨word_186, hx_⟩ : ∃ y, y = x := ⟨x, rfl⟩; subst hx_; have hz_ := Option.some.inj h; subst hz_; exact ET.is (sl' := [sv tree_174, sv deep_175, sv extra_176, sv kind_178, sv name_179, sv own_180, sv what_181, sv parts_182, sv setting_185, .any, .any, .any, .any, .any, sv word_186]) rfl (et_B (ev_starts (ev_var (i := 14) rfl) (ev_str ("text=" : Str))))) (fun _ _ x z _ h => by obtain ⟨word_186, hx_⟩ : ∃ y, y = x := ⟨x, rfl⟩; subst hx_; have hz_ := Option.some.inj h; subst hz_; exact EV.is (sl' := [sv tree_174, sv deep_175, sv extra_176, sv kind_178, sv name_179, sv own_180, sv what_181, sv parts_182, sv setting_185, .any, .any, .any, .any, .any, sv word_186]) rfl (ev_var (i := 14) rfl)))) (Option.some.inj h_texts_188)) (kx_ _ _ ?_))
    obtain ⟨o_189, h_o_189, hf⟩ := bind_some hf
    obtain ⟨o_190, h_o_190, hf⟩ := bind_some hf
    obtain ⟨r_191, h_r_191, hf⟩ := bind_some hf
    obtain ⟨cat_192, h_cat_192, hf⟩ := bind_some hf
    obtain ⟨o_193, h_o_193, hf⟩ := bind_some hf
    obtain ⟨r_194, h_r_194, hf⟩ := bind_some hf
    obtain ⟨cat_195, h_cat_195, hf⟩ := bind_some hf
    obtain ⟨words_196, h_words_196, hf⟩ := bind_some hf
    refine SB.seqB (fun kx_ => sb_asg (sl' := [sv tree_174, sv deep_175, sv extra_176, sv kind_178, sv name_179, sv own_180, sv what_181, sv parts_182, sv setting_185, sv texts_188, sv words_196, .any, .any, .any, .any]) rfl (EV.cast (EN.ev (en_op (EN.ev (en_op (EN.ev (en_lst (el_cons (ev_of (ev_var (i := 3) rfl) h_o_189) (el_cons (ev_of (ev_var (i := 4) rfl) h_o_190) el_nil)))) (EN.ev (en_call (ea_cons (ev_var (i := 5) rfl) ea_nil) h_r_191)) (r2_catO h_cat_192))) (EN.ev (en_call (ea_cons (ev_of (ev_var (i := 3) rfl) h_o_193) (ea_cons (ev_var (i := 6) rfl) ea_nil)) h_r_194)) (r2_catO h_cat_195))) (Option.some.inj h_words_196)) (kx_ _ _ ?_))
    obtain ⟨zs_198, h_zs_198, hf⟩ := bind_some hf
    obtain ⟨cat_199, h_cat_199, hf⟩ := bind_some hf
    obtain ⟨cat_200, h_cat_200, hf⟩ := bind_some hf
    obtain ⟨cat_201, h_cat_201, hf⟩ := bind_some hf
    obtain ⟨words_202, h_words_202, hf⟩ := bind_some hf
    refine SB.seqB (fun kx_ => sb_asg (sl' := [sv tree_174, sv deep_175, sv extra_176, sv kind_178, sv name_179, sv own_180, sv what_181, sv parts_182, sv setting_185, sv texts_188, sv words_202, .any, .any, .any, .any]) rfl (EV.cast (EN.ev (en_op (EN.ev (en_op (EN.ev (en_op (ev_var (i := 10) rfl) (EN.ev (en_lc (js := [14]) (fun x => [sv tree_174, sv deep_175, sv extra_176, sv kind_178, sv name_179, sv own_180, sv what_181, sv parts_182, sv setting_185, sv texts_188, sv words_196, .any, .any, .any, sv x]) h_zs_198 (it_list (ev_var (i := 8) rfl)) (anyAt_of (by rfl)) (fun x => (gt_name rfl)) (sub_of (by rfl)) (fun _ _ x b h => by obtain ⟨word_197, hx_⟩ : ∃ y, y = x := ⟨x, rfl⟩; subst hx_; have hz_ := Option.some.inj h; subst hz_; exact ET.is (sl' := [sv tree_174, sv deep_175, sv extra_176, sv kind_178, sv name_179, sv own_180, sv what_181, sv parts_182, sv setting_185, sv texts_188, sv words_196, .any, .any, .any, sv word_197]) rfl (et_test (ev_op (ev_var (i := 14) rfl) (ev_var (i := 9) rfl) r2_notIn))) (fun _ _ x z _ h => by obtain ⟨word_197, hx_⟩ : ∃ y, y = x := ⟨x, rfl⟩; subst hx_; have hz_ := Option.some.inj h; subst hz_; exact EV.is (sl' := [sv tree_174, sv deep_175, sv extra_176, sv kind_178, sv name_179, sv own_180, sv what_181, sv parts_182, sv setting_185, sv texts_188, sv words_196, .any, .any, .any, sv word_197]) rfl (ev_var (i := 14) rfl)))) (r2_catO h_cat_199))) (ev_var (i := 2) rfl) (r2_catO h_cat_200))) (ev_var (i := 9) rfl) (r2_catO h_cat_201))) (Option.some.inj h_words_202)) (kx_ _ _ ?_))
    obtain ⟨t_203, h_t_203, hf⟩ := bind_some hf
    obtain ⟨j_204, h_j_204, hf⟩ := bind_some hf
    obtain ⟨t_205, h_t_205, hf⟩ := bind_some hf
    obtain ⟨rows_206, h_rows_206, hf⟩ := bind_some hf
    refine SB.seqB (fun kx_ => sb_asgO (sl' := fun p_rows_206 => [sv tree_174, sv deep_175, sv extra_176, sv kind_178, sv name_179, sv own_180, sv what_181, sv parts_182, sv setting_185, sv texts_188, sv words_202, .at p_rows_206, .any, .any, .any]) (fun _ => rfl) (EN.cast (en_lst (el_cons (ev_op (ev_op (ev_str ("  " : Str)) (ev_var (i := 1) rfl) (r2_mulS h_t_203)) (ev_joinO (ev_str (" " : Str)) (ev_var (i := 10) rfl) h_j_204) (r2_addS h_t_205)) el_nil)) (Option.some.inj h_rows_206)) (fun p_rows_206 => (kx_ _ _ ?_)))
    obtain ⟨o_207, h_o_207, hf⟩ := bind_some hf
    obtain ⟨rows_219, h_tot_215, hf⟩ := bind_some hf
    refine SB.seqB (fun kx_220 => sb_for (β := (Int × Dy × Unit)) (Sx := (List Str)) (fun s => [sv tree_174, sv deep_175, sv extra_176, sv kind_178, sv name_179, sv own_180, sv what_181, sv parts_182, sv setting_185, sv texts_188, sv words_202, .at p_rows_206, .any, .any, .any]) (fun s => [ol p_rows_206 s]) (fun x s => [sv tree_174, sv deep_175, sv extra_176, sv kind_178, sv name_179, sv own_180, sv what_181, sv parts_182, sv setting_185, sv texts_188, sv words_202, .at p_rows_206, sv x.1, sv x.2.1, .any]) [12, 13] (fun xs s => forS (m_rows_told_L1 rec_rows_told tree_174 deep_175) xs s = some rows_219) rows_206 (IT.m (it_enumT (ea_cons (ev_of (ev_var (i := 7) rfl) h_o_207) ea_nil))) h_tot_215 (.keep (.keep (.keep (.keep (.keep (.keep (.keep (.keep (.keep (.keep (.keep (.keep (.keep (.keep (.keep .nil))))))))))))))) (List.Sublist.refl _) (fun x s => (gt_tup (gts_cons (gt_name rfl) (gts_cons (gt_name rfl) gts_nil)))) ?_ ?_)
    · intro Kn1 b1 x_ rest_ rows_208 hP_212 N_ hN_211
      obtain ⟨at_209, part_210, _⟩ := x_
      obtain ⟨c_, hc_213, hP_212⟩ := bind_some hP_212
      have q_214 := q.base b1
      unfold m_rows_told_L1 at hc_213
      refine SB.is (sl' := [sv tree_174, sv deep_175, sv extra_176, sv kind_178, sv name_179, sv own_180, sv what_181, sv parts_182, sv setting_185, sv texts_188, sv words_202, .at p_rows_206, sv at_209, sv part_210, .any]) (ow1 := [ol p_rows_206 rows_208]) rfl rfl ?_
      obtain ⟨r_216, h_r_216, hc_213⟩ := bind_some hc_213
      obtain ⟨r_217, h_r_217, hc_213⟩ := bind_some hc_213
      obtain ⟨rows_218, h_rows_218, hc_213⟩ := bind_some hc_213
      refine sb_extO (i := 11) (j := 0) rfl rfl (EN.ev (en_call (ea_cons (ev_var (i := 13) rfl) (ea_cons (ev_op (ev_var (i := 1) rfl) (ev_int 1) r2_add) (ea_cons (EN.ev (en_call (ea_cons (ev_var (i := 0) rfl) (ea_cons (ev_var (i := 12) rfl) ea_nil)) h_r_216)) ea_nil))) h_r_217)) h_rows_218 (ow1 := [ol p_rows_206 rows_218]) rfl ?_
      cases hc_213
      exact fun σ Kn H s => hN_211 _ hP_212 σ Kn H ((s.le (.keep (.keep (.keep (.keep (.keep (.keep (.keep (.keep (.keep (.keep (.keep (.keep (.drop (.drop (.keep .nil)))))))))))))))).sub (List.Sublist.refl _))
    · intro s_ h0
      cases h0
      refine kx_220 _ _ ?_
      refine SB.is (sl' := [sv tree_174, sv deep_175, sv extra_176, sv kind_178, sv name_179, sv own_180, sv what_181, sv parts_182, sv setting_185, sv texts_188, sv words_202, .at p_rows_206, .any, .any, .any]) (ow1 := [ol p_rows_206 rows_219]) rfl rfl ?_
      cases hf
      exact sb_retO (i := 11) (j := 0) rfl rfl q (List.Sublist.cons _ List.Sublist.slnil)
theorem ok_rows_told (T : TX K mg w) : ∀ n : Nat, FnOk P w K mg base CX0 (3 + n) T.a_rows_told T.d_rows_told ["tree", "deep", "extra"] (PL (τ := Dy × Int × (List Str) × Unit) K (fun t => m_rows_told n t.1 t.2.1 t.2.2.1))
  | 0 => fnok_noneL
  | n + 1 => step_rows_told T (m_rows_told n) (Nat.le_add_right _ _) (ok_rows_told T n)
theorem sc_tree_text : FnScope ["tree"] ["tree"] (defScope s_tree_text) := ⟨rfl, rfl, rfl, by decide +kernel, rfl, by decide +kernel, by decide +kernel⟩
set_option maxHeartbeats 4000000 in
theorem ok_tree_text (T : TX K mg w) : FnOk P w K mg base CX0 13 T.a_tree_text T.d_tree_text ["tree"] (PF (τ := Dy × Unit) K (fun t => m_tree_text t.1)) := by
  refine T.F_tree_text.ok sc_tree_text (fun vs H Q E h => ?_) (fun cdv A outer s H vs Q E hr h => ?_)
  · obtain ⟨Kn, t, r, ek, h, hf, q⟩ := h
    exact Tp.len h
  · obtain ⟨Kn, t, r_, ek, h, hf, q⟩ := h
    obtain ⟨tree_221, u_⟩ := t
    obtain ⟨v_0, rr_, rfl, hv_0, h⟩ := h
    obtain rfl := h
    replace hf : m_tree_text tree_221 = some r_ := hf
    unfold m_tree_text at hf
    refine ⟨_, (pss_one (ps_ret (k_join pe_str (pe_call (ok_rows_told T 9) hr (by rfl) T.g_rows_told T.F_rows_told.kp T.b_rows_told .nil pass0 (pa_cons (pv 0) (pa_cons pe_int (pa_cons (pe_lst pa_nil) pa_nil))))))), ?_⟩
    refine enter (Kn := Kn) (sl := [sv tree_221]) ek ⟨⟨v_0, rfl, hv_0⟩, trivial⟩ ?_
    have q := rt_of q
    obtain ⟨r_222, h_r_222, hf⟩ := bind_some hf
    obtain ⟨j_223, h_j_223, hf⟩ := bind_some hf
    cases hf
    exact sb_ret (ev_joinO (ev_str ("\n" : Str)) (EN.ev (en_call (ea_cons (ev_var (i := 0) rfl) (ea_cons (ev_int 0) (ea_cons (EN.ev (en_lst el_nil)) ea_nil))) h_r_222)) h_j_223) q (List.Sublist.refl _)
theorem sc__law_stream : FnScope ["_law_script", "_law_seed", "_law_cell", "_law_digits"] ["_law_script"] (defScope s__law_stream) := ⟨rfl, rfl, rfl, by decide +kernel, rfl, by decide +kernel, by decide +kernel⟩
set_option maxHeartbeats 4000000 in
theorem ok__law_stream (T : TX K mg w) : FnOk P w K mg base CX0 1 T.a__law_stream T.d__law_stream ["_law_script"] (PL (τ := (Fz Int) × Unit) K (fun t => m__law_stream t.1)) := by
  refine T.F__law_stream.ok sc__law_stream (fun vs H Q E h => ?_) (fun cdv A outer s H vs Q E hr h => ?_)
  · obtain ⟨Kn, t, r, ek, h, hf, q⟩ := h
    exact Tp.len h
  · obtain ⟨Kn, t, r_, ek, h, hf, q⟩ := h
    obtain ⟨script_224, u_⟩ := t
    obtain ⟨v_0, rr_, rfl, hv_0, h⟩ := h
    obtain rfl := h
    replace hf : m__law_stream script_224 = some r_ := hf
    unfold m__law_stream at hf
    refine ⟨_, (pss_cons (ps_set (i := 1) sc__law_stream.nd rfl (.inl rfl) pe_int)
      (pss_cons (ps_for PassesOwn.never rfl (kpi_list (pe_slice k_sll (pv 0) po_none (po_some pe_int))) (pg_name (i := 2) sc__law_stream.nd rfl (.inl rfl)) (pss_one (ps_set (i := 1) sc__law_stream.nd rfl (.inl rfl) (pe_op op_mod (pe_op op_add (pe_op op_mul (pv 1) pe_int) (pv 2)) pe_int))))
      (pss_cons (ps_set (i := 3) sc__law_stream.nd rfl (.inl rfl) pe_int)
      (Evl.pss_cut (ps_if (PW.pt (pw_and (pt_cmpR op_gt (pe_callB k_len (by rfl) T.z_len PySem.boot_len (pa_cons (pv 0) pa_nil)) pe_int (nomark _)) (pw_and1 (pt_cmpR op_eq (pe_op op_mod (pe_ix k_ixl (pv 0) pe_int (fun _ _ => rfl)) pe_int) pe_int (nomark _))))) (pss_one (ps_set (i := 3) sc__law_stream.nd rfl (.inl rfl) (pe_callB call_abs (by rfl) T.z_abs (by decide +kernel) (pa_cons (pe_ix k_ixl (pv 0) pe_int (fun _ _ => rfl)) pa_nil)))) pss_nil)
      (pss_one (ps_ret (pe_lst (pa_cons (pv 3) (pa_cons (pv 1) pa_nil))))))))), ?_⟩
    refine enter (Kn := Kn) (sl := [sv script_224, .any, .any, .any]) ek ⟨⟨v_0, rfl, hv_0⟩, trivial, trivial, trivial, trivial⟩ ?_
    have q := rn_of q
    obtain ⟨seed_225, h_seed_225, hf⟩ := bind_some hf
    refine SB.seqB (fun kx_ => sb_asg (sl' := [sv script_224, sv seed_225, .any, .any]) rfl (EV.cast (ev_int 7) (Option.some.inj h_seed_225)) (kx_ _ _ ?_))
    obtain ⟨seed_234, h_tot_232, hf⟩ := bind_some hf
    refine SB.seqB (fun kx_235 => sb_for (β := Int) (Sx := Int) (fun s => [sv script_224, sv s, .any, .any]) (fun s => []) (fun x s => [sv script_224, sv s, sv x, .any]) [2] (fun xs s => forS (m__law_stream_L1) xs s = some seed_234) seed_225 (IT.m (it_list (EN.ev (en_slF (ev_var (i := 0) rfl) eo_none (eo_some (ev_int 63)))))) h_tot_232 (.keep (.keep (.keep (.keep .nil)))) (List.Sublist.refl _) (fun x s => (gt_name rfl)) ?_ ?_)
    · intro Kn1 b1 cell_227 rest_ seed_226 hP_229 N_ hN_228
      obtain ⟨c_, hc_230, hP_229⟩ := bind_some hP_229
      have q_231 := q.base b1
      unfold m__law_stream_L1 at hc_230
      refine SB.is (sl' := [sv script_224, sv seed_226, sv cell_227, .any]) (ow1 := []) rfl rfl ?_
      obtain ⟨seed_233, h_seed_233, hc_230⟩ := bind_some hc_230
      refine sb_asg (sl' := [sv script_224, sv seed_233, sv cell_227, .any]) rfl (EV.cast (ev_op (ev_op (ev_op (ev_var (i := 1) rfl) (ev_int 1000003) r2_mulr) (ev_var (i := 2) rfl) r2_add) (ev_int 2305843009213693951) r2_mod) (Option.some.inj h_seed_233)) ?_
      cases hc_230
      exact fun σ Kn H s => hN_228 _ hP_229 σ Kn H ((s.le (.keep (.keep (.drop (.keep .nil))))).sub (List.Sublist.refl _))
    · intro s_ h0
      cases h0
      refine kx_235 _ _ ?_
      refine SB.is (sl' := [sv script_224, sv seed_234, .any, .any]) (ow1 := []) rfl rfl ?_
      obtain ⟨digits_236, h_digits_236, hf⟩ := bind_some hf
      refine SB.seqB (fun kx_ => sb_asg (sl' := [sv script_224, sv seed_234, .any, sv digits_236]) rfl (EV.cast (ev_int 0) (Option.some.inj h_digits_236)) (kx_ _ _ ?_))
      obtain ⟨b_239, h_b_239, hf⟩ := bind_some hf
      obtain ⟨digits_243, hj_237, hf⟩ := bind_some hf
      refine SB.cutB (sl' := [sv script_224, sv seed_234, .any, sv digits_243]) (ow1 := []) (fun km_244 => sb_if (b := b_239) (et_andO h_b_239 (et_test (ev_op (ev_cb (ea_cons (ev_var (i := 0) rfl) ea_nil) rc_lenF) (ev_int 1) r2_gt)) (fun _ _ h => by obtain ⟨i_238, h_i_238, h⟩ := bind_some h; have hz_ := Option.some.inj h; subst hz_; exact (et_test (ev_op (ev_op (ev_op (ev_var (i := 0) rfl) (ev_int 0) (r2_ixF h_i_238)) (ev_int 2) r2_mod) (ev_int 0) r2_eqI)))) (fun hb_240 => ?_) (fun hb_240 => ?_)) ?_
      · have hj_237 := ite_t hb_240 hj_237
        obtain ⟨i_241, h_i_241, hj_237⟩ := bind_some hj_237
        obtain ⟨digits_242, h_digits_242, hj_237⟩ := bind_some hj_237
        refine sb_asg (sl' := [sv script_224, sv seed_234, .any, sv digits_242]) rfl (EV.cast (ev_cb (ea_cons (ev_op (ev_var (i := 0) rfl) (ev_int 1) (r2_ixF h_i_241)) ea_nil) rc_abs) (Option.some.inj h_digits_242)) ?_
        cases hj_237
        exact km_244 _ _ (.keep (.keep (.keep (.keep .nil)))) (List.Sublist.refl _)
      · have hj_237 := ite_f hb_240 hj_237
        refine sb_nx ?_
        cases hj_237
        exact km_244 _ _ (.keep (.keep (.keep (.keep .nil)))) (List.Sublist.refl _)
      cases hf
      exact sb_retL (en_lst (el_cons (ev_var (i := 3) rfl) (el_cons (ev_var (i := 1) rfl) el_nil))) q (List.Sublist.refl _)
theorem sc__law_take : FnScope ["_law_stream_here", "_law_many", "_law_digit"] ["_law_stream_here", "_law_many"] (defScope s__law_take) := ⟨rfl, rfl, rfl, by decide +kernel, rfl, by decide +kernel, by decide +kernel⟩
set_option maxHeartbeats 4000000 in
theorem ok__law_take (T : TX K mg w) : FnOk P w K mg base CX0 1 T.a__law_take T.d__law_take ["_law_stream_here", "_law_many"] (PM (τ := Int × Unit) K (fun xs t => m__law_take xs t.1)) := by
  refine T.F__law_take.ok sc__law_take (fun vs H Q E h => ?_) (fun cdv A outer s H vs Q E hr h => ?_)
  · obtain ⟨Kn, p, ws, rest, t, xs, r, xs', rfl, ek, kp, hp, hw, h, hf, q⟩ := h
    show rest.length + 1 = _
    rw [Tp.len h]
    rfl
  · obtain ⟨Kn, p_0, ws, rest, t, stream_here_245, r_, xs_, rfl, ek, kp, hp, hw, h, hf, q⟩ := h
    obtain ⟨many_246, u_⟩ := t
    obtain ⟨v_1, rr_, rfl, hv_0, h⟩ := h
    obtain rfl := h
    replace hf : m__law_take stream_here_245 many_246 = some (r_, xs_) := hf
    unfold m__law_take at hf
    refine ⟨_, (pss_cons (ps_if (pt_cmpR op_gt (pe_ix k_ixl (pv 0) pe_int (fun _ _ => rfl)) pe_int (nomark _)) (pss_cons (ps_set (i := 2) sc__law_take.nd rfl (.inl rfl) (pe_op op_mod (pe_ix k_ixl (pv 0) pe_int (fun _ _ => rfl)) (pv 1)))
      (pss_cons (ps_asg (pe_op op_fdivW (pe_ix k_ixl (pv 0) pe_int (fun _ _ => rfl)) (pv 1)) (pg_sub (pv 0) pe_int set_list))
      (pss_one (ps_ret (pv 2))))) pss_nil)
      (pss_cons (ps_asg (pe_op op_mod (pe_op op_add (pe_op op_mul (pe_ix k_ixl (pv 0) pe_int (fun _ _ => rfl)) pe_int) pe_int) pe_int) (pg_sub (pv 0) pe_int set_list))
      (pss_one (ps_ret (pe_op op_mod (pe_op op_add (pe_op op_mod (pe_op op_mul (pe_ix k_ixl (pv 0) pe_int (fun _ _ => rfl)) pe_int) pe_int) (pe_op op_fdivW (pe_ix k_ixl (pv 0) pe_int (fun _ _ => rfl)) pe_int)) (pv 1)))))), ?_⟩
    refine enterM (sl := [.at p_0, sv many_246, .any]) (p := p_0) (xs := stream_here_245) ek kp hp hw ⟨rfl, ⟨v_1, rfl, hv_0⟩, trivial, trivial⟩ ?_
    have q := rt_ofM kp q
    clear hp hw ek kp
    obtain ⟨i_248, h_i_248, hf⟩ := bind_some hf
    refine SB.seqB (fun kx_250 => sb_if (b := (decide ((0 : Int) < i_248))) (et_test (ev_bor (i := 0) (j := 0) (sl' := [sv stream_here_245, sv many_246, .any]) (ow1 := []) rfl rfl rfl rfl (ev_op (ev_op (ev_var (i := 0) rfl) (ev_int 0) (r2_ixL h_i_248)) (ev_int 0) r2_gt))) (fun hb_249 => ?_) (fun hb_249 => ?_))
    · have hf := ite_t hb_249 hf
      obtain ⟨i_251, h_i_251, hf⟩ := bind_some hf
      obtain ⟨r_252, h_r_252, hf⟩ := bind_some hf
      obtain ⟨digit_253, h_digit_253, hf⟩ := bind_some hf
      refine SB.seqB (fun kx_ => sb_asg (sl' := [.at p_0, sv many_246, sv digit_253]) rfl (EV.cast (ev_op (ev_ixO (i := 0) (j := 0) rfl rfl (ev_int 0) h_i_251) (ev_var (i := 1) rfl) (r2_modO h_r_252)) (Option.some.inj h_digit_253)) (kx_ _ _ ?_))
      obtain ⟨i_254, h_i_254, hf⟩ := bind_some hf
      obtain ⟨q_255, h_q_255, hf⟩ := bind_some hf
      obtain ⟨stream_here_256, h_stream_here_256, hf⟩ := bind_some hf
      refine SB.seqB (fun kx_ => sb_setO (i := 0) (j := 0) rfl rfl (ev_op (ev_ixO (i := 0) (j := 0) rfl rfl (ev_int 0) h_i_254) (ev_var (i := 1) rfl) (r2_divO h_q_255)) (ev_int 0) h_stream_here_256 (ow1 := [ol p_0 stream_here_256]) rfl (kx_ _ _ ?_))
      cases hf
      exact sb_ret (ev_var (i := 2) rfl) q (List.Sublist.refl _)
    · have hf := ite_f hb_249 hf
      refine sb_nx ?_
      refine kx_250 _ _ ?_
      obtain ⟨i_257, h_i_257, hf⟩ := bind_some hf
      obtain ⟨stream_here_258, h_stream_here_258, hf⟩ := bind_some hf
      refine SB.seqB (fun kx_ => sb_setO (i := 0) (j := 0) rfl rfl (ev_op (ev_op (ev_op (ev_ixO (i := 0) (j := 0) rfl rfl (ev_int 1) h_i_257) (ev_int 48271) r2_mulr) (ev_int 1013904223) r2_add) (ev_int 2305843009213693951) r2_mod) (ev_int 1) h_stream_here_258 (ow1 := [ol p_0 stream_here_258]) rfl (kx_ _ _ ?_))
      obtain ⟨i_259, h_i_259, hf⟩ := bind_some hf
      obtain ⟨i_260, h_i_260, hf⟩ := bind_some hf
      obtain ⟨r_261, h_r_261, hf⟩ := bind_some hf
      cases hf
      exact sb_ret (ev_op (ev_op (ev_op (ev_op (ev_ixO (i := 0) (j := 0) rfl rfl (ev_int 1) h_i_259) (ev_int 69621) r2_mulr) (ev_int 2147483629) r2_mod) (ev_op (ev_ixO (i := 0) (j := 0) rfl rfl (ev_int 1) h_i_260) (ev_int 2147483647) r2_divw) r2_add) (ev_var (i := 1) rfl) (r2_modO h_r_261)) q (List.Sublist.refl _)
theorem sc__law_names : FnScope ["_law_stream_here", "_law_many", "_law_letters", "_law_names_here", "_law_k", "_law_name", "_law_j", "_law_turn", "_law_other"] ["_law_stream_here", "_law_many"] (defScope s__law_names) := ⟨rfl, rfl, rfl, by decide +kernel, rfl, by decide +kernel, by decide +kernel⟩
set_option maxHeartbeats 4000000 in
theorem ok__law_names (T : TX K mg w) : FnOk P w K mg base CX0 2 T.a__law_names T.d__law_names ["_law_stream_here", "_law_many"] (PM (τ := Int × Unit) K (fun xs t => m__law_names xs t.1)) := by
  refine T.F__law_names.ok sc__law_names (fun vs H Q E h => ?_) (fun cdv A outer s H vs Q E hr h => ?_)
  · obtain ⟨Kn, p, ws, rest, t, xs, r, xs', rfl, ek, kp, hp, hw, h, hf, q⟩ := h
    show rest.length + 1 = _
    rw [Tp.len h]
    rfl
  · obtain ⟨Kn, p_0, ws, rest, t, stream_here_262, r_, xs_, rfl, ek, kp, hp, hw, h, hf, q⟩ := h
    obtain ⟨many_263, u_⟩ := t
    obtain ⟨v_1, rr_, rfl, hv_0, h⟩ := h
    obtain rfl := h
    replace hf : m__law_names stream_here_262 many_263 = some (r_, xs_) := hf
    unfold m__law_names at hf
    refine ⟨_, (pss_cons (ps_set (i := 2) sc__law_names.nd rfl (.inl rfl) pe_str)
      (pss_cons (ps_set (i := 3) sc__law_names.nd rfl (.inl rfl) (pe_lst pa_nil))
      (pss_cons (ps_for PassesOwn.never rfl (pi_range1 (by rfl) T.z_range (pa_cons (pv 1) pa_nil)) (pg_name (i := 4) sc__law_names.nd rfl (.inl rfl)) (pss_cons (ps_set (i := 5) sc__law_names.nd rfl (.inl rfl) pe_str)
      (pss_cons (ps_for PassesOwn.never rfl (pi_range1 (by rfl) T.z_range (pa_cons (pe_call (ok__law_take T) hr (by rfl) T.g__law_take T.F__law_take.kp T.b__law_take .nil pass0 (pa_cons (pv 0) (pa_cons pe_int pa_nil))) pa_nil)) (pg_name (i := 6) sc__law_names.nd rfl (.inl rfl)) (pss_one (ps_set (i := 5) sc__law_names.nd rfl (.inl rfl) (pe_op op_add_str (pv 5) (pe_ix ix_str (pv 2) (pe_call (ok__law_take T) hr (by rfl) T.g__law_take T.F__law_take.kp T.b__law_take .nil pass0 (pa_cons (pv 0) (pa_cons pe_int pa_nil))) (fun _ _ => rfl))))))
      (pss_cons (ps_set (i := 7) sc__law_names.nd rfl (.inl rfl) (pv 4))
      (pss_cons (ps_while PassesOwn.never (PW.pt (pw_or (pt_cmpR k_in (pv 5) (pv 3) (by rfl)) (pw_or1 (pt_cmpR op_eq (pv 5) pe_str (nomark _))))) (pss_cons (ps_set (i := 8) sc__law_names.nd rfl (.inl rfl) (pe_ix ix_str (pv 2) (pe_op op_mod (pe_op op_add (pe_op op_fdiv (pv 7) pe_int) (pe_callB call_len_str (by rfl) T.z_len PySem.boot_len (pa_cons (pv 5) pa_nil))) pe_int) (fun _ _ => rfl)))
      (pss_cons (ps_set (i := 5) sc__law_names.nd rfl (.inl rfl) (pe_op op_add_str (pe_op op_add_str (pe_ix ix_str (pv 2) (pe_op op_mod (pv 7) pe_int) (fun _ _ => rfl)) (pv 8)) (pe_slice sl_str (pv 5) po_none (po_some pe_int))))
      (pss_one (ps_set (i := 7) sc__law_names.nd rfl (.inl rfl) (pe_op op_add (pv 7) pe_int))))))
      (pss_one (ps_expr (pe_bm PySem.F.plainAttrs_list PySem.F.slot_list_append PySem.F.type_list_append mt_append (pv 3) (pa_cons (pv 5) pa_nil)))))))))
      (pss_one (ps_ret (pv 3)))))), ?_⟩
    refine enterM (sl := [.at p_0, sv many_263, .any, .any, .any, .any, .any, .any, .any]) (p := p_0) (xs := stream_here_262) ek kp hp hw ⟨rfl, ⟨v_1, rfl, hv_0⟩, trivial, trivial, trivial, trivial, trivial, trivial, trivial, trivial⟩ ?_
    have q := rt_ofM kp q
    clear hp hw ek kp
    obtain ⟨letters_264, h_letters_264, hf⟩ := bind_some hf
    refine SB.seqB (fun kx_ => sb_asg (sl' := [.at p_0, sv many_263, sv letters_264, .any, .any, .any, .any, .any, .any]) rfl (EV.cast (ev_str ("abcdefghijklmnopqrstuvwxyz" : Str)) (Option.some.inj h_letters_264)) (kx_ _ _ ?_))
    obtain ⟨names_here_265, h_names_here_265, hf⟩ := bind_some hf
    refine SB.seqB (fun kx_ => sb_asgO (sl' := fun p_names_here_265 => [.at p_0, sv many_263, sv letters_264, .at p_names_here_265, .any, .any, .any, .any, .any]) (fun _ => rfl) (EN.cast (en_lst el_nil) (Option.some.inj h_names_here_265)) (fun p_names_here_265 => (kx_ _ _ ?_)))
    obtain ⟨rg_266, h_rg_266, hf⟩ := bind_some hf
    obtain ⟨⟨names_here_316, stream_here_317⟩, h_tot_274, hf⟩ := bind_some hf
    refine SB.seqB (fun kx_318 => sb_for (β := Int) (Sx := (List Str) × (List Int)) (fun s => [.at p_0, sv many_263, sv letters_264, .at p_names_here_265, .any, .any, .any, .any, .any]) (fun s => [ol p_names_here_265 s.1, ol p_0 s.2]) (fun x s => [.at p_0, sv many_263, sv letters_264, .at p_names_here_265, sv x, .any, .any, .any, .any]) [4] (fun xs s => forS (m__law_names_L1 letters_264) xs s = some (names_here_316, stream_here_317)) (names_here_265, stream_here_262) (IT.m (it_rng1 (ea_cons (ev_var (i := 1) rfl) ea_nil) h_rg_266)) h_tot_274 (.keep (.keep (.keep (.keep (.keep (.keep (.keep (.keep (.keep .nil))))))))) (List.Sublist.refl _) (fun x s => (gt_name rfl)) ?_ ?_)
    · intro Kn1 b1 k_269 rest_ s_ hP_271 N_ hN_270
      obtain ⟨names_here_267, stream_here_268⟩ := s_
      obtain ⟨c_, hc_272, hP_271⟩ := bind_some hP_271
      have q_273 := q.base b1
      unfold m__law_names_L1 at hc_272
      refine SB.is (sl' := [.at p_0, sv many_263, sv letters_264, .at p_names_here_265, sv k_269, .any, .any, .any, .any]) (ow1 := [ol p_names_here_265 names_here_267, ol p_0 stream_here_268]) rfl rfl ?_
      obtain ⟨name_275, h_name_275, hc_272⟩ := bind_some hc_272
      refine SB.seqB (fun kx_ => sb_asg (sl' := [.at p_0, sv many_263, sv letters_264, .at p_names_here_265, sv k_269, sv name_275, .any, .any, .any]) rfl (EV.cast (ev_str ("" : Str)) (Option.some.inj h_name_275)) (kx_ _ _ ?_))
      obtain ⟨⟨r_276, stream_here_277⟩, h_r_276, hc_272⟩ := bind_some hc_272
      obtain ⟨rg_278, h_rg_278, hc_272⟩ := bind_some hc_272
      obtain ⟨⟨name_292, stream_here_293⟩, h_tot_286, hc_272⟩ := bind_some hc_272
      refine SB.seqB (fun kx_294 => sb_for (β := Int) (Sx := Str × (List Int)) (fun s => [.at p_0, sv many_263, sv letters_264, .at p_names_here_265, sv k_269, sv s.1, .any, .any, .any]) (fun s => [ol p_names_here_265 names_here_267, ol p_0 s.2]) (fun x s => [.at p_0, sv many_263, sv letters_264, .at p_names_here_265, sv k_269, sv s.1, sv x, .any, .any]) [6] (fun xs s => forS (m__law_names_L2 letters_264) xs s = some (name_292, stream_here_293)) (name_275, stream_here_277) (itm_rng1 (eam_cons (em_callM (i := 0) (j := 1) rfl (EA.eam (ea_cons (ev_int 8) ea_nil)) rfl h_r_276) eam_nil) h_rg_278) h_tot_286 (.keep (.keep (.keep (.keep (.keep (.keep (.keep (.keep (.keep .nil))))))))) (List.Sublist.refl _) (fun x s => (gt_name rfl)) ?_ ?_)
      · intro Kn1 b1 j_281 rest_ s_ hP_283 N_ hN_282
        obtain ⟨name_279, stream_here_280⟩ := s_
        obtain ⟨c_, hc_284, hP_283⟩ := bind_some hP_283
        have q_285 := q_273.base b1
        unfold m__law_names_L2 at hc_284
        refine SB.is (sl' := [.at p_0, sv many_263, sv letters_264, .at p_names_here_265, sv k_269, sv name_279, sv j_281, .any, .any]) (ow1 := [ol p_names_here_265 names_here_267, ol p_0 stream_here_280]) rfl rfl ?_
        obtain ⟨⟨r_287, stream_here_288⟩, h_r_287, hc_284⟩ := bind_some hc_284
        obtain ⟨i_289, h_i_289, hc_284⟩ := bind_some hc_284
        obtain ⟨t_290, h_t_290, hc_284⟩ := bind_some hc_284
        obtain ⟨name_291, h_name_291, hc_284⟩ := bind_some hc_284
        refine sb_asgM (sl' := [.at p_0, sv many_263, sv letters_264, .at p_names_here_265, sv k_269, sv name_291, sv j_281, .any, .any]) rfl (EM.cast (em_op (EV.em (ev_var (i := 5) rfl)) (em_op (EV.em (ev_var (i := 2) rfl)) (em_callM (i := 0) (j := 1) rfl (EA.eam (ea_cons (ev_int 26) ea_nil)) rfl h_r_287) (r2_ixS h_i_289)) (r2_addS h_t_290)) (Option.some.inj h_name_291)) ?_
        cases hc_284
        exact fun σ Kn H s => hN_282 _ hP_283 σ Kn H ((s.le (.keep (.keep (.keep (.keep (.keep (.keep (.drop (.keep (.keep .nil)))))))))).sub (List.Sublist.refl _))
      · intro s_ h0
        cases h0
        refine kx_294 _ _ ?_
        refine SB.is (sl' := [.at p_0, sv many_263, sv letters_264, .at p_names_here_265, sv k_269, sv name_292, .any, .any, .any]) (ow1 := [ol p_names_here_265 names_here_267, ol p_0 stream_here_293]) rfl rfl ?_
        obtain ⟨turn_295, h_turn_295, hc_272⟩ := bind_some hc_272
        refine SB.seqB (fun kx_ => sb_asg (sl' := [.at p_0, sv many_263, sv letters_264, .at p_names_here_265, sv k_269, sv name_292, .any, sv turn_295, .any]) rfl (EV.cast (ev_var (i := 4) rfl) (Option.some.inj h_turn_295)) (kx_ _ _ ?_))
        obtain ⟨⟨name_312, turn_313⟩, h_tot_302, hc_272⟩ := bind_some hc_272
        obtain ⟨n0_, h_tot_302⟩ := whileF_some h_tot_302
        refine SB.seqB (fun kx_314 => sb_while (Sx := Str × Int) (fun s => [.at p_0, sv many_263, sv letters_264, .at p_names_here_265, sv k_269, sv s.1, .any, sv s.2, .any]) (fun s => [ol p_names_here_265 names_here_267, ol p_0 stream_here_293]) (fun n s => whileS (m__law_names_L3_c letters_264 names_here_267) (m__law_names_L3 letters_264 names_here_267) n s = some (name_312, turn_313)) n0_ (name_292, turn_295) h_tot_302 (.keep (.keep (.keep (.keep (.keep (.keep (.keep (.keep (.keep .nil))))))))) (List.Sublist.refl _) ?_)
        intro n_ s_ hP_299
        obtain ⟨name_296, turn_297⟩ := s_
        cases n_ with
        | zero => cases hP_299
        | succ n_ =>
          obtain ⟨b_, ht_, hP_299⟩ := bind_some hP_299
          unfold m__law_names_L3_c at ht_
          cases ht_
          refine ⟨_, ET.is (sl' := [.at p_0, sv many_263, sv letters_264, .at p_names_here_265, sv k_269, sv name_296, .any, sv turn_297, .any]) rfl (et_or (et_test (ev_bor (i := 3) (j := 0) (sl' := [.at p_0, sv many_263, sv letters_264, sv names_here_267, sv k_269, sv name_296, .any, sv turn_297, .any]) (ow1 := [ol p_0 stream_here_293]) rfl rfl rfl rfl (ev_op (ev_var (i := 5) rfl) (ev_var (i := 3) rfl) r2_in))) (fun _ => (et_test (ev_op (ev_var (i := 5) rfl) (ev_str ("" : Str)) r2_eqS)))), fun hb_301 N_ hN_298 => ?_, fun hb_301 => ?_⟩
          · have hP_299 := ite_t hb_301 hP_299
            obtain ⟨c_, hc_300, hP_299⟩ := bind_some hP_299
            unfold m__law_names_L3 at hc_300
            refine SB.is (sl' := [.at p_0, sv many_263, sv letters_264, .at p_names_here_265, sv k_269, sv name_296, .any, sv turn_297, .any]) (ow1 := [ol p_names_here_265 names_here_267, ol p_0 stream_here_293]) rfl rfl ?_
            obtain ⟨n_303, h_n_303, hc_300⟩ := bind_some hc_300
            obtain ⟨i_304, h_i_304, hc_300⟩ := bind_some hc_300
            obtain ⟨other_305, h_other_305, hc_300⟩ := bind_some hc_300
            refine SB.seqB (fun kx_ => sb_asg (sl' := [.at p_0, sv many_263, sv letters_264, .at p_names_here_265, sv k_269, sv name_296, .any, sv turn_297, sv other_305]) rfl (EV.cast (ev_op (ev_var (i := 2) rfl) (ev_op (ev_op (ev_op (ev_var (i := 7) rfl) (ev_int 26) r2_div) (ev_cb (ea_cons (ev_var (i := 5) rfl) ea_nil) (rc_lenS h_n_303)) r2_add) (ev_int 26) r2_mod) (r2_ixS h_i_304)) (Option.some.inj h_other_305)) (kx_ _ _ ?_))
            obtain ⟨i_306, h_i_306, hc_300⟩ := bind_some hc_300
            obtain ⟨t_307, h_t_307, hc_300⟩ := bind_some hc_300
            obtain ⟨cs_308, h_cs_308, hc_300⟩ := bind_some hc_300
            obtain ⟨t_309, h_t_309, hc_300⟩ := bind_some hc_300
            obtain ⟨name_310, h_name_310, hc_300⟩ := bind_some hc_300
            refine SB.seqB (fun kx_ => sb_asg (sl' := [.at p_0, sv many_263, sv letters_264, .at p_names_here_265, sv k_269, sv name_310, .any, sv turn_297, sv other_305]) rfl (EV.cast (ev_op (ev_op (ev_op (ev_var (i := 2) rfl) (ev_op (ev_var (i := 7) rfl) (ev_int 26) r2_mod) (r2_ixS h_i_306)) (ev_var (i := 8) rfl) (r2_addS h_t_307)) (ev_slS (ev_var (i := 5) rfl) eo_none (eo_some (ev_int 4)) h_cs_308) (r2_addS h_t_309)) (Option.some.inj h_name_310)) (kx_ _ _ ?_))
            obtain ⟨turn_311, h_turn_311, hc_300⟩ := bind_some hc_300
            refine sb_asg (sl' := [.at p_0, sv many_263, sv letters_264, .at p_names_here_265, sv k_269, sv name_310, .any, sv turn_311, sv other_305]) rfl (EV.cast (ev_op (ev_var (i := 7) rfl) (ev_int 7) r2_add) (Option.some.inj h_turn_311)) ?_
            cases hc_300
            exact fun σ Kn H s => hN_298 _ _ (Nat.lt_succ_self _) hP_299 σ Kn H ((s.le (.keep (.keep (.keep (.keep (.keep (.keep (.keep (.keep (.drop .nil)))))))))).sub (List.Sublist.refl _))
          · have hP_299 := ite_f hb_301 hP_299
            cases hP_299
            refine kx_314 _ _ ?_
            refine SB.is (sl' := [.at p_0, sv many_263, sv letters_264, .at p_names_here_265, sv k_269, sv name_312, .any, sv turn_313, .any]) (ow1 := [ol p_names_here_265 names_here_267, ol p_0 stream_here_293]) rfl rfl ?_
            obtain ⟨names_here_315, h_names_here_315, hc_272⟩ := bind_some hc_272
            refine sb_appO (i := 3) (j := 0) rfl rfl (ev_var (i := 5) rfl) h_names_here_315 (ow1 := [ol p_names_here_265 names_here_315, ol p_0 stream_here_293]) rfl ?_
            cases hc_272
            exact fun σ Kn H s => hN_270 _ hP_271 σ Kn H ((s.le (.keep (.keep (.keep (.keep (.drop (.drop (.keep (.drop (.keep .nil)))))))))).sub (List.Sublist.refl _))
    · intro s_ h0
      cases h0
      refine kx_318 _ _ ?_
      refine SB.is (sl' := [.at p_0, sv many_263, sv letters_264, .at p_names_here_265, .any, .any, .any, .any, .any]) (ow1 := [ol p_names_here_265 names_here_316, ol p_0 stream_here_317]) rfl rfl ?_
      refine sb_freeze (i := 3) (j := 0) (sl' := [.at p_0, sv many_263, sv letters_264, sv names_here_316, .any, .any, .any, .any, .any]) (ow1 := [ol p_0 stream_here_317]) rfl rfl rfl rfl ?_
      cases hf
      exact sb_ret (ev_var (i := 3) rfl) q (List.Sublist.refl _)
theorem sc__law_range : FnScope ["_law_stream_here", "_law_least"] ["_law_stream_here"] (defScope s__law_range) := ⟨rfl, rfl, rfl, by decide +kernel, rfl, by decide +kernel, by decide +kernel⟩
set_option maxHeartbeats 4000000 in
theorem ok__law_range (T : TX K mg w) : FnOk P w K mg base CX0 2 T.a__law_range T.d__law_range ["_law_stream_here"] (PM (τ := Unit) K (fun xs t => m__law_range xs)) := by
  refine T.F__law_range.ok sc__law_range (fun vs H Q E h => ?_) (fun cdv A outer s H vs Q E hr h => ?_)
  · obtain ⟨Kn, p, ws, rest, t, xs, r, xs', rfl, ek, kp, hp, hw, h, hf, q⟩ := h
    show rest.length + 1 = _
    rw [Tp.len h]
    rfl
  · obtain ⟨Kn, p_0, ws, rest, t, stream_here_319, r_, xs_, rfl, ek, kp, hp, hw, h, hf, q⟩ := h
    obtain ⟨u_⟩ := t
    obtain rfl := h
    replace hf : m__law_range stream_here_319 = some (r_, xs_) := hf
    unfold m__law_range at hf
    refine ⟨_, (pss_cons (ps_if (pt_cmpR op_eq (pe_call (ok__law_take T) hr (by rfl) T.g__law_take T.F__law_take.kp T.b__law_take .nil pass0 (pa_cons (pv 0) (pa_cons pe_int pa_nil))) pe_int (nomark _)) (pss_one (ps_ret (pe_tup (pa_cons pe_int (pa_cons (pe_op op_pow pe_int pe_int) pa_nil))))) pss_nil)
      (pss_cons (ps_set (i := 1) sc__law_range.nd rfl (.inl rfl) (pe_call (ok__law_take T) hr (by rfl) T.g__law_take T.F__law_take.kp T.b__law_take .nil pass0 (pa_cons (pv 0) (pa_cons (pe_ix k_ixl (pe_lst (pa_cons pe_int (pa_cons pe_int (pa_cons (pe_op op_add (pe_op op_pow pe_int pe_int) pe_int) pa_nil)))) (pe_call (ok__law_take T) hr (by rfl) T.g__law_take T.F__law_take.kp T.b__law_take .nil pass0 (pa_cons (pv 0) (pa_cons pe_int pa_nil))) (fun _ _ => rfl)) pa_nil))))
      (pss_one (ps_ret (pe_tup (pa_cons (pv 1) (pa_cons (pe_op op_add (pv 1) (pe_call (ok__law_take T) hr (by rfl) T.g__law_take T.F__law_take.kp T.b__law_take .nil pass0 (pa_cons (pv 0) (pa_cons (pe_op op_sub (pe_op op_add (pe_op op_pow pe_int pe_int) pe_int) (pv 1)) pa_nil)))) pa_nil))))))), ?_⟩
    refine enterM (sl := [.at p_0, .any]) (p := p_0) (xs := stream_here_319) ek kp hp hw ⟨rfl, trivial, trivial⟩ ?_
    have q := rt_ofM kp q
    clear hp hw ek kp
    obtain ⟨⟨r_321, stream_here_322⟩, h_r_321, hf⟩ := bind_some hf
    refine SB.seqB (fun kx_324 => sb_ifM (b := (decide (r_321 = (0 : Int)))) (etm_test (em_op (em_callM (i := 0) (j := 0) rfl (EA.eam (ea_cons (ev_int 3) ea_nil)) rfl h_r_321) (EV.em (ev_int 0)) r2_eqI)) (fun hb_323 => ?_) (fun hb_323 => ?_))
    · have hf := ite_t hb_323 hf
      cases hf
      exact sb_ret (ev_tup (ea_cons (ev_int 0) (ea_cons (ev_op (ev_int 10) (ev_int 6) (r2_pow (r := 1000000))) ea_nil))) q (List.Sublist.refl _)
    · have hf := ite_f hb_323 hf
      refine sb_nx ?_
      refine kx_324 _ _ ?_
      obtain ⟨⟨r_325, stream_here_326⟩, h_r_325, hf⟩ := bind_some hf
      obtain ⟨i_327, h_i_327, hf⟩ := bind_some hf
      obtain ⟨⟨r_328, stream_here_329⟩, h_r_328, hf⟩ := bind_some hf
      obtain ⟨least_330, h_least_330, hf⟩ := bind_some hf
      refine SB.seqB (fun kx_ => sb_asgM (sl' := [.at p_0, sv least_330]) rfl (EM.cast (em_callM (i := 0) (j := 0) rfl (eam_cons (em_op (EV.em (EN.ev (en_lst (el_cons (ev_int 20) (el_cons (ev_int 1000) (el_cons (ev_op (ev_op (ev_int 10) (ev_int 6) (r2_pow (r := 1000000))) (ev_int 1) r2_add) el_nil)))))) (em_callM (i := 0) (j := 0) rfl (EA.eam (ea_cons (ev_int 3) ea_nil)) rfl h_r_325) (r2_ixL h_i_327)) eam_nil) rfl h_r_328) (Option.some.inj h_least_330)) (kx_ _ _ ?_))
      obtain ⟨⟨r_331, stream_here_332⟩, h_r_331, hf⟩ := bind_some hf
      cases hf
      exact sb_retM (em_tup (eam_cons (EV.em (ev_var (i := 1) rfl)) (eam_cons (em_op (EV.em (ev_var (i := 1) rfl)) (em_callM (i := 0) (j := 0) rfl (EA.eam (ea_cons (ev_op (ev_op (ev_op (ev_int 10) (ev_int 6) (r2_pow (r := 1000000))) (ev_int 1) r2_add) (ev_var (i := 1) rfl) r2_sub) ea_nil)) rfl h_r_331) r2_add) eam_nil))) q (List.Sublist.refl _)
theorem sc__law_words : FnScope ["_law_stream_here", "_law_words_here", "_law_k", "_law_word", "_law_j", "_law_piece", "_law_i"] ["_law_stream_here"] (defScope s__law_words) := ⟨rfl, rfl, rfl, by decide +kernel, rfl, by decide +kernel, by decide +kernel⟩
set_option maxHeartbeats 4000000 in
theorem ok__law_words (T : TX K mg w) : FnOk P w K mg base CX0 2 T.a__law_words T.d__law_words ["_law_stream_here"] (PM (τ := Unit) K (fun xs t => m__law_words xs)) := by
  refine T.F__law_words.ok sc__law_words (fun vs H Q E h => ?_) (fun cdv A outer s H vs Q E hr h => ?_)
  · obtain ⟨Kn, p, ws, rest, t, xs, r, xs', rfl, ek, kp, hp, hw, h, hf, q⟩ := h
    show rest.length + 1 = _
    rw [Tp.len h]
    rfl
  · obtain ⟨Kn, p_0, ws, rest, t, stream_here_333, r_, xs_, rfl, ek, kp, hp, hw, h, hf, q⟩ := h
    obtain ⟨u_⟩ := t
    obtain rfl := h
    replace hf : m__law_words stream_here_333 = some (r_, xs_) := hf
    unfold m__law_words at hf
    refine ⟨_, (pss_cons (ps_set (i := 1) sc__law_words.nd rfl (.inl rfl) (pe_lst pa_nil))
      (pss_cons (ps_for PassesOwn.never rfl (pi_range1 (by rfl) T.z_range (pa_cons (pe_call (ok__law_take T) hr (by rfl) T.g__law_take T.F__law_take.kp T.b__law_take .nil pass0 (pa_cons (pv 0) (pa_cons pe_int pa_nil))) pa_nil)) (pg_name (i := 2) sc__law_words.nd rfl (.inl rfl)) (pss_cons (ps_set (i := 3) sc__law_words.nd rfl (.inl rfl) (pe_lst pa_nil))
      (pss_cons (ps_for PassesOwn.never rfl (pi_range1 (by rfl) T.z_range (pa_cons (pe_op op_add pe_int (pe_call (ok__law_take T) hr (by rfl) T.g__law_take T.F__law_take.kp T.b__law_take .nil pass0 (pa_cons (pv 0) (pa_cons pe_int pa_nil)))) pa_nil)) (pg_name (i := 4) sc__law_words.nd rfl (.inl rfl)) (pss_cons (ps_set (i := 5) sc__law_words.nd rfl (.inl rfl) pe_str)
      (pss_cons (ps_for PassesOwn.never rfl (pi_range1 (by rfl) T.z_range (pa_cons (pe_op op_add pe_int (pe_call (ok__law_take T) hr (by rfl) T.g__law_take T.F__law_take.kp T.b__law_take .nil pass0 (pa_cons (pv 0) (pa_cons pe_int pa_nil)))) pa_nil)) (pg_name (i := 6) sc__law_words.nd rfl (.inl rfl)) (pss_one (ps_set (i := 5) sc__law_words.nd rfl (.inl rfl) (pe_op op_add_str (pv 5) (pe_ix ix_str pe_str (pe_call (ok__law_take T) hr (by rfl) T.g__law_take T.F__law_take.kp T.b__law_take .nil pass0 (pa_cons (pv 0) (pa_cons pe_int pa_nil))) (fun _ _ => rfl))))))
      (pss_one (ps_expr (pe_bm PySem.F.plainAttrs_list PySem.F.slot_list_append PySem.F.type_list_append mt_append (pv 3) (pa_cons (pv 5) pa_nil)))))))
      (pss_one (ps_expr (pe_bm PySem.F.plainAttrs_list PySem.F.slot_list_append PySem.F.type_list_append mt_append (pv 1) (pa_cons (pe_callTy k_tuple (by rfl) T.z_tuple (by decide +kernel) (pa_cons (pv 3) pa_nil)) pa_nil)))))))
      (pss_one (ps_ret (pe_callTy k_tuple (by rfl) T.z_tuple (by decide +kernel) (pa_cons (pv 1) pa_nil)))))), ?_⟩
    refine enterM (sl := [.at p_0, .any, .any, .any, .any, .any, .any]) (p := p_0) (xs := stream_here_333) ek kp hp hw ⟨rfl, trivial, trivial, trivial, trivial, trivial, trivial, trivial⟩ ?_
    have q := rt_ofM kp q
    clear hp hw ek kp
    obtain ⟨words_here_334, h_words_here_334, hf⟩ := bind_some hf
    refine SB.seqB (fun kx_ => sb_asgO (sl' := fun p_words_here_334 => [.at p_0, .at p_words_here_334, .any, .any, .any, .any, .any]) (fun _ => rfl) (EN.cast (en_lst el_nil) (Option.some.inj h_words_here_334)) (fun p_words_here_334 => (kx_ _ _ ?_)))
    obtain ⟨⟨r_335, stream_here_336⟩, h_r_335, hf⟩ := bind_some hf
    obtain ⟨rg_337, h_rg_337, hf⟩ := bind_some hf
    obtain ⟨⟨words_here_383, stream_here_384⟩, h_tot_345, hf⟩ := bind_some hf
    refine SB.seqB (fun kx_385 => sb_for (β := Int) (Sx := (List (Tu Str)) × (List Int)) (fun s => [.at p_0, .at p_words_here_334, .any, .any, .any, .any, .any]) (fun s => [ol p_words_here_334 s.1, ol p_0 s.2]) (fun x s => [.at p_0, .at p_words_here_334, sv x, .any, .any, .any, .any]) [2] (fun xs s => forS (m__law_words_L1) xs s = some (words_here_383, stream_here_384)) (words_here_334, stream_here_336) (itm_rng1 (eam_cons (em_callM (i := 0) (j := 1) rfl (EA.eam (ea_cons (ev_int 4) ea_nil)) rfl h_r_335) eam_nil) h_rg_337) h_tot_345 (.keep (.keep (.keep (.keep (.keep (.keep (.keep .nil))))))) (List.Sublist.refl _) (fun x s => (gt_name rfl)) ?_ ?_)
    · intro Kn1 b1 k_340 rest_ s_ hP_342 N_ hN_341
      obtain ⟨words_here_338, stream_here_339⟩ := s_
      obtain ⟨c_, hc_343, hP_342⟩ := bind_some hP_342
      have q_344 := q.base b1
      unfold m__law_words_L1 at hc_343
      refine SB.is (sl' := [.at p_0, .at p_words_here_334, sv k_340, .any, .any, .any, .any]) (ow1 := [ol p_words_here_334 words_here_338, ol p_0 stream_here_339]) rfl rfl ?_
      obtain ⟨word_346, h_word_346, hc_343⟩ := bind_some hc_343
      refine SB.seqB (fun kx_ => sb_asgO (sl' := fun p_word_346 => [.at p_0, .at p_words_here_334, sv k_340, .at p_word_346, .any, .any, .any]) (fun _ => rfl) (EN.cast (en_lst el_nil) (Option.some.inj h_word_346)) (fun p_word_346 => (kx_ _ _ ?_)))
      obtain ⟨⟨r_347, stream_here_348⟩, h_r_347, hc_343⟩ := bind_some hc_343
      obtain ⟨rg_349, h_rg_349, hc_343⟩ := bind_some hc_343
      obtain ⟨⟨word_379, stream_here_380⟩, h_tot_357, hc_343⟩ := bind_some hc_343
      refine SB.seqB (fun kx_381 => sb_for (β := Int) (Sx := (List Str) × (List Int)) (fun s => [.at p_0, .at p_words_here_334, sv k_340, .at p_word_346, .any, .any, .any]) (fun s => [ol p_word_346 s.1, ol p_words_here_334 words_here_338, ol p_0 s.2]) (fun x s => [.at p_0, .at p_words_here_334, sv k_340, .at p_word_346, sv x, .any, .any]) [4] (fun xs s => forS (m__law_words_L2) xs s = some (word_379, stream_here_380)) (word_346, stream_here_348) (itm_rng1 (eam_cons (em_op (EV.em (ev_int 1)) (em_callM (i := 0) (j := 2) rfl (EA.eam (ea_cons (ev_int 3) ea_nil)) rfl h_r_347) r2_add) eam_nil) h_rg_349) h_tot_357 (.keep (.keep (.keep (.keep (.keep (.keep (.keep .nil))))))) (List.Sublist.refl _) (fun x s => (gt_name rfl)) ?_ ?_)
      · intro Kn1 b1 j_352 rest_ s_ hP_354 N_ hN_353
        obtain ⟨word_350, stream_here_351⟩ := s_
        obtain ⟨c_, hc_355, hP_354⟩ := bind_some hP_354
        have q_356 := q_344.base b1
        unfold m__law_words_L2 at hc_355
        refine SB.is (sl' := [.at p_0, .at p_words_here_334, sv k_340, .at p_word_346, sv j_352, .any, .any]) (ow1 := [ol p_word_346 word_350, ol p_words_here_334 words_here_338, ol p_0 stream_here_351]) rfl rfl ?_
        obtain ⟨piece_358, h_piece_358, hc_355⟩ := bind_some hc_355
        refine SB.seqB (fun kx_ => sb_asg (sl' := [.at p_0, .at p_words_here_334, sv k_340, .at p_word_346, sv j_352, sv piece_358, .any]) rfl (EV.cast (ev_str ("" : Str)) (Option.some.inj h_piece_358)) (kx_ _ _ ?_))
        obtain ⟨⟨r_359, stream_here_360⟩, h_r_359, hc_355⟩ := bind_some hc_355
        obtain ⟨rg_361, h_rg_361, hc_355⟩ := bind_some hc_355
        obtain ⟨⟨piece_375, stream_here_376⟩, h_tot_369, hc_355⟩ := bind_some hc_355
        refine SB.seqB (fun kx_377 => sb_for (β := Int) (Sx := Str × (List Int)) (fun s => [.at p_0, .at p_words_here_334, sv k_340, .at p_word_346, sv j_352, sv s.1, .any]) (fun s => [ol p_word_346 word_350, ol p_words_here_334 words_here_338, ol p_0 s.2]) (fun x s => [.at p_0, .at p_words_here_334, sv k_340, .at p_word_346, sv j_352, sv s.1, sv x]) [6] (fun xs s => forS (m__law_words_L3) xs s = some (piece_375, stream_here_376)) (piece_358, stream_here_360) (itm_rng1 (eam_cons (em_op (EV.em (ev_int 1)) (em_callM (i := 0) (j := 2) rfl (EA.eam (ea_cons (ev_int 4) ea_nil)) rfl h_r_359) r2_add) eam_nil) h_rg_361) h_tot_369 (.keep (.keep (.keep (.keep (.keep (.keep (.keep .nil))))))) (List.Sublist.refl _) (fun x s => (gt_name rfl)) ?_ ?_)
        · intro Kn1 b1 i_364 rest_ s_ hP_366 N_ hN_365
          obtain ⟨piece_362, stream_here_363⟩ := s_
          obtain ⟨c_, hc_367, hP_366⟩ := bind_some hP_366
          have q_368 := q_356.base b1
          unfold m__law_words_L3 at hc_367
          refine SB.is (sl' := [.at p_0, .at p_words_here_334, sv k_340, .at p_word_346, sv j_352, sv piece_362, sv i_364]) (ow1 := [ol p_word_346 word_350, ol p_words_here_334 words_here_338, ol p_0 stream_here_363]) rfl rfl ?_
          obtain ⟨⟨r_370, stream_here_371⟩, h_r_370, hc_367⟩ := bind_some hc_367
          obtain ⟨i_372, h_i_372, hc_367⟩ := bind_some hc_367
          obtain ⟨t_373, h_t_373, hc_367⟩ := bind_some hc_367
          obtain ⟨piece_374, h_piece_374, hc_367⟩ := bind_some hc_367
          refine sb_asgM (sl' := [.at p_0, .at p_words_here_334, sv k_340, .at p_word_346, sv j_352, sv piece_374, sv i_364]) rfl (EM.cast (em_op (EV.em (ev_var (i := 5) rfl)) (em_op (EV.em (ev_str ("abkxyzAZ019-=,.:;'^_~!#text" : Str))) (em_callM (i := 0) (j := 2) rfl (EA.eam (ea_cons (ev_int 27) ea_nil)) rfl h_r_370) (r2_ixS h_i_372)) (r2_addS h_t_373)) (Option.some.inj h_piece_374)) ?_
          cases hc_367
          exact fun σ Kn H s => hN_365 _ hP_366 σ Kn H ((s.le (.keep (.keep (.keep (.keep (.keep (.keep (.drop .nil)))))))).sub (List.Sublist.refl _))
        · intro s_ h0
          cases h0
          refine kx_377 _ _ ?_
          refine SB.is (sl' := [.at p_0, .at p_words_here_334, sv k_340, .at p_word_346, sv j_352, sv piece_375, .any]) (ow1 := [ol p_word_346 word_350, ol p_words_here_334 words_here_338, ol p_0 stream_here_376]) rfl rfl ?_
          obtain ⟨word_378, h_word_378, hc_355⟩ := bind_some hc_355
          refine sb_appO (i := 3) (j := 0) rfl rfl (ev_var (i := 5) rfl) h_word_378 (ow1 := [ol p_word_346 word_378, ol p_words_here_334 words_here_338, ol p_0 stream_here_376]) rfl ?_
          cases hc_355
          exact fun σ Kn H s => hN_353 _ hP_354 σ Kn H ((s.le (.keep (.keep (.keep (.keep (.drop (.drop (.keep .nil)))))))).sub (List.Sublist.refl _))
      · intro s_ h0
        cases h0
        refine kx_381 _ _ ?_
        refine SB.is (sl' := [.at p_0, .at p_words_here_334, sv k_340, .at p_word_346, .any, .any, .any]) (ow1 := [ol p_word_346 word_379, ol p_words_here_334 words_here_338, ol p_0 stream_here_380]) rfl rfl ?_
        refine sb_freeze (i := 3) (j := 0) (sl' := [.at p_0, .at p_words_here_334, sv k_340, sv word_379, .any, .any, .any]) (ow1 := [ol p_words_here_334 words_here_338, ol p_0 stream_here_380]) rfl rfl rfl rfl ?_
        obtain ⟨words_here_382, h_words_here_382, hc_343⟩ := bind_some hc_343
        refine sb_appO (i := 1) (j := 0) rfl rfl (ev_cb (ea_cons (ev_var (i := 3) rfl) ea_nil) rc_tuple) h_words_here_382 (ow1 := [ol p_words_here_334 words_here_382, ol p_0 stream_here_380]) rfl ?_
        cases hc_343
        exact fun σ Kn H s => hN_341 _ hP_342 σ Kn H ((s.le (.keep (.keep (.drop (.drop (.keep (.keep (.keep .nil)))))))).sub (List.Sublist.refl _))
    · intro s_ h0
      cases h0
      refine kx_385 _ _ ?_
      refine SB.is (sl' := [.at p_0, .at p_words_here_334, .any, .any, .any, .any, .any]) (ow1 := [ol p_words_here_334 words_here_383, ol p_0 stream_here_384]) rfl rfl ?_
      refine sb_freeze (i := 1) (j := 0) (sl' := [.at p_0, sv words_here_383, .any, .any, .any, .any, .any]) (ow1 := [ol p_0 stream_here_384]) rfl rfl rfl rfl ?_
      cases hf
      exact sb_ret (ev_cb (ea_cons (ev_var (i := 1) rfl) ea_nil) rc_tuple) q (List.Sublist.refl _)
theorem sc__law_anchor : FnScope ["_law_stream_here", "_law_by"] ["_law_stream_here"] (defScope s__law_anchor) := ⟨rfl, rfl, rfl, by decide +kernel, rfl, by decide +kernel, by decide +kernel⟩
set_option maxHeartbeats 4000000 in
theorem ok__law_anchor (T : TX K mg w) : FnOk P w K mg base CX0 2 T.a__law_anchor T.d__law_anchor ["_law_stream_here"] (PM (τ := Unit) K (fun xs t => m__law_anchor xs)) := by
  refine T.F__law_anchor.ok sc__law_anchor (fun vs H Q E h => ?_) (fun cdv A outer s H vs Q E hr h => ?_)
  · obtain ⟨Kn, p, ws, rest, t, xs, r, xs', rfl, ek, kp, hp, hw, h, hf, q⟩ := h
    show rest.length + 1 = _
    rw [Tp.len h]
    rfl
  · obtain ⟨Kn, p_0, ws, rest, t, stream_here_386, r_, xs_, rfl, ek, kp, hp, hw, h, hf, q⟩ := h
    obtain ⟨u_⟩ := t
    obtain rfl := h
    replace hf : m__law_anchor stream_here_386 = some (r_, xs_) := hf
    unfold m__law_anchor at hf
    refine ⟨_, (pss_cons (ps_set (i := 1) sc__law_anchor.nd rfl (.inl rfl) (pe_op op_sub (pe_call (ok__law_take T) hr (by rfl) T.g__law_take T.F__law_take.kp T.b__law_take .nil pass0 (pa_cons (pv 0) (pa_cons pe_int pa_nil))) pe_int))
      (Evl.pss_cut (ps_if (pt_cmpR op_eq (pe_call (ok__law_take T) hr (by rfl) T.g__law_take T.F__law_take.kp T.b__law_take .nil pass0 (pa_cons (pv 0) (pa_cons pe_int pa_nil))) pe_int (nomark _)) (pss_one (ps_set (i := 1) sc__law_anchor.nd rfl (.inl rfl) (pe_op op_sub (pe_call (ok__law_take T) hr (by rfl) T.g__law_take T.F__law_take.kp T.b__law_take .nil pass0 (pa_cons (pv 0) (pa_cons (pe_op op_add (pe_op op_mul pe_int (pe_op op_pow pe_int pe_int)) pe_int) pa_nil))) (pe_op op_pow pe_int pe_int)))) pss_nil)
      (pss_one (ps_ret (pe_tup (pa_cons (pe_ix k_ixl (pe_lst (pa_cons pe_str (pa_cons pe_str (pa_cons pe_str (pa_cons pe_str pa_nil))))) (pe_call (ok__law_take T) hr (by rfl) T.g__law_take T.F__law_take.kp T.b__law_take .nil pass0 (pa_cons (pv 0) (pa_cons pe_int pa_nil))) (fun _ _ => rfl)) (pa_cons (pv 1) pa_nil))))))), ?_⟩
    refine enterM (sl := [.at p_0, .any]) (p := p_0) (xs := stream_here_386) ek kp hp hw ⟨rfl, trivial, trivial⟩ ?_
    have q := rt_ofM kp q
    clear hp hw ek kp
    obtain ⟨⟨r_387, stream_here_388⟩, h_r_387, hf⟩ := bind_some hf
    obtain ⟨by_389, h_by_389, hf⟩ := bind_some hf
    refine SB.seqB (fun kx_ => sb_asgM (sl' := [.at p_0, sv by_389]) rfl (EM.cast (em_op (em_callM (i := 0) (j := 0) rfl (EA.eam (ea_cons (ev_int 7) ea_nil)) rfl h_r_387) (EV.em (ev_int 3)) r2_sub) (Option.some.inj h_by_389)) (kx_ _ _ ?_))
    obtain ⟨⟨r_391, stream_here_392⟩, h_r_391, hf⟩ := bind_some hf
    obtain ⟨⟨by_397, stream_here_398⟩, hj_390, hf⟩ := bind_some hf
    refine SB.cutB (sl' := [.at p_0, sv by_397]) (ow1 := [ol p_0 stream_here_398]) (fun km_399 => sb_ifM (b := (decide (r_391 = (0 : Int)))) (etm_test (em_op (em_callM (i := 0) (j := 0) rfl (EA.eam (ea_cons (ev_int 4) ea_nil)) rfl h_r_391) (EV.em (ev_int 0)) r2_eqI)) (fun hb_393 => ?_) (fun hb_393 => ?_)) ?_
    · have hj_390 := ite_t hb_393 hj_390
      obtain ⟨⟨r_394, stream_here_395⟩, h_r_394, hj_390⟩ := bind_some hj_390
      obtain ⟨by_396, h_by_396, hj_390⟩ := bind_some hj_390
      refine sb_asgM (sl' := [.at p_0, sv by_396]) rfl (EM.cast (em_op (em_callM (i := 0) (j := 0) rfl (EA.eam (ea_cons (ev_op (ev_op (ev_int 2) (ev_op (ev_int 10) (ev_int 6) (r2_pow (r := 1000000))) r2_mulr) (ev_int 1) r2_add) ea_nil)) rfl h_r_394) (EV.em (ev_op (ev_int 10) (ev_int 6) (r2_pow (r := 1000000)))) r2_sub) (Option.some.inj h_by_396)) ?_
      cases hj_390
      exact km_399 _ _ (.keep (.keep .nil)) (List.Sublist.refl _)
    · have hj_390 := ite_f hb_393 hj_390
      refine sb_nx ?_
      cases hj_390
      exact km_399 _ _ (.keep (.keep .nil)) (List.Sublist.refl _)
    obtain ⟨⟨r_400, stream_here_401⟩, h_r_400, hf⟩ := bind_some hf
    obtain ⟨i_402, h_i_402, hf⟩ := bind_some hf
    cases hf
    exact sb_retM (em_tup (eam_cons (em_op (EV.em (EN.ev (en_lst (el_cons (ev_str ("start" : Str)) (el_cons (ev_str ("mid" : Str)) (el_cons (ev_str ("mid2" : Str)) (el_cons (ev_str ("end" : Str)) el_nil))))))) (em_callM (i := 0) (j := 0) rfl (EA.eam (ea_cons (ev_int 4) ea_nil)) rfl h_r_400) (r2_ixL h_i_402)) (eam_cons (EV.em (ev_var (i := 1) rfl)) eam_nil))) q (List.Sublist.refl _)
theorem sc__law_what : FnScope ["_law_stream_here", "_law_kind", "_law_many", "_law_side", "_law_columns", "_law_spans", "_law_joint", "_law_sides", "_law_k"] ["_law_stream_here", "_law_kind", "_law_many"] (defScope s__law_what) := ⟨rfl, rfl, rfl, by decide +kernel, rfl, by decide +kernel, by decide +kernel⟩
set_option maxHeartbeats 4000000 in
theorem ok__law_what (T : TX K mg w) : FnOk P w K mg base CX0 3 T.a__law_what T.d__law_what ["_law_stream_here", "_law_kind", "_law_many"] (PM (τ := Str × Int × Unit) K (fun xs t => m__law_what xs t.1 t.2.1)) := by
  refine T.F__law_what.ok sc__law_what (fun vs H Q E h => ?_) (fun cdv A outer s H vs Q E hr h => ?_)
  · obtain ⟨Kn, p, ws, rest, t, xs, r, xs', rfl, ek, kp, hp, hw, h, hf, q⟩ := h
    show rest.length + 1 = _
    rw [Tp.len h]
    rfl
  · obtain ⟨Kn, p_0, ws, rest, t, stream_here_403, r_, xs_, rfl, ek, kp, hp, hw, h, hf, q⟩ := h
    obtain ⟨kind_404, many_405, u_⟩ := t
    obtain ⟨v_1, rr_, rfl, hv_0, h⟩ := h
    obtain ⟨v_2, rr_, rfl, hv_1, h⟩ := h
    obtain rfl := h
    replace hf : m__law_what stream_here_403 kind_404 many_405 = some (r_, xs_) := hf
    unfold m__law_what at hf
    refine ⟨_, (pss_cons (ps_set (i := 3) sc__law_what.nd rfl (.inl rfl) (pe_ix k_ixl (pe_lst (pa_cons pe_str (pa_cons pe_str pa_nil))) (pe_call (ok__law_take T) (hr.mono (by decide)) (by rfl) T.g__law_take T.F__law_take.kp T.b__law_take .nil pass0 (pa_cons (pv 0) (pa_cons pe_int pa_nil))) (fun _ _ => rfl)))
      (pss_cons (ps_if (pt_cmpR op_eq (pv 1) pe_str (nomark _)) (pss_one (ps_ret (pe_tup (pa_cons (pe_call (ok__law_take T) (hr.mono (by decide)) (by rfl) T.g__law_take T.F__law_take.kp T.b__law_take .nil pass0 (pa_cons (pv 0) (pa_cons pe_int pa_nil))) (pa_cons (pe_call (ok__law_take T) (hr.mono (by decide)) (by rfl) T.g__law_take T.F__law_take.kp T.b__law_take .nil pass0 (pa_cons (pv 0) (pa_cons (pe_op op_add (pe_op op_pow pe_int pe_int) pe_int) pa_nil))) pa_nil))))) pss_nil)
      (pss_cons (ps_if (pt_cmpR k_in (pv 1) (pe_tup (pa_cons pe_str (pa_cons pe_str (pa_cons pe_str pa_nil)))) (by rfl)) (pss_one (ps_ret (pe_tup (pa_cons (pe_call (ok__law_take T) (hr.mono (by decide)) (by rfl) T.g__law_take T.F__law_take.kp T.b__law_take .nil pass0 (pa_cons (pv 0) (pa_cons pe_int pa_nil))) (pa_cons (pe_ix k_ixl (pe_lst (pa_cons pe_str (pa_cons pe_str (pa_cons pe_str (pa_cons pe_str pa_nil))))) (pe_call (ok__law_take T) (hr.mono (by decide)) (by rfl) T.g__law_take T.F__law_take.kp T.b__law_take .nil pass0 (pa_cons (pv 0) (pa_cons pe_int pa_nil))) (fun _ _ => rfl)) (pa_cons (pv 3) pa_nil)))))) pss_nil)
      (pss_cons (ps_if (pt_cmpR op_eq (pv 1) pe_str (nomark _)) (pss_cons (ps_set (i := 4) sc__law_what.nd rfl (.inr rfl) (pe_op op_add pe_int (pe_call (ok__law_take T) (hr.mono (by decide)) (by rfl) T.g__law_take T.F__law_take.kp T.b__law_take .nil pass0 (pa_cons (pv 0) (pa_cons pe_int pa_nil)))))
      (pss_cons (ps_setLc (i := 5) (own := [("_law_k", 8)]) (g := gName 8) (tt := tYes) rfl sc__law_what.nd rfl rfl (sw_true rfl rfl rfl (by decide +kernel)) (pi_range1 (by rfl) T.z_range (pa_cons (pv 2) pa_nil)) (blkOk_by (own := [("_law_k", 8)]) (N := ["_law_stream_here", "_law_kind", "_law_many", "_law_side", "_law_columns", "_law_spans", "_law_joint", "_law_sides", "_law_k"]) (sc := defScope s__law_what) (by decide +kernel)) (fun _ _ _ _ _ => (pg_name (i := 8) sc__law_what.nd rfl (Or.inl rfl))) (fun _ _ _ _ _ => pts_nil) (fun _ _ _ _ _ => (pe_tup (pa_cons (pe_op op_add pe_int (pe_call (ok__law_take T) (hr.mono (by decide)) (by rfl) T.g__law_take T.F__law_take.kp T.b__law_take .nil pass0 (pa_cons (pv 0) (pa_cons (pv 4) pa_nil)))) (pa_cons (pe_op op_add pe_int (pe_call (ok__law_take T) (hr.mono (by decide)) (by rfl) T.g__law_take T.F__law_take.kp T.b__law_take .nil pass0 (pa_cons (pv 0) (pa_cons pe_int pa_nil)))) pa_nil)))))
      (pss_one (ps_ret (pe_tup (pa_cons (pv 4) (pa_cons (pe_call (ok__law_take T) (hr.mono (by decide)) (by rfl) T.g__law_take T.F__law_take.kp T.b__law_take .nil pass0 (pa_cons (pv 0) (pa_cons pe_int pa_nil))) (pa_cons (pv 3) (pa_cons (pe_callTy k_tuple (by rfl) T.z_tuple (by decide +kernel) (pa_cons (pv 5) pa_nil)) pa_nil))))))))) pss_nil)
      (pss_cons (ps_set (i := 6) sc__law_what.nd rfl (.inl rfl) (pe_ix k_ixl (pe_lst (pa_cons pe_int (pa_cons pe_int (pa_cons (pe_op op_add pe_int (pe_call (ok__law_take T) (hr.mono (by decide)) (by rfl) T.g__law_take T.F__law_take.kp T.b__law_take .nil pass0 (pa_cons (pv 0) (pa_cons pe_int pa_nil)))) pa_nil)))) (pe_call (ok__law_take T) (hr.mono (by decide)) (by rfl) T.g__law_take T.F__law_take.kp T.b__law_take .nil pass0 (pa_cons (pv 0) (pa_cons pe_int pa_nil))) (fun _ _ => rfl)))
      (pss_cons (ps_if (pt_cmpR op_eq (pv 1) pe_str (nomark _)) (pss_one (ps_ret (pe_tup (pa_cons (pe_call (ok__law_words T) hr (by rfl) T.g__law_words T.F__law_words.kp T.b__law_words .nil pass0 (pa_cons (pv 0) pa_nil)) (pa_cons (pv 6) pa_nil))))) pss_nil)
      (pss_cons (ps_if (pt_cmpR op_eq (pv 1) pe_str (nomark _)) (pss_cons (ps_setLc (i := 7) (own := [("_law_k", 8)]) (g := gName 8) (tt := tYes) rfl sc__law_what.nd rfl rfl (sw_true rfl rfl rfl (by decide +kernel)) (pi_range1 (by rfl) T.z_range (pa_cons (pv 2) pa_nil)) (blkOk_by (own := [("_law_k", 8)]) (N := ["_law_stream_here", "_law_kind", "_law_many", "_law_side", "_law_columns", "_law_spans", "_law_joint", "_law_sides", "_law_k"]) (sc := defScope s__law_what) (by decide +kernel)) (fun _ _ _ _ _ => (pg_name (i := 8) sc__law_what.nd rfl (Or.inl rfl))) (fun _ _ _ _ _ => pts_nil) (fun _ _ _ _ _ => (pe_ix k_ixl (pe_lst (pa_cons pe_str (pa_cons pe_str pa_nil))) (pe_call (ok__law_take T) (hr.mono (by decide)) (by rfl) T.g__law_take T.F__law_take.kp T.b__law_take .nil pass0 (pa_cons (pv 0) (pa_cons pe_int pa_nil))) (fun _ _ => rfl))))
      (pss_one (ps_ret (pe_tup (pa_cons (pe_callTy k_tuple (by rfl) T.z_tuple (by decide +kernel) (pa_cons (pv 7) pa_nil)) (pa_cons (pe_call (ok__law_words T) hr (by rfl) T.g__law_words T.F__law_words.kp T.b__law_words .nil pass0 (pa_cons (pv 0) pa_nil)) (pa_cons (pv 6) pa_nil))))))) pss_nil)
      (pss_one (ps_ret (pe_callTy k_tuple (by rfl) T.z_tuple (by decide +kernel) (pa_cons (pe_lc (own := [("_law_k", 8)]) (g := gName 8) (tt := tYes) (by rfl) sc__law_what.nd (pi_range1 (by rfl) T.z_range (pa_cons (pe_op op_sub (pv 2) pe_int) pa_nil)) (blkOk_by (own := [("_law_k", 8)]) (N := ["_law_stream_here", "_law_kind", "_law_many", "_law_side", "_law_columns", "_law_spans", "_law_joint", "_law_sides", "_law_k"]) (sc := defScope s__law_what) (by decide +kernel)) (fun _ _ _ _ _ => (pg_name (i := 8) sc__law_what.nd rfl (Or.inl rfl))) (fun _ _ _ _ _ => pts_nil) (fun _ _ _ _ _ => (pe_tup (pa_cons (pe_call (ok__law_anchor T) hr (by rfl) T.g__law_anchor T.F__law_anchor.kp T.b__law_anchor .nil pass0 (pa_cons (pv 0) pa_nil)) (pa_cons (pe_call (ok__law_anchor T) hr (by rfl) T.g__law_anchor T.F__law_anchor.kp T.b__law_anchor .nil pass0 (pa_cons (pv 0) pa_nil)) pa_nil))))) pa_nil))))))))))), ?_⟩
    refine enterM (sl := [.at p_0, sv kind_404, sv many_405, .any, .any, .any, .any, .any, .any]) (p := p_0) (xs := stream_here_403) ek kp hp hw ⟨rfl, ⟨v_1, rfl, hv_0⟩, ⟨v_2, rfl, hv_1⟩, trivial, trivial, trivial, trivial, trivial, trivial, trivial⟩ ?_
    have q := rt_ofM kp q
    clear hp hw ek kp
    obtain ⟨⟨r_406, stream_here_407⟩, h_r_406, hf⟩ := bind_some hf
    obtain ⟨i_408, h_i_408, hf⟩ := bind_some hf
    obtain ⟨side_409, h_side_409, hf⟩ := bind_some hf
    refine SB.seqB (fun kx_ => sb_asgM (sl' := [.at p_0, sv kind_404, sv many_405, sv side_409, .any, .any, .any, .any, .any]) rfl (EM.cast (em_op (EV.em (EN.ev (en_lst (el_cons (ev_str ("left" : Str)) (el_cons (ev_str ("right" : Str)) el_nil))))) (em_callM (i := 0) (j := 0) rfl (EA.eam (ea_cons (ev_int 2) ea_nil)) rfl h_r_406) (r2_ixL h_i_408)) (Option.some.inj h_side_409)) (kx_ _ _ ?_))
    refine SB.seqB (fun kx_412 => sb_if (b := (decide (kind_404 = ("leaf" : Str)))) (et_test (ev_op (ev_var (i := 1) rfl) (ev_str ("leaf" : Str)) r2_eqS)) (fun hb_411 => ?_) (fun hb_411 => ?_))
    · have hf := ite_t hb_411 hf
      obtain ⟨⟨r_413, stream_here_414⟩, h_r_413, hf⟩ := bind_some hf
      obtain ⟨⟨r_415, stream_here_416⟩, h_r_415, hf⟩ := bind_some hf
      cases hf
      exact sb_retM (em_up (em_tup (eam_cons (em_callM (i := 0) (j := 0) rfl (EA.eam (ea_cons (ev_int 60) ea_nil)) rfl h_r_413) (eam_cons (em_callM (i := 0) (j := 0) rfl (EA.eam (ea_cons (ev_op (ev_op (ev_int 10) (ev_int 6) (r2_pow (r := 1000000))) (ev_int 1) r2_add) ea_nil)) rfl h_r_415) eam_nil)))) q (List.Sublist.refl _)
    · have hf := ite_f hb_411 hf
      refine sb_nx ?_
      refine kx_412 _ _ ?_
      refine SB.seqB (fun kx_419 => sb_if (b := (decide (kind_404 ∈ (Tu.mk [("row" : Str), ("column" : Str), ("wrap" : Str)]).l))) (et_test (ev_op (ev_var (i := 1) rfl) (ev_tuH (el_cons (ev_str ("row" : Str)) (el_cons (ev_str ("column" : Str)) (el_cons (ev_str ("wrap" : Str)) el_nil)))) r2_inU)) (fun hb_418 => ?_) (fun hb_418 => ?_))
      · have hf := ite_t hb_418 hf
        obtain ⟨⟨r_420, stream_here_421⟩, h_r_420, hf⟩ := bind_some hf
        obtain ⟨⟨r_422, stream_here_423⟩, h_r_422, hf⟩ := bind_some hf
        obtain ⟨i_424, h_i_424, hf⟩ := bind_some hf
        cases hf
        exact sb_retM (em_up (em_tup (eam_cons (em_callM (i := 0) (j := 0) rfl (EA.eam (ea_cons (ev_int 4) ea_nil)) rfl h_r_420) (eam_cons (em_op (EV.em (EN.ev (en_lst (el_cons (ev_str ("start" : Str)) (el_cons (ev_str ("end" : Str)) (el_cons (ev_str ("mid" : Str)) (el_cons (ev_str ("mid2" : Str)) el_nil))))))) (em_callM (i := 0) (j := 0) rfl (EA.eam (ea_cons (ev_int 4) ea_nil)) rfl h_r_422) (r2_ixL h_i_424)) (eam_cons (EV.em (ev_var (i := 3) rfl)) eam_nil))))) q (List.Sublist.refl _)
      · have hf := ite_f hb_418 hf
        refine sb_nx ?_
        refine kx_419 _ _ ?_
        refine SB.seqB (fun kx_427 => sb_if (b := (decide (kind_404 = ("table" : Str)))) (et_test (ev_op (ev_var (i := 1) rfl) (ev_str ("table" : Str)) r2_eqS)) (fun hb_426 => ?_) (fun hb_426 => ?_))
        · have hf := ite_t hb_426 hf
          obtain ⟨⟨r_428, stream_here_429⟩, h_r_428, hf⟩ := bind_some hf
          obtain ⟨columns_430, h_columns_430, hf⟩ := bind_some hf
          refine SB.seqB (fun kx_ => sb_asgM (sl' := [.at p_0, sv kind_404, sv many_405, sv side_409, sv columns_430, .any, .any, .any, .any]) rfl (EM.cast (em_op (EV.em (ev_int 1)) (em_callM (i := 0) (j := 0) rfl (EA.eam (ea_cons (ev_int 12) ea_nil)) rfl h_r_428) r2_add) (Option.some.inj h_columns_430)) (kx_ _ _ ?_))
          obtain ⟨rg_431, h_rg_431, hf⟩ := bind_some hf
          obtain ⟨⟨zs_433, stream_here_440⟩, h_zs_433, hf⟩ := bind_some hf
          obtain ⟨spans_441, h_spans_441, hf⟩ := bind_some hf
          refine SB.seqB (fun kx_ => sb_asgM (sl' := [.at p_0, sv kind_404, sv many_405, sv side_409, sv columns_430, sv spans_441, .any, .any, .any]) rfl (EM.cast (ENM.em (enm_lc (js := [8]) (fun s => [ol p_0 s]) (fun x => [.at p_0, sv kind_404, sv many_405, sv side_409, sv columns_430, .any, .any, .any, sv x]) _ _ h_zs_433 (IT.m (it_rng1 (ea_cons (ev_var (i := 2) rfl) ea_nil) h_rg_431)) (anyAt_of (by rfl)) (fun x => (gt_name rfl)) (sub_of (by rfl)) (fun Kn1 b1 p acc x st_434 z s' h => by obtain ⟨k_432, hx_⟩ : ∃ y, y = x := ⟨x, rfl⟩; subst hx_; obtain ⟨⟨r_436, stream_here_437⟩, h_r_436, h⟩ := bind_some h; obtain ⟨⟨r_438, stream_here_439⟩, h_r_438, h⟩ := bind_some h; obtain ⟨hz1_, hz2_⟩ := Prod.mk.inj (Option.some.inj h); subst hz1_; subst hz2_; exact EM.is (sl' := [.at p_0, sv kind_404, sv many_405, sv side_409, sv columns_430, .any, .any, .any, sv k_432]) rfl (ow2 := ol p acc :: [ol p_0 st_434]) rfl (ow0 := ol p acc :: [ol p_0 stream_here_439]) rfl (em_tup (eam_cons (em_op (EV.em (ev_int 1)) (em_callM (i := 0) (j := 1) rfl (EA.eam (ea_cons (ev_var (i := 4) rfl) ea_nil)) rfl h_r_436) r2_add) (eam_cons (em_op (EV.em (ev_int 1)) (em_callM (i := 0) (j := 1) rfl (EA.eam (ea_cons (ev_int 12) ea_nil)) rfl h_r_438) r2_add) eam_nil)))))) (Option.some.inj h_spans_441)) (kx_ _ _ ?_))
          obtain ⟨⟨r_442, stream_here_443⟩, h_r_442, hf⟩ := bind_some hf
          cases hf
          exact sb_retM (em_up (em_tup (eam_cons (EV.em (ev_var (i := 4) rfl)) (eam_cons (em_callM (i := 0) (j := 0) rfl (EA.eam (ea_cons (ev_int 1001) ea_nil)) rfl h_r_442) (eam_cons (EV.em (ev_var (i := 3) rfl)) (eam_cons (EV.em (ev_cb (ea_cons (ev_var (i := 5) rfl) ea_nil) rc_tuple)) eam_nil)))))) q (List.Sublist.refl _)
        · have hf := ite_f hb_426 hf
          refine sb_nx ?_
          refine kx_427 _ _ ?_
          obtain ⟨⟨r_444, stream_here_445⟩, h_r_444, hf⟩ := bind_some hf
          obtain ⟨⟨r_446, stream_here_447⟩, h_r_446, hf⟩ := bind_some hf
          obtain ⟨i_448, h_i_448, hf⟩ := bind_some hf
          obtain ⟨joint_449, h_joint_449, hf⟩ := bind_some hf
          refine SB.seqB (fun kx_ => sb_asgM (sl' := [.at p_0, sv kind_404, sv many_405, sv side_409, .any, .any, sv joint_449, .any, .any]) rfl (EM.cast (em_op (ENM.em (enm_lst (elm_cons (EV.em (ev_int 50)) (elm_cons (EV.em (ev_int 0)) (elm_cons (em_op (EV.em (ev_int 1)) (em_callM (i := 0) (j := 0) rfl (EA.eam (ea_cons (ev_int 999) ea_nil)) rfl h_r_444) r2_add) elm_nil))))) (em_callM (i := 0) (j := 0) rfl (EA.eam (ea_cons (ev_int 3) ea_nil)) rfl h_r_446) (r2_ixL h_i_448)) (Option.some.inj h_joint_449)) (kx_ _ _ ?_))
          refine SB.seqB (fun kx_452 => sb_if (b := (decide (kind_404 = ("words" : Str)))) (et_test (ev_op (ev_var (i := 1) rfl) (ev_str ("words" : Str)) r2_eqS)) (fun hb_451 => ?_) (fun hb_451 => ?_))
          · have hf := ite_t hb_451 hf
            obtain ⟨⟨r_453, stream_here_454⟩, h_r_453, hf⟩ := bind_some hf
            cases hf
            exact sb_retM (em_up (em_tup (eam_cons (em_callM (i := 0) (j := 0) rfl (EA.eam ea_nil) rfl h_r_453) (eam_cons (EV.em (ev_var (i := 6) rfl)) eam_nil)))) q (List.Sublist.refl _)
          · have hf := ite_f hb_451 hf
            refine sb_nx ?_
            refine kx_452 _ _ ?_
            refine SB.seqB (fun kx_457 => sb_if (b := (decide (kind_404 = ("flow" : Str)))) (et_test (ev_op (ev_var (i := 1) rfl) (ev_str ("flow" : Str)) r2_eqS)) (fun hb_456 => ?_) (fun hb_456 => ?_))
            · have hf := ite_t hb_456 hf
              obtain ⟨rg_458, h_rg_458, hf⟩ := bind_some hf
              obtain ⟨⟨zs_460, stream_here_466⟩, h_zs_460, hf⟩ := bind_some hf
              obtain ⟨sides_467, h_sides_467, hf⟩ := bind_some hf
              refine SB.seqB (fun kx_ => sb_asgM (sl' := [.at p_0, sv kind_404, sv many_405, sv side_409, .any, .any, sv joint_449, sv sides_467, .any]) rfl (EM.cast (ENM.em (enm_lc (js := [8]) (fun s => [ol p_0 s]) (fun x => [.at p_0, sv kind_404, sv many_405, sv side_409, .any, .any, sv joint_449, .any, sv x]) _ _ h_zs_460 (IT.m (it_rng1 (ea_cons (ev_var (i := 2) rfl) ea_nil) h_rg_458)) (anyAt_of (by rfl)) (fun x => (gt_name rfl)) (sub_of (by rfl)) (fun Kn1 b1 p acc x st_461 z s' h => by obtain ⟨k_459, hx_⟩ : ∃ y, y = x := ⟨x, rfl⟩; subst hx_; obtain ⟨⟨r_463, stream_here_464⟩, h_r_463, h⟩ := bind_some h; obtain ⟨i_465, h_i_465, h⟩ := bind_some h; obtain ⟨hz1_, hz2_⟩ := Prod.mk.inj (Option.some.inj h); subst hz1_; subst hz2_; exact EM.is (sl' := [.at p_0, sv kind_404, sv many_405, sv side_409, .any, .any, sv joint_449, .any, sv k_459]) rfl (ow2 := ol p acc :: [ol p_0 st_461]) rfl (ow0 := ol p acc :: [ol p_0 stream_here_464]) rfl (em_op (EV.em (EN.ev (en_lst (el_cons (ev_str ("left" : Str)) (el_cons (ev_str ("right" : Str)) el_nil))))) (em_callM (i := 0) (j := 1) rfl (EA.eam (ea_cons (ev_int 2) ea_nil)) rfl h_r_463) (r2_ixL h_i_465))))) (Option.some.inj h_sides_467)) (kx_ _ _ ?_))
              obtain ⟨⟨r_468, stream_here_469⟩, h_r_468, hf⟩ := bind_some hf
              cases hf
              exact sb_retM (em_up (em_tup (eam_cons (EV.em (ev_cb (ea_cons (ev_var (i := 7) rfl) ea_nil) rc_tuple)) (eam_cons (em_callM (i := 0) (j := 0) rfl (EA.eam ea_nil) rfl h_r_468) (eam_cons (EV.em (ev_var (i := 6) rfl)) eam_nil))))) q (List.Sublist.refl _)
            · have hf := ite_f hb_456 hf
              refine sb_nx ?_
              refine kx_457 _ _ ?_
              obtain ⟨rg_470, h_rg_470, hf⟩ := bind_some hf
              obtain ⟨⟨zs_472, stream_here_479⟩, h_zs_472, hf⟩ := bind_some hf
              cases hf
              exact sb_retM (em_up (em_cb (eam_cons (ENM.em (enm_lc (js := [8]) (fun s => [ol p_0 s]) (fun x => [.at p_0, sv kind_404, sv many_405, sv side_409, .any, .any, sv joint_449, .any, sv x]) _ _ h_zs_472 (IT.m (it_rng1 (ea_cons (ev_op (ev_var (i := 2) rfl) (ev_int 1) r2_sub) ea_nil) h_rg_470)) (anyAt_of (by rfl)) (fun x => (gt_name rfl)) (sub_of (by rfl)) (fun Kn1 b1 p acc x st_473 z s' h => by obtain ⟨k_471, hx_⟩ : ∃ y, y = x := ⟨x, rfl⟩; subst hx_; obtain ⟨⟨r_475, stream_here_476⟩, h_r_475, h⟩ := bind_some h; obtain ⟨⟨r_477, stream_here_478⟩, h_r_477, h⟩ := bind_some h; obtain ⟨hz1_, hz2_⟩ := Prod.mk.inj (Option.some.inj h); subst hz1_; subst hz2_; exact EM.is (sl' := [.at p_0, sv kind_404, sv many_405, sv side_409, .any, .any, sv joint_449, .any, sv k_471]) rfl (ow2 := ol p acc :: [ol p_0 st_473]) rfl (ow0 := ol p acc :: [ol p_0 stream_here_478]) rfl (em_tup (eam_cons (em_callM (i := 0) (j := 1) rfl (EA.eam ea_nil) rfl h_r_475) (eam_cons (em_callM (i := 0) (j := 1) rfl (EA.eam ea_nil) rfl h_r_477) eam_nil)))))) eam_nil) rc_tuple)) q (List.Sublist.refl _)
theorem sc__law_box : FnScope ["_law_stream_here", "_law_names_here", "_law_deep", "_law_tabled", "_law_name", "_law_kind", "_law_many", "_law_parts", "_law_k", "_law_alike", "_law_shares", "_law_rank", "_law_own"] ["_law_stream_here", "_law_names_here", "_law_deep", "_law_tabled"] (defScope s__law_box) := ⟨rfl, rfl, rfl, by decide +kernel, rfl, by decide +kernel, by decide +kernel⟩
set_option maxHeartbeats 4000000 in
theorem step__law_box (T : TX K mg w) (rec__law_box : ((List Int) → (List Str) → Int → Bool → Option (Dy × (List Int) × (List Str)))) {k_ : Nat} (hk_ : 3 ≤ k_) (hrec : FnOk P w K mg base CX0 k_ T.a__law_box T.d__law_box ["_law_stream_here", "_law_names_here", "_law_deep", "_law_tabled"] (PM2 (α := Dy) (γ := (List Int)) (δ := (List Str)) (τ := Int × Bool × Unit) K (fun p_ q_ => (mO p_ (mO q_ (mV (mV mE))))) (fun p_ (x_ : (List Int)) => ol p_ x_) (fun p_ (x_ : (List Str)) => ol p_ x_) (fun x_ y_ t_ => rec__law_box x_ y_ t_.1 t_.2.1))) : FnOk P w K mg base CX0 (k_ + 1) T.a__law_box T.d__law_box ["_law_stream_here", "_law_names_here", "_law_deep", "_law_tabled"] (PM2 (α := Dy) (γ := (List Int)) (δ := (List Str)) (τ := Int × Bool × Unit) K (fun p_ q_ => (mO p_ (mO q_ (mV (mV mE))))) (fun p_ (x_ : (List Int)) => ol p_ x_) (fun p_ (x_ : (List Str)) => ol p_ x_) (fun x_ y_ t_ => m__law_box_step rec__law_box x_ y_ t_.1 t_.2.1)) := by
  refine T.F__law_box.ok sc__law_box (fun vs H Q E h => ?_) (fun cdv A outer s H vs Q E hr h => ?_)
  · obtain ⟨Kn, p_0, p_1, rest, t, x_, y_, r_, xs_, ys_, rfl, ek, hpq, kp, kq, h1, h2, h, hf, q⟩ := h
    obtain ⟨deep_482, tabled_483, u_⟩ := t
    obtain ⟨v_2, rr_, rfl, hv_2, h⟩ := h
    obtain ⟨v_3, rr_, rfl, hv_3, h⟩ := h
    obtain rfl := h
    rfl
  · obtain ⟨Kn, p_0, p_1, rest, t, stream_here_480, names_here_481, r_, xs_, ys_, rfl, ek, hpq, kp, kq, h1, h2, h, hf, q⟩ := h
    obtain ⟨deep_482, tabled_483, u_⟩ := t
    obtain ⟨v_2, rr_, rfl, hv_2, h⟩ := h
    obtain ⟨v_3, rr_, rfl, hv_3, h⟩ := h
    obtain rfl := h
    replace hf : m__law_box_step rec__law_box stream_here_480 names_here_481 deep_482 tabled_483 = some (r_, xs_, ys_) := hf
    unfold m__law_box_step at hf
    refine ⟨_, (pss_cons (ps_set (i := 4) sc__law_box.nd rfl (.inl rfl) (pe_bm0 PySem.F.plainAttrs_list PySem.F.slot_list_pop PySem.F.type_list_pop mt_pop (pv 1)))
      (pss_cons (ps_set (i := 5) sc__law_box.nd rfl (.inl rfl) (pe_ix k_ixl (pe_lst (pa_cons pe_str (pa_cons pe_str (pa_cons pe_str (pa_cons pe_str (pa_cons pe_str (pa_cons pe_str (pa_cons pe_str (pa_cons pe_str pa_nil))))))))) (pe_call (ok__law_take T) (hr.mono (by omega)) (by rfl) T.g__law_take T.F__law_take.kp T.b__law_take .nil pass0 (pa_cons (pv 0) (pa_cons pe_int pa_nil))) (fun _ _ => rfl)))
      (pss_cons (ps_set (i := 6) sc__law_box.nd rfl (.inl rfl) (pe_callB k_min2 (by rfl) T.z_min (by decide +kernel) (pa_cons (pe_call (ok__law_take T) (hr.mono (by omega)) (by rfl) T.g__law_take T.F__law_take.kp T.b__law_take .nil pass0 (pa_cons (pv 0) (pa_cons pe_int pa_nil))) (pa_cons (pe_callB k_len (by rfl) T.z_len PySem.boot_len (pa_cons (pv 1) pa_nil)) pa_nil))))
      (Evl.pss_cut (ps_if (PW.pt (pw_or (pt_cmpR op_gt (pv 2) pe_int (nomark _)) (pw_or1 (PW.pt (pw_and (pt_cmpR op_eq (pv 6) pe_int (nomark _)) (pw_and1 (pt_cmpR op_eq (pv 5) pe_str (nomark _)))))))) (pss_one (ps_set (i := 5) sc__law_box.nd rfl (.inl rfl) (pe_ix k_ixl (pe_lst (pa_cons pe_str (pa_cons pe_str pa_nil))) (pe_call (ok__law_take T) (hr.mono (by omega)) (by rfl) T.g__law_take T.F__law_take.kp T.b__law_take .nil pass0 (pa_cons (pv 0) (pa_cons pe_int pa_nil))) (fun _ _ => rfl)))) pss_nil)
      (Evl.pss_cut (ps_if (pt_cmpR k_in (pv 5) (pe_tup (pa_cons pe_str (pa_cons pe_str pa_nil))) (by rfl)) (pss_one (ps_set (i := 6) sc__law_box.nd rfl (.inl rfl) pe_int)) pss_nil)
      (pss_cons (ps_set (i := 7) sc__law_box.nd rfl (.inl rfl) (pe_lst pa_nil))
      (pss_cons (ps_for PassesOwn.never rfl (pi_range1 (by rfl) T.z_range (pa_cons (pv 6) pa_nil)) (pg_name (i := 8) sc__law_box.nd rfl (.inl rfl)) (pss_one (ps_if (pt_cmpR (k_neD hr.units) (pv 1) (pe_lst pa_nil) (nomark _)) (pss_one (ps_expr (pe_bm PySem.F.plainAttrs_list PySem.F.slot_list_append PySem.F.type_list_append mt_append (pv 7) (pa_cons (pe_call hrec hr (by rfl) T.g__law_box T.F__law_box.kp T.b__law_box .nil pass0 (pa_cons (pv 0) (pa_cons (pv 1) (pa_cons (pe_op op_add (pv 2) pe_int) (pa_cons (pe_or (pv 3) (pe_one (pe_cmpR op_eq (pv 5) pe_str (nomark _)))) pa_nil))))) pa_nil)))) pss_nil)))
      (pss_cons (ps_set (i := 9) sc__law_box.nd rfl (.inl rfl) pe_int)
      (Evl.pss_cut (ps_if (PW.pt (pw_and (pt_cmpR k_in (pv 5) (pe_tup (pa_cons pe_str (pa_cons pe_str (pa_cons pe_str (pa_cons pe_str pa_nil))))) (by rfl)) (pw_and1 (pt_not (pt_val (pv 3)))))) (pss_one (ps_set (i := 9) sc__law_box.nd rfl (.inl rfl) (pe_ix k_ixl (pe_lst (pa_cons pe_int (pa_cons pe_int (pa_cons pe_int (pa_cons (pe_op op_add pe_int (pe_call (ok__law_take T) (hr.mono (by omega)) (by rfl) T.g__law_take T.F__law_take.kp T.b__law_take .nil pass0 (pa_cons (pv 0) (pa_cons pe_int pa_nil)))) pa_nil))))) (pe_call (ok__law_take T) (hr.mono (by omega)) (by rfl) T.g__law_take T.F__law_take.kp T.b__law_take .nil pass0 (pa_cons (pv 0) (pa_cons pe_int pa_nil))) (fun _ _ => rfl)))) pss_nil)
      (pss_cons (ps_set (i := 10) sc__law_box.nd rfl (.inl rfl) (pe_ix k_ixl (pe_lst (pa_cons (pe_tup (pa_cons pe_int (pa_cons pe_int pa_nil))) (pa_cons (pe_tup (pa_cons pe_int (pa_cons pe_int pa_nil))) (pa_cons (pe_tup (pa_cons (pe_call (ok__law_take T) (hr.mono (by omega)) (by rfl) T.g__law_take T.F__law_take.kp T.b__law_take .nil pass0 (pa_cons (pv 0) (pa_cons pe_int pa_nil))) (pa_cons (pe_call (ok__law_take T) (hr.mono (by omega)) (by rfl) T.g__law_take T.F__law_take.kp T.b__law_take .nil pass0 (pa_cons (pv 0) (pa_cons pe_int pa_nil))) pa_nil))) pa_nil)))) (pe_call (ok__law_take T) (hr.mono (by omega)) (by rfl) T.g__law_take T.F__law_take.kp T.b__law_take .nil pass0 (pa_cons (pv 0) (pa_cons pe_int pa_nil))) (fun _ _ => rfl)))
      (pss_cons (ps_set (i := 11) sc__law_box.nd rfl (.inl rfl) (pe_op op_mul (pe_call (ok__law_take T) (hr.mono (by omega)) (by rfl) T.g__law_take T.F__law_take.kp T.b__law_take .nil pass0 (pa_cons (pv 0) (pa_cons pe_int pa_nil))) (pe_call (ok__law_take T) (hr.mono (by omega)) (by rfl) T.g__law_take T.F__law_take.kp T.b__law_take .nil pass0 (pa_cons (pv 0) (pa_cons pe_int pa_nil)))))
      (pss_cons (ps_set (i := 12) sc__law_box.nd rfl (.inl rfl) (pe_tup (pa_cons (pe_call (ok__law_range T) (hr.mono (by omega)) (by rfl) T.g__law_range T.F__law_range.kp T.b__law_range .nil pass0 (pa_cons (pv 0) pa_nil)) (pa_cons (pe_call (ok__law_range T) (hr.mono (by omega)) (by rfl) T.g__law_range T.F__law_range.kp T.b__law_range .nil pass0 (pa_cons (pv 0) pa_nil)) (pa_cons (pe_ix k_ixt (pv 10) pe_int (fun _ _ => rfl)) (pa_cons (pe_ix k_ixt (pv 10) pe_int (fun _ _ => rfl)) (pa_cons (pv 11) (pa_cons (pv 9) pa_nil))))))))
      (pss_one (ps_ret (pe_tup (pa_cons (pv 5) (pa_cons (pv 4) (pa_cons (pv 12) (pa_cons (pe_call (ok__law_what T) (hr.mono (by omega)) (by rfl) T.g__law_what T.F__law_what.kp T.b__law_what .nil pass0 (pa_cons (pv 0) (pa_cons (pv 5) (pa_cons (pe_callB k_len (by rfl) T.z_len PySem.boot_len (pa_cons (pv 7) pa_nil)) pa_nil)))) (pa_cons (pe_callTy k_tuple (by rfl) T.z_tuple (by decide +kernel) (pa_cons (pv 7) pa_nil)) pa_nil)))))))))))))))))))), ?_⟩
    refine enterM2 (sl := [.at p_0, .at p_1, sv deep_482, sv tabled_483, .any, .any, .any, .any, .any, .any, .any, .any, .any]) (b1 := (ol p_0 stream_here_480)) (b2 := (ol p_1 names_here_481)) ek hpq kp kq rfl rfl h1 h2 ⟨rfl, rfl, ⟨v_2, rfl, hv_2⟩, ⟨v_3, rfl, hv_3⟩, trivial, trivial, trivial, trivial, trivial, trivial, trivial, trivial, trivial, trivial⟩ ?_
    have q := rt_ofM2 (b1 := (ol p_0 xs_)) (b2 := (ol p_1 ys_)) hpq kp kq rfl rfl q
    clear h1 h2 hpq ek kp kq
    obtain ⟨⟨pp_484, names_here_485⟩, h_pp_484, hf⟩ := bind_some hf
    obtain ⟨name_486, h_name_486, hf⟩ := bind_some hf
    refine SB.seqB (fun kx_ => sb_asgM (sl' := [.at p_0, .at p_1, sv deep_482, sv tabled_483, sv name_486, .any, .any, .any, .any, .any, .any, .any, .any]) rfl (EM.cast (em_pop (i := 1) (j := 1) rfl rfl h_pp_484) (Option.some.inj h_name_486)) (kx_ _ _ ?_))
    obtain ⟨⟨r_487, stream_here_488⟩, h_r_487, hf⟩ := bind_some hf
    obtain ⟨i_489, h_i_489, hf⟩ := bind_some hf
    obtain ⟨kind_490, h_kind_490, hf⟩ := bind_some hf
    refine SB.seqB (fun kx_ => sb_asgM (sl' := [.at p_0, .at p_1, sv deep_482, sv tabled_483, sv name_486, sv kind_490, .any, .any, .any, .any, .any, .any, .any]) rfl (EM.cast (em_op (EV.em (EN.ev (en_lst (el_cons (ev_str ("leaf" : Str)) (el_cons (ev_str ("row" : Str)) (el_cons (ev_str ("column" : Str)) (el_cons (ev_str ("wrap" : Str)) (el_cons (ev_str ("table" : Str)) (el_cons (ev_str ("words" : Str)) (el_cons (ev_str ("flow" : Str)) (el_cons (ev_str ("over" : Str)) el_nil))))))))))) (em_callM (i := 0) (j := 0) rfl (EA.eam (ea_cons (ev_int 8) ea_nil)) rfl h_r_487) (r2_ixL h_i_489)) (Option.some.inj h_kind_490)) (kx_ _ _ ?_))
    obtain ⟨⟨r_491, stream_here_492⟩, h_r_491, hf⟩ := bind_some hf
    obtain ⟨many_493, h_many_493, hf⟩ := bind_some hf
    refine SB.seqB (fun kx_ => sb_asgM (sl' := [.at p_0, .at p_1, sv deep_482, sv tabled_483, sv name_486, sv kind_490, sv many_493, .any, .any, .any, .any, .any, .any]) rfl (EM.cast (em_cb (eam_cons (em_callM (i := 0) (j := 0) rfl (EA.eam (ea_cons (ev_int 5) ea_nil)) rfl h_r_491) (eam_cons (EV.em (ev_bor (i := 1) (j := 1) (sl' := [.at p_0, sv names_here_485, sv deep_482, sv tabled_483, sv name_486, sv kind_490, .any, .any, .any, .any, .any, .any, .any]) (ow1 := [ol p_0 stream_here_492]) rfl rfl rfl rfl (ev_cb (ea_cons (ev_var (i := 1) rfl) ea_nil) rc_len))) eam_nil)) rc_min) (Option.some.inj h_many_493)) (kx_ _ _ ?_))
    obtain ⟨⟨kind_500, stream_here_501⟩, hj_494, hf⟩ := bind_some hf
    refine SB.cutB (sl' := [.at p_0, .at p_1, sv deep_482, sv tabled_483, sv name_486, sv kind_500, sv many_493, .any, .any, .any, .any, .any, .any]) (ow1 := [ol p_0 stream_here_501, ol p_1 names_here_485]) (fun km_502 => sb_if (b := ((decide ((7 : Int) < deep_482)) || ((decide (many_493 = (0 : Int))) && (decide (kind_490 = ("over" : Str)))))) (et_or (et_test (ev_op (ev_var (i := 2) rfl) (ev_int 7) r2_gt)) (fun _ => (et_and (et_test (ev_op (ev_var (i := 6) rfl) (ev_int 0) r2_eqI)) (fun _ => (et_test (ev_op (ev_var (i := 5) rfl) (ev_str ("over" : Str)) r2_eqS)))))) (fun hb_495 => ?_) (fun hb_495 => ?_)) ?_
    · have hj_494 := ite_t hb_495 hj_494
      obtain ⟨⟨r_496, stream_here_497⟩, h_r_496, hj_494⟩ := bind_some hj_494
      obtain ⟨i_498, h_i_498, hj_494⟩ := bind_some hj_494
      obtain ⟨kind_499, h_kind_499, hj_494⟩ := bind_some hj_494
      refine sb_asgM (sl' := [.at p_0, .at p_1, sv deep_482, sv tabled_483, sv name_486, sv kind_499, sv many_493, .any, .any, .any, .any, .any, .any]) rfl (EM.cast (em_op (EV.em (EN.ev (en_lst (el_cons (ev_str ("leaf" : Str)) (el_cons (ev_str ("words" : Str)) el_nil))))) (em_callM (i := 0) (j := 0) rfl (EA.eam (ea_cons (ev_int 2) ea_nil)) rfl h_r_496) (r2_ixL h_i_498)) (Option.some.inj h_kind_499)) ?_
      cases hj_494
      exact km_502 _ _ (.keep (.keep (.keep (.keep (.keep (.keep (.keep (.keep (.keep (.keep (.keep (.keep (.keep .nil))))))))))))) (List.Sublist.refl _)
    · have hj_494 := ite_f hb_495 hj_494
      refine sb_nx ?_
      cases hj_494
      exact km_502 _ _ (.keep (.keep (.keep (.keep (.keep (.keep (.keep (.keep (.keep (.keep (.keep (.keep (.keep .nil))))))))))))) (List.Sublist.refl _)
    obtain ⟨many_506, hj_503, hf⟩ := bind_some hf
    refine SB.cutB (sl' := [.at p_0, .at p_1, sv deep_482, sv tabled_483, sv name_486, sv kind_500, sv many_506, .any, .any, .any, .any, .any, .any]) (ow1 := [ol p_0 stream_here_501, ol p_1 names_here_485]) (fun km_507 => sb_if (b := (decide (kind_500 ∈ (Tu.mk [("leaf" : Str), ("words" : Str)]).l))) (et_test (ev_op (ev_var (i := 5) rfl) (ev_tuH (el_cons (ev_str ("leaf" : Str)) (el_cons (ev_str ("words" : Str)) el_nil))) r2_inU)) (fun hb_504 => ?_) (fun hb_504 => ?_)) ?_
    · have hj_503 := ite_t hb_504 hj_503
      obtain ⟨many_505, h_many_505, hj_503⟩ := bind_some hj_503
      refine sb_asg (sl' := [.at p_0, .at p_1, sv deep_482, sv tabled_483, sv name_486, sv kind_500, sv many_505, .any, .any, .any, .any, .any, .any]) rfl (EV.cast (ev_int 0) (Option.some.inj h_many_505)) ?_
      cases hj_503
      exact km_507 _ _ (.keep (.keep (.keep (.keep (.keep (.keep (.keep (.keep (.keep (.keep (.keep (.keep (.keep .nil))))))))))))) (List.Sublist.refl _)
    · have hj_503 := ite_f hb_504 hj_503
      refine sb_nx ?_
      cases hj_503
      exact km_507 _ _ (.keep (.keep (.keep (.keep (.keep (.keep (.keep (.keep (.keep (.keep (.keep (.keep (.keep .nil))))))))))))) (List.Sublist.refl _)
    obtain ⟨parts_508, h_parts_508, hf⟩ := bind_some hf
    refine SB.seqB (fun kx_ => sb_asgO (sl' := fun p_parts_508 => [.at p_0, .at p_1, sv deep_482, sv tabled_483, sv name_486, sv kind_500, sv many_506, .at p_parts_508, .any, .any, .any, .any, .any]) (fun _ => rfl) (EN.cast (en_lst el_nil) (Option.some.inj h_parts_508)) (fun p_parts_508 => (kx_ _ _ ?_)))
    obtain ⟨rg_509, h_rg_509, hf⟩ := bind_some hf
    obtain ⟨⟨parts_527, stream_here_528, names_here_529⟩, h_tot_518, hf⟩ := bind_some hf
    refine SB.seqB (fun kx_530 => sb_for (β := Int) (Sx := (List Dy) × (List Int) × (List Str)) (fun s => [.at p_0, .at p_1, sv deep_482, sv tabled_483, sv name_486, sv kind_500, sv many_506, .at p_parts_508, .any, .any, .any, .any, .any]) (fun s => [ol p_parts_508 s.1, ol p_0 s.2.1, ol p_1 s.2.2]) (fun x s => [.at p_0, .at p_1, sv deep_482, sv tabled_483, sv name_486, sv kind_500, sv many_506, .at p_parts_508, sv x, .any, .any, .any, .any]) [8] (fun xs s => forS (m__law_box_L1 rec__law_box deep_482 tabled_483 kind_500) xs s = some (parts_527, stream_here_528, names_here_529)) (parts_508, stream_here_501, names_here_485) (IT.m (it_rng1 (ea_cons (ev_var (i := 6) rfl) ea_nil) h_rg_509)) h_tot_518 (.keep (.keep (.keep (.keep (.keep (.keep (.keep (.keep (.keep (.keep (.keep (.keep (.keep .nil))))))))))))) (List.Sublist.refl _) (fun x s => (gt_name rfl)) ?_ ?_)
    · intro Kn1 b1 k_513 rest_ s_ hP_515 N_ hN_514
      obtain ⟨parts_510, stream_here_511, names_here_512⟩ := s_
      obtain ⟨c_, hc_516, hP_515⟩ := bind_some hP_515
      have q_517 := q.base b1
      unfold m__law_box_L1 at hc_516
      refine SB.is (sl' := [.at p_0, .at p_1, sv deep_482, sv tabled_483, sv name_486, sv kind_500, sv many_506, .at p_parts_508, sv k_513, .any, .any, .any, .any]) (ow1 := [ol p_parts_508 parts_510, ol p_0 stream_here_511, ol p_1 names_here_512]) rfl rfl ?_
      obtain ⟨e_520, h_e_520, hc_516⟩ := bind_some hc_516
      refine sb_if (b := e_520) (et_test (ev_bor (i := 1) (j := 2) (sl' := [.at p_0, sv names_here_512, sv deep_482, sv tabled_483, sv name_486, sv kind_500, sv many_506, .at p_parts_508, sv k_513, .any, .any, .any, .any]) (ow1 := [ol p_parts_508 parts_510, ol p_0 stream_here_511]) rfl rfl rfl rfl (ev_op (ev_var (i := 1) rfl) (EN.ev (en_lst el_nil)) (r2_neO h_e_520)))) (fun hb_521 => ?_) (fun hb_521 => ?_)
      · have hc_516 := ite_t hb_521 hc_516
        obtain ⟨⟨r_523, stream_here_524, names_here_525⟩, h_r_523, hc_516⟩ := bind_some hc_516
        obtain ⟨parts_526, h_parts_526, hc_516⟩ := bind_some hc_516
        refine sb_appOM (i := 7) (j := 0) rfl rfl (em_callM2 (mk := (fun p_ q_ => (mO p_ (mO q_ (mV (mV mE)))))) (o1 := (fun p_ (x_ : (List Int)) => ol p_ x_)) (o2 := (fun p_ (x_ : (List Str)) => ol p_ x_)) (j := 1) (k := 2) (emx_own (i := 0) rfl (emx_own (i := 1) rfl (emx_val (ev_op (ev_var (i := 2) rfl) (ev_int 1) r2_add) (emx_val (ev_orV (ev_var (i := 3) rfl) (fun _ => (ev_op (ev_var (i := 5) rfl) (ev_str ("table" : Str)) r2_eqS))) emx_nil)))) rfl rfl (by decide) (fun _ _ => rfl) (fun _ _ => rfl) h_r_523) rfl h_parts_526 (ow2 := [ol p_parts_508 parts_526, ol p_0 stream_here_524, ol p_1 names_here_525]) rfl ?_
        cases hc_516
        exact fun σ Kn H s => hN_514 _ hP_515 σ Kn H ((s.le (.keep (.keep (.keep (.keep (.keep (.keep (.keep (.keep (.drop (.keep (.keep (.keep (.keep .nil)))))))))))))).sub (List.Sublist.refl _))
      · have hc_516 := ite_f hb_521 hc_516
        refine sb_nx ?_
        cases hc_516
        exact fun σ Kn H s => hN_514 _ hP_515 σ Kn H ((s.le (.keep (.keep (.keep (.keep (.keep (.keep (.keep (.keep (.drop (.keep (.keep (.keep (.keep .nil)))))))))))))).sub (List.Sublist.refl _))
    · intro s_ h0
      cases h0
      refine kx_530 _ _ ?_
      refine SB.is (sl' := [.at p_0, .at p_1, sv deep_482, sv tabled_483, sv name_486, sv kind_500, sv many_506, .at p_parts_508, .any, .any, .any, .any, .any]) (ow1 := [ol p_parts_508 parts_527, ol p_0 stream_here_528, ol p_1 names_here_529]) rfl rfl ?_
      obtain ⟨alike_531, h_alike_531, hf⟩ := bind_some hf
      refine SB.seqB (fun kx_ => sb_asg (sl' := [.at p_0, .at p_1, sv deep_482, sv tabled_483, sv name_486, sv kind_500, sv many_506, .at p_parts_508, .any, sv alike_531, .any, .any, .any]) rfl (EV.cast (ev_int 0) (Option.some.inj h_alike_531)) (kx_ _ _ ?_))
      obtain ⟨⟨alike_540, stream_here_541⟩, hj_532, hf⟩ := bind_some hf
      refine SB.cutB (sl' := [.at p_0, .at p_1, sv deep_482, sv tabled_483, sv name_486, sv kind_500, sv many_506, .at p_parts_508, .any, sv alike_540, .any, .any, .any]) (ow1 := [ol p_parts_508 parts_527, ol p_0 stream_here_541, ol p_1 names_here_529]) (fun km_542 => sb_if (b := ((decide (kind_500 ∈ (Tu.mk [("leaf" : Str), ("row" : Str), ("column" : Str), ("wrap" : Str)]).l)) && (!tabled_483))) (et_and (et_test (ev_op (ev_var (i := 5) rfl) (ev_tuH (el_cons (ev_str ("leaf" : Str)) (el_cons (ev_str ("row" : Str)) (el_cons (ev_str ("column" : Str)) (el_cons (ev_str ("wrap" : Str)) el_nil))))) r2_inU)) (fun _ => (et_not (et_B (ev_var (i := 3) rfl))))) (fun hb_533 => ?_) (fun hb_533 => ?_)) ?_
      · have hj_532 := ite_t hb_533 hj_532
        obtain ⟨⟨r_534, stream_here_535⟩, h_r_534, hj_532⟩ := bind_some hj_532
        obtain ⟨⟨r_536, stream_here_537⟩, h_r_536, hj_532⟩ := bind_some hj_532
        obtain ⟨i_538, h_i_538, hj_532⟩ := bind_some hj_532
        obtain ⟨alike_539, h_alike_539, hj_532⟩ := bind_some hj_532
        refine sb_asgM (sl' := [.at p_0, .at p_1, sv deep_482, sv tabled_483, sv name_486, sv kind_500, sv many_506, .at p_parts_508, .any, sv alike_539, .any, .any, .any]) rfl (EM.cast (em_op (ENM.em (enm_lst (elm_cons (EV.em (ev_int 0)) (elm_cons (EV.em (ev_int 0)) (elm_cons (EV.em (ev_int 1)) (elm_cons (em_op (EV.em (ev_int 2)) (em_callM (i := 0) (j := 1) rfl (EA.eam (ea_cons (ev_int 8) ea_nil)) rfl h_r_534) r2_add) elm_nil)))))) (em_callM (i := 0) (j := 1) rfl (EA.eam (ea_cons (ev_int 4) ea_nil)) rfl h_r_536) (r2_ixL h_i_538)) (Option.some.inj h_alike_539)) ?_
        cases hj_532
        exact km_542 _ _ (.keep (.keep (.keep (.keep (.keep (.keep (.keep (.keep (.keep (.keep (.keep (.keep (.keep .nil))))))))))))) (List.Sublist.refl _)
      · have hj_532 := ite_f hb_533 hj_532
        refine sb_nx ?_
        cases hj_532
        exact km_542 _ _ (.keep (.keep (.keep (.keep (.keep (.keep (.keep (.keep (.keep (.keep (.keep (.keep (.keep .nil))))))))))))) (List.Sublist.refl _)
      obtain ⟨⟨r_543, stream_here_544⟩, h_r_543, hf⟩ := bind_some hf
      obtain ⟨⟨r_545, stream_here_546⟩, h_r_545, hf⟩ := bind_some hf
      obtain ⟨⟨r_547, stream_here_548⟩, h_r_547, hf⟩ := bind_some hf
      obtain ⟨i_549, h_i_549, hf⟩ := bind_some hf
      obtain ⟨shares_550, h_shares_550, hf⟩ := bind_some hf
      refine SB.seqB (fun kx_ => sb_asgM (sl' := [.at p_0, .at p_1, sv deep_482, sv tabled_483, sv name_486, sv kind_500, sv many_506, .at p_parts_508, .any, sv alike_540, sv shares_550, .any, .any]) rfl (EM.cast (em_op (ENM.em (enm_lst (elm_cons (EV.em (ev_tup (ea_cons (ev_int 1) (ea_cons (ev_int 1) ea_nil)))) (elm_cons (EV.em (ev_tup (ea_cons (ev_int 0) (ea_cons (ev_int 1) ea_nil)))) (elm_cons (em_tup (eam_cons (em_callM (i := 0) (j := 1) rfl (EA.eam (ea_cons (ev_int 100) ea_nil)) rfl h_r_543) (eam_cons (em_callM (i := 0) (j := 1) rfl (EA.eam (ea_cons (ev_int 100) ea_nil)) rfl h_r_545) eam_nil))) elm_nil))))) (em_callM (i := 0) (j := 1) rfl (EA.eam (ea_cons (ev_int 3) ea_nil)) rfl h_r_547) (r2_ixL h_i_549)) (Option.some.inj h_shares_550)) (kx_ _ _ ?_))
      obtain ⟨⟨r_551, stream_here_552⟩, h_r_551, hf⟩ := bind_some hf
      obtain ⟨⟨r_553, stream_here_554⟩, h_r_553, hf⟩ := bind_some hf
      obtain ⟨m_555, h_m_555, hf⟩ := bind_some hf
      obtain ⟨rank_556, h_rank_556, hf⟩ := bind_some hf
      refine SB.seqB (fun kx_ => sb_asgM (sl' := [.at p_0, .at p_1, sv deep_482, sv tabled_483, sv name_486, sv kind_500, sv many_506, .at p_parts_508, .any, sv alike_540, sv shares_550, sv rank_556, .any]) rfl (EM.cast (em_op (em_callM (i := 0) (j := 1) rfl (EA.eam (ea_cons (ev_int 10) ea_nil)) rfl h_r_551) (em_callM (i := 0) (j := 1) rfl (EA.eam (ea_cons (ev_int 2) ea_nil)) rfl h_r_553) (r2_mulO h_m_555)) (Option.some.inj h_rank_556)) (kx_ _ _ ?_))
      obtain ⟨⟨r_557, stream_here_558⟩, h_r_557, hf⟩ := bind_some hf
      obtain ⟨⟨r_559, stream_here_560⟩, h_r_559, hf⟩ := bind_some hf
      obtain ⟨own_561, h_own_561, hf⟩ := bind_some hf
      refine SB.seqB (fun kx_ => sb_asgM (sl' := [.at p_0, .at p_1, sv deep_482, sv tabled_483, sv name_486, sv kind_500, sv many_506, .at p_parts_508, .any, sv alike_540, sv shares_550, sv rank_556, sv own_561]) rfl (EM.cast (em_tup (eam_cons (em_callM (i := 0) (j := 1) rfl (EA.eam ea_nil) rfl h_r_557) (eam_cons (em_callM (i := 0) (j := 1) rfl (EA.eam ea_nil) rfl h_r_559) (eam_cons (EV.em (ev_op (ev_var (i := 10) rfl) (ev_int 0) (r2_tix (n := 0) (At.z _ _)))) (eam_cons (EV.em (ev_op (ev_var (i := 10) rfl) (ev_int 1) (r2_tix (n := 1) (At.s _ (At.z _ _))))) (eam_cons (EV.em (ev_var (i := 11) rfl)) (eam_cons (EV.em (ev_var (i := 9) rfl)) eam_nil))))))) (Option.some.inj h_own_561)) (kx_ _ _ ?_))
      refine sb_freeze (i := 7) (j := 0) (sl' := [.at p_0, .at p_1, sv deep_482, sv tabled_483, sv name_486, sv kind_500, sv many_506, sv parts_527, .any, sv alike_540, sv shares_550, sv rank_556, sv own_561]) (ow1 := [ol p_0 stream_here_560, ol p_1 names_here_529]) rfl rfl rfl rfl ?_
      obtain ⟨⟨r_562, stream_here_563⟩, h_r_562, hf⟩ := bind_some hf
      cases hf
      exact sb_retM (em_up (em_tup (eam_cons (EV.em (ev_var (i := 5) rfl)) (eam_cons (EV.em (ev_var (i := 4) rfl)) (eam_cons (EV.em (ev_var (i := 12) rfl)) (eam_cons (em_callM (i := 0) (j := 0) rfl (EA.eam (ea_cons (ev_var (i := 5) rfl) (ea_cons (ev_cb (ea_cons (ev_var (i := 7) rfl) ea_nil) rc_len) ea_nil))) rfl h_r_562) (eam_cons (EV.em (ev_cb (ea_cons (ev_var (i := 7) rfl) ea_nil) rc_tuple)) eam_nil))))))) q (List.Sublist.refl _)
theorem ok__law_box (T : TX K mg w) : ∀ n : Nat, FnOk P w K mg base CX0 (3 + n) T.a__law_box T.d__law_box ["_law_stream_here", "_law_names_here", "_law_deep", "_law_tabled"] (PM2 (α := Dy) (γ := (List Int)) (δ := (List Str)) (τ := Int × Bool × Unit) K (fun p_ q_ => (mO p_ (mO q_ (mV (mV mE))))) (fun p_ (x_ : (List Int)) => ol p_ x_) (fun p_ (x_ : (List Str)) => ol p_ x_) (fun x_ y_ t_ => m__law_box n x_ y_ t_.1 t_.2.1))
  | 0 => fnok_noneM2
  | n + 1 => step__law_box T (m__law_box n) (Nat.le_add_right _ _) (ok__law_box T n)
theorem sc__law_own_words : FnScope ["_law_own", "_law_words_here", "_law_key", "_law_pair", "_law_number", "_law_plain"] ["_law_own"] (defScope s__law_own_words) := ⟨rfl, rfl, rfl, by decide +kernel, rfl, by decide +kernel, by decide +kernel⟩
set_option maxHeartbeats 4000000 in
theorem ok__law_own_words (T : TX K mg w) : FnOk P w K mg base CX0 1 T.a__law_own_words T.d__law_own_words ["_law_own"] (PL (τ := Dy × Unit) K (fun t => m__law_own_words t.1)) := by
  refine T.F__law_own_words.ok sc__law_own_words (fun vs H Q E h => ?_) (fun cdv A outer s H vs Q E hr h => ?_)
  · obtain ⟨Kn, t, r, ek, h, hf, q⟩ := h
    exact Tp.len h
  · obtain ⟨Kn, t, r_, ek, h, hf, q⟩ := h
    obtain ⟨own_564, u_⟩ := t
    obtain ⟨v_0, rr_, rfl, hv_0, h⟩ := h
    obtain rfl := h
    replace hf : m__law_own_words own_564 = some r_ := hf
    unfold m__law_own_words at hf
    refine ⟨_, (pss_cons (ps_set (i := 1) sc__law_own_words.nd rfl (.inl rfl) (pe_lst pa_nil))
      (pss_cons (ps_for PassesOwn.never rfl (kpi_list (pe_lst (pa_cons (pe_tup (pa_cons pe_str (pa_cons (pe_ix k_ixt (pv 0) pe_int (fun _ _ => rfl)) pa_nil))) (pa_cons (pe_tup (pa_cons pe_str (pa_cons (pe_ix k_ixt (pv 0) pe_int (fun _ _ => rfl)) pa_nil))) pa_nil)))) (kpg_tup (pgs_cons (pg_name (i := 2) sc__law_own_words.nd rfl (.inl rfl)) (pgs_cons (pg_name (i := 3) sc__law_own_words.nd rfl (.inl rfl)) pgs_nil))) (pss_one (ps_if (pt_cmpR (k_neD hr.units) (pv 3) (pe_tup (pa_cons pe_int (pa_cons (pe_op op_pow pe_int pe_int) pa_nil))) (nomark _)) (pss_one (ps_expr (pe_bm PySem.F.plainAttrs_list PySem.F.slot_list_append PySem.F.type_list_append mt_append (pv 1) (pa_cons (pe_op op_add_str (pe_op op_add_str (pe_op op_add_str (pe_op op_add_str (pv 2) pe_str) (pe_callTy k_strD (by rfl) T.z_str (by decide +kernel) (pa_cons (pe_ix k_ixt (pv 3) pe_int (fun _ _ => rfl)) pa_nil))) pe_str) (pe_callTy k_strD (by rfl) T.z_str (by decide +kernel) (pa_cons (pe_ix k_ixt (pv 3) pe_int (fun _ _ => rfl)) pa_nil))) pa_nil)))) pss_nil)))
      (pss_cons (ps_for PassesOwn.never rfl (kpi_list (pe_lst (pa_cons (pe_tup (pa_cons pe_str (pa_cons (pe_ix k_ixt (pv 0) pe_int (fun _ _ => rfl)) (pa_cons pe_int pa_nil)))) (pa_cons (pe_tup (pa_cons pe_str (pa_cons (pe_ix k_ixt (pv 0) pe_int (fun _ _ => rfl)) (pa_cons pe_int pa_nil)))) (pa_cons (pe_tup (pa_cons pe_str (pa_cons (pe_ix k_ixt (pv 0) pe_int (fun _ _ => rfl)) (pa_cons pe_int pa_nil)))) (pa_cons (pe_tup (pa_cons pe_str (pa_cons (pe_ix k_ixt (pv 0) pe_int (fun _ _ => rfl)) (pa_cons pe_int pa_nil)))) pa_nil)))))) (kpg_tup (pgs_cons (pg_name (i := 2) sc__law_own_words.nd rfl (.inl rfl)) (pgs_cons (pg_name (i := 4) sc__law_own_words.nd rfl (.inl rfl)) (pgs_cons (pg_name (i := 5) sc__law_own_words.nd rfl (.inl rfl)) pgs_nil)))) (pss_one (ps_if (pt_cmpR op_ne (pv 4) (pv 5) (nomark _)) (pss_one (ps_expr (pe_bm PySem.F.plainAttrs_list PySem.F.slot_list_append PySem.F.type_list_append mt_append (pv 1) (pa_cons (pe_op op_add_str (pe_op op_add_str (pv 2) pe_str) (pe_callTy k_strD (by rfl) T.z_str (by decide +kernel) (pa_cons (pv 4) pa_nil))) pa_nil)))) pss_nil)))
      (pss_one (ps_ret (pv 1)))))), ?_⟩
    refine enter (Kn := Kn) (sl := [sv own_564, .any, .any, .any, .any, .any]) ek ⟨⟨v_0, rfl, hv_0⟩, trivial, trivial, trivial, trivial, trivial, trivial⟩ ?_
    have q := rn_of q
    obtain ⟨words_here_565, h_words_here_565, hf⟩ := bind_some hf
    refine SB.seqB (fun kx_ => sb_asgO (sl' := fun p_words_here_565 => [sv own_564, .at p_words_here_565, .any, .any, .any, .any]) (fun _ => rfl) (EN.cast (en_lst el_nil) (Option.some.inj h_words_here_565)) (fun p_words_here_565 => (kx_ _ _ ?_)))
    obtain ⟨o_566, h_o_566, hf⟩ := bind_some hf
    obtain ⟨i_567, h_i_567, hf⟩ := bind_some hf
    obtain ⟨o_568, h_o_568, hf⟩ := bind_some hf
    obtain ⟨i_569, h_i_569, hf⟩ := bind_some hf
    obtain ⟨words_here_593, h_tot_577, hf⟩ := bind_some hf
    refine SB.seqB (fun kx_594 => sb_for (β := (Str × Dy × Unit)) (Sx := (List Str)) (fun s => [sv own_564, .at p_words_here_565, .any, .any, .any, .any]) (fun s => [ol p_words_here_565 s]) (fun x s => [sv own_564, .at p_words_here_565, sv x.1, sv x.2.1, .any, .any]) [2, 3] (fun xs s => forS (m__law_own_words_L1) xs s = some words_here_593) words_here_565 (IT.m (it_list (EN.ev (en_lst (el_cons (ev_tup (ea_cons (ev_str ("wide" : Str)) (ea_cons (ev_op (ev_of (ev_var (i := 0) rfl) h_o_566) (ev_int 0) (r2_ixU h_i_567)) ea_nil))) (el_cons (ev_tup (ea_cons (ev_str ("high" : Str)) (ea_cons (ev_op (ev_of (ev_var (i := 0) rfl) h_o_568) (ev_int 1) (r2_ixU h_i_569)) ea_nil))) el_nil)))))) h_tot_577 (.keep (.keep (.keep (.keep (.keep (.keep .nil)))))) (List.Sublist.refl _) (fun x s => (gt_tup (gts_cons (gt_name rfl) (gts_cons (gt_name rfl) gts_nil)))) ?_ ?_)
    · intro Kn1 b1 x_ rest_ words_here_570 hP_574 N_ hN_573
      obtain ⟨key_571, pair_572, _⟩ := x_
      obtain ⟨c_, hc_575, hP_574⟩ := bind_some hP_574
      have q_576 := q.base b1
      unfold m__law_own_words_L1 at hc_575
      refine SB.is (sl' := [sv own_564, .at p_words_here_565, sv key_571, sv pair_572, .any, .any]) (ow1 := [ol p_words_here_565 words_here_570]) rfl rfl ?_
      obtain ⟨e_579, h_e_579, hc_575⟩ := bind_some hc_575
      refine sb_if (b := (!e_579)) (et_test (ev_op (ev_var (i := 3) rfl) (ev_up (ev_tup (ea_cons (ev_int 0) (ea_cons (ev_op (ev_int 10) (ev_int 6) (r2_pow (r := 1000000))) ea_nil)))) (r2_neY h_e_579))) (fun hb_580 => ?_) (fun hb_580 => ?_)
      · have hc_575 := ite_t hb_580 hc_575
        obtain ⟨t_582, h_t_582, hc_575⟩ := bind_some hc_575
        obtain ⟨o_583, h_o_583, hc_575⟩ := bind_some hc_575
        obtain ⟨i_584, h_i_584, hc_575⟩ := bind_some hc_575
        obtain ⟨sn_585, h_sn_585, hc_575⟩ := bind_some hc_575
        obtain ⟨t_586, h_t_586, hc_575⟩ := bind_some hc_575
        obtain ⟨t_587, h_t_587, hc_575⟩ := bind_some hc_575
        obtain ⟨o_588, h_o_588, hc_575⟩ := bind_some hc_575
        obtain ⟨i_589, h_i_589, hc_575⟩ := bind_some hc_575
        obtain ⟨sn_590, h_sn_590, hc_575⟩ := bind_some hc_575
        obtain ⟨t_591, h_t_591, hc_575⟩ := bind_some hc_575
        obtain ⟨words_here_592, h_words_here_592, hc_575⟩ := bind_some hc_575
        refine sb_appO (i := 1) (j := 0) rfl rfl (ev_op (ev_op (ev_op (ev_op (ev_var (i := 2) rfl) (ev_str ("=" : Str)) (r2_addS h_t_582)) (ev_cb (ea_cons (ev_op (ev_of (ev_var (i := 3) rfl) h_o_583) (ev_int 0) (r2_ixU h_i_584)) ea_nil) (rc_strD h_sn_585)) (r2_addS h_t_586)) (ev_str (".." : Str)) (r2_addS h_t_587)) (ev_cb (ea_cons (ev_op (ev_of (ev_var (i := 3) rfl) h_o_588) (ev_int 1) (r2_ixU h_i_589)) ea_nil) (rc_strD h_sn_590)) (r2_addS h_t_591)) h_words_here_592 (ow1 := [ol p_words_here_565 words_here_592]) rfl ?_
        cases hc_575
        exact fun σ Kn H s => hN_573 _ hP_574 σ Kn H ((s.le (.keep (.keep (.drop (.drop (.keep (.keep .nil))))))).sub (List.Sublist.refl _))
      · have hc_575 := ite_f hb_580 hc_575
        refine sb_nx ?_
        cases hc_575
        exact fun σ Kn H s => hN_573 _ hP_574 σ Kn H ((s.le (.keep (.keep (.drop (.drop (.keep (.keep .nil))))))).sub (List.Sublist.refl _))
    · intro s_ h0
      cases h0
      refine kx_594 _ _ ?_
      refine SB.is (sl' := [sv own_564, .at p_words_here_565, .any, .any, .any, .any]) (ow1 := [ol p_words_here_565 words_here_593]) rfl rfl ?_
      obtain ⟨o_595, h_o_595, hf⟩ := bind_some hf
      obtain ⟨i_596, h_i_596, hf⟩ := bind_some hf
      obtain ⟨o_597, h_o_597, hf⟩ := bind_some hf
      obtain ⟨i_598, h_i_598, hf⟩ := bind_some hf
      obtain ⟨o_599, h_o_599, hf⟩ := bind_some hf
      obtain ⟨i_600, h_i_600, hf⟩ := bind_some hf
      obtain ⟨o_601, h_o_601, hf⟩ := bind_some hf
      obtain ⟨i_602, h_i_602, hf⟩ := bind_some hf
      obtain ⟨words_here_620, h_tot_611, hf⟩ := bind_some hf
      refine SB.seqB (fun kx_621 => sb_for (β := (Str × Dy × Int × Unit)) (Sx := (List Str)) (fun s => [sv own_564, .at p_words_here_565, .any, .any, .any, .any]) (fun s => [ol p_words_here_565 s]) (fun x s => [sv own_564, .at p_words_here_565, sv x.1, .any, sv x.2.1, sv x.2.2.1]) [2, 4, 5] (fun xs s => forS (m__law_own_words_L2) xs s = some words_here_620) words_here_593 (IT.m (it_list (EN.ev (en_lst (el_cons (ev_tup (ea_cons (ev_str ("grow" : Str)) (ea_cons (ev_op (ev_of (ev_var (i := 0) rfl) h_o_595) (ev_int 2) (r2_ixU h_i_596)) (ea_cons (ev_int 0) ea_nil)))) (el_cons (ev_tup (ea_cons (ev_str ("shrink" : Str)) (ea_cons (ev_op (ev_of (ev_var (i := 0) rfl) h_o_597) (ev_int 3) (r2_ixU h_i_598)) (ea_cons (ev_int 1) ea_nil)))) (el_cons (ev_tup (ea_cons (ev_str ("rank" : Str)) (ea_cons (ev_op (ev_of (ev_var (i := 0) rfl) h_o_599) (ev_int 4) (r2_ixU h_i_600)) (ea_cons (ev_int 0) ea_nil)))) (el_cons (ev_tup (ea_cons (ev_str ("alike" : Str)) (ea_cons (ev_op (ev_of (ev_var (i := 0) rfl) h_o_601) (ev_int 5) (r2_ixU h_i_602)) (ea_cons (ev_int 0) ea_nil)))) el_nil)))))))) h_tot_611 (.keep (.keep (.keep (.keep (.keep (.keep .nil)))))) (List.Sublist.refl _) (fun x s => (gt_tup (gts_cons (gt_name rfl) (gts_cons (gt_name rfl) (gts_cons (gt_name rfl) gts_nil))))) ?_ ?_)
      · intro Kn1 b1 x_ rest_ words_here_603 hP_608 N_ hN_607
        obtain ⟨key_604, number_605, plain_606, _⟩ := x_
        obtain ⟨c_, hc_609, hP_608⟩ := bind_some hP_608
        have q_610 := q.base b1
        unfold m__law_own_words_L2 at hc_609
        refine SB.is (sl' := [sv own_564, .at p_words_here_565, sv key_604, .any, sv number_605, sv plain_606]) (ow1 := [ol p_words_here_565 words_here_603]) rfl rfl ?_
        obtain ⟨o_613, h_o_613, hc_609⟩ := bind_some hc_609
        refine sb_if (b := (!decide (o_613 = plain_606))) (et_test (ev_op (ev_of (ev_var (i := 4) rfl) h_o_613) (ev_var (i := 5) rfl) r2_neI)) (fun hb_614 => ?_) (fun hb_614 => ?_)
        · have hc_609 := ite_t hb_614 hc_609
          obtain ⟨t_616, h_t_616, hc_609⟩ := bind_some hc_609
          obtain ⟨sn_617, h_sn_617, hc_609⟩ := bind_some hc_609
          obtain ⟨t_618, h_t_618, hc_609⟩ := bind_some hc_609
          obtain ⟨words_here_619, h_words_here_619, hc_609⟩ := bind_some hc_609
          refine sb_appO (i := 1) (j := 0) rfl rfl (ev_op (ev_op (ev_var (i := 2) rfl) (ev_str ("=" : Str)) (r2_addS h_t_616)) (ev_cb (ea_cons (ev_var (i := 4) rfl) ea_nil) (rc_strD h_sn_617)) (r2_addS h_t_618)) h_words_here_619 (ow1 := [ol p_words_here_565 words_here_619]) rfl ?_
          cases hc_609
          exact fun σ Kn H s => hN_607 _ hP_608 σ Kn H ((s.le (.keep (.keep (.drop (.keep (.drop (.drop .nil))))))).sub (List.Sublist.refl _))
        · have hc_609 := ite_f hb_614 hc_609
          refine sb_nx ?_
          cases hc_609
          exact fun σ Kn H s => hN_607 _ hP_608 σ Kn H ((s.le (.keep (.keep (.drop (.keep (.drop (.drop .nil))))))).sub (List.Sublist.refl _))
      · intro s_ h0
        cases h0
        refine kx_621 _ _ ?_
        refine SB.is (sl' := [sv own_564, .at p_words_here_565, .any, .any, .any, .any]) (ow1 := [ol p_words_here_565 words_here_620]) rfl rfl ?_
        cases hf
        exact sb_retO (i := 1) (j := 0) rfl rfl q (List.Sublist.cons _ List.Sublist.slnil)
theorem sc__law_what_words : FnScope ["_law_kind", "_law_what_here", "_law_words_here"] ["_law_kind", "_law_what_here"] (defScope s__law_what_words) := ⟨rfl, rfl, rfl, by decide +kernel, rfl, by decide +kernel, by decide +kernel⟩
set_option maxHeartbeats 4000000 in
theorem ok__law_what_words (T : TX K mg w) : FnOk P w K mg base CX0 1 T.a__law_what_words T.d__law_what_words ["_law_kind", "_law_what_here"] (PL (τ := Str × Dy × Unit) K (fun t => m__law_what_words t.1 t.2.1)) := by
  refine T.F__law_what_words.ok sc__law_what_words (fun vs H Q E h => ?_) (fun cdv A outer s H vs Q E hr h => ?_)
  · obtain ⟨Kn, t, r, ek, h, hf, q⟩ := h
    exact Tp.len h
  · obtain ⟨Kn, t, r_, ek, h, hf, q⟩ := h
    obtain ⟨kind_622, what_here_623, u_⟩ := t
    obtain ⟨v_0, rr_, rfl, hv_0, h⟩ := h
    obtain ⟨v_1, rr_, rfl, hv_1, h⟩ := h
    obtain rfl := h
    replace hf : m__law_what_words kind_622 what_here_623 = some r_ := hf
    unfold m__law_what_words at hf
    refine ⟨_, (pss_cons (ps_set (i := 2) sc__law_what_words.nd rfl (.inl rfl) (pe_lst pa_nil))
      (Evl.pss_cut (ps_if (PW.pt (pw_and (pt_cmpR op_eq (pv 0) pe_str (nomark _)) (pw_and1 (pt_cmpR (k_neD hr.units) (pv 1) (pe_tup (pa_cons pe_int (pa_cons pe_int pa_nil))) (nomark _))))) (pss_one (ps_expr (pe_bm PySem.F.plainAttrs_list PySem.F.slot_list_append PySem.F.type_list_append mt_append (pv 2) (pa_cons (pe_op op_add_str (pe_op op_add_str (pe_op op_add_str pe_str (pe_callTy k_strD (by rfl) T.z_str (by decide +kernel) (pa_cons (pe_ix k_ixt (pv 1) pe_int (fun _ _ => rfl)) pa_nil))) pe_str) (pe_callTy k_strD (by rfl) T.z_str (by decide +kernel) (pa_cons (pe_ix k_ixt (pv 1) pe_int (fun _ _ => rfl)) pa_nil))) pa_nil)))) pss_nil)
      (Evl.pss_cut (ps_if (pt_cmpR op_eq (pv 0) pe_str (nomark _)) (Evl.pss_cut (ps_if (pt_cmpR op_ne (pe_ix k_ixt (pv 1) pe_int (fun _ _ => rfl)) pe_int (nomark _)) (pss_one (ps_expr (pe_bm PySem.F.plainAttrs_list PySem.F.slot_list_append PySem.F.type_list_append mt_append (pv 2) (pa_cons (pe_op op_add_str pe_str (pe_callTy k_strD (by rfl) T.z_str (by decide +kernel) (pa_cons (pe_ix k_ixt (pv 1) pe_int (fun _ _ => rfl)) pa_nil))) pa_nil)))) pss_nil)
      (pss_one (ps_set (i := 1) sc__law_what_words.nd rfl (.inl rfl) (pe_tup (pa_cons (pe_ix k_ixt (pv 1) pe_int (fun _ _ => rfl)) (pa_cons pe_str (pa_cons (pe_ix k_ixt (pv 1) pe_int (fun _ _ => rfl)) pa_nil))))))) pss_nil)
      (Evl.pss_cut (ps_if (pt_cmpR k_in (pv 0) (pe_tup (pa_cons pe_str (pa_cons pe_str (pa_cons pe_str (pa_cons pe_str pa_nil))))) (by rfl)) (Evl.pss_cut (ps_if (pt_cmpR op_ne (pe_ix k_ixt (pv 1) pe_int (fun _ _ => rfl)) pe_int (nomark _)) (pss_one (ps_expr (pe_bm PySem.F.plainAttrs_list PySem.F.slot_list_append PySem.F.type_list_append mt_append (pv 2) (pa_cons (pe_op op_add_str pe_str (pe_callTy k_strD (by rfl) T.z_str (by decide +kernel) (pa_cons (pe_ix k_ixt (pv 1) pe_int (fun _ _ => rfl)) pa_nil))) pa_nil)))) pss_nil)
      (Evl.pss_cut (ps_if (pt_cmpR op_ne (pe_ix k_ixt (pv 1) pe_int (fun _ _ => rfl)) pe_str (nomark _)) (pss_one (ps_expr (pe_bm PySem.F.plainAttrs_list PySem.F.slot_list_append PySem.F.type_list_append mt_append (pv 2) (pa_cons (pe_op op_add_str pe_str (pe_ix k_ixt (pv 1) pe_int (fun _ _ => rfl))) pa_nil)))) pss_nil)
      (pss_one (ps_if (pt_cmpR op_ne (pe_ix k_ixt (pv 1) pe_int (fun _ _ => rfl)) pe_str (nomark _)) (pss_one (ps_expr (pe_bm PySem.F.plainAttrs_list PySem.F.slot_list_append PySem.F.type_list_append mt_append (pv 2) (pa_cons (pe_op op_add_str pe_str (pe_ix k_ixt (pv 1) pe_int (fun _ _ => rfl))) pa_nil)))) pss_nil)))) pss_nil)
      (Evl.pss_cut (ps_if (PW.pt (pw_and (pt_cmpR k_in (pv 0) (pe_tup (pa_cons pe_str (pa_cons pe_str pa_nil))) (by rfl)) (pw_and1 (pt_cmpR op_ne (pe_ix k_ixt (pv 1) (pe_op op_sub (pe_callB k_len (by rfl) T.z_len PySem.boot_len (pa_cons (pv 1) pa_nil)) pe_int) (fun _ _ => rfl)) pe_int (nomark _))))) (pss_one (ps_expr (pe_bm PySem.F.plainAttrs_list PySem.F.slot_list_append PySem.F.type_list_append mt_append (pv 2) (pa_cons (pe_op op_add_str pe_str (pe_callTy k_strD (by rfl) T.z_str (by decide +kernel) (pa_cons (pe_ix k_ixt (pv 1) (pe_op op_sub (pe_callB k_len (by rfl) T.z_len PySem.boot_len (pa_cons (pv 1) pa_nil)) pe_int) (fun _ _ => rfl)) pa_nil))) pa_nil)))) pss_nil)
      (pss_one (ps_ret (pv 2)))))))), ?_⟩
    refine enter (Kn := Kn) (sl := [sv kind_622, sv what_here_623, .any]) ek ⟨⟨v_0, rfl, hv_0⟩, ⟨v_1, rfl, hv_1⟩, trivial, trivial⟩ ?_
    have q := rn_of q
    obtain ⟨words_here_624, h_words_here_624, hf⟩ := bind_some hf
    refine SB.seqB (fun kx_ => sb_asgO (sl' := fun p_words_here_624 => [sv kind_622, sv what_here_623, .at p_words_here_624]) (fun _ => rfl) (EN.cast (en_lst el_nil) (Option.some.inj h_words_here_624)) (fun p_words_here_624 => (kx_ _ _ ?_)))
    obtain ⟨b_627, h_b_627, hf⟩ := bind_some hf
    obtain ⟨words_here_639, hj_625, hf⟩ := bind_some hf
    refine SB.cutB (sl' := [sv kind_622, sv what_here_623, .at p_words_here_624]) (ow1 := [ol p_words_here_624 words_here_639]) (fun km_640 => sb_if (b := b_627) (et_andO h_b_627 (et_test (ev_op (ev_var (i := 0) rfl) (ev_str ("leaf" : Str)) r2_eqS)) (fun _ _ h => by obtain ⟨e_626, h_e_626, h⟩ := bind_some h; have hz_ := Option.some.inj h; subst hz_; exact (et_test (ev_op (ev_var (i := 1) rfl) (ev_up (ev_tup (ea_cons (ev_int 0) (ea_cons (ev_int 0) ea_nil)))) (r2_neY h_e_626))))) (fun hb_628 => ?_) (fun hb_628 => ?_)) ?_
    · have hj_625 := ite_t hb_628 hj_625
      obtain ⟨o_629, h_o_629, hj_625⟩ := bind_some hj_625
      obtain ⟨i_630, h_i_630, hj_625⟩ := bind_some hj_625
      obtain ⟨sn_631, h_sn_631, hj_625⟩ := bind_some hj_625
      obtain ⟨t_632, h_t_632, hj_625⟩ := bind_some hj_625
      obtain ⟨t_633, h_t_633, hj_625⟩ := bind_some hj_625
      obtain ⟨o_634, h_o_634, hj_625⟩ := bind_some hj_625
      obtain ⟨i_635, h_i_635, hj_625⟩ := bind_some hj_625
      obtain ⟨sn_636, h_sn_636, hj_625⟩ := bind_some hj_625
      obtain ⟨t_637, h_t_637, hj_625⟩ := bind_some hj_625
      obtain ⟨words_here_638, h_words_here_638, hj_625⟩ := bind_some hj_625
      refine sb_appO (i := 2) (j := 0) rfl rfl (ev_op (ev_op (ev_op (ev_str ("wish=" : Str)) (ev_cb (ea_cons (ev_op (ev_of (ev_var (i := 1) rfl) h_o_629) (ev_int 0) (r2_ixU h_i_630)) ea_nil) (rc_strD h_sn_631)) (r2_addS h_t_632)) (ev_str ("," : Str)) (r2_addS h_t_633)) (ev_cb (ea_cons (ev_op (ev_of (ev_var (i := 1) rfl) h_o_634) (ev_int 1) (r2_ixU h_i_635)) ea_nil) (rc_strD h_sn_636)) (r2_addS h_t_637)) h_words_here_638 (ow1 := [ol p_words_here_624 words_here_638]) rfl ?_
      cases hj_625
      exact km_640 _ _ (.keep (.keep (.keep .nil))) (List.Sublist.refl _)
    · have hj_625 := ite_f hb_628 hj_625
      refine sb_nx ?_
      cases hj_625
      exact km_640 _ _ (.keep (.keep (.keep .nil))) (List.Sublist.refl _)
    obtain ⟨⟨what_here_660, words_here_661⟩, hj_641, hf⟩ := bind_some hf
    refine SB.cutB (sl' := [sv kind_622, sv what_here_660, .at p_words_here_624]) (ow1 := [ol p_words_here_624 words_here_661]) (fun km_662 => sb_if (b := (decide (kind_622 = ("table" : Str)))) (et_test (ev_op (ev_var (i := 0) rfl) (ev_str ("table" : Str)) r2_eqS)) (fun hb_642 => ?_) (fun hb_642 => ?_)) ?_
    · have hj_641 := ite_t hb_642 hj_641
      obtain ⟨o_644, h_o_644, hj_641⟩ := bind_some hj_641
      obtain ⟨i_645, h_i_645, hj_641⟩ := bind_some hj_641
      obtain ⟨o_646, h_o_646, hj_641⟩ := bind_some hj_641
      obtain ⟨words_here_653, hj_643, hj_641⟩ := bind_some hj_641
      refine SB.cutB (sl' := [sv kind_622, sv what_here_623, .at p_words_here_624]) (ow1 := [ol p_words_here_624 words_here_653]) (fun km_654 => sb_if (b := (!decide (o_646 = (1 : Int)))) (et_test (ev_op (ev_of (ev_op (ev_of (ev_var (i := 1) rfl) h_o_644) (ev_int 0) (r2_ixU h_i_645)) h_o_646) (ev_int 1) r2_neI)) (fun hb_647 => ?_) (fun hb_647 => ?_)) ?_
      · have hj_643 := ite_t hb_647 hj_643
        obtain ⟨o_648, h_o_648, hj_643⟩ := bind_some hj_643
        obtain ⟨i_649, h_i_649, hj_643⟩ := bind_some hj_643
        obtain ⟨sn_650, h_sn_650, hj_643⟩ := bind_some hj_643
        obtain ⟨t_651, h_t_651, hj_643⟩ := bind_some hj_643
        obtain ⟨words_here_652, h_words_here_652, hj_643⟩ := bind_some hj_643
        refine sb_appO (i := 2) (j := 0) rfl rfl (ev_op (ev_str ("columns=" : Str)) (ev_cb (ea_cons (ev_op (ev_of (ev_var (i := 1) rfl) h_o_648) (ev_int 0) (r2_ixU h_i_649)) ea_nil) (rc_strD h_sn_650)) (r2_addS h_t_651)) h_words_here_652 (ow1 := [ol p_words_here_624 words_here_652]) rfl ?_
        cases hj_643
        exact km_654 _ _ (.keep (.keep (.keep .nil))) (List.Sublist.refl _)
      · have hj_643 := ite_f hb_647 hj_643
        refine sb_nx ?_
        cases hj_643
        exact km_654 _ _ (.keep (.keep (.keep .nil))) (List.Sublist.refl _)
      obtain ⟨o_655, h_o_655, hj_641⟩ := bind_some hj_641
      obtain ⟨i_656, h_i_656, hj_641⟩ := bind_some hj_641
      obtain ⟨o_657, h_o_657, hj_641⟩ := bind_some hj_641
      obtain ⟨i_658, h_i_658, hj_641⟩ := bind_some hj_641
      obtain ⟨what_here_659, h_what_here_659, hj_641⟩ := bind_some hj_641
      refine sb_asg (sl' := [sv kind_622, sv what_here_659, .at p_words_here_624]) rfl (EV.cast (ev_up (ev_tup (ea_cons (ev_op (ev_of (ev_var (i := 1) rfl) h_o_655) (ev_int 1) (r2_ixU h_i_656)) (ea_cons (ev_str ("start" : Str)) (ea_cons (ev_op (ev_of (ev_var (i := 1) rfl) h_o_657) (ev_int 2) (r2_ixU h_i_658)) ea_nil))))) (Option.some.inj h_what_here_659)) ?_
      cases hj_641
      exact km_662 _ _ (.keep (.keep (.keep .nil))) (List.Sublist.refl _)
    · have hj_641 := ite_f hb_642 hj_641
      refine sb_nx ?_
      cases hj_641
      exact km_662 _ _ (.keep (.keep (.keep .nil))) (List.Sublist.refl _)
    obtain ⟨words_here_700, hj_663, hf⟩ := bind_some hf
    refine SB.cutB (sl' := [sv kind_622, sv what_here_660, .at p_words_here_624]) (ow1 := [ol p_words_here_624 words_here_700]) (fun km_701 => sb_if (b := (decide (kind_622 ∈ (Tu.mk [("row" : Str), ("column" : Str), ("wrap" : Str), ("table" : Str)]).l))) (et_test (ev_op (ev_var (i := 0) rfl) (ev_tuH (el_cons (ev_str ("row" : Str)) (el_cons (ev_str ("column" : Str)) (el_cons (ev_str ("wrap" : Str)) (el_cons (ev_str ("table" : Str)) el_nil))))) r2_inU)) (fun hb_664 => ?_) (fun hb_664 => ?_)) ?_
    · have hj_663 := ite_t hb_664 hj_663
      obtain ⟨o_666, h_o_666, hj_663⟩ := bind_some hj_663
      obtain ⟨i_667, h_i_667, hj_663⟩ := bind_some hj_663
      obtain ⟨o_668, h_o_668, hj_663⟩ := bind_some hj_663
      obtain ⟨words_here_675, hj_665, hj_663⟩ := bind_some hj_663
      refine SB.cutB (sl' := [sv kind_622, sv what_here_660, .at p_words_here_624]) (ow1 := [ol p_words_here_624 words_here_675]) (fun km_676 => sb_if (b := (!decide (o_668 = (0 : Int)))) (et_test (ev_op (ev_of (ev_op (ev_of (ev_var (i := 1) rfl) h_o_666) (ev_int 0) (r2_ixU h_i_667)) h_o_668) (ev_int 0) r2_neI)) (fun hb_669 => ?_) (fun hb_669 => ?_)) ?_
      · have hj_665 := ite_t hb_669 hj_665
        obtain ⟨o_670, h_o_670, hj_665⟩ := bind_some hj_665
        obtain ⟨i_671, h_i_671, hj_665⟩ := bind_some hj_665
        obtain ⟨sn_672, h_sn_672, hj_665⟩ := bind_some hj_665
        obtain ⟨t_673, h_t_673, hj_665⟩ := bind_some hj_665
        obtain ⟨words_here_674, h_words_here_674, hj_665⟩ := bind_some hj_665
        refine sb_appO (i := 2) (j := 0) rfl rfl (ev_op (ev_str ("gap=" : Str)) (ev_cb (ea_cons (ev_op (ev_of (ev_var (i := 1) rfl) h_o_670) (ev_int 0) (r2_ixU h_i_671)) ea_nil) (rc_strD h_sn_672)) (r2_addS h_t_673)) h_words_here_674 (ow1 := [ol p_words_here_624 words_here_674]) rfl ?_
        cases hj_665
        exact km_676 _ _ (.keep (.keep (.keep .nil))) (List.Sublist.refl _)
      · have hj_665 := ite_f hb_669 hj_665
        refine sb_nx ?_
        cases hj_665
        exact km_676 _ _ (.keep (.keep (.keep .nil))) (List.Sublist.refl _)
      obtain ⟨o_678, h_o_678, hj_663⟩ := bind_some hj_663
      obtain ⟨i_679, h_i_679, hj_663⟩ := bind_some hj_663
      obtain ⟨o_680, h_o_680, hj_663⟩ := bind_some hj_663
      obtain ⟨words_here_687, hj_677, hj_663⟩ := bind_some hj_663
      refine SB.cutB (sl' := [sv kind_622, sv what_here_660, .at p_words_here_624]) (ow1 := [ol p_words_here_624 words_here_687]) (fun km_688 => sb_if (b := (!decide (o_680 = ("start" : Str)))) (et_test (ev_op (ev_of (ev_op (ev_of (ev_var (i := 1) rfl) h_o_678) (ev_int 1) (r2_ixU h_i_679)) h_o_680) (ev_str ("start" : Str)) r2_neS)) (fun hb_681 => ?_) (fun hb_681 => ?_)) ?_
      · have hj_677 := ite_t hb_681 hj_677
        obtain ⟨o_682, h_o_682, hj_677⟩ := bind_some hj_677
        obtain ⟨i_683, h_i_683, hj_677⟩ := bind_some hj_677
        obtain ⟨o_684, h_o_684, hj_677⟩ := bind_some hj_677
        obtain ⟨t_685, h_t_685, hj_677⟩ := bind_some hj_677
        obtain ⟨words_here_686, h_words_here_686, hj_677⟩ := bind_some hj_677
        refine sb_appO (i := 2) (j := 0) rfl rfl (ev_op (ev_str ("align=" : Str)) (ev_of (ev_op (ev_of (ev_var (i := 1) rfl) h_o_682) (ev_int 1) (r2_ixU h_i_683)) h_o_684) (r2_addS h_t_685)) h_words_here_686 (ow1 := [ol p_words_here_624 words_here_686]) rfl ?_
        cases hj_677
        exact km_688 _ _ (.keep (.keep (.keep .nil))) (List.Sublist.refl _)
      · have hj_677 := ite_f hb_681 hj_677
        refine sb_nx ?_
        cases hj_677
        exact km_688 _ _ (.keep (.keep (.keep .nil))) (List.Sublist.refl _)
      obtain ⟨o_690, h_o_690, hj_663⟩ := bind_some hj_663
      obtain ⟨i_691, h_i_691, hj_663⟩ := bind_some hj_663
      obtain ⟨o_692, h_o_692, hj_663⟩ := bind_some hj_663
      refine sb_if (b := (!decide (o_692 = ("left" : Str)))) (et_test (ev_op (ev_of (ev_op (ev_of (ev_var (i := 1) rfl) h_o_690) (ev_int 2) (r2_ixU h_i_691)) h_o_692) (ev_str ("left" : Str)) r2_neS)) (fun hb_693 => ?_) (fun hb_693 => ?_)
      · have hj_663 := ite_t hb_693 hj_663
        obtain ⟨o_695, h_o_695, hj_663⟩ := bind_some hj_663
        obtain ⟨i_696, h_i_696, hj_663⟩ := bind_some hj_663
        obtain ⟨o_697, h_o_697, hj_663⟩ := bind_some hj_663
        obtain ⟨t_698, h_t_698, hj_663⟩ := bind_some hj_663
        obtain ⟨words_here_699, h_words_here_699, hj_663⟩ := bind_some hj_663
        refine sb_appO (i := 2) (j := 0) rfl rfl (ev_op (ev_str ("side=" : Str)) (ev_of (ev_op (ev_of (ev_var (i := 1) rfl) h_o_695) (ev_int 2) (r2_ixU h_i_696)) h_o_697) (r2_addS h_t_698)) h_words_here_699 (ow1 := [ol p_words_here_624 words_here_699]) rfl ?_
        cases hj_663
        exact km_701 _ _ (.keep (.keep (.keep .nil))) (List.Sublist.refl _)
      · have hj_663 := ite_f hb_693 hj_663
        refine sb_nx ?_
        cases hj_663
        exact km_701 _ _ (.keep (.keep (.keep .nil))) (List.Sublist.refl _)
    · have hj_663 := ite_f hb_664 hj_663
      refine sb_nx ?_
      cases hj_663
      exact km_701 _ _ (.keep (.keep (.keep .nil))) (List.Sublist.refl _)
    obtain ⟨b_707, h_b_707, hf⟩ := bind_some hf
    obtain ⟨words_here_715, hj_702, hf⟩ := bind_some hf
    refine SB.cutB (sl' := [sv kind_622, sv what_here_660, .at p_words_here_624]) (ow1 := [ol p_words_here_624 words_here_715]) (fun km_716 => sb_if (b := b_707) (et_andO h_b_707 (et_test (ev_op (ev_var (i := 0) rfl) (ev_tuH (el_cons (ev_str ("words" : Str)) (el_cons (ev_str ("flow" : Str)) el_nil))) r2_inU)) (fun _ _ h => by obtain ⟨o_703, h_o_703, h⟩ := bind_some h; obtain ⟨o_704, h_o_704, h⟩ := bind_some h; obtain ⟨i_705, h_i_705, h⟩ := bind_some h; obtain ⟨o_706, h_o_706, h⟩ := bind_some h; have hz_ := Option.some.inj h; subst hz_; exact (et_test (ev_op (ev_of (ev_op (ev_of (ev_var (i := 1) rfl) h_o_703) (ev_op (ev_cb (ea_cons (ev_of (ev_var (i := 1) rfl) h_o_704) ea_nil) rc_lenT) (ev_int 1) r2_sub) (r2_ixU h_i_705)) h_o_706) (ev_int 50) r2_neI)))) (fun hb_708 => ?_) (fun hb_708 => ?_)) ?_
    · have hj_702 := ite_t hb_708 hj_702
      obtain ⟨o_709, h_o_709, hj_702⟩ := bind_some hj_702
      obtain ⟨o_710, h_o_710, hj_702⟩ := bind_some hj_702
      obtain ⟨i_711, h_i_711, hj_702⟩ := bind_some hj_702
      obtain ⟨sn_712, h_sn_712, hj_702⟩ := bind_some hj_702
      obtain ⟨t_713, h_t_713, hj_702⟩ := bind_some hj_702
      obtain ⟨words_here_714, h_words_here_714, hj_702⟩ := bind_some hj_702
      refine sb_appO (i := 2) (j := 0) rfl rfl (ev_op (ev_str ("joint=" : Str)) (ev_cb (ea_cons (ev_op (ev_of (ev_var (i := 1) rfl) h_o_709) (ev_op (ev_cb (ea_cons (ev_of (ev_var (i := 1) rfl) h_o_710) ea_nil) rc_lenT) (ev_int 1) r2_sub) (r2_ixU h_i_711)) ea_nil) (rc_strD h_sn_712)) (r2_addS h_t_713)) h_words_here_714 (ow1 := [ol p_words_here_624 words_here_714]) rfl ?_
      cases hj_702
      exact km_716 _ _ (.keep (.keep (.keep .nil))) (List.Sublist.refl _)
    · have hj_702 := ite_f hb_708 hj_702
      refine sb_nx ?_
      cases hj_702
      exact km_716 _ _ (.keep (.keep (.keep .nil))) (List.Sublist.refl _)
    cases hf
    exact sb_retO (i := 2) (j := 0) rfl rfl q (List.Sublist.cons _ List.Sublist.slnil)
theorem sc__law_part_words : FnScope ["_law_kind", "_law_what_here", "_law_at", "_law_one", "_law_other"] ["_law_kind", "_law_what_here", "_law_at"] (defScope s__law_part_words) := ⟨rfl, rfl, rfl, by decide +kernel, rfl, by decide +kernel, by decide +kernel⟩
set_option maxHeartbeats 4000000 in
theorem ok__law_part_words (T : TX K mg w) : FnOk P w K mg base CX0 1 T.a__law_part_words T.d__law_part_words ["_law_kind", "_law_what_here", "_law_at"] (PL (τ := Str × Dy × Int × Unit) K (fun t => m__law_part_words t.1 t.2.1 t.2.2.1)) := by
  refine T.F__law_part_words.ok sc__law_part_words (fun vs H Q E h => ?_) (fun cdv A outer s H vs Q E hr h => ?_)
  · obtain ⟨Kn, t, r, ek, h, hf, q⟩ := h
    exact Tp.len h
  · obtain ⟨Kn, t, r_, ek, h, hf, q⟩ := h
    obtain ⟨kind_717, what_here_718, at_719, u_⟩ := t
    obtain ⟨v_0, rr_, rfl, hv_0, h⟩ := h
    obtain ⟨v_1, rr_, rfl, hv_1, h⟩ := h
    obtain ⟨v_2, rr_, rfl, hv_2, h⟩ := h
    obtain rfl := h
    replace hf : m__law_part_words kind_717 what_here_718 at_719 = some r_ := hf
    unfold m__law_part_words at hf
    refine ⟨_, (pss_cons (ps_if (PW.pt (pw_and (pt_cmpR op_eq (pv 0) pe_str (nomark _)) (pw_and1 (pt_cmpR (k_neD hr.units) (pe_ix k_ixt (pe_ix k_ixt (pv 1) pe_int (fun _ _ => rfl)) (pv 2) (fun _ _ => rfl)) (pe_tup (pa_cons pe_int (pa_cons pe_int pa_nil))) (nomark _))))) (pss_one (ps_ret (pe_lst (pa_cons (pe_op op_add_str (pe_op op_add_str (pe_op op_add_str pe_str (pe_callTy k_strD (by rfl) T.z_str (by decide +kernel) (pa_cons (pe_ix k_ixt (pe_ix k_ixt (pe_ix k_ixt (pv 1) pe_int (fun _ _ => rfl)) (pv 2) (fun _ _ => rfl)) pe_int (fun _ _ => rfl)) pa_nil))) pe_str) (pe_callTy k_strD (by rfl) T.z_str (by decide +kernel) (pa_cons (pe_ix k_ixt (pe_ix k_ixt (pe_ix k_ixt (pv 1) pe_int (fun _ _ => rfl)) (pv 2) (fun _ _ => rfl)) pe_int (fun _ _ => rfl)) pa_nil))) pa_nil)))) pss_nil)
      (pss_cons (ps_if (PW.pt (pw_and (pt_cmpR op_eq (pv 0) pe_str (nomark _)) (pw_and1 (pt_cmpR op_ne (pe_ix k_ixt (pe_ix k_ixt (pv 1) pe_int (fun _ _ => rfl)) (pv 2) (fun _ _ => rfl)) pe_str (nomark _))))) (pss_one (ps_ret (pe_lst (pa_cons pe_str pa_nil)))) pss_nil)
      (pss_cons (ps_if (PW.pt (pw_and (pt_cmpR op_eq (pv 0) pe_str (nomark _)) (pw_and (pt_cmpR op_gt (pv 2) pe_int (nomark _)) (pw_and1 (pt_cmpR (k_neD hr.units) (pe_ix k_ixt (pv 1) (pe_op op_sub (pv 2) pe_int) (fun _ _ => rfl)) (pe_tup (pa_cons (pe_tup (pa_cons pe_str (pa_cons pe_int pa_nil))) (pa_cons (pe_tup (pa_cons pe_str (pa_cons pe_int pa_nil))) pa_nil))) (nomark _)))))) (pss_cons (ps_asg (pe_ix k_ixt (pv 1) (pe_op op_sub (pv 2) pe_int) (fun _ _ => rfl)) (kpg_tup (pgs_cons (pg_name (i := 3) sc__law_part_words.nd rfl (.inl rfl)) (pgs_cons (pg_name (i := 4) sc__law_part_words.nd rfl (.inl rfl)) pgs_nil))))
      (pss_one (ps_ret (pe_lst (pa_cons (pe_op op_add_str (pe_op op_add_str (pe_op op_add_str (pe_op op_add_str (pe_op op_add_str (pe_op op_add_str (pe_op op_add_str pe_str (pe_ix k_ixt (pv 3) pe_int (fun _ _ => rfl))) pe_str) (pe_callTy k_strD (by rfl) T.z_str (by decide +kernel) (pa_cons (pe_ix k_ixt (pv 3) pe_int (fun _ _ => rfl)) pa_nil))) pe_str) (pe_ix k_ixt (pv 4) pe_int (fun _ _ => rfl))) pe_str) (pe_callTy k_strD (by rfl) T.z_str (by decide +kernel) (pa_cons (pe_ix k_ixt (pv 4) pe_int (fun _ _ => rfl)) pa_nil))) pa_nil))))) pss_nil)
      (pss_one (ps_ret (pe_lst pa_nil)))))), ?_⟩
    refine enter (Kn := Kn) (sl := [sv kind_717, sv what_here_718, sv at_719, .any, .any]) ek ⟨⟨v_0, rfl, hv_0⟩, ⟨v_1, rfl, hv_1⟩, ⟨v_2, rfl, hv_2⟩, trivial, trivial, trivial⟩ ?_
    have q := rn_of q
    obtain ⟨b_726, h_b_726, hf⟩ := bind_some hf
    refine SB.seqB (fun kx_728 => sb_if (b := b_726) (et_andO h_b_726 (et_test (ev_op (ev_var (i := 0) rfl) (ev_str ("table" : Str)) r2_eqS)) (fun _ _ h => by obtain ⟨o_721, h_o_721, h⟩ := bind_some h; obtain ⟨i_722, h_i_722, h⟩ := bind_some h; obtain ⟨o_723, h_o_723, h⟩ := bind_some h; obtain ⟨i_724, h_i_724, h⟩ := bind_some h; obtain ⟨e_725, h_e_725, h⟩ := bind_some h; have hz_ := Option.some.inj h; subst hz_; exact (et_test (ev_op (ev_op (ev_of (ev_op (ev_of (ev_var (i := 1) rfl) h_o_721) (ev_int 3) (r2_ixU h_i_722)) h_o_723) (ev_var (i := 2) rfl) (r2_ixU h_i_724)) (ev_up (ev_tup (ea_cons (ev_int 1) (ea_cons (ev_int 1) ea_nil)))) (r2_neY h_e_725))))) (fun hb_727 => ?_) (fun hb_727 => ?_))
    · have hf := ite_t hb_727 hf
      obtain ⟨o_729, h_o_729, hf⟩ := bind_some hf
      obtain ⟨i_730, h_i_730, hf⟩ := bind_some hf
      obtain ⟨o_731, h_o_731, hf⟩ := bind_some hf
      obtain ⟨i_732, h_i_732, hf⟩ := bind_some hf
      obtain ⟨o_733, h_o_733, hf⟩ := bind_some hf
      obtain ⟨i_734, h_i_734, hf⟩ := bind_some hf
      obtain ⟨sn_735, h_sn_735, hf⟩ := bind_some hf
      obtain ⟨t_736, h_t_736, hf⟩ := bind_some hf
      obtain ⟨t_737, h_t_737, hf⟩ := bind_some hf
      obtain ⟨o_738, h_o_738, hf⟩ := bind_some hf
      obtain ⟨i_739, h_i_739, hf⟩ := bind_some hf
      obtain ⟨o_740, h_o_740, hf⟩ := bind_some hf
      obtain ⟨i_741, h_i_741, hf⟩ := bind_some hf
      obtain ⟨o_742, h_o_742, hf⟩ := bind_some hf
      obtain ⟨i_743, h_i_743, hf⟩ := bind_some hf
      obtain ⟨sn_744, h_sn_744, hf⟩ := bind_some hf
      obtain ⟨t_745, h_t_745, hf⟩ := bind_some hf
      cases hf
      exact sb_retL (en_lst (el_cons (ev_op (ev_op (ev_op (ev_str ("span=" : Str)) (ev_cb (ea_cons (ev_op (ev_of (ev_op (ev_of (ev_op (ev_of (ev_var (i := 1) rfl) h_o_729) (ev_int 3) (r2_ixU h_i_730)) h_o_731) (ev_var (i := 2) rfl) (r2_ixU h_i_732)) h_o_733) (ev_int 0) (r2_ixU h_i_734)) ea_nil) (rc_strD h_sn_735)) (r2_addS h_t_736)) (ev_str ("," : Str)) (r2_addS h_t_737)) (ev_cb (ea_cons (ev_op (ev_of (ev_op (ev_of (ev_op (ev_of (ev_var (i := 1) rfl) h_o_738) (ev_int 3) (r2_ixU h_i_739)) h_o_740) (ev_var (i := 2) rfl) (r2_ixU h_i_741)) h_o_742) (ev_int 1) (r2_ixU h_i_743)) ea_nil) (rc_strD h_sn_744)) (r2_addS h_t_745)) el_nil)) q (List.Sublist.refl _)
    · have hf := ite_f hb_727 hf
      refine sb_nx ?_
      refine kx_728 _ _ ?_
      obtain ⟨b_752, h_b_752, hf⟩ := bind_some hf
      refine SB.seqB (fun kx_754 => sb_if (b := b_752) (et_andO h_b_752 (et_test (ev_op (ev_var (i := 0) rfl) (ev_str ("flow" : Str)) r2_eqS)) (fun _ _ h => by obtain ⟨o_747, h_o_747, h⟩ := bind_some h; obtain ⟨i_748, h_i_748, h⟩ := bind_some h; obtain ⟨o_749, h_o_749, h⟩ := bind_some h; obtain ⟨i_750, h_i_750, h⟩ := bind_some h; obtain ⟨o_751, h_o_751, h⟩ := bind_some h; have hz_ := Option.some.inj h; subst hz_; exact (et_test (ev_op (ev_of (ev_op (ev_of (ev_op (ev_of (ev_var (i := 1) rfl) h_o_747) (ev_int 0) (r2_ixU h_i_748)) h_o_749) (ev_var (i := 2) rfl) (r2_ixU h_i_750)) h_o_751) (ev_str ("left" : Str)) r2_neS)))) (fun hb_753 => ?_) (fun hb_753 => ?_))
      · have hf := ite_t hb_753 hf
        cases hf
        exact sb_retL (en_lst (el_cons (ev_str ("float=right" : Str)) el_nil)) q (List.Sublist.refl _)
      · have hf := ite_f hb_753 hf
        refine sb_nx ?_
        refine kx_754 _ _ ?_
        obtain ⟨b_760, h_b_760, hf⟩ := bind_some hf
        refine SB.seqB (fun kx_762 => sb_if (b := b_760) (et_andO h_b_760 (et_test (ev_op (ev_var (i := 0) rfl) (ev_str ("over" : Str)) r2_eqS)) (fun _ _ h => by obtain ⟨b_759, h_b_759, h⟩ := bind_some h; have hz_ := Option.some.inj h; subst hz_; exact (et_andO h_b_759 (et_test (ev_op (ev_var (i := 2) rfl) (ev_int 0) r2_gt)) (fun _ _ h => by obtain ⟨o_756, h_o_756, h⟩ := bind_some h; obtain ⟨i_757, h_i_757, h⟩ := bind_some h; obtain ⟨e_758, h_e_758, h⟩ := bind_some h; have hz_ := Option.some.inj h; subst hz_; exact (et_test (ev_op (ev_op (ev_of (ev_var (i := 1) rfl) h_o_756) (ev_op (ev_var (i := 2) rfl) (ev_int 1) r2_sub) (r2_ixU h_i_757)) (ev_up (ev_tup (ea_cons (ev_tup (ea_cons (ev_str ("start" : Str)) (ea_cons (ev_int 0) ea_nil))) (ea_cons (ev_tup (ea_cons (ev_str ("start" : Str)) (ea_cons (ev_int 0) ea_nil))) ea_nil)))) (r2_neY h_e_758))))))) (fun hb_761 => ?_) (fun hb_761 => ?_))
        · have hf := ite_t hb_761 hf
          obtain ⟨o_763, h_o_763, hf⟩ := bind_some hf
          obtain ⟨i_764, h_i_764, hf⟩ := bind_some hf
          obtain ⟨o_765, h_o_765, hf⟩ := bind_some hf
          obtain ⟨⟨one_766, other_767, _⟩, h_one_766, hf⟩ := bind_some hf
          refine SB.seqB (fun kx_ => sb_unp (sl' := [sv kind_717, sv what_here_718, sv at_719, sv one_766, sv other_767]) (EV.cast (ev_of (ev_op (ev_of (ev_var (i := 1) rfl) h_o_763) (ev_op (ev_var (i := 2) rfl) (ev_int 1) r2_sub) (r2_ixU h_i_764)) h_o_765) (Option.some.inj h_one_766)) (gt_tup (gts_cons (gt_name rfl) (gts_cons (gt_name rfl) gts_nil))) (kx_ _ _ ?_))
          obtain ⟨o_768, h_o_768, hf⟩ := bind_some hf
          obtain ⟨i_769, h_i_769, hf⟩ := bind_some hf
          obtain ⟨o_770, h_o_770, hf⟩ := bind_some hf
          obtain ⟨t_771, h_t_771, hf⟩ := bind_some hf
          obtain ⟨t_772, h_t_772, hf⟩ := bind_some hf
          obtain ⟨o_773, h_o_773, hf⟩ := bind_some hf
          obtain ⟨i_774, h_i_774, hf⟩ := bind_some hf
          obtain ⟨sn_775, h_sn_775, hf⟩ := bind_some hf
          obtain ⟨t_776, h_t_776, hf⟩ := bind_some hf
          obtain ⟨t_777, h_t_777, hf⟩ := bind_some hf
          obtain ⟨o_778, h_o_778, hf⟩ := bind_some hf
          obtain ⟨i_779, h_i_779, hf⟩ := bind_some hf
          obtain ⟨o_780, h_o_780, hf⟩ := bind_some hf
          obtain ⟨t_781, h_t_781, hf⟩ := bind_some hf
          obtain ⟨t_782, h_t_782, hf⟩ := bind_some hf
          obtain ⟨o_783, h_o_783, hf⟩ := bind_some hf
          obtain ⟨i_784, h_i_784, hf⟩ := bind_some hf
          obtain ⟨sn_785, h_sn_785, hf⟩ := bind_some hf
          obtain ⟨t_786, h_t_786, hf⟩ := bind_some hf
          cases hf
          exact sb_retL (en_lst (el_cons (ev_op (ev_op (ev_op (ev_op (ev_op (ev_op (ev_op (ev_str ("at=" : Str)) (ev_of (ev_op (ev_of (ev_var (i := 3) rfl) h_o_768) (ev_int 0) (r2_ixU h_i_769)) h_o_770) (r2_addS h_t_771)) (ev_str ("," : Str)) (r2_addS h_t_772)) (ev_cb (ea_cons (ev_op (ev_of (ev_var (i := 3) rfl) h_o_773) (ev_int 1) (r2_ixU h_i_774)) ea_nil) (rc_strD h_sn_775)) (r2_addS h_t_776)) (ev_str ("," : Str)) (r2_addS h_t_777)) (ev_of (ev_op (ev_of (ev_var (i := 4) rfl) h_o_778) (ev_int 0) (r2_ixU h_i_779)) h_o_780) (r2_addS h_t_781)) (ev_str ("," : Str)) (r2_addS h_t_782)) (ev_cb (ea_cons (ev_op (ev_of (ev_var (i := 4) rfl) h_o_783) (ev_int 1) (r2_ixU h_i_784)) ea_nil) (rc_strD h_sn_785)) (r2_addS h_t_786)) el_nil)) q (List.Sublist.refl _)
        · have hf := ite_f hb_761 hf
          refine sb_nx ?_
          refine kx_762 _ _ ?_
          cases hf
          exact sb_retL (en_lst el_nil) q (List.Sublist.refl _)
theorem sc__law_text_words : FnScope ["_law_kind", "_law_what_here", "_law_word"] ["_law_kind", "_law_what_here"] (defScope s__law_text_words) := ⟨rfl, rfl, rfl, by decide +kernel, rfl, by decide +kernel, by decide +kernel⟩
set_option maxHeartbeats 4000000 in
theorem ok__law_text_words (T : TX K mg w) : FnOk P w K mg base CX0 1 T.a__law_text_words T.d__law_text_words ["_law_kind", "_law_what_here"] (PL (τ := Str × Dy × Unit) K (fun t => m__law_text_words t.1 t.2.1)) := by
  refine T.F__law_text_words.ok sc__law_text_words (fun vs H Q E h => ?_) (fun cdv A outer s H vs Q E hr h => ?_)
  · obtain ⟨Kn, t, r, ek, h, hf, q⟩ := h
    exact Tp.len h
  · obtain ⟨Kn, t, r_, ek, h, hf, q⟩ := h
    obtain ⟨kind_787, what_here_788, u_⟩ := t
    obtain ⟨v_0, rr_, rfl, hv_0, h⟩ := h
    obtain ⟨v_1, rr_, rfl, hv_1, h⟩ := h
    obtain rfl := h
    replace hf : m__law_text_words kind_787 what_here_788 = some r_ := hf
    unfold m__law_text_words at hf
    refine ⟨_, (pss_cons (ps_if (PW.pt (pw_and (pt_cmpR op_eq (pv 0) pe_str (nomark _)) (pw_and1 (pt_cmpR (k_neD hr.units) (pe_ix k_ixt (pv 1) pe_int (fun _ _ => rfl)) (pe_tup pa_nil) (nomark _))))) (pss_one (ps_ret (pe_lst (pa_cons (pe_op op_add_str pe_str (k_join pe_str (pe_lc (own := [("_law_word", 2)]) (g := gName 2) (tt := tYes) (by rfl) sc__law_text_words.nd (kpi_tup (pe_ix k_ixt (pv 1) pe_int (fun _ _ => rfl))) (blkOk_by (own := [("_law_word", 2)]) (N := ["_law_kind", "_law_what_here", "_law_word"]) (sc := defScope s__law_text_words) (by decide +kernel)) (fun _ _ _ _ _ => (pg_name (i := 2) sc__law_text_words.nd rfl (Or.inl rfl))) (fun _ _ _ _ _ => pts_nil) (fun _ _ _ _ _ => (k_join pe_str (pv 2)))))) pa_nil)))) pss_nil)
      (pss_cons (ps_if (PW.pt (pw_and (pt_cmpR op_eq (pv 0) pe_str (nomark _)) (pw_and1 (pt_cmpR (k_neD hr.units) (pe_ix k_ixt (pv 1) pe_int (fun _ _ => rfl)) (pe_tup pa_nil) (nomark _))))) (pss_one (ps_ret (pe_lst (pa_cons (pe_op op_add_str pe_str (k_join pe_str (pe_lc (own := [("_law_word", 2)]) (g := gName 2) (tt := tYes) (by rfl) sc__law_text_words.nd (kpi_tup (pe_ix k_ixt (pv 1) pe_int (fun _ _ => rfl))) (blkOk_by (own := [("_law_word", 2)]) (N := ["_law_kind", "_law_what_here", "_law_word"]) (sc := defScope s__law_text_words) (by decide +kernel)) (fun _ _ _ _ _ => (pg_name (i := 2) sc__law_text_words.nd rfl (Or.inl rfl))) (fun _ _ _ _ _ => pts_nil) (fun _ _ _ _ _ => (k_join pe_str (pv 2)))))) pa_nil)))) pss_nil)
      (pss_one (ps_ret (pe_lst pa_nil))))), ?_⟩
    refine enter (Kn := Kn) (sl := [sv kind_787, sv what_here_788, .any]) ek ⟨⟨v_0, rfl, hv_0⟩, ⟨v_1, rfl, hv_1⟩, trivial, trivial⟩ ?_
    have q := rn_of q
    obtain ⟨b_793, h_b_793, hf⟩ := bind_some hf
    refine SB.seqB (fun kx_795 => sb_if (b := b_793) (et_andO h_b_793 (et_test (ev_op (ev_var (i := 0) rfl) (ev_str ("words" : Str)) r2_eqS)) (fun _ _ h => by obtain ⟨o_790, h_o_790, h⟩ := bind_some h; obtain ⟨i_791, h_i_791, h⟩ := bind_some h; obtain ⟨e_792, h_e_792, h⟩ := bind_some h; have hz_ := Option.some.inj h; subst hz_; exact (et_test (ev_op (ev_op (ev_of (ev_var (i := 1) rfl) h_o_790) (ev_int 0) (r2_ixU h_i_791)) (ev_up (ev_tuH (xs := ([] : List Int)) el_nil)) (r2_neY h_e_792))))) (fun hb_794 => ?_) (fun hb_794 => ?_))
    · have hf := ite_t hb_794 hf
      obtain ⟨o_796, h_o_796, hf⟩ := bind_some hf
      obtain ⟨i_797, h_i_797, hf⟩ := bind_some hf
      obtain ⟨o_798, h_o_798, hf⟩ := bind_some hf
      obtain ⟨zs_800, h_zs_800, hf⟩ := bind_some hf
      obtain ⟨j_803, h_j_803, hf⟩ := bind_some hf
      obtain ⟨t_804, h_t_804, hf⟩ := bind_some hf
      cases hf
      exact sb_retL (en_lst (el_cons (ev_op (ev_str ("text=" : Str)) (ev_joinO (ev_str (" " : Str)) (EN.ev (en_lc (js := [2]) (fun x => [sv kind_787, sv what_here_788, sv x]) h_zs_800 (it_tup (ev_of (ev_op (ev_of (ev_var (i := 1) rfl) h_o_796) (ev_int 0) (r2_ixU h_i_797)) h_o_798)) (anyAt_of (by rfl)) (fun x => (gt_name rfl)) (sub_of (by rfl)) (fun _ _ x b h => by cases h; exact et_yes) (fun _ _ x z _ h => by obtain ⟨word_799, hx_⟩ : ∃ y, y = x := ⟨x, rfl⟩; subst hx_; obtain ⟨o_801, h_o_801, h⟩ := bind_some h; obtain ⟨j_802, h_j_802, h⟩ := bind_some h; have hz_ := Option.some.inj h; subst hz_; exact EV.is (sl' := [sv kind_787, sv what_here_788, sv word_799]) rfl (ev_joinT (ev_str ("|" : Str)) (ev_of (ev_var (i := 2) rfl) h_o_801) h_j_802)))) h_j_803) (r2_addS h_t_804)) el_nil)) q (List.Sublist.refl _)
    · have hf := ite_f hb_794 hf
      refine sb_nx ?_
      refine kx_795 _ _ ?_
      obtain ⟨b_809, h_b_809, hf⟩ := bind_some hf
      refine SB.seqB (fun kx_811 => sb_if (b := b_809) (et_andO h_b_809 (et_test (ev_op (ev_var (i := 0) rfl) (ev_str ("flow" : Str)) r2_eqS)) (fun _ _ h => by obtain ⟨o_806, h_o_806, h⟩ := bind_some h; obtain ⟨i_807, h_i_807, h⟩ := bind_some h; obtain ⟨e_808, h_e_808, h⟩ := bind_some h; have hz_ := Option.some.inj h; subst hz_; exact (et_test (ev_op (ev_op (ev_of (ev_var (i := 1) rfl) h_o_806) (ev_int 1) (r2_ixU h_i_807)) (ev_up (ev_tuH (xs := ([] : List Int)) el_nil)) (r2_neY h_e_808))))) (fun hb_810 => ?_) (fun hb_810 => ?_))
      · have hf := ite_t hb_810 hf
        obtain ⟨o_812, h_o_812, hf⟩ := bind_some hf
        obtain ⟨i_813, h_i_813, hf⟩ := bind_some hf
        obtain ⟨o_814, h_o_814, hf⟩ := bind_some hf
        obtain ⟨zs_816, h_zs_816, hf⟩ := bind_some hf
        obtain ⟨j_819, h_j_819, hf⟩ := bind_some hf
        obtain ⟨t_820, h_t_820, hf⟩ := bind_some hf
        cases hf
        exact sb_retL (en_lst (el_cons (ev_op (ev_str ("text=" : Str)) (ev_joinO (ev_str (" " : Str)) (EN.ev (en_lc (js := [2]) (fun x => [sv kind_787, sv what_here_788, sv x]) h_zs_816 (it_tup (ev_of (ev_op (ev_of (ev_var (i := 1) rfl) h_o_812) (ev_int 1) (r2_ixU h_i_813)) h_o_814)) (anyAt_of (by rfl)) (fun x => (gt_name rfl)) (sub_of (by rfl)) (fun _ _ x b h => by cases h; exact et_yes) (fun _ _ x z _ h => by obtain ⟨word_815, hx_⟩ : ∃ y, y = x := ⟨x, rfl⟩; subst hx_; obtain ⟨o_817, h_o_817, h⟩ := bind_some h; obtain ⟨j_818, h_j_818, h⟩ := bind_some h; have hz_ := Option.some.inj h; subst hz_; exact EV.is (sl' := [sv kind_787, sv what_here_788, sv word_815]) rfl (ev_joinT (ev_str ("|" : Str)) (ev_of (ev_var (i := 2) rfl) h_o_817) h_j_818)))) h_j_819) (r2_addS h_t_820)) el_nil)) q (List.Sublist.refl _)
      · have hf := ite_f hb_810 hf
        refine sb_nx ?_
        refine kx_811 _ _ ?_
        cases hf
        exact sb_retL (en_lst el_nil) q (List.Sublist.refl _)
theorem sc__law_rows : FnScope ["_law_box_here", "_law_deep", "_law_extra", "_law_kind", "_law_name", "_law_own", "_law_what_here", "_law_parts", "_law_words_here", "_law_rows_here", "_law_at", "_law_part"] ["_law_box_here", "_law_deep", "_law_extra"] (defScope s__law_rows) := ⟨rfl, rfl, rfl, by decide +kernel, rfl, by decide +kernel, by decide +kernel⟩
set_option maxHeartbeats 4000000 in
theorem step__law_rows (T : TX K mg w) (rec__law_rows : (Dy → Int → (List Str) → Option (List Str))) {k_ : Nat} (hk_ : 1 ≤ k_) (hrec : FnOk P w K mg base CX0 k_ T.a__law_rows T.d__law_rows ["_law_box_here", "_law_deep", "_law_extra"] (PF (τ := Dy × Int × (List Str) × Unit) K (fun t => rec__law_rows t.1 t.2.1 t.2.2.1))) : FnOk P w K mg base CX0 (k_ + 1) T.a__law_rows T.d__law_rows ["_law_box_here", "_law_deep", "_law_extra"] (PF (τ := Dy × Int × (List Str) × Unit) K (fun t => m__law_rows_step rec__law_rows t.1 t.2.1 t.2.2.1)) := by
  refine T.F__law_rows.ok sc__law_rows (fun vs H Q E h => ?_) (fun cdv A outer s H vs Q E hr h => ?_)
  · obtain ⟨Kn, t, r, ek, h, hf, q⟩ := h
    exact Tp.len h
  · obtain ⟨Kn, t, r_, ek, h, hf, q⟩ := h
    obtain ⟨box_here_821, deep_822, extra_823, u_⟩ := t
    obtain ⟨v_0, rr_, rfl, hv_0, h⟩ := h
    obtain ⟨v_1, rr_, rfl, hv_1, h⟩ := h
    obtain ⟨v_2, rr_, rfl, hv_2, h⟩ := h
    obtain rfl := h
    replace hf : m__law_rows_step rec__law_rows box_here_821 deep_822 extra_823 = some r_ := hf
    unfold m__law_rows_step at hf
    refine ⟨_, (pss_cons (ps_asg (pv 0) (kpg_tup (pgs_cons (pg_name (i := 3) sc__law_rows.nd rfl (.inl rfl)) (pgs_cons (pg_name (i := 4) sc__law_rows.nd rfl (.inl rfl)) (pgs_cons (pg_name (i := 5) sc__law_rows.nd rfl (.inl rfl)) (pgs_cons (pg_name (i := 6) sc__law_rows.nd rfl (.inl rfl)) (pgs_cons (pg_name (i := 7) sc__law_rows.nd rfl (.inl rfl)) pgs_nil)))))))
      (pss_cons (ps_set (i := 8) sc__law_rows.nd rfl (.inl rfl) (pe_op op_cat (pe_op op_cat (pe_op op_cat (pe_op op_cat (pe_lst (pa_cons (pv 3) (pa_cons (pv 4) pa_nil))) (pe_call (ok__law_own_words T) (hr.mono (by omega)) (by rfl) T.g__law_own_words T.F__law_own_words.kp T.b__law_own_words .nil pass0 (pa_cons (pv 5) pa_nil))) (pe_call (ok__law_what_words T) (hr.mono (by omega)) (by rfl) T.g__law_what_words T.F__law_what_words.kp T.b__law_what_words .nil pass0 (pa_cons (pv 3) (pa_cons (pv 6) pa_nil)))) (pv 2)) (pe_call (ok__law_text_words T) (hr.mono (by omega)) (by rfl) T.g__law_text_words T.F__law_text_words.kp T.b__law_text_words .nil pass0 (pa_cons (pv 3) (pa_cons (pv 6) pa_nil)))))
      (pss_cons (ps_set (i := 9) sc__law_rows.nd rfl (.inl rfl) (pe_lst (pa_cons (pe_op op_add_str (pe_op op_mulS pe_str (pv 1)) (k_join pe_str (pv 8))) pa_nil)))
      (pss_cons (ps_for PassesOwn.never rfl (pi_enumT (by rfl) T.z_enumerate (pa_cons (pv 7) pa_nil)) (kpg_tup (pgs_cons (pg_name (i := 10) sc__law_rows.nd rfl (.inl rfl)) (pgs_cons (pg_name (i := 11) sc__law_rows.nd rfl (.inl rfl)) pgs_nil))) (pss_one (ps_set (i := 9) sc__law_rows.nd rfl (.inl rfl) (pe_op op_cat (pv 9) (pe_call hrec hr (by rfl) T.g__law_rows T.F__law_rows.kp T.b__law_rows .nil pass0 (pa_cons (pv 11) (pa_cons (pe_op op_add (pv 1) pe_int) (pa_cons (pe_call (ok__law_part_words T) (hr.mono (by omega)) (by rfl) T.g__law_part_words T.F__law_part_words.kp T.b__law_part_words .nil pass0 (pa_cons (pv 3) (pa_cons (pv 6) (pa_cons (pv 10) pa_nil)))) pa_nil))))))))
      (pss_one (ps_ret (pv 9))))))), ?_⟩
    refine enter (Kn := Kn) (sl := [sv box_here_821, sv deep_822, sv extra_823, .any, .any, .any, .any, .any, .any, .any, .any, .any]) ek ⟨⟨v_0, rfl, hv_0⟩, ⟨v_1, rfl, hv_1⟩, ⟨v_2, rfl, hv_2⟩, trivial, trivial, trivial, trivial, trivial, trivial, trivial, trivial, trivial, trivial⟩ ?_
    have q := rt_of q
    obtain ⟨o_824, h_o_824, hf⟩ := bind_some hf
    obtain ⟨⟨kind_825, name_826, own_827, what_here_828, parts_829, _⟩, h_kind_825, hf⟩ := bind_some hf
    refine SB.seqB (fun kx_ => sb_unp (sl' := [sv box_here_821, sv deep_822, sv extra_823, sv kind_825, sv name_826, sv own_827, sv what_here_828, sv parts_829, .any, .any, .any, .any]) (EV.cast (ev_of (ev_var (i := 0) rfl) h_o_824) (Option.some.inj h_kind_825)) (gt_tup (gts_cons (gt_name rfl) (gts_cons (gt_name rfl) (gts_cons (gt_name rfl) (gts_cons (gt_name rfl) (gts_cons (gt_name rfl) gts_nil)))))) (kx_ _ _ ?_))
    obtain ⟨o_830, h_o_830, hf⟩ := bind_some hf
    obtain ⟨o_831, h_o_831, hf⟩ := bind_some hf
    obtain ⟨r_832, h_r_832, hf⟩ := bind_some hf
    obtain ⟨cat_833, h_cat_833, hf⟩ := bind_some hf
    obtain ⟨o_834, h_o_834, hf⟩ := bind_some hf
    obtain ⟨r_835, h_r_835, hf⟩ := bind_some hf
    obtain ⟨cat_836, h_cat_836, hf⟩ := bind_some hf
    obtain ⟨cat_837, h_cat_837, hf⟩ := bind_some hf
    obtain ⟨o_838, h_o_838, hf⟩ := bind_some hf
    obtain ⟨r_839, h_r_839, hf⟩ := bind_some hf
    obtain ⟨cat_840, h_cat_840, hf⟩ := bind_some hf
    obtain ⟨words_here_841, h_words_here_841, hf⟩ := bind_some hf
    refine SB.seqB (fun kx_ => sb_asg (sl' := [sv box_here_821, sv deep_822, sv extra_823, sv kind_825, sv name_826, sv own_827, sv what_here_828, sv parts_829, sv words_here_841, .any, .any, .any]) rfl (EV.cast (EN.ev (en_op (EN.ev (en_op (EN.ev (en_op (EN.ev (en_op (EN.ev (en_lst (el_cons (ev_of (ev_var (i := 3) rfl) h_o_830) (el_cons (ev_of (ev_var (i := 4) rfl) h_o_831) el_nil)))) (EN.ev (en_call (ea_cons (ev_var (i := 5) rfl) ea_nil) h_r_832)) (r2_catO h_cat_833))) (EN.ev (en_call (ea_cons (ev_of (ev_var (i := 3) rfl) h_o_834) (ea_cons (ev_var (i := 6) rfl) ea_nil)) h_r_835)) (r2_catO h_cat_836))) (ev_var (i := 2) rfl) (r2_catO h_cat_837))) (EN.ev (en_call (ea_cons (ev_of (ev_var (i := 3) rfl) h_o_838) (ea_cons (ev_var (i := 6) rfl) ea_nil)) h_r_839)) (r2_catO h_cat_840))) (Option.some.inj h_words_here_841)) (kx_ _ _ ?_))
    obtain ⟨t_842, h_t_842, hf⟩ := bind_some hf
    obtain ⟨j_843, h_j_843, hf⟩ := bind_some hf
    obtain ⟨t_844, h_t_844, hf⟩ := bind_some hf
    obtain ⟨rows_here_845, h_rows_here_845, hf⟩ := bind_some hf
    refine SB.seqB (fun kx_ => sb_asg (sl' := [sv box_here_821, sv deep_822, sv extra_823, sv kind_825, sv name_826, sv own_827, sv what_here_828, sv parts_829, sv words_here_841, sv rows_here_845, .any, .any]) rfl (EV.cast (EN.ev (en_lst (el_cons (ev_op (ev_op (ev_str ("  " : Str)) (ev_var (i := 1) rfl) (r2_mulS h_t_842)) (ev_joinO (ev_str (" " : Str)) (ev_var (i := 8) rfl) h_j_843) (r2_addS h_t_844)) el_nil))) (Option.some.inj h_rows_here_845)) (kx_ _ _ ?_))
    obtain ⟨o_846, h_o_846, hf⟩ := bind_some hf
    obtain ⟨rows_here_860, h_tot_854, hf⟩ := bind_some hf
    refine SB.seqB (fun kx_861 => sb_for (β := (Int × Dy × Unit)) (Sx := (List Str)) (fun s => [sv box_here_821, sv deep_822, sv extra_823, sv kind_825, sv name_826, sv own_827, sv what_here_828, sv parts_829, sv words_here_841, sv s, .any, .any]) (fun s => []) (fun x s => [sv box_here_821, sv deep_822, sv extra_823, sv kind_825, sv name_826, sv own_827, sv what_here_828, sv parts_829, sv words_here_841, sv s, sv x.1, sv x.2.1]) [10, 11] (fun xs s => forS (m__law_rows_L1 rec__law_rows deep_822 kind_825 what_here_828) xs s = some rows_here_860) rows_here_845 (IT.m (it_enumT (ea_cons (ev_of (ev_var (i := 7) rfl) h_o_846) ea_nil))) h_tot_854 (.keep (.keep (.keep (.keep (.keep (.keep (.keep (.keep (.keep (.keep (.keep (.keep .nil)))))))))))) (List.Sublist.refl _) (fun x s => (gt_tup (gts_cons (gt_name rfl) (gts_cons (gt_name rfl) gts_nil)))) ?_ ?_)
    · intro Kn1 b1 x_ rest_ rows_here_847 hP_851 N_ hN_850
      obtain ⟨at_848, part_849, _⟩ := x_
      obtain ⟨c_, hc_852, hP_851⟩ := bind_some hP_851
      have q_853 := q.base b1
      unfold m__law_rows_L1 at hc_852
      refine SB.is (sl' := [sv box_here_821, sv deep_822, sv extra_823, sv kind_825, sv name_826, sv own_827, sv what_here_828, sv parts_829, sv words_here_841, sv rows_here_847, sv at_848, sv part_849]) (ow1 := []) rfl rfl ?_
      obtain ⟨o_855, h_o_855, hc_852⟩ := bind_some hc_852
      obtain ⟨r_856, h_r_856, hc_852⟩ := bind_some hc_852
      obtain ⟨r_857, h_r_857, hc_852⟩ := bind_some hc_852
      obtain ⟨cat_858, h_cat_858, hc_852⟩ := bind_some hc_852
      obtain ⟨rows_here_859, h_rows_here_859, hc_852⟩ := bind_some hc_852
      refine sb_asg (sl' := [sv box_here_821, sv deep_822, sv extra_823, sv kind_825, sv name_826, sv own_827, sv what_here_828, sv parts_829, sv words_here_841, sv rows_here_859, sv at_848, sv part_849]) rfl (EV.cast (EN.ev (en_op (ev_var (i := 9) rfl) (ev_call (ea_cons (ev_var (i := 11) rfl) (ea_cons (ev_op (ev_var (i := 1) rfl) (ev_int 1) r2_add) (ea_cons (EN.ev (en_call (ea_cons (ev_of (ev_var (i := 3) rfl) h_o_855) (ea_cons (ev_var (i := 6) rfl) (ea_cons (ev_var (i := 10) rfl) ea_nil))) h_r_856)) ea_nil))) h_r_857) (r2_catO h_cat_858))) (Option.some.inj h_rows_here_859)) ?_
      cases hc_852
      exact fun σ Kn H s => hN_850 _ hP_851 σ Kn H ((s.le (.keep (.keep (.keep (.keep (.keep (.keep (.keep (.keep (.keep (.keep (.drop (.drop .nil))))))))))))).sub (List.Sublist.refl _))
    · intro s_ h0
      cases h0
      refine kx_861 _ _ ?_
      refine SB.is (sl' := [sv box_here_821, sv deep_822, sv extra_823, sv kind_825, sv name_826, sv own_827, sv what_here_828, sv parts_829, sv words_here_841, sv rows_here_860, .any, .any]) (ow1 := []) rfl rfl ?_
      cases hf
      exact sb_ret (ev_var (i := 9) rfl) q (List.Sublist.refl _)
theorem ok__law_rows (T : TX K mg w) : ∀ n : Nat, FnOk P w K mg base CX0 (1 + n) T.a__law_rows T.d__law_rows ["_law_box_here", "_law_deep", "_law_extra"] (PF (τ := Dy × Int × (List Str) × Unit) K (fun t => m__law_rows n t.1 t.2.1 t.2.2.1))
  | 0 => fnok_none
  | n + 1 => step__law_rows T (m__law_rows n) (Nat.le_add_right _ _) (ok__law_rows T n)
theorem sc__law_due : FnScope ["_law_tree"] ["_law_tree"] (defScope s__law_due) := ⟨rfl, rfl, rfl, by decide +kernel, rfl, by decide +kernel, by decide +kernel⟩
set_option maxHeartbeats 4000000 in
theorem ok__law_due (T : TX K mg w) : FnOk P w K mg base CX0 11 T.a__law_due T.d__law_due ["_law_tree"] (PF (τ := Dy × Unit) K (fun t => m__law_due t.1)) := by
  refine T.F__law_due.ok sc__law_due (fun vs H Q E h => ?_) (fun cdv A outer s H vs Q E hr h => ?_)
  · obtain ⟨Kn, t, r, ek, h, hf, q⟩ := h
    exact Tp.len h
  · obtain ⟨Kn, t, r_, ek, h, hf, q⟩ := h
    obtain ⟨tree_862, u_⟩ := t
    obtain ⟨v_0, rr_, rfl, hv_0, h⟩ := h
    obtain rfl := h
    replace hf : m__law_due tree_862 = some r_ := hf
    unfold m__law_due at hf
    refine ⟨_, (pss_one (ps_ret (k_join pe_str (pe_call (ok__law_rows T 9) hr (by rfl) T.g__law_rows T.F__law_rows.kp T.b__law_rows .nil pass0 (pa_cons (pv 0) (pa_cons pe_int (pa_cons (pe_lst pa_nil) pa_nil))))))), ?_⟩
    refine enter (Kn := Kn) (sl := [sv tree_862]) ek ⟨⟨v_0, rfl, hv_0⟩, trivial⟩ ?_
    have q := rt_of q
    obtain ⟨r_863, h_r_863, hf⟩ := bind_some hf
    obtain ⟨j_864, h_j_864, hf⟩ := bind_some hf
    cases hf
    exact sb_ret (ev_joinO (ev_str ("\n" : Str)) (ev_call (ea_cons (ev_var (i := 0) rfl) (ea_cons (ev_int 0) (ea_cons (EN.ev (en_lst el_nil)) ea_nil))) h_r_863) h_j_864) q (List.Sublist.refl _)
theorem sc_law : FnScope ["_law_script", "_law_stream_here", "_law_names_here", "_law_one", "_law_other", "_law_found"] ["_law_script"] (defScope s_law) := ⟨rfl, rfl, rfl, by decide +kernel, rfl, by decide +kernel, by decide +kernel⟩
set_option maxHeartbeats 4000000 in
theorem ok_law (T : TX K mg w) : FnOk P w K mg base CX0 14 T.a_law T.d_law ["_law_script"] (PF (τ := (Fz Int) × Unit) K (fun t => m_law t.1)) := by
  refine T.F_law.ok sc_law (fun vs H Q E h => ?_) (fun cdv A outer s H vs Q E hr h => ?_)
  · obtain ⟨Kn, t, r, ek, h, hf, q⟩ := h
    exact Tp.len h
  · obtain ⟨Kn, t, r_, ek, h, hf, q⟩ := h
    obtain ⟨script_865, u_⟩ := t
    obtain ⟨v_0, rr_, rfl, hv_0, h⟩ := h
    obtain rfl := h
    replace hf : m_law script_865 = some r_ := hf
    unfold m_law at hf
    refine ⟨_, (pss_cons (ps_set (i := 1) sc_law.nd rfl (.inl rfl) (pe_call (ok__law_stream T) (hr.mono (by decide)) (by rfl) T.g__law_stream T.F__law_stream.kp T.b__law_stream .nil pass0 (pa_cons (pv 0) pa_nil)))
      (pss_cons (ps_set (i := 2) sc_law.nd rfl (.inl rfl) (pe_call (ok__law_names T) (hr.mono (by decide)) (by rfl) T.g__law_names T.F__law_names.kp T.b__law_names .nil pass0 (pa_cons (pv 1) (pa_cons (pe_op op_add pe_int (pe_call (ok__law_take T) (hr.mono (by decide)) (by rfl) T.g__law_take T.F__law_take.kp T.b__law_take .nil pass0 (pa_cons (pv 1) (pa_cons pe_int pa_nil)))) pa_nil))))
      (pss_cons (ps_set (i := 3) sc_law.nd rfl (.inl rfl) (pe_call (ok__law_box T 9) (hr.mono (by decide)) (by rfl) T.g__law_box T.F__law_box.kp T.b__law_box .nil pass0 (pa_cons (pv 1) (pa_cons (pe_callTy k_list (by rfl) T.z_list (by decide +kernel) (pa_cons (pv 2) pa_nil)) (pa_cons pe_int (pa_cons pe_bl pa_nil))))))
      (pss_cons (ps_set (i := 4) sc_law.nd rfl (.inl rfl) (pe_call (ok__law_box T 9) (hr.mono (by decide)) (by rfl) T.g__law_box T.F__law_box.kp T.b__law_box .nil pass0 (pa_cons (pv 1) (pa_cons (pe_callTy k_list (by rfl) T.z_list (by decide +kernel) (pa_cons (pv 2) pa_nil)) (pa_cons pe_int (pa_cons pe_bl pa_nil))))))
      (pss_cons (ps_set (i := 5) sc_law.nd rfl (.inl rfl) (pe_call (ok_tree_text T) hr (by rfl) T.g_tree_text T.F_tree_text.kp T.b_tree_text .nil pass0 (pa_cons (pv 3) pa_nil)))
      (pss_cons (ps_if (PW.pt (pw_or (pt_not (pt_val (pe_callB k_isi (by rfl) T.z_isinstance (by decide +kernel) (pa_cons (pv 5) (pa_cons (pe_bltn (v := .ty "str") (u := .type "str") (by rfl) T.z_str (by decide +kernel) rfl) pa_nil))))) (pw_or1 (pt_cmpR op_ne (pv 5) (pe_call (ok__law_due T) (hr.mono (by decide)) (by rfl) T.g__law_due T.F__law_due.kp T.b__law_due .nil pass0 (pa_cons (pv 3) pa_nil)) (nomark _))))) (pss_one (ps_ret pe_bl)) pss_nil)
      (pss_one (ps_ret (pe_and (pe_cmpR op_eq (pe_call (ok_tree_text T) hr (by rfl) T.g_tree_text T.F_tree_text.kp T.b_tree_text .nil pass0 (pa_cons (pv 4) pa_nil)) (pe_call (ok__law_due T) (hr.mono (by decide)) (by rfl) T.g__law_due T.F__law_due.kp T.b__law_due .nil pass0 (pa_cons (pv 4) pa_nil)) (nomark _)) (pe_one (pe_cmpR op_eq (pe_call (ok_tree_text T) hr (by rfl) T.g_tree_text T.F_tree_text.kp T.b_tree_text .nil pass0 (pa_cons (pv 3) pa_nil)) (pv 5) (nomark _)))))))))))), ?_⟩
    refine enter (Kn := Kn) (sl := [sv script_865, .any, .any, .any, .any, .any]) ek ⟨⟨v_0, rfl, hv_0⟩, trivial, trivial, trivial, trivial, trivial, trivial⟩ ?_
    have q := rt_of q
    obtain ⟨r_866, h_r_866, hf⟩ := bind_some hf
    obtain ⟨stream_here_867, h_stream_here_867, hf⟩ := bind_some hf
    refine SB.seqB (fun kx_ => sb_asgO (sl' := fun p_stream_here_867 => [sv script_865, .at p_stream_here_867, .any, .any, .any, .any]) (fun _ => rfl) (EN.cast (en_call (ea_cons (ev_var (i := 0) rfl) ea_nil) h_r_866) (Option.some.inj h_stream_here_867)) (fun p_stream_here_867 => (kx_ _ _ ?_)))
    obtain ⟨⟨r_868, stream_here_869⟩, h_r_868, hf⟩ := bind_some hf
    obtain ⟨⟨r_870, stream_here_871⟩, h_r_870, hf⟩ := bind_some hf
    obtain ⟨names_here_872, h_names_here_872, hf⟩ := bind_some hf
    refine SB.seqB (fun kx_ => sb_asgM (sl' := [sv script_865, .at p_stream_here_867, sv names_here_872, .any, .any, .any]) rfl (EM.cast (em_callM (i := 1) (j := 0) rfl (eam_cons (em_op (EV.em (ev_int 1)) (em_callM (i := 1) (j := 0) rfl (EA.eam (ea_cons (ev_int 14) ea_nil)) rfl h_r_868) r2_add) eam_nil) rfl h_r_870) (Option.some.inj h_names_here_872)) (kx_ _ _ ?_))
    obtain ⟨⟨r_873, stream_here_874, tmp_r_873⟩, h_r_873, hf⟩ := bind_some hf
    obtain ⟨one_875, h_one_875, hf⟩ := bind_some hf
    refine SB.seqB (fun kx_ => sb_asgM (sl' := [sv script_865, .at p_stream_here_867, sv names_here_872, sv one_875, .any, .any]) rfl (EM.cast (em_callM2T (mk := (fun p_ q_ => (mO p_ (mO q_ (mV (mV mE)))))) (o1 := (fun p_ (x_ : (List Int)) => ol p_ x_)) (j := 0) (emt_own (i := 1) rfl (emt_new (en_cb (ea_cons (ev_var (i := 2) rfl) ea_nil) rc_list) (emx_val (ev_int 1) (emx_val (ev_bool false) emx_nil)))) rfl (fun _ _ => rfl) h_r_873) (Option.some.inj h_one_875)) (kx_ _ _ ?_))
    obtain ⟨⟨r_876, stream_here_877, tmp_r_876⟩, h_r_876, hf⟩ := bind_some hf
    obtain ⟨other_878, h_other_878, hf⟩ := bind_some hf
    refine SB.seqB (fun kx_ => sb_asgM (sl' := [sv script_865, .at p_stream_here_867, sv names_here_872, sv one_875, sv other_878, .any]) rfl (EM.cast (em_callM2T (mk := (fun p_ q_ => (mO p_ (mO q_ (mV (mV mE)))))) (o1 := (fun p_ (x_ : (List Int)) => ol p_ x_)) (j := 0) (emt_own (i := 1) rfl (emt_new (en_cb (ea_cons (ev_var (i := 2) rfl) ea_nil) rc_list) (emx_val (ev_int 1) (emx_val (ev_bool false) emx_nil)))) rfl (fun _ _ => rfl) h_r_876) (Option.some.inj h_other_878)) (kx_ _ _ ?_))
    obtain ⟨r_879, h_r_879, hf⟩ := bind_some hf
    obtain ⟨found_880, h_found_880, hf⟩ := bind_some hf
    refine SB.seqB (fun kx_ => sb_asg (sl' := [sv script_865, .at p_stream_here_867, sv names_here_872, sv one_875, sv other_878, sv found_880]) rfl (EV.cast (ev_call (ea_cons (ev_var (i := 3) rfl) ea_nil) h_r_879) (Option.some.inj h_found_880)) (kx_ _ _ ?_))
    obtain ⟨b_883, h_b_883, hf⟩ := bind_some hf
    refine SB.seqB (fun kx_885 => sb_if (b := b_883) (et_orO h_b_883 (et_not (et_B (ev_cb (ea_cons (ev_var (i := 5) rfl) (ea_cons (ev_ty "str") ea_nil)) (rc_isi (b := true) (by decide +kernel))))) (fun _ _ h => by obtain ⟨r_882, h_r_882, h⟩ := bind_some h; have hz_ := Option.some.inj h; subst hz_; exact (et_test (ev_op (ev_var (i := 5) rfl) (ev_call (ea_cons (ev_var (i := 3) rfl) ea_nil) h_r_882) r2_neS)))) (fun hb_884 => ?_) (fun hb_884 => ?_))
    · have hf := ite_t hb_884 hf
      cases hf
      exact sb_ret (ev_bool false) q (List.Sublist.cons _ List.Sublist.slnil)
    · have hf := ite_f hb_884 hf
      refine sb_nx ?_
      refine kx_885 _ _ ?_
      obtain ⟨r_886, h_r_886, hf⟩ := bind_some hf
      obtain ⟨r_887, h_r_887, hf⟩ := bind_some hf
      obtain ⟨b_889, h_b_889, hf⟩ := bind_some hf
      cases hf
      exact sb_ret (ev_andO h_b_889 (ev_op (ev_call (ea_cons (ev_var (i := 4) rfl) ea_nil) h_r_886) (ev_call (ea_cons (ev_var (i := 4) rfl) ea_nil) h_r_887) r2_eqS) (fun _ _ h => by obtain ⟨r_888, h_r_888, h⟩ := bind_some h; have hz_ := Option.some.inj h; subst hz_; exact (ev_op (ev_call (ea_cons (ev_var (i := 3) rfl) ea_nil) h_r_888) (ev_var (i := 5) rfl) r2_eqS))) q (List.Sublist.cons _ List.Sublist.slnil)
end
theorem all_mk (main : ∀ ns : List Int, ns.length ≤ 63 → m_law (Fz.mk ns) = some true) {l : PySem.W.OpenLaw} {w : World} {K : Fg} {h : Heap} {mg : Str → Option Value} {fa f_words_told f_word_told f_numbers_told f_own_told f_what_told f_part_told f_setting_told f_rows_told f_tree_text f__law_stream f__law_take f__law_names f__law_range f__law_words f__law_anchor f__law_what f__law_box f__law_own_words f__law_what_words f__law_part_words f__law_text_words f__law_rows f__law_due f_law : Addr} (X : K.In h) (G : h.Ns mainGlobals mg) (hfa : mg "law" = some (.ref fa))
     {od_words_told an_words_told : Option Addr} {sl_words_told : Array (Option Value)} {oc_words_told kV_words_told dc_words_told pm_words_told cd_words_told ct_words_told : Value} {od_word_told an_word_told : Option Addr} {sl_word_told : Array (Option Value)} {oc_word_told kV_word_told dc_word_told pm_word_told cd_word_told ct_word_told : Value} {od_numbers_told an_numbers_told : Option Addr} {sl_numbers_told : Array (Option Value)} {oc_numbers_told kV_numbers_told dc_numbers_told pm_numbers_told cd_numbers_told ct_numbers_told : Value} {od_own_told an_own_told : Option Addr} {sl_own_told : Array (Option Value)} {oc_own_told kV_own_told dc_own_told pm_own_told cd_own_told ct_own_told : Value} {od_what_told an_what_told : Option Addr} {sl_what_told : Array (Option Value)} {oc_what_told kV_what_told dc_what_told pm_what_told cd_what_told ct_what_told : Value} {od_part_told an_part_told : Option Addr} {sl_part_told : Array (Option Value)} {oc_part_told kV_part_told dc_part_told pm_part_told cd_part_told ct_part_told : Value} {od_setting_told an_setting_told : Option Addr} {sl_setting_told : Array (Option Value)} {oc_setting_told kV_setting_told dc_setting_told pm_setting_told cd_setting_told ct_setting_told : Value} {od_rows_told an_rows_told : Option Addr} {sl_rows_told : Array (Option Value)} {oc_rows_told kV_rows_told dc_rows_told pm_rows_told cd_rows_told ct_rows_told : Value} {od_tree_text an_tree_text : Option Addr} {sl_tree_text : Array (Option Value)} {oc_tree_text kV_tree_text dc_tree_text pm_tree_text cd_tree_text ct_tree_text : Value} {od__law_stream an__law_stream : Option Addr} {sl__law_stream : Array (Option Value)} {oc__law_stream kV__law_stream dc__law_stream pm__law_stream cd__law_stream ct__law_stream : Value} {od__law_take an__law_take : Option Addr} {sl__law_take : Array (Option Value)} {oc__law_take kV__law_take dc__law_take pm__law_take cd__law_take ct__law_take : Value} {od__law_names an__law_names : Option Addr} {sl__law_names : Array (Option Value)} {oc__law_names kV__law_names dc__law_names pm__law_names cd__law_names ct__law_names : Value} {od__law_range an__law_range : Option Addr} {sl__law_range : Array (Option Value)} {oc__law_range kV__law_range dc__law_range pm__law_range cd__law_range ct__law_range : Value} {od__law_words an__law_words : Option Addr} {sl__law_words : Array (Option Value)} {oc__law_words kV__law_words dc__law_words pm__law_words cd__law_words ct__law_words : Value} {od__law_anchor an__law_anchor : Option Addr} {sl__law_anchor : Array (Option Value)} {oc__law_anchor kV__law_anchor dc__law_anchor pm__law_anchor cd__law_anchor ct__law_anchor : Value} {od__law_what an__law_what : Option Addr} {sl__law_what : Array (Option Value)} {oc__law_what kV__law_what dc__law_what pm__law_what cd__law_what ct__law_what : Value} {od__law_box an__law_box : Option Addr} {sl__law_box : Array (Option Value)} {oc__law_box kV__law_box dc__law_box pm__law_box cd__law_box ct__law_box : Value} {od__law_own_words an__law_own_words : Option Addr} {sl__law_own_words : Array (Option Value)} {oc__law_own_words kV__law_own_words dc__law_own_words pm__law_own_words cd__law_own_words ct__law_own_words : Value} {od__law_what_words an__law_what_words : Option Addr} {sl__law_what_words : Array (Option Value)} {oc__law_what_words kV__law_what_words dc__law_what_words pm__law_what_words cd__law_what_words ct__law_what_words : Value} {od__law_part_words an__law_part_words : Option Addr} {sl__law_part_words : Array (Option Value)} {oc__law_part_words kV__law_part_words dc__law_part_words pm__law_part_words cd__law_part_words ct__law_part_words : Value} {od__law_text_words an__law_text_words : Option Addr} {sl__law_text_words : Array (Option Value)} {oc__law_text_words kV__law_text_words dc__law_text_words pm__law_text_words cd__law_text_words ct__law_text_words : Value} {od__law_rows an__law_rows : Option Addr} {sl__law_rows : Array (Option Value)} {oc__law_rows kV__law_rows dc__law_rows pm__law_rows cd__law_rows ct__law_rows : Value} {od__law_due an__law_due : Option Addr} {sl__law_due : Array (Option Value)} {oc__law_due kV__law_due dc__law_due pm__law_due cd__law_due ct__law_due : Value} {od_law an_law : Option Addr} {sl_law : Array (Option Value)} {oc_law kV_law dc_law pm_law cd_law ct_law : Value} {tki_JOINT : Tok} {tki_WIDEST : Tok} {tb_LINES : Addr} {tnn_LINES : Nat} {tkk_LINES_0 : Tok} {tkk_LINES_1 : Tok} {tkk_LINES_2 : Tok}
    (a_words_told : PySem.W.nsIn K mainGlobals "words_told" = some (some (.ref f_words_told))) (l_words_told : K.lookup f_words_told = some ⟨oc_words_told, od_words_told, .func (PySem.W.fnOf "words_told" "words_told" (defArgs s_words_told) (defBody s_words_told) (defScope s_words_told) .none kV_words_told dc_words_told pm_words_told an_words_told cd_words_told ct_words_told), sl_words_told⟩) (c_words_told : PySem.W.codeIn K cd_words_told "words_told" = true) (k_words_told : PySem.W.keepIn K (.ref f_words_told) = true)
    (a_word_told : PySem.W.nsIn K mainGlobals "word_told" = some (some (.ref f_word_told))) (l_word_told : K.lookup f_word_told = some ⟨oc_word_told, od_word_told, .func (PySem.W.fnOf "word_told" "word_told" (defArgs s_word_told) (defBody s_word_told) (defScope s_word_told) .none kV_word_told dc_word_told pm_word_told an_word_told cd_word_told ct_word_told), sl_word_told⟩) (c_word_told : PySem.W.codeIn K cd_word_told "word_told" = true) (k_word_told : PySem.W.keepIn K (.ref f_word_told) = true)
    (a_numbers_told : PySem.W.nsIn K mainGlobals "numbers_told" = some (some (.ref f_numbers_told))) (l_numbers_told : K.lookup f_numbers_told = some ⟨oc_numbers_told, od_numbers_told, .func (PySem.W.fnOf "numbers_told" "numbers_told" (defArgs s_numbers_told) (defBody s_numbers_told) (defScope s_numbers_told) .none kV_numbers_told dc_numbers_told pm_numbers_told an_numbers_told cd_numbers_told ct_numbers_told), sl_numbers_told⟩) (c_numbers_told : PySem.W.codeIn K cd_numbers_told "numbers_told" = true) (k_numbers_told : PySem.W.keepIn K (.ref f_numbers_told) = true)
    (a_own_told : PySem.W.nsIn K mainGlobals "own_told" = some (some (.ref f_own_told))) (l_own_told : K.lookup f_own_told = some ⟨oc_own_told, od_own_told, .func (PySem.W.fnOf "own_told" "own_told" (defArgs s_own_told) (defBody s_own_told) (defScope s_own_told) .none kV_own_told dc_own_told pm_own_told an_own_told cd_own_told ct_own_told), sl_own_told⟩) (c_own_told : PySem.W.codeIn K cd_own_told "own_told" = true) (k_own_told : PySem.W.keepIn K (.ref f_own_told) = true)
    (a_what_told : PySem.W.nsIn K mainGlobals "what_told" = some (some (.ref f_what_told))) (l_what_told : K.lookup f_what_told = some ⟨oc_what_told, od_what_told, .func (PySem.W.fnOf "what_told" "what_told" (defArgs s_what_told) (defBody s_what_told) (defScope s_what_told) .none kV_what_told dc_what_told pm_what_told an_what_told cd_what_told ct_what_told), sl_what_told⟩) (c_what_told : PySem.W.codeIn K cd_what_told "what_told" = true) (k_what_told : PySem.W.keepIn K (.ref f_what_told) = true)
    (a_part_told : PySem.W.nsIn K mainGlobals "part_told" = some (some (.ref f_part_told))) (l_part_told : K.lookup f_part_told = some ⟨oc_part_told, od_part_told, .func (PySem.W.fnOf "part_told" "part_told" (defArgs s_part_told) (defBody s_part_told) (defScope s_part_told) .none kV_part_told dc_part_told pm_part_told an_part_told cd_part_told ct_part_told), sl_part_told⟩) (c_part_told : PySem.W.codeIn K cd_part_told "part_told" = true) (k_part_told : PySem.W.keepIn K (.ref f_part_told) = true)
    (a_setting_told : PySem.W.nsIn K mainGlobals "setting_told" = some (some (.ref f_setting_told))) (l_setting_told : K.lookup f_setting_told = some ⟨oc_setting_told, od_setting_told, .func (PySem.W.fnOf "setting_told" "setting_told" (defArgs s_setting_told) (defBody s_setting_told) (defScope s_setting_told) .none kV_setting_told dc_setting_told pm_setting_told an_setting_told cd_setting_told ct_setting_told), sl_setting_told⟩) (c_setting_told : PySem.W.codeIn K cd_setting_told "setting_told" = true) (k_setting_told : PySem.W.keepIn K (.ref f_setting_told) = true)
    (a_rows_told : PySem.W.nsIn K mainGlobals "rows_told" = some (some (.ref f_rows_told))) (l_rows_told : K.lookup f_rows_told = some ⟨oc_rows_told, od_rows_told, .func (PySem.W.fnOf "rows_told" "rows_told" (defArgs s_rows_told) (defBody s_rows_told) (defScope s_rows_told) .none kV_rows_told dc_rows_told pm_rows_told an_rows_told cd_rows_told ct_rows_told), sl_rows_told⟩) (c_rows_told : PySem.W.codeIn K cd_rows_told "rows_told" = true) (k_rows_told : PySem.W.keepIn K (.ref f_rows_told) = true)
    (a_tree_text : PySem.W.nsIn K mainGlobals "tree_text" = some (some (.ref f_tree_text))) (l_tree_text : K.lookup f_tree_text = some ⟨oc_tree_text, od_tree_text, .func (PySem.W.fnOf "tree_text" "tree_text" (defArgs s_tree_text) (defBody s_tree_text) (defScope s_tree_text) .none kV_tree_text dc_tree_text pm_tree_text an_tree_text cd_tree_text ct_tree_text), sl_tree_text⟩) (c_tree_text : PySem.W.codeIn K cd_tree_text "tree_text" = true) (k_tree_text : PySem.W.keepIn K (.ref f_tree_text) = true)
    (a__law_stream : PySem.W.nsIn K mainGlobals "_law_stream" = some (some (.ref f__law_stream))) (l__law_stream : K.lookup f__law_stream = some ⟨oc__law_stream, od__law_stream, .func (PySem.W.fnOf "_law_stream" "_law_stream" (defArgs s__law_stream) (defBody s__law_stream) (defScope s__law_stream) .none kV__law_stream dc__law_stream pm__law_stream an__law_stream cd__law_stream ct__law_stream), sl__law_stream⟩) (c__law_stream : PySem.W.codeIn K cd__law_stream "_law_stream" = true) (k__law_stream : PySem.W.keepIn K (.ref f__law_stream) = true)
    (a__law_take : PySem.W.nsIn K mainGlobals "_law_take" = some (some (.ref f__law_take))) (l__law_take : K.lookup f__law_take = some ⟨oc__law_take, od__law_take, .func (PySem.W.fnOf "_law_take" "_law_take" (defArgs s__law_take) (defBody s__law_take) (defScope s__law_take) .none kV__law_take dc__law_take pm__law_take an__law_take cd__law_take ct__law_take), sl__law_take⟩) (c__law_take : PySem.W.codeIn K cd__law_take "_law_take" = true) (k__law_take : PySem.W.keepIn K (.ref f__law_take) = true)
    (a__law_names : PySem.W.nsIn K mainGlobals "_law_names" = some (some (.ref f__law_names))) (l__law_names : K.lookup f__law_names = some ⟨oc__law_names, od__law_names, .func (PySem.W.fnOf "_law_names" "_law_names" (defArgs s__law_names) (defBody s__law_names) (defScope s__law_names) .none kV__law_names dc__law_names pm__law_names an__law_names cd__law_names ct__law_names), sl__law_names⟩) (c__law_names : PySem.W.codeIn K cd__law_names "_law_names" = true) (k__law_names : PySem.W.keepIn K (.ref f__law_names) = true)
    (a__law_range : PySem.W.nsIn K mainGlobals "_law_range" = some (some (.ref f__law_range))) (l__law_range : K.lookup f__law_range = some ⟨oc__law_range, od__law_range, .func (PySem.W.fnOf "_law_range" "_law_range" (defArgs s__law_range) (defBody s__law_range) (defScope s__law_range) .none kV__law_range dc__law_range pm__law_range an__law_range cd__law_range ct__law_range), sl__law_range⟩) (c__law_range : PySem.W.codeIn K cd__law_range "_law_range" = true) (k__law_range : PySem.W.keepIn K (.ref f__law_range) = true)
    (a__law_words : PySem.W.nsIn K mainGlobals "_law_words" = some (some (.ref f__law_words))) (l__law_words : K.lookup f__law_words = some ⟨oc__law_words, od__law_words, .func (PySem.W.fnOf "_law_words" "_law_words" (defArgs s__law_words) (defBody s__law_words) (defScope s__law_words) .none kV__law_words dc__law_words pm__law_words an__law_words cd__law_words ct__law_words), sl__law_words⟩) (c__law_words : PySem.W.codeIn K cd__law_words "_law_words" = true) (k__law_words : PySem.W.keepIn K (.ref f__law_words) = true)
    (a__law_anchor : PySem.W.nsIn K mainGlobals "_law_anchor" = some (some (.ref f__law_anchor))) (l__law_anchor : K.lookup f__law_anchor = some ⟨oc__law_anchor, od__law_anchor, .func (PySem.W.fnOf "_law_anchor" "_law_anchor" (defArgs s__law_anchor) (defBody s__law_anchor) (defScope s__law_anchor) .none kV__law_anchor dc__law_anchor pm__law_anchor an__law_anchor cd__law_anchor ct__law_anchor), sl__law_anchor⟩) (c__law_anchor : PySem.W.codeIn K cd__law_anchor "_law_anchor" = true) (k__law_anchor : PySem.W.keepIn K (.ref f__law_anchor) = true)
    (a__law_what : PySem.W.nsIn K mainGlobals "_law_what" = some (some (.ref f__law_what))) (l__law_what : K.lookup f__law_what = some ⟨oc__law_what, od__law_what, .func (PySem.W.fnOf "_law_what" "_law_what" (defArgs s__law_what) (defBody s__law_what) (defScope s__law_what) .none kV__law_what dc__law_what pm__law_what an__law_what cd__law_what ct__law_what), sl__law_what⟩) (c__law_what : PySem.W.codeIn K cd__law_what "_law_what" = true) (k__law_what : PySem.W.keepIn K (.ref f__law_what) = true)
    (a__law_box : PySem.W.nsIn K mainGlobals "_law_box" = some (some (.ref f__law_box))) (l__law_box : K.lookup f__law_box = some ⟨oc__law_box, od__law_box, .func (PySem.W.fnOf "_law_box" "_law_box" (defArgs s__law_box) (defBody s__law_box) (defScope s__law_box) .none kV__law_box dc__law_box pm__law_box an__law_box cd__law_box ct__law_box), sl__law_box⟩) (c__law_box : PySem.W.codeIn K cd__law_box "_law_box" = true) (k__law_box : PySem.W.keepIn K (.ref f__law_box) = true)
    (a__law_own_words : PySem.W.nsIn K mainGlobals "_law_own_words" = some (some (.ref f__law_own_words))) (l__law_own_words : K.lookup f__law_own_words = some ⟨oc__law_own_words, od__law_own_words, .func (PySem.W.fnOf "_law_own_words" "_law_own_words" (defArgs s__law_own_words) (defBody s__law_own_words) (defScope s__law_own_words) .none kV__law_own_words dc__law_own_words pm__law_own_words an__law_own_words cd__law_own_words ct__law_own_words), sl__law_own_words⟩) (c__law_own_words : PySem.W.codeIn K cd__law_own_words "_law_own_words" = true) (k__law_own_words : PySem.W.keepIn K (.ref f__law_own_words) = true)
    (a__law_what_words : PySem.W.nsIn K mainGlobals "_law_what_words" = some (some (.ref f__law_what_words))) (l__law_what_words : K.lookup f__law_what_words = some ⟨oc__law_what_words, od__law_what_words, .func (PySem.W.fnOf "_law_what_words" "_law_what_words" (defArgs s__law_what_words) (defBody s__law_what_words) (defScope s__law_what_words) .none kV__law_what_words dc__law_what_words pm__law_what_words an__law_what_words cd__law_what_words ct__law_what_words), sl__law_what_words⟩) (c__law_what_words : PySem.W.codeIn K cd__law_what_words "_law_what_words" = true) (k__law_what_words : PySem.W.keepIn K (.ref f__law_what_words) = true)
    (a__law_part_words : PySem.W.nsIn K mainGlobals "_law_part_words" = some (some (.ref f__law_part_words))) (l__law_part_words : K.lookup f__law_part_words = some ⟨oc__law_part_words, od__law_part_words, .func (PySem.W.fnOf "_law_part_words" "_law_part_words" (defArgs s__law_part_words) (defBody s__law_part_words) (defScope s__law_part_words) .none kV__law_part_words dc__law_part_words pm__law_part_words an__law_part_words cd__law_part_words ct__law_part_words), sl__law_part_words⟩) (c__law_part_words : PySem.W.codeIn K cd__law_part_words "_law_part_words" = true) (k__law_part_words : PySem.W.keepIn K (.ref f__law_part_words) = true)
    (a__law_text_words : PySem.W.nsIn K mainGlobals "_law_text_words" = some (some (.ref f__law_text_words))) (l__law_text_words : K.lookup f__law_text_words = some ⟨oc__law_text_words, od__law_text_words, .func (PySem.W.fnOf "_law_text_words" "_law_text_words" (defArgs s__law_text_words) (defBody s__law_text_words) (defScope s__law_text_words) .none kV__law_text_words dc__law_text_words pm__law_text_words an__law_text_words cd__law_text_words ct__law_text_words), sl__law_text_words⟩) (c__law_text_words : PySem.W.codeIn K cd__law_text_words "_law_text_words" = true) (k__law_text_words : PySem.W.keepIn K (.ref f__law_text_words) = true)
    (a__law_rows : PySem.W.nsIn K mainGlobals "_law_rows" = some (some (.ref f__law_rows))) (l__law_rows : K.lookup f__law_rows = some ⟨oc__law_rows, od__law_rows, .func (PySem.W.fnOf "_law_rows" "_law_rows" (defArgs s__law_rows) (defBody s__law_rows) (defScope s__law_rows) .none kV__law_rows dc__law_rows pm__law_rows an__law_rows cd__law_rows ct__law_rows), sl__law_rows⟩) (c__law_rows : PySem.W.codeIn K cd__law_rows "_law_rows" = true) (k__law_rows : PySem.W.keepIn K (.ref f__law_rows) = true)
    (a__law_due : PySem.W.nsIn K mainGlobals "_law_due" = some (some (.ref f__law_due))) (l__law_due : K.lookup f__law_due = some ⟨oc__law_due, od__law_due, .func (PySem.W.fnOf "_law_due" "_law_due" (defArgs s__law_due) (defBody s__law_due) (defScope s__law_due) .none kV__law_due dc__law_due pm__law_due an__law_due cd__law_due ct__law_due), sl__law_due⟩) (c__law_due : PySem.W.codeIn K cd__law_due "_law_due" = true) (k__law_due : PySem.W.keepIn K (.ref f__law_due) = true)
    (a_law : PySem.W.nsIn K mainGlobals "law" = some (some (.ref f_law))) (l_law : K.lookup f_law = some ⟨oc_law, od_law, .func (PySem.W.fnOf "law" "law" (defArgs s_law) (defBody s_law) (defScope s_law) .none kV_law dc_law pm_law an_law cd_law ct_law), sl_law⟩) (c_law : PySem.W.codeIn K cd_law "law" = true) (k_law : PySem.W.keepIn K (.ref f_law) = true)
    (z_abs : PySem.W.nsIn K mainGlobals "abs" = some none)
    (z_enumerate : PySem.W.nsIn K mainGlobals "enumerate" = some none)
    (z_isinstance : PySem.W.nsIn K mainGlobals "isinstance" = some none)
    (z_len : PySem.W.nsIn K mainGlobals "len" = some none)
    (z_list : PySem.W.nsIn K mainGlobals "list" = some none)
    (z_min : PySem.W.nsIn K mainGlobals "min" = some none)
    (z_range : PySem.W.nsIn K mainGlobals "range" = some none)
    (z_str : PySem.W.nsIn K mainGlobals "str" = some none)
    (z_tuple : PySem.W.nsIn K mainGlobals "tuple" = some none)
    (ki_JOINT : PySem.W.nsIn K mainGlobals "JOINT" = some (some (.int 50 tki_JOINT)))
    (ki_WIDEST : PySem.W.nsIn K mainGlobals "WIDEST" = some (some (.str "0..1000000" tki_WIDEST)))
    (tn_LINES : PySem.W.nsIn K mainGlobals "LINES" = some (some (.ref tb_LINES))) (tl_LINES : K.lookup tb_LINES = some ⟨.type "tuple", none, .seq #[.str "row" tkk_LINES_0, .str "column" tkk_LINES_1, .str "wrap" tkk_LINES_2] tnn_LINES, #[]⟩) :
    ∃ fd : FuncData, (∀ (s : Shared) (v : Value), BindsTo s fd ⟨[v], []⟩ [("_law_script", v)]) ∧ ∀ base : Heap, K.In base → base.Ns mainGlobals mg → FnOk l.prog w K mg base CX0 14 fa fd ["_law_script"] (spLaw K) := by
  have e := hfa.symm.trans (PySem.W.mg_of X G a_law)
  cases e
  have F_words_told := fun_mk (st := s_words_told) l_words_told c_words_told k_words_told
  have F_word_told := fun_mk (st := s_word_told) l_word_told c_word_told k_word_told
  have F_numbers_told := fun_mk (st := s_numbers_told) l_numbers_told c_numbers_told k_numbers_told
  have F_own_told := fun_mk (st := s_own_told) l_own_told c_own_told k_own_told
  have F_what_told := fun_mk (st := s_what_told) l_what_told c_what_told k_what_told
  have F_part_told := fun_mk (st := s_part_told) l_part_told c_part_told k_part_told
  have F_setting_told := fun_mk (st := s_setting_told) l_setting_told c_setting_told k_setting_told
  have F_rows_told := fun_mk (st := s_rows_told) l_rows_told c_rows_told k_rows_told
  have F_tree_text := fun_mk (st := s_tree_text) l_tree_text c_tree_text k_tree_text
  have F__law_stream := fun_mk (st := s__law_stream) l__law_stream c__law_stream k__law_stream
  have F__law_take := fun_mk (st := s__law_take) l__law_take c__law_take k__law_take
  have F__law_names := fun_mk (st := s__law_names) l__law_names c__law_names k__law_names
  have F__law_range := fun_mk (st := s__law_range) l__law_range c__law_range k__law_range
  have F__law_words := fun_mk (st := s__law_words) l__law_words c__law_words k__law_words
  have F__law_anchor := fun_mk (st := s__law_anchor) l__law_anchor c__law_anchor k__law_anchor
  have F__law_what := fun_mk (st := s__law_what) l__law_what c__law_what k__law_what
  have F__law_box := fun_mk (st := s__law_box) l__law_box c__law_box k__law_box
  have F__law_own_words := fun_mk (st := s__law_own_words) l__law_own_words c__law_own_words k__law_own_words
  have F__law_what_words := fun_mk (st := s__law_what_words) l__law_what_words c__law_what_words k__law_what_words
  have F__law_part_words := fun_mk (st := s__law_part_words) l__law_part_words c__law_part_words k__law_part_words
  have F__law_text_words := fun_mk (st := s__law_text_words) l__law_text_words c__law_text_words k__law_text_words
  have F__law_rows := fun_mk (st := s__law_rows) l__law_rows c__law_rows k__law_rows
  have F__law_due := fun_mk (st := s__law_due) l__law_due c__law_due k__law_due
  have F_law := fun_mk (st := s_law) l_law c_law k_law
  have b_words_told := F_words_told.binds (ps := ["words", "joint"]) fun _ _ _ _ _ _ us hl => match us, hl with | [_, _], _ => rfl
  have b_word_told := F_word_told.binds (ps := ["word", "value", "plain"]) fun _ _ _ _ _ _ us hl => match us, hl with | [_, _, _], _ => rfl
  have b_numbers_told := F_numbers_told.binds (ps := ["word", "numbers", "mark", "plain"]) fun _ _ _ _ _ _ us hl => match us, hl with | [_, _, _, _], _ => rfl
  have b_own_told := F_own_told.binds (ps := ["own"]) fun _ _ _ _ _ _ us hl => match us, hl with | [_], _ => rfl
  have b_what_told := F_what_told.binds (ps := ["kind", "what"]) fun _ _ _ _ _ _ us hl => match us, hl with | [_, _], _ => rfl
  have b_part_told := F_part_told.binds (ps := ["elder", "at"]) fun _ _ _ _ _ _ us hl => match us, hl with | [_, _], _ => rfl
  have b_setting_told := F_setting_told.binds (ps := ["kind", "what"]) fun _ _ _ _ _ _ us hl => match us, hl with | [_, _], _ => rfl
  have b_rows_told := F_rows_told.binds (ps := ["tree", "deep", "extra"]) fun _ _ _ _ _ _ us hl => match us, hl with | [_, _, _], _ => rfl
  have b_tree_text := F_tree_text.binds (ps := ["tree"]) fun _ _ _ _ _ _ us hl => match us, hl with | [_], _ => rfl
  have b__law_stream := F__law_stream.binds (ps := ["_law_script"]) fun _ _ _ _ _ _ us hl => match us, hl with | [_], _ => rfl
  have b__law_take := F__law_take.binds (ps := ["_law_stream_here", "_law_many"]) fun _ _ _ _ _ _ us hl => match us, hl with | [_, _], _ => rfl
  have b__law_names := F__law_names.binds (ps := ["_law_stream_here", "_law_many"]) fun _ _ _ _ _ _ us hl => match us, hl with | [_, _], _ => rfl
  have b__law_range := F__law_range.binds (ps := ["_law_stream_here"]) fun _ _ _ _ _ _ us hl => match us, hl with | [_], _ => rfl
  have b__law_words := F__law_words.binds (ps := ["_law_stream_here"]) fun _ _ _ _ _ _ us hl => match us, hl with | [_], _ => rfl
  have b__law_anchor := F__law_anchor.binds (ps := ["_law_stream_here"]) fun _ _ _ _ _ _ us hl => match us, hl with | [_], _ => rfl
  have b__law_what := F__law_what.binds (ps := ["_law_stream_here", "_law_kind", "_law_many"]) fun _ _ _ _ _ _ us hl => match us, hl with | [_, _, _], _ => rfl
  have b__law_box := F__law_box.binds (ps := ["_law_stream_here", "_law_names_here", "_law_deep", "_law_tabled"]) fun _ _ _ _ _ _ us hl => match us, hl with | [_, _, _, _], _ => rfl
  have b__law_own_words := F__law_own_words.binds (ps := ["_law_own"]) fun _ _ _ _ _ _ us hl => match us, hl with | [_], _ => rfl
  have b__law_what_words := F__law_what_words.binds (ps := ["_law_kind", "_law_what_here"]) fun _ _ _ _ _ _ us hl => match us, hl with | [_, _], _ => rfl
  have b__law_part_words := F__law_part_words.binds (ps := ["_law_kind", "_law_what_here", "_law_at"]) fun _ _ _ _ _ _ us hl => match us, hl with | [_, _, _], _ => rfl
  have b__law_text_words := F__law_text_words.binds (ps := ["_law_kind", "_law_what_here"]) fun _ _ _ _ _ _ us hl => match us, hl with | [_, _], _ => rfl
  have b__law_rows := F__law_rows.binds (ps := ["_law_box_here", "_law_deep", "_law_extra"]) fun _ _ _ _ _ _ us hl => match us, hl with | [_, _, _], _ => rfl
  have b__law_due := F__law_due.binds (ps := ["_law_tree"]) fun _ _ _ _ _ _ us hl => match us, hl with | [_], _ => rfl
  have b_law := F_law.binds (ps := ["_law_script"]) fun _ _ _ _ _ _ us hl => match us, hl with | [_], _ => rfl
  have tt_LINES : KTup K tb_LINES ["row", "column", "wrap"] := ⟨_, _, _, tl_LINES, rfl, rfl, (by show (3 : Nat) ≤ sizeLine; decide), .cons ⟨_, rfl⟩ (.cons ⟨_, rfl⟩ (.cons ⟨_, rfl⟩ (.nil)))⟩
  let T : TX K mg w := ⟨_, _, F_words_told, b_words_told, PySem.W.mg_of X G a_words_told, _, _, F_word_told, b_word_told, PySem.W.mg_of X G a_word_told, _, _, F_numbers_told, b_numbers_told, PySem.W.mg_of X G a_numbers_told, _, _, F_own_told, b_own_told, PySem.W.mg_of X G a_own_told, _, _, F_what_told, b_what_told, PySem.W.mg_of X G a_what_told, _, _, F_part_told, b_part_told, PySem.W.mg_of X G a_part_told, _, _, F_setting_told, b_setting_told, PySem.W.mg_of X G a_setting_told, _, _, F_rows_told, b_rows_told, PySem.W.mg_of X G a_rows_told, _, _, F_tree_text, b_tree_text, PySem.W.mg_of X G a_tree_text, _, _, F__law_stream, b__law_stream, PySem.W.mg_of X G a__law_stream, _, _, F__law_take, b__law_take, PySem.W.mg_of X G a__law_take, _, _, F__law_names, b__law_names, PySem.W.mg_of X G a__law_names, _, _, F__law_range, b__law_range, PySem.W.mg_of X G a__law_range, _, _, F__law_words, b__law_words, PySem.W.mg_of X G a__law_words, _, _, F__law_anchor, b__law_anchor, PySem.W.mg_of X G a__law_anchor, _, _, F__law_what, b__law_what, PySem.W.mg_of X G a__law_what, _, _, F__law_box, b__law_box, PySem.W.mg_of X G a__law_box, _, _, F__law_own_words, b__law_own_words, PySem.W.mg_of X G a__law_own_words, _, _, F__law_what_words, b__law_what_words, PySem.W.mg_of X G a__law_what_words, _, _, F__law_part_words, b__law_part_words, PySem.W.mg_of X G a__law_part_words, _, _, F__law_text_words, b__law_text_words, PySem.W.mg_of X G a__law_text_words, _, _, F__law_rows, b__law_rows, PySem.W.mg_of X G a__law_rows, _, _, F__law_due, b__law_due, PySem.W.mg_of X G a__law_due, _, _, F_law, b_law, PySem.W.mg_of X G a_law, PySem.W.mg_none_of X G z_abs, PySem.W.mg_none_of X G z_enumerate, PySem.W.mg_none_of X G z_isinstance, PySem.W.mg_none_of X G z_len, PySem.W.mg_none_of X G z_list, PySem.W.mg_none_of X G z_min, PySem.W.mg_none_of X G z_range, PySem.W.mg_none_of X G z_str, PySem.W.mg_none_of X G z_tuple, _, PySem.W.mg_of X G ki_JOINT, _, PySem.W.mg_of X G ki_WIDEST, _, PySem.W.mg_of X G tn_LINES, tt_LINES⟩
  refine ⟨PySem.W.fnOf "law" "law" (defArgs s_law) (defBody s_law) (defScope s_law) .none kV_law dc_law pm_law an_law cd_law ct_law, fun s v => .of_eq rfl, fun base _ _ => ?_⟩
  exact fn_weak (ok_law T) main
end Wk08
/-! Wp: plain facts about the mirrors' words -/
namespace Wk
open PySem L2

theorem bs {α β : Type} (a : α) (f : α → Option β) : (some a).bind f = f a := by rw [Option.bind_some]
theorem bind_ok {α β : Type} {m : Option α} {f : α → Option β} {a : α} (h : m = some a) : m.bind f = f a := by rw [h]; rfl
theorem atI_ok {α : Type} {xs : List α} {i : Int} (h0 : 0 ≤ i) (h : i < xs.length) : atI xs i = xs[i.toNat]? := by
  obtain ⟨k, rfl⟩ := Int.eq_ofNat_of_zero_le h0
  have hk : k < xs.length := by omega
  have e : xs[k]? = some xs[k] := List.getElem?_eq_getElem hk
  rw [show ((k : Int)).toNat = k from rfl, e]
  exact atI_nat e
theorem atI_some {α : Type} {xs : List α} {i : Int} (h0 : 0 ≤ i) (h : i < xs.length) : ∃ x, atI xs i = some x ∧ xs[i.toNat]? = some x := by
  have hk : i.toNat < xs.length := by omega
  exact ⟨xs[i.toNat], by rw [atI_ok h0 h]; exact List.getElem?_eq_getElem hk, List.getElem?_eq_getElem hk⟩
theorem pick2 {α : Type} (x y : α) {k : Int} (h0 : 0 ≤ k) (h : k < 2) : atI [x, y] k = some (if k = 0 then x else y) := by
  rcases (show k = 0 ∨ k = 1 by omega) with rfl | rfl <;> rfl
theorem pick3 {α : Type} (x y z : α) {k : Int} (h0 : 0 ≤ k) (h : k < 3) : atI [x, y, z] k = some (if k = 0 then x else if k = 1 then y else z) := by
  rcases (show k = 0 ∨ k = 1 ∨ k = 2 by omega) with rfl | rfl | rfl <;> rfl
theorem pick4 {α : Type} (x y z u : α) {k : Int} (h0 : 0 ≤ k) (h : k < 4) : atI [x, y, z, u] k = some (if k = 0 then x else if k = 1 then y else if k = 2 then z else u) := by
  rcases (show k = 0 ∨ k = 1 ∨ k = 2 ∨ k = 3 by omega) with rfl | rfl | rfl | rfl <;> rfl
theorem forC_all {β R : Type} {f : β → Unit → Option (Ctl Unit R)} : ∀ {xs : List β}, (∀ x ∈ xs, f x () = some (.nx ())) → forC f xs () = some (.nx ())
  | [], _ => rfl
  | x :: xs, h => by
    unfold forC
    rw [h x List.mem_cons_self]
    exact forC_all fun y hy => h y (List.mem_cons_of_mem _ hy)
/-- a loop that always goes on, by an invariant -/
theorem forC_inv {β Sx R : Type} {f : β → Sx → Option (Ctl Sx R)} (I : List β → Sx → Prop) : ∀ {xs : List β} {s : Sx}, I xs s → (∀ x rest s, I (x :: rest) s → ∃ s', f x s = some (.nx s') ∧ I rest s') → ∃ s', forC f xs s = some (.nx s') ∧ I [] s'
  | [], s, h, _ => ⟨s, rfl, h⟩
  | x :: xs, s, h, hs => by
    obtain ⟨s', e, h'⟩ := hs x xs s h
    obtain ⟨s2, e2, h2⟩ := forC_inv I h' hs
    refine ⟨s2, ?_, h2⟩
    unfold forC
    rw [e]
    exact e2
theorem forS_inv {β Sx : Type} {f : β → Sx → Option Sx} (I : List β → Sx → Prop) : ∀ {xs : List β} {s : Sx}, I xs s → (∀ x rest s, I (x :: rest) s → ∃ s', f x s = some s' ∧ I rest s') → ∃ s', forS f xs s = some s' ∧ I [] s'
  | [], s, h, _ => ⟨s, rfl, h⟩
  | x :: xs, s, h, hs => by
    obtain ⟨s', e, h'⟩ := hs x xs s h
    obtain ⟨s2, e2, h2⟩ := forS_inv I h' hs
    refine ⟨s2, ?_, h2⟩
    unfold forS
    rw [e]
    exact e2
/-- a loop as a fold -/
theorem forS_fold {β Sx : Type} {f : β → Sx → Option Sx} (g : Sx → β → Sx) (I : List β → Sx → Prop) : ∀ {xs : List β} {s : Sx}, I xs s → (∀ x rest s, I (x :: rest) s → f x s = some (g s x) ∧ I rest (g s x)) → forS f xs s = some (xs.foldl g s)
  | [], s, h, _ => rfl
  | x :: xs, s, h, hs => by
    obtain ⟨e, h'⟩ := hs x xs s h
    unfold forS
    rw [e]
    exact forS_fold g I h' hs
theorem forS_cons {β Sx : Type} {f : β → Sx → Option Sx} {x : β} {xs : List β} {s s' : Sx} (h : f x s = some s') : forS f (x :: xs) s = forS f xs s' := by
  show ((f x s).bind _) = _
  rw [h]
  rfl
theorem forC_cons {β Sx R : Type} {f : β → Sx → Option (Ctl Sx R)} {x : β} {xs : List β} {s s' : Sx} (h : f x s = some (.nx s')) : forC f (x :: xs) s = forC f xs s' := by
  show ((f x s).bind _) = _
  rw [h]
  rfl
/-- by places -/
theorem forS_ix {β Sx : Type} {f : β → Sx → Option Sx} {xs : List β} (P : Nat → Sx → Prop) {s : Sx} (h0 : P 0 s) (step : ∀ (i : Nat) (hi : i < xs.length) s, P i s → ∃ s', f xs[i] s = some s' ∧ P (i + 1) s') : ∃ s', forS f xs s = some s' ∧ P xs.length s' := by
  have key : ∀ (m i : Nat) (s : Sx), i + m = xs.length → P i s → ∃ s', forS f (xs.drop i) s = some s' ∧ P xs.length s' := by
    intro m
    induction m with
    | zero =>
      intro i s hi hp
      have e : i = xs.length := by omega
      subst e
      rw [List.drop_length]
      exact ⟨s, rfl, hp⟩
    | succ m ih =>
      intro i s hi hp
      have hl : i < xs.length := by omega
      obtain ⟨s', e, hp'⟩ := step i hl s hp
      obtain ⟨r, e2, h2⟩ := ih (i + 1) s' (by omega) hp'
      refine ⟨r, ?_, h2⟩
      rw [List.drop_eq_getElem_cons hl, forS_cons e]
      exact e2
  have := key xs.length 0 s (by omega) h0
  rwa [List.drop_zero] at this
theorem forC_ix {β Sx R : Type} {f : β → Sx → Option (Ctl Sx R)} {xs : List β} (P : Nat → Sx → Prop) {s : Sx} (h0 : P 0 s) (step : ∀ (i : Nat) (hi : i < xs.length) s, P i s → ∃ s', f xs[i] s = some (.nx s') ∧ P (i + 1) s') : ∃ s', forC f xs s = some (.nx s') ∧ P xs.length s' := by
  have key : ∀ (m i : Nat) (s : Sx), i + m = xs.length → P i s → ∃ s', forC f (xs.drop i) s = some (.nx s') ∧ P xs.length s' := by
    intro m
    induction m with
    | zero =>
      intro i s hi hp
      have e : i = xs.length := by omega
      subst e
      rw [List.drop_length]
      exact ⟨s, rfl, hp⟩
    | succ m ih =>
      intro i s hi hp
      have hl : i < xs.length := by omega
      obtain ⟨s', e, hp'⟩ := step i hl s hp
      obtain ⟨r, e2, h2⟩ := ih (i + 1) s' (by omega) hp'
      refine ⟨r, ?_, h2⟩
      rw [List.drop_eq_getElem_cons hl, forC_cons e]
      exact e2
  have := key xs.length 0 s (by omega) h0
  rwa [List.drop_zero] at this
/-- two loops over one list, turn by turn -/
theorem forS2_ix {β S1 S2 : Type} {f1 : β → S1 → Option S1} {f2 : β → S2 → Option S2} {xs : List β} (P : Nat → S1 → S2 → Prop) {s1 : S1} {s2 : S2} (h0 : P 0 s1 s2)
    (step : ∀ (i : Nat) (hi : i < xs.length) s1 s2, P i s1 s2 → ∃ s1' s2', f1 xs[i] s1 = some s1' ∧ f2 xs[i] s2 = some s2' ∧ P (i + 1) s1' s2') : ∃ r1 r2, forS f1 xs s1 = some r1 ∧ forS f2 xs s2 = some r2 ∧ P xs.length r1 r2 := by
  have key : ∀ (m i : Nat) (s1 : S1) (s2 : S2), i + m = xs.length → P i s1 s2 → ∃ r1 r2, forS f1 (xs.drop i) s1 = some r1 ∧ forS f2 (xs.drop i) s2 = some r2 ∧ P xs.length r1 r2 := by
    intro m
    induction m with
    | zero =>
      intro i s1 s2 hi hp
      have e : i = xs.length := by omega
      subst e
      rw [List.drop_length]
      exact ⟨s1, s2, rfl, rfl, hp⟩
    | succ m ih =>
      intro i s1 s2 hi hp
      have hl : i < xs.length := by omega
      obtain ⟨a, b, e1, e2, hp'⟩ := step i hl s1 s2 hp
      obtain ⟨r1, r2, h1, h2, h3⟩ := ih (i + 1) a b (by omega) hp'
      refine ⟨r1, r2, ?_, ?_, h3⟩
      · rw [List.drop_eq_getElem_cons hl, forS_cons e1]
        exact h1
      · rw [List.drop_eq_getElem_cons hl, forS_cons e2]
        exact h2
  have := key xs.length 0 s1 s2 (by omega) h0
  rwa [List.drop_zero] at this
theorem enumI_at {α : Type} (xs : List α) (i : Nat) (hi : i < (enumI xs).length) : (enumI xs)[i] = ((i : Int), xs[i]'(by simpa [enumI] using hi), ()) := by simp [enumI]
theorem whileS_inv {Sx : Type} {c : Sx → Option Bool} {f : Sx → Option Sx} (I : Sx → Prop) (μ : Sx → Nat) (step : ∀ s, I s → ∃ b, c s = some b ∧ (b = true → ∃ s', f s = some s' ∧ I s' ∧ μ s' < μ s)) :
    ∀ (n : Nat) {s : Sx}, I s → μ s < n → ∃ s', whileS c f n s = some s' ∧ I s' ∧ c s' = some false
  | 0, _, _, h => absurd h (Nat.not_lt_zero _)
  | n + 1, s, hI, hn => by
    obtain ⟨b, hb, hs⟩ := step s hI
    unfold whileS
    rw [hb]
    cases b with
    | false => exact ⟨s, rfl, hI, hb⟩
    | true =>
      obtain ⟨s', e, hI', hm⟩ := hs rfl
      obtain ⟨s2, e2, h2⟩ := whileS_inv I μ step n hI' (by omega)
      refine ⟨s2, ?_, h2⟩
      show ((f s).bind _) = _
      rw [e]
      exact e2
theorem whileF_inv {Sx : Type} {c : Sx → Option Bool} {f : Sx → Option Sx} (I : Sx → Prop) (μ : Sx → Nat) (step : ∀ s, I s → ∃ b, c s = some b ∧ (b = true → ∃ s', f s = some s' ∧ I s' ∧ μ s' < μ s)) {s : Sx} (h : I s) :
    ∃ s', whileF c f s = some s' ∧ I s' ∧ c s' = some false := by
  obtain ⟨s', e, h1, h2⟩ := whileS_inv I μ step (μ s + 1) h (Nat.lt_succ_self _)
  exact ⟨s', whileF_of e, h1, h2⟩
theorem cut_len {α : Type} (xs : List α) (lo hi : Option Int) : (cut xs lo hi).length ≤ xs.length := by
  unfold cut
  rw [List.length_take, List.length_drop]
  omega
theorem cut_mem {α : Type} {xs : List α} {lo hi : Option Int} {x : α} (h : x ∈ cut xs lo hi) : x ∈ xs := List.mem_of_mem_drop (List.mem_of_mem_take h)
theorem cut_from {α : Type} (xs : List α) (k : Nat) : cut xs (some (k : Int)) none = xs.drop k := by
  unfold cut
  rw [HT.sIx_nat, HT.sIx_none]
  by_cases h : k ≤ xs.length
  · rw [Nat.min_eq_left h, List.take_of_length_le (by rw [List.length_drop]; omega)]
  · rw [Nat.min_eq_right (by omega), List.drop_eq_nil_of_le (Nat.le_refl _), List.drop_eq_nil_of_le (show xs.length ≤ k by omega)]
    exact List.take_nil
theorem cut_to {α : Type} (xs : List α) (k : Nat) : cut xs none (some (k : Int)) = xs.take k := by
  unfold cut
  rw [HT.sIx_nat, HT.sIx_none, List.drop_zero, Nat.sub_zero]
  by_cases h : k ≤ xs.length
  · rw [Nat.min_eq_left h]
  · rw [Nat.min_eq_right (by omega), List.take_of_length_le (Nat.le_refl _), List.take_of_length_le (by omega)]
theorem rngO_ok {lo hi : Int} (h1 : -1000000000000 ≤ lo) (h2 : lo ≤ 1000000000000) (h3 : -1000000000000 ≤ hi) (h4 : hi ≤ 1000000000000) : rngO lo hi = some (irange lo hi) := if_pos ⟨h1, h2, h3, h4⟩
theorem irange_len (lo hi : Int) : (irange lo hi).length = (hi - lo).toNat := by simp [irange]
theorem enumI_len {α : Type} (xs : List α) : (enumI xs).length = xs.length := by simp [enumI]
theorem lcM_len {β γ : Type} {c : β → Option Bool} {f : β → Option γ} {xs : List β} (h : xs.length < 1000000) : lcM c f xs = lcGo c f xs := if_pos h
theorem lcGo_all {β γ : Type} {f : β → Option γ} (g : β → γ) : ∀ {xs : List β}, (∀ x ∈ xs, f x = some (g x)) → lcGo (fun _ => some true) f xs = some (xs.map g)
  | [], _ => rfl
  | x :: xs, h => by
    unfold lcGo
    show ((f x).bind _) = _
    rw [h x List.mem_cons_self, lcGo_all g fun y hy => h y (List.mem_cons_of_mem _ hy)]
    rfl
theorem lcGo_if {β γ : Type} {c : β → Option Bool} {f : β → Option γ} (p : β → Bool) (g : β → γ) : ∀ {xs : List β}, (∀ x ∈ xs, c x = some (p x)) → (∀ x ∈ xs, p x = true → f x = some (g x)) → lcGo c f xs = some ((xs.filter p).map g)
  | [], _, _ => rfl
  | x :: xs, hc, h => by
    unfold lcGo
    rw [hc x List.mem_cons_self]
    have ih := lcGo_if p g (xs := xs) (fun y hy => hc y (List.mem_cons_of_mem _ hy)) (fun y hy => h y (List.mem_cons_of_mem _ hy))
    cases e : p x with
    | true =>
      show ((f x).bind _) = _
      rw [h x List.mem_cons_self e, ih, List.filter_cons_of_pos e]
      rfl
    | false =>
      show lcGo c f xs = _
      rw [ih, List.filter_cons_of_neg (by rw [e]; exact Bool.false_ne_true)]
theorem lcM_all {β γ : Type} {f : β → Option γ} (g : β → γ) {xs : List β} (hl : xs.length < 1000000) (h : ∀ x ∈ xs, f x = some (g x)) : lcM (fun _ => some true) f xs = some (xs.map g) := by
  rw [lcM_len hl, lcGo_all g h]
/-- draws, one an item -/
theorem lcSGo_inv {β γ Sx : Type} {f : β → Sx → Option (γ × Sx)} (I : Sx → Prop) (P : γ → Prop) (step : ∀ x s, I s → ∃ z s', f x s = some (z, s') ∧ I s' ∧ P z) :
    ∀ {xs : List β} {s : Sx}, I s → ∃ zs s', lcSGo f xs s = some (zs, s') ∧ I s' ∧ zs.length = xs.length ∧ ∀ z ∈ zs, P z
  | [], s, h => ⟨[], s, rfl, h, rfl, fun _ hz => nomatch hz⟩
  | x :: xs, s, h => by
    obtain ⟨z, s', e, h', hp⟩ := step x s h
    obtain ⟨zs, s2, e2, h2, hl, hz⟩ := lcSGo_inv I P step (xs := xs) h'
    refine ⟨z :: zs, s2, ?_, h2, by rw [List.length_cons, List.length_cons, hl], fun y hy => ?_⟩
    · unfold lcSGo
      rw [e]
      show ((lcSGo f xs s').bind _) = _
      rw [e2]
      rfl
    · rcases List.mem_cons.mp hy with rfl | hy
      · exact hp
      · exact hz y hy
theorem lcS_inv {β γ Sx : Type} {f : β → Sx → Option (γ × Sx)} (I : Sx → Prop) (P : γ → Prop) (step : ∀ x s, I s → ∃ z s', f x s = some (z, s') ∧ I s' ∧ P z) {xs : List β} {s : Sx} (hl : xs.length < 1000000) (h : I s) :
    ∃ zs s', lcS f xs s = some (zs, s') ∧ I s' ∧ zs.length = xs.length ∧ ∀ z ∈ zs, P z := by
  unfold lcS
  rw [if_pos hl]
  exact lcSGo_inv I P step h
theorem forS_app {β γ : Type} {f : β → List γ → Option (List γ)} (g : β → γ) : ∀ {xs : List β} {s : List γ}, s.length + xs.length ≤ 1000000 → (∀ x ∈ xs, ∀ s : List γ, s.length < 1000000 → f x s = some (s ++ [g x])) → forS f xs s = some (s ++ xs.map g)
  | [], s, _, _ => by rw [List.map_nil, List.append_nil]; rfl
  | x :: xs, s, hl, h => by
    rw [List.length_cons] at hl
    rw [forS_cons (h x List.mem_cons_self s (by omega)), forS_app g (by rw [List.length_append, List.length_singleton]; omega) fun y hy => h y (List.mem_cons_of_mem _ hy), List.map_cons, List.append_assoc]
    rfl
theorem enumI_mem {α : Type} [Rp α] {xs : List α} {y : Int × α × Unit} (h : y ∈ enumI xs) : ∃ (i : Nat) (x : α), xs[i]? = some x ∧ y = ((i : Int), x, ()) := by
  obtain ⟨i, hi⟩ := List.getElem?_of_mem h
  obtain ⟨x, hx, e⟩ := enum_get hi
  exact ⟨i, x, hx, e⟩
theorem zipI_mem {α β : Type} [Rp α] [Rp β] {xs : List α} {ys : List β} {z : α × β × Unit} (h : z ∈ zipI xs ys) : ∃ (i : Nat) (x : α) (y : β), xs[i]? = some x ∧ ys[i]? = some y ∧ z = (x, y, ()) := by
  obtain ⟨i, hi⟩ := List.getElem?_of_mem h
  obtain ⟨x, y, hx, hy, e⟩ := zip_get hi
  exact ⟨i, x, y, hx, hy, e⟩
/-! texts -/
theorem len_app (x y : Str) : (x ++ y).length = x.length + y.length := by
  show (x.cps ++ y.cps).size = _
  rw [Array.size_append]
  rfl
theorem ok_app {x y : Str} (hx : PyData.strOk x = true) (hy : PyData.strOk y = true) : PyData.strOk (x ++ y) = true := by
  show (x.cps ++ y.cps).all _ = true
  rw [Array.all_append]
  exact Bool.and_eq_true_iff.mpr ⟨hx, hy⟩
theorem ok_join {s : Str} (hs : PyData.strOk s = true) : ∀ {ys : List Str}, (∀ y ∈ ys, PyData.strOk y = true) → PyData.strOk (Str.join s ys) = true
  | [], _ => by
    unfold Str.join
    decide +kernel
  | [x], h => h x List.mem_cons_self
  | x :: y :: r, h => ok_app (ok_app (h x List.mem_cons_self) hs) (ok_join hs fun z hz => h z (List.mem_cons_of_mem _ hz))
theorem joinO_ok {s : Str} {ys : List Str} (h : (ys.map (·.length)).sum + ys.length * s.length ≤ 1000000) : joinO s ys = some (Str.join s ys) := by
  unfold joinO
  rw [if_pos h, TL.join_eq]
/-- a sign of a written text -/
theorem ixS_ok {s : Str} {i : Int} (hl : s.length ≤ 100000) (h0 : 0 ≤ i) (h : i < (s.length : Int)) (hs : PyData.strOk s = true) : ∃ c, ixS s i = some ⟨#[c]⟩ ∧ PyData.strOk ⟨#[c]⟩ = true ∧ (⟨#[c]⟩ : Str).length = 1 := by
  have hl2 : s.cps.toList.length = s.length := Array.length_toList
  obtain ⟨c, e, e2⟩ := atI_some (xs := s.cps.toList) h0 (by rw [hl2]; exact h)
  refine ⟨c, ?_, ?_, rfl⟩
  · unfold ixS
    rw [if_pos hl, e]
    rfl
  · have hm : c ∈ s.cps := Array.mem_toList_iff.mp (List.mem_of_getElem? e2)
    have := Array.all_eq_true'.mp hs c hm
    show (#[c] : Array Nat).all _ = true
    simpa using this
/-! dicts, and more -/
theorem cut_init {α : Type} (xs : List α) : cut xs none (some (-(1 : Int))) = xs.dropLast := by
  unfold cut
  rw [HT.sIx_none, List.drop_zero, Nat.sub_zero, List.dropLast_eq_take]
  have e : HT.sIx xs.length xs.length (some (-(1 : Int))) = (-(1 : Int) + (xs.length : Int)).toNat := rfl
  rw [e]
  congr 1
  omega
theorem mem_irange {x a b : Int} : x ∈ irange a b ↔ a ≤ x ∧ x < b := by
  unfold irange
  rw [List.mem_map]
  constructor
  · rintro ⟨k, hk, rfl⟩
    rw [List.mem_range] at hk
    omega
  · intro h
    exact ⟨(x - a).toNat, List.mem_range.mpr (by omega), by omega⟩
section
variable {κ β : Type} [DecidableEq κ]
theorem getD_pos {p : κ × β} {r : List (κ × β)} {k : κ} (e : p.1 = k) : getD (p :: r) k = some p.2 := by simp [getD, List.find?_cons, e]
theorem getD_neg {p : κ × β} {r : List (κ × β)} {k : κ} (e : ¬ p.1 = k) : getD (p :: r) k = getD r k := by simp [getD, List.find?_cons, e]
theorem getD_map (k j : κ) (y : β) : ∀ kvs : List (κ × β), getD (kvs.map fun kv => if kv.1 = k then (kv.1, y) else kv) j = (getD kvs j).map fun x => if j = k then y else x
  | [] => rfl
  | p :: r => by
    rw [List.map_cons]
    have ih := getD_map k j y r
    by_cases a : p.1 = k
    · rw [if_pos a]
      by_cases b : p.1 = j
      · rw [getD_pos (p := (p.1, y)) b, getD_pos b, Option.map_some, if_pos (b.symm.trans a)]
      · rw [getD_neg (p := (p.1, y)) b, getD_neg b, ih]
    · rw [if_neg a]
      by_cases b : p.1 = j
      · rw [getD_pos b, getD_pos b, Option.map_some, if_neg (fun z => a (b.trans z))]
      · rw [getD_neg b, getD_neg b, ih]
theorem getD_snoc (k j : κ) (y : β) : ∀ kvs : List (κ × β), getD kvs k = none → getD (kvs ++ [(k, y)]) j = if j = k then some y else getD kvs j
  | [], _ => by
    by_cases e : k = j
    · rw [List.nil_append, getD_pos (p := (k, y)) e, if_pos e.symm]
    · rw [List.nil_append, getD_neg (p := (k, y)) e, if_neg (Ne.symm e)]
  | p :: r, h => by
    have hk : ¬ p.1 = k := fun e => by rw [getD_pos e] at h; cases h
    rw [getD_neg hk] at h
    have ih := getD_snoc k j y r h
    rw [List.cons_append]
    by_cases e : p.1 = j
    · rw [getD_pos e, getD_pos e, if_neg (fun z => hk (e.trans z))]
    · rw [getD_neg e, getD_neg e, ih]
theorem getD_put (kvs : List (κ × β)) (k j : κ) (y : β) : getD (putD kvs k y) j = if j = k then some y else getD kvs j := by
  unfold putD
  by_cases a : (getD kvs k).isSome = true
  · rw [if_pos a, getD_map]
    by_cases e : j = k
    · obtain ⟨x, hx⟩ := Option.isSome_iff_exists.mp a
      rw [if_pos e, e, hx, Option.map_some, if_pos rfl]
    · rw [if_neg e]
      cases getD kvs j with
      | none => rfl
      | some x => rw [Option.map_some, if_neg e]
  · rw [if_neg a]
    refine getD_snoc k j y kvs ?_
    cases q : getD kvs k with
    | none => rfl
    | some x => rw [q] at a; exact (a rfl).elim
theorem len_put (kvs : List (κ × β)) (k : κ) (y : β) : (putD kvs k y).length ≤ kvs.length + 1 := by
  unfold putD
  split
  · rw [List.length_map]; omega
  · rw [List.length_append, List.length_cons, List.length_nil]; omega
theorem putO_ok {d : Dc κ β} {k : κ} {y : β} (h : d.l.length < 1000000) : putO d k y = some ⟨putD d.l k y⟩ := if_pos h
end
theorem forC_any {β R : Type} {f : β → Unit → Option (Ctl Unit R)} {r : R} (p : β → Bool) : ∀ {xs : List β}, (∀ x ∈ xs, f x () = some (if p x = true then .rt r else .nx ())) → forC f xs () = some (if xs.any p = true then .rt r else .nx ())
  | [], _ => rfl
  | x :: xs, h => by
    have hx := h x List.mem_cons_self
    cases e : p x with
    | true =>
      rw [e] at hx
      show ((f x ()).bind _) = _
      rw [hx, List.any_cons, e]
      rfl
    | false =>
      rw [e] at hx
      rw [forC_cons (s' := ()) hx, forC_any p fun y hy => h y (List.mem_cons_of_mem _ hy), List.any_cons, e]
      rfl
end Wk
/-! k08: the plain law -/
namespace Wk08
open PySem L2 Wk
/-! data of any kind -/
def okn (d : PyData) (n : Nat) : Prop := d.canLay0 = true ∧ d.depth ≤ n
theorem okn.mono {d : PyData} {n m : Nat} (h : okn d n) (l : n ≤ m) : okn d m := ⟨h.1, Nat.le_trans h.2 l⟩
theorem okn_int (i : Int) (n : Nat) : okn (.int i) n := ⟨by simp only [PyData.canLay0], by simp only [PyData.depth]; exact Nat.zero_le _⟩
theorem okn_str {s : Str} (h : PyData.strOk s = true) (n : Nat) : okn (.str s) n := ⟨by simp only [PyData.canLay0, h], by simp only [PyData.depth]; exact Nat.zero_le _⟩
theorem okn_tup {ds : List PyData} {n : Nat} (h : ∀ d ∈ ds, okn d n) : okn (.tuple ds) (n + 1) := by
  have h1 : PyData.canLayAll0 ds = true := by
    induction ds with
    | nil => rfl
    | cons d ds ih =>
      simp only [PyData.canLayAll0, (h d List.mem_cons_self).1, ih fun e he => h e (List.mem_cons_of_mem _ he), Bool.and_self]
  have h2 : PyData.depthAll ds ≤ n := by
    induction ds with
    | nil => exact Nat.zero_le _
    | cons d ds ih =>
      simp only [PyData.depthAll]
      refine Nat.max_le.mpr ⟨(h d List.mem_cons_self).2, ih (fun e he => h e (List.mem_cons_of_mem _ he)) ?_⟩
      simp only [PyData.canLayAll0, Bool.and_eq_true] at h1
      exact h1.2
  exact ⟨by simp only [PyData.canLay0, h1], by simp only [PyData.depth]; omega⟩
theorem okn_cons {d : PyData} {ds : List PyData} {n : Nat} (h : okn d n) (hs : ∀ e ∈ ds, okn e n) : ∀ e ∈ d :: ds, okn e n := fun e he => by
  rcases List.mem_cons.mp he with rfl | he
  · exact h
  · exact hs e he
theorem okn_nil {n : Nat} : ∀ e ∈ ([] : List PyData), okn e n := fun _ h => nomatch h
theorem okn_shaped {d : PyData} {n : Nat} (h : okn d n) (l : n ≤ 64) : SeqAt.shaped d = true := by
  unfold SeqAt.shaped
  rw [h.1, decide_eq_true (Nat.le_trans h.2 l)]
  rfl
theorem eqY_self {d : PyData} {n : Nat} (h : okn d n) (l : n ≤ 64) : eqYO ⟨d⟩ ⟨d⟩ = some true := by
  unfold eqYO
  rw [if_pos ⟨okn_shaped h l, okn_shaped h l⟩]
  exact congrArg some (SeqAt.eqv_refl d h.1)
theorem ofTu (ds : List PyData) : (ofD ⟨.tuple ds⟩ : Option (Tu Dy)) = some ⟨ds.map Dy.mk⟩ := by
  have : ofAll (α := Dy) ds = some (ds.map Dy.mk) := by
    induction ds with
    | nil => rfl
    | cons d ds ih =>
      show (some (Dy.mk d)).bind (fun x => (ofAll ds).bind fun xs => some (x :: xs)) = _
      rw [ih]
      rfl
  show (ofAll (α := Dy) ds).map Tu.mk = _
  rw [this]
  rfl
theorem ofTu2 (ds : List (PyData × PyData)) : (ofD ⟨.tuple (ds.map fun p => .tuple [p.1, p.2])⟩ : Option (Tu (Dy × Dy × Unit))) = some ⟨ds.map fun p => (⟨p.1⟩, ⟨p.2⟩, ())⟩ := by
  have : ofAll (α := Dy × Dy × Unit) (ds.map fun p => .tuple [p.1, p.2]) = some (ds.map fun p => (⟨p.1⟩, ⟨p.2⟩, ())) := by
    induction ds with
    | nil => rfl
    | cons d ds ih =>
      rw [List.map_cons]
      show (some ((⟨d.1⟩, ⟨d.2⟩, ()) : Dy × Dy × Unit)).bind (fun x => (ofAll _).bind fun xs => some (x :: xs)) = _
      rw [ih]
      rfl
  show (ofAll (α := Dy × Dy × Unit) _).map Tu.mk = _
  rw [this]
  rfl
theorem of2 (a b : PyData) : (ofD ⟨.tuple [a, b]⟩ : Option (Dy × Dy × Unit)) = some (⟨a⟩, ⟨b⟩, ()) := rfl
theorem of3 (a b c : PyData) : (ofD ⟨.tuple [a, b, c]⟩ : Option (Dy × Dy × Dy × Unit)) = some (⟨a⟩, ⟨b⟩, ⟨c⟩, ()) := rfl
theorem of4 (a b c d : PyData) : (ofD ⟨.tuple [a, b, c, d]⟩ : Option (Dy × Dy × Dy × Dy × Unit)) = some (⟨a⟩, ⟨b⟩, ⟨c⟩, ⟨d⟩, ()) := rfl
theorem of5 (a b c d e : PyData) : (ofD ⟨.tuple [a, b, c, d, e]⟩ : Option (Dy × Dy × Dy × Dy × Dy × Unit)) = some (⟨a⟩, ⟨b⟩, ⟨c⟩, ⟨d⟩, ⟨e⟩, ()) := rfl
theorem ofS (s : Str) : (ofD ⟨.str s⟩ : Option Str) = some s := rfl
theorem ofI (i : Int) : (ofD ⟨.int i⟩ : Option Int) = some i := rfl
theorem at2_0 {α : Type} (a b : α) : atI [a, b] (0 : Int) = some a := rfl
theorem at2_1 {α : Type} (a b : α) : atI [a, b] (1 : Int) = some b := rfl
theorem at3_0 {α : Type} (a b c : α) : atI [a, b, c] (0 : Int) = some a := rfl
theorem at3_1 {α : Type} (a b c : α) : atI [a, b, c] (1 : Int) = some b := rfl
theorem at3_2 {α : Type} (a b c : α) : atI [a, b, c] (2 : Int) = some c := rfl
theorem at4_0 {α : Type} (a b c d : α) : atI [a, b, c, d] (0 : Int) = some a := rfl
theorem at4_1 {α : Type} (a b c d : α) : atI [a, b, c, d] (1 : Int) = some b := rfl
theorem at4_2 {α : Type} (a b c d : α) : atI [a, b, c, d] (2 : Int) = some c := rfl
theorem at4_3 {α : Type} (a b c d : α) : atI [a, b, c, d] (3 : Int) = some d := rfl
theorem at5_4 {α : Type} (a b c d e : α) : atI [a, b, c, d, e] (4 : Int) = some e := rfl
theorem mapD (ds : List PyData) : (ds.map Dy.mk).map Ud.toD = ds := by
  rw [List.map_map]
  exact List.map_id _
theorem lcGo_pair {β γ : Type} {f : β → Option γ} {xs : List β} {ys : List γ} (h : Paired (fun x y => f x = some y) xs ys) : lcGo (fun _ => some true) f xs = some ys := by
  induction h with
  | nil => rfl
  | @cons x y xs ys h _ ih =>
    show (f x).bind (fun z => (lcGo _ f xs).bind fun zs => some (z :: zs)) = _
    rw [h, bs, ih]
    rfl
theorem lcM_pair {β γ : Type} {f : β → Option γ} {xs : List β} {ys : List γ} (hl : xs.length < 1000000) (h : Paired (fun x y => f x = some y) xs ys) : lcM (fun _ => some true) f xs = some ys := by
  unfold lcM
  rw [if_pos hl, lcGo_pair h]
theorem Paired.map2 {α β γ δ : Type} {R : α → β → Prop} {S : γ → δ → Prop} {f : α → γ} {g : β → δ} (hf : ∀ a b, R a b → S (f a) (g b)) : ∀ {xs : List α} {ys : List β}, Paired R xs ys → Paired S (xs.map f) (ys.map g)
  | _, _, .nil => .nil
  | _, _, .cons h t => .cons (hf _ _ h) (Paired.map2 hf t)
theorem Paired.flip {α β : Type} {R : α → β → Prop} {S : β → α → Prop} (hf : ∀ a b, R a b → S b a) : ∀ {xs : List α} {ys : List β}, Paired R xs ys → Paired S ys xs
  | _, _, .nil => .nil
  | _, _, .cons h t => .cons (hf _ _ h) (Paired.flip hf t)
theorem Paired.memL {α β : Type} {R : α → β → Prop} : ∀ {xs : List α} {ys : List β}, Paired R xs ys → ∀ x ∈ xs, ∃ y ∈ ys, R x y
  | _, _, .cons h t, x, hx => by
    rcases List.mem_cons.mp hx with rfl | hx
    · exact ⟨_, List.mem_cons_self, h⟩
    · obtain ⟨y, h1, h2⟩ := Paired.memL t x hx
      exact ⟨y, List.mem_cons_of_mem _ h1, h2⟩
/-! draws of a stream -/
def Good (st : List Int) : Prop := ∃ d s, st = [d, s]
theorem take_ok {st : List Int} {many : Int} (g : Good st) (h : 0 < many) (h2 : many < 1073741824) : ∃ r st', m__law_take st many = some (r, st') ∧ 0 ≤ r ∧ r < many ∧ Good st' := by
  obtain ⟨d, s, rfl⟩ := g
  unfold m__law_take
  have x0 : atI [d, s] (0 : Int) = some d := rfl
  have y0 : ∀ z : Int, setI [d, s] (0 : Int) z = some [z, s] := fun _ => rfl
  have y1 : ∀ z : Int, setI [d, s] (1 : Int) z = some [d, z] := fun _ => rfl
  have x1 : ∀ z : Int, atI [d, z] (1 : Int) = some z := fun _ => rfl
  simp only [x0, bs]
  by_cases hd : 0 < d
  · rw [if_pos (decide_eq_true hd), modO_ok h]
    simp only [bs]
    rw [divO_ok h (by omega)]
    simp only [bs, y0]
    exact ⟨_, _, rfl, Int.emod_nonneg _ (by omega), Int.emod_lt_of_pos _ h, _, _, rfl⟩
  · rw [if_neg (by simpa using hd)]
    simp only [x1, y1, bs]
    rw [modO_ok h]
    simp only [bs]
    exact ⟨_, _, rfl, Int.emod_nonneg _ (by omega), Int.emod_lt_of_pos _ h, _, _, rfl⟩
theorem stream_ok {ns : List Int} (hl : ns.length ≤ 63) : ∃ st, m__law_stream (Fz.mk ns) = some st ∧ Good st := by
  unfold m__law_stream
  simp only [bs]
  obtain ⟨s', e, _⟩ := forS_inv (f := m__law_stream_L1) (fun _ _ => True) (xs := cut ns none (some 63)) (s := 7) trivial (fun x rest s _ => ⟨_, by unfold m__law_stream_L1; exact rfl, trivial⟩)
  rw [e]
  simp only [bs]
  by_cases h1 : 1 < (ns.length : Int)
  · obtain ⟨a, ea, _⟩ := atI_some (xs := ns) (i := 0) (by omega) (by omega)
    obtain ⟨b, eb, _⟩ := atI_some (xs := ns) (i := 1) (by omega) (by omega)
    rw [decide_eq_true h1]
    simp only [ea, bs, if_true]
    by_cases h2 : a % 2 = 0
    · rw [decide_eq_true h2]
      simp only [if_true, eb, bs]
      exact ⟨_, rfl, _, _, rfl⟩
    · rw [decide_eq_false h2]
      simp only [Bool.false_eq_true, if_false, bs]
      exact ⟨_, rfl, _, _, rfl⟩
  · rw [decide_eq_false h1]
    simp only [Bool.false_eq_true, if_false, bs]
    exact ⟨_, rfl, _, _, rfl⟩
/-- a row of draws -/
theorem takes_ok {β : Type} {xs : List β} {st : List Int} {top : Int} {f : β → List Int → Option (Int × List Int)} (hf : ∀ x st, f x st = (m__law_take st top).bind fun p => some (p.1, p.2)) (hl : xs.length < 1000000) (g : Good st) (h : 0 < top) (h2 : top < 1073741824) :
    ∃ zs st', lcS f xs st = some (zs, st') ∧ Good st' ∧ zs.length = xs.length ∧ ∀ z ∈ zs, 0 ≤ z ∧ z < top :=
  lcS_inv Good (fun z => 0 ≤ z ∧ z < top) (fun x s hs => by
    obtain ⟨r, st', e, h1, h2, g'⟩ := take_ok hs h h2
    exact ⟨r, st', by rw [hf, e, bs], g', h1, h2⟩) hl g
/-! names that are drawn, none twice -/
def alpha : Str := "abcdefghijklmnopqrstuvwxyz"
theorem alpha_at : ∀ i : Fin 26, alpha.cps[i.val]? = some (97 + i.val) := by decide +kernel
theorem alpha_size : alpha.cps.size = 26 := by decide +kernel
theorem letter (i : Int) : ixS alpha (i % 26) = some ⟨#[97 + (i % 26).toNat]⟩ := by
  have h1 : 0 ≤ i % 26 := by omega
  have h2 : i % 26 < 26 := by omega
  have hl : alpha.length = 26 := alpha_size
  unfold ixS
  rw [if_pos (by rw [hl]; omega), atI_ok h1 (by rw [Array.length_toList, alpha_size]; omega)]
  have e : alpha.cps.toList[(i % 26).toNat]? = some (97 + (i % 26).toNat) := by
    rw [Array.getElem?_toList]
    exact alpha_at ⟨(i % 26).toNat, by omega⟩
  rw [e]
  rfl
theorem ok_letter (i : Int) : PyData.strOk ⟨#[97 + (i % 26).toNat]⟩ = true := by
  have : ∀ k : Fin 26, PyData.strOk ⟨#[97 + k.val]⟩ = true := by decide +kernel
  exact this ⟨(i % 26).toNat, by omega⟩
theorem addS_ok {x y : Str} (h : x.length + y.length ≤ 1000000) : addS x y = some (x ++ y) := if_pos h
theorem cut4 {z : Str} (h : PyData.strOk z = true) (hl : z.length ≤ 1000) : ∃ r, cutSO z none (some (4 : Int)) = some r ∧ PyData.strOk r = true ∧ r.length ≤ 4 := by
  refine ⟨cutS z none (some 4), if_pos (by omega), ?_, ?_⟩
  · have hz := Array.all_eq_true'.mp h
    show ((cutS z none (some 4)).cps).all _ = true
    unfold cutS
    refine Array.all_eq_true'.mpr fun x hx => hz x ?_
    have hx := List.mem_of_mem_drop (List.mem_of_mem_take (Array.mem_toList_iff.mpr hx))
    exact Array.mem_toList_iff.mp hx
  · show ((cutS z none (some 4)).cps).size ≤ 4
    unfold cutS
    show (List.take _ _).toArray.size ≤ 4
    rw [List.size_toArray, List.length_take]
    have e : HT.sIx z.length z.length (some ((4 : Nat) : Int)) = min 4 z.length := HT.sIx_nat _ _ _
    have e' : HT.sIx z.length z.length (some (4 : Int)) = min 4 z.length := e
    omega
theorem nodup_le {α : Type} [DecidableEq α] : ∀ {l m : List α}, l.Nodup → (∀ x ∈ l, x ∈ m) → l.length ≤ m.length
  | [], _, _, _ => Nat.zero_le _
  | a :: t, m, hn, hs => by
    rw [List.nodup_cons] at hn
    have ha := hs a List.mem_cons_self
    have := nodup_le (l := t) (m := m.erase a) hn.2 fun x hx => (List.mem_erase_of_ne (fun z => hn.1 (by rw [← z]; exact hx))).mpr (hs x (List.mem_cons_of_mem _ hx))
    rw [List.length_erase_of_mem ha] at this
    have : 0 < m.length := List.length_pos_of_mem ha
    rw [List.length_cons]
    omega
def hd (k : Int) (i : Nat) : Nat := 97 + ((k + 7 * (i : Int)) % 26).toNat
theorem heads {k : Int} {ns : List Str} {m : Nat} (hm : m ≤ 26) (h : ∀ i, i < m → ∃ n ∈ ns, n.cps[0]? = some (hd k i)) : m ≤ ns.length := by
  have := nodup_le (l := (List.range m).map (hd k)) (m := ns.map fun n => (n.cps[0]?).getD 0) (by
    show List.Pairwise (· ≠ ·) _
    rw [List.pairwise_map]
    refine List.Pairwise.imp_of_mem ?_ List.pairwise_lt_range
    intro a b ha hb hab
    rw [List.mem_range] at ha hb
    unfold hd
    omega) (fun x hx => by
    obtain ⟨i, hi, rfl⟩ := List.mem_map.mp hx
    rw [List.mem_range] at hi
    obtain ⟨n, hn, e⟩ := h i hi
    exact List.mem_map.mpr ⟨n, hn, by rw [e]; rfl⟩)
  rwa [List.length_map, List.length_map, List.length_range] at this
structure NI (k : Int) (ns : List Str) (s : Str × Int) (j : Nat) : Prop where
  turn : s.2 = k + 7 * (j : Int)
  ok : PyData.strOk s.1 = true
  len : s.1.length ≤ 8
  head : 1 ≤ j → s.1.cps[0]? = some (hd k (j - 1))
  met : ∀ i, i + 1 < j → ∃ n ∈ ns, n.cps[0]? = some (hd k i)
  few : j ≤ ns.length + 1
theorem unlike_ok {k : Int} {ns : List Str} (hns : ns.length ≤ 20) {n0 : Str} (h0 : PyData.strOk n0 = true) (hl : n0.length ≤ 8) :
    ∃ n t, whileF (m__law_names_L3_c alpha ns) (m__law_names_L3 alpha ns) (n0, k) = some (n, t) ∧ PyData.strOk n = true ∧ n.length ≤ 8 ∧ n ∉ ns := by
  obtain ⟨⟨n, t⟩, e, ⟨j, hi⟩, hc⟩ := whileF_inv (c := m__law_names_L3_c alpha ns) (f := m__law_names_L3 alpha ns) (fun s => ∃ j, NI k ns s j) (fun s => (k + 7 * ((ns.length : Int) + 1) - s.2).toNat) (fun s hs => by
    obtain ⟨n, t⟩ := s
    obtain ⟨j, hi⟩ := hs
    refine ⟨_, rfl, fun hb => ?_⟩
    have et : t = k + 7 * (j : Int) := hi.turn
    have hok : PyData.strOk n = true := hi.ok
    have hlen : n.length ≤ 8 := hi.len
    rw [Bool.or_eq_true, decide_eq_true_eq, decide_eq_true_eq] at hb
    have hm : 1 ≤ j → n ∈ ns := fun hj => by
      rcases hb with hb | hb
      · exact hb
      · have := hi.head hj
        have : n.cps[0]? = some (hd k (j - 1)) := this
        rw [hb] at this
        cases this
    have met' : ∀ i, i < j → ∃ n ∈ ns, n.cps[0]? = some (hd k i) := fun i hij => by
      by_cases h : i + 1 < j
      · exact hi.met i h
      · have : i = j - 1 := by omega
        subst this
        exact ⟨n, hm (by omega), hi.head (by omega)⟩
    have hj : j ≤ ns.length := by
      have := hi.few
      exact heads (by omega) met'
    obtain ⟨c4, e4, o4, l4⟩ := cut4 hok (by omega)
    have e1 : lenS n = some (n.length : Int) := if_pos (by omega)
    have hsz1 : ∀ i : Int, (⟨#[97 + (i % 26).toNat]⟩ : Str).length = 1 := fun _ => rfl
    refine ⟨((⟨#[97 + (t % 26).toNat]⟩ ++ ⟨#[97 + ((t / 26 + (n.length : Int)) % 26).toNat]⟩) ++ c4, t + 7), ?_, ⟨j + 1, ?_⟩, ?_⟩
    · unfold m__law_names_L3
      simp only [e1, bs, letter, e4]
      rw [addS_ok (by rw [hsz1, hsz1]; omega)]
      simp only [bs]
      rw [addS_ok (by rw [len_app, hsz1, hsz1]; omega)]
      simp only [bs]
    · refine ⟨by show t + 7 = _; omega, ok_app (ok_app (ok_letter _) (ok_letter _)) o4, ?_, fun _ => ?_, fun i hij => met' i (by omega), by omega⟩
      · show ((_ ++ _) ++ c4 : Str).length ≤ 8
        rw [len_app, len_app, hsz1, hsz1]
        omega
      · show ((#[97 + (t % 26).toNat] ++ #[97 + ((t / 26 + (n.length : Int)) % 26).toNat]) ++ c4.cps)[0]? = _
        rw [Array.getElem?_append_left (by rw [Array.size_append]; show 0 < 1 + 1; omega), Array.getElem?_append_left (by show 0 < 1; omega)]
        show some (97 + (t % 26).toNat) = some (hd k (j + 1 - 1))
        unfold hd
        rw [et, Nat.add_sub_cancel]
    · show (k + 7 * ((ns.length : Int) + 1) - (t + 7)).toNat < (k + 7 * ((ns.length : Int) + 1) - t).toNat
      omega) (s := (n0, k)) ⟨0, by show k = _; omega, h0, hl, fun h => absurd h (by omega), fun i h => absurd h (by omega), by omega⟩
  have hc : (decide (n ∈ ns) || decide (n = ("" : Str))) = false := Option.some.inj hc
  rw [Bool.or_eq_false_iff, decide_eq_false_iff_not] at hc
  exact ⟨n, t, e, hi.ok, hi.len, hc.1⟩
theorem names_ok {st : List Int} {many : Int} (g : Good st) (h0 : 0 ≤ many) (hm : many ≤ 15) : ∃ ns st', m__law_names st many = some (ns, st') ∧ Good st' ∧ ns.length = many.toNat ∧ (∀ n ∈ ns, PyData.strOk n = true ∧ n.length ≤ 8) ∧ ns.Nodup := by
  unfold m__law_names
  simp only [bs]
  rw [rngO_ok (by omega) (by omega) (by omega) (by omega)]
  simp only [bs]
  obtain ⟨⟨ns, st'⟩, e, h1, h2, h3, h5⟩ := forS_ix (f := m__law_names_L1 alpha) (xs := irange 0 many) (fun i (s : List Str × List Int) => s.1.length = i ∧ (∀ n ∈ s.1, PyData.strOk n = true ∧ n.length ≤ 8) ∧ Good s.2 ∧ s.1.Nodup) (s := ([], st)) ⟨rfl, (fun _ h => nomatch h), g, List.nodup_nil⟩ (fun i hi s hs => by
    obtain ⟨ns, st1⟩ := s
    obtain ⟨h1, h2, h3, h5⟩ := hs
    rw [irange_len] at hi
    have h1 : ns.length = i := h1
    generalize (irange 0 many)[i]'(by rw [irange_len]; exact hi) = k
    obtain ⟨r, st2, e2, r0, r1, g2⟩ := take_ok h3 (many := 8) (by omega) (by omega)
    unfold m__law_names_L1
    simp only [bs, e2]
    rw [rngO_ok (by omega) (by omega) (by omega) (by omega)]
    simp only [bs]
    obtain ⟨⟨n0, st3⟩, e3, q1, q2, q3⟩ := forS_ix (f := m__law_names_L2 alpha) (xs := irange 0 r) (fun i (s : Str × List Int) => s.1.length = i ∧ PyData.strOk s.1 = true ∧ Good s.2) (s := (("" : Str), st2)) ⟨rfl, (by decide +kernel : PyData.strOk ("" : Str) = true), g2⟩ (fun i hi s hs => by
      obtain ⟨n, st3⟩ := s
      obtain ⟨p1, p2, p3⟩ := hs
      have p1 : n.length = i := p1
      rw [irange_len] at hi
      obtain ⟨c, st4, e4, c0, c1, g4⟩ := take_ok p3 (many := 26) (by omega) (by omega)
      have el := letter c
      rw [Int.emod_eq_of_lt c0 c1] at el
      have eo := ok_letter c
      rw [Int.emod_eq_of_lt c0 c1] at eo
      refine ⟨(n ++ ⟨#[97 + c.toNat]⟩, st4), ?_, by show (n ++ _ : Str).length = _; rw [len_app, p1]; rfl, ok_app p2 eo, g4⟩
      unfold m__law_names_L2
      simp only [bs, e4, el]
      rw [addS_ok (by rw [p1]; show i + 1 ≤ _; omega)]
      simp only [bs])
    rw [irange_len] at q1
    have q1 : n0.length = (r - 0).toNat := q1
    rw [e3]
    simp only [bs]
    obtain ⟨n, t, e5, n5, l5, u5⟩ := unlike_ok (k := k) (ns := ns) (by omega) q2 (by omega)
    rw [e5]
    simp only [bs]
    rw [appO_ok (by omega)]
    refine ⟨_, rfl, by show (ns ++ [n]).length = _; rw [List.length_append, h1]; rfl, fun m hm => ?_, q3, ?_⟩
    · rcases List.mem_append.mp hm with hm | hm
      · exact h2 m hm
      · rw [List.mem_singleton.mp hm]
        exact ⟨n5, l5⟩
    · show (ns ++ [n]).Nodup
      rw [List.nodup_append]
      refine ⟨h5, by simp, fun a ha b hb => ?_⟩
      rw [List.mem_singleton.mp hb]
      exact fun z => u5 (z ▸ ha))
  have e' : forS (m__law_names_L1 ("abcdefghijklmnopqrstuvwxyz" : Str)) (irange 0 many) ([], st) = some (ns, st') := e
  rw [e']
  rw [irange_len] at h1
  exact ⟨ns, st', rfl, h3, by show ns.length = _; rw [show ns.length = (many - 0).toNat from h1, Int.sub_zero], h2, h5⟩
/-! numbers as texts -/
def dg (i : Int) : Str := Str.ofString (toString i)
theorem app_assoc (a b c : Str) : a ++ b ++ c = a ++ (b ++ c) := by
  show (⟨(a.cps ++ b.cps) ++ c.cps⟩ : Str) = ⟨a.cps ++ (b.cps ++ c.cps)⟩
  rw [Array.append_assoc]
theorem str_list {a b : Str} (h : a.cps.toList = b.cps.toList) : a = b := by
  obtain ⟨a⟩ := a
  obtain ⟨b⟩ := b
  exact congrArg Str.mk (Array.toList_inj.mp h)
theorem app_list (a b : Str) : (a ++ b).cps.toList = a.cps.toList ++ b.cps.toList := by
  show (a.cps ++ b.cps).toList = _
  rw [Array.toList_append]
theorem dg_nat (m : Nat) : (dg (m : Int)).cps.toList = (Nat.toDigits 10 m).map Char.toNat := PySem.W.KIN.signs_num m
theorem dg_neg (m : Nat) : (dg (Int.negSucc m)).cps.toList = 45 :: (Nat.toDigits 10 (m + 1)).map Char.toNat := by
  unfold dg
  rw [PyProof.Rows.signs_ofString]
  show ("-" ++ Nat.repr (m + 1)).toList.map Char.toNat = _
  rw [String.toList_append, List.map_append, Nat.toList_repr]
  rfl
theorem digit_chars {m c : Nat} (h : c ∈ (Nat.toDigits 10 m).map Char.toNat) : 48 ≤ c ∧ c ≤ 57 := by
  obtain ⟨ch, hch, rfl⟩ := List.mem_map.mp h
  exact PyProof.Rows.digit_range (Nat.isDigit_of_mem_toDigits (by decide) (by decide) hch)
theorem dg_chars {i : Int} {c : Nat} (h : c ∈ (dg i).cps.toList) : c = 45 ∨ (48 ≤ c ∧ c ≤ 57) := by
  cases i with
  | ofNat m =>
    rw [show Int.ofNat m = ((m : Nat) : Int) from rfl, dg_nat] at h
    exact .inr (digit_chars h)
  | negSucc m =>
    rw [dg_neg] at h
    rcases List.mem_cons.mp h with rfl | h
    · exact .inl rfl
    · exact .inr (digit_chars h)
theorem dg_inj {i j : Int} (h : dg i = dg j) : i = j := by
  have hl : (dg i).cps.toList = (dg j).cps.toList := congrArg (fun s : Str => s.cps.toList) h
  have back : ∀ {a b : Nat}, (Nat.toDigits 10 a).map Char.toNat = (Nat.toDigits 10 b).map Char.toNat → a = b := fun {a b} e => by
    have := congrArg PySem.NumText.digitsVal e
    rwa [PySem.W.KIN.val_back, PySem.W.KIN.val_back] at this
  have no : ∀ {a b : Nat}, (Nat.toDigits 10 a).map Char.toNat ≠ 45 :: (Nat.toDigits 10 b).map Char.toNat := fun {a b} e => by
    have := digit_chars (m := a) (c := 45) (by rw [e]; exact List.mem_cons_self)
    omega
  cases i with
  | ofNat a =>
    cases j with
    | ofNat b =>
      rw [show Int.ofNat a = ((a : Nat) : Int) from rfl, show Int.ofNat b = ((b : Nat) : Int) from rfl, dg_nat, dg_nat] at hl
      rw [back hl]
    | negSucc b =>
      rw [show Int.ofNat a = ((a : Nat) : Int) from rfl, dg_nat, dg_neg] at hl
      exact (no hl).elim
  | negSucc a =>
    cases j with
    | ofNat b =>
      rw [show Int.ofNat b = ((b : Nat) : Int) from rfl, dg_nat, dg_neg] at hl
      exact (no hl.symm).elim
    | negSucc b =>
      rw [dg_neg, dg_neg] at hl
      have := back (List.cons.inj hl).2
      have e : a = b := by omega
      rw [e]
theorem dg_len {i : Int} (h0 : -1000000000 < i) (h1 : i < 1000000000) : (dg i).length ≤ 10 := by
  unfold dg
  rw [PySem.ofString_length]
  exact PySem.int_text_length_le10 (k := 9) (by decide) (by omega)
theorem dg_strI {i : Int} (h0 : -1000000000 < i) (h1 : i < 1000000000) : strIO i = some (dg i) := by
  unfold strIO
  refine if_pos ?_
  have h2 : i.natAbs < 2 ^ 30 := by omega
  by_cases h3 : i.natAbs = 0
  · rw [h3]
    decide
  · have := (Nat.log2_lt h3).mpr h2
    omega
theorem dg_ok (i : Int) : PyData.strOk (dg i) = true := by
  show ((dg i).cps).all _ = true
  refine Array.all_eq_true'.mpr fun c hc => ?_
  refine decide_eq_true ?_
  rcases dg_chars (Array.mem_toList_iff.mpr hc) with e | e
  · omega
  · omega
/-- what stands ahead of a mark -/
theorem cut_at {c : Nat} : ∀ {xs ys r s : List Nat}, (∀ x ∈ xs, x ≠ c) → (∀ x ∈ ys, x ≠ c) → xs ++ c :: r = ys ++ c :: s → xs = ys ∧ r = s
  | [], [], r, s, _, _, h => ⟨rfl, (List.cons.inj h).2⟩
  | [], y :: ys, r, s, _, h2, h => ((h2 y List.mem_cons_self) (List.cons.inj h).1.symm).elim
  | x :: xs, [], r, s, h1, _, h => ((h1 x List.mem_cons_self) (List.cons.inj h).1).elim
  | x :: xs, y :: ys, r, s, h1, h2, h => by
    obtain ⟨e1, e2⟩ := List.cons.inj h
    obtain ⟨e3, e4⟩ := cut_at (fun z hz => h1 z (List.mem_cons_of_mem _ hz)) (fun z hz => h2 z (List.mem_cons_of_mem _ hz)) e2
    exact ⟨by rw [e1, e3], e4⟩
theorem pair_inj {c : Nat} {m : Str} {r : List Nat} (hm : m.cps.toList = c :: r) (hc : c ≠ 45 ∧ ¬ (48 ≤ c ∧ c ≤ 57)) {a b a' b' : Int} (h : dg a ++ m ++ dg b = dg a' ++ m ++ dg b') : a = a' ∧ b = b' := by
  have h2 := congrArg (fun s : Str => s.cps.toList) h
  simp only [app_list, hm, List.append_assoc, List.cons_append] at h2
  have no : ∀ i : Int, ∀ x ∈ (dg i).cps.toList, x ≠ c := fun i x hx z => by
    rcases dg_chars hx with e | e
    · exact hc.1 (z ▸ e)
    · exact hc.2 (z ▸ e)
  obtain ⟨e1, e2⟩ := cut_at (no a) (no a') h2
  exact ⟨dg_inj (str_list e1), dg_inj (str_list (List.append_cancel_left e2))⟩
/-! words of rows: those of a box's own -/
def Sm9 (i : Int) : Prop := -1000000000 < i ∧ i < 1000000000
def wd (word value : Str) : Str := word ++ "=" ++ value
def pairW (word mark : Str) (a b a0 b0 : Int) : List Str := if a = a0 ∧ b = b0 then [] else [wd word (dg a ++ mark ++ dg b)]
def numW (word : Str) (a a0 : Int) : List Str := if a = a0 then [] else [wd word (dg a)]
def ownW (a b c d g1 g2 g3 g4 : Int) : List Str := pairW "wide" ".." a b 0 1000000 ++ pairW "high" ".." c d 0 1000000 ++ numW "grow" g1 0 ++ numW "shrink" g2 1 ++ numW "rank" g3 0 ++ numW "alike" g4 0
def own6 (a b c d g1 g2 g3 g4 : Int) : PyData := .tuple [.tuple [.int a, .int b], .tuple [.int c, .int d], .int g1, .int g2, .int g3, .int g4]
theorem word_ok {word value plain : Str} (h : word.length + value.length ≤ 100000) : m_word_told word value plain = some (if value = plain then [] else [wd word value]) := by
  have e1 : ("=" : Str).length = 1 := by decide +kernel
  unfold m_word_told
  by_cases c : value = plain
  · rw [if_pos (decide_eq_true c), if_pos c]
  · rw [if_neg (by rw [decide_eq_true_eq]; exact c), if_neg c, addS_ok (by omega), bs, addS_ok (by rw [len_app]; omega)]
    rfl
theorem join2 {m x y : Str} (h : m.length + x.length + y.length ≤ 100000) : joinO m [x, y] = some (x ++ m ++ y) := by
  unfold joinO
  rw [if_pos (by show x.length + (y.length + 0) + 2 * m.length ≤ 1000000; omega), TL.join_eq]
  show some (x ++ m ++ Str.join m [y]) = _
  rfl
theorem pair_ok {word mark plain : Str} {c : Nat} {r : List Nat} (hm : mark.cps.toList = c :: r) (hc : c ≠ 45 ∧ ¬ (48 ≤ c ∧ c ≤ 57)) {a b a0 b0 : Int} (ha : Sm9 a) (hb : Sm9 b) (hp : plain = dg a0 ++ mark ++ dg b0) (hl : word.length ≤ 100 ∧ mark.length ≤ 100) :
    m_numbers_told word ⟨[⟨.int a⟩, ⟨.int b⟩]⟩ mark plain = some (pairW word mark a b a0 b0) := by
  have la := dg_len ha.1 ha.2
  have lb := dg_len hb.1 hb.2
  unfold m_numbers_told pairW
  rw [lcM_len (by show 2 < 1000000; omega)]
  have e : lcGo (fun _ => some true) (fun number_33 : Dy => ((strDO number_33).bind fun sn_35 => some sn_35)) [⟨.int a⟩, ⟨.int b⟩] = some [dg a, dg b] := by
    show ((strIO a).bind fun s => some s).bind _ = _
    rw [dg_strI ha.1 ha.2, bs, bs]
    show (((strIO b).bind fun s => some s).bind _).bind _ = _
    rw [dg_strI hb.1 hb.2]
    rfl
  rw [e, bs, join2 (by omega), bs, word_ok (by rw [len_app, len_app]; omega), bs, hp]
  by_cases q : a = a0 ∧ b = b0
  · rw [if_pos q, if_pos (by rw [q.1, q.2])]
  · rw [if_neg q, if_neg fun z => q (pair_inj hm hc z)]
theorem num_ok {word plain : Str} {a a0 : Int} (ha : Sm9 a) (hp : plain = dg a0) (hl : word.length ≤ 100) : m_word_told word (dg a) plain = some (numW word a a0) := by
  have la := dg_len ha.1 ha.2
  rw [word_ok (by omega), hp]
  unfold numW
  by_cases q : a = a0
  · rw [if_pos q, if_pos (by rw [q])]
  · rw [if_neg q, if_neg fun z => q (dg_inj z)]
theorem len_pairW (word mark : Str) (a b a0 b0 : Int) : (pairW word mark a b a0 b0).length ≤ 1 := by
  unfold pairW
  split
  · exact Nat.zero_le _
  · exact Nat.le_refl _
theorem len_numW (word : Str) (a a0 : Int) : (numW word a a0).length ≤ 1 := by
  unfold numW
  split
  · exact Nat.zero_le _
  · exact Nat.le_refl _
theorem own_told_ok {a b c d g1 g2 g3 g4 : Int} (ha : Sm9 a) (hb : Sm9 b) (hc : Sm9 c) (hd : Sm9 d) (h1 : Sm9 g1) (h2 : Sm9 g2) (h3 : Sm9 g3) (h4 : Sm9 g4) : m_own_told ⟨own6 a b c d g1 g2 g3 g4⟩ = some (ownW a b c d g1 g2 g3 g4) := by
  have wide : ("0..1000000" : Str) = dg 0 ++ ".." ++ dg 1000000 := by decide +kernel
  have p1 := pair_ok (word := "wide") (mark := "..") (c := 46) (r := [46]) (by decide +kernel) (by decide) ha hb wide (by decide +kernel)
  have p2 := pair_ok (word := "high") (mark := "..") (c := 46) (r := [46]) (by decide +kernel) (by decide) hc hd wide (by decide +kernel)
  have n1 := num_ok (word := "grow") (plain := "0") (a0 := 0) h1 (by decide +kernel) (by decide +kernel)
  have n2 := num_ok (word := "shrink") (plain := "1") (a0 := 1) h2 (by decide +kernel) (by decide +kernel)
  have n3 := num_ok (word := "rank") (plain := "0") (a0 := 0) h3 (by decide +kernel) (by decide +kernel)
  have n4 := num_ok (word := "alike") (plain := "0") (a0 := 0) h4 (by decide +kernel) (by decide +kernel)
  have l1 := len_pairW "wide" ".." a b 0 1000000
  have l2 := len_pairW "high" ".." c d 0 1000000
  have l3 := len_numW "grow" g1 0
  have l4 := len_numW "shrink" g2 1
  have l5 := len_numW "rank" g3 0
  have l6 := len_numW "alike" g4 0
  have s1 : strDO ⟨.int g1⟩ = some (dg g1) := dg_strI h1.1 h1.2
  have s2 : strDO ⟨.int g2⟩ = some (dg g2) := dg_strI h2.1 h2.2
  have s3 : strDO ⟨.int g3⟩ = some (dg g3) := dg_strI h3.1 h3.2
  have s4 : strDO ⟨.int g4⟩ = some (dg g4) := dg_strI h4.1 h4.2
  have eo : (ofD ⟨own6 a b c d g1 g2 g3 g4⟩ : Option (Tu Dy)) = some ⟨[⟨.tuple [.int a, .int b]⟩, ⟨.tuple [.int c, .int d]⟩, ⟨.int g1⟩, ⟨.int g2⟩, ⟨.int g3⟩, ⟨.int g4⟩]⟩ := ofTu _
  unfold m_own_told ownW
  simp only [eo, bs]
  rw [show atI ([⟨.tuple [.int a, .int b]⟩, ⟨.tuple [.int c, .int d]⟩, ⟨.int g1⟩, ⟨.int g2⟩, ⟨.int g3⟩, ⟨.int g4⟩] : List Dy) (0 : Int) = some ⟨.tuple [.int a, .int b]⟩ from rfl, bs, show (ofD ⟨.tuple [.int a, .int b]⟩ : Option (Tu Dy)) = some ⟨[⟨.int a⟩, ⟨.int b⟩]⟩ from ofTu _, bs, p1, bs]
  rw [show atI ([⟨.tuple [.int a, .int b]⟩, ⟨.tuple [.int c, .int d]⟩, ⟨.int g1⟩, ⟨.int g2⟩, ⟨.int g3⟩, ⟨.int g4⟩] : List Dy) (1 : Int) = some ⟨.tuple [.int c, .int d]⟩ from rfl, bs, show (ofD ⟨.tuple [.int c, .int d]⟩ : Option (Tu Dy)) = some ⟨[⟨.int c⟩, ⟨.int d⟩]⟩ from ofTu _, bs, p2, bs, catO_ok (by omega), bs]
  rw [show atI ([⟨.tuple [.int a, .int b]⟩, ⟨.tuple [.int c, .int d]⟩, ⟨.int g1⟩, ⟨.int g2⟩, ⟨.int g3⟩, ⟨.int g4⟩] : List Dy) (2 : Int) = some ⟨.int g1⟩ from rfl, bs, s1, bs, n1, bs, catO_ok (by rw [List.length_append]; omega), bs]
  rw [show atI ([⟨.tuple [.int a, .int b]⟩, ⟨.tuple [.int c, .int d]⟩, ⟨.int g1⟩, ⟨.int g2⟩, ⟨.int g3⟩, ⟨.int g4⟩] : List Dy) (3 : Int) = some ⟨.int g2⟩ from rfl, bs, s2, bs, n2, bs, catO_ok (by rw [List.length_append, List.length_append]; omega), bs]
  rw [show atI ([⟨.tuple [.int a, .int b]⟩, ⟨.tuple [.int c, .int d]⟩, ⟨.int g1⟩, ⟨.int g2⟩, ⟨.int g3⟩, ⟨.int g4⟩] : List Dy) (4 : Int) = some ⟨.int g3⟩ from rfl, bs, s3, bs, n3, bs, catO_ok (by rw [List.length_append, List.length_append, List.length_append]; omega), bs]
  rw [show atI ([⟨.tuple [.int a, .int b]⟩, ⟨.tuple [.int c, .int d]⟩, ⟨.int g1⟩, ⟨.int g2⟩, ⟨.int g3⟩, ⟨.int g4⟩] : List Dy) (5 : Int) = some ⟨.int g4⟩ from rfl, bs, s4, bs, n4, bs, catO_ok (by rw [List.length_append, List.length_append, List.length_append, List.length_append]; omega), bs]
/-! the law's own words; kinds -/
theorem eqY_pair (a b a0 b0 : Int) : eqYO ⟨.tuple [.int a, .int b]⟩ (upD (a0, b0, ())) = some (decide (a = a0 ∧ b = b0)) := by
  have ok : ∀ x y : Int, SeqAt.shaped (.tuple [.int x, .int y]) = true := fun x y => okn_shaped (okn_tup (okn_cons (okn_int x 0) (okn_cons (okn_int y 0) okn_nil))) (by omega)
  unfold eqYO
  rw [if_pos ⟨ok a b, ok a0 b0⟩]
  refine congrArg some ?_
  show PyData.eqv (.tuple [.int a, .int b]) (.tuple [.int a0, .int b0]) = _
  simp [PyData.eqv, PyData.eqvAll]
  rfl
theorem at6D (x0 x1 x2 x3 x4 x5 : Dy) : atI [x0, x1, x2, x3, x4, x5] (0 : Int) = some x0 ∧ atI [x0, x1, x2, x3, x4, x5] (1 : Int) = some x1 ∧ atI [x0, x1, x2, x3, x4, x5] (2 : Int) = some x2 ∧ atI [x0, x1, x2, x3, x4, x5] (3 : Int) = some x3 ∧ atI [x0, x1, x2, x3, x4, x5] (4 : Int) = some x4 ∧ atI [x0, x1, x2, x3, x4, x5] (5 : Int) = some x5 := ⟨rfl, rfl, rfl, rfl, rfl, rfl⟩
theorem own_L1 {key : Str} {a b : Int} {ws : List Str} (ha : Sm9 a) (hb : Sm9 b) (hk : key.length ≤ 100) (hl : ws.length ≤ 100) : m__law_own_words_L1 (key, ⟨.tuple [.int a, .int b]⟩, ()) ws = some (ws ++ pairW key ".." a b 0 1000000) := by
  have la := dg_len ha.1 ha.2
  have lb := dg_len hb.1 hb.2
  have e1 : ("=" : Str).length = 1 := by decide +kernel
  have e2 : (".." : Str).length = 2 := by decide +kernel
  have s1 : strDO ⟨.int a⟩ = some (dg a) := dg_strI ha.1 ha.2
  have s2 : strDO ⟨.int b⟩ = some (dg b) := dg_strI hb.1 hb.2
  have eo : (ofD ⟨.tuple [.int a, .int b]⟩ : Option (Tu Dy)) = some ⟨[⟨.int a⟩, ⟨.int b⟩]⟩ := ofTu _
  unfold m__law_own_words_L1 pairW
  dsimp only
  rw [eqY_pair, bs]
  by_cases q : a = 0 ∧ b = 1000000
  · rw [decide_eq_true q, if_neg (by decide), if_pos q, List.append_nil]
  · rw [decide_eq_false q, if_pos (by decide), if_neg q, addS_ok (by omega), bs, eo, bs, at2_0, bs, s1, bs, addS_ok (by rw [len_app]; omega), bs, addS_ok (by rw [len_app, len_app]; omega), bs, bs, at2_1, bs, s2, bs, addS_ok (by rw [len_app, len_app, len_app]; omega), bs, appO_ok (by omega), bs]
    unfold wd
    simp only [app_assoc]
theorem own_L2 {key : Str} {n p : Int} {ws : List Str} (hn : Sm9 n) (hk : key.length ≤ 100) (hl : ws.length ≤ 100) : m__law_own_words_L2 (key, ⟨.int n⟩, p, ()) ws = some (ws ++ numW key n p) := by
  have la := dg_len hn.1 hn.2
  have e1 : ("=" : Str).length = 1 := by decide +kernel
  have s1 : strDO ⟨.int n⟩ = some (dg n) := dg_strI hn.1 hn.2
  unfold m__law_own_words_L2 numW
  dsimp only
  rw [ofI, bs]
  by_cases q : n = p
  · rw [decide_eq_true q, if_neg (by decide), if_pos q, List.append_nil]
  · rw [decide_eq_false q, if_pos (by decide), if_neg q, addS_ok (by omega), bs, s1, bs, addS_ok (by rw [len_app]; omega), bs, appO_ok (by omega)]
    rfl
theorem own_words_ok {a b c d g1 g2 g3 g4 : Int} (ha : Sm9 a) (hb : Sm9 b) (hc : Sm9 c) (hd : Sm9 d) (h1 : Sm9 g1) (h2 : Sm9 g2) (h3 : Sm9 g3) (h4 : Sm9 g4) : m__law_own_words ⟨own6 a b c d g1 g2 g3 g4⟩ = some (ownW a b c d g1 g2 g3 g4) := by
  have l1 := len_pairW "wide" ".." a b 0 1000000
  have l2 := len_pairW "high" ".." c d 0 1000000
  have l3 := len_numW "grow" g1 0
  have l4 := len_numW "shrink" g2 1
  have l5 := len_numW "rank" g3 0
  have l6 := len_numW "alike" g4 0
  have eo : (ofD ⟨own6 a b c d g1 g2 g3 g4⟩ : Option (Tu Dy)) = some ⟨[⟨.tuple [.int a, .int b]⟩, ⟨.tuple [.int c, .int d]⟩, ⟨.int g1⟩, ⟨.int g2⟩, ⟨.int g3⟩, ⟨.int g4⟩]⟩ := ofTu _
  obtain ⟨a0, a1, a2, a3, a4, a5⟩ := at6D ⟨.tuple [.int a, .int b]⟩ ⟨.tuple [.int c, .int d]⟩ ⟨.int g1⟩ ⟨.int g2⟩ ⟨.int g3⟩ ⟨.int g4⟩
  unfold m__law_own_words ownW
  simp only [eo, bs]
  rw [a0, bs, a1, bs]
  rw [forS_cons (own_L1 ha hb (by decide +kernel) (by show 0 ≤ 100; omega)), forS_cons (own_L1 hc hd (by decide +kernel) (by rw [List.nil_append]; omega)), show ∀ s, forS m__law_own_words_L1 [] s = some s from fun _ => rfl, bs]
  rw [a2, bs, a3, bs, a4, bs, a5, bs]
  rw [List.nil_append, forS_cons (own_L2 h1 (by decide +kernel) (by rw [List.length_append]; omega)), forS_cons (own_L2 h2 (by decide +kernel) (by rw [List.length_append, List.length_append]; omega)), forS_cons (own_L2 h3 (by decide +kernel) (by rw [List.length_append, List.length_append, List.length_append]; omega)), forS_cons (own_L2 h4 (by decide +kernel) (by rw [List.length_append, List.length_append, List.length_append, List.length_append]; omega))]
  rfl
/-! words of a text -/
def wordD (w : List Str) : PyData := .tuple (w.map .str)
structure Wss (ws : List (List Str)) : Prop where
  l : ws.length ≤ 3
  w : ∀ w ∈ ws, w.length ≤ 3 ∧ ∀ p ∈ w, p.length ≤ 4
  o : ∀ w ∈ ws, ∀ p ∈ w, PyData.strOk p = true
theorem sum_le {m : Nat} : ∀ {xs : List Str}, (∀ x ∈ xs, x.length ≤ m) → (xs.map (·.length)).sum ≤ xs.length * m
  | [], _ => Nat.zero_le _
  | x :: xs, h => by
    have h1 := h x List.mem_cons_self
    have h2 := sum_le fun y hy => h y (List.mem_cons_of_mem _ hy)
    rw [List.map_cons, List.sum_cons, List.length_cons, Nat.succ_mul]
    omega
theorem len_join {y : Str} {m : Nat} : ∀ {xs : List Str}, (∀ x ∈ xs, x.length ≤ m) → (Txt.join y xs).length ≤ xs.length * (m + y.length)
  | [], _ => by
    rw [TL.join_eq]
    exact Nat.zero_le _
  | [x], h => by
    rw [TL.join_eq]
    show x.length ≤ 1 * (m + y.length)
    have := h x List.mem_cons_self
    omega
  | x :: z :: r, h => by
    have ih := len_join (y := y) (xs := z :: r) fun y hy => h y (List.mem_cons_of_mem _ hy)
    rw [TL.join_eq] at ih ⊢
    show (x ++ y ++ Str.join y (z :: r)).length ≤ _
    rw [len_app, len_app]
    have := h x List.mem_cons_self
    rw [List.length_cons, Nat.succ_mul]
    omega
theorem joinO_ok {y : Str} {xs : List Str} {m k : Nat} (h : ∀ x ∈ xs, x.length ≤ m) (hk : xs.length ≤ k) (hb : k * (m + y.length) ≤ 1000000) : joinO y xs = some (Txt.join y xs) ∧ (Txt.join y xs).length ≤ k * (m + y.length) := by
  have h1 := sum_le h
  have h2 := len_join (y := y) h
  have h3 : xs.length * (m + y.length) ≤ k * (m + y.length) := Nat.mul_le_mul_right _ hk
  rw [Nat.mul_add] at h3
  refine ⟨if_pos (by omega), by rw [Nat.mul_add] at h2; omega⟩
def textW (ws : List (List Str)) : List Str := if ws = [] then [] else [("text=" : Str) ++ Txt.join " " (ws.map fun w => Txt.join "|" w)]
theorem pieces_ok {ws : List (List Str)} (h : Wss ws) : (∀ w ∈ ws, joinO "|" w = some (Txt.join "|" w) ∧ (Txt.join "|" w).length ≤ 15) ∧ joinO " " (ws.map fun w => Txt.join "|" w) = some (Txt.join " " (ws.map fun w => Txt.join "|" w)) ∧ (Txt.join " " (ws.map fun w => Txt.join "|" w)).length ≤ 48 := by
  have e1 : ("|" : Str).length = 1 := by decide +kernel
  have e2 : (" " : Str).length = 1 := by decide +kernel
  have h1 : ∀ w ∈ ws, joinO "|" w = some (Txt.join "|" w) ∧ (Txt.join "|" w).length ≤ 15 := fun w hw => by
    obtain ⟨a, b⟩ := h.w w hw
    have := joinO_ok (y := "|") (k := 3) b a (by rw [e1]; omega)
    rw [e1] at this
    exact this
  have h2 := joinO_ok (y := " ") (k := 3) (m := 15) (xs := ws.map fun w => Txt.join "|" w) (fun x hx => by
    obtain ⟨w, hw, rfl⟩ := List.mem_map.mp hx
    exact (h1 w hw).2) (by rw [List.length_map]; exact h.l) (by rw [e2]; omega)
  rw [e2] at h2
  exact ⟨h1, h2⟩
theorem words_told_ok {ws : List (List Str)} (h : Wss ws) {j : Int} (hj : Sm9 j) : m_words_told ⟨ws.map Tu.mk⟩ j = some (numW "joint" j 50 ++ textW ws) := by
  obtain ⟨h1, h2, h3⟩ := pieces_ok h
  have lj := dg_len hj.1 hj.2
  have e1 : ("joint=" : Str).length = 6 := by decide +kernel
  have e2 : ("text=" : Str).length = 5 := by decide +kernel
  unfold m_words_told numW textW
  rw [bs]
  have a1 : ((if (!decide (j = (50 : Int))) = true then ((strIO j).bind fun sn_6 => (addS ("joint=" : Str) sn_6).bind fun t_7 => (appO ([] : List Str) t_7).bind fun told_8 => some told_8) else (some ([] : List Str)))) = some (if j = 50 then [] else [wd "joint" (dg j)]) := by
    by_cases q : j = 50
    · rw [decide_eq_true q, if_neg (by decide), if_pos q]
    · rw [decide_eq_false q, if_pos (by decide), if_neg q, dg_strI hj.1 hj.2, bs, addS_ok (by omega), bs, appO_ok (by show 0 < 1000000; omega), bs]
      unfold wd
      rw [show ("joint" : Str) ++ "=" = "joint=" from by decide +kernel]
      rfl
  rw [a1, bs]
  have l1 : (if j = 50 then ([] : List Str) else [wd "joint" (dg j)]).length ≤ 1 := len_numW "joint" j 50
  by_cases q : ws = []
  · subst q
    rw [if_neg (by decide), if_pos rfl, bs, List.append_nil]
  · have hp : 0 < ws.length := List.length_pos_iff.mpr q
    rw [if_pos (decide_eq_true (by show (0 : Int) < ((ws.map Tu.mk).length : Int); rw [List.length_map]; omega)), if_neg q]
    rw [lcM_len (by rw [List.length_map]; have := h.l; omega)]
    have e3 : lcGo (fun _ => some true) (fun word_13 : Tu Str => ((joinO ("|" : Str) word_13.l).bind fun j_15 => some j_15)) (ws.map Tu.mk) = some (ws.map fun w => Txt.join "|" w) := by
      rw [lcGo_all (fun w : Tu Str => Txt.join "|" w.l) (fun x hx => by
        obtain ⟨w, hw, rfl⟩ := List.mem_map.mp hx
        rw [(h1 w hw).1]
        rfl), List.map_map]
      rfl
    rw [e3, bs, h2, bs, addS_ok (by omega), bs, appO_ok (by omega), bs, bs]
/-! kinds -/
structure Kb (k : Str) (lf ln tb wo fl ov : Bool) : Prop where
  qlf : decide (k = ("leaf" : Str)) = lf
  qln : decide (k ∈ ([("row" : Str), ("column" : Str), ("wrap" : Str)] : List Str)) = ln
  qtb : decide (k = ("table" : Str)) = tb
  qwo : decide (k = ("words" : Str)) = wo
  qfl : decide (k = ("flow" : Str)) = fl
  qov : decide (k = ("over" : Str)) = ov
  ql4 : decide (k ∈ (Tu.mk [("row" : Str), ("column" : Str), ("wrap" : Str), ("table" : Str)]).l) = (ln || tb)
  qwf : decide (k ∈ (Tu.mk [("words" : Str), ("flow" : Str)]).l) = (wo || fl)
  ok : PyData.strOk k = true
  len : k.length ≤ 100
theorem kb_leaf : Kb "leaf" true false false false false false := by constructor <;> decide +kernel
theorem kb_row : Kb "row" false true false false false false := by constructor <;> decide +kernel
theorem kb_column : Kb "column" false true false false false false := by constructor <;> decide +kernel
theorem kb_wrap : Kb "wrap" false true false false false false := by constructor <;> decide +kernel
theorem kb_table : Kb "table" false false true false false false := by constructor <;> decide +kernel
theorem kb_words : Kb "words" false false false true false false := by constructor <;> decide +kernel
theorem kb_flow : Kb "flow" false false false false true false := by constructor <;> decide +kernel
theorem kb_over : Kb "over" false false false false false true := by constructor <;> decide +kernel
def strW (word value plain : Str) : List Str := if value = plain then [] else [wd word value]
theorem strW_ok {word value plain : Str} (h : word.length + value.length ≤ 100000) : m_word_told word value plain = some (strW word value plain) := word_ok h
def anD (p : (Str × Int) × Str × Int) : PyData := .tuple [.tuple [.str p.1.1, .int p.1.2], .tuple [.str p.2.1, .int p.2.2]]
def Al (z : Str) : Prop := z = "start" ∨ z = "mid" ∨ z = "mid2" ∨ z = "end"
def Sd (z : Str) : Prop := z = "left" ∨ z = "right"
theorem Al.ok {z : Str} (h : Al z) : PyData.strOk z = true ∧ z.length ≤ 5 ∧ ∀ x ∈ z.cps.toList, x ≠ 44 := by
  rcases h with rfl | rfl | rfl | rfl <;> decide +kernel
theorem Sd.ok {z : Str} (h : Sd z) : PyData.strOk z = true ∧ z.length ≤ 5 := by
  rcases h with rfl | rfl <;> decide +kernel
inductive Kd8 : Str → PyData → Nat → Prop
  | leaf {a b : Int} (ha : Sm9 a) (hb : Sm9 b) : Kd8 "leaf" (.tuple [.int a, .int b]) 0
  | line {k : Str} {g : Int} {al sd : Str} (n : Nat) (hk : Kb k false true false false false false) (hg : Sm9 g) (ha : Al al) (hs : Sd sd) : Kd8 k (.tuple [.int g, .str al, .str sd]) n
  | table {c g : Int} {sd : Str} {sp : List (Int × Int)} (hc : Sm9 c) (hg : Sm9 g) (hs : Sd sd) (hp : ∀ p ∈ sp, Sm9 p.1 ∧ Sm9 p.2) : Kd8 "table" (.tuple [.int c, .int g, .str sd, .tuple (sp.map fun p => .tuple [.int p.1, .int p.2])]) sp.length
  | words {ws : List (List Str)} {j : Int} (hw : Wss ws) (hj : Sm9 j) : Kd8 "words" (.tuple [.tuple (ws.map wordD), .int j]) 0
  | flow {sds : List Str} {ws : List (List Str)} {j : Int} (hs : ∀ s ∈ sds, Sd s) (hw : Wss ws) (hj : Sm9 j) : Kd8 "flow" (.tuple [.tuple (sds.map .str), .tuple (ws.map wordD), .int j]) sds.length
  | over {an : List ((Str × Int) × Str × Int)} (ha : ∀ p ∈ an, Al p.1.1 ∧ Sm9 p.1.2 ∧ Al p.2.1 ∧ Sm9 p.2.2) : Kd8 "over" (.tuple (an.map anD)) (an.length + 1)
theorem ofWords (ws : List (List Str)) : (ofD ⟨.tuple (ws.map wordD)⟩ : Option (Tu (Tu Str))) = some ⟨ws.map Tu.mk⟩ := by
  have one : ∀ w : List Str, ofAll (α := Str) (w.map .str) = some w := fun w => by
    induction w with
    | nil => rfl
    | cons x w ih =>
      rw [List.map_cons]
      show (some x).bind (fun x => (ofAll _).bind fun xs => some (x :: xs)) = _
      rw [ih]
      rfl
  have all : ofAll (α := Tu Str) (ws.map wordD) = some (ws.map Tu.mk) := by
    induction ws with
    | nil => rfl
    | cons w ws ih =>
      rw [List.map_cons]
      show ((ofAll (α := Str) (w.map .str)).map Tu.mk).bind (fun x => (ofAll _).bind fun xs => some (x :: xs)) = _
      rw [one, ih]
      rfl
  show (ofAll (α := Tu Str) _).map Tu.mk = _
  rw [all]
  rfl
theorem ofWord (w : List Str) : (ofD ⟨wordD w⟩ : Option (Tu Str)) = some ⟨w⟩ := by
  have one : ofAll (α := Str) (w.map .str) = some w := by
    induction w with
    | nil => rfl
    | cons x w ih =>
      rw [List.map_cons]
      show (some x).bind (fun x => (ofAll _).bind fun xs => some (x :: xs)) = _
      rw [ih]
      rfl
  show (ofAll (α := Str) (w.map .str)).map Tu.mk = _
  rw [one]
  rfl
/-- what is told of a kind: the program and the law alike -/
structure Told (k : Str) (w : PyData) (A J T : List Str) : Prop where
  a : m_what_told k ⟨w⟩ = some A
  s : m_setting_told k ⟨w⟩ = some (J ++ T)
  la : m__law_what_words k ⟨w⟩ = some (A ++ J)
  lt : m__law_text_words k ⟨w⟩ = some T
  al : A.length ≤ 3
  aw : ∀ x ∈ A, x.length ≤ 100
  j : ∃ i, Sm9 i ∧ (J = [] ∨ J = numW "joint" i 50)
  t : T = [] ∨ ∃ ws, Wss ws ∧ T = textW ws
theorem told_leaf {a b : Int} (ha : Sm9 a) (hb : Sm9 b) : Told "leaf" (.tuple [.int a, .int b]) (pairW "wish" "," a b 0 0) [] [] := by
  have p := pair_ok (word := "wish") (mark := ",") (plain := "0,0") (c := 44) (r := []) (by decide +kernel) (by decide) ha hb (a0 := 0) (b0 := 0) (by decide +kernel) (by decide +kernel)
  have la := dg_len ha.1 ha.2
  have lb := dg_len hb.1 hb.2
  have eo : (ofD ⟨.tuple [.int a, .int b]⟩ : Option (Tu Dy)) = some ⟨[⟨.int a⟩, ⟨.int b⟩]⟩ := ofTu _
  have s1 : strDO ⟨.int a⟩ = some (dg a) := dg_strI ha.1 ha.2
  have s2 : strDO ⟨.int b⟩ = some (dg b) := dg_strI hb.1 hb.2
  have K := kb_leaf
  have e1 : ("wish=" : Str).length = 5 := by decide +kernel
  have e2 : ("," : Str).length = 1 := by decide +kernel
  refine ⟨?_, ?_, ?_, ?_, Nat.le_trans (len_pairW ..) (by omega), fun x hx => ?_, ⟨0, by unfold Sm9; omega, .inl rfl⟩, .inl rfl⟩
  · unfold m_what_told
    rw [K.qlf, if_pos rfl, eo, bs, p, bs]
  · unfold m_setting_told
    rw [K.qwo, if_neg Bool.false_ne_true, K.qfl, if_neg Bool.false_ne_true]
    rfl
  · unfold m__law_what_words
    simp only [bs, decide_true, K.qlf, K.qtb, K.ql4, K.qwf, eqY_pair, Bool.or_false, Bool.false_eq_true, if_false, if_true]
    unfold pairW
    by_cases q : a = 0 ∧ b = 0
    · rw [decide_eq_true q, if_pos q]
      simp only [Bool.not_true, Bool.false_eq_true, if_false, bs]
      rfl
    · rw [decide_eq_false q, if_neg q]
      simp only [Bool.not_false, if_true, eo, bs, at2_0, at2_1, s1, s2]
      rw [addS_ok (by omega), bs, addS_ok (by rw [len_app]; omega), bs, addS_ok (by rw [len_app, len_app]; omega), bs, appO_ok (by show 0 < 1000000; omega)]
      unfold wd
      rw [show ("wish" : Str) ++ "=" = "wish=" from by decide +kernel]
      simp only [bs, app_assoc, List.nil_append, List.append_nil]
  · unfold m__law_text_words
    rw [K.qwo, if_neg Bool.false_ne_true, bs, if_neg Bool.false_ne_true, K.qfl, if_neg Bool.false_ne_true, bs, if_neg Bool.false_ne_true]
  · unfold pairW at hx
    split at hx
    · cases hx
    · rw [List.mem_singleton.mp hx]
      unfold wd
      rw [show ("wish" : Str) ++ "=" = "wish=" from by decide +kernel, len_app, len_app, len_app]
      omega
/-! the other kinds -/
theorem app_num {key word : Str} {g p : Int} {ws : List Str} (hk : key = word ++ "=") (hg : Sm9 g) (hl : ws.length ≤ 100) (hkl : key.length ≤ 100) : (if (!decide (g = p)) = true then ((addS key (dg g)).bind fun t => (appO ws t).bind fun w => some w) else some ws) = some (ws ++ numW word g p) := by
  have la := dg_len hg.1 hg.2
  unfold numW
  by_cases q : g = p
  · rw [decide_eq_true q, if_neg (by decide), if_pos q, List.append_nil]
  · rw [decide_eq_false q, if_pos (by decide), if_neg q, addS_ok (by omega), bs, appO_ok (by omega), bs, hk]
    rfl
theorem app_str {key word z p : Str} {ws : List Str} (hk : key = word ++ "=") (hz : z.length ≤ 100) (hl : ws.length ≤ 100) (hkl : key.length ≤ 100) : (if (!decide (z = p)) = true then ((addS key z).bind fun t => (appO ws t).bind fun w => some w) else some ws) = some (ws ++ strW word z p) := by
  unfold strW
  by_cases q : z = p
  · rw [decide_eq_true q, if_neg (by decide), if_pos q, List.append_nil]
  · rw [decide_eq_false q, if_pos (by decide), if_neg q, addS_ok (by omega), bs, appO_ok (by omega), bs, hk]
    rfl
theorem len_strW (word z p : Str) : (strW word z p).length ≤ 1 := by
  unfold strW
  split
  · exact Nat.zero_le _
  · exact Nat.le_refl _
theorem mem_numW {word : Str} {g p : Int} (hg : Sm9 g) (hw : word.length ≤ 50) : ∀ x ∈ numW word g p, x.length ≤ 100 := fun x hx => by
  have la := dg_len hg.1 hg.2
  have e1 : ("=" : Str).length = 1 := by decide +kernel
  unfold numW at hx
  split at hx
  · cases hx
  · rw [List.mem_singleton.mp hx]
    unfold wd
    rw [len_app, len_app]
    omega
theorem mem_strW {word z p : Str} (hz : z.length ≤ 20) (hw : word.length ≤ 50) : ∀ x ∈ strW word z p, x.length ≤ 100 := fun x hx => by
  have e1 : ("=" : Str).length = 1 := by decide +kernel
  unfold strW at hx
  split at hx
  · cases hx
  · rw [List.mem_singleton.mp hx]
    unfold wd
    rw [len_app, len_app]
    omega
theorem told_line {k : Str} {g : Int} {al sd : Str} (K : Kb k false true false false false false) (hg : Sm9 g) (ha : Al al) (hs : Sd sd) : Told k (.tuple [.int g, .str al, .str sd]) (numW "gap" g 0 ++ strW "align" al "start" ++ strW "side" sd "left") [] [] := by
  have la := ha.ok.2.1
  have ls := hs.ok.2
  have eo : (ofD ⟨.tuple [.int g, .str al, .str sd]⟩ : Option (Tu Dy)) = some ⟨[⟨.int g⟩, ⟨.str al⟩, ⟨.str sd⟩]⟩ := ofTu _
  have sg : strDO ⟨.int g⟩ = some (dg g) := dg_strI hg.1 hg.2
  have n1 := num_ok (word := "gap") (plain := "0") (a0 := 0) hg (by decide +kernel) (by decide +kernel)
  have a1 := strW_ok (word := "align") (value := al) (plain := "start") (by rw [show ("align" : Str).length = 5 from by decide +kernel]; omega)
  have a2 := strW_ok (word := "side") (value := sd) (plain := "left") (by rw [show ("side" : Str).length = 4 from by decide +kernel]; omega)
  have l1 := len_numW "gap" g 0
  have l2 := len_strW "align" al "start"
  have l3 := len_strW "side" sd "left"
  refine ⟨?_, ?_, ?_, ?_, by rw [List.length_append, List.length_append]; omega, fun x hx => ?_, ⟨0, by unfold Sm9; omega, .inl rfl⟩, .inl rfl⟩
  · unfold m_what_told
    rw [K.qlf, if_neg Bool.false_ne_true, K.qln, if_pos rfl]
    simp only [eo, bs, at3_0, at3_1, at3_2, ofS, sg, n1, a1, a2]
    rw [catO_ok (by omega), bs, catO_ok (by rw [List.length_append]; omega), bs]
  · unfold m_setting_told
    rw [K.qwo, if_neg Bool.false_ne_true, K.qfl, if_neg Bool.false_ne_true]
    rfl
  · unfold m__law_what_words
    simp only [bs, K.qlf, K.qtb, K.ql4, K.qwf, Bool.or_false, Bool.false_eq_true, if_false, if_true, eo, at3_0, at3_1, at3_2, ofS, ofI, sg]
    rw [app_num (word := "gap") (by decide +kernel) hg (by show 0 ≤ 100; omega) (by decide +kernel)]
    simp only [bs, List.nil_append]
    rw [app_str (word := "align") (by decide +kernel) (by omega) (by omega) (by decide +kernel)]
    simp only [bs]
    rw [app_str (word := "side") (by decide +kernel) (by omega) (by rw [List.length_append]; omega) (by decide +kernel), List.append_nil]
    simp only [bs]
  · unfold m__law_text_words
    rw [K.qwo, if_neg Bool.false_ne_true, bs, if_neg Bool.false_ne_true, K.qfl, if_neg Bool.false_ne_true, bs, if_neg Bool.false_ne_true]
  · rcases List.mem_append.mp hx with hx | hx
    · rcases List.mem_append.mp hx with hx | hx
      · exact mem_numW hg (by decide +kernel) x hx
      · exact mem_strW (by omega) (by decide +kernel) x hx
    · exact mem_strW (by omega) (by decide +kernel) x hx
theorem told_table {c g : Int} {sd : Str} {sp : PyData} (hc : Sm9 c) (hg : Sm9 g) (hs : Sd sd) : Told "table" (.tuple [.int c, .int g, .str sd, sp]) (numW "columns" c 1 ++ numW "gap" g 0 ++ strW "side" sd "left") [] [] := by
  have K := kb_table
  have ls := hs.ok.2
  have eo : (ofD ⟨.tuple [.int c, .int g, .str sd, sp]⟩ : Option (Tu Dy)) = some ⟨[⟨.int c⟩, ⟨.int g⟩, ⟨.str sd⟩, ⟨sp⟩]⟩ := ofTu _
  have eo2 : (ofD (upD ((⟨.int g⟩, ("start" : Str), ⟨.str sd⟩, ()) : Dy × Str × Dy × Unit)) : Option (Tu Dy)) = some ⟨[⟨.int g⟩, ⟨.str "start"⟩, ⟨.str sd⟩]⟩ := ofTu [.int g, .str "start", .str sd]
  have sg : strDO ⟨.int g⟩ = some (dg g) := dg_strI hg.1 hg.2
  have sc : strDO ⟨.int c⟩ = some (dg c) := dg_strI hc.1 hc.2
  have n0 := num_ok (word := "columns") (plain := "1") (a0 := 1) hc (by decide +kernel) (by decide +kernel)
  have n1 := num_ok (word := "gap") (plain := "0") (a0 := 0) hg (by decide +kernel) (by decide +kernel)
  have a2 := strW_ok (word := "side") (value := sd) (plain := "left") (by rw [show ("side" : Str).length = 4 from by decide +kernel]; omega)
  have l0 := len_numW "columns" c 1
  have l1 := len_numW "gap" g 0
  have l3 := len_strW "side" sd "left"
  refine ⟨?_, ?_, ?_, ?_, by rw [List.length_append, List.length_append]; omega, fun x hx => ?_, ⟨0, by unfold Sm9; omega, .inl rfl⟩, .inl rfl⟩
  · unfold m_what_told
    rw [K.qlf, if_neg Bool.false_ne_true, K.qln, if_neg Bool.false_ne_true, K.qtb, if_pos rfl]
    simp only [eo, bs, at4_0, at4_1, at4_2, ofS, sg, sc, n0, n1, a2]
    rw [catO_ok (by omega), bs, catO_ok (by rw [List.length_append]; omega), bs]
  · unfold m_setting_told
    rw [K.qwo, if_neg Bool.false_ne_true, K.qfl, if_neg Bool.false_ne_true]
    rfl
  · unfold m__law_what_words
    simp only [bs, decide_true, K.qlf, K.qtb, K.ql4, K.qwf, Bool.or_false, Bool.or_true, Bool.false_eq_true, if_false, if_true, eo, at4_0, at4_1, at4_2, ofS, ofI, sc]
    rw [app_num (word := "columns") (by decide +kernel) hc (by show 0 ≤ 100; omega) (by decide +kernel)]
    simp only [bs, List.nil_append, eo2, at3_0, at3_1, at3_2, ofS, ofI, sg]
    rw [app_num (word := "gap") (by decide +kernel) hg (by omega) (by decide +kernel)]
    simp only [bs, decide_true, Bool.not_true, Bool.false_eq_true, if_false]
    rw [app_str (word := "side") (by decide +kernel) (by omega) (by rw [List.length_append]; omega) (by decide +kernel), List.append_nil]
    simp only [bs]
  · unfold m__law_text_words
    rw [K.qwo, if_neg Bool.false_ne_true, bs, if_neg Bool.false_ne_true, K.qfl, if_neg Bool.false_ne_true, bs, if_neg Bool.false_ne_true]
  · rcases List.mem_append.mp hx with hx | hx
    · rcases List.mem_append.mp hx with hx | hx
      · exact mem_numW hc (by decide +kernel) x hx
      · exact mem_numW hg (by decide +kernel) x hx
    · exact mem_strW (by omega) (by decide +kernel) x hx
theorem told_over {w : PyData} : Told "over" w [] [] [] := by
  have K := kb_over
  refine ⟨?_, ?_, ?_, ?_, by show 0 ≤ 3; omega, (fun x hx => nomatch hx), ⟨0, by unfold Sm9; omega, .inl rfl⟩, .inl rfl⟩
  · unfold m_what_told
    rw [K.qlf, if_neg Bool.false_ne_true, K.qln, if_neg Bool.false_ne_true, K.qtb, if_neg Bool.false_ne_true]
  · unfold m_setting_told
    rw [K.qwo, if_neg Bool.false_ne_true, K.qfl, if_neg Bool.false_ne_true]
    rfl
  · unfold m__law_what_words
    simp only [bs, K.qlf, K.qtb, K.ql4, K.qwf, Bool.or_false, Bool.false_eq_true, if_false, if_true]
    rfl
  · unfold m__law_text_words
    rw [K.qwo, if_neg Bool.false_ne_true, bs, if_neg Bool.false_ne_true, K.qfl, if_neg Bool.false_ne_true, bs, if_neg Bool.false_ne_true]
/-! kinds with words -/
theorem okn_words {ws : List (List Str)} (h : Wss ws) : okn (.tuple (ws.map wordD)) 2 := okn_tup fun d hd => by
  obtain ⟨w, hw, rfl⟩ := List.mem_map.mp hd
  exact okn_tup fun p hp => by
    obtain ⟨x, hx, rfl⟩ := List.mem_map.mp hp
    exact okn_str (h.o w hw x hx) 0
theorem text_eq {ws : List (List Str)} (h : Wss ws) : eqYO ⟨.tuple (ws.map wordD)⟩ (upD (Tu.mk ([] : List Int))) = some (decide (ws = [])) := by
  unfold eqYO
  rw [if_pos ⟨okn_shaped (okn_words h) (by omega), okn_shaped (show okn (.tuple []) 1 from okn_tup (okn_nil (n := 0))) (by omega)⟩]
  refine congrArg some ?_
  show PyData.eqv (.tuple (ws.map wordD)) (.tuple []) = _
  cases ws with
  | nil => simp [PyData.eqv, PyData.eqvAll]
  | cons w ws => simp [PyData.eqv, PyData.eqvAll]
theorem text_body {ws : List (List Str)} (h : Wss ws) : (((ofD ⟨.tuple (ws.map wordD)⟩ : Option (Tu Dy))).bind fun o_798 =>
  (lcM (fun _ => some true) (fun word_799 => (((ofD word_799 : Option (Tu Str))).bind fun o_801 => (joinO ("|" : Str) o_801.l).bind fun j_802 => some j_802)) o_798.l).bind fun zs_800 =>
  (joinO (" " : Str) zs_800).bind fun j_803 =>
  (addS ("text=" : Str) j_803).bind fun t_804 =>
  some ([t_804] : List Str)) = some [("text=" : Str) ++ Txt.join " " (ws.map fun w => Txt.join "|" w)] := by
  obtain ⟨h1, h2, h3⟩ := pieces_ok h
  have e2 : ("text=" : Str).length = 5 := by decide +kernel
  rw [ofTu, bs, lcM_len (by show ((ws.map wordD).map Dy.mk).length < _; rw [List.length_map, List.length_map]; have := h.l; omega)]
  have e3 : lcGo (fun _ => some true) (fun word_799 : Dy => (((ofD word_799 : Option (Tu Str))).bind fun o_801 => (joinO ("|" : Str) o_801.l).bind fun j_802 => some j_802)) ((ws.map wordD).map Dy.mk) = some (ws.map fun w => Txt.join "|" w) := by
    have key : ∀ vs : List (List Str), (∀ w ∈ vs, joinO "|" w = some (Txt.join "|" w)) → lcGo (fun _ => some true) (fun word_799 : Dy => (((ofD word_799 : Option (Tu Str))).bind fun o_801 => (joinO ("|" : Str) o_801.l).bind fun j_802 => some j_802)) ((vs.map wordD).map Dy.mk) = some (vs.map fun w => Txt.join "|" w) := by
      intro vs
      induction vs with
      | nil => exact fun _ => rfl
      | cons v vs ih =>
        intro hv
        rw [List.map_cons, List.map_cons, List.map_cons]
        show (((ofD ⟨wordD v⟩ : Option (Tu Str))).bind fun o_801 => (joinO ("|" : Str) o_801.l).bind fun j_802 => some j_802).bind _ = _
        rw [ofWord, bs, hv v List.mem_cons_self, bs, bs, ih fun w hw => hv w (List.mem_cons_of_mem _ hw)]
        rfl
    exact key ws fun w hw => (h1 w hw).1
  rw [e3, bs, h2, bs, addS_ok (by omega), bs]
theorem told_words {ws : List (List Str)} {j : Int} (hw : Wss ws) (hj : Sm9 j) : Told "words" (.tuple [.tuple (ws.map wordD), .int j]) [] (numW "joint" j 50) (textW ws) := by
  have K := kb_words
  have eo : (ofD ⟨.tuple [.tuple (ws.map wordD), .int j]⟩ : Option (Tu Dy)) = some ⟨[⟨.tuple (ws.map wordD)⟩, ⟨.int j⟩]⟩ := ofTu _
  have sj : strDO ⟨.int j⟩ = some (dg j) := dg_strI hj.1 hj.2
  have last : atI ([⟨.tuple (ws.map wordD)⟩, ⟨.int j⟩] : List Dy) ((([⟨.tuple (ws.map wordD)⟩, ⟨.int j⟩] : List Dy).length : Int) - 1) = some ⟨.int j⟩ := rfl
  refine ⟨?_, ?_, ?_, ?_, by show 0 ≤ 3; omega, (fun x hx => nomatch hx), ⟨j, hj, .inr rfl⟩, .inr ⟨ws, hw, rfl⟩⟩
  · unfold m_what_told
    rw [K.qlf, if_neg Bool.false_ne_true, K.qln, if_neg Bool.false_ne_true, K.qtb, if_neg Bool.false_ne_true]
  · unfold m_setting_told
    rw [K.qwo, if_pos rfl]
    simp only [eo, bs, at2_0, at2_1, ofWords, ofI, words_told_ok hw hj]
  · unfold m__law_what_words
    simp only [bs, decide_true, K.qlf, K.qtb, K.ql4, K.qwf, Bool.or_false, Bool.true_or, Bool.false_eq_true, if_false, if_true, eo, last, ofI, sj]
    rw [app_num (word := "joint") (by decide +kernel) hj (by show 0 ≤ 100; omega) (by decide +kernel), bs]
  · unfold m__law_text_words
    rw [K.qwo, if_pos rfl, eo, bs, at2_0, bs, text_eq hw, bs, bs]
    unfold textW
    by_cases q : ws = []
    · rw [decide_eq_true q, if_pos q, if_neg (by decide), K.qfl, if_neg Bool.false_ne_true, bs, if_neg Bool.false_ne_true]
    · rw [decide_eq_false q, if_neg q, if_pos (by decide), bs, at2_0, bs]
      exact text_body hw
theorem told_flow {sd : PyData} {ws : List (List Str)} {j : Int} (hw : Wss ws) (hj : Sm9 j) : Told "flow" (.tuple [sd, .tuple (ws.map wordD), .int j]) [] (numW "joint" j 50) (textW ws) := by
  have K := kb_flow
  have eo : (ofD ⟨.tuple [sd, .tuple (ws.map wordD), .int j]⟩ : Option (Tu Dy)) = some ⟨[⟨sd⟩, ⟨.tuple (ws.map wordD)⟩, ⟨.int j⟩]⟩ := ofTu _
  have sj : strDO ⟨.int j⟩ = some (dg j) := dg_strI hj.1 hj.2
  have last : atI ([⟨sd⟩, ⟨.tuple (ws.map wordD)⟩, ⟨.int j⟩] : List Dy) ((([⟨sd⟩, ⟨.tuple (ws.map wordD)⟩, ⟨.int j⟩] : List Dy).length : Int) - 1) = some ⟨.int j⟩ := rfl
  refine ⟨?_, ?_, ?_, ?_, by show 0 ≤ 3; omega, (fun x hx => nomatch hx), ⟨j, hj, .inr rfl⟩, .inr ⟨ws, hw, rfl⟩⟩
  · unfold m_what_told
    rw [K.qlf, if_neg Bool.false_ne_true, K.qln, if_neg Bool.false_ne_true, K.qtb, if_neg Bool.false_ne_true]
  · unfold m_setting_told
    rw [K.qwo, if_neg Bool.false_ne_true, K.qfl, if_pos rfl]
    simp only [eo, bs, at3_1, at3_2, ofWords, ofI, words_told_ok hw hj]
  · unfold m__law_what_words
    simp only [bs, decide_true, K.qlf, K.qtb, K.ql4, K.qwf, Bool.or_false, Bool.or_true, Bool.false_eq_true, if_false, if_true, eo, last, ofI, sj]
    rw [app_num (word := "joint") (by decide +kernel) hj (by show 0 ≤ 100; omega) (by decide +kernel), bs]
  · unfold m__law_text_words
    rw [K.qwo, if_neg Bool.false_ne_true, bs, if_neg Bool.false_ne_true, K.qfl, if_pos rfl, eo, bs, at3_1, bs, text_eq hw, bs, bs]
    unfold textW
    by_cases q : ws = []
    · rw [decide_eq_true q, if_pos q, if_neg (by decide)]
    · rw [decide_eq_false q, if_neg q, if_pos (by decide), bs, at3_1, bs]
      exact text_body hw
/-! what is told of a part by its elder -/
theorem at_map {α : Type} (f : α → PyData) (xs : List α) {i : Nat} (h : i < xs.length) : atI ((xs.map f).map Dy.mk) ((i : Nat) : Int) = some ⟨f xs[i]⟩ := by
  rw [atI_ok (by omega) (by rw [List.length_map, List.length_map]; omega), Int.toNat_natCast, List.getElem?_map, List.getElem?_map, List.getElem?_eq_getElem h]
  rfl
def anT (p : (Str × Int) × Str × Int) : Str := p.1.1 ++ "," ++ (dg p.1.2 ++ "," ++ (p.2.1 ++ "," ++ dg p.2.2))
abbrev st0 : (Str × Int) × Str × Int := (((("start" : Str)), (0 : Int)), ("start" : Str), (0 : Int))
def anW (p : (Str × Int) × Str × Int) : List Str := if p = st0 then [] else [wd "at" (anT p)]
theorem an_inj {p q : (Str × Int) × Str × Int} (hp : Al p.1.1 ∧ Al p.2.1) (hq : Al q.1.1 ∧ Al q.2.1) (h : anT p = anT q) : p = q := by
  obtain ⟨⟨a, x⟩, b, y⟩ := p
  obtain ⟨⟨a', x'⟩, b', y'⟩ := q
  have h2 := congrArg (fun s : Str => s.cps.toList) h
  have hm : (("," : Str)).cps.toList = [44] := by decide +kernel
  unfold anT at h2
  simp only [app_list, hm, List.append_assoc, List.singleton_append] at h2
  have no : ∀ i : Int, ∀ z ∈ (dg i).cps.toList, z ≠ 44 := fun i z hz e => by
    rcases dg_chars hz with q | q
    · omega
    · omega
  obtain ⟨e1, h3⟩ := cut_at hp.1.ok.2.2 hq.1.ok.2.2 h2
  obtain ⟨e2, h4⟩ := cut_at (no x) (no x') h3
  obtain ⟨e3, h5⟩ := cut_at hp.2.ok.2.2 hq.2.ok.2.2 h4
  rw [show a = a' from str_list e1, show b = b' from str_list e3, dg_inj (str_list e2), dg_inj (str_list h5)]
theorem eqY_an {p : (Str × Int) × Str × Int} (hp : Al p.1.1 ∧ Al p.2.1) : eqYO ⟨anD p⟩ (upD ((("start" : Str), (0 : Int), ()), (("start" : Str), (0 : Int), ()), ())) = some (decide (p = st0)) := by
  have ok : ∀ q : (Str × Int) × Str × Int, Al q.1.1 ∧ Al q.2.1 → SeqAt.shaped (anD q) = true := fun q h => okn_shaped (show okn (anD q) 2 from okn_tup (okn_cons (okn_tup (okn_cons (okn_str h.1.ok.1 0) (okn_cons (okn_int _ _) okn_nil))) (okn_cons (okn_tup (okn_cons (okn_str h.2.ok.1 0) (okn_cons (okn_int _ _) okn_nil))) okn_nil))) (by omega)
  unfold eqYO
  rw [if_pos ⟨ok p hp, ok st0 ⟨.inl rfl, .inl rfl⟩⟩]
  refine congrArg some ?_
  obtain ⟨⟨a, x⟩, b, y⟩ := p
  show PyData.eqv (.tuple [.tuple [.str a, .int x], .tuple [.str b, .int y]]) (.tuple [.tuple [.str "start", .int 0], .tuple [.str "start", .int 0]]) = _
  refine Bool.eq_iff_iff.mpr ?_
  simp [PyData.eqv, PyData.eqvAll, st0]
theorem join4 {a b c d : Str} (ha : a.length ≤ 20) (hb : b.length ≤ 20) (hc : c.length ≤ 20) (hd : d.length ≤ 20) : joinO "," [a, b, c, d] = some (a ++ "," ++ (b ++ "," ++ (c ++ "," ++ d))) := by
  unfold joinO
  rw [if_pos (by
    have e1 : ("," : Str).length = 1 := by decide +kernel
    show a.length + (b.length + (c.length + (d.length + 0))) + 4 * ("," : Str).length ≤ 1000000
    omega), TL.join_eq]
  rfl
theorem an_told {p : (Str × Int) × Str × Int} (h : Al p.1.1 ∧ Sm9 p.1.2 ∧ Al p.2.1 ∧ Sm9 p.2.2) : m_numbers_told "at" ⟨[⟨.str p.1.1⟩, ⟨.int p.1.2⟩, ⟨.str p.2.1⟩, ⟨.int p.2.2⟩]⟩ "," "start,0,start,0" = some (anW p) := by
  have hp : Al p.1.1 ∧ Al p.2.1 := ⟨h.1, h.2.2.1⟩
  obtain ⟨⟨a, x⟩, b, y⟩ := p
  obtain ⟨ha, hx, hb, hy⟩ := h
  have la : a.length ≤ 5 := ha.ok.2.1
  have lb : b.length ≤ 5 := hb.ok.2.1
  have lx : (dg x).length ≤ 10 := dg_len hx.1 hx.2
  have ly : (dg y).length ≤ 10 := dg_len hy.1 hy.2
  have hx : Sm9 x := hx
  have hy : Sm9 y := hy
  have e1 : ("," : Str).length = 1 := by decide +kernel
  have e2 : ("at" : Str).length = 2 := by decide +kernel
  unfold m_numbers_told anW
  rw [lcM_len (by show 4 < 1000000; omega)]
  have e : lcGo (fun _ => some true) (fun number_33 : Dy => ((strDO number_33).bind fun sn_35 => some sn_35)) [⟨.str a⟩, ⟨.int x⟩, ⟨.str b⟩, ⟨.int y⟩] = some [a, dg x, b, dg y] := by
    rw [lcGo_pair]
    exact .cons rfl (.cons (by show (strIO x).bind _ = _; rw [dg_strI hx.1 hx.2]; rfl) (.cons rfl (.cons (by show (strIO y).bind _ = _; rw [dg_strI hy.1 hy.2]; rfl) .nil)))
  have ej := join4 (a := a) (b := dg x) (c := b) (d := dg y) (by omega) (by omega) (by omega) (by omega)
  have el : (anT ((a, x), b, y)).length ≤ 33 := by
    unfold anT
    rw [len_app, len_app, len_app, len_app, len_app, len_app]
    simp only
    omega
  rw [e, bs, ej, bs]
  show (m_word_told "at" (anT ((a, x), b, y)) _).bind _ = _
  rw [word_ok (by omega), bs, show ("start,0,start,0" : Str) = anT st0 from by decide +kernel]
  by_cases q : ((a, x), b, y) = st0
  · rw [if_pos q, if_pos (by rw [q])]
  · rw [if_neg q, if_neg fun z => q (an_inj hp ⟨.inl rfl, .inl rfl⟩ z)]
structure Pt (d : PyData) (k : Str) (w : PyData) (i : Nat) (P : List Str) : Prop where
  p : m_part_told ⟨d⟩ ((i : Nat) : Int) = some P
  l : m__law_part_words k ⟨w⟩ ((i : Nat) : Int) = some P
  n : P.length ≤ 1
  m : ∀ x ∈ P, x.length ≤ 100
theorem pt_none {k nm : Str} {own w : PyData} {ps : List PyData} {i : Nat} (ht : decide (k = ("table" : Str)) = false) (hf : decide (k = ("flow" : Str)) = false) (ho : (decide (k = ("over" : Str)) && decide ((0 : Int) < ((i : Nat) : Int))) = false) : Pt (.tuple [.str k, .str nm, own, w, .tuple ps]) k w i [] := by
  refine ⟨?_, ?_, by show 0 ≤ 1; omega, fun x hx => nomatch hx⟩
  · unfold m_part_told
    simp only [of5, bs, ofS, ht, hf, ho, Bool.false_eq_true, if_false]
  · unfold m__law_part_words
    simp only [ht, hf, Bool.false_eq_true, if_false, bs]
    cases h1 : decide (k = ("over" : Str)) with
    | false => simp only [Bool.false_eq_true, if_false, bs]
    | true =>
      rw [h1, Bool.true_and] at ho
      simp only [if_true, ho, Bool.false_eq_true, if_false, bs]
theorem pt_ok {k nm : Str} {own w : PyData} {ps : List PyData} {n i : Nat} (h : Kd8 k w n) (hi : i < n) : ∃ P, Pt (.tuple [.str k, .str nm, own, w, .tuple ps]) k w i P := by
  cases h with
  | leaf ha hb => omega
  | words hw hj => omega
  | line n K hg ha hs => exact ⟨[], pt_none K.qtb K.qfl (by rw [K.qov, Bool.false_and])⟩
  | @table c g sd sp hc hg hs hp =>
    have K := kb_table
    obtain ⟨h1, h2⟩ := hp sp[i] (List.getElem_mem hi)
    generalize hx : sp[i] = t at h1 h2
    obtain ⟨x, y⟩ := t
    have h1 : Sm9 x := h1
    have h2 : Sm9 y := h2
    have e3 : atI ((sp.map fun p => PyData.tuple [.int p.1, .int p.2]).map Dy.mk) ((i : Nat) : Int) = some ⟨.tuple [.int x, .int y]⟩ := by
      rw [at_map _ _ hi, hx]
    have eo : (ofD ⟨.tuple [.int c, .int g, .str sd, .tuple (sp.map fun p => .tuple [.int p.1, .int p.2])]⟩ : Option (Tu Dy)) = some ⟨[⟨.int c⟩, ⟨.int g⟩, ⟨.str sd⟩, ⟨.tuple (sp.map fun p => .tuple [.int p.1, .int p.2])⟩]⟩ := ofTu _
    have ep : (ofD ⟨.tuple [.int x, .int y]⟩ : Option (Tu Dy)) = some ⟨[⟨.int x⟩, ⟨.int y⟩]⟩ := ofTu _
    have p1 := pair_ok (word := "span") (mark := ",") (plain := "1,1") (c := 44) (r := []) (by decide +kernel) (by decide) h1 h2 (a0 := 1) (b0 := 1) (by decide +kernel) (by decide +kernel)
    have s1 : strDO ⟨.int x⟩ = some (dg x) := dg_strI h1.1 h1.2
    have s2 : strDO ⟨.int y⟩ = some (dg y) := dg_strI h2.1 h2.2
    have lx := dg_len h1.1 h1.2
    have ly := dg_len h2.1 h2.2
    have e1 : ("span=" : Str).length = 5 := by decide +kernel
    have e2 : ("," : Str).length = 1 := by decide +kernel
    refine ⟨pairW "span" "," x y 1 1, ?_, ?_, len_pairW .., fun z hz => ?_⟩
    · unfold m_part_told
      simp only [of5, bs, ofS, decide_true, if_true, eo, at4_3, ofTu (sp.map fun p => PyData.tuple [.int p.1, .int p.2]), e3, ep, p1]
    · unfold m__law_part_words
      simp only [bs, decide_true, K.qfl, K.qov, if_true, eo, at4_3, ofTu (sp.map fun p => PyData.tuple [.int p.1, .int p.2]), e3, eqY_pair, Bool.false_eq_true, if_false]
      unfold pairW
      by_cases q : x = 1 ∧ y = 1
      · rw [decide_eq_true q, if_pos q, if_neg (by decide)]
      · rw [decide_eq_false q, if_neg q, if_pos (by decide), ep, bs, at2_0, bs, s1, bs, addS_ok (by omega), bs, addS_ok (by rw [len_app]; omega), bs, bs, at2_1, bs, s2, bs, addS_ok (by rw [len_app, len_app]; omega), bs]
        unfold wd
        rw [show ("span" : Str) ++ "=" = "span=" from by decide +kernel]
        simp only [app_assoc]
    · unfold pairW at hz
      split at hz
      · cases hz
      · rw [List.mem_singleton.mp hz]
        unfold wd
        rw [show ("span" : Str) ++ "=" = "span=" from by decide +kernel, len_app, len_app, len_app]
        omega
  | @flow sds ws j hs hw hj =>
    have K := kb_flow
    have h1 := hs sds[i] (List.getElem_mem hi)
    generalize hx : sds[i] = sd at h1
    have e3 : atI ((sds.map PyData.str).map Dy.mk) ((i : Nat) : Int) = some ⟨.str sd⟩ := by
      rw [at_map _ _ hi, hx]
    have eo : (ofD ⟨.tuple [.tuple (sds.map .str), .tuple (ws.map wordD), .int j]⟩ : Option (Tu Dy)) = some ⟨[⟨.tuple (sds.map .str)⟩, ⟨.tuple (ws.map wordD)⟩, ⟨.int j⟩]⟩ := ofTu _
    have ls := h1.ok.2
    have a2 := strW_ok (word := "float") (value := sd) (plain := "left") (by rw [show ("float" : Str).length = 5 from by decide +kernel]; omega)
    refine ⟨strW "float" sd "left", ?_, ?_, len_strW .., mem_strW (by omega) (by decide +kernel)⟩
    · unfold m_part_told
      simp only [of5, bs, ofS, K.qtb, Bool.false_eq_true, if_false, decide_true, if_true, eo, at3_0, ofTu (sds.map PyData.str), e3, a2]
    · unfold m__law_part_words
      simp only [bs, decide_true, K.qtb, K.qov, Bool.false_eq_true, if_false, if_true, eo, at3_0, ofTu (sds.map PyData.str), e3, ofS]
      unfold strW
      rcases h1 with rfl | rfl
      · rw [if_pos rfl]
        simp only [decide_true, Bool.not_true, Bool.false_eq_true, if_false]
      · rw [decide_eq_false (show ¬ ("right" : Str) = "left" from by decide +kernel), if_pos (by decide), if_neg (show ¬ ("right" : Str) = "left" from by decide +kernel)]
        rw [show wd "float" "right" = "float=right" from by decide +kernel]
  | @over an ha =>
    have K := kb_over
    by_cases h0 : i = 0
    · subst h0
      exact ⟨[], pt_none K.qtb K.qfl (by rw [Bool.and_eq_false_iff]; exact .inr rfl)⟩
    · obtain ⟨m, rfl⟩ := Nat.exists_eq_succ_of_ne_zero h0
      have hm : m < an.length := by omega
      have hp := ha an[m] (List.getElem_mem hm)
      generalize hx : an[m] = p at hp
      have e3 : atI ((an.map anD).map Dy.mk) (((m + 1 : Nat) : Int) - 1) = some ⟨anD p⟩ := by
        rw [show ((m + 1 : Nat) : Int) - 1 = ((m : Nat) : Int) by omega, at_map _ _ hm, hx]
      have e0 : decide ((0 : Int) < ((m + 1 : Nat) : Int)) = true := decide_eq_true (by omega)
      have hw := an_told hp
      obtain ⟨⟨a, x⟩, b, y⟩ := p
      obtain ⟨h1, h2, h3, h4⟩ := hp
      have la : a.length ≤ 5 := h1.ok.2.1
      have lb : b.length ≤ 5 := h3.ok.2.1
      have lx : (dg x).length ≤ 10 := dg_len h2.1 h2.2
      have ly : (dg y).length ≤ 10 := dg_len h4.1 h4.2
      have s1 : strDO ⟨.int x⟩ = some (dg x) := dg_strI h2.1 h2.2
      have s2 : strDO ⟨.int y⟩ = some (dg y) := dg_strI h4.1 h4.2
      have c1 : ("," : Str).length = 1 := by decide +kernel
      have c2 : ("at=" : Str).length = 3 := by decide +kernel
      have hq := eqY_an (p := ((a, x), b, y)) ⟨h1, h3⟩
      have o1 : (ofD ⟨anD ((a, x), b, y)⟩ : Option ((Dy × Dy × Unit) × (Dy × Dy × Unit) × Unit)) = some ((⟨.str a⟩, ⟨.int x⟩, ()), (⟨.str b⟩, ⟨.int y⟩, ()), ()) := rfl
      have o2 : (ofD (upD ((⟨.str a⟩, ⟨.int x⟩, ⟨.str b⟩, ⟨.int y⟩, ()) : Dy × Dy × Dy × Dy × Unit)) : Option (Tu Dy)) = some ⟨[⟨.str a⟩, ⟨.int x⟩, ⟨.str b⟩, ⟨.int y⟩]⟩ := ofTu [.str a, .int x, .str b, .int y]
      have o3 : (ofD ⟨anD ((a, x), b, y)⟩ : Option (Dy × Dy × Unit)) = some (⟨.tuple [.str a, .int x]⟩, ⟨.tuple [.str b, .int y]⟩, ()) := rfl
      have o4 : (ofD ⟨.tuple [.str a, .int x]⟩ : Option (Tu Dy)) = some ⟨[⟨.str a⟩, ⟨.int x⟩]⟩ := ofTu _
      have o5 : (ofD ⟨.tuple [.str b, .int y]⟩ : Option (Tu Dy)) = some ⟨[⟨.str b⟩, ⟨.int y⟩]⟩ := ofTu _
      refine ⟨anW ((a, x), b, y), ?_, ?_, ?_, fun z hz => ?_⟩
      · unfold m_part_told
        simp only [of5, bs, ofS, K.qtb, K.qfl, Bool.false_eq_true, if_false, decide_true, e0, Bool.and_true, if_true, ofTu (an.map anD), e3, o1, o2, hw]
      · unfold m__law_part_words
        simp only [bs, decide_true, K.qtb, K.qfl, Bool.false_eq_true, if_false, if_true, e0, ofTu (an.map anD), e3, hq]
        unfold anW
        by_cases q : ((a, x), b, y) = st0
        · rw [decide_eq_true q, if_pos q, if_neg (by decide)]
        · rw [decide_eq_false q, if_neg q, if_pos (by decide)]
          simp only [o3, bs, o4, o5, at2_0, at2_1, ofS, s1, s2]
          rw [addS_ok (by omega), bs, addS_ok (by rw [len_app]; omega), bs, addS_ok (by rw [len_app, len_app]; omega), bs, addS_ok (by rw [len_app, len_app, len_app]; omega), bs, addS_ok (by rw [len_app, len_app, len_app, len_app]; omega), bs, addS_ok (by rw [len_app, len_app, len_app, len_app, len_app]; omega), bs, addS_ok (by rw [len_app, len_app, len_app, len_app, len_app, len_app]; omega), bs]
          unfold wd anT
          rw [show ("at" : Str) ++ "=" = "at=" from by decide +kernel]
          simp only [app_assoc]
      · unfold anW
        split
        · exact Nat.zero_le _
        · exact Nat.le_refl _
      · unfold anW at hz
        split at hz
        · cases hz
        · rw [List.mem_singleton.mp hz]
          unfold wd anT
          rw [show ("at" : Str) ++ "=" = "at=" from by decide +kernel, len_app, len_app, len_app, len_app, len_app, len_app, len_app]
          simp only
          omega
/-! rows -/
theorem kd_told {k : Str} {w : PyData} {n : Nat} (h : Kd8 k w n) : (∃ A J T, Told k w A J T) ∧ k.length ≤ 100 := by
  cases h with
  | leaf ha hb => exact ⟨⟨_, _, _, told_leaf ha hb⟩, kb_leaf.len⟩
  | words hw hj => exact ⟨⟨_, _, _, told_words hw hj⟩, kb_words.len⟩
  | line n K hg ha hs => exact ⟨⟨_, _, _, told_line K hg ha hs⟩, K.len⟩
  | table hc hg hs hp => exact ⟨⟨_, _, _, told_table hc hg hs⟩, kb_table.len⟩
  | flow hs hw hj => exact ⟨⟨_, _, _, told_flow hw hj⟩, kb_flow.len⟩
  | over ha => exact ⟨⟨_, _, _, told_over⟩, kb_over.len⟩
theorem lcM_keep {α : Type} {c : α → Option Bool} {xs : List α} (p : α → Bool) (hl : xs.length < 1000000) (h : ∀ x ∈ xs, c x = some (p x)) : lcM c (fun x => some x) xs = some (xs.filter p) := by
  rw [lcM_len hl, lcGo_if p (fun x => x) h (fun _ _ _ => rfl), List.map_id']
theorem len_ownW (a b c d g1 g2 g3 g4 : Int) : (ownW a b c d g1 g2 g3 g4).length ≤ 6 := by
  have l1 := len_pairW "wide" ".." a b 0 1000000
  have l2 := len_pairW "high" ".." c d 0 1000000
  have l3 := len_numW "grow" g1 0
  have l4 := len_numW "shrink" g2 1
  have l5 := len_numW "rank" g3 0
  have l6 := len_numW "alike" g4 0
  unfold ownW
  rw [List.length_append, List.length_append, List.length_append, List.length_append, List.length_append]
  omega
theorem mem_pairW {word mark : Str} {a b a0 b0 : Int} (ha : Sm9 a) (hb : Sm9 b) (hw : word.length ≤ 50) (hm : mark.length ≤ 10) : ∀ x ∈ pairW word mark a b a0 b0, x.length ≤ 100 := fun x hx => by
  have la := dg_len ha.1 ha.2
  have lb := dg_len hb.1 hb.2
  have e1 : ("=" : Str).length = 1 := by decide +kernel
  unfold pairW at hx
  split at hx
  · cases hx
  · rw [List.mem_singleton.mp hx]
    unfold wd
    rw [len_app, len_app, len_app, len_app]
    omega
theorem mem_ownW {a b c d g1 g2 g3 g4 : Int} (ha : Sm9 a) (hb : Sm9 b) (hc : Sm9 c) (hd : Sm9 d) (h1 : Sm9 g1) (h2 : Sm9 g2) (h3 : Sm9 g3) (h4 : Sm9 g4) : ∀ x ∈ ownW a b c d g1 g2 g3 g4, x.length ≤ 100 := fun x hx => by
  unfold ownW at hx
  simp only [List.mem_append] at hx
  rcases hx with ((((hx | hx) | hx) | hx) | hx) | hx
  · exact mem_pairW ha hb (by decide +kernel) (by decide +kernel) x hx
  · exact mem_pairW hc hd (by decide +kernel) (by decide +kernel) x hx
  · exact mem_numW h1 (by decide +kernel) x hx
  · exact mem_numW h2 (by decide +kernel) x hx
  · exact mem_numW h3 (by decide +kernel) x hx
  · exact mem_numW h4 (by decide +kernel) x hx
theorem starts_app {a y d : Str} (h : d.length ≤ a.length) : Txt.startswith (a ++ y) d = Txt.startswith a d := PySem.W.KAf.starts_left h
theorem Told.j0 {k : Str} {w : PyData} {A J T : List Str} (h : Told k w A J T) : J.length ≤ 1 ∧ ∀ x ∈ J, x.length ≤ 100 ∧ Txt.startswith x "text=" = false := by
  obtain ⟨i, hi, rfl | rfl⟩ := h.j
  · exact ⟨by show 0 ≤ 1; omega, fun x hx => nomatch hx⟩
  · refine ⟨len_numW .., fun x hx => ⟨mem_numW hi (by decide +kernel) x hx, ?_⟩⟩
    unfold numW at hx
    split at hx
    · cases hx
    · rw [List.mem_singleton.mp hx]
      unfold wd
      rw [starts_app (by decide +kernel)]
      decide +kernel
theorem Told.t0 {k : Str} {w : PyData} {A J T : List Str} (h : Told k w A J T) : T.length ≤ 1 ∧ ∀ x ∈ T, x.length ≤ 100 ∧ Txt.startswith x "text=" = true := by
  rcases h.t with rfl | ⟨ws, hw, rfl⟩
  · exact ⟨by show 0 ≤ 1; omega, fun x hx => nomatch hx⟩
  · obtain ⟨h1, h2, h3⟩ := pieces_ok hw
    unfold textW
    split
    · exact ⟨Nat.zero_le _, fun x hx => nomatch hx⟩
    · refine ⟨Nat.le_refl _, fun x hx => ?_⟩
      rw [List.mem_singleton.mp hx]
      refine ⟨?_, ?_⟩
      · rw [len_app, show ("text=" : Str).length = 5 from by decide +kernel]
        omega
      · rw [starts_app (by decide +kernel)]
        decide +kernel
theorem blanks : ∀ n : Fin 101, (Txt.mul "  " ((n.val : Nat) : Int)).length ≤ 200 := by decide +kernel
def cnt : Nat → PyData → Nat
  | 0, _ => 0
  | n + 1, .tuple [_, _, _, _, .tuple ps] => 1 + (ps.map (cnt n)).sum
  | _ + 1, _ => 1
def Tx : Nat → PyData → Prop
  | 0, _ => False
  | n + 1, e => ∃ k nm a b c d g1 g2 g3 g4 w ps, e = .tuple [.str k, .str nm, own6 a b c d g1 g2 g3 g4, w, .tuple ps] ∧ nm.length ≤ 100 ∧ (Sm9 a ∧ Sm9 b ∧ Sm9 c ∧ Sm9 d) ∧ (Sm9 g1 ∧ Sm9 g2 ∧ Sm9 g3 ∧ Sm9 g4) ∧ Kd8 k w ps.length ∧ ∀ p ∈ ps, Tx n p
theorem head_ok {k nm : Str} {own : List Str} {A J T extra : List Str} {deep : Int} (d0 : 0 ≤ deep) (d1 : deep ≤ 100) (hk : k.length ≤ 100) (hn : nm.length ≤ 100) (ho : own.length ≤ 6) (ho2 : ∀ x ∈ own, x.length ≤ 100) (hA : A.length ≤ 3) (hA2 : ∀ x ∈ A, x.length ≤ 100) (hJ : J.length ≤ 1) (hJ2 : ∀ x ∈ J, x.length ≤ 100) (hT : T.length ≤ 1) (hT2 : ∀ x ∈ T, x.length ≤ 100) (he : extra.length ≤ 1) (he2 : ∀ x ∈ extra, x.length ≤ 100) :
    ∃ row, ((mulS ("  " : Str) deep).bind fun t_203 => (joinO (" " : Str) ([k, nm] ++ own ++ A ++ J ++ extra ++ T)).bind fun j_204 => (addS t_203 j_204).bind fun t_205 => some t_205) = some row ∧ row.length ≤ 2000 := by
  have e1 : (" " : Str).length = 1 := by decide +kernel
  have hb := blanks ⟨deep.toNat, by omega⟩
  rw [show ((deep.toNat : Nat) : Int) = deep by omega] at hb
  obtain ⟨h1, h2⟩ := joinO_ok (y := " ") (k := 14) (m := 100) (xs := [k, nm] ++ own ++ A ++ J ++ extra ++ T) (fun x hx => by
    simp only [List.mem_append, List.mem_cons, List.not_mem_nil, or_false] at hx
    rcases hx with (((((rfl | rfl) | hx) | hx) | hx) | hx) | hx
    · exact hk
    · exact hn
    · exact ho2 x hx
    · exact hA2 x hx
    · exact hJ2 x hx
    · exact he2 x hx
    · exact hT2 x hx) (by
    rw [List.length_append, List.length_append, List.length_append, List.length_append, List.length_append]
    show 2 + own.length + A.length + J.length + extra.length + T.length ≤ 14
    omega) (by rw [e1]; omega)
  rw [e1] at h2
  have em : mulS ("  " : Str) deep = some (Txt.mul "  " deep) := if_pos ⟨by decide +kernel, by omega, by omega⟩
  refine ⟨Txt.mul "  " deep ++ Txt.join " " ([k, nm] ++ own ++ A ++ J ++ extra ++ T), ?_, ?_⟩
  · rw [em, bs, h1, bs, addS_ok (by omega), bs]
  · rw [len_app]
    omega
theorem sum_take {ps : List PyData} {n i : Nat} (hi : i < ps.length) : ((ps.take (i + 1)).map (cnt n)).sum = ((ps.take i).map (cnt n)).sum + cnt n ps[i] := by
  rw [List.take_succ, List.getElem?_eq_getElem hi, List.map_append, List.sum_append]
  show _ + (cnt n ps[i] + 0) = _
  omega
theorem sum_part {ps : List PyData} {n i : Nat} (hi : i < ps.length) : ((ps.take i).map (cnt n)).sum + cnt n ps[i] ≤ (ps.map (cnt n)).sum := by
  rw [← sum_take hi]
  conv => rhs; rw [← List.take_append_drop (i + 1) ps]
  rw [List.map_append, List.sum_append]
  omega
theorem rows_ok : ∀ {n : Nat} {e : PyData}, Tx n e → ∀ (deep : Int) (extra : List Str), 0 ≤ deep → deep + n ≤ 100 → extra.length ≤ 1 → (∀ x ∈ extra, x.length ≤ 100) → cnt n e ≤ 100 →
    ∃ R, m_rows_told n ⟨e⟩ deep extra = some R ∧ m__law_rows n ⟨e⟩ deep extra = some R ∧ R.length = cnt n e ∧ ∀ x ∈ R, x.length ≤ 2000
  | n + 1, _, ⟨k, nm, a, b, c, d, g1, g2, g3, g4, w, ps, rfl, hn, ⟨ha, hb, hc, hd⟩, ⟨h1, h2, h3, h4⟩, hk, hps⟩ => fun deep extra d0 d1 e1 e2 hc2 => by
    have hc2 : 1 + (ps.map (cnt n)).sum ≤ 100 := hc2
    obtain ⟨⟨A, J, T, tk⟩, lk⟩ := kd_told hk
    obtain ⟨j1, j2⟩ := tk.j0
    obtain ⟨t1, t2⟩ := tk.t0
    have lo := len_ownW a b c d g1 g2 g3 g4
    have mo := mem_ownW ha hb hc hd h1 h2 h3 h4
    obtain ⟨row, er, lr⟩ := head_ok (deep := deep) d0 (by omega) lk hn lo mo tk.al tk.aw j1 (fun x hx => (j2 x hx).1) t1 (fun x hx => (t2 x hx).1) e1 e2
    have f1 : lcM (fun word_186 => (some (Txt.startswith word_186 ("text=" : Str)))) (fun word_186 => (some word_186)) (J ++ T) = some T := by
      rw [lcM_keep (fun x => Txt.startswith x "text=") (by rw [List.length_append]; omega) (fun _ _ => rfl), List.filter_append, List.filter_eq_nil_iff.mpr (fun x hx => by rw [(j2 x hx).2]; decide), List.filter_eq_self.mpr (fun x hx => (t2 x hx).2), List.nil_append]
    have f2 : lcM (fun word_197 => (some (!(decide (word_197 ∈ T))))) (fun word_197 => (some word_197)) (J ++ T) = some J := by
      rw [lcM_keep (fun x => !decide (x ∈ T)) (by rw [List.length_append]; omega) (fun _ _ => rfl), List.filter_append, List.filter_eq_self.mpr (fun x hx => by
        rw [Bool.not_eq_true', decide_eq_false_iff_not]
        intro ht
        have := (t2 x ht).2
        rw [(j2 x hx).2] at this
        cases this), List.filter_eq_nil_iff.mpr (fun x hx => by rw [decide_eq_true hx]; decide), List.append_nil]
    obtain ⟨R, R2, eR, eR2, ⟨hRR, hRl, hRm⟩⟩ := forS2_ix (f1 := m_rows_told_L1 (m_rows_told n) ⟨.tuple [.str k, .str nm, own6 a b c d g1 g2 g3 g4, w, .tuple ps]⟩ deep) (f2 := m__law_rows_L1 (m__law_rows n) deep ⟨.str k⟩ ⟨w⟩) (xs := enumI (ps.map Dy.mk)) (fun i (s1 s2 : List Str) => s1 = s2 ∧ s1.length = 1 + ((ps.take i).map (cnt n)).sum ∧ ∀ x ∈ s1, x.length ≤ 2000) (s1 := [row]) (s2 := [row]) ⟨rfl, rfl, fun x hx => by rw [List.mem_singleton.mp hx]; exact lr⟩ (fun i hi s1 s2 hs => by
      obtain ⟨rfl, hl, hm⟩ := hs
      have hi2 : i < ps.length := by rw [enumI_len, List.length_map] at hi; exact hi
      have ee : (enumI (ps.map Dy.mk))[i] = ((i : Int), ⟨ps[i]⟩, ()) := by simp [enumI]
      rw [ee]
      obtain ⟨P, pt⟩ := pt_ok (nm := nm) (own := own6 a b c d g1 g2 g3 g4) (ps := ps) hk hi2
      have hsum := sum_part (n := n) hi2
      obtain ⟨R, q1, q2, q3, q4⟩ := rows_ok (hps ps[i] (List.getElem_mem hi2)) (deep + 1) P (by omega) (by omega) pt.n pt.m (by omega)
      refine ⟨s1 ++ R, s1 ++ R, ?_, ?_, rfl, ?_, fun x hx => ?_⟩
      · unfold m_rows_told_L1
        dsimp only
        rw [pt.p, bs, q1, bs, catO_ok (by omega)]
        rfl
      · unfold m__law_rows_L1
        dsimp only
        rw [ofS, bs, pt.l, bs, q2, bs, catO_ok (by omega)]
        rfl
      · rw [List.length_append, hl, q3, sum_take hi2]
        omega
      · rcases List.mem_append.mp hx with hx | hx
        · exact hm x hx
        · exact q4 x hx)
    subst hRR
    rw [enumI_len, List.length_map, List.take_length] at hRl
    have la := tk.al
    refine ⟨R, ?_, ?_, hRl, hRm⟩
    · show m_rows_told_step (m_rows_told n) _ deep extra = _
      unfold m_rows_told_step
      simp only [of5, bs, ofS, tk.s, f1, f2, own_told_ok ha hb hc hd h1 h2 h3 h4, tk.a]
      rw [catO_ok (by show 2 + _ ≤ _; omega), bs, catO_ok (by rw [List.length_append]; show 2 + _ + _ ≤ _; omega), bs, catO_ok (by rw [List.length_append, List.length_append]; show 2 + _ + _ + _ ≤ _; omega), bs, catO_ok (by rw [List.length_append, List.length_append, List.length_append]; show 2 + _ + _ + _ + _ ≤ _; omega), bs, catO_ok (by rw [List.length_append, List.length_append, List.length_append, List.length_append]; show 2 + _ + _ + _ + _ + _ ≤ _; omega), bs]
      obtain ⟨t, et, er⟩ := bind_some er
      obtain ⟨j, ej, er⟩ := bind_some er
      obtain ⟨z, ez, er⟩ := bind_some er
      cases er
      rw [et, bs, ej, bs, ez, bs, ofTu, bs, eR]
      rfl
    · show m__law_rows_step (m__law_rows n) _ deep extra = _
      unfold m__law_rows_step
      simp only [of5, bs, ofS, own_words_ok ha hb hc hd h1 h2 h3 h4, tk.la, tk.lt]
      rw [catO_ok (by show 2 + _ ≤ _; omega), bs, catO_ok (by rw [List.length_append, List.length_append]; show 2 + _ + _ ≤ _; omega), bs, catO_ok (by rw [List.length_append, List.length_append, List.length_append]; show 2 + _ + _ + _ ≤ _; omega), bs, catO_ok (by rw [List.length_append, List.length_append, List.length_append, List.length_append]; show 2 + _ + _ + _ + _ ≤ _; omega), bs]
      rw [← List.append_assoc ([k, nm] ++ ownW a b c d g1 g2 g3 g4) A J]
      obtain ⟨t, et, er⟩ := bind_some er
      obtain ⟨j, ej, er⟩ := bind_some er
      obtain ⟨z, ez, er⟩ := bind_some er
      cases er
      rw [et, bs, ej, bs, ez, bs, ofTu, bs, eR2]
      rfl
/-! the tree that is drawn -/
theorem sm9 {i : Int} (h0 : -2000000 ≤ i) (h1 : i ≤ 4000000) : Sm9 i := ⟨by omega, by omega⟩
theorem range_ok {st : List Int} (g : Good st) : ∃ a b st', m__law_range st = some ((a, b, ()), st') ∧ Good st' ∧ Sm9 a ∧ Sm9 b := by
  obtain ⟨r, st1, e1, r0, r1, g1⟩ := take_ok g (many := 3) (by omega) (by omega)
  unfold m__law_range
  rw [e1]
  simp only [bs]
  by_cases c : r = 0
  · rw [if_pos (decide_eq_true c)]
    exact ⟨_, _, _, rfl, g1, sm9 (by omega) (by omega), sm9 (by omega) (by omega)⟩
  · rw [if_neg (by rw [decide_eq_true_eq]; exact c)]
    obtain ⟨q, st2, e2, q0, q1, g2⟩ := take_ok g1 (many := 3) (by omega) (by omega)
    rw [e2]
    simp only [bs]
    rw [pick3 _ _ _ q0 q1]
    simp only [bs]
    obtain ⟨t, ht, t0, t1⟩ : ∃ t : Int, (if q = 0 then (20 : Int) else if q = 1 then 1000 else 1000000 + 1) = t ∧ 0 < t ∧ t ≤ 1000001 := by
      refine ⟨_, rfl, ?_⟩
      split
      · omega
      · split <;> omega
    rw [ht]
    obtain ⟨l, st3, e3, l0, l1, g3⟩ := take_ok g2 (many := t) t0 (by omega)
    rw [e3]
    simp only [bs]
    obtain ⟨m, st4, e4, m0, m1, g4⟩ := take_ok g3 (many := 1000000 + 1 - l) (by omega) (by omega)
    rw [e4]
    exact ⟨_, _, _, rfl, g4, sm9 (by omega) (by omega), sm9 (by omega) (by omega)⟩
def signs8 : Str := "abkxyzAZ019-=,.:;'^_~!#text"
theorem signs8_at : ∀ i : Fin 27, ∃ c : Fin 1000, signs8.cps.toList[i.val]? = some c.val := by decide +kernel
theorem sign8 {i : Int} (h0 : 0 ≤ i) (h1 : i < 27) : ∃ z : Str, ixS signs8 i = some z ∧ PyData.strOk z = true ∧ z.length = 1 := by
  obtain ⟨c, hc⟩ := signs8_at ⟨i.toNat, by omega⟩
  have hl : signs8.length = 27 := by decide +kernel
  have hl2 : signs8.cps.toList.length = 27 := by decide +kernel
  refine ⟨⟨#[c.val]⟩, ?_, ?_, rfl⟩
  · unfold ixS
    rw [if_pos (by omega), atI_ok h0 (by omega), hc]
    rfl
  · have : ∀ c : Fin 1000, PyData.strOk ⟨#[c.val]⟩ = true := by decide +kernel
    exact this c
theorem words_ok {st : List Int} (g : Good st) : ∃ ws st', m__law_words st = some (⟨ws.map Tu.mk⟩, st') ∧ Good st' ∧ Wss ws := by
  obtain ⟨r, st1, e1, r0, r1, g1⟩ := take_ok g (many := 4) (by omega) (by omega)
  unfold m__law_words
  simp only [bs]
  rw [e1]
  simp only [bs]
  rw [rngO_ok (by omega) (by omega) (by omega) (by omega), bs]
  obtain ⟨⟨tw, st2⟩, e2, ws, hws, hl, h1, g2⟩ := forS_ix (f := m__law_words_L1) (xs := irange 0 r) (fun i (s : List (Tu Str) × List Int) => ∃ ws : List (List Str), s.1 = ws.map Tu.mk ∧ ws.length = i ∧ (∀ w ∈ ws, (w.length ≤ 3 ∧ ∀ p ∈ w, p.length ≤ 4) ∧ ∀ p ∈ w, PyData.strOk p = true) ∧ Good s.2) (s := ([], st1)) ⟨[], rfl, rfl, (fun w h => nomatch h), g1⟩ (fun i hi s hs => by
    obtain ⟨tw, st2⟩ := s
    obtain ⟨ws, hws, hl, h1, g2⟩ := hs
    have hws : tw = ws.map Tu.mk := hws
    subst hws
    rw [irange_len] at hi
    generalize (irange 0 r)[i]'(by rw [irange_len]; exact hi) = k
    obtain ⟨q, st3, e3, q0, q1, g3⟩ := take_ok g2 (many := 3) (by omega) (by omega)
    unfold m__law_words_L1
    simp only [bs]
    rw [e3]
    simp only [bs]
    rw [rngO_ok (by omega) (by omega) (by omega) (by omega), bs]
    obtain ⟨⟨w, st4⟩, e4, hwl, hw1, g4⟩ := forS_ix (f := m__law_words_L2) (xs := irange 0 (1 + q)) (fun i (s : List Str × List Int) => s.1.length = i ∧ (∀ p ∈ s.1, p.length ≤ 4 ∧ PyData.strOk p = true) ∧ Good s.2) (s := ([], st3)) ⟨rfl, (fun p h => nomatch h), g3⟩ (fun i hi s hs => by
      obtain ⟨w, st4⟩ := s
      obtain ⟨hwl, hw1, g4⟩ := hs
      have hwl : w.length = i := hwl
      rw [irange_len] at hi
      generalize (irange 0 (1 + q))[i]'(by rw [irange_len]; exact hi) = k
      obtain ⟨t, st5, e5, t0, t1, g5⟩ := take_ok g4 (many := 4) (by omega) (by omega)
      unfold m__law_words_L2
      simp only [bs]
      rw [e5]
      simp only [bs]
      rw [rngO_ok (by omega) (by omega) (by omega) (by omega), bs]
      obtain ⟨⟨z, st6⟩, e6, hzl, hz1, g6⟩ := forS_ix (f := m__law_words_L3) (xs := irange 0 (1 + t)) (fun i (s : Str × List Int) => s.1.length = i ∧ PyData.strOk s.1 = true ∧ Good s.2) (s := (("" : Str), st5)) ⟨rfl, (by show PyData.strOk ("" : Str) = true; decide +kernel), g5⟩ (fun i hi s hs => by
        obtain ⟨z, st6⟩ := s
        obtain ⟨hzl, hz1, g6⟩ := hs
        have hzl : z.length = i := hzl
        rw [irange_len] at hi
        generalize (irange 0 (1 + t))[i]'(by rw [irange_len]; exact hi) = k
        obtain ⟨c, st7, e7, c0, c1, g7⟩ := take_ok g6 (many := 27) (by omega) (by omega)
        obtain ⟨y, ey, oy, ly⟩ := sign8 c0 c1
        refine ⟨(z ++ y, st7), ?_, by show (z ++ y).length = i + 1; rw [len_app]; omega, ok_app hz1 oy, g7⟩
        unfold m__law_words_L3
        rw [show ("abkxyzAZ019-=,.:;'^_~!#text" : Str) = signs8 from rfl]
        simp only [bs]
        rw [e7]
        simp only [bs, ey]
        rw [addS_ok (by omega)]
        rfl)
      rw [irange_len] at hzl
      have hzl : z.length = (1 + t - 0).toNat := hzl
      rw [e6]
      simp only [bs]
      rw [appO_ok (by omega)]
      refine ⟨_, rfl, by show (w ++ [z]).length = _; rw [List.length_append, hwl]; rfl, fun p hp => ?_, g6⟩
      rcases List.mem_append.mp hp with hp | hp
      · exact hw1 p hp
      · rw [List.mem_singleton.mp hp]
        exact ⟨by omega, hz1⟩)
    rw [irange_len] at hwl
    have hwl : w.length = (1 + q - 0).toNat := hwl
    rw [e4]
    simp only [bs]
    rw [appO_ok (by rw [List.length_map]; omega)]
    refine ⟨_, rfl, ws ++ [w], by show ws.map Tu.mk ++ [Tu.mk w] = _; rw [List.map_append]; rfl, by rw [List.length_append, hl]; rfl, fun v hv => ?_, g4⟩
    rcases List.mem_append.mp hv with hv | hv
    · exact h1 v hv
    · rw [List.mem_singleton.mp hv]
      exact ⟨⟨by omega, fun p hp => (hw1 p hp).1⟩, fun p hp => (hw1 p hp).2⟩)
  have hws : tw = ws.map Tu.mk := hws
  subst hws
  rw [irange_len] at hl
  rw [e2]
  exact ⟨ws, st2, rfl, g2, ⟨by omega, fun w hw => (h1 w hw).1, fun w hw => (h1 w hw).2⟩⟩
theorem anchor_ok {st : List Int} (g : Good st) : ∃ a x st', m__law_anchor st = some ((a, x, ()), st') ∧ Good st' ∧ Al a ∧ Sm9 x := by
  obtain ⟨r, st1, e1, r0, r1, g1⟩ := take_ok g (many := 7) (by omega) (by omega)
  obtain ⟨q, st2, e2, q0, q1, g2⟩ := take_ok g1 (many := 4) (by omega) (by omega)
  unfold m__law_anchor
  rw [e1]
  simp only [bs]
  rw [e2]
  simp only [bs]
  obtain ⟨x, st3, e3, hx, g3⟩ : ∃ x st3, ((if (decide (q = (0 : Int))) = true then ((m__law_take st2 (((2 : Int) * (1000000 : Int)) + (1 : Int))).bind fun p => some (p.1 - (1000000 : Int), p.2)) else (some (r - 3, st2)))) = some (x, st3) ∧ Sm9 x ∧ Good st3 := by
    by_cases c : q = 0
    · rw [if_pos (decide_eq_true c)]
      obtain ⟨t, st3, e3, t0, t1, g3⟩ := take_ok g2 (many := 2 * 1000000 + 1) (by omega) (by omega)
      rw [e3]
      exact ⟨_, _, rfl, sm9 (by show -2000000 ≤ t - 1000000; omega) (by show t - 1000000 ≤ 4000000; omega), g3⟩
    · rw [if_neg (by rw [decide_eq_true_eq]; exact c)]
      exact ⟨_, _, rfl, sm9 (by omega) (by omega), g2⟩
  have e3' : ((if (decide (q = (0 : Int))) = true then ((m__law_take st2 (((2 : Int) * (1000000 : Int)) + (1 : Int))).bind fun (r_394, stream_here_395) => some (r_394 - (1000000 : Int), stream_here_395)) else (some (r - 3, st2)))) = some (x, st3) := e3
  rw [e3']
  simp only [bs]
  obtain ⟨u, st4, e4, u0, u1, g4⟩ := take_ok g3 (many := 4) (by omega) (by omega)
  rw [e4]
  simp only [bs]
  rw [pick4 _ _ _ _ u0 u1]
  refine ⟨_, _, _, rfl, g4, ?_, hx⟩
  split
  · exact .inl rfl
  · split
    · exact .inr (.inl rfl)
    · split
      · exact .inr (.inr (.inl rfl))
      · exact .inr (.inr (.inr rfl))
/-! what a box tells by its kind, and the box -/
theorem up_words (ws : List (List Str)) : (Ud.toD (⟨ws.map Tu.mk⟩ : Tu (Tu Str)) : PyData) = .tuple (ws.map wordD) := by
  show PyData.tuple ((ws.map Tu.mk).map Ud.toD) = _
  rw [List.map_map]
  rfl
def Fit (k : Str) (n : Nat) : Prop := (k = "leaf" ∨ k = "words") ∧ n = 0 ∨ (k = "row" ∨ k = "column" ∨ k = "wrap") ∨ k = "table" ∨ k = "flow" ∨ k = "over" ∧ 0 < n
theorem side_sd {r : Int} : Sd (if r = 0 then ("left" : Str) else "right") := by
  split
  · exact .inl rfl
  · exact .inr rfl
theorem line_ok {st : List Int} (g : Good st) {k : Str} {n : Nat} (kb : Kb k false true false false false false) : ∃ d st', m__law_what st k n = some (⟨d⟩, st') ∧ Good st' ∧ Kd8 k d n := by
  obtain ⟨r, st1, e1, r0, r1, g1⟩ := take_ok g (many := 2) (by omega) (by omega)
  obtain ⟨a, st2, e2, a0, a1, g2⟩ := take_ok g1 (many := 4) (by omega) (by omega)
  obtain ⟨b, st3, e3, b0, b1, g3⟩ := take_ok g2 (many := 4) (by omega) (by omega)
  unfold m__law_what
  rw [e1]
  simp only [bs, pick2 _ _ r0 r1, kb.qlf, kb.qln, Bool.false_eq_true, if_false, if_true, e2, e3, pick4 _ _ _ _ b0 b1]
  refine ⟨_, st3, rfl, g3, .line n kb (sm9 (by omega) (by omega)) ?_ side_sd⟩
  split
  · exact .inl rfl
  · split
    · exact .inr (.inr (.inr rfl))
    · split
      · exact .inr (.inl rfl)
      · exact .inr (.inr (.inl rfl))
theorem leaf8_ok {st : List Int} (g : Good st) {n : Nat} (hn : n = 0) : ∃ d st', m__law_what st "leaf" n = some (⟨d⟩, st') ∧ Good st' ∧ Kd8 "leaf" d n := by
  subst hn
  obtain ⟨r, st1, e1, r0, r1, g1⟩ := take_ok g (many := 2) (by omega) (by omega)
  obtain ⟨a, st2, e2, a0, a1, g2⟩ := take_ok g1 (many := 60) (by omega) (by omega)
  obtain ⟨b, st3, e3, b0, b1, g3⟩ := take_ok g2 (many := 1000000 + 1) (by omega) (by omega)
  unfold m__law_what
  rw [e1]
  simp only [bs, pick2 _ _ r0 r1, kb_leaf.qlf, if_true, e2, e3]
  have ha : Sm9 a := sm9 (by omega) (by omega)
  have hb : Sm9 b := sm9 (by omega) (by omega)
  exact ⟨.tuple [.int a, .int b], st3, rfl, g3, .leaf ha hb⟩
theorem table8_ok {st : List Int} (g : Good st) {n : Nat} (hn : n ≤ 20) : ∃ d st', m__law_what st "table" n = some (⟨d⟩, st') ∧ Good st' ∧ Kd8 "table" d n := by
  obtain ⟨r, st1, e1, r0, r1, g1⟩ := take_ok g (many := 2) (by omega) (by omega)
  obtain ⟨a, st2, e2, a0, a1, g2⟩ := take_ok g1 (many := 12) (by omega) (by omega)
  obtain ⟨zs, st3, e3, g3, hzl, hz⟩ := lcS_inv (f := fun (k_432 : Int) st_434 => ((m__law_take st_434 (1 + a)).bind fun (r_436, stream_here_437) => (m__law_take stream_here_437 (12 : Int)).bind fun (r_438, stream_here_439) => some ((((1 : Int) + r_436), ((1 : Int) + r_438), ()), stream_here_439))) (xs := irange 0 (n : Int)) Good (fun z : Int × Int × Unit => Sm9 z.1 ∧ Sm9 z.2.1) (fun x s hs => by
    obtain ⟨p, s1, q1, p0, p1, h1⟩ := take_ok hs (many := 1 + a) (by omega) (by omega)
    obtain ⟨q, s2, q2, t0, t1, h2⟩ := take_ok h1 (many := 12) (by omega) (by omega)
    have hp : Sm9 (1 + p) := sm9 (by omega) (by omega)
    have hq : Sm9 (1 + q) := sm9 (by omega) (by omega)
    exact ⟨(1 + p, 1 + q, ()), s2, by simp only [q1, q2, bs], h2, hp, hq⟩) (by rw [irange_len]; omega) g2
  obtain ⟨b, st4, e4, b0, b1, g4⟩ := take_ok g3 (many := 1001) (by omega) (by omega)
  unfold m__law_what
  rw [e1]
  simp only [bs, pick2 _ _ r0 r1, kb_table.qlf, kb_table.qln, kb_table.qtb, Bool.false_eq_true, if_false, if_true, e2]
  rw [rngO_ok (by omega) (by omega) (by omega) (by omega), bs, e3]
  simp only [bs, e4]
  have h8 := Kd8.table (c := 1 + a) (g := b) (sd := if r = 0 then ("left" : Str) else "right") (sp := zs.map fun z => (z.1, z.2.1)) (sm9 (by omega) (by omega)) (sm9 (by omega) (by omega)) side_sd (fun p hp => by
    obtain ⟨z, hm, rfl⟩ := List.mem_map.mp hp
    exact hz z hm)
  rw [List.map_map, List.length_map, hzl, irange_len, show ((n : Int) - 0).toNat = n by omega] at h8
  exact ⟨_, st4, rfl, g4, h8⟩
theorem joint_ok {st : List Int} (g : Good st) : ∃ a b j st1 st2, m__law_take st 999 = some (a, st1) ∧ m__law_take st1 3 = some (b, st2) ∧ atI ([(50 : Int), (0 : Int), ((1 : Int) + a)] : List Int) b = some j ∧ Sm9 j ∧ Good st2 := by
  obtain ⟨a, st2, e2, a0, a1, g2⟩ := take_ok g (many := 999) (by omega) (by omega)
  obtain ⟨b, st3, e3, b0, b1, g3⟩ := take_ok g2 (many := 3) (by omega) (by omega)
  refine ⟨a, b, _, st2, st3, e2, e3, pick3 _ _ _ b0 b1, ?_, g3⟩
  split
  · exact sm9 (by omega) (by omega)
  · split
    · exact sm9 (by omega) (by omega)
    · exact sm9 (by omega) (by omega)
theorem words8_ok {st : List Int} (g : Good st) {n : Nat} (hn : n = 0) : ∃ d st', m__law_what st "words" n = some (⟨d⟩, st') ∧ Good st' ∧ Kd8 "words" d n := by
  subst hn
  obtain ⟨r, st1, e1, r0, r1, g1⟩ := take_ok g (many := 2) (by omega) (by omega)
  obtain ⟨a, b, j, st2, st3, e2, e3, e4, hj, g3⟩ := joint_ok g1
  obtain ⟨ws, st4, e5, g4, hw⟩ := words_ok g3
  unfold m__law_what
  rw [e1]
  simp only [bs, pick2 _ _ r0 r1, kb_words.qlf, kb_words.qln, kb_words.qtb, kb_words.qwo, Bool.false_eq_true, if_false, if_true, e2, e3, e4, e5]
  refine ⟨.tuple [.tuple (ws.map wordD), .int j], st4, ?_, g4, .words hw hj⟩
  rw [← up_words]
  rfl
theorem flow8_ok {st : List Int} (g : Good st) {n : Nat} (hn : n ≤ 20) : ∃ d st', m__law_what st "flow" n = some (⟨d⟩, st') ∧ Good st' ∧ Kd8 "flow" d n := by
  obtain ⟨r, st1, e1, r0, r1, g1⟩ := take_ok g (many := 2) (by omega) (by omega)
  obtain ⟨a, b, j, st2, st3, e2, e3, e4, hj, g3⟩ := joint_ok g1
  obtain ⟨zs, st4, e5, g4, hzl, hz⟩ := lcS_inv (f := fun (k_459 : Int) st_461 => ((m__law_take st_461 (2 : Int)).bind fun (r_463, stream_here_464) => (atI ([("left" : Str), ("right" : Str)] : List Str) r_463).bind fun i_465 => some (i_465, stream_here_464))) (xs := irange 0 (n : Int)) Good Sd (fun x s hs => by
    obtain ⟨p, s1, q1, p0, p1, h1⟩ := take_ok hs (many := 2) (by omega) (by omega)
    exact ⟨if p = 0 then ("left" : Str) else "right", s1, by simp only [q1, bs, pick2 _ _ p0 p1], h1, side_sd⟩) (by rw [irange_len]; omega) g3
  obtain ⟨ws, st5, e6, g5, hw⟩ := words_ok g4
  unfold m__law_what
  rw [e1]
  simp only [bs, pick2 _ _ r0 r1, kb_flow.qlf, kb_flow.qln, kb_flow.qtb, kb_flow.qwo, kb_flow.qfl, Bool.false_eq_true, if_false, if_true, e2, e3, e4]
  rw [rngO_ok (by omega) (by omega) (by omega) (by omega), bs, e5]
  simp only [bs, e6]
  have h8 := Kd8.flow (sds := zs) hz hw hj
  rw [hzl, irange_len, show ((n : Int) - 0).toNat = n by omega, ← up_words] at h8
  exact ⟨_, st5, rfl, g5, h8⟩
theorem over8_ok {st : List Int} (g : Good st) {n : Nat} (hn : n ≤ 20) (h0 : 0 < n) : ∃ d st', m__law_what st "over" n = some (⟨d⟩, st') ∧ Good st' ∧ Kd8 "over" d n := by
  obtain ⟨r, st1, e1, r0, r1, g1⟩ := take_ok g (many := 2) (by omega) (by omega)
  obtain ⟨a, b, j, st2, st3, e2, e3, e4, hj, g3⟩ := joint_ok g1
  obtain ⟨zs, st4, e5, g4, hzl, hz⟩ := lcS_inv (f := fun (k_471 : Int) st_473 => ((m__law_anchor st_473).bind fun (r_475, stream_here_476) => (m__law_anchor stream_here_476).bind fun (r_477, stream_here_478) => some ((r_475, r_477, ()), stream_here_478))) (xs := irange 0 ((n : Int) - 1)) Good (fun z : (Str × Int × Unit) × (Str × Int × Unit) × Unit => Al z.1.1 ∧ Sm9 z.1.2.1 ∧ Al z.2.1.1 ∧ Sm9 z.2.1.2.1) (fun x s hs => by
    obtain ⟨p, x, s1, q1, h1, a1, x1⟩ := anchor_ok hs
    obtain ⟨q, y, s2, q2, h2, a2, y2⟩ := anchor_ok h1
    exact ⟨((p, x, ()), (q, y, ()), ()), s2, by simp only [q1, q2, bs], h2, a1, x1, a2, y2⟩) (by rw [irange_len]; omega) g3
  unfold m__law_what
  rw [e1]
  simp only [bs, pick2 _ _ r0 r1, kb_over.qlf, kb_over.qln, kb_over.qtb, kb_over.qwo, kb_over.qfl, Bool.false_eq_true, if_false, if_true, e2, e3, e4]
  rw [rngO_ok (by omega) (by omega) (by omega) (by omega), bs, e5]
  simp only [bs]
  have h8 := Kd8.over (an := zs.map fun z => ((z.1.1, z.1.2.1), z.2.1.1, z.2.1.2.1)) (fun p hp => by
    obtain ⟨z, hm, rfl⟩ := List.mem_map.mp hp
    exact hz z hm)
  rw [List.map_map, List.length_map, hzl, irange_len, show ((n : Int) - 1 - 0).toNat + 1 = n by omega] at h8
  exact ⟨_, st4, rfl, g4, h8⟩
theorem what_ok {st : List Int} (g : Good st) {k : Str} {n : Nat} (hn : n ≤ 20) (hk : Fit k n) : ∃ d st', m__law_what st k n = some (⟨d⟩, st') ∧ Good st' ∧ Kd8 k d n := by
  rcases hk with ⟨rfl | rfl, h0⟩ | (rfl | rfl | rfl) | rfl | rfl | ⟨rfl, h0⟩
  · exact leaf8_ok g h0
  · exact words8_ok g h0
  · exact line_ok g kb_row
  · exact line_ok g kb_column
  · exact line_ok g kb_wrap
  · exact table8_ok g hn
  · exact flow8_ok g hn
  · exact over8_ok g hn h0
/-! boxes drawn -/
def Nm (ns : List Str) : Prop := ns.length ≤ 15 ∧ ∀ x ∈ ns, PyData.strOk x = true ∧ x.length ≤ 8
theorem nm_ok {ns : List Str} (h : Nm ns) : neO ns [] = some (!decide (ns = [])) := neO_ok (okD_list fun x hx => (h.2 x hx).1) (okD_list fun x hx => nomatch hx)
theorem kinds8 {k : Str} (h : k ∈ ([("leaf" : Str), ("row" : Str), ("column" : Str), ("wrap" : Str), ("table" : Str), ("words" : Str), ("flow" : Str), ("over" : Str)] : List Str)) : (k = "leaf" ∨ k = "words") ∨ (k = "row" ∨ k = "column" ∨ k = "wrap") ∨ k = "table" ∨ k = "flow" ∨ k = "over" := by
  simp only [List.mem_cons, List.not_mem_nil, or_false] at h
  rcases h with h | h | h | h | h | h | h | h
  · exact .inl (.inl h)
  · exact .inr (.inl (.inl h))
  · exact .inr (.inl (.inr (.inl h)))
  · exact .inr (.inl (.inr (.inr h)))
  · exact .inr (.inr (.inl h))
  · exact .inl (.inr h)
  · exact .inr (.inr (.inr (.inl h)))
  · exact .inr (.inr (.inr (.inr h)))
abbrev Eight : List Str := [("leaf" : Str), ("row" : Str), ("column" : Str), ("wrap" : Str), ("table" : Str), ("words" : Str), ("flow" : Str), ("over" : Str)]
/-- the kind and how many parts -/
theorem kind_ok {st : List Int} (g : Good st) {kind : Str} (hk : kind ∈ Eight) {deep : Int} {m : Nat} (hm : m ≤ 4) :
    ∃ k st' N, ((if ((decide ((7 : Int) < deep)) || ((decide ((m : Int) = (0 : Int))) && (decide (kind = ("over" : Str))))) = true then ((m__law_take st (2 : Int)).bind fun p => (atI ([("leaf" : Str), ("words" : Str)] : List Str) p.1).bind fun i_498 => some (i_498, p.2)) else (some (kind, st)))) = some (k, st')
      ∧ ((if (decide (k ∈ (Tu.mk [("leaf" : Str), ("words" : Str)]).l)) = true then (some (0 : Int)) else (some (m : Int)))) = some ((N : Nat) : Int) ∧ Good st' ∧ N ≤ m ∧ (7 < deep → N = 0) ∧ ((k = "leaf" ∨ k = "words") ∧ N = 0 ∨ (k = "row" ∨ k = "column" ∨ k = "wrap") ∨ k = "table" ∨ k = "flow" ∨ k = "over" ∧ 0 < N) := by
  by_cases c : ((decide ((7 : Int) < deep)) || ((decide ((m : Int) = (0 : Int))) && (decide (kind = ("over" : Str))))) = true
  · obtain ⟨r, st1, e1, r0, r1, g1⟩ := take_ok g (many := 2) (by omega) (by omega)
    rw [if_pos c, e1]
    simp only [bs, pick2 _ _ r0 r1]
    refine ⟨_, st1, 0, rfl, ?_, g1, Nat.zero_le _, fun _ => rfl, .inl ⟨?_, rfl⟩⟩
    · rw [if_pos]
      · rfl
      · split <;> decide +kernel
    · split
      · exact .inl rfl
      · exact .inr rfl
  · rw [if_neg c]
    rw [Bool.or_eq_true, Bool.and_eq_true, decide_eq_true_eq, decide_eq_true_eq, decide_eq_true_eq] at c
    rcases kinds8 hk with h | h | h | h | h
    · refine ⟨_, st, 0, rfl, ?_, g, Nat.zero_le _, fun _ => rfl, .inl ⟨h, rfl⟩⟩
      rw [if_pos]
      · rfl
      · rcases h with rfl | rfl <;> decide +kernel
    · refine ⟨_, st, m, rfl, ?_, g, Nat.le_refl _, fun h => absurd (Or.inl h) c, .inr (.inl h)⟩
      rw [if_neg]
      rcases h with rfl | rfl | rfl <;> decide +kernel
    · subst h
      refine ⟨_, st, m, rfl, ?_, g, Nat.le_refl _, fun h => absurd (Or.inl h) c, .inr (.inr (.inl rfl))⟩
      rw [if_neg]
      decide +kernel
    · subst h
      refine ⟨_, st, m, rfl, ?_, g, Nat.le_refl _, fun h => absurd (Or.inl h) c, .inr (.inr (.inr (.inl rfl)))⟩
      rw [if_neg]
      decide +kernel
    · subst h
      refine ⟨_, st, m, rfl, ?_, g, Nat.le_refl _, fun h => absurd (Or.inl h) c, .inr (.inr (.inr (.inr ⟨rfl, ?_⟩)))⟩
      · rw [if_neg]
        decide +kernel
      · by_cases hz : m = 0
        · exact absurd (Or.inr ⟨by omega, rfl⟩) c
        · omega
theorem alike_ok {st : List Int} (g : Good st) (c : Bool) : ∃ a st', ((if c = true then ((m__law_take st (8 : Int)).bind fun p => (m__law_take p.2 (4 : Int)).bind fun q => (atI ([(0 : Int), (0 : Int), (1 : Int), ((2 : Int) + p.1)] : List Int) q.1).bind fun i_538 => some (i_538, q.2)) else (some ((0 : Int), st)))) = some (a, st') ∧ Sm9 a ∧ Good st' := by
  cases c with
  | false => exact ⟨_, _, rfl, sm9 (by omega) (by omega), g⟩
  | true =>
    obtain ⟨r, st1, e1, r0, r1, g1⟩ := take_ok g (many := 8) (by omega) (by omega)
    obtain ⟨q, st2, e2, q0, q1, g2⟩ := take_ok g1 (many := 4) (by omega) (by omega)
    rw [if_pos rfl, e1]
    simp only [bs, e2, pick4 _ _ _ _ q0 q1]
    refine ⟨_, st2, rfl, ?_, g2⟩
    split
    · exact sm9 (by omega) (by omega)
    · split
      · exact sm9 (by omega) (by omega)
      · split <;> exact sm9 (by omega) (by omega)
theorem upBox {k nm : Str} {a b c d g1 g2 g3 g4 : Int} {w : PyData} (qs : List PyData) : upD (k, nm, ((a, b, ()), (c, d, ()), g1, g2, g3, g4, ()), (⟨w⟩ : Dy), (Tu.mk (qs.map Dy.mk)), ()) = ⟨.tuple [.str k, .str nm, own6 a b c d g1 g2 g3 g4, w, .tuple qs]⟩ := by
  have e : (qs.map Dy.mk).map (Ud.toD : Dy → PyData) = qs := by
    rw [List.map_map]
    exact List.map_id qs
  show (⟨.tuple [.str k, .str nm, own6 a b c d g1 g2 g3 g4, w, .tuple ((qs.map Dy.mk).map Ud.toD)]⟩ : Dy) = _
  rw [e]
theorem box_ok : ∀ (n : Nat) {deep : Int} {tb : Bool} {st : List Int} {nm : List Str}, Good st → deep + n = 10 → 1 ≤ deep → deep ≤ 8 → nm ≠ [] → Nm nm →
    ∃ d st' nm', m__law_box n st nm deep tb = some (⟨d⟩, st', nm') ∧ Good st' ∧ Nm nm' ∧ Tx n d ∧ cnt n d + nm'.length = nm.length
  | 0, deep, tb, st, nm, g, h1, h2, h3, h4, h5 => by omega
  | n + 1, deep, tb, st, nm, g, h1, h2, h3, h4, h5 => by
    show ∃ d st' nm', m__law_box_step (m__law_box n) st nm deep tb = _ ∧ _
    have ep : popO nm = some (nm.getLast h4, nm.dropLast) := by
      unfold popO
      rw [List.getLast?_eq_some_getLast h4]
      rfl
    have hlast := h5.2 _ (List.getLast_mem h4)
    have hdl : nm.dropLast.length = nm.length - 1 := List.length_dropLast
    have hpos : 0 < nm.length := List.length_pos_iff.mpr h4
    have hd : Nm nm.dropLast := ⟨by have := h5.1; omega, fun x hx => h5.2 x (List.dropLast_subset _ hx)⟩
    generalize nm.getLast h4 = name at ep hlast
    generalize nm.dropLast = nm1 at ep hdl hd
    obtain ⟨r, st1, e1, r0, r1, g1⟩ := take_ok g (many := 8) (by omega) (by omega)
    obtain ⟨kind, ek, hk⟩ := atI_some (xs := Eight) (i := r) r0 (by show r < (8 : Int); omega)
    have hk := List.mem_of_getElem? hk
    obtain ⟨q, st2, e2, q0, q1, g2⟩ := take_ok g1 (many := 5) (by omega) (by omega)
    obtain ⟨m, hm, hm4, hml⟩ : ∃ m : Nat, min q (nm1.length : Int) = (m : Int) ∧ m ≤ 4 ∧ m ≤ nm1.length := ⟨(min q (nm1.length : Int)).toNat, by omega, by omega, by omega⟩
    obtain ⟨k, st3, N, e3, e4, g3, hN, hN0, hfit⟩ := kind_ok g2 hk (deep := deep) hm4
    unfold m__law_box_step
    simp only [ep, bs, e1]
    rw [show atI ([("leaf" : Str), ("row" : Str), ("column" : Str), ("wrap" : Str), ("table" : Str), ("words" : Str), ("flow" : Str), ("over" : Str)] : List Str) r = some kind from ek]
    simp only [bs, e2, hm]
    have e3' : ((if ((decide ((7 : Int) < deep)) || ((decide ((m : Int) = (0 : Int))) && (decide (kind = ("over" : Str))))) = true then ((m__law_take st2 (2 : Int)).bind fun (r_496, stream_here_497) =>
  (atI ([("leaf" : Str), ("words" : Str)] : List Str) r_496).bind fun i_498 =>
  some (i_498, stream_here_497)) else (some (kind, st2)))) = some (k, st3) := e3
    rw [e3']
    simp only [bs]
    rw [e4]
    simp only [bs]
    rw [rngO_ok (by omega) (by omega) (by omega) (by omega), bs]
    obtain ⟨⟨tp, st4, nm2⟩, e5, ⟨qs, htp, hql, hq0, hqt, hqs, hn2, g4⟩⟩ := forS_ix (f := m__law_box_L1 (m__law_box n) deep tb k) (xs := irange 0 (N : Int)) (fun i (s : List Dy × List Int × List Str) => ∃ qs : List PyData, s.1 = qs.map Dy.mk ∧ qs.length ≤ i ∧ (0 < i → 0 < qs.length) ∧ (∀ q ∈ qs, Tx n q) ∧ (qs.map (cnt n)).sum + s.2.2.length = nm1.length ∧ Nm s.2.2 ∧ Good s.2.1) (s := ([], st3, nm1)) ⟨[], rfl, Nat.le_refl _, (fun h => absurd h (by omega)), (fun q h => nomatch h), Nat.zero_add _, hd, g3⟩ (fun i hi s hs => by
      obtain ⟨tp, st4, nm2⟩ := s
      obtain ⟨qs, htp, hql, hq0, hqt, hqs, hn2, g4⟩ := hs
      have htp : tp = qs.map Dy.mk := htp
      subst htp
      have hqs : (qs.map (cnt n)).sum + nm2.length = nm1.length := hqs
      rw [irange_len] at hi
      generalize (irange 0 (N : Int))[i]'(by rw [irange_len]; exact hi) = z
      unfold m__law_box_L1
      dsimp only
      rw [nm_ok hn2, bs]
      by_cases c : nm2 = []
      · refine ⟨_, by rw [if_neg (by rw [decide_eq_true c]; decide)], qs, rfl, by omega, fun _ => ?_, hqt, hqs, hn2, g4⟩
        subst c
        have hqs : (qs.map (cnt n)).sum + 0 = nm1.length := hqs
        match qs with
        | [] =>
          have : (0 : Nat) + 0 = nm1.length := hqs
          omega
        | q :: qs => exact Nat.succ_pos _
      · rw [if_pos (by rw [decide_eq_false c]; rfl)]
        have hd8 : ¬ 7 < deep := fun h => by
          have := hN0 h
          omega
        obtain ⟨d, st5, nm3, e6, g5, hn3, ht, hc⟩ := box_ok n (deep := deep + 1) (tb := tb || decide (k = ("table" : Str))) g4 (by omega) (by omega) (by omega) c hn2
        rw [e6]
        simp only [bs]
        rw [appO_ok (by rw [List.length_map]; omega)]
        refine ⟨_, rfl, qs ++ [d], by show qs.map Dy.mk ++ [⟨d⟩] = _; rw [List.map_append]; rfl, by rw [List.length_append]; show qs.length + 1 ≤ _; omega, fun _ => by rw [List.length_append]; exact Nat.succ_pos _, fun q hq => ?_, ?_, hn3, g5⟩
        · rcases List.mem_append.mp hq with hq | hq
          · exact hqt q hq
          · rw [List.mem_singleton.mp hq]
            exact ht
        · rw [List.map_append, List.sum_append]
          show _ + (cnt n d + 0) + nm3.length = _
          omega)
    have htp : tp = qs.map Dy.mk := htp
    subst htp
    rw [irange_len] at hql hq0
    have hqs : (qs.map (cnt n)).sum + nm2.length = nm1.length := hqs
    rw [e5]
    simp only [bs]
    obtain ⟨al, st5, e6, hal, g5⟩ := alike_ok g4 ((decide (k ∈ (Tu.mk [("leaf" : Str), ("row" : Str), ("column" : Str), ("wrap" : Str)]).l)) && (!tb))
    have e6' : ((if ((decide (k ∈ (Tu.mk [("leaf" : Str), ("row" : Str), ("column" : Str), ("wrap" : Str)]).l)) && (!tb)) = true then ((m__law_take st4 (8 : Int)).bind fun (r_534, stream_here_535) =>
  (m__law_take stream_here_535 (4 : Int)).bind fun (r_536, stream_here_537) =>
  (atI ([(0 : Int), (0 : Int), (1 : Int), ((2 : Int) + r_534)] : List Int) r_536).bind fun i_538 =>
  some (i_538, stream_here_537)) else (some ((0 : Int), st4)))) = some (al, st5) := e6
    rw [e6']
    simp only [bs]
    obtain ⟨a1, st6, e7, a10, a11, g6⟩ := take_ok g5 (many := 100) (by omega) (by omega)
    obtain ⟨a2, st7, e8, a20, a21, g7⟩ := take_ok g6 (many := 100) (by omega) (by omega)
    obtain ⟨a3, st8, e9, a30, a31, g8⟩ := take_ok g7 (many := 3) (by omega) (by omega)
    obtain ⟨a4, st9, e10, a40, a41, g9⟩ := take_ok g8 (many := 10) (by omega) (by omega)
    obtain ⟨a5, st10, e11, a50, a51, g10⟩ := take_ok g9 (many := 2) (by omega) (by omega)
    rw [e7]
    simp only [bs, e8, e9, pick3 _ _ _ a30 a31, e10, e11]
    rw [mulO_ok (by omega) (by omega)]
    simp only [bs]
    obtain ⟨a, b, st11, e12, g11, ha, hb⟩ := range_ok g10
    obtain ⟨c, d, st12, e13, g12, hc, hd'⟩ := range_ok g11
    rw [e12]
    simp only [bs, e13]
    rw [List.length_map]
    obtain ⟨w, st13, e14, g13, hw⟩ := what_ok g12 (k := k) (n := qs.length) (by have := hd.1; omega) (by
      rcases hfit with ⟨h, h0⟩ | h | h | h | ⟨h, h0⟩
      · exact .inl ⟨h, by omega⟩
      · exact .inr (.inl h)
      · exact .inr (.inr (.inl h))
      · exact .inr (.inr (.inr (.inl h)))
      · exact .inr (.inr (.inr (.inr ⟨h, hq0 (by omega)⟩))))
    rw [e14]
    simp only [bs]
    rw [upBox]
    have hs : ∀ (z : Int × Int × Unit), z = (if a3 = 0 then ((1 : Int), (1 : Int), ()) else if a3 = 1 then ((0 : Int), (1 : Int), ()) else (a1, a2, ())) → Sm9 z.1 ∧ Sm9 z.2.1 := fun z hz => by
      subst hz
      split
      · exact ⟨sm9 (by show (-2000000 : Int) ≤ 1; omega) (by show (1 : Int) ≤ 4000000; omega), sm9 (by show (-2000000 : Int) ≤ 1; omega) (by show (1 : Int) ≤ 4000000; omega)⟩
      · split
        · exact ⟨sm9 (by show (-2000000 : Int) ≤ 0; omega) (by show (0 : Int) ≤ 4000000; omega), sm9 (by show (-2000000 : Int) ≤ 1; omega) (by show (1 : Int) ≤ 4000000; omega)⟩
        · exact ⟨sm9 (by show (-2000000 : Int) ≤ a1; omega) (by show a1 ≤ 4000000; omega), sm9 (by show (-2000000 : Int) ≤ a2; omega) (by show a2 ≤ 4000000; omega)⟩
    have hr : Sm9 (a4 * a5) := by
      rcases (show a5 = 0 ∨ a5 = 1 by omega) with rfl | rfl
      · rw [Int.mul_zero]
        exact sm9 (by omega) (by omega)
      · rw [Int.mul_one]
        exact sm9 (by omega) (by omega)
    refine ⟨_, st13, nm2, rfl, g13, hn2, ⟨k, name, a, b, c, d, _, _, _, _, w, qs, rfl, by omega, ⟨ha, hb, hc, hd'⟩, ⟨(hs _ rfl).1, (hs _ rfl).2, hr, hal⟩, hw, hqt⟩, ?_⟩
    show 1 + (qs.map (cnt n)).sum + nm2.length = nm.length
    omega
theorem text_ok {d : PyData} (h : Tx 9 d) (hc : cnt 9 d ≤ 100) : ∃ t, m_tree_text ⟨d⟩ = some t ∧ m__law_due ⟨d⟩ = some t := by
  obtain ⟨R, e1, e2, l1, l2⟩ := rows_ok h 0 [] (by omega) (by omega) (Nat.zero_le _) (fun x hx => nomatch hx) hc
  obtain ⟨ej, _⟩ := joinO_ok (y := "\n") (k := 100) (m := 2000) l2 (by omega) (by
    have : ("\n" : Str).length = 1 := by decide +kernel
    rw [this]
    omega)
  refine ⟨Txt.join "\n" R, ?_, ?_⟩
  · unfold m_tree_text
    rw [e1, bs, ej]
    rfl
  · unfold m__law_due
    rw [e2, bs, ej]
    rfl
theorem law_main (ns : List Int) (h : ns.length ≤ 63) : m_law (Fz.mk ns) = some true := by
  obtain ⟨st, e, g⟩ := stream_ok h
  obtain ⟨r, st1, e1, r0, r1, g1⟩ := take_ok g (many := 14) (by omega) (by omega)
  obtain ⟨nm, st2, e2, g2, hl, hn, _⟩ := names_ok g1 (many := 1 + r) (by omega) (by omega)
  have hne : nm ≠ [] := fun z => by
    subst z
    have : (0 : Nat) = (1 + r).toNat := hl
    omega
  have hN : Nm nm := ⟨by omega, hn⟩
  obtain ⟨d1, st3, nm1, e3, g3, _, t1, c1⟩ := box_ok 9 (deep := 1) (tb := false) g2 (by omega) (by omega) (by omega) hne hN
  obtain ⟨d2, st4, nm2, e4, g4, _, t2, c2⟩ := box_ok 9 (deep := 1) (tb := false) g3 (by omega) (by omega) (by omega) hne hN
  have := hN.1
  obtain ⟨x1, p1, q1⟩ := text_ok t1 (by omega)
  obtain ⟨x2, p2, q2⟩ := text_ok t2 (by omega)
  unfold m_law
  rw [e]
  simp only [bs]
  rw [e1]
  simp only [bs]
  rw [e2]
  simp only [bs]
  rw [e3]
  simp only [bs]
  rw [e4]
  simp only [bs, p1, q1, p2, q2]
  rw [if_neg (by decide)]
  simp only [bs]
  rw [if_neg (by decide), if_pos (by decide)]
  simp only [bs]
  exact congrArg some (by decide)
end Wk08
set_option synthInstance.maxHeartbeats 4000000
set_option synthInstance.maxSize 20000
open PySem PySem.W PyProof.Rows in
set_option maxRecDepth 100000 in
set_option maxHeartbeats 0 in
theorem PySem.Challenge.cw_boxgalley_k08_trees_as_texts_holds : PySem.Challenge.rw_boxgalley_k08_trees_as_texts.Holds := by
  w_on; o_law; k_head; (case hw => w_witness2)
  k_fill
  refine L2.walk_of (l := PySem.Challenge.rw_boxgalley_k08_trees_as_texts) (n := 63) (k := 14) (x := "_law_script") (CX := fun _ => L2.CX0) (sp := fun w => Wk08.spLaw _) rfl (by decide) rfl ⟨rfl, by decide, by decide⟩ (fun w h Y => PySem.W.kIn_of Y) ?F (fun _ _ a ns hl _ hS => ⟨a, ns, rfl, hS, hl, fun _ => rfl⟩) (fun _ _ _ _ _ h => h)
  case F =>
    intro w mg fa h KX G hmg
    refine' Wk08.all_mk Wk08.law_main KX G hmg ?a_words_told ?l_words_told ?c_words_told ?k_words_told ?a_word_told ?l_word_told ?c_word_told ?k_word_told ?a_numbers_told ?l_numbers_told ?c_numbers_told ?k_numbers_told ?a_own_told ?l_own_told ?c_own_told ?k_own_told ?a_what_told ?l_what_told ?c_what_told ?k_what_told ?a_part_told ?l_part_told ?c_part_told ?k_part_told ?a_setting_told ?l_setting_told ?c_setting_told ?k_setting_told ?a_rows_told ?l_rows_told ?c_rows_told ?k_rows_told ?a_tree_text ?l_tree_text ?c_tree_text ?k_tree_text ?a__law_stream ?l__law_stream ?c__law_stream ?k__law_stream ?a__law_take ?l__law_take ?c__law_take ?k__law_take ?a__law_names ?l__law_names ?c__law_names ?k__law_names ?a__law_range ?l__law_range ?c__law_range ?k__law_range ?a__law_words ?l__law_words ?c__law_words ?k__law_words ?a__law_anchor ?l__law_anchor ?c__law_anchor ?k__law_anchor ?a__law_what ?l__law_what ?c__law_what ?k__law_what ?a__law_box ?l__law_box ?c__law_box ?k__law_box ?a__law_own_words ?l__law_own_words ?c__law_own_words ?k__law_own_words ?a__law_what_words ?l__law_what_words ?c__law_what_words ?k__law_what_words ?a__law_part_words ?l__law_part_words ?c__law_part_words ?k__law_part_words ?a__law_text_words ?l__law_text_words ?c__law_text_words ?k__law_text_words ?a__law_rows ?l__law_rows ?c__law_rows ?k__law_rows ?a__law_due ?l__law_due ?c__law_due ?k__law_due ?a_law ?l_law ?c_law ?k_law ?z_abs ?z_enumerate ?z_isinstance ?z_len ?z_list ?z_min ?z_range ?z_str ?z_tuple ?ki_JOINT ?ki_WIDEST ?tn_LINES ?tl_LINES
    (case a_words_told => k_is)
    (case l_words_told => k_is)
    (case c_words_told => k_is)
    (case k_words_told => k_is)
    (case a_word_told => k_is)
    (case l_word_told => k_is)
    (case c_word_told => k_is)
    (case k_word_told => k_is)
    (case a_numbers_told => k_is)
    (case l_numbers_told => k_is)
    (case c_numbers_told => k_is)
    (case k_numbers_told => k_is)
    (case a_own_told => k_is)
    (case l_own_told => k_is)
    (case c_own_told => k_is)
    (case k_own_told => k_is)
    (case a_what_told => k_is)
    (case l_what_told => k_is)
    (case c_what_told => k_is)
    (case k_what_told => k_is)
    (case a_part_told => k_is)
    (case l_part_told => k_is)
    (case c_part_told => k_is)
    (case k_part_told => k_is)
    (case a_setting_told => k_is)
    (case l_setting_told => k_is)
    (case c_setting_told => k_is)
    (case k_setting_told => k_is)
    (case a_rows_told => k_is)
    (case l_rows_told => k_is)
    (case c_rows_told => k_is)
    (case k_rows_told => k_is)
    (case a_tree_text => k_is)
    (case l_tree_text => k_is)
    (case c_tree_text => k_is)
    (case k_tree_text => k_is)
    (case a__law_stream => k_is)
    (case l__law_stream => k_is)
    (case c__law_stream => k_is)
    (case k__law_stream => k_is)
    (case a__law_take => k_is)
    (case l__law_take => k_is)
    (case c__law_take => k_is)
    (case k__law_take => k_is)
    (case a__law_names => k_is)
    (case l__law_names => k_is)
    (case c__law_names => k_is)
    (case k__law_names => k_is)
    (case a__law_range => k_is)
    (case l__law_range => k_is)
    (case c__law_range => k_is)
    (case k__law_range => k_is)
    (case a__law_words => k_is)
    (case l__law_words => k_is)
    (case c__law_words => k_is)
    (case k__law_words => k_is)
    (case a__law_anchor => k_is)
    (case l__law_anchor => k_is)
    (case c__law_anchor => k_is)
    (case k__law_anchor => k_is)
    (case a__law_what => k_is)
    (case l__law_what => k_is)
    (case c__law_what => k_is)
    (case k__law_what => k_is)
    (case a__law_box => k_is)
    (case l__law_box => k_is)
    (case c__law_box => k_is)
    (case k__law_box => k_is)
    (case a__law_own_words => k_is)
    (case l__law_own_words => k_is)
    (case c__law_own_words => k_is)
    (case k__law_own_words => k_is)
    (case a__law_what_words => k_is)
    (case l__law_what_words => k_is)
    (case c__law_what_words => k_is)
    (case k__law_what_words => k_is)
    (case a__law_part_words => k_is)
    (case l__law_part_words => k_is)
    (case c__law_part_words => k_is)
    (case k__law_part_words => k_is)
    (case a__law_text_words => k_is)
    (case l__law_text_words => k_is)
    (case c__law_text_words => k_is)
    (case k__law_text_words => k_is)
    (case a__law_rows => k_is)
    (case l__law_rows => k_is)
    (case c__law_rows => k_is)
    (case k__law_rows => k_is)
    (case a__law_due => k_is)
    (case l__law_due => k_is)
    (case c__law_due => k_is)
    (case k__law_due => k_is)
    (case a_law => k_is)
    (case l_law => k_is)
    (case c_law => k_is)
    (case k_law => k_is)
    (case z_abs => k_is)
    (case z_enumerate => k_is)
    (case z_isinstance => k_is)
    (case z_len => k_is)
    (case z_list => k_is)
    (case z_min => k_is)
    (case z_range => k_is)
    (case z_str => k_is)
    (case z_tuple => k_is)
    (case ki_JOINT => k_is)
    (case ki_WIDEST => k_is)
    (case tn_LINES => k_is)
    (case tl_LINES => k_is)
