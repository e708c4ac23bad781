import PyProof.Rows.All
import Wide.All
import OpenK.AllK
import Wide.FinOn
import HandS.ForMost
import HandS.Evl
import HandS.Wide
import HandS.IsInst
import HandS.SortInts
import HandS.TupAny
import HandS.Dict
import HandS.More
import KE.KDictPairs
import KE.KDictCopyH
import HandS.ForExc
import HandS.ExcInit
import HandS.ExcField
import HandS.Iter
import KE.KExcIs
import PySem.Challenge.RW_boxgalley_k70_floats_too_wide
set_option Elab.async false
set_option linter.all false
set_option maxRecDepth 100000
set_option maxHeartbeats 2000000
/-! Wk: typed mirrors over the hand layer: what a value stands for, a state by slots and owned objects, one rule a construct. -/
namespace Wk
open PySem PySem.Spec L2 Evl

abbrev Fg := PySem.W.Frag
def isDk : HO → Prop
  | .dK _ => True
  | .dT _ => True
  | _ => False
/-- all that stood stands; a dict may be locked, or set free again -/
def Sw (H H' : Hp) : Prop := ∀ q u, H q = some u → H' q = some u ∨ ∃ o w, isDk w ∧ ((u = w ∧ H' q = some (.frz o w)) ∨ (u = .frz o w ∧ H' q = some w))
theorem Sw.of {H H' : Hp} (e : Ex H H') : Sw H H' := fun q u h => .inl (e q u h)
theorem Sw.keep {H H' : Hp} (e : Sw H H') {q : Addr} {u : HO} (h : H q = some u) (n1 : ¬ isDk u) (n2 : ∀ o w, u ≠ .frz o w) : H' q = some u := by
  rcases e q u h with h | ⟨o, w, hw, ⟨rfl, _⟩ | ⟨h, _⟩⟩
  · exact h
  · exact absurd hw n1
  · exact absurd h (n2 o w)
theorem Sw.lst {H H' : Hp} (e : Sw H H') {q : Addr} {vs : List V} (h : H q = some (.lst vs)) : H' q = some (.lst vs) := e.keep h (fun z => z) (fun _ _ z => nomatch z)
theorem Sw.tup {H H' : Hp} (e : Sw H H') {q : Addr} {vs : List V} (h : H q = some (.tup vs)) : H' q = some (.tup vs) := e.keep h (fun z => z) (fun _ _ z => nomatch z)
theorem Sw.rdl {H H' : Hp} (e : Sw H H') {q : Addr} {u : HO} (h : Rd H q u) (n1 : ¬ isDk u) (n2 : ∀ o w, u ≠ .frz o w) : Rd H' q u := by
  rcases h with h | ⟨o, h⟩
  · exact .inl (e.keep h n1 n2)
  · rcases e q _ h with h | ⟨o2, w, hw, ⟨z, _⟩ | ⟨h, h2⟩⟩
    · exact .inr ⟨o, h⟩
    · subst z
      exact False.elim hw
    · cases h
      exact absurd hw n1
theorem Sw.rd {H H' : Hp} (e : Sw H H') {q : Addr} {u : HO} (h : Rd H q u) (n1 : isDk u) : Rd H' q u := by
  have n2 : ∀ o w, u ≠ .frz o w := fun o w z => by
    subst z
    exact n1
  rcases h with h | ⟨o, h⟩
  · rcases e q _ h with h | ⟨o2, w, hw, ⟨rfl, h⟩ | ⟨h, _⟩⟩
    · exact .inl h
    · exact .inr ⟨o2, h⟩
    · exact absurd h (n2 _ _)
  · rcases e q _ h with h | ⟨o2, w, hw, ⟨z, _⟩ | ⟨h, h2⟩⟩
    · exact .inr ⟨o, h⟩
    · subst z
      exact False.elim hw
    · cases h
      exact .inl h2
theorem Sw.l {K : Fg} {H H' : Hp} (e : Sw H H') {a : Addr} {xs : List V} (h : SqL K H a xs) : SqL K H' a xs := by
  rcases h with h | h
  · exact .inl (e.rdl h (fun z => z) (fun _ _ z => nomatch z))
  · exact .inr h
theorem Sw.t {K : Fg} {H H' : Hp} (e : Sw H H') {a : Addr} {xs : List V} (h : SqT K H a xs) : SqT K H' a xs := by
  rcases h with h | h
  · exact .inl (e.rdl h (fun z => z) (fun _ _ z => nomatch z))
  · exact .inr h
/-- v stands for a, by what is known in H -/
class Rp (α : Type) where
  rep : Fg → Hp → V → α → Prop
  swap : ∀ {K : Fg} {H H' : Hp} {v : V} {a : α}, Sw H H' → rep K H v a → rep K H' v a
theorem Rp.mono {α : Type} [i : Rp α] {K : Fg} {H H' : Hp} {v : V} {a : α} (e : Ex H H') (h : Rp.rep K H v a) : Rp.rep K H' v a := i.swap (.of e) h
/-- the places of a tuple | the arguments of a call -/
class Tp (τ : Type) where
  n : Nat
  rept : Fg → Hp → List V → τ → Prop
  len : ∀ {K : Fg} {H : Hp} {vs : List V} {t : τ}, rept K H vs t → vs.length = n
  swap : ∀ {K : Fg} {H H' : Hp} {vs : List V} {t : τ}, Sw H H' → rept K H vs t → rept K H' vs t
theorem Tp.mono {τ : Type} [i : Tp τ] {K : Fg} {H H' : Hp} {vs : List V} {t : τ} (e : Ex H H') (h : Tp.rept K H vs t) : Tp.rept K H' vs t := i.swap (.of e) h
abbrev rep {α : Type} [Rp α] (K : Fg) (H : Hp) (v : V) (a : α) : Prop := Rp.rep K H v a
abbrev rept {τ : Type} [Tp τ] (K : Fg) (H : Hp) (vs : List V) (t : τ) : Prop := Tp.rept K H vs t
/-- what needs no heap -/
class Fl (α : Type) [Rp α] where
  toV : α → V
  iff : ∀ {K : Fg} {H : Hp} {v : V} {a : α}, Rp.rep K H v a ↔ v = toV a

inductive Nn where | nn
  deriving DecidableEq
instance rpInt : Rp Int := { rep := fun _ _ v a => v = .int a, swap := fun _ h => h }
instance : Fl Int := { toV := V.int, iff := Iff.rfl }
instance rpBool : Rp Bool := { rep := fun _ _ v a => v = .bl a, swap := fun _ h => h }
instance : Fl Bool := { toV := V.bl, iff := Iff.rfl }
instance rpStr : Rp Str := { rep := fun _ _ v a => v = .str a, swap := fun _ h => h }
instance : Fl Str := { toV := V.str, iff := Iff.rfl }
instance rpNn : Rp Nn := { rep := fun _ _ v _ => v = .non, swap := fun _ h => h }
instance : Fl Nn := { toV := fun _ => V.non, iff := Iff.rfl }
/-- None, or something -/
instance {α : Type} [Rp α] : Rp (Option α) where
  rep K H v a := match a with | none => v = .non | some x => v ≠ .non ∧ rep K H v x
  swap {K H H' v a} e h := match a, h with
    | none, h => h
    | some _, h => ⟨h.1, Rp.swap e h.2⟩

theorem paired_mono {α : Type} [Rp α] {K : Fg} {H H' : Hp} (e : Ex H H') {vs : List V} {xs : List α} (h : Paired (rep K H) vs xs) : Paired (rep K H') vs xs :=
  Paired.mapP h fun _ _ q => Rp.mono e q
theorem paired_swap {α : Type} [Rp α] {K : Fg} {H H' : Hp} (e : Sw H H') {vs : List V} {xs : List α} (h : Paired (rep K H) vs xs) : Paired (rep K H') vs xs :=
  Paired.mapP h fun _ _ q => Rp.swap e q
/-- a list that stands exactly so -/
instance {α : Type} [Rp α] : Rp (List α) where
  rep K H v xs := ∃ p vs, v = .ref p ∧ H p = some (.lst vs) ∧ Paired (rep K H) vs xs
  swap e h := by
    obtain ⟨p, vs, h1, h2, h3⟩ := h
    exact ⟨p, vs, h1, e.lst h2, paired_swap e h3⟩
/-- a list that is read (the script, a list of the top) -/
structure Fz (α : Type) where
  l : List α
instance {α : Type} [Rp α] : Rp (Fz α) where
  rep K H v xs := ∃ p vs, v = .ref p ∧ SqL K H p vs ∧ Paired (rep K H) vs xs.l
  swap e h := by
    obtain ⟨p, vs, h1, h2, h3⟩ := h
    exact ⟨p, vs, h1, e.l h2, paired_swap e h3⟩
/-- a tuple of the top -/
structure Kt (α : Type) where
  l : List α
instance {α : Type} [Rp α] : Rp (Kt α) where
  rep K H v xs := ∃ p vs, v = .ref p ∧ SqT K H p vs ∧ Paired (rep K H) vs xs.l
  swap e h := by
    obtain ⟨p, vs, h1, h2, h3⟩ := h
    exact ⟨p, vs, h1, e.t h2, paired_swap e h3⟩
/-- a tuple of alike things, of any length -/
structure Tu (α : Type) where
  l : List α
  deriving DecidableEq
instance {α : Type} [Rp α] : Rp (Tu α) where
  rep K H v xs := ∃ p vs, v = .ref p ∧ H p = some (.tup vs) ∧ Paired (rep K H) vs xs.l
  swap e h := by
    obtain ⟨p, vs, h1, h2, h3⟩ := h
    exact ⟨p, vs, h1, e.tup h2, paired_swap e h3⟩
instance : Tp Unit where
  n := 0
  rept _ _ vs _ := vs = []
  len h := by rw [h]; rfl
  swap _ h := h
instance {α τ : Type} [Rp α] [Tp τ] : Tp (α × τ) where
  n := Tp.n τ + 1
  rept K H vs t := ∃ v r, vs = v :: r ∧ rep K H v t.1 ∧ rept K H r t.2
  len h := by
    obtain ⟨v, r, h1, h2, h3⟩ := h
    rw [h1, List.length_cons, Tp.len h3]
  swap e h := by
    obtain ⟨v, r, h1, h2, h3⟩ := h
    exact ⟨v, r, h1, Rp.swap e h2, Tp.swap e h3⟩
/-- a tuple: (a, (b, (c, ()))) -/
instance {α τ : Type} [Rp α] [Tp τ] : Rp (α × τ) where
  rep K H v t := ∃ p vs, v = .ref p ∧ H p = some (.tup vs) ∧ rept K H vs t
  swap e h := by
    obtain ⟨p, vs, h1, h2, h3⟩ := h
    exact ⟨p, vs, h1, e.tup h2, Tp.swap e h3⟩

/-! ### the state -/
inductive Sl : Type 1 where
  | any
  | val (α : Type) (i : Rp α) (x : α)
  | at (p : Addr)
def sv {α : Type} [i : Rp α] (x : α) : Sl := .val α i x
def Sl.ok (K : Fg) (Kn : Hp) : Sl → Option V → Prop
  | .any, _ => True
  | .val _ i x, o => ∃ v, o = some v ∧ i.rep K Kn v x
  | .at p, o => o = some (.ref p)
def SlsOk (K : Fg) (Kn : Hp) : List Sl → St → Prop
  | [], [] => True
  | s :: ss, o :: os => s.ok K Kn o ∧ SlsOk K Kn ss os
  | _, _ => False
theorem Sl.ok_mono {K : Fg} {H H' : Hp} (e : Ex H H') : ∀ {s : Sl} {o : Option V}, s.ok K H o → s.ok K H' o
  | .any, _, _ => trivial
  | .val _ i _, _, ⟨v, h1, h2⟩ => ⟨v, h1, i.swap (.of e) h2⟩
  | .at _, _, h => h
theorem SlsOk.mono {K : Fg} {H H' : Hp} (e : Ex H H') : ∀ {ss : List Sl} {σ : St}, SlsOk K H ss σ → SlsOk K H' ss σ
  | [], [], _ => trivial
  | _ :: _, _ :: _, h => ⟨Sl.ok_mono e h.1, SlsOk.mono e h.2⟩
theorem Sl.ok_swap {K : Fg} {H H' : Hp} (e : Sw H H') : ∀ {s : Sl} {o : Option V}, s.ok K H o → s.ok K H' o
  | .any, _, _ => trivial
  | .val _ i _, _, ⟨v, h1, h2⟩ => ⟨v, h1, i.swap e h2⟩
  | .at _, _, h => h
theorem SlsOk.swap {K : Fg} {H H' : Hp} (e : Sw H H') : ∀ {ss : List Sl} {σ : St}, SlsOk K H ss σ → SlsOk K H' ss σ
  | [], [], _ => trivial
  | _ :: _, _ :: _, h => ⟨Sl.ok_swap e h.1, SlsOk.swap e h.2⟩
theorem SlsOk.get {K : Fg} {H : Hp} : ∀ {ss : List Sl} {σ : St} {i : Nat} {s : Sl}, SlsOk K H ss σ → ss[i]? = some s → ∃ o, σ[i]? = some o ∧ s.ok K H o
  | _ :: _, o :: _, 0, _, h, e => by
    cases Option.some.inj e
    exact ⟨o, rfl, h.1⟩
  | _ :: ss, _ :: os, i + 1, s, h, e => SlsOk.get (ss := ss) (σ := os) (i := i) h.2 e
theorem SlsOk.set {K : Fg} {H : Hp} {s : Sl} {o : Option V} (hs : s.ok K H o) : ∀ {ss : List Sl} {σ : St} (i : Nat), SlsOk K H ss σ → SlsOk K H (ss.set i s) (σ.set i o)
  | [], [], _, _ => trivial
  | _ :: _, _ :: _, 0, h => ⟨hs, h.2⟩
  | _ :: _, _ :: _, i + 1, h => ⟨h.1, SlsOk.set hs i h.2⟩
/-- less is known -/
inductive SlLe : List Sl → List Sl → Prop
  | nil : SlLe [] []
  | keep {s : Sl} {a b : List Sl} : SlLe a b → SlLe (s :: a) (s :: b)
  | drop {s : Sl} {a b : List Sl} : SlLe a b → SlLe (s :: a) (.any :: b)
theorem SlLe.refl : ∀ (a : List Sl), SlLe a a
  | [] => .nil
  | _ :: r => .keep (SlLe.refl r)
theorem SlsOk.le {K : Fg} {H : Hp} : ∀ {a b : List Sl} {σ : St}, SlLe a b → SlsOk K H a σ → SlsOk K H b σ
  | _, _, [], .nil, _ => trivial
  | _, _, _ :: _, .keep l, h => ⟨h.1, SlsOk.le l h.2⟩
  | _, _, _ :: _, .drop l, h => ⟨trivial, SlsOk.le l h.2⟩

/-- what an object stands for, by what is known in H -/
class Ob (γ : Type) where
  ob : Fg → Hp → HO → γ → Prop
  swap : ∀ {K : Fg} {H H' : Hp} {o : HO} {x : γ}, Sw H H' → ob K H o x → ob K H' o x
theorem Ob.mono {γ : Type} [i : Ob γ] {K : Fg} {H H' : Hp} {o : HO} {x : γ} (e : Ex H H') (h : Ob.ob K H o x) : Ob.ob K H' o x := i.swap (.of e) h
/-- an object of one's own, that may change -/
inductive Ow : Type 1 where
  | lst (p : Addr) (α : Type) (i : Rp α) (xs : List α)
  | obj (p : Addr) (γ : Type) (i : Ob γ) (x : γ)
def oo {γ : Type} [i : Ob γ] (p : Addr) (x : γ) : Ow := .obj p γ i x
def ol {α : Type} [i : Rp α] (p : Addr) (xs : List α) : Ow := .lst p α i xs
def Ow.ad : Ow → Addr
  | .lst p _ _ _ => p
  | .obj p _ _ _ => p
def Ow.ok (K : Fg) (Kn H : Hp) : Ow → Prop
  | .lst p _ i xs => ∃ vs, H p = some (.lst vs) ∧ Paired (i.rep K Kn) vs xs
  | .obj p _ i x => ∃ o, H p = some o ∧ i.ob K Kn o x
theorem Ow.ok_swap {K : Fg} {Kn Kn' H H' : Hp} (e : Sw Kn Kn') : ∀ {o : Ow}, H' o.ad = H o.ad → o.ok K Kn H → o.ok K Kn' H'
  | .lst _ _ i _, eh, ⟨vs, h1, h2⟩ => ⟨vs, eh.trans h1, Paired.mapP h2 fun _ _ q => i.swap e q⟩
  | .obj _ _ i _, eh, ⟨o, h1, h2⟩ => ⟨o, eh.trans h1, i.swap e h2⟩
theorem Ow.ok_mono {K : Fg} {Kn Kn' H H' : Hp} (e : Ex Kn Kn') {o : Ow} (eh : H' o.ad = H o.ad) (h : o.ok K Kn H) : o.ok K Kn' H' := Ow.ok_swap (.of e) eh h
theorem ne_none_of {H : Hp} {p : Addr} {o : HO} (h : H p = some o) : H p ≠ none := fun z => by
  rw [h] at z
  cases z
theorem Ow.there {K : Fg} {Kn H : Hp} : ∀ {o : Ow}, o.ok K Kn H → H o.ad ≠ none
  | .lst p _ _ _, h => by
    obtain ⟨vs, h, _⟩ := h
    exact ne_none_of (show H p = some (.lst vs) from h)
  | .obj p _ _ _, h => by
    obtain ⟨o, h, _⟩ := h
    exact ne_none_of (show H p = some o from h)
structure OwsOk (K : Fg) (F Kn H : Hp) (ow : List Ow) : Prop where
  each : ∀ o ∈ ow, F o.ad = none ∧ Kn o.ad = none ∧ o.ok K Kn H
  nd : (ow.map Ow.ad).Nodup

/-- the state: F stands untouched, Kn is known (by and by more), the slots, the objects of one's own -/
structure S (K : Fg) (F Kn0 : Hp) (sl : List Sl) (ow : List Ow) (σ : St) (Kn H : Hp) : Prop where
  e0 : Ex Kn0 Kn
  ek : Ex Kn H
  ef : Ex F H
  sep : ∀ p, F p ≠ none → Kn0 p = none → Kn p = none
  sl : SlsOk K Kn sl σ
  ow : OwsOk K F Kn H ow

/-- growth: nothing that stood is touched, nothing that stood unknown is known -/
structure Gr (Kn H Kn' H' : Hp) : Prop where
  kk : Ex Kn Kn'
  hh : Ex H H'
  kh : Ex Kn' H'
  sp : ∀ p, H p ≠ none → Kn p = none → Kn' p = none
theorem Gr.refl {Kn H : Hp} (e : Ex Kn H) : Gr Kn H Kn H := ⟨Ex.refl _, Ex.refl _, e, fun _ _ h => h⟩
theorem Ex.nn {H H' : Hp} (e : Ex H H') {p : Addr} (h : H p ≠ none) : H' p ≠ none := by
  cases q : H p with
  | none => exact absurd q h
  | some o => exact ne_none_of (e _ _ q)
theorem Ex.at_eq {H H' : Hp} (e : Ex H H') {p : Addr} (h : H p ≠ none) : H' p = H p := by
  cases q : H p with
  | none => exact absurd q h
  | some o => exact e _ _ q
theorem Gr.trans {Kn H Kn1 H1 Kn2 H2 : Hp} (a : Gr Kn H Kn1 H1) (b : Gr Kn1 H1 Kn2 H2) : Gr Kn H Kn2 H2 :=
  ⟨a.kk.trans b.kk, a.hh.trans b.hh, b.kh, fun p h1 h2 => b.sp p (Ex.nn a.hh h1) (a.sp p h1 h2)⟩
/-- a new object, known -/
theorem Gr.new {Kn H : Hp} {p : Addr} {o : HO} (e : Ex Kn H) (hp : H p = none) : Gr Kn H (upd Kn p o) (upd H p o) := by
  have kp : Kn p = none := fresh_back e hp
  refine ⟨Ex.new kp, Ex.new hp, fun a u h => ?_, fun q h1 h2 => ?_⟩
  · by_cases hq : a = p
    · subst hq
      rw [upd_same] at h ⊢
      exact h
    · rw [upd_ne hq] at h ⊢
      exact e _ _ h
  · have hq : q ≠ p := fun z => by
      subst z
      exact h1 hp
    rw [upd_ne hq]
    exact h2
/-- a new object, not known yet -/
theorem Gr.newU {Kn H : Hp} {p : Addr} {o : HO} (e : Ex Kn H) (hp : H p = none) : Gr Kn H Kn (upd H p o) :=
  ⟨Ex.refl _, Ex.new hp, e.trans (Ex.new hp), fun _ _ h2 => h2⟩
/-- what was new is known from now on -/
theorem Gr.know {Kn H Kn' H' : Hp} {p : Addr} {o : HO} (g : Gr Kn H Kn' H') (hp : H p = none) (kp : Kn' p = none) (hp' : H' p = some o) : Gr Kn H (upd Kn' p o) H' :=
  ⟨g.kk.trans (Ex.new kp), g.hh, fun a u h => by
    by_cases hq : a = p
    · subst hq
      rw [upd_same] at h
      rw [← h]
      exact hp'
    · rw [upd_ne hq] at h
      exact g.kh _ _ h, fun q h1 h2 => by
    have hq : q ≠ p := fun z => by
      subst z
      exact h1 hp
    rw [upd_ne hq]
    exact g.sp q h1 h2⟩

section
variable {K : Fg} {F Kn0 : Hp} {sl sl' : List Sl} {ow ow' : List Ow} {σ : St} {Kn H Kn' H' : Hp}
theorem S.grow (s : S K F Kn0 sl ow σ Kn H) (g : Gr Kn H Kn' H') : S K F Kn0 sl ow σ Kn' H' :=
  ⟨s.e0.trans g.kk, g.kh, s.ef.trans g.hh, fun p h1 h2 => g.sp p (Ex.nn s.ef h1) (s.sep p h1 h2), s.sl.mono g.kk,
    ⟨fun o ho => by
      obtain ⟨h1, h2, h3⟩ := s.ow.each o ho
      have h4 := Ow.there h3
      exact ⟨h1, g.sp _ h4 h2, Ow.ok_mono g.kk (Ex.at_eq g.hh h4) h3⟩, s.ow.nd⟩⟩
theorem S.le (s : S K F Kn0 sl ow σ Kn H) (l : SlLe sl sl') : S K F Kn0 sl' ow σ Kn H := ⟨s.e0, s.ek, s.ef, s.sep, s.sl.le l, s.ow⟩
theorem S.set (s : S K F Kn0 sl ow σ Kn H) {x : Sl} {o : Option V} (i : Nat) (h : x.ok K Kn o) : S K F Kn0 (sl.set i x) ow (σ.set i o) Kn H :=
  ⟨s.e0, s.ek, s.ef, s.sep, SlsOk.set h i s.sl, s.ow⟩
theorem S.setv (s : S K F Kn0 sl ow σ Kn H) {α : Type} [Rp α] {x : α} {v : V} (i : Nat) (h : rep K Kn v x) : S K F Kn0 (sl.set i (sv x)) ow (σ.set i (some v)) Kn H :=
  s.set i ⟨v, rfl, h⟩
/-- some objects are not named any more -/
theorem S.sub (s : S K F Kn0 sl ow σ Kn H) (l : ow'.Sublist ow) : S K F Kn0 sl ow' σ Kn H :=
  ⟨s.e0, s.ek, s.ef, s.sep, s.sl, ⟨fun o ho => s.ow.each o (l.subset ho), s.ow.nd.sublist (l.map _)⟩⟩
theorem S.fin (s : S K F Kn0 sl ow σ Kn H) : S K F Kn0 [] ow [] Kn H := ⟨s.e0, s.ek, s.ef, s.sep, trivial, s.ow⟩
end

/-! ### the judgements -/
section
variable (K : Fg) (F Kn0 : Hp) (sl : List Sl) (ow : List Ow)
def EV {α : Type} [Rp α] (te : TE) (x : α) : Prop := ∀ σ Kn H, S K F Kn0 sl ow σ Kn H → ∀ Q : VK, (∀ v Kn' H', Gr Kn H Kn' H' → rep K Kn' v x → Q v H') → te σ H Q
/-- a new list -/
def EN {α : Type} [Rp α] (te : TE) (xs : List α) : Prop := ∀ σ Kn H, S K F Kn0 sl ow σ Kn H → ∀ Q : VK,
  (∀ p ws Kn' H', Gr Kn H Kn' H' → H p = none → Kn' p = none → H' p = some (.lst ws) → Paired (rep K Kn') ws xs → Q (.ref p) H') → te σ H Q
/-- what is changed on the way is told: ow, then ow' -/
def EM {α : Type} [Rp α] (te : TE) (ow' : List Ow) (x : α) : Prop := ∀ σ Kn H, S K F Kn0 sl ow σ Kn H → ∀ Q : VK,
  (∀ v Kn' H', Ex Kn Kn' → S K F Kn0 sl ow' σ Kn' H' → rep K Kn' v x → Q v H') → te σ H Q
def ENM {α : Type} [Rp α] (te : TE) (ow' : List Ow) (xs : List α) : Prop := ∀ σ Kn H, S K F Kn0 sl ow σ Kn H → ∀ Q : VK,
  (∀ p ws Kn' H', Ex Kn Kn' → S K F Kn0 sl ow' σ Kn' H' → F p = none → Kn' p = none → (∀ o ∈ ow', o.ad ≠ p) → H' p = some (.lst ws) → Paired (rep K Kn') ws xs → Q (.ref p) H') → te σ H Q
def ET (tt : TT) (b : Bool) : Prop := ∀ σ Kn H, S K F Kn0 sl ow σ Kn H → ∀ Q : Bool → Hp → Prop, (∀ Kn' H', Gr Kn H Kn' H' → Q b H') → tt σ H Q
def EA {τ : Type} [Tp τ] (ta : TA) (t : τ) : Prop := ∀ σ Kn H, S K F Kn0 sl ow σ Kn H → ∀ Q : List V → Hp → Prop, (∀ vs Kn' H', Gr Kn H Kn' H' → rept K Kn' vs t → Q vs H') → ta σ H Q
def EAM {τ : Type} [Tp τ] (ta : TA) (ow' : List Ow) (t : τ) : Prop := ∀ σ Kn H, S K F Kn0 sl ow σ Kn H → ∀ Q : List V → Hp → Prop,
  (∀ vs Kn' H', Ex Kn Kn' → S K F Kn0 sl ow' σ Kn' H' → rept K Kn' vs t → Q vs H') → ta σ H Q
def SB (D : Ends) (ts : TS) : Prop := ∀ σ Kn H, S K F Kn0 sl ow σ Kn H → ts D σ H
/-- what is wanted of a return -/
def RT (R : VK) {α : Type} [Rp α] (x : α) : Prop := ∀ v Kn H, S K F Kn0 [] ow [] Kn H → rep K Kn v x → R v H
def RN (R : VK) {α : Type} [Rp α] (xs : List α) : Prop := ∀ p ws Kn H, S K F Kn0 [] ow [] Kn H → F p = none → Kn p = none → H p = some (.lst ws) → Paired (rep K Kn) ws xs → R (.ref p) H
end

section
variable {K : Fg} {F Kn0 : Hp} {sl sl' : List Sl} {ow ow1 ow2 : List Ow} {α β γ : Type} [Rp α] [Rp β] [Rp γ] {ta tb te : TE} {x : α} {y : β} {z : γ}
theorem EN.ev {xs : List α} (h : EN K F Kn0 sl ow te xs) : EV K F Kn0 sl ow te xs := fun σ Kn H s Q q => h σ Kn H s Q fun p ws Kn' H' g hp kp hw r =>
  q _ (upd Kn' p (.lst ws)) H' (g.know hp kp hw) ⟨p, ws, rfl, upd_same, paired_mono (Ex.new kp) r⟩
theorem EV.em (h : EV K F Kn0 sl ow te x) : EM K F Kn0 sl ow te ow x := fun σ Kn H s Q q => h σ Kn H s Q fun v Kn' H' g r => q v Kn' H' g.kk (s.grow g) r
theorem owned_ne {σ : St} {Kn H : Hp} (s : S K F Kn0 sl ow σ Kn H) {p : Addr} (hp : H p = none) : ∀ o ∈ ow, o.ad ≠ p := fun o ho z => by
  have := Ow.there (s.ow.each o ho).2.2
  rw [z] at this
  exact this hp
theorem EN.em {xs : List α} (h : EN K F Kn0 sl ow te xs) : ENM K F Kn0 sl ow te ow xs := fun σ Kn H s Q q => h σ Kn H s Q fun p ws Kn' H' g hp kp hw r =>
  q p ws Kn' H' g.kk (s.grow g) (fresh_back s.ef hp) kp (owned_ne s hp) hw r
theorem S.know {σ : St} {Kn H : Hp} (s : S K F Kn0 sl ow σ Kn H) {p : Addr} {o : HO} (fp : F p = none) (kp : Kn p = none) (no : ∀ o ∈ ow, o.ad ≠ p) (hp : H p = some o) : S K F Kn0 sl ow σ (upd Kn p o) H :=
  ⟨s.e0.trans (Ex.new kp), fun a u h => by
    by_cases hq : a = p
    · subst hq
      rw [upd_same] at h
      rw [← h]
      exact hp
    · rw [upd_ne hq] at h
      exact s.ek _ _ h, s.ef, fun q h1 h2 => by
    have hq : q ≠ p := fun z => by
      subst z
      exact h1 fp
    rw [upd_ne hq]
    exact s.sep q h1 h2, s.sl.mono (Ex.new kp), ⟨fun o ho => by
      obtain ⟨h1, h2, h3⟩ := s.ow.each o ho
      exact ⟨h1, by rw [upd_ne (no o ho)]; exact h2, Ow.ok_mono (Ex.new kp) rfl h3⟩, s.ow.nd⟩⟩
theorem ENM.em {xs : List α} (h : ENM K F Kn0 sl ow te ow1 xs) : EM K F Kn0 sl ow te ow1 xs := fun σ Kn H s Q q => h σ Kn H s Q fun p ws Kn' H' e s' fp kp no hw r =>
  q _ (upd Kn' p (.lst ws)) H' (e.trans (Ex.new kp)) (s'.know fp kp no hw) ⟨p, ws, rfl, upd_same, paired_mono (Ex.new kp) r⟩
theorem EV.cast {x' : α} (h : EV K F Kn0 sl ow te x) (e : x = x') : EV K F Kn0 sl ow te x' := e ▸ h
theorem ET.cast {tt : TT} {b b' : Bool} (h : ET K F Kn0 sl ow tt b) (e : b = b') : ET K F Kn0 sl ow tt b' := e ▸ h
end
end Wk
/-! Wk2: rules for expressions -/
namespace Wk
open PySem PySem.Spec L2 Evl
section
variable {K : Fg} {F Kn0 : Hp} {sl sl' : List Sl} {ow ow1 ow2 : List Ow} {α β γ τ : Type} [Rp α] [Rp β] [Rp γ] [Tp τ] {ta tb te : TE} {x : α} {y : β} {z : γ}

theorem paired_fl {α : Type} [Rp α] [Fl α] {H : Hp} : ∀ {vs : List V} {xs : List α}, Paired (rep K H) vs xs → vs = xs.map Fl.toV
  | _, _, .nil => rfl
  | _, _, .cons h t => by rw [List.map_cons, ← paired_fl t, Fl.iff.mp h]
theorem fl_paired {α : Type} [Rp α] [Fl α] {H : Hp} : ∀ (xs : List α), Paired (rep K H) (xs.map Fl.toV) xs
  | [] => .nil
  | _ :: t => .cons (Fl.iff.mpr rfl) (fl_paired t)
theorem paired_len {H : Hp} {vs : List V} {xs : List α} (h : Paired (rep K H) vs xs) : vs.length = xs.length := Paired.length h
theorem paired_at {F : V → α → Prop} : ∀ {vs : List V} {xs : List α}, Paired F vs xs → ∀ {j : Nat} {a : α}, xs[j]? = some a → ∃ v, vs[j]? = some v ∧ F v a
  | _, _, .nil, _, _, e => by simp at e
  | _, _, .cons r _, 0, _, e => by
    simp at e
    subst e
    exact ⟨_, rfl, r⟩
  | _, _, .cons _ t, j + 1, a, e => by
    obtain ⟨v, h1, h2⟩ := paired_at t (j := j) (a := a) (by simpa using e)
    exact ⟨v, by simpa using h1, h2⟩
theorem paired_append {F : V → α → Prop} : ∀ {vs ws : List V} {xs ys : List α}, Paired F vs xs → Paired F ws ys → Paired F (vs ++ ws) (xs ++ ys)
  | _, _, _, _, .nil, h => h
  | _, _, _, _, .cons r t, h => .cons r (paired_append t h)
theorem paired_drop {F : V → α → Prop} : ∀ {vs : List V} {xs : List α} (n : Nat), Paired F vs xs → Paired F (vs.drop n) (xs.drop n)
  | _, _, 0, h => h
  | _, _, _ + 1, .nil => .nil
  | _, _, n + 1, .cons _ t => paired_drop n t
theorem paired_take {F : V → α → Prop} : ∀ {vs : List V} {xs : List α} (n : Nat), Paired F vs xs → Paired F (vs.take n) (xs.take n)
  | _, _, 0, _ => .nil
  | _, _, _ + 1, .nil => .nil
  | _, _, n + 1, .cons r t => .cons r (paired_take n t)
theorem paired_set {F : V → α → Prop} {v : V} {a : α} (h : F v a) : ∀ {vs : List V} {xs : List α} (n : Nat), Paired F vs xs → Paired F (vs.set n v) (xs.set n a)
  | _, _, _, .nil => .nil
  | _, _, 0, .cons _ t => .cons h t
  | _, _, n + 1, .cons r t => .cons r (paired_set h n t)
theorem paired_atI {H : Hp} {vs : List V} {xs : List α} (h : Paired (rep K H) vs xs) {i : Int} {a : α} (e : atI xs i = some a) : ∃ v, atI vs i = some v ∧ rep K H v a := by
  unfold atI at e ⊢
  rw [paired_len h]
  cases q : ixN xs.length i with
  | none => rw [q] at e; cases e
  | some j =>
    rw [q] at e
    exact paired_at h e

/-! ### results of rules by values -/
def RS (K : Fg) (Kn H : Hp) (Q : VK) (z : γ) : Prop := ∀ u Kn' H', Gr Kn H Kn' H' → rep K Kn' u z → Q u H'
def RL (K : Fg) (Kn H : Hp) (Q : VK) (zs : List γ) : Prop := ∀ p ws Kn' H', Gr Kn H Kn' H' → H p = none → Kn' p = none → H' p = some (.lst ws) → Paired (rep K Kn') ws zs → Q (.ref p) H'
theorem RS.rl {Kn H : Hp} {Q : VK} {zs : List γ} (h : RS K Kn H Q zs) : RL K Kn H Q zs := fun p ws Kn' H' g hp kp hw r =>
  h _ (upd Kn' p (.lst ws)) H' (g.know hp kp hw) ⟨p, ws, rfl, upd_same, paired_mono (Ex.new kp) r⟩
theorem RS.fl {γ : Type} [Rp γ] [Fl γ] {z : γ} {Kn H : Hp} {Q : VK} (h : RS K Kn H Q z) (e : Ex Kn H) : Q (Fl.toV z) H := h _ Kn H (Gr.refl e) (Fl.iff.mpr rfl)
theorem RS.at {Kn H : Hp} {Q : VK} {z : γ} (h : RS K Kn H Q z) (e : Ex Kn H) {v : V} (r : rep K Kn v z) : Q v H := h _ Kn H (Gr.refl e) r

def R1V (r : V → Hp → VK → Prop) (x : α) (z : γ) : Prop := ∀ (K : Fg) Kn H v, Ex Kn H → rep K Kn v x → ∀ Q, RS K Kn H Q z → r v H Q
def R2V (K : Fg) (r : R2) (x : α) (y : β) (z : γ) : Prop := ∀ Kn H v w, Ex Kn H → rep K Kn v x → rep K Kn w y → ∀ Q, RS K Kn H Q z → r v w H Q
def R2L (K : Fg) (r : R2) (x : α) (y : β) (zs : List γ) : Prop := ∀ Kn H v w, Ex Kn H → rep K Kn v x → rep K Kn w y → ∀ Q, RL K Kn H Q zs → r v w H Q
def RCV (K : Fg) (r : List V → Hp → VK → Prop) (t : τ) (z : γ) : Prop := ∀ Kn H vs, Ex Kn H → rept K Kn vs t → ∀ Q, RS K Kn H Q z → r vs H Q
def RCL (K : Fg) (r : List V → Hp → VK → Prop) (t : τ) (zs : List γ) : Prop := ∀ Kn H vs, Ex Kn H → rept K Kn vs t → ∀ Q, RL K Kn H Q zs → r vs H Q

/-! ### names, constants, operators -/
theorem ev_var {i : Nat} (h : sl[i]? = some (sv x)) : EV K F Kn0 sl ow (tVar i) x := fun σ Kn H s Q q => by
  obtain ⟨o, h1, v, h2, h3⟩ := s.sl.get h
  exact ⟨v, by rw [h1, h2], q v Kn H (Gr.refl s.ek) h3⟩
theorem ev_c {γ : Type} [Rp γ] [Fl γ] (z : γ) {v : V} (e : v = Fl.toV z := by rfl) : EV K F Kn0 sl ow (tC v) z := fun σ Kn H s Q q => q v Kn H (Gr.refl s.ek) (Fl.iff.mpr e)
theorem ev_none : EV K F Kn0 sl ow (tC .non) (none : Option α) := fun σ Kn H s Q q => q .non Kn H (Gr.refl s.ek) rfl
theorem ev_un {r : V → Hp → VK → Prop} (ha : EV K F Kn0 sl ow ta x) (hr : R1V r x z) : EV K F Kn0 sl ow (tUn r ta) z := fun σ Kn H s Q q =>
  ha σ Kn H s _ fun v Kn1 H1 g1 r1 => hr K Kn1 H1 v g1.kh r1 Q fun u Kn' H' g' r' => q u Kn' H' (g1.trans g') r'
theorem ev_op {r : R2} (ha : EV K F Kn0 sl ow ta x) (hb : EV K F Kn0 sl ow tb y) (hr : R2V K r x y z) : EV K F Kn0 sl ow (tOp r ta tb) z := fun σ Kn H s Q q =>
  ha σ Kn H s _ fun v Kn1 H1 g1 r1 => hb σ Kn1 H1 (s.grow g1) _ fun w Kn2 H2 g2 r2 => hr Kn2 H2 v w g2.kh (Rp.mono g2.kk r1) r2 Q fun u Kn' H' g' r' => q u Kn' H' ((g1.trans g2).trans g') r'
theorem en_op {r : R2} {zs : List γ} (ha : EV K F Kn0 sl ow ta x) (hb : EV K F Kn0 sl ow tb y) (hr : R2L K r x y zs) : EN K F Kn0 sl ow (tOp r ta tb) zs := fun σ Kn H s Q q =>
  ha σ Kn H s _ fun v Kn1 H1 g1 r1 => hb σ Kn1 H1 (s.grow g1) _ fun w Kn2 H2 g2 r2 => hr Kn2 H2 v w g2.kh (Rp.mono g2.kk r1) r2 Q fun p ws Kn' H' g' hp kp hw r' =>
    q p ws Kn' H' ((g1.trans g2).trans g') (fresh_back (g1.trans g2).hh hp) kp hw r'
theorem em_op {r : R2} (ha : EM K F Kn0 sl ow ta ow1 x) (hb : EM K F Kn0 sl ow1 tb ow2 y) (hr : R2V K r x y z) : EM K F Kn0 sl ow (tOp r ta tb) ow2 z := fun σ Kn H s Q q =>
  ha σ Kn H s _ fun v Kn1 H1 e1 s1 r1 => hb σ Kn1 H1 s1 _ fun w Kn2 H2 e2 s2 r2 => hr Kn2 H2 v w s2.ek (Rp.mono e2 r1) r2 Q fun u Kn' H' g' r' => q u Kn' H' ((e1.trans e2).trans g'.kk) (s2.grow g') r'
theorem r2_I0 {γ : Type} [Rp γ] [Fl γ] {z : γ} {g : Int → Int → V} {i j : Int} (e : g i j = Fl.toV z := by rfl) : R2V K (rI0 g) i j z := fun Kn H v w ek h1 h2 Q q => ⟨i, j, h1, h2, e ▸ q.fl ek⟩
theorem r2_I {γ : Type} [Rp γ] [Fl γ] {z : γ} {C : Int → Int → Prop} {g : Int → Int → V} {i j : Int} (c : C i j) (e : g i j = Fl.toV z := by rfl) : R2V K (rI C g) i j z := fun Kn H v w ek h1 h2 Q q => ⟨i, j, h1, h2, c, e ▸ q.fl ek⟩
theorem r1_neg {i : Int} : R1V (rU fun i => .int (-i)) i (-i) := fun K Kn H v ek h1 Q q => ⟨i, h1, q.fl ek⟩
theorem r2_eqI {i j : Int} : R2V K rEq i j (decide (i = j)) := fun Kn H v w ek h1 h2 Q q => by
  cases h1
  cases h2
  refine ⟨rfl, ?_⟩
  have e : decide (V.int i = V.int j) = decide (i = j) := by simp
  rw [e]
  exact q.fl ek
theorem r2_neI {i j : Int} : R2V K rNe i j (!decide (i = j)) := fun Kn H v w ek h1 h2 Q q => by
  cases h1
  cases h2
  refine ⟨rfl, ?_⟩
  have e : decide (V.int i = V.int j) = decide (i = j) := by simp
  rw [e]
  exact q.fl ek
theorem r2_eqS {i j : Str} : R2V K rEq i j (decide (i = j)) := fun Kn H v w ek h1 h2 Q q => by
  cases h1
  cases h2
  refine ⟨rfl, ?_⟩
  have e : decide (V.str i = V.str j) = decide (i = j) := by simp
  rw [e]
  exact q.fl ek
theorem r2_neS {i j : Str} : R2V K rNe i j (!decide (i = j)) := fun Kn H v w ek h1 h2 Q q => by
  cases h1
  cases h2
  refine ⟨rfl, ?_⟩
  have e : decide (V.str i = V.str j) = decide (i = j) := by simp
  rw [e]
  exact q.fl ek
theorem r2_eqB {i j : Bool} : R2V K rEq i j (decide (i = j)) := fun Kn H v w ek h1 h2 Q q => by
  cases h1
  cases h2
  refine ⟨rfl, ?_⟩
  have e : decide (V.bl i = V.bl j) = decide (i = j) := by simp
  rw [e]
  exact q.fl ek

/-! ### arguments, tuples, lists -/
theorem ea_nil : EA K F Kn0 sl ow tNil () := fun σ Kn H s Q q => q [] Kn H (Gr.refl s.ek) rfl
theorem ea_cons {tr : TA} {t : τ} (h : EV K F Kn0 sl ow ta x) (hr : EA K F Kn0 sl ow tr t) : EA K F Kn0 sl ow (tCons ta tr) (x, t) := fun σ Kn H s Q q =>
  h σ Kn H s _ fun v Kn1 H1 g1 r1 => hr σ Kn1 H1 (s.grow g1) _ fun vs Kn2 H2 g2 r2 => q _ Kn2 H2 (g1.trans g2) ⟨v, vs, rfl, Rp.mono g2.kk r1, r2⟩
theorem eam_nil : EAM K F Kn0 sl ow tNil ow () := fun σ Kn H s Q q => q [] Kn H (Ex.refl _) s rfl
theorem eam_cons {tr : TA} {t : τ} (h : EM K F Kn0 sl ow ta ow1 x) (hr : EAM K F Kn0 sl ow1 tr ow2 t) : EAM K F Kn0 sl ow (tCons ta tr) ow2 (x, t) := fun σ Kn H s Q q =>
  h σ Kn H s _ fun v Kn1 H1 e1 s1 r1 => hr σ Kn1 H1 s1 _ fun vs Kn2 H2 e2 s2 r2 => q _ Kn2 H2 (e1.trans e2) s2 ⟨v, vs, rfl, Rp.mono e2 r1, r2⟩
theorem EA.eam {ta : TA} {t : τ} (h : EA K F Kn0 sl ow ta t) : EAM K F Kn0 sl ow ta ow t := fun σ Kn H s Q q => h σ Kn H s Q fun vs Kn' H' g r => q vs Kn' H' g.kk (s.grow g) r
/-- alike things -/
def EL {α : Type} [Rp α] (K : Fg) (F Kn0 : Hp) (sl : List Sl) (ow : List Ow) (ta : TA) (xs : List α) : Prop := ∀ σ Kn H, S K F Kn0 sl ow σ Kn H → ∀ Q : List V → Hp → Prop, (∀ vs Kn' H', Gr Kn H Kn' H' → Paired (rep K Kn') vs xs → Q vs H') → ta σ H Q
def ELM {α : Type} [Rp α] (K : Fg) (F Kn0 : Hp) (sl : List Sl) (ow : List Ow) (ta : TA) (ow' : List Ow) (xs : List α) : Prop := ∀ σ Kn H, S K F Kn0 sl ow σ Kn H → ∀ Q : List V → Hp → Prop, (∀ vs Kn' H', Ex Kn Kn' → S K F Kn0 sl ow' σ Kn' H' → Paired (rep K Kn') vs xs → Q vs H') → ta σ H Q
theorem el_nil : EL K F Kn0 sl ow tNil ([] : List α) := fun σ Kn H s Q q => q [] Kn H (Gr.refl s.ek) .nil
theorem el_cons {tr : TA} {xs : List α} (h : EV K F Kn0 sl ow ta x) (hr : EL K F Kn0 sl ow tr xs) : EL K F Kn0 sl ow (tCons ta tr) (x :: xs) := fun σ Kn H s Q q =>
  h σ Kn H s _ fun v Kn1 H1 g1 r1 => hr σ Kn1 H1 (s.grow g1) _ fun vs Kn2 H2 g2 r2 => q _ Kn2 H2 (g1.trans g2) (.cons (Rp.mono g2.kk r1) r2)
theorem elm_nil : ELM K F Kn0 sl ow tNil ow ([] : List α) := fun σ Kn H s Q q => q [] Kn H (Ex.refl _) s .nil
theorem elm_cons {tr : TA} {xs : List α} (h : EM K F Kn0 sl ow ta ow1 x) (hr : ELM K F Kn0 sl ow1 tr ow2 xs) : ELM K F Kn0 sl ow (tCons ta tr) ow2 (x :: xs) := fun σ Kn H s Q q =>
  h σ Kn H s _ fun v Kn1 H1 e1 s1 r1 => hr σ Kn1 H1 s1 _ fun vs Kn2 H2 e2 s2 r2 => q _ Kn2 H2 (e1.trans e2) s2 (.cons (Rp.mono e2 r1) r2)
theorem le_line {n : Nat} (h : n ≤ 1000000) : n ≤ sizeLine := Nat.le_trans h (by decide)
theorem lt_line {n : Nat} (h : n < 1000000) : n < sizeLine := Nat.lt_of_lt_of_le h (by decide)
theorem en_lst {ta : TA} {xs : List α} (h : EL K F Kn0 sl ow ta xs) (hz : xs.length ≤ 1000000 := by exact Nat.le_of_ble_eq_true rfl) : EN K F Kn0 sl ow (tLst ta) xs := fun σ Kn H s Q q =>
  h σ Kn H s _ fun vs Kn1 H1 g1 r1 => ⟨by rw [paired_len r1]; exact le_line hz, fun p hp => q p vs Kn1 _ (g1.trans (Gr.newU g1.kh hp)) (fresh_back g1.hh hp) (fresh_back g1.kh hp) upd_same r1⟩
theorem enm_lst {ta : TA} {xs : List α} (h : ELM K F Kn0 sl ow ta ow1 xs) (hz : xs.length ≤ 1000000 := by exact Nat.le_of_ble_eq_true rfl) : ENM K F Kn0 sl ow (tLst ta) ow1 xs := fun σ Kn H s Q q =>
  h σ Kn H s _ fun vs Kn1 H1 e1 s1 r1 => ⟨by rw [paired_len r1]; exact le_line hz, fun p hp =>
    q p vs Kn1 _ e1 (s1.grow (Gr.newU s1.ek hp)) (fresh_back s1.ef hp) (fresh_back s1.ek hp) (owned_ne s1 hp) upd_same r1⟩
theorem ev_tup {ta : TA} {t : α × τ} (h : EA K F Kn0 sl ow ta t) (hz : Tp.n (α × τ) ≤ 1000000 := by decide) : EV K F Kn0 sl ow (tTup ta) t := fun σ Kn H s Q q =>
  h σ Kn H s _ fun vs Kn1 H1 g1 r1 => ⟨by rw [Tp.len r1]; exact le_line hz, fun p hp =>
    q _ (upd Kn1 p (.tup vs)) _ (g1.trans (Gr.new g1.kh hp)) ⟨p, vs, rfl, upd_same, Tp.mono (Gr.new g1.kh hp).kk r1⟩⟩
theorem em_tup {ta : TA} {t : α × τ} (h : EAM K F Kn0 sl ow ta ow1 t) (hz : Tp.n (α × τ) ≤ 1000000 := by decide) : EM K F Kn0 sl ow (tTup ta) ow1 t := fun σ Kn H s Q q =>
  h σ Kn H s _ fun vs Kn1 H1 e1 s1 r1 => ⟨by rw [Tp.len r1]; exact le_line hz, fun p hp =>
    q _ (upd Kn1 p (.tup vs)) _ (e1.trans (Gr.new s1.ek hp).kk) (s1.grow (Gr.new s1.ek hp)) ⟨p, vs, rfl, upd_same, Tp.mono (Gr.new s1.ek hp).kk r1⟩⟩
theorem ev_tuH {ta : TA} {xs : List α} (h : EL K F Kn0 sl ow ta xs) (hz : xs.length ≤ 1000000 := by exact Nat.le_of_ble_eq_true rfl) : EV K F Kn0 sl ow (tTup ta) (Tu.mk xs) := fun σ Kn H s Q q =>
  h σ Kn H s _ fun vs Kn1 H1 g1 r1 => ⟨by rw [paired_len r1]; exact le_line hz, fun p hp =>
    q _ (upd Kn1 p (.tup vs)) _ (g1.trans (Gr.new g1.kh hp)) ⟨p, vs, rfl, upd_same, paired_mono (Gr.new g1.kh hp).kk r1⟩⟩

/-! ### built-ins, defs -/
theorem ev_cb {r : List V → Hp → VK → Prop} {ta : TA} {t : τ} (h : EA K F Kn0 sl ow ta t) (hr : RCV K r t z) : EV K F Kn0 sl ow (tCB r ta) z := fun σ Kn H s Q q =>
  h σ Kn H s _ fun vs Kn1 H1 g1 r1 => hr Kn1 H1 vs g1.kh r1 Q fun u Kn' H' g' r' => q u Kn' H' (g1.trans g') r'
theorem en_cb {r : List V → Hp → VK → Prop} {ta : TA} {t : τ} {zs : List γ} (h : EA K F Kn0 sl ow ta t) (hr : RCL K r t zs) : EN K F Kn0 sl ow (tCB r ta) zs := fun σ Kn H s Q q =>
  h σ Kn H s _ fun vs Kn1 H1 g1 r1 => hr Kn1 H1 vs g1.kh r1 Q fun p ws Kn' H' g' hp kp hw r' => q p ws Kn' H' (g1.trans g') (fresh_back g1.hh hp) kp hw r'
theorem em_cb {r : List V → Hp → VK → Prop} {ta : TA} {t : τ} (h : EAM K F Kn0 sl ow ta ow1 t) (hr : RCV K r t z) : EM K F Kn0 sl ow (tCB r ta) ow1 z := fun σ Kn H s Q q =>
  h σ Kn H s _ fun vs Kn1 H1 e1 s1 r1 => hr Kn1 H1 vs s1.ek r1 Q fun u Kn' H' g' r' => q u Kn' H' (e1.trans g'.kk) (s1.grow g') r'
theorem one_arg {Kn : Hp} {vs : List V} {x : α} (h : rept K Kn vs (x, ())) : ∃ v, vs = [v] ∧ rep K Kn v x := by
  obtain ⟨v, r, rfl, h1, h2⟩ := h
  cases h2
  exact ⟨v, rfl, h1⟩
theorem two_args {Kn : Hp} {vs : List V} {x : α} {y : β} (h : rept K Kn vs (x, y, ())) : ∃ v w, vs = [v, w] ∧ rep K Kn v x ∧ rep K Kn w y := by
  obtain ⟨v, r, rfl, h1, h2⟩ := h
  obtain ⟨w, rfl, h3⟩ := one_arg h2
  exact ⟨v, w, rfl, h1, h3⟩
theorem rc_max {i j : Int} : RCV K (fun xs H Q => ∃ i j, xs = [.int i, .int j] ∧ Q (.int (if j > i then j else i)) H) (i, j, ()) (max i j) := fun Kn H vs ek h Q q => by
  obtain ⟨v, w, rfl, h1, h2⟩ := two_args h
  cases h1
  cases h2
  refine ⟨i, j, rfl, ?_⟩
  have e : (if j > i then j else i) = max i j := by split <;> omega
  rw [e]
  exact q.fl ek
theorem rc_min {i j : Int} : RCV K (fun xs H Q => ∃ i j, xs = [.int i, .int j] ∧ Q (.int (if j < i then j else i)) H) (i, j, ()) (min i j) := fun Kn H vs ek h Q q => by
  obtain ⟨v, w, rfl, h1, h2⟩ := two_args h
  cases h1
  cases h2
  refine ⟨i, j, rfl, ?_⟩
  have e : (if j < i then j else i) = min i j := by split <;> omega
  rw [e]
  exact q.fl ek
theorem rc_abs {i : Int} : RCV K (fun xs H Q => ∃ i, xs = [.int i] ∧ Q (.int (if i < 0 then -i else i)) H) (i, ()) ((i.natAbs : Int)) := fun Kn H vs ek h Q q => by
  obtain ⟨v, rfl, h1⟩ := one_arg h
  cases h1
  refine ⟨i, rfl, ?_⟩
  have e : (if i < 0 then -i else i) = (i.natAbs : Int) := by split <;> omega
  rw [e]
  exact q.fl ek
theorem rc_len {xs : List α} : RCV K (fun xs H Q => ∃ p ys, xs = [.ref p] ∧ (SqL K H p ys ∨ SqT K H p ys) ∧ Q (.int ys.length) H) (xs, ()) (xs.length : Int) := fun Kn H vs ek h Q q => by
  obtain ⟨v, rfl, p, ws, rfl, h1, h2⟩ := one_arg h
  refine ⟨p, ws, rfl, .inl (sq_of (ek _ _ h1)), ?_⟩
  rw [paired_len h2]
  exact q.fl ek
theorem rc_lenF {xs : Fz α} : RCV K (fun xs H Q => ∃ p ys, xs = [.ref p] ∧ (SqL K H p ys ∨ SqT K H p ys) ∧ Q (.int ys.length) H) (xs, ()) (xs.l.length : Int) := fun Kn H vs ek h Q q => by
  obtain ⟨v, rfl, p, ws, rfl, h1, h2⟩ := one_arg h
  refine ⟨p, ws, rfl, .inl (ex_l ek h1), ?_⟩
  rw [paired_len h2]
  exact q.fl ek
theorem rc_lenT {xs : Tu α} : RCV K (fun xs H Q => ∃ p ys, xs = [.ref p] ∧ (SqL K H p ys ∨ SqT K H p ys) ∧ Q (.int ys.length) H) (xs, ()) (xs.l.length : Int) := fun Kn H vs ek h Q q => by
  obtain ⟨v, rfl, p, ws, rfl, h1, h2⟩ := one_arg h
  refine ⟨p, ws, rfl, .inr (st_of (ek _ _ h1)), ?_⟩
  rw [paired_len h2]
  exact q.fl ek
theorem rc_lenP {t : α × τ} : RCV K (fun xs H Q => ∃ p ys, xs = [.ref p] ∧ (SqL K H p ys ∨ SqT K H p ys) ∧ Q (.int ys.length) H) (t, ()) ((Tp.n (α × τ) : Nat) : Int) := fun Kn H vs ek h Q q => by
  obtain ⟨v, rfl, p, ws, rfl, h1, h2⟩ := one_arg h
  refine ⟨p, ws, rfl, .inr (st_of (ek _ _ h1)), ?_⟩
  rw [Tp.len h2]
  exact q.fl ek
theorem rc_sum {xs : List Int} : RCV K (rSum K) (xs, ()) xs.sum := fun Kn H vs ek h Q q => by
  obtain ⟨v, rfl, p, ws, rfl, h1, h2⟩ := one_arg h
  have e := paired_fl h2
  subst e
  exact ⟨p, xs, rfl, sq_of (ek _ _ h1), q.fl ek⟩
theorem rc_all {xs : List Bool} : RCV K (rAll K) (xs, ()) (xs.all id) := fun Kn H vs ek h Q q => by
  obtain ⟨v, rfl, p, ws, rfl, h1, h2⟩ := one_arg h
  have e := paired_fl h2
  subst e
  exact ⟨p, xs, rfl, sq_of (ek _ _ h1), q.fl ek⟩
theorem rc_any {xs : List Bool} : RCV K (rAny K) (xs, ()) (xs.any id) := fun Kn H vs ek h Q q => by
  obtain ⟨v, rfl, p, ws, rfl, h1, h2⟩ := one_arg h
  have e := paired_fl h2
  subst e
  exact ⟨p, xs, rfl, sq_of (ek _ _ h1), q.fl ek⟩
theorem rc_list {xs : List α} : RCL K (fun xs H Q => ∃ p ys, xs = [.ref p] ∧ (SqL K H p ys ∨ SqT K H p ys) ∧ ∀ l, H l = none → Q (.ref l) (upd H l (.lst ys))) (xs, ()) xs := fun Kn H vs ek h Q q => by
  obtain ⟨v, rfl, p, ws, rfl, h1, h2⟩ := one_arg h
  exact ⟨p, ws, rfl, .inl (sq_of (ek _ _ h1)), fun l hl => q l ws Kn _ (Gr.newU ek hl) hl (fresh_back ek hl) upd_same h2⟩
theorem rc_listF {xs : Fz α} : RCL K (fun xs H Q => ∃ p ys, xs = [.ref p] ∧ (SqL K H p ys ∨ SqT K H p ys) ∧ ∀ l, H l = none → Q (.ref l) (upd H l (.lst ys))) (xs, ()) xs.l := fun Kn H vs ek h Q q => by
  obtain ⟨v, rfl, p, ws, rfl, h1, h2⟩ := one_arg h
  exact ⟨p, ws, rfl, .inl (ex_l ek h1), fun l hl => q l ws Kn _ (Gr.newU ek hl) hl (fresh_back ek hl) upd_same h2⟩
theorem rc_listT {xs : Tu α} : RCL K (fun xs H Q => ∃ p ys, xs = [.ref p] ∧ (SqL K H p ys ∨ SqT K H p ys) ∧ ∀ l, H l = none → Q (.ref l) (upd H l (.lst ys))) (xs, ()) xs.l := fun Kn H vs ek h Q q => by
  obtain ⟨v, rfl, p, ws, rfl, h1, h2⟩ := one_arg h
  exact ⟨p, ws, rfl, .inr (st_of (ek _ _ h1)), fun l hl => q l ws Kn _ (Gr.newU ek hl) hl (fresh_back ek hl) upd_same h2⟩
theorem rc_tuple {xs : List α} : RCV K (fun xs H Q => ∃ p ys, xs = [.ref p] ∧ ((SqL K H p ys ∧ ∀ l, H l = none → Q (.ref l) (upd H l (.tup ys))) ∨ (SqT K H p ys ∧ Q (.ref p) H))) (xs, ()) (Tu.mk xs) := fun Kn H vs ek h Q q => by
  obtain ⟨v, rfl, p, ws, rfl, h1, h2⟩ := one_arg h
  exact ⟨p, ws, rfl, .inl ⟨sq_of (ek _ _ h1), fun l hl => q _ (upd Kn l (.tup ws)) _ (Gr.new ek hl) ⟨l, ws, rfl, upd_same, paired_mono (Gr.new ek hl).kk h2⟩⟩⟩
end

/-! ### items, slices -/
section
variable {K : Fg} {F Kn0 : Hp} {sl sl' : List Sl} {ow ow1 ow2 : List Ow} {α β γ τ : Type} [Rp α] [Rp β] [Rp γ] [Tp τ] {ta tb te : TE}
theorem r2_ixL {xs : List α} {i : Int} {z : α} (h : atI xs i = some z) : R2V K (rIxL K) xs i z := fun Kn H v w ek h1 h2 Q q => by
  obtain ⟨p, ws, rfl, h3, h4⟩ := h1
  cases h2
  obtain ⟨u, e, r⟩ := paired_atI h4 h
  exact ⟨p, ws, i, u, rfl, rfl, sq_of (ek _ _ h3), e, q.at ek r⟩
theorem r2_ixF {xs : Fz α} {i : Int} {z : α} (h : atI xs.l i = some z) : R2V K (rIxL K) xs i z := fun Kn H v w ek h1 h2 Q q => by
  obtain ⟨p, ws, rfl, h3, h4⟩ := h1
  cases h2
  obtain ⟨u, e, r⟩ := paired_atI h4 h
  exact ⟨p, ws, i, u, rfl, rfl, ex_l ek h3, e, q.at ek r⟩
theorem r2_ixU {xs : Tu α} {i : Int} {z : α} (h : atI xs.l i = some z) : R2V K (rIxT K) xs i z := fun Kn H v w ek h1 h2 Q q => by
  obtain ⟨p, ws, rfl, h3, h4⟩ := h1
  cases h2
  obtain ⟨u, e, r⟩ := paired_atI h4 h
  exact ⟨p, ws, i, u, rfl, rfl, st_of (ek _ _ h3), e, q.at ek r⟩
theorem r2_ixK {xs : Kt α} {i : Int} {z : α} (h : atI xs.l i = some z) : R2V K (rIxT K) xs i z := fun Kn H v w ek h1 h2 Q q => by
  obtain ⟨p, ws, rfl, h3, h4⟩ := h1
  cases h2
  obtain ⟨u, e, r⟩ := paired_atI h4 h
  exact ⟨p, ws, i, u, rfl, rfl, ex_t ek h3, e, q.at ek r⟩
/-- the n-th place of a tuple -/
inductive At : {τ : Type} → [Tp τ] → Nat → {α : Type} → [Rp α] → τ → α → Prop
  | z {α τ : Type} [Rp α] [Tp τ] (x : α) (t : τ) : At 0 (x, t) x
  | s {α β τ : Type} [Rp α] [Rp β] [Tp τ] {n : Nat} (x : α) {t : τ} {y : β} : At n t y → At (n + 1) (x, t) y
theorem At.get {K : Fg} {H : Hp} {τ : Type} [i : Tp τ] {n : Nat} {α : Type} [j : Rp α] {t : τ} {a : α} (h : At n t a) : ∀ {vs : List V}, rept K H vs t → ∃ v, vs[n]? = some v ∧ rep K H v a := by
  induction h with
  | z x t =>
    intro vs r
    obtain ⟨v, r, rfl, h1, h2⟩ := r
    exact ⟨v, rfl, h1⟩
  | s x _ ih =>
    intro vs r
    obtain ⟨v, r, rfl, h1, h2⟩ := r
    obtain ⟨w, e, h3⟩ := ih h2
    exact ⟨w, e, h3⟩
theorem r2_tix {t : α × τ} {n : Nat} {z : γ} (h : At n t z) : R2V K (rIxT K) t (n : Int) z := fun Kn H v w ek h1 h2 Q q => by
  obtain ⟨p, ws, rfl, h3, h4⟩ := h1
  cases h2
  obtain ⟨u, e, r⟩ := h.get h4
  exact ⟨p, ws, n, u, rfl, rfl, st_of (ek _ _ h3), atI_nat e, q.at ek r⟩
/-- one sign of a text -/
def ixS (z : Str) (i : Int) : Option Str := if z.length ≤ 100000 then (atI z.cps.toList i).map (fun c => ⟨#[c]⟩) else none
theorem r2_ixS {x : Str} {i : Int} {z : Str} (h : ixS x i = some z) : R2V K rIxS x i z := fun Kn H v w ek h1 h2 Q q => by
  cases h1
  cases h2
  unfold ixS at h
  split at h
  · rename_i hl
    cases e : atI x.cps.toList i with
    | none => rw [e] at h; cases h
    | some c =>
      rw [e] at h
      cases h
      exact ⟨x, i, c, rfl, rfl, le_line (by omega), e, q.fl ek⟩
  · cases h
def cut {α : Type} (xs : List α) (lo hi : Option Int) : List α := (xs.drop (HT.sIx xs.length 0 lo)).take (HT.sIx xs.length xs.length hi - HT.sIx xs.length 0 lo)
theorem paired_cut {F : V → α → Prop} {vs : List V} {xs : List α} (h : Paired F vs xs) (lo hi : Option Int) : Paired F (cutV vs lo hi) (cut xs lo hi) := by
  unfold cutV cut
  rw [Paired.length h]
  exact paired_take _ (paired_drop _ h)
def EO (K : Fg) (F Kn0 : Hp) (sl : List Sl) (ow : List Ow) (to : TO) (o : Option Int) : Prop := ∀ σ Kn H, S K F Kn0 sl ow σ Kn H → ∀ Q : Option Int → Hp → Prop, (∀ Kn' H', Gr Kn H Kn' H' → Q o H') → to σ H Q
theorem eo_none : EO K F Kn0 sl ow tNoPart none := fun σ Kn H s Q q => q Kn H (Gr.refl s.ek)
theorem eo_some {i : Int} (h : EV K F Kn0 sl ow te i) : EO K F Kn0 sl ow (tPart te) (some i) := fun σ Kn H s Q q => h σ Kn H s _ fun v Kn1 H1 g1 r1 => ⟨i, r1, q Kn1 H1 g1⟩
theorem en_sl {xs : List α} {tl th : TO} {lo hi : Option Int} (h : EV K F Kn0 sl ow te xs) (hl : EO K F Kn0 sl ow tl lo) (hh : EO K F Kn0 sl ow th hi) : EN K F Kn0 sl ow (tSl (rSlL K) te tl th) (cut xs lo hi) := fun σ Kn H s Q q =>
  h σ Kn H s _ fun v Kn1 H1 g1 r1 => hl σ Kn1 H1 (s.grow g1) _ fun Kn2 H2 g2 => hh σ Kn2 H2 ((s.grow g1).grow g2) _ fun Kn3 H3 g3 => by
    obtain ⟨p, ws, rfl, h3, h4⟩ := r1
    have g : Gr Kn H Kn3 H3 := (g1.trans g2).trans g3
    have e13 : Ex Kn1 Kn3 := g2.kk.trans g3.kk
    exact ⟨p, ws, rfl, sq_of (g3.kh _ _ (e13 _ _ h3)), fun l hl => q l _ Kn3 _ (g.trans (Gr.newU g3.kh hl)) (fresh_back g.hh hl) (fresh_back g3.kh hl) upd_same (paired_cut (paired_mono e13 h4) lo hi)⟩
theorem en_slF {xs : Fz α} {tl th : TO} {lo hi : Option Int} (h : EV K F Kn0 sl ow te xs) (hl : EO K F Kn0 sl ow tl lo) (hh : EO K F Kn0 sl ow th hi) : EN K F Kn0 sl ow (tSl (rSlL K) te tl th) (cut xs.l lo hi) := fun σ Kn H s Q q =>
  h σ Kn H s _ fun v Kn1 H1 g1 r1 => hl σ Kn1 H1 (s.grow g1) _ fun Kn2 H2 g2 => hh σ Kn2 H2 ((s.grow g1).grow g2) _ fun Kn3 H3 g3 => by
    obtain ⟨p, ws, rfl, h3, h4⟩ := r1
    have g : Gr Kn H Kn3 H3 := (g1.trans g2).trans g3
    have e13 : Ex Kn1 Kn3 := g2.kk.trans g3.kk
    exact ⟨p, ws, rfl, ex_l (e13.trans g3.kh) h3, fun l hl => q l _ Kn3 _ (g.trans (Gr.newU g3.kh hl)) (fresh_back g.hh hl) (fresh_back g3.kh hl) upd_same (paired_cut (paired_mono e13 h4) lo hi)⟩
theorem r2_cat {xs ys : List α} (hz : xs.length + ys.length ≤ 1000000) : R2L K rCat xs ys (xs ++ ys) := fun Kn H v w ek h1 h2 Q q => by
  obtain ⟨p, ws, rfl, h3, h4⟩ := h1
  obtain ⟨p2, ws2, rfl, h5, h6⟩ := h2
  exact ⟨p, p2, ws, ws2, rfl, rfl, ek _ _ h3, ek _ _ h5, by rw [paired_len h4, paired_len h6]; exact le_line hz, fun l hl =>
    q l _ Kn _ (Gr.newU ek hl) hl (fresh_back ek hl) upd_same (paired_append h4 h6)⟩

/-! ### tests -/
variable {t u : TT} {a b c : Bool}
theorem et_test (h : EV K F Kn0 sl ow te b) : ET K F Kn0 sl ow (tTest te) b := fun σ Kn H s Q q => h σ Kn H s _ fun v Kn' H' g r => ⟨b, r, q Kn' H' g⟩
theorem et_B (h : EV K F Kn0 sl ow te b) : ET K F Kn0 sl ow (tB te) b := fun σ Kn H s Q q => h σ Kn H s _ fun v Kn' H' g r => ⟨b, r, q Kn' H' g⟩
theorem et_not (h : ET K F Kn0 sl ow t b) : ET K F Kn0 sl ow (tNot t) (!b) := fun σ Kn H s Q q => h σ Kn H s _ fun Kn' H' g => q Kn' H' g
theorem et_and (h1 : ET K F Kn0 sl ow t a) (h2 : a = true → ET K F Kn0 sl ow u b) : ET K F Kn0 sl ow (tAnd t u) (a && b) := fun σ Kn H s Q q => h1 σ Kn H s _ fun Kn1 H1 g1 => by
  cases a with
  | true => exact iteT (h2 rfl σ Kn1 H1 (s.grow g1) Q fun Kn2 H2 g2 => q Kn2 H2 (g1.trans g2))
  | false => exact iteF (q Kn1 H1 g1)
theorem et_or (h1 : ET K F Kn0 sl ow t a) (h2 : a = false → ET K F Kn0 sl ow u b) : ET K F Kn0 sl ow (tOr t u) (a || b) := fun σ Kn H s Q q => h1 σ Kn H s _ fun Kn1 H1 g1 => by
  cases a with
  | true => exact iteT (q Kn1 H1 g1)
  | false => exact iteF (h2 rfl σ Kn1 H1 (s.grow g1) Q fun Kn2 H2 g2 => q Kn2 H2 (g1.trans g2))
theorem et_andO {m : Option Bool} (h : (if a = true then m else some false) = some c) (h1 : ET K F Kn0 sl ow t a) (h2 : ∀ b, a = true → m = some b → ET K F Kn0 sl ow u b) : ET K F Kn0 sl ow (tAnd t u) c := fun σ Kn H s Q q => h1 σ Kn H s _ fun Kn1 H1 g1 => by
  cases a with
  | true => exact iteT (h2 c rfl h σ Kn1 H1 (s.grow g1) Q fun Kn2 H2 g2 => q Kn2 H2 (g1.trans g2))
  | false =>
    cases h
    exact iteF (q Kn1 H1 g1)
theorem et_orO {m : Option Bool} (h : (if a = true then some true else m) = some c) (h1 : ET K F Kn0 sl ow t a) (h2 : ∀ b, a = false → m = some b → ET K F Kn0 sl ow u b) : ET K F Kn0 sl ow (tOr t u) c := fun σ Kn H s Q q => h1 σ Kn H s _ fun Kn1 H1 g1 => by
  cases a with
  | false => exact iteF (h2 c rfl h σ Kn1 H1 (s.grow g1) Q fun Kn2 H2 g2 => q Kn2 H2 (g1.trans g2))
  | true =>
    cases h
    exact iteT (q Kn1 H1 g1)
theorem ev_andO {m : Option Bool} (h : (if a = true then m else some false) = some c) (h1 : EV K F Kn0 sl ow ta a) (h2 : ∀ b, a = true → m = some b → EV K F Kn0 sl ow tb b) : EV K F Kn0 sl ow (tAndV ta tb) c := fun σ Kn H s Q q => h1 σ Kn H s _ fun v Kn1 H1 g1 r1 => ⟨a, r1, by
  cases a with
  | true => exact iteT (h2 c rfl h σ Kn1 H1 (s.grow g1) Q fun v Kn2 H2 g2 r2 => q v Kn2 H2 (g1.trans g2) r2)
  | false =>
    cases h
    exact iteF (q _ Kn1 H1 g1 rfl)⟩
theorem ev_orO {m : Option Bool} (h : (if a = true then some true else m) = some c) (h1 : EV K F Kn0 sl ow ta a) (h2 : ∀ b, a = false → m = some b → EV K F Kn0 sl ow tb b) : EV K F Kn0 sl ow (tOrV ta tb) c := fun σ Kn H s Q q => h1 σ Kn H s _ fun v Kn1 H1 g1 r1 => ⟨a, r1, by
  cases a with
  | false => exact iteF (h2 c rfl h σ Kn1 H1 (s.grow g1) Q fun v Kn2 H2 g2 r2 => q v Kn2 H2 (g1.trans g2) r2)
  | true =>
    cases h
    exact iteT (q _ Kn1 H1 g1 rfl)⟩
theorem ev_andV (h1 : EV K F Kn0 sl ow ta a) (h2 : a = true → EV K F Kn0 sl ow tb b) : EV K F Kn0 sl ow (tAndV ta tb) (a && b) := fun σ Kn H s Q q => h1 σ Kn H s _ fun v Kn1 H1 g1 r1 => ⟨a, r1, by
  cases a with
  | true => exact iteT (h2 rfl σ Kn1 H1 (s.grow g1) Q fun v Kn2 H2 g2 r2 => q v Kn2 H2 (g1.trans g2) r2)
  | false => exact iteF (q _ Kn1 H1 g1 rfl)⟩
theorem ev_orV (h1 : EV K F Kn0 sl ow ta a) (h2 : a = false → EV K F Kn0 sl ow tb b) : EV K F Kn0 sl ow (tOrV ta tb) (a || b) := fun σ Kn H s Q q => h1 σ Kn H s _ fun v Kn1 H1 g1 r1 => ⟨a, r1, by
  cases a with
  | false => exact iteF (h2 rfl σ Kn1 H1 (s.grow g1) Q fun v Kn2 H2 g2 r2 => q v Kn2 H2 (g1.trans g2) r2)
  | true => exact iteT (q _ Kn1 H1 g1 rfl)⟩
theorem ev_notV (h1 : EV K F Kn0 sl ow ta a) : EV K F Kn0 sl ow (tNotV ta) (!a) := fun σ Kn H s Q q => h1 σ Kn H s _ fun v Kn1 H1 g1 r1 => ⟨a, r1, q _ Kn1 H1 g1 rfl⟩
theorem ev_if {x y : α} (h : ET K F Kn0 sl ow t b) (h1 : b = true → EV K F Kn0 sl ow ta x) (h2 : b = false → EV K F Kn0 sl ow tb y) : EV K F Kn0 sl ow (tIf t ta tb) (if b = true then x else y) := fun σ Kn H s Q q => h σ Kn H s _ fun Kn1 H1 g1 => by
  cases b with
  | true => exact iteT (h1 rfl σ Kn1 H1 (s.grow g1) Q fun v Kn2 H2 g2 r2 => q v Kn2 H2 (g1.trans g2) r2)
  | false => exact iteF (h2 rfl σ Kn1 H1 (s.grow g1) Q fun v Kn2 H2 g2 r2 => q v Kn2 H2 (g1.trans g2) r2)
theorem ev_ifO {m n : Option α} {z : α} (hz : (if b = true then m else n) = some z) (h : ET K F Kn0 sl ow t b) (h1 : ∀ x, b = true → m = some x → EV K F Kn0 sl ow ta x) (h2 : ∀ y, b = false → n = some y → EV K F Kn0 sl ow tb y) : EV K F Kn0 sl ow (tIf t ta tb) z := fun σ Kn H s Q q => h σ Kn H s _ fun Kn1 H1 g1 => by
  cases b with
  | true => exact iteT (h1 z rfl hz σ Kn1 H1 (s.grow g1) Q fun v Kn2 H2 g2 r2 => q v Kn2 H2 (g1.trans g2) r2)
  | false => exact iteF (h2 z rfl hz σ Kn1 H1 (s.grow g1) Q fun v Kn2 H2 g2 r2 => q v Kn2 H2 (g1.trans g2) r2)
/-- truth of a list -/
theorem et_truL {xs : List α} (h : EV K F Kn0 sl ow ta xs) : ET K F Kn0 sl ow (fun σ H Q => ta σ H fun x H' => ∃ k, TruV K x H' k ∧ Q k H') (!xs.isEmpty) := fun σ Kn H s Q q => h σ Kn H s _ fun v Kn1 H1 g1 r1 => by
  obtain ⟨p, ws, rfl, h3, h4⟩ := r1
  refine ⟨_, .inl ⟨ws, sq_of (g1.kh _ _ h3), rfl⟩, ?_⟩
  have e : (!ws.isEmpty) = !xs.isEmpty := by
    cases h4 <;> rfl
  rw [e]
  exact q Kn1 H1 g1
end
end Wk
/-! Wk3: calls, statements, loops, comprehensions -/
namespace Wk
open PySem PySem.Spec L2 Evl

/-! ### promises -/
section
variable {α τ : Type} [Rp α] [Tp τ]
/-- a def that changes nothing: it tells f of its arguments -/
def PF (K : Fg) (f : τ → Option α) : Sp := fun vs H Q _ => ∃ Kn t r, Ex Kn H ∧ rept K Kn vs t ∧ f t = some r ∧ RS K Kn H Q r
/-- .. a new list -/
def PL (K : Fg) (f : τ → Option (List α)) : Sp := fun vs H Q _ => ∃ Kn t r, Ex Kn H ∧ rept K Kn vs t ∧ f t = some r ∧ RL K Kn H Q r
/-- its first argument is a list that it changes -/
def PM {β : Type} [Rp β] (K : Fg) (f : List β → τ → Option (α × List β)) : Sp := fun vs H Q _ => ∃ Kn p ws rest t xs r xs', vs = .ref p :: rest ∧ Ex Kn H ∧ Kn p = none ∧ H p = some (.lst ws) ∧ Paired (rep K Kn) ws xs ∧ rept K Kn rest t ∧ f xs t = some (r, xs') ∧
  ∀ v Kn' H' ws', Ex Kn Kn' → Ex Kn' H' → (∀ q, q ≠ p → H q ≠ none → H' q = H q) → (∀ q, H q ≠ none → Kn q = none → Kn' q = none) → H' p = some (.lst ws') → Paired (rep K Kn') ws' xs' → rep K Kn' v r → Q v H'
end
section
variable {K : Fg} {F Kn0 : Hp} {sl sl' : List Sl} {ow ow1 ow2 : List Ow} {α β γ τ : Type} [Rp α] [Rp β] [Rp γ] [Tp τ] {ta : TA} {te : TE} {t : τ} {E : XK}
theorem ev_call {f : τ → Option α} {r : α} (h : EA K F Kn0 sl ow ta t) (hf : f t = some r) : EV K F Kn0 sl ow (tCall (PF K f) [] E ta) r := fun σ Kn H s Q q =>
  h σ Kn H s _ fun vs Kn1 H1 g1 r1 => by
    show PF K f (vs ++ []) H1 Q E
    rw [List.append_nil]
    exact ⟨Kn1, t, r, g1.kh, r1, hf, fun u Kn' H' g' r' => q u Kn' H' (g1.trans g') r'⟩
theorem en_call {f : τ → Option (List α)} {r : List α} (h : EA K F Kn0 sl ow ta t) (hf : f t = some r) : EN K F Kn0 sl ow (tCall (PL K f) [] E ta) r := fun σ Kn H s Q q =>
  h σ Kn H s _ fun vs Kn1 H1 g1 r1 => by
    show PL K f (vs ++ []) H1 Q E
    rw [List.append_nil]
    exact ⟨Kn1, t, r, g1.kh, r1, hf, fun p ws Kn' H' g' hp kp hw r' => q p ws Kn' H' (g1.trans g') (fresh_back g1.hh hp) kp hw r'⟩
theorem em_call {f : τ → Option α} {r : α} (h : EAM K F Kn0 sl ow ta ow1 t) (hf : f t = some r) : EM K F Kn0 sl ow (tCall (PF K f) [] E ta) ow1 r := fun σ Kn H s Q q =>
  h σ Kn H s _ fun vs Kn1 H1 e1 s1 r1 => by
    show PF K f (vs ++ []) H1 Q E
    rw [List.append_nil]
    exact ⟨Kn1, t, r, s1.ek, r1, hf, fun u Kn' H' g' r' => q u Kn' H' (e1.trans g'.kk) (s1.grow g') r'⟩
theorem enm_call {f : τ → Option (List α)} {r : List α} (h : EAM K F Kn0 sl ow ta ow1 t) (hf : f t = some r) : ENM K F Kn0 sl ow (tCall (PL K f) [] E ta) ow1 r := fun σ Kn H s Q q =>
  h σ Kn H s _ fun vs Kn1 H1 e1 s1 r1 => by
    show PL K f (vs ++ []) H1 Q E
    rw [List.append_nil]
    exact ⟨Kn1, t, r, s1.ek, r1, hf, fun p ws Kn' H' g' hp kp hw r' => q p ws Kn' H' (e1.trans g'.kk) (s1.grow g') (fresh_back s1.ef hp) kp (owned_ne s1 hp) hw r'⟩
theorem ow_at {ow : List Ow} (h : (ow.map Ow.ad).Nodup) {i j : Nat} {o u : Ow} (hi : ow[i]? = some o) (hj : ow[j]? = some u) (e : o.ad = u.ad) : i = j := by
  have a1 : (ow.map Ow.ad)[i]? = some o.ad := by rw [List.getElem?_map, hi]; rfl
  have a2 : (ow.map Ow.ad)[j]? = some o.ad := by rw [List.getElem?_map, hj, e]; rfl
  exact nd_ix h a1 a2
/-- the object at place j is another one now, all else as it was -/
theorem S.write {σ : L2.St} {Kn H Kn' H' : Hp} {p : Addr} {xs xs' : List β} {ws : List V} {j : Nat} (s : S K F Kn0 sl ow σ Kn H) (hj : ow[j]? = some (ol p xs)) (kk : Ex Kn Kn') (kh : Ex Kn' H')
    (hq : ∀ q, q ≠ p → H q ≠ none → H' q = H q) (sp : ∀ q, H q ≠ none → Kn q = none → Kn' q = none) (hp : H' p = some (.lst ws)) (r : Paired (rep K Kn') ws xs') : S K F Kn0 sl (ow.set j (ol p xs')) σ Kn' H' := by
  obtain ⟨f1, f2, f3⟩ := s.ow.each _ (List.mem_of_getElem? hj)
  have f1 : F p = none := f1
  have f2 : Kn p = none := f2
  have f4 : H p ≠ none := Ow.there f3
  have jl : j < ow.length := (List.getElem?_eq_some_iff.mp hj).1
  refine ⟨s.e0.trans kk, kh, fun a u h => ?_, fun a h1 h2 => sp a (Ex.nn s.ef h1) (s.sep a h1 h2), s.sl.mono kk, ⟨fun o ho => ?_, ?_⟩⟩
  · have hne : a ≠ p := fun z => by rw [z, f1] at h; cases h
    rw [hq a hne (ne_none_of (s.ef _ _ h))]
    exact s.ef _ _ h
  · obtain ⟨i, hi⟩ := List.getElem?_of_mem ho
    by_cases e : i = j
    · subst e
      rw [List.getElem?_set_self jl] at hi
      cases hi
      exact ⟨f1, sp p f4 f2, ws, hp, r⟩
    · rw [List.getElem?_set_ne (Ne.symm e)] at hi
      obtain ⟨h1, h2, h3⟩ := s.ow.each o (List.mem_of_getElem? hi)
      have h4 := Ow.there h3
      have hne : o.ad ≠ p := fun z => e (ow_at s.ow.nd hi hj z)
      exact ⟨h1, sp _ h4 h2, Ow.ok_mono kk (hq _ hne h4) h3⟩
  · have e : (ow.set j (ol p xs')).map Ow.ad = ow.map Ow.ad := by
      rw [List.map_set]
      refine List.ext_getElem? fun i => ?_
      by_cases e : j = i
      · subst e
        rw [List.getElem?_set_self (by rw [List.length_map]; exact jl), List.getElem?_map, hj]
        rfl
      · rw [List.getElem?_set_ne e]
    rw [e]
    exact s.ow.nd
theorem em_callM {f : List β → τ → Option (α × List β)} {r : α} {i j : Nat} {p : Addr} {xs xs' : List β} (hi : sl[i]? = some (.at p)) (h : EAM K F Kn0 sl ow ta ow1 t) (hj : ow1[j]? = some (ol p xs)) (hf : f xs t = some (r, xs')) :
    EM K F Kn0 sl ow (tCall (PM K f) [] E (tCons (tVar i) ta)) (ow1.set j (ol p xs')) r := fun σ Kn H s Q q => by
  obtain ⟨o, h1, h2⟩ := s.sl.get hi
  refine ⟨.ref p, by rw [h1]; exact congrArg some h2, h σ Kn H s _ fun vs Kn1 H1 e1 s1 r1 => ?_⟩
  show PM K f ((.ref p :: vs) ++ []) H1 Q E
  rw [List.append_nil]
  obtain ⟨f1, f2, ws, f3, f4⟩ := s1.ow.each _ (List.mem_of_getElem? hj)
  exact ⟨Kn1, p, ws, vs, t, xs, r, xs', rfl, s1.ek, f2, f3, f4, r1, hf, fun v Kn' H' ws' kk kh hq sp hp rr rv => q v Kn' H' (e1.trans kk) (s1.write hj kk kh hq sp hp rr) rv⟩
end

/-! ### statements -/
section
variable (K : Fg) (F Kn0 : Hp) (sl : List Sl) (ow : List Ow)
def SN (D : Ends) : Prop := ∀ σ Kn H, S K F Kn0 sl ow σ Kn H → D.nx σ H
def SC (D : Ends) : Prop := ∀ σ Kn H, S K F Kn0 sl ow σ Kn H → D.ct σ H
def SK (D : Ends) : Prop := ∀ σ Kn H, S K F Kn0 sl ow σ Kn H → D.bk σ H
end
section
variable {K : Fg} {F Kn0 : Hp} {sl sl' : List Sl} {ow ow0 ow1 ow2 : List Ow} {α β γ τ : Type} [Rp α] [Rp β] [Rp γ] [Tp τ] {ta tb te : TE} {x : α} {D : Ends} {t u tz : TS} {tt : TT} {b : Bool} {i j : Nat} {p : Addr}
theorem SB.seq (h : SB K F Kn0 sl ow { D with nx := tz D } t) : SB K F Kn0 sl ow D (tSeq t tz) := h
theorem SB.le (h : SB K F Kn0 sl' ow D t) (l : SlLe sl sl') : SB K F Kn0 sl ow D t := fun σ Kn H s => h σ Kn H (s.le l)
theorem SB.sub (h : SB K F Kn0 sl ow1 D t) (l : ow1.Sublist ow) : SB K F Kn0 sl ow D t := fun σ Kn H s => h σ Kn H (s.sub l)
theorem SN.le (h : SN K F Kn0 sl' ow D) (l : SlLe sl sl') : SN K F Kn0 sl ow D := fun σ Kn H s => h σ Kn H (s.le l)
theorem SN.sub (h : SN K F Kn0 sl ow1 D) (l : ow1.Sublist ow) : SN K F Kn0 sl ow D := fun σ Kn H s => h σ Kn H (s.sub l)
theorem EN.le {xs : List α} (h : EN K F Kn0 sl' ow te xs) (l : SlLe sl sl') : EN K F Kn0 sl ow te xs := fun σ Kn H s => h σ Kn H (s.le l)
theorem EV.le (h : EV K F Kn0 sl' ow te x) (l : SlLe sl sl') : EV K F Kn0 sl ow te x := fun σ Kn H s => h σ Kn H (s.le l)
theorem sb_nx (k : SN K F Kn0 sl ow D) : SB K F Kn0 sl ow D tNext := k
theorem sb_ct (k : SC K F Kn0 sl ow D) : SB K F Kn0 sl ow D tCont := k
theorem sb_bk (k : SK K F Kn0 sl ow D) : SB K F Kn0 sl ow D tBreak := k
theorem sb_asg (hs : sl.set i (sv x) = sl') (h : EV K F Kn0 sl ow te x) (k : SN K F Kn0 sl' ow D) : SB K F Kn0 sl ow D (tAsg te (gName i)) := fun σ Kn H s =>
  h σ Kn H s _ fun v Kn1 H1 g1 r1 => k _ Kn1 H1 (hs ▸ (s.grow g1).setv i r1)
theorem sb_asgM (hs : sl.set i (sv x) = sl') (h : EM K F Kn0 sl ow te ow1 x) (k : SN K F Kn0 sl' ow1 D) : SB K F Kn0 sl ow D (tAsg te (gName i)) := fun σ Kn H s =>
  h σ Kn H s _ fun v Kn1 H1 e1 s1 r1 => k _ Kn1 H1 (hs ▸ s1.setv i r1)
/-- a new object is one's own -/
theorem S.own {σ : L2.St} {Kn H : Hp} {xs : List α} {ws : List V} (s : S K F Kn0 sl ow σ Kn H) (fp : F p = none) (kp : Kn p = none) (no : ∀ o ∈ ow, o.ad ≠ p) (hp : H p = some (.lst ws)) (r : Paired (rep K Kn) ws xs) : S K F Kn0 sl (ol p xs :: ow) σ Kn H :=
  ⟨s.e0, s.ek, s.ef, s.sep, s.sl, ⟨fun o ho => by
    rcases List.mem_cons.mp ho with rfl | ho
    · exact ⟨fp, kp, ws, hp, r⟩
    · exact s.ow.each o ho, List.nodup_cons.mpr ⟨fun h => by
      obtain ⟨o, ho, e⟩ := List.mem_map.mp h
      exact no o ho e, s.ow.nd⟩⟩⟩
theorem S.seta {σ : L2.St} {Kn H : Hp} (s : S K F Kn0 sl ow σ Kn H) (i : Nat) : S K F Kn0 (sl.set i (.at p)) ow (σ.set i (some (.ref p))) Kn H := s.set i rfl
theorem sb_asgO {xs : List α} {sl' : Addr → List Sl} (hs : ∀ p, sl.set i (.at p) = sl' p) (h : EN K F Kn0 sl ow te xs) (k : ∀ p, SN K F Kn0 (sl' p) (ol p xs :: ow) D) : SB K F Kn0 sl ow D (tAsg te (gName i)) := fun σ Kn H s =>
  h σ Kn H s _ fun p ws Kn1 H1 g1 hp kp hw r1 => k p _ Kn1 H1 (hs p ▸ ((s.grow g1).own (fresh_back s.ef hp) kp (owned_ne s hp) hw r1).seta i)
theorem sb_asgOM {xs : List α} {sl' : Addr → List Sl} (hs : ∀ p, sl.set i (.at p) = sl' p) (h : ENM K F Kn0 sl ow te ow1 xs) (k : ∀ p, SN K F Kn0 (sl' p) (ol p xs :: ow1) D) : SB K F Kn0 sl ow D (tAsg te (gName i)) := fun σ Kn H s =>
  h σ Kn H s _ fun p ws Kn1 H1 e1 s1 fp kp no hw r1 => k p _ Kn1 H1 (hs p ▸ (s1.own fp kp no hw r1).seta i)
theorem sb_aug {a c : Int} {f : Int → Int → Int} (hi : sl[i]? = some (sv a)) (hs : sl.set i (sv (f a c)) = sl') (h : EV K F Kn0 sl ow te c) (k : SN K F Kn0 sl' ow D) : SB K F Kn0 sl ow D (tAug i te (ipI f)) := fun σ Kn H s => by
  obtain ⟨o, h1, v, h2, h3⟩ := s.sl.get hi
  cases h3
  exact ⟨.int a, by rw [h1, h2], h σ Kn H s _ fun v Kn1 H1 g1 r1 => ⟨a, c, rfl, r1, k _ Kn1 H1 (hs ▸ (s.grow g1).setv (x := f a c) i rfl)⟩⟩
theorem sb_drop (h : EV K F Kn0 sl ow te x) (k : SN K F Kn0 sl ow D) : SB K F Kn0 sl ow D (tDrop te) := fun σ Kn H s => h σ Kn H s _ fun v Kn1 H1 g1 r1 => k _ Kn1 H1 (s.grow g1)
theorem sb_dropM (h : EM K F Kn0 sl ow te ow1 x) (k : SN K F Kn0 sl ow1 D) : SB K F Kn0 sl ow D (tDrop te) := fun σ Kn H s => h σ Kn H s _ fun v Kn1 H1 e1 s1 r1 => k _ Kn1 H1 s1
theorem upd_in {Kn H : Hp} {o : HO} (ek : Ex Kn H) (kp : Kn p = none) : Ex Kn (upd H p o) := fun a u h => by
  have hq : a ≠ p := fun z => by rw [z, kp] at h; cases h
  rw [upd_ne hq]
  exact ek _ _ h
/-- found.append(e) -/
theorem sb_app {xs : List α} (hi : sl[i]? = some (.at p)) (hj : ow[j]? = some (ol p xs)) (h : EV K F Kn0 sl ow te x) (hz : xs.length < 1000000) (k : SN K F Kn0 sl (ow.set j (ol p (xs ++ [x]))) D) :
    SB K F Kn0 sl ow D (tDrop (tBM K "list" rAppend (tVar i) (tCons te tNil))) := fun σ Kn H s => by
  obtain ⟨o, h1, h2⟩ := s.sl.get hi
  obtain ⟨f1, f2, ws, f3, f4⟩ := s.ow.each _ (List.mem_of_getElem? hj)
  refine ⟨.ref p, by rw [h1]; exact congrArg some h2, Or.inl ⟨rfl, ws, sq_of f3⟩, h σ Kn H s _ fun v Kn1 H1 g1 r1 => ?_⟩
  refine ⟨p, ws, v, rfl, rfl, g1.hh _ _ f3, by rw [paired_len f4]; exact lt_line hz, k _ Kn1 _ ?_⟩
  have kp1 : Kn1 p = none := g1.sp p (ne_none_of f3) f2
  exact (s.grow g1).write hj (Ex.refl _) (upd_in g1.kh kp1) (fun q hq _ => upd_ne hq) (fun _ _ h => h) upd_same (paired_append (paired_mono g1.kk f4) (.cons r1 .nil))
theorem sb_appM {xs : List α} (hi : sl[i]? = some (.at p)) (hi0 : ow[j]? = some (ol p xs)) (h : EM K F Kn0 sl ow te ow1 x) (hj : ow1[j]? = some (ol p xs)) (hz : xs.length < 1000000) (k : SN K F Kn0 sl (ow1.set j (ol p (xs ++ [x]))) D) :
    SB K F Kn0 sl ow D (tDrop (tBM K "list" rAppend (tVar i) (tCons te tNil))) := fun σ Kn H s => by
  obtain ⟨o, h1, h2⟩ := s.sl.get hi
  obtain ⟨_, _, ws0, f0, _⟩ := s.ow.each _ (List.mem_of_getElem? hi0)
  refine ⟨.ref p, by rw [h1]; exact congrArg some h2, Or.inl ⟨rfl, ws0, sq_of f0⟩, h σ Kn H s _ fun v Kn1 H1 e1 s1 r1 => ?_⟩
  obtain ⟨f1, f2, ws, f3, f4⟩ := s1.ow.each _ (List.mem_of_getElem? hj)
  refine ⟨p, ws, v, rfl, rfl, f3, by rw [paired_len f4]; exact lt_line hz, k _ Kn1 _ ?_⟩
  exact s1.write hj (Ex.refl _) (upd_in s1.ek f2) (fun q hq _ => upd_ne hq) (fun _ _ h => h) upd_same (paired_append f4 (.cons r1 .nil))
/-- the place of a written index -/
def setI {α : Type} (xs : List α) (i : Int) (x : α) : Option (List α) := (ixN xs.length i).map fun j => xs.set j x
/-- found[e] = x -/
theorem sb_setI {xs xs' : List α} {n : Int} (hi : sl[i]? = some (.at p)) (hj : ow[j]? = some (ol p xs)) (h : EV K F Kn0 sl ow te x) (hn : EV K F Kn0 sl ow tb n) (hx : setI xs n x = some xs') (k : SN K F Kn0 sl (ow.set j (ol p xs')) D) :
    SB K F Kn0 sl ow D (tAsg te (gSub (tVar i) tb rSetL)) := fun σ Kn H s => h σ Kn H s _ fun v Kn1 H1 g1 r1 => by
  obtain ⟨o, h1, h2⟩ := s.sl.get hi
  refine ⟨.ref p, by rw [h1]; exact congrArg some h2, hn σ Kn1 H1 (s.grow g1) _ fun w Kn2 H2 g2 r2 => ?_⟩
  have s2 := (s.grow g1).grow g2
  obtain ⟨f1, f2, ws, f3, f4⟩ := s2.ow.each _ (List.mem_of_getElem? hj)
  unfold setI at hx
  cases e : ixN xs.length n with
  | none => rw [e] at hx; cases hx
  | some m =>
    rw [e] at hx
    cases hx
    cases r2
    refine ⟨p, ws, n, m, rfl, rfl, f3, by rw [paired_len f4]; exact e, k _ Kn2 _ ?_⟩
    exact s2.write hj (Ex.refl _) (upd_in g2.kh f2) (fun q hq _ => upd_ne hq) (fun _ _ h => h) upd_same (paired_set (Rp.mono g2.kk r1) m f4)
/-- from now on it is known and stays as it is -/
theorem sb_freeze {xs : List α} (hi : sl[i]? = some (.at p)) (hj : ow[j]? = some (ol p xs)) (hs : sl.set i (sv xs) = sl') (ho : ow.eraseIdx j = ow1) (k : SB K F Kn0 sl' ow1 D t) : SB K F Kn0 sl ow D t := fun σ Kn H s => by
  obtain ⟨o, h1, h2⟩ := s.sl.get hi
  have h2 : o = some (.ref p) := h2
  obtain ⟨f1, f2, ws, f3, f4⟩ := s.ow.each _ (List.mem_of_getElem? hj)
  have hsub : ow1.Sublist ow := ho ▸ List.eraseIdx_sublist ow j
  have s1 := s.sub hsub
  have no : ∀ o ∈ ow1, o.ad ≠ p := fun o hm z => by
    have hnd := s.ow.nd
    subst ho
    obtain ⟨m, hm'⟩ := List.getElem?_of_mem hm
    rw [List.getElem?_eraseIdx] at hm'
    split at hm'
    · rename_i hlt
      have := ow_at hnd hm' hj z
      omega
    · rename_i hge
      have := ow_at hnd hm' hj z
      omega
  have s2 := s1.know (o := .lst ws) f1 f2 no f3
  have hσ : σ.set i o = σ := by
    refine List.ext_getElem? fun m => ?_
    by_cases e : i = m
    · subst e
      rw [List.getElem?_set_self (List.getElem?_eq_some_iff.mp h1).1, h1]
    · rw [List.getElem?_set_ne e]
  have s3 := s2.set (x := sv xs) (o := o) i ⟨.ref p, h2, p, ws, rfl, upd_same, paired_mono (Ex.new f2) f4⟩
  rw [hs, hσ] at s3
  exact k σ _ H s3
theorem sb_if (h : ET K F Kn0 sl ow tt b) (h1 : b = true → SB K F Kn0 sl ow D t) (h2 : b = false → SB K F Kn0 sl ow D u) : SB K F Kn0 sl ow D (tIfS tt t u) := fun σ Kn H s => h σ Kn H s _ fun Kn1 H1 g1 => by
  cases b with
  | true => exact iteT (h1 rfl σ Kn1 H1 (s.grow g1))
  | false => exact iteF (h2 rfl σ Kn1 H1 (s.grow g1))
theorem sb_cut (h : SB K F Kn0 sl ow { D with nx := fun σ H => ∃ Kn, S K F Kn0 sl' ow1 σ Kn H } t) (k : SB K F Kn0 sl' ow1 D tz) : SB K F Kn0 sl ow D (tCut t tz) := fun σ Kn H s => ⟨_, h σ Kn H s, fun σ' H' ⟨Kn', s'⟩ => k σ' Kn' H' s'⟩
theorem sn_mid (l : SlLe sl sl') (l2 : ow1.Sublist ow) : SN K F Kn0 sl ow { D with nx := fun σ H => ∃ Kn, S K F Kn0 sl' ow1 σ Kn H } := fun σ Kn H s => ⟨Kn, (s.le l).sub l2⟩
/-- returns -/
theorem sb_ret {R : VK} (h : EV K F Kn0 sl ow te x) (q : RT K F Kn0 ow0 R x) (l : ow0.Sublist ow) (hR : D.rt = R := by rfl) : SB K F Kn0 sl ow D (tRet te) := fun σ Kn H s => by
  subst hR
  exact h σ Kn H s _ fun v Kn1 H1 g1 r1 => q v Kn1 H1 ((s.grow g1).sub l).fin r1
theorem sb_retM {R : VK} (h : EM K F Kn0 sl ow te ow1 x) (q : RT K F Kn0 ow0 R x) (l : ow0.Sublist ow1) (hR : D.rt = R := by rfl) : SB K F Kn0 sl ow D (tRet te) := fun σ Kn H s => by
  subst hR
  exact h σ Kn H s _ fun v Kn1 H1 e1 s1 r1 => q v Kn1 H1 (s1.sub l).fin r1
theorem sb_retL {R : VK} {xs : List α} (h : EN K F Kn0 sl ow te xs) (q : RN K F Kn0 ow0 R xs) (l : ow0.Sublist ow) (hR : D.rt = R := by rfl) : SB K F Kn0 sl ow D (tRet te) := fun σ Kn H s => by
  subst hR
  exact h σ Kn H s _ fun p ws Kn1 H1 g1 hp kp hw r1 => q p ws Kn1 H1 ((s.grow g1).sub l).fin (fresh_back s.ef hp) kp hw r1
/-- a list of one's own is told -/
theorem sb_retO {R : VK} {xs : List α} (hi : sl[i]? = some (.at p)) (hj : ow[j]? = some (ol p xs)) (q : RN K F Kn0 ow0 R xs) (l : ow0.Sublist ow) (hR : D.rt = R := by rfl) : SB K F Kn0 sl ow D (tRet (tVar i)) := fun σ Kn H s => by
  subst hR
  obtain ⟨o, h1, h2⟩ := s.sl.get hi
  obtain ⟨f1, f2, ws, f3, f4⟩ := s.ow.each _ (List.mem_of_getElem? hj)
  exact ⟨.ref p, by rw [h1]; exact congrArg some h2, q p ws Kn H (s.sub l).fin f1 f2 f3 f4⟩
theorem SB.seqB (h : (∀ sl' ow', SB K F Kn0 sl' ow' D tz → SN K F Kn0 sl' ow' { D with nx := tz D }) → SB K F Kn0 sl ow { D with nx := tz D } t) : SB K F Kn0 sl ow D (tSeq t tz) := h fun _ _ k => k
theorem SB.cutB (h : (∀ sl2 ow2, SlLe sl2 sl' → ow1.Sublist ow2 → SN K F Kn0 sl2 ow2 { D with nx := fun σ H => ∃ Kn, S K F Kn0 sl' ow1 σ Kn H }) → SB K F Kn0 sl ow { D with nx := fun σ H => ∃ Kn, S K F Kn0 sl' ow1 σ Kn H } t) (k : SB K F Kn0 sl' ow1 D tz) : SB K F Kn0 sl ow D (tCut t tz) :=
  sb_cut (h fun _ _ l l2 => sn_mid l l2) k
end

/-! ### targets -/
section
variable {α β τ : Type} [Rp α] [Rp β] [Tp τ] {sl sl' sl2 : List Sl} {K : Fg}
theorem wipe_set : ∀ {vs : List Nat} {i : Nat} {o : Option V} {σ : L2.St}, i ∈ vs → wipe (σ.set i o) vs = wipe σ vs
  | v :: vs, i, o, σ, h => by
    by_cases e : i ∈ vs
    · unfold wipe
      rw [wipe_set e]
    · have hv : i = v := (List.mem_cons.mp h).resolve_right e
      subst hv
      have w : ∀ (vs : List Nat) (σ : L2.St), i ∉ vs → wipe (σ.set i o) vs = (wipe σ vs).set i o := by
        intro vs
        induction vs with
        | nil => intro σ _; rfl
        | cons a r ih =>
          intro σ hn
          show (wipe (σ.set i o) r).set a none = ((wipe σ r).set a none).set i o
          rw [ih σ (fun z => hn (List.mem_cons_of_mem _ z)), List.set_comm]
          exact fun z => hn (by rw [z]; exact List.mem_cons_self)
      show (wipe (σ.set i o) vs).set i none = (wipe σ vs).set i none
      rw [w vs σ e, List.set_set]
def GT (K : Fg) (g : TG) (sl sl' : List Sl) (js : List Nat) (x : α) : Prop := ∀ σ Kn H v, SlsOk K Kn sl σ → Ex Kn H → rep K Kn v x → ∀ Q : L2.St → Hp → Prop, (∀ σ', SlsOk K Kn sl' σ' → (∀ vs, (∀ j ∈ js, j ∈ vs) → wipe σ' vs = wipe σ vs) → Q σ' H) → g v σ H Q
def GTs (K : Fg) (g : TGs) (sl sl' : List Sl) (js : List Nat) (t : τ) : Prop := ∀ σ Kn H vs, SlsOk K Kn sl σ → Ex Kn H → rept K Kn vs t → ∀ Q : L2.St → Hp → Prop, (∀ σ', SlsOk K Kn sl' σ' → (∀ vs, (∀ j ∈ js, j ∈ vs) → wipe σ' vs = wipe σ vs) → Q σ' H) → g vs σ H Q
theorem gt_name {i : Nat} {x : α} (hs : sl.set i (sv x) = sl') : GT K (gName i) sl sl' [i] x := fun σ Kn H v s ek r Q q => q _ (hs ▸ SlsOk.set (s := sv x) ⟨v, rfl, r⟩ i s) fun vs h => wipe_set (h i (by simp))
theorem gts_nil : GTs K gNil sl sl [] () := fun σ Kn H vs s ek r Q q => ⟨r, q σ s fun _ _ => rfl⟩
theorem gts_cons {g : TG} {gs : TGs} {js ks : List Nat} {x : α} {t : τ} (h1 : GT K g sl sl' js x) (h2 : GTs K gs sl' sl2 ks t) : GTs K (gCons g gs) sl sl2 (js ++ ks) (x, t) := fun σ Kn H vs s ek r Q q => by
  obtain ⟨v, rest, rfl, r1, r2⟩ := r
  exact ⟨v, rest, rfl, h1 σ Kn H v s ek r1 _ fun σ1 s1 w1 => h2 σ1 Kn H rest s1 ek r2 _ fun σ2 s2 w2 => q σ2 s2 fun vs h => (w2 vs fun j hj => h j (List.mem_append_right _ hj)).trans (w1 vs fun j hj => h j (List.mem_append_left _ hj))⟩
theorem gt_tup {gs : TGs} {js : List Nat} {n : Nat} {t : α × τ} (h : GTs K gs sl sl' js t) (hn : Tp.n (α × τ) = n := by rfl) : GT K (gTup K n gs) sl sl' js t := fun σ Kn H v s ek r Q q => by
  obtain ⟨p, ws, rfl, h1, h2⟩ := r
  exact ⟨p, ws, rfl, st_of (ek _ _ h1), (Tp.len h2).trans hn, h σ Kn H ws s ek h2 Q q⟩
end
section
variable {K : Fg} {F Kn0 : Hp} {sl sl' : List Sl} {ow ow1 : List Ow} {α : Type} [Rp α] {te : TE} {x : α} {D : Ends} {g : TG} {js : List Nat}
/-- a, b = e -/
theorem sb_unp (h : EV K F Kn0 sl ow te x) (hg : GT K g sl sl' js x) (k : SN K F Kn0 sl' ow D) : SB K F Kn0 sl ow D (tAsg te g) := fun σ Kn H s =>
  h σ Kn H s _ fun v Kn1 H1 g1 r1 => by
    have s1 := s.grow g1
    exact hg σ Kn1 H1 v s1.sl s1.ek r1 _ fun σ' h' _ => k σ' Kn1 H1 ⟨s1.e0, s1.ek, s1.ef, s1.sep, h', s1.ow⟩
theorem sb_unpM (h : EM K F Kn0 sl ow te ow1 x) (hg : GT K g sl sl' js x) (k : SN K F Kn0 sl' ow1 D) : SB K F Kn0 sl ow D (tAsg te g) := fun σ Kn H s =>
  h σ Kn H s _ fun v Kn1 H1 e1 s1 r1 => hg σ Kn1 H1 v s1.sl s1.ek r1 _ fun σ' h' _ => k σ' Kn1 H1 ⟨s1.e0, s1.ek, s1.ef, s1.sep, h', s1.ow⟩
/-- a, b = e1, e2 -/
theorem sb_par {α β : Type} [Rp α] [Rp β] {ta : TA} {i j : Nat} {x : α} {y : β} (hs : (sl.set i (sv x)).set j (sv y) = sl') (h : EA K F Kn0 sl ow ta (x, y, ())) (k : SN K F Kn0 sl' ow D) : SB K F Kn0 sl ow D (tPar i j ta) := fun σ Kn H s =>
  h σ Kn H s _ fun vs Kn1 H1 g1 r1 => by
    obtain ⟨v, w, rfl, h1, h2⟩ := two_args r1
    exact ⟨v, w, rfl, k _ Kn1 H1 (hs ▸ ((s.grow g1).setv i h1).setv j h2)⟩
end

/-! ### what is walked -/
def WK {β : Type} [Rp β] (K : Fg) (Kn1 : Hp) (J : It) (xs : List β) : Prop := ∀ i Kn' H', Ex Kn1 Kn' → Ex Kn' H' →
  (∀ x, xs[i]? = some x → J.go i H' ∧ ∀ v H2, J.yld i H' v H2 → ∃ Kn2, Gr Kn' H' Kn2 H2 ∧ rep K Kn2 v x) ∧ (xs.length ≤ i → J.stop i H')
section
variable (K : Fg) (F Kn0 : Hp) (sl : List Sl) (ow : List Ow)
def IT {β : Type} [Rp β] (wi : TI) (xs : List β) : Prop := ∀ σ Kn H, S K F Kn0 sl ow σ Kn H → ∀ R : It → Hp → Prop, (∀ J Kn1 H1, Gr Kn H Kn1 H1 → WK K Kn1 J xs → R J H1) → wi σ H R
def ITM {β : Type} [Rp β] (wi : TI) (ow' : List Ow) (xs : List β) : Prop := ∀ σ Kn H, S K F Kn0 sl ow σ Kn H → ∀ R : It → Hp → Prop, (∀ J Kn1 H1, Ex Kn Kn1 → S K F Kn0 sl ow' σ Kn1 H1 → WK K Kn1 J xs → R J H1) → wi σ H R
end
/-- lo, lo + 1 .. below hi -/
def irange (lo hi : Int) : List Int := (List.range (hi - lo).toNat).map fun (k : Nat) => lo + (k : Int)
def rngO (lo hi : Int) : Option (List Int) := if -1000000000000 ≤ lo ∧ lo ≤ 1000000000000 ∧ -1000000000000 ≤ hi ∧ hi ≤ 1000000000000 then some (irange lo hi) else none
def enumI {α : Type} (xs : List α) : List (Int × α × Unit) := xs.mapIdx fun i x => ((i : Int), x, ())
def zipI {α β : Type} (xs : List α) (ys : List β) : List (α × β × Unit) := List.zipWith (fun a b => (a, b, ())) xs ys
section
variable {K : Fg} {F Kn0 : Hp} {sl sl' : List Sl} {ow ow1 : List Ow} {α β : Type} [Rp α] [Rp β] {te : TE} {ta : TA}
theorem IT.m {wi : TI} {xs : List β} (h : IT K F Kn0 sl ow wi xs) : ITM K F Kn0 sl ow wi ow xs := fun σ Kn H s R q => h σ Kn H s R fun J Kn1 H1 g w => q J Kn1 H1 g.kk (s.grow g) w
theorem wk_list {Kn1 : Hp} {p : Addr} {ws : List V} {xs : List α} (h : SqL K Kn1 p ws) (r : Paired (rep K Kn1) ws xs) : WK K Kn1 (Itl K p) xs := fun i Kn' H' e1 e2 => by
  have hq : SqL K H' p ws := ex_l (e1.trans e2) h
  refine ⟨fun x hx => ?_, fun hl => ⟨ws, hq, by rw [paired_len r]; exact hl⟩⟩
  obtain ⟨v, hv, rv⟩ := paired_at r hx
  refine ⟨⟨ws, v, hq, hv⟩, fun u H2 hy => ?_⟩
  obtain ⟨rfl, f⟩ := hy
  have : v = u := Option.some.inj (hv.symm.trans (f ws hq))
  subst this
  exact ⟨Kn', Gr.refl e2, Rp.mono e1 rv⟩
theorem it_list {xs : List α} (h : EV K F Kn0 sl ow te xs) : IT K F Kn0 sl ow (iList K te) xs := fun σ Kn H s R q => h σ Kn H s _ fun v Kn1 H1 g1 r1 => by
  obtain ⟨p, ws, rfl, h3, h4⟩ := r1
  exact ⟨p, rfl, ⟨ws, sq_of (g1.kh _ _ h3)⟩, q _ Kn1 H1 g1 (wk_list (sq_of h3) h4)⟩
theorem it_listF {xs : Fz α} (h : EV K F Kn0 sl ow te xs) : IT K F Kn0 sl ow (iList K te) xs.l := fun σ Kn H s R q => h σ Kn H s _ fun v Kn1 H1 g1 r1 => by
  obtain ⟨p, ws, rfl, h3, h4⟩ := r1
  exact ⟨p, rfl, ⟨ws, ex_l g1.kh h3⟩, q _ Kn1 H1 g1 (wk_list h3 h4)⟩
theorem itm_list {xs : List α} (h : ENM K F Kn0 sl ow te ow1 xs) : ITM K F Kn0 sl ow (iList K te) ow1 xs := fun σ Kn H s R q => h σ Kn H s _ fun p ws Kn1 H1 e1 s1 fp kp no hw r1 => by
  have s2 := s1.know (o := .lst ws) fp kp no hw
  exact ⟨p, rfl, ⟨ws, sq_of hw⟩, q _ _ H1 (e1.trans (Ex.new kp)) s2 (wk_list (sq_of upd_same) (paired_mono (Ex.new kp) r1))⟩
theorem it_tup {xs : Tu α} (h : EV K F Kn0 sl ow te xs) : IT K F Kn0 sl ow (iTup K te) xs.l := fun σ Kn H s R q => h σ Kn H s _ fun v Kn1 H1 g1 r1 => by
  obtain ⟨p, ws, rfl, h3, h4⟩ := r1
  refine ⟨p, rfl, ⟨ws, st_of (g1.kh _ _ h3)⟩, q _ Kn1 H1 g1 fun i Kn' H' e1 e2 => ?_⟩
  have hq : SqT K H' p ws := st_of ((e1.trans e2) _ _ h3)
  refine ⟨fun x hx => ?_, fun hl => ⟨ws, hq, by rw [paired_len h4]; exact hl⟩⟩
  obtain ⟨v, hv, rv⟩ := paired_at h4 hx
  refine ⟨⟨ws, v, hq, hv⟩, fun u H2 hy => ?_⟩
  obtain ⟨rfl, f⟩ := hy
  have : v = u := Option.some.inj (hv.symm.trans (f ws hq))
  subst this
  exact ⟨Kn', Gr.refl e2, Rp.mono e1 rv⟩
theorem wk_range {Kn1 : Hp} (lo hi : Int) : WK K Kn1 (Itr lo (hi - lo).toNat) (irange lo hi) := fun i Kn' H' e1 e2 => by
  refine ⟨fun x hx => ?_, fun hl => ?_⟩
  · unfold irange at hx
    rw [List.getElem?_map] at hx
    cases q : (List.range (hi - lo).toNat)[i]? with
    | none => rw [q] at hx; cases hx
    | some m =>
      rw [q] at hx
      obtain ⟨hlt, he⟩ := List.getElem?_eq_some_iff.mp q
      rw [List.getElem_range] at he
      rw [List.length_range] at hlt
      subst he
      cases hx
      refine ⟨hlt, fun v H2 hy => ?_⟩
      obtain ⟨rfl, rfl⟩ := hy
      exact ⟨Kn', Gr.refl e2, rfl⟩
  · unfold irange at hl
    rw [List.length_map, List.length_range] at hl
    exact hl
theorem it_rng1 {n : Int} {xs : List Int} (h : EA K F Kn0 sl ow ta (n, ())) (hx : rngO 0 n = some xs) : IT K F Kn0 sl ow (iRng1 ta) xs := fun σ Kn H s R q => h σ Kn H s _ fun vs Kn1 H1 g1 r1 => by
  obtain ⟨v, rfl, h1⟩ := one_arg r1
  cases h1
  unfold rngO at hx
  split at hx
  · rename_i hb
    cases hx
    refine ⟨n, rfl, by omega, by omega, q _ Kn1 H1 g1 ?_⟩
    have w := wk_range (K := K) (Kn1 := Kn1) 0 n
    rw [Int.sub_zero] at w
    exact w
  · cases hx
theorem itm_rng1 {n : Int} {xs : List Int} (h : EAM K F Kn0 sl ow ta ow1 (n, ())) (hx : rngO 0 n = some xs) : ITM K F Kn0 sl ow (iRng1 ta) ow1 xs := fun σ Kn H s R q => h σ Kn H s _ fun vs Kn1 H1 e1 s1 r1 => by
  obtain ⟨v, rfl, h1⟩ := one_arg r1
  cases h1
  unfold rngO at hx
  split at hx
  · rename_i hb
    cases hx
    refine ⟨n, rfl, by omega, by omega, q _ Kn1 H1 e1 s1 ?_⟩
    have w := wk_range (K := K) (Kn1 := Kn1) 0 n
    rw [Int.sub_zero] at w
    exact w
  · cases hx
theorem it_rng2 {lo n : Int} {xs : List Int} (h : EA K F Kn0 sl ow ta (lo, n, ())) (hx : rngO lo n = some xs) : IT K F Kn0 sl ow (iRng2 ta) xs := fun σ Kn H s R q => h σ Kn H s _ fun vs Kn1 H1 g1 r1 => by
  obtain ⟨v, w, rfl, h1, h2⟩ := two_args r1
  cases h1
  cases h2
  unfold rngO at hx
  split at hx
  · rename_i hb
    cases hx
    exact ⟨lo, n, rfl, ⟨by omega, by omega, by omega, by omega⟩, q _ Kn1 H1 g1 (wk_range lo n)⟩
  · cases hx
theorem enum_get {xs : List α} {i : Nat} {y : Int × α × Unit} (h : (enumI xs)[i]? = some y) : ∃ x, xs[i]? = some x ∧ y = ((i : Int), x, ()) := by
  unfold enumI at h
  rw [List.getElem?_mapIdx] at h
  cases q : xs[i]? with
  | none => rw [q] at h; cases h
  | some x => rw [q] at h; cases h; exact ⟨x, rfl, rfl⟩
theorem wk_enum {Kn1 : Hp} {p : Addr} {ws : List V} {xs : List α} (h : SqL K Kn1 p ws) (r : Paired (rep K Kn1) ws xs) : WK K Kn1 (Ite K p) (enumI xs) := fun i Kn' H' e1 e2 => by
  have hq : SqL K H' p ws := ex_l (e1.trans e2) h
  refine ⟨fun y hy => ?_, fun hl => ⟨ws, hq, by rw [paired_len r]; simpa [enumI] using hl⟩⟩
  obtain ⟨x, hx, rfl⟩ := enum_get hy
  obtain ⟨v, hv, rv⟩ := paired_at r hx
  refine ⟨⟨ws, v, hq, hv⟩, fun u H2 hy => ?_⟩
  obtain ⟨T, z, rfl, hT, rfl, f⟩ := hy
  have : v = z := Option.some.inj (hv.symm.trans (f ws hq))
  subst this
  have g : Gr Kn' H' (upd Kn' T (.tup [.int (i : Nat), v])) (upd H' T (.tup [.int (i : Nat), v])) := Gr.new e2 hT
  exact ⟨_, g, T, _, rfl, upd_same, .int (i : Nat), [v], rfl, rfl, v, [], rfl, Rp.mono (e1.trans g.kk) rv, rfl⟩
theorem it_enum {xs : List α} (h : EA K F Kn0 sl ow ta (xs, ())) : IT K F Kn0 sl ow (iEnum K ta) (enumI xs) := fun σ Kn H s R q => h σ Kn H s _ fun vs Kn1 H1 g1 r1 => by
  obtain ⟨v, rfl, p, ws, rfl, h3, h4⟩ := one_arg r1
  exact ⟨p, ws, rfl, sq_of (g1.kh _ _ h3), q _ Kn1 H1 g1 (wk_enum (sq_of h3) h4)⟩
theorem zip_get {xs : List α} {ys : List β} {i : Nat} {z : α × β × Unit} (h : (zipI xs ys)[i]? = some z) : ∃ x y, xs[i]? = some x ∧ ys[i]? = some y ∧ z = (x, y, ()) := by
  unfold zipI at h
  rw [List.getElem?_zipWith] at h
  cases q : xs[i]? with
  | none => rw [q] at h; simp at h
  | some x =>
    cases q2 : ys[i]? with
    | none => rw [q, q2] at h; simp at h
    | some y =>
      rw [q, q2] at h
      simp at h
      exact ⟨x, y, rfl, rfl, h.symm⟩
theorem it_zip {xs : List α} {ys : List β} (h : EA K F Kn0 sl ow ta (xs, ys, ())) : IT K F Kn0 sl ow (iZip K ta) (zipI xs ys) := fun σ Kn H s R q => h σ Kn H s _ fun vs Kn1 H1 g1 r1 => by
  obtain ⟨v, w, rfl, ⟨p, ws, rfl, h3, h4⟩, ⟨p2, ws2, rfl, h5, h6⟩⟩ := two_args r1
  refine ⟨p, p2, ws, ws2, rfl, sq_of (g1.kh _ _ h3), sq_of (g1.kh _ _ h5), q _ Kn1 H1 g1 fun i Kn' H' e1 e2 => ?_⟩
  have hq : SqL K H' p ws := sq_of ((e1.trans e2) _ _ h3)
  have hq2 : SqL K H' p2 ws2 := sq_of ((e1.trans e2) _ _ h5)
  refine ⟨fun y hy => ?_, fun hl => ⟨ws, ws2, hq, hq2, ?_⟩⟩
  · obtain ⟨x, y, hx, hy2, rfl⟩ := zip_get hy
    obtain ⟨v, hv, rv⟩ := paired_at h4 hx
    obtain ⟨v2, hv2, rv2⟩ := paired_at h6 hy2
    refine ⟨⟨ws, ws2, v, v2, hq, hq2, hv, hv2⟩, fun u H2 hy => ?_⟩
    obtain ⟨T, z, z2, rfl, hT, rfl, f, f2⟩ := hy
    have e3 : v = z := Option.some.inj (hv.symm.trans (f ws hq))
    have e4 : v2 = z2 := Option.some.inj (hv2.symm.trans (f2 ws2 hq2))
    subst e3
    subst e4
    have g : Gr Kn' H' (upd Kn' T (.tup [v, v2])) (upd H' T (.tup [v, v2])) := Gr.new e2 hT
    exact ⟨_, g, T, _, rfl, upd_same, v, [v2], rfl, Rp.mono (e1.trans g.kk) rv, v2, [], rfl, Rp.mono (e1.trans g.kk) rv2, rfl⟩
  · rw [paired_len h4, paired_len h6]
    simp [zipI] at hl
    omega
end

/-! ### loops -/
structure Bs (F Kn0 Kn1 : Hp) : Prop where
  e : Ex Kn0 Kn1
  sp : ∀ p, F p ≠ none → Kn0 p = none → Kn1 p = none
section
variable {K : Fg} {F Kn0 Kn1 : Hp} {sl sl' : List Sl} {ow ow0 ow1 : List Ow} {α β γ : Type} [Rp α] [Rp β] [Rp γ] {D : Ends} {σ : L2.St} {Kn H : Hp}
theorem Bs.refl : Bs F Kn0 Kn0 := ⟨Ex.refl _, fun _ _ h => h⟩
theorem S.bs (s : S K F Kn0 sl ow σ Kn H) : Bs F Kn0 Kn := ⟨s.e0, s.sep⟩
theorem S.rebase (s : S K F Kn0 sl ow σ Kn H) : S K F Kn sl ow σ Kn H := ⟨Ex.refl _, s.ek, s.ef, fun _ _ h => h, s.sl, s.ow⟩
theorem S.unbase (b : Bs F Kn0 Kn1) (s : S K F Kn1 sl ow σ Kn H) : S K F Kn0 sl ow σ Kn H := ⟨b.e.trans s.e0, s.ek, s.ef, fun p h1 h2 => s.sep p h1 (b.sp p h1 h2), s.sl, s.ow⟩
theorem RT.base {R : VK} {x : α} (q : RT K F Kn0 ow R x) (b : Bs F Kn0 Kn1) : RT K F Kn1 ow R x := fun v Kn H s => q v Kn H (s.unbase b)
theorem RN.base {R : VK} {xs : List α} (q : RN K F Kn0 ow R xs) (b : Bs F Kn0 Kn1) : RN K F Kn1 ow R xs := fun p ws Kn H s => q p ws Kn H (s.unbase b)
theorem SN.base (q : SN K F Kn0 sl ow D) (b : Bs F Kn0 Kn1) : SN K F Kn1 sl ow D := fun σ Kn H s => q σ Kn H (s.unbase b)
theorem sb_for {wi : TI} {g : TG} {tb : TS} {Sx : Type} {xs : List β} (slx : Sx → List Sl) (owx : Sx → List Ow) (gx : β → Sx → List Sl) (js : List Nat) (P : List β → Sx → Prop) (s0 : Sx) (hi : ITM K F Kn0 sl ow wi ow1 xs) (h0 : P xs s0) (le : SlLe sl (slx s0)) (eo : (owx s0).Sublist ow1)
    (hg : ∀ x s, GT K g (slx s) (gx x s) js x)
    (step : ∀ Kn1, Bs F Kn0 Kn1 → ∀ x rest s, P (x :: rest) s → ∀ N : L2.St → Hp → Prop, (∀ s', P rest s' → ∀ σ Kn H, S K F Kn1 (slx s') (owx s') σ Kn H → N σ H) → SB K F Kn1 (gx x s) (owx s) { D with nx := N, ct := N, bk := D.nx } tb)
    (done : ∀ s, P [] s → SN K F Kn0 (slx s) (owx s) D) : SB K F Kn0 sl ow D (tFor wi g tb) := fun σ Kn H s =>
  hi σ Kn H s _ fun J Kn1 H1 e1 s1 w => by
    have b : Bs F Kn0 Kn1 := s1.bs
    refine ⟨fun i m σ H => i + m = xs.length ∧ ∃ Kn s, P (xs.drop i) s ∧ S K F Kn1 (slx s) (owx s) σ Kn H, ⟨xs.length, by omega, Kn1, s0, h0, (s1.rebase.le le).sub eo⟩, fun i m σ H hW => ?_⟩
    obtain ⟨em, Kn, s, hP, hS⟩ := hW
    by_cases hlt : i < xs.length
    · have hx : xs[i]? = some xs[i] := List.getElem?_eq_getElem hlt
      have hd : xs.drop i = xs[i] :: xs.drop (i + 1) := List.drop_eq_getElem_cons hlt
      rw [hd] at hP
      obtain ⟨go, yl⟩ := (w i Kn H hS.e0 hS.ek).1 _ hx
      refine .inr ⟨go, fun σ' H' => ∃ Kn s, P (xs.drop (i + 1)) s ∧ S K F Kn1 (slx s) (owx s) σ' Kn H', fun σ' H' ⟨Kn', s', h1, h2⟩ => ⟨m - 1, by omega, by omega, Kn', s', h1, h2⟩, fun v H' hy => ?_⟩
      obtain ⟨Kn2, g2, rv⟩ := yl v H' hy
      have hS2 := hS.grow g2
      refine hg _ s σ Kn2 H' v hS2.sl hS2.ek rv _ fun σ2 h2 _ => ?_
      exact step Kn1 b _ _ s hP _ (fun s' hs' σ Kn H hS' => ⟨Kn, s', hs', hS'⟩) σ2 Kn2 H' ⟨hS2.e0, hS2.ek, hS2.ef, hS2.sep, h2, hS2.ow⟩
    · have hd : xs.drop i = [] := List.drop_eq_nil_of_le (by omega)
      rw [hd] at hP
      exact .inl ⟨(w i Kn H hS.e0 hS.ek).2 (by omega), done s hP σ Kn H (hS.unbase b)⟩
theorem sb_while {tt : TT} {tb : TS} {Sx : Type} (slx : Sx → List Sl) (owx : Sx → List Ow) (P : Nat → Sx → Prop) (n0 : Nat) (s0 : Sx) (h0 : P n0 s0) (le : SlLe sl (slx s0)) (eo : (owx s0).Sublist ow)
    (step : ∀ n s, P n s → ∃ b, ET K F Kn0 (slx s) (owx s) tt b ∧
      (b = true → ∀ N : L2.St → Hp → Prop, (∀ m s', m < n → P m s' → ∀ σ Kn H, S K F Kn0 (slx s') (owx s') σ Kn H → N σ H) → SB K F Kn0 (slx s) (owx s) { D with nx := N, ct := N, bk := D.nx } tb) ∧ (b = false → SN K F Kn0 (slx s) (owx s) D)) :
    SB K F Kn0 sl ow D (tWhile tt tb) := fun σ Kn H s => by
  refine ⟨fun n σ H => ∃ Kn s, P n s ∧ S K F Kn0 (slx s) (owx s) σ Kn H, ⟨n0, Kn, s0, h0, (s.le le).sub eo⟩, fun n σ H hW => ?_⟩
  obtain ⟨Kn, s, hP, hS⟩ := hW
  obtain ⟨b, h1, h2, h3⟩ := step n s hP
  refine h1 σ Kn H hS _ fun Kn1 H1 g1 => ?_
  cases b with
  | true => exact iteT ⟨fun σ H => ∃ m Kn s, m < n ∧ P m s ∧ S K F Kn0 (slx s) (owx s) σ Kn H, fun σ' H' ⟨m, Kn', s', hm, hp, hs⟩ => ⟨m, hm, Kn', s', hp, hs⟩, h2 rfl _ (fun m s' hm hp σ Kn H hs => ⟨m, Kn, s', hm, hp, hs⟩) σ Kn1 H1 (hS.grow g1)⟩
  | false => exact iteF (h3 rfl σ Kn1 H1 (hS.grow g1))
end

/-! ### comprehensions -/
def lcGo {β γ : Type} (c : β → Option Bool) (f : β → Option γ) : List β → Option (List γ)
  | [] => some []
  | x :: xs => (c x).bind fun b => if b = true then (f x).bind fun z => (lcGo c f xs).bind fun zs => some (z :: zs) else lcGo c f xs
def lcM {β γ : Type} (c : β → Option Bool) (f : β → Option γ) (xs : List β) : Option (List γ) := if xs.length < 1000000 then lcGo c f xs else none
def lcSGo {β γ Sx : Type} (f : β → Sx → Option (γ × Sx)) : List β → Sx → Option (List γ × Sx)
  | [], s => some ([], s)
  | x :: xs, s => (f x s).bind fun r => (lcSGo f xs r.2).bind fun q => some (r.1 :: q.1, q.2)
def lcS {β γ Sx : Type} (f : β → Sx → Option (γ × Sx)) (xs : List β) (s : Sx) : Option (List γ × Sx) := if xs.length < 1000000 then lcSGo f xs s else none
section
variable {K : Fg} {F Kn0 : Hp} {sl sl' : List Sl} {ow ow0 ow1 : List Ow} {α β γ : Type} [Rp α] [Rp β] [Rp γ] {σ : L2.St} {Kn H : Hp} {tt : TT} {te : TE} {wi : TI} {g : TG} {vs js : List Nat}
theorem bind_some {α β : Type} {m : Option α} {f : α → Option β} {r : β} (h : m.bind f = some r) : ∃ a, m = some a ∧ f a = some r := by
  cases m with
  | none => cases h
  | some a => exact ⟨a, rfl, h⟩
theorem SlsOk.wipe : ∀ {vs : List Nat} {Kn : Hp} {sl : List Sl} {σ : L2.St}, (∀ j ∈ vs, sl[j]? = some .any) → SlsOk K Kn sl σ → SlsOk K Kn sl (wipe σ vs)
  | [], _, _, _, _, h => h
  | v :: vs, Kn, sl, σ, hv, h => by
    have h1 := SlsOk.wipe (vs := vs) (fun j hj => hv j (List.mem_cons_of_mem _ hj)) h
    have h2 := SlsOk.set (K := K) (H := Kn) (s := .any) (o := none) trivial v h1
    have e : sl.set v .any = sl := by
      refine List.ext_getElem? fun m => ?_
      have hm := hv v List.mem_cons_self
      by_cases q : v = m
      · subst q
        rw [List.getElem?_set_self (List.getElem?_eq_some_iff.mp hm).1, hm]
      · rw [List.getElem?_set_ne q]
    rw [e] at h2
    exact h2
theorem S.wipe (s : S K F Kn0 sl ow σ Kn H) (hv : ∀ j ∈ vs, sl[j]? = some .any) : S K F Kn0 sl ow (wipe σ vs) Kn H := ⟨s.e0, s.ek, s.ef, s.sep, s.sl.wipe hv, s.ow⟩
theorem Gr.mut {Kn' H' : Hp} {p : Addr} {o : HO} (g : Gr Kn H Kn' H') (hp : H p = none) (kp : Kn' p = none) : Gr Kn H Kn' (upd H' p o) :=
  ⟨g.kk, Ex.mut g.hh hp, upd_in g.kh kp, g.sp⟩
theorem S.slots {σ2 : L2.St} (s : S K F Kn0 sl ow σ Kn H) (h : SlsOk K Kn sl' σ2) : S K F Kn0 sl' ow σ2 Kn H := ⟨s.e0, s.ek, s.ef, s.sep, h, s.ow⟩
theorem en_lc {xs : List β} {zs : List γ} {c : β → Option Bool} {f : β → Option γ} (gx : β → List Sl) (hm : lcM c f xs = some zs) (hi : IT K F Kn0 sl ow wi xs) (hv : ∀ j ∈ vs, sl[j]? = some .any) (hg : ∀ x, GT K g sl (gx x) js x) (hj : ∀ j ∈ js, j ∈ vs)
    (ht : ∀ p (acc : List γ) x b, c x = some b → ET K F Kn0 (gx x) (ol p acc :: ow) tt b) (he : ∀ p (acc : List γ) x z, c x = some true → f x = some z → EV K F Kn0 (gx x) (ol p acc :: ow) te z) :
    EN K F Kn0 sl ow (tLc wi g tt te vs) zs := fun σ Kn H s Q q => by
  unfold lcM at hm
  split at hm
  case isFalse => cases hm
  rename_i hlen
  refine hi σ Kn H s _ fun J Kn1 H1 g1 w D hD => ?_
  have s1 := s.grow g1
  have kD : Kn1 D = none := fresh_back s1.ek hD
  have fD : F D = none := fresh_back s1.ef hD
  refine ⟨fun i m H' => i + m = xs.length ∧ ∃ Kn' ws acc rest, Gr Kn1 H1 Kn' H' ∧ Kn' D = none ∧ H' D = some (.lst ws) ∧ Paired (rep K Kn') ws acc ∧ acc.length ≤ i ∧ lcGo c f (xs.drop i) = some rest ∧ acc ++ rest = zs,
    ⟨xs.length, by omega, Kn1, [], [], zs, (Gr.newU g1.kh hD), kD, upd_same, .nil, Nat.le_refl _, hm, rfl⟩, fun i m H' hW => ?_⟩
  obtain ⟨em, Kn', ws, acc, rest, gr, kD', hD', rp, hal, hrest, hz⟩ := hW
  have s' : S K F Kn0 sl (ol D acc :: ow) σ Kn' H' := (s1.grow gr).own fD kD' (owned_ne s1 hD) hD' rp
  by_cases hlt : i < xs.length
  · have hx : xs[i]? = some xs[i] := List.getElem?_eq_getElem hlt
    have hd : xs.drop i = xs[i] :: xs.drop (i + 1) := List.drop_eq_getElem_cons hlt
    rw [hd] at hrest
    obtain ⟨b, hb, hrest⟩ := bind_some hrest
    obtain ⟨go, yl⟩ := (w i Kn' H' gr.kk gr.kh).1 _ hx
    refine .inr ⟨go, fun H'' => ∃ Kn' ws acc rest, Gr Kn1 H1 Kn' H'' ∧ Kn' D = none ∧ H'' D = some (.lst ws) ∧ Paired (rep K Kn') ws acc ∧ acc.length ≤ i + 1 ∧ lcGo c f (xs.drop (i + 1)) = some rest ∧ acc ++ rest = zs, fun H'' h => ⟨m - 1, by omega, by omega, h⟩, fun v H2 hy => ?_⟩
    obtain ⟨Kn2, g2, rv⟩ := yl v H2 hy
    have s2 := (s'.grow g2).wipe hv
    refine hg _ _ Kn2 H2 v s2.sl s2.ek rv _ fun σ3 h3 hw3 => ?_
    have s3 := s2.slots h3
    have hDn : H' D ≠ none := ne_none_of hD'
    refine ⟨(hw3 vs hj).trans ?_, ht D acc _ b hb σ3 Kn2 H2 s3 _ fun Kn3 H3 g3 => ?_⟩
    · have ww : ∀ (vs us : List Nat) (σ : L2.St), (∀ j ∈ vs, j ∈ us) → L2.wipe (L2.wipe σ vs) us = L2.wipe σ us := by
        intro vs
        induction vs with
        | nil => intro us σ _; rfl
        | cons a r ih =>
          intro us σ hh
          show L2.wipe ((L2.wipe σ r).set a none) us = L2.wipe σ us
          rw [wipe_set (hh a List.mem_cons_self)]
          exact ih us σ fun j hj => hh j (List.mem_cons_of_mem _ hj)
      exact ww vs vs σ fun _ h => h
    · have g123 : Gr Kn1 H1 Kn3 H3 := (gr.trans g2).trans g3
      have kD3 : Kn3 D = none := (g2.trans g3).sp D hDn kD'
      have hD3 : H3 D = some (.lst ws) := (g2.trans g3).hh _ _ hD'
      cases b with
      | true =>
        obtain ⟨z, hfz, hrest⟩ := bind_some (show (f xs[i]).bind _ = some rest from hrest)
        obtain ⟨zs', hzs, hrest⟩ := bind_some hrest
        cases hrest
        refine iteT (he D acc _ z hb hfz σ3 Kn3 H3 (s3.grow g3) _ fun y Kn4 H4 g4 ry => ?_)
        have g234 := (g2.trans g3).trans g4
        have kD4 : Kn4 D = none := g4.sp D (ne_none_of hD3) kD3
        refine ⟨ws, g4.hh _ _ hD3, by rw [paired_len rp]; exact lt_line (by omega), Kn4, ws ++ [y], acc ++ [z], zs', (gr.trans g234).mut hD kD4, kD4, upd_same, paired_append (paired_mono g234.kk rp) (.cons ry .nil), ?_, hzs, ?_⟩
        · rw [List.length_append, List.length_singleton]; omega
        · rw [List.append_assoc]; exact hz
      | false =>
        have hrest : lcGo c f (xs.drop (i + 1)) = some rest := hrest
        exact iteF ⟨Kn3, ws, acc, rest, g123, kD3, hD3, paired_mono (g2.trans g3).kk rp, by omega, hrest, hz⟩
  · have hd : xs.drop i = [] := List.drop_eq_nil_of_le (by omega)
    rw [hd] at hrest
    cases hrest
    rw [List.append_nil] at hz
    subst hz
    exact .inl ⟨(w i Kn' H' gr.kk gr.kh).2 (by omega), q D ws Kn' H' (g1.trans gr) (fresh_back g1.hh hD) kD' hD' rp⟩
theorem et_yes : ET K F Kn0 sl ow tYes true := fun σ Kn H s Q q => q Kn H (Gr.refl s.ek)
/-- what changes on the way: owx -/
theorem enm_lc {Sx : Type} {xs : List β} {zs : List γ} {f : β → Sx → Option (γ × Sx)} (owx : Sx → List Ow) (gx : β → List Sl) (s0 s9 : Sx) (hm : lcS f xs s0 = some (zs, s9)) (hi : ITM K F Kn0 sl ow wi (owx s0) xs) (hv : ∀ j ∈ vs, sl[j]? = some .any) (hg : ∀ x, GT K g sl (gx x) js x) (hj : ∀ j ∈ js, j ∈ vs)
    (he : ∀ Kn1, Bs F Kn0 Kn1 → ∀ p (acc : List γ) x s z s', f x s = some (z, s') → EM K F Kn1 (gx x) (ol p acc :: owx s) te (ol p acc :: owx s') z) :
    ENM K F Kn0 sl ow (tLc wi g tYes te vs) (owx s9) zs := fun σ Kn H s Q q => by
  unfold lcS at hm
  split at hm
  case isFalse => cases hm
  rename_i hlen
  refine hi σ Kn H s _ fun J Kn1 H1 e1 s1 w D hD => ?_
  have kD : Kn1 D = none := fresh_back s1.ek hD
  have fD : F D = none := fresh_back s1.ef hD
  have b1 : Bs F Kn0 Kn1 := s1.bs
  refine ⟨fun i m H' => i + m = xs.length ∧ ∃ Kn' st acc rest, S K F Kn1 sl (ol D acc :: owx st) σ Kn' H' ∧ acc.length ≤ i ∧ lcSGo f (xs.drop i) st = some (rest, s9) ∧ acc ++ rest = zs,
    ⟨xs.length, by omega, Kn1, s0, [], zs, ?_, Nat.le_refl _, hm, rfl⟩, fun i m H' hW => ?_⟩
  · have s2 := s1.rebase.grow (Gr.newU (o := .lst []) s1.ek hD)
    exact s2.own fD kD (owned_ne s1 hD) upd_same .nil
  obtain ⟨em, Kn', st, acc, rest, s', hal, hrest, hz⟩ := hW
  obtain ⟨_, kD', ws, hD', rp⟩ := s'.ow.each (ol D acc) List.mem_cons_self
  have hD' : H' D = some (.lst ws) := hD'
  by_cases hlt : i < xs.length
  · have hx : xs[i]? = some xs[i] := List.getElem?_eq_getElem hlt
    have hd : xs.drop i = xs[i] :: xs.drop (i + 1) := List.drop_eq_getElem_cons hlt
    rw [hd] at hrest
    obtain ⟨⟨z, st'⟩, hf, hrest⟩ := bind_some hrest
    obtain ⟨⟨zs', s9'⟩, hzs, hrest⟩ := bind_some hrest
    have h9 := Option.some.inj hrest
    have h91 : z :: zs' = rest := congrArg Prod.fst h9
    have h92 : s9' = s9 := congrArg Prod.snd h9
    rw [h92] at hzs
    subst h91
    obtain ⟨go, yl⟩ := (w i Kn' H' s'.e0 s'.ek).1 _ hx
    refine .inr ⟨go, fun H'' => ∃ Kn' st acc rest, S K F Kn1 sl (ol D acc :: owx st) σ Kn' H'' ∧ acc.length ≤ i + 1 ∧ lcSGo f (xs.drop (i + 1)) st = some (rest, s9) ∧ acc ++ rest = zs, fun H'' h => ⟨m - 1, by omega, by omega, h⟩, fun v H2 hy => ?_⟩
    obtain ⟨Kn2, g2, rv⟩ := yl v H2 hy
    have s2 := (s'.grow g2).wipe hv
    refine hg _ _ Kn2 H2 v s2.sl s2.ek rv _ fun σ3 h3 hw3 => ?_
    have s3 := s2.slots h3
    refine ⟨(hw3 vs hj).trans ?_, ?_⟩
    · have ww : ∀ (vs us : List Nat) (σ : L2.St), (∀ j ∈ vs, j ∈ us) → L2.wipe (L2.wipe σ vs) us = L2.wipe σ us := by
        intro vs
        induction vs with
        | nil => intro us σ _; rfl
        | cons a r ih =>
          intro us σ hh
          show L2.wipe ((L2.wipe σ r).set a none) us = L2.wipe σ us
          rw [wipe_set (hh a List.mem_cons_self)]
          exact ih us σ fun j hj => hh j (List.mem_cons_of_mem _ hj)
      exact ww vs vs σ fun _ h => h
    · unfold tYes
      refine iteT ?_
      refine he Kn1 b1 D acc _ st z st' hf σ3 Kn2 H2 s3 _ fun y Kn4 H4 e4 s4 ry => ?_
      obtain ⟨_, kD4, ws4, hD4, rp4⟩ := s4.ow.each (ol D acc) List.mem_cons_self
      have kD4 : Kn4 D = none := kD4
      have s5 : S K F Kn1 (gx xs[i]) (ol D (acc ++ [z]) :: owx st') σ3 Kn4 (upd H4 D (.lst (ws4 ++ [y]))) := s4.write (j := 0) (xs' := acc ++ [z]) rfl (Ex.refl _) (upd_in s4.ek kD4) (fun q hq _ => upd_ne hq) (fun _ _ h => h) upd_same (paired_append rp4 (.cons ry .nil))
      have hsl : SlsOk K Kn4 sl σ := s'.sl.mono (g2.kk.trans e4)
      refine ⟨ws4, hD4, by rw [paired_len rp4]; exact lt_line (by omega), Kn4, st', acc ++ [z], zs', s5.slots hsl, ?_, hzs, ?_⟩
      · rw [List.length_append, List.length_singleton]; omega
      · rw [List.append_assoc]; exact hz
  · have hd : xs.drop i = [] := List.drop_eq_nil_of_le (by omega)
    rw [hd] at hrest
    have h9 := Option.some.inj hrest
    have h91 : [] = rest := congrArg Prod.fst h9
    have h92 : st = s9 := congrArg Prod.snd h9
    subst h91
    subst h92
    rw [List.append_nil] at hz
    subst hz
    have no : ∀ o ∈ owx st, o.ad ≠ D := fun o ho z => (List.nodup_cons.mp s'.ow.nd).1 (List.mem_map.mpr ⟨o, ho, z⟩)
    exact .inl ⟨(w i Kn' H' s'.e0 s'.ek).2 (by omega), q D ws Kn' H' (e1.trans s'.e0) ((s'.unbase b1).sub (List.sublist_cons_self _ _)) fD kD' no hD' rp⟩
end
end Wk
/-! Wk4: loops as functions, == of data, kinds, lists of one's own that are read -/
namespace Wk
open PySem PySem.Spec L2 Evl

/-! ### the mirrors' words -/
inductive Ctl (Sx R : Type) where
  | nx (s : Sx)
  | bk (s : Sx)
  | rt (r : R)
def forS {β Sx : Type} (f : β → Sx → Option Sx) : List β → Sx → Option Sx
  | [], s => some s
  | x :: xs, s => (f x s).bind (forS f xs)
def forC {β Sx R : Type} (f : β → Sx → Option (Ctl Sx R)) : List β → Sx → Option (Ctl Sx R)
  | [], s => some (.nx s)
  | x :: xs, s => (f x s).bind fun c => match c with
    | .nx s' => forC f xs s'
    | .bk s' => some (.nx s')
    | .rt r => some (.rt r)
def whileS {Sx : Type} (c : Sx → Option Bool) (f : Sx → Option Sx) : Nat → Sx → Option Sx
  | 0, _ => none
  | n + 1, s => (c s).bind fun b => if b = true then (f s).bind (whileS c f n) else some s
def whileC {Sx R : Type} (c : Sx → Option Bool) (f : Sx → Option (Ctl Sx R)) : Nat → Sx → Option (Ctl Sx R)
  | 0, _ => none
  | n + 1, s => (c s).bind fun b => if b = true then (f s).bind fun c' => match c' with
    | .nx s' => whileC c f n s'
    | .bk s' => some (.nx s')
    | .rt r => some (.rt r) else some (.nx s)
theorem whileS_more {Sx : Type} {c : Sx → Option Bool} {f : Sx → Option Sx} : ∀ {n m : Nat} {s r : Sx}, whileS c f n s = some r → n ≤ m → whileS c f m s = some r
  | 0, _, _, _, h, _ => by cases h
  | n + 1, 0, _, _, _, h => absurd h (Nat.not_succ_le_zero _)
  | n + 1, m + 1, s, r, h, hm => by
    unfold whileS at h ⊢
    cases e : c s with
    | none => rw [e] at h; cases h
    | some b =>
      rw [e] at h
      cases b with
      | false => exact h
      | true =>
        have h : ((f s).bind (whileS c f n)) = some r := h
        show ((f s).bind (whileS c f m)) = some r
        cases e2 : f s with
        | none => rw [e2] at h; cases h
        | some s' =>
          rw [e2] at h
          exact whileS_more (show whileS c f n s' = some r from h) (Nat.le_of_succ_le_succ hm)
theorem whileC_more {Sx R : Type} {c : Sx → Option Bool} {f : Sx → Option (Ctl Sx R)} : ∀ {n m : Nat} {s : Sx} {r : Ctl Sx R}, whileC c f n s = some r → n ≤ m → whileC c f m s = some r
  | 0, _, _, _, h, _ => by cases h
  | n + 1, 0, _, _, _, h => absurd h (Nat.not_succ_le_zero _)
  | n + 1, m + 1, s, r, h, hm => by
    unfold whileC at h ⊢
    cases e : c s with
    | none => rw [e] at h; cases h
    | some b =>
      rw [e] at h
      cases b with
      | false => exact h
      | true =>
        have h : ((f s).bind _) = some r := h
        show ((f s).bind _) = some r
        cases e2 : f s with
        | none => rw [e2] at h; cases h
        | some k =>
          rw [e2] at h
          cases k with
          | nx s' => exact whileC_more (show whileC c f n s' = some r from h) (Nat.le_of_succ_le_succ hm)
          | bk _ => exact h
          | rt _ => exact h
/-- a while, for as many turns as it takes -/
noncomputable def whileF {Sx : Type} (c : Sx → Option Bool) (f : Sx → Option Sx) (s : Sx) : Option Sx := by
  classical exact if h : ∃ n r, whileS c f n s = some r then some h.choose_spec.choose else none
theorem whileF_some {Sx : Type} {c : Sx → Option Bool} {f : Sx → Option Sx} {s r : Sx} (h : whileF c f s = some r) : ∃ n, whileS c f n s = some r := by
  unfold whileF at h
  split at h
  · rename_i he
    refine ⟨he.choose, ?_⟩
    rw [← Option.some.inj h]
    exact he.choose_spec.choose_spec
  · cases h
theorem whileF_of {Sx : Type} {c : Sx → Option Bool} {f : Sx → Option Sx} {n : Nat} {s r : Sx} (h : whileS c f n s = some r) : whileF c f s = some r := by
  have he : ∃ n r, whileS c f n s = some r := ⟨n, r, h⟩
  unfold whileF
  rw [dif_pos he]
  have h2 := he.choose_spec.choose_spec
  have a := whileS_more h (Nat.le_max_left n he.choose)
  have b := whileS_more h2 (Nat.le_max_right n he.choose)
  exact b.symm.trans a
noncomputable def whileCF {Sx R : Type} (c : Sx → Option Bool) (f : Sx → Option (Ctl Sx R)) (s : Sx) : Option (Ctl Sx R) := by
  classical exact if h : ∃ n r, whileC c f n s = some r then some h.choose_spec.choose else none
theorem whileCF_some {Sx R : Type} {c : Sx → Option Bool} {f : Sx → Option (Ctl Sx R)} {s : Sx} {r : Ctl Sx R} (h : whileCF c f s = some r) : ∃ n, whileC c f n s = some r := by
  unfold whileCF at h
  split at h
  · rename_i he
    refine ⟨he.choose, ?_⟩
    rw [← Option.some.inj h]
    exact he.choose_spec.choose_spec
  · cases h
theorem whileCF_of {Sx R : Type} {c : Sx → Option Bool} {f : Sx → Option (Ctl Sx R)} {n : Nat} {s : Sx} {r : Ctl Sx R} (h : whileC c f n s = some r) : whileCF c f s = some r := by
  have he : ∃ n r, whileC c f n s = some r := ⟨n, r, h⟩
  unfold whileCF
  rw [dif_pos he]
  have h2 := he.choose_spec.choose_spec
  have a := whileC_more h (Nat.le_max_left n he.choose)
  have b := whileC_more h2 (Nat.le_max_right n he.choose)
  exact b.symm.trans a
def appO {α : Type} (xs : List α) (x : α) : Option (List α) := if xs.length < 1000000 then some (xs ++ [x]) else none
def modO (i j : Int) : Option Int := if 0 < j then some (i % j) else none
def divO (i j : Int) : Option Int := if 0 < j ∧ j < 18446744073709551616 then some (i / j) else none
def mulO (i j : Int) : Option Int := if -18446744073709551616 < i ∧ i < 18446744073709551616 then some (i * j) else none
def catO {α : Type} (xs ys : List α) : Option (List α) := if xs.length + ys.length ≤ 1000000 then some (xs ++ ys) else none
theorem appO_some {α : Type} {xs ys : List α} {x : α} (h : appO xs x = some ys) : xs.length < 1000000 ∧ ys = xs ++ [x] := by
  unfold appO at h
  split at h
  · exact ⟨by assumption, (Option.some.inj h).symm⟩
  · cases h
theorem appO_ok {α : Type} {xs : List α} {x : α} (h : xs.length < 1000000) : appO xs x = some (xs ++ [x]) := if_pos h
theorem modO_ok {i j : Int} (h : 0 < j) : modO i j = some (i % j) := if_pos h
theorem divO_ok {i j : Int} (h : 0 < j) (h2 : j < 18446744073709551616) : divO i j = some (i / j) := if_pos ⟨h, h2⟩
theorem mulO_ok {i j : Int} (h : -18446744073709551616 < i) (h2 : i < 18446744073709551616) : mulO i j = some (i * j) := if_pos ⟨h, h2⟩
theorem catO_ok {α : Type} {xs ys : List α} (h : xs.length + ys.length ≤ 1000000) : catO xs ys = some (xs ++ ys) := if_pos h

section
variable {K : Fg} {F Kn0 : Hp} {sl sl' : List Sl} {ow ow0 ow1 ow2 : List Ow} {α β γ τ : Type} [Rp α] [Rp β] [Rp γ] [Tp τ] {ta tb te : TE} {x : α} {D : Ends} {t u tz : TS} {tt : TT} {b : Bool} {i j : Nat} {p : Addr}
theorem SB.sn (h : SB K F Kn0 sl ow D tz) : SN K F Kn0 sl ow { D with nx := tz D } := h
theorem r2_modO {i j z : Int} (h : modO i j = some z) : R2V K (rI (fun _ j => 0 < j) fun i j => .int (i % j)) i j z := by
  unfold modO at h
  split at h
  · cases h
    exact r2_I (by assumption)
  · cases h
theorem r2_divO {i j z : Int} (h : divO i j = some z) : R2V K (rI CDivW fun i j => .int (i / j)) i j z := by
  unfold divO at h
  split at h
  · rename_i hb
    cases h
    exact r2_I (wide_div (b := 64) hb.1 (by omega) (by decide) (by decide))
  · cases h
theorem r2_mulO {i j z : Int} (h : mulO i j = some z) : R2V K (rI CMul fun i j => .int (i * j)) i j z := by
  unfold mulO at h
  split at h
  · rename_i hb
    cases h
    exact r2_I (.inl ⟨by omega, by omega⟩)
  · cases h
theorem r2_catO {xs ys zs : List α} (h : catO xs ys = some zs) : R2L K rCat xs ys zs := by
  unfold catO at h
  split at h
  · cases h
    exact r2_cat (by assumption)
  · cases h
theorem sb_appO {xs xs' : List α} (hi : sl[i]? = some (.at p)) (hj : ow[j]? = some (ol p xs)) (h : EV K F Kn0 sl ow te x) (hx : appO xs x = some xs') (ho : ow.set j (ol p xs') = ow1) (k : SN K F Kn0 sl ow1 D) :
    SB K F Kn0 sl ow D (tDrop (tBM K "list" rAppend (tVar i) (tCons te tNil))) := by
  obtain ⟨h1, rfl⟩ := appO_some hx
  subst ho
  exact sb_app hi hj h h1 k
theorem sb_appOM {xs xs' : List α} (hi : sl[i]? = some (.at p)) (hi0 : ow[j]? = some (ol p xs)) (h : EM K F Kn0 sl ow te ow1 x) (hj : ow1[j]? = some (ol p xs)) (hx : appO xs x = some xs') (ho : ow1.set j (ol p xs') = ow2) (k : SN K F Kn0 sl ow2 D) :
    SB K F Kn0 sl ow D (tDrop (tBM K "list" rAppend (tVar i) (tCons te tNil))) := by
  obtain ⟨h1, rfl⟩ := appO_some hx
  subst ho
  exact sb_appM hi hi0 h hj h1 k
theorem sb_setO {xs xs' : List α} {n : Int} (hi : sl[i]? = some (.at p)) (hj : ow[j]? = some (ol p xs)) (h : EV K F Kn0 sl ow te x) (hn : EV K F Kn0 sl ow tb n) (hx : setI xs n x = some xs') (ho : ow.set j (ol p xs') = ow1) (k : SN K F Kn0 sl ow1 D) :
    SB K F Kn0 sl ow D (tAsg te (gSub (tVar i) tb rSetL)) := by
  subst ho
  exact sb_setI hi hj h hn hx k

/-! ### lists of one's own, read -/
theorem S.borrow {σ : L2.St} {Kn H : Hp} {xs : List α} (s : S K F Kn0 sl ow σ Kn H) (hi : sl[i]? = some (.at p)) (hj : ow[j]? = some (ol p xs)) : ∃ ws, Kn p = none ∧ H p = some (.lst ws) ∧ S K F Kn0 (sl.set i (sv xs)) (ow.eraseIdx j) σ (upd Kn p (.lst ws)) H := by
  obtain ⟨o, h1, h2⟩ := s.sl.get hi
  have h2 : o = some (.ref p) := h2
  obtain ⟨f1, f2, ws, f3, f4⟩ := s.ow.each _ (List.mem_of_getElem? hj)
  have s1 := s.sub (List.eraseIdx_sublist ow j)
  have no : ∀ o ∈ ow.eraseIdx j, o.ad ≠ p := fun o hm z => by
    obtain ⟨m, hm'⟩ := List.getElem?_of_mem hm
    rw [List.getElem?_eraseIdx] at hm'
    split at hm'
    · have := ow_at s.ow.nd hm' hj z
      omega
    · have := ow_at s.ow.nd hm' hj z
      omega
  have s2 := s1.know (o := .lst ws) f1 f2 no f3
  have hσ : σ.set i o = σ := by
    refine List.ext_getElem? fun m => ?_
    by_cases e : i = m
    · subst e
      rw [List.getElem?_set_self (List.getElem?_eq_some_iff.mp h1).1, h1]
    · rw [List.getElem?_set_ne e]
  have s3 := s2.set (x := sv xs) (o := o) i ⟨.ref p, h2, p, ws, rfl, upd_same, paired_mono (Ex.new f2) f4⟩
  rw [hσ] at s3
  exact ⟨ws, f2, f3, s3⟩
theorem ev_bor {γ : Type} [Rp γ] [Fl γ] {z : γ} {xs : List α} (hi : sl[i]? = some (.at p)) (hj : ow[j]? = some (ol p xs)) (hs : sl.set i (sv xs) = sl') (ho : ow.eraseIdx j = ow1) (h : EV K F Kn0 sl' ow1 te z) : EV K F Kn0 sl ow te z := fun σ Kn H s Q q => by
  obtain ⟨ws, kp, hp, s1⟩ := s.borrow hi hj
  subst hs
  subst ho
  exact h σ _ H s1 Q fun v Kn' H' g r => q v Kn H' ⟨Ex.refl _, g.hh, s.ek.trans g.hh, fun _ _ h => h⟩ (Fl.iff.mpr (Fl.iff.mp r))
theorem et_bor {xs : List α} (hi : sl[i]? = some (.at p)) (hj : ow[j]? = some (ol p xs)) (hs : sl.set i (sv xs) = sl') (ho : ow.eraseIdx j = ow1) (h : ET K F Kn0 sl' ow1 tt b) : ET K F Kn0 sl ow tt b := fun σ Kn H s Q q => by
  obtain ⟨ws, kp, hp, s1⟩ := s.borrow hi hj
  subst hs
  subst ho
  exact h σ _ H s1 Q fun Kn' H' g => q Kn H' ⟨Ex.refl _, g.hh, s.ek.trans g.hh, fun _ _ h => h⟩
theorem ev_ixO {xs : List α} {n : Int} {z : α} (hi : sl[i]? = some (.at p)) (hj : ow[j]? = some (ol p xs)) (hn : EV K F Kn0 sl ow tb n) (hz : atI xs n = some z) : EV K F Kn0 sl ow (tOp (rIxL K) (tVar i) tb) z := fun σ Kn H s Q q => by
  obtain ⟨o, h1, h2⟩ := s.sl.get hi
  obtain ⟨f1, f2, ws, f3, f4⟩ := s.ow.each _ (List.mem_of_getElem? hj)
  refine ⟨.ref p, by rw [h1]; exact congrArg some h2, hn σ Kn H s _ fun v Kn1 H1 g1 r1 => ?_⟩
  cases r1
  obtain ⟨u, e, r⟩ := paired_atI f4 hz
  exact ⟨p, ws, n, u, rfl, rfl, sq_of (g1.hh _ _ f3), e, q u Kn1 H1 g1 (Rp.mono g1.kk r)⟩
theorem en_slO {xs : List α} {tl th : TO} {lo hi : Option Int} (hx : sl[i]? = some (.at p)) (hj : ow[j]? = some (ol p xs)) (hl : EO K F Kn0 sl ow tl lo) (hh : EO K F Kn0 sl ow th hi) : EN K F Kn0 sl ow (tSl (rSlL K) (tVar i) tl th) (cut xs lo hi) := fun σ Kn H s Q q => by
  obtain ⟨o, h1, h2⟩ := s.sl.get hx
  obtain ⟨f1, f2, ws, f3, f4⟩ := s.ow.each _ (List.mem_of_getElem? hj)
  refine ⟨.ref p, by rw [h1]; exact congrArg some h2, hl σ Kn H s _ fun Kn2 H2 g2 => hh σ Kn2 H2 (s.grow g2) _ fun Kn3 H3 g3 => ?_⟩
  have g := g2.trans g3
  exact ⟨p, ws, rfl, sq_of (g.hh _ _ f3), fun l hl => q l _ Kn3 _ (g.trans (Gr.newU g3.kh hl)) (fresh_back g.hh hl) (fresh_back g3.kh hl) upd_same (paired_cut (paired_mono g.kk f4) lo hi)⟩
end

/-! ### == -/
class Pd (α : Type) [Rp α] where
  toD : α → PyData
  dp : Nat
  isD : ∀ {K : Fg} {H : Hp} {v : V} {a : α}, rep K H v a → Dp K H v (toD a)
  dep : ∀ a, (toD a).depth ≤ dp
  eqd : ∀ a b : α, PyData.eqv (toD a) (toD b) = true ↔ a = b
class Pq (τ : Type) [Tp τ] where
  toDs : τ → List PyData
  dp : Nat
  isD : ∀ {K : Fg} {H : Hp} {vs : List V} {a : τ}, rept K H vs a → DpAll K H vs (toDs a)
  dep : ∀ a, PyData.depthAll (toDs a) ≤ dp
  eqd : ∀ a b : τ, PyData.eqvAll (toDs a) (toDs b) = true ↔ a = b
def okD {α : Type} [Rp α] [Pd α] (a : α) : Bool := (Pd.toD a).canLay0
instance : Pd Int := { toD := .int, dp := 0, isD := fun h => by cases h; exact .int _, dep := fun a => Nat.le_refl _, eqd := fun a b => by simp [PyData.eqv] }
instance : Pd Bool := { toD := .bool, dp := 0, isD := fun h => by cases h; exact .bl _, dep := fun a => Nat.le_refl _, eqd := fun a b => by simp [PyData.eqv] }
instance : Pd Str := { toD := .str, dp := 0, isD := fun h => by cases h; exact .str _, dep := fun a => Nat.le_refl _, eqd := fun a b => by simp [PyData.eqv] }
theorem eqvAll_map {α : Type} [Rp α] [Pd α] : ∀ (xs ys : List α), PyData.eqvAll (xs.map Pd.toD) (ys.map Pd.toD) = true ↔ xs = ys
  | [], [] => by simp [PyData.eqvAll]
  | [], y :: ys => by simp [PyData.eqvAll]
  | x :: xs, [] => by simp [PyData.eqvAll]
  | x :: xs, y :: ys => by
    simp only [List.map_cons, PyData.eqvAll, Bool.and_eq_true, Pd.eqd, eqvAll_map xs ys, List.cons.injEq]
theorem depthAll_map {α : Type} [Rp α] [Pd α] : ∀ (xs : List α), PyData.depthAll (xs.map Pd.toD) ≤ Pd.dp α
  | [] => Nat.zero_le _
  | x :: xs => by
    simp only [List.map_cons, PyData.depthAll]
    exact Nat.max_le.mpr ⟨Pd.dep x, depthAll_map xs⟩
theorem dpAll_of {α : Type} [Rp α] [Pd α] {K : Fg} {H : Hp} : ∀ {vs : List V} {xs : List α}, Paired (rep K H) vs xs → DpAll K H vs (xs.map Pd.toD)
  | _, _, .nil => .nil
  | _, _, .cons r t => .cons (Pd.isD r) (dpAll_of t)
instance {α : Type} [Rp α] [Pd α] : Pd (List α) where
  toD xs := .list (xs.map Pd.toD)
  dp := Pd.dp α + 1
  isD h := by
    obtain ⟨p, vs, rfl, h1, h2⟩ := h
    exact .lst (sq_of h1) (dpAll_of h2)
  dep a := by
    simp only [PyData.depth]
    exact Nat.succ_le_succ (depthAll_map a)
  eqd a b := by
    simp only [PyData.eqv]
    exact eqvAll_map a b
instance {α : Type} [Rp α] [Pd α] : Pd (Tu α) where
  toD xs := .tuple (xs.l.map Pd.toD)
  dp := Pd.dp α + 1
  isD h := by
    obtain ⟨p, vs, rfl, h1, h2⟩ := h
    exact .tup (st_of h1) (dpAll_of h2)
  dep a := by
    simp only [PyData.depth]
    exact Nat.succ_le_succ (depthAll_map a.l)
  eqd a b := by
    simp only [PyData.eqv]
    rw [eqvAll_map]
    cases a
    cases b
    simp
instance : Pq Unit where
  toDs _ := []
  dp := 0
  isD h := by cases h; exact .nil
  dep _ := Nat.le_refl _
  eqd _ _ := by simp [PyData.eqvAll]
instance {α τ : Type} [Rp α] [Tp τ] [Pd α] [Pq τ] : Pq (α × τ) where
  toDs t := Pd.toD t.1 :: Pq.toDs t.2
  dp := max (Pd.dp α) (Pq.dp τ)
  isD h := by
    obtain ⟨v, r, rfl, h1, h2⟩ := h
    exact .cons (Pd.isD h1) (Pq.isD h2)
  dep a := by
    simp only [PyData.depthAll]
    exact Nat.max_le.mpr ⟨Nat.le_trans (Pd.dep _) (Nat.le_max_left _ _), Nat.le_trans (Pq.dep _) (Nat.le_max_right _ _)⟩
  eqd a b := by
    simp only [PyData.eqvAll, Bool.and_eq_true, Pd.eqd, Pq.eqd]
    constructor
    · rintro ⟨h1, h2⟩
      exact Prod.ext h1 h2
    · rintro rfl
      exact ⟨rfl, rfl⟩
instance {α τ : Type} [Rp α] [Tp τ] [Pd α] [Pq τ] : Pd (α × τ) where
  toD t := .tuple (Pq.toDs t)
  dp := Pq.dp (α × τ) + 1
  isD h := by
    obtain ⟨p, vs, rfl, h1, h2⟩ := h
    exact .tup (st_of h1) (Pq.isD h2)
  dep a := by
    simp only [PyData.depth]
    exact Nat.succ_le_succ (Pq.dep a)
  eqd a b := by
    simp only [PyData.eqv]
    exact Pq.eqd a b
/-- the same kind on both sides -/
def eqO {α : Type} [Rp α] [Pd α] [DecidableEq α] (a b : α) : Option Bool := if (okD a && okD b && decide (Pd.dp α ≤ 64)) = true then some (decide (a = b)) else none
def neO {α : Type} [Rp α] [Pd α] [DecidableEq α] (a b : α) : Option Bool := if (okD a && okD b && decide (Pd.dp α ≤ 64)) = true then some (!decide (a = b)) else none
section
variable {K : Fg} {α : Type} [Rp α] [Pd α] [DecidableEq α]
theorem shaped_of {a : α} (h : okD a = true) (h2 : Pd.dp α ≤ 64) : SeqAt.shaped (Pd.toD a) = true := by
  unfold SeqAt.shaped
  rw [Bool.and_eq_true]
  exact ⟨h, decide_eq_true (Nat.le_trans (Pd.dep a) h2)⟩
theorem eqv_dec (a b : α) : PyData.eqv (Pd.toD a) (Pd.toD b) = decide (a = b) := by
  by_cases h : a = b
  · rw [decide_eq_true h]
    exact (Pd.eqd a b).mpr h
  · rw [decide_eq_false h]
    cases e : PyData.eqv (Pd.toD a) (Pd.toD b) with
    | false => rfl
    | true => exact absurd ((Pd.eqd a b).mp e) h
theorem dp_mono {H H' : Hp} (e : Ex H H') : ∀ {v : V} {d : PyData}, Dp K H v d → Dp K H' v d := fun h =>
  Dp.rec (motive_1 := fun v d _ => Dp K H' v d) (motive_2 := fun vs ds _ => DpAll K H' vs ds) .non .bl .int .str (fun s _ ih => .lst (ex_l e s) ih) (fun s _ ih => .tup (ex_t e s) ih) .nil (fun _ _ h1 h2 => .cons h1 h2) h
theorem r2_eqO {a b : α} {c : Bool} (h : eqO a b = some c) : R2V K (rEqD K) a b c := fun Kn H v w ek h1 h2 Q q => by
  unfold eqO at h
  split at h
  · rename_i hb
    rw [Bool.and_eq_true, Bool.and_eq_true] at hb
    cases h
    refine ⟨Pd.toD a, Pd.toD b, dp_mono ek (Pd.isD h1), dp_mono ek (Pd.isD h2), shaped_of hb.1.1 (of_decide_eq_true hb.2), shaped_of hb.1.2 (of_decide_eq_true hb.2), ?_⟩
    rw [eqv_dec]
    exact q.fl ek
  · cases h
theorem r2_neO {a b : α} {c : Bool} (h : neO a b = some c) : R2V K (rNeD K) a b c := fun Kn H v w ek h1 h2 Q q => by
  unfold neO at h
  split at h
  · rename_i hb
    rw [Bool.and_eq_true, Bool.and_eq_true] at hb
    cases h
    refine ⟨Pd.toD a, Pd.toD b, dp_mono ek (Pd.isD h1), dp_mono ek (Pd.isD h2), shaped_of hb.1.1 (of_decide_eq_true hb.2), shaped_of hb.1.2 (of_decide_eq_true hb.2), ?_⟩
    rw [eqv_dec]
    exact q.fl ek
  · cases h
/-- data without texts: always -/
class Pt (α : Type) [Rp α] [Pd α] : Prop where
  ok : ∀ a : α, okD a = true
class Pu (τ : Type) [Tp τ] [Pq τ] : Prop where
  ok : ∀ a : τ, PyData.canLayAll0 (Pq.toDs a) = true
instance : Pt Int := ⟨fun _ => rfl⟩
instance : Pt Bool := ⟨fun _ => rfl⟩
theorem canLayAll_map {α : Type} [Rp α] [Pd α] : ∀ (xs : List α), (∀ x ∈ xs, okD x = true) → PyData.canLayAll0 (xs.map Pd.toD) = true
  | [], _ => by simp [PyData.canLayAll0]
  | x :: xs, h => by
    simp only [List.map_cons, PyData.canLayAll0, Bool.and_eq_true]
    exact ⟨h x List.mem_cons_self, canLayAll_map xs fun y hy => h y (List.mem_cons_of_mem _ hy)⟩
theorem okD_list {α : Type} [Rp α] [Pd α] {xs : List α} (h : ∀ x ∈ xs, okD x = true) : okD xs = true := by
  show PyData.canLay0 (.list _) = true
  simp only [PyData.canLay0]
  exact canLayAll_map xs h
theorem okD_tu {α : Type} [Rp α] [Pd α] {xs : Tu α} (h : ∀ x ∈ xs.l, okD x = true) : okD xs = true := by
  show PyData.canLay0 (.tuple _) = true
  simp only [PyData.canLay0]
  exact canLayAll_map xs.l h
theorem okD_pair {α τ : Type} [Rp α] [Tp τ] [Pd α] [Pq τ] {t : α × τ} (h : okD t.1 = true) (h2 : PyData.canLayAll0 (Pq.toDs t.2) = true) : okD t = true := by
  show PyData.canLay0 (.tuple (Pd.toD t.1 :: Pq.toDs t.2)) = true
  simp only [PyData.canLay0, PyData.canLayAll0, Bool.and_eq_true]
  exact ⟨h, h2⟩
theorem okDs_cons {α τ : Type} [Rp α] [Tp τ] [Pd α] [Pq τ] {t : α × τ} (h : okD t.1 = true) (h2 : PyData.canLayAll0 (Pq.toDs t.2) = true) : PyData.canLayAll0 (Pq.toDs t) = true := by
  show PyData.canLayAll0 (Pd.toD t.1 :: Pq.toDs t.2) = true
  simp only [PyData.canLayAll0, Bool.and_eq_true]
  exact ⟨h, h2⟩
instance {α : Type} [Rp α] [Pd α] [Pt α] : Pt (List α) := ⟨fun _ => okD_list fun x _ => Pt.ok x⟩
instance {α : Type} [Rp α] [Pd α] [Pt α] : Pt (Tu α) := ⟨fun _ => okD_tu fun x _ => Pt.ok x⟩
instance : Pu Unit := ⟨fun _ => rfl⟩
instance {α τ : Type} [Rp α] [Tp τ] [Pd α] [Pq τ] [Pt α] [Pu τ] : Pu (α × τ) := ⟨fun _ => okDs_cons (Pt.ok _) (Pu.ok _)⟩
instance {α τ : Type} [Rp α] [Tp τ] [Pd α] [Pq τ] [Pt α] [Pu τ] : Pt (α × τ) := ⟨fun _ => okD_pair (Pt.ok _) (Pu.ok _)⟩
theorem r2_eqT [Pt α] {a b : α} (hd : Pd.dp α ≤ 64 := by decide) : R2V K (rEqD K) a b (decide (a = b)) := r2_eqO (by
  unfold eqO
  rw [Pt.ok a, Pt.ok b, decide_eq_true hd]
  rfl)
theorem r2_neT [Pt α] {a b : α} (hd : Pd.dp α ≤ 64 := by decide) : R2V K (rNeD K) a b (!decide (a = b)) := r2_neO (by
  unfold neO
  rw [Pt.ok a, Pt.ok b, decide_eq_true hd]
  rfl)
theorem eqO_ok {a b : α} (h1 : okD a = true) (h2 : okD b = true) (hd : Pd.dp α ≤ 64 := by decide) : eqO a b = some (decide (a = b)) := by
  unfold eqO
  rw [h1, h2, decide_eq_true hd]
  rfl
theorem neO_ok {a b : α} (h1 : okD a = true) (h2 : okD b = true) (hd : Pd.dp α ≤ 64 := by decide) : neO a b = some (!decide (a = b)) := by
  unfold neO
  rw [h1, h2, decide_eq_true hd]
  rfl
end

/-! ### isinstance -/
structure TyN where
  n : String
instance rpTyN : Rp TyN := { rep := fun _ _ v a => v = .ty a.n, swap := fun _ h => h }
instance : Fl TyN := { toV := fun a => V.ty a.n, iff := Iff.rfl }
class Tn (α : Type) [Rp α] where
  nm : String
  is : ∀ {K : Fg} {H : Hp} {v : V} {a : α}, rep K H v a → TyX K H v (.type nm)
instance : Tn Int := ⟨"int", fun h => by cases h; exact .base (.int _)⟩
instance : Tn Bool := ⟨"bool", fun h => by cases h; exact .base (.bl _)⟩
instance : Tn Str := ⟨"str", fun h => by cases h; exact .base (.str _)⟩
instance : Tn Nn := ⟨"NoneType", fun h => by cases h; exact .base .non⟩
instance {α : Type} [Rp α] : Tn (List α) := ⟨"list", fun h => by
  obtain ⟨p, vs, rfl, h1, _⟩ := h
  exact .base (.lst h1)⟩
instance {α : Type} [Rp α] : Tn (Tu α) := ⟨"tuple", fun h => by
  obtain ⟨p, vs, rfl, h1, _⟩ := h
  exact .base (.tup h1)⟩
instance {α τ : Type} [Rp α] [Tp τ] : Tn (α × τ) := ⟨"tuple", fun h => by
  obtain ⟨p, vs, rfl, h1, _⟩ := h
  exact .base (.tup h1)⟩
theorem rc_isi {K : Fg} {α : Type} [Rp α] [Tn α] {x : α} {n : String} {b : Bool} (h : kitB (Tn.nm α) n = some b) : RCV K (rIsi K) (x, TyN.mk n, ()) b := fun Kn H vs ek hr Q q => by
  obtain ⟨v, w, rfl, h1, h2⟩ := two_args hr
  cases h2
  refine ⟨v, .ty n, .type (Tn.nm α), .type n, b, rfl, .ty n, ?_, kit_ty h, q.fl ek⟩
  exact Tn.is (Rp.mono ek h1)

/-! ### great divisors -/
theorem r2_divW {K : Fg} {i j : Int} {b : Nat} (h : 0 < j) (hb : j.natAbs < 2 ^ b) (h0 : 0 < b) (h9 : b ≤ 9000) : R2V K (rI CDivW fun i j => .int (i / j)) i j (i / j) := r2_I (wide_div h hb h0 h9)

/-! ### sorted of whole numbers -/
def srt (xs : List Int) : List Int := xs.mergeSort fun a b => decide (a ≤ b)
theorem srt_perm (xs : List Int) : (srt xs).Perm xs := List.mergeSort_perm xs _
theorem srt_pw (xs : List Int) : (srt xs).Pairwise (· ≤ ·) := by
  have h := List.pairwise_mergeSort (le := fun a b => decide (a ≤ b)) (fun a b c h1 h2 => by
    have h1 := of_decide_eq_true h1
    have h2 := of_decide_eq_true h2
    exact decide_eq_true (by omega)) (fun a b => by
    rcases Int.le_total a b with h | h
    · rw [decide_eq_true h]; rfl
    · rw [decide_eq_true h]; exact Bool.or_true _) xs
  exact h.imp fun h => of_decide_eq_true h
theorem srt_one {xs ys : List Int} (p : ys.Perm xs) (s : ys.Pairwise (· ≤ ·)) : ys = srt xs :=
  List.Perm.eq_of_pairwise (le := fun a b : Int => a ≤ b) (fun a b _ _ h1 h2 => Int.le_antisymm h1 h2) s (srt_pw xs) (p.trans (srt_perm xs).symm)
theorem rc_sorted {K : Fg} {xs : List Int} : RCL K (rSortedI K) (xs, ()) (srt xs) := fun Kn H vs ek h Q q => by
  obtain ⟨v, rfl, p, ws, rfl, h1, h2⟩ := one_arg h
  have e := paired_fl h2
  subst e
  refine ⟨p, xs, rfl, sq_of (ek _ _ h1), fun ns' l pm pw hl => ?_⟩
  rw [srt_one pm pw]
  exact q l _ Kn _ (Gr.newU ek hl) hl (fresh_back ek hl) upd_same (fl_paired (srt xs))
end Wk

namespace Wk
open PySem PySem.Spec L2 Evl
section
variable {K : Fg} {F Kn0 : Hp} {sl sl' : List Sl} {ow ow0 ow1 ow2 : List Ow} {α β γ τ : Type} [Rp α] [Rp β] [Rp γ] [Tp τ] {ta tb te : TE} {x : α} {D : Ends} {t u tz : TS} {tt : TT} {b : Bool} {i j : Nat} {p : Addr}
theorem ev_int (n : Int) : EV K F Kn0 sl ow (tC (.int n)) n := ev_c n
theorem ev_bool (n : Bool) : EV K F Kn0 sl ow (tC (.bl n)) n := ev_c n
theorem ev_str (n : Str) : EV K F Kn0 sl ow (tC (.str n)) n := ev_c n
theorem ev_nn : EV K F Kn0 sl ow (tC .non) Nn.nn := ev_c Nn.nn
theorem ev_ty (n : String) : EV K F Kn0 sl ow (tC (.ty n)) (TyN.mk n) := ev_c (TyN.mk n)
variable {m n : Int}
theorem r2_add : R2V K (rI0 fun i j => .int (i + j)) m n (m + n) := r2_I0
theorem r2_sub : R2V K (rI0 fun i j => .int (i - j)) m n (m - n) := r2_I0
theorem r2_lt : R2V K (rI0 fun i j => .bl (decide (i < j))) m n (decide (m < n)) := r2_I0
theorem r2_le : R2V K (rI0 fun i j => .bl (decide (i ≤ j))) m n (decide (m ≤ n)) := r2_I0
theorem r2_gt : R2V K (rI0 fun i j => .bl (decide (j < i))) m n (decide (n < m)) := r2_I0
theorem r2_ge : R2V K (rI0 fun i j => .bl (decide (j ≤ i))) m n (decide (n ≤ m)) := r2_I0
theorem r2_mod (h : 0 < n := by decide) : R2V K (rI (fun _ j => 0 < j) fun i j => .int (i % j)) m n (m % n) := r2_I h
theorem r2_div (h : 0 < n ∧ n < 1073741824 := by decide) : R2V K (rI CDiv fun i j => .int (i / j)) m n (m / n) := r2_I h
theorem r2_mulr (h : -18446744073709551616 < n ∧ n < 18446744073709551616 := by decide) : R2V K (rI CMul fun i j => .int (i * j)) m n (m * n) := r2_I (.inr ⟨by omega, by omega⟩)
theorem r2_mull (h : -18446744073709551616 < m ∧ m < 18446744073709551616 := by decide) : R2V K (rI CMul fun i j => .int (i * j)) m n (m * n) := r2_I (.inl ⟨by omega, by omega⟩)
theorem r2_divw (h : 0 < n ∧ n < 18446744073709551616 := by decide) : R2V K (rI CDivW fun i j => .int (i / j)) m n (m / n) := r2_divW h.1 (b := 64) (by omega) (by decide) (by decide)
theorem r2_pow {r : Int} (h : 0 ≤ n ∧ n ≤ 1000000 ∧ m.natAbs < 18446744073709551616 := by decide) (e : m ^ n.toNat = r := by decide) : R2V K (rI CPow fun i j => .int (i ^ j.toNat)) m n r := e ▸ r2_I ⟨h.1, h.2.1, by omega⟩
theorem EN.cast {xs ys : List α} (h : EN K F Kn0 sl ow te xs) (e : xs = ys) : EN K F Kn0 sl ow te ys := e ▸ h
theorem EM.cast {y : α} (h : EM K F Kn0 sl ow te ow1 x) (e : x = y) : EM K F Kn0 sl ow te ow1 y := e ▸ h
theorem ENM.cast {xs ys : List α} (h : ENM K F Kn0 sl ow te ow1 xs) (e : xs = ys) : ENM K F Kn0 sl ow te ow1 ys := e ▸ h
theorem SB.is (h1 : sl = sl') (h2 : ow = ow1) (h : SB K F Kn0 sl' ow1 D t) : SB K F Kn0 sl ow D t := by subst h1; subst h2; exact h
theorem EV.is (h1 : sl = sl') (h : EV K F Kn0 sl' ow te x) : EV K F Kn0 sl ow te x := by subst h1; exact h
theorem EM.is (h1 : sl = sl') (h2 : ow = ow2) (h3 : ow1 = ow0) (h : EM K F Kn0 sl' ow2 te ow0 x) : EM K F Kn0 sl ow te ow1 x := by subst h1; subst h2; subst h3; exact h
theorem ET.is (h1 : sl = sl') (h : ET K F Kn0 sl' ow tt b) : ET K F Kn0 sl ow tt b := by subst h1; exact h
theorem ite_t {γ : Type} {b : Bool} {A B : Option γ} {r : γ} (hb : b = true) (h : (if b = true then A else B) = some r) : A = some r := by rw [if_pos hb] at h; exact h
theorem ite_f {γ : Type} {b : Bool} {A B : Option γ} {r : γ} (hb : b = false) (h : (if b = true then A else B) = some r) : B = some r := by rw [if_neg (by rw [hb]; exact Bool.false_ne_true)] at h; exact h
def anyAt (sl : List Sl) (vs : List Nat) : Bool := vs.all fun j => match sl[j]? with
  | some .any => true
  | _ => false
theorem anyAt_of {sl : List Sl} {vs : List Nat} (h : anyAt sl vs = true) : ∀ j ∈ vs, sl[j]? = some .any := fun j hj => by
  have q := List.all_eq_true.mp h j hj
  cases e : sl[j]? with
  | none => rw [e] at q; cases q
  | some s =>
    rw [e] at q
    cases s with
    | any => rfl
    | val _ _ _ => cases q
    | «at» _ => cases q
theorem sub_of {js vs : List Nat} (h : (js.all fun j => vs.contains j) = true) : ∀ j ∈ js, j ∈ vs := fun j hj => by
  have q := List.all_eq_true.mp h j hj
  simpa using q
theorem sn_end {R : VK} (q : RT K F Kn0 ow0 R Nn.nn) (hd : ∀ σ H, R .non H → D.nx σ H) (l : ow0.Sublist ow) : SN K F Kn0 sl ow D := fun σ Kn H s => hd σ H (q _ Kn H (s.sub l).fin rfl)
def EOM (K : Fg) (F Kn0 : Hp) (sl : List Sl) (ow : List Ow) (to : TO) (ow' : List Ow) (o : Option Int) : Prop := ∀ σ Kn H, S K F Kn0 sl ow σ Kn H → ∀ Q : Option Int → Hp → Prop, (∀ Kn' H', Ex Kn Kn' → S K F Kn0 sl ow' σ Kn' H' → Q o H') → to σ H Q
theorem EO.eom {to : TO} {o : Option Int} (h : EO K F Kn0 sl ow to o) : EOM K F Kn0 sl ow to ow o := fun σ Kn H s Q q => h σ Kn H s Q fun Kn' H' g => q Kn' H' g.kk (s.grow g)
theorem eom_some {i : Int} (h : EM K F Kn0 sl ow te ow1 i) : EOM K F Kn0 sl ow (tPart te) ow1 (some i) := fun σ Kn H s Q q => h σ Kn H s _ fun v Kn1 H1 e1 s1 r1 => ⟨i, r1, q Kn1 H1 e1 s1⟩
theorem enm_sl {ow3 : List Ow} {xs : List α} {tl th : TO} {lo hi : Option Int} (h : EM K F Kn0 sl ow te ow1 xs) (hl : EOM K F Kn0 sl ow1 tl ow2 lo) (hh : EOM K F Kn0 sl ow2 th ow3 hi) : ENM K F Kn0 sl ow (tSl (rSlL K) te tl th) ow3 (cut xs lo hi) := fun σ Kn H s Q q =>
  h σ Kn H s _ fun v Kn1 H1 e1 s1 r1 => hl σ Kn1 H1 s1 _ fun Kn2 H2 e2 s2 => hh σ Kn2 H2 s2 _ fun Kn3 H3 e3 s3 => by
    obtain ⟨p, ws, rfl, h3, h4⟩ := r1
    have e13 : Ex Kn1 Kn3 := e2.trans e3
    exact ⟨p, ws, rfl, sq_of (s3.ek _ _ (e13 _ _ h3)), fun l hl => q l _ Kn3 _ (e1.trans e13) (s3.grow (Gr.newU s3.ek hl)) (fresh_back s3.ef hl) (fresh_back s3.ek hl) (owned_ne s3 hl) upd_same (paired_cut (paired_mono e13 h4) lo hi)⟩
/-- the entry of a def -/
theorem enter {σ : L2.St} {Kn H : Hp} {D : Ends} {t : TS} (ek : Ex Kn H) (hs : SlsOk K Kn sl σ) (h : SB K H Kn sl [] D t) : t D σ H := h σ Kn H ⟨Ex.refl _, ek, Ex.refl _, fun _ _ h => h, hs, ⟨(fun _ h => nomatch h), List.nodup_nil⟩⟩
theorem rt_of {H Kn : Hp} {r : α} {Q : VK} (q : RS K Kn H Q r) : RT K H Kn [] Q r := fun v Kn' H' s rv => q v Kn' H' ⟨s.e0, s.ef, s.ek, s.sep⟩ rv
theorem rn_of {H Kn : Hp} {r : List α} {Q : VK} (q : RL K Kn H Q r) : RN K H Kn [] Q r := fun p ws Kn' H' s fp kp hw rv => q p ws Kn' H' ⟨s.e0, s.ef, s.ek, s.sep⟩ fp kp hw rv
/-- all but p -/
def but (H : Hp) (p : Addr) : Hp := fun a => if a = p then none else H a
theorem enterM {σ : L2.St} {Kn H : Hp} {D : Ends} {t : TS} {p : Addr} {ws : List V} {xs : List α} (ek : Ex Kn H) (kp : Kn p = none) (hp : H p = some (.lst ws)) (r : Paired (rep K Kn) ws xs) (hs : SlsOk K Kn sl σ) (h : SB K (but H p) Kn sl [ol p xs] D t) : t D σ H :=
  h σ Kn H ⟨Ex.refl _, ek, fun a u e => by
    unfold but at e
    split at e
    · cases e
    · exact e, fun _ _ h => h, hs, ⟨fun o ho => by
      cases List.mem_singleton.mp ho
      exact ⟨if_pos rfl, kp, ws, hp, r⟩, List.nodup_cons.mpr ⟨(fun h => nomatch h), List.nodup_nil⟩⟩⟩
theorem rt_ofM {H Kn : Hp} {r : β} {p : Addr} {xs' : List α} {Q : VK} (kp : Kn p = none) (q : ∀ v Kn' H' ws', Ex Kn Kn' → Ex Kn' H' → (∀ q, q ≠ p → H q ≠ none → H' q = H q) → (∀ q, H q ≠ none → Kn q = none → Kn' q = none) → H' p = some (.lst ws') → Paired (rep K Kn') ws' xs' → rep K Kn' v r → Q v H') :
    RT K (but H p) Kn [ol p xs'] Q r := fun v Kn' H' s rv => by
  obtain ⟨_, k1, ws, h1, h2⟩ := s.ow.each (ol p xs') List.mem_cons_self
  refine q v Kn' H' ws s.e0 s.ek (fun a ha hn => ?_) (fun a hn hk => ?_) h1 h2 rv
  · have e : but H p a = H a := if_neg ha
    exact (Ex.at_eq s.ef (by rw [e]; exact hn)).trans e
  · by_cases ha : a = p
    · subst ha
      exact k1
    · exact s.sep a (by unfold but; rw [if_neg ha]; exact hn) hk
end
end Wk

/-! ### rules whose readings name K itself (within comprehensions) -/
namespace Wk
open PySem PySem.Spec L2 Evl
section
variable {X : Cx} {K : Fg}
theorem k_isi (h : X.K = K := by rfl) : CallR X (.builtin "isinstance") (rIsi K) := h ▸ call_isi
theorem k_len (h : X.K = K := by rfl) : CallR X (.builtin "len") (fun xs H Q => ∃ p ys, xs = [.ref p] ∧ (SqL K H p ys ∨ SqT K H p ys) ∧ Q (.int ys.length) H) := h ▸ call_len_seq
theorem k_list (h : X.K = K := by rfl) : CallR X (.type "list") (fun xs H Q => ∃ p ys, xs = [.ref p] ∧ (SqL K H p ys ∨ SqT K H p ys) ∧ ∀ l, H l = none → Q (.ref l) (upd H l (.lst ys))) := h ▸ call_list_of
theorem k_tuple (h : X.K = K := by rfl) : CallR X (.type "tuple") (fun xs H Q => ∃ p ys, xs = [.ref p] ∧ ((SqL K H p ys ∧ ∀ l, H l = none → Q (.ref l) (upd H l (.tup ys))) ∨ (SqT K H p ys ∧ Q (.ref p) H))) := h ▸ call_tuple_of
theorem k_sum (hc : X.calm = true := by rfl) (h : X.K = K := by rfl) : CallR X (.builtin "sum") (rSum K) := h ▸ cr_sum hc
theorem k_any (hc : X.calm = true := by rfl) (h : X.K = K := by rfl) : CallR X (.builtin "any") (rAny K) := h ▸ cr_any hc
theorem k_all (hc : X.calm = true := by rfl) (h : X.K = K := by rfl) : CallR X (.builtin "all") (rAll K) := h ▸ cr_all hc
theorem k_max2 (hc : X.calm = true := by rfl) : CallR X (.builtin "max") (fun xs H Q => ∃ i j, xs = [.int i, .int j] ∧ Q (.int (if j > i then j else i)) H) := call_max2 hc
theorem k_min2 (hc : X.calm = true := by rfl) : CallR X (.builtin "min") (fun xs H Q => ∃ i j, xs = [.int i, .int j] ∧ Q (.int (if j < i then j else i)) H) := call_min2 hc
theorem k_sorted (h : X.K = K := by rfl) : CallR X (.builtin "sorted") (rSortedI K) := h ▸ cr_sortedI
theorem k_ixl (h : X.K = K := by rfl) : IxR X (rIxL K) := h ▸ ix_list
theorem k_ixt (h : X.K = K := by rfl) : IxR X (rIxT K) := h ▸ ix_tup
theorem k_sll (h : X.K = K := by rfl) : SlR X (rSlL K) := h ▸ sl_list
theorem k_eqD (hu : X.A.units + 64 < cLine) (h : X.K = K := by rfl) : OpR X (compareOp .Eq) (rEqD K) := h ▸ op_eqD hu
theorem k_neD (hu : X.A.units + 64 < cLine) (h : X.K = K := by rfl) : OpR X (compareOp .NotEq) (rNeD K) := h ▸ op_neD hu
theorem k_in (h : X.K = K := by rfl) : OpR X (compareOp .In) (rIn K false) := h ▸ op_in_seq
theorem k_notIn (h : X.K = K := by rfl) : OpR X (compareOp .NotIn) (rIn K true) := h ▸ op_notIn_seq
theorem kpg_tup {es : List Expr} {k : Nat} {t : TGs} {n : Nat} {pos : Pos} (hs : PGs X es t) (hc : X.calm = true := by rfl) (h : X.K = K := by rfl)
    (hn : (assignEach es X.env).length = n := by rfl) (hst : (assignEach es X.env).findIdx? (·.1) = none := by rfl) : PG X (.Tuple es k pos) (gTup K n t) := h ▸ pg_tup hc hs hn hst
theorem kpi_list {tg e : Expr} {te : TE} (he : PE X e te) (h : X.K = K := by rfl) : PI X tg e (iList K te) := h ▸ pi_list he
theorem kpi_tup {tg e : Expr} {te : TE} (he : PE X e te) (h : X.K = K := by rfl) : PI X tg e (iTup K te) := h ▸ pi_tup he
theorem kpt_truth {a : Expr} {ta : TE} (ha : PE X a ta) (he : ∀ whole, isTrue a X.env whole = (do let v ← whole; standAt a.pos; holding [v] (truthy v)) := by intro _; rfl) (h : X.K = K := by rfl) : PT X a (fun σ H Q => ta σ H fun x H' => ∃ k, TruV K x H' k ∧ Q k H') := h ▸ pt_truth ha he
end
end Wk
/-! Wk5: in, lists made longer, texts, chains, tuples put together -/
namespace Wk
open PySem PySem.Spec L2 Evl
class Fe (α : Type) [Rp α] [Fl α] [DecidableEq α] : Prop where
  flat : ∀ a : α, flatV (Fl.toV a) = true
  eq : ∀ a b : α, eqV (Fl.toV a) (Fl.toV b) = decide (a = b)
instance : Fe Int := ⟨fun _ => rfl, fun a b => by show (a == b) = decide (a = b); by_cases h : a = b <;> simp [h]⟩
instance : Fe Str := ⟨fun _ => rfl, fun a b => by show (a == b) = decide (a = b); by_cases h : a = b <;> simp [h]⟩
def repO {α : Type} (xs : List α) (k : Int) : Option (List α) := if -1000000000 ≤ k ∧ k ≤ 1000000000 ∧ xs.length * k.toNat ≤ 1000000 then some (List.replicate k.toNat xs).flatten else none
def addS (x y : Str) : Option Str := if x.length + y.length ≤ 1000000 then some (x ++ y) else none
def lenS (x : Str) : Option Int := if x.length ≤ 1000000 then some (x.length : Int) else none
def joinO (a : Str) (ys : List Str) : Option Str := if (ys.map (·.length)).sum + ys.length * a.length ≤ 1000000 then some (Txt.join a ys) else none
def powO (i j : Int) : Option Int := if 0 ≤ j ∧ j ≤ 1000000 ∧ i.natAbs < 18446744073709551616 then some (i ^ j.toNat) else none
section
variable {K : Fg} {F Kn0 : Hp} {sl sl' : List Sl} {ow ow0 ow1 ow2 : List Ow} {α β γ τ : Type} [Rp α] [Rp β] [Rp γ] [Tp τ] {ta tb tc te : TE} {x : α} {y : β} {z : γ} {D : Ends} {t u tz : TS} {tt : TT} {a b : Bool} {i j : Nat} {p : Addr}
theorem any_mem {α : Type} [Rp α] [Fl α] [DecidableEq α] [Fe α] (x : α) : ∀ xs : List α, inV (Fl.toV x) (xs.map Fl.toV) = decide (x ∈ xs)
  | [] => by simp [inV]
  | y :: ys => by
    have ih := any_mem x ys
    unfold inV at ih ⊢
    rw [List.map_cons, List.any_cons, ih, Fe.eq]
    by_cases h : y = x
    · subst h
      simp
    · have h' : ¬ x = y := fun e => h e.symm
      simp [h, h']
theorem all_flat {α : Type} [Rp α] [Fl α] [DecidableEq α] [Fe α] : ∀ xs : List α, (xs.map Fl.toV).all flatV = true
  | [] => rfl
  | y :: ys => by
    rw [List.map_cons, List.all_cons, Fe.flat, all_flat ys]
    rfl
theorem r2_in {α : Type} [Rp α] [Fl α] [DecidableEq α] [Fe α] {x : α} {xs : List α} : R2V K (rIn K false) x xs (decide (x ∈ xs)) := fun Kn H v w ek h1 h2 Q q => by
  obtain ⟨p, ws, rfl, h3, h4⟩ := h2
  have e := paired_fl h4
  subst e
  rw [Fl.iff.mp h1]
  refine ⟨p, _, rfl, .inl (sq_of (ek _ _ h3)), Fe.flat x, all_flat xs, ?_⟩
  rw [any_mem]
  exact q.fl ek
theorem r2_notIn {α : Type} [Rp α] [Fl α] [DecidableEq α] [Fe α] {x : α} {xs : List α} : R2V K (rIn K true) x xs (!decide (x ∈ xs)) := fun Kn H v w ek h1 h2 Q q => by
  obtain ⟨p, ws, rfl, h3, h4⟩ := h2
  have e := paired_fl h4
  subst e
  rw [Fl.iff.mp h1]
  refine ⟨p, _, rfl, .inl (sq_of (ek _ _ h3)), Fe.flat x, all_flat xs, ?_⟩
  rw [any_mem]
  exact q.fl ek
theorem r2_inU {α : Type} [Rp α] [Fl α] [DecidableEq α] [Fe α] {x : α} {xs : Tu α} : R2V K (rIn K false) x xs (decide (x ∈ xs.l)) := fun Kn H v w ek h1 h2 Q q => by
  obtain ⟨p, ws, rfl, h3, h4⟩ := h2
  have e := paired_fl h4
  subst e
  rw [Fl.iff.mp h1]
  refine ⟨p, _, rfl, .inr (st_of (ek _ _ h3)), Fe.flat x, all_flat xs.l, ?_⟩
  rw [any_mem]
  exact q.fl ek
theorem r2_notInU {α : Type} [Rp α] [Fl α] [DecidableEq α] [Fe α] {x : α} {xs : Tu α} : R2V K (rIn K true) x xs (!decide (x ∈ xs.l)) := fun Kn H v w ek h1 h2 Q q => by
  obtain ⟨p, ws, rfl, h3, h4⟩ := h2
  have e := paired_fl h4
  subst e
  rw [Fl.iff.mp h1]
  refine ⟨p, _, rfl, .inr (st_of (ek _ _ h3)), Fe.flat x, all_flat xs.l, ?_⟩
  rw [any_mem]
  exact q.fl ek
theorem paired_rep {F : V → α → Prop} {vs : List V} {xs : List α} (h : Paired F vs xs) : ∀ n : Nat, Paired F (List.replicate n vs).flatten (List.replicate n xs).flatten
  | 0 => .nil
  | n + 1 => by
    rw [List.replicate_succ, List.replicate_succ, List.flatten_cons, List.flatten_cons]
    exact paired_append h (paired_rep h n)
theorem r2_repO {xs zs : List α} {k : Int} (h : repO xs k = some zs) : R2L K rRep xs k zs := fun Kn H v w ek h1 h2 Q q => by
  unfold repO at h
  split at h
  · rename_i hb
    cases h
    obtain ⟨p, ws, rfl, h3, h4⟩ := h1
    cases h2
    refine ⟨p, k, ws, rfl, rfl, ek _ _ h3, by omega, by omega, by rw [paired_len h4]; exact le_line hb.2.2, fun l hl => q l _ Kn _ (Gr.newU ek hl) hl (fresh_back ek hl) upd_same (paired_rep h4 _)⟩
  · cases h
theorem r2_addS {x y z : Str} (h : addS x y = some z) : R2V K (fun x y H Q => ∃ i j, x = .str i ∧ y = .str j ∧ i.length + j.length ≤ sizeLine ∧ Q (.str (i ++ j)) H) x y z := fun Kn H v w ek h1 h2 Q q => by
  unfold addS at h
  split at h
  · rename_i hb
    cases h
    exact ⟨x, y, h1, h2, le_line hb, q.fl ek⟩
  · cases h
theorem rc_lenS {x : Str} {z : Int} (h : lenS x = some z) : RCV K (fun xs H Q => ∃ z, xs = [.str z] ∧ z.length ≤ sizeLine ∧ Q (.int z.length) H) (x, ()) z := fun Kn H vs ek hr Q q => by
  obtain ⟨v, rfl, h1⟩ := one_arg hr
  cases h1
  unfold lenS at h
  split at h
  · rename_i hb
    cases h
    exact ⟨x, rfl, le_line hb, q.fl ek⟩
  · cases h
theorem ev_joinO {s : Str} {ys : List Str} {z : Str} (ha : EV K F Kn0 sl ow ta s) (hb : EV K F Kn0 sl ow tb ys) (h : joinO s ys = some z) :
    EV K F Kn0 sl ow (tM1 (fun x xs H Q => ∃ a p, ∃ ys : List Str, x = .str a ∧ xs = [.ref p] ∧ (SqL K H p (ys.map V.str) ∨ SqT K H p (ys.map V.str)) ∧ (ys.map (·.length)).sum + ys.length * a.length ≤ 16777216 ∧ Q (.str (Txt.join a ys)) H) ta tb) z := fun σ Kn H s' Q q =>
  ha σ Kn H s' _ fun v Kn1 H1 g1 r1 => by
    cases r1
    refine ⟨⟨s, rfl⟩, hb σ Kn1 H1 (s'.grow g1) _ fun w Kn2 H2 g2 r2 => ?_⟩
    obtain ⟨p, ws, rfl, h3, h4⟩ := r2
    have e := paired_fl h4
    subst e
    unfold joinO at h
    split at h
    · rename_i hz
      cases h
      exact ⟨s, p, ys, rfl, rfl, .inl (sq_of (g2.kh _ _ h3)), by omega, q _ Kn2 H2 (g1.trans g2) rfl⟩
    · cases h
theorem rc_intB {x : Bool} : RCV K (fun xs H Q => (∃ i, xs = [.int i] ∧ Q (.int i) H) ∨ ∃ k, xs = [.bl k] ∧ Q (.int (if k then 1 else 0)) H) (x, ()) (if x = true then (1 : Int) else 0) := fun Kn H vs ek hr Q q => by
  obtain ⟨v, rfl, h1⟩ := one_arg hr
  cases h1
  exact .inr ⟨x, rfl, q.fl ek⟩
theorem rc_intI {x : Int} : RCV K (fun xs H Q => (∃ i, xs = [.int i] ∧ Q (.int i) H) ∨ ∃ k, xs = [.bl k] ∧ Q (.int (if k then 1 else 0)) H) (x, ()) x := fun Kn H vs ek hr Q q => by
  obtain ⟨v, rfl, h1⟩ := one_arg hr
  cases h1
  exact .inl ⟨x, rfl, q.fl ek⟩
theorem r2_powO {i j z : Int} (h : powO i j = some z) : R2V K (rI CPow fun i j => .int (i ^ j.toNat)) i j z := by
  unfold powO at h
  split at h
  · rename_i hb
    cases h
    exact r2_I ⟨hb.1, hb.2.1, by omega⟩
  · cases h
/-- x < y < z -/
theorem ev_chain {r r' : R2} (ha : EV K F Kn0 sl ow ta x) (hb : EV K F Kn0 sl ow tb y) (hr : R2V K r x y a) (hc : EV K F Kn0 sl ow tc z) (hr' : R2V K r' y z b) : EV K F Kn0 sl ow (tChain r r' ta tb tc) (a && b) := fun σ Kn H s Q q =>
  ha σ Kn H s _ fun v Kn1 H1 g1 r1 => hb σ Kn1 H1 (s.grow g1) _ fun w Kn2 H2 g2 r2 => hr Kn2 H2 v w g2.kh (Rp.mono g2.kk r1) r2 _ fun u Kn3 H3 g3 r3 => by
    refine ⟨a, r3, ?_⟩
    cases a with
    | true => exact iteT (hc σ Kn3 H3 (((s.grow g1).grow g2).grow g3) _ fun v4 Kn4 H4 g4 r4 => hr' Kn4 H4 w v4 g4.kh (Rp.mono (g3.kk.trans g4.kk) r2) r4 Q fun u5 Kn5 H5 g5 r5 => q u5 Kn5 H5 ((((g1.trans g2).trans g3).trans g4).trans g5) r5)
    | false => exact iteF (q _ Kn3 H3 ((g1.trans g2).trans g3) rfl)
/-- t3 is t1 and t2 put together -/
inductive Ap : {τ1 τ2 τ3 : Type} → [Tp τ1] → [Tp τ2] → [Tp τ3] → τ1 → τ2 → τ3 → Prop
  | z {τ : Type} [Tp τ] (t : τ) : Ap () t t
  | s {α τ1 τ2 τ3 : Type} [Rp α] [Tp τ1] [Tp τ2] [Tp τ3] (x : α) {t1 : τ1} {t2 : τ2} {t3 : τ3} : Ap t1 t2 t3 → Ap (x, t1) t2 (x, t3)
theorem Ap.rept {K : Fg} {H : Hp} {τ1 τ2 τ3 : Type} [i1 : Tp τ1] [i2 : Tp τ2] [i3 : Tp τ3] {t1 : τ1} {t2 : τ2} {t3 : τ3} (h : Ap t1 t2 t3) : ∀ {vs ws : List V}, Wk.rept K H vs t1 → Wk.rept K H ws t2 → Wk.rept K H (vs ++ ws) t3 := by
  induction h with
  | z t =>
    intro vs ws h1 h2
    cases h1
    exact h2
  | s x _ ih =>
    intro vs ws h1 h2
    obtain ⟨v, r, rfl, h3, h4⟩ := h1
    exact ⟨v, r ++ ws, rfl, h3, ih h4 h2⟩
theorem r2_catA {α1 τ1 α2 τ2 α3 τ3 : Type} [Rp α1] [Tp τ1] [Rp α2] [Tp τ2] [Rp α3] [Tp τ3] {t1 : α1 × τ1} {t2 : α2 × τ2} {t3 : α3 × τ3} (h : Ap t1 t2 t3) (hn : Tp.n (α1 × τ1) + Tp.n (α2 × τ2) ≤ 1000 := by decide) : R2V K (rCatA K) t1 t2 t3 := fun Kn H v w ek h1 h2 Q q => by
  obtain ⟨p, vs, rfl, h3, h4⟩ := h1
  obtain ⟨p2, ws, rfl, h5, h6⟩ := h2
  have n1 : vs ≠ [] := by
    obtain ⟨_, _, rfl, _⟩ := h4
    simp
  have n2 : ws ≠ [] := by
    obtain ⟨_, _, rfl, _⟩ := h6
    simp
  refine ⟨p, p2, vs, ws, rfl, rfl, st_of (ek _ _ h3), st_of (ek _ _ h5), ?_, fun e => absurd e n1, fun _ e => absurd e n2, fun _ _ l hl => ?_⟩
  · rw [Tp.len h4, Tp.len h6]
    exact le_line (by omega)
  · exact q _ (upd Kn l (.tup (vs ++ ws))) _ (Gr.new ek hl) ⟨l, _, rfl, upd_same, h.rept (Tp.mono (Gr.new ek hl).kk h4) (Tp.mono (Gr.new ek hl).kk h6)⟩
/-- found.clear() -/
theorem sb_clr {xs : List α} (hi : sl[i]? = some (.at p)) (hj : ow[j]? = some (ol p xs)) (ho : ow.set j (ol p ([] : List α)) = ow1) (k : SN K F Kn0 sl ow1 D) : SB K F Kn0 sl ow D (tDrop (tBM0 K "list" rClear (tVar i))) := fun σ Kn H s => by
  obtain ⟨o, h1, h2⟩ := s.sl.get hi
  obtain ⟨f1, f2, ws, f3, f4⟩ := s.ow.each _ (List.mem_of_getElem? hj)
  subst ho
  refine ⟨.ref p, by rw [h1]; exact congrArg some h2, Or.inl ⟨rfl, ws, sq_of f3⟩, p, ws, rfl, rfl, f3, k _ Kn _ ?_⟩
  exact s.write hj (Ex.refl _) (upd_in s.ek f2) (fun q hq _ => upd_ne hq) (fun _ _ h => h) upd_same .nil
theorem en_listO {xs : List α} (hi : sl[i]? = some (.at p)) (hj : ow[j]? = some (ol p xs)) : EN K F Kn0 sl ow (tCB (fun xs H Q => ∃ p ys, xs = [.ref p] ∧ (SqL K H p ys ∨ SqT K H p ys) ∧ ∀ l, H l = none → Q (.ref l) (upd H l (.lst ys))) (tCons (tVar i) tNil)) xs := fun σ Kn H s Q q => by
  obtain ⟨o, h1, h2⟩ := s.sl.get hi
  obtain ⟨f1, f2, ws, f3, f4⟩ := s.ow.each _ (List.mem_of_getElem? hj)
  exact ⟨.ref p, by rw [h1]; exact congrArg some h2, p, ws, rfl, .inl (sq_of f3), fun l hl => q l ws Kn _ (Gr.newU s.ek hl) hl (fresh_back s.ek hl) upd_same f4⟩
/-- a test that changes something on its way -/
def ETM (K : Fg) (F Kn0 : Hp) (sl : List Sl) (ow : List Ow) (tt : TT) (ow' : List Ow) (b : Bool) : Prop := ∀ σ Kn H, S K F Kn0 sl ow σ Kn H → ∀ Q : Bool → Hp → Prop, (∀ Kn' H', Ex Kn Kn' → S K F Kn0 sl ow' σ Kn' H' → Q b H') → tt σ H Q
theorem ET.etm (h : ET K F Kn0 sl ow tt b) : ETM K F Kn0 sl ow tt ow b := fun σ Kn H s Q q => h σ Kn H s Q fun Kn' H' g => q Kn' H' g.kk (s.grow g)
theorem etm_test (h : EM K F Kn0 sl ow te ow1 b) : ETM K F Kn0 sl ow (tTest te) ow1 b := fun σ Kn H s Q q => h σ Kn H s _ fun v Kn' H' e s' r => ⟨b, r, q Kn' H' e s'⟩
theorem etm_and {t u : TT} (h1 : ETM K F Kn0 sl ow t ow1 a) (h2 : a = true → ET K F Kn0 sl ow1 u b) : ETM K F Kn0 sl ow (tAnd t u) ow1 (a && b) := fun σ Kn H s Q q => h1 σ Kn H s _ fun Kn1 H1 e1 s1 => by
  cases a with
  | true => exact iteT (h2 rfl σ Kn1 H1 s1 Q fun Kn2 H2 g2 => q Kn2 H2 (e1.trans g2.kk) (s1.grow g2))
  | false => exact iteF (q Kn1 H1 e1 s1)
theorem etm_or {t u : TT} (h1 : ETM K F Kn0 sl ow t ow1 a) (h2 : a = false → ET K F Kn0 sl ow1 u b) : ETM K F Kn0 sl ow (tOr t u) ow1 (a || b) := fun σ Kn H s Q q => h1 σ Kn H s _ fun Kn1 H1 e1 s1 => by
  cases a with
  | true => exact iteT (q Kn1 H1 e1 s1)
  | false => exact iteF (h2 rfl σ Kn1 H1 s1 Q fun Kn2 H2 g2 => q Kn2 H2 (e1.trans g2.kk) (s1.grow g2))
theorem sb_ifM {t u : TS} (h : ETM K F Kn0 sl ow tt ow1 b) (h1 : b = true → SB K F Kn0 sl ow1 D t) (h2 : b = false → SB K F Kn0 sl ow1 D u) : SB K F Kn0 sl ow D (tIfS tt t u) := fun σ Kn H s => h σ Kn H s _ fun Kn1 H1 e1 s1 => by
  cases b with
  | true => exact iteT (h1 rfl σ Kn1 H1 s1)
  | false => exact iteF (h2 rfl σ Kn1 H1 s1)
end
section
variable {X : Cx} {K : Fg}
theorem k_catA (h : X.K = K := by rfl) : OpR X (binaryOp .Add) (rCatA K) := h ▸ op_catA
theorem k_join {to te : TE} {o e : Expr} {apos pos : Pos} (ho : PE X o to) (he : PE X e te) (hs : starEach [e] X.env = [(false, eval e X.env)] := by rfl) (hbase : attributeBase o "join" X.env (eval o X.env) = eval o X.env := by rfl) (hline : (apos.endLine == pos.line) = true := by rfl) (h : X.K = K := by rfl) :
    PE X (.Call (.Attribute o "join" apos) [e] [] pos) (tM1 (fun x xs H Q => ∃ a p, ∃ ys : List Str, x = .str a ∧ xs = [.ref p] ∧ (SqL K H p (ys.map V.str) ∨ SqT K H p (ys.map V.str)) ∧ (ys.map (·.length)).sum + ys.length * a.length ≤ 16777216 ∧ Q (.str (Txt.join a ys)) H) to te) := h ▸ pe_join ho he hs hbase hline
end
end Wk
/-! Wk6: dicts. -/
namespace Wk
open PySem PySem.Spec L2 Evl
/-- what may be a key -/
class K1 (α : Type) [Rp α] where
  key : α → Key
  inj : ∀ {a b : α}, key a = key b → a = b
  iff : ∀ {K : Fg} {H : Hp} {v : V} {a : α}, rep K H v a → v = kV (key a)
instance : K1 Int := { key := Sum.inl, inj := fun h => Sum.inl.inj h, iff := fun h => h }
instance : K1 Str := { key := Sum.inr, inj := fun h => Sum.inr.inj h, iff := fun h => h }
class KT1 (τ : Type) [Tp τ] where
  keys : τ → List Key
  inj : ∀ {a b : τ}, keys a = keys b → a = b
  iff : ∀ {K : Fg} {H : Hp} {vs : List V} {a : τ}, rept K H vs a → vs = (keys a).map kV
instance : KT1 Unit := { keys := fun _ => [], inj := fun _ => rfl, iff := fun h => h }
instance {α τ : Type} [Rp α] [Tp τ] [K1 α] [KT1 τ] : KT1 (α × τ) where
  keys t := K1.key t.1 :: KT1.keys t.2
  inj h := Prod.ext (K1.inj (List.cons.inj h).1) (KT1.inj (List.cons.inj h).2)
  iff h := by
    obtain ⟨v, r, h1, h2, h3⟩ := h
    rw [h1, K1.iff h2, KT1.iff h3]
    rfl
class Ky (κ : Type) [Rp κ] where
  kt : Type
  dec : DecidableEq kt
  key : κ → kt
  inj : ∀ {a b : κ}, key a = key b → a = b
  ho : List (kt × V) → HO
  isd : ∀ ws, isDk (ho ws)
  get : ∀ {K : Fg} {Kh H : Hp} {p : Addr} {v : V} {a : κ} {ws : List (kt × V)}, rep K Kh v a → Ex Kh H → Rd H p (ho ws) → DGet H p v (valV ws (key a))
  put : ∀ {K : Fg} {Kh H : Hp} {p : Addr} {v y : V} {a : κ} {ws : List (kt × V)}, rep K Kh v a → Ex Kh H → H p = some (ho ws) → ws.length < sizeLine → DPut H p v y (upd H p (ho (putK ws (key a) y)))
instance {κ : Type} [Rp κ] [Ky κ] : DecidableEq (Ky.kt κ) := Ky.dec
instance {α : Type} [Rp α] [K1 α] : Ky α where
  kt := Key
  dec := inferInstance
  key := K1.key
  inj := K1.inj
  ho := .dK
  isd _ := trivial
  get h _ e := by
    rw [K1.iff h]
    exact .inl ⟨_, _, e, rfl, rfl⟩
  put h _ e l := by
    rw [K1.iff h]
    exact DPut.k e l
instance {α τ : Type} [Rp α] [Tp τ] [KT1 (α × τ)] : Ky (α × τ) where
  kt := List Key
  dec := inferInstance
  key := KT1.keys
  inj := KT1.inj
  ho := .dT
  isd _ := trivial
  get h x e := by
    obtain ⟨p, vs, h1, h2, h3⟩ := h
    rw [h1]
    have h4 := x _ _ h2
    rw [KT1.iff (τ := α × _) h3] at h4
    exact .inr ⟨_, _, _, e, rfl, h4, rfl⟩
  put h x e l := by
    obtain ⟨p, vs, h1, h2, h3⟩ := h
    rw [h1]
    have h4 := x _ _ h2
    rw [KT1.iff (τ := α × _) h3] at h4
    exact DPut.t e h4 l
/-- the table of a dict -/
structure Dc (κ β : Type) where
  l : List (κ × β)
section
variable {κ β : Type} [DecidableEq κ]
def getD (kvs : List (κ × β)) (k : κ) : Option β := (kvs.find? fun kv => decide (kv.1 = k)).map (·.2)
def putD (kvs : List (κ × β)) (k : κ) (y : β) : List (κ × β) := if (getD kvs k).isSome = true then kvs.map (fun kv => if kv.1 = k then (kv.1, y) else kv) else kvs ++ [(k, y)]
def putO (kvs : Dc κ β) (k : κ) (y : β) : Option (Dc κ β) := if kvs.l.length < 1000000 then some ⟨putD kvs.l k y⟩ else none
def mergeD (kvs more : List (κ × β)) : List (κ × β) := more.foldl (fun acc kv => putD acc kv.1 kv.2) kvs
end
section
variable {κ β : Type} [Rp κ] [Ky κ] [Rp β]
abbrev DK (K : Fg) (H : Hp) : List (Ky.kt κ × V) → List (κ × β) → Prop := Paired fun w kv => w.1 = Ky.key kv.1 ∧ rep K H w.2 kv.2
theorem DK.mono {K : Fg} {H H' : Hp} {ws : List (Ky.kt κ × V)} {kvs : List (κ × β)} (e : Ex H H') (h : DK K H ws kvs) : DK K H' ws kvs := Paired.mapP h fun _ _ q => ⟨q.1, Rp.mono e q.2⟩
theorem DK.swap {K : Fg} {H H' : Hp} {ws : List (Ky.kt κ × V)} {kvs : List (κ × β)} (e : Sw H H') (h : DK K H ws kvs) : DK K H' ws kvs := Paired.mapP h fun _ _ q => ⟨q.1, Rp.swap e q.2⟩
instance obDc : Ob (Dc κ β) where
  ob K H o x := ∃ ws, o = Ky.ho (κ := κ) ws ∧ DK K H ws x.l
  swap e h := by
    obtain ⟨ws, h1, h2⟩ := h
    exact ⟨ws, h1, DK.swap e h2⟩
instance rpDc : Rp (Dc κ β) where
  rep K H v x := ∃ p ws, v = .ref p ∧ Rd H p (Ky.ho (κ := κ) ws) ∧ DK K H ws x.l
  swap e h := by
    obtain ⟨p, ws, h1, h2, h3⟩ := h
    exact ⟨p, ws, h1, e.rd h2 (Ky.isd ws), DK.swap e h3⟩
theorem rd_ex {H H' : Hp} (e : Ex H H') {q : Addr} {u : HO} (h : Rd H q u) : Rd H' q u := by
  rcases h with h | ⟨o, h⟩
  · exact .inl (e _ _ h)
  · exact .inr ⟨o, e _ _ h⟩
variable [DecidableEq κ]
theorem DK.get {K : Fg} {H : Hp} {ws : List (Ky.kt κ × V)} {kvs : List (κ × β)} (k : κ) (h : DK K H ws kvs) : (getD kvs k = none ∧ valV ws (Ky.key k) = none) ∨ ∃ y v, getD kvs k = some y ∧ valV ws (Ky.key k) = some v ∧ rep K H v y := by
  unfold DK at h
  induction h with
  | nil => exact .inl ⟨rfl, rfl⟩
  | @cons w kv ws kvs h t ih =>
    unfold getD valV
    by_cases e : kv.1 = k
    · have e2 : w.1 = Ky.key k := h.1.trans (congrArg _ e)
      rw [List.find?_cons_of_pos (by simpa using e), List.find?_cons_of_pos (by simpa using e2)]
      exact .inr ⟨_, _, rfl, rfl, h.2⟩
    · have e2 : ¬ w.1 = Ky.key k := fun z => e (Ky.inj (h.1.symm.trans z))
      rw [List.find?_cons_of_neg (by simpa using e), List.find?_cons_of_neg (by simpa using e2)]
      exact ih
theorem DK.some {K : Fg} {H : Hp} {ws : List (Ky.kt κ × V)} {kvs : List (κ × β)} (k : κ) (h : DK K H ws kvs) : (valV ws (Ky.key k)).isSome = (getD kvs k).isSome := by
  rcases h.get k with ⟨h1, h2⟩ | ⟨y, v, h1, h2, _⟩
  · rw [h1, h2]
    rfl
  · rw [h1, h2]
    rfl
theorem DK.repl {K : Fg} {H : Hp} {ws : List (Ky.kt κ × V)} {kvs : List (κ × β)} (k : κ) {v : V} {y : β} (hv : rep K H v y) (h : DK K H ws kvs) : DK K H (ws.map fun kv => if kv.1 = Ky.key k then (kv.1, v) else kv) (kvs.map fun kv => if kv.1 = k then (kv.1, y) else kv) := by
  unfold DK at h ⊢
  induction h with
  | nil => exact .nil
  | @cons w kv ws kvs h t ih =>
    rw [List.map_cons, List.map_cons]
    refine .cons ?_ ih
    by_cases e : kv.1 = k
    · have e2 : w.1 = Ky.key k := h.1.trans (congrArg _ e)
      rw [if_pos e, if_pos e2]
      exact ⟨h.1, hv⟩
    · have e2 : ¬ w.1 = Ky.key k := fun z => e (Ky.inj (h.1.symm.trans z))
      rw [if_neg e, if_neg e2]
      exact h
theorem Paired.app2 {α β : Type} {R : α → β → Prop} : ∀ {xs xs' : List α} {ys ys' : List β}, Paired R xs ys → Paired R xs' ys' → Paired R (xs ++ xs') (ys ++ ys')
  | _, _, _, _, .nil, h => h
  | _, _, _, _, .cons q t, h => .cons q (Paired.app2 t h)
theorem DK.put {K : Fg} {H : Hp} {ws : List (Ky.kt κ × V)} {kvs : List (κ × β)} (k : κ) {v : V} {y : β} (hv : rep K H v y) (h : DK K H ws kvs) : DK K H (putK ws (Ky.key k) v) (putD kvs k y) := by
  unfold putK putD
  rw [valV_any, h.some k]
  split
  · exact DK.repl k hv h
  · exact Paired.app2 h (.cons ⟨rfl, hv⟩ .nil)
end
section
variable {K : Fg} {F Kn0 : Hp} {sl sl' : List Sl} {ow ow0 ow1 ow2 : List Ow} {κ β γ : Type} [Rp κ] [Ky κ] [DecidableEq κ] [Rp β] [Rp γ] {ta tb te td tk : TE} {k : κ} {x : γ} {D : Ends} {t u tz : TS} {b : Bool} {i j : Nat} {p : Addr}
/-- the object at place j is another one now, all else as it was -/
theorem S.writeG {σ : L2.St} {Kn H Kn' H' : Hp} {o1 o2 : Ow} (s : S K F Kn0 sl ow σ Kn H) (hj : ow[j]? = some o1) (ha : o1.ad = p) (hb : o2.ad = p) (kk : Ex Kn Kn') (kh : Ex Kn' H')
    (hq : ∀ q, q ≠ p → H q ≠ none → H' q = H q) (sp : ∀ q, H q ≠ none → Kn q = none → Kn' q = none) (hp : o2.ok K Kn' H') : S K F Kn0 sl (ow.set j o2) σ Kn' H' := by
  obtain ⟨f1, f2, f3⟩ := s.ow.each _ (List.mem_of_getElem? hj)
  have f4 := Ow.there f3
  rw [ha] at f1 f2 f4
  have jl : j < ow.length := (List.getElem?_eq_some_iff.mp hj).1
  refine ⟨s.e0.trans kk, kh, fun a u h => ?_, fun a h1 h2 => sp a (Ex.nn s.ef h1) (s.sep a h1 h2), s.sl.mono kk, ⟨fun o ho => ?_, ?_⟩⟩
  · have hne : a ≠ p := fun z => by rw [z, f1] at h; cases h
    rw [hq a hne (ne_none_of (s.ef _ _ h))]
    exact s.ef _ _ h
  · obtain ⟨i, hi⟩ := List.getElem?_of_mem ho
    by_cases e : i = j
    · subst e
      rw [List.getElem?_set_self jl] at hi
      cases hi
      rw [hb]
      exact ⟨f1, sp p f4 f2, hp⟩
    · rw [List.getElem?_set_ne (Ne.symm e)] at hi
      obtain ⟨h1, h2, h3⟩ := s.ow.each o (List.mem_of_getElem? hi)
      have h4 := Ow.there h3
      have hne : o.ad ≠ p := fun z => e (ow_at s.ow.nd hi hj (z.trans ha.symm))
      exact ⟨h1, sp _ h4 h2, Ow.ok_mono kk (hq _ hne h4) h3⟩
  · have e : (ow.set j o2).map Ow.ad = ow.map Ow.ad := by
      rw [List.map_set]
      refine List.ext_getElem? fun i => ?_
      by_cases e : j = i
      · subst e
        rw [List.getElem?_set_self (by rw [List.length_map]; exact jl), List.getElem?_map, hj, hb, ← ha]
        rfl
      · rw [List.getElem?_set_ne e]
    rw [e]
    exact s.ow.nd
theorem S.ownG {σ : L2.St} {Kn H : Hp} {o : Ow} (s : S K F Kn0 sl ow σ Kn H) (ha : o.ad = p) (fp : F p = none) (kp : Kn p = none) (no : ∀ o ∈ ow, o.ad ≠ p) (ok : o.ok K Kn H) : S K F Kn0 sl (o :: ow) σ Kn H :=
  ⟨s.e0, s.ek, s.ef, s.sep, s.sl, ⟨fun o ho => by
    rcases List.mem_cons.mp ho with rfl | ho
    · rw [ha]
      exact ⟨fp, kp, ok⟩
    · exact s.ow.each o ho, List.nodup_cons.mpr ⟨fun h => by
      obtain ⟨o, ho, e⟩ := List.mem_map.mp h
      exact no o ho (e.trans ha), s.ow.nd⟩⟩⟩
/-- x = {} -/
theorem sb_dnewK {sl' : Addr → List Sl} (hm : Ky.ho (κ := κ) [] = HO.dK []) (hs : ∀ p, sl.set i (.at p) = sl' p) (k : ∀ p, SN K F Kn0 (sl' p) (oo p (Dc.mk ([] : List (κ × β))) :: ow) D) : SB K F Kn0 sl ow D (tAsg tDNewK (gName i)) := fun σ Kn H s p hp =>
  k p _ Kn _ (hs p ▸ ((s.grow (Gr.newU s.ek hp)).ownG (p := p) (o := oo p (Dc.mk ([] : List (κ × β)))) rfl (fresh_back s.ef hp) (fresh_back s.ek hp) (owned_ne s hp) ⟨_, upd_same, [], hm.symm, .nil⟩).seta i)
theorem sb_dnewT {sl' : Addr → List Sl} (hm : Ky.ho (κ := κ) [] = HO.dT []) (hs : ∀ p, sl.set i (.at p) = sl' p) (k : ∀ p, SN K F Kn0 (sl' p) (oo p (Dc.mk ([] : List (κ × β))) :: ow) D) : SB K F Kn0 sl ow D (tAsg tDNewT (gName i)) := fun σ Kn H s p hp =>
  k p _ Kn _ (hs p ▸ ((s.grow (Gr.newU s.ek hp)).ownG (p := p) (o := oo p (Dc.mk ([] : List (κ × β)))) rfl (fresh_back s.ef hp) (fresh_back s.ek hp) (owned_ne s hp) ⟨_, upd_same, [], hm.symm, .nil⟩).seta i)
/-- d[k] = y -/
theorem sb_dput {y : β} {d d' : Dc κ β} (hi : sl[i]? = some (.at p)) (hj : ow[j]? = some (oo p d)) (h : EV K F Kn0 sl ow te y) (hk : EV K F Kn0 sl ow tk k) (hx : putO d k y = some d') (ho : ow.set j (oo p d') = ow1) (n : SN K F Kn0 sl ow1 D) :
    SB K F Kn0 sl ow D (sDPut (tVar i) tk te) := fun σ Kn H s => h σ Kn H s _ fun v Kn1 H1 g1 r1 => by
  obtain ⟨o, h1, h2⟩ := s.sl.get hi
  refine ⟨.ref p, by rw [h1]; exact congrArg some h2, hk σ Kn1 H1 (s.grow g1) _ fun w Kn2 H2 g2 r2 => ?_⟩
  have s2 := (s.grow g1).grow g2
  obtain ⟨f1, f2, o1, f3, ws, f4, f5⟩ := s2.ow.each _ (List.mem_of_getElem? hj)
  subst f4
  unfold putO at hx
  split at hx
  · case isTrue hl =>
    cases hx
    subst ho
    refine ⟨p, _, rfl, Ky.put r2 s2.ek f3 (by rw [f5.length]; exact lt_line hl), n _ Kn2 _ ?_⟩
    exact s2.writeG hj rfl rfl (Ex.refl _) (upd_in s2.ek f2) (fun q hq _ => upd_ne hq) (fun _ _ h => h) ⟨_, upd_same, _, rfl, DK.put k (Rp.mono g2.kk r1) f5⟩
  · cases hx
/-- k in d -/
theorem ev_dinO {d : Dc κ β} (hi : sl[i]? = some (.at p)) (hj : ow[j]? = some (oo p d)) (hk : EV K F Kn0 sl ow tk k) : EV K F Kn0 sl ow (tDIn tk (tVar i)) (getD d.l k).isSome := fun σ Kn H s Q q => hk σ Kn H s _ fun v Kn1 H1 g1 r1 => by
  have s1 := s.grow g1
  obtain ⟨o, h1, h2⟩ := s1.sl.get hi
  obtain ⟨f1, f2, o1, f3, ws, f4, f5⟩ := s1.ow.each _ (List.mem_of_getElem? hj)
  subst f4
  exact ⟨.ref p, by rw [h1]; exact congrArg some h2, p, _, rfl, Ky.get r1 s1.ek (Rd.of f3), q _ Kn1 H1 g1 (congrArg V.bl (f5.some k))⟩
theorem ev_din {d : Dc κ β} (hd : EV K F Kn0 sl ow td d) (hk : EV K F Kn0 sl ow tk k) : EV K F Kn0 sl ow (tDIn tk td) (getD d.l k).isSome := fun σ Kn H s Q q => hk σ Kn H s _ fun v Kn1 H1 g1 r1 => hd σ Kn1 H1 (s.grow g1) _ fun u Kn2 H2 g2 r2 => by
  obtain ⟨p, ws, e1, e2, f5⟩ := r2
  exact ⟨p, _, e1, Ky.get (Rp.mono g2.kk r1) g2.kh (rd_ex g2.kh e2), q _ Kn2 H2 (g1.trans g2) (congrArg V.bl (f5.some k))⟩
theorem ev_dnotinO {d : Dc κ β} (hi : sl[i]? = some (.at p)) (hj : ow[j]? = some (oo p d)) (hk : EV K F Kn0 sl ow tk k) : EV K F Kn0 sl ow (tDNotIn tk (tVar i)) (!(getD d.l k).isSome) := fun σ Kn H s Q q => hk σ Kn H s _ fun v Kn1 H1 g1 r1 => by
  have s1 := s.grow g1
  obtain ⟨o, h1, h2⟩ := s1.sl.get hi
  obtain ⟨f1, f2, o1, f3, ws, f4, f5⟩ := s1.ow.each _ (List.mem_of_getElem? hj)
  subst f4
  exact ⟨.ref p, by rw [h1]; exact congrArg some h2, p, _, rfl, Ky.get r1 s1.ek (Rd.of f3), q _ Kn1 H1 g1 (congrArg (fun b => V.bl (!b)) (f5.some k))⟩
theorem ev_dnotin {d : Dc κ β} (hd : EV K F Kn0 sl ow td d) (hk : EV K F Kn0 sl ow tk k) : EV K F Kn0 sl ow (tDNotIn tk td) (!(getD d.l k).isSome) := fun σ Kn H s Q q => hk σ Kn H s _ fun v Kn1 H1 g1 r1 => hd σ Kn1 H1 (s.grow g1) _ fun u Kn2 H2 g2 r2 => by
  obtain ⟨p, ws, e1, e2, f5⟩ := r2
  exact ⟨p, _, e1, Ky.get (Rp.mono g2.kk r1) g2.kh (rd_ex g2.kh e2), q _ Kn2 H2 (g1.trans g2) (congrArg (fun b => V.bl (!b)) (f5.some k))⟩
/-- d[k] -/
theorem ev_dgetO {d : Dc κ β} {y : β} (hi : sl[i]? = some (.at p)) (hj : ow[j]? = some (oo p d)) (hk : EV K F Kn0 sl ow tk k) (hy : getD d.l k = some y) : EV K F Kn0 sl ow (tDGet (tVar i) tk) y := fun σ Kn H s Q q => by
  obtain ⟨o, h1, h2⟩ := s.sl.get hi
  refine ⟨.ref p, by rw [h1]; exact congrArg some h2, hk σ Kn H s _ fun v Kn1 H1 g1 r1 => ?_⟩
  have s1 := s.grow g1
  obtain ⟨f1, f2, o1, f3, ws, f4, f5⟩ := s1.ow.each _ (List.mem_of_getElem? hj)
  subst f4
  rcases f5.get k with ⟨h1, h2⟩ | ⟨y2, w, h1, h2, h3⟩
  · rw [h1] at hy
    cases hy
  · rw [h1] at hy
    cases hy
    exact ⟨p, w, rfl, h2 ▸ Ky.get r1 s1.ek (Rd.of f3), q w Kn1 H1 g1 h3⟩
theorem ev_dget {d : Dc κ β} {y : β} (hd : EV K F Kn0 sl ow td d) (hk : EV K F Kn0 sl ow tk k) (hy : getD d.l k = some y) : EV K F Kn0 sl ow (tDGet td tk) y := fun σ Kn H s Q q => hd σ Kn H s _ fun u Kn1 H1 g1 r1 => hk σ Kn1 H1 (s.grow g1) _ fun v Kn2 H2 g2 r2 => by
  obtain ⟨p, ws, e1, e2, f5⟩ := Rp.mono g2.kk r1
  rcases f5.get k with ⟨h1, h2⟩ | ⟨y2, w, h1, h2, h3⟩
  · rw [h1] at hy
    cases hy
  · rw [h1] at hy
    cases hy
    exact ⟨p, w, e1, h2 ▸ Ky.get r2 g2.kh (rd_ex g2.kh e2), q w Kn2 H2 (g1.trans g2) h3⟩
/-- a dict of one's own, lent -/
theorem S.borrowG {σ : L2.St} {Kn H : Hp} {d : Dc κ β} (s : S K F Kn0 sl ow σ Kn H) (hi : sl[i]? = some (.at p)) (hj : ow[j]? = some (oo p d)) : ∃ o, Kn p = none ∧ H p = some o ∧ S K F Kn0 (sl.set i (sv d)) (ow.eraseIdx j) σ (upd Kn p o) H := by
  obtain ⟨o, h1, h2⟩ := s.sl.get hi
  have h2 : o = some (.ref p) := h2
  obtain ⟨f1, f2, ob, f3, f4⟩ := s.ow.each _ (List.mem_of_getElem? hj)
  have s1 := s.sub (List.eraseIdx_sublist ow j)
  have no : ∀ o ∈ ow.eraseIdx j, o.ad ≠ p := fun o hm z => by
    obtain ⟨m, hm'⟩ := List.getElem?_of_mem hm
    rw [List.getElem?_eraseIdx] at hm'
    split at hm'
    · have := ow_at s.ow.nd hm' hj z
      omega
    · have := ow_at s.ow.nd hm' hj z
      omega
  have s2 := s1.know (o := ob) f1 f2 no f3
  have hσ : σ.set i o = σ := by
    refine List.ext_getElem? fun m => ?_
    by_cases e : i = m
    · subst e
      rw [List.getElem?_set_self (List.getElem?_eq_some_iff.mp h1).1, h1]
    · rw [List.getElem?_set_ne e]
  have s3 := s2.set (x := sv d) (o := o) i ⟨.ref p, h2, by
    obtain ⟨ws, rfl, f5⟩ := f4
    exact ⟨p, ws, rfl, Rd.of upd_same, DK.mono (Ex.new f2) f5⟩⟩
  rw [hσ] at s3
  exact ⟨ob, f2, f3, s3⟩
theorem ev_borG [Fl γ] {z : γ} {d : Dc κ β} (hi : sl[i]? = some (.at p)) (hj : ow[j]? = some (oo p d)) (hs : sl.set i (sv d) = sl') (ho : ow.eraseIdx j = ow1) (h : EV K F Kn0 sl' ow1 te z) : EV K F Kn0 sl ow te z := fun σ Kn H s Q q => by
  obtain ⟨ws, kp, hp, s1⟩ := s.borrowG hi hj
  subst hs
  subst ho
  exact h σ _ H s1 Q fun v Kn' H' g r => q v Kn H' ⟨Ex.refl _, g.hh, s.ek.trans g.hh, fun _ _ h => h⟩ (Fl.iff.mpr (Fl.iff.mp r))
theorem et_borG {tt : TT} {d : Dc κ β} (hi : sl[i]? = some (.at p)) (hj : ow[j]? = some (oo p d)) (hs : sl.set i (sv d) = sl') (ho : ow.eraseIdx j = ow1) (h : ET K F Kn0 sl' ow1 tt b) : ET K F Kn0 sl ow tt b := fun σ Kn H s Q q => by
  obtain ⟨ws, kp, hp, s1⟩ := s.borrowG hi hj
  subst hs
  subst ho
  exact h σ _ H s1 Q fun Kn' H' g => q Kn H' ⟨Ex.refl _, g.hh, s.ek.trans g.hh, fun _ _ h => h⟩
end
section
variable {X : Cx} {o i e value : Expr} {pos pos' tpos : Pos} {td ty tv : TE}
theorem k_dget (hu : X.A.units + 64 < cLine) (ho : PE X o td) (hi : PE X i ty) (hs : NoSl i) : PE X (.Subscript o i pos) (tDGet td ty) := pe_dget (by omega) ho hi hs
theorem k_din (hu : X.A.units + 64 < cLine) (hi : PE X i ty) (ho : PE X o td) : PC X .In i o (tDIn ty td) := pc_din (by omega) hi ho
theorem k_dnotin (hu : X.A.units + 64 < cLine) (hi : PE X i ty) (ho : PE X o td) : PC X .NotIn i o (tDNotIn ty td) := pc_dnotin (by omega) hi ho
theorem k_dput (hu : X.A.units + 64 < cLine) (ho : PE X o td) (hi : PE X i ty) (hv : PE X value tv) (hs : swapsWith value (some (.Subscript o i pos')) pos.line X.env = pure false) : PS X (.Assign [.Subscript o i pos'] value pos) (sDPut td ty tv) := ps_dput (by omega) ho hi hv hs
end
/-! ### a new list out of an operation with effects -/
section
variable {K : Fg} {F Kn0 : Hp} {sl : List Sl} {ow ow1 ow2 : List Ow} {α β γ : Type} [Rp α] [Rp β] [Rp γ] {ta tb : TE} {x : α} {y : β}
theorem enm_op {r : R2} {zs : List γ} (ha : EM K F Kn0 sl ow ta ow1 x) (hb : EM K F Kn0 sl ow1 tb ow2 y) (hr : R2L K r x y zs) : ENM K F Kn0 sl ow (tOp r ta tb) ow2 zs := fun σ Kn H s Q q =>
  ha σ Kn H s _ fun v Kn1 H1 e1 s1 r1 => hb σ Kn1 H1 s1 _ fun w Kn2 H2 e2 s2 r2 => hr Kn2 H2 v w s2.ek (Rp.mono e2 r1) r2 Q fun p ws Kn' H' g' hp kp hw r' =>
    q p ws Kn' H' ((e1.trans e2).trans g'.kk) (s2.grow g') (fresh_back s2.ef hp) kp (owned_ne s2 hp) hw r'
end
/-! ### a display -/
section
variable {K : Fg} {F Kn0 : Hp} {sl : List Sl} {ow : List Ow} {κ β : Type} [Rp κ] [K1 κ] [DecidableEq κ] [Rp β] {tk tv : TE} {k : κ} {y : β} {trs : List (TE × TE)} {kvs : List (κ × β)}
def EPs (K : Fg) (F Kn0 : Hp) (sl : List Sl) (ow : List Ow) (trs : List (TE × TE)) (kvs : List (κ × β)) : Prop := ∀ σ Kn H, S K F Kn0 sl ow σ Kn H → ∀ Q : List (V × V) → Hp → Prop,
  (∀ ws Kn' H', Gr Kn H Kn' H' → DK K Kn' ws kvs → Q (ws.map fun w => (kV w.1, w.2)) H') → tPairs trs σ H Q
theorem eps_nil : EPs K F Kn0 sl ow [] ([] : List (κ × β)) := fun σ Kn H s Q q => q [] Kn H (Gr.refl s.ek) .nil
theorem eps_cons (hk : EV K F Kn0 sl ow tk k) (hv : EV K F Kn0 sl ow tv y) (hr : EPs K F Kn0 sl ow trs kvs) : EPs K F Kn0 sl ow ((tk, tv) :: trs) ((k, y) :: kvs) := fun σ Kn H s Q q =>
  hk σ Kn H s _ fun v Kn1 H1 g1 r1 => hv σ Kn1 H1 (s.grow g1) _ fun w Kn2 H2 g2 r2 => hr σ Kn2 H2 ((s.grow g1).grow g2) _ fun ws Kn3 H3 g3 r3 => by
    have e := K1.iff r1
    subst e
    exact q ((K1.key k, w) :: ws) Kn3 H3 ((g1.trans g2).trans g3) (.cons ⟨rfl, Rp.mono g3.kk r2⟩ r3)
theorem DK.merge {K : Fg} {H : Hp} : ∀ {ms : List (Key × V)} {more : List (κ × β)} {ws : List (Key × V)} {kvs : List (κ × β)}, DK K H ms more → DK K H ws kvs → DK K H (mergeK ws ms) (mergeD kvs more) := by
  intro ms more ws kvs h
  unfold DK at h
  induction h generalizing ws kvs with
  | nil => exact fun h => h
  | @cons w kv ms more h t ih =>
    intro q
    refine ih ?_
    show DK K H (putK ws w.1 w.2) (putD kvs kv.1 kv.2)
    rw [h.1]
    exact DK.put kv.1 h.2 q
/-- {..}[k] -/
theorem ev_pick (hp : EPs K F Kn0 sl ow trs kvs) (hk : EV K F Kn0 sl ow tk k) (hl : kvs.length ≤ 15) (hy : getD (mergeD [] kvs) k = some y) : EV K F Kn0 sl ow (tDGet (tDisp trs) tk) y := fun σ Kn H s Q q p hp0 => by
  have g0 : Gr Kn H Kn (upd H p (.dK [])) := Gr.newU s.ek hp0
  refine hp σ Kn _ (s.grow g0) _ fun ws Kn1 H1 g1 r1 => ?_
  have e1 : H1 p = some (.dK []) := g1.hh _ _ upd_same
  have kp : Kn1 p = none := g1.sp p (ne_none_of upd_same) (fresh_back s.ek hp0)
  have g : Gr Kn H Kn1 (upd H1 p (.dK (mergeK [] ws))) := ⟨g1.kk, fun a u h => by
    have hne : a ≠ p := fun z => by rw [z, hp0] at h; cases h
    rw [upd_ne hne]
    exact g1.hh _ _ (by rw [upd_ne hne]; exact h), upd_in g1.kh kp, fun a h1 h2 => g1.sp a (Ex.nn g0.hh h1) h2⟩
  refine ⟨e1, ws, rfl, by rw [r1.length]; exact hl, hk σ Kn1 _ (s.grow g) _ fun v Kn2 H2 g2 r2 => ?_⟩
  have r3 : DK K Kn1 (mergeK [] ws) (mergeD [] kvs) := DK.merge r1 .nil
  rcases r3.get k with ⟨h1, h2⟩ | ⟨y2, w, h1, h2, h3⟩
  · rw [h1] at hy
    cases hy
  · rw [h1] at hy
    cases hy
    exact ⟨p, w, rfl, h2 ▸ Ky.get r2 g2.kh (Rd.of (g2.hh _ _ upd_same)), q w Kn2 H2 (g.trans g2) (Rp.mono g2.kk h3)⟩
end
end Wk
/-! Wdy: values of any kind (None, truths, numbers, texts, tuples and lists of these), read as data; a dict of the module; a def that calls itself -/
namespace Wk
open PySem PySem.Spec L2 Evl
mutual
inductive Dq (H : Hp) : V → PyData → Prop
  | non : Dq H .non .none
  | bl (b : Bool) : Dq H (.bl b) (.bool b)
  | int (i : Int) : Dq H (.int i) (.int i)
  | str (x : Str) : Dq H (.str x) (.str x)
  | lst {a : Addr} {xs : List V} {ds : List PyData} : H a = some (.lst xs) → DqAll H xs ds → Dq H (.ref a) (.list ds)
  | tup {a : Addr} {xs : List V} {ds : List PyData} : H a = some (.tup xs) → DqAll H xs ds → Dq H (.ref a) (.tuple ds)
inductive DqAll (H : Hp) : List V → List PyData → Prop
  | nil : DqAll H [] []
  | cons {v : V} {vs : List V} {d : PyData} {ds : List PyData} : Dq H v d → DqAll H vs ds → DqAll H (v :: vs) (d :: ds)
end
theorem Dq.swap {H H' : Hp} (e : Sw H H') {v : V} {d : PyData} (h : Dq H v d) : Dq H' v d :=
  Dq.rec (motive_1 := fun v d _ => Dq H' v d) (motive_2 := fun vs ds _ => DqAll H' vs ds) .non .bl .int .str (fun s _ ih => .lst (e.lst s) ih) (fun s _ ih => .tup (e.tup s) ih) .nil (fun _ _ h1 h2 => .cons h1 h2) h
theorem DqAll.swap {H H' : Hp} (e : Sw H H') {v : List V} {d : List PyData} (h : DqAll H v d) : DqAll H' v d :=
  DqAll.rec (motive_1 := fun v d _ => Dq H' v d) (motive_2 := fun vs ds _ => DqAll H' vs ds) .non .bl .int .str (fun s _ ih => .lst (e.lst s) ih) (fun s _ ih => .tup (e.tup s) ih) .nil (fun _ _ h1 h2 => .cons h1 h2) h
theorem Dq.dp {K : Fg} {H : Hp} {v : V} {d : PyData} (h : Dq H v d) : Dp K H v d :=
  Dq.rec (motive_1 := fun v d _ => Dp K H v d) (motive_2 := fun vs ds _ => DpAll K H vs ds) .non .bl .int .str (fun s _ ih => .lst (sq_of s) ih) (fun s _ ih => .tup (st_of s) ih) .nil (fun _ _ h1 h2 => .cons h1 h2) h
structure Dy where
  d : PyData
instance : Rp Dy := { rep := fun _ H v x => Dq H v x.d, swap := fun e h => Dq.swap e h }
/-- to data -/
class Ud (α : Type) [Rp α] where
  toD : α → PyData
  is : ∀ {K : Fg} {H : Hp} {v : V} {a : α}, rep K H v a → Dq H v (toD a)
class Us (τ : Type) [Tp τ] where
  toDs : τ → List PyData
  is : ∀ {K : Fg} {H : Hp} {vs : List V} {a : τ}, rept K H vs a → DqAll H vs (toDs a)
instance : Ud Int := ⟨.int, fun h => by cases h; exact .int _⟩
instance : Ud Bool := ⟨.bool, fun h => by cases h; exact .bl _⟩
instance : Ud Str := ⟨.str, fun h => by cases h; exact .str _⟩
instance : Ud Nn := ⟨fun _ => .none, fun h => by cases h; exact .non⟩
instance : Ud Dy := ⟨Dy.d, fun h => h⟩
instance {α : Type} [Rp α] [Ud α] : Ud (Option α) where
  toD x := match x with | none => .none | some a => Ud.toD a
  is {K H v a} h := by
    cases a with
    | none => cases h; exact .non
    | some a => exact Ud.is h.2
theorem dqAll_of {α : Type} [Rp α] [Ud α] {K : Fg} {H : Hp} : ∀ {vs : List V} {xs : List α}, Paired (rep K H) vs xs → DqAll H vs (xs.map Ud.toD)
  | _, _, .nil => .nil
  | _, _, .cons r t => .cons (Ud.is r) (dqAll_of t)
instance {α : Type} [Rp α] [Ud α] : Ud (List α) where
  toD xs := .list (xs.map Ud.toD)
  is h := by
    obtain ⟨p, vs, rfl, h1, h2⟩ := h
    exact .lst h1 (dqAll_of h2)
instance {α : Type} [Rp α] [Ud α] : Ud (Tu α) where
  toD xs := .tuple (xs.l.map Ud.toD)
  is h := by
    obtain ⟨p, vs, rfl, h1, h2⟩ := h
    exact .tup h1 (dqAll_of h2)
instance : Us Unit := ⟨fun _ => [], fun h => by cases h; exact .nil⟩
instance {α τ : Type} [Rp α] [Tp τ] [Ud α] [Us τ] : Us (α × τ) where
  toDs t := Ud.toD t.1 :: Us.toDs t.2
  is h := by
    obtain ⟨v, r, rfl, h1, h2⟩ := h
    exact .cons (Ud.is h1) (Us.is h2)
instance {α τ : Type} [Rp α] [Tp τ] [Ud α] [Us τ] : Ud (α × τ) where
  toD t := .tuple (Us.toDs (τ := α × τ) t)
  is h := by
    obtain ⟨p, vs, rfl, h1, h2⟩ := h
    exact .tup h1 (Us.is h2)
/-- out of data, where it is of the kind -/
class Od (α : Type) [Rp α] where
  of : PyData → Option α
  un : ∀ {K : Fg} {H : Hp} {v : V} {d : PyData} {a : α}, Dq H v d → of d = some a → rep K H v a
class Os (τ : Type) [Tp τ] where
  ofs : List PyData → Option τ
  un : ∀ {K : Fg} {H : Hp} {vs : List V} {ds : List PyData} {a : τ}, DqAll H vs ds → ofs ds = some a → rept K H vs a
instance : Od Int := ⟨fun d => match d with | .int i => some i | _ => none, fun h e => by cases h <;> cases e; rfl⟩
instance : Od Bool := ⟨fun d => match d with | .bool i => some i | _ => none, fun h e => by cases h <;> cases e; rfl⟩
instance : Od Str := ⟨fun d => match d with | .str i => some i | _ => none, fun h e => by cases h <;> cases e; rfl⟩
instance : Od Dy := ⟨fun d => some ⟨d⟩, fun h e => by cases e; exact h⟩
def ofAll {α : Type} [Rp α] [Od α] : List PyData → Option (List α)
  | [] => some []
  | d :: ds => (Od.of d).bind fun x => (ofAll ds).bind fun xs => some (x :: xs)
theorem ofAll_un {α : Type} [Rp α] [Od α] {K : Fg} {H : Hp} : ∀ {ds : List PyData} {vs : List V} {xs : List α}, DqAll H vs ds → ofAll ds = some xs → Paired (rep K H) vs xs
  | [], _, _, h, e => by
    cases h
    cases e
    exact .nil
  | d :: ds, _, xs, h, e => by
    cases h with
    | cons h1 h2 =>
      obtain ⟨x, ex, e⟩ := bind_some e
      obtain ⟨ys, ey, e⟩ := bind_some e
      cases e
      exact .cons (Od.un h1 ex) (ofAll_un h2 ey)
instance {α : Type} [Rp α] [Od α] : Od (Tu α) where
  of d := match d with | .tuple ds => (ofAll ds).map Tu.mk | _ => none
  un h e := by
    cases h with
    | tup h1 h2 =>
      obtain ⟨xs, e1, rfl⟩ := Option.map_eq_some_iff.mp e
      exact ⟨_, _, rfl, h1, ofAll_un h2 e1⟩
    | _ => cases e
instance {α : Type} [Rp α] [Od α] : Od (List α) where
  of d := match d with | .list ds => ofAll ds | _ => none
  un h e := by
    cases h with
    | lst h1 h2 => exact ⟨_, _, rfl, h1, ofAll_un h2 e⟩
    | _ => cases e
instance : Os Unit := ⟨fun ds => match ds with | [] => some () | _ => none, fun h e => by cases h <;> cases e; rfl⟩
instance {α τ : Type} [Rp α] [Tp τ] [Od α] [Os τ] : Os (α × τ) where
  ofs ds := match ds with | [] => none | d :: ds => (Od.of d).bind fun x => (Os.ofs ds).bind fun t => some (x, t)
  un h e := by
    cases h with
    | nil => cases e
    | cons h1 h2 =>
      obtain ⟨x, ex, e⟩ := bind_some e
      obtain ⟨t, et, e⟩ := bind_some e
      cases e
      exact ⟨_, _, rfl, Od.un h1 ex, Os.un h2 et⟩
instance {α τ : Type} [Rp α] [Tp τ] [Od α] [Os τ] : Od (α × τ) where
  of d := match d with | .tuple ds => Os.ofs (τ := α × τ) ds | _ => none
  un h e := by
    cases h with
    | tup h1 h2 => exact ⟨_, _, rfl, h1, Os.un h2 e⟩
    | _ => cases e
def ofD {α : Type} [Rp α] [Od α] (x : Dy) : Option α := Od.of x.d
def upD {α : Type} [Rp α] [Ud α] (x : α) : Dy := ⟨Ud.toD x⟩
def eqYO (a b : Dy) : Option Bool := if SeqAt.shaped a.d = true ∧ SeqAt.shaped b.d = true then some (PyData.eqv a.d b.d) else none
section
variable {K : Fg} {F Kn0 : Hp} {sl sl' : List Sl} {ow ow1 : List Ow} {α β τ : Type} [Rp α] [Rp β] [Tp τ] {te tk : TE} {x : Dy}
theorem ev_of [Od α] {y : α} (h : EV K F Kn0 sl ow te x) (e : ofD x = some y) : EV K F Kn0 sl ow te y := fun σ Kn H s Q q => h σ Kn H s Q fun v Kn' H' g r => q v Kn' H' g (Od.un r e)
theorem ev_up [Ud α] {y : α} (h : EV K F Kn0 sl ow te y) : EV K F Kn0 sl ow te (upD y) := fun σ Kn H s Q q => h σ Kn H s Q fun v Kn' H' g r => q v Kn' H' g (Ud.is r)
theorem em_up [Ud α] {y : α} (h : EM K F Kn0 sl ow te ow1 y) : EM K F Kn0 sl ow te ow1 (upD y) := fun σ Kn H s Q q => h σ Kn H s Q fun v Kn' H' e s' r => q v Kn' H' e s' (Ud.is r)
/-- a list, where a list is read -/
theorem ev_fz {xs : List α} (h : EV K F Kn0 sl ow te xs) : EV K F Kn0 sl ow te (Fz.mk xs) := fun σ Kn H s Q q => h σ Kn H s Q fun v Kn' H' g r => by
  obtain ⟨p, vs, rfl, h1, h2⟩ := r
  exact q _ Kn' H' g ⟨p, vs, rfl, sq_of h1, h2⟩
theorem r2_eqY {a b : Dy} {c : Bool} (h : eqYO a b = some c) : R2V K (rEqD K) a b c := fun Kn H v w ek h1 h2 Q q => by
  unfold eqYO at h
  split at h
  case isFalse => cases h
  rename_i hb
  cases h
  exact ⟨a.d, b.d, dp_mono ek (Dq.dp h1), dp_mono ek (Dq.dp h2), hb.1, hb.2, q.fl ek⟩
theorem r2_neY {a b : Dy} {c : Bool} (h : eqYO a b = some c) : R2V K (rNeD K) a b (!c) := fun Kn H v w ek h1 h2 Q q => by
  unfold eqYO at h
  split at h
  case isFalse => cases h
  rename_i hb
  cases h
  exact ⟨a.d, b.d, dp_mono ek (Dq.dp h1), dp_mono ek (Dq.dp h2), hb.1, hb.2, q.fl ek⟩
/-- D[k], D a dict of the module -/
theorem ev_kd {w : World} {p : Addr} {tab : List (Str × Str)} {k z : Str} (ht : ∀ kv ∈ tab, KDct K w p kv.1 (.str kv.2)) (hk : EV K F Kn0 sl ow tk k) (hz : getD tab k = some z) : EV K F Kn0 sl ow (tOp (rIxD K w) (tC (.ref p)) tk) z := fun σ Kn H s Q q =>
  hk σ Kn H s _ fun v Kn1 H1 g1 r1 => by
    cases r1
    unfold getD at hz
    obtain ⟨kv, hf, rfl⟩ := Option.map_eq_some_iff.mp hz
    have hk2 := List.find?_some hf
    rw [decide_eq_true_eq] at hk2
    have := ht kv (List.mem_of_find?_eq_some hf)
    rw [hk2] at this
    exact ⟨p, _, _, rfl, rfl, this, q _ Kn1 H1 g1 rfl⟩
theorem k_ixkd {X : Cx} {w : World} (h : X.K = K := by rfl) (hw : X.w = w := by rfl) : IxR X (rIxD K w) := by
  subst h
  subst hw
  exact ix_kdict


end
theorem fnok_none {P : Program} {w : World} {K : Fg} {mg : Str → Option Value} {base : Heap} {CX : CXT} {k : Nat} {f : Addr} {fd : FuncData} {ps : List Str} {τ α : Type} [Tp τ] [Rp α] : FnOk P w K mg base CX k f fd ps (PF K (fun _ : τ => (none : Option α))) := by
  refine ⟨fun vs H Q E h => ?_, fun A outer s H args us vs Q E hr he hb hv h => ?_⟩
  · obtain ⟨_, _, _, _, _, h, _⟩ := h
    cases h
  · obtain ⟨_, _, _, _, _, h, _⟩ := h
    cases h
theorem fnok_noneL {P : Program} {w : World} {K : Fg} {mg : Str → Option Value} {base : Heap} {CX : CXT} {k : Nat} {f : Addr} {fd : FuncData} {ps : List Str} {τ α : Type} [Tp τ] [Rp α] : FnOk P w K mg base CX k f fd ps (PL K (fun _ : τ => (none : Option (List α)))) := by
  refine ⟨fun vs H Q E h => ?_, fun A outer s H args us vs Q E hr he hb hv h => ?_⟩
  · obtain ⟨_, _, _, _, _, h, _⟩ := h
    cases h
  · obtain ⟨_, _, _, _, _, h, _⟩ := h
    cases h
end Wk
/-! Wupd: dict(pairs) and d.update(d2) with tuple keys. -/
namespace L2
open PySem PySem.Spec PyProof.Rows
def mergeT (kvs more : List (List Key × V)) : List (List Key × V) := more.foldl (fun acc kv => putK acc kv.1 kv.2) kvs
theorem length_mergeT : ∀ (more kvs : List (List Key × V)), (mergeT kvs more).length ≤ kvs.length + more.length
  | [], kvs => Nat.le_refl _
  | p :: r, kvs => by
    have h1 := length_mergeT r (putK kvs p.1 p.2)
    have h2 := length_putK kvs p.1 p.2
    show (mergeT (putK kvs p.1 p.2) r).length ≤ _
    rw [List.length_cons]
    omega
theorem KT.merge {H : Hp} : ∀ {more : List (List Key × V)} {ms : List (List Key × Addr × Value)} {kvs : List (List Key × V)} {xs : List (List Key × Addr × Value)}, KT H more ms → KT H kvs xs → KT H (mergeT kvs more) (storedAllH xs ms) := by
  intro more ms kvs xs r
  unfold KT at r
  induction r generalizing kvs xs with
  | nil => intro q; exact q
  | @cons p q ps qs h t ih =>
    intro r0
    have e : KT H (putK kvs p.1 p.2) (storedH xs q.1 q.2.1 q.2.2) := by
      have := r0.put p.1 h.2.1 h.2.2
      rw [← h.1]
      exact this
    exact ih e
section
variable {X : Cx} {pins : List (Addr × Obj)} {σ : St} {H : Hp} {s : Shared}
theorem pairsT_of (I : Inv X pins σ H s) : ∀ {ps : List Addr} {kvs : List (List Key × V)}, Paired (fun p kv => ∃ b, SqT X.K H p [.ref b, kv.2] ∧ H b = some (.tup (kv.1.map kV))) ps kvs →
    ∃ ms : List (List Key × Addr × Value), KT H kvs ms ∧ ms.length = ps.length ∧ ∀ (j : Nat) (m : List Key × Addr × Value), ms[j]? = some m → ∃ p : Addr, ps[j]? = some p ∧ IsTup s.heap p #[.ref m.2.1, m.2.2]
  | _, _, .nil => ⟨[], .nil, rfl, fun j q e => by simp at e⟩
  | _, _, .cons (a := p) (b := kv) h t => by
    obtain ⟨ms, r, hl, hp⟩ := pairsT_of I t
    obtain ⟨b, h1, h2⟩ := h
    obtain ⟨its, rv, ht, _⟩ := I.tuple h1
    obtain ⟨u, y, ei, ru, ry⟩ := vals2 rv
    subst ei
    cases ru
    refine ⟨(kv.1, b, y) :: ms, .cons ⟨rfl, h2, ry⟩ r, by rw [List.length_cons, List.length_cons, hl], fun j m e => ?_⟩
    cases j with
    | zero =>
      have e' : (kv.1, b, y) = m := Option.some.inj e
      subst e'
      exact ⟨p, rfl, ht⟩
    | succ j =>
      obtain ⟨p', e1, e2⟩ := hp j m (by simpa using e)
      exact ⟨p', by simpa using e1, e2⟩
theorem KT.is_all (I : Inv X pins σ H s) : ∀ {kvs : List (List Key × V)} {ms : List (List Key × Addr × Value)}, KT H kvs ms → ∀ x ∈ ms, (tupleKind (mixKind X.prog X.w)).is s.heap x.1 x.2.1 := by
  intro kvs ms q
  unfold KT at q
  induction q with
  | nil => intro x hx; exact nomatch hx
  | @cons p q ps qs hq t ih =>
    intro x hx
    rcases List.mem_cons.mp hx with e | hx
    · subst e
      exact key_of I.hok (by rw [← hq.1]; exact hq.2.1)
    · exact ih x hx
theorem key_stays {P : Program} {w : World} {h h' : Heap} {k : List Key} {b : Addr} (x : (tupleKind (mixKind P w)).is h k b) (e : ∀ o, h.get? b = some o → h'.get? b = some o) : (tupleKind (mixKind P w)).is h' k b := by
  obtain ⟨o, its, n, h1, h2, h3, h4⟩ := x
  exact ⟨o, its, n, e _ h1, h2, h3, h4⟩
theorem key_there {P : Program} {w : World} {h : Heap} {k : List Key} {b : Addr} (x : (tupleKind (mixKind P w)).is h k b) : b < h.objs.size := by
  obtain ⟨o, its, n, h1, h2, h3, h4⟩ := x
  exact Heap.lt_size h1
end
section
variable {X : Cx}
/-- dict(xs), xs a list of pairs whose keys are tuples -/
def rDictT (K : PySem.W.Frag) : List V → Hp → VK → Prop := fun xs H Q => ∃ (a : Addr) (ps : List Addr) (kvs : List (List Key × V)), xs = [.ref a] ∧ SqL K H a (ps.map V.ref) ∧ Paired (fun p kv => ∃ b, SqT K H p [.ref b, kv.2] ∧ H b = some (.tup (kv.1.map kV))) ps kvs ∧
    ∀ p, H p = none → Q (.ref p) (upd H p (.dT (mergeT [] kvs)))
theorem cr_dictT (hcalm : X.calm = true) (hu : X.A.units + 64 < cLine) : CallR X (.type "dict") (rDictT X.K) := by
  intro pins s σ H xs us Q I r q
  obtain ⟨a, ps, kvs, ex, hq, hp, q⟩ := q
  subst ex
  rw [Vals.ref1 r]
  obtain ⟨its, rv, pl, hz⟩ := I.list hq
  have ei := refs_at rv
  subst ei
  rw [List.length_map] at hz
  obtain ⟨ms, rel, hl, hpr⟩ := pairsT_of I hp
  obtain ⟨o, n, ho, hc, hd, hdat⟩ := pl
  have hall := KT.is_all I rel
  have hprs : (ms.map fun m => ((Value.ref m.2.1, m.2.2) : Value × Value)).length = ms.length := List.length_map _
  refine call_dict_pairsH (knd := tupleKind (mixKind X.prog X.w)) (ps := ms) (PairArg.list a (ps.map Value.ref).toArray (fun j => ps.getD j 0) (ms.map fun m => ((Value.ref m.2.1, m.2.2) : Value × Value))) (I.ok.hd hcalm)
    (show X.A.units + 1 + 1 < cLine by omega) ⟨⟨o, n, ho, hc, hd, hdat⟩, by simp [hl], fun j k v e => ?_⟩ ⟨by rw [hprs], fun i key v e => ?_⟩ (fun h' hk x hx => ?_) (by rw [hprs, hl]; exact hz) fun h' tk dd' k => ?_
  · rw [List.getElem?_map] at e
    cases em : ms[j]? with
    | none => rw [em] at e; cases e
    | some m =>
      rw [em] at e
      cases e
      obtain ⟨p, e1, e2⟩ := hpr j m em
      have eg : ps.getD j 0 = p := by rw [List.getD_eq_getElem?_getD, e1]; rfl
      refine ⟨by simp [e1], ?_⟩
      show PairAt s.heap (ps.getD j 0) _ _
      rw [eg]
      exact .inl e2
  · have e : (ms.map fun m => ((Value.ref m.2.1, m.2.2) : Value × Value))[i]? = some (key, v) := e
    rw [List.getElem?_map] at e
    cases em : ms[i]? with
    | none => rw [em] at e; cases e
    | some m =>
      rw [em] at e
      cases e
      exact ⟨m.1, m.2.1, rfl, rfl⟩
  · exact key_stays (hall x hx) fun o e => hk _ o (Nat.ne_of_lt (key_there (hall x hx))) (by simp) e
  · have hm : (s.heap.objs.size == sysModules) = false := beq_eq_false_iff_ne.mpr (Nat.ne_of_gt I.big)
    have hlen : (mergeT [] kvs).length ≤ sizeLine := by
      refine Nat.le_trans (length_mergeT kvs []) ?_
      rw [List.length_nil, Nat.zero_add, Paired.length rel, hl]
      exact hz
    have hf : H s.heap.objs.size = none := I.hok.fresh (Nat.le_refl _)
    obtain ⟨ob, es, ep, hq2, h2, h3, h4, _, h5⟩ := dd'
    have rel2 : KT (upd H s.heap.objs.size (.dT (mergeT [] kvs))) (mergeT [] kvs) (storedAllH [] ms) := (KT.merge rel .nil).keeps fun b ys e => by
      rw [upd_ne (ne_of_none e hf)]
      exact e
    exact ⟨.ref s.heap.objs.size, upd H s.heap.objs.size (.dT (mergeT [] kvs)), I.laid (t' := tk) (fun b o e => k b o (by simp) e) (Nat.le_refl _) ⟨hlen, hm, _, rel2, ob, es, ep, hq2, h2, h3, h4, h5⟩, rfl, q _ hf⟩
/-- d.update(d2), both with tuple keys -/
def rUpdT (P : Program) (w : World) : V → List V → Hp → VK → Prop := fun x xs H Q => ∃ (a o : Addr) (kvs more : List (List Key × V)), x = .ref a ∧ xs = [.ref o] ∧ H a = some (.dT kvs) ∧ H o = some (.dT more) ∧ a ≠ o ∧ kvs.length + more.length ≤ sizeLine ∧
  (kvs ≠ [] ∨ (more.map fun kv => tupleKeyHash (mixKind P w) kv.1).Nodup) ∧ Q .non (upd H a (.dT (mergeT kvs more)))
theorem mt_updT (hu : X.A.units + 64 < cLine) : MtR X "dict.update" (rUpdT X.prog X.w) := by
  intro pins s σ H x xs v us Q I rx rxs h
  obtain ⟨a, o, kvs, more, rfl, rfl, ha, ho, hao, hsz, hap, q⟩ := h
  cases rx
  rw [Vals.ref1 rxs]
  obtain ⟨z1, hd1, xs1, rel1, dd1⟩ := dt_of I.hok ha
  obtain ⟨z2, hd2, xs2, rel2, dd2⟩ := dt_of I.hok ho
  have l1 := Paired.length rel1
  have l2 := Paired.length rel2
  have hall := KT.is_all I rel2
  refine call_update_dictH (knd := tupleKind (mixKind X.prog X.w)) (show X.A.units + 1 < cLine by omega) hao hd2 dd1 dd2 ?_ (by rw [← l1, ← l2]; exact hsz) fun h' dd' _ hs => ?_
  · rcases hap with h | h
    · refine .inl fun e => h ?_
      rw [e] at l1
      exact List.length_eq_zero_iff.mp l1
    · refine .inr ⟨fun x hx => IsTupleKey.typeIs (hall x hx), ?_⟩
      have e : xs2.map (fun x => (tupleKind (mixKind X.prog X.w)).hash x.1) = more.map fun kv => tupleKeyHash (mixKind X.prog X.w) kv.1 := by
        clear h hsz l1 l2 hall dd2 ho q z2
        unfold KT at rel2
        induction rel2 with
        | nil => rfl
        | cons h t ih =>
          rw [List.map_cons, List.map_cons, ih, h.1]
          rfl
      rw [e]
      exact h
  · have hlen : (mergeT kvs more).length ≤ sizeLine := Nat.le_trans (length_mergeT more kvs) hsz
    obtain ⟨ob, es, ep, hq2, h2, h3, h4, _, h5⟩ := dd'
    have rel3 : KT (upd H a (.dT (mergeT kvs more))) (mergeT kvs more) (storedAllH xs1 xs2) := (KT.merge rel2 rel1).keeps fun c ys ec => by
      rw [upd_ne (ne_of ec ha (fun z => nomatch z))]
      exact ec
    exact ⟨.non, upd H a (.dT (mergeT kvs more)), d_write (ob := .dT (mergeT kvs more)) (t' := s.toks) I (by rw [ha]; exact True.intro) hs ⟨ob, hq2⟩ ⟨hlen, hd1, _, rel3, ob, es, ep, hq2, h2, h3, h4, h5⟩, rfl, q⟩
end
end L2
namespace Wk
open PySem PySem.Spec L2 Evl
abbrev C2 := Int × Int × Unit
def hash2 (x : C2) : Int := reduceHash (Builtin.Tuple.tupleHashOf [hashInt x.1, hashInt x.2.1])
def prs {β : Type} (more : List (C2 × β × Unit)) : List (C2 × β) := more.map fun t => (t.1, t.2.1)
open Classical in
noncomputable def updO {β : Type} (d : Dc C2 β) (more : List (C2 × β × Unit)) : Option (Dc C2 β) :=
  if d.l.length + more.length ≤ 900000 ∧ (d.l ≠ [] ∨ ((mergeD [] (prs more)).map fun t => hash2 t.1).Nodup) then some ⟨mergeD d.l (mergeD [] (prs more))⟩ else none
section
variable {K : Fg} {F Kn0 : Hp} {sl : List Sl} {ow ow1 : List Ow} {β : Type} [Rp β] {te : TE} {D : Ends} {i j : Nat} {p : Addr} {P : Program} {w : World}
theorem prs_of {Kn H : Hp} (e : Ex Kn H) : ∀ {vs : List V} {more : List (C2 × β × Unit)}, Paired (rep K Kn) vs more → ∃ (ps : List Addr) (kvs : List (List Key × V)), vs = ps.map V.ref ∧
    Paired (fun p kv => ∃ b, SqT K H p [.ref b, kv.2] ∧ H b = some (.tup (kv.1.map kV))) ps kvs ∧ DK (κ := C2) K Kn kvs (prs more)
  | _, _, .nil => ⟨[], [], rfl, .nil, .nil⟩
  | _, _, .cons (a := v) (b := t) h r => by
    obtain ⟨ps, kvs, e1, e2, e3⟩ := prs_of e r
    obtain ⟨q, ws, rfl, hq, kv, rest, rfl, hk, yv, rest2, rfl, hy, hu⟩ := h
    cases hu
    obtain ⟨b, us, rfl, hb, h3⟩ := hk
    have hus : us = (KT1.keys t.1).map kV := KT1.iff (τ := C2) h3
    subst hus
    refine ⟨q :: ps, (KT1.keys t.1, yv) :: kvs, by rw [e1]; rfl, .cons ⟨b, st_of (e _ _ hq), e _ _ hb⟩ e2, .cons ⟨rfl, hy⟩ e3⟩
theorem DK.mergeT {Kn : Hp} : ∀ {ms : List (List Key × V)} {more : List (C2 × β)} {ws : List (List Key × V)} {kvs : List (C2 × β)}, DK (κ := C2) K Kn ms more → DK (κ := C2) K Kn ws kvs → DK (κ := C2) K Kn (L2.mergeT ws ms) (mergeD kvs more) := by
  intro ms more ws kvs h
  unfold DK at h
  induction h generalizing ws kvs with
  | nil => exact fun h => h
  | @cons w kv ms more h t ih =>
    intro q
    refine ih ?_
    show DK (κ := C2) K Kn (putK ws w.1 w.2) (putD kvs kv.1 kv.2)
    rw [h.1]
    exact DK.put kv.1 h.2 q
theorem DK.hash {Kn : Hp} : ∀ {ms : List (List Key × V)} {more : List (C2 × β)}, DK (κ := C2) K Kn ms more → (ms.map fun kv => tupleKeyHash (mixKind P w) kv.1) = more.map fun t => hash2 t.1 := by
  intro ms more h
  unfold DK at h
  induction h with
  | nil => rfl
  | cons h t ih =>
    rw [List.map_cons, List.map_cons, ih, h.1]
    rfl
theorem sb_upd {d d' : Dc C2 β} {more : List (C2 × β × Unit)} (hi : sl[i]? = some (.at p)) (hj : ow[j]? = some (oo p d)) (h : EV K F Kn0 sl ow te more) (hx : updO d more = some d') (ho : ow.set j (oo p d') = ow1) (n : SN K F Kn0 sl ow1 D) :
    SB K F Kn0 sl ow D (tDrop (tBM K "dict" (rUpdT P w) (tVar i) (tCons (tCB (rDictT K) (tCons te tNil)) tNil))) := fun σ Kn H s => by
  obtain ⟨o, h1, h2⟩ := s.sl.get hi
  obtain ⟨f1, f2, o1, f3, ws, f4, f5⟩ := s.ow.each _ (List.mem_of_getElem? hj)
  subst f4
  have f3 : H p = some (.dT ws) := f3
  unfold updO at hx
  split at hx
  · case isTrue hc =>
    cases hx
    subst ho
    refine ⟨.ref p, by rw [h1]; exact congrArg some h2, .inr (.inr (.inl ⟨rfl, .inr ⟨ws, f3⟩⟩)), h σ Kn H s _ fun v Kn1 H1 g1 r1 => ?_⟩
    obtain ⟨a, vs, rfl, ha, hv⟩ := r1
    obtain ⟨ps, kvs, rfl, e2, e3⟩ := prs_of g1.kh hv
    refine ⟨a, ps, kvs, rfl, sq_of (g1.kh _ _ ha), e2, fun p2 hp2 => ?_⟩
    have s1 := s.grow g1
    have g2 : Gr Kn1 H1 Kn1 (upd H1 p2 (.dT (L2.mergeT [] kvs))) := Gr.newU g1.kh hp2
    have s2 := s1.grow g2
    have hp1 : H1 p = some (.dT ws) := g1.hh _ _ f3
    have hne : p ≠ p2 := fun z => by
      rw [z, hp2] at hp1
      cases hp1
    have hH2 : (upd H1 p2 (.dT (L2.mergeT [] kvs))) p = some (.dT ws) := by
      rw [upd_ne hne]
      exact hp1
    have f6 : DK (κ := C2) K Kn1 ws d.l := DK.mono g1.kk f5
    have e4 : DK (κ := C2) K Kn1 (L2.mergeT [] kvs) (mergeD [] (prs more)) := DK.mergeT e3 .nil
    have l1 : ws.length = d.l.length := f6.length
    have l2 : kvs.length = more.length := by
      rw [e3.length]
      exact List.length_map _
    have l3 := length_mergeT kvs []
    rw [List.length_nil] at l3
    have kp : Kn1 p = none := g1.sp p (ne_none_of f3) f2
    refine ⟨p, p2, ws, L2.mergeT [] kvs, rfl, rfl, hH2, upd_same, hne, ?_, ?_, n _ Kn1 _ ?_⟩
    · have hs : sizeLine ≥ 1000000 := by rw [sizeLine_eq]; decide
      omega
    · rcases hc.2 with hc | hc
      · refine .inl fun z => hc ?_
        rw [z] at l1
        exact List.length_eq_zero_iff.mp l1.symm
      · refine .inr ?_
        rw [DK.hash e4]
        exact hc
    · exact s2.writeG hj rfl rfl (Ex.refl _) (upd_in s2.ek kp) (fun q hq _ => upd_ne hq) (fun _ _ h => h) ⟨_, upd_same, _, rfl, DK.mergeT e4 f6⟩
  · cases hx
end
section
variable {X : Cx} {K : Fg} {P : Program} {w : World}
theorem k_dictT (hu : X.A.units + 64 < cLine) (hc : X.calm = true := by rfl) (h : X.K = K := by rfl) : CallR X (.type "dict") (rDictT K) := by
  subst h
  exact cr_dictT hc hu
theorem k_updT (hu : X.A.units + 64 < cLine) (h : X.prog = P := by rfl) (hw : X.w = w := by rfl) : MtR X "dict.update" (rUpdT P w) := by
  subst h
  subst hw
  exact mt_updT hu
end
end Wk
namespace Wk
open PySem PySem.Spec L2 Evl
/-- a list with a None put behind -/
structure Nx (α : Type) where
  l : List α
section
variable {K : Fg} {F Kn0 : Hp} {sl : List Sl} {ow ow1 : List Ow} {α γ : Type} [Rp α] [Rp γ] {te : TE} {D : Ends} {i j : Nat} {p : Addr}
instance obNx : Ob (Nx α) where
  ob K H o x := ∃ ws, o = .lst (ws ++ [.non]) ∧ Paired (rep K H) ws x.l
  swap e h := by
    obtain ⟨ws, h1, h2⟩ := h
    exact ⟨ws, h1, paired_swap e h2⟩
theorem sb_appN {xs : List α} (hi : sl[i]? = some (.at p)) (hj : ow[j]? = some (ol p xs)) (h : EV K F Kn0 sl ow te Nn.nn) (hz : (if xs.length < 1000000 then some () else none) = some ()) (ho : ow.set j (oo p (Nx.mk xs)) = ow1) (k : SN K F Kn0 sl ow1 D) :
    SB K F Kn0 sl ow D (tDrop (tBM K "list" rAppend (tVar i) (tCons te tNil))) := fun σ Kn H s => by
  obtain ⟨o, h1, h2⟩ := s.sl.get hi
  obtain ⟨f1, f2, ws, f3, f4⟩ := s.ow.each _ (List.mem_of_getElem? hj)
  have hz : xs.length < 1000000 := by
    by_cases e : xs.length < 1000000
    · exact e
    · rw [if_neg e] at hz
      cases hz
  refine ⟨.ref p, by rw [h1]; exact congrArg some h2, Or.inl ⟨rfl, ws, sq_of f3⟩, h σ Kn H s _ fun v Kn1 H1 g1 r1 => ?_⟩
  cases r1
  refine ⟨p, ws, .non, rfl, rfl, g1.hh _ _ f3, by rw [paired_len f4]; exact lt_line hz, k _ Kn1 _ ?_⟩
  have kp1 : Kn1 p = none := g1.sp p (ne_none_of f3) f2
  subst ho
  exact (s.grow g1).writeG hj rfl rfl (Ex.refl _) (upd_in g1.kh kp1) (fun q hq _ => upd_ne hq) (fun _ _ h => h) ⟨_, upd_same, ws, rfl, paired_mono g1.kk f4⟩
theorem cut_snoc (ws : List V) (v : V) : cut (ws ++ [v]) none (some (-(1 : Int))) = ws := by
  unfold cut
  rw [HT.sIx_none, List.drop_zero, Nat.sub_zero]
  have e : HT.sIx (ws ++ [v]).length (ws ++ [v]).length (some (-(1 : Int))) = (-(1 : Int) + ((ws ++ [v]).length : Int)).toNat := rfl
  rw [e, List.length_append, List.length_singleton, show (-(1 : Int) + ((ws.length + 1 : Nat) : Int)).toNat = ws.length by omega]
  exact List.take_left
theorem en_slN {xs : List α} {tl th : TO} (hx : sl[i]? = some (.at p)) (hj : ow[j]? = some (oo p (Nx.mk xs))) (hl : EO K F Kn0 sl ow tl none) (hh : EO K F Kn0 sl ow th (some (-(1 : Int)))) : EN K F Kn0 sl ow (tSl (rSlL K) (tVar i) tl th) xs := fun σ Kn H s Q q => by
  obtain ⟨o, h1, h2⟩ := s.sl.get hx
  obtain ⟨f1, f2, o1, f3, ws, f4, f5⟩ := s.ow.each _ (List.mem_of_getElem? hj)
  subst f4
  have f3 : H p = some (.lst (ws ++ [.non])) := f3
  refine ⟨.ref p, by rw [h1]; exact congrArg some h2, hl σ Kn H s _ fun Kn2 H2 g2 => hh σ Kn2 H2 (s.grow g2) _ fun Kn3 H3 g3 => ?_⟩
  have g := g2.trans g3
  refine ⟨p, ws ++ [.non], rfl, sq_of (g.hh _ _ f3), fun l hl => ?_⟩
  have e : cutV (ws ++ [V.non]) none (some (-(1 : Int))) = ws := cut_snoc ws .non
  exact q l _ Kn3 _ (g.trans (Gr.newU g3.kh hl)) (fresh_back g.hh hl) (fresh_back g3.kh hl) upd_same (by rw [e]; exact paired_mono g.kk f5)
end
end Wk
namespace Wk
open PySem PySem.Spec L2 Evl
/-- more is untouched -/
def Fle (F F' : Hp) : Prop := Ex F F'
section
variable {K : Fg} {F F' Kn0 : Hp} {sl sl' : List Sl} {ow ow0 ow1 : List Ow} {α γ : Type} [Rp α] [Rp γ] {D : Ends} {i j : Nat} {p : Addr}
theorem S.back {σ : L2.St} {Kn H : Hp} (f : Fle F F') (s : S K F' Kn0 sl ow σ Kn H) : S K F Kn0 sl ow σ Kn H :=
  ⟨s.e0, s.ek, Ex.trans f s.ef, fun q h1 h2 => s.sep q (Ex.nn f h1) h2, s.sl, ⟨fun o ho => by
    obtain ⟨h1, h2, h3⟩ := s.ow.each o ho
    exact ⟨fresh_back f h1, h2, h3⟩, s.ow.nd⟩⟩
theorem RT.fr {R : VK} {x : γ} (f : Fle F F') (q : RT K F Kn0 ow0 R x) : RT K F' Kn0 ow0 R x := fun v Kn H s r => q v Kn H (s.back f) r
theorem RN.fr {R : VK} {xs : List γ} (f : Fle F F') (q : RN K F Kn0 ow0 R xs) : RN K F' Kn0 ow0 R xs := fun p ws Kn H s fp kp hp r => q p ws Kn H (s.back f) (fresh_back f fp) kp hp r
/-- for x in xs, xs one's own, not touched on the way and one's own behind it -/
theorem sb_forO {g : TG} {tb : TS} {Sx : Type} {xs : List α} (hi : sl[i]? = some (.at p)) (hj : ow[j]? = some (ol p xs)) (ho : ow.eraseIdx j = ow1)
    (slx : Sx → List Sl) (owx : Sx → List Ow) (gx : α → Sx → List Sl) (js : List Nat) (P : List α → Sx → Prop) (s0 : Sx) (h0 : P xs s0) (le : SlLe sl (slx s0)) (eo : (owx s0).Sublist ow1)
    (hg : ∀ x s, GT K g (slx s) (gx x s) js x)
    (step : ∀ F', Fle F F' → ∀ Kn1, Bs F' Kn0 Kn1 → ∀ x rest s, P (x :: rest) s → ∀ N : L2.St → Hp → Prop, (∀ s', P rest s' → ∀ σ Kn H, S K F' Kn1 (slx s') (owx s') σ Kn H → N σ H) → SB K F' Kn1 (gx x s) (owx s) { D with nx := N, ct := N, bk := D.nx } tb)
    (done : ∀ s, P [] s → SN K F Kn0 (slx s) (ol p xs :: owx s) D) : SB K F Kn0 sl ow D (tFor (iList K (tVar i)) g tb) := fun σ Kn H s => by
  obtain ⟨o, h1, h2⟩ := s.sl.get hi
  obtain ⟨f1, f2, ws, f3, f4⟩ := s.ow.each _ (List.mem_of_getElem? hj)
  have f1 : F p = none := f1
  have f2 : Kn p = none := f2
  have fl : Fle F (upd F p (.lst ws)) := Ex.new f1
  have s1 := s.sub (List.eraseIdx_sublist ow j)
  have no : ∀ o ∈ ow.eraseIdx j, o.ad ≠ p := fun o hm z => by
    obtain ⟨m, hm'⟩ := List.getElem?_of_mem hm
    rw [List.getElem?_eraseIdx] at hm'
    split at hm'
    · have := ow_at s.ow.nd hm' hj z
      omega
    · have := ow_at s.ow.nd hm' hj z
      omega
  have s2 : S K (upd F p (.lst ws)) Kn0 sl (ow.eraseIdx j) σ Kn H := ⟨s1.e0, s1.ek, fun a u h => by
    by_cases hq : a = p
    · subst hq
      rw [upd_same] at h
      rw [← h]
      exact f3
    · rw [upd_ne hq] at h
      exact s1.ef _ _ h, fun q h1 h2 => by
    by_cases hq : q = p
    · rw [hq]
      exact f2
    · rw [upd_ne hq] at h1
      exact s1.sep q h1 h2, s1.sl, ⟨fun o ho => by
        obtain ⟨a1, a2, a3⟩ := s1.ow.each o ho
        refine ⟨?_, a2, a3⟩
        rw [upd_ne (no o ho)]
        exact a1, s1.ow.nd⟩⟩
  have b : Bs (upd F p (.lst ws)) Kn0 Kn := s2.bs
  refine ⟨.ref p, by rw [h1]; exact congrArg some h2, p, rfl, ⟨ws, sq_of f3⟩, ?_⟩
  refine ⟨fun i m σ H => i + m = xs.length ∧ ∃ Kn2 s, P (xs.drop i) s ∧ S K (upd F p (.lst ws)) Kn (slx s) (owx s) σ Kn2 H, ⟨xs.length, by omega, Kn, s0, h0, (s2.rebase.le le).sub (ho ▸ eo)⟩, fun i m σ H hW => ?_⟩
  obtain ⟨em, Kn2, st, hP, hS⟩ := hW
  have hp2 : H p = some (.lst ws) := hS.ef _ _ upd_same
  have f5 : Paired (rep K Kn2) ws xs := paired_mono hS.e0 f4
  by_cases hlt : i < xs.length
  · have hx : xs[i]? = some xs[i] := List.getElem?_eq_getElem hlt
    have hd : xs.drop i = xs[i] :: xs.drop (i + 1) := List.drop_eq_getElem_cons hlt
    rw [hd] at hP
    obtain ⟨v, hv, rv⟩ := paired_at f5 hx
    refine .inr ⟨⟨ws, v, sq_of hp2, hv⟩, fun σ' H' => ∃ Kn2 s, P (xs.drop (i + 1)) s ∧ S K (upd F p (.lst ws)) Kn (slx s) (owx s) σ' Kn2 H', fun σ' H' ⟨Kn', s', h1, h2⟩ => ⟨m - 1, by omega, by omega, Kn', s', h1, h2⟩, fun u H' hy => ?_⟩
    obtain ⟨rfl, f⟩ := hy
    have : v = u := Option.some.inj (hv.symm.trans (f ws (sq_of hp2)))
    subst this
    refine hg _ st σ Kn2 H' v hS.sl hS.ek rv _ fun σ2 h2 _ => ?_
    exact step _ fl Kn b _ _ st hP _ (fun s' hs' σ Kn2 H hS' => ⟨Kn2, s', hs', hS'⟩) σ2 Kn2 H' ⟨hS.e0, hS.ek, hS.ef, hS.sep, h2, hS.ow⟩
  · have hd : xs.drop i = [] := List.drop_eq_nil_of_le (by omega)
    rw [hd] at hP
    refine .inl ⟨⟨ws, sq_of hp2, by rw [paired_len f5]; omega⟩, done st hP σ Kn2 H ?_⟩
    have s3 := (hS.unbase b).back fl
    refine s3.own f1 (hS.sep p (by rw [upd_same]; exact fun z => nomatch z) f2) (fun o ho z => ?_) hp2 f5
    have := (hS.ow.each o ho).1
    rw [z, upd_same] at this
    cases this
end
end Wk
set_option maxHeartbeats 4000000
/-! Wexc: a def that may raise; raise C(e, ..); try: .. except C as e: ..; e.f, isinstance(e, T) in the suite -/
namespace L2
open PySem PySem.Spec PyProof.Rows
section
variable {X : Cx} {e : Expr} {es : List Expr} {ta : TA} {p1 p2 pos : Pos}
/-- B.__init__(self, ..), B a class of the program over ValueError without an __init__ of its own -/
theorem pe_cinit {x : Str} {C0 : Addr} {pl : Sem Bool} (hg : Gl X x) (hm : X.mg x = some (.ref C0)) (sg : PySem.W.specialIn X.K (.ref C0) "__getattribute__" = some (some (.builtin "type.__getattribute__"))) (rd : PySem.W.readsIn X.K C0 (.type "type") = true)
    (fc : PySem.W.findCls X.K (.ref C0) (.type "type") "__init__" = some (.val (.builtin "ValueError.__init__"))) (ha : PA X (e :: es) ta) (hdb : (x == ("__debug__" : Str)) = false := by decide)
    (hc : eval (.Call (.Attribute (.Name x p1) "__init__" p2) (e :: es) [] pos) X.env = (do
      let ov ← eval (.Name x p1) X.env
      standAt p2.atName
      let (f, first) ← holding [ov] (getMethod ov "__init__" pl)
      callWith pos f first (backTo pos (starEach (e :: es) X.env)) (backToKw pos (keywordEach [] X.env))) := by rfl)
    (he : starEach (e :: es) X.env = (false, eval e X.env) :: starEach es X.env := by rfl) (hpl : (backTo pos (starEach es X.env)).any (·.1) = false := by rfl) :
    PE X (.Call (.Attribute (.Name x p1) "__init__" p2) (e :: es) [] pos) (tVeI X.K ta) := by
  refine ⟨fun pins s σ H Q I h => ?_⟩
  refine PySem.W.methodCall_KW (ld_glob I hg hm ?_ hdb) hc
  refine PySem.W.method_cls I.kIn sg (PySem.W.cls_value I.kIn rd fc (by decide +kernel) ?_)
  show wpAny _ _ (callWith pos (Value.builtin "ValueError.__init__") [] (backTo pos (starEach (e :: es) X.env)) []) _ _ _
  refine PyProof.Rows.callWith_method1 (thn (ha.run pos pins _ σ H _ (I.tok _) h) fun us s1 ⟨vs, H1, I1, r1, a, C, ws, ev, hl, T, ea, q⟩ => ?_) he hpl
  subst ev
  cases r1 with
  | @cons _ u0 _ ur ra rw' =>
    obtain rfl : u0 = Value.ref a := ra
    have hlen : ur.length ≤ sizeLine := by
      rw [← Paired.length rw', sizeLine_eq]
      omega
    exact oinit_ok T I1 ea hlen fun s' J => ⟨.non, H1, J, rfl, q⟩
/-- isinstance(e, c), e the exception that the suite holds -/
def rIsX (K : PySem.W.Frag) (D a : Addr) (cls : Value) (d : Option Addr) : List V → Hp → VK → Prop := fun xs H Q => ∃ (c : V) (cv : Value) (b : Bool), xs = [.ref a, c] ∧ cls = .ref D ∧ (d = none ∨ ∃ dd fs, d = some dd ∧ H dd = some (.xd fs)) ∧ (∀ u, RelV c u → u = cv) ∧ PySem.W.kitOne K (.ref D) cv = some b ∧ Q (.bl b) H
theorem call_isX {a D : Addr} {oe : Obj} {cls : Value} {d : Option Addr} {pn : List (Addr × Obj)} (C : PySem.W.findIn X.K (.ref D) "__getattribute__" = some (some (.builtin "BaseException.__getattribute__")) ∧ PySem.W.findIn X.K (.ref D) "__getattr__" = some none ∧ PySem.W.subIn X.K (.ref D) (.type "BaseException") = some true ∧ PySem.W.isClsIn X.K D = true ∧
      PySem.W.findIn X.K (.ref D) "__class__" = some (some (.builtin "object.__class__")) ∧ PySem.W.specialIn X.K (.builtin "object.__class__") "__get__" = some (some (.builtin "getset_descriptor.__get__")) ∧ PySem.W.takesIn X.K (.builtin "object.__class__") = some true ∧ PySem.W.mroIn X.K D (.type "object") = some true)
    (hz : Zc cls d oe) (hf : ∃ vs, oe.data = .fields vs) : CallR (X.suite a ((a, oe) :: pn)) (.builtin "isinstance") (rIsX X.K D a cls d) := by
  intro pins s σ H xs us Q I r h
  obtain ⟨c, cv, b, rfl, rfl, hd, hcv, e, q⟩ := h
  obtain ⟨c1, c2, c3, c4, c5, c6, c7, c8⟩ := C
  cases r with
  | cons rx rr =>
    cases rr with
    | cons rt rr =>
      cases rr
      cases rx
      have ec := hcv _ rt
      subst ec
      obtain ⟨hget, _⟩ := I.pin (a, oe) (List.mem_append.mpr (.inl List.mem_cons_self))
      obtain ⟨vs, hv⟩ := hf
      have J : ∃ od, PySem.W.InstAt s.heap a oe D od := by
        rcases hd with rfl | ⟨dd, fs, rfl, hdd⟩
        · refine ⟨none, hget, hz.1, by unfold PySem.W.notCls; rw [hv] <;> rfl, ?_⟩
          rw [hz.2]
          trivial
        · have hx : ObjOk X.prog X.w H s.heap dd (.xd fs) := I.hok dd _ hdd
          obtain ⟨mA, hns, _⟩ := hx
          obtain ⟨od, ho, _⟩ := lookIn_ns hns
          refine ⟨some od, hget, hz.1, by unfold PySem.W.notCls; rw [hv] <;> rfl, ?_⟩
          rw [hz.2]
          exact ho
      obtain ⟨od, J⟩ := J
      exact PySem.W.kia_one (PySem.W.kitx_exc c4 c1 c2 c3 c5 c6 c7 c8) I.kIn J e (fun z => nomatch z) fun tk => ⟨.bl b, H, I.kept (t' := tk) fun _ _ z => z, rfl, q⟩
end
end L2
namespace Wk
open PySem PySem.Spec L2 Evl
structure Xc where
  cls : Str
  fl : List (Str × PyData)
/-- what a def that may raise tells -/
inductive Er (α : Type) where
  | ok (x : α)
  | ex (e : Xc)
abbrev FP (Kn : Hp) (fs : List (Str × V)) (fl : List (Str × PyData)) : Prop := Paired (fun p q => p.1 = q.1 ∧ Dq Kn p.2 q.2) fs fl
/-- an exception of the class cls with the dict d stands for e -/
def XR (cm : Str → Option Addr) (Kn : Hp) (e : Xc) (cls : Value) (d : Option Addr) : Prop :=
  ∃ C, cm e.cls = some C ∧ cls = .ref C ∧ ((e.fl = [] ∧ d = none) ∨ ∃ dd fs, d = some dd ∧ Kn dd = some (.xd fs) ∧ FP Kn fs e.fl)
theorem XR.swap {cm : Str → Option Addr} {H H' : Hp} {e : Xc} {cls : Value} {d : Option Addr} (w : Sw H H') (h : XR cm H e cls d) : XR cm H' e cls d := by
  obtain ⟨C, h1, h2, h3⟩ := h
  refine ⟨C, h1, h2, h3.imp id fun ⟨dd, fs, e1, e2, e3⟩ => ⟨dd, fs, e1, w.keep e2 (fun z => z) (fun _ _ z => nomatch z), Paired.mapP e3 fun _ _ q => ⟨q.1, q.2.swap w⟩⟩⟩
/-- the exception that a suite holds -/
structure Xv (cm : Str → Option Addr) (a : Addr) (cls : Value) (d : Option Addr) where
  e : Xc
instance {cm : Str → Option Addr} {a : Addr} {cls : Value} {d : Option Addr} : Rp (Xv cm a cls d) where
  rep _ H v x := v = .ref a ∧ XR cm H x.e cls d
  swap w h := ⟨h.1, h.2.swap w⟩
def xcls (e : Xc) (n : Str) : Option Unit := if e.cls = n then some () else none
def xfl (e : Xc) (n f : Str) : Option Dy := if e.cls = n then (e.fl.lookup f).map Dy.mk else none
theorem xcls_eq {e : Xc} {n : Str} {u : Unit} (h : xcls e n = some u) : e.cls = n := by
  unfold xcls at h
  split at h
  · assumption
  · cases h
theorem fp_lookup {Kn : Hp} : ∀ {fs : List (Str × V)} {fl : List (Str × PyData)} {f : Str} {y : PyData}, FP Kn fs fl → fl.lookup f = some y → ∃ v, fs.lookup f = some v ∧ Dq Kn v y
  | _, _, f, y, .nil, h => by cases h
  | (g, v) :: fs, (g2, z) :: fl, f, y, .cons h t, e => by
    obtain ⟨h1, h2⟩ := h
    have h1 : g = g2 := h1
    subst h1
    rw [lookup_put]
    by_cases hf : f = g
    · subst hf
      have : z = y := by
        simp [List.lookup] at e
        exact e
      subst this
      exact ⟨v, if_pos rfl, h2⟩
    · rw [if_neg hf]
      refine fp_lookup t ?_
      have e2 : (f == g) = false := by simpa using hf
      simpa [List.lookup, e2] using e
section
variable (K : Fg) (F Kn0 : Hp) (sl : List Sl) (ow : List Ow) (cm : Str → Option Addr)
def RX (E : XK) (e : Xc) : Prop := ∀ cls d Kn H, S K F Kn0 [] ow [] Kn H → XR cm Kn e cls d → E cls d H
def RE {α : Type} [Rp α] (R : VK) (E : XK) : Er α → Prop
  | .ok x => RT K F Kn0 ow R x
  | .ex e => RX K F Kn0 ow cm E e
/-- the expression raises e -/
def ER (W : WX) (te : TE) (e : Xc) : Prop := ∀ σ Kn H, S K F Kn0 sl ow σ Kn H → (∀ cls d Kn' H', S K F Kn0 sl ow σ Kn' H' → XR cm Kn' e cls d → W cls d σ H') → ∀ Q, te σ H Q
/-- what is wished of it -/
def RW (W : WX) (e : Xc) : Prop := ∀ σ Kn H cls d, S K F Kn0 sl ow σ Kn H → XR cm Kn e cls d → W cls d σ H
end
def PX {τ α : Type} [Tp τ] [Rp α] (K : Fg) (cm : Str → Option Addr) (f : τ → Option (Er α)) : Sp := fun vs H Q E => ∃ Kn t r, Ex Kn H ∧ rept K Kn vs t ∧ f t = some r ∧
  match r with
  | .ok x => RS K Kn H Q x
  | .ex e => ∀ cls d Kn' H', Gr Kn H Kn' H' → XR cm Kn' e cls d → E cls d H'
section
variable {K : Fg} {F F' Kn0 Kn1 : Hp} {sl sl' : List Sl} {ow ow0 ow1 : List Ow} {cm : Str → Option Addr} {α β τ : Type} [Rp α] [Rp β] [Tp τ] {D : Ends} {E : XK} {R : VK} {W : WX} {te tb : TE} {ta tr : TA} {e : Xc} {i : Nat}
theorem RX.base (q : RX K F Kn0 ow cm E e) (b : Bs F Kn0 Kn1) : RX K F Kn1 ow cm E e := fun cls d Kn H s x => q cls d Kn H (s.unbase b) x
theorem RX.fr (f : Fle F F') (q : RX K F Kn0 ow cm E e) : RX K F' Kn0 ow cm E e := fun cls d Kn H s x => q cls d Kn H (s.back f) x
theorem RE.base {r : Er α} (q : RE K F Kn0 ow cm R E r) (b : Bs F Kn0 Kn1) : RE K F Kn1 ow cm R E r := by
  cases r with
  | ok x => exact RT.base (R := R) q b
  | ex e => exact RX.base q b
theorem RE.fr {r : Er α} (q : RE K F Kn0 ow cm R E r) (f : Fle F F') : RE K F' Kn0 ow cm R E r := by
  cases r with
  | ok x => exact RT.fr (R := R) f q
  | ex e => exact RX.fr f q
theorem re_of {H Kn : Hp} {r : Er α} {Q : VK} (q : match r with | .ok x => RS K Kn H Q x | .ex e => ∀ cls d Kn' H', Gr Kn H Kn' H' → XR cm Kn' e cls d → E cls d H') : RE K H Kn [] cm Q E r := by
  cases r with
  | ok x => exact rt_of q
  | ex e => exact fun cls d Kn' H' s x => q cls d Kn' H' ⟨s.e0, s.ef, s.ek, s.sep⟩ x
/-- the dict of a new exception -/
theorem XR.mk {Kn : Hp} {C dd : Addr} {fs : List (Str × V)} (hc : cm e.cls = some C) (h : FP Kn fs e.fl) (kd : Kn dd = none) : XR cm (upd Kn dd (.xd fs)) e (.ref C) (some dd) :=
  ⟨C, hc, rfl, .inr ⟨dd, fs, rfl, upd_same, Paired.mapP h fun _ _ q => ⟨q.1, q.2.swap (.of (Ex.new kd))⟩⟩⟩
/-- __init__(self, ..) of a class with fields: each is stored -/
def spI (K : Fg) (C : Addr) (fs : List Str) : Sp := fun vs H Q _ => ∃ a ws, vs = .ref a :: ws ∧ ws.length = fs.length ∧ OexC K C ∧ (∀ f ∈ fs, PySem.W.findIn K (.ref C) f = some none) ∧ H a = some (exo a C none) ∧
  ∀ H' dx, H dx = none → dx ≠ a → H' a = some (exo a C (some dx)) → H' dx = some (exd dx (fs.zip ws).reverse) → (∀ q, q ≠ a → q ≠ dx → H' q = H q) → Q .non H'
theorem spI_len {C : Addr} {fs : List Str} {vs : List V} {H : Hp} {Q : VK} {E : XK} (h : spI K C fs vs H Q E) : vs.length = fs.length + 1 := by
  obtain ⟨a, ws, rfl, hl, _⟩ := h
  rw [List.length_cons, hl]
theorem fp_zip {Kn : Hp} : ∀ {fs : List Str} {ws : List V} {ds : List PyData}, DqAll Kn ws ds → Paired (fun (p : Str × V) (q : Str × PyData) => p.1 = q.1 ∧ Dq Kn p.2 q.2) (fs.zip ws) (fs.zip ds)
  | [], _, _, _ => by
    rw [List.zip_nil_left, List.zip_nil_left]
    exact .nil
  | f :: fs, _, _, .nil => .nil
  | f :: fs, _, _, .cons h t => .cons ⟨rfl, h⟩ (fp_zip t)
theorem paired_rev {α β : Type} {G : α → β → Prop} : ∀ {xs : List α} {ys : List β}, Paired G xs ys → Paired G xs.reverse ys.reverse
  | _, _, .nil => .nil
  | _, _, .cons (a := x) (b := y) h t => by
    rw [List.reverse_cons, List.reverse_cons]
    have app : ∀ {as : List α} {bs : List β} {cs : List α} {ds : List β}, Paired G as bs → Paired G cs ds → Paired G (as ++ cs) (bs ++ ds) := fun {as bs cs ds} h1 h2 => by
      induction h1 with
      | nil => exact h2
      | cons h _ ih => exact .cons h ih
    exact app (paired_rev t) (.cons h .nil)
/-- raise C(e, ..) -/
theorem sb_raise [Us τ] {t : τ} {C : Addr} {n : Str} {fs : List Str} (h : EA K F Kn0 sl ow ta t) (hc : cm n = some C) (T : OexC K C) (no : ∀ f ∈ fs, PySem.W.findIn K (.ref C) f = some none) (hl : Tp.n τ = fs.length) (hl2 : fs.length ≤ 100)
    (q : RX K F Kn0 ow0 cm E ⟨n, (fs.zip (Us.toDs t)).reverse⟩) (l : ow0.Sublist ow) : SB K F Kn0 sl ow D (fun _ σ H => tMkO C (spI K C fs) [] ta σ H fun cls d H' => E cls d H') := fun σ Kn H s =>
  h σ Kn H s _ fun vs Kn1 H1 g1 r1 => by
    have hv : vs.length = fs.length := by rw [Tp.len r1, hl]
    refine ⟨by omega, fun a ha => ?_⟩
    rw [List.append_nil]
    refine ⟨a, vs, rfl, hv, T, no, upd_same, fun H2 dx hdx hne e1 e2 e3 => ⟨rfl, dx, _, e1, e2, ?_, ?_⟩⟩
    · rw [upd_ne hne] at hdx
      exact hdx
    · rw [upd_ne hne] at hdx
      have eH : upd (del H2 a) dx (.xd (fs.zip vs).reverse) = upd H1 dx (.xd (fs.zip vs).reverse) := by
        funext b
        by_cases hb : b = dx
        · rw [hb, upd_same, upd_same]
        · rw [upd_ne hb, upd_ne hb]
          by_cases hba : b = a
          · rw [hba, del_same, ha]
          · rw [del_ne hba, e3 b hba hb, upd_ne hba]
      rw [eH]
      have g2 := Gr.new (o := .xd (fs.zip vs).reverse) g1.kh hdx
      exact q _ _ _ _ (((s.grow g1).grow g2).fin.sub l) (XR.mk (e := ⟨n, _⟩) hc (paired_rev (fp_zip (Us.is r1))) (fresh_back g1.kh hdx))
/-- raise C('..'), C without fields -/
theorem sb_raise0 {C : Addr} {n : Str} (hc : cm n = some C) (q : RX K F Kn0 ow0 cm E ⟨n, []⟩) (l : ow0.Sublist ow) : SB K F Kn0 sl ow D (fun _ σ H => (fun (_ : St) (H : Hp) (Q : XK) => Q (.ref C) none H) σ H fun cls d H' => E cls d H') := fun σ Kn H s =>
  q _ _ Kn H (s.fin.sub l) ⟨C, hc, rfl, .inl ⟨rfl, rfl⟩⟩
/-! ### calls that may raise -/
theorem ev_callX {f : τ → Option (Er α)} {r : α} {E : St → XK} {t : τ} (h : EA K F Kn0 sl ow ta t) (hf : f t = some (.ok r)) : EV K F Kn0 sl ow (tCallS (PX K cm f) E ta) r := fun σ Kn H s Q q =>
  h σ Kn H s _ fun vs Kn1 H1 g1 r1 => ⟨Kn1, t, .ok r, g1.kh, r1, hf, fun u Kn' H' g' r' => q u Kn' H' (g1.trans g') r'⟩
theorem er_call {f : τ → Option (Er α)} {t : τ} (h : EA K F Kn0 sl ow ta t) (hf : f t = some (.ex e)) : ER K F Kn0 sl ow cm W (tCallS (PX K cm f) (WE W) ta) e := fun σ Kn H s w Q =>
  h σ Kn H s _ fun vs Kn1 H1 g1 r1 => ⟨Kn1, t, .ex e, g1.kh, r1, hf, fun cls d Kn' H' g' x => w cls d Kn' H' ((s.grow g1).grow g') x⟩
theorem er_opL {r : R2} (h : ER K F Kn0 sl ow cm W te e) : ER K F Kn0 sl ow cm W (tOp r te tb) e := fun σ Kn H s w _ => h σ Kn H s w _
theorem er_cb {r : List V → Hp → VK → Prop} (h : ER K F Kn0 sl ow cm W te e) : ER K F Kn0 sl ow cm W (tCB r (tCons te tr)) e := fun σ Kn H s w _ => h σ Kn H s w _
theorem er_tup (h : ER K F Kn0 sl ow cm W te e) : ER K F Kn0 sl ow cm W (tTup (tCons te tr)) e := fun σ Kn H s w _ => h σ Kn H s w _
theorem sb_asgR {g : TG} (h : ER K F Kn0 sl ow cm W te e) (w : RW K F Kn0 sl ow cm W e) : SB K F Kn0 sl ow D (tAsg te g) := fun σ Kn H s => h σ Kn H s (fun cls d Kn' H' s' x => w σ Kn' H' cls d s' x) _
theorem sb_dropR (h : ER K F Kn0 sl ow cm W te e) (w : RW K F Kn0 sl ow cm W e) : SB K F Kn0 sl ow D (tDrop te) := fun σ Kn H s => h σ Kn H s (fun cls d Kn' H' s' x => w σ Kn' H' cls d s' x) _
theorem sb_retR (h : ER K F Kn0 sl ow cm W te e) (w : RW K F Kn0 sl ow cm W e) : SB K F Kn0 sl ow D (tRet te) := fun σ Kn H s => h σ Kn H s (fun cls d Kn' H' s' x => w σ Kn' H' cls d s' x) _
/-- it leaves the def -/
theorem rw_out (q : RX K F Kn0 ow0 cm E e) (l : ow0.Sublist ow) : RW K F Kn0 sl ow cm (fun cls d _ H => E cls d H) e := fun _ Kn H cls d s x => q cls d Kn H (s.fin.sub l) x
/-! ### try -/
theorem sb_tryAs {C : Value} {ts : Addr → Value → Option Addr → TS} {Wout : WX} {tw : WX → TS} (h : SB K F Kn0 sl ow D (tw (wAs K C i ts Wout D))) : SB K F Kn0 sl ow D (fun D σ H => tw (wAs K C i ts Wout D) D σ H) := h
abbrev Dsu (i : Nat) (D : Ends) : Ends := { nx := fun σ' H' => D.nx (σ'.set i none) H', rt := D.rt, bk := fun σ' H' => D.bk (σ'.set i none) H', ct := fun σ' H' => D.ct (σ'.set i none) H' }
theorem rw_as {C : Value} {ts : Addr → Value → Option Addr → TS} {Wout : WX} {sl' : Addr → Value → Option Addr → List Sl} (hm : ∀ A, cm e.cls = some A → PySem.W.exmOne K (.ref A) C = some true) (hs : ∀ a cls d, sl.set i (sv (Xv.mk e : Xv cm a cls d)) = sl' a cls d)
    (h : ∀ a cls d, SB K F Kn0 (sl' a cls d) ow (Dsu i D) (ts a cls d)) : RW K F Kn0 sl ow cm (wAs K C i ts Wout D) e := fun σ Kn H cls d s x => by
  obtain ⟨A, hA, rfl, hx⟩ := id x
  refine ⟨true, hm A hA, fun _ a _ => ?_, fun z => nomatch z⟩
  exact h a _ d _ Kn H (hs a _ d ▸ s.setv (x := (Xv.mk e : Xv cm a (.ref A) d)) i ⟨rfl, x⟩)
theorem sn_suite (hs : sl.set i .any = sl') (k : SN K F Kn0 sl' ow D) : SN K F Kn0 sl ow (Dsu i D) := fun σ Kn H s => k _ Kn H (hs ▸ s.set (x := .any) (o := none) i trivial)
/-- e.f -/
theorem ev_xf {a C : Addr} {cls : Value} {d : Option Addr} {n f : Str} {y : Dy} (h : EV K F Kn0 sl ow te (Xv.mk e : Xv cm a cls d)) (hC : cm n = some C) (hx : xfl e n f = some y) : EV K F Kn0 sl ow (tXf a cls d C f te) y := fun σ Kn H s Q q =>
  h σ Kn H s _ fun v Kn1 H1 g1 r1 => by
    unfold xfl at hx
    split at hx
    case isFalse => cases hx
    rename_i hn
    obtain ⟨z, hz, rfl⟩ := Option.map_eq_some_iff.mp hx
    obtain ⟨r1, A, hA, hc, hd⟩ := r1
    rw [hn, hC] at hA
    cases hA
    refine ⟨r1, hc, ?_⟩
    rcases hd with ⟨h1, _⟩ | ⟨dd, fs, h1, h2, h3⟩
    · rw [h1] at hz
      cases hz
    · obtain ⟨u, hu, ru⟩ := fp_lookup h3 hz
      exact ⟨dd, fs, u, h1, g1.kh _ _ h2, hu, q u Kn1 H1 g1 ru⟩
theorem rc_isX {a D : Addr} {cls : Value} {d : Option Addr} {n : Str} {ty : String} {b : Bool} {u : Unit} (hD : cm n = some D) (hx : xcls e n = some u) (hk : PySem.W.kitOne K (.ref D) (.type ty) = some b) : RCV K (rIsX K D a cls d) ((Xv.mk e : Xv cm a cls d), TyN.mk ty, ()) b := fun Kn H vs ek h Q q => by
  obtain ⟨v, w, rfl, h1, h2⟩ := two_args h
  obtain ⟨rfl, A, hA, hc, hd⟩ := h1
  rw [xcls_eq hx, hD] at hA
  cases hA
  refine ⟨w, .type ty, b, rfl, hc, ?_, fun u hu => ?_, hk, q.fl ek⟩
  · rcases hd with ⟨_, h1⟩ | ⟨dd, fs, h1, h3, _⟩
    · exact .inl h1
    · exact .inr ⟨dd, fs, h1, ek _ _ h3⟩
  · have h2 : w = .ty ty := h2
    subst h2
    exact hu
end
/-! ### more -/
theorem unX_some {α : Type} {x : Option (Er α)} {r : α} (h : (x.bind fun y => match y with | .ok r => some r | .ex _ => none) = some r) : x = some (.ok r) := by
  obtain ⟨y, h1, h⟩ := bind_some h
  cases y with
  | ok z => cases h; exact h1
  | ex e => cases h
def unX {α : Type} (x : Er α) : Option α := match x with | .ok r => some r | .ex _ => none
theorem unX_is {α : Type} {x : Option (Er α)} {r : α} (h : x.bind unX = some r) : x = some (.ok r) := unX_some h
theorem er_cases {α : Type} (x : Er α) : (∃ e, x = .ex e) ∨ ∃ r, x = .ok r := by
  cases x with
  | ok r => exact .inr ⟨r, rfl⟩
  | ex e => exact .inl ⟨e, rfl⟩
theorem ite_some {α : Type} {c : Bool} {x : Option α} {y : α} (h : (if c = true then x else none) = some y) : c = true ∧ x = some y := by
  cases c with
  | true => exact ⟨rfl, h⟩
  | false => cases h
theorem exm_two {K : Fg} {A C : Addr} {b : Bool} (h1 : PySem.W.subIn K (.ref C) (.type "BaseException") = some true) (h2 : PySem.W.isClsIn K C = true) (h3 : PySem.W.typeIn K (.ref C) = some (.type "type")) (h4 : PySem.W.subIn K (.ref A) (.ref C) = some b) : PySem.W.exmOne K (.ref A) (.ref C) = some b := by
  have e1 : (PySem.W.subIn K (.ref C) (.type "BaseException") == some true) = true := by rw [h1] <;> rfl
  have e2 : ((PySem.W.clsIn K C).isSome && PySem.W.typeIn K (.ref C) == some (.type "type")) = true := by
    have h2' : (PySem.W.clsIn K C).isSome = true := h2
    rw [h2', h3] <;> rfl
  unfold PySem.W.exmOne
  rw [if_pos e1]
  unfold PySem.W.kitCls
  simp only
  rw [if_pos e2]
  exact h4
/-- for x in reversed(xs) -/
theorem wk_rev {K : Fg} {α : Type} [Rp α] {Kn1 : Hp} {p : Addr} {ws : List V} {xs : List α} (h : SqL K Kn1 p ws) (r : Paired (rep K Kn1) ws xs) : WK K Kn1 (Itv K p ws.length) xs.reverse := fun i Kn' H' e1 e2 => by
  have hq : SqL K H' p ws := ex_l (e1.trans e2) h
  have hl := paired_len r
  refine ⟨fun x hx => ?_, fun hle => by
    rw [List.length_reverse] at hle
    show ws.length ≤ i
    omega⟩
  have hi : i < xs.length := by
    have := (List.getElem?_eq_some_iff.mp hx).1
    rw [List.length_reverse] at this
    exact this
  rw [List.getElem?_reverse hi] at hx
  obtain ⟨v, hv, rv⟩ := paired_at r hx
  rw [← hl] at hv
  refine ⟨⟨by omega, ws, v, hq, hv⟩, fun u H2 hy => ?_⟩
  obtain ⟨rfl, f⟩ := hy
  have : v = u := Option.some.inj (hv.symm.trans (f ws hq))
  subst this
  exact ⟨Kn', Gr.refl e2, Rp.mono e1 rv⟩
theorem it_rev {K : Fg} {F Kn0 : Hp} {sl : List Sl} {ow : List Ow} {α : Type} [Rp α] {ta : TA} {xs : List α} (h : EA K F Kn0 sl ow ta (xs, ())) : IT K F Kn0 sl ow (iRev K ta) xs.reverse := fun σ Kn H s R q => h σ Kn H s _ fun vs Kn1 H1 g1 r1 => by
  obtain ⟨v, rfl, p, ws, rfl, h3, h4⟩ := one_arg r1
  exact ⟨p, ws, rfl, sq_of (g1.kh _ _ h3), q _ Kn1 H1 g1 (wk_rev (sq_of h3) h4)⟩
theorem kit_two {K : Fg} {D : Addr} {ty : String} {b : Bool} (h : PySem.W.subIn K (.ref D) (.type ty) = some b) (hm : PySem.W.kitMeta ty = true := by decide +kernel) : PySem.W.kitOne K (.ref D) (.type ty) = some b := by
  unfold PySem.W.kitOne
  rw [if_neg (show ¬ (Value.ref D == Value.type ty) = true from fun z => Value.noConfusion (eq_of_beq z))]
  show (if PySem.W.kitMeta ty = true then PySem.W.subIn K (.ref D) (.type ty) else none) = some b
  rw [if_pos hm]
  exact h
theorem RE.ok_rt {K : Fg} {F Kn0 : Hp} {ow : List Ow} {cm : Str → Option Addr} {α : Type} [Rp α] {R : VK} {E : XK} {x : α} (q : RE K F Kn0 ow cm R E (.ok x)) : RT K F Kn0 ow R x := q
end Wk
/-! Wmin: min, max of a list of whole numbers. -/
namespace Wk
open PySem PySem.Spec L2 Evl
def minG : Int → List Int → Int
  | m, [] => m
  | m, x :: xs => minG (min m x) xs
def maxG : Int → List Int → Int
  | m, [] => m
  | m, x :: xs => maxG (max m x) xs
def minL : List Int → Option Int
  | [] => none
  | x :: xs => some (minG x xs)
def maxL : List Int → Option Int
  | [] => none
  | x :: xs => some (maxG x xs)
theorem minG_spec : ∀ (xs : List Int) (m : Int), (minG m xs = m ∨ minG m xs ∈ xs) ∧ minG m xs ≤ m ∧ ∀ x ∈ xs, minG m xs ≤ x
  | [], m => ⟨.inl rfl, Int.le_refl _, (fun _ h => nomatch h)⟩
  | y :: ys, m => by
    obtain ⟨h1, h2, h3⟩ := minG_spec ys (min m y)
    show (minG (min m y) ys = m ∨ minG (min m y) ys ∈ y :: ys) ∧ minG (min m y) ys ≤ m ∧ ∀ x ∈ y :: ys, minG (min m y) ys ≤ x
    refine ⟨?_, by omega, fun x hx => ?_⟩
    · rcases h1 with h1 | h1
      · by_cases e : m ≤ y
        · exact .inl (h1.trans (by omega))
        · exact .inr (by rw [h1, show min m y = y by omega]; exact List.mem_cons_self)
      · exact .inr (List.mem_cons_of_mem _ h1)
    · rcases List.mem_cons.mp hx with rfl | hx
      · omega
      · exact h3 x hx
theorem maxG_spec : ∀ (xs : List Int) (m : Int), (maxG m xs = m ∨ maxG m xs ∈ xs) ∧ m ≤ maxG m xs ∧ ∀ x ∈ xs, x ≤ maxG m xs
  | [], m => ⟨.inl rfl, Int.le_refl _, (fun _ h => nomatch h)⟩
  | y :: ys, m => by
    obtain ⟨h1, h2, h3⟩ := maxG_spec ys (max m y)
    show (maxG (max m y) ys = m ∨ maxG (max m y) ys ∈ y :: ys) ∧ m ≤ maxG (max m y) ys ∧ ∀ x ∈ y :: ys, x ≤ maxG (max m y) ys
    refine ⟨?_, by omega, fun x hx => ?_⟩
    · rcases h1 with h1 | h1
      · by_cases e : y ≤ m
        · exact .inl (h1.trans (by omega))
        · exact .inr (by rw [h1, show max m y = y by omega]; exact List.mem_cons_self)
      · exact .inr (List.mem_cons_of_mem _ h1)
    · rcases List.mem_cons.mp hx with rfl | hx
      · omega
      · exact h3 x hx
theorem minL_spec {xs : List Int} {m : Int} (h : minL xs = some m) : m ∈ xs ∧ ∀ x ∈ xs, m ≤ x := by
  match xs, h with
  | y :: ys, h =>
    cases h
    obtain ⟨h1, h2, h3⟩ := minG_spec ys y
    refine ⟨?_, fun x hx => ?_⟩
    · rcases h1 with h1 | h1
      · rw [h1]
        exact List.mem_cons_self
      · exact List.mem_cons_of_mem _ h1
    · rcases List.mem_cons.mp hx with rfl | hx
      · exact h2
      · exact h3 x hx
theorem maxL_spec {xs : List Int} {m : Int} (h : maxL xs = some m) : m ∈ xs ∧ ∀ x ∈ xs, x ≤ m := by
  match xs, h with
  | y :: ys, h =>
    cases h
    obtain ⟨h1, h2, h3⟩ := maxG_spec ys y
    refine ⟨?_, fun x hx => ?_⟩
    · rcases h1 with h1 | h1
      · rw [h1]
        exact List.mem_cons_self
      · exact List.mem_cons_of_mem _ h1
    · rcases List.mem_cons.mp hx with rfl | hx
      · exact h2
      · exact h3 x hx
theorem rc_minL {K : Fg} {xs : List Int} {m : Int} (hm : minL xs = some m) : RCV K (rMin K) (xs, ()) m := fun Kn H vs ek h Q q => by
  obtain ⟨v, rfl, p, ws, rfl, h1, h2⟩ := one_arg h
  have e := paired_fl h2
  subst e
  obtain ⟨s1, s2⟩ := minL_spec hm
  refine ⟨p, xs, rfl, sq_of (ek _ _ h1), List.length_pos_of_mem s1, fun k hk hle => ?_⟩
  have e : k = m := by
    have := s2 k hk
    have := hle m s1
    omega
  subst e
  exact q.fl ek
theorem rc_maxL {K : Fg} {xs : List Int} {m : Int} (hm : maxL xs = some m) : RCV K (rMax K) (xs, ()) m := fun Kn H vs ek h Q q => by
  obtain ⟨v, rfl, p, ws, rfl, h1, h2⟩ := one_arg h
  have e := paired_fl h2
  subst e
  obtain ⟨s1, s2⟩ := maxL_spec hm
  refine ⟨p, xs, rfl, sq_of (ek _ _ h1), List.length_pos_of_mem s1, fun k hk hle => ?_⟩
  have e : k = m := by
    have := s2 k hk
    have := hle m s1
    omega
  subst e
  exact q.fl ek
section
variable {X : Cx} {K : Fg}
theorem k_maxL (hc : X.calm = true := by rfl) (h : X.K = K := by rfl) : CallR X (.builtin "max") (rMax K) := h ▸ cr_max hc
theorem k_minL (hc : X.calm = true := by rfl) (h : X.K = K := by rfl) : CallR X (.builtin "min") (rMin K) := h ▸ cr_min hc
end
end Wk
/-! lists of one's own, lent where a tuple of plain values comes -/
namespace Wk
open PySem PySem.Spec L2 Evl
def del (Kn : Hp) (p : Addr) : Hp := fun a => if a = p then none else Kn a
theorem del_ne {Kn : Hp} {p a : Addr} (h : a ≠ p) : del Kn p a = Kn a := if_neg h
theorem del_same {Kn : Hp} {p : Addr} : del Kn p p = none := if_pos rfl
class Nl (α : Type) [Rp α] where
  out : ∀ {K : Fg} {Kn : Hp} {p : Addr} {ws : List V} {v : V} {x : α}, Kn p = some (.lst ws) → rep K Kn v x → rep K (del Kn p) v x
class NlT (τ : Type) [Tp τ] where
  out : ∀ {K : Fg} {Kn : Hp} {p : Addr} {ws vs : List V} {t : τ}, Kn p = some (.lst ws) → rept K Kn vs t → rept K (del Kn p) vs t
instance : Nl Int := ⟨fun _ h => h⟩
instance : Nl Bool := ⟨fun _ h => h⟩
instance : Nl Str := ⟨fun _ h => h⟩
instance : NlT Unit := ⟨fun _ h => h⟩
instance {α τ : Type} [Rp α] [Tp τ] [Nl α] [NlT τ] : NlT (α × τ) := ⟨fun e h => by
  obtain ⟨v, r, h1, h2, h3⟩ := h
  exact ⟨v, r, h1, Nl.out e h2, NlT.out e h3⟩⟩
instance {α τ : Type} [Rp α] [Tp τ] [NlT (α × τ)] : Nl (α × τ) := ⟨fun {K Kn p ws v x} e h => by
  obtain ⟨q, vs, h1, h2, h3⟩ := h
  have hne : q ≠ p := fun z => by
    rw [z, e] at h2
    cases h2
  exact ⟨q, vs, h1, (del_ne hne).trans h2, NlT.out (τ := α × τ) e h3⟩⟩
theorem ev_borT {K : Fg} {F Kn0 : Hp} {sl sl' : List Sl} {ow ow1 : List Ow} {α γ : Type} [Rp α] [Rp γ] {te : TE} {i j : Nat} {p : Addr} [Nl γ] {z : γ} {xs : List α} (hi : sl[i]? = some (.at p)) (hj : ow[j]? = some (ol p xs)) (hs : sl.set i (sv xs) = sl') (ho : ow.eraseIdx j = ow1) (h : EV K F Kn0 sl' ow1 te z) : EV K F Kn0 sl ow te z := fun σ Kn H s Q q => by
  obtain ⟨ws, kp, hp, s1⟩ := s.borrow hi hj
  subst hs
  subst ho
  refine h σ _ H s1 Q fun v Kn' H' g r => q v (del Kn' p) H' ⟨fun a u h => ?_, g.hh, fun a u h => ?_, fun a h1 h2 => ?_⟩ (Nl.out (g.kk _ _ upd_same) r)
  · have hne : a ≠ p := fun z => by
      rw [z, kp] at h
      cases h
    rw [del_ne hne]
    exact g.kk _ _ (by rw [upd_ne hne]; exact h)
  · by_cases e : a = p
    · subst e
      rw [del_same] at h
      cases h
    · rw [del_ne e] at h
      exact g.kh _ _ h
  · by_cases e : a = p
    · rw [e]
      exact del_same
    · rw [del_ne e]
      exact g.sp a h1 (by rw [upd_ne e]; exact h2)
end Wk
set_option synthInstance.maxHeartbeats 4000000
set_option synthInstance.maxSize 20000
/-! the mirrors of k70, printed by gen.py -/
namespace Wk70
open PySem L2 Wk
noncomputable def m_touches (thing_1 : (Str × Int × Int × Int × Int × Unit)) (row_2 : Int) (high_3 : Int) : Option Bool :=
  some ((decide (thing_1.2.2.1 < (row_2 + high_3))) && (decide (row_2 < (thing_1.2.2.1 + thing_1.2.2.2.2.1))))
noncomputable def m_edges_L1 (row_7 : Int) (high_8 : Int) : (Str × Int × Int × Int × Int × Unit) → ((Int × Str × Unit)) → Option ((Int × Str × Unit)) := fun thing_11 left_10 =>
  (m_touches thing_11 row_7 high_8).bind fun r_18 =>
  (if (r_18 && (decide (left_10.1 < (thing_11.2.1 + thing_11.2.2.2.1)))) = true then ((some ((thing_11.2.1 + thing_11.2.2.2.1), thing_11.1, ())).bind fun left_21 =>
  some left_21) else (some left_10))
noncomputable def m_edges_L2 (row_7 : Int) (high_8 : Int) : (Str × Int × Int × Int × Int × Unit) → ((Int × Str × Unit)) → Option ((Int × Str × Unit)) := fun thing_26 right_25 =>
  (m_touches thing_26 row_7 high_8).bind fun r_33 =>
  (if (r_33 && (decide (thing_26.2.1 < right_25.1))) = true then ((some (thing_26.2.1, thing_26.1, ())).bind fun right_36 =>
  some right_36) else (some right_25))
noncomputable def m_edges (width_4 : Int) (lefts_5 : (List (Str × Int × Int × Int × Int × Unit))) (rights_6 : (List (Str × Int × Int × Int × Int × Unit))) (row_7 : Int) (high_8 : Int) : Option ((Int × Str × Unit) × (Int × Str × Unit) × Unit) :=
  (some ((0 : Int), ("" : Str), ())).bind fun left_9 =>
  (forS (m_edges_L1 row_7 high_8) lefts_5 left_9).bind fun left_22 =>
  (some (width_4, ("" : Str), ())).bind fun right_24 =>
  (forS (m_edges_L2 row_7 high_8) rights_6 right_24).bind fun right_37 =>
  some (left_22, right_37, ())
noncomputable def m_first_end (things_39 : (List (Str × Int × Int × Int × Int × Unit))) (left_40 : Str) (right_41 : Str) : Option Int :=
  (lcM (fun thing_42 => (some ((decide (thing_42.1 = left_40)) || (decide (thing_42.1 = right_41))))) (fun thing_42 => (some (thing_42.2.2.1 + thing_42.2.2.2.2.1))) things_39).bind fun zs_43 =>
  (minL zs_43).bind fun min_44 =>
  some min_44
noncomputable def m_stand_floats_L1 (width_45 : Int) : (Str × Str × Int × Int × Unit) → (Unit) → Option (Ctl (Unit) (Er ((List (Str × Int × Int × Int × Int × Unit)) × (List (List (Int × Str × Str × Unit))) × Unit))) := fun (name_47, side_48, wide_49, high_50, _) _ =>
  (if (decide (width_45 < wide_49)) = true then (some (Ctl.rt (Er.ex ⟨"TooWide", ((["name"] : List Str).zip (Us.toDs (name_47, ()))).reverse⟩))) else (some (Ctl.nx ())))
noncomputable def m_stand_floats_L3_c (width_45 : Int) (wide_72 : Int) (high_73 : Int) (standing_67 : (List (Str × Int × Int × Int × Int × Unit))) (rights_68 : (List (Str × Int × Int × Int × Int × Unit))) (lefts_69 : (List (Str × Int × Int × Int × Int × Unit))) : (Int × (Int × Str × Unit) × (Int × Str × Unit) × (List (Int × Str × Str × Unit))) → Option Bool := fun (row_83, left_84, right_85, paper_86) =>
  (some (decide ((right_85.1 - left_84.1) < wide_72)))
noncomputable def m_stand_floats_L3 (width_45 : Int) (wide_72 : Int) (high_73 : Int) (standing_67 : (List (Str × Int × Int × Int × Int × Unit))) (rights_68 : (List (Str × Int × Int × Int × Int × Unit))) (lefts_69 : (List (Str × Int × Int × Int × Int × Unit))) : (Int × (Int × Str × Unit) × (Int × Str × Unit) × (List (Int × Str × Str × Unit))) → Option (Int × (Int × Str × Unit) × (Int × Str × Unit) × (List (Int × Str × Str × Unit))) := fun (row_83, left_84, right_85, paper_86) =>
  (m_first_end standing_67 left_84.2.1 right_85.2.1).bind fun r_92 =>
  (some r_92).bind fun row_93 =>
  (appO paper_86 (row_93, left_84.2.1, right_85.2.1, ())).bind fun paper_94 =>
  (m_edges width_45 lefts_69 rights_68 row_93 high_73).bind fun r_95 =>
  (some r_95).bind fun (left_96, right_97, _) =>
  some (row_93, left_96, right_97, paper_94)
noncomputable def m_stand_floats_L2 (width_45 : Int) : (Str × Str × Int × Int × Unit) → (Int × (List (List (Int × Str × Str × Unit))) × (List (Str × Int × Int × Int × Int × Unit)) × (List (Str × Int × Int × Int × Int × Unit)) × (List (Str × Int × Int × Int × Int × Unit))) → Option (Int × (List (List (Int × Str × Str × Unit))) × (List (Str × Int × Int × Int × Int × Unit)) × (List (Str × Int × Int × Int × Int × Unit)) × (List (Str × Int × Int × Int × Int × Unit))) := fun (name_70, side_71, wide_72, high_73, _) (row_65, papers_66, standing_67, rights_68, lefts_69) =>
  (some ([] : List (Int × Str × Str × Unit))).bind fun paper_79 =>
  (m_edges width_45 lefts_69 rights_68 row_65 high_73).bind fun r_80 =>
  (some r_80).bind fun (left_81, right_82, _) =>
  (whileF (m_stand_floats_L3_c width_45 wide_72 high_73 standing_67 rights_68 lefts_69) (m_stand_floats_L3 width_45 wide_72 high_73 standing_67 rights_68 lefts_69) (row_65, left_81, right_82, paper_79)).bind fun (row_98, left_99, right_100, paper_101) =>
  ((if (decide (side_71 = ("left" : Str))) = true then ((some (name_70, left_99.1, row_98, wide_72, high_73, ())).bind fun thing_105 =>
  (appO lefts_69 thing_105).bind fun lefts_106 =>
  some (thing_105, rights_68, lefts_106)) else ((some (name_70, (right_100.1 - wide_72), row_98, wide_72, high_73, ())).bind fun thing_107 =>
  (appO rights_68 thing_107).bind fun rights_108 =>
  some (thing_107, rights_108, lefts_69)))).bind fun (thing_109, rights_110, lefts_111) =>
  (appO standing_67 thing_109).bind fun standing_113 =>
  (appO papers_66 paper_101).bind fun papers_114 =>
  some (row_98, papers_114, standing_113, rights_110, lefts_111)
noncomputable def m_stand_floats (width_45 : Int) (floats_46 : (List (Str × Str × Int × Int × Unit))) : Option (Er ((List (Str × Int × Int × Int × Int × Unit)) × (List (List (Int × Str × Str × Unit))) × Unit)) :=
  (forC (m_stand_floats_L1 width_45) floats_46 ()).bind fun tot_55 => match tot_55 with
  | .nx _ => ((some ([] : List (Str × Int × Int × Int × Int × Unit))).bind fun lefts_60 =>
  (some ([] : List (Str × Int × Int × Int × Int × Unit))).bind fun rights_61 =>
  (some ([] : List (Str × Int × Int × Int × Int × Unit))).bind fun standing_62 =>
  (some ([] : List (List (Int × Str × Str × Unit)))).bind fun papers_63 =>
  (some (0 : Int)).bind fun row_64 =>
  (forS (m_stand_floats_L2 width_45) floats_46 (row_64, papers_63, standing_62, rights_61, lefts_60)).bind fun (row_115, papers_116, standing_117, rights_118, lefts_119) =>
  some (Er.ok (standing_117, papers_116, ())))
  | .bk _ => none
  | .rt r_ => some r_
noncomputable def m__law_cell_at (script_121 : (Fz Int)) (k_122 : Int) : Option Int :=
  (if (decide (k_122 < (script_121.l.length : Int))) = true then ((atI script_121.l k_122).bind fun i_126 =>
  some i_126) else (some (0 : Int)))
noncomputable def m__law_numbers_L1_c (cell_127 : Int) (many_128 : Int) : (Int × (List Int)) → Option Bool := fun (number_131, found_132) =>
  (some ((decide ((cell_127 % (2 : Int)) = (1 : Int))) && ((decide ((0 : Int) < number_131)) && (decide ((found_132.length : Int) < many_128)))))
noncomputable def m__law_numbers_L1 (cell_127 : Int) (many_128 : Int) : (Int × (List Int)) → Option (Int × (List Int)) := fun (number_131, found_132) =>
  (appO found_132 (number_131 % (10000000000 : Int))).bind fun found_138 =>
  (some (number_131 / (10000000000 : Int))).bind fun number_139 =>
  some (number_139, found_138)
noncomputable def m__law_numbers_L2_c (many_128 : Int) : (Int × (List Int)) → Option Bool := fun (number_144, found_145) =>
  (some (decide ((found_145.length : Int) < many_128)))
noncomputable def m__law_numbers_L2 (many_128 : Int) : (Int × (List Int)) → Option (Int × (List Int)) := fun (number_144, found_145) =>
  (some ((((number_144 + (found_145.length : Int)) + (1 : Int)) * (48271 : Int)) % (2147483647 : Int))).bind fun number_151 =>
  (appO found_145 ((number_151 * (69621 : Int)) % (2147483629 : Int))).bind fun found_152 =>
  some (number_151, found_152)
noncomputable def m__law_numbers (cell_127 : Int) (many_128 : Int) : Option (List Int) :=
  (some ([] : List Int)).bind fun found_129 =>
  (some (cell_127 / (2 : Int))).bind fun number_130 =>
  (whileF (m__law_numbers_L1_c cell_127 many_128) (m__law_numbers_L1 cell_127 many_128) (number_130, found_129)).bind fun (number_140, found_141) =>
  (some (cell_127 % (2147483647 : Int))).bind fun number_143 =>
  (whileF (m__law_numbers_L2_c many_128) (m__law_numbers_L2 many_128) (number_143, found_141)).bind fun (number_153, found_154) =>
  some found_154
noncomputable def m__law_names_L2 (some_159 : (List Int)) (at_164 : Int) (turn_168 : Int) : Int → (Str) → Option (Str) := fun k_177 name_176 =>
  (mulO turn_168 (if (decide (k_177 = at_164)) = true then (1 : Int) else 0)).bind fun m_183 =>
  (some m_183).bind fun more_184 =>
  (atI some_159 k_177).bind fun i_185 =>
  (ixS ("abcdefghijklmnopqrstuvwxyz" : Str) ((i_185 + more_184) % (26 : Int))).bind fun i_186 =>
  (addS name_176 i_186).bind fun t_187 =>
  (some t_187).bind fun name_188 =>
  some name_188
noncomputable def m__law_names_L1 (some_159 : (List Int)) (size_161 : Int) (at_164 : Int) : Int → ((List Str)) → Option ((List Str)) := fun turn_168 names_here_167 =>
  (some ("" : Str)).bind fun name_174 =>
  (rngO 0 size_161).bind fun rg_175 =>
  (forS (m__law_names_L2 some_159 at_164 turn_168) rg_175 name_174).bind fun name_189 =>
  (appO names_here_167 name_189).bind fun names_here_191 =>
  some names_here_191
noncomputable def m__law_names (cell_156 : Int) (many_157 : Int) : Option (List Str) :=
  (m__law_numbers cell_156 (10 : Int)).bind fun r_158 =>
  (some r_158).bind fun some_159 =>
  (atI some_159 (8 : Int)).bind fun i_160 =>
  (some ((1 : Int) + (i_160 % (8 : Int)))).bind fun size_161 =>
  (atI some_159 (9 : Int)).bind fun i_162 =>
  (modO i_162 size_161).bind fun r_163 =>
  (some r_163).bind fun at_164 =>
  (some ([] : List Str)).bind fun names_here_165 =>
  (rngO 0 many_157).bind fun rg_166 =>
  (forS (m__law_names_L1 some_159 size_161 at_164) rg_166 names_here_165).bind fun names_here_192 =>
  some names_here_192
noncomputable def m__law_told (wide_194 : Int) (floats_195 : (List (Str × Str × Int × Int × Unit))) : Option Dy :=
  (some (upD Nn.nn)).bind fun found_196 =>
  (((m_stand_floats wide_194 floats_195).bind fun r_199_0 => match r_199_0 with
  | .ex ex_200 => (if decide (ex_200.cls ∈ (["TooWide"] : List Str)) = true then ((xfl ex_200 "TooWide" "name").bind fun fl_204 =>
  (xcls ex_200 "TooWide").bind fun xc_205 =>
  (some (upD (("too wide" : Str), fl_204, true, ()))).bind fun found_206 =>
  some found_206) else none)
  | .ok r_199 =>
  some (upD (r_199.1.length : Int)))).bind fun found_207 =>
  some found_207
noncomputable def m_law_L1 (names_here_211 : (List Str)) : (Int × Int × Unit) → ((List (Str × Str × Int × Int × Unit))) → Option ((List (Str × Str × Int × Int × Unit))) := fun (k_216, cell_217, _) floats_215 =>
  (m__law_numbers cell_217 (4 : Int)).bind fun r_223 =>
  (some r_223).bind fun some_224 =>
  (atI some_224 (1 : Int)).bind fun i_225 =>
  (atI some_224 (1 : Int)).bind fun i_226 =>
  (atI some_224 (1 : Int)).bind fun i_227 =>
  (atI some_224 (1 : Int)).bind fun i_228 =>
  (atI some_224 (3 : Int)).bind fun i_229 =>
  (atI ([(i_225 % (9 : Int)), (i_226 % (9 : Int)), (i_227 % (9 : Int)), (i_228 % (1000000000 : Int))] : List Int) (i_229 % (4 : Int))).bind fun i_230 =>
  (some ((1 : Int) + i_230)).bind fun w_231 =>
  (atI names_here_211 k_216).bind fun i_232 =>
  (atI some_224 (0 : Int)).bind fun i_233 =>
  (atI ([("left" : Str), ("right" : Str)] : List Str) (i_233 % (2 : Int))).bind fun i_234 =>
  (atI some_224 (2 : Int)).bind fun i_235 =>
  (appO floats_215 (i_232, i_234, w_231, ((1 : Int) + (i_235 % (9 : Int))), ())).bind fun floats_236 =>
  some floats_236
noncomputable def m_law_L2 (wide_213 : Int) : (Str × Str × Int × Int × Unit) → (Dy) → Option (Dy) := fun (name_241, side_242, w_243, h_244, _) due_240 =>
  (if (decide (wide_213 < w_243)) = true then ((some (upD (("too wide" : Str), name_241, true, ()))).bind fun due_253 =>
  some due_253) else (some due_240))
noncomputable def m_law (script_208 : (Fz Int)) : Option Bool :=
  (m__law_cell_at script_208 (0 : Int)).bind fun r_209 =>
  (m__law_names r_209 (12 : Int)).bind fun r_210 =>
  (some r_210).bind fun names_here_211 =>
  (m__law_cell_at script_208 (1 : Int)).bind fun r_212 =>
  (some (r_212 % (10 : Int))).bind fun wide_213 =>
  (some ([] : List (Str × Str × Int × Int × Unit))).bind fun floats_214 =>
  (forS (m_law_L1 names_here_211) (enumI (cut script_208.l (some (2 : Int)) (some (14 : Int)))) floats_214).bind fun floats_237 =>
  (some (upD (floats_237.length : Int))).bind fun due_239 =>
  (forS (m_law_L2 wide_213) (floats_237.reverse) due_239).bind fun due_254 =>
  (some floats_237).bind fun held_256 =>
  (m__law_told wide_213 held_256).bind fun r_258 =>
  (eqYO r_258 due_254).bind fun e_259 =>
  ((if (!e_259) = true then some true else ((neO held_256 floats_237).bind fun e_260 => some e_260))).bind fun b_261 =>
  (if b_261 = true then (some false) else ((lcM (fun one_264 => (some (decide (one_264.2.2.1 ≤ wide_213)))) (fun one_264 => (some one_264)) floats_237).bind fun zs_265 =>
  (some zs_265).bind fun some_266 =>
  (m__law_told wide_213 some_266).bind fun r_267 =>
  (eqYO r_267 (upD (some_266.length : Int))).bind fun e_268 =>
  some e_268))
end Wk70
set_option synthInstance.maxHeartbeats 4000000
set_option synthInstance.maxSize 20000
/-! the walks of k70, printed by gen.py -/
namespace Wk70
open PySem L2 Wk
def topS (i : Nat) : Stmt := PySem.Challenge.pw_boxgalley_k70_floats_too_wide.main.body.getD i (.Pass ⟨0, 0, 0, 0⟩)
abbrev s_touches : Stmt := topS 4
abbrev s_edges : Stmt := topS 5
abbrev s_first_end : Stmt := topS 6
abbrev s_stand_floats : Stmt := topS 7
abbrev s__law_cell_at : Stmt := topS 9
abbrev s__law_numbers : Stmt := topS 10
abbrev s__law_names : Stmt := topS 11
abbrev s__law_told : Stmt := topS 12
abbrev s_law : Stmt := topS 13
structure TX (K : Fg) (mg : Str → Option Value) (w : World) where
  a_touches : Addr
  d_touches : FuncData
  F_touches : Fun K "touches" "touches" s_touches a_touches d_touches
  b_touches : Binds K d_touches ["thing", "row", "high"] []
  g_touches : mg "touches" = some (.ref a_touches)
  a_edges : Addr
  d_edges : FuncData
  F_edges : Fun K "edges" "edges" s_edges a_edges d_edges
  b_edges : Binds K d_edges ["width", "lefts", "rights", "row", "high"] []
  g_edges : mg "edges" = some (.ref a_edges)
  a_first_end : Addr
  d_first_end : FuncData
  F_first_end : Fun K "first_end" "first_end" s_first_end a_first_end d_first_end
  b_first_end : Binds K d_first_end ["things", "left", "right"] []
  g_first_end : mg "first_end" = some (.ref a_first_end)
  a_stand_floats : Addr
  d_stand_floats : FuncData
  F_stand_floats : Fun K "stand_floats" "stand_floats" s_stand_floats a_stand_floats d_stand_floats
  b_stand_floats : Binds K d_stand_floats ["width", "floats"] []
  g_stand_floats : mg "stand_floats" = some (.ref a_stand_floats)
  a__law_cell_at : Addr
  d__law_cell_at : FuncData
  F__law_cell_at : Fun K "_law_cell_at" "_law_cell_at" s__law_cell_at a__law_cell_at d__law_cell_at
  b__law_cell_at : Binds K d__law_cell_at ["_law_script", "_law_k"] []
  g__law_cell_at : mg "_law_cell_at" = some (.ref a__law_cell_at)
  a__law_numbers : Addr
  d__law_numbers : FuncData
  F__law_numbers : Fun K "_law_numbers" "_law_numbers" s__law_numbers a__law_numbers d__law_numbers
  b__law_numbers : Binds K d__law_numbers ["_law_cell", "_law_many"] []
  g__law_numbers : mg "_law_numbers" = some (.ref a__law_numbers)
  a__law_names : Addr
  d__law_names : FuncData
  F__law_names : Fun K "_law_names" "_law_names" s__law_names a__law_names d__law_names
  b__law_names : Binds K d__law_names ["_law_cell", "_law_many"] []
  g__law_names : mg "_law_names" = some (.ref a__law_names)
  a__law_told : Addr
  d__law_told : FuncData
  F__law_told : Fun K "_law_told" "_law_told" s__law_told a__law_told d__law_told
  b__law_told : Binds K d__law_told ["_law_wide", "_law_floats"] []
  g__law_told : mg "_law_told" = some (.ref a__law_told)
  a_law : Addr
  d_law : FuncData
  F_law : Fun K "law" "law" s_law a_law d_law
  b_law : Binds K d_law ["_law_script"] []
  g_law : mg "law" = some (.ref a_law)
  z_ValueError : mg "ValueError" = none
  z_enumerate : mg "enumerate" = none
  z_int : mg "int" = none
  z_isinstance : mg "isinstance" = none
  z_len : mg "len" = none
  z_list : mg "list" = none
  z_min : mg "min" = none
  z_range : mg "range" = none
  z_reversed : mg "reversed" = none
  c_TooWide : Addr
  gC_TooWide : mg "TooWide" = some (.ref c_TooWide)
  c_BoxError : Addr
  gC_BoxError : mg "BoxError" = some (.ref c_BoxError)
  oex_TooWide : OexC K c_TooWide
  no_TooWide : ∀ f ∈ (["name"] : List Str), PySem.W.findIn K (.ref c_TooWide) f = some none
  fi_TooWide : Addr
  fdi_TooWide : FuncData
  Fi_TooWide : Fun K "__init__" "TooWide.__init__" (inClass (topS 2) 0) fi_TooWide fdi_TooWide
  bi_TooWide : Binds K fdi_TooWide ["self", "name"] []
  iC_TooWide : PySem.W.findIn K (.ref c_TooWide) "__init__" = some (some (.ref fi_TooWide))
  tI_TooWide : PySem.W.typeIn K (.ref fi_TooWide) = some (.type "function")
  xf_TooWide : XfC K c_TooWide
  isx_TooWide : PySem.W.findIn K (.ref c_TooWide) "__getattribute__" = some (some (.builtin "BaseException.__getattribute__")) ∧ PySem.W.findIn K (.ref c_TooWide) "__getattr__" = some none ∧ PySem.W.subIn K (.ref c_TooWide) (.type "BaseException") = some true ∧ PySem.W.isClsIn K c_TooWide = true ∧ PySem.W.findIn K (.ref c_TooWide) "__class__" = some (some (.builtin "object.__class__")) ∧ PySem.W.specialIn K (.builtin "object.__class__") "__get__" = some (some (.builtin "getset_descriptor.__get__")) ∧ PySem.W.takesIn K (.builtin "object.__class__") = some true ∧ PySem.W.mroIn K c_TooWide (.type "object") = some true
  sg_BoxError : PySem.W.specialIn K (.ref c_BoxError) "__getattribute__" = some (some (.builtin "type.__getattribute__"))
  rd_BoxError : PySem.W.readsIn K c_BoxError (.type "type") = true
  fc_BoxError : PySem.W.findCls K (.ref c_BoxError) (.type "type") "__init__" = some (.val (.builtin "ValueError.__init__"))
  kit_TooWide_ValueError : PySem.W.kitOne K (.ref c_TooWide) (.type "ValueError") = some true
  em_TooWide_TooWide : PySem.W.exmOne K (.ref c_TooWide) (.ref c_TooWide) = some true
def spLaw (K : Fg) : Sp := fun vs H Q _ => ∃ (a : Addr) (ns : List Int), vs = [.ref a] ∧ SqL K H a (ns.map V.int) ∧ ns.length ≤ 63 ∧ ∀ H', Q (.bl true) H'
theorem fn_weak {P : Program} {w : World} {K : Fg} {mg : Str → Option Value} {base : Heap} {k : Nat} {f : Addr} {fd : FuncData} {m : Fz Int → Option Bool}
    (h : FnOk P w K mg base CX0 k f fd ["_law_script"] (PF (τ := Fz Int × Unit) K fun t => m t.1)) (main : ∀ ns : List Int, ns.length ≤ 63 → m (Fz.mk ns) = some true) : FnOk P w K mg base CX0 k f fd ["_law_script"] (spLaw K) :=
  h.imp fun vs H Q E hh => by
    obtain ⟨a, ns, rfl, hs, hl, q⟩ := hh
    exact ⟨H, (Fz.mk ns, ()), true, Evl.Ex.refl _, ⟨.ref a, [], rfl, ⟨a, ns.map V.int, rfl, hs, fl_paired ns⟩, rfl⟩, main ns hl, fun u Kn' H' g r => by cases r; exact q H'⟩
section
variable {P : Program} {w : World} {K : Fg} {mg : Str → Option Value} {base : Heap}
def cmT (T : TX K mg w) : Str → Option Addr := fun n =>
  if n = "TooWide" then some T.c_TooWide else none
theorem exm_TooWide (T : TX K mg w) : ∀ n ∈ (["TooWide"] : List Str), ∀ A, cmT T n = some A → PySem.W.exmOne K (.ref A) (.ref T.c_TooWide) = some true := fun n hn A hA => by
  rcases List.mem_cons.mp hn with rfl | hn
  · obtain rfl : T.c_TooWide = A := Option.some.inj hA
    exact T.em_TooWide_TooWide
  cases hn
theorem sci_TooWide : FnScope ["self", "name"] ["self", "name"] (defScope (inClass (topS 2) 0)) := ⟨rfl, rfl, rfl, by decide +kernel, rfl, by decide +kernel, by decide +kernel⟩
theorem oki_TooWide (T : TX K mg w) : FnOk P w K mg base CX0 1 T.fi_TooWide T.fdi_TooWide ["self", "name"] (spI K T.c_TooWide ["name"]) := by
  refine T.Fi_TooWide.ok sci_TooWide (fun vs H Q E h => spI_len h) (fun cdv A outer s H vs Q E hr h => ?_)
  obtain ⟨a, ws, rfl, hl, T0, hno, ha, q⟩ := h
  match ws, hl with
  | [v_0], _ =>
  refine ⟨_, (pss_cons (ps_expr (pe_cinit (by rfl) T.gC_BoxError T.sg_BoxError T.rd_BoxError T.fc_BoxError (pa_cons (pv 0) (pa_cons pe_str pa_nil)))) (pss_one (ps_ost (pv 0) (pv 1)))), ?_⟩
  refine ⟨_, rfl, a, T.c_TooWide, [_], rfl, by decide, T0, ha, ?_⟩
  refine ⟨_, rfl, _, rfl, a, T.c_TooWide, rfl, T0, hno _ List.mem_cons_self, .inl ⟨ha, fun dx hdx hne => ?_⟩⟩
  exact q _ dx hdx hne upd_same (by rw [upd_ne hne]; exact upd_same) (fun b h1 h2 => by rw [upd_ne h1, upd_ne h2])
theorem sc_touches : FnScope ["thing", "row", "high"] ["thing", "row", "high"] (defScope s_touches) := ⟨rfl, rfl, rfl, by decide +kernel, rfl, by decide +kernel, by decide +kernel⟩
set_option maxHeartbeats 4000000 in
theorem ok_touches (T : TX K mg w) : FnOk P w K mg base CX0 1 T.a_touches T.d_touches ["thing", "row", "high"] (PF (τ := (Str × Int × Int × Int × Int × Unit) × Int × Int × Unit) K (fun t => m_touches t.1 t.2.1 t.2.2.1)) := by
  refine T.F_touches.ok sc_touches (fun vs H Q E h => ?_) (fun cdv A outer s H vs Q E hr h => ?_)
  · obtain ⟨Kn, t, r, ek, h, hf, q⟩ := h
    exact Tp.len h
  · obtain ⟨Kn, t, r_, ek, h, hf, q⟩ := h
    obtain ⟨thing_1, row_2, high_3, u_⟩ := t
    obtain ⟨v_0, rr_, rfl, hv_0, h⟩ := h
    obtain ⟨v_1, rr_, rfl, hv_1, h⟩ := h
    obtain ⟨v_2, rr_, rfl, hv_2, h⟩ := h
    obtain rfl := h
    replace hf : m_touches thing_1 row_2 high_3 = some r_ := hf
    unfold m_touches at hf
    refine ⟨_, (pss_one (ps_ret (pe_and (pe_cmpR op_lt (pe_ix k_ixt (pv 0) pe_int (fun _ _ => rfl)) (pe_op op_add (pv 1) (pv 2)) (nomark _)) (pe_one (pe_cmpR op_lt (pv 1) (pe_op op_add (pe_ix k_ixt (pv 0) pe_int (fun _ _ => rfl)) (pe_ix k_ixt (pv 0) pe_int (fun _ _ => rfl))) (nomark _)))))), ?_⟩
    refine enter (Kn := Kn) (sl := [sv thing_1, sv row_2, sv high_3]) ek ⟨⟨v_0, rfl, hv_0⟩, ⟨v_1, rfl, hv_1⟩, ⟨v_2, rfl, hv_2⟩, trivial⟩ ?_
    have q := rt_of q
    cases hf
    exact sb_ret (ev_andV (ev_op (ev_op (ev_var (i := 0) rfl) (ev_int 2) (r2_tix (n := 2) (At.s _ (At.s _ (At.z _ _))))) (ev_op (ev_var (i := 1) rfl) (ev_var (i := 2) rfl) r2_add) r2_lt) (fun _ => (ev_op (ev_var (i := 1) rfl) (ev_op (ev_op (ev_var (i := 0) rfl) (ev_int 2) (r2_tix (n := 2) (At.s _ (At.s _ (At.z _ _))))) (ev_op (ev_var (i := 0) rfl) (ev_int 4) (r2_tix (n := 4) (At.s _ (At.s _ (At.s _ (At.s _ (At.z _ _))))))) r2_add) r2_lt))) q (List.Sublist.refl _)
theorem sc_edges : FnScope ["width", "lefts", "rights", "row", "high", "left", "thing", "right"] ["width", "lefts", "rights", "row", "high"] (defScope s_edges) := ⟨rfl, rfl, rfl, by decide +kernel, rfl, by decide +kernel, by decide +kernel⟩
set_option maxHeartbeats 4000000 in
theorem ok_edges (T : TX K mg w) : FnOk P w K mg base CX0 2 T.a_edges T.d_edges ["width", "lefts", "rights", "row", "high"] (PF (τ := Int × (List (Str × Int × Int × Int × Int × Unit)) × (List (Str × Int × Int × Int × Int × Unit)) × Int × Int × Unit) K (fun t => m_edges t.1 t.2.1 t.2.2.1 t.2.2.2.1 t.2.2.2.2.1)) := by
  refine T.F_edges.ok sc_edges (fun vs H Q E h => ?_) (fun cdv A outer s H vs Q E hr h => ?_)
  · obtain ⟨Kn, t, r, ek, h, hf, q⟩ := h
    exact Tp.len h
  · obtain ⟨Kn, t, r_, ek, h, hf, q⟩ := h
    obtain ⟨width_4, lefts_5, rights_6, row_7, high_8, u_⟩ := t
    obtain ⟨v_0, rr_, rfl, hv_0, h⟩ := h
    obtain ⟨v_1, rr_, rfl, hv_1, h⟩ := h
    obtain ⟨v_2, rr_, rfl, hv_2, h⟩ := h
    obtain ⟨v_3, rr_, rfl, hv_3, h⟩ := h
    obtain ⟨v_4, rr_, rfl, hv_4, h⟩ := h
    obtain rfl := h
    replace hf : m_edges width_4 lefts_5 rights_6 row_7 high_8 = some r_ := hf
    unfold m_edges at hf
    refine ⟨_, (pss_cons (ps_set (i := 5) sc_edges.nd rfl (.inl rfl) (pe_tup (pa_cons pe_int (pa_cons pe_str pa_nil))))
      (pss_cons (ps_for PassesOwn.never rfl (kpi_list (pv 1)) (pg_name (i := 6) sc_edges.nd rfl (.inl rfl)) (pss_one (ps_if (PW.pt (pw_and (pt_val (pe_call (ok_touches T) hr (by rfl) T.g_touches T.F_touches.kp T.b_touches .nil pass0 (pa_cons (pv 6) (pa_cons (pv 3) (pa_cons (pv 4) pa_nil))))) (pw_and1 (pt_cmpR op_gt (pe_op op_add (pe_ix k_ixt (pv 6) pe_int (fun _ _ => rfl)) (pe_ix k_ixt (pv 6) pe_int (fun _ _ => rfl))) (pe_ix k_ixt (pv 5) pe_int (fun _ _ => rfl)) (nomark _))))) (pss_one (ps_set (i := 5) sc_edges.nd rfl (.inl rfl) (pe_tup (pa_cons (pe_op op_add (pe_ix k_ixt (pv 6) pe_int (fun _ _ => rfl)) (pe_ix k_ixt (pv 6) pe_int (fun _ _ => rfl))) (pa_cons (pe_ix k_ixt (pv 6) pe_int (fun _ _ => rfl)) pa_nil))))) pss_nil)))
      (pss_cons (ps_set (i := 7) sc_edges.nd rfl (.inl rfl) (pe_tup (pa_cons (pv 0) (pa_cons pe_str pa_nil))))
      (pss_cons (ps_for PassesOwn.never rfl (kpi_list (pv 2)) (pg_name (i := 6) sc_edges.nd rfl (.inl rfl)) (pss_one (ps_if (PW.pt (pw_and (pt_val (pe_call (ok_touches T) hr (by rfl) T.g_touches T.F_touches.kp T.b_touches .nil pass0 (pa_cons (pv 6) (pa_cons (pv 3) (pa_cons (pv 4) pa_nil))))) (pw_and1 (pt_cmpR op_lt (pe_ix k_ixt (pv 6) pe_int (fun _ _ => rfl)) (pe_ix k_ixt (pv 7) pe_int (fun _ _ => rfl)) (nomark _))))) (pss_one (ps_set (i := 7) sc_edges.nd rfl (.inl rfl) (pe_tup (pa_cons (pe_ix k_ixt (pv 6) pe_int (fun _ _ => rfl)) (pa_cons (pe_ix k_ixt (pv 6) pe_int (fun _ _ => rfl)) pa_nil))))) pss_nil)))
      (pss_one (ps_ret (pe_tup (pa_cons (pv 5) (pa_cons (pv 7) pa_nil))))))))), ?_⟩
    refine enter (Kn := Kn) (sl := [sv width_4, sv lefts_5, sv rights_6, sv row_7, sv high_8, .any, .any, .any]) ek ⟨⟨v_0, rfl, hv_0⟩, ⟨v_1, rfl, hv_1⟩, ⟨v_2, rfl, hv_2⟩, ⟨v_3, rfl, hv_3⟩, ⟨v_4, rfl, hv_4⟩, trivial, trivial, trivial, trivial⟩ ?_
    have q := rt_of q
    obtain ⟨left_9, h_left_9, hf⟩ := bind_some hf
    refine SB.seqB (fun kx_ => sb_asg (sl' := [sv width_4, sv lefts_5, sv rights_6, sv row_7, sv high_8, sv left_9, .any, .any]) rfl (EV.cast (ev_tup (ea_cons (ev_int 0) (ea_cons (ev_str ("" : Str)) ea_nil))) (Option.some.inj h_left_9)) (kx_ _ _ ?_))
    obtain ⟨left_22, h_tot_16, hf⟩ := bind_some hf
    refine SB.seqB (fun kx_23 => sb_for (β := (Str × Int × Int × Int × Int × Unit)) (Sx := (Int × Str × Unit)) (fun s => [sv width_4, sv lefts_5, sv rights_6, sv row_7, sv high_8, sv s, .any, .any]) (fun s => []) (fun x s => [sv width_4, sv lefts_5, sv rights_6, sv row_7, sv high_8, sv s, sv x, .any]) [6] (fun xs s => forS (m_edges_L1 row_7 high_8) xs s = some left_22) left_9 (IT.m (it_list (ev_var (i := 1) rfl))) h_tot_16 (.keep (.keep (.keep (.keep (.keep (.keep (.keep (.keep .nil)))))))) (List.Sublist.refl _) (fun x s => (gt_name rfl)) ?_ ?_)
    · intro Kn1 b1 thing_11 rest_ left_10 hP_13 N_ hN_12
      obtain ⟨c_, hc_14, hP_13⟩ := bind_some hP_13
      have q_15 := q.base b1
      unfold m_edges_L1 at hc_14
      refine SB.is (sl' := [sv width_4, sv lefts_5, sv rights_6, sv row_7, sv high_8, sv left_10, sv thing_11, .any]) (ow1 := []) rfl rfl ?_
      obtain ⟨r_18, h_r_18, hc_14⟩ := bind_some hc_14
      refine sb_if (b := (r_18 && (decide (left_10.1 < (thing_11.2.1 + thing_11.2.2.2.1))))) (et_and (et_B (ev_call (ea_cons (ev_var (i := 6) rfl) (ea_cons (ev_var (i := 3) rfl) (ea_cons (ev_var (i := 4) rfl) ea_nil))) h_r_18)) (fun _ => (et_test (ev_op (ev_op (ev_op (ev_var (i := 6) rfl) (ev_int 1) (r2_tix (n := 1) (At.s _ (At.z _ _)))) (ev_op (ev_var (i := 6) rfl) (ev_int 3) (r2_tix (n := 3) (At.s _ (At.s _ (At.s _ (At.z _ _)))))) r2_add) (ev_op (ev_var (i := 5) rfl) (ev_int 0) (r2_tix (n := 0) (At.z _ _))) r2_gt)))) (fun hb_19 => ?_) (fun hb_19 => ?_)
      · have hc_14 := ite_t hb_19 hc_14
        obtain ⟨left_21, h_left_21, hc_14⟩ := bind_some hc_14
        refine sb_asg (sl' := [sv width_4, sv lefts_5, sv rights_6, sv row_7, sv high_8, sv left_21, sv thing_11, .any]) rfl (EV.cast (ev_tup (ea_cons (ev_op (ev_op (ev_var (i := 6) rfl) (ev_int 1) (r2_tix (n := 1) (At.s _ (At.z _ _)))) (ev_op (ev_var (i := 6) rfl) (ev_int 3) (r2_tix (n := 3) (At.s _ (At.s _ (At.s _ (At.z _ _)))))) r2_add) (ea_cons (ev_op (ev_var (i := 6) rfl) (ev_int 0) (r2_tix (n := 0) (At.z _ _))) ea_nil))) (Option.some.inj h_left_21)) ?_
        cases hc_14
        exact fun σ Kn H s => hN_12 _ hP_13 σ Kn H ((s.le (.keep (.keep (.keep (.keep (.keep (.keep (.drop (.keep .nil))))))))).sub (List.Sublist.refl _))
      · have hc_14 := ite_f hb_19 hc_14
        refine sb_nx ?_
        cases hc_14
        exact fun σ Kn H s => hN_12 _ hP_13 σ Kn H ((s.le (.keep (.keep (.keep (.keep (.keep (.keep (.drop (.keep .nil))))))))).sub (List.Sublist.refl _))
    · intro s_ h0
      cases h0
      refine kx_23 _ _ ?_
      refine SB.is (sl' := [sv width_4, sv lefts_5, sv rights_6, sv row_7, sv high_8, sv left_22, .any, .any]) (ow1 := []) rfl rfl ?_
      obtain ⟨right_24, h_right_24, hf⟩ := bind_some hf
      refine SB.seqB (fun kx_ => sb_asg (sl' := [sv width_4, sv lefts_5, sv rights_6, sv row_7, sv high_8, sv left_22, .any, sv right_24]) rfl (EV.cast (ev_tup (ea_cons (ev_var (i := 0) rfl) (ea_cons (ev_str ("" : Str)) ea_nil))) (Option.some.inj h_right_24)) (kx_ _ _ ?_))
      obtain ⟨right_37, h_tot_31, hf⟩ := bind_some hf
      refine SB.seqB (fun kx_38 => sb_for (β := (Str × Int × Int × Int × Int × Unit)) (Sx := (Int × Str × Unit)) (fun s => [sv width_4, sv lefts_5, sv rights_6, sv row_7, sv high_8, sv left_22, .any, sv s]) (fun s => []) (fun x s => [sv width_4, sv lefts_5, sv rights_6, sv row_7, sv high_8, sv left_22, sv x, sv s]) [6] (fun xs s => forS (m_edges_L2 row_7 high_8) xs s = some right_37) right_24 (IT.m (it_list (ev_var (i := 2) rfl))) h_tot_31 (.keep (.keep (.keep (.keep (.keep (.keep (.keep (.keep .nil)))))))) (List.Sublist.refl _) (fun x s => (gt_name rfl)) ?_ ?_)
      · intro Kn1 b1 thing_26 rest_ right_25 hP_28 N_ hN_27
        obtain ⟨c_, hc_29, hP_28⟩ := bind_some hP_28
        have q_30 := q.base b1
        unfold m_edges_L2 at hc_29
        refine SB.is (sl' := [sv width_4, sv lefts_5, sv rights_6, sv row_7, sv high_8, sv left_22, sv thing_26, sv right_25]) (ow1 := []) rfl rfl ?_
        obtain ⟨r_33, h_r_33, hc_29⟩ := bind_some hc_29
        refine sb_if (b := (r_33 && (decide (thing_26.2.1 < right_25.1)))) (et_and (et_B (ev_call (ea_cons (ev_var (i := 6) rfl) (ea_cons (ev_var (i := 3) rfl) (ea_cons (ev_var (i := 4) rfl) ea_nil))) h_r_33)) (fun _ => (et_test (ev_op (ev_op (ev_var (i := 6) rfl) (ev_int 1) (r2_tix (n := 1) (At.s _ (At.z _ _)))) (ev_op (ev_var (i := 7) rfl) (ev_int 0) (r2_tix (n := 0) (At.z _ _))) r2_lt)))) (fun hb_34 => ?_) (fun hb_34 => ?_)
        · have hc_29 := ite_t hb_34 hc_29
          obtain ⟨right_36, h_right_36, hc_29⟩ := bind_some hc_29
          refine sb_asg (sl' := [sv width_4, sv lefts_5, sv rights_6, sv row_7, sv high_8, sv left_22, sv thing_26, sv right_36]) rfl (EV.cast (ev_tup (ea_cons (ev_op (ev_var (i := 6) rfl) (ev_int 1) (r2_tix (n := 1) (At.s _ (At.z _ _)))) (ea_cons (ev_op (ev_var (i := 6) rfl) (ev_int 0) (r2_tix (n := 0) (At.z _ _))) ea_nil))) (Option.some.inj h_right_36)) ?_
          cases hc_29
          exact fun σ Kn H s => hN_27 _ hP_28 σ Kn H ((s.le (.keep (.keep (.keep (.keep (.keep (.keep (.drop (.keep .nil))))))))).sub (List.Sublist.refl _))
        · have hc_29 := ite_f hb_34 hc_29
          refine sb_nx ?_
          cases hc_29
          exact fun σ Kn H s => hN_27 _ hP_28 σ Kn H ((s.le (.keep (.keep (.keep (.keep (.keep (.keep (.drop (.keep .nil))))))))).sub (List.Sublist.refl _))
      · intro s_ h0
        cases h0
        refine kx_38 _ _ ?_
        refine SB.is (sl' := [sv width_4, sv lefts_5, sv rights_6, sv row_7, sv high_8, sv left_22, .any, sv right_37]) (ow1 := []) rfl rfl ?_
        cases hf
        exact sb_ret (ev_tup (ea_cons (ev_var (i := 5) rfl) (ea_cons (ev_var (i := 7) rfl) ea_nil))) q (List.Sublist.refl _)
theorem sc_first_end : FnScope ["things", "left", "right", "thing"] ["things", "left", "right"] (defScope s_first_end) := ⟨rfl, rfl, rfl, by decide +kernel, rfl, by decide +kernel, by decide +kernel⟩
set_option maxHeartbeats 4000000 in
theorem ok_first_end (T : TX K mg w) : FnOk P w K mg base CX0 1 T.a_first_end T.d_first_end ["things", "left", "right"] (PF (τ := (List (Str × Int × Int × Int × Int × Unit)) × Str × Str × Unit) K (fun t => m_first_end t.1 t.2.1 t.2.2.1)) := by
  refine T.F_first_end.ok sc_first_end (fun vs H Q E h => ?_) (fun cdv A outer s H vs Q E hr h => ?_)
  · obtain ⟨Kn, t, r, ek, h, hf, q⟩ := h
    exact Tp.len h
  · obtain ⟨Kn, t, r_, ek, h, hf, q⟩ := h
    obtain ⟨things_39, left_40, right_41, u_⟩ := t
    obtain ⟨v_0, rr_, rfl, hv_0, h⟩ := h
    obtain ⟨v_1, rr_, rfl, hv_1, h⟩ := h
    obtain ⟨v_2, rr_, rfl, hv_2, h⟩ := h
    obtain rfl := h
    replace hf : m_first_end things_39 left_40 right_41 = some r_ := hf
    unfold m_first_end at hf
    refine ⟨_, (pss_one (ps_ret (pe_callB k_minL (by rfl) T.z_min (by decide +kernel) (pa_cons (pe_lc (own := [("thing", 3)]) (g := gName 3) (by rfl) sc_first_end.nd (kpi_list (pv 0)) (blkOk_by (own := [("thing", 3)]) (N := ["things", "left", "right", "thing"]) (sc := defScope s_first_end) (by decide +kernel)) (fun _ _ _ _ _ => (pg_name (i := 3) sc_first_end.nd rfl (Or.inl rfl))) (fun _ _ _ _ _ => pts_one (PW.pt (pw_or (pt_cmpR op_eq (pe_ix k_ixt (pv 3) pe_int (fun _ _ => rfl)) (pv 1) (nomark _)) (pw_or1 (pt_cmpR op_eq (pe_ix k_ixt (pv 3) pe_int (fun _ _ => rfl)) (pv 2) (nomark _)))))) (fun _ _ _ _ _ => (pe_op op_add (pe_ix k_ixt (pv 3) pe_int (fun _ _ => rfl)) (pe_ix k_ixt (pv 3) pe_int (fun _ _ => rfl))))) pa_nil)))), ?_⟩
    refine enter (Kn := Kn) (sl := [sv things_39, sv left_40, sv right_41, .any]) ek ⟨⟨v_0, rfl, hv_0⟩, ⟨v_1, rfl, hv_1⟩, ⟨v_2, rfl, hv_2⟩, trivial, trivial⟩ ?_
    have q := rt_of q
    obtain ⟨zs_43, h_zs_43, hf⟩ := bind_some hf
    obtain ⟨min_44, h_min_44, hf⟩ := bind_some hf
    cases hf
    exact sb_ret (ev_cb (ea_cons (EN.ev (en_lc (js := [3]) (fun x => [sv things_39, sv left_40, sv right_41, sv x]) h_zs_43 (it_list (ev_var (i := 0) rfl)) (anyAt_of (by rfl)) (fun x => (gt_name rfl)) (sub_of (by rfl)) (fun _ _ x b h => by obtain ⟨thing_42, hx_⟩ : ∃ y, y = x := ⟨x, rfl⟩; subst hx_; have hz_ := Option.some.inj h; subst hz_; exact ET.is (sl' := [sv things_39, sv left_40, sv right_41, sv thing_42]) rfl (et_or (et_test (ev_op (ev_op (ev_var (i := 3) rfl) (ev_int 0) (r2_tix (n := 0) (At.z _ _))) (ev_var (i := 1) rfl) r2_eqS)) (fun _ => (et_test (ev_op (ev_op (ev_var (i := 3) rfl) (ev_int 0) (r2_tix (n := 0) (At.z _ _))) (ev_var (i := 2) rfl) r2_eqS))))) (fun _ _ x z _ h => by obtain ⟨thing_42, hx_⟩ : ∃ y, y = x := ⟨x, rfl⟩; subst hx_; have hz_ := Option.some.inj h; subst hz_; exact EV.is (sl' := [sv things_39, sv left_40, sv right_41, sv thing_42]) rfl (ev_op (ev_op (ev_var (i := 3) rfl) (ev_int 2) (r2_tix (n := 2) (At.s _ (At.s _ (At.z _ _))))) (ev_op (ev_var (i := 3) rfl) (ev_int 4) (r2_tix (n := 4) (At.s _ (At.s _ (At.s _ (At.s _ (At.z _ _))))))) r2_add)))) ea_nil) (rc_minL h_min_44)) q (List.Sublist.refl _)
theorem sc_stand_floats : FnScope ["width", "floats", "name", "side", "wide", "high", "lefts", "rights", "standing", "papers", "row", "paper", "left", "right", "thing"] ["width", "floats"] (defScope s_stand_floats) := ⟨rfl, rfl, rfl, by decide +kernel, rfl, by decide +kernel, by decide +kernel⟩
set_option maxHeartbeats 4000000 in
theorem ok_stand_floats (T : TX K mg w) : FnOk P w K mg base (L2.CX P w) 3 T.a_stand_floats T.d_stand_floats ["width", "floats"] (PX (τ := Int × (List (Str × Str × Int × Int × Unit)) × Unit) K (cmT T) (fun t => m_stand_floats t.1 t.2.1)) := by
  refine T.F_stand_floats.okX sc_stand_floats (fun vs H Q E h => ?_) (fun cdv A outer s H vs Q E hr h => ?_)
  · obtain ⟨Kn, t, r, ek, h, hf, q⟩ := h
    exact Tp.len h
  · obtain ⟨Kn, t, r_, ek, h, hf, q⟩ := h
    obtain ⟨width_45, floats_46, u_⟩ := t
    obtain ⟨v_0, rr_, rfl, hv_0, h⟩ := h
    obtain ⟨v_1, rr_, rfl, hv_1, h⟩ := h
    obtain rfl := h
    replace hf : m_stand_floats width_45 floats_46 = some r_ := hf
    unfold m_stand_floats at hf
    refine ⟨_, (pss_cons (ps_for (passes_of rfl) rfl (kpi_list (pv 1)) (kpg_tup (pgs_cons (pg_name (i := 2) sc_stand_floats.nd rfl (.inl rfl)) (pgs_cons (pg_name (i := 3) sc_stand_floats.nd rfl (.inl rfl)) (pgs_cons (pg_name (i := 4) sc_stand_floats.nd rfl (.inl rfl)) (pgs_cons (pg_name (i := 5) sc_stand_floats.nd rfl (.inl rfl)) pgs_nil))))) (pss_one (ps_if (pt_cmpR op_gt (pv 4) (pv 0) (nomark _)) (pss_one (ps_raise rfl (takes_of rfl rfl rfl rfl) (pmk_oex T.oex_TooWide T.iC_TooWide T.tI_TooWide (oki_TooWide T) hr T.bi_TooWide .nil pass0 (by rfl) T.gC_TooWide (pa_cons (pv 2) pa_nil)))) pss_nil)))
      (pss_cons (ps_set (i := 6) sc_stand_floats.nd rfl (.inl rfl) (pe_lst pa_nil))
      (pss_cons (ps_set (i := 7) sc_stand_floats.nd rfl (.inl rfl) (pe_lst pa_nil))
      (pss_cons (ps_set (i := 8) sc_stand_floats.nd rfl (.inl rfl) (pe_lst pa_nil))
      (pss_cons (ps_set (i := 9) sc_stand_floats.nd rfl (.inl rfl) (pe_lst pa_nil))
      (pss_cons (ps_set (i := 10) sc_stand_floats.nd rfl (.inl rfl) pe_int)
      (pss_cons (ps_for (passes_of rfl) rfl (kpi_list (pv 1)) (kpg_tup (pgs_cons (pg_name (i := 2) sc_stand_floats.nd rfl (.inl rfl)) (pgs_cons (pg_name (i := 3) sc_stand_floats.nd rfl (.inl rfl)) (pgs_cons (pg_name (i := 4) sc_stand_floats.nd rfl (.inl rfl)) (pgs_cons (pg_name (i := 5) sc_stand_floats.nd rfl (.inl rfl)) pgs_nil))))) (pss_cons (ps_set (i := 11) sc_stand_floats.nd rfl (.inl rfl) (pe_lst pa_nil))
      (pss_cons (ps_asg (pe_call (ok_edges T) hr (by rfl) T.g_edges T.F_edges.kp T.b_edges .nil pass0 (pa_cons (pv 0) (pa_cons (pv 6) (pa_cons (pv 7) (pa_cons (pv 10) (pa_cons (pv 5) pa_nil)))))) (kpg_tup (pgs_cons (pg_name (i := 12) sc_stand_floats.nd rfl (.inl rfl)) (pgs_cons (pg_name (i := 13) sc_stand_floats.nd rfl (.inl rfl)) pgs_nil))))
      (pss_cons (ps_while (passes_of rfl) (pt_cmpR op_lt (pe_op op_sub (pe_ix k_ixt (pv 13) pe_int (fun _ _ => rfl)) (pe_ix k_ixt (pv 12) pe_int (fun _ _ => rfl))) (pv 4) (nomark _)) (pss_cons (ps_set (i := 10) sc_stand_floats.nd rfl (.inl rfl) (pe_call (ok_first_end T) (hr.mono (by decide)) (by rfl) T.g_first_end T.F_first_end.kp T.b_first_end .nil pass0 (pa_cons (pv 8) (pa_cons (pe_ix k_ixt (pv 12) pe_int (fun _ _ => rfl)) (pa_cons (pe_ix k_ixt (pv 13) pe_int (fun _ _ => rfl)) pa_nil)))))
      (pss_cons (ps_expr (pe_bm PySem.F.plainAttrs_list PySem.F.slot_list_append PySem.F.type_list_append mt_append (pv 11) (pa_cons (pe_tup (pa_cons (pv 10) (pa_cons (pe_ix k_ixt (pv 12) pe_int (fun _ _ => rfl)) (pa_cons (pe_ix k_ixt (pv 13) pe_int (fun _ _ => rfl)) pa_nil)))) pa_nil)))
      (pss_one (ps_asg (pe_call (ok_edges T) hr (by rfl) T.g_edges T.F_edges.kp T.b_edges .nil pass0 (pa_cons (pv 0) (pa_cons (pv 6) (pa_cons (pv 7) (pa_cons (pv 10) (pa_cons (pv 5) pa_nil)))))) (kpg_tup (pgs_cons (pg_name (i := 12) sc_stand_floats.nd rfl (.inl rfl)) (pgs_cons (pg_name (i := 13) sc_stand_floats.nd rfl (.inl rfl)) pgs_nil))))))))
      (Evl.pss_cut (ps_if (pt_cmpR op_eq (pv 3) pe_str (nomark _)) (pss_cons (ps_set (i := 14) sc_stand_floats.nd rfl (.inl rfl) (pe_tup (pa_cons (pv 2) (pa_cons (pe_ix k_ixt (pv 12) pe_int (fun _ _ => rfl)) (pa_cons (pv 10) (pa_cons (pv 4) (pa_cons (pv 5) pa_nil)))))))
      (pss_one (ps_expr (pe_bm PySem.F.plainAttrs_list PySem.F.slot_list_append PySem.F.type_list_append mt_append (pv 6) (pa_cons (pv 14) pa_nil))))) (pss_cons (ps_set (i := 14) sc_stand_floats.nd rfl (.inl rfl) (pe_tup (pa_cons (pv 2) (pa_cons (pe_op op_sub (pe_ix k_ixt (pv 13) pe_int (fun _ _ => rfl)) (pv 4)) (pa_cons (pv 10) (pa_cons (pv 4) (pa_cons (pv 5) pa_nil)))))))
      (pss_one (ps_expr (pe_bm PySem.F.plainAttrs_list PySem.F.slot_list_append PySem.F.type_list_append mt_append (pv 7) (pa_cons (pv 14) pa_nil))))))
      (pss_cons (ps_expr (pe_bm PySem.F.plainAttrs_list PySem.F.slot_list_append PySem.F.type_list_append mt_append (pv 8) (pa_cons (pv 14) pa_nil)))
      (pss_one (ps_expr (pe_bm PySem.F.plainAttrs_list PySem.F.slot_list_append PySem.F.type_list_append mt_append (pv 9) (pa_cons (pv 11) pa_nil))))))))))
      (pss_one (ps_ret (pe_tup (pa_cons (pv 8) (pa_cons (pv 9) pa_nil)))))))))))), ?_⟩
    refine enter (Kn := Kn) (sl := [sv width_45, sv floats_46, .any, .any, .any, .any, .any, .any, .any, .any, .any, .any, .any, .any, .any]) ek ⟨⟨v_0, rfl, hv_0⟩, ⟨v_1, rfl, hv_1⟩, trivial, trivial, trivial, trivial, trivial, trivial, trivial, trivial, trivial, trivial, trivial, trivial, trivial, trivial⟩ ?_
    have q := re_of q
    obtain ⟨tot_55, h_tot_55, hf⟩ := bind_some hf
    refine SB.seqB (fun kx_59 => sb_for (β := (Str × Str × Int × Int × Unit)) (Sx := Unit) (fun s => [sv width_45, sv floats_46, .any, .any, .any, .any, .any, .any, .any, .any, .any, .any, .any, .any, .any]) (fun s => []) (fun x s => [sv width_45, sv floats_46, sv x.1, sv x.2.1, sv x.2.2.1, sv x.2.2.2.1, .any, .any, .any, .any, .any, .any, .any, .any, .any]) [2, 3, 4, 5] (fun xs s => forC (m_stand_floats_L1 width_45) xs s = some tot_55) () (IT.m (it_list (ev_var (i := 1) rfl))) h_tot_55 (.keep (.keep (.keep (.keep (.keep (.keep (.keep (.keep (.keep (.keep (.keep (.keep (.keep (.keep (.keep .nil))))))))))))))) (List.Sublist.refl _) (fun x s => (gt_tup (gts_cons (gt_name rfl) (gts_cons (gt_name rfl) (gts_cons (gt_name rfl) (gts_cons (gt_name rfl) gts_nil)))))) ?_ ?_)
    · intro Kn1 b1 x_ rest_ s_ hP_52 N_ hN_51
      obtain ⟨name_47, side_48, wide_49, high_50, _⟩ := x_
      obtain ⟨c_, hc_53, hP_52⟩ := bind_some hP_52
      have q_54 := q.base b1
      unfold m_stand_floats_L1 at hc_53
      refine SB.is (sl' := [sv width_45, sv floats_46, sv name_47, sv side_48, sv wide_49, sv high_50, .any, .any, .any, .any, .any, .any, .any, .any, .any]) (ow1 := []) rfl rfl ?_
      refine sb_if (b := (decide (width_45 < wide_49))) (et_test (ev_op (ev_var (i := 4) rfl) (ev_var (i := 0) rfl) r2_gt)) (fun hb_57 => ?_) (fun hb_57 => ?_)
      · have hc_53 := ite_t hb_57 hc_53
        cases hc_53
        replace hP_52 : some (Ctl.rt (Er.ex ⟨"TooWide", ((["name"] : List Str).zip (Us.toDs (name_47, ()))).reverse⟩)) = some tot_55 := hP_52
        cases hP_52
        replace hf : some (Er.ex ⟨"TooWide", ((["name"] : List Str).zip (Us.toDs (name_47, ()))).reverse⟩) = some r_ := hf
        cases hf
        exact sb_raise (cm := cmT T) (fs := (["name"] : List Str)) (ea_cons (ev_var (i := 2) rfl) ea_nil) rfl T.oex_TooWide T.no_TooWide rfl (by decide) q_54 (List.Sublist.refl _)
      · have hc_53 := ite_f hb_57 hc_53
        refine sb_nx ?_
        cases hc_53
        exact fun σ Kn H s => hN_51 _ hP_52 σ Kn H ((s.le (.keep (.keep (.drop (.drop (.drop (.drop (.keep (.keep (.keep (.keep (.keep (.keep (.keep (.keep (.keep .nil)))))))))))))))).sub (List.Sublist.refl _))
    · intro s_ h0
      cases h0
      refine kx_59 _ _ ?_
      refine SB.is (sl' := [sv width_45, sv floats_46, .any, .any, .any, .any, .any, .any, .any, .any, .any, .any, .any, .any, .any]) (ow1 := []) rfl rfl ?_
      obtain ⟨lefts_60, h_lefts_60, hf⟩ := bind_some hf
      refine SB.seqB (fun kx_ => sb_asgO (sl' := fun p_lefts_60 => [sv width_45, sv floats_46, .any, .any, .any, .any, .at p_lefts_60, .any, .any, .any, .any, .any, .any, .any, .any]) (fun _ => rfl) (EN.cast (en_lst el_nil) (Option.some.inj h_lefts_60)) (fun p_lefts_60 => (kx_ _ _ ?_)))
      obtain ⟨rights_61, h_rights_61, hf⟩ := bind_some hf
      refine SB.seqB (fun kx_ => sb_asgO (sl' := fun p_rights_61 => [sv width_45, sv floats_46, .any, .any, .any, .any, .at p_lefts_60, .at p_rights_61, .any, .any, .any, .any, .any, .any, .any]) (fun _ => rfl) (EN.cast (en_lst el_nil) (Option.some.inj h_rights_61)) (fun p_rights_61 => (kx_ _ _ ?_)))
      obtain ⟨standing_62, h_standing_62, hf⟩ := bind_some hf
      refine SB.seqB (fun kx_ => sb_asgO (sl' := fun p_standing_62 => [sv width_45, sv floats_46, .any, .any, .any, .any, .at p_lefts_60, .at p_rights_61, .at p_standing_62, .any, .any, .any, .any, .any, .any]) (fun _ => rfl) (EN.cast (en_lst el_nil) (Option.some.inj h_standing_62)) (fun p_standing_62 => (kx_ _ _ ?_)))
      obtain ⟨papers_63, h_papers_63, hf⟩ := bind_some hf
      refine SB.seqB (fun kx_ => sb_asgO (sl' := fun p_papers_63 => [sv width_45, sv floats_46, .any, .any, .any, .any, .at p_lefts_60, .at p_rights_61, .at p_standing_62, .at p_papers_63, .any, .any, .any, .any, .any]) (fun _ => rfl) (EN.cast (en_lst el_nil) (Option.some.inj h_papers_63)) (fun p_papers_63 => (kx_ _ _ ?_)))
      obtain ⟨row_64, h_row_64, hf⟩ := bind_some hf
      refine SB.seqB (fun kx_ => sb_asg (sl' := [sv width_45, sv floats_46, .any, .any, .any, .any, .at p_lefts_60, .at p_rights_61, .at p_standing_62, .at p_papers_63, sv row_64, .any, .any, .any, .any]) rfl (EV.cast (ev_int 0) (Option.some.inj h_row_64)) (kx_ _ _ ?_))
      obtain ⟨⟨row_115, papers_116, standing_117, rights_118, lefts_119⟩, h_tot_78, hf⟩ := bind_some hf
      refine SB.seqB (fun kx_120 => sb_for (β := (Str × Str × Int × Int × Unit)) (Sx := Int × (List (List (Int × Str × Str × Unit))) × (List (Str × Int × Int × Int × Int × Unit)) × (List (Str × Int × Int × Int × Int × Unit)) × (List (Str × Int × Int × Int × Int × Unit))) (fun s => [sv width_45, sv floats_46, .any, .any, .any, .any, .at p_lefts_60, .at p_rights_61, .at p_standing_62, .at p_papers_63, sv s.1, .any, .any, .any, .any]) (fun s => [ol p_papers_63 s.2.1, ol p_standing_62 s.2.2.1, ol p_rights_61 s.2.2.2.1, ol p_lefts_60 s.2.2.2.2]) (fun x s => [sv width_45, sv floats_46, sv x.1, sv x.2.1, sv x.2.2.1, sv x.2.2.2.1, .at p_lefts_60, .at p_rights_61, .at p_standing_62, .at p_papers_63, sv s.1, .any, .any, .any, .any]) [2, 3, 4, 5] (fun xs s => forS (m_stand_floats_L2 width_45) xs s = some (row_115, papers_116, standing_117, rights_118, lefts_119)) (row_64, papers_63, standing_62, rights_61, lefts_60) (IT.m (it_list (ev_var (i := 1) rfl))) h_tot_78 (.keep (.keep (.keep (.keep (.keep (.keep (.keep (.keep (.keep (.keep (.keep (.keep (.keep (.keep (.keep .nil))))))))))))))) (List.Sublist.refl _) (fun x s => (gt_tup (gts_cons (gt_name rfl) (gts_cons (gt_name rfl) (gts_cons (gt_name rfl) (gts_cons (gt_name rfl) gts_nil)))))) ?_ ?_)
      · intro Kn1 b1 x_ rest_ s_ hP_75 N_ hN_74
        obtain ⟨name_70, side_71, wide_72, high_73, _⟩ := x_
        obtain ⟨row_65, papers_66, standing_67, rights_68, lefts_69⟩ := s_
        obtain ⟨c_, hc_76, hP_75⟩ := bind_some hP_75
        have q_77 := q.base b1
        unfold m_stand_floats_L2 at hc_76
        refine SB.is (sl' := [sv width_45, sv floats_46, sv name_70, sv side_71, sv wide_72, sv high_73, .at p_lefts_60, .at p_rights_61, .at p_standing_62, .at p_papers_63, sv row_65, .any, .any, .any, .any]) (ow1 := [ol p_papers_63 papers_66, ol p_standing_62 standing_67, ol p_rights_61 rights_68, ol p_lefts_60 lefts_69]) rfl rfl ?_
        obtain ⟨paper_79, h_paper_79, hc_76⟩ := bind_some hc_76
        refine SB.seqB (fun kx_ => sb_asgO (sl' := fun p_paper_79 => [sv width_45, sv floats_46, sv name_70, sv side_71, sv wide_72, sv high_73, .at p_lefts_60, .at p_rights_61, .at p_standing_62, .at p_papers_63, sv row_65, .at p_paper_79, .any, .any, .any]) (fun _ => rfl) (EN.cast (en_lst el_nil) (Option.some.inj h_paper_79)) (fun p_paper_79 => (kx_ _ _ ?_)))
        obtain ⟨r_80, h_r_80, hc_76⟩ := bind_some hc_76
        obtain ⟨⟨left_81, right_82, _⟩, h_left_81, hc_76⟩ := bind_some hc_76
        refine SB.seqB (fun kx_ => sb_unp (sl' := [sv width_45, sv floats_46, sv name_70, sv side_71, sv wide_72, sv high_73, .at p_lefts_60, .at p_rights_61, .at p_standing_62, .at p_papers_63, sv row_65, .at p_paper_79, sv left_81, sv right_82, .any]) (EV.cast (ev_borT (i := 6) (j := 4) (sl' := [sv width_45, sv floats_46, sv name_70, sv side_71, sv wide_72, sv high_73, sv lefts_69, .at p_rights_61, .at p_standing_62, .at p_papers_63, sv row_65, .at p_paper_79, .any, .any, .any]) (ow1 := [ol p_paper_79 paper_79, ol p_papers_63 papers_66, ol p_standing_62 standing_67, ol p_rights_61 rights_68]) rfl rfl rfl rfl (ev_borT (i := 7) (j := 3) (sl' := [sv width_45, sv floats_46, sv name_70, sv side_71, sv wide_72, sv high_73, sv lefts_69, sv rights_68, .at p_standing_62, .at p_papers_63, sv row_65, .at p_paper_79, .any, .any, .any]) (ow1 := [ol p_paper_79 paper_79, ol p_papers_63 papers_66, ol p_standing_62 standing_67]) rfl rfl rfl rfl (ev_call (ea_cons (ev_var (i := 0) rfl) (ea_cons (ev_var (i := 6) rfl) (ea_cons (ev_var (i := 7) rfl) (ea_cons (ev_var (i := 10) rfl) (ea_cons (ev_var (i := 5) rfl) ea_nil))))) h_r_80))) (Option.some.inj h_left_81)) (gt_tup (gts_cons (gt_name rfl) (gts_cons (gt_name rfl) gts_nil))) (kx_ _ _ ?_))
        obtain ⟨⟨row_98, left_99, right_100, paper_101⟩, h_tot_91, hc_76⟩ := bind_some hc_76
        obtain ⟨n0_, h_tot_91⟩ := whileF_some h_tot_91
        refine SB.seqB (fun kx_102 => sb_while (Sx := Int × (Int × Str × Unit) × (Int × Str × Unit) × (List (Int × Str × Str × Unit))) (fun s => [sv width_45, sv floats_46, sv name_70, sv side_71, sv wide_72, sv high_73, .at p_lefts_60, .at p_rights_61, .at p_standing_62, .at p_papers_63, sv s.1, .at p_paper_79, sv s.2.1, sv s.2.2.1, .any]) (fun s => [ol p_paper_79 s.2.2.2, ol p_papers_63 papers_66, ol p_standing_62 standing_67, ol p_rights_61 rights_68, ol p_lefts_60 lefts_69]) (fun n s => whileS (m_stand_floats_L3_c width_45 wide_72 high_73 standing_67 rights_68 lefts_69) (m_stand_floats_L3 width_45 wide_72 high_73 standing_67 rights_68 lefts_69) n s = some (row_98, left_99, right_100, paper_101)) n0_ (row_65, left_81, right_82, paper_79) h_tot_91 (.keep (.keep (.keep (.keep (.keep (.keep (.keep (.keep (.keep (.keep (.keep (.keep (.keep (.keep (.keep .nil))))))))))))))) (List.Sublist.refl _) ?_)
        intro n_ s_ hP_88
        obtain ⟨row_83, left_84, right_85, paper_86⟩ := s_
        cases n_ with
        | zero => cases hP_88
        | succ n_ =>
          obtain ⟨b_, ht_, hP_88⟩ := bind_some hP_88
          unfold m_stand_floats_L3_c at ht_
          cases ht_
          refine ⟨_, ET.is (sl' := [sv width_45, sv floats_46, sv name_70, sv side_71, sv wide_72, sv high_73, .at p_lefts_60, .at p_rights_61, .at p_standing_62, .at p_papers_63, sv row_83, .at p_paper_79, sv left_84, sv right_85, .any]) rfl (et_test (ev_op (ev_op (ev_op (ev_var (i := 13) rfl) (ev_int 0) (r2_tix (n := 0) (At.z _ _))) (ev_op (ev_var (i := 12) rfl) (ev_int 0) (r2_tix (n := 0) (At.z _ _))) r2_sub) (ev_var (i := 4) rfl) r2_lt)), fun hb_90 N_ hN_87 => ?_, fun hb_90 => ?_⟩
          · have hP_88 := ite_t hb_90 hP_88
            obtain ⟨c_, hc_89, hP_88⟩ := bind_some hP_88
            unfold m_stand_floats_L3 at hc_89
            refine SB.is (sl' := [sv width_45, sv floats_46, sv name_70, sv side_71, sv wide_72, sv high_73, .at p_lefts_60, .at p_rights_61, .at p_standing_62, .at p_papers_63, sv row_83, .at p_paper_79, sv left_84, sv right_85, .any]) (ow1 := [ol p_paper_79 paper_86, ol p_papers_63 papers_66, ol p_standing_62 standing_67, ol p_rights_61 rights_68, ol p_lefts_60 lefts_69]) rfl rfl ?_
            obtain ⟨r_92, h_r_92, hc_89⟩ := bind_some hc_89
            obtain ⟨row_93, h_row_93, hc_89⟩ := bind_some hc_89
            refine SB.seqB (fun kx_ => sb_asg (sl' := [sv width_45, sv floats_46, sv name_70, sv side_71, sv wide_72, sv high_73, .at p_lefts_60, .at p_rights_61, .at p_standing_62, .at p_papers_63, sv row_93, .at p_paper_79, sv left_84, sv right_85, .any]) rfl (EV.cast (ev_bor (i := 8) (j := 2) (sl' := [sv width_45, sv floats_46, sv name_70, sv side_71, sv wide_72, sv high_73, .at p_lefts_60, .at p_rights_61, sv standing_67, .at p_papers_63, sv row_83, .at p_paper_79, sv left_84, sv right_85, .any]) (ow1 := [ol p_paper_79 paper_86, ol p_papers_63 papers_66, ol p_rights_61 rights_68, ol p_lefts_60 lefts_69]) rfl rfl rfl rfl (ev_call (ea_cons (ev_var (i := 8) rfl) (ea_cons (ev_op (ev_var (i := 12) rfl) (ev_int 1) (r2_tix (n := 1) (At.s _ (At.z _ _)))) (ea_cons (ev_op (ev_var (i := 13) rfl) (ev_int 1) (r2_tix (n := 1) (At.s _ (At.z _ _)))) ea_nil))) h_r_92)) (Option.some.inj h_row_93)) (kx_ _ _ ?_))
            obtain ⟨paper_94, h_paper_94, hc_89⟩ := bind_some hc_89
            refine SB.seqB (fun kx_ => sb_appO (i := 11) (j := 0) rfl rfl (ev_tup (ea_cons (ev_var (i := 10) rfl) (ea_cons (ev_op (ev_var (i := 12) rfl) (ev_int 1) (r2_tix (n := 1) (At.s _ (At.z _ _)))) (ea_cons (ev_op (ev_var (i := 13) rfl) (ev_int 1) (r2_tix (n := 1) (At.s _ (At.z _ _)))) ea_nil)))) h_paper_94 (ow1 := [ol p_paper_79 paper_94, ol p_papers_63 papers_66, ol p_standing_62 standing_67, ol p_rights_61 rights_68, ol p_lefts_60 lefts_69]) rfl (kx_ _ _ ?_))
            obtain ⟨r_95, h_r_95, hc_89⟩ := bind_some hc_89
            obtain ⟨⟨left_96, right_97, _⟩, h_left_96, hc_89⟩ := bind_some hc_89
            refine sb_unp (sl' := [sv width_45, sv floats_46, sv name_70, sv side_71, sv wide_72, sv high_73, .at p_lefts_60, .at p_rights_61, .at p_standing_62, .at p_papers_63, sv row_93, .at p_paper_79, sv left_96, sv right_97, .any]) (EV.cast (ev_borT (i := 6) (j := 4) (sl' := [sv width_45, sv floats_46, sv name_70, sv side_71, sv wide_72, sv high_73, sv lefts_69, .at p_rights_61, .at p_standing_62, .at p_papers_63, sv row_93, .at p_paper_79, sv left_84, sv right_85, .any]) (ow1 := [ol p_paper_79 paper_94, ol p_papers_63 papers_66, ol p_standing_62 standing_67, ol p_rights_61 rights_68]) rfl rfl rfl rfl (ev_borT (i := 7) (j := 3) (sl' := [sv width_45, sv floats_46, sv name_70, sv side_71, sv wide_72, sv high_73, sv lefts_69, sv rights_68, .at p_standing_62, .at p_papers_63, sv row_93, .at p_paper_79, sv left_84, sv right_85, .any]) (ow1 := [ol p_paper_79 paper_94, ol p_papers_63 papers_66, ol p_standing_62 standing_67]) rfl rfl rfl rfl (ev_call (ea_cons (ev_var (i := 0) rfl) (ea_cons (ev_var (i := 6) rfl) (ea_cons (ev_var (i := 7) rfl) (ea_cons (ev_var (i := 10) rfl) (ea_cons (ev_var (i := 5) rfl) ea_nil))))) h_r_95))) (Option.some.inj h_left_96)) (gt_tup (gts_cons (gt_name rfl) (gts_cons (gt_name rfl) gts_nil))) ?_
            cases hc_89
            exact fun σ Kn H s => hN_87 _ _ (Nat.lt_succ_self _) hP_88 σ Kn H ((s.le (.keep (.keep (.keep (.keep (.keep (.keep (.keep (.keep (.keep (.keep (.keep (.keep (.keep (.keep (.keep .nil)))))))))))))))).sub (List.Sublist.refl _))
          · have hP_88 := ite_f hb_90 hP_88
            cases hP_88
            refine kx_102 _ _ ?_
            refine SB.is (sl' := [sv width_45, sv floats_46, sv name_70, sv side_71, sv wide_72, sv high_73, .at p_lefts_60, .at p_rights_61, .at p_standing_62, .at p_papers_63, sv row_98, .at p_paper_79, sv left_99, sv right_100, .any]) (ow1 := [ol p_paper_79 paper_101, ol p_papers_63 papers_66, ol p_standing_62 standing_67, ol p_rights_61 rights_68, ol p_lefts_60 lefts_69]) rfl rfl ?_
            obtain ⟨⟨thing_109, rights_110, lefts_111⟩, hj_103, hc_76⟩ := bind_some hc_76
            refine SB.cutB (sl' := [sv width_45, sv floats_46, sv name_70, sv side_71, sv wide_72, sv high_73, .at p_lefts_60, .at p_rights_61, .at p_standing_62, .at p_papers_63, sv row_98, .at p_paper_79, sv left_99, sv right_100, sv thing_109]) (ow1 := [ol p_paper_79 paper_101, ol p_papers_63 papers_66, ol p_standing_62 standing_67, ol p_rights_61 rights_110, ol p_lefts_60 lefts_111]) (fun km_112 => sb_if (b := (decide (side_71 = ("left" : Str)))) (et_test (ev_op (ev_var (i := 3) rfl) (ev_str ("left" : Str)) r2_eqS)) (fun hb_104 => ?_) (fun hb_104 => ?_)) ?_
            · have hj_103 := ite_t hb_104 hj_103
              obtain ⟨thing_105, h_thing_105, hj_103⟩ := bind_some hj_103
              refine SB.seqB (fun kx_ => sb_asg (sl' := [sv width_45, sv floats_46, sv name_70, sv side_71, sv wide_72, sv high_73, .at p_lefts_60, .at p_rights_61, .at p_standing_62, .at p_papers_63, sv row_98, .at p_paper_79, sv left_99, sv right_100, sv thing_105]) rfl (EV.cast (ev_tup (ea_cons (ev_var (i := 2) rfl) (ea_cons (ev_op (ev_var (i := 12) rfl) (ev_int 0) (r2_tix (n := 0) (At.z _ _))) (ea_cons (ev_var (i := 10) rfl) (ea_cons (ev_var (i := 4) rfl) (ea_cons (ev_var (i := 5) rfl) ea_nil)))))) (Option.some.inj h_thing_105)) (kx_ _ _ ?_))
              obtain ⟨lefts_106, h_lefts_106, hj_103⟩ := bind_some hj_103
              refine sb_appO (i := 6) (j := 4) rfl rfl (ev_var (i := 14) rfl) h_lefts_106 (ow1 := [ol p_paper_79 paper_101, ol p_papers_63 papers_66, ol p_standing_62 standing_67, ol p_rights_61 rights_68, ol p_lefts_60 lefts_106]) rfl ?_
              cases hj_103
              exact km_112 _ _ (.keep (.keep (.keep (.keep (.keep (.keep (.keep (.keep (.keep (.keep (.keep (.keep (.keep (.keep (.keep .nil))))))))))))))) (List.Sublist.refl _)
            · have hj_103 := ite_f hb_104 hj_103
              obtain ⟨thing_107, h_thing_107, hj_103⟩ := bind_some hj_103
              refine SB.seqB (fun kx_ => sb_asg (sl' := [sv width_45, sv floats_46, sv name_70, sv side_71, sv wide_72, sv high_73, .at p_lefts_60, .at p_rights_61, .at p_standing_62, .at p_papers_63, sv row_98, .at p_paper_79, sv left_99, sv right_100, sv thing_107]) rfl (EV.cast (ev_tup (ea_cons (ev_var (i := 2) rfl) (ea_cons (ev_op (ev_op (ev_var (i := 13) rfl) (ev_int 0) (r2_tix (n := 0) (At.z _ _))) (ev_var (i := 4) rfl) r2_sub) (ea_cons (ev_var (i := 10) rfl) (ea_cons (ev_var (i := 4) rfl) (ea_cons (ev_var (i := 5) rfl) ea_nil)))))) (Option.some.inj h_thing_107)) (kx_ _ _ ?_))
              obtain ⟨rights_108, h_rights_108, hj_103⟩ := bind_some hj_103
              refine sb_appO (i := 7) (j := 3) rfl rfl (ev_var (i := 14) rfl) h_rights_108 (ow1 := [ol p_paper_79 paper_101, ol p_papers_63 papers_66, ol p_standing_62 standing_67, ol p_rights_61 rights_108, ol p_lefts_60 lefts_69]) rfl ?_
              cases hj_103
              exact km_112 _ _ (.keep (.keep (.keep (.keep (.keep (.keep (.keep (.keep (.keep (.keep (.keep (.keep (.keep (.keep (.keep .nil))))))))))))))) (List.Sublist.refl _)
            obtain ⟨standing_113, h_standing_113, hc_76⟩ := bind_some hc_76
            refine SB.seqB (fun kx_ => sb_appO (i := 8) (j := 2) rfl rfl (ev_var (i := 14) rfl) h_standing_113 (ow1 := [ol p_paper_79 paper_101, ol p_papers_63 papers_66, ol p_standing_62 standing_113, ol p_rights_61 rights_110, ol p_lefts_60 lefts_111]) rfl (kx_ _ _ ?_))
            refine sb_freeze (i := 11) (j := 0) (sl' := [sv width_45, sv floats_46, sv name_70, sv side_71, sv wide_72, sv high_73, .at p_lefts_60, .at p_rights_61, .at p_standing_62, .at p_papers_63, sv row_98, sv paper_101, sv left_99, sv right_100, sv thing_109]) (ow1 := [ol p_papers_63 papers_66, ol p_standing_62 standing_113, ol p_rights_61 rights_110, ol p_lefts_60 lefts_111]) rfl rfl rfl rfl ?_
            obtain ⟨papers_114, h_papers_114, hc_76⟩ := bind_some hc_76
            refine sb_appO (i := 9) (j := 0) rfl rfl (ev_var (i := 11) rfl) h_papers_114 (ow1 := [ol p_papers_63 papers_114, ol p_standing_62 standing_113, ol p_rights_61 rights_110, ol p_lefts_60 lefts_111]) rfl ?_
            cases hc_76
            exact fun σ Kn H s => hN_74 _ hP_75 σ Kn H ((s.le (.keep (.keep (.drop (.drop (.drop (.drop (.keep (.keep (.keep (.keep (.keep (.drop (.drop (.drop (.drop .nil)))))))))))))))).sub (List.Sublist.refl _))
      · intro s_ h0
        cases h0
        refine kx_120 _ _ ?_
        refine SB.is (sl' := [sv width_45, sv floats_46, .any, .any, .any, .any, .at p_lefts_60, .at p_rights_61, .at p_standing_62, .at p_papers_63, sv row_115, .any, .any, .any, .any]) (ow1 := [ol p_papers_63 papers_116, ol p_standing_62 standing_117, ol p_rights_61 rights_118, ol p_lefts_60 lefts_119]) rfl rfl ?_
        refine sb_freeze (i := 8) (j := 1) (sl' := [sv width_45, sv floats_46, .any, .any, .any, .any, .at p_lefts_60, .at p_rights_61, sv standing_117, .at p_papers_63, sv row_115, .any, .any, .any, .any]) (ow1 := [ol p_papers_63 papers_116, ol p_rights_61 rights_118, ol p_lefts_60 lefts_119]) rfl rfl rfl rfl ?_
        refine sb_freeze (i := 9) (j := 0) (sl' := [sv width_45, sv floats_46, .any, .any, .any, .any, .at p_lefts_60, .at p_rights_61, sv standing_117, sv papers_116, sv row_115, .any, .any, .any, .any]) (ow1 := [ol p_rights_61 rights_118, ol p_lefts_60 lefts_119]) rfl rfl rfl rfl ?_
        cases hf
        exact sb_ret (ev_tup (ea_cons (ev_var (i := 8) rfl) (ea_cons (ev_var (i := 9) rfl) ea_nil))) q (List.Sublist.cons _ (List.Sublist.cons _ List.Sublist.slnil))
theorem sc__law_cell_at : FnScope ["_law_script", "_law_k"] ["_law_script", "_law_k"] (defScope s__law_cell_at) := ⟨rfl, rfl, rfl, by decide +kernel, rfl, by decide +kernel, by decide +kernel⟩
set_option maxHeartbeats 4000000 in
theorem ok__law_cell_at (T : TX K mg w) : FnOk P w K mg base CX0 1 T.a__law_cell_at T.d__law_cell_at ["_law_script", "_law_k"] (PF (τ := (Fz Int) × Int × Unit) K (fun t => m__law_cell_at t.1 t.2.1)) := by
  refine T.F__law_cell_at.ok sc__law_cell_at (fun vs H Q E h => ?_) (fun cdv A outer s H vs Q E hr h => ?_)
  · obtain ⟨Kn, t, r, ek, h, hf, q⟩ := h
    exact Tp.len h
  · obtain ⟨Kn, t, r_, ek, h, hf, q⟩ := h
    obtain ⟨script_121, k_122, u_⟩ := t
    obtain ⟨v_0, rr_, rfl, hv_0, h⟩ := h
    obtain ⟨v_1, rr_, rfl, hv_1, h⟩ := h
    obtain rfl := h
    replace hf : m__law_cell_at script_121 k_122 = some r_ := hf
    unfold m__law_cell_at at hf
    refine ⟨_, (pss_cons (ps_if (pt_cmpR op_lt (pv 1) (pe_callB k_len (by rfl) T.z_len PySem.boot_len (pa_cons (pv 0) pa_nil)) (nomark _)) (pss_one (ps_ret (pe_ix k_ixl (pv 0) (pv 1) (fun _ _ => rfl)))) pss_nil)
      (pss_one (ps_ret pe_int))), ?_⟩
    refine enter (Kn := Kn) (sl := [sv script_121, sv k_122]) ek ⟨⟨v_0, rfl, hv_0⟩, ⟨v_1, rfl, hv_1⟩, trivial⟩ ?_
    have q := rt_of q
    refine SB.seqB (fun kx_125 => sb_if (b := (decide (k_122 < (script_121.l.length : Int)))) (et_test (ev_op (ev_var (i := 1) rfl) (ev_cb (ea_cons (ev_var (i := 0) rfl) ea_nil) rc_lenF) r2_lt)) (fun hb_124 => ?_) (fun hb_124 => ?_))
    · have hf := ite_t hb_124 hf
      obtain ⟨i_126, h_i_126, hf⟩ := bind_some hf
      cases hf
      exact sb_ret (ev_op (ev_var (i := 0) rfl) (ev_var (i := 1) rfl) (r2_ixF h_i_126)) q (List.Sublist.refl _)
    · have hf := ite_f hb_124 hf
      refine sb_nx ?_
      refine kx_125 _ _ ?_
      cases hf
      exact sb_ret (ev_int 0) q (List.Sublist.refl _)
theorem sc__law_numbers : FnScope ["_law_cell", "_law_many", "_law_found", "_law_number"] ["_law_cell", "_law_many"] (defScope s__law_numbers) := ⟨rfl, rfl, rfl, by decide +kernel, rfl, by decide +kernel, by decide +kernel⟩
set_option maxHeartbeats 4000000 in
theorem ok__law_numbers (T : TX K mg w) : FnOk P w K mg base CX0 1 T.a__law_numbers T.d__law_numbers ["_law_cell", "_law_many"] (PL (τ := Int × Int × Unit) K (fun t => m__law_numbers t.1 t.2.1)) := by
  refine T.F__law_numbers.ok sc__law_numbers (fun vs H Q E h => ?_) (fun cdv A outer s H vs Q E hr h => ?_)
  · obtain ⟨Kn, t, r, ek, h, hf, q⟩ := h
    exact Tp.len h
  · obtain ⟨Kn, t, r_, ek, h, hf, q⟩ := h
    obtain ⟨cell_127, many_128, u_⟩ := t
    obtain ⟨v_0, rr_, rfl, hv_0, h⟩ := h
    obtain ⟨v_1, rr_, rfl, hv_1, h⟩ := h
    obtain rfl := h
    replace hf : m__law_numbers cell_127 many_128 = some r_ := hf
    unfold m__law_numbers at hf
    refine ⟨_, (pss_cons (ps_set (i := 2) sc__law_numbers.nd rfl (.inl rfl) (pe_lst pa_nil))
      (pss_cons (ps_set (i := 3) sc__law_numbers.nd rfl (.inl rfl) (pe_op op_fdiv (pv 0) pe_int))
      (pss_cons (ps_while PassesOwn.never (PW.pt (pw_and (pt_cmpR op_eq (pe_op op_mod (pv 0) pe_int) pe_int (nomark _)) (pw_and (pt_cmpR op_gt (pv 3) pe_int (nomark _)) (pw_and1 (pt_cmpR op_lt (pe_callB k_len (by rfl) T.z_len PySem.boot_len (pa_cons (pv 2) pa_nil)) (pv 1) (nomark _)))))) (pss_cons (ps_expr (pe_bm PySem.F.plainAttrs_list PySem.F.slot_list_append PySem.F.type_list_append mt_append (pv 2) (pa_cons (pe_op op_mod (pv 3) (pe_op op_pow pe_int pe_int)) pa_nil)))
      (pss_one (ps_set (i := 3) sc__law_numbers.nd rfl (.inl rfl) (pe_op op_fdivW (pv 3) (pe_op op_pow pe_int pe_int))))))
      (pss_cons (ps_set (i := 3) sc__law_numbers.nd rfl (.inl rfl) (pe_op op_mod (pv 0) pe_int))
      (pss_cons (ps_while PassesOwn.never (pt_cmpR op_lt (pe_callB k_len (by rfl) T.z_len PySem.boot_len (pa_cons (pv 2) pa_nil)) (pv 1) (nomark _)) (pss_cons (ps_set (i := 3) sc__law_numbers.nd rfl (.inl rfl) (pe_op op_mod (pe_op op_mul (pe_op op_add (pe_op op_add (pv 3) (pe_callB k_len (by rfl) T.z_len PySem.boot_len (pa_cons (pv 2) pa_nil))) pe_int) pe_int) pe_int))
      (pss_one (ps_expr (pe_bm PySem.F.plainAttrs_list PySem.F.slot_list_append PySem.F.type_list_append mt_append (pv 2) (pa_cons (pe_op op_mod (pe_op op_mul (pv 3) pe_int) pe_int) pa_nil))))))
      (pss_one (ps_ret (pv 2)))))))), ?_⟩
    refine enter (Kn := Kn) (sl := [sv cell_127, sv many_128, .any, .any]) ek ⟨⟨v_0, rfl, hv_0⟩, ⟨v_1, rfl, hv_1⟩, trivial, trivial, trivial⟩ ?_
    have q := rn_of q
    obtain ⟨found_129, h_found_129, hf⟩ := bind_some hf
    refine SB.seqB (fun kx_ => sb_asgO (sl' := fun p_found_129 => [sv cell_127, sv many_128, .at p_found_129, .any]) (fun _ => rfl) (EN.cast (en_lst el_nil) (Option.some.inj h_found_129)) (fun p_found_129 => (kx_ _ _ ?_)))
    obtain ⟨number_130, h_number_130, hf⟩ := bind_some hf
    refine SB.seqB (fun kx_ => sb_asg (sl' := [sv cell_127, sv many_128, .at p_found_129, sv number_130]) rfl (EV.cast (ev_op (ev_var (i := 0) rfl) (ev_int 2) r2_div) (Option.some.inj h_number_130)) (kx_ _ _ ?_))
    obtain ⟨⟨number_140, found_141⟩, h_tot_137, hf⟩ := bind_some hf
    obtain ⟨n0_, h_tot_137⟩ := whileF_some h_tot_137
    refine SB.seqB (fun kx_142 => sb_while (Sx := Int × (List Int)) (fun s => [sv cell_127, sv many_128, .at p_found_129, sv s.1]) (fun s => [ol p_found_129 s.2]) (fun n s => whileS (m__law_numbers_L1_c cell_127 many_128) (m__law_numbers_L1 cell_127 many_128) n s = some (number_140, found_141)) n0_ (number_130, found_129) h_tot_137 (.keep (.keep (.keep (.keep .nil)))) (List.Sublist.refl _) ?_)
    intro n_ s_ hP_134
    obtain ⟨number_131, found_132⟩ := s_
    cases n_ with
    | zero => cases hP_134
    | succ n_ =>
      obtain ⟨b_, ht_, hP_134⟩ := bind_some hP_134
      unfold m__law_numbers_L1_c at ht_
      cases ht_
      refine ⟨_, ET.is (sl' := [sv cell_127, sv many_128, .at p_found_129, sv number_131]) rfl (et_and (et_test (ev_op (ev_op (ev_var (i := 0) rfl) (ev_int 2) r2_mod) (ev_int 1) r2_eqI)) (fun _ => (et_and (et_test (ev_op (ev_var (i := 3) rfl) (ev_int 0) r2_gt)) (fun _ => (et_test (ev_bor (i := 2) (j := 0) (sl' := [sv cell_127, sv many_128, sv found_132, sv number_131]) (ow1 := []) rfl rfl rfl rfl (ev_op (ev_cb (ea_cons (ev_var (i := 2) rfl) ea_nil) rc_len) (ev_var (i := 1) rfl) r2_lt))))))), fun hb_136 N_ hN_133 => ?_, fun hb_136 => ?_⟩
      · have hP_134 := ite_t hb_136 hP_134
        obtain ⟨c_, hc_135, hP_134⟩ := bind_some hP_134
        unfold m__law_numbers_L1 at hc_135
        refine SB.is (sl' := [sv cell_127, sv many_128, .at p_found_129, sv number_131]) (ow1 := [ol p_found_129 found_132]) rfl rfl ?_
        obtain ⟨found_138, h_found_138, hc_135⟩ := bind_some hc_135
        refine SB.seqB (fun kx_ => sb_appO (i := 2) (j := 0) rfl rfl (ev_op (ev_var (i := 3) rfl) (ev_op (ev_int 10) (ev_int 10) (r2_pow (r := 10000000000))) r2_mod) h_found_138 (ow1 := [ol p_found_129 found_138]) rfl (kx_ _ _ ?_))
        obtain ⟨number_139, h_number_139, hc_135⟩ := bind_some hc_135
        refine sb_asg (sl' := [sv cell_127, sv many_128, .at p_found_129, sv number_139]) rfl (EV.cast (ev_op (ev_var (i := 3) rfl) (ev_op (ev_int 10) (ev_int 10) (r2_pow (r := 10000000000))) r2_divw) (Option.some.inj h_number_139)) ?_
        cases hc_135
        exact fun σ Kn H s => hN_133 _ _ (Nat.lt_succ_self _) hP_134 σ Kn H ((s.le (.keep (.keep (.keep (.keep .nil))))).sub (List.Sublist.refl _))
      · have hP_134 := ite_f hb_136 hP_134
        cases hP_134
        refine kx_142 _ _ ?_
        refine SB.is (sl' := [sv cell_127, sv many_128, .at p_found_129, sv number_140]) (ow1 := [ol p_found_129 found_141]) rfl rfl ?_
        obtain ⟨number_143, h_number_143, hf⟩ := bind_some hf
        refine SB.seqB (fun kx_ => sb_asg (sl' := [sv cell_127, sv many_128, .at p_found_129, sv number_143]) rfl (EV.cast (ev_op (ev_var (i := 0) rfl) (ev_int 2147483647) r2_mod) (Option.some.inj h_number_143)) (kx_ _ _ ?_))
        obtain ⟨⟨number_153, found_154⟩, h_tot_150, hf⟩ := bind_some hf
        obtain ⟨n0_, h_tot_150⟩ := whileF_some h_tot_150
        refine SB.seqB (fun kx_155 => sb_while (Sx := Int × (List Int)) (fun s => [sv cell_127, sv many_128, .at p_found_129, sv s.1]) (fun s => [ol p_found_129 s.2]) (fun n s => whileS (m__law_numbers_L2_c many_128) (m__law_numbers_L2 many_128) n s = some (number_153, found_154)) n0_ (number_143, found_141) h_tot_150 (.keep (.keep (.keep (.keep .nil)))) (List.Sublist.refl _) ?_)
        intro n_ s_ hP_147
        obtain ⟨number_144, found_145⟩ := s_
        cases n_ with
        | zero => cases hP_147
        | succ n_ =>
          obtain ⟨b_, ht_, hP_147⟩ := bind_some hP_147
          unfold m__law_numbers_L2_c at ht_
          cases ht_
          refine ⟨_, ET.is (sl' := [sv cell_127, sv many_128, .at p_found_129, sv number_144]) rfl (et_test (ev_bor (i := 2) (j := 0) (sl' := [sv cell_127, sv many_128, sv found_145, sv number_144]) (ow1 := []) rfl rfl rfl rfl (ev_op (ev_cb (ea_cons (ev_var (i := 2) rfl) ea_nil) rc_len) (ev_var (i := 1) rfl) r2_lt))), fun hb_149 N_ hN_146 => ?_, fun hb_149 => ?_⟩
          · have hP_147 := ite_t hb_149 hP_147
            obtain ⟨c_, hc_148, hP_147⟩ := bind_some hP_147
            unfold m__law_numbers_L2 at hc_148
            refine SB.is (sl' := [sv cell_127, sv many_128, .at p_found_129, sv number_144]) (ow1 := [ol p_found_129 found_145]) rfl rfl ?_
            obtain ⟨number_151, h_number_151, hc_148⟩ := bind_some hc_148
            refine SB.seqB (fun kx_ => sb_asg (sl' := [sv cell_127, sv many_128, .at p_found_129, sv number_151]) rfl (EV.cast (ev_op (ev_op (ev_op (ev_op (ev_var (i := 3) rfl) (ev_bor (i := 2) (j := 0) (sl' := [sv cell_127, sv many_128, sv found_145, sv number_144]) (ow1 := []) rfl rfl rfl rfl (ev_cb (ea_cons (ev_var (i := 2) rfl) ea_nil) rc_len)) r2_add) (ev_int 1) r2_add) (ev_int 48271) r2_mulr) (ev_int 2147483647) r2_mod) (Option.some.inj h_number_151)) (kx_ _ _ ?_))
            obtain ⟨found_152, h_found_152, hc_148⟩ := bind_some hc_148
            refine sb_appO (i := 2) (j := 0) rfl rfl (ev_op (ev_op (ev_var (i := 3) rfl) (ev_int 69621) r2_mulr) (ev_int 2147483629) r2_mod) h_found_152 (ow1 := [ol p_found_129 found_152]) rfl ?_
            cases hc_148
            exact fun σ Kn H s => hN_146 _ _ (Nat.lt_succ_self _) hP_147 σ Kn H ((s.le (.keep (.keep (.keep (.keep .nil))))).sub (List.Sublist.refl _))
          · have hP_147 := ite_f hb_149 hP_147
            cases hP_147
            refine kx_155 _ _ ?_
            refine SB.is (sl' := [sv cell_127, sv many_128, .at p_found_129, sv number_153]) (ow1 := [ol p_found_129 found_154]) rfl rfl ?_
            cases hf
            exact sb_retO (i := 2) (j := 0) rfl rfl q (List.Sublist.cons _ List.Sublist.slnil)
theorem sc__law_names : FnScope ["_law_cell", "_law_many", "_law_some", "_law_size", "_law_at", "_law_names_here", "_law_turn", "_law_name", "_law_k", "_law_more"] ["_law_cell", "_law_many"] (defScope s__law_names) := ⟨rfl, rfl, rfl, by decide +kernel, rfl, by decide +kernel, by decide +kernel⟩
set_option maxHeartbeats 4000000 in
theorem ok__law_names (T : TX K mg w) : FnOk P w K mg base CX0 2 T.a__law_names T.d__law_names ["_law_cell", "_law_many"] (PL (τ := Int × Int × Unit) K (fun t => m__law_names t.1 t.2.1)) := by
  refine T.F__law_names.ok sc__law_names (fun vs H Q E h => ?_) (fun cdv A outer s H vs Q E hr h => ?_)
  · obtain ⟨Kn, t, r, ek, h, hf, q⟩ := h
    exact Tp.len h
  · obtain ⟨Kn, t, r_, ek, h, hf, q⟩ := h
    obtain ⟨cell_156, many_157, u_⟩ := t
    obtain ⟨v_0, rr_, rfl, hv_0, h⟩ := h
    obtain ⟨v_1, rr_, rfl, hv_1, h⟩ := h
    obtain rfl := h
    replace hf : m__law_names cell_156 many_157 = some r_ := hf
    unfold m__law_names at hf
    refine ⟨_, (pss_cons (ps_set (i := 2) sc__law_names.nd rfl (.inl rfl) (pe_call (ok__law_numbers T) hr (by rfl) T.g__law_numbers T.F__law_numbers.kp T.b__law_numbers .nil pass0 (pa_cons (pv 0) (pa_cons pe_int pa_nil))))
      (pss_cons (ps_set (i := 3) sc__law_names.nd rfl (.inl rfl) (pe_op op_add pe_int (pe_op op_mod (pe_ix k_ixl (pv 2) pe_int (fun _ _ => rfl)) pe_int)))
      (pss_cons (ps_set (i := 4) sc__law_names.nd rfl (.inl rfl) (pe_op op_mod (pe_ix k_ixl (pv 2) pe_int (fun _ _ => rfl)) (pv 3)))
      (pss_cons (ps_set (i := 5) sc__law_names.nd rfl (.inl rfl) (pe_lst pa_nil))
      (pss_cons (ps_for PassesOwn.never rfl (pi_range1 (by rfl) T.z_range (pa_cons (pv 1) pa_nil)) (pg_name (i := 6) sc__law_names.nd rfl (.inl rfl)) (pss_cons (ps_set (i := 7) sc__law_names.nd rfl (.inl rfl) pe_str)
      (pss_cons (ps_for PassesOwn.never rfl (pi_range1 (by rfl) T.z_range (pa_cons (pv 3) pa_nil)) (pg_name (i := 8) sc__law_names.nd rfl (.inl rfl)) (pss_cons (ps_set (i := 9) sc__law_names.nd rfl (.inl rfl) (pe_op op_mul (pv 6) (pe_callTy call_int1 (by rfl) T.z_int (by decide +kernel) (pa_cons (pe_cmpR op_eq (pv 8) (pv 4) (nomark _)) pa_nil))))
      (pss_one (ps_set (i := 7) sc__law_names.nd rfl (.inl rfl) (pe_op op_add_str (pv 7) (pe_ix ix_str pe_str (pe_op op_mod (pe_op op_add (pe_ix k_ixl (pv 2) (pv 8) (fun _ _ => rfl)) (pv 9)) pe_int) (fun _ _ => rfl)))))))
      (pss_one (ps_expr (pe_bm PySem.F.plainAttrs_list PySem.F.slot_list_append PySem.F.type_list_append mt_append (pv 5) (pa_cons (pv 7) pa_nil)))))))
      (pss_one (ps_ret (pv 5)))))))), ?_⟩
    refine enter (Kn := Kn) (sl := [sv cell_156, sv many_157, .any, .any, .any, .any, .any, .any, .any, .any]) ek ⟨⟨v_0, rfl, hv_0⟩, ⟨v_1, rfl, hv_1⟩, trivial, trivial, trivial, trivial, trivial, trivial, trivial, trivial, trivial⟩ ?_
    have q := rn_of q
    obtain ⟨r_158, h_r_158, hf⟩ := bind_some hf
    obtain ⟨some_159, h_some_159, hf⟩ := bind_some hf
    refine SB.seqB (fun kx_ => sb_asg (sl' := [sv cell_156, sv many_157, sv some_159, .any, .any, .any, .any, .any, .any, .any]) rfl (EV.cast (EN.ev (en_call (ea_cons (ev_var (i := 0) rfl) (ea_cons (ev_int 10) ea_nil)) h_r_158)) (Option.some.inj h_some_159)) (kx_ _ _ ?_))
    obtain ⟨i_160, h_i_160, hf⟩ := bind_some hf
    obtain ⟨size_161, h_size_161, hf⟩ := bind_some hf
    refine SB.seqB (fun kx_ => sb_asg (sl' := [sv cell_156, sv many_157, sv some_159, sv size_161, .any, .any, .any, .any, .any, .any]) rfl (EV.cast (ev_op (ev_int 1) (ev_op (ev_op (ev_var (i := 2) rfl) (ev_int 8) (r2_ixL h_i_160)) (ev_int 8) r2_mod) r2_add) (Option.some.inj h_size_161)) (kx_ _ _ ?_))
    obtain ⟨i_162, h_i_162, hf⟩ := bind_some hf
    obtain ⟨r_163, h_r_163, hf⟩ := bind_some hf
    obtain ⟨at_164, h_at_164, hf⟩ := bind_some hf
    refine SB.seqB (fun kx_ => sb_asg (sl' := [sv cell_156, sv many_157, sv some_159, sv size_161, sv at_164, .any, .any, .any, .any, .any]) rfl (EV.cast (ev_op (ev_op (ev_var (i := 2) rfl) (ev_int 9) (r2_ixL h_i_162)) (ev_var (i := 3) rfl) (r2_modO h_r_163)) (Option.some.inj h_at_164)) (kx_ _ _ ?_))
    obtain ⟨names_here_165, h_names_here_165, hf⟩ := bind_some hf
    refine SB.seqB (fun kx_ => sb_asgO (sl' := fun p_names_here_165 => [sv cell_156, sv many_157, sv some_159, sv size_161, sv at_164, .at p_names_here_165, .any, .any, .any, .any]) (fun _ => rfl) (EN.cast (en_lst el_nil) (Option.some.inj h_names_here_165)) (fun p_names_here_165 => (kx_ _ _ ?_)))
    obtain ⟨rg_166, h_rg_166, hf⟩ := bind_some hf
    obtain ⟨names_here_192, h_tot_173, hf⟩ := bind_some hf
    refine SB.seqB (fun kx_193 => sb_for (β := Int) (Sx := (List Str)) (fun s => [sv cell_156, sv many_157, sv some_159, sv size_161, sv at_164, .at p_names_here_165, .any, .any, .any, .any]) (fun s => [ol p_names_here_165 s]) (fun x s => [sv cell_156, sv many_157, sv some_159, sv size_161, sv at_164, .at p_names_here_165, sv x, .any, .any, .any]) [6] (fun xs s => forS (m__law_names_L1 some_159 size_161 at_164) xs s = some names_here_192) names_here_165 (IT.m (it_rng1 (ea_cons (ev_var (i := 1) rfl) ea_nil) h_rg_166)) h_tot_173 (.keep (.keep (.keep (.keep (.keep (.keep (.keep (.keep (.keep (.keep .nil)))))))))) (List.Sublist.refl _) (fun x s => (gt_name rfl)) ?_ ?_)
    · intro Kn1 b1 turn_168 rest_ names_here_167 hP_170 N_ hN_169
      obtain ⟨c_, hc_171, hP_170⟩ := bind_some hP_170
      have q_172 := q.base b1
      unfold m__law_names_L1 at hc_171
      refine SB.is (sl' := [sv cell_156, sv many_157, sv some_159, sv size_161, sv at_164, .at p_names_here_165, sv turn_168, .any, .any, .any]) (ow1 := [ol p_names_here_165 names_here_167]) rfl rfl ?_
      obtain ⟨name_174, h_name_174, hc_171⟩ := bind_some hc_171
      refine SB.seqB (fun kx_ => sb_asg (sl' := [sv cell_156, sv many_157, sv some_159, sv size_161, sv at_164, .at p_names_here_165, sv turn_168, sv name_174, .any, .any]) rfl (EV.cast (ev_str ("" : Str)) (Option.some.inj h_name_174)) (kx_ _ _ ?_))
      obtain ⟨rg_175, h_rg_175, hc_171⟩ := bind_some hc_171
      obtain ⟨name_189, h_tot_182, hc_171⟩ := bind_some hc_171
      refine SB.seqB (fun kx_190 => sb_for (β := Int) (Sx := Str) (fun s => [sv cell_156, sv many_157, sv some_159, sv size_161, sv at_164, .at p_names_here_165, sv turn_168, sv s, .any, .any]) (fun s => [ol p_names_here_165 names_here_167]) (fun x s => [sv cell_156, sv many_157, sv some_159, sv size_161, sv at_164, .at p_names_here_165, sv turn_168, sv s, sv x, .any]) [8] (fun xs s => forS (m__law_names_L2 some_159 at_164 turn_168) xs s = some name_189) name_174 (IT.m (it_rng1 (ea_cons (ev_var (i := 3) rfl) ea_nil) h_rg_175)) h_tot_182 (.keep (.keep (.keep (.keep (.keep (.keep (.keep (.keep (.keep (.keep .nil)))))))))) (List.Sublist.refl _) (fun x s => (gt_name rfl)) ?_ ?_)
      · intro Kn1 b1 k_177 rest_ name_176 hP_179 N_ hN_178
        obtain ⟨c_, hc_180, hP_179⟩ := bind_some hP_179
        have q_181 := q_172.base b1
        unfold m__law_names_L2 at hc_180
        refine SB.is (sl' := [sv cell_156, sv many_157, sv some_159, sv size_161, sv at_164, .at p_names_here_165, sv turn_168, sv name_176, sv k_177, .any]) (ow1 := [ol p_names_here_165 names_here_167]) rfl rfl ?_
        obtain ⟨m_183, h_m_183, hc_180⟩ := bind_some hc_180
        obtain ⟨more_184, h_more_184, hc_180⟩ := bind_some hc_180
        refine SB.seqB (fun kx_ => sb_asg (sl' := [sv cell_156, sv many_157, sv some_159, sv size_161, sv at_164, .at p_names_here_165, sv turn_168, sv name_176, sv k_177, sv more_184]) rfl (EV.cast (ev_op (ev_var (i := 6) rfl) (ev_cb (ea_cons (ev_op (ev_var (i := 8) rfl) (ev_var (i := 4) rfl) r2_eqI) ea_nil) rc_intB) (r2_mulO h_m_183)) (Option.some.inj h_more_184)) (kx_ _ _ ?_))
        obtain ⟨i_185, h_i_185, hc_180⟩ := bind_some hc_180
        obtain ⟨i_186, h_i_186, hc_180⟩ := bind_some hc_180
        obtain ⟨t_187, h_t_187, hc_180⟩ := bind_some hc_180
        obtain ⟨name_188, h_name_188, hc_180⟩ := bind_some hc_180
        refine sb_asg (sl' := [sv cell_156, sv many_157, sv some_159, sv size_161, sv at_164, .at p_names_here_165, sv turn_168, sv name_188, sv k_177, sv more_184]) rfl (EV.cast (ev_op (ev_var (i := 7) rfl) (ev_op (ev_str ("abcdefghijklmnopqrstuvwxyz" : Str)) (ev_op (ev_op (ev_op (ev_var (i := 2) rfl) (ev_var (i := 8) rfl) (r2_ixL h_i_185)) (ev_var (i := 9) rfl) r2_add) (ev_int 26) r2_mod) (r2_ixS h_i_186)) (r2_addS h_t_187)) (Option.some.inj h_name_188)) ?_
        cases hc_180
        exact fun σ Kn H s => hN_178 _ hP_179 σ Kn H ((s.le (.keep (.keep (.keep (.keep (.keep (.keep (.keep (.keep (.drop (.drop .nil))))))))))).sub (List.Sublist.refl _))
      · intro s_ h0
        cases h0
        refine kx_190 _ _ ?_
        refine SB.is (sl' := [sv cell_156, sv many_157, sv some_159, sv size_161, sv at_164, .at p_names_here_165, sv turn_168, sv name_189, .any, .any]) (ow1 := [ol p_names_here_165 names_here_167]) rfl rfl ?_
        obtain ⟨names_here_191, h_names_here_191, hc_171⟩ := bind_some hc_171
        refine sb_appO (i := 5) (j := 0) rfl rfl (ev_var (i := 7) rfl) h_names_here_191 (ow1 := [ol p_names_here_165 names_here_191]) rfl ?_
        cases hc_171
        exact fun σ Kn H s => hN_169 _ hP_170 σ Kn H ((s.le (.keep (.keep (.keep (.keep (.keep (.keep (.drop (.drop (.keep (.keep .nil))))))))))).sub (List.Sublist.refl _))
    · intro s_ h0
      cases h0
      refine kx_193 _ _ ?_
      refine SB.is (sl' := [sv cell_156, sv many_157, sv some_159, sv size_161, sv at_164, .at p_names_here_165, .any, .any, .any, .any]) (ow1 := [ol p_names_here_165 names_here_192]) rfl rfl ?_
      cases hf
      exact sb_retO (i := 5) (j := 0) rfl rfl q (List.Sublist.cons _ List.Sublist.slnil)
theorem sc__law_told : FnScope ["_law_wide", "_law_floats", "_law_found", "e"] ["_law_wide", "_law_floats"] (defScope s__law_told) := ⟨rfl, rfl, rfl, by decide +kernel, rfl, by decide +kernel, by decide +kernel⟩
set_option maxHeartbeats 4000000 in
theorem ok__law_told (T : TX K mg w) : FnOk P w K mg base CX0 4 T.a__law_told T.d__law_told ["_law_wide", "_law_floats"] (PF (τ := Int × (List (Str × Str × Int × Int × Unit)) × Unit) K (fun t => m__law_told t.1 t.2.1)) := by
  refine T.F__law_told.ok sc__law_told (fun vs H Q E h => ?_) (fun cdv A outer s H vs Q E hr h => ?_)
  · obtain ⟨Kn, t, r, ek, h, hf, q⟩ := h
    exact Tp.len h
  · obtain ⟨Kn, t, r_, ek, h, hf, q⟩ := h
    obtain ⟨wide_194, floats_195, u_⟩ := t
    obtain ⟨v_0, rr_, rfl, hv_0, h⟩ := h
    obtain ⟨v_1, rr_, rfl, hv_1, h⟩ := h
    obtain rfl := h
    replace hf : m__law_told wide_194 floats_195 = some r_ := hf
    unfold m__law_told at hf
    refine ⟨_, (pss_cons (ps_set (i := 2) sc__law_told.nd rfl (.inl rfl) pe_non)
      (Evl.pss_cut (ps_try_as (i := 3) rfl rfl sc__law_told.nd rfl rfl ⟨rfl, by decide, .inl T.gC_TooWide⟩ takes0 (fun W pn xe tk _ => (pss_one (ps_set (i := 2) sc__law_told.nd rfl (.inl rfl) (pe_callB k_len (by rfl) T.z_len PySem.boot_len (pa_cons (pe_ix k_ixt (pe_callS (ok_stand_floats T) hr (by rfl) T.g_stand_floats T.F_stand_floats.kp T.b_stand_floats (fun σ => passAt tk σ) (pa_cons (pv 0) (pa_cons (pv 1) pa_nil))) pe_int (fun _ _ => rfl)) pa_nil))))) (fun a oe cls d pn hz hf => (pss_one (ps_set (i := 2) sc__law_told.nd rfl (.inl rfl) (pe_tup (pa_cons pe_str (pa_cons (pe_xf T.xf_TooWide (T.no_TooWide _ (by decide)) hz hf (pv 3)) (pa_cons (pe_callB (call_isX T.isx_TooWide hz hf) (by rfl) T.z_isinstance (by decide +kernel) (pa_cons (pv 3) (pa_cons (pe_bltn (v := .ty "ValueError") (u := .type "ValueError") (by rfl) T.z_ValueError (by decide +kernel) rfl) pa_nil))) pa_nil))))))))
      (pss_one (ps_ret (pv 2))))), ?_⟩
    refine enter (Kn := Kn) (sl := [sv wide_194, sv floats_195, .any, .any]) ek ⟨⟨v_0, rfl, hv_0⟩, ⟨v_1, rfl, hv_1⟩, trivial, trivial, trivial⟩ ?_
    have q := rt_of q
    obtain ⟨found_196, h_found_196, hf⟩ := bind_some hf
    refine SB.seqB (fun kx_ => sb_asg (sl' := [sv wide_194, sv floats_195, sv found_196, .any]) rfl (EV.cast (ev_up ev_nn) (Option.some.inj h_found_196)) (kx_ _ _ ?_))
    obtain ⟨found_207, hj_197, hf⟩ := bind_some hf
    refine SB.cutB (sl' := [sv wide_194, sv floats_195, sv found_207, .any]) (ow1 := []) (fun km_198 => ?_) ?_
    · intro σ_ Kn_ H_ s_
      obtain ⟨r_199_0, h_r_199, hj_197⟩ := bind_some hj_197
      obtain ⟨ex_200, rfl⟩ | ⟨r_199, rfl⟩ := er_cases r_199_0
      · obtain ⟨hx_201, hj_197⟩ := ite_some hj_197
        refine sb_asgR (er_cb (er_opL (er_call (ea_cons (ev_var (i := 0) rfl) (ea_cons (ev_var (i := 1) rfl) ea_nil)) h_r_199))) (rw_as (exm_TooWide T _ (of_decide_eq_true hx_201)) (fun _ _ _ => rfl) (sl' := fun a_ cls_ d_ => [sv wide_194, sv floats_195, sv found_196, sv (Xv.mk ex_200 : Xv (cmT T) a_ cls_ d_)]) (fun a_ cls_ d_ => ?_)) σ_ Kn_ H_ s_
        obtain ⟨fl_204, h_fl_204, hj_197⟩ := bind_some hj_197
        obtain ⟨xc_205, h_xc_205, hj_197⟩ := bind_some hj_197
        obtain ⟨found_206, h_found_206, hj_197⟩ := bind_some hj_197
        refine sb_asg (sl' := [sv wide_194, sv floats_195, sv found_206, sv (Xv.mk ex_200 : Xv (cmT T) a_ cls_ d_)]) rfl (EV.cast (ev_up (ev_tup (ea_cons (ev_str ("too wide" : Str)) (ea_cons (ev_xf (cm := cmT T) (n := "TooWide") (ev_var (i := 3) rfl) rfl h_fl_204) (ea_cons (ev_cb (ea_cons (ev_var (i := 3) rfl) (ea_cons (ev_ty "ValueError") ea_nil)) (rc_isX (cm := cmT T) rfl h_xc_205 T.kit_TooWide_ValueError)) ea_nil))))) (Option.some.inj h_found_206)) ?_
        cases hj_197
        exact sn_suite (i := 3) rfl (km_198 _ _ (.keep (.keep (.keep (.keep .nil)))) (List.Sublist.refl _))
      cases hj_197
      exact sb_asg (i := 2) (sl' := [sv wide_194, sv floats_195, sv (upD (r_199.1.length : Int)), .any]) rfl (ev_up (ev_cb (ea_cons (ev_op (ev_callX (ea_cons (ev_var (i := 0) rfl) (ea_cons (ev_var (i := 1) rfl) ea_nil)) h_r_199) (ev_int 0) (r2_tix (n := 0) (At.z _ _))) ea_nil) rc_len)) (km_198 _ _ (.keep (.keep (.keep (.keep .nil)))) (List.Sublist.refl _)) σ_ Kn_ H_ s_
    cases hf
    exact sb_ret (ev_var (i := 2) rfl) q (List.Sublist.refl _)
theorem sc_law : FnScope ["_law_script", "_law_names_here", "_law_wide", "_law_floats", "_law_k", "_law_cell", "_law_some", "_law_w", "_law_due", "_law_name", "_law_side", "_law_h", "_law_held", "_law_one"] ["_law_script"] (defScope s_law) := ⟨rfl, rfl, rfl, by decide +kernel, rfl, by decide +kernel, by decide +kernel⟩
set_option maxHeartbeats 4000000 in
theorem ok_law (T : TX K mg w) : FnOk P w K mg base CX0 5 T.a_law T.d_law ["_law_script"] (PF (τ := (Fz Int) × Unit) K (fun t => m_law t.1)) := by
  refine T.F_law.ok sc_law (fun vs H Q E h => ?_) (fun cdv A outer s H vs Q E hr h => ?_)
  · obtain ⟨Kn, t, r, ek, h, hf, q⟩ := h
    exact Tp.len h
  · obtain ⟨Kn, t, r_, ek, h, hf, q⟩ := h
    obtain ⟨script_208, u_⟩ := t
    obtain ⟨v_0, rr_, rfl, hv_0, h⟩ := h
    obtain rfl := h
    replace hf : m_law script_208 = some r_ := hf
    unfold m_law at hf
    refine ⟨_, (pss_cons (ps_set (i := 1) sc_law.nd rfl (.inl rfl) (pe_call (ok__law_names T) (hr.mono (by decide)) (by rfl) T.g__law_names T.F__law_names.kp T.b__law_names .nil pass0 (pa_cons (pe_call (ok__law_cell_at T) (hr.mono (by decide)) (by rfl) T.g__law_cell_at T.F__law_cell_at.kp T.b__law_cell_at .nil pass0 (pa_cons (pv 0) (pa_cons pe_int pa_nil))) (pa_cons pe_int pa_nil))))
      (pss_cons (ps_set (i := 2) sc_law.nd rfl (.inr rfl) (pe_op op_mod (pe_call (ok__law_cell_at T) (hr.mono (by decide)) (by rfl) T.g__law_cell_at T.F__law_cell_at.kp T.b__law_cell_at .nil pass0 (pa_cons (pv 0) (pa_cons pe_int pa_nil))) pe_int))
      (pss_cons (ps_set (i := 3) sc_law.nd rfl (.inl rfl) (pe_lst pa_nil))
      (pss_cons (ps_for PassesOwn.never rfl (pi_enum (by rfl) T.z_enumerate (pa_cons (pe_slice k_sll (pv 0) (po_some pe_int) (po_some pe_int)) pa_nil)) (kpg_tup (pgs_cons (pg_name (i := 4) sc_law.nd rfl (.inl rfl)) (pgs_cons (pg_name (i := 5) sc_law.nd rfl (.inl rfl)) pgs_nil))) (pss_cons (ps_set (i := 6) sc_law.nd rfl (.inl rfl) (pe_call (ok__law_numbers T) (hr.mono (by decide)) (by rfl) T.g__law_numbers T.F__law_numbers.kp T.b__law_numbers .nil pass0 (pa_cons (pv 5) (pa_cons pe_int pa_nil))))
      (pss_cons (ps_set (i := 7) sc_law.nd rfl (.inl rfl) (pe_op op_add pe_int (pe_ix k_ixl (pe_lst (pa_cons (pe_op op_mod (pe_ix k_ixl (pv 6) pe_int (fun _ _ => rfl)) pe_int) (pa_cons (pe_op op_mod (pe_ix k_ixl (pv 6) pe_int (fun _ _ => rfl)) pe_int) (pa_cons (pe_op op_mod (pe_ix k_ixl (pv 6) pe_int (fun _ _ => rfl)) pe_int) (pa_cons (pe_op op_mod (pe_ix k_ixl (pv 6) pe_int (fun _ _ => rfl)) (pe_op op_pow pe_int pe_int)) pa_nil))))) (pe_op op_mod (pe_ix k_ixl (pv 6) pe_int (fun _ _ => rfl)) pe_int) (fun _ _ => rfl))))
      (pss_one (ps_expr (pe_bm PySem.F.plainAttrs_list PySem.F.slot_list_append PySem.F.type_list_append mt_append (pv 3) (pa_cons (pe_tup (pa_cons (pe_ix k_ixl (pv 1) (pv 4) (fun _ _ => rfl)) (pa_cons (pe_ix k_ixl (pe_lst (pa_cons pe_str (pa_cons pe_str pa_nil))) (pe_op op_mod (pe_ix k_ixl (pv 6) pe_int (fun _ _ => rfl)) pe_int) (fun _ _ => rfl)) (pa_cons (pv 7) (pa_cons (pe_op op_add pe_int (pe_op op_mod (pe_ix k_ixl (pv 6) pe_int (fun _ _ => rfl)) pe_int)) pa_nil))))) pa_nil)))))))
      (pss_cons (ps_set (i := 8) sc_law.nd rfl (.inl rfl) (pe_callB k_len (by rfl) T.z_len PySem.boot_len (pa_cons (pv 3) pa_nil)))
      (pss_cons (ps_for PassesOwn.never rfl (pi_reversed (by rfl) T.z_reversed (pa_cons (pv 3) pa_nil)) (kpg_tup (pgs_cons (pg_name (i := 9) sc_law.nd rfl (.inl rfl)) (pgs_cons (pg_name (i := 10) sc_law.nd rfl (.inl rfl)) (pgs_cons (pg_name (i := 7) sc_law.nd rfl (.inl rfl)) (pgs_cons (pg_name (i := 11) sc_law.nd rfl (.inl rfl)) pgs_nil))))) (pss_one (ps_if (pt_cmpR op_gt (pv 7) (pv 2) (nomark _)) (pss_one (ps_set (i := 8) sc_law.nd rfl (.inl rfl) (pe_tup (pa_cons pe_str (pa_cons (pv 9) (pa_cons pe_bl pa_nil)))))) pss_nil)))
      (pss_cons (ps_set (i := 12) sc_law.nd rfl (.inl rfl) (pe_callTy k_list (by rfl) T.z_list (by decide +kernel) (pa_cons (pv 3) pa_nil)))
      (pss_cons (ps_if (PW.pt (pw_or (pt_cmpR (k_neD hr.units) (pe_call (ok__law_told T) hr (by rfl) T.g__law_told T.F__law_told.kp T.b__law_told .nil pass0 (pa_cons (pv 2) (pa_cons (pv 12) pa_nil))) (pv 8) (nomark _)) (pw_or1 (pt_cmpR (k_neD hr.units) (pv 12) (pv 3) (nomark _))))) (pss_one (ps_ret pe_bl)) pss_nil)
      (pss_cons (ps_setLc (i := 6) (own := [("_law_one", 13)]) (g := gName 13) rfl sc_law.nd rfl rfl (sw_true rfl rfl rfl (by decide +kernel)) (kpi_list (pv 3)) (blkOk_by (own := [("_law_one", 13)]) (N := ["_law_script", "_law_names_here", "_law_wide", "_law_floats", "_law_k", "_law_cell", "_law_some", "_law_w", "_law_due", "_law_name", "_law_side", "_law_h", "_law_held", "_law_one"]) (sc := defScope s_law) (by decide +kernel)) (fun _ _ _ _ _ => (pg_name (i := 13) sc_law.nd rfl (Or.inl rfl))) (fun _ _ _ _ _ => pts_one (pt_cmpR op_le (pe_ix k_ixt (pv 13) pe_int (fun _ _ => rfl)) (pv 2) (nomark _))) (fun _ _ _ _ _ => (pv 13)))
      (pss_one (ps_ret (pe_cmpR (k_eqD hr.units) (pe_call (ok__law_told T) hr (by rfl) T.g__law_told T.F__law_told.kp T.b__law_told .nil pass0 (pa_cons (pv 2) (pa_cons (pv 6) pa_nil))) (pe_callB k_len (by rfl) T.z_len PySem.boot_len (pa_cons (pv 6) pa_nil)) (nomark _))))))))))))), ?_⟩
    refine enter (Kn := Kn) (sl := [sv script_208, .any, .any, .any, .any, .any, .any, .any, .any, .any, .any, .any, .any, .any]) ek ⟨⟨v_0, rfl, hv_0⟩, trivial, trivial, trivial, trivial, trivial, trivial, trivial, trivial, trivial, trivial, trivial, trivial, trivial, trivial⟩ ?_
    have q := rt_of q
    obtain ⟨r_209, h_r_209, hf⟩ := bind_some hf
    obtain ⟨r_210, h_r_210, hf⟩ := bind_some hf
    obtain ⟨names_here_211, h_names_here_211, hf⟩ := bind_some hf
    refine SB.seqB (fun kx_ => sb_asg (sl' := [sv script_208, sv names_here_211, .any, .any, .any, .any, .any, .any, .any, .any, .any, .any, .any, .any]) rfl (EV.cast (EN.ev (en_call (ea_cons (ev_call (ea_cons (ev_var (i := 0) rfl) (ea_cons (ev_int 0) ea_nil)) h_r_209) (ea_cons (ev_int 12) ea_nil)) h_r_210)) (Option.some.inj h_names_here_211)) (kx_ _ _ ?_))
    obtain ⟨r_212, h_r_212, hf⟩ := bind_some hf
    obtain ⟨wide_213, h_wide_213, hf⟩ := bind_some hf
    refine SB.seqB (fun kx_ => sb_asg (sl' := [sv script_208, sv names_here_211, sv wide_213, .any, .any, .any, .any, .any, .any, .any, .any, .any, .any, .any]) rfl (EV.cast (ev_op (ev_call (ea_cons (ev_var (i := 0) rfl) (ea_cons (ev_int 1) ea_nil)) h_r_212) (ev_int 10) r2_mod) (Option.some.inj h_wide_213)) (kx_ _ _ ?_))
    obtain ⟨floats_214, h_floats_214, hf⟩ := bind_some hf
    refine SB.seqB (fun kx_ => sb_asgO (sl' := fun p_floats_214 => [sv script_208, sv names_here_211, sv wide_213, .at p_floats_214, .any, .any, .any, .any, .any, .any, .any, .any, .any, .any]) (fun _ => rfl) (EN.cast (en_lst el_nil) (Option.some.inj h_floats_214)) (fun p_floats_214 => (kx_ _ _ ?_)))
    obtain ⟨floats_237, h_tot_222, hf⟩ := bind_some hf
    refine SB.seqB (fun kx_238 => sb_for (β := (Int × Int × Unit)) (Sx := (List (Str × Str × Int × Int × Unit))) (fun s => [sv script_208, sv names_here_211, sv wide_213, .at p_floats_214, .any, .any, .any, .any, .any, .any, .any, .any, .any, .any]) (fun s => [ol p_floats_214 s]) (fun x s => [sv script_208, sv names_here_211, sv wide_213, .at p_floats_214, sv x.1, sv x.2.1, .any, .any, .any, .any, .any, .any, .any, .any]) [4, 5] (fun xs s => forS (m_law_L1 names_here_211) xs s = some floats_237) floats_214 (IT.m (it_enum (ea_cons (EN.ev (en_slF (ev_var (i := 0) rfl) (eo_some (ev_int 2)) (eo_some (ev_int 14)))) ea_nil))) h_tot_222 (.keep (.keep (.keep (.keep (.keep (.keep (.keep (.keep (.keep (.keep (.keep (.keep (.keep (.keep .nil)))))))))))))) (List.Sublist.refl _) (fun x s => (gt_tup (gts_cons (gt_name rfl) (gts_cons (gt_name rfl) gts_nil)))) ?_ ?_)
    · intro Kn1 b1 x_ rest_ floats_215 hP_219 N_ hN_218
      obtain ⟨k_216, cell_217, _⟩ := x_
      obtain ⟨c_, hc_220, hP_219⟩ := bind_some hP_219
      have q_221 := q.base b1
      unfold m_law_L1 at hc_220
      refine SB.is (sl' := [sv script_208, sv names_here_211, sv wide_213, .at p_floats_214, sv k_216, sv cell_217, .any, .any, .any, .any, .any, .any, .any, .any]) (ow1 := [ol p_floats_214 floats_215]) rfl rfl ?_
      obtain ⟨r_223, h_r_223, hc_220⟩ := bind_some hc_220
      obtain ⟨some_224, h_some_224, hc_220⟩ := bind_some hc_220
      refine SB.seqB (fun kx_ => sb_asg (sl' := [sv script_208, sv names_here_211, sv wide_213, .at p_floats_214, sv k_216, sv cell_217, sv some_224, .any, .any, .any, .any, .any, .any, .any]) rfl (EV.cast (EN.ev (en_call (ea_cons (ev_var (i := 5) rfl) (ea_cons (ev_int 4) ea_nil)) h_r_223)) (Option.some.inj h_some_224)) (kx_ _ _ ?_))
      obtain ⟨i_225, h_i_225, hc_220⟩ := bind_some hc_220
      obtain ⟨i_226, h_i_226, hc_220⟩ := bind_some hc_220
      obtain ⟨i_227, h_i_227, hc_220⟩ := bind_some hc_220
      obtain ⟨i_228, h_i_228, hc_220⟩ := bind_some hc_220
      obtain ⟨i_229, h_i_229, hc_220⟩ := bind_some hc_220
      obtain ⟨i_230, h_i_230, hc_220⟩ := bind_some hc_220
      obtain ⟨w_231, h_w_231, hc_220⟩ := bind_some hc_220
      refine SB.seqB (fun kx_ => sb_asg (sl' := [sv script_208, sv names_here_211, sv wide_213, .at p_floats_214, sv k_216, sv cell_217, sv some_224, sv w_231, .any, .any, .any, .any, .any, .any]) rfl (EV.cast (ev_op (ev_int 1) (ev_op (EN.ev (en_lst (el_cons (ev_op (ev_op (ev_var (i := 6) rfl) (ev_int 1) (r2_ixL h_i_225)) (ev_int 9) r2_mod) (el_cons (ev_op (ev_op (ev_var (i := 6) rfl) (ev_int 1) (r2_ixL h_i_226)) (ev_int 9) r2_mod) (el_cons (ev_op (ev_op (ev_var (i := 6) rfl) (ev_int 1) (r2_ixL h_i_227)) (ev_int 9) r2_mod) (el_cons (ev_op (ev_op (ev_var (i := 6) rfl) (ev_int 1) (r2_ixL h_i_228)) (ev_op (ev_int 10) (ev_int 9) (r2_pow (r := 1000000000))) r2_mod) el_nil)))))) (ev_op (ev_op (ev_var (i := 6) rfl) (ev_int 3) (r2_ixL h_i_229)) (ev_int 4) r2_mod) (r2_ixL h_i_230)) r2_add) (Option.some.inj h_w_231)) (kx_ _ _ ?_))
      obtain ⟨i_232, h_i_232, hc_220⟩ := bind_some hc_220
      obtain ⟨i_233, h_i_233, hc_220⟩ := bind_some hc_220
      obtain ⟨i_234, h_i_234, hc_220⟩ := bind_some hc_220
      obtain ⟨i_235, h_i_235, hc_220⟩ := bind_some hc_220
      obtain ⟨floats_236, h_floats_236, hc_220⟩ := bind_some hc_220
      refine sb_appO (i := 3) (j := 0) rfl rfl (ev_tup (ea_cons (ev_op (ev_var (i := 1) rfl) (ev_var (i := 4) rfl) (r2_ixL h_i_232)) (ea_cons (ev_op (EN.ev (en_lst (el_cons (ev_str ("left" : Str)) (el_cons (ev_str ("right" : Str)) el_nil)))) (ev_op (ev_op (ev_var (i := 6) rfl) (ev_int 0) (r2_ixL h_i_233)) (ev_int 2) r2_mod) (r2_ixL h_i_234)) (ea_cons (ev_var (i := 7) rfl) (ea_cons (ev_op (ev_int 1) (ev_op (ev_op (ev_var (i := 6) rfl) (ev_int 2) (r2_ixL h_i_235)) (ev_int 9) r2_mod) r2_add) ea_nil))))) h_floats_236 (ow1 := [ol p_floats_214 floats_236]) rfl ?_
      cases hc_220
      exact fun σ Kn H s => hN_218 _ hP_219 σ Kn H ((s.le (.keep (.keep (.keep (.keep (.drop (.drop (.drop (.drop (.keep (.keep (.keep (.keep (.keep (.keep .nil))))))))))))))).sub (List.Sublist.refl _))
    · intro s_ h0
      cases h0
      refine kx_238 _ _ ?_
      refine SB.is (sl' := [sv script_208, sv names_here_211, sv wide_213, .at p_floats_214, .any, .any, .any, .any, .any, .any, .any, .any, .any, .any]) (ow1 := [ol p_floats_214 floats_237]) rfl rfl ?_
      refine sb_freeze (i := 3) (j := 0) (sl' := [sv script_208, sv names_here_211, sv wide_213, sv floats_237, .any, .any, .any, .any, .any, .any, .any, .any, .any, .any]) (ow1 := []) rfl rfl rfl rfl ?_
      obtain ⟨due_239, h_due_239, hf⟩ := bind_some hf
      refine SB.seqB (fun kx_ => sb_asg (sl' := [sv script_208, sv names_here_211, sv wide_213, sv floats_237, .any, .any, .any, .any, sv due_239, .any, .any, .any, .any, .any]) rfl (EV.cast (ev_up (ev_cb (ea_cons (ev_var (i := 3) rfl) ea_nil) rc_len)) (Option.some.inj h_due_239)) (kx_ _ _ ?_))
      obtain ⟨due_254, h_tot_249, hf⟩ := bind_some hf
      refine SB.seqB (fun kx_255 => sb_for (β := (Str × Str × Int × Int × Unit)) (Sx := Dy) (fun s => [sv script_208, sv names_here_211, sv wide_213, sv floats_237, .any, .any, .any, .any, sv s, .any, .any, .any, .any, .any]) (fun s => []) (fun x s => [sv script_208, sv names_here_211, sv wide_213, sv floats_237, .any, .any, .any, sv x.2.2.1, sv s, sv x.1, sv x.2.1, sv x.2.2.2.1, .any, .any]) [9, 10, 7, 11] (fun xs s => forS (m_law_L2 wide_213) xs s = some due_254) due_239 (IT.m (it_rev (ea_cons (ev_var (i := 3) rfl) ea_nil))) h_tot_249 (.keep (.keep (.keep (.keep (.keep (.keep (.keep (.keep (.keep (.keep (.keep (.keep (.keep (.keep .nil)))))))))))))) (List.Sublist.refl _) (fun x s => (gt_tup (gts_cons (gt_name rfl) (gts_cons (gt_name rfl) (gts_cons (gt_name rfl) (gts_cons (gt_name rfl) gts_nil)))))) ?_ ?_)
      · intro Kn1 b1 x_ rest_ due_240 hP_246 N_ hN_245
        obtain ⟨name_241, side_242, w_243, h_244, _⟩ := x_
        obtain ⟨c_, hc_247, hP_246⟩ := bind_some hP_246
        have q_248 := q.base b1
        unfold m_law_L2 at hc_247
        refine SB.is (sl' := [sv script_208, sv names_here_211, sv wide_213, sv floats_237, .any, .any, .any, sv w_243, sv due_240, sv name_241, sv side_242, sv h_244, .any, .any]) (ow1 := []) rfl rfl ?_
        refine sb_if (b := (decide (wide_213 < w_243))) (et_test (ev_op (ev_var (i := 7) rfl) (ev_var (i := 2) rfl) r2_gt)) (fun hb_251 => ?_) (fun hb_251 => ?_)
        · have hc_247 := ite_t hb_251 hc_247
          obtain ⟨due_253, h_due_253, hc_247⟩ := bind_some hc_247
          refine sb_asg (sl' := [sv script_208, sv names_here_211, sv wide_213, sv floats_237, .any, .any, .any, sv w_243, sv due_253, sv name_241, sv side_242, sv h_244, .any, .any]) rfl (EV.cast (ev_up (ev_tup (ea_cons (ev_str ("too wide" : Str)) (ea_cons (ev_var (i := 9) rfl) (ea_cons (ev_bool true) ea_nil))))) (Option.some.inj h_due_253)) ?_
          cases hc_247
          exact fun σ Kn H s => hN_245 _ hP_246 σ Kn H ((s.le (.keep (.keep (.keep (.keep (.keep (.keep (.keep (.drop (.keep (.drop (.drop (.drop (.keep (.keep .nil))))))))))))))).sub (List.Sublist.refl _))
        · have hc_247 := ite_f hb_251 hc_247
          refine sb_nx ?_
          cases hc_247
          exact fun σ Kn H s => hN_245 _ hP_246 σ Kn H ((s.le (.keep (.keep (.keep (.keep (.keep (.keep (.keep (.drop (.keep (.drop (.drop (.drop (.keep (.keep .nil))))))))))))))).sub (List.Sublist.refl _))
      · intro s_ h0
        cases h0
        refine kx_255 _ _ ?_
        refine SB.is (sl' := [sv script_208, sv names_here_211, sv wide_213, sv floats_237, .any, .any, .any, .any, sv due_254, .any, .any, .any, .any, .any]) (ow1 := []) rfl rfl ?_
        obtain ⟨held_256, h_held_256, hf⟩ := bind_some hf
        refine SB.seqB (fun kx_ => sb_asg (sl' := [sv script_208, sv names_here_211, sv wide_213, sv floats_237, .any, .any, .any, .any, sv due_254, .any, .any, .any, sv held_256, .any]) rfl (EV.cast (EN.ev (en_cb (ea_cons (ev_var (i := 3) rfl) ea_nil) rc_list)) (Option.some.inj h_held_256)) (kx_ _ _ ?_))
        obtain ⟨r_258, h_r_258, hf⟩ := bind_some hf
        obtain ⟨e_259, h_e_259, hf⟩ := bind_some hf
        obtain ⟨b_261, h_b_261, hf⟩ := bind_some hf
        refine SB.seqB (fun kx_263 => sb_if (b := b_261) (et_orO h_b_261 (et_test (ev_op (ev_call (ea_cons (ev_var (i := 2) rfl) (ea_cons (ev_var (i := 12) rfl) ea_nil)) h_r_258) (ev_var (i := 8) rfl) (r2_neY h_e_259))) (fun _ _ h => by obtain ⟨e_260, h_e_260, h⟩ := bind_some h; have hz_ := Option.some.inj h; subst hz_; exact (et_test (ev_op (ev_var (i := 12) rfl) (ev_var (i := 3) rfl) (r2_neO h_e_260))))) (fun hb_262 => ?_) (fun hb_262 => ?_))
        · have hf := ite_t hb_262 hf
          cases hf
          exact sb_ret (ev_bool false) q (List.Sublist.refl _)
        · have hf := ite_f hb_262 hf
          refine sb_nx ?_
          refine kx_263 _ _ ?_
          obtain ⟨zs_265, h_zs_265, hf⟩ := bind_some hf
          obtain ⟨some_266, h_some_266, hf⟩ := bind_some hf
          refine SB.seqB (fun kx_ => sb_asg (sl' := [sv script_208, sv names_here_211, sv wide_213, sv floats_237, .any, .any, sv some_266, .any, sv due_254, .any, .any, .any, sv held_256, .any]) rfl (EV.cast (EN.ev (en_lc (js := [13]) (fun x => [sv script_208, sv names_here_211, sv wide_213, sv floats_237, .any, .any, .any, .any, sv due_254, .any, .any, .any, sv held_256, sv x]) h_zs_265 (it_list (ev_var (i := 3) rfl)) (anyAt_of (by rfl)) (fun x => (gt_name rfl)) (sub_of (by rfl)) (fun _ _ x b h => by obtain ⟨one_264, hx_⟩ : ∃ y, y = x := ⟨x, rfl⟩; subst hx_; have hz_ := Option.some.inj h; subst hz_; exact ET.is (sl' := [sv script_208, sv names_here_211, sv wide_213, sv floats_237, .any, .any, .any, .any, sv due_254, .any, .any, .any, sv held_256, sv one_264]) rfl (et_test (ev_op (ev_op (ev_var (i := 13) rfl) (ev_int 2) (r2_tix (n := 2) (At.s _ (At.s _ (At.z _ _))))) (ev_var (i := 2) rfl) r2_le))) (fun _ _ x z _ h => by obtain ⟨one_264, hx_⟩ : ∃ y, y = x := ⟨x, rfl⟩; subst hx_; have hz_ := Option.some.inj h; subst hz_; exact EV.is (sl' := [sv script_208, sv names_here_211, sv wide_213, sv floats_237, .any, .any, .any, .any, sv due_254, .any, .any, .any, sv held_256, sv one_264]) rfl (ev_var (i := 13) rfl)))) (Option.some.inj h_some_266)) (kx_ _ _ ?_))
          obtain ⟨r_267, h_r_267, hf⟩ := bind_some hf
          obtain ⟨e_268, h_e_268, hf⟩ := bind_some hf
          cases hf
          exact sb_ret (ev_op (ev_call (ea_cons (ev_var (i := 2) rfl) (ea_cons (ev_var (i := 6) rfl) ea_nil)) h_r_267) (ev_up (ev_cb (ea_cons (ev_var (i := 6) rfl) ea_nil) rc_len)) (r2_eqY h_e_268)) q (List.Sublist.refl _)
end
theorem all_mk (main : ∀ ns : List Int, ns.length ≤ 63 → m_law (Fz.mk ns) = some true) {l : PySem.W.OpenLaw} {w : World} {K : Fg} {h : Heap} {mg : Str → Option Value} {fa f_touches f_edges f_first_end f_stand_floats f__law_cell_at f__law_numbers f__law_names f__law_told f_law : Addr} (X : K.In h) (G : h.Ns mainGlobals mg) (hfa : mg "law" = some (.ref fa))
     {od_touches an_touches : Option Addr} {sl_touches : Array (Option Value)} {oc_touches kV_touches dc_touches pm_touches cd_touches ct_touches : Value} {od_edges an_edges : Option Addr} {sl_edges : Array (Option Value)} {oc_edges kV_edges dc_edges pm_edges cd_edges ct_edges : Value} {od_first_end an_first_end : Option Addr} {sl_first_end : Array (Option Value)} {oc_first_end kV_first_end dc_first_end pm_first_end cd_first_end ct_first_end : Value} {od_stand_floats an_stand_floats : Option Addr} {sl_stand_floats : Array (Option Value)} {oc_stand_floats kV_stand_floats dc_stand_floats pm_stand_floats cd_stand_floats ct_stand_floats : Value} {od__law_cell_at an__law_cell_at : Option Addr} {sl__law_cell_at : Array (Option Value)} {oc__law_cell_at kV__law_cell_at dc__law_cell_at pm__law_cell_at cd__law_cell_at ct__law_cell_at : Value} {od__law_numbers an__law_numbers : Option Addr} {sl__law_numbers : Array (Option Value)} {oc__law_numbers kV__law_numbers dc__law_numbers pm__law_numbers cd__law_numbers ct__law_numbers : Value} {od__law_names an__law_names : Option Addr} {sl__law_names : Array (Option Value)} {oc__law_names kV__law_names dc__law_names pm__law_names cd__law_names ct__law_names : Value} {od__law_told an__law_told : Option Addr} {sl__law_told : Array (Option Value)} {oc__law_told kV__law_told dc__law_told pm__law_told cd__law_told ct__law_told : Value} {od_law an_law : Option Addr} {sl_law : Array (Option Value)} {oc_law kV_law dc_law pm_law cd_law ct_law : Value} {c_TooWide : Addr} {c_BoxError : Addr} {nm_TooWide qn_TooWide : Str} {nn_TooWide : Addr} {bs_TooWide : List Value} {sn_TooWide : List Str} {su_TooWide : List Value} {ab_TooWide : Bool} {co_TooWide : Option Bool} {dd_TooWide : Option Addr} {m0_TooWide m1_TooWide m2_TooWide m3_TooWide m5_TooWide : Option Value} {i_TooWide : Addr} {iod_TooWide ian_TooWide : Option Addr} {isl_TooWide : Array (Option Value)} {ioc_TooWide ikV_TooWide idc_TooWide ipm_TooWide icd_TooWide ict_TooWide : Value}
    (a_touches : PySem.W.nsIn K mainGlobals "touches" = some (some (.ref f_touches))) (l_touches : K.lookup f_touches = some ⟨oc_touches, od_touches, .func (PySem.W.fnOf "touches" "touches" (defArgs s_touches) (defBody s_touches) (defScope s_touches) .none kV_touches dc_touches pm_touches an_touches cd_touches ct_touches), sl_touches⟩) (c_touches : PySem.W.codeIn K cd_touches "touches" = true) (k_touches : PySem.W.keepIn K (.ref f_touches) = true)
    (a_edges : PySem.W.nsIn K mainGlobals "edges" = some (some (.ref f_edges))) (l_edges : K.lookup f_edges = some ⟨oc_edges, od_edges, .func (PySem.W.fnOf "edges" "edges" (defArgs s_edges) (defBody s_edges) (defScope s_edges) .none kV_edges dc_edges pm_edges an_edges cd_edges ct_edges), sl_edges⟩) (c_edges : PySem.W.codeIn K cd_edges "edges" = true) (k_edges : PySem.W.keepIn K (.ref f_edges) = true)
    (a_first_end : PySem.W.nsIn K mainGlobals "first_end" = some (some (.ref f_first_end))) (l_first_end : K.lookup f_first_end = some ⟨oc_first_end, od_first_end, .func (PySem.W.fnOf "first_end" "first_end" (defArgs s_first_end) (defBody s_first_end) (defScope s_first_end) .none kV_first_end dc_first_end pm_first_end an_first_end cd_first_end ct_first_end), sl_first_end⟩) (c_first_end : PySem.W.codeIn K cd_first_end "first_end" = true) (k_first_end : PySem.W.keepIn K (.ref f_first_end) = true)
    (a_stand_floats : PySem.W.nsIn K mainGlobals "stand_floats" = some (some (.ref f_stand_floats))) (l_stand_floats : K.lookup f_stand_floats = some ⟨oc_stand_floats, od_stand_floats, .func (PySem.W.fnOf "stand_floats" "stand_floats" (defArgs s_stand_floats) (defBody s_stand_floats) (defScope s_stand_floats) .none kV_stand_floats dc_stand_floats pm_stand_floats an_stand_floats cd_stand_floats ct_stand_floats), sl_stand_floats⟩) (c_stand_floats : PySem.W.codeIn K cd_stand_floats "stand_floats" = true) (k_stand_floats : PySem.W.keepIn K (.ref f_stand_floats) = true)
    (a__law_cell_at : PySem.W.nsIn K mainGlobals "_law_cell_at" = some (some (.ref f__law_cell_at))) (l__law_cell_at : K.lookup f__law_cell_at = some ⟨oc__law_cell_at, od__law_cell_at, .func (PySem.W.fnOf "_law_cell_at" "_law_cell_at" (defArgs s__law_cell_at) (defBody s__law_cell_at) (defScope s__law_cell_at) .none kV__law_cell_at dc__law_cell_at pm__law_cell_at an__law_cell_at cd__law_cell_at ct__law_cell_at), sl__law_cell_at⟩) (c__law_cell_at : PySem.W.codeIn K cd__law_cell_at "_law_cell_at" = true) (k__law_cell_at : PySem.W.keepIn K (.ref f__law_cell_at) = true)
    (a__law_numbers : PySem.W.nsIn K mainGlobals "_law_numbers" = some (some (.ref f__law_numbers))) (l__law_numbers : K.lookup f__law_numbers = some ⟨oc__law_numbers, od__law_numbers, .func (PySem.W.fnOf "_law_numbers" "_law_numbers" (defArgs s__law_numbers) (defBody s__law_numbers) (defScope s__law_numbers) .none kV__law_numbers dc__law_numbers pm__law_numbers an__law_numbers cd__law_numbers ct__law_numbers), sl__law_numbers⟩) (c__law_numbers : PySem.W.codeIn K cd__law_numbers "_law_numbers" = true) (k__law_numbers : PySem.W.keepIn K (.ref f__law_numbers) = true)
    (a__law_names : PySem.W.nsIn K mainGlobals "_law_names" = some (some (.ref f__law_names))) (l__law_names : K.lookup f__law_names = some ⟨oc__law_names, od__law_names, .func (PySem.W.fnOf "_law_names" "_law_names" (defArgs s__law_names) (defBody s__law_names) (defScope s__law_names) .none kV__law_names dc__law_names pm__law_names an__law_names cd__law_names ct__law_names), sl__law_names⟩) (c__law_names : PySem.W.codeIn K cd__law_names "_law_names" = true) (k__law_names : PySem.W.keepIn K (.ref f__law_names) = true)
    (a__law_told : PySem.W.nsIn K mainGlobals "_law_told" = some (some (.ref f__law_told))) (l__law_told : K.lookup f__law_told = some ⟨oc__law_told, od__law_told, .func (PySem.W.fnOf "_law_told" "_law_told" (defArgs s__law_told) (defBody s__law_told) (defScope s__law_told) .none kV__law_told dc__law_told pm__law_told an__law_told cd__law_told ct__law_told), sl__law_told⟩) (c__law_told : PySem.W.codeIn K cd__law_told "_law_told" = true) (k__law_told : PySem.W.keepIn K (.ref f__law_told) = true)
    (a_law : PySem.W.nsIn K mainGlobals "law" = some (some (.ref f_law))) (l_law : K.lookup f_law = some ⟨oc_law, od_law, .func (PySem.W.fnOf "law" "law" (defArgs s_law) (defBody s_law) (defScope s_law) .none kV_law dc_law pm_law an_law cd_law ct_law), sl_law⟩) (c_law : PySem.W.codeIn K cd_law "law" = true) (k_law : PySem.W.keepIn K (.ref f_law) = true)
    (aC_TooWide : PySem.W.nsIn K mainGlobals "TooWide" = some (some (.ref c_TooWide)))
    (aC_BoxError : PySem.W.nsIn K mainGlobals "BoxError" = some (some (.ref c_BoxError)))
    (xl_TooWide : K.lookup c_TooWide = some (excClassObj nm_TooWide qn_TooWide c_TooWide nn_TooWide bs_TooWide [.ref c_BoxError, .type "ValueError", .type "Exception", .type "BaseException", .type "object"] true sn_TooWide su_TooWide ab_TooWide co_TooWide dd_TooWide m0_TooWide m1_TooWide m2_TooWide m3_TooWide m5_TooWide "ValueError.__new__"))
    (fi_TooWide_init : PySem.W.findIn K (.ref c_TooWide) "__init__" = some (some (.ref i_TooWide)))
    (il_TooWide : K.lookup i_TooWide = some ⟨ioc_TooWide, iod_TooWide, .func (PySem.W.fnOf "__init__" "TooWide.__init__" (defArgs (inClass (topS 2) 0)) (defBody (inClass (topS 2) 0)) (defScope (inClass (topS 2) 0)) .none ikV_TooWide idc_TooWide ipm_TooWide ian_TooWide icd_TooWide ict_TooWide), isl_TooWide⟩)
    (ic_TooWide : PySem.W.codeIn K icd_TooWide "TooWide.__init__" = true)
    (ik_TooWide : PySem.W.keepIn K (.ref i_TooWide) = true)
    (it_TooWide : PySem.W.typeIn K (.ref i_TooWide) = some (.type "function"))
    (fi_TooWide_name : PySem.W.findIn K (.ref c_TooWide) "name" = some none)
    (fi_TooWide_setattr : PySem.W.findIn K (.ref c_TooWide) "__setattr__" = some (some (.builtin "object.__setattr__")))
    (su_TooWide_BaseException : PySem.W.subIn K (.ref c_TooWide) (.type "BaseException") = some true)
    (ty_TooWide : PySem.W.typeIn K (.ref c_TooWide) = some (.type "type"))
    (kc_TooWide : PySem.W.keepIn K (.ref c_TooWide) = true)
    (fi_TooWide_getattribute : PySem.W.findIn K (.ref c_TooWide) "__getattribute__" = some (some (.builtin "BaseException.__getattribute__")))
    (fi_TooWide_getattr : PySem.W.findIn K (.ref c_TooWide) "__getattr__" = some none)
    (hd_TooWide : PySem.W.hasDictIn K c_TooWide = true)
    (is_TooWide : PySem.W.isClsIn K c_TooWide = true)
    (fi_TooWide_class : PySem.W.findIn K (.ref c_TooWide) "__class__" = some (some (.builtin "object.__class__")))
    (spc : PySem.W.specialIn K (.builtin "object.__class__") "__get__" = some (some (.builtin "getset_descriptor.__get__")))
    (tkc : PySem.W.takesIn K (.builtin "object.__class__") = some true)
    (mro_TooWide : PySem.W.mroIn K c_TooWide (.type "object") = some true)
    (su_TooWide_ValueError : PySem.W.subIn K (.ref c_TooWide) (.type "ValueError") = some true)
    (sg_BoxError : PySem.W.specialIn K (.ref c_BoxError) "__getattribute__" = some (some (.builtin "type.__getattribute__")))
    (rd_BoxError : PySem.W.readsIn K c_BoxError (.type "type") = true)
    (fc_BoxError : PySem.W.findCls K (.ref c_BoxError) (.type "type") "__init__" = some (.val (.builtin "ValueError.__init__")))
    (su_TooWide_TooWide : PySem.W.subIn K (.ref c_TooWide) (.ref c_TooWide) = some true)
    (z_ValueError : PySem.W.nsIn K mainGlobals "ValueError" = some none)
    (z_enumerate : PySem.W.nsIn K mainGlobals "enumerate" = some none)
    (z_int : PySem.W.nsIn K mainGlobals "int" = some none)
    (z_isinstance : PySem.W.nsIn K mainGlobals "isinstance" = some none)
    (z_len : PySem.W.nsIn K mainGlobals "len" = some none)
    (z_list : PySem.W.nsIn K mainGlobals "list" = some none)
    (z_min : PySem.W.nsIn K mainGlobals "min" = some none)
    (z_range : PySem.W.nsIn K mainGlobals "range" = some none)
    (z_reversed : PySem.W.nsIn K mainGlobals "reversed" = some none) :
    ∃ fd : FuncData, (∀ (s : Shared) (v : Value), BindsTo s fd ⟨[v], []⟩ [("_law_script", v)]) ∧ ∀ base : Heap, K.In base → base.Ns mainGlobals mg → FnOk l.prog w K mg base CX0 5 fa fd ["_law_script"] (spLaw K) := by
  have e := hfa.symm.trans (PySem.W.mg_of X G a_law)
  cases e
  have F_touches := fun_mk (st := s_touches) l_touches c_touches k_touches
  have F_edges := fun_mk (st := s_edges) l_edges c_edges k_edges
  have F_first_end := fun_mk (st := s_first_end) l_first_end c_first_end k_first_end
  have F_stand_floats := fun_mk (st := s_stand_floats) l_stand_floats c_stand_floats k_stand_floats
  have F__law_cell_at := fun_mk (st := s__law_cell_at) l__law_cell_at c__law_cell_at k__law_cell_at
  have F__law_numbers := fun_mk (st := s__law_numbers) l__law_numbers c__law_numbers k__law_numbers
  have F__law_names := fun_mk (st := s__law_names) l__law_names c__law_names k__law_names
  have F__law_told := fun_mk (st := s__law_told) l__law_told c__law_told k__law_told
  have F_law := fun_mk (st := s_law) l_law c_law k_law
  have b_touches := F_touches.binds (ps := ["thing", "row", "high"]) fun _ _ _ _ _ _ us hl => match us, hl with | [_, _, _], _ => rfl
  have b_edges := F_edges.binds (ps := ["width", "lefts", "rights", "row", "high"]) fun _ _ _ _ _ _ us hl => match us, hl with | [_, _, _, _, _], _ => rfl
  have b_first_end := F_first_end.binds (ps := ["things", "left", "right"]) fun _ _ _ _ _ _ us hl => match us, hl with | [_, _, _], _ => rfl
  have b_stand_floats := F_stand_floats.binds (ps := ["width", "floats"]) fun _ _ _ _ _ _ us hl => match us, hl with | [_, _], _ => rfl
  have b__law_cell_at := F__law_cell_at.binds (ps := ["_law_script", "_law_k"]) fun _ _ _ _ _ _ us hl => match us, hl with | [_, _], _ => rfl
  have b__law_numbers := F__law_numbers.binds (ps := ["_law_cell", "_law_many"]) fun _ _ _ _ _ _ us hl => match us, hl with | [_, _], _ => rfl
  have b__law_names := F__law_names.binds (ps := ["_law_cell", "_law_many"]) fun _ _ _ _ _ _ us hl => match us, hl with | [_, _], _ => rfl
  have b__law_told := F__law_told.binds (ps := ["_law_wide", "_law_floats"]) fun _ _ _ _ _ _ us hl => match us, hl with | [_, _], _ => rfl
  have b_law := F_law.binds (ps := ["_law_script"]) fun _ _ _ _ _ _ us hl => match us, hl with | [_], _ => rfl
  have Fi_TooWide := fun_mk (st := (inClass (topS 2) 0)) il_TooWide ic_TooWide ik_TooWide
  let T : TX K mg w := ⟨_, _, F_touches, b_touches, PySem.W.mg_of X G a_touches, _, _, F_edges, b_edges, PySem.W.mg_of X G a_edges, _, _, F_first_end, b_first_end, PySem.W.mg_of X G a_first_end, _, _, F_stand_floats, b_stand_floats, PySem.W.mg_of X G a_stand_floats, _, _, F__law_cell_at, b__law_cell_at, PySem.W.mg_of X G a__law_cell_at, _, _, F__law_numbers, b__law_numbers, PySem.W.mg_of X G a__law_numbers, _, _, F__law_names, b__law_names, PySem.W.mg_of X G a__law_names, _, _, F__law_told, b__law_told, PySem.W.mg_of X G a__law_told, _, _, F_law, b_law, PySem.W.mg_of X G a_law, PySem.W.mg_none_of X G z_ValueError, PySem.W.mg_none_of X G z_enumerate, PySem.W.mg_none_of X G z_int, PySem.W.mg_none_of X G z_isinstance, PySem.W.mg_none_of X G z_len, PySem.W.mg_none_of X G z_list, PySem.W.mg_none_of X G z_min, PySem.W.mg_none_of X G z_range, PySem.W.mg_none_of X G z_reversed, _, PySem.W.mg_of X G aC_TooWide, _, PySem.W.mg_of X G aC_BoxError, ⟨⟨nm_TooWide, qn_TooWide, nn_TooWide, bs_TooWide, _, sn_TooWide, su_TooWide, ab_TooWide, co_TooWide, dd_TooWide, m0_TooWide, m1_TooWide, m2_TooWide, m3_TooWide, m5_TooWide, xl_TooWide, by rfl⟩, fi_TooWide_setattr, su_TooWide_BaseException, ty_TooWide, kc_TooWide⟩, (fun f hf => by rcases List.mem_cons.mp hf with rfl | hf; exact fi_TooWide_name; cases hf), _, _, Fi_TooWide, (Fi_TooWide.binds (ps := ["self", "name"]) fun _ _ _ _ _ _ us hl => match us, hl with | [_, _], _ => rfl), fi_TooWide_init, it_TooWide, ⟨fi_TooWide_getattribute, fi_TooWide_getattr, su_TooWide_BaseException, hd_TooWide⟩, ⟨fi_TooWide_getattribute, fi_TooWide_getattr, su_TooWide_BaseException, is_TooWide, fi_TooWide_class, spc, tkc, mro_TooWide⟩, sg_BoxError, rd_BoxError, fc_BoxError, (kit_two su_TooWide_ValueError), (exm_two su_TooWide_BaseException is_TooWide ty_TooWide su_TooWide_TooWide)⟩
  refine ⟨PySem.W.fnOf "law" "law" (defArgs s_law) (defBody s_law) (defScope s_law) .none kV_law dc_law pm_law an_law cd_law ct_law, fun s v => .of_eq rfl, fun base _ _ => ?_⟩
  exact fn_weak (ok_law T) main
end Wk70
/-! Wp: plain facts about the mirrors' words -/
namespace Wk
open PySem L2

theorem bs {α β : Type} (a : α) (f : α → Option β) : (some a).bind f = f a := by rw [Option.bind_some]
theorem bind_ok {α β : Type} {m : Option α} {f : α → Option β} {a : α} (h : m = some a) : m.bind f = f a := by rw [h]; rfl
theorem atI_ok {α : Type} {xs : List α} {i : Int} (h0 : 0 ≤ i) (h : i < xs.length) : atI xs i = xs[i.toNat]? := by
  obtain ⟨k, rfl⟩ := Int.eq_ofNat_of_zero_le h0
  have hk : k < xs.length := by omega
  have e : xs[k]? = some xs[k] := List.getElem?_eq_getElem hk
  rw [show ((k : Int)).toNat = k from rfl, e]
  exact atI_nat e
theorem atI_some {α : Type} {xs : List α} {i : Int} (h0 : 0 ≤ i) (h : i < xs.length) : ∃ x, atI xs i = some x ∧ xs[i.toNat]? = some x := by
  have hk : i.toNat < xs.length := by omega
  exact ⟨xs[i.toNat], by rw [atI_ok h0 h]; exact List.getElem?_eq_getElem hk, List.getElem?_eq_getElem hk⟩
theorem pick2 {α : Type} (x y : α) {k : Int} (h0 : 0 ≤ k) (h : k < 2) : atI [x, y] k = some (if k = 0 then x else y) := by
  rcases (show k = 0 ∨ k = 1 by omega) with rfl | rfl <;> rfl
theorem pick3 {α : Type} (x y z : α) {k : Int} (h0 : 0 ≤ k) (h : k < 3) : atI [x, y, z] k = some (if k = 0 then x else if k = 1 then y else z) := by
  rcases (show k = 0 ∨ k = 1 ∨ k = 2 by omega) with rfl | rfl | rfl <;> rfl
theorem pick4 {α : Type} (x y z u : α) {k : Int} (h0 : 0 ≤ k) (h : k < 4) : atI [x, y, z, u] k = some (if k = 0 then x else if k = 1 then y else if k = 2 then z else u) := by
  rcases (show k = 0 ∨ k = 1 ∨ k = 2 ∨ k = 3 by omega) with rfl | rfl | rfl | rfl <;> rfl
theorem forC_all {β R : Type} {f : β → Unit → Option (Ctl Unit R)} : ∀ {xs : List β}, (∀ x ∈ xs, f x () = some (.nx ())) → forC f xs () = some (.nx ())
  | [], _ => rfl
  | x :: xs, h => by
    unfold forC
    rw [h x List.mem_cons_self]
    exact forC_all fun y hy => h y (List.mem_cons_of_mem _ hy)
/-- a loop that always goes on, by an invariant -/
theorem forC_inv {β Sx R : Type} {f : β → Sx → Option (Ctl Sx R)} (I : List β → Sx → Prop) : ∀ {xs : List β} {s : Sx}, I xs s → (∀ x rest s, I (x :: rest) s → ∃ s', f x s = some (.nx s') ∧ I rest s') → ∃ s', forC f xs s = some (.nx s') ∧ I [] s'
  | [], s, h, _ => ⟨s, rfl, h⟩
  | x :: xs, s, h, hs => by
    obtain ⟨s', e, h'⟩ := hs x xs s h
    obtain ⟨s2, e2, h2⟩ := forC_inv I h' hs
    refine ⟨s2, ?_, h2⟩
    unfold forC
    rw [e]
    exact e2
theorem forS_inv {β Sx : Type} {f : β → Sx → Option Sx} (I : List β → Sx → Prop) : ∀ {xs : List β} {s : Sx}, I xs s → (∀ x rest s, I (x :: rest) s → ∃ s', f x s = some s' ∧ I rest s') → ∃ s', forS f xs s = some s' ∧ I [] s'
  | [], s, h, _ => ⟨s, rfl, h⟩
  | x :: xs, s, h, hs => by
    obtain ⟨s', e, h'⟩ := hs x xs s h
    obtain ⟨s2, e2, h2⟩ := forS_inv I h' hs
    refine ⟨s2, ?_, h2⟩
    unfold forS
    rw [e]
    exact e2
/-- a loop as a fold -/
theorem forS_fold {β Sx : Type} {f : β → Sx → Option Sx} (g : Sx → β → Sx) (I : List β → Sx → Prop) : ∀ {xs : List β} {s : Sx}, I xs s → (∀ x rest s, I (x :: rest) s → f x s = some (g s x) ∧ I rest (g s x)) → forS f xs s = some (xs.foldl g s)
  | [], s, h, _ => rfl
  | x :: xs, s, h, hs => by
    obtain ⟨e, h'⟩ := hs x xs s h
    unfold forS
    rw [e]
    exact forS_fold g I h' hs
theorem forS_cons {β Sx : Type} {f : β → Sx → Option Sx} {x : β} {xs : List β} {s s' : Sx} (h : f x s = some s') : forS f (x :: xs) s = forS f xs s' := by
  show ((f x s).bind _) = _
  rw [h]
  rfl
theorem forC_cons {β Sx R : Type} {f : β → Sx → Option (Ctl Sx R)} {x : β} {xs : List β} {s s' : Sx} (h : f x s = some (.nx s')) : forC f (x :: xs) s = forC f xs s' := by
  show ((f x s).bind _) = _
  rw [h]
  rfl
/-- by places -/
theorem forS_ix {β Sx : Type} {f : β → Sx → Option Sx} {xs : List β} (P : Nat → Sx → Prop) {s : Sx} (h0 : P 0 s) (step : ∀ (i : Nat) (hi : i < xs.length) s, P i s → ∃ s', f xs[i] s = some s' ∧ P (i + 1) s') : ∃ s', forS f xs s = some s' ∧ P xs.length s' := by
  have key : ∀ (m i : Nat) (s : Sx), i + m = xs.length → P i s → ∃ s', forS f (xs.drop i) s = some s' ∧ P xs.length s' := by
    intro m
    induction m with
    | zero =>
      intro i s hi hp
      have e : i = xs.length := by omega
      subst e
      rw [List.drop_length]
      exact ⟨s, rfl, hp⟩
    | succ m ih =>
      intro i s hi hp
      have hl : i < xs.length := by omega
      obtain ⟨s', e, hp'⟩ := step i hl s hp
      obtain ⟨r, e2, h2⟩ := ih (i + 1) s' (by omega) hp'
      refine ⟨r, ?_, h2⟩
      rw [List.drop_eq_getElem_cons hl, forS_cons e]
      exact e2
  have := key xs.length 0 s (by omega) h0
  rwa [List.drop_zero] at this
theorem forC_ix {β Sx R : Type} {f : β → Sx → Option (Ctl Sx R)} {xs : List β} (P : Nat → Sx → Prop) {s : Sx} (h0 : P 0 s) (step : ∀ (i : Nat) (hi : i < xs.length) s, P i s → ∃ s', f xs[i] s = some (.nx s') ∧ P (i + 1) s') : ∃ s', forC f xs s = some (.nx s') ∧ P xs.length s' := by
  have key : ∀ (m i : Nat) (s : Sx), i + m = xs.length → P i s → ∃ s', forC f (xs.drop i) s = some (.nx s') ∧ P xs.length s' := by
    intro m
    induction m with
    | zero =>
      intro i s hi hp
      have e : i = xs.length := by omega
      subst e
      rw [List.drop_length]
      exact ⟨s, rfl, hp⟩
    | succ m ih =>
      intro i s hi hp
      have hl : i < xs.length := by omega
      obtain ⟨s', e, hp'⟩ := step i hl s hp
      obtain ⟨r, e2, h2⟩ := ih (i + 1) s' (by omega) hp'
      refine ⟨r, ?_, h2⟩
      rw [List.drop_eq_getElem_cons hl, forC_cons e]
      exact e2
  have := key xs.length 0 s (by omega) h0
  rwa [List.drop_zero] at this
/-- two loops over one list, turn by turn -/
theorem forS2_ix {β S1 S2 : Type} {f1 : β → S1 → Option S1} {f2 : β → S2 → Option S2} {xs : List β} (P : Nat → S1 → S2 → Prop) {s1 : S1} {s2 : S2} (h0 : P 0 s1 s2)
    (step : ∀ (i : Nat) (hi : i < xs.length) s1 s2, P i s1 s2 → ∃ s1' s2', f1 xs[i] s1 = some s1' ∧ f2 xs[i] s2 = some s2' ∧ P (i + 1) s1' s2') : ∃ r1 r2, forS f1 xs s1 = some r1 ∧ forS f2 xs s2 = some r2 ∧ P xs.length r1 r2 := by
  have key : ∀ (m i : Nat) (s1 : S1) (s2 : S2), i + m = xs.length → P i s1 s2 → ∃ r1 r2, forS f1 (xs.drop i) s1 = some r1 ∧ forS f2 (xs.drop i) s2 = some r2 ∧ P xs.length r1 r2 := by
    intro m
    induction m with
    | zero =>
      intro i s1 s2 hi hp
      have e : i = xs.length := by omega
      subst e
      rw [List.drop_length]
      exact ⟨s1, s2, rfl, rfl, hp⟩
    | succ m ih =>
      intro i s1 s2 hi hp
      have hl : i < xs.length := by omega
      obtain ⟨a, b, e1, e2, hp'⟩ := step i hl s1 s2 hp
      obtain ⟨r1, r2, h1, h2, h3⟩ := ih (i + 1) a b (by omega) hp'
      refine ⟨r1, r2, ?_, ?_, h3⟩
      · rw [List.drop_eq_getElem_cons hl, forS_cons e1]
        exact h1
      · rw [List.drop_eq_getElem_cons hl, forS_cons e2]
        exact h2
  have := key xs.length 0 s1 s2 (by omega) h0
  rwa [List.drop_zero] at this
theorem enumI_at {α : Type} (xs : List α) (i : Nat) (hi : i < (enumI xs).length) : (enumI xs)[i] = ((i : Int), xs[i]'(by simpa [enumI] using hi), ()) := by simp [enumI]
theorem whileS_inv {Sx : Type} {c : Sx → Option Bool} {f : Sx → Option Sx} (I : Sx → Prop) (μ : Sx → Nat) (step : ∀ s, I s → ∃ b, c s = some b ∧ (b = true → ∃ s', f s = some s' ∧ I s' ∧ μ s' < μ s)) :
    ∀ (n : Nat) {s : Sx}, I s → μ s < n → ∃ s', whileS c f n s = some s' ∧ I s' ∧ c s' = some false
  | 0, _, _, h => absurd h (Nat.not_lt_zero _)
  | n + 1, s, hI, hn => by
    obtain ⟨b, hb, hs⟩ := step s hI
    unfold whileS
    rw [hb]
    cases b with
    | false => exact ⟨s, rfl, hI, hb⟩
    | true =>
      obtain ⟨s', e, hI', hm⟩ := hs rfl
      obtain ⟨s2, e2, h2⟩ := whileS_inv I μ step n hI' (by omega)
      refine ⟨s2, ?_, h2⟩
      show ((f s).bind _) = _
      rw [e]
      exact e2
theorem whileF_inv {Sx : Type} {c : Sx → Option Bool} {f : Sx → Option Sx} (I : Sx → Prop) (μ : Sx → Nat) (step : ∀ s, I s → ∃ b, c s = some b ∧ (b = true → ∃ s', f s = some s' ∧ I s' ∧ μ s' < μ s)) {s : Sx} (h : I s) :
    ∃ s', whileF c f s = some s' ∧ I s' ∧ c s' = some false := by
  obtain ⟨s', e, h1, h2⟩ := whileS_inv I μ step (μ s + 1) h (Nat.lt_succ_self _)
  exact ⟨s', whileF_of e, h1, h2⟩
theorem cut_len {α : Type} (xs : List α) (lo hi : Option Int) : (cut xs lo hi).length ≤ xs.length := by
  unfold cut
  rw [List.length_take, List.length_drop]
  omega
theorem cut_mem {α : Type} {xs : List α} {lo hi : Option Int} {x : α} (h : x ∈ cut xs lo hi) : x ∈ xs := List.mem_of_mem_drop (List.mem_of_mem_take h)
theorem cut_from {α : Type} (xs : List α) (k : Nat) : cut xs (some (k : Int)) none = xs.drop k := by
  unfold cut
  rw [HT.sIx_nat, HT.sIx_none]
  by_cases h : k ≤ xs.length
  · rw [Nat.min_eq_left h, List.take_of_length_le (by rw [List.length_drop]; omega)]
  · rw [Nat.min_eq_right (by omega), List.drop_eq_nil_of_le (Nat.le_refl _), List.drop_eq_nil_of_le (show xs.length ≤ k by omega)]
    exact List.take_nil
theorem cut_to {α : Type} (xs : List α) (k : Nat) : cut xs none (some (k : Int)) = xs.take k := by
  unfold cut
  rw [HT.sIx_nat, HT.sIx_none, List.drop_zero, Nat.sub_zero]
  by_cases h : k ≤ xs.length
  · rw [Nat.min_eq_left h]
  · rw [Nat.min_eq_right (by omega), List.take_of_length_le (Nat.le_refl _), List.take_of_length_le (by omega)]
theorem rngO_ok {lo hi : Int} (h1 : -1000000000000 ≤ lo) (h2 : lo ≤ 1000000000000) (h3 : -1000000000000 ≤ hi) (h4 : hi ≤ 1000000000000) : rngO lo hi = some (irange lo hi) := if_pos ⟨h1, h2, h3, h4⟩
theorem irange_len (lo hi : Int) : (irange lo hi).length = (hi - lo).toNat := by simp [irange]
theorem enumI_len {α : Type} (xs : List α) : (enumI xs).length = xs.length := by simp [enumI]
theorem lcM_len {β γ : Type} {c : β → Option Bool} {f : β → Option γ} {xs : List β} (h : xs.length < 1000000) : lcM c f xs = lcGo c f xs := if_pos h
theorem lcGo_all {β γ : Type} {f : β → Option γ} (g : β → γ) : ∀ {xs : List β}, (∀ x ∈ xs, f x = some (g x)) → lcGo (fun _ => some true) f xs = some (xs.map g)
  | [], _ => rfl
  | x :: xs, h => by
    unfold lcGo
    show ((f x).bind _) = _
    rw [h x List.mem_cons_self, lcGo_all g fun y hy => h y (List.mem_cons_of_mem _ hy)]
    rfl
theorem lcGo_if {β γ : Type} {c : β → Option Bool} {f : β → Option γ} (p : β → Bool) (g : β → γ) : ∀ {xs : List β}, (∀ x ∈ xs, c x = some (p x)) → (∀ x ∈ xs, p x = true → f x = some (g x)) → lcGo c f xs = some ((xs.filter p).map g)
  | [], _, _ => rfl
  | x :: xs, hc, h => by
    unfold lcGo
    rw [hc x List.mem_cons_self]
    have ih := lcGo_if p g (xs := xs) (fun y hy => hc y (List.mem_cons_of_mem _ hy)) (fun y hy => h y (List.mem_cons_of_mem _ hy))
    cases e : p x with
    | true =>
      show ((f x).bind _) = _
      rw [h x List.mem_cons_self e, ih, List.filter_cons_of_pos e]
      rfl
    | false =>
      show lcGo c f xs = _
      rw [ih, List.filter_cons_of_neg (by rw [e]; exact Bool.false_ne_true)]
theorem lcM_all {β γ : Type} {f : β → Option γ} (g : β → γ) {xs : List β} (hl : xs.length < 1000000) (h : ∀ x ∈ xs, f x = some (g x)) : lcM (fun _ => some true) f xs = some (xs.map g) := by
  rw [lcM_len hl, lcGo_all g h]
/-- draws, one an item -/
theorem lcSGo_inv {β γ Sx : Type} {f : β → Sx → Option (γ × Sx)} (I : Sx → Prop) (P : γ → Prop) (step : ∀ x s, I s → ∃ z s', f x s = some (z, s') ∧ I s' ∧ P z) :
    ∀ {xs : List β} {s : Sx}, I s → ∃ zs s', lcSGo f xs s = some (zs, s') ∧ I s' ∧ zs.length = xs.length ∧ ∀ z ∈ zs, P z
  | [], s, h => ⟨[], s, rfl, h, rfl, fun _ hz => nomatch hz⟩
  | x :: xs, s, h => by
    obtain ⟨z, s', e, h', hp⟩ := step x s h
    obtain ⟨zs, s2, e2, h2, hl, hz⟩ := lcSGo_inv I P step (xs := xs) h'
    refine ⟨z :: zs, s2, ?_, h2, by rw [List.length_cons, List.length_cons, hl], fun y hy => ?_⟩
    · unfold lcSGo
      rw [e]
      show ((lcSGo f xs s').bind _) = _
      rw [e2]
      rfl
    · rcases List.mem_cons.mp hy with rfl | hy
      · exact hp
      · exact hz y hy
theorem lcS_inv {β γ Sx : Type} {f : β → Sx → Option (γ × Sx)} (I : Sx → Prop) (P : γ → Prop) (step : ∀ x s, I s → ∃ z s', f x s = some (z, s') ∧ I s' ∧ P z) {xs : List β} {s : Sx} (hl : xs.length < 1000000) (h : I s) :
    ∃ zs s', lcS f xs s = some (zs, s') ∧ I s' ∧ zs.length = xs.length ∧ ∀ z ∈ zs, P z := by
  unfold lcS
  rw [if_pos hl]
  exact lcSGo_inv I P step h
theorem forS_app {β γ : Type} {f : β → List γ → Option (List γ)} (g : β → γ) : ∀ {xs : List β} {s : List γ}, s.length + xs.length ≤ 1000000 → (∀ x ∈ xs, ∀ s : List γ, s.length < 1000000 → f x s = some (s ++ [g x])) → forS f xs s = some (s ++ xs.map g)
  | [], s, _, _ => by rw [List.map_nil, List.append_nil]; rfl
  | x :: xs, s, hl, h => by
    rw [List.length_cons] at hl
    rw [forS_cons (h x List.mem_cons_self s (by omega)), forS_app g (by rw [List.length_append, List.length_singleton]; omega) fun y hy => h y (List.mem_cons_of_mem _ hy), List.map_cons, List.append_assoc]
    rfl
theorem enumI_mem {α : Type} [Rp α] {xs : List α} {y : Int × α × Unit} (h : y ∈ enumI xs) : ∃ (i : Nat) (x : α), xs[i]? = some x ∧ y = ((i : Int), x, ()) := by
  obtain ⟨i, hi⟩ := List.getElem?_of_mem h
  obtain ⟨x, hx, e⟩ := enum_get hi
  exact ⟨i, x, hx, e⟩
theorem zipI_mem {α β : Type} [Rp α] [Rp β] {xs : List α} {ys : List β} {z : α × β × Unit} (h : z ∈ zipI xs ys) : ∃ (i : Nat) (x : α) (y : β), xs[i]? = some x ∧ ys[i]? = some y ∧ z = (x, y, ()) := by
  obtain ⟨i, hi⟩ := List.getElem?_of_mem h
  obtain ⟨x, y, hx, hy, e⟩ := zip_get hi
  exact ⟨i, x, y, hx, hy, e⟩
/-! texts -/
theorem len_app (x y : Str) : (x ++ y).length = x.length + y.length := by
  show (x.cps ++ y.cps).size = _
  rw [Array.size_append]
  rfl
theorem ok_app {x y : Str} (hx : PyData.strOk x = true) (hy : PyData.strOk y = true) : PyData.strOk (x ++ y) = true := by
  show (x.cps ++ y.cps).all _ = true
  rw [Array.all_append]
  exact Bool.and_eq_true_iff.mpr ⟨hx, hy⟩
theorem ok_join {s : Str} (hs : PyData.strOk s = true) : ∀ {ys : List Str}, (∀ y ∈ ys, PyData.strOk y = true) → PyData.strOk (Str.join s ys) = true
  | [], _ => by
    unfold Str.join
    decide +kernel
  | [x], h => h x List.mem_cons_self
  | x :: y :: r, h => ok_app (ok_app (h x List.mem_cons_self) hs) (ok_join hs fun z hz => h z (List.mem_cons_of_mem _ hz))
theorem joinO_ok {s : Str} {ys : List Str} (h : (ys.map (·.length)).sum + ys.length * s.length ≤ 1000000) : joinO s ys = some (Str.join s ys) := by
  unfold joinO
  rw [if_pos h, TL.join_eq]
/-- a sign of a written text -/
theorem ixS_ok {s : Str} {i : Int} (hl : s.length ≤ 100000) (h0 : 0 ≤ i) (h : i < (s.length : Int)) (hs : PyData.strOk s = true) : ∃ c, ixS s i = some ⟨#[c]⟩ ∧ PyData.strOk ⟨#[c]⟩ = true ∧ (⟨#[c]⟩ : Str).length = 1 := by
  have hl2 : s.cps.toList.length = s.length := Array.length_toList
  obtain ⟨c, e, e2⟩ := atI_some (xs := s.cps.toList) h0 (by rw [hl2]; exact h)
  refine ⟨c, ?_, ?_, rfl⟩
  · unfold ixS
    rw [if_pos hl, e]
    rfl
  · have hm : c ∈ s.cps := Array.mem_toList_iff.mp (List.mem_of_getElem? e2)
    have := Array.all_eq_true'.mp hs c hm
    show (#[c] : Array Nat).all _ = true
    simpa using this
/-! dicts, and more -/
theorem cut_init {α : Type} (xs : List α) : cut xs none (some (-(1 : Int))) = xs.dropLast := by
  unfold cut
  rw [HT.sIx_none, List.drop_zero, Nat.sub_zero, List.dropLast_eq_take]
  have e : HT.sIx xs.length xs.length (some (-(1 : Int))) = (-(1 : Int) + (xs.length : Int)).toNat := rfl
  rw [e]
  congr 1
  omega
theorem mem_irange {x a b : Int} : x ∈ irange a b ↔ a ≤ x ∧ x < b := by
  unfold irange
  rw [List.mem_map]
  constructor
  · rintro ⟨k, hk, rfl⟩
    rw [List.mem_range] at hk
    omega
  · intro h
    exact ⟨(x - a).toNat, List.mem_range.mpr (by omega), by omega⟩
section
variable {κ β : Type} [DecidableEq κ]
theorem getD_pos {p : κ × β} {r : List (κ × β)} {k : κ} (e : p.1 = k) : getD (p :: r) k = some p.2 := by simp [getD, List.find?_cons, e]
theorem getD_neg {p : κ × β} {r : List (κ × β)} {k : κ} (e : ¬ p.1 = k) : getD (p :: r) k = getD r k := by simp [getD, List.find?_cons, e]
theorem getD_map (k j : κ) (y : β) : ∀ kvs : List (κ × β), getD (kvs.map fun kv => if kv.1 = k then (kv.1, y) else kv) j = (getD kvs j).map fun x => if j = k then y else x
  | [] => rfl
  | p :: r => by
    rw [List.map_cons]
    have ih := getD_map k j y r
    by_cases a : p.1 = k
    · rw [if_pos a]
      by_cases b : p.1 = j
      · rw [getD_pos (p := (p.1, y)) b, getD_pos b, Option.map_some, if_pos (b.symm.trans a)]
      · rw [getD_neg (p := (p.1, y)) b, getD_neg b, ih]
    · rw [if_neg a]
      by_cases b : p.1 = j
      · rw [getD_pos b, getD_pos b, Option.map_some, if_neg (fun z => a (b.trans z))]
      · rw [getD_neg b, getD_neg b, ih]
theorem getD_snoc (k j : κ) (y : β) : ∀ kvs : List (κ × β), getD kvs k = none → getD (kvs ++ [(k, y)]) j = if j = k then some y else getD kvs j
  | [], _ => by
    by_cases e : k = j
    · rw [List.nil_append, getD_pos (p := (k, y)) e, if_pos e.symm]
    · rw [List.nil_append, getD_neg (p := (k, y)) e, if_neg (Ne.symm e)]
  | p :: r, h => by
    have hk : ¬ p.1 = k := fun e => by rw [getD_pos e] at h; cases h
    rw [getD_neg hk] at h
    have ih := getD_snoc k j y r h
    rw [List.cons_append]
    by_cases e : p.1 = j
    · rw [getD_pos e, getD_pos e, if_neg (fun z => hk (e.trans z))]
    · rw [getD_neg e, getD_neg e, ih]
theorem getD_put (kvs : List (κ × β)) (k j : κ) (y : β) : getD (putD kvs k y) j = if j = k then some y else getD kvs j := by
  unfold putD
  by_cases a : (getD kvs k).isSome = true
  · rw [if_pos a, getD_map]
    by_cases e : j = k
    · obtain ⟨x, hx⟩ := Option.isSome_iff_exists.mp a
      rw [if_pos e, e, hx, Option.map_some, if_pos rfl]
    · rw [if_neg e]
      cases getD kvs j with
      | none => rfl
      | some x => rw [Option.map_some, if_neg e]
  · rw [if_neg a]
    refine getD_snoc k j y kvs ?_
    cases q : getD kvs k with
    | none => rfl
    | some x => rw [q] at a; exact (a rfl).elim
theorem len_put (kvs : List (κ × β)) (k : κ) (y : β) : (putD kvs k y).length ≤ kvs.length + 1 := by
  unfold putD
  split
  · rw [List.length_map]; omega
  · rw [List.length_append, List.length_cons, List.length_nil]; omega
theorem putO_ok {d : Dc κ β} {k : κ} {y : β} (h : d.l.length < 1000000) : putO d k y = some ⟨putD d.l k y⟩ := if_pos h
end
theorem forC_any {β R : Type} {f : β → Unit → Option (Ctl Unit R)} {r : R} (p : β → Bool) : ∀ {xs : List β}, (∀ x ∈ xs, f x () = some (if p x = true then .rt r else .nx ())) → forC f xs () = some (if xs.any p = true then .rt r else .nx ())
  | [], _ => rfl
  | x :: xs, h => by
    have hx := h x List.mem_cons_self
    cases e : p x with
    | true =>
      rw [e] at hx
      show ((f x ()).bind _) = _
      rw [hx, List.any_cons, e]
      rfl
    | false =>
      rw [e] at hx
      rw [forC_cons (s' := ()) hx, forC_any p fun y hy => h y (List.mem_cons_of_mem _ hy), List.any_cons, e]
      rfl
end Wk
set_option synthInstance.maxHeartbeats 400000
set_option synthInstance.maxSize 2000
/-! k70: the plain law -/
namespace Wk70
open PySem L2 Wk
theorem cell_at {ns : List Int} (k : Int) (h0 : 0 ≤ k) : ∃ c, m__law_cell_at (Fz.mk ns) k = some c := by
  unfold m__law_cell_at
  by_cases h : k < (ns.length : Int)
  · obtain ⟨x, e, _⟩ := atI_some (xs := ns) h0 h
    exact ⟨x, by rw [if_pos (decide_eq_true h), e]; rfl⟩
  · exact ⟨0, by rw [if_neg (by simpa using h)]⟩
theorem numbers_ok (cell many : Int) (h0 : 0 ≤ many) (hm : many ≤ 1000) : ∃ f, m__law_numbers cell many = some f ∧ f.length = many.toNat := by
  unfold m__law_numbers
  simp only [bs]
  obtain ⟨⟨n1, f1⟩, e1, i1, _⟩ := whileF_inv (c := m__law_numbers_L1_c cell many) (f := m__law_numbers_L1 cell many) (fun s => (s.2.length : Int) ≤ many) (fun s => many.toNat - s.2.length) (fun s hs => by
    obtain ⟨n, f⟩ := s
    have hs : (f.length : Int) ≤ many := hs
    refine ⟨_, rfl, fun hb => ?_⟩
    simp only [Bool.and_eq_true, decide_eq_true_eq] at hb
    refine ⟨(n / 10000000000, f ++ [n % 10000000000]), ?_, ?_, ?_⟩
    · unfold m__law_numbers_L1
      simp only [appO_ok (show f.length < 1000000 by omega), bs]
    · simp; omega
    · simp; omega) (s := (cell / 2, [])) (by simpa using h0)
  rw [e1]
  simp only [bs]
  obtain ⟨⟨n2, f2⟩, e2, i2, h2⟩ := whileF_inv (c := m__law_numbers_L2_c many) (f := m__law_numbers_L2 many) (fun s => (s.2.length : Int) ≤ many) (fun s => many.toNat - s.2.length) (fun s hs => by
    obtain ⟨n, f⟩ := s
    have hs : (f.length : Int) ≤ many := hs
    refine ⟨_, rfl, fun hb => ?_⟩
    simp only [decide_eq_true_eq] at hb
    refine ⟨(((n + (f.length : Int) + 1) * 48271 % 2147483647), f ++ [((n + (f.length : Int) + 1) * 48271 % 2147483647) * 69621 % 2147483629]), ?_, ?_, ?_⟩
    · unfold m__law_numbers_L2
      simp only [appO_ok (show f.length < 1000000 by omega), bs]
    · simp; omega
    · simp; omega) (s := (cell % 2147483647, f1)) i1
  rw [e2]
  simp only [bs]
  have h2 : decide ((f2.length : Int) < many) = false := Option.some.inj h2
  simp only [decide_eq_false_iff_not] at h2
  have i2 : (f2.length : Int) ≤ many := i2
  exact ⟨f2, rfl, by omega⟩
/-! names that differ at one place -/
def alpha : Str := "abcdefghijklmnopqrstuvwxyz"
theorem alpha_at : ∀ i : Fin 26, alpha.cps[i.val]? = some (97 + i.val) := by decide +kernel
theorem alpha_size : alpha.cps.size = 26 := by decide +kernel
theorem letter (i : Int) : ixS alpha (i % 26) = some ⟨#[97 + (i % 26).toNat]⟩ := by
  have h1 : 0 ≤ i % 26 := by omega
  have h2 : i % 26 < 26 := by omega
  have hl : alpha.length = 26 := alpha_size
  unfold ixS
  rw [if_pos (by rw [hl]; omega), atI_ok h1 (by rw [Array.length_toList, alpha_size]; omega)]
  have e : alpha.cps.toList[(i % 26).toNat]? = some (97 + (i % 26).toNat) := by
    rw [Array.getElem?_toList]
    exact alpha_at ⟨(i % 26).toNat, by omega⟩
  rw [e]
  rfl
structure NmOk (some_ : List Int) (at_ turn : Int) (j : Nat) (n : Str) : Prop where
  size : n.cps.size = j
  at_ : ∀ (i : Nat) (s : Int), i < j → some_[i]? = some s → n.cps[i]? = some (97 + ((s + turn * (if (decide ((i : Int) = at_)) = true then (1 : Int) else 0)) % 26).toNat)
  ok : PyData.strOk n = true
theorem name_ok (some_ : List Int) (at_ turn size : Int) (hs : some_.length = 10) (h0 : 0 ≤ size) (h1 : size ≤ 8) (ht0 : 0 ≤ turn) (ht1 : turn < 1000) :
    ∃ n, forS (m__law_names_L2 some_ at_ turn) (irange 0 size) ("" : Str) = some n ∧ NmOk some_ at_ turn size.toNat n := by
  obtain ⟨n, e, h⟩ := forS_ix (f := m__law_names_L2 some_ at_ turn) (xs := irange 0 size) (fun j n => NmOk some_ at_ turn j n) (s := ("" : Str)) ⟨rfl, fun i s hi => absurd hi (Nat.not_lt_zero _), by decide +kernel⟩ (fun j hj n hn => by
    rw [irange_len] at hj
    have ej : (irange 0 size)[j]'(by rw [irange_len]; exact hj) = (j : Int) := by simp [irange]
    rw [ej]
    obtain ⟨s, e1, e2⟩ := atI_some (xs := some_) (i := (j : Int)) (by omega) (by omega)
    rw [show ((j : Int)).toNat = j from rfl] at e2
    have hsz : n.length = j := hn.size
    have e3 : ixS ("abcdefghijklmnopqrstuvwxyz" : Str) ((s + turn * (if (decide ((j : Int) = at_)) = true then (1 : Int) else 0)) % 26) = _ := letter _
    generalize hk : 97 + ((s + turn * (if (decide ((j : Int) = at_)) = true then (1 : Int) else 0)) % 26).toNat = k at e3
    have hk2 : k < 200 := by omega
    refine ⟨n ++ ⟨#[k]⟩, ?_, ?_, ?_, ?_⟩
    · unfold m__law_names_L2
      rw [mulO_ok (by omega) (by omega)]
      simp only [bs, e1, e3]
      have : addS n ⟨#[k]⟩ = some (n ++ ⟨#[k]⟩) := if_pos (by
        show n.length + 1 ≤ 1000000
        omega)
      rw [this]
      rfl
    · show (n.cps ++ #[k]).size = _
      rw [Array.size_append, hn.size]
      rfl
    · intro i s' hi hs'
      show (n.cps ++ #[k])[i]? = _
      by_cases hij : i < j
      · rw [Array.getElem?_append_left (by rw [hn.size]; exact hij)]
        exact hn.at_ i s' hij hs'
      · have : i = j := by omega
        subst this
        rw [e2] at hs'
        cases hs'
        rw [Array.getElem?_append_right (by rw [hn.size]; exact Nat.le_refl _), hn.size, Nat.sub_self, hk]
        rfl
    · refine ok_app hn.ok ?_
      show (#[k] : Array Nat).all _ = true
      have : ∀ k : Fin 200, PyData.strOk ⟨#[k.val]⟩ = true := by decide +kernel
      exact this ⟨k, hk2⟩)
  rw [irange_len, Int.sub_zero] at h
  exact ⟨n, e, h⟩
theorem names_ok (cell many : Int) (h0 : 0 ≤ many) (hm : many ≤ 26) : ∃ ns, m__law_names cell many = some ns ∧ ns.length = many.toNat ∧ ns.Nodup ∧ ∀ n ∈ ns, n ≠ "" ∧ PyData.strOk n = true := by
  obtain ⟨l, e0, hl⟩ := numbers_ok cell 10 (by omega) (by omega)
  obtain ⟨s8, e8, _⟩ := atI_some (xs := l) (i := 8) (by omega) (by omega)
  obtain ⟨s9, e9, _⟩ := atI_some (xs := l) (i := 9) (by omega) (by omega)
  unfold m__law_names
  simp only [e0, e8, e9, bs]
  rw [modO_ok (by omega), rngO_ok (by omega) (by omega) (by omega) (by omega)]
  simp only [bs]
  generalize hz : 1 + s8 % 8 = size
  have z1 : 1 ≤ size := by omega
  have z2 : size ≤ 8 := by omega
  have a1 := Int.emod_nonneg s9 (show size ≠ 0 by omega)
  have a2 := Int.emod_lt_of_pos s9 (show 0 < size by omega)
  generalize s9 % size = at_ at a1 a2
  obtain ⟨p, ep⟩ : ∃ p : Nat, at_ = p := ⟨at_.toNat, by omega⟩
  subst ep
  obtain ⟨sp, esp⟩ : ∃ sp, l[p]? = some sp := ⟨_, List.getElem?_eq_getElem (show p < l.length by omega)⟩
  obtain ⟨ns, e, h1, h2⟩ := forS_ix (f := m__law_names_L1 l size p) (xs := irange 0 many) (fun (j : Nat) (ns : List Str) => ns.length = j ∧ ∀ (i : Nat) (n : Str), ns[i]? = some n → NmOk l (p : Int) (i : Int) size.toNat n) (s := []) ⟨rfl, fun i n h => by simp at h⟩ (fun j hj ns hn => by
    rw [irange_len] at hj
    have ej : (irange 0 many)[j]'(by rw [irange_len]; exact hj) = (j : Int) := by simp [irange]
    rw [ej]
    obtain ⟨n, en, hn'⟩ := name_ok l p j size (by omega) (by omega) (by omega) (by omega) (by omega)
    refine ⟨ns ++ [n], ?_, by rw [List.length_append, hn.1]; rfl, fun i m hi => ?_⟩
    · unfold m__law_names_L1
      rw [rngO_ok (by omega) (by omega) (by omega) (by omega)]
      simp only [bs]
      rw [en, bs, appO_ok (show ns.length < 1000000 by omega)]
      rfl
    · by_cases hij : i < j
      · rw [List.getElem?_append_left (by omega)] at hi
        exact hn.2 i m hi
      · rw [List.getElem?_append_right (by omega)] at hi
        have : i = j := by
          cases q : i - ns.length with
          | zero => omega
          | succ k => rw [q] at hi; simp at hi
        subst this
        rw [hn.1, Nat.sub_self] at hi
        cases hi
        exact hn')
  rw [e, bs]
  rw [irange_len, Int.sub_zero] at h1
  refine ⟨ns, rfl, h1, ?_, fun n hn => ?_⟩
  · show List.Pairwise (· ≠ ·) ns
    rw [List.pairwise_iff_getElem]
    intro i j hi hj hij heq
    have ea : ns[i]? = some ns[i] := List.getElem?_eq_getElem hi
    have eb : ns[j]? = some ns[i] := by rw [heq]; exact List.getElem?_eq_getElem hj
    have q1 := (h2 i _ ea).at_ p sp (by omega) esp
    have q2 := (h2 j _ eb).at_ p sp (by omega) esp
    rw [q1] at q2
    simp at q2
    omega
  · obtain ⟨i, hi⟩ := List.getElem?_of_mem hn
    have q := h2 i n hi
    refine ⟨fun z => ?_, q.ok⟩
    have := q.size
    rw [z] at this
    have : size.toNat = 0 := this.symm
    omega
/-! floats: where they stand -/
abbrev Th := Str × Int × Int × Int × Int × Unit
abbrev Ft := Str × Str × Int × Int × Unit
abbrev Ed := Int × Str × Unit
abbrev Tr := Int × Str × Str × Unit
abbrev Z := Ft × Th
def tend (t : Th) : Int := t.2.2.1 + t.2.2.2.2.1
def tch (t : Th) (r h : Int) : Bool := decide (t.2.2.1 < r + h) && decide (r < tend t)
def stepL (r h : Int) (a : Ed) (t : Th) : Ed := if (tch t r h && decide (a.1 < t.2.1 + t.2.2.2.1)) = true then (t.2.1 + t.2.2.2.1, t.1, ()) else a
def stepR (r h : Int) (a : Ed) (t : Th) : Ed := if (tch t r h && decide (t.2.1 < a.1)) = true then (t.2.1, t.1, ()) else a
def eL (ls : List Th) (r h : Int) : Ed := ls.foldl (stepL r h) ((0 : Int), ("" : Str), ())
def eR (W : Int) (rs : List Th) (r h : Int) : Ed := rs.foldl (stepR r h) ((W : Int), ("" : Str), ())
theorem edges_eq (W : Int) (ls rs : List Th) (r h : Int) : m_edges W ls rs r h = some (eL ls r h, eR W rs r h, ()) := by
  unfold m_edges
  simp only [bs]
  have e1 : forS (m_edges_L1 r h) ls ((0 : Int), ("" : Str), ()) = some (eL ls r h) := forS_fold (stepL r h) (fun _ _ => True) trivial fun t rest a _ => ⟨by
    unfold m_edges_L1 m_touches stepL tch tend
    simp only [bs]
    split <;> rfl, trivial⟩
  have e2 : forS (m_edges_L2 r h) rs (W, ("" : Str), ()) = some (eR W rs r h) := forS_fold (stepR r h) (fun _ _ => True) trivial fun t rest a _ => ⟨by
    unfold m_edges_L2 m_touches stepR tch tend
    simp only [bs]
    split <;> rfl, trivial⟩
  rw [e1, bs, e2, bs]
theorem foldL_spec (r h : Int) : ∀ (ls : List Th) (a : Ed), a.1 ≤ (ls.foldl (stepL r h) a).1 ∧ (∀ t ∈ ls, tch t r h = true → t.2.1 + t.2.2.2.1 ≤ (ls.foldl (stepL r h) a).1) ∧ (ls.foldl (stepL r h) a = a ∨ ∃ t ∈ ls, tch t r h = true ∧ ls.foldl (stepL r h) a = (t.2.1 + t.2.2.2.1, t.1, ()))
  | [], a => ⟨Int.le_refl _, (fun _ h => nomatch h), .inl rfl⟩
  | u :: ls, a => by
    obtain ⟨h1, h2, h3⟩ := foldL_spec r h ls (stepL r h a u)
    rw [List.foldl_cons]
    generalize hb : stepL r h a u = b at h1 h2 h3
    generalize ls.foldl (stepL r h) b = c at h1 h2 h3
    have hab : a.1 ≤ b.1 ∧ (tch u r h = true → u.2.1 + u.2.2.2.1 ≤ b.1) ∧ (b = a ∨ (tch u r h = true ∧ b = (u.2.1 + u.2.2.2.1, u.1, ()))) := by
      unfold stepL at hb
      split at hb
      · rename_i q
        rw [Bool.and_eq_true, decide_eq_true_eq] at q
        subst hb
        exact ⟨by show a.1 ≤ u.2.1 + u.2.2.2.1; omega, fun _ => Int.le_refl _, .inr ⟨q.1, rfl⟩⟩
      · rename_i q
        subst hb
        refine ⟨Int.le_refl _, fun ht => ?_, .inl rfl⟩
        rw [ht, Bool.true_and, decide_eq_true_eq] at q
        omega
    refine ⟨by omega, fun t ht hc => ?_, ?_⟩
    · rcases List.mem_cons.mp ht with rfl | ht
      · have := hab.2.1 hc
        omega
      · exact h2 t ht hc
    · rcases h3 with h3 | ⟨t, ht, h3⟩
      · rcases hab.2.2 with q | ⟨q1, q2⟩
        · exact .inl (h3.trans q)
        · exact .inr ⟨u, List.mem_cons_self, q1, h3.trans q2⟩
      · exact .inr ⟨t, List.mem_cons_of_mem _ ht, h3⟩
theorem foldR_spec (r h : Int) : ∀ (rs : List Th) (a : Ed), (rs.foldl (stepR r h) a).1 ≤ a.1 ∧ (∀ t ∈ rs, tch t r h = true → (rs.foldl (stepR r h) a).1 ≤ t.2.1) ∧ (rs.foldl (stepR r h) a = a ∨ ∃ t ∈ rs, tch t r h = true ∧ rs.foldl (stepR r h) a = (t.2.1, t.1, ()))
  | [], a => ⟨Int.le_refl _, (fun _ h => nomatch h), .inl rfl⟩
  | u :: rs, a => by
    obtain ⟨h1, h2, h3⟩ := foldR_spec r h rs (stepR r h a u)
    rw [List.foldl_cons]
    generalize hb : stepR r h a u = b at h1 h2 h3
    generalize rs.foldl (stepR r h) b = c at h1 h2 h3
    have hab : b.1 ≤ a.1 ∧ (tch u r h = true → b.1 ≤ u.2.1) ∧ (b = a ∨ (tch u r h = true ∧ b = (u.2.1, u.1, ()))) := by
      unfold stepR at hb
      split at hb
      · rename_i q
        rw [Bool.and_eq_true, decide_eq_true_eq] at q
        subst hb
        exact ⟨by show u.2.1 ≤ a.1; omega, fun _ => Int.le_refl _, .inr ⟨q.1, rfl⟩⟩
      · rename_i q
        subst hb
        refine ⟨Int.le_refl _, fun ht => ?_, .inl rfl⟩
        rw [ht, Bool.true_and, decide_eq_true_eq] at q
        omega
    refine ⟨by omega, fun t ht hc => ?_, ?_⟩
    · rcases List.mem_cons.mp ht with rfl | ht
      · have := hab.2.1 hc
        omega
      · exact h2 t ht hc
    · rcases h3 with h3 | ⟨t, ht, h3⟩
      · rcases hab.2.2 with q | ⟨q1, q2⟩
        · exact .inl (h3.trans q)
        · exact .inr ⟨u, List.mem_cons_self, q1, h3.trans q2⟩
      · exact .inr ⟨t, List.mem_cons_of_mem _ ht, h3⟩
def LE (ls : List Th) (r h : Int) : Int := (eL ls r h).1
def RE (W : Int) (rs : List Th) (r h : Int) : Int := (eR W rs r h).1
theorem LE_nn (ls : List Th) (r h : Int) : 0 ≤ LE ls r h := (foldL_spec r h ls ((0 : Int), ("" : Str), ())).1
theorem LE_ge {ls : List Th} {r h : Int} {t : Th} (ht : t ∈ ls) (hc : tch t r h = true) : t.2.1 + t.2.2.2.1 ≤ LE ls r h := (foldL_spec r h ls ((0 : Int), ("" : Str), ())).2.1 t ht hc
theorem eL_is (ls : List Th) (r h : Int) : eL ls r h = ((0 : Int), ("" : Str), ()) ∨ ∃ t ∈ ls, tch t r h = true ∧ eL ls r h = (t.2.1 + t.2.2.2.1, t.1, ()) := (foldL_spec r h ls ((0 : Int), ("" : Str), ())).2.2
theorem RE_le (W : Int) (rs : List Th) (r h : Int) : RE W rs r h ≤ W := (foldR_spec r h rs ((W : Int), ("" : Str), ())).1
theorem RE_ge {W : Int} {rs : List Th} {r h : Int} {t : Th} (ht : t ∈ rs) (hc : tch t r h = true) : RE W rs r h ≤ t.2.1 := (foldR_spec r h rs ((W : Int), ("" : Str), ())).2.1 t ht hc
theorem eR_is (W : Int) (rs : List Th) (r h : Int) : eR W rs r h = ((W : Int), ("" : Str), ()) ∨ ∃ t ∈ rs, tch t r h = true ∧ eR W rs r h = (t.2.1, t.1, ()) := (foldR_spec r h rs ((W : Int), ("" : Str), ())).2.2
/-- what a triple shows -/
structure Bar (W wide high : Int) (ls rs : List Th) (b : Int) (q : Tr) : Prop where
  up : b < q.1
  two : ∃ x y, ((q.2.1 = "" ∧ x = 0) ∨ ∃ t ∈ ls, t.1 = q.2.1 ∧ x = t.2.1 + t.2.2.2.1 ∧ tch t b high = true ∧ q.1 ≤ tend t) ∧ ((q.2.2.1 = "" ∧ y = W) ∨ ∃ t ∈ rs, t.1 = q.2.2.1 ∧ y = t.2.1 ∧ tch t b high = true ∧ q.1 ≤ tend t) ∧ y - x < wide
inductive PW (W wide high : Int) (ls rs : List Th) (a : Int) : List Tr → Int → Prop
  | nil : PW W wide high ls rs a [] a
  | snoc {ps : List Tr} {b : Int} {q : Tr} : PW W wide high ls rs a ps b → Bar W wide high ls rs b q → PW W wide high ls rs a (ps ++ [q]) q.1
theorem filter_lt {α : Type} (p q : α → Bool) : ∀ {xs : List α}, (∀ x ∈ xs, q x = true → p x = true) → (∃ x ∈ xs, p x = true ∧ q x = false) → (xs.filter q).length < (xs.filter p).length
  | [], _, ⟨x, hx, _⟩ => nomatch hx
  | y :: ys, h, ⟨x, hx, h1, h2⟩ => by
    have le : (ys.filter q).length ≤ (ys.filter p).length := by
      have h' : ∀ x ∈ ys, q x = true → p x = true := fun z hz => h z (List.mem_cons_of_mem _ hz)
      clear h hx h1 h2
      induction ys with
      | nil => exact Nat.le_refl _
      | cons z zs ih =>
        have ih := ih fun w hw => h' w (List.mem_cons_of_mem _ hw)
        have hz := h' z List.mem_cons_self
        cases e : q z with
        | true => rw [List.filter_cons_of_pos e, List.filter_cons_of_pos (hz e), List.length_cons, List.length_cons]; omega
        | false =>
          rw [List.filter_cons_of_neg (by rw [e]; exact Bool.false_ne_true)]
          cases e2 : p z with
          | true => rw [List.filter_cons_of_pos e2, List.length_cons]; omega
          | false => rw [List.filter_cons_of_neg (by rw [e2]; exact Bool.false_ne_true)]; exact ih
    rcases List.mem_cons.mp hx with rfl | hx
    · rw [List.filter_cons_of_pos h1, List.filter_cons_of_neg (by rw [h2]; exact Bool.false_ne_true), List.length_cons]
      omega
    · have ih := filter_lt p q (xs := ys) (fun z hz => h z (List.mem_cons_of_mem _ hz)) ⟨x, hx, h1, h2⟩
      have hy := h y List.mem_cons_self
      cases e : q y with
      | true => rw [List.filter_cons_of_pos e, List.filter_cons_of_pos (hy e), List.length_cons, List.length_cons]; omega
      | false =>
        rw [List.filter_cons_of_neg (by rw [e]; exact Bool.false_ne_true)]
        cases e2 : p y with
        | true => rw [List.filter_cons_of_pos e2, List.length_cons]; omega
        | false => rw [List.filter_cons_of_neg (by rw [e2]; exact Bool.false_ne_true)]; exact ih
def cnt (sd : List Th) (r : Int) : Nat := (sd.filter fun t => decide (r < tend t)).length
structure WI (W wide high base : Int) (sd rs ls : List Th) (s : Int × Ed × Ed × List Tr) : Prop where
  lo : base ≤ s.1
  l : s.2.1 = eL ls s.1 high
  r : s.2.2.1 = eR W rs s.1 high
  no : ∀ r, base ≤ r → r < s.1 → RE W rs r high - LE ls r high < wide
  len : s.2.2.2.length + cnt sd s.1 ≤ sd.length
  pap : PW W wide high ls rs base s.2.2.2 s.1
theorem place_ok {W wide high base : Int} {sd rs ls : List Th} (hn : ∀ t ∈ sd, ∀ u ∈ sd, t.1 = u.1 → t = u) (he : ∀ t ∈ sd, t.1 ≠ ("" : Str)) (hl : ∀ t ∈ ls, t ∈ sd) (hr : ∀ t ∈ rs, t ∈ sd) (hw : wide ≤ W) (hs : sd.length < 1000) :
    ∃ row paper, whileF (m_stand_floats_L3_c W wide high sd rs ls) (m_stand_floats_L3 W wide high sd rs ls) (base, eL ls base high, eR W rs base high, []) = some (row, eL ls row high, eR W rs row high, paper) ∧
      WI W wide high base sd rs ls (row, eL ls row high, eR W rs row high, paper) ∧ wide ≤ RE W rs row high - LE ls row high := by
  obtain ⟨⟨row, L, R, paper⟩, e, hi, hc⟩ := whileF_inv (c := m_stand_floats_L3_c W wide high sd rs ls) (f := m_stand_floats_L3 W wide high sd rs ls) (WI W wide high base sd rs ls) (fun s => cnt sd s.1) (fun s hi => by
    obtain ⟨row, L, R, paper⟩ := s
    have hL : L = eL ls row high := hi.l
    have hR : R = eR W rs row high := hi.r
    refine ⟨_, rfl, fun hb => ?_⟩
    simp only [decide_eq_true_eq] at hb
    have hb : R.1 - L.1 < wide := hb
    have tl := eL_is ls row high
    have tr := eR_is W rs row high
    rw [← hL] at tl
    rw [← hR] at tr
    -- those named touch
    have nmL : ∀ u ∈ sd, u.1 = L.2.1 → tch u row high = true := by
      intro u hu q
      rcases tl with z | ⟨t, ht, hc, z⟩
      · rw [z] at q
        exact absurd q (he u hu)
      · rw [z] at q
        rw [hn u hu t (hl t ht) q]
        exact hc
    have nmR : ∀ u ∈ sd, u.1 = R.2.1 → tch u row high = true := by
      intro u hu q
      rcases tr with z | ⟨t, ht, hc, z⟩
      · rw [z] at q
        exact absurd q (he u hu)
      · rw [z] at q
        rw [hn u hu t (hr t ht) q]
        exact hc
    have some_one : ∃ u ∈ sd, (decide (u.1 = L.2.1) || decide (u.1 = R.2.1)) = true := by
      rcases tl with z | ⟨t, ht, hc, z⟩
      · rcases tr with z2 | ⟨t, ht, hc, z2⟩
        · rw [z, z2] at hb
          simp at hb
          omega
        · exact ⟨t, hr t ht, by rw [z2]; simp⟩
      · exact ⟨t, hl t ht, by rw [z]; simp⟩
    have fe : ∃ m, m_first_end sd L.2.1 R.2.1 = some m ∧ (∃ u ∈ sd, tend u = m ∧ tch u row high = true) ∧ ∀ u ∈ sd, (u.1 = L.2.1 ∨ u.1 = R.2.1) → m ≤ tend u := by
      unfold m_first_end
      have e := lcGo_if (c := fun u : Th => some (decide (u.1 = L.2.1) || decide (u.1 = R.2.1))) (f := fun u : Th => some (u.2.2.1 + u.2.2.2.2.1)) (fun u : Th => decide (u.1 = L.2.1) || decide (u.1 = R.2.1)) tend (xs := sd) (fun _ _ => rfl) (fun _ _ _ => rfl)
      rw [lcM_len (by omega), e]
      simp only [bs]
      generalize hz : (sd.filter fun u : Th => decide (u.1 = L.2.1) || decide (u.1 = R.2.1)).map tend = zs
      obtain ⟨u, hu, hq⟩ := some_one
      have hm : tend u ∈ zs := by
        rw [← hz]
        exact List.mem_map.mpr ⟨u, List.mem_filter.mpr ⟨hu, hq⟩, rfl⟩
      match zs, hm, hz with
      | y :: ys, hm, hz =>
        have hmin : minL (y :: ys) = some (minG y ys) := rfl
        obtain ⟨q1, q2⟩ := minL_spec hmin
        rw [hmin]
        refine ⟨minG y ys, rfl, ?_, fun v hv hq => q2 _ ?_⟩
        · rw [← hz] at q1
          obtain ⟨v, hv, q3⟩ := List.mem_map.mp q1
          obtain ⟨hv, q4⟩ := List.mem_filter.mp hv
          rw [Bool.or_eq_true, decide_eq_true_eq, decide_eq_true_eq] at q4
          refine ⟨v, hv, q3, ?_⟩
          rcases q4 with q4 | q4
          · exact nmL v hv q4
          · exact nmR v hv q4
        · rw [← hz]
          refine List.mem_map.mpr ⟨v, List.mem_filter.mpr ⟨hv, ?_⟩, rfl⟩
          rw [Bool.or_eq_true, decide_eq_true_eq, decide_eq_true_eq]
          exact hq
    obtain ⟨m, em, ⟨u, hu, um, uc⟩, hm⟩ := fe
    have hrm : row < m := by
      unfold tch at uc
      rw [Bool.and_eq_true, decide_eq_true_eq, decide_eq_true_eq] at uc
      omega
    have hlen := hi.len
    have hlen : paper.length + cnt sd row ≤ sd.length := hlen
    have hcm : cnt sd m < cnt sd row := filter_lt _ _ (fun t _ q => by
      rw [decide_eq_true_eq] at q ⊢
      omega) ⟨u, hu, decide_eq_true (by omega), decide_eq_false (by omega)⟩
    refine ⟨(m, eL ls m high, eR W rs m high, paper ++ [(m, L.2.1, R.2.1, ())]), ?_, ⟨?_, rfl, rfl, ?_, ?_, ?_⟩, hcm⟩
    · unfold m_stand_floats_L3
      simp only [bs, em, appO_ok (show paper.length < 1000000 by omega), edges_eq]
    · have := hi.lo
      have : base ≤ row := this
      show base ≤ m
      omega
    · intro r h1 h2
      have h2 : r < m := h2
      by_cases h3 : r < row
      · exact hi.no r h1 h3
      · have k1 : L.1 ≤ LE ls r high := by
          rcases tl with z | ⟨t, ht, hc, z⟩
          · rw [z]
            exact LE_nn _ _ _
          · rw [z]
            refine LE_ge ht ?_
            have := hm t (hl t ht) (.inl (by rw [z]))
            unfold tch at hc ⊢
            rw [Bool.and_eq_true, decide_eq_true_eq, decide_eq_true_eq] at hc ⊢
            omega
        have k2 : RE W rs r high ≤ R.1 := by
          rcases tr with z | ⟨t, ht, hc, z⟩
          · rw [z]
            exact RE_le _ _ _ _
          · rw [z]
            refine RE_ge ht ?_
            have := hm t (hr t ht) (.inr (by rw [z]))
            unfold tch at hc ⊢
            rw [Bool.and_eq_true, decide_eq_true_eq, decide_eq_true_eq] at hc ⊢
            omega
        omega
    · show (paper ++ [_]).length + cnt sd m ≤ _
      rw [List.length_append, List.length_singleton]
      omega
    · refine PW.snoc (q := (m, L.2.1, R.2.1, ())) hi.pap ⟨hrm, L.1, R.1, ?_, ?_, hb⟩
      · rcases tl with z | ⟨t, ht, hc, z⟩
        · exact .inl (by rw [z]; exact ⟨rfl, rfl⟩)
        · exact .inr ⟨t, ht, by rw [z], by rw [z], hc, hm t (hl t ht) (.inl (by rw [z]))⟩
      · rcases tr with z | ⟨t, ht, hc, z⟩
        · exact .inl (by rw [z]; exact ⟨rfl, rfl⟩)
        · exact .inr ⟨t, ht, by rw [z], by rw [z], hc, hm t (hr t ht) (.inr (by rw [z]))⟩) (s := (base, eL ls base high, eR W rs base high, [])) ⟨Int.le_refl _, rfl, rfl, fun r h1 h2 => absurd h2 (by show ¬ r < base; omega), by
      show 0 + cnt sd base ≤ _
      have := List.length_filter_le (fun t => decide (base < tend t)) sd
      unfold cnt
      omega, PW.nil⟩
  have hL : L = eL ls row high := hi.l
  have hR : R = eR W rs row high := hi.r
  subst hL hR
  refine ⟨row, paper, e, hi, ?_⟩
  have hc : decide (RE W rs row high - LE ls row high < wide) = false := Option.some.inj hc
  rw [decide_eq_false_iff_not] at hc
  omega
/-! all of them -/
def ls (zs : List Z) : List Th := (zs.filter fun z => decide (z.1.2.1 = ("left" : Str))).map (·.2)
def rs (zs : List Z) : List Th := (zs.filter fun z => !decide (z.1.2.1 = ("left" : Str))).map (·.2)
def lastrow (zs : List Z) : Int := match zs.getLast? with | none => 0 | some z => z.2.2.2.1
theorem lastrow_snoc (zs : List Z) (z : Z) : lastrow (zs ++ [z]) = z.2.2.2.1 := by
  unfold lastrow
  rw [List.getLast?_append, List.getLast?_singleton]
  rfl
theorem ls_snoc (zs : List Z) (z : Z) : ls (zs ++ [z]) = if z.1.2.1 = ("left" : Str) then ls zs ++ [z.2] else ls zs := by
  unfold ls
  rw [List.filter_append, List.map_append]
  by_cases h : z.1.2.1 = ("left" : Str)
  · rw [if_pos h]; simp [h]
  · rw [if_neg h]; simp [h]
theorem rs_snoc (zs : List Z) (z : Z) : rs (zs ++ [z]) = if z.1.2.1 = ("left" : Str) then rs zs else rs zs ++ [z.2] := by
  unfold rs
  rw [List.filter_append, List.map_append]
  by_cases h : z.1.2.1 = ("left" : Str)
  · rw [if_pos h]; simp [h]
  · rw [if_neg h]; simp [h]
theorem ls_mem {zs : List Z} {t : Th} (h : t ∈ ls zs) : ∃ z ∈ zs, z.2 = t ∧ z.1.2.1 = ("left" : Str) := by
  obtain ⟨z, hz, e⟩ := List.mem_map.mp h
  obtain ⟨h1, h2⟩ := List.mem_filter.mp hz
  exact ⟨z, h1, e, of_decide_eq_true h2⟩
theorem rs_mem {zs : List Z} {t : Th} (h : t ∈ rs zs) : ∃ z ∈ zs, z.2 = t ∧ z.1.2.1 ≠ ("left" : Str) := by
  obtain ⟨z, hz, e⟩ := List.mem_map.mp h
  obtain ⟨h1, h2⟩ := List.mem_filter.mp hz
  exact ⟨z, h1, e, by simpa using h2⟩
theorem mem_ls {zs : List Z} {z : Z} (h : z ∈ zs) (hs : z.1.2.1 = ("left" : Str)) : z.2 ∈ ls zs := List.mem_map.mpr ⟨z, List.mem_filter.mpr ⟨h, decide_eq_true hs⟩, rfl⟩
theorem mem_rs {zs : List Z} {z : Z} (h : z ∈ zs) (hs : z.1.2.1 ≠ ("left" : Str)) : z.2 ∈ rs zs := List.mem_map.mpr ⟨z, List.mem_filter.mpr ⟨h, by simp [hs]⟩, rfl⟩
structure Nx (W : Int) (zs : List Z) (z : Z) : Prop where
  nm : z.2.1 = z.1.1
  w : z.2.2.2.2.1 = z.1.2.2.1
  h : z.2.2.2.2.2.1 = z.1.2.2.2.1
  row : lastrow zs ≤ z.2.2.2.1
  fit : z.1.2.2.1 ≤ RE W (rs zs) z.2.2.2.1 z.1.2.2.2.1 - LE (ls zs) z.2.2.2.1 z.1.2.2.2.1
  low : ∀ r, lastrow zs ≤ r → r < z.2.2.2.1 → RE W (rs zs) r z.1.2.2.2.1 - LE (ls zs) r z.1.2.2.2.1 < z.1.2.2.1
  x : z.2.2.1 = if z.1.2.1 = ("left" : Str) then LE (ls zs) z.2.2.2.1 z.1.2.2.2.1 else RE W (rs zs) z.2.2.2.1 z.1.2.2.2.1 - z.1.2.2.1
inductive Ch (W : Int) : List Z → Prop
  | nil : Ch W []
  | snoc {zs : List Z} {z : Z} : Ch W zs → Nx W zs z → Ch W (zs ++ [z])
theorem Ch.at {W : Int} {zs : List Z} (h : Ch W zs) : ∀ {i : Nat} {z : Z}, zs[i]? = some z → Nx W (zs.take i) z := by
  induction h with
  | nil => intro i z h; simp at h
  | @snoc zs y hc hn ih =>
    intro i z hi
    by_cases hl : i < zs.length
    · rw [List.getElem?_append_left hl] at hi
      rw [List.take_append_of_le_length (by omega)]
      exact ih hi
    · rw [List.getElem?_append_right (by omega)] at hi
      have : i = zs.length := by
        cases q : i - zs.length with
        | zero => omega
        | succ k => rw [q] at hi; simp at hi
      subst this
      rw [Nat.sub_self] at hi
      cases hi
      rw [List.take_left]
      exact hn
theorem Nx.one {W : Int} {zs : List Z} {f : Ft} {t u : Th} (a : Nx W zs (f, t)) (b : Nx W zs (f, u)) : t = u := by
  obtain ⟨n1, x1, y1, w1, h1, ⟨⟩⟩ := t
  obtain ⟨n2, x2, y2, w2, h2, ⟨⟩⟩ := u
  have e1 : n1 = n2 := a.nm.trans b.nm.symm
  have e2 : w1 = w2 := a.w.trans b.w.symm
  have e3 : h1 = h2 := a.h.trans b.h.symm
  have e4 : y1 = y2 := by
    have q1 : ¬ y1 < y2 := fun z => by
      have := b.low y1 a.row z
      have := a.fit
      simp only at *
      omega
    have q2 : ¬ y2 < y1 := fun z => by
      have := a.low y2 b.row z
      have := b.fit
      simp only at *
      omega
    omega
  subst e1 e2 e3 e4
  have e5 : x1 = x2 := a.x.trans b.x.symm
  subst e5
  rfl
theorem Ch.one {W : Int} {zs : List Z} (h : Ch W zs) : ∀ {ys : List Z}, Ch W ys → ys.map (·.1) = zs.map (·.1) → ys = zs := by
  induction h with
  | nil =>
    intro ys _ e
    exact List.map_eq_nil_iff.mp e
  | @snoc zs z hc hn ih =>
    intro ys hy e
    cases hy with
    | nil => simp at e
    | @snoc xs y hx hny =>
      rw [List.map_append, List.map_append] at e
      have e' := List.append_inj' e rfl
      have := ih hx e'.1
      subst this
      have ef : y.1 = z.1 := by simpa using e'.2
      obtain ⟨f, t⟩ := y
      obtain ⟨f2, u⟩ := z
      simp only at ef
      subst ef
      rw [Nx.one hny hn]
structure Pap (W : Int) (zs : List Z) (ps : List (List Tr)) : Prop where
  len : ps.length = zs.length
  at_ : ∀ (i : Nat) (z : Z) (p : List Tr), zs[i]? = some z → ps[i]? = some p → p.length ≤ zs.length ∧ PW W z.1.2.2.1 z.1.2.2.2.1 (ls (zs.take i)) (rs (zs.take i)) (lastrow (zs.take i)) p z.2.2.2.1
structure SI (W : Int) (fs : List Ft) (i : Nat) (s : Int × List (List Tr) × List Th × List Th × List Th) : Prop where
  ex : ∃ zs : List Z, zs.map (·.1) = fs.take i ∧ Ch W zs ∧ Pap W zs s.2.1 ∧ s.1 = lastrow zs ∧ s.2.2.1 = zs.map (·.2) ∧ s.2.2.2.1 = rs zs ∧ s.2.2.2.2 = ls zs
theorem stand_loop {W : Int} {fs : List Ft} (hf : ∀ f ∈ fs, f.2.2.1 ≤ W) (hnd : (fs.map (·.1)).Nodup) (hne : ∀ f ∈ fs, f.1 ≠ ("" : Str)) (hl : fs.length < 1000) :
    ∃ zs ps, forS (m_stand_floats_L2 W) fs (0, [], [], [], []) = some (lastrow zs, ps, zs.map (·.2), rs zs, ls zs) ∧ zs.map (·.1) = fs ∧ Ch W zs ∧ Pap W zs ps := by
  obtain ⟨s, e, ⟨zs, h1, h2, h3, h4, h5, h6, h7⟩⟩ := forS_ix (f := m_stand_floats_L2 W) (xs := fs) (SI W fs) (s := (0, [], [], [], [])) ⟨[], rfl, Ch.nil, ⟨rfl, fun i z p h => by simp at h⟩, rfl, rfl, rfl, rfl⟩ (fun i hi s hs => by
    obtain ⟨row, ps, sd, rr, ll⟩ := s
    obtain ⟨zs, h1, h2, h3, h4, h5, h6, h7⟩ := hs
    simp only at h1 h2 h3 h4 h5 h6 h7
    subst h4 h5 h6 h7
    have hzl : zs.length = i := by
      have := congrArg List.length h1
      rw [List.length_map, List.length_take] at this
      omega
    have hn : ∀ (j : Nat) (z : Z), zs[j]? = some z → z.2.1 = z.1.1 ∧ fs[j]? = some z.1 := by
      intro j z hz
      have hj : j < zs.length := (List.getElem?_eq_some_iff.mp hz).1
      refine ⟨(h2.at hz).nm, ?_⟩
      have : (fs.take i)[j]? = some z.1 := by rw [← h1, List.getElem?_map, hz]; rfl
      rwa [List.getElem?_take_of_lt (by omega)] at this
    generalize hfi : fs[i] = f
    have hfi' : fs[i]? = some f := by rw [← hfi]; exact List.getElem?_eq_getElem hi
    obtain ⟨name, side, wide, high, u⟩ := f
    have hfm : (name, side, wide, high, u) ∈ fs := List.mem_of_getElem? hfi'
    have dist : ∀ t ∈ zs.map (·.2), ∀ u ∈ zs.map (·.2), t.1 = u.1 → t = u := by
      intro t ht v hv q
      obtain ⟨z1, m1, rfl⟩ := List.mem_map.mp ht
      obtain ⟨z2, m2, rfl⟩ := List.mem_map.mp hv
      obtain ⟨j1, k1⟩ := List.getElem?_of_mem m1
      obtain ⟨j2, k2⟩ := List.getElem?_of_mem m2
      obtain ⟨a1, b1⟩ := hn j1 z1 k1
      obtain ⟨a2, b2⟩ := hn j2 z2 k2
      have l1 : j1 < (fs.map (·.1)).length := by rw [List.length_map]; exact (List.getElem?_eq_some_iff.mp b1).1
      have : j1 = j2 := by
        refine (List.getElem?_inj l1 hnd).mp ?_
        rw [List.getElem?_map, List.getElem?_map, b1, b2]
        show some z1.1.1 = some z2.1.1
        rw [← a1, ← a2]
        exact congrArg some q
      subst this
      rw [k1] at k2
      cases k2
      rfl
    have nemp : ∀ t ∈ zs.map (·.2), t.1 ≠ ("" : Str) := by
      intro t ht
      obtain ⟨z1, m1, rfl⟩ := List.mem_map.mp ht
      obtain ⟨j1, k1⟩ := List.getElem?_of_mem m1
      obtain ⟨a1, b1⟩ := hn j1 z1 k1
      rw [a1]
      exact hne _ (List.mem_of_getElem? b1)
    have hlm : ∀ t ∈ ls zs, t ∈ zs.map (·.2) := fun t ht => by
      obtain ⟨z, hz, e, _⟩ := ls_mem ht
      exact List.mem_map.mpr ⟨z, hz, e⟩
    have hrm : ∀ t ∈ rs zs, t ∈ zs.map (·.2) := fun t ht => by
      obtain ⟨z, hz, e, _⟩ := rs_mem ht
      exact List.mem_map.mpr ⟨z, hz, e⟩
    have hlls : (ls zs).length ≤ i := by
      unfold ls
      rw [List.length_map]
      exact Nat.le_trans (List.length_filter_le _ _) (by omega)
    have hlrs : (rs zs).length ≤ i := by
      unfold rs
      rw [List.length_map]
      exact Nat.le_trans (List.length_filter_le _ _) (by omega)
    obtain ⟨row, paper, ew, wi, fit⟩ := place_ok (W := W) (wide := wide) (high := high) (base := lastrow zs) dist nemp hlm hrm (hf _ hfm) (by rw [List.length_map]; omega)
    have hpl : paper.length ≤ zs.length := by
      have := wi.len
      rw [List.length_map] at this
      have : paper.length + cnt (zs.map (·.2)) row ≤ zs.length := this
      omega
    have hps : ps.length = i := by rw [h3.len, hzl]
    generalize ht : ((name, (if side = ("left" : Str) then LE (ls zs) row high else RE W (rs zs) row high - wide), row, wide, high, ()) : Th) = t
    have hnx : Nx W zs ((name, side, wide, high, u), t) := by
      subst ht
      exact ⟨rfl, rfl, rfl, wi.lo, fit, wi.no, rfl⟩
    refine ⟨(row, ps ++ [paper], zs.map (·.2) ++ [t], (if side = ("left" : Str) then rs zs else rs zs ++ [t]), (if side = ("left" : Str) then ls zs ++ [t] else ls zs)), ?_, ⟨zs ++ [((name, side, wide, high, u), t)], ?_, Ch.snoc h2 hnx, ⟨?_, ?_⟩, ?_, ?_, ?_, ?_⟩⟩
    · unfold m_stand_floats_L2
      simp only [bs, edges_eq, ew]
      by_cases hs : side = ("left" : Str)
      · rw [if_pos (decide_eq_true hs), if_pos hs, if_pos hs]
        rw [if_pos hs] at ht
        rw [← ht]
        simp only [bs, appO_ok (show (ls zs).length < 1000000 by omega)]
        rw [appO_ok (by rw [List.length_map]; omega), bs, appO_ok (by omega)]
        rfl
      · rw [if_neg (by simpa using hs), if_neg hs, if_neg hs]
        rw [if_neg hs] at ht
        rw [← ht]
        simp only [bs, appO_ok (show (rs zs).length < 1000000 by omega)]
        rw [appO_ok (by rw [List.length_map]; omega), bs, appO_ok (by omega)]
        rfl
    · rw [List.map_append, h1, List.take_succ, hfi']
      rfl
    · show (ps ++ [paper]).length = _
      rw [List.length_append, List.length_append, h3.len]
      rfl
    · intro j z p hz hp
      have hp : (ps ++ [paper])[j]? = some p := hp
      by_cases hj : j < zs.length
      · rw [List.getElem?_append_left hj] at hz
        rw [List.getElem?_append_left (by omega)] at hp
        rw [List.take_append_of_le_length (by omega)]
        obtain ⟨a, b⟩ := h3.at_ j z p hz hp
        exact ⟨by rw [List.length_append]; omega, b⟩
      · rw [List.getElem?_append_right (by omega)] at hz hp
        have : j = zs.length := by
          cases q : j - zs.length with
          | zero => omega
          | succ k => rw [q] at hz; simp at hz
        subst this
        rw [Nat.sub_self] at hz
        rw [hps, hzl, Nat.sub_self] at hp
        cases hz
        cases hp
        rw [List.take_left]
        subst ht
        exact ⟨by rw [List.length_append]; omega, wi.pap⟩
    · rw [lastrow_snoc]
      subst ht
      rfl
    · show _ = (zs ++ [_]).map _
      rw [List.map_append]
      rfl
    · show _ = rs (zs ++ [_])
      rw [rs_snoc]
    · show _ = ls (zs ++ [_])
      rw [ls_snoc])
  obtain ⟨row, ps, sd, rr, ll⟩ := s
  simp only at h3 h4 h5 h6 h7
  subst h4 h5 h6 h7
  rw [List.take_length] at h1
  exact ⟨zs, ps, e, h1, h2, h3⟩
theorem map_take_nd {ns : List Str} {fs : List Ft} (hnd : ns.Nodup) (h : ∀ (j : Nat) (f : Ft), fs[j]? = some f → ns[j]? = some f.1) : (fs.map (·.1)).Nodup := by
  have e : fs.map (·.1) = ns.take fs.length := by
    refine List.ext_getElem? fun j => ?_
    by_cases hj : j < fs.length
    · have e1 : fs[j]? = some fs[j] := List.getElem?_eq_getElem hj
      rw [List.getElem?_map, e1, List.getElem?_take_of_lt hj, h j _ e1]
      rfl
    · rw [List.getElem?_eq_none (by rw [List.length_map]; omega), List.getElem?_eq_none (by rw [List.length_take]; omega)]
  rw [e]
  exact hnd.sublist (List.take_sublist _ _)
theorem cut_le {α : Type} (xs : List α) (a b : Nat) : (cut xs (some (a : Int)) (some (b : Int))).length ≤ b - a := by
  unfold cut
  rw [HT.sIx_nat, HT.sIx_nat, List.length_take]
  omega
theorem lcM_keep2 {α : Type} {c : α → Option Bool} {xs : List α} (p : α → Bool) (hl : xs.length < 1000000) (h : ∀ x ∈ xs, c x = some (p x)) : lcM c (fun x => some x) xs = some (xs.filter p) := by
  rw [lcM_len hl]
  have := lcGo_if (c := c) (f := fun x => some x) p (fun x => x) h (fun x _ _ => rfl)
  rw [List.map_id'] at this
  exact this
theorem okFt {t : Ft} (h : PyData.strOk t.1 = true) (h2 : PyData.strOk t.2.1 = true) : okD t = true := by
  show PyData.canLay0 (.tuple [.str t.1, .str t.2.1, .int t.2.2.1, .int t.2.2.2.1]) = true
  simp only [PyData.canLay0, PyData.canLayAll0, h, h2, Bool.and_self]
theorem loop1 (W : Int) : ∀ fs : List Ft, forC (m_stand_floats_L1 W) fs () = match fs.find? (fun f => decide (W < f.2.2.1)) with
    | some f => some (.rt (.ex ⟨"TooWide", [("name", .str f.1)]⟩))
    | none => some (.nx ())
  | [] => rfl
  | (a, b, c, d, u) :: fs => by
    have e : m_stand_floats_L1 W (a, b, c, d, u) () = if decide (W < c) = true then some (.rt (.ex ⟨"TooWide", [("name", .str a)]⟩)) else some (.nx ()) := rfl
    by_cases h : W < c
    · rw [List.find?_cons_of_pos (by exact decide_eq_true h)]
      unfold forC
      rw [e, if_pos (decide_eq_true h)]
      rfl
    · rw [List.find?_cons_of_neg (by rw [decide_eq_true_eq]; exact h), forC_cons (s' := ()) (by rw [e, if_neg (by rw [decide_eq_true_eq]; exact h)])]
      exact loop1 W fs
/-- what is due of a list of floats -/
def duef (W : Int) (fs : List Ft) : Dy := match fs.find? (fun f => decide (W < f.2.2.1)) with
  | some f => upD (("too wide" : Str), f.1, true, ())
  | none => upD (fs.length : Int)
theorem told_ok {W : Int} {fs : List Ft} (hnd : (fs.map (·.1)).Nodup) (hne : ∀ f ∈ fs, f.1 ≠ ("" : Str)) (hl : fs.length < 1000) : m__law_told W fs = some (duef W fs) := by
  unfold m__law_told duef
  rw [bs]
  unfold m_stand_floats
  rw [loop1]
  cases hq : fs.find? (fun f => decide (W < f.2.2.1)) with
  | some f =>
    simp only [bs]
    rw [if_pos (decide_eq_true (List.mem_singleton.mpr rfl))]
    have e1 : xfl ⟨"TooWide", [("name", .str f.1)]⟩ "TooWide" "name" = some (Dy.mk (.str f.1)) := by
      unfold xfl
      rw [if_pos rfl]
      simp [List.lookup]
    have e2 : xcls ⟨"TooWide", [("name", .str f.1)]⟩ "TooWide" = some () := if_pos rfl
    rw [e1, bs, e2]
    rfl
  | none =>
    have hf : ∀ f ∈ fs, f.2.2.1 ≤ W := fun f hf => by
      have := List.find?_eq_none.mp hq f hf
      rw [decide_eq_true_eq] at this
      omega
    obtain ⟨zs, ps, e, h1, _, _⟩ := stand_loop hf hnd hne hl
    simp only [bs]
    rw [e]
    simp only [bs]
    rw [List.length_map, ← h1, List.length_map]
theorem due_loop (W : Int) (d : Dy) (fs : List Ft) : forS (m_law_L2 W) fs.reverse d = some (match fs.find? (fun f => decide (W < f.2.2.1)) with
    | some f => upD (("too wide" : Str), f.1, true, ())
    | none => d) := by
  rw [forS_fold (g := fun (d : Dy) (f : Ft) => if W < f.2.2.1 then upD (("too wide" : Str), f.1, true, ()) else d) (fun _ _ => True) trivial (fun f rest d _ => ⟨by
    obtain ⟨a, b, c, e, u⟩ := f
    show (if decide (W < c) = true then _ else _) = some (if W < c then _ else _)
    by_cases h : W < c
    · rw [if_pos (decide_eq_true h), if_pos h]
      rfl
    · rw [if_neg (by rw [decide_eq_true_eq]; exact h), if_neg h], trivial⟩), List.foldl_reverse]
  refine congrArg some ?_
  induction fs with
  | nil => rfl
  | cons f fs ih =>
    rw [List.foldr_cons]
    by_cases h : W < f.2.2.1
    · rw [List.find?_cons_of_pos (by exact decide_eq_true h), if_pos h]
    · rw [List.find?_cons_of_neg (by rw [decide_eq_true_eq]; exact h), if_neg h, ih]
theorem strok_tw : PyData.strOk ("too wide" : Str) = true := by decide +kernel
theorem eq_int (i : Int) : eqYO (upD i) (upD i) = some true := by
  unfold eqYO
  rw [if_pos ⟨rfl, rfl⟩]
  exact congrArg some (SeqAt.eqv_refl (.int i) rfl)
theorem eq_tw {n : Str} (h : PyData.strOk n = true) : eqYO (upD (("too wide" : Str), n, true, ())) (upD (("too wide" : Str), n, true, ())) = some true := by
  have hc : PyData.canLay0 (.tuple [.str "too wide", .str n, .bool true]) = true := by simp only [PyData.canLay0, PyData.canLayAll0, h, strok_tw, Bool.and_self]
  have hs : SeqAt.shaped (.tuple [.str "too wide", .str n, .bool true]) = true := by
    unfold SeqAt.shaped
    rw [hc]
    rfl
  unfold eqYO
  rw [if_pos ⟨hs, hs⟩]
  exact congrArg some (SeqAt.eqv_refl _ hc)
theorem eq_due {W : Int} {fs : List Ft} (h : ∀ f ∈ fs, PyData.strOk f.1 = true) : eqYO (duef W fs) (duef W fs) = some true := by
  unfold duef
  cases hq : fs.find? (fun f => decide (W < f.2.2.1)) with
  | some f => exact eq_tw (h f (List.mem_of_find?_eq_some hq))
  | none => exact eq_int _
structure FO (f : Ft) : Prop where
  side : PyData.strOk f.2.1 = true
theorem floats_ok {ns : List Str} {cells : List Int} (hc : cells.length ≤ ns.length) (hl : ns.length < 1000) :
    ∃ fs, forS (m_law_L1 ns) (enumI cells) [] = some fs ∧ fs.length = cells.length ∧ ∀ (j : Nat) (f : Ft), fs[j]? = some f → ns[j]? = some f.1 ∧ FO f := by
  obtain ⟨fs, e, h1, h2⟩ := forS_ix (f := m_law_L1 ns) (xs := enumI cells) (fun i (fs : List Ft) => fs.length = i ∧ ∀ (j : Nat) (f : Ft), fs[j]? = some f → ns[j]? = some f.1 ∧ FO f) (s := []) ⟨rfl, fun j f h => by simp at h⟩ (fun i hi fs hfs => by
    rw [enumI_len] at hi
    rw [enumI_at]
    obtain ⟨l, e0, hl4⟩ := numbers_ok cells[i] 4 (by omega) (by omega)
    match l, hl4 with
    | [a, b, c, d], _ =>
      obtain ⟨n, en, en2⟩ := atI_some (xs := ns) (i := (i : Int)) (by omega) (by omega)
      unfold m_law_L1
      simp only [bs, e0, en, show atI [a, b, c, d] (0 : Int) = some a from rfl, show atI [a, b, c, d] (1 : Int) = some b from rfl, show atI [a, b, c, d] (2 : Int) = some c from rfl, show atI [a, b, c, d] (3 : Int) = some d from rfl]
      rw [pick4 _ _ _ _ (k := d % 4) (by omega) (by omega)]
      simp only [bs]
      rw [pick2 _ _ (k := a % 2) (by omega) (by omega)]
      simp only [bs]
      rw [appO_ok (by omega)]
      refine ⟨_, rfl, by rw [List.length_append, hfs.1]; rfl, fun j f hj => ?_⟩
      by_cases hij : j < i
      · rw [List.getElem?_append_left (by omega)] at hj
        exact hfs.2 j f hj
      · rw [List.getElem?_append_right (by omega)] at hj
        have : j = i := by
          cases q : j - fs.length with
          | zero => omega
          | succ k => rw [q] at hj; simp at hj
        subst this
        rw [hfs.1, Nat.sub_self] at hj
        cases hj
        refine ⟨en2, ⟨?_⟩⟩
        show PyData.strOk (if a % 2 = 0 then ("left" : Str) else ("right" : Str)) = true
        split <;> decide +kernel)
  rw [e]
  rw [enumI_len] at h1
  exact ⟨fs, rfl, h1, h2⟩
theorem law_main (ns : List Int) (hl : ns.length ≤ 63) : m_law (Fz.mk ns) = some true := by
  obtain ⟨c1, e1⟩ := cell_at (ns := ns) 1 (by omega)
  obtain ⟨c0, e0⟩ := cell_at (ns := ns) 0 (by omega)
  obtain ⟨nm, en, nl, nnd, nne⟩ := names_ok c0 12 (by omega) (by omega)
  have hcut : (cut ns (some (2 : Int)) (some (14 : Int))).length ≤ 12 := cut_le ns 2 14
  obtain ⟨fs, ef, fl, hf⟩ := floats_ok (ns := nm) (cells := cut ns (some (2 : Int)) (some (14 : Int))) (by omega) (by omega)
  have hnd := map_take_nd nnd fun j f h => (hf j f h).1
  have hin : ∀ f ∈ fs, f.1 ∈ nm ∧ FO f := fun f h => by
    obtain ⟨j, hj⟩ := List.mem_iff_getElem?.mp h
    obtain ⟨h1, h2⟩ := hf j f hj
    exact ⟨List.mem_of_getElem? h1, h2⟩
  have hok : ∀ f ∈ fs, PyData.strOk f.1 = true := fun f h => (nne _ (hin f h).1).2
  unfold m_law
  simp only [e1, e0, en, bs]
  rw [ef]
  simp only [bs]
  generalize c1 % 10 = W
  have ed : forS (m_law_L2 W) fs.reverse (upD (fs.length : Int)) = some (duef W fs) := by
    rw [due_loop]
    rfl
  rw [ed]
  simp only [bs]
  rw [told_ok hnd (fun f h => (nne _ (hin f h).1).1) (by omega), bs, eq_due hok, bs]
  have eo : okD fs = true := okD_list fun f h => okFt (hok f h) (hin f h).2.side
  rw [neO_ok eo eo (by decide)]
  simp only [bs, Bool.not_true, decide_true, Bool.false_eq_true, if_false]
  rw [lcM_keep2 (fun f : Ft => decide (f.2.2.1 ≤ W)) (by omega) (fun x _ => rfl)]
  simp only [bs]
  have hsub : (fs.filter fun f => decide (f.2.2.1 ≤ W)).Sublist fs := List.filter_sublist
  have hs : ∀ f ∈ fs.filter (fun f => decide (f.2.2.1 ≤ W)), f ∈ fs := fun f h => hsub.subset h
  rw [told_ok (hnd.sublist (hsub.map _)) (fun f h => (nne _ (hin f (hs f h)).1).1) (Nat.lt_of_le_of_lt hsub.length_le (by omega)), bs]
  have e9 : duef W (fs.filter fun f => decide (f.2.2.1 ≤ W)) = upD ((fs.filter fun f => decide (f.2.2.1 ≤ W)).length : Int) := by
    unfold duef
    have : (fs.filter fun f => decide (f.2.2.1 ≤ W)).find? (fun f => decide (W < f.2.2.1)) = none := by
      rw [List.find?_eq_none]
      intro f h
      have := of_decide_eq_true (List.mem_filter.mp h).2
      rw [decide_eq_true_eq]
      omega
    rw [this]
  rw [e9, eq_int]
  rfl
end Wk70
set_option synthInstance.maxHeartbeats 4000000
set_option synthInstance.maxSize 20000
open PySem PySem.W PyProof.Rows in
set_option maxRecDepth 100000 in
set_option maxHeartbeats 0 in
theorem PySem.Challenge.cw_boxgalley_k70_floats_too_wide_holds : PySem.Challenge.rw_boxgalley_k70_floats_too_wide.Holds := by
  w_on; o_law; k_head; (case hw => w_witness2)
  k_fill
  refine L2.walk_of (l := PySem.Challenge.rw_boxgalley_k70_floats_too_wide) (n := 63) (k := 5) (x := "_law_script") (CX := fun _ => L2.CX0) (sp := fun w => Wk70.spLaw _) rfl (by decide) rfl ⟨rfl, by decide, by decide⟩ (fun w h Y => PySem.W.kIn_of Y) ?F (fun _ _ a ns hl _ hS => ⟨a, ns, rfl, hS, hl, fun _ => rfl⟩) (fun _ _ _ _ _ h => h)
  case F =>
    intro w mg fa h KX G hmg
    refine' Wk70.all_mk Wk70.law_main KX G hmg ?a_touches ?l_touches ?c_touches ?k_touches ?a_edges ?l_edges ?c_edges ?k_edges ?a_first_end ?l_first_end ?c_first_end ?k_first_end ?a_stand_floats ?l_stand_floats ?c_stand_floats ?k_stand_floats ?a__law_cell_at ?l__law_cell_at ?c__law_cell_at ?k__law_cell_at ?a__law_numbers ?l__law_numbers ?c__law_numbers ?k__law_numbers ?a__law_names ?l__law_names ?c__law_names ?k__law_names ?a__law_told ?l__law_told ?c__law_told ?k__law_told ?a_law ?l_law ?c_law ?k_law ?aC_TooWide ?aC_BoxError ?xl_TooWide ?fi_TooWide_init ?il_TooWide ?ic_TooWide ?ik_TooWide ?it_TooWide ?fi_TooWide_name ?fi_TooWide_setattr ?su_TooWide_BaseException ?ty_TooWide ?kc_TooWide ?fi_TooWide_getattribute ?fi_TooWide_getattr ?hd_TooWide ?is_TooWide ?fi_TooWide_class ?spc ?tkc ?mro_TooWide ?su_TooWide_ValueError ?sg_BoxError ?rd_BoxError ?fc_BoxError ?su_TooWide_TooWide ?z_ValueError ?z_enumerate ?z_int ?z_isinstance ?z_len ?z_list ?z_min ?z_range ?z_reversed
    (case a_touches => k_is)
    (case l_touches => k_is)
    (case c_touches => k_is)
    (case k_touches => k_is)
    (case a_edges => k_is)
    (case l_edges => k_is)
    (case c_edges => k_is)
    (case k_edges => k_is)
    (case a_first_end => k_is)
    (case l_first_end => k_is)
    (case c_first_end => k_is)
    (case k_first_end => k_is)
    (case a_stand_floats => k_is)
    (case l_stand_floats => k_is)
    (case c_stand_floats => k_is)
    (case k_stand_floats => k_is)
    (case a__law_cell_at => k_is)
    (case l__law_cell_at => k_is)
    (case c__law_cell_at => k_is)
    (case k__law_cell_at => k_is)
    (case a__law_numbers => k_is)
    (case l__law_numbers => k_is)
    (case c__law_numbers => k_is)
    (case k__law_numbers => k_is)
    (case a__law_names => k_is)
    (case l__law_names => k_is)
    (case c__law_names => k_is)
    (case k__law_names => k_is)
    (case a__law_told => k_is)
    (case l__law_told => k_is)
    (case c__law_told => k_is)
    (case k__law_told => k_is)
    (case a_law => k_is)
    (case l_law => k_is)
    (case c_law => k_is)
    (case k_law => k_is)
    (case aC_TooWide => k_is)
    (case aC_BoxError => k_is)
    (case xl_TooWide => k_is)
    (case fi_TooWide_init => k_is)
    (case il_TooWide => k_is)
    (case ic_TooWide => k_is)
    (case ik_TooWide => k_is)
    (case it_TooWide => k_is)
    (case fi_TooWide_name => k_is)
    (case fi_TooWide_setattr => k_is)
    (case su_TooWide_BaseException => k_is)
    (case ty_TooWide => k_is)
    (case kc_TooWide => k_is)
    (case fi_TooWide_getattribute => k_is)
    (case fi_TooWide_getattr => k_is)
    (case hd_TooWide => k_is)
    (case is_TooWide => k_is)
    (case fi_TooWide_class => k_is)
    (case spc => k_is)
    (case tkc => k_is)
    (case mro_TooWide => k_is)
    (case su_TooWide_ValueError => k_is)
    (case sg_BoxError => k_is)
    (case rd_BoxError => k_is)
    (case fc_BoxError => k_is)
    (case su_TooWide_TooWide => k_is)
    (case z_ValueError => k_is)
    (case z_enumerate => k_is)
    (case z_int => k_is)
    (case z_isinstance => k_is)
    (case z_len => k_is)
    (case z_list => k_is)
    (case z_min => k_is)
    (case z_range => k_is)
    (case z_reversed => k_is)
