import PyProof.Rows.All
import Wide.All
import OpenK.AllK
import Wide.FinOn
import HandS.ForMost
import HandS.Evl
import HandS.Wide
import HandS.IsInst
import HandS.SortInts
import HandS.TupAny
import HandS.Dict
import HandS.More
import KE.KDictPairs
import KE.KDictCopyH
import HandS.ForExc
import HandS.ExcInit
import HandS.ExcField
import HandS.Iter
import KE.KExcIs
import HandS.Style
import KE.SortData
import HandS.Sort
import HandS.StrMore
import PyProof.SumAny
import HandS.DictComp
import HandS.Text
import HandS.RaiseMore
import HandS.OwnEq
import HandS.DeepEq
import PyProof.NeKinds
import PyProof.DictUpdate
import KE.KEqNest
import KE.GoesEnum
import HandS.TryMany
import HandS.ExcValue
import HandS.SetKeys
import PySem.Challenge.RW_boxgalley_k89_whole_drawn_and_read_back
set_option Elab.async false
set_option linter.all false
set_option maxRecDepth 100000
set_option maxHeartbeats 2000000
/-! Wk: typed mirrors over the hand layer: what a value stands for, a state by slots and owned objects, one rule a construct. -/
namespace Wk
open PySem PySem.Spec L2 Evl

abbrev Fg := PySem.W.Frag
def isDk : HO → Prop
  | .dK _ => True
  | .dT _ => True
  | _ => False
/-- all that stood stands; a dict may be locked, or set free again -/
def Sw (H H' : Hp) : Prop := ∀ q u, H q = some u → H' q = some u ∨ ∃ o w, isDk w ∧ ((u = w ∧ H' q = some (.frz o w)) ∨ (u = .frz o w ∧ H' q = some w))
theorem Sw.of {H H' : Hp} (e : Ex H H') : Sw H H' := fun q u h => .inl (e q u h)
theorem Sw.keep {H H' : Hp} (e : Sw H H') {q : Addr} {u : HO} (h : H q = some u) (n1 : ¬ isDk u) (n2 : ∀ o w, u ≠ .frz o w) : H' q = some u := by
  rcases e q u h with h | ⟨o, w, hw, ⟨rfl, _⟩ | ⟨h, _⟩⟩
  · exact h
  · exact absurd hw n1
  · exact absurd h (n2 o w)
theorem Sw.lst {H H' : Hp} (e : Sw H H') {q : Addr} {vs : List V} (h : H q = some (.lst vs)) : H' q = some (.lst vs) := e.keep h (fun z => z) (fun _ _ z => nomatch z)
theorem Sw.tup {H H' : Hp} (e : Sw H H') {q : Addr} {vs : List V} (h : H q = some (.tup vs)) : H' q = some (.tup vs) := e.keep h (fun z => z) (fun _ _ z => nomatch z)
theorem Sw.rdl {H H' : Hp} (e : Sw H H') {q : Addr} {u : HO} (h : Rd H q u) (n1 : ¬ isDk u) (n2 : ∀ o w, u ≠ .frz o w) : Rd H' q u := by
  rcases h with h | ⟨o, h⟩
  · exact .inl (e.keep h n1 n2)
  · rcases e q _ h with h | ⟨o2, w, hw, ⟨z, _⟩ | ⟨h, h2⟩⟩
    · exact .inr ⟨o, h⟩
    · subst z
      exact False.elim hw
    · cases h
      exact absurd hw n1
theorem Sw.rd {H H' : Hp} (e : Sw H H') {q : Addr} {u : HO} (h : Rd H q u) (n1 : isDk u) : Rd H' q u := by
  have n2 : ∀ o w, u ≠ .frz o w := fun o w z => by
    subst z
    exact n1
  rcases h with h | ⟨o, h⟩
  · rcases e q _ h with h | ⟨o2, w, hw, ⟨rfl, h⟩ | ⟨h, _⟩⟩
    · exact .inl h
    · exact .inr ⟨o2, h⟩
    · exact absurd h (n2 _ _)
  · rcases e q _ h with h | ⟨o2, w, hw, ⟨z, _⟩ | ⟨h, h2⟩⟩
    · exact .inr ⟨o, h⟩
    · subst z
      exact False.elim hw
    · cases h
      exact .inl h2
theorem Sw.l {K : Fg} {H H' : Hp} (e : Sw H H') {a : Addr} {xs : List V} (h : SqL K H a xs) : SqL K H' a xs := by
  rcases h with h | h
  · exact .inl (e.rdl h (fun z => z) (fun _ _ z => nomatch z))
  · exact .inr h
theorem Sw.t {K : Fg} {H H' : Hp} (e : Sw H H') {a : Addr} {xs : List V} (h : SqT K H a xs) : SqT K H' a xs := by
  rcases h with h | h
  · exact .inl (e.rdl h (fun z => z) (fun _ _ z => nomatch z))
  · exact .inr h
/-- v stands for a, by what is known in H -/
class Rp (α : Type) where
  rep : Fg → Hp → V → α → Prop
  swap : ∀ {K : Fg} {H H' : Hp} {v : V} {a : α}, Sw H H' → rep K H v a → rep K H' v a
theorem Rp.mono {α : Type} [i : Rp α] {K : Fg} {H H' : Hp} {v : V} {a : α} (e : Ex H H') (h : Rp.rep K H v a) : Rp.rep K H' v a := i.swap (.of e) h
/-- the places of a tuple | the arguments of a call -/
class Tp (τ : Type) where
  n : Nat
  rept : Fg → Hp → List V → τ → Prop
  len : ∀ {K : Fg} {H : Hp} {vs : List V} {t : τ}, rept K H vs t → vs.length = n
  swap : ∀ {K : Fg} {H H' : Hp} {vs : List V} {t : τ}, Sw H H' → rept K H vs t → rept K H' vs t
theorem Tp.mono {τ : Type} [i : Tp τ] {K : Fg} {H H' : Hp} {vs : List V} {t : τ} (e : Ex H H') (h : Tp.rept K H vs t) : Tp.rept K H' vs t := i.swap (.of e) h
abbrev rep {α : Type} [Rp α] (K : Fg) (H : Hp) (v : V) (a : α) : Prop := Rp.rep K H v a
abbrev rept {τ : Type} [Tp τ] (K : Fg) (H : Hp) (vs : List V) (t : τ) : Prop := Tp.rept K H vs t
/-- what needs no heap -/
class Fl (α : Type) [Rp α] where
  toV : α → V
  iff : ∀ {K : Fg} {H : Hp} {v : V} {a : α}, Rp.rep K H v a ↔ v = toV a

inductive Nn where | nn
  deriving DecidableEq
instance rpInt : Rp Int := { rep := fun _ _ v a => v = .int a, swap := fun _ h => h }
instance : Fl Int := { toV := V.int, iff := Iff.rfl }
instance rpBool : Rp Bool := { rep := fun _ _ v a => v = .bl a, swap := fun _ h => h }
instance : Fl Bool := { toV := V.bl, iff := Iff.rfl }
instance rpStr : Rp Str := { rep := fun _ _ v a => v = .str a, swap := fun _ h => h }
instance : Fl Str := { toV := V.str, iff := Iff.rfl }
instance rpNn : Rp Nn := { rep := fun _ _ v _ => v = .non, swap := fun _ h => h }
instance : Fl Nn := { toV := fun _ => V.non, iff := Iff.rfl }
/-- None, or something -/
instance {α : Type} [Rp α] : Rp (Option α) where
  rep K H v a := match a with | none => v = .non | some x => v ≠ .non ∧ rep K H v x
  swap {K H H' v a} e h := match a, h with
    | none, h => h
    | some _, h => ⟨h.1, Rp.swap e h.2⟩

theorem paired_mono {α : Type} [Rp α] {K : Fg} {H H' : Hp} (e : Ex H H') {vs : List V} {xs : List α} (h : Paired (rep K H) vs xs) : Paired (rep K H') vs xs :=
  Paired.mapP h fun _ _ q => Rp.mono e q
theorem paired_swap {α : Type} [Rp α] {K : Fg} {H H' : Hp} (e : Sw H H') {vs : List V} {xs : List α} (h : Paired (rep K H) vs xs) : Paired (rep K H') vs xs :=
  Paired.mapP h fun _ _ q => Rp.swap e q
/-- a list that stands exactly so -/
instance {α : Type} [Rp α] : Rp (List α) where
  rep K H v xs := ∃ p vs, v = .ref p ∧ H p = some (.lst vs) ∧ Paired (rep K H) vs xs
  swap e h := by
    obtain ⟨p, vs, h1, h2, h3⟩ := h
    exact ⟨p, vs, h1, e.lst h2, paired_swap e h3⟩
/-- a list that is read (the script, a list of the top) -/
structure Fz (α : Type) where
  l : List α
instance {α : Type} [Rp α] : Rp (Fz α) where
  rep K H v xs := ∃ p vs, v = .ref p ∧ SqL K H p vs ∧ Paired (rep K H) vs xs.l
  swap e h := by
    obtain ⟨p, vs, h1, h2, h3⟩ := h
    exact ⟨p, vs, h1, e.l h2, paired_swap e h3⟩
/-- a tuple of the top -/
structure Kt (α : Type) where
  l : List α
instance {α : Type} [Rp α] : Rp (Kt α) where
  rep K H v xs := ∃ p vs, v = .ref p ∧ SqT K H p vs ∧ Paired (rep K H) vs xs.l
  swap e h := by
    obtain ⟨p, vs, h1, h2, h3⟩ := h
    exact ⟨p, vs, h1, e.t h2, paired_swap e h3⟩
/-- a tuple of alike things, of any length -/
structure Tu (α : Type) where
  l : List α
  deriving DecidableEq
instance {α : Type} [Rp α] : Rp (Tu α) where
  rep K H v xs := ∃ p vs, v = .ref p ∧ H p = some (.tup vs) ∧ Paired (rep K H) vs xs.l
  swap e h := by
    obtain ⟨p, vs, h1, h2, h3⟩ := h
    exact ⟨p, vs, h1, e.tup h2, paired_swap e h3⟩
instance : Tp Unit where
  n := 0
  rept _ _ vs _ := vs = []
  len h := by rw [h]; rfl
  swap _ h := h
instance {α τ : Type} [Rp α] [Tp τ] : Tp (α × τ) where
  n := Tp.n τ + 1
  rept K H vs t := ∃ v r, vs = v :: r ∧ rep K H v t.1 ∧ rept K H r t.2
  len h := by
    obtain ⟨v, r, h1, h2, h3⟩ := h
    rw [h1, List.length_cons, Tp.len h3]
  swap e h := by
    obtain ⟨v, r, h1, h2, h3⟩ := h
    exact ⟨v, r, h1, Rp.swap e h2, Tp.swap e h3⟩
/-- a tuple: (a, (b, (c, ()))) -/
instance {α τ : Type} [Rp α] [Tp τ] : Rp (α × τ) where
  rep K H v t := ∃ p vs, v = .ref p ∧ H p = some (.tup vs) ∧ rept K H vs t
  swap e h := by
    obtain ⟨p, vs, h1, h2, h3⟩ := h
    exact ⟨p, vs, h1, e.tup h2, Tp.swap e h3⟩

/-! ### the state -/
inductive Sl : Type 1 where
  | any
  | val (α : Type) (i : Rp α) (x : α)
  | at (p : Addr)
def sv {α : Type} [i : Rp α] (x : α) : Sl := .val α i x
def Sl.ok (K : Fg) (Kn : Hp) : Sl → Option V → Prop
  | .any, _ => True
  | .val _ i x, o => ∃ v, o = some v ∧ i.rep K Kn v x
  | .at p, o => o = some (.ref p)
def SlsOk (K : Fg) (Kn : Hp) : List Sl → St → Prop
  | [], [] => True
  | s :: ss, o :: os => s.ok K Kn o ∧ SlsOk K Kn ss os
  | _, _ => False
theorem Sl.ok_mono {K : Fg} {H H' : Hp} (e : Ex H H') : ∀ {s : Sl} {o : Option V}, s.ok K H o → s.ok K H' o
  | .any, _, _ => trivial
  | .val _ i _, _, ⟨v, h1, h2⟩ => ⟨v, h1, i.swap (.of e) h2⟩
  | .at _, _, h => h
theorem SlsOk.mono {K : Fg} {H H' : Hp} (e : Ex H H') : ∀ {ss : List Sl} {σ : St}, SlsOk K H ss σ → SlsOk K H' ss σ
  | [], [], _ => trivial
  | _ :: _, _ :: _, h => ⟨Sl.ok_mono e h.1, SlsOk.mono e h.2⟩
theorem Sl.ok_swap {K : Fg} {H H' : Hp} (e : Sw H H') : ∀ {s : Sl} {o : Option V}, s.ok K H o → s.ok K H' o
  | .any, _, _ => trivial
  | .val _ i _, _, ⟨v, h1, h2⟩ => ⟨v, h1, i.swap e h2⟩
  | .at _, _, h => h
theorem SlsOk.swap {K : Fg} {H H' : Hp} (e : Sw H H') : ∀ {ss : List Sl} {σ : St}, SlsOk K H ss σ → SlsOk K H' ss σ
  | [], [], _ => trivial
  | _ :: _, _ :: _, h => ⟨Sl.ok_swap e h.1, SlsOk.swap e h.2⟩
theorem SlsOk.get {K : Fg} {H : Hp} : ∀ {ss : List Sl} {σ : St} {i : Nat} {s : Sl}, SlsOk K H ss σ → ss[i]? = some s → ∃ o, σ[i]? = some o ∧ s.ok K H o
  | _ :: _, o :: _, 0, _, h, e => by
    cases Option.some.inj e
    exact ⟨o, rfl, h.1⟩
  | _ :: ss, _ :: os, i + 1, s, h, e => SlsOk.get (ss := ss) (σ := os) (i := i) h.2 e
theorem SlsOk.set {K : Fg} {H : Hp} {s : Sl} {o : Option V} (hs : s.ok K H o) : ∀ {ss : List Sl} {σ : St} (i : Nat), SlsOk K H ss σ → SlsOk K H (ss.set i s) (σ.set i o)
  | [], [], _, _ => trivial
  | _ :: _, _ :: _, 0, h => ⟨hs, h.2⟩
  | _ :: _, _ :: _, i + 1, h => ⟨h.1, SlsOk.set hs i h.2⟩
/-- less is known -/
inductive SlLe : List Sl → List Sl → Prop
  | nil : SlLe [] []
  | keep {s : Sl} {a b : List Sl} : SlLe a b → SlLe (s :: a) (s :: b)
  | drop {s : Sl} {a b : List Sl} : SlLe a b → SlLe (s :: a) (.any :: b)
theorem SlLe.refl : ∀ (a : List Sl), SlLe a a
  | [] => .nil
  | _ :: r => .keep (SlLe.refl r)
theorem SlsOk.le {K : Fg} {H : Hp} : ∀ {a b : List Sl} {σ : St}, SlLe a b → SlsOk K H a σ → SlsOk K H b σ
  | _, _, [], .nil, _ => trivial
  | _, _, _ :: _, .keep l, h => ⟨h.1, SlsOk.le l h.2⟩
  | _, _, _ :: _, .drop l, h => ⟨trivial, SlsOk.le l h.2⟩

/-- what an object stands for, by what is known in H -/
class Ob (γ : Type) where
  ob : Fg → Hp → HO → γ → Prop
  swap : ∀ {K : Fg} {H H' : Hp} {o : HO} {x : γ}, Sw H H' → ob K H o x → ob K H' o x
theorem Ob.mono {γ : Type} [i : Ob γ] {K : Fg} {H H' : Hp} {o : HO} {x : γ} (e : Ex H H') (h : Ob.ob K H o x) : Ob.ob K H' o x := i.swap (.of e) h
/-- an object of one's own, that may change -/
inductive Ow : Type 1 where
  | lst (p : Addr) (α : Type) (i : Rp α) (xs : List α)
  | obj (p : Addr) (γ : Type) (i : Ob γ) (x : γ)
def oo {γ : Type} [i : Ob γ] (p : Addr) (x : γ) : Ow := .obj p γ i x
def ol {α : Type} [i : Rp α] (p : Addr) (xs : List α) : Ow := .lst p α i xs
def Ow.ad : Ow → Addr
  | .lst p _ _ _ => p
  | .obj p _ _ _ => p
def Ow.ok (K : Fg) (Kn H : Hp) : Ow → Prop
  | .lst p _ i xs => ∃ vs, H p = some (.lst vs) ∧ Paired (i.rep K Kn) vs xs
  | .obj p _ i x => ∃ o, H p = some o ∧ i.ob K Kn o x
theorem Ow.ok_swap {K : Fg} {Kn Kn' H H' : Hp} (e : Sw Kn Kn') : ∀ {o : Ow}, H' o.ad = H o.ad → o.ok K Kn H → o.ok K Kn' H'
  | .lst _ _ i _, eh, ⟨vs, h1, h2⟩ => ⟨vs, eh.trans h1, Paired.mapP h2 fun _ _ q => i.swap e q⟩
  | .obj _ _ i _, eh, ⟨o, h1, h2⟩ => ⟨o, eh.trans h1, i.swap e h2⟩
theorem Ow.ok_mono {K : Fg} {Kn Kn' H H' : Hp} (e : Ex Kn Kn') {o : Ow} (eh : H' o.ad = H o.ad) (h : o.ok K Kn H) : o.ok K Kn' H' := Ow.ok_swap (.of e) eh h
theorem ne_none_of {H : Hp} {p : Addr} {o : HO} (h : H p = some o) : H p ≠ none := fun z => by
  rw [h] at z
  cases z
theorem Ow.there {K : Fg} {Kn H : Hp} : ∀ {o : Ow}, o.ok K Kn H → H o.ad ≠ none
  | .lst p _ _ _, h => by
    obtain ⟨vs, h, _⟩ := h
    exact ne_none_of (show H p = some (.lst vs) from h)
  | .obj p _ _ _, h => by
    obtain ⟨o, h, _⟩ := h
    exact ne_none_of (show H p = some o from h)
structure OwsOk (K : Fg) (F Kn H : Hp) (ow : List Ow) : Prop where
  each : ∀ o ∈ ow, F o.ad = none ∧ Kn o.ad = none ∧ o.ok K Kn H
  nd : (ow.map Ow.ad).Nodup

/-- the state: F stands untouched, Kn is known (by and by more), the slots, the objects of one's own -/
structure S (K : Fg) (F Kn0 : Hp) (sl : List Sl) (ow : List Ow) (σ : St) (Kn H : Hp) : Prop where
  e0 : Ex Kn0 Kn
  ek : Ex Kn H
  ef : Ex F H
  sep : ∀ p, F p ≠ none → Kn0 p = none → Kn p = none
  sl : SlsOk K Kn sl σ
  ow : OwsOk K F Kn H ow

/-- growth: nothing that stood is touched, nothing that stood unknown is known -/
structure Gr (Kn H Kn' H' : Hp) : Prop where
  kk : Ex Kn Kn'
  hh : Ex H H'
  kh : Ex Kn' H'
  sp : ∀ p, H p ≠ none → Kn p = none → Kn' p = none
theorem Gr.refl {Kn H : Hp} (e : Ex Kn H) : Gr Kn H Kn H := ⟨Ex.refl _, Ex.refl _, e, fun _ _ h => h⟩
theorem Ex.nn {H H' : Hp} (e : Ex H H') {p : Addr} (h : H p ≠ none) : H' p ≠ none := by
  cases q : H p with
  | none => exact absurd q h
  | some o => exact ne_none_of (e _ _ q)
theorem Ex.at_eq {H H' : Hp} (e : Ex H H') {p : Addr} (h : H p ≠ none) : H' p = H p := by
  cases q : H p with
  | none => exact absurd q h
  | some o => exact e _ _ q
theorem Gr.trans {Kn H Kn1 H1 Kn2 H2 : Hp} (a : Gr Kn H Kn1 H1) (b : Gr Kn1 H1 Kn2 H2) : Gr Kn H Kn2 H2 :=
  ⟨a.kk.trans b.kk, a.hh.trans b.hh, b.kh, fun p h1 h2 => b.sp p (Ex.nn a.hh h1) (a.sp p h1 h2)⟩
/-- a new object, known -/
theorem Gr.new {Kn H : Hp} {p : Addr} {o : HO} (e : Ex Kn H) (hp : H p = none) : Gr Kn H (upd Kn p o) (upd H p o) := by
  have kp : Kn p = none := fresh_back e hp
  refine ⟨Ex.new kp, Ex.new hp, fun a u h => ?_, fun q h1 h2 => ?_⟩
  · by_cases hq : a = p
    · subst hq
      rw [upd_same] at h ⊢
      exact h
    · rw [upd_ne hq] at h ⊢
      exact e _ _ h
  · have hq : q ≠ p := fun z => by
      subst z
      exact h1 hp
    rw [upd_ne hq]
    exact h2
/-- a new object, not known yet -/
theorem Gr.newU {Kn H : Hp} {p : Addr} {o : HO} (e : Ex Kn H) (hp : H p = none) : Gr Kn H Kn (upd H p o) :=
  ⟨Ex.refl _, Ex.new hp, e.trans (Ex.new hp), fun _ _ h2 => h2⟩
/-- what was new is known from now on -/
theorem Gr.know {Kn H Kn' H' : Hp} {p : Addr} {o : HO} (g : Gr Kn H Kn' H') (hp : H p = none) (kp : Kn' p = none) (hp' : H' p = some o) : Gr Kn H (upd Kn' p o) H' :=
  ⟨g.kk.trans (Ex.new kp), g.hh, fun a u h => by
    by_cases hq : a = p
    · subst hq
      rw [upd_same] at h
      rw [← h]
      exact hp'
    · rw [upd_ne hq] at h
      exact g.kh _ _ h, fun q h1 h2 => by
    have hq : q ≠ p := fun z => by
      subst z
      exact h1 hp
    rw [upd_ne hq]
    exact g.sp q h1 h2⟩

section
variable {K : Fg} {F Kn0 : Hp} {sl sl' : List Sl} {ow ow' : List Ow} {σ : St} {Kn H Kn' H' : Hp}
theorem S.grow (s : S K F Kn0 sl ow σ Kn H) (g : Gr Kn H Kn' H') : S K F Kn0 sl ow σ Kn' H' :=
  ⟨s.e0.trans g.kk, g.kh, s.ef.trans g.hh, fun p h1 h2 => g.sp p (Ex.nn s.ef h1) (s.sep p h1 h2), s.sl.mono g.kk,
    ⟨fun o ho => by
      obtain ⟨h1, h2, h3⟩ := s.ow.each o ho
      have h4 := Ow.there h3
      exact ⟨h1, g.sp _ h4 h2, Ow.ok_mono g.kk (Ex.at_eq g.hh h4) h3⟩, s.ow.nd⟩⟩
theorem S.le (s : S K F Kn0 sl ow σ Kn H) (l : SlLe sl sl') : S K F Kn0 sl' ow σ Kn H := ⟨s.e0, s.ek, s.ef, s.sep, s.sl.le l, s.ow⟩
theorem S.set (s : S K F Kn0 sl ow σ Kn H) {x : Sl} {o : Option V} (i : Nat) (h : x.ok K Kn o) : S K F Kn0 (sl.set i x) ow (σ.set i o) Kn H :=
  ⟨s.e0, s.ek, s.ef, s.sep, SlsOk.set h i s.sl, s.ow⟩
theorem S.setv (s : S K F Kn0 sl ow σ Kn H) {α : Type} [Rp α] {x : α} {v : V} (i : Nat) (h : rep K Kn v x) : S K F Kn0 (sl.set i (sv x)) ow (σ.set i (some v)) Kn H :=
  s.set i ⟨v, rfl, h⟩
/-- some objects are not named any more -/
theorem S.sub (s : S K F Kn0 sl ow σ Kn H) (l : ow'.Sublist ow) : S K F Kn0 sl ow' σ Kn H :=
  ⟨s.e0, s.ek, s.ef, s.sep, s.sl, ⟨fun o ho => s.ow.each o (l.subset ho), s.ow.nd.sublist (l.map _)⟩⟩
theorem S.fin (s : S K F Kn0 sl ow σ Kn H) : S K F Kn0 [] ow [] Kn H := ⟨s.e0, s.ek, s.ef, s.sep, trivial, s.ow⟩
end

/-! ### the judgements -/
section
variable (K : Fg) (F Kn0 : Hp) (sl : List Sl) (ow : List Ow)
def EV {α : Type} [Rp α] (te : TE) (x : α) : Prop := ∀ σ Kn H, S K F Kn0 sl ow σ Kn H → ∀ Q : VK, (∀ v Kn' H', Gr Kn H Kn' H' → rep K Kn' v x → Q v H') → te σ H Q
/-- a new list -/
def EN {α : Type} [Rp α] (te : TE) (xs : List α) : Prop := ∀ σ Kn H, S K F Kn0 sl ow σ Kn H → ∀ Q : VK,
  (∀ p ws Kn' H', Gr Kn H Kn' H' → H p = none → Kn' p = none → H' p = some (.lst ws) → Paired (rep K Kn') ws xs → Q (.ref p) H') → te σ H Q
/-- what is changed on the way is told: ow, then ow' -/
def EM {α : Type} [Rp α] (te : TE) (ow' : List Ow) (x : α) : Prop := ∀ σ Kn H, S K F Kn0 sl ow σ Kn H → ∀ Q : VK,
  (∀ v Kn' H', Ex Kn Kn' → S K F Kn0 sl ow' σ Kn' H' → rep K Kn' v x → Q v H') → te σ H Q
def ENM {α : Type} [Rp α] (te : TE) (ow' : List Ow) (xs : List α) : Prop := ∀ σ Kn H, S K F Kn0 sl ow σ Kn H → ∀ Q : VK,
  (∀ p ws Kn' H', Ex Kn Kn' → S K F Kn0 sl ow' σ Kn' H' → F p = none → Kn' p = none → (∀ o ∈ ow', o.ad ≠ p) → H' p = some (.lst ws) → Paired (rep K Kn') ws xs → Q (.ref p) H') → te σ H Q
def ET (tt : TT) (b : Bool) : Prop := ∀ σ Kn H, S K F Kn0 sl ow σ Kn H → ∀ Q : Bool → Hp → Prop, (∀ Kn' H', Gr Kn H Kn' H' → Q b H') → tt σ H Q
def EA {τ : Type} [Tp τ] (ta : TA) (t : τ) : Prop := ∀ σ Kn H, S K F Kn0 sl ow σ Kn H → ∀ Q : List V → Hp → Prop, (∀ vs Kn' H', Gr Kn H Kn' H' → rept K Kn' vs t → Q vs H') → ta σ H Q
def EAM {τ : Type} [Tp τ] (ta : TA) (ow' : List Ow) (t : τ) : Prop := ∀ σ Kn H, S K F Kn0 sl ow σ Kn H → ∀ Q : List V → Hp → Prop,
  (∀ vs Kn' H', Ex Kn Kn' → S K F Kn0 sl ow' σ Kn' H' → rept K Kn' vs t → Q vs H') → ta σ H Q
def SB (D : Ends) (ts : TS) : Prop := ∀ σ Kn H, S K F Kn0 sl ow σ Kn H → ts D σ H
/-- what is wanted of a return -/
def RT (R : VK) {α : Type} [Rp α] (x : α) : Prop := ∀ v Kn H, S K F Kn0 [] ow [] Kn H → rep K Kn v x → R v H
def RN (R : VK) {α : Type} [Rp α] (xs : List α) : Prop := ∀ p ws Kn H, S K F Kn0 [] ow [] Kn H → F p = none → Kn p = none → H p = some (.lst ws) → Paired (rep K Kn) ws xs → R (.ref p) H
end

section
variable {K : Fg} {F Kn0 : Hp} {sl sl' : List Sl} {ow ow1 ow2 : List Ow} {α β γ : Type} [Rp α] [Rp β] [Rp γ] {ta tb te : TE} {x : α} {y : β} {z : γ}
theorem EN.ev {xs : List α} (h : EN K F Kn0 sl ow te xs) : EV K F Kn0 sl ow te xs := fun σ Kn H s Q q => h σ Kn H s Q fun p ws Kn' H' g hp kp hw r =>
  q _ (upd Kn' p (.lst ws)) H' (g.know hp kp hw) ⟨p, ws, rfl, upd_same, paired_mono (Ex.new kp) r⟩
theorem EV.em (h : EV K F Kn0 sl ow te x) : EM K F Kn0 sl ow te ow x := fun σ Kn H s Q q => h σ Kn H s Q fun v Kn' H' g r => q v Kn' H' g.kk (s.grow g) r
theorem owned_ne {σ : St} {Kn H : Hp} (s : S K F Kn0 sl ow σ Kn H) {p : Addr} (hp : H p = none) : ∀ o ∈ ow, o.ad ≠ p := fun o ho z => by
  have := Ow.there (s.ow.each o ho).2.2
  rw [z] at this
  exact this hp
theorem EN.em {xs : List α} (h : EN K F Kn0 sl ow te xs) : ENM K F Kn0 sl ow te ow xs := fun σ Kn H s Q q => h σ Kn H s Q fun p ws Kn' H' g hp kp hw r =>
  q p ws Kn' H' g.kk (s.grow g) (fresh_back s.ef hp) kp (owned_ne s hp) hw r
theorem S.know {σ : St} {Kn H : Hp} (s : S K F Kn0 sl ow σ Kn H) {p : Addr} {o : HO} (fp : F p = none) (kp : Kn p = none) (no : ∀ o ∈ ow, o.ad ≠ p) (hp : H p = some o) : S K F Kn0 sl ow σ (upd Kn p o) H :=
  ⟨s.e0.trans (Ex.new kp), fun a u h => by
    by_cases hq : a = p
    · subst hq
      rw [upd_same] at h
      rw [← h]
      exact hp
    · rw [upd_ne hq] at h
      exact s.ek _ _ h, s.ef, fun q h1 h2 => by
    have hq : q ≠ p := fun z => by
      subst z
      exact h1 fp
    rw [upd_ne hq]
    exact s.sep q h1 h2, s.sl.mono (Ex.new kp), ⟨fun o ho => by
      obtain ⟨h1, h2, h3⟩ := s.ow.each o ho
      exact ⟨h1, by rw [upd_ne (no o ho)]; exact h2, Ow.ok_mono (Ex.new kp) rfl h3⟩, s.ow.nd⟩⟩
theorem ENM.em {xs : List α} (h : ENM K F Kn0 sl ow te ow1 xs) : EM K F Kn0 sl ow te ow1 xs := fun σ Kn H s Q q => h σ Kn H s Q fun p ws Kn' H' e s' fp kp no hw r =>
  q _ (upd Kn' p (.lst ws)) H' (e.trans (Ex.new kp)) (s'.know fp kp no hw) ⟨p, ws, rfl, upd_same, paired_mono (Ex.new kp) r⟩
theorem EV.cast {x' : α} (h : EV K F Kn0 sl ow te x) (e : x = x') : EV K F Kn0 sl ow te x' := e ▸ h
theorem ET.cast {tt : TT} {b b' : Bool} (h : ET K F Kn0 sl ow tt b) (e : b = b') : ET K F Kn0 sl ow tt b' := e ▸ h
end
end Wk
/-! Wk2: rules for expressions -/
namespace Wk
open PySem PySem.Spec L2 Evl
section
variable {K : Fg} {F Kn0 : Hp} {sl sl' : List Sl} {ow ow1 ow2 : List Ow} {α β γ τ : Type} [Rp α] [Rp β] [Rp γ] [Tp τ] {ta tb te : TE} {x : α} {y : β} {z : γ}

theorem paired_fl {α : Type} [Rp α] [Fl α] {H : Hp} : ∀ {vs : List V} {xs : List α}, Paired (rep K H) vs xs → vs = xs.map Fl.toV
  | _, _, .nil => rfl
  | _, _, .cons h t => by rw [List.map_cons, ← paired_fl t, Fl.iff.mp h]
theorem fl_paired {α : Type} [Rp α] [Fl α] {H : Hp} : ∀ (xs : List α), Paired (rep K H) (xs.map Fl.toV) xs
  | [] => .nil
  | _ :: t => .cons (Fl.iff.mpr rfl) (fl_paired t)
theorem paired_len {H : Hp} {vs : List V} {xs : List α} (h : Paired (rep K H) vs xs) : vs.length = xs.length := Paired.length h
theorem paired_at {F : V → α → Prop} : ∀ {vs : List V} {xs : List α}, Paired F vs xs → ∀ {j : Nat} {a : α}, xs[j]? = some a → ∃ v, vs[j]? = some v ∧ F v a
  | _, _, .nil, _, _, e => by simp at e
  | _, _, .cons r _, 0, _, e => by
    simp at e
    subst e
    exact ⟨_, rfl, r⟩
  | _, _, .cons _ t, j + 1, a, e => by
    obtain ⟨v, h1, h2⟩ := paired_at t (j := j) (a := a) (by simpa using e)
    exact ⟨v, by simpa using h1, h2⟩
theorem paired_append {F : V → α → Prop} : ∀ {vs ws : List V} {xs ys : List α}, Paired F vs xs → Paired F ws ys → Paired F (vs ++ ws) (xs ++ ys)
  | _, _, _, _, .nil, h => h
  | _, _, _, _, .cons r t, h => .cons r (paired_append t h)
theorem paired_drop {F : V → α → Prop} : ∀ {vs : List V} {xs : List α} (n : Nat), Paired F vs xs → Paired F (vs.drop n) (xs.drop n)
  | _, _, 0, h => h
  | _, _, _ + 1, .nil => .nil
  | _, _, n + 1, .cons _ t => paired_drop n t
theorem paired_take {F : V → α → Prop} : ∀ {vs : List V} {xs : List α} (n : Nat), Paired F vs xs → Paired F (vs.take n) (xs.take n)
  | _, _, 0, _ => .nil
  | _, _, _ + 1, .nil => .nil
  | _, _, n + 1, .cons r t => .cons r (paired_take n t)
theorem paired_set {F : V → α → Prop} {v : V} {a : α} (h : F v a) : ∀ {vs : List V} {xs : List α} (n : Nat), Paired F vs xs → Paired F (vs.set n v) (xs.set n a)
  | _, _, _, .nil => .nil
  | _, _, 0, .cons _ t => .cons h t
  | _, _, n + 1, .cons r t => .cons r (paired_set h n t)
theorem paired_atI {H : Hp} {vs : List V} {xs : List α} (h : Paired (rep K H) vs xs) {i : Int} {a : α} (e : atI xs i = some a) : ∃ v, atI vs i = some v ∧ rep K H v a := by
  unfold atI at e ⊢
  rw [paired_len h]
  cases q : ixN xs.length i with
  | none => rw [q] at e; cases e
  | some j =>
    rw [q] at e
    exact paired_at h e

/-! ### results of rules by values -/
def RS (K : Fg) (Kn H : Hp) (Q : VK) (z : γ) : Prop := ∀ u Kn' H', Gr Kn H Kn' H' → rep K Kn' u z → Q u H'
def RL (K : Fg) (Kn H : Hp) (Q : VK) (zs : List γ) : Prop := ∀ p ws Kn' H', Gr Kn H Kn' H' → H p = none → Kn' p = none → H' p = some (.lst ws) → Paired (rep K Kn') ws zs → Q (.ref p) H'
theorem RS.rl {Kn H : Hp} {Q : VK} {zs : List γ} (h : RS K Kn H Q zs) : RL K Kn H Q zs := fun p ws Kn' H' g hp kp hw r =>
  h _ (upd Kn' p (.lst ws)) H' (g.know hp kp hw) ⟨p, ws, rfl, upd_same, paired_mono (Ex.new kp) r⟩
theorem RS.fl {γ : Type} [Rp γ] [Fl γ] {z : γ} {Kn H : Hp} {Q : VK} (h : RS K Kn H Q z) (e : Ex Kn H) : Q (Fl.toV z) H := h _ Kn H (Gr.refl e) (Fl.iff.mpr rfl)
theorem RS.at {Kn H : Hp} {Q : VK} {z : γ} (h : RS K Kn H Q z) (e : Ex Kn H) {v : V} (r : rep K Kn v z) : Q v H := h _ Kn H (Gr.refl e) r

def R1V (r : V → Hp → VK → Prop) (x : α) (z : γ) : Prop := ∀ (K : Fg) Kn H v, Ex Kn H → rep K Kn v x → ∀ Q, RS K Kn H Q z → r v H Q
def R2V (K : Fg) (r : R2) (x : α) (y : β) (z : γ) : Prop := ∀ Kn H v w, Ex Kn H → rep K Kn v x → rep K Kn w y → ∀ Q, RS K Kn H Q z → r v w H Q
def R2L (K : Fg) (r : R2) (x : α) (y : β) (zs : List γ) : Prop := ∀ Kn H v w, Ex Kn H → rep K Kn v x → rep K Kn w y → ∀ Q, RL K Kn H Q zs → r v w H Q
def RCV (K : Fg) (r : List V → Hp → VK → Prop) (t : τ) (z : γ) : Prop := ∀ Kn H vs, Ex Kn H → rept K Kn vs t → ∀ Q, RS K Kn H Q z → r vs H Q
def RCL (K : Fg) (r : List V → Hp → VK → Prop) (t : τ) (zs : List γ) : Prop := ∀ Kn H vs, Ex Kn H → rept K Kn vs t → ∀ Q, RL K Kn H Q zs → r vs H Q

/-! ### names, constants, operators -/
theorem ev_var {i : Nat} (h : sl[i]? = some (sv x)) : EV K F Kn0 sl ow (tVar i) x := fun σ Kn H s Q q => by
  obtain ⟨o, h1, v, h2, h3⟩ := s.sl.get h
  exact ⟨v, by rw [h1, h2], q v Kn H (Gr.refl s.ek) h3⟩
theorem ev_c {γ : Type} [Rp γ] [Fl γ] (z : γ) {v : V} (e : v = Fl.toV z := by rfl) : EV K F Kn0 sl ow (tC v) z := fun σ Kn H s Q q => q v Kn H (Gr.refl s.ek) (Fl.iff.mpr e)
theorem ev_none : EV K F Kn0 sl ow (tC .non) (none : Option α) := fun σ Kn H s Q q => q .non Kn H (Gr.refl s.ek) rfl
theorem ev_un {r : V → Hp → VK → Prop} (ha : EV K F Kn0 sl ow ta x) (hr : R1V r x z) : EV K F Kn0 sl ow (tUn r ta) z := fun σ Kn H s Q q =>
  ha σ Kn H s _ fun v Kn1 H1 g1 r1 => hr K Kn1 H1 v g1.kh r1 Q fun u Kn' H' g' r' => q u Kn' H' (g1.trans g') r'
theorem ev_op {r : R2} (ha : EV K F Kn0 sl ow ta x) (hb : EV K F Kn0 sl ow tb y) (hr : R2V K r x y z) : EV K F Kn0 sl ow (tOp r ta tb) z := fun σ Kn H s Q q =>
  ha σ Kn H s _ fun v Kn1 H1 g1 r1 => hb σ Kn1 H1 (s.grow g1) _ fun w Kn2 H2 g2 r2 => hr Kn2 H2 v w g2.kh (Rp.mono g2.kk r1) r2 Q fun u Kn' H' g' r' => q u Kn' H' ((g1.trans g2).trans g') r'
theorem en_op {r : R2} {zs : List γ} (ha : EV K F Kn0 sl ow ta x) (hb : EV K F Kn0 sl ow tb y) (hr : R2L K r x y zs) : EN K F Kn0 sl ow (tOp r ta tb) zs := fun σ Kn H s Q q =>
  ha σ Kn H s _ fun v Kn1 H1 g1 r1 => hb σ Kn1 H1 (s.grow g1) _ fun w Kn2 H2 g2 r2 => hr Kn2 H2 v w g2.kh (Rp.mono g2.kk r1) r2 Q fun p ws Kn' H' g' hp kp hw r' =>
    q p ws Kn' H' ((g1.trans g2).trans g') (fresh_back (g1.trans g2).hh hp) kp hw r'
theorem em_op {r : R2} (ha : EM K F Kn0 sl ow ta ow1 x) (hb : EM K F Kn0 sl ow1 tb ow2 y) (hr : R2V K r x y z) : EM K F Kn0 sl ow (tOp r ta tb) ow2 z := fun σ Kn H s Q q =>
  ha σ Kn H s _ fun v Kn1 H1 e1 s1 r1 => hb σ Kn1 H1 s1 _ fun w Kn2 H2 e2 s2 r2 => hr Kn2 H2 v w s2.ek (Rp.mono e2 r1) r2 Q fun u Kn' H' g' r' => q u Kn' H' ((e1.trans e2).trans g'.kk) (s2.grow g') r'
theorem r2_I0 {γ : Type} [Rp γ] [Fl γ] {z : γ} {g : Int → Int → V} {i j : Int} (e : g i j = Fl.toV z := by rfl) : R2V K (rI0 g) i j z := fun Kn H v w ek h1 h2 Q q => ⟨i, j, h1, h2, e ▸ q.fl ek⟩
theorem r2_I {γ : Type} [Rp γ] [Fl γ] {z : γ} {C : Int → Int → Prop} {g : Int → Int → V} {i j : Int} (c : C i j) (e : g i j = Fl.toV z := by rfl) : R2V K (rI C g) i j z := fun Kn H v w ek h1 h2 Q q => ⟨i, j, h1, h2, c, e ▸ q.fl ek⟩
theorem r1_neg {i : Int} : R1V (rU fun i => .int (-i)) i (-i) := fun K Kn H v ek h1 Q q => ⟨i, h1, q.fl ek⟩
theorem r2_eqI {i j : Int} : R2V K rEq i j (decide (i = j)) := fun Kn H v w ek h1 h2 Q q => by
  cases h1
  cases h2
  refine ⟨rfl, ?_⟩
  have e : decide (V.int i = V.int j) = decide (i = j) := by simp
  rw [e]
  exact q.fl ek
theorem r2_neI {i j : Int} : R2V K rNe i j (!decide (i = j)) := fun Kn H v w ek h1 h2 Q q => by
  cases h1
  cases h2
  refine ⟨rfl, ?_⟩
  have e : decide (V.int i = V.int j) = decide (i = j) := by simp
  rw [e]
  exact q.fl ek
theorem r2_eqS {i j : Str} : R2V K rEq i j (decide (i = j)) := fun Kn H v w ek h1 h2 Q q => by
  cases h1
  cases h2
  refine ⟨rfl, ?_⟩
  have e : decide (V.str i = V.str j) = decide (i = j) := by simp
  rw [e]
  exact q.fl ek
theorem r2_neS {i j : Str} : R2V K rNe i j (!decide (i = j)) := fun Kn H v w ek h1 h2 Q q => by
  cases h1
  cases h2
  refine ⟨rfl, ?_⟩
  have e : decide (V.str i = V.str j) = decide (i = j) := by simp
  rw [e]
  exact q.fl ek
theorem r2_eqB {i j : Bool} : R2V K rEq i j (decide (i = j)) := fun Kn H v w ek h1 h2 Q q => by
  cases h1
  cases h2
  refine ⟨rfl, ?_⟩
  have e : decide (V.bl i = V.bl j) = decide (i = j) := by simp
  rw [e]
  exact q.fl ek

/-! ### arguments, tuples, lists -/
theorem ea_nil : EA K F Kn0 sl ow tNil () := fun σ Kn H s Q q => q [] Kn H (Gr.refl s.ek) rfl
theorem ea_cons {tr : TA} {t : τ} (h : EV K F Kn0 sl ow ta x) (hr : EA K F Kn0 sl ow tr t) : EA K F Kn0 sl ow (tCons ta tr) (x, t) := fun σ Kn H s Q q =>
  h σ Kn H s _ fun v Kn1 H1 g1 r1 => hr σ Kn1 H1 (s.grow g1) _ fun vs Kn2 H2 g2 r2 => q _ Kn2 H2 (g1.trans g2) ⟨v, vs, rfl, Rp.mono g2.kk r1, r2⟩
theorem eam_nil : EAM K F Kn0 sl ow tNil ow () := fun σ Kn H s Q q => q [] Kn H (Ex.refl _) s rfl
theorem eam_cons {tr : TA} {t : τ} (h : EM K F Kn0 sl ow ta ow1 x) (hr : EAM K F Kn0 sl ow1 tr ow2 t) : EAM K F Kn0 sl ow (tCons ta tr) ow2 (x, t) := fun σ Kn H s Q q =>
  h σ Kn H s _ fun v Kn1 H1 e1 s1 r1 => hr σ Kn1 H1 s1 _ fun vs Kn2 H2 e2 s2 r2 => q _ Kn2 H2 (e1.trans e2) s2 ⟨v, vs, rfl, Rp.mono e2 r1, r2⟩
theorem EA.eam {ta : TA} {t : τ} (h : EA K F Kn0 sl ow ta t) : EAM K F Kn0 sl ow ta ow t := fun σ Kn H s Q q => h σ Kn H s Q fun vs Kn' H' g r => q vs Kn' H' g.kk (s.grow g) r
/-- alike things -/
def EL {α : Type} [Rp α] (K : Fg) (F Kn0 : Hp) (sl : List Sl) (ow : List Ow) (ta : TA) (xs : List α) : Prop := ∀ σ Kn H, S K F Kn0 sl ow σ Kn H → ∀ Q : List V → Hp → Prop, (∀ vs Kn' H', Gr Kn H Kn' H' → Paired (rep K Kn') vs xs → Q vs H') → ta σ H Q
def ELM {α : Type} [Rp α] (K : Fg) (F Kn0 : Hp) (sl : List Sl) (ow : List Ow) (ta : TA) (ow' : List Ow) (xs : List α) : Prop := ∀ σ Kn H, S K F Kn0 sl ow σ Kn H → ∀ Q : List V → Hp → Prop, (∀ vs Kn' H', Ex Kn Kn' → S K F Kn0 sl ow' σ Kn' H' → Paired (rep K Kn') vs xs → Q vs H') → ta σ H Q
theorem el_nil : EL K F Kn0 sl ow tNil ([] : List α) := fun σ Kn H s Q q => q [] Kn H (Gr.refl s.ek) .nil
theorem el_cons {tr : TA} {xs : List α} (h : EV K F Kn0 sl ow ta x) (hr : EL K F Kn0 sl ow tr xs) : EL K F Kn0 sl ow (tCons ta tr) (x :: xs) := fun σ Kn H s Q q =>
  h σ Kn H s _ fun v Kn1 H1 g1 r1 => hr σ Kn1 H1 (s.grow g1) _ fun vs Kn2 H2 g2 r2 => q _ Kn2 H2 (g1.trans g2) (.cons (Rp.mono g2.kk r1) r2)
theorem elm_nil : ELM K F Kn0 sl ow tNil ow ([] : List α) := fun σ Kn H s Q q => q [] Kn H (Ex.refl _) s .nil
theorem elm_cons {tr : TA} {xs : List α} (h : EM K F Kn0 sl ow ta ow1 x) (hr : ELM K F Kn0 sl ow1 tr ow2 xs) : ELM K F Kn0 sl ow (tCons ta tr) ow2 (x :: xs) := fun σ Kn H s Q q =>
  h σ Kn H s _ fun v Kn1 H1 e1 s1 r1 => hr σ Kn1 H1 s1 _ fun vs Kn2 H2 e2 s2 r2 => q _ Kn2 H2 (e1.trans e2) s2 (.cons (Rp.mono e2 r1) r2)
theorem le_line {n : Nat} (h : n ≤ 1000000) : n ≤ sizeLine := Nat.le_trans h (by decide)
theorem lt_line {n : Nat} (h : n < 1000000) : n < sizeLine := Nat.lt_of_lt_of_le h (by decide)
theorem en_lst {ta : TA} {xs : List α} (h : EL K F Kn0 sl ow ta xs) (hz : xs.length ≤ 1000000 := by exact Nat.le_of_ble_eq_true rfl) : EN K F Kn0 sl ow (tLst ta) xs := fun σ Kn H s Q q =>
  h σ Kn H s _ fun vs Kn1 H1 g1 r1 => ⟨by rw [paired_len r1]; exact le_line hz, fun p hp => q p vs Kn1 _ (g1.trans (Gr.newU g1.kh hp)) (fresh_back g1.hh hp) (fresh_back g1.kh hp) upd_same r1⟩
theorem enm_lst {ta : TA} {xs : List α} (h : ELM K F Kn0 sl ow ta ow1 xs) (hz : xs.length ≤ 1000000 := by exact Nat.le_of_ble_eq_true rfl) : ENM K F Kn0 sl ow (tLst ta) ow1 xs := fun σ Kn H s Q q =>
  h σ Kn H s _ fun vs Kn1 H1 e1 s1 r1 => ⟨by rw [paired_len r1]; exact le_line hz, fun p hp =>
    q p vs Kn1 _ e1 (s1.grow (Gr.newU s1.ek hp)) (fresh_back s1.ef hp) (fresh_back s1.ek hp) (owned_ne s1 hp) upd_same r1⟩
theorem ev_tup {ta : TA} {t : α × τ} (h : EA K F Kn0 sl ow ta t) (hz : Tp.n (α × τ) ≤ 1000000 := by decide) : EV K F Kn0 sl ow (tTup ta) t := fun σ Kn H s Q q =>
  h σ Kn H s _ fun vs Kn1 H1 g1 r1 => ⟨by rw [Tp.len r1]; exact le_line hz, fun p hp =>
    q _ (upd Kn1 p (.tup vs)) _ (g1.trans (Gr.new g1.kh hp)) ⟨p, vs, rfl, upd_same, Tp.mono (Gr.new g1.kh hp).kk r1⟩⟩
theorem em_tup {ta : TA} {t : α × τ} (h : EAM K F Kn0 sl ow ta ow1 t) (hz : Tp.n (α × τ) ≤ 1000000 := by decide) : EM K F Kn0 sl ow (tTup ta) ow1 t := fun σ Kn H s Q q =>
  h σ Kn H s _ fun vs Kn1 H1 e1 s1 r1 => ⟨by rw [Tp.len r1]; exact le_line hz, fun p hp =>
    q _ (upd Kn1 p (.tup vs)) _ (e1.trans (Gr.new s1.ek hp).kk) (s1.grow (Gr.new s1.ek hp)) ⟨p, vs, rfl, upd_same, Tp.mono (Gr.new s1.ek hp).kk r1⟩⟩
theorem ev_tuH {ta : TA} {xs : List α} (h : EL K F Kn0 sl ow ta xs) (hz : xs.length ≤ 1000000 := by exact Nat.le_of_ble_eq_true rfl) : EV K F Kn0 sl ow (tTup ta) (Tu.mk xs) := fun σ Kn H s Q q =>
  h σ Kn H s _ fun vs Kn1 H1 g1 r1 => ⟨by rw [paired_len r1]; exact le_line hz, fun p hp =>
    q _ (upd Kn1 p (.tup vs)) _ (g1.trans (Gr.new g1.kh hp)) ⟨p, vs, rfl, upd_same, paired_mono (Gr.new g1.kh hp).kk r1⟩⟩

/-! ### built-ins, defs -/
theorem ev_cb {r : List V → Hp → VK → Prop} {ta : TA} {t : τ} (h : EA K F Kn0 sl ow ta t) (hr : RCV K r t z) : EV K F Kn0 sl ow (tCB r ta) z := fun σ Kn H s Q q =>
  h σ Kn H s _ fun vs Kn1 H1 g1 r1 => hr Kn1 H1 vs g1.kh r1 Q fun u Kn' H' g' r' => q u Kn' H' (g1.trans g') r'
theorem en_cb {r : List V → Hp → VK → Prop} {ta : TA} {t : τ} {zs : List γ} (h : EA K F Kn0 sl ow ta t) (hr : RCL K r t zs) : EN K F Kn0 sl ow (tCB r ta) zs := fun σ Kn H s Q q =>
  h σ Kn H s _ fun vs Kn1 H1 g1 r1 => hr Kn1 H1 vs g1.kh r1 Q fun p ws Kn' H' g' hp kp hw r' => q p ws Kn' H' (g1.trans g') (fresh_back g1.hh hp) kp hw r'
theorem em_cb {r : List V → Hp → VK → Prop} {ta : TA} {t : τ} (h : EAM K F Kn0 sl ow ta ow1 t) (hr : RCV K r t z) : EM K F Kn0 sl ow (tCB r ta) ow1 z := fun σ Kn H s Q q =>
  h σ Kn H s _ fun vs Kn1 H1 e1 s1 r1 => hr Kn1 H1 vs s1.ek r1 Q fun u Kn' H' g' r' => q u Kn' H' (e1.trans g'.kk) (s1.grow g') r'
theorem one_arg {Kn : Hp} {vs : List V} {x : α} (h : rept K Kn vs (x, ())) : ∃ v, vs = [v] ∧ rep K Kn v x := by
  obtain ⟨v, r, rfl, h1, h2⟩ := h
  cases h2
  exact ⟨v, rfl, h1⟩
theorem two_args {Kn : Hp} {vs : List V} {x : α} {y : β} (h : rept K Kn vs (x, y, ())) : ∃ v w, vs = [v, w] ∧ rep K Kn v x ∧ rep K Kn w y := by
  obtain ⟨v, r, rfl, h1, h2⟩ := h
  obtain ⟨w, rfl, h3⟩ := one_arg h2
  exact ⟨v, w, rfl, h1, h3⟩
theorem rc_max {i j : Int} : RCV K (fun xs H Q => ∃ i j, xs = [.int i, .int j] ∧ Q (.int (if j > i then j else i)) H) (i, j, ()) (max i j) := fun Kn H vs ek h Q q => by
  obtain ⟨v, w, rfl, h1, h2⟩ := two_args h
  cases h1
  cases h2
  refine ⟨i, j, rfl, ?_⟩
  have e : (if j > i then j else i) = max i j := by split <;> omega
  rw [e]
  exact q.fl ek
theorem rc_min {i j : Int} : RCV K (fun xs H Q => ∃ i j, xs = [.int i, .int j] ∧ Q (.int (if j < i then j else i)) H) (i, j, ()) (min i j) := fun Kn H vs ek h Q q => by
  obtain ⟨v, w, rfl, h1, h2⟩ := two_args h
  cases h1
  cases h2
  refine ⟨i, j, rfl, ?_⟩
  have e : (if j < i then j else i) = min i j := by split <;> omega
  rw [e]
  exact q.fl ek
theorem rc_abs {i : Int} : RCV K (fun xs H Q => ∃ i, xs = [.int i] ∧ Q (.int (if i < 0 then -i else i)) H) (i, ()) ((i.natAbs : Int)) := fun Kn H vs ek h Q q => by
  obtain ⟨v, rfl, h1⟩ := one_arg h
  cases h1
  refine ⟨i, rfl, ?_⟩
  have e : (if i < 0 then -i else i) = (i.natAbs : Int) := by split <;> omega
  rw [e]
  exact q.fl ek
theorem rc_len {xs : List α} : RCV K (fun xs H Q => ∃ p ys, xs = [.ref p] ∧ (SqL K H p ys ∨ SqT K H p ys) ∧ Q (.int ys.length) H) (xs, ()) (xs.length : Int) := fun Kn H vs ek h Q q => by
  obtain ⟨v, rfl, p, ws, rfl, h1, h2⟩ := one_arg h
  refine ⟨p, ws, rfl, .inl (sq_of (ek _ _ h1)), ?_⟩
  rw [paired_len h2]
  exact q.fl ek
theorem rc_lenF {xs : Fz α} : RCV K (fun xs H Q => ∃ p ys, xs = [.ref p] ∧ (SqL K H p ys ∨ SqT K H p ys) ∧ Q (.int ys.length) H) (xs, ()) (xs.l.length : Int) := fun Kn H vs ek h Q q => by
  obtain ⟨v, rfl, p, ws, rfl, h1, h2⟩ := one_arg h
  refine ⟨p, ws, rfl, .inl (ex_l ek h1), ?_⟩
  rw [paired_len h2]
  exact q.fl ek
theorem rc_lenT {xs : Tu α} : RCV K (fun xs H Q => ∃ p ys, xs = [.ref p] ∧ (SqL K H p ys ∨ SqT K H p ys) ∧ Q (.int ys.length) H) (xs, ()) (xs.l.length : Int) := fun Kn H vs ek h Q q => by
  obtain ⟨v, rfl, p, ws, rfl, h1, h2⟩ := one_arg h
  refine ⟨p, ws, rfl, .inr (st_of (ek _ _ h1)), ?_⟩
  rw [paired_len h2]
  exact q.fl ek
theorem rc_lenP {t : α × τ} : RCV K (fun xs H Q => ∃ p ys, xs = [.ref p] ∧ (SqL K H p ys ∨ SqT K H p ys) ∧ Q (.int ys.length) H) (t, ()) ((Tp.n (α × τ) : Nat) : Int) := fun Kn H vs ek h Q q => by
  obtain ⟨v, rfl, p, ws, rfl, h1, h2⟩ := one_arg h
  refine ⟨p, ws, rfl, .inr (st_of (ek _ _ h1)), ?_⟩
  rw [Tp.len h2]
  exact q.fl ek
theorem rc_sum {xs : List Int} : RCV K (rSum K) (xs, ()) xs.sum := fun Kn H vs ek h Q q => by
  obtain ⟨v, rfl, p, ws, rfl, h1, h2⟩ := one_arg h
  have e := paired_fl h2
  subst e
  exact ⟨p, xs, rfl, sq_of (ek _ _ h1), q.fl ek⟩
theorem rc_all {xs : List Bool} : RCV K (rAll K) (xs, ()) (xs.all id) := fun Kn H vs ek h Q q => by
  obtain ⟨v, rfl, p, ws, rfl, h1, h2⟩ := one_arg h
  have e := paired_fl h2
  subst e
  exact ⟨p, xs, rfl, sq_of (ek _ _ h1), q.fl ek⟩
theorem rc_any {xs : List Bool} : RCV K (rAny K) (xs, ()) (xs.any id) := fun Kn H vs ek h Q q => by
  obtain ⟨v, rfl, p, ws, rfl, h1, h2⟩ := one_arg h
  have e := paired_fl h2
  subst e
  exact ⟨p, xs, rfl, sq_of (ek _ _ h1), q.fl ek⟩
theorem rc_list {xs : List α} : RCL K (fun xs H Q => ∃ p ys, xs = [.ref p] ∧ (SqL K H p ys ∨ SqT K H p ys) ∧ ∀ l, H l = none → Q (.ref l) (upd H l (.lst ys))) (xs, ()) xs := fun Kn H vs ek h Q q => by
  obtain ⟨v, rfl, p, ws, rfl, h1, h2⟩ := one_arg h
  exact ⟨p, ws, rfl, .inl (sq_of (ek _ _ h1)), fun l hl => q l ws Kn _ (Gr.newU ek hl) hl (fresh_back ek hl) upd_same h2⟩
theorem rc_listF {xs : Fz α} : RCL K (fun xs H Q => ∃ p ys, xs = [.ref p] ∧ (SqL K H p ys ∨ SqT K H p ys) ∧ ∀ l, H l = none → Q (.ref l) (upd H l (.lst ys))) (xs, ()) xs.l := fun Kn H vs ek h Q q => by
  obtain ⟨v, rfl, p, ws, rfl, h1, h2⟩ := one_arg h
  exact ⟨p, ws, rfl, .inl (ex_l ek h1), fun l hl => q l ws Kn _ (Gr.newU ek hl) hl (fresh_back ek hl) upd_same h2⟩
theorem rc_listT {xs : Tu α} : RCL K (fun xs H Q => ∃ p ys, xs = [.ref p] ∧ (SqL K H p ys ∨ SqT K H p ys) ∧ ∀ l, H l = none → Q (.ref l) (upd H l (.lst ys))) (xs, ()) xs.l := fun Kn H vs ek h Q q => by
  obtain ⟨v, rfl, p, ws, rfl, h1, h2⟩ := one_arg h
  exact ⟨p, ws, rfl, .inr (st_of (ek _ _ h1)), fun l hl => q l ws Kn _ (Gr.newU ek hl) hl (fresh_back ek hl) upd_same h2⟩
theorem rc_tuple {xs : List α} : RCV K (fun xs H Q => ∃ p ys, xs = [.ref p] ∧ ((SqL K H p ys ∧ ∀ l, H l = none → Q (.ref l) (upd H l (.tup ys))) ∨ (SqT K H p ys ∧ Q (.ref p) H))) (xs, ()) (Tu.mk xs) := fun Kn H vs ek h Q q => by
  obtain ⟨v, rfl, p, ws, rfl, h1, h2⟩ := one_arg h
  exact ⟨p, ws, rfl, .inl ⟨sq_of (ek _ _ h1), fun l hl => q _ (upd Kn l (.tup ws)) _ (Gr.new ek hl) ⟨l, ws, rfl, upd_same, paired_mono (Gr.new ek hl).kk h2⟩⟩⟩
end

/-! ### items, slices -/
section
variable {K : Fg} {F Kn0 : Hp} {sl sl' : List Sl} {ow ow1 ow2 : List Ow} {α β γ τ : Type} [Rp α] [Rp β] [Rp γ] [Tp τ] {ta tb te : TE}
theorem r2_ixL {xs : List α} {i : Int} {z : α} (h : atI xs i = some z) : R2V K (rIxL K) xs i z := fun Kn H v w ek h1 h2 Q q => by
  obtain ⟨p, ws, rfl, h3, h4⟩ := h1
  cases h2
  obtain ⟨u, e, r⟩ := paired_atI h4 h
  exact ⟨p, ws, i, u, rfl, rfl, sq_of (ek _ _ h3), e, q.at ek r⟩
theorem r2_ixF {xs : Fz α} {i : Int} {z : α} (h : atI xs.l i = some z) : R2V K (rIxL K) xs i z := fun Kn H v w ek h1 h2 Q q => by
  obtain ⟨p, ws, rfl, h3, h4⟩ := h1
  cases h2
  obtain ⟨u, e, r⟩ := paired_atI h4 h
  exact ⟨p, ws, i, u, rfl, rfl, ex_l ek h3, e, q.at ek r⟩
theorem r2_ixU {xs : Tu α} {i : Int} {z : α} (h : atI xs.l i = some z) : R2V K (rIxT K) xs i z := fun Kn H v w ek h1 h2 Q q => by
  obtain ⟨p, ws, rfl, h3, h4⟩ := h1
  cases h2
  obtain ⟨u, e, r⟩ := paired_atI h4 h
  exact ⟨p, ws, i, u, rfl, rfl, st_of (ek _ _ h3), e, q.at ek r⟩
theorem r2_ixK {xs : Kt α} {i : Int} {z : α} (h : atI xs.l i = some z) : R2V K (rIxT K) xs i z := fun Kn H v w ek h1 h2 Q q => by
  obtain ⟨p, ws, rfl, h3, h4⟩ := h1
  cases h2
  obtain ⟨u, e, r⟩ := paired_atI h4 h
  exact ⟨p, ws, i, u, rfl, rfl, ex_t ek h3, e, q.at ek r⟩
/-- the n-th place of a tuple -/
inductive At : {τ : Type} → [Tp τ] → Nat → {α : Type} → [Rp α] → τ → α → Prop
  | z {α τ : Type} [Rp α] [Tp τ] (x : α) (t : τ) : At 0 (x, t) x
  | s {α β τ : Type} [Rp α] [Rp β] [Tp τ] {n : Nat} (x : α) {t : τ} {y : β} : At n t y → At (n + 1) (x, t) y
theorem At.get {K : Fg} {H : Hp} {τ : Type} [i : Tp τ] {n : Nat} {α : Type} [j : Rp α] {t : τ} {a : α} (h : At n t a) : ∀ {vs : List V}, rept K H vs t → ∃ v, vs[n]? = some v ∧ rep K H v a := by
  induction h with
  | z x t =>
    intro vs r
    obtain ⟨v, r, rfl, h1, h2⟩ := r
    exact ⟨v, rfl, h1⟩
  | s x _ ih =>
    intro vs r
    obtain ⟨v, r, rfl, h1, h2⟩ := r
    obtain ⟨w, e, h3⟩ := ih h2
    exact ⟨w, e, h3⟩
theorem r2_tix {t : α × τ} {n : Nat} {z : γ} (h : At n t z) : R2V K (rIxT K) t (n : Int) z := fun Kn H v w ek h1 h2 Q q => by
  obtain ⟨p, ws, rfl, h3, h4⟩ := h1
  cases h2
  obtain ⟨u, e, r⟩ := h.get h4
  exact ⟨p, ws, n, u, rfl, rfl, st_of (ek _ _ h3), atI_nat e, q.at ek r⟩
/-- one sign of a text -/
def ixS (z : Str) (i : Int) : Option Str := if z.length ≤ 100000 then (atI z.cps.toList i).map (fun c => ⟨#[c]⟩) else none
theorem r2_ixS {x : Str} {i : Int} {z : Str} (h : ixS x i = some z) : R2V K rIxS x i z := fun Kn H v w ek h1 h2 Q q => by
  cases h1
  cases h2
  unfold ixS at h
  split at h
  · rename_i hl
    cases e : atI x.cps.toList i with
    | none => rw [e] at h; cases h
    | some c =>
      rw [e] at h
      cases h
      exact ⟨x, i, c, rfl, rfl, le_line (by omega), e, q.fl ek⟩
  · cases h
def cut {α : Type} (xs : List α) (lo hi : Option Int) : List α := (xs.drop (HT.sIx xs.length 0 lo)).take (HT.sIx xs.length xs.length hi - HT.sIx xs.length 0 lo)
theorem paired_cut {F : V → α → Prop} {vs : List V} {xs : List α} (h : Paired F vs xs) (lo hi : Option Int) : Paired F (cutV vs lo hi) (cut xs lo hi) := by
  unfold cutV cut
  rw [Paired.length h]
  exact paired_take _ (paired_drop _ h)
def EO (K : Fg) (F Kn0 : Hp) (sl : List Sl) (ow : List Ow) (to : TO) (o : Option Int) : Prop := ∀ σ Kn H, S K F Kn0 sl ow σ Kn H → ∀ Q : Option Int → Hp → Prop, (∀ Kn' H', Gr Kn H Kn' H' → Q o H') → to σ H Q
theorem eo_none : EO K F Kn0 sl ow tNoPart none := fun σ Kn H s Q q => q Kn H (Gr.refl s.ek)
theorem eo_some {i : Int} (h : EV K F Kn0 sl ow te i) : EO K F Kn0 sl ow (tPart te) (some i) := fun σ Kn H s Q q => h σ Kn H s _ fun v Kn1 H1 g1 r1 => ⟨i, r1, q Kn1 H1 g1⟩
theorem en_sl {xs : List α} {tl th : TO} {lo hi : Option Int} (h : EV K F Kn0 sl ow te xs) (hl : EO K F Kn0 sl ow tl lo) (hh : EO K F Kn0 sl ow th hi) : EN K F Kn0 sl ow (tSl (rSlL K) te tl th) (cut xs lo hi) := fun σ Kn H s Q q =>
  h σ Kn H s _ fun v Kn1 H1 g1 r1 => hl σ Kn1 H1 (s.grow g1) _ fun Kn2 H2 g2 => hh σ Kn2 H2 ((s.grow g1).grow g2) _ fun Kn3 H3 g3 => by
    obtain ⟨p, ws, rfl, h3, h4⟩ := r1
    have g : Gr Kn H Kn3 H3 := (g1.trans g2).trans g3
    have e13 : Ex Kn1 Kn3 := g2.kk.trans g3.kk
    exact ⟨p, ws, rfl, sq_of (g3.kh _ _ (e13 _ _ h3)), fun l hl => q l _ Kn3 _ (g.trans (Gr.newU g3.kh hl)) (fresh_back g.hh hl) (fresh_back g3.kh hl) upd_same (paired_cut (paired_mono e13 h4) lo hi)⟩
theorem en_slF {xs : Fz α} {tl th : TO} {lo hi : Option Int} (h : EV K F Kn0 sl ow te xs) (hl : EO K F Kn0 sl ow tl lo) (hh : EO K F Kn0 sl ow th hi) : EN K F Kn0 sl ow (tSl (rSlL K) te tl th) (cut xs.l lo hi) := fun σ Kn H s Q q =>
  h σ Kn H s _ fun v Kn1 H1 g1 r1 => hl σ Kn1 H1 (s.grow g1) _ fun Kn2 H2 g2 => hh σ Kn2 H2 ((s.grow g1).grow g2) _ fun Kn3 H3 g3 => by
    obtain ⟨p, ws, rfl, h3, h4⟩ := r1
    have g : Gr Kn H Kn3 H3 := (g1.trans g2).trans g3
    have e13 : Ex Kn1 Kn3 := g2.kk.trans g3.kk
    exact ⟨p, ws, rfl, ex_l (e13.trans g3.kh) h3, fun l hl => q l _ Kn3 _ (g.trans (Gr.newU g3.kh hl)) (fresh_back g.hh hl) (fresh_back g3.kh hl) upd_same (paired_cut (paired_mono e13 h4) lo hi)⟩
theorem r2_cat {xs ys : List α} (hz : xs.length + ys.length ≤ 1000000) : R2L K rCat xs ys (xs ++ ys) := fun Kn H v w ek h1 h2 Q q => by
  obtain ⟨p, ws, rfl, h3, h4⟩ := h1
  obtain ⟨p2, ws2, rfl, h5, h6⟩ := h2
  exact ⟨p, p2, ws, ws2, rfl, rfl, ek _ _ h3, ek _ _ h5, by rw [paired_len h4, paired_len h6]; exact le_line hz, fun l hl =>
    q l _ Kn _ (Gr.newU ek hl) hl (fresh_back ek hl) upd_same (paired_append h4 h6)⟩

/-! ### tests -/
variable {t u : TT} {a b c : Bool}
theorem et_test (h : EV K F Kn0 sl ow te b) : ET K F Kn0 sl ow (tTest te) b := fun σ Kn H s Q q => h σ Kn H s _ fun v Kn' H' g r => ⟨b, r, q Kn' H' g⟩
theorem et_B (h : EV K F Kn0 sl ow te b) : ET K F Kn0 sl ow (tB te) b := fun σ Kn H s Q q => h σ Kn H s _ fun v Kn' H' g r => ⟨b, r, q Kn' H' g⟩
theorem et_not (h : ET K F Kn0 sl ow t b) : ET K F Kn0 sl ow (tNot t) (!b) := fun σ Kn H s Q q => h σ Kn H s _ fun Kn' H' g => q Kn' H' g
theorem et_and (h1 : ET K F Kn0 sl ow t a) (h2 : a = true → ET K F Kn0 sl ow u b) : ET K F Kn0 sl ow (tAnd t u) (a && b) := fun σ Kn H s Q q => h1 σ Kn H s _ fun Kn1 H1 g1 => by
  cases a with
  | true => exact iteT (h2 rfl σ Kn1 H1 (s.grow g1) Q fun Kn2 H2 g2 => q Kn2 H2 (g1.trans g2))
  | false => exact iteF (q Kn1 H1 g1)
theorem et_or (h1 : ET K F Kn0 sl ow t a) (h2 : a = false → ET K F Kn0 sl ow u b) : ET K F Kn0 sl ow (tOr t u) (a || b) := fun σ Kn H s Q q => h1 σ Kn H s _ fun Kn1 H1 g1 => by
  cases a with
  | true => exact iteT (q Kn1 H1 g1)
  | false => exact iteF (h2 rfl σ Kn1 H1 (s.grow g1) Q fun Kn2 H2 g2 => q Kn2 H2 (g1.trans g2))
theorem et_andO {m : Option Bool} (h : (if a = true then m else some false) = some c) (h1 : ET K F Kn0 sl ow t a) (h2 : ∀ b, a = true → m = some b → ET K F Kn0 sl ow u b) : ET K F Kn0 sl ow (tAnd t u) c := fun σ Kn H s Q q => h1 σ Kn H s _ fun Kn1 H1 g1 => by
  cases a with
  | true => exact iteT (h2 c rfl h σ Kn1 H1 (s.grow g1) Q fun Kn2 H2 g2 => q Kn2 H2 (g1.trans g2))
  | false =>
    cases h
    exact iteF (q Kn1 H1 g1)
theorem et_orO {m : Option Bool} (h : (if a = true then some true else m) = some c) (h1 : ET K F Kn0 sl ow t a) (h2 : ∀ b, a = false → m = some b → ET K F Kn0 sl ow u b) : ET K F Kn0 sl ow (tOr t u) c := fun σ Kn H s Q q => h1 σ Kn H s _ fun Kn1 H1 g1 => by
  cases a with
  | false => exact iteF (h2 c rfl h σ Kn1 H1 (s.grow g1) Q fun Kn2 H2 g2 => q Kn2 H2 (g1.trans g2))
  | true =>
    cases h
    exact iteT (q Kn1 H1 g1)
theorem ev_andO {m : Option Bool} (h : (if a = true then m else some false) = some c) (h1 : EV K F Kn0 sl ow ta a) (h2 : ∀ b, a = true → m = some b → EV K F Kn0 sl ow tb b) : EV K F Kn0 sl ow (tAndV ta tb) c := fun σ Kn H s Q q => h1 σ Kn H s _ fun v Kn1 H1 g1 r1 => ⟨a, r1, by
  cases a with
  | true => exact iteT (h2 c rfl h σ Kn1 H1 (s.grow g1) Q fun v Kn2 H2 g2 r2 => q v Kn2 H2 (g1.trans g2) r2)
  | false =>
    cases h
    exact iteF (q _ Kn1 H1 g1 rfl)⟩
theorem ev_orO {m : Option Bool} (h : (if a = true then some true else m) = some c) (h1 : EV K F Kn0 sl ow ta a) (h2 : ∀ b, a = false → m = some b → EV K F Kn0 sl ow tb b) : EV K F Kn0 sl ow (tOrV ta tb) c := fun σ Kn H s Q q => h1 σ Kn H s _ fun v Kn1 H1 g1 r1 => ⟨a, r1, by
  cases a with
  | false => exact iteF (h2 c rfl h σ Kn1 H1 (s.grow g1) Q fun v Kn2 H2 g2 r2 => q v Kn2 H2 (g1.trans g2) r2)
  | true =>
    cases h
    exact iteT (q _ Kn1 H1 g1 rfl)⟩
theorem ev_andV (h1 : EV K F Kn0 sl ow ta a) (h2 : a = true → EV K F Kn0 sl ow tb b) : EV K F Kn0 sl ow (tAndV ta tb) (a && b) := fun σ Kn H s Q q => h1 σ Kn H s _ fun v Kn1 H1 g1 r1 => ⟨a, r1, by
  cases a with
  | true => exact iteT (h2 rfl σ Kn1 H1 (s.grow g1) Q fun v Kn2 H2 g2 r2 => q v Kn2 H2 (g1.trans g2) r2)
  | false => exact iteF (q _ Kn1 H1 g1 rfl)⟩
theorem ev_orV (h1 : EV K F Kn0 sl ow ta a) (h2 : a = false → EV K F Kn0 sl ow tb b) : EV K F Kn0 sl ow (tOrV ta tb) (a || b) := fun σ Kn H s Q q => h1 σ Kn H s _ fun v Kn1 H1 g1 r1 => ⟨a, r1, by
  cases a with
  | false => exact iteF (h2 rfl σ Kn1 H1 (s.grow g1) Q fun v Kn2 H2 g2 r2 => q v Kn2 H2 (g1.trans g2) r2)
  | true => exact iteT (q _ Kn1 H1 g1 rfl)⟩
theorem ev_notV (h1 : EV K F Kn0 sl ow ta a) : EV K F Kn0 sl ow (tNotV ta) (!a) := fun σ Kn H s Q q => h1 σ Kn H s _ fun v Kn1 H1 g1 r1 => ⟨a, r1, q _ Kn1 H1 g1 rfl⟩
theorem ev_if {x y : α} (h : ET K F Kn0 sl ow t b) (h1 : b = true → EV K F Kn0 sl ow ta x) (h2 : b = false → EV K F Kn0 sl ow tb y) : EV K F Kn0 sl ow (tIf t ta tb) (if b = true then x else y) := fun σ Kn H s Q q => h σ Kn H s _ fun Kn1 H1 g1 => by
  cases b with
  | true => exact iteT (h1 rfl σ Kn1 H1 (s.grow g1) Q fun v Kn2 H2 g2 r2 => q v Kn2 H2 (g1.trans g2) r2)
  | false => exact iteF (h2 rfl σ Kn1 H1 (s.grow g1) Q fun v Kn2 H2 g2 r2 => q v Kn2 H2 (g1.trans g2) r2)
theorem ev_ifO {m n : Option α} {z : α} (hz : (if b = true then m else n) = some z) (h : ET K F Kn0 sl ow t b) (h1 : ∀ x, b = true → m = some x → EV K F Kn0 sl ow ta x) (h2 : ∀ y, b = false → n = some y → EV K F Kn0 sl ow tb y) : EV K F Kn0 sl ow (tIf t ta tb) z := fun σ Kn H s Q q => h σ Kn H s _ fun Kn1 H1 g1 => by
  cases b with
  | true => exact iteT (h1 z rfl hz σ Kn1 H1 (s.grow g1) Q fun v Kn2 H2 g2 r2 => q v Kn2 H2 (g1.trans g2) r2)
  | false => exact iteF (h2 z rfl hz σ Kn1 H1 (s.grow g1) Q fun v Kn2 H2 g2 r2 => q v Kn2 H2 (g1.trans g2) r2)
/-- truth of a list -/
theorem et_truL {xs : List α} (h : EV K F Kn0 sl ow ta xs) : ET K F Kn0 sl ow (fun σ H Q => ta σ H fun x H' => ∃ k, TruV K x H' k ∧ Q k H') (!xs.isEmpty) := fun σ Kn H s Q q => h σ Kn H s _ fun v Kn1 H1 g1 r1 => by
  obtain ⟨p, ws, rfl, h3, h4⟩ := r1
  refine ⟨_, .inl ⟨ws, sq_of (g1.kh _ _ h3), rfl⟩, ?_⟩
  have e : (!ws.isEmpty) = !xs.isEmpty := by
    cases h4 <;> rfl
  rw [e]
  exact q Kn1 H1 g1
end
end Wk
/-! Wk3: calls, statements, loops, comprehensions -/
namespace Wk
open PySem PySem.Spec L2 Evl

/-! ### promises -/
section
variable {α τ : Type} [Rp α] [Tp τ]
/-- a def that changes nothing: it tells f of its arguments -/
def PF (K : Fg) (f : τ → Option α) : Sp := fun vs H Q _ => ∃ Kn t r, Ex Kn H ∧ rept K Kn vs t ∧ f t = some r ∧ RS K Kn H Q r
/-- .. a new list -/
def PL (K : Fg) (f : τ → Option (List α)) : Sp := fun vs H Q _ => ∃ Kn t r, Ex Kn H ∧ rept K Kn vs t ∧ f t = some r ∧ RL K Kn H Q r
/-- its first argument is a list that it changes -/
def PM {β : Type} [Rp β] (K : Fg) (f : List β → τ → Option (α × List β)) : Sp := fun vs H Q _ => ∃ Kn p ws rest t xs r xs', vs = .ref p :: rest ∧ Ex Kn H ∧ Kn p = none ∧ H p = some (.lst ws) ∧ Paired (rep K Kn) ws xs ∧ rept K Kn rest t ∧ f xs t = some (r, xs') ∧
  ∀ v Kn' H' ws', Ex Kn Kn' → Ex Kn' H' → (∀ q, q ≠ p → H q ≠ none → H' q = H q) → (∀ q, H q ≠ none → Kn q = none → Kn' q = none) → H' p = some (.lst ws') → Paired (rep K Kn') ws' xs' → rep K Kn' v r → Q v H'
end
section
variable {K : Fg} {F Kn0 : Hp} {sl sl' : List Sl} {ow ow1 ow2 : List Ow} {α β γ τ : Type} [Rp α] [Rp β] [Rp γ] [Tp τ] {ta : TA} {te : TE} {t : τ} {E : XK}
theorem ev_call {f : τ → Option α} {r : α} (h : EA K F Kn0 sl ow ta t) (hf : f t = some r) : EV K F Kn0 sl ow (tCall (PF K f) [] E ta) r := fun σ Kn H s Q q =>
  h σ Kn H s _ fun vs Kn1 H1 g1 r1 => by
    show PF K f (vs ++ []) H1 Q E
    rw [List.append_nil]
    exact ⟨Kn1, t, r, g1.kh, r1, hf, fun u Kn' H' g' r' => q u Kn' H' (g1.trans g') r'⟩
theorem en_call {f : τ → Option (List α)} {r : List α} (h : EA K F Kn0 sl ow ta t) (hf : f t = some r) : EN K F Kn0 sl ow (tCall (PL K f) [] E ta) r := fun σ Kn H s Q q =>
  h σ Kn H s _ fun vs Kn1 H1 g1 r1 => by
    show PL K f (vs ++ []) H1 Q E
    rw [List.append_nil]
    exact ⟨Kn1, t, r, g1.kh, r1, hf, fun p ws Kn' H' g' hp kp hw r' => q p ws Kn' H' (g1.trans g') (fresh_back g1.hh hp) kp hw r'⟩
theorem em_call {f : τ → Option α} {r : α} (h : EAM K F Kn0 sl ow ta ow1 t) (hf : f t = some r) : EM K F Kn0 sl ow (tCall (PF K f) [] E ta) ow1 r := fun σ Kn H s Q q =>
  h σ Kn H s _ fun vs Kn1 H1 e1 s1 r1 => by
    show PF K f (vs ++ []) H1 Q E
    rw [List.append_nil]
    exact ⟨Kn1, t, r, s1.ek, r1, hf, fun u Kn' H' g' r' => q u Kn' H' (e1.trans g'.kk) (s1.grow g') r'⟩
theorem enm_call {f : τ → Option (List α)} {r : List α} (h : EAM K F Kn0 sl ow ta ow1 t) (hf : f t = some r) : ENM K F Kn0 sl ow (tCall (PL K f) [] E ta) ow1 r := fun σ Kn H s Q q =>
  h σ Kn H s _ fun vs Kn1 H1 e1 s1 r1 => by
    show PL K f (vs ++ []) H1 Q E
    rw [List.append_nil]
    exact ⟨Kn1, t, r, s1.ek, r1, hf, fun p ws Kn' H' g' hp kp hw r' => q p ws Kn' H' (e1.trans g'.kk) (s1.grow g') (fresh_back s1.ef hp) kp (owned_ne s1 hp) hw r'⟩
theorem ow_at {ow : List Ow} (h : (ow.map Ow.ad).Nodup) {i j : Nat} {o u : Ow} (hi : ow[i]? = some o) (hj : ow[j]? = some u) (e : o.ad = u.ad) : i = j := by
  have a1 : (ow.map Ow.ad)[i]? = some o.ad := by rw [List.getElem?_map, hi]; rfl
  have a2 : (ow.map Ow.ad)[j]? = some o.ad := by rw [List.getElem?_map, hj, e]; rfl
  exact nd_ix h a1 a2
/-- the object at place j is another one now, all else as it was -/
theorem S.write {σ : L2.St} {Kn H Kn' H' : Hp} {p : Addr} {xs xs' : List β} {ws : List V} {j : Nat} (s : S K F Kn0 sl ow σ Kn H) (hj : ow[j]? = some (ol p xs)) (kk : Ex Kn Kn') (kh : Ex Kn' H')
    (hq : ∀ q, q ≠ p → H q ≠ none → H' q = H q) (sp : ∀ q, H q ≠ none → Kn q = none → Kn' q = none) (hp : H' p = some (.lst ws)) (r : Paired (rep K Kn') ws xs') : S K F Kn0 sl (ow.set j (ol p xs')) σ Kn' H' := by
  obtain ⟨f1, f2, f3⟩ := s.ow.each _ (List.mem_of_getElem? hj)
  have f1 : F p = none := f1
  have f2 : Kn p = none := f2
  have f4 : H p ≠ none := Ow.there f3
  have jl : j < ow.length := (List.getElem?_eq_some_iff.mp hj).1
  refine ⟨s.e0.trans kk, kh, fun a u h => ?_, fun a h1 h2 => sp a (Ex.nn s.ef h1) (s.sep a h1 h2), s.sl.mono kk, ⟨fun o ho => ?_, ?_⟩⟩
  · have hne : a ≠ p := fun z => by rw [z, f1] at h; cases h
    rw [hq a hne (ne_none_of (s.ef _ _ h))]
    exact s.ef _ _ h
  · obtain ⟨i, hi⟩ := List.getElem?_of_mem ho
    by_cases e : i = j
    · subst e
      rw [List.getElem?_set_self jl] at hi
      cases hi
      exact ⟨f1, sp p f4 f2, ws, hp, r⟩
    · rw [List.getElem?_set_ne (Ne.symm e)] at hi
      obtain ⟨h1, h2, h3⟩ := s.ow.each o (List.mem_of_getElem? hi)
      have h4 := Ow.there h3
      have hne : o.ad ≠ p := fun z => e (ow_at s.ow.nd hi hj z)
      exact ⟨h1, sp _ h4 h2, Ow.ok_mono kk (hq _ hne h4) h3⟩
  · have e : (ow.set j (ol p xs')).map Ow.ad = ow.map Ow.ad := by
      rw [List.map_set]
      refine List.ext_getElem? fun i => ?_
      by_cases e : j = i
      · subst e
        rw [List.getElem?_set_self (by rw [List.length_map]; exact jl), List.getElem?_map, hj]
        rfl
      · rw [List.getElem?_set_ne e]
    rw [e]
    exact s.ow.nd
theorem em_callM {f : List β → τ → Option (α × List β)} {r : α} {i j : Nat} {p : Addr} {xs xs' : List β} (hi : sl[i]? = some (.at p)) (h : EAM K F Kn0 sl ow ta ow1 t) (hj : ow1[j]? = some (ol p xs)) (hf : f xs t = some (r, xs')) :
    EM K F Kn0 sl ow (tCall (PM K f) [] E (tCons (tVar i) ta)) (ow1.set j (ol p xs')) r := fun σ Kn H s Q q => by
  obtain ⟨o, h1, h2⟩ := s.sl.get hi
  refine ⟨.ref p, by rw [h1]; exact congrArg some h2, h σ Kn H s _ fun vs Kn1 H1 e1 s1 r1 => ?_⟩
  show PM K f ((.ref p :: vs) ++ []) H1 Q E
  rw [List.append_nil]
  obtain ⟨f1, f2, ws, f3, f4⟩ := s1.ow.each _ (List.mem_of_getElem? hj)
  exact ⟨Kn1, p, ws, vs, t, xs, r, xs', rfl, s1.ek, f2, f3, f4, r1, hf, fun v Kn' H' ws' kk kh hq sp hp rr rv => q v Kn' H' (e1.trans kk) (s1.write hj kk kh hq sp hp rr) rv⟩
end

/-! ### statements -/
section
variable (K : Fg) (F Kn0 : Hp) (sl : List Sl) (ow : List Ow)
def SN (D : Ends) : Prop := ∀ σ Kn H, S K F Kn0 sl ow σ Kn H → D.nx σ H
def SC (D : Ends) : Prop := ∀ σ Kn H, S K F Kn0 sl ow σ Kn H → D.ct σ H
def SK (D : Ends) : Prop := ∀ σ Kn H, S K F Kn0 sl ow σ Kn H → D.bk σ H
end
section
variable {K : Fg} {F Kn0 : Hp} {sl sl' : List Sl} {ow ow0 ow1 ow2 : List Ow} {α β γ τ : Type} [Rp α] [Rp β] [Rp γ] [Tp τ] {ta tb te : TE} {x : α} {D : Ends} {t u tz : TS} {tt : TT} {b : Bool} {i j : Nat} {p : Addr}
theorem SB.seq (h : SB K F Kn0 sl ow { D with nx := tz D } t) : SB K F Kn0 sl ow D (tSeq t tz) := h
theorem SB.le (h : SB K F Kn0 sl' ow D t) (l : SlLe sl sl') : SB K F Kn0 sl ow D t := fun σ Kn H s => h σ Kn H (s.le l)
theorem SB.sub (h : SB K F Kn0 sl ow1 D t) (l : ow1.Sublist ow) : SB K F Kn0 sl ow D t := fun σ Kn H s => h σ Kn H (s.sub l)
theorem SN.le (h : SN K F Kn0 sl' ow D) (l : SlLe sl sl') : SN K F Kn0 sl ow D := fun σ Kn H s => h σ Kn H (s.le l)
theorem SN.sub (h : SN K F Kn0 sl ow1 D) (l : ow1.Sublist ow) : SN K F Kn0 sl ow D := fun σ Kn H s => h σ Kn H (s.sub l)
theorem EN.le {xs : List α} (h : EN K F Kn0 sl' ow te xs) (l : SlLe sl sl') : EN K F Kn0 sl ow te xs := fun σ Kn H s => h σ Kn H (s.le l)
theorem EV.le (h : EV K F Kn0 sl' ow te x) (l : SlLe sl sl') : EV K F Kn0 sl ow te x := fun σ Kn H s => h σ Kn H (s.le l)
theorem sb_nx (k : SN K F Kn0 sl ow D) : SB K F Kn0 sl ow D tNext := k
theorem sb_ct (k : SC K F Kn0 sl ow D) : SB K F Kn0 sl ow D tCont := k
theorem sb_bk (k : SK K F Kn0 sl ow D) : SB K F Kn0 sl ow D tBreak := k
theorem sb_asg (hs : sl.set i (sv x) = sl') (h : EV K F Kn0 sl ow te x) (k : SN K F Kn0 sl' ow D) : SB K F Kn0 sl ow D (tAsg te (gName i)) := fun σ Kn H s =>
  h σ Kn H s _ fun v Kn1 H1 g1 r1 => k _ Kn1 H1 (hs ▸ (s.grow g1).setv i r1)
theorem sb_asgM (hs : sl.set i (sv x) = sl') (h : EM K F Kn0 sl ow te ow1 x) (k : SN K F Kn0 sl' ow1 D) : SB K F Kn0 sl ow D (tAsg te (gName i)) := fun σ Kn H s =>
  h σ Kn H s _ fun v Kn1 H1 e1 s1 r1 => k _ Kn1 H1 (hs ▸ s1.setv i r1)
/-- a new object is one's own -/
theorem S.own {σ : L2.St} {Kn H : Hp} {xs : List α} {ws : List V} (s : S K F Kn0 sl ow σ Kn H) (fp : F p = none) (kp : Kn p = none) (no : ∀ o ∈ ow, o.ad ≠ p) (hp : H p = some (.lst ws)) (r : Paired (rep K Kn) ws xs) : S K F Kn0 sl (ol p xs :: ow) σ Kn H :=
  ⟨s.e0, s.ek, s.ef, s.sep, s.sl, ⟨fun o ho => by
    rcases List.mem_cons.mp ho with rfl | ho
    · exact ⟨fp, kp, ws, hp, r⟩
    · exact s.ow.each o ho, List.nodup_cons.mpr ⟨fun h => by
      obtain ⟨o, ho, e⟩ := List.mem_map.mp h
      exact no o ho e, s.ow.nd⟩⟩⟩
theorem S.seta {σ : L2.St} {Kn H : Hp} (s : S K F Kn0 sl ow σ Kn H) (i : Nat) : S K F Kn0 (sl.set i (.at p)) ow (σ.set i (some (.ref p))) Kn H := s.set i rfl
theorem sb_asgO {xs : List α} {sl' : Addr → List Sl} (hs : ∀ p, sl.set i (.at p) = sl' p) (h : EN K F Kn0 sl ow te xs) (k : ∀ p, SN K F Kn0 (sl' p) (ol p xs :: ow) D) : SB K F Kn0 sl ow D (tAsg te (gName i)) := fun σ Kn H s =>
  h σ Kn H s _ fun p ws Kn1 H1 g1 hp kp hw r1 => k p _ Kn1 H1 (hs p ▸ ((s.grow g1).own (fresh_back s.ef hp) kp (owned_ne s hp) hw r1).seta i)
theorem sb_asgOM {xs : List α} {sl' : Addr → List Sl} (hs : ∀ p, sl.set i (.at p) = sl' p) (h : ENM K F Kn0 sl ow te ow1 xs) (k : ∀ p, SN K F Kn0 (sl' p) (ol p xs :: ow1) D) : SB K F Kn0 sl ow D (tAsg te (gName i)) := fun σ Kn H s =>
  h σ Kn H s _ fun p ws Kn1 H1 e1 s1 fp kp no hw r1 => k p _ Kn1 H1 (hs p ▸ (s1.own fp kp no hw r1).seta i)
theorem sb_aug {a c : Int} {f : Int → Int → Int} (hi : sl[i]? = some (sv a)) (hs : sl.set i (sv (f a c)) = sl') (h : EV K F Kn0 sl ow te c) (k : SN K F Kn0 sl' ow D) : SB K F Kn0 sl ow D (tAug i te (ipI f)) := fun σ Kn H s => by
  obtain ⟨o, h1, v, h2, h3⟩ := s.sl.get hi
  cases h3
  exact ⟨.int a, by rw [h1, h2], h σ Kn H s _ fun v Kn1 H1 g1 r1 => ⟨a, c, rfl, r1, k _ Kn1 H1 (hs ▸ (s.grow g1).setv (x := f a c) i rfl)⟩⟩
theorem sb_drop (h : EV K F Kn0 sl ow te x) (k : SN K F Kn0 sl ow D) : SB K F Kn0 sl ow D (tDrop te) := fun σ Kn H s => h σ Kn H s _ fun v Kn1 H1 g1 r1 => k _ Kn1 H1 (s.grow g1)
theorem sb_dropM (h : EM K F Kn0 sl ow te ow1 x) (k : SN K F Kn0 sl ow1 D) : SB K F Kn0 sl ow D (tDrop te) := fun σ Kn H s => h σ Kn H s _ fun v Kn1 H1 e1 s1 r1 => k _ Kn1 H1 s1
theorem upd_in {Kn H : Hp} {o : HO} (ek : Ex Kn H) (kp : Kn p = none) : Ex Kn (upd H p o) := fun a u h => by
  have hq : a ≠ p := fun z => by rw [z, kp] at h; cases h
  rw [upd_ne hq]
  exact ek _ _ h
/-- found.append(e) -/
theorem sb_app {xs : List α} (hi : sl[i]? = some (.at p)) (hj : ow[j]? = some (ol p xs)) (h : EV K F Kn0 sl ow te x) (hz : xs.length < 1000000) (k : SN K F Kn0 sl (ow.set j (ol p (xs ++ [x]))) D) :
    SB K F Kn0 sl ow D (tDrop (tBM K "list" rAppend (tVar i) (tCons te tNil))) := fun σ Kn H s => by
  obtain ⟨o, h1, h2⟩ := s.sl.get hi
  obtain ⟨f1, f2, ws, f3, f4⟩ := s.ow.each _ (List.mem_of_getElem? hj)
  refine ⟨.ref p, by rw [h1]; exact congrArg some h2, Or.inl ⟨rfl, ws, sq_of f3⟩, h σ Kn H s _ fun v Kn1 H1 g1 r1 => ?_⟩
  refine ⟨p, ws, v, rfl, rfl, g1.hh _ _ f3, by rw [paired_len f4]; exact lt_line hz, k _ Kn1 _ ?_⟩
  have kp1 : Kn1 p = none := g1.sp p (ne_none_of f3) f2
  exact (s.grow g1).write hj (Ex.refl _) (upd_in g1.kh kp1) (fun q hq _ => upd_ne hq) (fun _ _ h => h) upd_same (paired_append (paired_mono g1.kk f4) (.cons r1 .nil))
theorem sb_appM {xs : List α} (hi : sl[i]? = some (.at p)) (hi0 : ow[j]? = some (ol p xs)) (h : EM K F Kn0 sl ow te ow1 x) (hj : ow1[j]? = some (ol p xs)) (hz : xs.length < 1000000) (k : SN K F Kn0 sl (ow1.set j (ol p (xs ++ [x]))) D) :
    SB K F Kn0 sl ow D (tDrop (tBM K "list" rAppend (tVar i) (tCons te tNil))) := fun σ Kn H s => by
  obtain ⟨o, h1, h2⟩ := s.sl.get hi
  obtain ⟨_, _, ws0, f0, _⟩ := s.ow.each _ (List.mem_of_getElem? hi0)
  refine ⟨.ref p, by rw [h1]; exact congrArg some h2, Or.inl ⟨rfl, ws0, sq_of f0⟩, h σ Kn H s _ fun v Kn1 H1 e1 s1 r1 => ?_⟩
  obtain ⟨f1, f2, ws, f3, f4⟩ := s1.ow.each _ (List.mem_of_getElem? hj)
  refine ⟨p, ws, v, rfl, rfl, f3, by rw [paired_len f4]; exact lt_line hz, k _ Kn1 _ ?_⟩
  exact s1.write hj (Ex.refl _) (upd_in s1.ek f2) (fun q hq _ => upd_ne hq) (fun _ _ h => h) upd_same (paired_append f4 (.cons r1 .nil))
/-- the place of a written index -/
def setI {α : Type} (xs : List α) (i : Int) (x : α) : Option (List α) := (ixN xs.length i).map fun j => xs.set j x
/-- found[e] = x -/
theorem sb_setI {xs xs' : List α} {n : Int} (hi : sl[i]? = some (.at p)) (hj : ow[j]? = some (ol p xs)) (h : EV K F Kn0 sl ow te x) (hn : EV K F Kn0 sl ow tb n) (hx : setI xs n x = some xs') (k : SN K F Kn0 sl (ow.set j (ol p xs')) D) :
    SB K F Kn0 sl ow D (tAsg te (gSub (tVar i) tb rSetL)) := fun σ Kn H s => h σ Kn H s _ fun v Kn1 H1 g1 r1 => by
  obtain ⟨o, h1, h2⟩ := s.sl.get hi
  refine ⟨.ref p, by rw [h1]; exact congrArg some h2, hn σ Kn1 H1 (s.grow g1) _ fun w Kn2 H2 g2 r2 => ?_⟩
  have s2 := (s.grow g1).grow g2
  obtain ⟨f1, f2, ws, f3, f4⟩ := s2.ow.each _ (List.mem_of_getElem? hj)
  unfold setI at hx
  cases e : ixN xs.length n with
  | none => rw [e] at hx; cases hx
  | some m =>
    rw [e] at hx
    cases hx
    cases r2
    refine ⟨p, ws, n, m, rfl, rfl, f3, by rw [paired_len f4]; exact e, k _ Kn2 _ ?_⟩
    exact s2.write hj (Ex.refl _) (upd_in g2.kh f2) (fun q hq _ => upd_ne hq) (fun _ _ h => h) upd_same (paired_set (Rp.mono g2.kk r1) m f4)
/-- from now on it is known and stays as it is -/
theorem sb_freeze {xs : List α} (hi : sl[i]? = some (.at p)) (hj : ow[j]? = some (ol p xs)) (hs : sl.set i (sv xs) = sl') (ho : ow.eraseIdx j = ow1) (k : SB K F Kn0 sl' ow1 D t) : SB K F Kn0 sl ow D t := fun σ Kn H s => by
  obtain ⟨o, h1, h2⟩ := s.sl.get hi
  have h2 : o = some (.ref p) := h2
  obtain ⟨f1, f2, ws, f3, f4⟩ := s.ow.each _ (List.mem_of_getElem? hj)
  have hsub : ow1.Sublist ow := ho ▸ List.eraseIdx_sublist ow j
  have s1 := s.sub hsub
  have no : ∀ o ∈ ow1, o.ad ≠ p := fun o hm z => by
    have hnd := s.ow.nd
    subst ho
    obtain ⟨m, hm'⟩ := List.getElem?_of_mem hm
    rw [List.getElem?_eraseIdx] at hm'
    split at hm'
    · rename_i hlt
      have := ow_at hnd hm' hj z
      omega
    · rename_i hge
      have := ow_at hnd hm' hj z
      omega
  have s2 := s1.know (o := .lst ws) f1 f2 no f3
  have hσ : σ.set i o = σ := by
    refine List.ext_getElem? fun m => ?_
    by_cases e : i = m
    · subst e
      rw [List.getElem?_set_self (List.getElem?_eq_some_iff.mp h1).1, h1]
    · rw [List.getElem?_set_ne e]
  have s3 := s2.set (x := sv xs) (o := o) i ⟨.ref p, h2, p, ws, rfl, upd_same, paired_mono (Ex.new f2) f4⟩
  rw [hs, hσ] at s3
  exact k σ _ H s3
theorem sb_if (h : ET K F Kn0 sl ow tt b) (h1 : b = true → SB K F Kn0 sl ow D t) (h2 : b = false → SB K F Kn0 sl ow D u) : SB K F Kn0 sl ow D (tIfS tt t u) := fun σ Kn H s => h σ Kn H s _ fun Kn1 H1 g1 => by
  cases b with
  | true => exact iteT (h1 rfl σ Kn1 H1 (s.grow g1))
  | false => exact iteF (h2 rfl σ Kn1 H1 (s.grow g1))
theorem sb_cut (h : SB K F Kn0 sl ow { D with nx := fun σ H => ∃ Kn, S K F Kn0 sl' ow1 σ Kn H } t) (k : SB K F Kn0 sl' ow1 D tz) : SB K F Kn0 sl ow D (tCut t tz) := fun σ Kn H s => ⟨_, h σ Kn H s, fun σ' H' ⟨Kn', s'⟩ => k σ' Kn' H' s'⟩
theorem sn_mid (l : SlLe sl sl') (l2 : ow1.Sublist ow) : SN K F Kn0 sl ow { D with nx := fun σ H => ∃ Kn, S K F Kn0 sl' ow1 σ Kn H } := fun σ Kn H s => ⟨Kn, (s.le l).sub l2⟩
/-- returns -/
theorem sb_ret {R : VK} (h : EV K F Kn0 sl ow te x) (q : RT K F Kn0 ow0 R x) (l : ow0.Sublist ow) (hR : D.rt = R := by rfl) : SB K F Kn0 sl ow D (tRet te) := fun σ Kn H s => by
  subst hR
  exact h σ Kn H s _ fun v Kn1 H1 g1 r1 => q v Kn1 H1 ((s.grow g1).sub l).fin r1
theorem sb_retM {R : VK} (h : EM K F Kn0 sl ow te ow1 x) (q : RT K F Kn0 ow0 R x) (l : ow0.Sublist ow1) (hR : D.rt = R := by rfl) : SB K F Kn0 sl ow D (tRet te) := fun σ Kn H s => by
  subst hR
  exact h σ Kn H s _ fun v Kn1 H1 e1 s1 r1 => q v Kn1 H1 (s1.sub l).fin r1
theorem sb_retL {R : VK} {xs : List α} (h : EN K F Kn0 sl ow te xs) (q : RN K F Kn0 ow0 R xs) (l : ow0.Sublist ow) (hR : D.rt = R := by rfl) : SB K F Kn0 sl ow D (tRet te) := fun σ Kn H s => by
  subst hR
  exact h σ Kn H s _ fun p ws Kn1 H1 g1 hp kp hw r1 => q p ws Kn1 H1 ((s.grow g1).sub l).fin (fresh_back s.ef hp) kp hw r1
/-- a list of one's own is told -/
theorem sb_retO {R : VK} {xs : List α} (hi : sl[i]? = some (.at p)) (hj : ow[j]? = some (ol p xs)) (q : RN K F Kn0 ow0 R xs) (l : ow0.Sublist ow) (hR : D.rt = R := by rfl) : SB K F Kn0 sl ow D (tRet (tVar i)) := fun σ Kn H s => by
  subst hR
  obtain ⟨o, h1, h2⟩ := s.sl.get hi
  obtain ⟨f1, f2, ws, f3, f4⟩ := s.ow.each _ (List.mem_of_getElem? hj)
  exact ⟨.ref p, by rw [h1]; exact congrArg some h2, q p ws Kn H (s.sub l).fin f1 f2 f3 f4⟩
theorem SB.seqB (h : (∀ sl' ow', SB K F Kn0 sl' ow' D tz → SN K F Kn0 sl' ow' { D with nx := tz D }) → SB K F Kn0 sl ow { D with nx := tz D } t) : SB K F Kn0 sl ow D (tSeq t tz) := h fun _ _ k => k
theorem SB.cutB (h : (∀ sl2 ow2, SlLe sl2 sl' → ow1.Sublist ow2 → SN K F Kn0 sl2 ow2 { D with nx := fun σ H => ∃ Kn, S K F Kn0 sl' ow1 σ Kn H }) → SB K F Kn0 sl ow { D with nx := fun σ H => ∃ Kn, S K F Kn0 sl' ow1 σ Kn H } t) (k : SB K F Kn0 sl' ow1 D tz) : SB K F Kn0 sl ow D (tCut t tz) :=
  sb_cut (h fun _ _ l l2 => sn_mid l l2) k
end

/-! ### targets -/
section
variable {α β τ : Type} [Rp α] [Rp β] [Tp τ] {sl sl' sl2 : List Sl} {K : Fg}
theorem wipe_set : ∀ {vs : List Nat} {i : Nat} {o : Option V} {σ : L2.St}, i ∈ vs → wipe (σ.set i o) vs = wipe σ vs
  | v :: vs, i, o, σ, h => by
    by_cases e : i ∈ vs
    · unfold wipe
      rw [wipe_set e]
    · have hv : i = v := (List.mem_cons.mp h).resolve_right e
      subst hv
      have w : ∀ (vs : List Nat) (σ : L2.St), i ∉ vs → wipe (σ.set i o) vs = (wipe σ vs).set i o := by
        intro vs
        induction vs with
        | nil => intro σ _; rfl
        | cons a r ih =>
          intro σ hn
          show (wipe (σ.set i o) r).set a none = ((wipe σ r).set a none).set i o
          rw [ih σ (fun z => hn (List.mem_cons_of_mem _ z)), List.set_comm]
          exact fun z => hn (by rw [z]; exact List.mem_cons_self)
      show (wipe (σ.set i o) vs).set i none = (wipe σ vs).set i none
      rw [w vs σ e, List.set_set]
def GT (K : Fg) (g : TG) (sl sl' : List Sl) (js : List Nat) (x : α) : Prop := ∀ σ Kn H v, SlsOk K Kn sl σ → Ex Kn H → rep K Kn v x → ∀ Q : L2.St → Hp → Prop, (∀ σ', SlsOk K Kn sl' σ' → (∀ vs, (∀ j ∈ js, j ∈ vs) → wipe σ' vs = wipe σ vs) → Q σ' H) → g v σ H Q
def GTs (K : Fg) (g : TGs) (sl sl' : List Sl) (js : List Nat) (t : τ) : Prop := ∀ σ Kn H vs, SlsOk K Kn sl σ → Ex Kn H → rept K Kn vs t → ∀ Q : L2.St → Hp → Prop, (∀ σ', SlsOk K Kn sl' σ' → (∀ vs, (∀ j ∈ js, j ∈ vs) → wipe σ' vs = wipe σ vs) → Q σ' H) → g vs σ H Q
theorem gt_name {i : Nat} {x : α} (hs : sl.set i (sv x) = sl') : GT K (gName i) sl sl' [i] x := fun σ Kn H v s ek r Q q => q _ (hs ▸ SlsOk.set (s := sv x) ⟨v, rfl, r⟩ i s) fun vs h => wipe_set (h i (by simp))
theorem gts_nil : GTs K gNil sl sl [] () := fun σ Kn H vs s ek r Q q => ⟨r, q σ s fun _ _ => rfl⟩
theorem gts_cons {g : TG} {gs : TGs} {js ks : List Nat} {x : α} {t : τ} (h1 : GT K g sl sl' js x) (h2 : GTs K gs sl' sl2 ks t) : GTs K (gCons g gs) sl sl2 (js ++ ks) (x, t) := fun σ Kn H vs s ek r Q q => by
  obtain ⟨v, rest, rfl, r1, r2⟩ := r
  exact ⟨v, rest, rfl, h1 σ Kn H v s ek r1 _ fun σ1 s1 w1 => h2 σ1 Kn H rest s1 ek r2 _ fun σ2 s2 w2 => q σ2 s2 fun vs h => (w2 vs fun j hj => h j (List.mem_append_right _ hj)).trans (w1 vs fun j hj => h j (List.mem_append_left _ hj))⟩
theorem gt_tup {gs : TGs} {js : List Nat} {n : Nat} {t : α × τ} (h : GTs K gs sl sl' js t) (hn : Tp.n (α × τ) = n := by rfl) : GT K (gTup K n gs) sl sl' js t := fun σ Kn H v s ek r Q q => by
  obtain ⟨p, ws, rfl, h1, h2⟩ := r
  exact ⟨p, ws, rfl, st_of (ek _ _ h1), (Tp.len h2).trans hn, h σ Kn H ws s ek h2 Q q⟩
end
section
variable {K : Fg} {F Kn0 : Hp} {sl sl' : List Sl} {ow ow1 : List Ow} {α : Type} [Rp α] {te : TE} {x : α} {D : Ends} {g : TG} {js : List Nat}
/-- a, b = e -/
theorem sb_unp (h : EV K F Kn0 sl ow te x) (hg : GT K g sl sl' js x) (k : SN K F Kn0 sl' ow D) : SB K F Kn0 sl ow D (tAsg te g) := fun σ Kn H s =>
  h σ Kn H s _ fun v Kn1 H1 g1 r1 => by
    have s1 := s.grow g1
    exact hg σ Kn1 H1 v s1.sl s1.ek r1 _ fun σ' h' _ => k σ' Kn1 H1 ⟨s1.e0, s1.ek, s1.ef, s1.sep, h', s1.ow⟩
theorem sb_unpM (h : EM K F Kn0 sl ow te ow1 x) (hg : GT K g sl sl' js x) (k : SN K F Kn0 sl' ow1 D) : SB K F Kn0 sl ow D (tAsg te g) := fun σ Kn H s =>
  h σ Kn H s _ fun v Kn1 H1 e1 s1 r1 => hg σ Kn1 H1 v s1.sl s1.ek r1 _ fun σ' h' _ => k σ' Kn1 H1 ⟨s1.e0, s1.ek, s1.ef, s1.sep, h', s1.ow⟩
/-- a, b = e1, e2 -/
theorem sb_par {α β : Type} [Rp α] [Rp β] {ta : TA} {i j : Nat} {x : α} {y : β} (hs : (sl.set i (sv x)).set j (sv y) = sl') (h : EA K F Kn0 sl ow ta (x, y, ())) (k : SN K F Kn0 sl' ow D) : SB K F Kn0 sl ow D (tPar i j ta) := fun σ Kn H s =>
  h σ Kn H s _ fun vs Kn1 H1 g1 r1 => by
    obtain ⟨v, w, rfl, h1, h2⟩ := two_args r1
    exact ⟨v, w, rfl, k _ Kn1 H1 (hs ▸ ((s.grow g1).setv i h1).setv j h2)⟩
end

/-! ### what is walked -/
def WK {β : Type} [Rp β] (K : Fg) (Kn1 : Hp) (J : It) (xs : List β) : Prop := ∀ i Kn' H', Ex Kn1 Kn' → Ex Kn' H' →
  (∀ x, xs[i]? = some x → J.go i H' ∧ ∀ v H2, J.yld i H' v H2 → ∃ Kn2, Gr Kn' H' Kn2 H2 ∧ rep K Kn2 v x) ∧ (xs.length ≤ i → J.stop i H')
section
variable (K : Fg) (F Kn0 : Hp) (sl : List Sl) (ow : List Ow)
def IT {β : Type} [Rp β] (wi : TI) (xs : List β) : Prop := ∀ σ Kn H, S K F Kn0 sl ow σ Kn H → ∀ R : It → Hp → Prop, (∀ J Kn1 H1, Gr Kn H Kn1 H1 → WK K Kn1 J xs → R J H1) → wi σ H R
def ITM {β : Type} [Rp β] (wi : TI) (ow' : List Ow) (xs : List β) : Prop := ∀ σ Kn H, S K F Kn0 sl ow σ Kn H → ∀ R : It → Hp → Prop, (∀ J Kn1 H1, Ex Kn Kn1 → S K F Kn0 sl ow' σ Kn1 H1 → WK K Kn1 J xs → R J H1) → wi σ H R
end
/-- lo, lo + 1 .. below hi -/
def irange (lo hi : Int) : List Int := (List.range (hi - lo).toNat).map fun (k : Nat) => lo + (k : Int)
def rngO (lo hi : Int) : Option (List Int) := if -1000000000000 ≤ lo ∧ lo ≤ 1000000000000 ∧ -1000000000000 ≤ hi ∧ hi ≤ 1000000000000 then some (irange lo hi) else none
def enumI {α : Type} (xs : List α) : List (Int × α × Unit) := xs.mapIdx fun i x => ((i : Int), x, ())
def zipI {α β : Type} (xs : List α) (ys : List β) : List (α × β × Unit) := List.zipWith (fun a b => (a, b, ())) xs ys
section
variable {K : Fg} {F Kn0 : Hp} {sl sl' : List Sl} {ow ow1 : List Ow} {α β : Type} [Rp α] [Rp β] {te : TE} {ta : TA}
theorem IT.m {wi : TI} {xs : List β} (h : IT K F Kn0 sl ow wi xs) : ITM K F Kn0 sl ow wi ow xs := fun σ Kn H s R q => h σ Kn H s R fun J Kn1 H1 g w => q J Kn1 H1 g.kk (s.grow g) w
theorem wk_list {Kn1 : Hp} {p : Addr} {ws : List V} {xs : List α} (h : SqL K Kn1 p ws) (r : Paired (rep K Kn1) ws xs) : WK K Kn1 (Itl K p) xs := fun i Kn' H' e1 e2 => by
  have hq : SqL K H' p ws := ex_l (e1.trans e2) h
  refine ⟨fun x hx => ?_, fun hl => ⟨ws, hq, by rw [paired_len r]; exact hl⟩⟩
  obtain ⟨v, hv, rv⟩ := paired_at r hx
  refine ⟨⟨ws, v, hq, hv⟩, fun u H2 hy => ?_⟩
  obtain ⟨rfl, f⟩ := hy
  have : v = u := Option.some.inj (hv.symm.trans (f ws hq))
  subst this
  exact ⟨Kn', Gr.refl e2, Rp.mono e1 rv⟩
theorem it_list {xs : List α} (h : EV K F Kn0 sl ow te xs) : IT K F Kn0 sl ow (iList K te) xs := fun σ Kn H s R q => h σ Kn H s _ fun v Kn1 H1 g1 r1 => by
  obtain ⟨p, ws, rfl, h3, h4⟩ := r1
  exact ⟨p, rfl, ⟨ws, sq_of (g1.kh _ _ h3)⟩, q _ Kn1 H1 g1 (wk_list (sq_of h3) h4)⟩
theorem it_listF {xs : Fz α} (h : EV K F Kn0 sl ow te xs) : IT K F Kn0 sl ow (iList K te) xs.l := fun σ Kn H s R q => h σ Kn H s _ fun v Kn1 H1 g1 r1 => by
  obtain ⟨p, ws, rfl, h3, h4⟩ := r1
  exact ⟨p, rfl, ⟨ws, ex_l g1.kh h3⟩, q _ Kn1 H1 g1 (wk_list h3 h4)⟩
theorem itm_list {xs : List α} (h : ENM K F Kn0 sl ow te ow1 xs) : ITM K F Kn0 sl ow (iList K te) ow1 xs := fun σ Kn H s R q => h σ Kn H s _ fun p ws Kn1 H1 e1 s1 fp kp no hw r1 => by
  have s2 := s1.know (o := .lst ws) fp kp no hw
  exact ⟨p, rfl, ⟨ws, sq_of hw⟩, q _ _ H1 (e1.trans (Ex.new kp)) s2 (wk_list (sq_of upd_same) (paired_mono (Ex.new kp) r1))⟩
theorem it_tup {xs : Tu α} (h : EV K F Kn0 sl ow te xs) : IT K F Kn0 sl ow (iTup K te) xs.l := fun σ Kn H s R q => h σ Kn H s _ fun v Kn1 H1 g1 r1 => by
  obtain ⟨p, ws, rfl, h3, h4⟩ := r1
  refine ⟨p, rfl, ⟨ws, st_of (g1.kh _ _ h3)⟩, q _ Kn1 H1 g1 fun i Kn' H' e1 e2 => ?_⟩
  have hq : SqT K H' p ws := st_of ((e1.trans e2) _ _ h3)
  refine ⟨fun x hx => ?_, fun hl => ⟨ws, hq, by rw [paired_len h4]; exact hl⟩⟩
  obtain ⟨v, hv, rv⟩ := paired_at h4 hx
  refine ⟨⟨ws, v, hq, hv⟩, fun u H2 hy => ?_⟩
  obtain ⟨rfl, f⟩ := hy
  have : v = u := Option.some.inj (hv.symm.trans (f ws hq))
  subst this
  exact ⟨Kn', Gr.refl e2, Rp.mono e1 rv⟩
theorem wk_range {Kn1 : Hp} (lo hi : Int) : WK K Kn1 (Itr lo (hi - lo).toNat) (irange lo hi) := fun i Kn' H' e1 e2 => by
  refine ⟨fun x hx => ?_, fun hl => ?_⟩
  · unfold irange at hx
    rw [List.getElem?_map] at hx
    cases q : (List.range (hi - lo).toNat)[i]? with
    | none => rw [q] at hx; cases hx
    | some m =>
      rw [q] at hx
      obtain ⟨hlt, he⟩ := List.getElem?_eq_some_iff.mp q
      rw [List.getElem_range] at he
      rw [List.length_range] at hlt
      subst he
      cases hx
      refine ⟨hlt, fun v H2 hy => ?_⟩
      obtain ⟨rfl, rfl⟩ := hy
      exact ⟨Kn', Gr.refl e2, rfl⟩
  · unfold irange at hl
    rw [List.length_map, List.length_range] at hl
    exact hl
theorem it_rng1 {n : Int} {xs : List Int} (h : EA K F Kn0 sl ow ta (n, ())) (hx : rngO 0 n = some xs) : IT K F Kn0 sl ow (iRng1 ta) xs := fun σ Kn H s R q => h σ Kn H s _ fun vs Kn1 H1 g1 r1 => by
  obtain ⟨v, rfl, h1⟩ := one_arg r1
  cases h1
  unfold rngO at hx
  split at hx
  · rename_i hb
    cases hx
    refine ⟨n, rfl, by omega, by omega, q _ Kn1 H1 g1 ?_⟩
    have w := wk_range (K := K) (Kn1 := Kn1) 0 n
    rw [Int.sub_zero] at w
    exact w
  · cases hx
theorem itm_rng1 {n : Int} {xs : List Int} (h : EAM K F Kn0 sl ow ta ow1 (n, ())) (hx : rngO 0 n = some xs) : ITM K F Kn0 sl ow (iRng1 ta) ow1 xs := fun σ Kn H s R q => h σ Kn H s _ fun vs Kn1 H1 e1 s1 r1 => by
  obtain ⟨v, rfl, h1⟩ := one_arg r1
  cases h1
  unfold rngO at hx
  split at hx
  · rename_i hb
    cases hx
    refine ⟨n, rfl, by omega, by omega, q _ Kn1 H1 e1 s1 ?_⟩
    have w := wk_range (K := K) (Kn1 := Kn1) 0 n
    rw [Int.sub_zero] at w
    exact w
  · cases hx
theorem it_rng2 {lo n : Int} {xs : List Int} (h : EA K F Kn0 sl ow ta (lo, n, ())) (hx : rngO lo n = some xs) : IT K F Kn0 sl ow (iRng2 ta) xs := fun σ Kn H s R q => h σ Kn H s _ fun vs Kn1 H1 g1 r1 => by
  obtain ⟨v, w, rfl, h1, h2⟩ := two_args r1
  cases h1
  cases h2
  unfold rngO at hx
  split at hx
  · rename_i hb
    cases hx
    exact ⟨lo, n, rfl, ⟨by omega, by omega, by omega, by omega⟩, q _ Kn1 H1 g1 (wk_range lo n)⟩
  · cases hx
theorem enum_get {xs : List α} {i : Nat} {y : Int × α × Unit} (h : (enumI xs)[i]? = some y) : ∃ x, xs[i]? = some x ∧ y = ((i : Int), x, ()) := by
  unfold enumI at h
  rw [List.getElem?_mapIdx] at h
  cases q : xs[i]? with
  | none => rw [q] at h; cases h
  | some x => rw [q] at h; cases h; exact ⟨x, rfl, rfl⟩
theorem wk_enum {Kn1 : Hp} {p : Addr} {ws : List V} {xs : List α} (h : SqL K Kn1 p ws) (r : Paired (rep K Kn1) ws xs) : WK K Kn1 (Ite K p) (enumI xs) := fun i Kn' H' e1 e2 => by
  have hq : SqL K H' p ws := ex_l (e1.trans e2) h
  refine ⟨fun y hy => ?_, fun hl => ⟨ws, hq, by rw [paired_len r]; simpa [enumI] using hl⟩⟩
  obtain ⟨x, hx, rfl⟩ := enum_get hy
  obtain ⟨v, hv, rv⟩ := paired_at r hx
  refine ⟨⟨ws, v, hq, hv⟩, fun u H2 hy => ?_⟩
  obtain ⟨T, z, rfl, hT, rfl, f⟩ := hy
  have : v = z := Option.some.inj (hv.symm.trans (f ws hq))
  subst this
  have g : Gr Kn' H' (upd Kn' T (.tup [.int (i : Nat), v])) (upd H' T (.tup [.int (i : Nat), v])) := Gr.new e2 hT
  exact ⟨_, g, T, _, rfl, upd_same, .int (i : Nat), [v], rfl, rfl, v, [], rfl, Rp.mono (e1.trans g.kk) rv, rfl⟩
theorem it_enum {xs : List α} (h : EA K F Kn0 sl ow ta (xs, ())) : IT K F Kn0 sl ow (iEnum K ta) (enumI xs) := fun σ Kn H s R q => h σ Kn H s _ fun vs Kn1 H1 g1 r1 => by
  obtain ⟨v, rfl, p, ws, rfl, h3, h4⟩ := one_arg r1
  exact ⟨p, ws, rfl, sq_of (g1.kh _ _ h3), q _ Kn1 H1 g1 (wk_enum (sq_of h3) h4)⟩
theorem zip_get {xs : List α} {ys : List β} {i : Nat} {z : α × β × Unit} (h : (zipI xs ys)[i]? = some z) : ∃ x y, xs[i]? = some x ∧ ys[i]? = some y ∧ z = (x, y, ()) := by
  unfold zipI at h
  rw [List.getElem?_zipWith] at h
  cases q : xs[i]? with
  | none => rw [q] at h; simp at h
  | some x =>
    cases q2 : ys[i]? with
    | none => rw [q, q2] at h; simp at h
    | some y =>
      rw [q, q2] at h
      simp at h
      exact ⟨x, y, rfl, rfl, h.symm⟩
theorem it_zip {xs : List α} {ys : List β} (h : EA K F Kn0 sl ow ta (xs, ys, ())) : IT K F Kn0 sl ow (iZip K ta) (zipI xs ys) := fun σ Kn H s R q => h σ Kn H s _ fun vs Kn1 H1 g1 r1 => by
  obtain ⟨v, w, rfl, ⟨p, ws, rfl, h3, h4⟩, ⟨p2, ws2, rfl, h5, h6⟩⟩ := two_args r1
  refine ⟨p, p2, ws, ws2, rfl, sq_of (g1.kh _ _ h3), sq_of (g1.kh _ _ h5), q _ Kn1 H1 g1 fun i Kn' H' e1 e2 => ?_⟩
  have hq : SqL K H' p ws := sq_of ((e1.trans e2) _ _ h3)
  have hq2 : SqL K H' p2 ws2 := sq_of ((e1.trans e2) _ _ h5)
  refine ⟨fun y hy => ?_, fun hl => ⟨ws, ws2, hq, hq2, ?_⟩⟩
  · obtain ⟨x, y, hx, hy2, rfl⟩ := zip_get hy
    obtain ⟨v, hv, rv⟩ := paired_at h4 hx
    obtain ⟨v2, hv2, rv2⟩ := paired_at h6 hy2
    refine ⟨⟨ws, ws2, v, v2, hq, hq2, hv, hv2⟩, fun u H2 hy => ?_⟩
    obtain ⟨T, z, z2, rfl, hT, rfl, f, f2⟩ := hy
    have e3 : v = z := Option.some.inj (hv.symm.trans (f ws hq))
    have e4 : v2 = z2 := Option.some.inj (hv2.symm.trans (f2 ws2 hq2))
    subst e3
    subst e4
    have g : Gr Kn' H' (upd Kn' T (.tup [v, v2])) (upd H' T (.tup [v, v2])) := Gr.new e2 hT
    exact ⟨_, g, T, _, rfl, upd_same, v, [v2], rfl, Rp.mono (e1.trans g.kk) rv, v2, [], rfl, Rp.mono (e1.trans g.kk) rv2, rfl⟩
  · rw [paired_len h4, paired_len h6]
    simp [zipI] at hl
    omega
end

/-! ### loops -/
structure Bs (F Kn0 Kn1 : Hp) : Prop where
  e : Ex Kn0 Kn1
  sp : ∀ p, F p ≠ none → Kn0 p = none → Kn1 p = none
section
variable {K : Fg} {F Kn0 Kn1 : Hp} {sl sl' : List Sl} {ow ow0 ow1 : List Ow} {α β γ : Type} [Rp α] [Rp β] [Rp γ] {D : Ends} {σ : L2.St} {Kn H : Hp}
theorem Bs.refl : Bs F Kn0 Kn0 := ⟨Ex.refl _, fun _ _ h => h⟩
theorem S.bs (s : S K F Kn0 sl ow σ Kn H) : Bs F Kn0 Kn := ⟨s.e0, s.sep⟩
theorem S.rebase (s : S K F Kn0 sl ow σ Kn H) : S K F Kn sl ow σ Kn H := ⟨Ex.refl _, s.ek, s.ef, fun _ _ h => h, s.sl, s.ow⟩
theorem S.unbase (b : Bs F Kn0 Kn1) (s : S K F Kn1 sl ow σ Kn H) : S K F Kn0 sl ow σ Kn H := ⟨b.e.trans s.e0, s.ek, s.ef, fun p h1 h2 => s.sep p h1 (b.sp p h1 h2), s.sl, s.ow⟩
theorem RT.base {R : VK} {x : α} (q : RT K F Kn0 ow R x) (b : Bs F Kn0 Kn1) : RT K F Kn1 ow R x := fun v Kn H s => q v Kn H (s.unbase b)
theorem RN.base {R : VK} {xs : List α} (q : RN K F Kn0 ow R xs) (b : Bs F Kn0 Kn1) : RN K F Kn1 ow R xs := fun p ws Kn H s => q p ws Kn H (s.unbase b)
theorem SN.base (q : SN K F Kn0 sl ow D) (b : Bs F Kn0 Kn1) : SN K F Kn1 sl ow D := fun σ Kn H s => q σ Kn H (s.unbase b)
theorem sb_for {wi : TI} {g : TG} {tb : TS} {Sx : Type} {xs : List β} (slx : Sx → List Sl) (owx : Sx → List Ow) (gx : β → Sx → List Sl) (js : List Nat) (P : List β → Sx → Prop) (s0 : Sx) (hi : ITM K F Kn0 sl ow wi ow1 xs) (h0 : P xs s0) (le : SlLe sl (slx s0)) (eo : (owx s0).Sublist ow1)
    (hg : ∀ x s, GT K g (slx s) (gx x s) js x)
    (step : ∀ Kn1, Bs F Kn0 Kn1 → ∀ x rest s, P (x :: rest) s → ∀ N : L2.St → Hp → Prop, (∀ s', P rest s' → ∀ σ Kn H, S K F Kn1 (slx s') (owx s') σ Kn H → N σ H) → SB K F Kn1 (gx x s) (owx s) { D with nx := N, ct := N, bk := D.nx } tb)
    (done : ∀ s, P [] s → SN K F Kn0 (slx s) (owx s) D) : SB K F Kn0 sl ow D (tFor wi g tb) := fun σ Kn H s =>
  hi σ Kn H s _ fun J Kn1 H1 e1 s1 w => by
    have b : Bs F Kn0 Kn1 := s1.bs
    refine ⟨fun i m σ H => i + m = xs.length ∧ ∃ Kn s, P (xs.drop i) s ∧ S K F Kn1 (slx s) (owx s) σ Kn H, ⟨xs.length, by omega, Kn1, s0, h0, (s1.rebase.le le).sub eo⟩, fun i m σ H hW => ?_⟩
    obtain ⟨em, Kn, s, hP, hS⟩ := hW
    by_cases hlt : i < xs.length
    · have hx : xs[i]? = some xs[i] := List.getElem?_eq_getElem hlt
      have hd : xs.drop i = xs[i] :: xs.drop (i + 1) := List.drop_eq_getElem_cons hlt
      rw [hd] at hP
      obtain ⟨go, yl⟩ := (w i Kn H hS.e0 hS.ek).1 _ hx
      refine .inr ⟨go, fun σ' H' => ∃ Kn s, P (xs.drop (i + 1)) s ∧ S K F Kn1 (slx s) (owx s) σ' Kn H', fun σ' H' ⟨Kn', s', h1, h2⟩ => ⟨m - 1, by omega, by omega, Kn', s', h1, h2⟩, fun v H' hy => ?_⟩
      obtain ⟨Kn2, g2, rv⟩ := yl v H' hy
      have hS2 := hS.grow g2
      refine hg _ s σ Kn2 H' v hS2.sl hS2.ek rv _ fun σ2 h2 _ => ?_
      exact step Kn1 b _ _ s hP _ (fun s' hs' σ Kn H hS' => ⟨Kn, s', hs', hS'⟩) σ2 Kn2 H' ⟨hS2.e0, hS2.ek, hS2.ef, hS2.sep, h2, hS2.ow⟩
    · have hd : xs.drop i = [] := List.drop_eq_nil_of_le (by omega)
      rw [hd] at hP
      exact .inl ⟨(w i Kn H hS.e0 hS.ek).2 (by omega), done s hP σ Kn H (hS.unbase b)⟩
theorem sb_while {tt : TT} {tb : TS} {Sx : Type} (slx : Sx → List Sl) (owx : Sx → List Ow) (P : Nat → Sx → Prop) (n0 : Nat) (s0 : Sx) (h0 : P n0 s0) (le : SlLe sl (slx s0)) (eo : (owx s0).Sublist ow)
    (step : ∀ n s, P n s → ∃ b, ET K F Kn0 (slx s) (owx s) tt b ∧
      (b = true → ∀ N : L2.St → Hp → Prop, (∀ m s', m < n → P m s' → ∀ σ Kn H, S K F Kn0 (slx s') (owx s') σ Kn H → N σ H) → SB K F Kn0 (slx s) (owx s) { D with nx := N, ct := N, bk := D.nx } tb) ∧ (b = false → SN K F Kn0 (slx s) (owx s) D)) :
    SB K F Kn0 sl ow D (tWhile tt tb) := fun σ Kn H s => by
  refine ⟨fun n σ H => ∃ Kn s, P n s ∧ S K F Kn0 (slx s) (owx s) σ Kn H, ⟨n0, Kn, s0, h0, (s.le le).sub eo⟩, fun n σ H hW => ?_⟩
  obtain ⟨Kn, s, hP, hS⟩ := hW
  obtain ⟨b, h1, h2, h3⟩ := step n s hP
  refine h1 σ Kn H hS _ fun Kn1 H1 g1 => ?_
  cases b with
  | true => exact iteT ⟨fun σ H => ∃ m Kn s, m < n ∧ P m s ∧ S K F Kn0 (slx s) (owx s) σ Kn H, fun σ' H' ⟨m, Kn', s', hm, hp, hs⟩ => ⟨m, hm, Kn', s', hp, hs⟩, h2 rfl _ (fun m s' hm hp σ Kn H hs => ⟨m, Kn, s', hm, hp, hs⟩) σ Kn1 H1 (hS.grow g1)⟩
  | false => exact iteF (h3 rfl σ Kn1 H1 (hS.grow g1))
end

/-! ### comprehensions -/
def lcGo {β γ : Type} (c : β → Option Bool) (f : β → Option γ) : List β → Option (List γ)
  | [] => some []
  | x :: xs => (c x).bind fun b => if b = true then (f x).bind fun z => (lcGo c f xs).bind fun zs => some (z :: zs) else lcGo c f xs
def lcM {β γ : Type} (c : β → Option Bool) (f : β → Option γ) (xs : List β) : Option (List γ) := if xs.length < 1000000 then lcGo c f xs else none
def lcSGo {β γ Sx : Type} (f : β → Sx → Option (γ × Sx)) : List β → Sx → Option (List γ × Sx)
  | [], s => some ([], s)
  | x :: xs, s => (f x s).bind fun r => (lcSGo f xs r.2).bind fun q => some (r.1 :: q.1, q.2)
def lcS {β γ Sx : Type} (f : β → Sx → Option (γ × Sx)) (xs : List β) (s : Sx) : Option (List γ × Sx) := if xs.length < 1000000 then lcSGo f xs s else none
section
variable {K : Fg} {F Kn0 : Hp} {sl sl' : List Sl} {ow ow0 ow1 : List Ow} {α β γ : Type} [Rp α] [Rp β] [Rp γ] {σ : L2.St} {Kn H : Hp} {tt : TT} {te : TE} {wi : TI} {g : TG} {vs js : List Nat}
theorem bind_some {α β : Type} {m : Option α} {f : α → Option β} {r : β} (h : m.bind f = some r) : ∃ a, m = some a ∧ f a = some r := by
  cases m with
  | none => cases h
  | some a => exact ⟨a, rfl, h⟩
theorem SlsOk.wipe : ∀ {vs : List Nat} {Kn : Hp} {sl : List Sl} {σ : L2.St}, (∀ j ∈ vs, sl[j]? = some .any) → SlsOk K Kn sl σ → SlsOk K Kn sl (wipe σ vs)
  | [], _, _, _, _, h => h
  | v :: vs, Kn, sl, σ, hv, h => by
    have h1 := SlsOk.wipe (vs := vs) (fun j hj => hv j (List.mem_cons_of_mem _ hj)) h
    have h2 := SlsOk.set (K := K) (H := Kn) (s := .any) (o := none) trivial v h1
    have e : sl.set v .any = sl := by
      refine List.ext_getElem? fun m => ?_
      have hm := hv v List.mem_cons_self
      by_cases q : v = m
      · subst q
        rw [List.getElem?_set_self (List.getElem?_eq_some_iff.mp hm).1, hm]
      · rw [List.getElem?_set_ne q]
    rw [e] at h2
    exact h2
theorem S.wipe (s : S K F Kn0 sl ow σ Kn H) (hv : ∀ j ∈ vs, sl[j]? = some .any) : S K F Kn0 sl ow (wipe σ vs) Kn H := ⟨s.e0, s.ek, s.ef, s.sep, s.sl.wipe hv, s.ow⟩
theorem Gr.mut {Kn' H' : Hp} {p : Addr} {o : HO} (g : Gr Kn H Kn' H') (hp : H p = none) (kp : Kn' p = none) : Gr Kn H Kn' (upd H' p o) :=
  ⟨g.kk, Ex.mut g.hh hp, upd_in g.kh kp, g.sp⟩
theorem S.slots {σ2 : L2.St} (s : S K F Kn0 sl ow σ Kn H) (h : SlsOk K Kn sl' σ2) : S K F Kn0 sl' ow σ2 Kn H := ⟨s.e0, s.ek, s.ef, s.sep, h, s.ow⟩
theorem en_lc {xs : List β} {zs : List γ} {c : β → Option Bool} {f : β → Option γ} (gx : β → List Sl) (hm : lcM c f xs = some zs) (hi : IT K F Kn0 sl ow wi xs) (hv : ∀ j ∈ vs, sl[j]? = some .any) (hg : ∀ x, GT K g sl (gx x) js x) (hj : ∀ j ∈ js, j ∈ vs)
    (ht : ∀ p (acc : List γ) x b, c x = some b → ET K F Kn0 (gx x) (ol p acc :: ow) tt b) (he : ∀ p (acc : List γ) x z, c x = some true → f x = some z → EV K F Kn0 (gx x) (ol p acc :: ow) te z) :
    EN K F Kn0 sl ow (tLc wi g tt te vs) zs := fun σ Kn H s Q q => by
  unfold lcM at hm
  split at hm
  case isFalse => cases hm
  rename_i hlen
  refine hi σ Kn H s _ fun J Kn1 H1 g1 w D hD => ?_
  have s1 := s.grow g1
  have kD : Kn1 D = none := fresh_back s1.ek hD
  have fD : F D = none := fresh_back s1.ef hD
  refine ⟨fun i m H' => i + m = xs.length ∧ ∃ Kn' ws acc rest, Gr Kn1 H1 Kn' H' ∧ Kn' D = none ∧ H' D = some (.lst ws) ∧ Paired (rep K Kn') ws acc ∧ acc.length ≤ i ∧ lcGo c f (xs.drop i) = some rest ∧ acc ++ rest = zs,
    ⟨xs.length, by omega, Kn1, [], [], zs, (Gr.newU g1.kh hD), kD, upd_same, .nil, Nat.le_refl _, hm, rfl⟩, fun i m H' hW => ?_⟩
  obtain ⟨em, Kn', ws, acc, rest, gr, kD', hD', rp, hal, hrest, hz⟩ := hW
  have s' : S K F Kn0 sl (ol D acc :: ow) σ Kn' H' := (s1.grow gr).own fD kD' (owned_ne s1 hD) hD' rp
  by_cases hlt : i < xs.length
  · have hx : xs[i]? = some xs[i] := List.getElem?_eq_getElem hlt
    have hd : xs.drop i = xs[i] :: xs.drop (i + 1) := List.drop_eq_getElem_cons hlt
    rw [hd] at hrest
    obtain ⟨b, hb, hrest⟩ := bind_some hrest
    obtain ⟨go, yl⟩ := (w i Kn' H' gr.kk gr.kh).1 _ hx
    refine .inr ⟨go, fun H'' => ∃ Kn' ws acc rest, Gr Kn1 H1 Kn' H'' ∧ Kn' D = none ∧ H'' D = some (.lst ws) ∧ Paired (rep K Kn') ws acc ∧ acc.length ≤ i + 1 ∧ lcGo c f (xs.drop (i + 1)) = some rest ∧ acc ++ rest = zs, fun H'' h => ⟨m - 1, by omega, by omega, h⟩, fun v H2 hy => ?_⟩
    obtain ⟨Kn2, g2, rv⟩ := yl v H2 hy
    have s2 := (s'.grow g2).wipe hv
    refine hg _ _ Kn2 H2 v s2.sl s2.ek rv _ fun σ3 h3 hw3 => ?_
    have s3 := s2.slots h3
    have hDn : H' D ≠ none := ne_none_of hD'
    refine ⟨(hw3 vs hj).trans ?_, ht D acc _ b hb σ3 Kn2 H2 s3 _ fun Kn3 H3 g3 => ?_⟩
    · have ww : ∀ (vs us : List Nat) (σ : L2.St), (∀ j ∈ vs, j ∈ us) → L2.wipe (L2.wipe σ vs) us = L2.wipe σ us := by
        intro vs
        induction vs with
        | nil => intro us σ _; rfl
        | cons a r ih =>
          intro us σ hh
          show L2.wipe ((L2.wipe σ r).set a none) us = L2.wipe σ us
          rw [wipe_set (hh a List.mem_cons_self)]
          exact ih us σ fun j hj => hh j (List.mem_cons_of_mem _ hj)
      exact ww vs vs σ fun _ h => h
    · have g123 : Gr Kn1 H1 Kn3 H3 := (gr.trans g2).trans g3
      have kD3 : Kn3 D = none := (g2.trans g3).sp D hDn kD'
      have hD3 : H3 D = some (.lst ws) := (g2.trans g3).hh _ _ hD'
      cases b with
      | true =>
        obtain ⟨z, hfz, hrest⟩ := bind_some (show (f xs[i]).bind _ = some rest from hrest)
        obtain ⟨zs', hzs, hrest⟩ := bind_some hrest
        cases hrest
        refine iteT (he D acc _ z hb hfz σ3 Kn3 H3 (s3.grow g3) _ fun y Kn4 H4 g4 ry => ?_)
        have g234 := (g2.trans g3).trans g4
        have kD4 : Kn4 D = none := g4.sp D (ne_none_of hD3) kD3
        refine ⟨ws, g4.hh _ _ hD3, by rw [paired_len rp]; exact lt_line (by omega), Kn4, ws ++ [y], acc ++ [z], zs', (gr.trans g234).mut hD kD4, kD4, upd_same, paired_append (paired_mono g234.kk rp) (.cons ry .nil), ?_, hzs, ?_⟩
        · rw [List.length_append, List.length_singleton]; omega
        · rw [List.append_assoc]; exact hz
      | false =>
        have hrest : lcGo c f (xs.drop (i + 1)) = some rest := hrest
        exact iteF ⟨Kn3, ws, acc, rest, g123, kD3, hD3, paired_mono (g2.trans g3).kk rp, by omega, hrest, hz⟩
  · have hd : xs.drop i = [] := List.drop_eq_nil_of_le (by omega)
    rw [hd] at hrest
    cases hrest
    rw [List.append_nil] at hz
    subst hz
    exact .inl ⟨(w i Kn' H' gr.kk gr.kh).2 (by omega), q D ws Kn' H' (g1.trans gr) (fresh_back g1.hh hD) kD' hD' rp⟩
theorem et_yes : ET K F Kn0 sl ow tYes true := fun σ Kn H s Q q => q Kn H (Gr.refl s.ek)
/-- what changes on the way: owx -/
theorem enm_lc {Sx : Type} {xs : List β} {zs : List γ} {f : β → Sx → Option (γ × Sx)} (owx : Sx → List Ow) (gx : β → List Sl) (s0 s9 : Sx) (hm : lcS f xs s0 = some (zs, s9)) (hi : ITM K F Kn0 sl ow wi (owx s0) xs) (hv : ∀ j ∈ vs, sl[j]? = some .any) (hg : ∀ x, GT K g sl (gx x) js x) (hj : ∀ j ∈ js, j ∈ vs)
    (he : ∀ Kn1, Bs F Kn0 Kn1 → ∀ p (acc : List γ) x s z s', f x s = some (z, s') → EM K F Kn1 (gx x) (ol p acc :: owx s) te (ol p acc :: owx s') z) :
    ENM K F Kn0 sl ow (tLc wi g tYes te vs) (owx s9) zs := fun σ Kn H s Q q => by
  unfold lcS at hm
  split at hm
  case isFalse => cases hm
  rename_i hlen
  refine hi σ Kn H s _ fun J Kn1 H1 e1 s1 w D hD => ?_
  have kD : Kn1 D = none := fresh_back s1.ek hD
  have fD : F D = none := fresh_back s1.ef hD
  have b1 : Bs F Kn0 Kn1 := s1.bs
  refine ⟨fun i m H' => i + m = xs.length ∧ ∃ Kn' st acc rest, S K F Kn1 sl (ol D acc :: owx st) σ Kn' H' ∧ acc.length ≤ i ∧ lcSGo f (xs.drop i) st = some (rest, s9) ∧ acc ++ rest = zs,
    ⟨xs.length, by omega, Kn1, s0, [], zs, ?_, Nat.le_refl _, hm, rfl⟩, fun i m H' hW => ?_⟩
  · have s2 := s1.rebase.grow (Gr.newU (o := .lst []) s1.ek hD)
    exact s2.own fD kD (owned_ne s1 hD) upd_same .nil
  obtain ⟨em, Kn', st, acc, rest, s', hal, hrest, hz⟩ := hW
  obtain ⟨_, kD', ws, hD', rp⟩ := s'.ow.each (ol D acc) List.mem_cons_self
  have hD' : H' D = some (.lst ws) := hD'
  by_cases hlt : i < xs.length
  · have hx : xs[i]? = some xs[i] := List.getElem?_eq_getElem hlt
    have hd : xs.drop i = xs[i] :: xs.drop (i + 1) := List.drop_eq_getElem_cons hlt
    rw [hd] at hrest
    obtain ⟨⟨z, st'⟩, hf, hrest⟩ := bind_some hrest
    obtain ⟨⟨zs', s9'⟩, hzs, hrest⟩ := bind_some hrest
    have h9 := Option.some.inj hrest
    have h91 : z :: zs' = rest := congrArg Prod.fst h9
    have h92 : s9' = s9 := congrArg Prod.snd h9
    rw [h92] at hzs
    subst h91
    obtain ⟨go, yl⟩ := (w i Kn' H' s'.e0 s'.ek).1 _ hx
    refine .inr ⟨go, fun H'' => ∃ Kn' st acc rest, S K F Kn1 sl (ol D acc :: owx st) σ Kn' H'' ∧ acc.length ≤ i + 1 ∧ lcSGo f (xs.drop (i + 1)) st = some (rest, s9) ∧ acc ++ rest = zs, fun H'' h => ⟨m - 1, by omega, by omega, h⟩, fun v H2 hy => ?_⟩
    obtain ⟨Kn2, g2, rv⟩ := yl v H2 hy
    have s2 := (s'.grow g2).wipe hv
    refine hg _ _ Kn2 H2 v s2.sl s2.ek rv _ fun σ3 h3 hw3 => ?_
    have s3 := s2.slots h3
    refine ⟨(hw3 vs hj).trans ?_, ?_⟩
    · have ww : ∀ (vs us : List Nat) (σ : L2.St), (∀ j ∈ vs, j ∈ us) → L2.wipe (L2.wipe σ vs) us = L2.wipe σ us := by
        intro vs
        induction vs with
        | nil => intro us σ _; rfl
        | cons a r ih =>
          intro us σ hh
          show L2.wipe ((L2.wipe σ r).set a none) us = L2.wipe σ us
          rw [wipe_set (hh a List.mem_cons_self)]
          exact ih us σ fun j hj => hh j (List.mem_cons_of_mem _ hj)
      exact ww vs vs σ fun _ h => h
    · unfold tYes
      refine iteT ?_
      refine he Kn1 b1 D acc _ st z st' hf σ3 Kn2 H2 s3 _ fun y Kn4 H4 e4 s4 ry => ?_
      obtain ⟨_, kD4, ws4, hD4, rp4⟩ := s4.ow.each (ol D acc) List.mem_cons_self
      have kD4 : Kn4 D = none := kD4
      have s5 : S K F Kn1 (gx xs[i]) (ol D (acc ++ [z]) :: owx st') σ3 Kn4 (upd H4 D (.lst (ws4 ++ [y]))) := s4.write (j := 0) (xs' := acc ++ [z]) rfl (Ex.refl _) (upd_in s4.ek kD4) (fun q hq _ => upd_ne hq) (fun _ _ h => h) upd_same (paired_append rp4 (.cons ry .nil))
      have hsl : SlsOk K Kn4 sl σ := s'.sl.mono (g2.kk.trans e4)
      refine ⟨ws4, hD4, by rw [paired_len rp4]; exact lt_line (by omega), Kn4, st', acc ++ [z], zs', s5.slots hsl, ?_, hzs, ?_⟩
      · rw [List.length_append, List.length_singleton]; omega
      · rw [List.append_assoc]; exact hz
  · have hd : xs.drop i = [] := List.drop_eq_nil_of_le (by omega)
    rw [hd] at hrest
    have h9 := Option.some.inj hrest
    have h91 : [] = rest := congrArg Prod.fst h9
    have h92 : st = s9 := congrArg Prod.snd h9
    subst h91
    subst h92
    rw [List.append_nil] at hz
    subst hz
    have no : ∀ o ∈ owx st, o.ad ≠ D := fun o ho z => (List.nodup_cons.mp s'.ow.nd).1 (List.mem_map.mpr ⟨o, ho, z⟩)
    exact .inl ⟨(w i Kn' H' s'.e0 s'.ek).2 (by omega), q D ws Kn' H' (e1.trans s'.e0) ((s'.unbase b1).sub (List.sublist_cons_self _ _)) fD kD' no hD' rp⟩
end
end Wk
/-! Wk4: loops as functions, == of data, kinds, lists of one's own that are read -/
namespace Wk
open PySem PySem.Spec L2 Evl

/-! ### the mirrors' words -/
inductive Ctl (Sx R : Type) where
  | nx (s : Sx)
  | bk (s : Sx)
  | rt (r : R)
def forS {β Sx : Type} (f : β → Sx → Option Sx) : List β → Sx → Option Sx
  | [], s => some s
  | x :: xs, s => (f x s).bind (forS f xs)
def forC {β Sx R : Type} (f : β → Sx → Option (Ctl Sx R)) : List β → Sx → Option (Ctl Sx R)
  | [], s => some (.nx s)
  | x :: xs, s => (f x s).bind fun c => match c with
    | .nx s' => forC f xs s'
    | .bk s' => some (.nx s')
    | .rt r => some (.rt r)
def whileS {Sx : Type} (c : Sx → Option Bool) (f : Sx → Option Sx) : Nat → Sx → Option Sx
  | 0, _ => none
  | n + 1, s => (c s).bind fun b => if b = true then (f s).bind (whileS c f n) else some s
def whileC {Sx R : Type} (c : Sx → Option Bool) (f : Sx → Option (Ctl Sx R)) : Nat → Sx → Option (Ctl Sx R)
  | 0, _ => none
  | n + 1, s => (c s).bind fun b => if b = true then (f s).bind fun c' => match c' with
    | .nx s' => whileC c f n s'
    | .bk s' => some (.nx s')
    | .rt r => some (.rt r) else some (.nx s)
theorem whileS_more {Sx : Type} {c : Sx → Option Bool} {f : Sx → Option Sx} : ∀ {n m : Nat} {s r : Sx}, whileS c f n s = some r → n ≤ m → whileS c f m s = some r
  | 0, _, _, _, h, _ => by cases h
  | n + 1, 0, _, _, _, h => absurd h (Nat.not_succ_le_zero _)
  | n + 1, m + 1, s, r, h, hm => by
    unfold whileS at h ⊢
    cases e : c s with
    | none => rw [e] at h; cases h
    | some b =>
      rw [e] at h
      cases b with
      | false => exact h
      | true =>
        have h : ((f s).bind (whileS c f n)) = some r := h
        show ((f s).bind (whileS c f m)) = some r
        cases e2 : f s with
        | none => rw [e2] at h; cases h
        | some s' =>
          rw [e2] at h
          exact whileS_more (show whileS c f n s' = some r from h) (Nat.le_of_succ_le_succ hm)
theorem whileC_more {Sx R : Type} {c : Sx → Option Bool} {f : Sx → Option (Ctl Sx R)} : ∀ {n m : Nat} {s : Sx} {r : Ctl Sx R}, whileC c f n s = some r → n ≤ m → whileC c f m s = some r
  | 0, _, _, _, h, _ => by cases h
  | n + 1, 0, _, _, _, h => absurd h (Nat.not_succ_le_zero _)
  | n + 1, m + 1, s, r, h, hm => by
    unfold whileC at h ⊢
    cases e : c s with
    | none => rw [e] at h; cases h
    | some b =>
      rw [e] at h
      cases b with
      | false => exact h
      | true =>
        have h : ((f s).bind _) = some r := h
        show ((f s).bind _) = some r
        cases e2 : f s with
        | none => rw [e2] at h; cases h
        | some k =>
          rw [e2] at h
          cases k with
          | nx s' => exact whileC_more (show whileC c f n s' = some r from h) (Nat.le_of_succ_le_succ hm)
          | bk _ => exact h
          | rt _ => exact h
/-- a while, for as many turns as it takes -/
noncomputable def whileF {Sx : Type} (c : Sx → Option Bool) (f : Sx → Option Sx) (s : Sx) : Option Sx := by
  classical exact if h : ∃ n r, whileS c f n s = some r then some h.choose_spec.choose else none
theorem whileF_some {Sx : Type} {c : Sx → Option Bool} {f : Sx → Option Sx} {s r : Sx} (h : whileF c f s = some r) : ∃ n, whileS c f n s = some r := by
  unfold whileF at h
  split at h
  · rename_i he
    refine ⟨he.choose, ?_⟩
    rw [← Option.some.inj h]
    exact he.choose_spec.choose_spec
  · cases h
theorem whileF_of {Sx : Type} {c : Sx → Option Bool} {f : Sx → Option Sx} {n : Nat} {s r : Sx} (h : whileS c f n s = some r) : whileF c f s = some r := by
  have he : ∃ n r, whileS c f n s = some r := ⟨n, r, h⟩
  unfold whileF
  rw [dif_pos he]
  have h2 := he.choose_spec.choose_spec
  have a := whileS_more h (Nat.le_max_left n he.choose)
  have b := whileS_more h2 (Nat.le_max_right n he.choose)
  exact b.symm.trans a
noncomputable def whileCF {Sx R : Type} (c : Sx → Option Bool) (f : Sx → Option (Ctl Sx R)) (s : Sx) : Option (Ctl Sx R) := by
  classical exact if h : ∃ n r, whileC c f n s = some r then some h.choose_spec.choose else none
theorem whileCF_some {Sx R : Type} {c : Sx → Option Bool} {f : Sx → Option (Ctl Sx R)} {s : Sx} {r : Ctl Sx R} (h : whileCF c f s = some r) : ∃ n, whileC c f n s = some r := by
  unfold whileCF at h
  split at h
  · rename_i he
    refine ⟨he.choose, ?_⟩
    rw [← Option.some.inj h]
    exact he.choose_spec.choose_spec
  · cases h
theorem whileCF_of {Sx R : Type} {c : Sx → Option Bool} {f : Sx → Option (Ctl Sx R)} {n : Nat} {s : Sx} {r : Ctl Sx R} (h : whileC c f n s = some r) : whileCF c f s = some r := by
  have he : ∃ n r, whileC c f n s = some r := ⟨n, r, h⟩
  unfold whileCF
  rw [dif_pos he]
  have h2 := he.choose_spec.choose_spec
  have a := whileC_more h (Nat.le_max_left n he.choose)
  have b := whileC_more h2 (Nat.le_max_right n he.choose)
  exact b.symm.trans a
def appO {α : Type} (xs : List α) (x : α) : Option (List α) := if xs.length < 1000000 then some (xs ++ [x]) else none
def modO (i j : Int) : Option Int := if 0 < j then some (i % j) else none
def divO (i j : Int) : Option Int := if 0 < j ∧ j < 18446744073709551616 then some (i / j) else none
def mulO (i j : Int) : Option Int := if -18446744073709551616 < i ∧ i < 18446744073709551616 then some (i * j) else none
def catO {α : Type} (xs ys : List α) : Option (List α) := if xs.length + ys.length ≤ 1000000 then some (xs ++ ys) else none
theorem appO_some {α : Type} {xs ys : List α} {x : α} (h : appO xs x = some ys) : xs.length < 1000000 ∧ ys = xs ++ [x] := by
  unfold appO at h
  split at h
  · exact ⟨by assumption, (Option.some.inj h).symm⟩
  · cases h
theorem appO_ok {α : Type} {xs : List α} {x : α} (h : xs.length < 1000000) : appO xs x = some (xs ++ [x]) := if_pos h
theorem modO_ok {i j : Int} (h : 0 < j) : modO i j = some (i % j) := if_pos h
theorem divO_ok {i j : Int} (h : 0 < j) (h2 : j < 18446744073709551616) : divO i j = some (i / j) := if_pos ⟨h, h2⟩
theorem mulO_ok {i j : Int} (h : -18446744073709551616 < i) (h2 : i < 18446744073709551616) : mulO i j = some (i * j) := if_pos ⟨h, h2⟩
theorem catO_ok {α : Type} {xs ys : List α} (h : xs.length + ys.length ≤ 1000000) : catO xs ys = some (xs ++ ys) := if_pos h

section
variable {K : Fg} {F Kn0 : Hp} {sl sl' : List Sl} {ow ow0 ow1 ow2 : List Ow} {α β γ τ : Type} [Rp α] [Rp β] [Rp γ] [Tp τ] {ta tb te : TE} {x : α} {D : Ends} {t u tz : TS} {tt : TT} {b : Bool} {i j : Nat} {p : Addr}
theorem SB.sn (h : SB K F Kn0 sl ow D tz) : SN K F Kn0 sl ow { D with nx := tz D } := h
theorem r2_modO {i j z : Int} (h : modO i j = some z) : R2V K (rI (fun _ j => 0 < j) fun i j => .int (i % j)) i j z := by
  unfold modO at h
  split at h
  · cases h
    exact r2_I (by assumption)
  · cases h
theorem r2_divO {i j z : Int} (h : divO i j = some z) : R2V K (rI CDivW fun i j => .int (i / j)) i j z := by
  unfold divO at h
  split at h
  · rename_i hb
    cases h
    exact r2_I (wide_div (b := 64) hb.1 (by omega) (by decide) (by decide))
  · cases h
theorem r2_mulO {i j z : Int} (h : mulO i j = some z) : R2V K (rI CMul fun i j => .int (i * j)) i j z := by
  unfold mulO at h
  split at h
  · rename_i hb
    cases h
    exact r2_I (.inl ⟨by omega, by omega⟩)
  · cases h
theorem r2_catO {xs ys zs : List α} (h : catO xs ys = some zs) : R2L K rCat xs ys zs := by
  unfold catO at h
  split at h
  · cases h
    exact r2_cat (by assumption)
  · cases h
theorem sb_appO {xs xs' : List α} (hi : sl[i]? = some (.at p)) (hj : ow[j]? = some (ol p xs)) (h : EV K F Kn0 sl ow te x) (hx : appO xs x = some xs') (ho : ow.set j (ol p xs') = ow1) (k : SN K F Kn0 sl ow1 D) :
    SB K F Kn0 sl ow D (tDrop (tBM K "list" rAppend (tVar i) (tCons te tNil))) := by
  obtain ⟨h1, rfl⟩ := appO_some hx
  subst ho
  exact sb_app hi hj h h1 k
theorem sb_appOM {xs xs' : List α} (hi : sl[i]? = some (.at p)) (hi0 : ow[j]? = some (ol p xs)) (h : EM K F Kn0 sl ow te ow1 x) (hj : ow1[j]? = some (ol p xs)) (hx : appO xs x = some xs') (ho : ow1.set j (ol p xs') = ow2) (k : SN K F Kn0 sl ow2 D) :
    SB K F Kn0 sl ow D (tDrop (tBM K "list" rAppend (tVar i) (tCons te tNil))) := by
  obtain ⟨h1, rfl⟩ := appO_some hx
  subst ho
  exact sb_appM hi hi0 h hj h1 k
theorem sb_setO {xs xs' : List α} {n : Int} (hi : sl[i]? = some (.at p)) (hj : ow[j]? = some (ol p xs)) (h : EV K F Kn0 sl ow te x) (hn : EV K F Kn0 sl ow tb n) (hx : setI xs n x = some xs') (ho : ow.set j (ol p xs') = ow1) (k : SN K F Kn0 sl ow1 D) :
    SB K F Kn0 sl ow D (tAsg te (gSub (tVar i) tb rSetL)) := by
  subst ho
  exact sb_setI hi hj h hn hx k

/-! ### lists of one's own, read -/
theorem S.borrow {σ : L2.St} {Kn H : Hp} {xs : List α} (s : S K F Kn0 sl ow σ Kn H) (hi : sl[i]? = some (.at p)) (hj : ow[j]? = some (ol p xs)) : ∃ ws, Kn p = none ∧ H p = some (.lst ws) ∧ S K F Kn0 (sl.set i (sv xs)) (ow.eraseIdx j) σ (upd Kn p (.lst ws)) H := by
  obtain ⟨o, h1, h2⟩ := s.sl.get hi
  have h2 : o = some (.ref p) := h2
  obtain ⟨f1, f2, ws, f3, f4⟩ := s.ow.each _ (List.mem_of_getElem? hj)
  have s1 := s.sub (List.eraseIdx_sublist ow j)
  have no : ∀ o ∈ ow.eraseIdx j, o.ad ≠ p := fun o hm z => by
    obtain ⟨m, hm'⟩ := List.getElem?_of_mem hm
    rw [List.getElem?_eraseIdx] at hm'
    split at hm'
    · have := ow_at s.ow.nd hm' hj z
      omega
    · have := ow_at s.ow.nd hm' hj z
      omega
  have s2 := s1.know (o := .lst ws) f1 f2 no f3
  have hσ : σ.set i o = σ := by
    refine List.ext_getElem? fun m => ?_
    by_cases e : i = m
    · subst e
      rw [List.getElem?_set_self (List.getElem?_eq_some_iff.mp h1).1, h1]
    · rw [List.getElem?_set_ne e]
  have s3 := s2.set (x := sv xs) (o := o) i ⟨.ref p, h2, p, ws, rfl, upd_same, paired_mono (Ex.new f2) f4⟩
  rw [hσ] at s3
  exact ⟨ws, f2, f3, s3⟩
theorem ev_bor {γ : Type} [Rp γ] [Fl γ] {z : γ} {xs : List α} (hi : sl[i]? = some (.at p)) (hj : ow[j]? = some (ol p xs)) (hs : sl.set i (sv xs) = sl') (ho : ow.eraseIdx j = ow1) (h : EV K F Kn0 sl' ow1 te z) : EV K F Kn0 sl ow te z := fun σ Kn H s Q q => by
  obtain ⟨ws, kp, hp, s1⟩ := s.borrow hi hj
  subst hs
  subst ho
  exact h σ _ H s1 Q fun v Kn' H' g r => q v Kn H' ⟨Ex.refl _, g.hh, s.ek.trans g.hh, fun _ _ h => h⟩ (Fl.iff.mpr (Fl.iff.mp r))
theorem et_bor {xs : List α} (hi : sl[i]? = some (.at p)) (hj : ow[j]? = some (ol p xs)) (hs : sl.set i (sv xs) = sl') (ho : ow.eraseIdx j = ow1) (h : ET K F Kn0 sl' ow1 tt b) : ET K F Kn0 sl ow tt b := fun σ Kn H s Q q => by
  obtain ⟨ws, kp, hp, s1⟩ := s.borrow hi hj
  subst hs
  subst ho
  exact h σ _ H s1 Q fun Kn' H' g => q Kn H' ⟨Ex.refl _, g.hh, s.ek.trans g.hh, fun _ _ h => h⟩
theorem ev_ixO {xs : List α} {n : Int} {z : α} (hi : sl[i]? = some (.at p)) (hj : ow[j]? = some (ol p xs)) (hn : EV K F Kn0 sl ow tb n) (hz : atI xs n = some z) : EV K F Kn0 sl ow (tOp (rIxL K) (tVar i) tb) z := fun σ Kn H s Q q => by
  obtain ⟨o, h1, h2⟩ := s.sl.get hi
  obtain ⟨f1, f2, ws, f3, f4⟩ := s.ow.each _ (List.mem_of_getElem? hj)
  refine ⟨.ref p, by rw [h1]; exact congrArg some h2, hn σ Kn H s _ fun v Kn1 H1 g1 r1 => ?_⟩
  cases r1
  obtain ⟨u, e, r⟩ := paired_atI f4 hz
  exact ⟨p, ws, n, u, rfl, rfl, sq_of (g1.hh _ _ f3), e, q u Kn1 H1 g1 (Rp.mono g1.kk r)⟩
theorem en_slO {xs : List α} {tl th : TO} {lo hi : Option Int} (hx : sl[i]? = some (.at p)) (hj : ow[j]? = some (ol p xs)) (hl : EO K F Kn0 sl ow tl lo) (hh : EO K F Kn0 sl ow th hi) : EN K F Kn0 sl ow (tSl (rSlL K) (tVar i) tl th) (cut xs lo hi) := fun σ Kn H s Q q => by
  obtain ⟨o, h1, h2⟩ := s.sl.get hx
  obtain ⟨f1, f2, ws, f3, f4⟩ := s.ow.each _ (List.mem_of_getElem? hj)
  refine ⟨.ref p, by rw [h1]; exact congrArg some h2, hl σ Kn H s _ fun Kn2 H2 g2 => hh σ Kn2 H2 (s.grow g2) _ fun Kn3 H3 g3 => ?_⟩
  have g := g2.trans g3
  exact ⟨p, ws, rfl, sq_of (g.hh _ _ f3), fun l hl => q l _ Kn3 _ (g.trans (Gr.newU g3.kh hl)) (fresh_back g.hh hl) (fresh_back g3.kh hl) upd_same (paired_cut (paired_mono g.kk f4) lo hi)⟩
end

/-! ### == -/
class Pd (α : Type) [Rp α] where
  toD : α → PyData
  dp : Nat
  isD : ∀ {K : Fg} {H : Hp} {v : V} {a : α}, rep K H v a → Dp K H v (toD a)
  dep : ∀ a, (toD a).depth ≤ dp
  eqd : ∀ a b : α, PyData.eqv (toD a) (toD b) = true ↔ a = b
class Pq (τ : Type) [Tp τ] where
  toDs : τ → List PyData
  dp : Nat
  isD : ∀ {K : Fg} {H : Hp} {vs : List V} {a : τ}, rept K H vs a → DpAll K H vs (toDs a)
  dep : ∀ a, PyData.depthAll (toDs a) ≤ dp
  eqd : ∀ a b : τ, PyData.eqvAll (toDs a) (toDs b) = true ↔ a = b
def okD {α : Type} [Rp α] [Pd α] (a : α) : Bool := (Pd.toD a).canLay0
instance : Pd Int := { toD := .int, dp := 0, isD := fun h => by cases h; exact .int _, dep := fun a => Nat.le_refl _, eqd := fun a b => by simp [PyData.eqv] }
instance : Pd Bool := { toD := .bool, dp := 0, isD := fun h => by cases h; exact .bl _, dep := fun a => Nat.le_refl _, eqd := fun a b => by simp [PyData.eqv] }
instance : Pd Str := { toD := .str, dp := 0, isD := fun h => by cases h; exact .str _, dep := fun a => Nat.le_refl _, eqd := fun a b => by simp [PyData.eqv] }
theorem eqvAll_map {α : Type} [Rp α] [Pd α] : ∀ (xs ys : List α), PyData.eqvAll (xs.map Pd.toD) (ys.map Pd.toD) = true ↔ xs = ys
  | [], [] => by simp [PyData.eqvAll]
  | [], y :: ys => by simp [PyData.eqvAll]
  | x :: xs, [] => by simp [PyData.eqvAll]
  | x :: xs, y :: ys => by
    simp only [List.map_cons, PyData.eqvAll, Bool.and_eq_true, Pd.eqd, eqvAll_map xs ys, List.cons.injEq]
theorem depthAll_map {α : Type} [Rp α] [Pd α] : ∀ (xs : List α), PyData.depthAll (xs.map Pd.toD) ≤ Pd.dp α
  | [] => Nat.zero_le _
  | x :: xs => by
    simp only [List.map_cons, PyData.depthAll]
    exact Nat.max_le.mpr ⟨Pd.dep x, depthAll_map xs⟩
theorem dpAll_of {α : Type} [Rp α] [Pd α] {K : Fg} {H : Hp} : ∀ {vs : List V} {xs : List α}, Paired (rep K H) vs xs → DpAll K H vs (xs.map Pd.toD)
  | _, _, .nil => .nil
  | _, _, .cons r t => .cons (Pd.isD r) (dpAll_of t)
instance {α : Type} [Rp α] [Pd α] : Pd (List α) where
  toD xs := .list (xs.map Pd.toD)
  dp := Pd.dp α + 1
  isD h := by
    obtain ⟨p, vs, rfl, h1, h2⟩ := h
    exact .lst (sq_of h1) (dpAll_of h2)
  dep a := by
    simp only [PyData.depth]
    exact Nat.succ_le_succ (depthAll_map a)
  eqd a b := by
    simp only [PyData.eqv]
    exact eqvAll_map a b
instance {α : Type} [Rp α] [Pd α] : Pd (Tu α) where
  toD xs := .tuple (xs.l.map Pd.toD)
  dp := Pd.dp α + 1
  isD h := by
    obtain ⟨p, vs, rfl, h1, h2⟩ := h
    exact .tup (st_of h1) (dpAll_of h2)
  dep a := by
    simp only [PyData.depth]
    exact Nat.succ_le_succ (depthAll_map a.l)
  eqd a b := by
    simp only [PyData.eqv]
    rw [eqvAll_map]
    cases a
    cases b
    simp
instance : Pq Unit where
  toDs _ := []
  dp := 0
  isD h := by cases h; exact .nil
  dep _ := Nat.le_refl _
  eqd _ _ := by simp [PyData.eqvAll]
instance {α τ : Type} [Rp α] [Tp τ] [Pd α] [Pq τ] : Pq (α × τ) where
  toDs t := Pd.toD t.1 :: Pq.toDs t.2
  dp := max (Pd.dp α) (Pq.dp τ)
  isD h := by
    obtain ⟨v, r, rfl, h1, h2⟩ := h
    exact .cons (Pd.isD h1) (Pq.isD h2)
  dep a := by
    simp only [PyData.depthAll]
    exact Nat.max_le.mpr ⟨Nat.le_trans (Pd.dep _) (Nat.le_max_left _ _), Nat.le_trans (Pq.dep _) (Nat.le_max_right _ _)⟩
  eqd a b := by
    simp only [PyData.eqvAll, Bool.and_eq_true, Pd.eqd, Pq.eqd]
    constructor
    · rintro ⟨h1, h2⟩
      exact Prod.ext h1 h2
    · rintro rfl
      exact ⟨rfl, rfl⟩
instance {α τ : Type} [Rp α] [Tp τ] [Pd α] [Pq τ] : Pd (α × τ) where
  toD t := .tuple (Pq.toDs t)
  dp := Pq.dp (α × τ) + 1
  isD h := by
    obtain ⟨p, vs, rfl, h1, h2⟩ := h
    exact .tup (st_of h1) (Pq.isD h2)
  dep a := by
    simp only [PyData.depth]
    exact Nat.succ_le_succ (Pq.dep a)
  eqd a b := by
    simp only [PyData.eqv]
    exact Pq.eqd a b
/-- the same kind on both sides -/
def eqO {α : Type} [Rp α] [Pd α] [DecidableEq α] (a b : α) : Option Bool := if (okD a && okD b && decide (Pd.dp α ≤ 64)) = true then some (decide (a = b)) else none
def neO {α : Type} [Rp α] [Pd α] [DecidableEq α] (a b : α) : Option Bool := if (okD a && okD b && decide (Pd.dp α ≤ 64)) = true then some (!decide (a = b)) else none
section
variable {K : Fg} {α : Type} [Rp α] [Pd α] [DecidableEq α]
theorem shaped_of {a : α} (h : okD a = true) (h2 : Pd.dp α ≤ 64) : SeqAt.shaped (Pd.toD a) = true := by
  unfold SeqAt.shaped
  rw [Bool.and_eq_true]
  exact ⟨h, decide_eq_true (Nat.le_trans (Pd.dep a) h2)⟩
theorem eqv_dec (a b : α) : PyData.eqv (Pd.toD a) (Pd.toD b) = decide (a = b) := by
  by_cases h : a = b
  · rw [decide_eq_true h]
    exact (Pd.eqd a b).mpr h
  · rw [decide_eq_false h]
    cases e : PyData.eqv (Pd.toD a) (Pd.toD b) with
    | false => rfl
    | true => exact absurd ((Pd.eqd a b).mp e) h
theorem dp_mono {H H' : Hp} (e : Ex H H') : ∀ {v : V} {d : PyData}, Dp K H v d → Dp K H' v d := fun h =>
  Dp.rec (motive_1 := fun v d _ => Dp K H' v d) (motive_2 := fun vs ds _ => DpAll K H' vs ds) .non .bl .int .str (fun s _ ih => .lst (ex_l e s) ih) (fun s _ ih => .tup (ex_t e s) ih) .nil (fun _ _ h1 h2 => .cons h1 h2) h
theorem r2_eqO {a b : α} {c : Bool} (h : eqO a b = some c) : R2V K (rEqD K) a b c := fun Kn H v w ek h1 h2 Q q => by
  unfold eqO at h
  split at h
  · rename_i hb
    rw [Bool.and_eq_true, Bool.and_eq_true] at hb
    cases h
    refine ⟨Pd.toD a, Pd.toD b, dp_mono ek (Pd.isD h1), dp_mono ek (Pd.isD h2), shaped_of hb.1.1 (of_decide_eq_true hb.2), shaped_of hb.1.2 (of_decide_eq_true hb.2), ?_⟩
    rw [eqv_dec]
    exact q.fl ek
  · cases h
theorem r2_neO {a b : α} {c : Bool} (h : neO a b = some c) : R2V K (rNeD K) a b c := fun Kn H v w ek h1 h2 Q q => by
  unfold neO at h
  split at h
  · rename_i hb
    rw [Bool.and_eq_true, Bool.and_eq_true] at hb
    cases h
    refine ⟨Pd.toD a, Pd.toD b, dp_mono ek (Pd.isD h1), dp_mono ek (Pd.isD h2), shaped_of hb.1.1 (of_decide_eq_true hb.2), shaped_of hb.1.2 (of_decide_eq_true hb.2), ?_⟩
    rw [eqv_dec]
    exact q.fl ek
  · cases h
/-- data without texts: always -/
class Pt (α : Type) [Rp α] [Pd α] : Prop where
  ok : ∀ a : α, okD a = true
class Pu (τ : Type) [Tp τ] [Pq τ] : Prop where
  ok : ∀ a : τ, PyData.canLayAll0 (Pq.toDs a) = true
instance : Pt Int := ⟨fun _ => rfl⟩
instance : Pt Bool := ⟨fun _ => rfl⟩
theorem canLayAll_map {α : Type} [Rp α] [Pd α] : ∀ (xs : List α), (∀ x ∈ xs, okD x = true) → PyData.canLayAll0 (xs.map Pd.toD) = true
  | [], _ => by simp [PyData.canLayAll0]
  | x :: xs, h => by
    simp only [List.map_cons, PyData.canLayAll0, Bool.and_eq_true]
    exact ⟨h x List.mem_cons_self, canLayAll_map xs fun y hy => h y (List.mem_cons_of_mem _ hy)⟩
theorem okD_list {α : Type} [Rp α] [Pd α] {xs : List α} (h : ∀ x ∈ xs, okD x = true) : okD xs = true := by
  show PyData.canLay0 (.list _) = true
  simp only [PyData.canLay0]
  exact canLayAll_map xs h
theorem okD_tu {α : Type} [Rp α] [Pd α] {xs : Tu α} (h : ∀ x ∈ xs.l, okD x = true) : okD xs = true := by
  show PyData.canLay0 (.tuple _) = true
  simp only [PyData.canLay0]
  exact canLayAll_map xs.l h
theorem okD_pair {α τ : Type} [Rp α] [Tp τ] [Pd α] [Pq τ] {t : α × τ} (h : okD t.1 = true) (h2 : PyData.canLayAll0 (Pq.toDs t.2) = true) : okD t = true := by
  show PyData.canLay0 (.tuple (Pd.toD t.1 :: Pq.toDs t.2)) = true
  simp only [PyData.canLay0, PyData.canLayAll0, Bool.and_eq_true]
  exact ⟨h, h2⟩
theorem okDs_cons {α τ : Type} [Rp α] [Tp τ] [Pd α] [Pq τ] {t : α × τ} (h : okD t.1 = true) (h2 : PyData.canLayAll0 (Pq.toDs t.2) = true) : PyData.canLayAll0 (Pq.toDs t) = true := by
  show PyData.canLayAll0 (Pd.toD t.1 :: Pq.toDs t.2) = true
  simp only [PyData.canLayAll0, Bool.and_eq_true]
  exact ⟨h, h2⟩
instance {α : Type} [Rp α] [Pd α] [Pt α] : Pt (List α) := ⟨fun _ => okD_list fun x _ => Pt.ok x⟩
instance {α : Type} [Rp α] [Pd α] [Pt α] : Pt (Tu α) := ⟨fun _ => okD_tu fun x _ => Pt.ok x⟩
instance : Pu Unit := ⟨fun _ => rfl⟩
instance {α τ : Type} [Rp α] [Tp τ] [Pd α] [Pq τ] [Pt α] [Pu τ] : Pu (α × τ) := ⟨fun _ => okDs_cons (Pt.ok _) (Pu.ok _)⟩
instance {α τ : Type} [Rp α] [Tp τ] [Pd α] [Pq τ] [Pt α] [Pu τ] : Pt (α × τ) := ⟨fun _ => okD_pair (Pt.ok _) (Pu.ok _)⟩
theorem r2_eqT [Pt α] {a b : α} (hd : Pd.dp α ≤ 64 := by decide) : R2V K (rEqD K) a b (decide (a = b)) := r2_eqO (by
  unfold eqO
  rw [Pt.ok a, Pt.ok b, decide_eq_true hd]
  rfl)
theorem r2_neT [Pt α] {a b : α} (hd : Pd.dp α ≤ 64 := by decide) : R2V K (rNeD K) a b (!decide (a = b)) := r2_neO (by
  unfold neO
  rw [Pt.ok a, Pt.ok b, decide_eq_true hd]
  rfl)
theorem eqO_ok {a b : α} (h1 : okD a = true) (h2 : okD b = true) (hd : Pd.dp α ≤ 64 := by decide) : eqO a b = some (decide (a = b)) := by
  unfold eqO
  rw [h1, h2, decide_eq_true hd]
  rfl
theorem neO_ok {a b : α} (h1 : okD a = true) (h2 : okD b = true) (hd : Pd.dp α ≤ 64 := by decide) : neO a b = some (!decide (a = b)) := by
  unfold neO
  rw [h1, h2, decide_eq_true hd]
  rfl
end

/-! ### isinstance -/
structure TyN where
  n : String
instance rpTyN : Rp TyN := { rep := fun _ _ v a => v = .ty a.n, swap := fun _ h => h }
instance : Fl TyN := { toV := fun a => V.ty a.n, iff := Iff.rfl }
class Tn (α : Type) [Rp α] where
  nm : String
  is : ∀ {K : Fg} {H : Hp} {v : V} {a : α}, rep K H v a → TyX K H v (.type nm)
instance : Tn Int := ⟨"int", fun h => by cases h; exact .base (.int _)⟩
instance : Tn Bool := ⟨"bool", fun h => by cases h; exact .base (.bl _)⟩
instance : Tn Str := ⟨"str", fun h => by cases h; exact .base (.str _)⟩
instance : Tn Nn := ⟨"NoneType", fun h => by cases h; exact .base .non⟩
instance {α : Type} [Rp α] : Tn (List α) := ⟨"list", fun h => by
  obtain ⟨p, vs, rfl, h1, _⟩ := h
  exact .base (.lst h1)⟩
instance {α : Type} [Rp α] : Tn (Tu α) := ⟨"tuple", fun h => by
  obtain ⟨p, vs, rfl, h1, _⟩ := h
  exact .base (.tup h1)⟩
instance {α τ : Type} [Rp α] [Tp τ] : Tn (α × τ) := ⟨"tuple", fun h => by
  obtain ⟨p, vs, rfl, h1, _⟩ := h
  exact .base (.tup h1)⟩
theorem rc_isi {K : Fg} {α : Type} [Rp α] [Tn α] {x : α} {n : String} {b : Bool} (h : kitB (Tn.nm α) n = some b) : RCV K (rIsi K) (x, TyN.mk n, ()) b := fun Kn H vs ek hr Q q => by
  obtain ⟨v, w, rfl, h1, h2⟩ := two_args hr
  cases h2
  refine ⟨v, .ty n, .type (Tn.nm α), .type n, b, rfl, .ty n, ?_, kit_ty h, q.fl ek⟩
  exact Tn.is (Rp.mono ek h1)

/-! ### great divisors -/
theorem r2_divW {K : Fg} {i j : Int} {b : Nat} (h : 0 < j) (hb : j.natAbs < 2 ^ b) (h0 : 0 < b) (h9 : b ≤ 9000) : R2V K (rI CDivW fun i j => .int (i / j)) i j (i / j) := r2_I (wide_div h hb h0 h9)

/-! ### sorted of whole numbers -/
def srt (xs : List Int) : List Int := xs.mergeSort fun a b => decide (a ≤ b)
theorem srt_perm (xs : List Int) : (srt xs).Perm xs := List.mergeSort_perm xs _
theorem srt_pw (xs : List Int) : (srt xs).Pairwise (· ≤ ·) := by
  have h := List.pairwise_mergeSort (le := fun a b => decide (a ≤ b)) (fun a b c h1 h2 => by
    have h1 := of_decide_eq_true h1
    have h2 := of_decide_eq_true h2
    exact decide_eq_true (by omega)) (fun a b => by
    rcases Int.le_total a b with h | h
    · rw [decide_eq_true h]; rfl
    · rw [decide_eq_true h]; exact Bool.or_true _) xs
  exact h.imp fun h => of_decide_eq_true h
theorem srt_one {xs ys : List Int} (p : ys.Perm xs) (s : ys.Pairwise (· ≤ ·)) : ys = srt xs :=
  List.Perm.eq_of_pairwise (le := fun a b : Int => a ≤ b) (fun a b _ _ h1 h2 => Int.le_antisymm h1 h2) s (srt_pw xs) (p.trans (srt_perm xs).symm)
theorem rc_sorted {K : Fg} {xs : List Int} : RCL K (rSortedI K) (xs, ()) (srt xs) := fun Kn H vs ek h Q q => by
  obtain ⟨v, rfl, p, ws, rfl, h1, h2⟩ := one_arg h
  have e := paired_fl h2
  subst e
  refine ⟨p, xs, rfl, sq_of (ek _ _ h1), fun ns' l pm pw hl => ?_⟩
  rw [srt_one pm pw]
  exact q l _ Kn _ (Gr.newU ek hl) hl (fresh_back ek hl) upd_same (fl_paired (srt xs))
end Wk

namespace Wk
open PySem PySem.Spec L2 Evl
section
variable {K : Fg} {F Kn0 : Hp} {sl sl' : List Sl} {ow ow0 ow1 ow2 : List Ow} {α β γ τ : Type} [Rp α] [Rp β] [Rp γ] [Tp τ] {ta tb te : TE} {x : α} {D : Ends} {t u tz : TS} {tt : TT} {b : Bool} {i j : Nat} {p : Addr}
theorem ev_int (n : Int) : EV K F Kn0 sl ow (tC (.int n)) n := ev_c n
theorem ev_bool (n : Bool) : EV K F Kn0 sl ow (tC (.bl n)) n := ev_c n
theorem ev_str (n : Str) : EV K F Kn0 sl ow (tC (.str n)) n := ev_c n
theorem ev_nn : EV K F Kn0 sl ow (tC .non) Nn.nn := ev_c Nn.nn
theorem ev_ty (n : String) : EV K F Kn0 sl ow (tC (.ty n)) (TyN.mk n) := ev_c (TyN.mk n)
variable {m n : Int}
theorem r2_add : R2V K (rI0 fun i j => .int (i + j)) m n (m + n) := r2_I0
theorem r2_sub : R2V K (rI0 fun i j => .int (i - j)) m n (m - n) := r2_I0
theorem r2_lt : R2V K (rI0 fun i j => .bl (decide (i < j))) m n (decide (m < n)) := r2_I0
theorem r2_le : R2V K (rI0 fun i j => .bl (decide (i ≤ j))) m n (decide (m ≤ n)) := r2_I0
theorem r2_gt : R2V K (rI0 fun i j => .bl (decide (j < i))) m n (decide (n < m)) := r2_I0
theorem r2_ge : R2V K (rI0 fun i j => .bl (decide (j ≤ i))) m n (decide (n ≤ m)) := r2_I0
theorem r2_mod (h : 0 < n := by decide) : R2V K (rI (fun _ j => 0 < j) fun i j => .int (i % j)) m n (m % n) := r2_I h
theorem r2_div (h : 0 < n ∧ n < 1073741824 := by decide) : R2V K (rI CDiv fun i j => .int (i / j)) m n (m / n) := r2_I h
theorem r2_mulr (h : -18446744073709551616 < n ∧ n < 18446744073709551616 := by decide) : R2V K (rI CMul fun i j => .int (i * j)) m n (m * n) := r2_I (.inr ⟨by omega, by omega⟩)
theorem r2_mull (h : -18446744073709551616 < m ∧ m < 18446744073709551616 := by decide) : R2V K (rI CMul fun i j => .int (i * j)) m n (m * n) := r2_I (.inl ⟨by omega, by omega⟩)
theorem r2_divw (h : 0 < n ∧ n < 18446744073709551616 := by decide) : R2V K (rI CDivW fun i j => .int (i / j)) m n (m / n) := r2_divW h.1 (b := 64) (by omega) (by decide) (by decide)
theorem r2_pow {r : Int} (h : 0 ≤ n ∧ n ≤ 1000000 ∧ m.natAbs < 18446744073709551616 := by decide) (e : m ^ n.toNat = r := by decide) : R2V K (rI CPow fun i j => .int (i ^ j.toNat)) m n r := e ▸ r2_I ⟨h.1, h.2.1, by omega⟩
theorem EN.cast {xs ys : List α} (h : EN K F Kn0 sl ow te xs) (e : xs = ys) : EN K F Kn0 sl ow te ys := e ▸ h
theorem EM.cast {y : α} (h : EM K F Kn0 sl ow te ow1 x) (e : x = y) : EM K F Kn0 sl ow te ow1 y := e ▸ h
theorem ENM.cast {xs ys : List α} (h : ENM K F Kn0 sl ow te ow1 xs) (e : xs = ys) : ENM K F Kn0 sl ow te ow1 ys := e ▸ h
theorem SB.is (h1 : sl = sl') (h2 : ow = ow1) (h : SB K F Kn0 sl' ow1 D t) : SB K F Kn0 sl ow D t := by subst h1; subst h2; exact h
theorem EV.is (h1 : sl = sl') (h : EV K F Kn0 sl' ow te x) : EV K F Kn0 sl ow te x := by subst h1; exact h
theorem EM.is (h1 : sl = sl') (h2 : ow = ow2) (h3 : ow1 = ow0) (h : EM K F Kn0 sl' ow2 te ow0 x) : EM K F Kn0 sl ow te ow1 x := by subst h1; subst h2; subst h3; exact h
theorem ET.is (h1 : sl = sl') (h : ET K F Kn0 sl' ow tt b) : ET K F Kn0 sl ow tt b := by subst h1; exact h
theorem ite_t {γ : Type} {b : Bool} {A B : Option γ} {r : γ} (hb : b = true) (h : (if b = true then A else B) = some r) : A = some r := by rw [if_pos hb] at h; exact h
theorem ite_f {γ : Type} {b : Bool} {A B : Option γ} {r : γ} (hb : b = false) (h : (if b = true then A else B) = some r) : B = some r := by rw [if_neg (by rw [hb]; exact Bool.false_ne_true)] at h; exact h
def anyAt (sl : List Sl) (vs : List Nat) : Bool := vs.all fun j => match sl[j]? with
  | some .any => true
  | _ => false
theorem anyAt_of {sl : List Sl} {vs : List Nat} (h : anyAt sl vs = true) : ∀ j ∈ vs, sl[j]? = some .any := fun j hj => by
  have q := List.all_eq_true.mp h j hj
  cases e : sl[j]? with
  | none => rw [e] at q; cases q
  | some s =>
    rw [e] at q
    cases s with
    | any => rfl
    | val _ _ _ => cases q
    | «at» _ => cases q
theorem sub_of {js vs : List Nat} (h : (js.all fun j => vs.contains j) = true) : ∀ j ∈ js, j ∈ vs := fun j hj => by
  have q := List.all_eq_true.mp h j hj
  simpa using q
theorem sn_end {R : VK} (q : RT K F Kn0 ow0 R Nn.nn) (hd : ∀ σ H, R .non H → D.nx σ H) (l : ow0.Sublist ow) : SN K F Kn0 sl ow D := fun σ Kn H s => hd σ H (q _ Kn H (s.sub l).fin rfl)
def EOM (K : Fg) (F Kn0 : Hp) (sl : List Sl) (ow : List Ow) (to : TO) (ow' : List Ow) (o : Option Int) : Prop := ∀ σ Kn H, S K F Kn0 sl ow σ Kn H → ∀ Q : Option Int → Hp → Prop, (∀ Kn' H', Ex Kn Kn' → S K F Kn0 sl ow' σ Kn' H' → Q o H') → to σ H Q
theorem EO.eom {to : TO} {o : Option Int} (h : EO K F Kn0 sl ow to o) : EOM K F Kn0 sl ow to ow o := fun σ Kn H s Q q => h σ Kn H s Q fun Kn' H' g => q Kn' H' g.kk (s.grow g)
theorem eom_some {i : Int} (h : EM K F Kn0 sl ow te ow1 i) : EOM K F Kn0 sl ow (tPart te) ow1 (some i) := fun σ Kn H s Q q => h σ Kn H s _ fun v Kn1 H1 e1 s1 r1 => ⟨i, r1, q Kn1 H1 e1 s1⟩
theorem enm_sl {ow3 : List Ow} {xs : List α} {tl th : TO} {lo hi : Option Int} (h : EM K F Kn0 sl ow te ow1 xs) (hl : EOM K F Kn0 sl ow1 tl ow2 lo) (hh : EOM K F Kn0 sl ow2 th ow3 hi) : ENM K F Kn0 sl ow (tSl (rSlL K) te tl th) ow3 (cut xs lo hi) := fun σ Kn H s Q q =>
  h σ Kn H s _ fun v Kn1 H1 e1 s1 r1 => hl σ Kn1 H1 s1 _ fun Kn2 H2 e2 s2 => hh σ Kn2 H2 s2 _ fun Kn3 H3 e3 s3 => by
    obtain ⟨p, ws, rfl, h3, h4⟩ := r1
    have e13 : Ex Kn1 Kn3 := e2.trans e3
    exact ⟨p, ws, rfl, sq_of (s3.ek _ _ (e13 _ _ h3)), fun l hl => q l _ Kn3 _ (e1.trans e13) (s3.grow (Gr.newU s3.ek hl)) (fresh_back s3.ef hl) (fresh_back s3.ek hl) (owned_ne s3 hl) upd_same (paired_cut (paired_mono e13 h4) lo hi)⟩
/-- the entry of a def -/
theorem enter {σ : L2.St} {Kn H : Hp} {D : Ends} {t : TS} (ek : Ex Kn H) (hs : SlsOk K Kn sl σ) (h : SB K H Kn sl [] D t) : t D σ H := h σ Kn H ⟨Ex.refl _, ek, Ex.refl _, fun _ _ h => h, hs, ⟨(fun _ h => nomatch h), List.nodup_nil⟩⟩
theorem rt_of {H Kn : Hp} {r : α} {Q : VK} (q : RS K Kn H Q r) : RT K H Kn [] Q r := fun v Kn' H' s rv => q v Kn' H' ⟨s.e0, s.ef, s.ek, s.sep⟩ rv
theorem rn_of {H Kn : Hp} {r : List α} {Q : VK} (q : RL K Kn H Q r) : RN K H Kn [] Q r := fun p ws Kn' H' s fp kp hw rv => q p ws Kn' H' ⟨s.e0, s.ef, s.ek, s.sep⟩ fp kp hw rv
/-- all but p -/
def but (H : Hp) (p : Addr) : Hp := fun a => if a = p then none else H a
theorem enterM {σ : L2.St} {Kn H : Hp} {D : Ends} {t : TS} {p : Addr} {ws : List V} {xs : List α} (ek : Ex Kn H) (kp : Kn p = none) (hp : H p = some (.lst ws)) (r : Paired (rep K Kn) ws xs) (hs : SlsOk K Kn sl σ) (h : SB K (but H p) Kn sl [ol p xs] D t) : t D σ H :=
  h σ Kn H ⟨Ex.refl _, ek, fun a u e => by
    unfold but at e
    split at e
    · cases e
    · exact e, fun _ _ h => h, hs, ⟨fun o ho => by
      cases List.mem_singleton.mp ho
      exact ⟨if_pos rfl, kp, ws, hp, r⟩, List.nodup_cons.mpr ⟨(fun h => nomatch h), List.nodup_nil⟩⟩⟩
theorem rt_ofM {H Kn : Hp} {r : β} {p : Addr} {xs' : List α} {Q : VK} (kp : Kn p = none) (q : ∀ v Kn' H' ws', Ex Kn Kn' → Ex Kn' H' → (∀ q, q ≠ p → H q ≠ none → H' q = H q) → (∀ q, H q ≠ none → Kn q = none → Kn' q = none) → H' p = some (.lst ws') → Paired (rep K Kn') ws' xs' → rep K Kn' v r → Q v H') :
    RT K (but H p) Kn [ol p xs'] Q r := fun v Kn' H' s rv => by
  obtain ⟨_, k1, ws, h1, h2⟩ := s.ow.each (ol p xs') List.mem_cons_self
  refine q v Kn' H' ws s.e0 s.ek (fun a ha hn => ?_) (fun a hn hk => ?_) h1 h2 rv
  · have e : but H p a = H a := if_neg ha
    exact (Ex.at_eq s.ef (by rw [e]; exact hn)).trans e
  · by_cases ha : a = p
    · subst ha
      exact k1
    · exact s.sep a (by unfold but; rw [if_neg ha]; exact hn) hk
end
end Wk

/-! ### rules whose readings name K itself (within comprehensions) -/
namespace Wk
open PySem PySem.Spec L2 Evl
section
variable {X : Cx} {K : Fg}
theorem k_isi (h : X.K = K := by rfl) : CallR X (.builtin "isinstance") (rIsi K) := h ▸ call_isi
theorem k_len (h : X.K = K := by rfl) : CallR X (.builtin "len") (fun xs H Q => ∃ p ys, xs = [.ref p] ∧ (SqL K H p ys ∨ SqT K H p ys) ∧ Q (.int ys.length) H) := h ▸ call_len_seq
theorem k_list (h : X.K = K := by rfl) : CallR X (.type "list") (fun xs H Q => ∃ p ys, xs = [.ref p] ∧ (SqL K H p ys ∨ SqT K H p ys) ∧ ∀ l, H l = none → Q (.ref l) (upd H l (.lst ys))) := h ▸ call_list_of
theorem k_tuple (h : X.K = K := by rfl) : CallR X (.type "tuple") (fun xs H Q => ∃ p ys, xs = [.ref p] ∧ ((SqL K H p ys ∧ ∀ l, H l = none → Q (.ref l) (upd H l (.tup ys))) ∨ (SqT K H p ys ∧ Q (.ref p) H))) := h ▸ call_tuple_of
theorem k_sum (hc : X.calm = true := by rfl) (h : X.K = K := by rfl) : CallR X (.builtin "sum") (rSum K) := h ▸ cr_sum hc
theorem k_any (hc : X.calm = true := by rfl) (h : X.K = K := by rfl) : CallR X (.builtin "any") (rAny K) := h ▸ cr_any hc
theorem k_all (hc : X.calm = true := by rfl) (h : X.K = K := by rfl) : CallR X (.builtin "all") (rAll K) := h ▸ cr_all hc
theorem k_max2 (hc : X.calm = true := by rfl) : CallR X (.builtin "max") (fun xs H Q => ∃ i j, xs = [.int i, .int j] ∧ Q (.int (if j > i then j else i)) H) := call_max2 hc
theorem k_min2 (hc : X.calm = true := by rfl) : CallR X (.builtin "min") (fun xs H Q => ∃ i j, xs = [.int i, .int j] ∧ Q (.int (if j < i then j else i)) H) := call_min2 hc
theorem k_sorted (h : X.K = K := by rfl) : CallR X (.builtin "sorted") (rSortedI K) := h ▸ cr_sortedI
theorem k_ixl (h : X.K = K := by rfl) : IxR X (rIxL K) := h ▸ ix_list
theorem k_ixt (h : X.K = K := by rfl) : IxR X (rIxT K) := h ▸ ix_tup
theorem k_sll (h : X.K = K := by rfl) : SlR X (rSlL K) := h ▸ sl_list
theorem k_eqD (hu : X.A.units + 64 < cLine) (h : X.K = K := by rfl) : OpR X (compareOp .Eq) (rEqD K) := h ▸ op_eqD hu
theorem k_neD (hu : X.A.units + 64 < cLine) (h : X.K = K := by rfl) : OpR X (compareOp .NotEq) (rNeD K) := h ▸ op_neD hu
theorem k_in (h : X.K = K := by rfl) : OpR X (compareOp .In) (rIn K false) := h ▸ op_in_seq
theorem k_notIn (h : X.K = K := by rfl) : OpR X (compareOp .NotIn) (rIn K true) := h ▸ op_notIn_seq
theorem kpg_tup {es : List Expr} {k : Nat} {t : TGs} {n : Nat} {pos : Pos} (hs : PGs X es t) (hc : X.calm = true := by rfl) (h : X.K = K := by rfl)
    (hn : (assignEach es X.env).length = n := by rfl) (hst : (assignEach es X.env).findIdx? (·.1) = none := by rfl) : PG X (.Tuple es k pos) (gTup K n t) := h ▸ pg_tup hc hs hn hst
theorem kpi_list {tg e : Expr} {te : TE} (he : PE X e te) (h : X.K = K := by rfl) : PI X tg e (iList K te) := h ▸ pi_list he
theorem kpi_tup {tg e : Expr} {te : TE} (he : PE X e te) (h : X.K = K := by rfl) : PI X tg e (iTup K te) := h ▸ pi_tup he
theorem kpt_truth {a : Expr} {ta : TE} (ha : PE X a ta) (he : ∀ whole, isTrue a X.env whole = (do let v ← whole; standAt a.pos; holding [v] (truthy v)) := by intro _; rfl) (h : X.K = K := by rfl) : PT X a (fun σ H Q => ta σ H fun x H' => ∃ k, TruV K x H' k ∧ Q k H') := h ▸ pt_truth ha he
end
end Wk
/-! Wk5: in, lists made longer, texts, chains, tuples put together -/
namespace Wk
open PySem PySem.Spec L2 Evl
class Fe (α : Type) [Rp α] [Fl α] [DecidableEq α] : Prop where
  flat : ∀ a : α, flatV (Fl.toV a) = true
  eq : ∀ a b : α, eqV (Fl.toV a) (Fl.toV b) = decide (a = b)
instance : Fe Int := ⟨fun _ => rfl, fun a b => by show (a == b) = decide (a = b); by_cases h : a = b <;> simp [h]⟩
instance : Fe Str := ⟨fun _ => rfl, fun a b => by show (a == b) = decide (a = b); by_cases h : a = b <;> simp [h]⟩
def repO {α : Type} (xs : List α) (k : Int) : Option (List α) := if -1000000000 ≤ k ∧ k ≤ 1000000000 ∧ xs.length * k.toNat ≤ 1000000 then some (List.replicate k.toNat xs).flatten else none
def addS (x y : Str) : Option Str := if x.length + y.length ≤ 1000000 then some (x ++ y) else none
def lenS (x : Str) : Option Int := if x.length ≤ 1000000 then some (x.length : Int) else none
def joinO (a : Str) (ys : List Str) : Option Str := if (ys.map (·.length)).sum + ys.length * a.length ≤ 1000000 then some (Txt.join a ys) else none
def powO (i j : Int) : Option Int := if 0 ≤ j ∧ j ≤ 1000000 ∧ i.natAbs < 18446744073709551616 then some (i ^ j.toNat) else none
section
variable {K : Fg} {F Kn0 : Hp} {sl sl' : List Sl} {ow ow0 ow1 ow2 : List Ow} {α β γ τ : Type} [Rp α] [Rp β] [Rp γ] [Tp τ] {ta tb tc te : TE} {x : α} {y : β} {z : γ} {D : Ends} {t u tz : TS} {tt : TT} {a b : Bool} {i j : Nat} {p : Addr}
theorem any_mem {α : Type} [Rp α] [Fl α] [DecidableEq α] [Fe α] (x : α) : ∀ xs : List α, inV (Fl.toV x) (xs.map Fl.toV) = decide (x ∈ xs)
  | [] => by simp [inV]
  | y :: ys => by
    have ih := any_mem x ys
    unfold inV at ih ⊢
    rw [List.map_cons, List.any_cons, ih, Fe.eq]
    by_cases h : y = x
    · subst h
      simp
    · have h' : ¬ x = y := fun e => h e.symm
      simp [h, h']
theorem all_flat {α : Type} [Rp α] [Fl α] [DecidableEq α] [Fe α] : ∀ xs : List α, (xs.map Fl.toV).all flatV = true
  | [] => rfl
  | y :: ys => by
    rw [List.map_cons, List.all_cons, Fe.flat, all_flat ys]
    rfl
theorem r2_in {α : Type} [Rp α] [Fl α] [DecidableEq α] [Fe α] {x : α} {xs : List α} : R2V K (rIn K false) x xs (decide (x ∈ xs)) := fun Kn H v w ek h1 h2 Q q => by
  obtain ⟨p, ws, rfl, h3, h4⟩ := h2
  have e := paired_fl h4
  subst e
  rw [Fl.iff.mp h1]
  refine ⟨p, _, rfl, .inl (sq_of (ek _ _ h3)), Fe.flat x, all_flat xs, ?_⟩
  rw [any_mem]
  exact q.fl ek
theorem r2_notIn {α : Type} [Rp α] [Fl α] [DecidableEq α] [Fe α] {x : α} {xs : List α} : R2V K (rIn K true) x xs (!decide (x ∈ xs)) := fun Kn H v w ek h1 h2 Q q => by
  obtain ⟨p, ws, rfl, h3, h4⟩ := h2
  have e := paired_fl h4
  subst e
  rw [Fl.iff.mp h1]
  refine ⟨p, _, rfl, .inl (sq_of (ek _ _ h3)), Fe.flat x, all_flat xs, ?_⟩
  rw [any_mem]
  exact q.fl ek
theorem r2_inU {α : Type} [Rp α] [Fl α] [DecidableEq α] [Fe α] {x : α} {xs : Tu α} : R2V K (rIn K false) x xs (decide (x ∈ xs.l)) := fun Kn H v w ek h1 h2 Q q => by
  obtain ⟨p, ws, rfl, h3, h4⟩ := h2
  have e := paired_fl h4
  subst e
  rw [Fl.iff.mp h1]
  refine ⟨p, _, rfl, .inr (st_of (ek _ _ h3)), Fe.flat x, all_flat xs.l, ?_⟩
  rw [any_mem]
  exact q.fl ek
theorem r2_notInU {α : Type} [Rp α] [Fl α] [DecidableEq α] [Fe α] {x : α} {xs : Tu α} : R2V K (rIn K true) x xs (!decide (x ∈ xs.l)) := fun Kn H v w ek h1 h2 Q q => by
  obtain ⟨p, ws, rfl, h3, h4⟩ := h2
  have e := paired_fl h4
  subst e
  rw [Fl.iff.mp h1]
  refine ⟨p, _, rfl, .inr (st_of (ek _ _ h3)), Fe.flat x, all_flat xs.l, ?_⟩
  rw [any_mem]
  exact q.fl ek
theorem paired_rep {F : V → α → Prop} {vs : List V} {xs : List α} (h : Paired F vs xs) : ∀ n : Nat, Paired F (List.replicate n vs).flatten (List.replicate n xs).flatten
  | 0 => .nil
  | n + 1 => by
    rw [List.replicate_succ, List.replicate_succ, List.flatten_cons, List.flatten_cons]
    exact paired_append h (paired_rep h n)
theorem r2_repO {xs zs : List α} {k : Int} (h : repO xs k = some zs) : R2L K rRep xs k zs := fun Kn H v w ek h1 h2 Q q => by
  unfold repO at h
  split at h
  · rename_i hb
    cases h
    obtain ⟨p, ws, rfl, h3, h4⟩ := h1
    cases h2
    refine ⟨p, k, ws, rfl, rfl, ek _ _ h3, by omega, by omega, by rw [paired_len h4]; exact le_line hb.2.2, fun l hl => q l _ Kn _ (Gr.newU ek hl) hl (fresh_back ek hl) upd_same (paired_rep h4 _)⟩
  · cases h
theorem r2_addS {x y z : Str} (h : addS x y = some z) : R2V K (fun x y H Q => ∃ i j, x = .str i ∧ y = .str j ∧ i.length + j.length ≤ sizeLine ∧ Q (.str (i ++ j)) H) x y z := fun Kn H v w ek h1 h2 Q q => by
  unfold addS at h
  split at h
  · rename_i hb
    cases h
    exact ⟨x, y, h1, h2, le_line hb, q.fl ek⟩
  · cases h
theorem rc_lenS {x : Str} {z : Int} (h : lenS x = some z) : RCV K (fun xs H Q => ∃ z, xs = [.str z] ∧ z.length ≤ sizeLine ∧ Q (.int z.length) H) (x, ()) z := fun Kn H vs ek hr Q q => by
  obtain ⟨v, rfl, h1⟩ := one_arg hr
  cases h1
  unfold lenS at h
  split at h
  · rename_i hb
    cases h
    exact ⟨x, rfl, le_line hb, q.fl ek⟩
  · cases h
theorem ev_joinO {s : Str} {ys : List Str} {z : Str} (ha : EV K F Kn0 sl ow ta s) (hb : EV K F Kn0 sl ow tb ys) (h : joinO s ys = some z) :
    EV K F Kn0 sl ow (tM1 (fun x xs H Q => ∃ a p, ∃ ys : List Str, x = .str a ∧ xs = [.ref p] ∧ (SqL K H p (ys.map V.str) ∨ SqT K H p (ys.map V.str)) ∧ (ys.map (·.length)).sum + ys.length * a.length ≤ 16777216 ∧ Q (.str (Txt.join a ys)) H) ta tb) z := fun σ Kn H s' Q q =>
  ha σ Kn H s' _ fun v Kn1 H1 g1 r1 => by
    cases r1
    refine ⟨⟨s, rfl⟩, hb σ Kn1 H1 (s'.grow g1) _ fun w Kn2 H2 g2 r2 => ?_⟩
    obtain ⟨p, ws, rfl, h3, h4⟩ := r2
    have e := paired_fl h4
    subst e
    unfold joinO at h
    split at h
    · rename_i hz
      cases h
      exact ⟨s, p, ys, rfl, rfl, .inl (sq_of (g2.kh _ _ h3)), by omega, q _ Kn2 H2 (g1.trans g2) rfl⟩
    · cases h
theorem rc_intB {x : Bool} : RCV K (fun xs H Q => (∃ i, xs = [.int i] ∧ Q (.int i) H) ∨ ∃ k, xs = [.bl k] ∧ Q (.int (if k then 1 else 0)) H) (x, ()) (if x = true then (1 : Int) else 0) := fun Kn H vs ek hr Q q => by
  obtain ⟨v, rfl, h1⟩ := one_arg hr
  cases h1
  exact .inr ⟨x, rfl, q.fl ek⟩
theorem rc_intI {x : Int} : RCV K (fun xs H Q => (∃ i, xs = [.int i] ∧ Q (.int i) H) ∨ ∃ k, xs = [.bl k] ∧ Q (.int (if k then 1 else 0)) H) (x, ()) x := fun Kn H vs ek hr Q q => by
  obtain ⟨v, rfl, h1⟩ := one_arg hr
  cases h1
  exact .inl ⟨x, rfl, q.fl ek⟩
theorem r2_powO {i j z : Int} (h : powO i j = some z) : R2V K (rI CPow fun i j => .int (i ^ j.toNat)) i j z := by
  unfold powO at h
  split at h
  · rename_i hb
    cases h
    exact r2_I ⟨hb.1, hb.2.1, by omega⟩
  · cases h
/-- x < y < z -/
theorem ev_chain {r r' : R2} (ha : EV K F Kn0 sl ow ta x) (hb : EV K F Kn0 sl ow tb y) (hr : R2V K r x y a) (hc : EV K F Kn0 sl ow tc z) (hr' : R2V K r' y z b) : EV K F Kn0 sl ow (tChain r r' ta tb tc) (a && b) := fun σ Kn H s Q q =>
  ha σ Kn H s _ fun v Kn1 H1 g1 r1 => hb σ Kn1 H1 (s.grow g1) _ fun w Kn2 H2 g2 r2 => hr Kn2 H2 v w g2.kh (Rp.mono g2.kk r1) r2 _ fun u Kn3 H3 g3 r3 => by
    refine ⟨a, r3, ?_⟩
    cases a with
    | true => exact iteT (hc σ Kn3 H3 (((s.grow g1).grow g2).grow g3) _ fun v4 Kn4 H4 g4 r4 => hr' Kn4 H4 w v4 g4.kh (Rp.mono (g3.kk.trans g4.kk) r2) r4 Q fun u5 Kn5 H5 g5 r5 => q u5 Kn5 H5 ((((g1.trans g2).trans g3).trans g4).trans g5) r5)
    | false => exact iteF (q _ Kn3 H3 ((g1.trans g2).trans g3) rfl)
/-- t3 is t1 and t2 put together -/
inductive Ap : {τ1 τ2 τ3 : Type} → [Tp τ1] → [Tp τ2] → [Tp τ3] → τ1 → τ2 → τ3 → Prop
  | z {τ : Type} [Tp τ] (t : τ) : Ap () t t
  | s {α τ1 τ2 τ3 : Type} [Rp α] [Tp τ1] [Tp τ2] [Tp τ3] (x : α) {t1 : τ1} {t2 : τ2} {t3 : τ3} : Ap t1 t2 t3 → Ap (x, t1) t2 (x, t3)
theorem Ap.rept {K : Fg} {H : Hp} {τ1 τ2 τ3 : Type} [i1 : Tp τ1] [i2 : Tp τ2] [i3 : Tp τ3] {t1 : τ1} {t2 : τ2} {t3 : τ3} (h : Ap t1 t2 t3) : ∀ {vs ws : List V}, Wk.rept K H vs t1 → Wk.rept K H ws t2 → Wk.rept K H (vs ++ ws) t3 := by
  induction h with
  | z t =>
    intro vs ws h1 h2
    cases h1
    exact h2
  | s x _ ih =>
    intro vs ws h1 h2
    obtain ⟨v, r, rfl, h3, h4⟩ := h1
    exact ⟨v, r ++ ws, rfl, h3, ih h4 h2⟩
theorem r2_catA {α1 τ1 α2 τ2 α3 τ3 : Type} [Rp α1] [Tp τ1] [Rp α2] [Tp τ2] [Rp α3] [Tp τ3] {t1 : α1 × τ1} {t2 : α2 × τ2} {t3 : α3 × τ3} (h : Ap t1 t2 t3) (hn : Tp.n (α1 × τ1) + Tp.n (α2 × τ2) ≤ 1000 := by decide) : R2V K (rCatA K) t1 t2 t3 := fun Kn H v w ek h1 h2 Q q => by
  obtain ⟨p, vs, rfl, h3, h4⟩ := h1
  obtain ⟨p2, ws, rfl, h5, h6⟩ := h2
  have n1 : vs ≠ [] := by
    obtain ⟨_, _, rfl, _⟩ := h4
    simp
  have n2 : ws ≠ [] := by
    obtain ⟨_, _, rfl, _⟩ := h6
    simp
  refine ⟨p, p2, vs, ws, rfl, rfl, st_of (ek _ _ h3), st_of (ek _ _ h5), ?_, fun e => absurd e n1, fun _ e => absurd e n2, fun _ _ l hl => ?_⟩
  · rw [Tp.len h4, Tp.len h6]
    exact le_line (by omega)
  · exact q _ (upd Kn l (.tup (vs ++ ws))) _ (Gr.new ek hl) ⟨l, _, rfl, upd_same, h.rept (Tp.mono (Gr.new ek hl).kk h4) (Tp.mono (Gr.new ek hl).kk h6)⟩
/-- found.clear() -/
theorem sb_clr {xs : List α} (hi : sl[i]? = some (.at p)) (hj : ow[j]? = some (ol p xs)) (ho : ow.set j (ol p ([] : List α)) = ow1) (k : SN K F Kn0 sl ow1 D) : SB K F Kn0 sl ow D (tDrop (tBM0 K "list" rClear (tVar i))) := fun σ Kn H s => by
  obtain ⟨o, h1, h2⟩ := s.sl.get hi
  obtain ⟨f1, f2, ws, f3, f4⟩ := s.ow.each _ (List.mem_of_getElem? hj)
  subst ho
  refine ⟨.ref p, by rw [h1]; exact congrArg some h2, Or.inl ⟨rfl, ws, sq_of f3⟩, p, ws, rfl, rfl, f3, k _ Kn _ ?_⟩
  exact s.write hj (Ex.refl _) (upd_in s.ek f2) (fun q hq _ => upd_ne hq) (fun _ _ h => h) upd_same .nil
theorem en_listO {xs : List α} (hi : sl[i]? = some (.at p)) (hj : ow[j]? = some (ol p xs)) : EN K F Kn0 sl ow (tCB (fun xs H Q => ∃ p ys, xs = [.ref p] ∧ (SqL K H p ys ∨ SqT K H p ys) ∧ ∀ l, H l = none → Q (.ref l) (upd H l (.lst ys))) (tCons (tVar i) tNil)) xs := fun σ Kn H s Q q => by
  obtain ⟨o, h1, h2⟩ := s.sl.get hi
  obtain ⟨f1, f2, ws, f3, f4⟩ := s.ow.each _ (List.mem_of_getElem? hj)
  exact ⟨.ref p, by rw [h1]; exact congrArg some h2, p, ws, rfl, .inl (sq_of f3), fun l hl => q l ws Kn _ (Gr.newU s.ek hl) hl (fresh_back s.ek hl) upd_same f4⟩
/-- a test that changes something on its way -/
def ETM (K : Fg) (F Kn0 : Hp) (sl : List Sl) (ow : List Ow) (tt : TT) (ow' : List Ow) (b : Bool) : Prop := ∀ σ Kn H, S K F Kn0 sl ow σ Kn H → ∀ Q : Bool → Hp → Prop, (∀ Kn' H', Ex Kn Kn' → S K F Kn0 sl ow' σ Kn' H' → Q b H') → tt σ H Q
theorem ET.etm (h : ET K F Kn0 sl ow tt b) : ETM K F Kn0 sl ow tt ow b := fun σ Kn H s Q q => h σ Kn H s Q fun Kn' H' g => q Kn' H' g.kk (s.grow g)
theorem etm_test (h : EM K F Kn0 sl ow te ow1 b) : ETM K F Kn0 sl ow (tTest te) ow1 b := fun σ Kn H s Q q => h σ Kn H s _ fun v Kn' H' e s' r => ⟨b, r, q Kn' H' e s'⟩
theorem etm_and {t u : TT} (h1 : ETM K F Kn0 sl ow t ow1 a) (h2 : a = true → ET K F Kn0 sl ow1 u b) : ETM K F Kn0 sl ow (tAnd t u) ow1 (a && b) := fun σ Kn H s Q q => h1 σ Kn H s _ fun Kn1 H1 e1 s1 => by
  cases a with
  | true => exact iteT (h2 rfl σ Kn1 H1 s1 Q fun Kn2 H2 g2 => q Kn2 H2 (e1.trans g2.kk) (s1.grow g2))
  | false => exact iteF (q Kn1 H1 e1 s1)
theorem etm_or {t u : TT} (h1 : ETM K F Kn0 sl ow t ow1 a) (h2 : a = false → ET K F Kn0 sl ow1 u b) : ETM K F Kn0 sl ow (tOr t u) ow1 (a || b) := fun σ Kn H s Q q => h1 σ Kn H s _ fun Kn1 H1 e1 s1 => by
  cases a with
  | true => exact iteT (q Kn1 H1 e1 s1)
  | false => exact iteF (h2 rfl σ Kn1 H1 s1 Q fun Kn2 H2 g2 => q Kn2 H2 (e1.trans g2.kk) (s1.grow g2))
theorem sb_ifM {t u : TS} (h : ETM K F Kn0 sl ow tt ow1 b) (h1 : b = true → SB K F Kn0 sl ow1 D t) (h2 : b = false → SB K F Kn0 sl ow1 D u) : SB K F Kn0 sl ow D (tIfS tt t u) := fun σ Kn H s => h σ Kn H s _ fun Kn1 H1 e1 s1 => by
  cases b with
  | true => exact iteT (h1 rfl σ Kn1 H1 s1)
  | false => exact iteF (h2 rfl σ Kn1 H1 s1)
end
section
variable {X : Cx} {K : Fg}
theorem k_catA (h : X.K = K := by rfl) : OpR X (binaryOp .Add) (rCatA K) := h ▸ op_catA
theorem k_join {to te : TE} {o e : Expr} {apos pos : Pos} (ho : PE X o to) (he : PE X e te) (hs : starEach [e] X.env = [(false, eval e X.env)] := by rfl) (hbase : attributeBase o "join" X.env (eval o X.env) = eval o X.env := by rfl) (hline : (apos.endLine == pos.line) = true := by rfl) (h : X.K = K := by rfl) :
    PE X (.Call (.Attribute o "join" apos) [e] [] pos) (tM1 (fun x xs H Q => ∃ a p, ∃ ys : List Str, x = .str a ∧ xs = [.ref p] ∧ (SqL K H p (ys.map V.str) ∨ SqT K H p (ys.map V.str)) ∧ (ys.map (·.length)).sum + ys.length * a.length ≤ 16777216 ∧ Q (.str (Txt.join a ys)) H) to te) := h ▸ pe_join ho he hs hbase hline
end
end Wk
/-! Wk6: dicts. -/
namespace Wk
open PySem PySem.Spec L2 Evl
/-- what may be a key -/
class K1 (α : Type) [Rp α] where
  key : α → Key
  inj : ∀ {a b : α}, key a = key b → a = b
  iff : ∀ {K : Fg} {H : Hp} {v : V} {a : α}, rep K H v a → v = kV (key a)
instance : K1 Int := { key := Sum.inl, inj := fun h => Sum.inl.inj h, iff := fun h => h }
instance : K1 Str := { key := Sum.inr, inj := fun h => Sum.inr.inj h, iff := fun h => h }
class KT1 (τ : Type) [Tp τ] where
  keys : τ → List Key
  inj : ∀ {a b : τ}, keys a = keys b → a = b
  iff : ∀ {K : Fg} {H : Hp} {vs : List V} {a : τ}, rept K H vs a → vs = (keys a).map kV
instance : KT1 Unit := { keys := fun _ => [], inj := fun _ => rfl, iff := fun h => h }
instance {α τ : Type} [Rp α] [Tp τ] [K1 α] [KT1 τ] : KT1 (α × τ) where
  keys t := K1.key t.1 :: KT1.keys t.2
  inj h := Prod.ext (K1.inj (List.cons.inj h).1) (KT1.inj (List.cons.inj h).2)
  iff h := by
    obtain ⟨v, r, h1, h2, h3⟩ := h
    rw [h1, K1.iff h2, KT1.iff h3]
    rfl
class Ky (κ : Type) [Rp κ] where
  kt : Type
  dec : DecidableEq kt
  key : κ → kt
  inj : ∀ {a b : κ}, key a = key b → a = b
  ho : List (kt × V) → HO
  isd : ∀ ws, isDk (ho ws)
  get : ∀ {K : Fg} {Kh H : Hp} {p : Addr} {v : V} {a : κ} {ws : List (kt × V)}, rep K Kh v a → Ex Kh H → Rd H p (ho ws) → DGet H p v (valV ws (key a))
  put : ∀ {K : Fg} {Kh H : Hp} {p : Addr} {v y : V} {a : κ} {ws : List (kt × V)}, rep K Kh v a → Ex Kh H → H p = some (ho ws) → ws.length < sizeLine → DPut H p v y (upd H p (ho (putK ws (key a) y)))
instance {κ : Type} [Rp κ] [Ky κ] : DecidableEq (Ky.kt κ) := Ky.dec
instance {α : Type} [Rp α] [K1 α] : Ky α where
  kt := Key
  dec := inferInstance
  key := K1.key
  inj := K1.inj
  ho := .dK
  isd _ := trivial
  get h _ e := by
    rw [K1.iff h]
    exact .inl ⟨_, _, e, rfl, rfl⟩
  put h _ e l := by
    rw [K1.iff h]
    exact DPut.k e l
instance {α τ : Type} [Rp α] [Tp τ] [KT1 (α × τ)] : Ky (α × τ) where
  kt := List Key
  dec := inferInstance
  key := KT1.keys
  inj := KT1.inj
  ho := .dT
  isd _ := trivial
  get h x e := by
    obtain ⟨p, vs, h1, h2, h3⟩ := h
    rw [h1]
    have h4 := x _ _ h2
    rw [KT1.iff (τ := α × _) h3] at h4
    exact .inr ⟨_, _, _, e, rfl, h4, rfl⟩
  put h x e l := by
    obtain ⟨p, vs, h1, h2, h3⟩ := h
    rw [h1]
    have h4 := x _ _ h2
    rw [KT1.iff (τ := α × _) h3] at h4
    exact DPut.t e h4 l
/-- the table of a dict -/
structure Dc (κ β : Type) where
  l : List (κ × β)
section
variable {κ β : Type} [DecidableEq κ]
def getD (kvs : List (κ × β)) (k : κ) : Option β := (kvs.find? fun kv => decide (kv.1 = k)).map (·.2)
def putD (kvs : List (κ × β)) (k : κ) (y : β) : List (κ × β) := if (getD kvs k).isSome = true then kvs.map (fun kv => if kv.1 = k then (kv.1, y) else kv) else kvs ++ [(k, y)]
def putO (kvs : Dc κ β) (k : κ) (y : β) : Option (Dc κ β) := if kvs.l.length < 1000000 then some ⟨putD kvs.l k y⟩ else none
def mergeD (kvs more : List (κ × β)) : List (κ × β) := more.foldl (fun acc kv => putD acc kv.1 kv.2) kvs
end
section
variable {κ β : Type} [Rp κ] [Ky κ] [Rp β]
abbrev DK (K : Fg) (H : Hp) : List (Ky.kt κ × V) → List (κ × β) → Prop := Paired fun w kv => w.1 = Ky.key kv.1 ∧ rep K H w.2 kv.2
theorem DK.mono {K : Fg} {H H' : Hp} {ws : List (Ky.kt κ × V)} {kvs : List (κ × β)} (e : Ex H H') (h : DK K H ws kvs) : DK K H' ws kvs := Paired.mapP h fun _ _ q => ⟨q.1, Rp.mono e q.2⟩
theorem DK.swap {K : Fg} {H H' : Hp} {ws : List (Ky.kt κ × V)} {kvs : List (κ × β)} (e : Sw H H') (h : DK K H ws kvs) : DK K H' ws kvs := Paired.mapP h fun _ _ q => ⟨q.1, Rp.swap e q.2⟩
instance obDc : Ob (Dc κ β) where
  ob K H o x := ∃ ws, o = Ky.ho (κ := κ) ws ∧ DK K H ws x.l
  swap e h := by
    obtain ⟨ws, h1, h2⟩ := h
    exact ⟨ws, h1, DK.swap e h2⟩
instance rpDc : Rp (Dc κ β) where
  rep K H v x := ∃ p ws, v = .ref p ∧ Rd H p (Ky.ho (κ := κ) ws) ∧ DK K H ws x.l
  swap e h := by
    obtain ⟨p, ws, h1, h2, h3⟩ := h
    exact ⟨p, ws, h1, e.rd h2 (Ky.isd ws), DK.swap e h3⟩
theorem rd_ex {H H' : Hp} (e : Ex H H') {q : Addr} {u : HO} (h : Rd H q u) : Rd H' q u := by
  rcases h with h | ⟨o, h⟩
  · exact .inl (e _ _ h)
  · exact .inr ⟨o, e _ _ h⟩
variable [DecidableEq κ]
theorem DK.get {K : Fg} {H : Hp} {ws : List (Ky.kt κ × V)} {kvs : List (κ × β)} (k : κ) (h : DK K H ws kvs) : (getD kvs k = none ∧ valV ws (Ky.key k) = none) ∨ ∃ y v, getD kvs k = some y ∧ valV ws (Ky.key k) = some v ∧ rep K H v y := by
  unfold DK at h
  induction h with
  | nil => exact .inl ⟨rfl, rfl⟩
  | @cons w kv ws kvs h t ih =>
    unfold getD valV
    by_cases e : kv.1 = k
    · have e2 : w.1 = Ky.key k := h.1.trans (congrArg _ e)
      rw [List.find?_cons_of_pos (by simpa using e), List.find?_cons_of_pos (by simpa using e2)]
      exact .inr ⟨_, _, rfl, rfl, h.2⟩
    · have e2 : ¬ w.1 = Ky.key k := fun z => e (Ky.inj (h.1.symm.trans z))
      rw [List.find?_cons_of_neg (by simpa using e), List.find?_cons_of_neg (by simpa using e2)]
      exact ih
theorem DK.some {K : Fg} {H : Hp} {ws : List (Ky.kt κ × V)} {kvs : List (κ × β)} (k : κ) (h : DK K H ws kvs) : (valV ws (Ky.key k)).isSome = (getD kvs k).isSome := by
  rcases h.get k with ⟨h1, h2⟩ | ⟨y, v, h1, h2, _⟩
  · rw [h1, h2]
    rfl
  · rw [h1, h2]
    rfl
theorem DK.repl {K : Fg} {H : Hp} {ws : List (Ky.kt κ × V)} {kvs : List (κ × β)} (k : κ) {v : V} {y : β} (hv : rep K H v y) (h : DK K H ws kvs) : DK K H (ws.map fun kv => if kv.1 = Ky.key k then (kv.1, v) else kv) (kvs.map fun kv => if kv.1 = k then (kv.1, y) else kv) := by
  unfold DK at h ⊢
  induction h with
  | nil => exact .nil
  | @cons w kv ws kvs h t ih =>
    rw [List.map_cons, List.map_cons]
    refine .cons ?_ ih
    by_cases e : kv.1 = k
    · have e2 : w.1 = Ky.key k := h.1.trans (congrArg _ e)
      rw [if_pos e, if_pos e2]
      exact ⟨h.1, hv⟩
    · have e2 : ¬ w.1 = Ky.key k := fun z => e (Ky.inj (h.1.symm.trans z))
      rw [if_neg e, if_neg e2]
      exact h
theorem Paired.app2 {α β : Type} {R : α → β → Prop} : ∀ {xs xs' : List α} {ys ys' : List β}, Paired R xs ys → Paired R xs' ys' → Paired R (xs ++ xs') (ys ++ ys')
  | _, _, _, _, .nil, h => h
  | _, _, _, _, .cons q t, h => .cons q (Paired.app2 t h)
theorem DK.put {K : Fg} {H : Hp} {ws : List (Ky.kt κ × V)} {kvs : List (κ × β)} (k : κ) {v : V} {y : β} (hv : rep K H v y) (h : DK K H ws kvs) : DK K H (putK ws (Ky.key k) v) (putD kvs k y) := by
  unfold putK putD
  rw [valV_any, h.some k]
  split
  · exact DK.repl k hv h
  · exact Paired.app2 h (.cons ⟨rfl, hv⟩ .nil)
end
section
variable {K : Fg} {F Kn0 : Hp} {sl sl' : List Sl} {ow ow0 ow1 ow2 : List Ow} {κ β γ : Type} [Rp κ] [Ky κ] [DecidableEq κ] [Rp β] [Rp γ] {ta tb te td tk : TE} {k : κ} {x : γ} {D : Ends} {t u tz : TS} {b : Bool} {i j : Nat} {p : Addr}
/-- the object at place j is another one now, all else as it was -/
theorem S.writeG {σ : L2.St} {Kn H Kn' H' : Hp} {o1 o2 : Ow} (s : S K F Kn0 sl ow σ Kn H) (hj : ow[j]? = some o1) (ha : o1.ad = p) (hb : o2.ad = p) (kk : Ex Kn Kn') (kh : Ex Kn' H')
    (hq : ∀ q, q ≠ p → H q ≠ none → H' q = H q) (sp : ∀ q, H q ≠ none → Kn q = none → Kn' q = none) (hp : o2.ok K Kn' H') : S K F Kn0 sl (ow.set j o2) σ Kn' H' := by
  obtain ⟨f1, f2, f3⟩ := s.ow.each _ (List.mem_of_getElem? hj)
  have f4 := Ow.there f3
  rw [ha] at f1 f2 f4
  have jl : j < ow.length := (List.getElem?_eq_some_iff.mp hj).1
  refine ⟨s.e0.trans kk, kh, fun a u h => ?_, fun a h1 h2 => sp a (Ex.nn s.ef h1) (s.sep a h1 h2), s.sl.mono kk, ⟨fun o ho => ?_, ?_⟩⟩
  · have hne : a ≠ p := fun z => by rw [z, f1] at h; cases h
    rw [hq a hne (ne_none_of (s.ef _ _ h))]
    exact s.ef _ _ h
  · obtain ⟨i, hi⟩ := List.getElem?_of_mem ho
    by_cases e : i = j
    · subst e
      rw [List.getElem?_set_self jl] at hi
      cases hi
      rw [hb]
      exact ⟨f1, sp p f4 f2, hp⟩
    · rw [List.getElem?_set_ne (Ne.symm e)] at hi
      obtain ⟨h1, h2, h3⟩ := s.ow.each o (List.mem_of_getElem? hi)
      have h4 := Ow.there h3
      have hne : o.ad ≠ p := fun z => e (ow_at s.ow.nd hi hj (z.trans ha.symm))
      exact ⟨h1, sp _ h4 h2, Ow.ok_mono kk (hq _ hne h4) h3⟩
  · have e : (ow.set j o2).map Ow.ad = ow.map Ow.ad := by
      rw [List.map_set]
      refine List.ext_getElem? fun i => ?_
      by_cases e : j = i
      · subst e
        rw [List.getElem?_set_self (by rw [List.length_map]; exact jl), List.getElem?_map, hj, hb, ← ha]
        rfl
      · rw [List.getElem?_set_ne e]
    rw [e]
    exact s.ow.nd
theorem S.ownG {σ : L2.St} {Kn H : Hp} {o : Ow} (s : S K F Kn0 sl ow σ Kn H) (ha : o.ad = p) (fp : F p = none) (kp : Kn p = none) (no : ∀ o ∈ ow, o.ad ≠ p) (ok : o.ok K Kn H) : S K F Kn0 sl (o :: ow) σ Kn H :=
  ⟨s.e0, s.ek, s.ef, s.sep, s.sl, ⟨fun o ho => by
    rcases List.mem_cons.mp ho with rfl | ho
    · rw [ha]
      exact ⟨fp, kp, ok⟩
    · exact s.ow.each o ho, List.nodup_cons.mpr ⟨fun h => by
      obtain ⟨o, ho, e⟩ := List.mem_map.mp h
      exact no o ho (e.trans ha), s.ow.nd⟩⟩⟩
/-- x = {} -/
theorem sb_dnewK {sl' : Addr → List Sl} (hm : Ky.ho (κ := κ) [] = HO.dK []) (hs : ∀ p, sl.set i (.at p) = sl' p) (k : ∀ p, SN K F Kn0 (sl' p) (oo p (Dc.mk ([] : List (κ × β))) :: ow) D) : SB K F Kn0 sl ow D (tAsg tDNewK (gName i)) := fun σ Kn H s p hp =>
  k p _ Kn _ (hs p ▸ ((s.grow (Gr.newU s.ek hp)).ownG (p := p) (o := oo p (Dc.mk ([] : List (κ × β)))) rfl (fresh_back s.ef hp) (fresh_back s.ek hp) (owned_ne s hp) ⟨_, upd_same, [], hm.symm, .nil⟩).seta i)
theorem sb_dnewT {sl' : Addr → List Sl} (hm : Ky.ho (κ := κ) [] = HO.dT []) (hs : ∀ p, sl.set i (.at p) = sl' p) (k : ∀ p, SN K F Kn0 (sl' p) (oo p (Dc.mk ([] : List (κ × β))) :: ow) D) : SB K F Kn0 sl ow D (tAsg tDNewT (gName i)) := fun σ Kn H s p hp =>
  k p _ Kn _ (hs p ▸ ((s.grow (Gr.newU s.ek hp)).ownG (p := p) (o := oo p (Dc.mk ([] : List (κ × β)))) rfl (fresh_back s.ef hp) (fresh_back s.ek hp) (owned_ne s hp) ⟨_, upd_same, [], hm.symm, .nil⟩).seta i)
/-- d[k] = y -/
theorem sb_dput {y : β} {d d' : Dc κ β} (hi : sl[i]? = some (.at p)) (hj : ow[j]? = some (oo p d)) (h : EV K F Kn0 sl ow te y) (hk : EV K F Kn0 sl ow tk k) (hx : putO d k y = some d') (ho : ow.set j (oo p d') = ow1) (n : SN K F Kn0 sl ow1 D) :
    SB K F Kn0 sl ow D (sDPut (tVar i) tk te) := fun σ Kn H s => h σ Kn H s _ fun v Kn1 H1 g1 r1 => by
  obtain ⟨o, h1, h2⟩ := s.sl.get hi
  refine ⟨.ref p, by rw [h1]; exact congrArg some h2, hk σ Kn1 H1 (s.grow g1) _ fun w Kn2 H2 g2 r2 => ?_⟩
  have s2 := (s.grow g1).grow g2
  obtain ⟨f1, f2, o1, f3, ws, f4, f5⟩ := s2.ow.each _ (List.mem_of_getElem? hj)
  subst f4
  unfold putO at hx
  split at hx
  · case isTrue hl =>
    cases hx
    subst ho
    refine ⟨p, _, rfl, Ky.put r2 s2.ek f3 (by rw [f5.length]; exact lt_line hl), n _ Kn2 _ ?_⟩
    exact s2.writeG hj rfl rfl (Ex.refl _) (upd_in s2.ek f2) (fun q hq _ => upd_ne hq) (fun _ _ h => h) ⟨_, upd_same, _, rfl, DK.put k (Rp.mono g2.kk r1) f5⟩
  · cases hx
/-- k in d -/
theorem ev_dinO {d : Dc κ β} (hi : sl[i]? = some (.at p)) (hj : ow[j]? = some (oo p d)) (hk : EV K F Kn0 sl ow tk k) : EV K F Kn0 sl ow (tDIn tk (tVar i)) (getD d.l k).isSome := fun σ Kn H s Q q => hk σ Kn H s _ fun v Kn1 H1 g1 r1 => by
  have s1 := s.grow g1
  obtain ⟨o, h1, h2⟩ := s1.sl.get hi
  obtain ⟨f1, f2, o1, f3, ws, f4, f5⟩ := s1.ow.each _ (List.mem_of_getElem? hj)
  subst f4
  exact ⟨.ref p, by rw [h1]; exact congrArg some h2, p, _, rfl, Ky.get r1 s1.ek (Rd.of f3), q _ Kn1 H1 g1 (congrArg V.bl (f5.some k))⟩
theorem ev_din {d : Dc κ β} (hd : EV K F Kn0 sl ow td d) (hk : EV K F Kn0 sl ow tk k) : EV K F Kn0 sl ow (tDIn tk td) (getD d.l k).isSome := fun σ Kn H s Q q => hk σ Kn H s _ fun v Kn1 H1 g1 r1 => hd σ Kn1 H1 (s.grow g1) _ fun u Kn2 H2 g2 r2 => by
  obtain ⟨p, ws, e1, e2, f5⟩ := r2
  exact ⟨p, _, e1, Ky.get (Rp.mono g2.kk r1) g2.kh (rd_ex g2.kh e2), q _ Kn2 H2 (g1.trans g2) (congrArg V.bl (f5.some k))⟩
theorem ev_dnotinO {d : Dc κ β} (hi : sl[i]? = some (.at p)) (hj : ow[j]? = some (oo p d)) (hk : EV K F Kn0 sl ow tk k) : EV K F Kn0 sl ow (tDNotIn tk (tVar i)) (!(getD d.l k).isSome) := fun σ Kn H s Q q => hk σ Kn H s _ fun v Kn1 H1 g1 r1 => by
  have s1 := s.grow g1
  obtain ⟨o, h1, h2⟩ := s1.sl.get hi
  obtain ⟨f1, f2, o1, f3, ws, f4, f5⟩ := s1.ow.each _ (List.mem_of_getElem? hj)
  subst f4
  exact ⟨.ref p, by rw [h1]; exact congrArg some h2, p, _, rfl, Ky.get r1 s1.ek (Rd.of f3), q _ Kn1 H1 g1 (congrArg (fun b => V.bl (!b)) (f5.some k))⟩
theorem ev_dnotin {d : Dc κ β} (hd : EV K F Kn0 sl ow td d) (hk : EV K F Kn0 sl ow tk k) : EV K F Kn0 sl ow (tDNotIn tk td) (!(getD d.l k).isSome) := fun σ Kn H s Q q => hk σ Kn H s _ fun v Kn1 H1 g1 r1 => hd σ Kn1 H1 (s.grow g1) _ fun u Kn2 H2 g2 r2 => by
  obtain ⟨p, ws, e1, e2, f5⟩ := r2
  exact ⟨p, _, e1, Ky.get (Rp.mono g2.kk r1) g2.kh (rd_ex g2.kh e2), q _ Kn2 H2 (g1.trans g2) (congrArg (fun b => V.bl (!b)) (f5.some k))⟩
/-- d[k] -/
theorem ev_dgetO {d : Dc κ β} {y : β} (hi : sl[i]? = some (.at p)) (hj : ow[j]? = some (oo p d)) (hk : EV K F Kn0 sl ow tk k) (hy : getD d.l k = some y) : EV K F Kn0 sl ow (tDGet (tVar i) tk) y := fun σ Kn H s Q q => by
  obtain ⟨o, h1, h2⟩ := s.sl.get hi
  refine ⟨.ref p, by rw [h1]; exact congrArg some h2, hk σ Kn H s _ fun v Kn1 H1 g1 r1 => ?_⟩
  have s1 := s.grow g1
  obtain ⟨f1, f2, o1, f3, ws, f4, f5⟩ := s1.ow.each _ (List.mem_of_getElem? hj)
  subst f4
  rcases f5.get k with ⟨h1, h2⟩ | ⟨y2, w, h1, h2, h3⟩
  · rw [h1] at hy
    cases hy
  · rw [h1] at hy
    cases hy
    exact ⟨p, w, rfl, h2 ▸ Ky.get r1 s1.ek (Rd.of f3), q w Kn1 H1 g1 h3⟩
theorem ev_dget {d : Dc κ β} {y : β} (hd : EV K F Kn0 sl ow td d) (hk : EV K F Kn0 sl ow tk k) (hy : getD d.l k = some y) : EV K F Kn0 sl ow (tDGet td tk) y := fun σ Kn H s Q q => hd σ Kn H s _ fun u Kn1 H1 g1 r1 => hk σ Kn1 H1 (s.grow g1) _ fun v Kn2 H2 g2 r2 => by
  obtain ⟨p, ws, e1, e2, f5⟩ := Rp.mono g2.kk r1
  rcases f5.get k with ⟨h1, h2⟩ | ⟨y2, w, h1, h2, h3⟩
  · rw [h1] at hy
    cases hy
  · rw [h1] at hy
    cases hy
    exact ⟨p, w, e1, h2 ▸ Ky.get r2 g2.kh (rd_ex g2.kh e2), q w Kn2 H2 (g1.trans g2) h3⟩
/-- a dict of one's own, lent -/
theorem S.borrowG {σ : L2.St} {Kn H : Hp} {d : Dc κ β} (s : S K F Kn0 sl ow σ Kn H) (hi : sl[i]? = some (.at p)) (hj : ow[j]? = some (oo p d)) : ∃ o, Kn p = none ∧ H p = some o ∧ S K F Kn0 (sl.set i (sv d)) (ow.eraseIdx j) σ (upd Kn p o) H := by
  obtain ⟨o, h1, h2⟩ := s.sl.get hi
  have h2 : o = some (.ref p) := h2
  obtain ⟨f1, f2, ob, f3, f4⟩ := s.ow.each _ (List.mem_of_getElem? hj)
  have s1 := s.sub (List.eraseIdx_sublist ow j)
  have no : ∀ o ∈ ow.eraseIdx j, o.ad ≠ p := fun o hm z => by
    obtain ⟨m, hm'⟩ := List.getElem?_of_mem hm
    rw [List.getElem?_eraseIdx] at hm'
    split at hm'
    · have := ow_at s.ow.nd hm' hj z
      omega
    · have := ow_at s.ow.nd hm' hj z
      omega
  have s2 := s1.know (o := ob) f1 f2 no f3
  have hσ : σ.set i o = σ := by
    refine List.ext_getElem? fun m => ?_
    by_cases e : i = m
    · subst e
      rw [List.getElem?_set_self (List.getElem?_eq_some_iff.mp h1).1, h1]
    · rw [List.getElem?_set_ne e]
  have s3 := s2.set (x := sv d) (o := o) i ⟨.ref p, h2, by
    obtain ⟨ws, rfl, f5⟩ := f4
    exact ⟨p, ws, rfl, Rd.of upd_same, DK.mono (Ex.new f2) f5⟩⟩
  rw [hσ] at s3
  exact ⟨ob, f2, f3, s3⟩
theorem ev_borG [Fl γ] {z : γ} {d : Dc κ β} (hi : sl[i]? = some (.at p)) (hj : ow[j]? = some (oo p d)) (hs : sl.set i (sv d) = sl') (ho : ow.eraseIdx j = ow1) (h : EV K F Kn0 sl' ow1 te z) : EV K F Kn0 sl ow te z := fun σ Kn H s Q q => by
  obtain ⟨ws, kp, hp, s1⟩ := s.borrowG hi hj
  subst hs
  subst ho
  exact h σ _ H s1 Q fun v Kn' H' g r => q v Kn H' ⟨Ex.refl _, g.hh, s.ek.trans g.hh, fun _ _ h => h⟩ (Fl.iff.mpr (Fl.iff.mp r))
theorem et_borG {tt : TT} {d : Dc κ β} (hi : sl[i]? = some (.at p)) (hj : ow[j]? = some (oo p d)) (hs : sl.set i (sv d) = sl') (ho : ow.eraseIdx j = ow1) (h : ET K F Kn0 sl' ow1 tt b) : ET K F Kn0 sl ow tt b := fun σ Kn H s Q q => by
  obtain ⟨ws, kp, hp, s1⟩ := s.borrowG hi hj
  subst hs
  subst ho
  exact h σ _ H s1 Q fun Kn' H' g => q Kn H' ⟨Ex.refl _, g.hh, s.ek.trans g.hh, fun _ _ h => h⟩
end
section
variable {X : Cx} {o i e value : Expr} {pos pos' tpos : Pos} {td ty tv : TE}
theorem k_dget (hu : X.A.units + 64 < cLine) (ho : PE X o td) (hi : PE X i ty) (hs : NoSl i) : PE X (.Subscript o i pos) (tDGet td ty) := pe_dget (by omega) ho hi hs
theorem k_din (hu : X.A.units + 64 < cLine) (hi : PE X i ty) (ho : PE X o td) : PC X .In i o (tDIn ty td) := pc_din (by omega) hi ho
theorem k_dnotin (hu : X.A.units + 64 < cLine) (hi : PE X i ty) (ho : PE X o td) : PC X .NotIn i o (tDNotIn ty td) := pc_dnotin (by omega) hi ho
theorem k_dput (hu : X.A.units + 64 < cLine) (ho : PE X o td) (hi : PE X i ty) (hv : PE X value tv) (hs : swapsWith value (some (.Subscript o i pos')) pos.line X.env = pure false) : PS X (.Assign [.Subscript o i pos'] value pos) (sDPut td ty tv) := ps_dput (by omega) ho hi hv hs
end
/-! ### a new list out of an operation with effects -/
section
variable {K : Fg} {F Kn0 : Hp} {sl : List Sl} {ow ow1 ow2 : List Ow} {α β γ : Type} [Rp α] [Rp β] [Rp γ] {ta tb : TE} {x : α} {y : β}
theorem enm_op {r : R2} {zs : List γ} (ha : EM K F Kn0 sl ow ta ow1 x) (hb : EM K F Kn0 sl ow1 tb ow2 y) (hr : R2L K r x y zs) : ENM K F Kn0 sl ow (tOp r ta tb) ow2 zs := fun σ Kn H s Q q =>
  ha σ Kn H s _ fun v Kn1 H1 e1 s1 r1 => hb σ Kn1 H1 s1 _ fun w Kn2 H2 e2 s2 r2 => hr Kn2 H2 v w s2.ek (Rp.mono e2 r1) r2 Q fun p ws Kn' H' g' hp kp hw r' =>
    q p ws Kn' H' ((e1.trans e2).trans g'.kk) (s2.grow g') (fresh_back s2.ef hp) kp (owned_ne s2 hp) hw r'
end
/-! ### a display -/
section
variable {K : Fg} {F Kn0 : Hp} {sl : List Sl} {ow : List Ow} {κ β : Type} [Rp κ] [K1 κ] [DecidableEq κ] [Rp β] {tk tv : TE} {k : κ} {y : β} {trs : List (TE × TE)} {kvs : List (κ × β)}
def EPs (K : Fg) (F Kn0 : Hp) (sl : List Sl) (ow : List Ow) (trs : List (TE × TE)) (kvs : List (κ × β)) : Prop := ∀ σ Kn H, S K F Kn0 sl ow σ Kn H → ∀ Q : List (V × V) → Hp → Prop,
  (∀ ws Kn' H', Gr Kn H Kn' H' → DK K Kn' ws kvs → Q (ws.map fun w => (kV w.1, w.2)) H') → tPairs trs σ H Q
theorem eps_nil : EPs K F Kn0 sl ow [] ([] : List (κ × β)) := fun σ Kn H s Q q => q [] Kn H (Gr.refl s.ek) .nil
theorem eps_cons (hk : EV K F Kn0 sl ow tk k) (hv : EV K F Kn0 sl ow tv y) (hr : EPs K F Kn0 sl ow trs kvs) : EPs K F Kn0 sl ow ((tk, tv) :: trs) ((k, y) :: kvs) := fun σ Kn H s Q q =>
  hk σ Kn H s _ fun v Kn1 H1 g1 r1 => hv σ Kn1 H1 (s.grow g1) _ fun w Kn2 H2 g2 r2 => hr σ Kn2 H2 ((s.grow g1).grow g2) _ fun ws Kn3 H3 g3 r3 => by
    have e := K1.iff r1
    subst e
    exact q ((K1.key k, w) :: ws) Kn3 H3 ((g1.trans g2).trans g3) (.cons ⟨rfl, Rp.mono g3.kk r2⟩ r3)
theorem DK.merge {K : Fg} {H : Hp} : ∀ {ms : List (Key × V)} {more : List (κ × β)} {ws : List (Key × V)} {kvs : List (κ × β)}, DK K H ms more → DK K H ws kvs → DK K H (mergeK ws ms) (mergeD kvs more) := by
  intro ms more ws kvs h
  unfold DK at h
  induction h generalizing ws kvs with
  | nil => exact fun h => h
  | @cons w kv ms more h t ih =>
    intro q
    refine ih ?_
    show DK K H (putK ws w.1 w.2) (putD kvs kv.1 kv.2)
    rw [h.1]
    exact DK.put kv.1 h.2 q
/-- {..}[k] -/
theorem ev_pick (hp : EPs K F Kn0 sl ow trs kvs) (hk : EV K F Kn0 sl ow tk k) (hl : kvs.length ≤ 15) (hy : getD (mergeD [] kvs) k = some y) : EV K F Kn0 sl ow (tDGet (tDisp trs) tk) y := fun σ Kn H s Q q p hp0 => by
  have g0 : Gr Kn H Kn (upd H p (.dK [])) := Gr.newU s.ek hp0
  refine hp σ Kn _ (s.grow g0) _ fun ws Kn1 H1 g1 r1 => ?_
  have e1 : H1 p = some (.dK []) := g1.hh _ _ upd_same
  have kp : Kn1 p = none := g1.sp p (ne_none_of upd_same) (fresh_back s.ek hp0)
  have g : Gr Kn H Kn1 (upd H1 p (.dK (mergeK [] ws))) := ⟨g1.kk, fun a u h => by
    have hne : a ≠ p := fun z => by rw [z, hp0] at h; cases h
    rw [upd_ne hne]
    exact g1.hh _ _ (by rw [upd_ne hne]; exact h), upd_in g1.kh kp, fun a h1 h2 => g1.sp a (Ex.nn g0.hh h1) h2⟩
  refine ⟨e1, ws, rfl, by rw [r1.length]; exact hl, hk σ Kn1 _ (s.grow g) _ fun v Kn2 H2 g2 r2 => ?_⟩
  have r3 : DK K Kn1 (mergeK [] ws) (mergeD [] kvs) := DK.merge r1 .nil
  rcases r3.get k with ⟨h1, h2⟩ | ⟨y2, w, h1, h2, h3⟩
  · rw [h1] at hy
    cases hy
  · rw [h1] at hy
    cases hy
    exact ⟨p, w, rfl, h2 ▸ Ky.get r2 g2.kh (Rd.of (g2.hh _ _ upd_same)), q w Kn2 H2 (g.trans g2) (Rp.mono g2.kk h3)⟩
end
end Wk
/-! Wdy: values of any kind (None, truths, numbers, texts, tuples and lists of these), read as data; a dict of the module; a def that calls itself -/
namespace Wk
open PySem PySem.Spec L2 Evl
mutual
inductive Dq (H : Hp) : V → PyData → Prop
  | non : Dq H .non .none
  | bl (b : Bool) : Dq H (.bl b) (.bool b)
  | int (i : Int) : Dq H (.int i) (.int i)
  | str (x : Str) : Dq H (.str x) (.str x)
  | lst {a : Addr} {xs : List V} {ds : List PyData} : H a = some (.lst xs) → DqAll H xs ds → Dq H (.ref a) (.list ds)
  | tup {a : Addr} {xs : List V} {ds : List PyData} : H a = some (.tup xs) → DqAll H xs ds → Dq H (.ref a) (.tuple ds)
inductive DqAll (H : Hp) : List V → List PyData → Prop
  | nil : DqAll H [] []
  | cons {v : V} {vs : List V} {d : PyData} {ds : List PyData} : Dq H v d → DqAll H vs ds → DqAll H (v :: vs) (d :: ds)
end
theorem Dq.swap {H H' : Hp} (e : Sw H H') {v : V} {d : PyData} (h : Dq H v d) : Dq H' v d :=
  Dq.rec (motive_1 := fun v d _ => Dq H' v d) (motive_2 := fun vs ds _ => DqAll H' vs ds) .non .bl .int .str (fun s _ ih => .lst (e.lst s) ih) (fun s _ ih => .tup (e.tup s) ih) .nil (fun _ _ h1 h2 => .cons h1 h2) h
theorem DqAll.swap {H H' : Hp} (e : Sw H H') {v : List V} {d : List PyData} (h : DqAll H v d) : DqAll H' v d :=
  DqAll.rec (motive_1 := fun v d _ => Dq H' v d) (motive_2 := fun vs ds _ => DqAll H' vs ds) .non .bl .int .str (fun s _ ih => .lst (e.lst s) ih) (fun s _ ih => .tup (e.tup s) ih) .nil (fun _ _ h1 h2 => .cons h1 h2) h
theorem Dq.dp {K : Fg} {H : Hp} {v : V} {d : PyData} (h : Dq H v d) : Dp K H v d :=
  Dq.rec (motive_1 := fun v d _ => Dp K H v d) (motive_2 := fun vs ds _ => DpAll K H vs ds) .non .bl .int .str (fun s _ ih => .lst (sq_of s) ih) (fun s _ ih => .tup (st_of s) ih) .nil (fun _ _ h1 h2 => .cons h1 h2) h
structure Dy where
  d : PyData
instance : Rp Dy := { rep := fun _ H v x => Dq H v x.d, swap := fun e h => Dq.swap e h }
/-- to data -/
class Ud (α : Type) [Rp α] where
  toD : α → PyData
  is : ∀ {K : Fg} {H : Hp} {v : V} {a : α}, rep K H v a → Dq H v (toD a)
class Us (τ : Type) [Tp τ] where
  toDs : τ → List PyData
  is : ∀ {K : Fg} {H : Hp} {vs : List V} {a : τ}, rept K H vs a → DqAll H vs (toDs a)
instance : Ud Int := ⟨.int, fun h => by cases h; exact .int _⟩
instance : Ud Bool := ⟨.bool, fun h => by cases h; exact .bl _⟩
instance : Ud Str := ⟨.str, fun h => by cases h; exact .str _⟩
instance : Ud Nn := ⟨fun _ => .none, fun h => by cases h; exact .non⟩
instance : Ud Dy := ⟨Dy.d, fun h => h⟩
instance {α : Type} [Rp α] [Ud α] : Ud (Option α) where
  toD x := match x with | none => .none | some a => Ud.toD a
  is {K H v a} h := by
    cases a with
    | none => cases h; exact .non
    | some a => exact Ud.is h.2
theorem dqAll_of {α : Type} [Rp α] [Ud α] {K : Fg} {H : Hp} : ∀ {vs : List V} {xs : List α}, Paired (rep K H) vs xs → DqAll H vs (xs.map Ud.toD)
  | _, _, .nil => .nil
  | _, _, .cons r t => .cons (Ud.is r) (dqAll_of t)
instance {α : Type} [Rp α] [Ud α] : Ud (List α) where
  toD xs := .list (xs.map Ud.toD)
  is h := by
    obtain ⟨p, vs, rfl, h1, h2⟩ := h
    exact .lst h1 (dqAll_of h2)
instance {α : Type} [Rp α] [Ud α] : Ud (Tu α) where
  toD xs := .tuple (xs.l.map Ud.toD)
  is h := by
    obtain ⟨p, vs, rfl, h1, h2⟩ := h
    exact .tup h1 (dqAll_of h2)
instance : Us Unit := ⟨fun _ => [], fun h => by cases h; exact .nil⟩
instance {α τ : Type} [Rp α] [Tp τ] [Ud α] [Us τ] : Us (α × τ) where
  toDs t := Ud.toD t.1 :: Us.toDs t.2
  is h := by
    obtain ⟨v, r, rfl, h1, h2⟩ := h
    exact .cons (Ud.is h1) (Us.is h2)
instance {α τ : Type} [Rp α] [Tp τ] [Ud α] [Us τ] : Ud (α × τ) where
  toD t := .tuple (Us.toDs (τ := α × τ) t)
  is h := by
    obtain ⟨p, vs, rfl, h1, h2⟩ := h
    exact .tup h1 (Us.is h2)
/-- out of data, where it is of the kind -/
class Od (α : Type) [Rp α] where
  of : PyData → Option α
  un : ∀ {K : Fg} {H : Hp} {v : V} {d : PyData} {a : α}, Dq H v d → of d = some a → rep K H v a
class Os (τ : Type) [Tp τ] where
  ofs : List PyData → Option τ
  un : ∀ {K : Fg} {H : Hp} {vs : List V} {ds : List PyData} {a : τ}, DqAll H vs ds → ofs ds = some a → rept K H vs a
instance : Od Int := ⟨fun d => match d with | .int i => some i | _ => none, fun h e => by cases h <;> cases e; rfl⟩
instance : Od Bool := ⟨fun d => match d with | .bool i => some i | _ => none, fun h e => by cases h <;> cases e; rfl⟩
instance : Od Str := ⟨fun d => match d with | .str i => some i | _ => none, fun h e => by cases h <;> cases e; rfl⟩
instance : Od Dy := ⟨fun d => some ⟨d⟩, fun h e => by cases e; exact h⟩
def ofAll {α : Type} [Rp α] [Od α] : List PyData → Option (List α)
  | [] => some []
  | d :: ds => (Od.of d).bind fun x => (ofAll ds).bind fun xs => some (x :: xs)
theorem ofAll_un {α : Type} [Rp α] [Od α] {K : Fg} {H : Hp} : ∀ {ds : List PyData} {vs : List V} {xs : List α}, DqAll H vs ds → ofAll ds = some xs → Paired (rep K H) vs xs
  | [], _, _, h, e => by
    cases h
    cases e
    exact .nil
  | d :: ds, _, xs, h, e => by
    cases h with
    | cons h1 h2 =>
      obtain ⟨x, ex, e⟩ := bind_some e
      obtain ⟨ys, ey, e⟩ := bind_some e
      cases e
      exact .cons (Od.un h1 ex) (ofAll_un h2 ey)
instance {α : Type} [Rp α] [Od α] : Od (Tu α) where
  of d := match d with | .tuple ds => (ofAll ds).map Tu.mk | _ => none
  un h e := by
    cases h with
    | tup h1 h2 =>
      obtain ⟨xs, e1, rfl⟩ := Option.map_eq_some_iff.mp e
      exact ⟨_, _, rfl, h1, ofAll_un h2 e1⟩
    | _ => cases e
instance {α : Type} [Rp α] [Od α] : Od (List α) where
  of d := match d with | .list ds => ofAll ds | _ => none
  un h e := by
    cases h with
    | lst h1 h2 => exact ⟨_, _, rfl, h1, ofAll_un h2 e⟩
    | _ => cases e
instance : Os Unit := ⟨fun ds => match ds with | [] => some () | _ => none, fun h e => by cases h <;> cases e; rfl⟩
instance {α τ : Type} [Rp α] [Tp τ] [Od α] [Os τ] : Os (α × τ) where
  ofs ds := match ds with | [] => none | d :: ds => (Od.of d).bind fun x => (Os.ofs ds).bind fun t => some (x, t)
  un h e := by
    cases h with
    | nil => cases e
    | cons h1 h2 =>
      obtain ⟨x, ex, e⟩ := bind_some e
      obtain ⟨t, et, e⟩ := bind_some e
      cases e
      exact ⟨_, _, rfl, Od.un h1 ex, Os.un h2 et⟩
instance {α τ : Type} [Rp α] [Tp τ] [Od α] [Os τ] : Od (α × τ) where
  of d := match d with | .tuple ds => Os.ofs (τ := α × τ) ds | _ => none
  un h e := by
    cases h with
    | tup h1 h2 => exact ⟨_, _, rfl, h1, Os.un h2 e⟩
    | _ => cases e
def ofD {α : Type} [Rp α] [Od α] (x : Dy) : Option α := Od.of x.d
def upD {α : Type} [Rp α] [Ud α] (x : α) : Dy := ⟨Ud.toD x⟩
def eqYO (a b : Dy) : Option Bool := if SeqAt.shaped a.d = true ∧ SeqAt.shaped b.d = true then some (PyData.eqv a.d b.d) else none
section
variable {K : Fg} {F Kn0 : Hp} {sl sl' : List Sl} {ow ow1 : List Ow} {α β τ : Type} [Rp α] [Rp β] [Tp τ] {te tk : TE} {x : Dy}
theorem ev_of [Od α] {y : α} (h : EV K F Kn0 sl ow te x) (e : ofD x = some y) : EV K F Kn0 sl ow te y := fun σ Kn H s Q q => h σ Kn H s Q fun v Kn' H' g r => q v Kn' H' g (Od.un r e)
theorem ev_up [Ud α] {y : α} (h : EV K F Kn0 sl ow te y) : EV K F Kn0 sl ow te (upD y) := fun σ Kn H s Q q => h σ Kn H s Q fun v Kn' H' g r => q v Kn' H' g (Ud.is r)
theorem em_up [Ud α] {y : α} (h : EM K F Kn0 sl ow te ow1 y) : EM K F Kn0 sl ow te ow1 (upD y) := fun σ Kn H s Q q => h σ Kn H s Q fun v Kn' H' e s' r => q v Kn' H' e s' (Ud.is r)
/-- a list, where a list is read -/
theorem ev_fz {xs : List α} (h : EV K F Kn0 sl ow te xs) : EV K F Kn0 sl ow te (Fz.mk xs) := fun σ Kn H s Q q => h σ Kn H s Q fun v Kn' H' g r => by
  obtain ⟨p, vs, rfl, h1, h2⟩ := r
  exact q _ Kn' H' g ⟨p, vs, rfl, sq_of h1, h2⟩
theorem r2_eqY {a b : Dy} {c : Bool} (h : eqYO a b = some c) : R2V K (rEqD K) a b c := fun Kn H v w ek h1 h2 Q q => by
  unfold eqYO at h
  split at h
  case isFalse => cases h
  rename_i hb
  cases h
  exact ⟨a.d, b.d, dp_mono ek (Dq.dp h1), dp_mono ek (Dq.dp h2), hb.1, hb.2, q.fl ek⟩
theorem r2_neY {a b : Dy} {c : Bool} (h : eqYO a b = some c) : R2V K (rNeD K) a b (!c) := fun Kn H v w ek h1 h2 Q q => by
  unfold eqYO at h
  split at h
  case isFalse => cases h
  rename_i hb
  cases h
  exact ⟨a.d, b.d, dp_mono ek (Dq.dp h1), dp_mono ek (Dq.dp h2), hb.1, hb.2, q.fl ek⟩
/-- D[k], D a dict of the module -/
theorem ev_kd {w : World} {p : Addr} {tab : List (Str × Str)} {k z : Str} (ht : ∀ kv ∈ tab, KDct K w p kv.1 (.str kv.2)) (hk : EV K F Kn0 sl ow tk k) (hz : getD tab k = some z) : EV K F Kn0 sl ow (tOp (rIxD K w) (tC (.ref p)) tk) z := fun σ Kn H s Q q =>
  hk σ Kn H s _ fun v Kn1 H1 g1 r1 => by
    cases r1
    unfold getD at hz
    obtain ⟨kv, hf, rfl⟩ := Option.map_eq_some_iff.mp hz
    have hk2 := List.find?_some hf
    rw [decide_eq_true_eq] at hk2
    have := ht kv (List.mem_of_find?_eq_some hf)
    rw [hk2] at this
    exact ⟨p, _, _, rfl, rfl, this, q _ Kn1 H1 g1 rfl⟩
theorem k_ixkd {X : Cx} {w : World} (h : X.K = K := by rfl) (hw : X.w = w := by rfl) : IxR X (rIxD K w) := by
  subst h
  subst hw
  exact ix_kdict


end
theorem fnok_none {P : Program} {w : World} {K : Fg} {mg : Str → Option Value} {base : Heap} {CX : CXT} {k : Nat} {f : Addr} {fd : FuncData} {ps : List Str} {τ α : Type} [Tp τ] [Rp α] : FnOk P w K mg base CX k f fd ps (PF K (fun _ : τ => (none : Option α))) := by
  refine ⟨fun vs H Q E h => ?_, fun A outer s H args us vs Q E hr he hb hv h => ?_⟩
  · obtain ⟨_, _, _, _, _, h, _⟩ := h
    cases h
  · obtain ⟨_, _, _, _, _, h, _⟩ := h
    cases h
theorem fnok_noneL {P : Program} {w : World} {K : Fg} {mg : Str → Option Value} {base : Heap} {CX : CXT} {k : Nat} {f : Addr} {fd : FuncData} {ps : List Str} {τ α : Type} [Tp τ] [Rp α] : FnOk P w K mg base CX k f fd ps (PL K (fun _ : τ => (none : Option (List α)))) := by
  refine ⟨fun vs H Q E h => ?_, fun A outer s H args us vs Q E hr he hb hv h => ?_⟩
  · obtain ⟨_, _, _, _, _, h, _⟩ := h
    cases h
  · obtain ⟨_, _, _, _, _, h, _⟩ := h
    cases h
end Wk
/-! Wupd: dict(pairs) and d.update(d2) with tuple keys. -/
namespace L2
open PySem PySem.Spec PyProof.Rows
def mergeT (kvs more : List (List Key × V)) : List (List Key × V) := more.foldl (fun acc kv => putK acc kv.1 kv.2) kvs
theorem length_mergeT : ∀ (more kvs : List (List Key × V)), (mergeT kvs more).length ≤ kvs.length + more.length
  | [], kvs => Nat.le_refl _
  | p :: r, kvs => by
    have h1 := length_mergeT r (putK kvs p.1 p.2)
    have h2 := length_putK kvs p.1 p.2
    show (mergeT (putK kvs p.1 p.2) r).length ≤ _
    rw [List.length_cons]
    omega
theorem KT.merge {H : Hp} : ∀ {more : List (List Key × V)} {ms : List (List Key × Addr × Value)} {kvs : List (List Key × V)} {xs : List (List Key × Addr × Value)}, KT H more ms → KT H kvs xs → KT H (mergeT kvs more) (storedAllH xs ms) := by
  intro more ms kvs xs r
  unfold KT at r
  induction r generalizing kvs xs with
  | nil => intro q; exact q
  | @cons p q ps qs h t ih =>
    intro r0
    have e : KT H (putK kvs p.1 p.2) (storedH xs q.1 q.2.1 q.2.2) := by
      have := r0.put p.1 h.2.1 h.2.2
      rw [← h.1]
      exact this
    exact ih e
section
variable {X : Cx} {pins : List (Addr × Obj)} {σ : St} {H : Hp} {s : Shared}
theorem pairsT_of (I : Inv X pins σ H s) : ∀ {ps : List Addr} {kvs : List (List Key × V)}, Paired (fun p kv => ∃ b, SqT X.K H p [.ref b, kv.2] ∧ H b = some (.tup (kv.1.map kV))) ps kvs →
    ∃ ms : List (List Key × Addr × Value), KT H kvs ms ∧ ms.length = ps.length ∧ ∀ (j : Nat) (m : List Key × Addr × Value), ms[j]? = some m → ∃ p : Addr, ps[j]? = some p ∧ IsTup s.heap p #[.ref m.2.1, m.2.2]
  | _, _, .nil => ⟨[], .nil, rfl, fun j q e => by simp at e⟩
  | _, _, .cons (a := p) (b := kv) h t => by
    obtain ⟨ms, r, hl, hp⟩ := pairsT_of I t
    obtain ⟨b, h1, h2⟩ := h
    obtain ⟨its, rv, ht, _⟩ := I.tuple h1
    obtain ⟨u, y, ei, ru, ry⟩ := vals2 rv
    subst ei
    cases ru
    refine ⟨(kv.1, b, y) :: ms, .cons ⟨rfl, h2, ry⟩ r, by rw [List.length_cons, List.length_cons, hl], fun j m e => ?_⟩
    cases j with
    | zero =>
      have e' : (kv.1, b, y) = m := Option.some.inj e
      subst e'
      exact ⟨p, rfl, ht⟩
    | succ j =>
      obtain ⟨p', e1, e2⟩ := hp j m (by simpa using e)
      exact ⟨p', by simpa using e1, e2⟩
theorem KT.is_all (I : Inv X pins σ H s) : ∀ {kvs : List (List Key × V)} {ms : List (List Key × Addr × Value)}, KT H kvs ms → ∀ x ∈ ms, (tupleKind (mixKind X.prog X.w)).is s.heap x.1 x.2.1 := by
  intro kvs ms q
  unfold KT at q
  induction q with
  | nil => intro x hx; exact nomatch hx
  | @cons p q ps qs hq t ih =>
    intro x hx
    rcases List.mem_cons.mp hx with e | hx
    · subst e
      exact key_of I.hok (by rw [← hq.1]; exact hq.2.1)
    · exact ih x hx
theorem key_stays {P : Program} {w : World} {h h' : Heap} {k : List Key} {b : Addr} (x : (tupleKind (mixKind P w)).is h k b) (e : ∀ o, h.get? b = some o → h'.get? b = some o) : (tupleKind (mixKind P w)).is h' k b := by
  obtain ⟨o, its, n, h1, h2, h3, h4⟩ := x
  exact ⟨o, its, n, e _ h1, h2, h3, h4⟩
theorem key_there {P : Program} {w : World} {h : Heap} {k : List Key} {b : Addr} (x : (tupleKind (mixKind P w)).is h k b) : b < h.objs.size := by
  obtain ⟨o, its, n, h1, h2, h3, h4⟩ := x
  exact Heap.lt_size h1
end
section
variable {X : Cx}
/-- dict(xs), xs a list of pairs whose keys are tuples -/
def rDictT (K : PySem.W.Frag) : List V → Hp → VK → Prop := fun xs H Q => ∃ (a : Addr) (ps : List Addr) (kvs : List (List Key × V)), xs = [.ref a] ∧ SqL K H a (ps.map V.ref) ∧ Paired (fun p kv => ∃ b, SqT K H p [.ref b, kv.2] ∧ H b = some (.tup (kv.1.map kV))) ps kvs ∧
    ∀ p, H p = none → Q (.ref p) (upd H p (.dT (mergeT [] kvs)))
theorem cr_dictT (hcalm : X.calm = true) (hu : X.A.units + 64 < cLine) : CallR X (.type "dict") (rDictT X.K) := by
  intro pins s σ H xs us Q I r q
  obtain ⟨a, ps, kvs, ex, hq, hp, q⟩ := q
  subst ex
  rw [Vals.ref1 r]
  obtain ⟨its, rv, pl, hz⟩ := I.list hq
  have ei := refs_at rv
  subst ei
  rw [List.length_map] at hz
  obtain ⟨ms, rel, hl, hpr⟩ := pairsT_of I hp
  obtain ⟨o, n, ho, hc, hd, hdat⟩ := pl
  have hall := KT.is_all I rel
  have hprs : (ms.map fun m => ((Value.ref m.2.1, m.2.2) : Value × Value)).length = ms.length := List.length_map _
  refine call_dict_pairsH (knd := tupleKind (mixKind X.prog X.w)) (ps := ms) (PairArg.list a (ps.map Value.ref).toArray (fun j => ps.getD j 0) (ms.map fun m => ((Value.ref m.2.1, m.2.2) : Value × Value))) (I.ok.hd hcalm)
    (show X.A.units + 1 + 1 < cLine by omega) ⟨⟨o, n, ho, hc, hd, hdat⟩, by simp [hl], fun j k v e => ?_⟩ ⟨by rw [hprs], fun i key v e => ?_⟩ (fun h' hk x hx => ?_) (by rw [hprs, hl]; exact hz) fun h' tk dd' k => ?_
  · rw [List.getElem?_map] at e
    cases em : ms[j]? with
    | none => rw [em] at e; cases e
    | some m =>
      rw [em] at e
      cases e
      obtain ⟨p, e1, e2⟩ := hpr j m em
      have eg : ps.getD j 0 = p := by rw [List.getD_eq_getElem?_getD, e1]; rfl
      refine ⟨by simp [e1], ?_⟩
      show PairAt s.heap (ps.getD j 0) _ _
      rw [eg]
      exact .inl e2
  · have e : (ms.map fun m => ((Value.ref m.2.1, m.2.2) : Value × Value))[i]? = some (key, v) := e
    rw [List.getElem?_map] at e
    cases em : ms[i]? with
    | none => rw [em] at e; cases e
    | some m =>
      rw [em] at e
      cases e
      exact ⟨m.1, m.2.1, rfl, rfl⟩
  · exact key_stays (hall x hx) fun o e => hk _ o (Nat.ne_of_lt (key_there (hall x hx))) (by simp) e
  · have hm : (s.heap.objs.size == sysModules) = false := beq_eq_false_iff_ne.mpr (Nat.ne_of_gt I.big)
    have hlen : (mergeT [] kvs).length ≤ sizeLine := by
      refine Nat.le_trans (length_mergeT kvs []) ?_
      rw [List.length_nil, Nat.zero_add, Paired.length rel, hl]
      exact hz
    have hf : H s.heap.objs.size = none := I.hok.fresh (Nat.le_refl _)
    obtain ⟨ob, es, ep, hq2, h2, h3, h4, _, h5⟩ := dd'
    have rel2 : KT (upd H s.heap.objs.size (.dT (mergeT [] kvs))) (mergeT [] kvs) (storedAllH [] ms) := (KT.merge rel .nil).keeps fun b ys e => by
      rw [upd_ne (ne_of_none e hf)]
      exact e
    exact ⟨.ref s.heap.objs.size, upd H s.heap.objs.size (.dT (mergeT [] kvs)), I.laid (t' := tk) (fun b o e => k b o (by simp) e) (Nat.le_refl _) ⟨hlen, hm, _, rel2, ob, es, ep, hq2, h2, h3, h4, h5⟩, rfl, q _ hf⟩
/-- d.update(d2), both with tuple keys -/
def rUpdT (P : Program) (w : World) : V → List V → Hp → VK → Prop := fun x xs H Q => ∃ (a o : Addr) (kvs more : List (List Key × V)), x = .ref a ∧ xs = [.ref o] ∧ H a = some (.dT kvs) ∧ H o = some (.dT more) ∧ a ≠ o ∧ kvs.length + more.length ≤ sizeLine ∧
  (kvs ≠ [] ∨ (more.map fun kv => tupleKeyHash (mixKind P w) kv.1).Nodup) ∧ Q .non (upd H a (.dT (mergeT kvs more)))
theorem mt_updT (hu : X.A.units + 64 < cLine) : MtR X "dict.update" (rUpdT X.prog X.w) := by
  intro pins s σ H x xs v us Q I rx rxs h
  obtain ⟨a, o, kvs, more, rfl, rfl, ha, ho, hao, hsz, hap, q⟩ := h
  cases rx
  rw [Vals.ref1 rxs]
  obtain ⟨z1, hd1, xs1, rel1, dd1⟩ := dt_of I.hok ha
  obtain ⟨z2, hd2, xs2, rel2, dd2⟩ := dt_of I.hok ho
  have l1 := Paired.length rel1
  have l2 := Paired.length rel2
  have hall := KT.is_all I rel2
  refine call_update_dictH (knd := tupleKind (mixKind X.prog X.w)) (show X.A.units + 1 < cLine by omega) hao hd2 dd1 dd2 ?_ (by rw [← l1, ← l2]; exact hsz) fun h' dd' _ hs => ?_
  · rcases hap with h | h
    · refine .inl fun e => h ?_
      rw [e] at l1
      exact List.length_eq_zero_iff.mp l1
    · refine .inr ⟨fun x hx => IsTupleKey.typeIs (hall x hx), ?_⟩
      have e : xs2.map (fun x => (tupleKind (mixKind X.prog X.w)).hash x.1) = more.map fun kv => tupleKeyHash (mixKind X.prog X.w) kv.1 := by
        clear h hsz l1 l2 hall dd2 ho q z2
        unfold KT at rel2
        induction rel2 with
        | nil => rfl
        | cons h t ih =>
          rw [List.map_cons, List.map_cons, ih, h.1]
          rfl
      rw [e]
      exact h
  · have hlen : (mergeT kvs more).length ≤ sizeLine := Nat.le_trans (length_mergeT more kvs) hsz
    obtain ⟨ob, es, ep, hq2, h2, h3, h4, _, h5⟩ := dd'
    have rel3 : KT (upd H a (.dT (mergeT kvs more))) (mergeT kvs more) (storedAllH xs1 xs2) := (KT.merge rel2 rel1).keeps fun c ys ec => by
      rw [upd_ne (ne_of ec ha (fun z => nomatch z))]
      exact ec
    exact ⟨.non, upd H a (.dT (mergeT kvs more)), d_write (ob := .dT (mergeT kvs more)) (t' := s.toks) I (by rw [ha]; exact True.intro) hs ⟨ob, hq2⟩ ⟨hlen, hd1, _, rel3, ob, es, ep, hq2, h2, h3, h4, h5⟩, rfl, q⟩
end
end L2
namespace Wk
open PySem PySem.Spec L2 Evl
abbrev C2 := Int × Int × Unit
def hash2 (x : C2) : Int := reduceHash (Builtin.Tuple.tupleHashOf [hashInt x.1, hashInt x.2.1])
def prs {β : Type} (more : List (C2 × β × Unit)) : List (C2 × β) := more.map fun t => (t.1, t.2.1)
open Classical in
noncomputable def updO {β : Type} (d : Dc C2 β) (more : List (C2 × β × Unit)) : Option (Dc C2 β) :=
  if d.l.length + more.length ≤ 900000 ∧ (d.l ≠ [] ∨ ((mergeD [] (prs more)).map fun t => hash2 t.1).Nodup) then some ⟨mergeD d.l (mergeD [] (prs more))⟩ else none
section
variable {K : Fg} {F Kn0 : Hp} {sl : List Sl} {ow ow1 : List Ow} {β : Type} [Rp β] {te : TE} {D : Ends} {i j : Nat} {p : Addr} {P : Program} {w : World}
theorem prs_of {Kn H : Hp} (e : Ex Kn H) : ∀ {vs : List V} {more : List (C2 × β × Unit)}, Paired (rep K Kn) vs more → ∃ (ps : List Addr) (kvs : List (List Key × V)), vs = ps.map V.ref ∧
    Paired (fun p kv => ∃ b, SqT K H p [.ref b, kv.2] ∧ H b = some (.tup (kv.1.map kV))) ps kvs ∧ DK (κ := C2) K Kn kvs (prs more)
  | _, _, .nil => ⟨[], [], rfl, .nil, .nil⟩
  | _, _, .cons (a := v) (b := t) h r => by
    obtain ⟨ps, kvs, e1, e2, e3⟩ := prs_of e r
    obtain ⟨q, ws, rfl, hq, kv, rest, rfl, hk, yv, rest2, rfl, hy, hu⟩ := h
    cases hu
    obtain ⟨b, us, rfl, hb, h3⟩ := hk
    have hus : us = (KT1.keys t.1).map kV := KT1.iff (τ := C2) h3
    subst hus
    refine ⟨q :: ps, (KT1.keys t.1, yv) :: kvs, by rw [e1]; rfl, .cons ⟨b, st_of (e _ _ hq), e _ _ hb⟩ e2, .cons ⟨rfl, hy⟩ e3⟩
theorem DK.mergeT {Kn : Hp} : ∀ {ms : List (List Key × V)} {more : List (C2 × β)} {ws : List (List Key × V)} {kvs : List (C2 × β)}, DK (κ := C2) K Kn ms more → DK (κ := C2) K Kn ws kvs → DK (κ := C2) K Kn (L2.mergeT ws ms) (mergeD kvs more) := by
  intro ms more ws kvs h
  unfold DK at h
  induction h generalizing ws kvs with
  | nil => exact fun h => h
  | @cons w kv ms more h t ih =>
    intro q
    refine ih ?_
    show DK (κ := C2) K Kn (putK ws w.1 w.2) (putD kvs kv.1 kv.2)
    rw [h.1]
    exact DK.put kv.1 h.2 q
theorem DK.hash {Kn : Hp} : ∀ {ms : List (List Key × V)} {more : List (C2 × β)}, DK (κ := C2) K Kn ms more → (ms.map fun kv => tupleKeyHash (mixKind P w) kv.1) = more.map fun t => hash2 t.1 := by
  intro ms more h
  unfold DK at h
  induction h with
  | nil => rfl
  | cons h t ih =>
    rw [List.map_cons, List.map_cons, ih, h.1]
    rfl
theorem sb_upd {d d' : Dc C2 β} {more : List (C2 × β × Unit)} (hi : sl[i]? = some (.at p)) (hj : ow[j]? = some (oo p d)) (h : EV K F Kn0 sl ow te more) (hx : updO d more = some d') (ho : ow.set j (oo p d') = ow1) (n : SN K F Kn0 sl ow1 D) :
    SB K F Kn0 sl ow D (tDrop (tBM K "dict" (rUpdT P w) (tVar i) (tCons (tCB (rDictT K) (tCons te tNil)) tNil))) := fun σ Kn H s => by
  obtain ⟨o, h1, h2⟩ := s.sl.get hi
  obtain ⟨f1, f2, o1, f3, ws, f4, f5⟩ := s.ow.each _ (List.mem_of_getElem? hj)
  subst f4
  have f3 : H p = some (.dT ws) := f3
  unfold updO at hx
  split at hx
  · case isTrue hc =>
    cases hx
    subst ho
    refine ⟨.ref p, by rw [h1]; exact congrArg some h2, .inr (.inr (.inl ⟨rfl, .inr ⟨ws, f3⟩⟩)), h σ Kn H s _ fun v Kn1 H1 g1 r1 => ?_⟩
    obtain ⟨a, vs, rfl, ha, hv⟩ := r1
    obtain ⟨ps, kvs, rfl, e2, e3⟩ := prs_of g1.kh hv
    refine ⟨a, ps, kvs, rfl, sq_of (g1.kh _ _ ha), e2, fun p2 hp2 => ?_⟩
    have s1 := s.grow g1
    have g2 : Gr Kn1 H1 Kn1 (upd H1 p2 (.dT (L2.mergeT [] kvs))) := Gr.newU g1.kh hp2
    have s2 := s1.grow g2
    have hp1 : H1 p = some (.dT ws) := g1.hh _ _ f3
    have hne : p ≠ p2 := fun z => by
      rw [z, hp2] at hp1
      cases hp1
    have hH2 : (upd H1 p2 (.dT (L2.mergeT [] kvs))) p = some (.dT ws) := by
      rw [upd_ne hne]
      exact hp1
    have f6 : DK (κ := C2) K Kn1 ws d.l := DK.mono g1.kk f5
    have e4 : DK (κ := C2) K Kn1 (L2.mergeT [] kvs) (mergeD [] (prs more)) := DK.mergeT e3 .nil
    have l1 : ws.length = d.l.length := f6.length
    have l2 : kvs.length = more.length := by
      rw [e3.length]
      exact List.length_map _
    have l3 := length_mergeT kvs []
    rw [List.length_nil] at l3
    have kp : Kn1 p = none := g1.sp p (ne_none_of f3) f2
    refine ⟨p, p2, ws, L2.mergeT [] kvs, rfl, rfl, hH2, upd_same, hne, ?_, ?_, n _ Kn1 _ ?_⟩
    · have hs : sizeLine ≥ 1000000 := by rw [sizeLine_eq]; decide
      omega
    · rcases hc.2 with hc | hc
      · refine .inl fun z => hc ?_
        rw [z] at l1
        exact List.length_eq_zero_iff.mp l1.symm
      · refine .inr ?_
        rw [DK.hash e4]
        exact hc
    · exact s2.writeG hj rfl rfl (Ex.refl _) (upd_in s2.ek kp) (fun q hq _ => upd_ne hq) (fun _ _ h => h) ⟨_, upd_same, _, rfl, DK.mergeT e4 f6⟩
  · cases hx
end
section
variable {X : Cx} {K : Fg} {P : Program} {w : World}
theorem k_dictT (hu : X.A.units + 64 < cLine) (hc : X.calm = true := by rfl) (h : X.K = K := by rfl) : CallR X (.type "dict") (rDictT K) := by
  subst h
  exact cr_dictT hc hu
theorem k_updT (hu : X.A.units + 64 < cLine) (h : X.prog = P := by rfl) (hw : X.w = w := by rfl) : MtR X "dict.update" (rUpdT P w) := by
  subst h
  subst hw
  exact mt_updT hu
end
end Wk
namespace Wk
open PySem PySem.Spec L2 Evl
/-- a list with a None put behind -/
structure Nx (α : Type) where
  l : List α
section
variable {K : Fg} {F Kn0 : Hp} {sl : List Sl} {ow ow1 : List Ow} {α γ : Type} [Rp α] [Rp γ] {te : TE} {D : Ends} {i j : Nat} {p : Addr}
instance obNx : Ob (Nx α) where
  ob K H o x := ∃ ws, o = .lst (ws ++ [.non]) ∧ Paired (rep K H) ws x.l
  swap e h := by
    obtain ⟨ws, h1, h2⟩ := h
    exact ⟨ws, h1, paired_swap e h2⟩
theorem sb_appN {xs : List α} (hi : sl[i]? = some (.at p)) (hj : ow[j]? = some (ol p xs)) (h : EV K F Kn0 sl ow te Nn.nn) (hz : (if xs.length < 1000000 then some () else none) = some ()) (ho : ow.set j (oo p (Nx.mk xs)) = ow1) (k : SN K F Kn0 sl ow1 D) :
    SB K F Kn0 sl ow D (tDrop (tBM K "list" rAppend (tVar i) (tCons te tNil))) := fun σ Kn H s => by
  obtain ⟨o, h1, h2⟩ := s.sl.get hi
  obtain ⟨f1, f2, ws, f3, f4⟩ := s.ow.each _ (List.mem_of_getElem? hj)
  have hz : xs.length < 1000000 := by
    by_cases e : xs.length < 1000000
    · exact e
    · rw [if_neg e] at hz
      cases hz
  refine ⟨.ref p, by rw [h1]; exact congrArg some h2, Or.inl ⟨rfl, ws, sq_of f3⟩, h σ Kn H s _ fun v Kn1 H1 g1 r1 => ?_⟩
  cases r1
  refine ⟨p, ws, .non, rfl, rfl, g1.hh _ _ f3, by rw [paired_len f4]; exact lt_line hz, k _ Kn1 _ ?_⟩
  have kp1 : Kn1 p = none := g1.sp p (ne_none_of f3) f2
  subst ho
  exact (s.grow g1).writeG hj rfl rfl (Ex.refl _) (upd_in g1.kh kp1) (fun q hq _ => upd_ne hq) (fun _ _ h => h) ⟨_, upd_same, ws, rfl, paired_mono g1.kk f4⟩
theorem cut_snoc (ws : List V) (v : V) : cut (ws ++ [v]) none (some (-(1 : Int))) = ws := by
  unfold cut
  rw [HT.sIx_none, List.drop_zero, Nat.sub_zero]
  have e : HT.sIx (ws ++ [v]).length (ws ++ [v]).length (some (-(1 : Int))) = (-(1 : Int) + ((ws ++ [v]).length : Int)).toNat := rfl
  rw [e, List.length_append, List.length_singleton, show (-(1 : Int) + ((ws.length + 1 : Nat) : Int)).toNat = ws.length by omega]
  exact List.take_left
theorem en_slN {xs : List α} {tl th : TO} (hx : sl[i]? = some (.at p)) (hj : ow[j]? = some (oo p (Nx.mk xs))) (hl : EO K F Kn0 sl ow tl none) (hh : EO K F Kn0 sl ow th (some (-(1 : Int)))) : EN K F Kn0 sl ow (tSl (rSlL K) (tVar i) tl th) xs := fun σ Kn H s Q q => by
  obtain ⟨o, h1, h2⟩ := s.sl.get hx
  obtain ⟨f1, f2, o1, f3, ws, f4, f5⟩ := s.ow.each _ (List.mem_of_getElem? hj)
  subst f4
  have f3 : H p = some (.lst (ws ++ [.non])) := f3
  refine ⟨.ref p, by rw [h1]; exact congrArg some h2, hl σ Kn H s _ fun Kn2 H2 g2 => hh σ Kn2 H2 (s.grow g2) _ fun Kn3 H3 g3 => ?_⟩
  have g := g2.trans g3
  refine ⟨p, ws ++ [.non], rfl, sq_of (g.hh _ _ f3), fun l hl => ?_⟩
  have e : cutV (ws ++ [V.non]) none (some (-(1 : Int))) = ws := cut_snoc ws .non
  exact q l _ Kn3 _ (g.trans (Gr.newU g3.kh hl)) (fresh_back g.hh hl) (fresh_back g3.kh hl) upd_same (by rw [e]; exact paired_mono g.kk f5)
end
end Wk
namespace Wk
open PySem PySem.Spec L2 Evl
/-- more is untouched -/
def Fle (F F' : Hp) : Prop := Ex F F'
section
variable {K : Fg} {F F' Kn0 : Hp} {sl sl' : List Sl} {ow ow0 ow1 : List Ow} {α γ : Type} [Rp α] [Rp γ] {D : Ends} {i j : Nat} {p : Addr}
theorem S.back {σ : L2.St} {Kn H : Hp} (f : Fle F F') (s : S K F' Kn0 sl ow σ Kn H) : S K F Kn0 sl ow σ Kn H :=
  ⟨s.e0, s.ek, Ex.trans f s.ef, fun q h1 h2 => s.sep q (Ex.nn f h1) h2, s.sl, ⟨fun o ho => by
    obtain ⟨h1, h2, h3⟩ := s.ow.each o ho
    exact ⟨fresh_back f h1, h2, h3⟩, s.ow.nd⟩⟩
theorem RT.fr {R : VK} {x : γ} (f : Fle F F') (q : RT K F Kn0 ow0 R x) : RT K F' Kn0 ow0 R x := fun v Kn H s r => q v Kn H (s.back f) r
theorem RN.fr {R : VK} {xs : List γ} (f : Fle F F') (q : RN K F Kn0 ow0 R xs) : RN K F' Kn0 ow0 R xs := fun p ws Kn H s fp kp hp r => q p ws Kn H (s.back f) (fresh_back f fp) kp hp r
/-- for x in xs, xs one's own, not touched on the way and one's own behind it -/
theorem sb_forO {g : TG} {tb : TS} {Sx : Type} {xs : List α} (hi : sl[i]? = some (.at p)) (hj : ow[j]? = some (ol p xs)) (ho : ow.eraseIdx j = ow1)
    (slx : Sx → List Sl) (owx : Sx → List Ow) (gx : α → Sx → List Sl) (js : List Nat) (P : List α → Sx → Prop) (s0 : Sx) (h0 : P xs s0) (le : SlLe sl (slx s0)) (eo : (owx s0).Sublist ow1)
    (hg : ∀ x s, GT K g (slx s) (gx x s) js x)
    (step : ∀ F', Fle F F' → ∀ Kn1, Bs F' Kn0 Kn1 → ∀ x rest s, P (x :: rest) s → ∀ N : L2.St → Hp → Prop, (∀ s', P rest s' → ∀ σ Kn H, S K F' Kn1 (slx s') (owx s') σ Kn H → N σ H) → SB K F' Kn1 (gx x s) (owx s) { D with nx := N, ct := N, bk := D.nx } tb)
    (done : ∀ s, P [] s → SN K F Kn0 (slx s) (ol p xs :: owx s) D) : SB K F Kn0 sl ow D (tFor (iList K (tVar i)) g tb) := fun σ Kn H s => by
  obtain ⟨o, h1, h2⟩ := s.sl.get hi
  obtain ⟨f1, f2, ws, f3, f4⟩ := s.ow.each _ (List.mem_of_getElem? hj)
  have f1 : F p = none := f1
  have f2 : Kn p = none := f2
  have fl : Fle F (upd F p (.lst ws)) := Ex.new f1
  have s1 := s.sub (List.eraseIdx_sublist ow j)
  have no : ∀ o ∈ ow.eraseIdx j, o.ad ≠ p := fun o hm z => by
    obtain ⟨m, hm'⟩ := List.getElem?_of_mem hm
    rw [List.getElem?_eraseIdx] at hm'
    split at hm'
    · have := ow_at s.ow.nd hm' hj z
      omega
    · have := ow_at s.ow.nd hm' hj z
      omega
  have s2 : S K (upd F p (.lst ws)) Kn0 sl (ow.eraseIdx j) σ Kn H := ⟨s1.e0, s1.ek, fun a u h => by
    by_cases hq : a = p
    · subst hq
      rw [upd_same] at h
      rw [← h]
      exact f3
    · rw [upd_ne hq] at h
      exact s1.ef _ _ h, fun q h1 h2 => by
    by_cases hq : q = p
    · rw [hq]
      exact f2
    · rw [upd_ne hq] at h1
      exact s1.sep q h1 h2, s1.sl, ⟨fun o ho => by
        obtain ⟨a1, a2, a3⟩ := s1.ow.each o ho
        refine ⟨?_, a2, a3⟩
        rw [upd_ne (no o ho)]
        exact a1, s1.ow.nd⟩⟩
  have b : Bs (upd F p (.lst ws)) Kn0 Kn := s2.bs
  refine ⟨.ref p, by rw [h1]; exact congrArg some h2, p, rfl, ⟨ws, sq_of f3⟩, ?_⟩
  refine ⟨fun i m σ H => i + m = xs.length ∧ ∃ Kn2 s, P (xs.drop i) s ∧ S K (upd F p (.lst ws)) Kn (slx s) (owx s) σ Kn2 H, ⟨xs.length, by omega, Kn, s0, h0, (s2.rebase.le le).sub (ho ▸ eo)⟩, fun i m σ H hW => ?_⟩
  obtain ⟨em, Kn2, st, hP, hS⟩ := hW
  have hp2 : H p = some (.lst ws) := hS.ef _ _ upd_same
  have f5 : Paired (rep K Kn2) ws xs := paired_mono hS.e0 f4
  by_cases hlt : i < xs.length
  · have hx : xs[i]? = some xs[i] := List.getElem?_eq_getElem hlt
    have hd : xs.drop i = xs[i] :: xs.drop (i + 1) := List.drop_eq_getElem_cons hlt
    rw [hd] at hP
    obtain ⟨v, hv, rv⟩ := paired_at f5 hx
    refine .inr ⟨⟨ws, v, sq_of hp2, hv⟩, fun σ' H' => ∃ Kn2 s, P (xs.drop (i + 1)) s ∧ S K (upd F p (.lst ws)) Kn (slx s) (owx s) σ' Kn2 H', fun σ' H' ⟨Kn', s', h1, h2⟩ => ⟨m - 1, by omega, by omega, Kn', s', h1, h2⟩, fun u H' hy => ?_⟩
    obtain ⟨rfl, f⟩ := hy
    have : v = u := Option.some.inj (hv.symm.trans (f ws (sq_of hp2)))
    subst this
    refine hg _ st σ Kn2 H' v hS.sl hS.ek rv _ fun σ2 h2 _ => ?_
    exact step _ fl Kn b _ _ st hP _ (fun s' hs' σ Kn2 H hS' => ⟨Kn2, s', hs', hS'⟩) σ2 Kn2 H' ⟨hS.e0, hS.ek, hS.ef, hS.sep, h2, hS.ow⟩
  · have hd : xs.drop i = [] := List.drop_eq_nil_of_le (by omega)
    rw [hd] at hP
    refine .inl ⟨⟨ws, sq_of hp2, by rw [paired_len f5]; omega⟩, done st hP σ Kn2 H ?_⟩
    have s3 := (hS.unbase b).back fl
    refine s3.own f1 (hS.sep p (by rw [upd_same]; exact fun z => nomatch z) f2) (fun o ho z => ?_) hp2 f5
    have := (hS.ow.each o ho).1
    rw [z, upd_same] at this
    cases this
end
end Wk
set_option maxHeartbeats 4000000
/-! Wexc: a def that may raise; raise C(e, ..); try: .. except C as e: ..; e.f, isinstance(e, T) in the suite -/
namespace L2
open PySem PySem.Spec PyProof.Rows
section
variable {X : Cx} {e : Expr} {es : List Expr} {ta : TA} {p1 p2 pos : Pos}
/-- B.__init__(self, ..), B a class of the program over ValueError without an __init__ of its own -/
theorem pe_cinit {x : Str} {C0 : Addr} {pl : Sem Bool} (hg : Gl X x) (hm : X.mg x = some (.ref C0)) (sg : PySem.W.specialIn X.K (.ref C0) "__getattribute__" = some (some (.builtin "type.__getattribute__"))) (rd : PySem.W.readsIn X.K C0 (.type "type") = true)
    (fc : PySem.W.findCls X.K (.ref C0) (.type "type") "__init__" = some (.val (.builtin "ValueError.__init__"))) (ha : PA X (e :: es) ta) (hdb : (x == ("__debug__" : Str)) = false := by decide)
    (hc : eval (.Call (.Attribute (.Name x p1) "__init__" p2) (e :: es) [] pos) X.env = (do
      let ov ← eval (.Name x p1) X.env
      standAt p2.atName
      let (f, first) ← holding [ov] (getMethod ov "__init__" pl)
      callWith pos f first (backTo pos (starEach (e :: es) X.env)) (backToKw pos (keywordEach [] X.env))) := by rfl)
    (he : starEach (e :: es) X.env = (false, eval e X.env) :: starEach es X.env := by rfl) (hpl : (backTo pos (starEach es X.env)).any (·.1) = false := by rfl) :
    PE X (.Call (.Attribute (.Name x p1) "__init__" p2) (e :: es) [] pos) (tVeI X.K ta) := by
  refine ⟨fun pins s σ H Q I h => ?_⟩
  refine PySem.W.methodCall_KW (ld_glob I hg hm ?_ hdb) hc
  refine PySem.W.method_cls I.kIn sg (PySem.W.cls_value I.kIn rd fc (by decide +kernel) ?_)
  show wpAny _ _ (callWith pos (Value.builtin "ValueError.__init__") [] (backTo pos (starEach (e :: es) X.env)) []) _ _ _
  refine PyProof.Rows.callWith_method1 (thn (ha.run pos pins _ σ H _ (I.tok _) h) fun us s1 ⟨vs, H1, I1, r1, a, C, ws, ev, hl, T, ea, q⟩ => ?_) he hpl
  subst ev
  cases r1 with
  | @cons _ u0 _ ur ra rw' =>
    obtain rfl : u0 = Value.ref a := ra
    have hlen : ur.length ≤ sizeLine := by
      rw [← Paired.length rw', sizeLine_eq]
      omega
    exact oinit_ok T I1 ea hlen fun s' J => ⟨.non, H1, J, rfl, q⟩
/-- isinstance(e, c), e the exception that the suite holds -/
def rIsX (K : PySem.W.Frag) (D a : Addr) (cls : Value) (d : Option Addr) : List V → Hp → VK → Prop := fun xs H Q => ∃ (c : V) (cv : Value) (b : Bool), xs = [.ref a, c] ∧ cls = .ref D ∧ (d = none ∨ ∃ dd fs, d = some dd ∧ H dd = some (.xd fs)) ∧ (∀ u, RelV c u → u = cv) ∧ PySem.W.kitOne K (.ref D) cv = some b ∧ Q (.bl b) H
theorem call_isX {a D : Addr} {oe : Obj} {cls : Value} {d : Option Addr} {pn : List (Addr × Obj)} (C : PySem.W.findIn X.K (.ref D) "__getattribute__" = some (some (.builtin "BaseException.__getattribute__")) ∧ PySem.W.findIn X.K (.ref D) "__getattr__" = some none ∧ PySem.W.subIn X.K (.ref D) (.type "BaseException") = some true ∧ PySem.W.isClsIn X.K D = true ∧
      PySem.W.findIn X.K (.ref D) "__class__" = some (some (.builtin "object.__class__")) ∧ PySem.W.specialIn X.K (.builtin "object.__class__") "__get__" = some (some (.builtin "getset_descriptor.__get__")) ∧ PySem.W.takesIn X.K (.builtin "object.__class__") = some true ∧ PySem.W.mroIn X.K D (.type "object") = some true)
    (hz : Zc cls d oe) (hf : ∃ vs, oe.data = .fields vs) : CallR (X.suite a ((a, oe) :: pn)) (.builtin "isinstance") (rIsX X.K D a cls d) := by
  intro pins s σ H xs us Q I r h
  obtain ⟨c, cv, b, rfl, rfl, hd, hcv, e, q⟩ := h
  obtain ⟨c1, c2, c3, c4, c5, c6, c7, c8⟩ := C
  cases r with
  | cons rx rr =>
    cases rr with
    | cons rt rr =>
      cases rr
      cases rx
      have ec := hcv _ rt
      subst ec
      obtain ⟨hget, _⟩ := I.pin (a, oe) (List.mem_append.mpr (.inl List.mem_cons_self))
      obtain ⟨vs, hv⟩ := hf
      have J : ∃ od, PySem.W.InstAt s.heap a oe D od := by
        rcases hd with rfl | ⟨dd, fs, rfl, hdd⟩
        · refine ⟨none, hget, hz.1, by unfold PySem.W.notCls; rw [hv] <;> rfl, ?_⟩
          rw [hz.2]
          trivial
        · have hx : ObjOk X.prog X.w H s.heap dd (.xd fs) := I.hok dd _ hdd
          obtain ⟨mA, hns, _⟩ := hx
          obtain ⟨od, ho, _⟩ := lookIn_ns hns
          refine ⟨some od, hget, hz.1, by unfold PySem.W.notCls; rw [hv] <;> rfl, ?_⟩
          rw [hz.2]
          exact ho
      obtain ⟨od, J⟩ := J
      exact PySem.W.kia_one (PySem.W.kitx_exc c4 c1 c2 c3 c5 c6 c7 c8) I.kIn J e (fun z => nomatch z) fun tk => ⟨.bl b, H, I.kept (t' := tk) fun _ _ z => z, rfl, q⟩
end
end L2
namespace Wk
open PySem PySem.Spec L2 Evl
structure Xc where
  cls : Str
  fl : List (Str × PyData)
/-- what a def that may raise tells -/
inductive Er (α : Type) where
  | ok (x : α)
  | ex (e : Xc)
abbrev FP (Kn : Hp) (fs : List (Str × V)) (fl : List (Str × PyData)) : Prop := Paired (fun p q => p.1 = q.1 ∧ Dq Kn p.2 q.2) fs fl
/-- an exception of the class cls with the dict d stands for e -/
def XR (cm : Str → Option Addr) (Kn : Hp) (e : Xc) (cls : Value) (d : Option Addr) : Prop :=
  ∃ C, cm e.cls = some C ∧ cls = .ref C ∧ ((e.fl = [] ∧ d = none) ∨ ∃ dd fs, d = some dd ∧ Kn dd = some (.xd fs) ∧ FP Kn fs e.fl)
theorem XR.swap {cm : Str → Option Addr} {H H' : Hp} {e : Xc} {cls : Value} {d : Option Addr} (w : Sw H H') (h : XR cm H e cls d) : XR cm H' e cls d := by
  obtain ⟨C, h1, h2, h3⟩ := h
  refine ⟨C, h1, h2, h3.imp id fun ⟨dd, fs, e1, e2, e3⟩ => ⟨dd, fs, e1, w.keep e2 (fun z => z) (fun _ _ z => nomatch z), Paired.mapP e3 fun _ _ q => ⟨q.1, q.2.swap w⟩⟩⟩
/-- the exception that a suite holds -/
structure Xv (cm : Str → Option Addr) (a : Addr) (cls : Value) (d : Option Addr) where
  e : Xc
instance {cm : Str → Option Addr} {a : Addr} {cls : Value} {d : Option Addr} : Rp (Xv cm a cls d) where
  rep _ H v x := v = .ref a ∧ XR cm H x.e cls d
  swap w h := ⟨h.1, h.2.swap w⟩
def xcls (e : Xc) (n : Str) : Option Unit := if e.cls = n then some () else none
def xfl (e : Xc) (n f : Str) : Option Dy := if e.cls = n then (e.fl.lookup f).map Dy.mk else none
theorem xcls_eq {e : Xc} {n : Str} {u : Unit} (h : xcls e n = some u) : e.cls = n := by
  unfold xcls at h
  split at h
  · assumption
  · cases h
theorem fp_lookup {Kn : Hp} : ∀ {fs : List (Str × V)} {fl : List (Str × PyData)} {f : Str} {y : PyData}, FP Kn fs fl → fl.lookup f = some y → ∃ v, fs.lookup f = some v ∧ Dq Kn v y
  | _, _, f, y, .nil, h => by cases h
  | (g, v) :: fs, (g2, z) :: fl, f, y, .cons h t, e => by
    obtain ⟨h1, h2⟩ := h
    have h1 : g = g2 := h1
    subst h1
    rw [lookup_put]
    by_cases hf : f = g
    · subst hf
      have : z = y := by
        simp [List.lookup] at e
        exact e
      subst this
      exact ⟨v, if_pos rfl, h2⟩
    · rw [if_neg hf]
      refine fp_lookup t ?_
      have e2 : (f == g) = false := by simpa using hf
      simpa [List.lookup, e2] using e
section
variable (K : Fg) (F Kn0 : Hp) (sl : List Sl) (ow : List Ow) (cm : Str → Option Addr)
def RX (E : XK) (e : Xc) : Prop := ∀ cls d Kn H, S K F Kn0 [] ow [] Kn H → XR cm Kn e cls d → E cls d H
def RE {α : Type} [Rp α] (R : VK) (E : XK) : Er α → Prop
  | .ok x => RT K F Kn0 ow R x
  | .ex e => RX K F Kn0 ow cm E e
/-- the expression raises e -/
def ER (W : WX) (te : TE) (e : Xc) : Prop := ∀ σ Kn H, S K F Kn0 sl ow σ Kn H → (∀ cls d Kn' H', S K F Kn0 sl ow σ Kn' H' → XR cm Kn' e cls d → W cls d σ H') → ∀ Q, te σ H Q
/-- what is wished of it -/
def RW (W : WX) (e : Xc) : Prop := ∀ σ Kn H cls d, S K F Kn0 sl ow σ Kn H → XR cm Kn e cls d → W cls d σ H
end
def PX {τ α : Type} [Tp τ] [Rp α] (K : Fg) (cm : Str → Option Addr) (f : τ → Option (Er α)) : Sp := fun vs H Q E => ∃ Kn t r, Ex Kn H ∧ rept K Kn vs t ∧ f t = some r ∧
  match r with
  | .ok x => RS K Kn H Q x
  | .ex e => ∀ cls d Kn' H', Gr Kn H Kn' H' → XR cm Kn' e cls d → E cls d H'
section
variable {K : Fg} {F F' Kn0 Kn1 : Hp} {sl sl' : List Sl} {ow ow0 ow1 : List Ow} {cm : Str → Option Addr} {α β τ : Type} [Rp α] [Rp β] [Tp τ] {D : Ends} {E : XK} {R : VK} {W : WX} {te tb : TE} {ta tr : TA} {e : Xc} {i : Nat}
theorem RX.base (q : RX K F Kn0 ow cm E e) (b : Bs F Kn0 Kn1) : RX K F Kn1 ow cm E e := fun cls d Kn H s x => q cls d Kn H (s.unbase b) x
theorem RX.fr (f : Fle F F') (q : RX K F Kn0 ow cm E e) : RX K F' Kn0 ow cm E e := fun cls d Kn H s x => q cls d Kn H (s.back f) x
theorem RE.base {r : Er α} (q : RE K F Kn0 ow cm R E r) (b : Bs F Kn0 Kn1) : RE K F Kn1 ow cm R E r := by
  cases r with
  | ok x => exact RT.base (R := R) q b
  | ex e => exact RX.base q b
theorem RE.fr {r : Er α} (q : RE K F Kn0 ow cm R E r) (f : Fle F F') : RE K F' Kn0 ow cm R E r := by
  cases r with
  | ok x => exact RT.fr (R := R) f q
  | ex e => exact RX.fr f q
theorem re_of {H Kn : Hp} {r : Er α} {Q : VK} (q : match r with | .ok x => RS K Kn H Q x | .ex e => ∀ cls d Kn' H', Gr Kn H Kn' H' → XR cm Kn' e cls d → E cls d H') : RE K H Kn [] cm Q E r := by
  cases r with
  | ok x => exact rt_of q
  | ex e => exact fun cls d Kn' H' s x => q cls d Kn' H' ⟨s.e0, s.ef, s.ek, s.sep⟩ x
/-- the dict of a new exception -/
theorem XR.mk {Kn : Hp} {C dd : Addr} {fs : List (Str × V)} (hc : cm e.cls = some C) (h : FP Kn fs e.fl) (kd : Kn dd = none) : XR cm (upd Kn dd (.xd fs)) e (.ref C) (some dd) :=
  ⟨C, hc, rfl, .inr ⟨dd, fs, rfl, upd_same, Paired.mapP h fun _ _ q => ⟨q.1, q.2.swap (.of (Ex.new kd))⟩⟩⟩
/-- __init__(self, ..) of a class with fields: each is stored -/
def spI (K : Fg) (C : Addr) (fs : List Str) : Sp := fun vs H Q _ => ∃ a ws, vs = .ref a :: ws ∧ ws.length = fs.length ∧ OexC K C ∧ (∀ f ∈ fs, PySem.W.findIn K (.ref C) f = some none) ∧ H a = some (exo a C none) ∧
  ∀ H' dx, H dx = none → dx ≠ a → H' a = some (exo a C (some dx)) → H' dx = some (exd dx (fs.zip ws).reverse) → (∀ q, q ≠ a → q ≠ dx → H' q = H q) → Q .non H'
theorem spI_len {C : Addr} {fs : List Str} {vs : List V} {H : Hp} {Q : VK} {E : XK} (h : spI K C fs vs H Q E) : vs.length = fs.length + 1 := by
  obtain ⟨a, ws, rfl, hl, _⟩ := h
  rw [List.length_cons, hl]
theorem fp_zip {Kn : Hp} : ∀ {fs : List Str} {ws : List V} {ds : List PyData}, DqAll Kn ws ds → Paired (fun (p : Str × V) (q : Str × PyData) => p.1 = q.1 ∧ Dq Kn p.2 q.2) (fs.zip ws) (fs.zip ds)
  | [], _, _, _ => by
    rw [List.zip_nil_left, List.zip_nil_left]
    exact .nil
  | f :: fs, _, _, .nil => .nil
  | f :: fs, _, _, .cons h t => .cons ⟨rfl, h⟩ (fp_zip t)
theorem paired_rev {α β : Type} {G : α → β → Prop} : ∀ {xs : List α} {ys : List β}, Paired G xs ys → Paired G xs.reverse ys.reverse
  | _, _, .nil => .nil
  | _, _, .cons (a := x) (b := y) h t => by
    rw [List.reverse_cons, List.reverse_cons]
    have app : ∀ {as : List α} {bs : List β} {cs : List α} {ds : List β}, Paired G as bs → Paired G cs ds → Paired G (as ++ cs) (bs ++ ds) := fun {as bs cs ds} h1 h2 => by
      induction h1 with
      | nil => exact h2
      | cons h _ ih => exact .cons h ih
    exact app (paired_rev t) (.cons h .nil)
/-- raise C(e, ..) -/
theorem sb_raise [Us τ] {t : τ} {C : Addr} {n : Str} {fs : List Str} (h : EA K F Kn0 sl ow ta t) (hc : cm n = some C) (T : OexC K C) (no : ∀ f ∈ fs, PySem.W.findIn K (.ref C) f = some none) (hl : Tp.n τ = fs.length) (hl2 : fs.length ≤ 100)
    (q : RX K F Kn0 ow0 cm E ⟨n, (fs.zip (Us.toDs t)).reverse⟩) (l : ow0.Sublist ow) : SB K F Kn0 sl ow D (fun _ σ H => tMkO C (spI K C fs) [] ta σ H fun cls d H' => E cls d H') := fun σ Kn H s =>
  h σ Kn H s _ fun vs Kn1 H1 g1 r1 => by
    have hv : vs.length = fs.length := by rw [Tp.len r1, hl]
    refine ⟨by omega, fun a ha => ?_⟩
    rw [List.append_nil]
    refine ⟨a, vs, rfl, hv, T, no, upd_same, fun H2 dx hdx hne e1 e2 e3 => ⟨rfl, dx, _, e1, e2, ?_, ?_⟩⟩
    · rw [upd_ne hne] at hdx
      exact hdx
    · rw [upd_ne hne] at hdx
      have eH : upd (del H2 a) dx (.xd (fs.zip vs).reverse) = upd H1 dx (.xd (fs.zip vs).reverse) := by
        funext b
        by_cases hb : b = dx
        · rw [hb, upd_same, upd_same]
        · rw [upd_ne hb, upd_ne hb]
          by_cases hba : b = a
          · rw [hba, del_same, ha]
          · rw [del_ne hba, e3 b hba hb, upd_ne hba]
      rw [eH]
      have g2 := Gr.new (o := .xd (fs.zip vs).reverse) g1.kh hdx
      exact q _ _ _ _ (((s.grow g1).grow g2).fin.sub l) (XR.mk (e := ⟨n, _⟩) hc (paired_rev (fp_zip (Us.is r1))) (fresh_back g1.kh hdx))
/-- raise C('..'), C without fields -/
theorem sb_raise0 {C : Addr} {n : Str} (hc : cm n = some C) (q : RX K F Kn0 ow0 cm E ⟨n, []⟩) (l : ow0.Sublist ow) : SB K F Kn0 sl ow D (fun _ σ H => (fun (_ : St) (H : Hp) (Q : XK) => Q (.ref C) none H) σ H fun cls d H' => E cls d H') := fun σ Kn H s =>
  q _ _ Kn H (s.fin.sub l) ⟨C, hc, rfl, .inl ⟨rfl, rfl⟩⟩
/-! ### calls that may raise -/
theorem ev_callX {f : τ → Option (Er α)} {r : α} {E : St → XK} {t : τ} (h : EA K F Kn0 sl ow ta t) (hf : f t = some (.ok r)) : EV K F Kn0 sl ow (tCallS (PX K cm f) E ta) r := fun σ Kn H s Q q =>
  h σ Kn H s _ fun vs Kn1 H1 g1 r1 => ⟨Kn1, t, .ok r, g1.kh, r1, hf, fun u Kn' H' g' r' => q u Kn' H' (g1.trans g') r'⟩
theorem er_call {f : τ → Option (Er α)} {t : τ} (h : EA K F Kn0 sl ow ta t) (hf : f t = some (.ex e)) : ER K F Kn0 sl ow cm W (tCallS (PX K cm f) (WE W) ta) e := fun σ Kn H s w Q =>
  h σ Kn H s _ fun vs Kn1 H1 g1 r1 => ⟨Kn1, t, .ex e, g1.kh, r1, hf, fun cls d Kn' H' g' x => w cls d Kn' H' ((s.grow g1).grow g') x⟩
theorem er_opL {r : R2} (h : ER K F Kn0 sl ow cm W te e) : ER K F Kn0 sl ow cm W (tOp r te tb) e := fun σ Kn H s w _ => h σ Kn H s w _
theorem er_cb {r : List V → Hp → VK → Prop} (h : ER K F Kn0 sl ow cm W te e) : ER K F Kn0 sl ow cm W (tCB r (tCons te tr)) e := fun σ Kn H s w _ => h σ Kn H s w _
theorem er_tup (h : ER K F Kn0 sl ow cm W te e) : ER K F Kn0 sl ow cm W (tTup (tCons te tr)) e := fun σ Kn H s w _ => h σ Kn H s w _
theorem sb_asgR {g : TG} (h : ER K F Kn0 sl ow cm W te e) (w : RW K F Kn0 sl ow cm W e) : SB K F Kn0 sl ow D (tAsg te g) := fun σ Kn H s => h σ Kn H s (fun cls d Kn' H' s' x => w σ Kn' H' cls d s' x) _
theorem sb_dropR (h : ER K F Kn0 sl ow cm W te e) (w : RW K F Kn0 sl ow cm W e) : SB K F Kn0 sl ow D (tDrop te) := fun σ Kn H s => h σ Kn H s (fun cls d Kn' H' s' x => w σ Kn' H' cls d s' x) _
theorem sb_retR (h : ER K F Kn0 sl ow cm W te e) (w : RW K F Kn0 sl ow cm W e) : SB K F Kn0 sl ow D (tRet te) := fun σ Kn H s => h σ Kn H s (fun cls d Kn' H' s' x => w σ Kn' H' cls d s' x) _
/-- it leaves the def -/
theorem rw_out (q : RX K F Kn0 ow0 cm E e) (l : ow0.Sublist ow) : RW K F Kn0 sl ow cm (fun cls d _ H => E cls d H) e := fun _ Kn H cls d s x => q cls d Kn H (s.fin.sub l) x
/-! ### try -/
theorem sb_tryAs {C : Value} {ts : Addr → Value → Option Addr → TS} {Wout : WX} {tw : WX → TS} (h : SB K F Kn0 sl ow D (tw (wAs K C i ts Wout D))) : SB K F Kn0 sl ow D (fun D σ H => tw (wAs K C i ts Wout D) D σ H) := h
abbrev Dsu (i : Nat) (D : Ends) : Ends := { nx := fun σ' H' => D.nx (σ'.set i none) H', rt := D.rt, bk := fun σ' H' => D.bk (σ'.set i none) H', ct := fun σ' H' => D.ct (σ'.set i none) H' }
theorem rw_as {C : Value} {ts : Addr → Value → Option Addr → TS} {Wout : WX} {sl' : Addr → Value → Option Addr → List Sl} (hm : ∀ A, cm e.cls = some A → PySem.W.exmOne K (.ref A) C = some true) (hs : ∀ a cls d, sl.set i (sv (Xv.mk e : Xv cm a cls d)) = sl' a cls d)
    (h : ∀ a cls d, SB K F Kn0 (sl' a cls d) ow (Dsu i D) (ts a cls d)) : RW K F Kn0 sl ow cm (wAs K C i ts Wout D) e := fun σ Kn H cls d s x => by
  obtain ⟨A, hA, rfl, hx⟩ := id x
  refine ⟨true, hm A hA, fun _ a _ => ?_, fun z => nomatch z⟩
  exact h a _ d _ Kn H (hs a _ d ▸ s.setv (x := (Xv.mk e : Xv cm a (.ref A) d)) i ⟨rfl, x⟩)
theorem sn_suite (hs : sl.set i .any = sl') (k : SN K F Kn0 sl' ow D) : SN K F Kn0 sl ow (Dsu i D) := fun σ Kn H s => k _ Kn H (hs ▸ s.set (x := .any) (o := none) i trivial)
/-- e.f -/
theorem ev_xf {a C : Addr} {cls : Value} {d : Option Addr} {n f : Str} {y : Dy} (h : EV K F Kn0 sl ow te (Xv.mk e : Xv cm a cls d)) (hC : cm n = some C) (hx : xfl e n f = some y) : EV K F Kn0 sl ow (tXf a cls d C f te) y := fun σ Kn H s Q q =>
  h σ Kn H s _ fun v Kn1 H1 g1 r1 => by
    unfold xfl at hx
    split at hx
    case isFalse => cases hx
    rename_i hn
    obtain ⟨z, hz, rfl⟩ := Option.map_eq_some_iff.mp hx
    obtain ⟨r1, A, hA, hc, hd⟩ := r1
    rw [hn, hC] at hA
    cases hA
    refine ⟨r1, hc, ?_⟩
    rcases hd with ⟨h1, _⟩ | ⟨dd, fs, h1, h2, h3⟩
    · rw [h1] at hz
      cases hz
    · obtain ⟨u, hu, ru⟩ := fp_lookup h3 hz
      exact ⟨dd, fs, u, h1, g1.kh _ _ h2, hu, q u Kn1 H1 g1 ru⟩
theorem rc_isX {a D : Addr} {cls : Value} {d : Option Addr} {n : Str} {ty : String} {b : Bool} {u : Unit} (hD : cm n = some D) (hx : xcls e n = some u) (hk : PySem.W.kitOne K (.ref D) (.type ty) = some b) : RCV K (rIsX K D a cls d) ((Xv.mk e : Xv cm a cls d), TyN.mk ty, ()) b := fun Kn H vs ek h Q q => by
  obtain ⟨v, w, rfl, h1, h2⟩ := two_args h
  obtain ⟨rfl, A, hA, hc, hd⟩ := h1
  rw [xcls_eq hx, hD] at hA
  cases hA
  refine ⟨w, .type ty, b, rfl, hc, ?_, fun u hu => ?_, hk, q.fl ek⟩
  · rcases hd with ⟨_, h1⟩ | ⟨dd, fs, h1, h3, _⟩
    · exact .inl h1
    · exact .inr ⟨dd, fs, h1, ek _ _ h3⟩
  · have h2 : w = .ty ty := h2
    subst h2
    exact hu
end
/-! ### more -/
theorem unX_some {α : Type} {x : Option (Er α)} {r : α} (h : (x.bind fun y => match y with | .ok r => some r | .ex _ => none) = some r) : x = some (.ok r) := by
  obtain ⟨y, h1, h⟩ := bind_some h
  cases y with
  | ok z => cases h; exact h1
  | ex e => cases h
def unX {α : Type} (x : Er α) : Option α := match x with | .ok r => some r | .ex _ => none
theorem unX_is {α : Type} {x : Option (Er α)} {r : α} (h : x.bind unX = some r) : x = some (.ok r) := unX_some h
theorem er_cases {α : Type} (x : Er α) : (∃ e, x = .ex e) ∨ ∃ r, x = .ok r := by
  cases x with
  | ok r => exact .inr ⟨r, rfl⟩
  | ex e => exact .inl ⟨e, rfl⟩
theorem ite_some {α : Type} {c : Bool} {x : Option α} {y : α} (h : (if c = true then x else none) = some y) : c = true ∧ x = some y := by
  cases c with
  | true => exact ⟨rfl, h⟩
  | false => cases h
theorem exm_two {K : Fg} {A C : Addr} {b : Bool} (h1 : PySem.W.subIn K (.ref C) (.type "BaseException") = some true) (h2 : PySem.W.isClsIn K C = true) (h3 : PySem.W.typeIn K (.ref C) = some (.type "type")) (h4 : PySem.W.subIn K (.ref A) (.ref C) = some b) : PySem.W.exmOne K (.ref A) (.ref C) = some b := by
  have e1 : (PySem.W.subIn K (.ref C) (.type "BaseException") == some true) = true := by rw [h1] <;> rfl
  have e2 : ((PySem.W.clsIn K C).isSome && PySem.W.typeIn K (.ref C) == some (.type "type")) = true := by
    have h2' : (PySem.W.clsIn K C).isSome = true := h2
    rw [h2', h3] <;> rfl
  unfold PySem.W.exmOne
  rw [if_pos e1]
  unfold PySem.W.kitCls
  simp only
  rw [if_pos e2]
  exact h4
/-- for x in reversed(xs) -/
theorem wk_rev {K : Fg} {α : Type} [Rp α] {Kn1 : Hp} {p : Addr} {ws : List V} {xs : List α} (h : SqL K Kn1 p ws) (r : Paired (rep K Kn1) ws xs) : WK K Kn1 (Itv K p ws.length) xs.reverse := fun i Kn' H' e1 e2 => by
  have hq : SqL K H' p ws := ex_l (e1.trans e2) h
  have hl := paired_len r
  refine ⟨fun x hx => ?_, fun hle => by
    rw [List.length_reverse] at hle
    show ws.length ≤ i
    omega⟩
  have hi : i < xs.length := by
    have := (List.getElem?_eq_some_iff.mp hx).1
    rw [List.length_reverse] at this
    exact this
  rw [List.getElem?_reverse hi] at hx
  obtain ⟨v, hv, rv⟩ := paired_at r hx
  rw [← hl] at hv
  refine ⟨⟨by omega, ws, v, hq, hv⟩, fun u H2 hy => ?_⟩
  obtain ⟨rfl, f⟩ := hy
  have : v = u := Option.some.inj (hv.symm.trans (f ws hq))
  subst this
  exact ⟨Kn', Gr.refl e2, Rp.mono e1 rv⟩
theorem it_rev {K : Fg} {F Kn0 : Hp} {sl : List Sl} {ow : List Ow} {α : Type} [Rp α] {ta : TA} {xs : List α} (h : EA K F Kn0 sl ow ta (xs, ())) : IT K F Kn0 sl ow (iRev K ta) xs.reverse := fun σ Kn H s R q => h σ Kn H s _ fun vs Kn1 H1 g1 r1 => by
  obtain ⟨v, rfl, p, ws, rfl, h3, h4⟩ := one_arg r1
  exact ⟨p, ws, rfl, sq_of (g1.kh _ _ h3), q _ Kn1 H1 g1 (wk_rev (sq_of h3) h4)⟩
theorem kit_two {K : Fg} {D : Addr} {ty : String} {b : Bool} (h : PySem.W.subIn K (.ref D) (.type ty) = some b) (hm : PySem.W.kitMeta ty = true := by decide +kernel) : PySem.W.kitOne K (.ref D) (.type ty) = some b := by
  unfold PySem.W.kitOne
  rw [if_neg (show ¬ (Value.ref D == Value.type ty) = true from fun z => Value.noConfusion (eq_of_beq z))]
  show (if PySem.W.kitMeta ty = true then PySem.W.subIn K (.ref D) (.type ty) else none) = some b
  rw [if_pos hm]
  exact h
theorem RE.ok_rt {K : Fg} {F Kn0 : Hp} {ow : List Ow} {cm : Str → Option Addr} {α : Type} [Rp α] {R : VK} {E : XK} {x : α} (q : RE K F Kn0 ow cm R E (.ok x)) : RT K F Kn0 ow R x := q
end Wk
/-! Wopt: None or something; is; a tuple of alike things walked; a tuple of two lists of one's own -/
namespace Wk
open PySem PySem.Spec L2 Evl
/-- never None -/
class NN (α : Type) [Rp α] : Prop where
  nn : ∀ {K : Fg} {H : Hp} {v : V} {a : α}, rep K H v a → v ≠ .non
instance : NN Int := ⟨fun h z => by rw [show _ = V.int _ from h] at z; cases z⟩
instance : NN Bool := ⟨fun h z => by rw [show _ = V.bl _ from h] at z; cases z⟩
instance : NN Str := ⟨fun h z => by rw [show _ = V.str _ from h] at z; cases z⟩
instance {α : Type} [Rp α] : NN (List α) := ⟨fun h z => by
  obtain ⟨p, vs, rfl, _⟩ := h
  cases z⟩
instance {α τ : Type} [Rp α] [Tp τ] : NN (α × τ) := ⟨fun h z => by
  obtain ⟨p, vs, rfl, _⟩ := h
  cases z⟩
inductive Ho {α : Type} [Rp α] : {τ : Type} → [Tp τ] → τ → List α → Prop
  | nil : Ho () []
  | cons {τ : Type} [Tp τ] (x : α) {t : τ} {xs : List α} : Ho t xs → Ho (x, t) (x :: xs)
theorem Ho.get {α : Type} [Rp α] {K : Fg} {H : Hp} {τ : Type} [i : Tp τ] {t : τ} {xs : List α} (h : Ho t xs) : ∀ {vs : List V}, rept K H vs t → Paired (rep K H) vs xs := by
  induction h with
  | nil => intro vs r; cases r; exact .nil
  | cons x _ ih =>
    intro vs r
    obtain ⟨v, r, rfl, h1, h2⟩ := r
    exact .cons h1 (ih h2)
structure P2 where
  a : Addr
  b : Addr
instance : Ob P2 := { ob := fun _ _ o x => o = .tup [.ref x.a, .ref x.b], swap := fun _ h => h }
def appP {α : Type} (c : Bool) (xs ys : List α) (x : α) : Option (List α × List α) := if xs.length < 1000000 ∧ ys.length < 1000000 then some (if c = true then (xs, ys ++ [x]) else (xs ++ [x], ys)) else none
section
variable {K : Fg} {F Kn0 : Hp} {sl sl' : List Sl} {ow ow1 ow2 : List Ow} {α β γ τ : Type} [Rp α] [Rp β] [Rp γ] [Tp τ] {ta tb te tn : TE} {D : Ends} {i j k1 k2 : Nat} {p pt p1 p2 : Addr}
theorem ev_some [NN α] {x : α} (h : EV K F Kn0 sl ow te x) : EV K F Kn0 sl ow te (some x) := fun σ Kn H s Q q => h σ Kn H s Q fun v Kn' H' g r => q v Kn' H' g ⟨NN.nn r, r⟩
theorem ev_unopt {o : Option α} {x : α} (h : EV K F Kn0 sl ow te o) (e : o = some x) : EV K F Kn0 sl ow te x := fun σ Kn H s Q q => h σ Kn H s Q fun v Kn' H' g r => by
  subst e
  exact q v Kn' H' g r.2
theorem r2_isN {o : Option α} : R2V K (fun x y H Q => y = .non ∧ Q (.bl (decide (x = .non))) H) o Nn.nn o.isNone := fun Kn H v w ek h1 h2 Q q => by
  cases h2
  refine ⟨rfl, ?_⟩
  cases o with
  | none =>
    cases h1
    exact q.fl ek
  | some x =>
    rw [decide_eq_false h1.1]
    exact q.fl ek
theorem r2_notN {o : Option α} : R2V K (fun x y H Q => y = .non ∧ Q (.bl (!decide (x = .non))) H) o Nn.nn o.isSome := fun Kn H v w ek h1 h2 Q q => by
  cases h2
  refine ⟨rfl, ?_⟩
  cases o with
  | none =>
    cases h1
    exact q.fl ek
  | some x =>
    rw [decide_eq_false h1.1]
    exact q.fl ek
theorem r2_isB {a b : Bool} : R2V K L2.rIsB a b (decide (a = b)) := fun Kn H v w ek h1 h2 Q q => by
  cases h1
  cases h2
  exact ⟨a, b, rfl, rfl, q.fl ek⟩
theorem r2_notB {a b : Bool} : R2V K L2.rNotB a b (!decide (a = b)) := fun Kn H v w ek h1 h2 Q q => by
  cases h1
  cases h2
  exact ⟨a, b, rfl, rfl, q.fl ek⟩
theorem ev_hom {t : β × τ} {xs : List α} (h : EV K F Kn0 sl ow te t) (ho : Ho t xs) : EV K F Kn0 sl ow te (Tu.mk xs) := fun σ Kn H s Q q => h σ Kn H s Q fun v Kn' H' g r => by
  obtain ⟨p, vs, rfl, h1, h2⟩ := r
  exact q _ Kn' H' g ⟨p, vs, rfl, h1, ho.get h2⟩
/-- an object of one's own becomes known, and is no more named -/
theorem S.lend {σ : L2.St} {Kn H : Hp} {o1 : Ow} {ob : HO} (s : S K F Kn0 sl ow σ Kn H) (hj : ow[j]? = some o1) (hp : H o1.ad = some ob) : S K F Kn0 sl (ow.eraseIdx j) σ (upd Kn o1.ad ob) H := by
  obtain ⟨f1, f2, f3⟩ := s.ow.each _ (List.mem_of_getElem? hj)
  have s1 := s.sub (List.eraseIdx_sublist ow j)
  refine s1.know f1 f2 (fun o hm z => ?_) hp
  obtain ⟨m, hm'⟩ := List.getElem?_of_mem hm
  rw [List.getElem?_eraseIdx] at hm'
  split at hm'
  · have := ow_at s.ow.nd hm' hj z
    omega
  · have := ow_at s.ow.nd hm' hj z
    omega
theorem S.borrowP {σ : L2.St} {Kn H : Hp} {xs ys : List α} (s : S K F Kn0 sl ow σ Kn H) (hi : sl[i]? = some (.at pt)) (hj : ow[j]? = some (oo pt (P2.mk p1 p2))) (h1 : (ow.eraseIdx j)[k1]? = some (ol p1 xs)) (h2 : ((ow.eraseIdx j).eraseIdx k1)[k2]? = some (ol p2 ys)) :
    ∃ Kn', S K F Kn0 (sl.set i (sv ((xs, ys, ()) : List α × List α × Unit))) (((ow.eraseIdx j).eraseIdx k1).eraseIdx k2) σ Kn' H := by
  obtain ⟨o, q1, q2⟩ := s.sl.get hi
  have q2 : o = some (.ref pt) := q2
  obtain ⟨_, a2, ob, a3, a4⟩ := s.ow.each _ (List.mem_of_getElem? hj)
  have a4 : ob = .tup [.ref p1, .ref p2] := a4
  subst a4
  have s1 := s.lend hj a3
  obtain ⟨_, b2, w1, b3, b4⟩ := s1.ow.each _ (List.mem_of_getElem? h1)
  have s2 := s1.lend h1 b3
  obtain ⟨_, c2, w2, c3, c4⟩ := s2.ow.each _ (List.mem_of_getElem? h2)
  have s3 := s2.lend h2 c3
  have x2 : Ex (upd Kn pt (.tup [.ref p1, .ref p2])) (upd (upd Kn pt (.tup [.ref p1, .ref p2])) p1 (.lst w1)) := Ex.new b2
  have x3 : Ex (upd (upd Kn pt (.tup [.ref p1, .ref p2])) p1 (.lst w1)) (upd (upd (upd Kn pt (.tup [.ref p1, .ref p2])) p1 (.lst w1)) p2 (.lst w2)) := Ex.new c2
  have hσ : σ.set i o = σ := by
    refine List.ext_getElem? fun m => ?_
    by_cases e : i = m
    · subst e
      rw [List.getElem?_set_self (List.getElem?_eq_some_iff.mp q1).1, q1]
    · rw [List.getElem?_set_ne e]
  have s4 := s3.set (x := sv ((xs, ys, ()) : List α × List α × Unit)) (o := o) i ⟨.ref pt, q2, pt, _, rfl, (x2.trans x3) _ _ upd_same, .ref p1, _, rfl, ⟨p1, w1, rfl, x3 _ _ upd_same, paired_mono (x2.trans x3) b4⟩, .ref p2, _, rfl, ⟨p2, w2, rfl, upd_same, paired_mono x3 c4⟩, rfl⟩
  rw [hσ] at s4
  exact ⟨_, s4⟩
theorem ev_borP [Fl γ] {z : γ} {xs ys : List α} (hi : sl[i]? = some (.at pt)) (hj : ow[j]? = some (oo pt (P2.mk p1 p2))) (h1 : (ow.eraseIdx j)[k1]? = some (ol p1 xs)) (h2 : ((ow.eraseIdx j).eraseIdx k1)[k2]? = some (ol p2 ys)) (hs : sl.set i (sv ((xs, ys, ()) : List α × List α × Unit)) = sl')
    (ho : ((ow.eraseIdx j).eraseIdx k1).eraseIdx k2 = ow1) (h : EV K F Kn0 sl' ow1 te z) : EV K F Kn0 sl ow te z := fun σ Kn H s Q q => by
  obtain ⟨Kn', s1⟩ := s.borrowP hi hj h1 h2
  subst hs
  subst ho
  exact h σ _ H s1 Q fun v Kn' H' g r => q v Kn H' ⟨Ex.refl _, g.hh, s.ek.trans g.hh, fun _ _ h => h⟩ (Fl.iff.mpr (Fl.iff.mp r))
/-- a = (xs, ys), both new -/
theorem sb_asgPair {xs ys : List α} {sl' : Addr → List Sl} (hs : ∀ p, sl.set i (.at p) = sl' p) (ha : EN K F Kn0 sl ow ta xs) (hb : EN K F Kn0 sl ow tb ys) (k : ∀ pt p1 p2, SN K F Kn0 (sl' pt) (oo pt (P2.mk p1 p2) :: ol p1 xs :: ol p2 ys :: ow) D) :
    SB K F Kn0 sl ow D (tAsg (tTup (tCons ta (tCons tb tNil))) (gName i)) := fun σ Kn H s =>
  ha σ Kn H s _ fun p1 w1 Kn1 H1 g1 hp1 kp1 hw1 r1 => hb σ Kn1 H1 (s.grow g1) _ fun p2 w2 Kn2 H2 g2 hp2 kp2 hw2 r2 => by
    have g12 := g1.trans g2
    have h12 : H2 p1 = some (.lst w1) := g2.hh _ _ hw1
    have k12 : Kn2 p1 = none := g2.sp p1 (ne_none_of hw1) kp1
    have n12 : p1 ≠ p2 := fun z => by rw [← z, hw1] at hp2; cases hp2
    refine ⟨by show ([V.ref p1, V.ref p2] : List V).length ≤ sizeLine; exact le_line (Nat.le_of_ble_eq_true rfl), fun pt hp => ?_⟩
    have g3 := g12.trans (Gr.newU (o := .tup [V.ref p1, V.ref p2]) g12.kh hp)
    have n1 : p1 ≠ pt := fun z => by rw [← z, h12] at hp; cases hp
    have n2 : p2 ≠ pt := fun z => by rw [← z, hw2] at hp; cases hp
    have s3 := s.grow g3
    have u1 : upd H2 pt (.tup [V.ref p1, V.ref p2]) p1 = some (.lst w1) := by rw [upd_ne n1]; exact h12
    have u2 : upd H2 pt (.tup [V.ref p1, V.ref p2]) p2 = some (.lst w2) := by rw [upd_ne n2]; exact hw2
    have o2 := s3.own (p := p2) (fresh_back s.ef (fresh_back g1.hh hp2)) kp2 (owned_ne s (fresh_back g1.hh hp2)) u2 r2
    have o1 := o2.own (p := p1) (fresh_back s.ef hp1) k12 (fun o ho z => by
      rcases List.mem_cons.mp ho with rfl | ho
      · exact n12 z.symm
      · exact owned_ne s hp1 o ho z) u1 (paired_mono g2.kk r1)
    have hpH : H pt = none := fresh_back g12.hh hp
    have o0 := o1.ownG (p := pt) (o := oo pt (P2.mk p1 p2)) rfl (fresh_back s.ef hpH) (fresh_back g12.kh hp) (fun o ho z => by
      rcases List.mem_cons.mp ho with rfl | ho
      · exact n1 z
      · rcases List.mem_cons.mp ho with rfl | ho
        · exact n2 z
        · exact owned_ne s hpH o ho z) ⟨_, upd_same, rfl⟩
    exact k pt p1 p2 _ Kn2 _ (hs pt ▸ o0.seta (p := pt) i)
theorem set_ow {o : Ow} (h : ow[j]? = some o) : ow.set j o = ow := by
  refine List.ext_getElem? fun m => ?_
  by_cases e : j = m
  · subst e
    rw [List.getElem?_set_self (List.getElem?_eq_some_iff.mp h).1, h]
  · rw [List.getElem?_set_ne e]
/-- a[int(c)].append(x) -/
theorem sb_appP {xs ys xs' ys' : List α} {x : α} {c : Bool} (hi : sl[i]? = some (.at pt)) (hj : ow[j]? = some (oo pt (P2.mk p1 p2))) (h1 : ow[k1]? = some (ol p1 xs)) (h2 : ow[k2]? = some (ol p2 ys)) (hn : EV K F Kn0 sl ow tn (if c = true then (1 : Int) else 0)) (h : EV K F Kn0 sl ow te x) (hx : appP c xs ys x = some (xs', ys'))
    (ho : (ow.set k1 (ol p1 xs')).set k2 (ol p2 ys') = ow1) (hk : k1 ≠ k2) (k : SN K F Kn0 sl ow1 D) : SB K F Kn0 sl ow D (tDrop (tBM K "list" rAppend (tOp (rIxT K) (tVar i) tn) (tCons te tNil))) := fun σ Kn H s => by
  obtain ⟨o, q1, q2⟩ := s.sl.get hi
  refine ⟨.ref pt, by rw [q1]; exact congrArg some q2, hn σ Kn H s _ fun v Kn1 H1 g1 r1 => ?_⟩
  have s1 := s.grow g1
  obtain ⟨_, a2, ob, a3, a4⟩ := s1.ow.each _ (List.mem_of_getElem? hj)
  have a4 : ob = .tup [.ref p1, .ref p2] := a4
  subst a4
  cases r1
  obtain ⟨_, b2, w1, b3, b4⟩ := s1.ow.each _ (List.mem_of_getElem? h1)
  obtain ⟨_, c2, w2, c3, c4⟩ := s1.ow.each _ (List.mem_of_getElem? h2)
  unfold appP at hx
  split at hx
  case isFalse => cases hx
  rename_i hl
  have hx := Option.some.inj hx
  subst ho
  cases c with
  | true =>
    have e1 : xs = xs' := congrArg Prod.fst hx
    have e2 : ys ++ [x] = ys' := congrArg Prod.snd hx
    subst e1
    subst e2
    refine ⟨pt, _, 1, .ref p2, rfl, rfl, st_of a3, rfl, Or.inl ⟨rfl, w2, sq_of c3⟩, h σ Kn1 H1 s1 _ fun u Kn2 H2 g2 r2 => ?_⟩
    refine ⟨p2, w2, u, rfl, rfl, g2.hh _ _ c3, by rw [paired_len c4]; exact lt_line hl.2, k _ Kn2 _ ?_⟩
    have kp : Kn2 p2 = none := g2.sp p2 (ne_none_of c3) c2
    rw [set_ow h1]
    exact (s1.grow g2).write h2 (Ex.refl _) (upd_in g2.kh kp) (fun q hq _ => upd_ne hq) (fun _ _ h => h) upd_same (paired_append (paired_mono g2.kk c4) (.cons r2 .nil))
  | false =>
    have e1 : xs ++ [x] = xs' := congrArg Prod.fst hx
    have e2 : ys = ys' := congrArg Prod.snd hx
    subst e1
    subst e2
    refine ⟨pt, _, 0, .ref p1, rfl, rfl, st_of a3, rfl, Or.inl ⟨rfl, w1, sq_of b3⟩, h σ Kn1 H1 s1 _ fun u Kn2 H2 g2 r2 => ?_⟩
    refine ⟨p1, w1, u, rfl, rfl, g2.hh _ _ b3, by rw [paired_len b4]; exact lt_line hl.1, k _ Kn2 _ ?_⟩
    have kp : Kn2 p1 = none := g2.sp p1 (ne_none_of b3) b2
    have e : (ow.set k1 (ol p1 (xs ++ [x]))).set k2 (ol p2 ys) = ow.set k1 (ol p1 (xs ++ [x])) := set_ow (by rw [List.getElem?_set_ne hk]; exact h2)
    rw [e]
    exact (s1.grow g2).write h1 (Ex.refl _) (upd_in g2.kh kp) (fun q hq _ => upd_ne hq) (fun _ _ h => h) upd_same (paired_append (paired_mono g2.kk b4) (.cons r2 .nil))
end
end Wk
/-! Wsort: sorted of a list of alike data (numbers, texts, tuples of these); sorted of a dict's keys; xs[::-1] -/
namespace L2
open PySem PySem.Spec PyProof.Rows
/-- sorted(xs), xs a list of alike data -/
def rSortedD (K : PySem.W.Frag) : List V → Hp → VK → Prop := fun vs H Q => ∃ (a : Addr) (bs : List (V × PyData)), vs = [V.ref a] ∧ SqL K H a (bs.map (·.1)) ∧ (∀ b ∈ bs, Dp K H b.1 b.2) ∧ PySem.W.AllAlike (bs.map (·.2)) ∧ PySem.W.Sortable (bs.map (·.2)) ∧ bs.length ≤ 1000000 ∧ (∀ b ∈ bs, b.2.depth ≤ 60) ∧
  ∀ p, H p = none → Q (.ref p) (upd H p (.lst ((bs.mergeSort (PySem.W.dataLe false (fun b : V × PyData => b.2))).map (·.1))))
theorem each_vals : ∀ {bs : List (V × PyData)} {us : List Value}, Vals (bs.map (·.1)) us → PySem.W.EachIs (fun v (b : V × PyData) => RelV b.1 v) us bs
  | [], _, h => by
    have h' : Vals [] _ := h
    cases h'
    exact .nil
  | b :: bs, _, h => by
    have h' : Vals (b.1 :: bs.map (·.1)) _ := h
    cases h' with
    | cons r t => exact .cons r (each_vals t)
theorem vals_each : ∀ {bs : List (V × PyData)} {us : List Value}, PySem.W.EachIs (fun v (b : V × PyData) => RelV b.1 v) us bs → Vals (bs.map (·.1)) us
  | _, _, .nil => .nil
  | _, _, .cons r t => .cons r (vals_each t)
theorem each_reads {X : Cx} {pins : List (Addr × Obj)} {σ : St} {H : Hp} {s : Shared} (I : Inv X pins σ H s) : ∀ {bs : List (V × PyData)} {us : List Value}, (∀ b ∈ bs, Dp X.K H b.1 b.2) → PySem.W.EachIs (fun v (b : V × PyData) => RelV b.1 v) us bs → PySem.W.EachIs (fun v (b : V × PyData) => ∃ as, Reads s.heap v b.2 as) us bs
  | _, _, _, .nil => .nil
  | _, _, h, .cons r t => .cons (Dp.reads I _ _ _ (h _ List.mem_cons_self) r) (each_reads I (fun b hb => h b (List.mem_cons_of_mem _ hb)) t)
theorem cr_sortedD {X : Cx} (hu : X.A.units + 64 < cLine) : CallR X (.builtin "sorted") (rSortedD X.K) := by
  intro pins s σ H vs us Q I r h
  obtain ⟨a, bs, rfl, hs, hd, hal, hk, hL, hdp, q⟩ := h
  obtain ⟨its, rv, hl, hz⟩ := I.list hs
  rw [Vals.ref1 r]
  have e := each_vals rv
  have hL' : bs.length ≤ sizeLine := Nat.le_trans hL (by decide)
  refine PySem.W.sorted_data (vs := its) (enc := fun b : V × PyData => b.2) hl.isList e (each_reads I hd e) hal hk hL' (fun b hb => by have := hdp b hb; omega) fun out ho eo => ?_
  obtain ⟨ep, he'⟩ := PyProof.Rows.sortedAll_at s.heap its out.toArray
  have hlen : ((bs.mergeSort (PySem.W.dataLe false (fun b : V × PyData => b.2))).map (·.1)).length ≤ sizeLine := by
    rw [List.length_map, List.length_mergeSort]
    exact hL'
  exact ⟨.ref _, upd H (s.heap.objs.size + 1) (.lst _), I.laid (t' := s.toks) (fun _ _ => PyProof.Rows.sortedAll_old) (Nat.le_succ _) ⟨hlen, out, ep, vals_each eo, he'⟩, rfl, q _ (I.hok.fresh (Nat.le_succ _))⟩
end L2
namespace Wk
open PySem PySem.Spec L2 Evl
/-- alike, one with the other -/
class Al (α : Type) [Rp α] [Pd α] : Prop where
  al : ∀ a b : α, PySem.W.alike (Pd.toD a) (Pd.toD b) = true
class Als (τ : Type) [Tp τ] [Pq τ] : Prop where
  al : ∀ a b : τ, PySem.W.alikeAll (Pq.toDs a) (Pq.toDs b) = true
class So (α : Type) [Rp α] [Pd α] : Prop where
  so : (∀ a : α, ∃ x r, Pd.toD a = .tuple (x :: r)) ∨ ∀ a : α, Pd.toD a ≠ .none ∧ ∀ xs, Pd.toD a ≠ .tuple xs
instance : Al Int := ⟨fun _ _ => rfl⟩
instance : Al Str := ⟨fun _ _ => rfl⟩
instance : Al Bool := ⟨fun _ _ => rfl⟩
instance : Als Unit := ⟨fun _ _ => rfl⟩
instance {α τ : Type} [Rp α] [Tp τ] [Pd α] [Pq τ] [Al α] [Als τ] : Als (α × τ) := ⟨fun a b => by
  show PySem.W.alikeAll (Pd.toD a.1 :: Pq.toDs a.2) (Pd.toD b.1 :: Pq.toDs b.2) = true
  rw [PySem.W.alikeAll, Al.al, Als.al]
  rfl⟩
instance {α τ : Type} [Rp α] [Tp τ] [Pd α] [Pq τ] [Al α] [Als τ] : Al (α × τ) := ⟨fun a b => by
  show PySem.W.alike (.tuple (Pq.toDs a)) (.tuple (Pq.toDs b)) = true
  rw [PySem.W.alike, Als.al]⟩
instance : So Int := ⟨.inr fun a => ⟨(fun h => nomatch h), (fun _ h => nomatch h)⟩⟩
instance : So Str := ⟨.inr fun a => ⟨(fun h => nomatch h), (fun _ h => nomatch h)⟩⟩
instance : So Bool := ⟨.inr fun a => ⟨(fun h => nomatch h), (fun _ h => nomatch h)⟩⟩
instance {α τ : Type} [Rp α] [Tp τ] [Pd α] [Pq τ] : So (α × τ) := ⟨.inl fun a => ⟨_, _, rfl⟩⟩
def leD {α : Type} [Rp α] [Pd α] (a b : α) : Bool := PySem.W.dataLe false (fun c : α => Pd.toD c) a b
def srtD {α : Type} [Rp α] [Pd α] (xs : List α) : List α := xs.mergeSort leD
def srtDO {α : Type} [Rp α] [Pd α] (xs : List α) : Option (List α) := if xs.length ≤ 1000000 ∧ Pd.dp α ≤ 60 then some (srtD xs) else none
theorem paired_zip {α β : Type} {R : α → β → Prop} : ∀ {vs : List α} {xs : List β}, Paired R vs xs → ∃ ps : List (α × β), ps.map (·.1) = vs ∧ ps.map (·.2) = xs ∧ ∀ c ∈ ps, R c.1 c.2
  | _, _, .nil => ⟨[], rfl, rfl, (fun _ h => nomatch h)⟩
  | _, _, .cons r t => by
    obtain ⟨ps, h1, h2, h3⟩ := paired_zip t
    refine ⟨(_, _) :: ps, by rw [List.map_cons, h1], by rw [List.map_cons, h2], fun c hc => ?_⟩
    rcases List.mem_cons.mp hc with rfl | hc
    · exact r
    · exact h3 c hc
theorem zip_paired {α β : Type} {R : α → β → Prop} : ∀ {ps : List (α × β)}, (∀ c ∈ ps, R c.1 c.2) → Paired R (ps.map (·.1)) (ps.map (·.2))
  | [], _ => .nil
  | c :: ps, h => .cons (h c List.mem_cons_self) (zip_paired fun d hd => h d (List.mem_cons_of_mem _ hd))
section
variable {K : Fg} {F Kn0 : Hp} {sl sl' : List Sl} {ow ow1 : List Ow} {α β γ : Type} [Rp α] [Rp β] [Rp γ] {te : TE} {i j : Nat} {p : Addr}
theorem rc_sortD {α : Type} [Rp α] [Pd α] [Al α] [So α] {xs zs : List α} (h : srtDO xs = some zs) : RCL K (rSortedD K) (xs, ()) zs := fun Kn H vs ek hv Q q => by
  unfold srtDO at h
  split at h
  case isFalse => cases h
  rename_i hl
  cases h
  obtain ⟨v, rfl, l, ws, rfl, h1, h2⟩ := one_arg hv
  obtain ⟨ps, e1, e2, e3⟩ := paired_zip h2
  have eb1 : (ps.map fun c => ((c.1, Pd.toD c.2) : V × PyData)).map (·.1) = ws := by
    rw [List.map_map, ← e1]
    rfl
  have lp : ps.length = xs.length := by rw [← e2, List.length_map]
  refine ⟨l, ps.map fun c => (c.1, Pd.toD c.2), rfl, by rw [eb1]; exact sq_of (ek _ _ h1), fun b hb => ?_, ?_, ?_, by rw [List.length_map, lp]; exact hl.1, fun b hb => ?_, fun p hp => ?_⟩
  · obtain ⟨c, hc, rfl⟩ := List.mem_map.mp hb
    exact Pd.isD (Rp.mono ek (e3 c hc))
  · rw [List.map_map]
    exact PySem.W.AllAlike.of fun a b => Al.al _ _
  · rw [List.map_map]
    rcases (So.so : _ ∨ ∀ a : α, _) with h | h
    · exact PySem.W.Sortable.tuples fun c => h _
    · exact PySem.W.Sortable.others fun c => h _
  · obtain ⟨c, hc, rfl⟩ := List.mem_map.mp hb
    exact Nat.le_trans (Pd.dep _) hl.2
  · have m1 : (ps.mergeSort fun a b => leD a.2 b.2).map (fun c => ((c.1, Pd.toD c.2) : V × PyData)) = (ps.map fun c => ((c.1, Pd.toD c.2) : V × PyData)).mergeSort (PySem.W.dataLe false (fun b : V × PyData => b.2)) := List.map_mergeSort fun a _ b _ => rfl
    have m2 : (ps.mergeSort fun a b => leD a.2 b.2).map (·.2) = srtD xs := by
      unfold srtD
      rw [← e2]
      exact List.map_mergeSort fun a _ b _ => rfl
    rw [← m1, List.map_map]
    refine q p _ Kn _ (Gr.newU ek hp) hp (fresh_back ek hp) upd_same ?_
    rw [← m2]
    exact zip_paired fun c hc => e3 c ((List.mergeSort_perm _ _).mem_iff.mp hc)
theorem en_rev {xs : List α} (h : EV K F Kn0 sl ow te xs) : EN K F Kn0 sl ow (tRevL K te) xs.reverse := fun σ Kn H s Q q => h σ Kn H s _ fun v Kn1 H1 g1 r1 => by
  obtain ⟨p, ws, rfl, h3, h4⟩ := r1
  refine ⟨p, ws, rfl, sq_of (g1.kh _ _ h3), fun l hl => q l _ Kn1 _ (g1.trans (Gr.newU g1.kh hl)) (fresh_back g1.hh hl) (fresh_back g1.kh hl) upd_same ?_⟩
  obtain ⟨ps, e1, e2, e3⟩ := paired_zip h4
  rw [← e1, ← e2, ← List.map_reverse, ← List.map_reverse]
  exact zip_paired fun c hc => e3 c (List.mem_reverse.mp hc)
theorem k_sortedD {X : Cx} (hu : X.A.units + 64 < cLine) (h : X.K = K := by rfl) : CallR X (.builtin "sorted") (rSortedD K) := h ▸ cr_sortedD hu
theorem k_revL {X : Cx} {e : Expr} {te : TE} {k : Nat} {p1 p2 p3 pos : Pos} (he : PE X e te) (h : X.K = K := by rfl) : PE X (.Subscript e (.Slice none none (some (.UnaryOp .USub (.Constant (.int 1) k p1) p2)) p3) pos) (tRevL K te) := h ▸ pe_revL he
/-- sorted(d), d a dict with text keys -/
def rSortedK : List V → Hp → VK → Prop := fun xs H Q => ∃ (a : Addr) (kvs : List (Key × V)) (ks : List Str), xs = [.ref a] ∧ Rd H a (.dK kvs) ∧ kvs.map (·.1) = ks.map Sum.inr ∧ ks.length < 64 ∧ ∀ ys p, ys.Perm ks → PyProof.Rows.sortedS ys = true → H p = none → Q (.ref p) (upd H p (.lst (ys.map V.str)))
theorem k_sortedK {X : Cx} (hc : X.calm = true := by rfl) : CallR X (.builtin "sorted") rSortedK := call_sortedD hc
end
end Wk
/-! Wdeal: sum(d.values()), divmod, d[k] += c, xs[i] += c, str(n), zfill, a dict of one's own told -/
namespace L2
open PySem PySem.Spec PyProof.Rows
section
variable {X : Cx}
theorem get_list : PGet X (rIxL X.K) := by
  intro pins s σ H x y v u Q I rx ry h
  obtain ⟨p, xs, i, z, rfl, rfl, hq, he, q⟩ := h
  cases rx
  obtain ⟨t, rfl⟩ := ry
  obtain ⟨its, r, pl, hz⟩ := I.list hq
  obtain ⟨j, h1, h2, h3, h4, h5⟩ := atI_get he
  obtain ⟨w, ew, rw'⟩ := r.get h2
  have hl := r.length
  have hn := line63
  have fin : EP X pins σ Q w s := ⟨z, H, I, rw', q⟩
  by_cases h0 : 0 ≤ i
  · have hj : i.toNat = j := by
      rw [seqIndex_of h0 h5] at h1
      exact Option.some.inj h1
    exact wpAny_getItem_list pl.isList h0 (by omega) (by rw [hj]; simpa using ew) fin
  · have hj : (i + (its.toArray.size : Int)).toNat = j := by
      rw [seqIndex_neg (by omega) h4] at h1
      rw [List.size_toArray, ← hl]
      exact Option.some.inj h1
    exact wpAny_getItem_list_neg pl.isList (by omega) (by rw [List.size_toArray] <;> omega) (by omega) (by rw [hj]; simpa using ew) fin
/-- sum(o.values()), a dict with int values -/
def tSumVals (td : TE) : TE := fun σ H Q => td σ H fun x H1 => ∃ (a : Addr) (kvs : List (Key × V)) (is : List Int), x = V.ref a ∧ Rd H1 a (.dK kvs) ∧ kvs.map (·.2) = is.map V.int ∧ Q (.int is.sum) H1
theorem pre_sum (is : List Int) : ∀ n : Nat, n ≤ is.length → preSum (fun i => is.getD i 0) n = (is.take n).sum
  | 0, _ => rfl
  | n + 1, h => by
    have ih := pre_sum is n (by omega)
    show preSum (fun i => is.getD i 0) n + is.getD n 0 = _
    rw [ih, List.take_succ, List.sum_append, List.getD_eq_getElem?_getD, List.getElem?_eq_getElem (show n < is.length by omega)]
    simp
variable {o : Expr} {p pos apos mpos : Pos} {td : TE}
theorem pe_sumVals (hc : X.calm = true) (hg : Gl X "sum") (hm : X.mg "sum" = none) (hd : PE X o td) (hbase : attributeBase o "values" X.env (eval o X.env) = eval o X.env := by rfl) (hline : (apos.endLine == mpos.line) = true := by rfl)
    (hse : starEach [Expr.Call (.Attribute o "values" apos) [] [] mpos] X.env = [(false, eval (Expr.Call (.Attribute o "values" apos) [] [] mpos) X.env)] := by rfl) :
    PE X (.Call (.Name "sum" p) [.Call (.Attribute o "values" apos) [] [] mpos] [] pos) (tSumVals td) := by
  refine ⟨fun pins s σ H Q I h => ?_⟩
  refine wpAny_Call_Name_kw (ld_blt I hg hm (u := .builtin "sum") (by first | rfl | decide +kernel) ?_ (by first | decide +kernel | decide) (by first | decide +kernel | decide))
  rw [hse]
  refine PySem.callWith_builtin1 (wpAny_Call_method0_late hbase hline (thn (hd.run pins s σ H _ I h) fun v s1 ⟨x, H1, I1, r1, a, kvs, is, ex, ha, hv, q⟩ => ?_))
  subst ex
  obtain rfl : v = Value.ref a := r1
  obtain ⟨_, hsys, vs, rel, dof⟩ := dk_rd I1.hok ha
  obtain ⟨ep, dat⟩ := dof.dictAt
  have dat' := dat
  obtain ⟨ob, es, ho, ex, hdat, hko, hpr, hnd⟩ := dat'
  refine ⟨"dict", "dict.values", F.plainAttrs_dict, F.slot_dict_values, F.type_dict_values, ⟨ob, ho, ex.1⟩, fun b e => ?_, Calls.callWith_builtin rfl (PySem.evalArgs_none ?_)⟩
  · cases e
    exact ⟨ob, ho, ex.2.1⟩
  refine call_meetsIn F.slot_dict_values ⟨ob, ho, ex.1⟩ F.entry_dict_values (F.args_dict_values_1 _) (meets_dict_values (mixKind X.prog X.w) a hsys) ⟨⟨vs, dof⟩, ?_⟩
  have k1 : ∀ b u, s1.heap.get? b = some u → (s1.heap.push { cls := .type "dict_values", data := .fields #[.ref a] }).get? b = some u := fun b u e => Heap.get?_push_of_some _ e
  have dat1 : (s1.heap.push { cls := .type "dict_values", data := .fields #[.ref a] }).DictAt (mixKind X.prog X.w) a vs ep := dat.keep k1
  have hlv : vs.length = is.length := by
    have e1 := congrArg List.length hv
    rw [List.length_map, List.length_map] at e1
    rw [← e1]
    exact (KV.length rel).symm
  have hval : ∀ (i : Nat) (v : Value), (∃ k, vs[i]? = some (k, v)) → ∃ t, v = Value.int (is.getD i 0) t := fun i v ⟨k, hk⟩ => by
    obtain ⟨x, h1, h2⟩ := KV.at' rel hk
    have e1 : (kvs.map (·.2))[i]? = some x := by rw [List.getElem?_map, h1] <;> rfl
    rw [hv, List.getElem?_map] at e1
    obtain ⟨j, hj, e2⟩ := Option.map_eq_some_iff.mp e1
    subst e2
    obtain ⟨t, e3⟩ := h2
    refine ⟨t, ?_⟩
    rw [e3, List.getD_eq_getElem?_getD, hj] <;> rfl
  refine PySem.call_sum_walkAnyS (wpAny_pyIter_values (v := s1.heap.objs.size) (d := a) ⟨_, Heap.get?_push_size _ rfl, rfl, rfl⟩ dat1 ?_)
  have hlt : a < s1.heap.objs.size := Heap.lt_size ho
  have hsz : (s1.heap.push { cls := .type "dict_values", data := .fields #[.ref a] }).objs.size = s1.heap.objs.size + 1 := Heap.size_push _ _
  refine ⟨_, _, _, _, _, _, _, _, rfl, (Walks.dictValues (knd := mixKind X.prog X.w) (A := X.A.in1) (I.ok.hd hc) (s1.heap.push { cls := .type "dict_values", data := .fields #[.ref a] }).objs.size a (by rw [hsz]; exact Nat.ne_of_lt (Nat.lt_succ_of_lt hlt)) vs ep).toS,
    ⟨⟨_, Heap.get?_push_size _ rfl, rfl, rfl⟩, dat1.keep fun b u e => Heap.get?_push_of_some _ e⟩, fun b hb => ?_, hval, fun s' t' hmv => ?_⟩
  · show b < ((s1.heap.push _).push _).objs.size
    rw [Heap.size_push, Heap.size_push]
    rw [hsz] at hb
    rcases List.mem_cons.mp hb with e | hb
    · rw [e]
      exact Nat.lt_succ_self _
    · have e : b = a := List.mem_singleton.mp hb
      rw [e]
      exact Nat.lt_succ_of_lt (Nat.lt_succ_of_lt hlt)
  · have hk : ∀ b u, s1.heap.get? b = some u → s'.heap.get? b = some u := fun b u e => hmv.heap b u (fun hmem => by
      have e1 : b = (s1.heap.push { cls := .type "dict_values", data := .fields #[.ref a] }).objs.size := List.mem_singleton.mp hmem
      have e2 := Heap.lt_size e
      rw [hsz] at e1
      rw [e1] at e2
      exact absurd e2 (Nat.not_lt.mpr (Nat.le_succ _))) (Heap.get?_push_of_some _ (k1 b u e))
    rw [Moved.eq_with hmv]
    have es : preSum (fun i => is.getD i 0) vs.length = is.sum := by
      rw [pre_sum is _ (by omega), hlv, List.take_length]
    refine ⟨.int is.sum, H1, I1.kept (t' := s'.toks) hk, ⟨t', ?_⟩, q⟩
    rw [es]
end
end L2
namespace Wk
open PySem PySem.Spec L2 Evl
theorem leD_total {α : Type} [Rp α] [Pd α] : PySem.W.TotalLe (leD (α := α)) := by
  have h : PySem.W.TotalLe (PySem.W.dataLe false (fun c : α => Pd.toD c)) := by
    unfold PySem.W.dataLe
    exact PySem.W.sortLe_total _ _ _
  exact ⟨fun a b c => h.trans a b c, fun a b => h.total a b⟩
/-- neither less than the other: the same -/
class Ti (α : Type) [Rp α] [Pd α] : Prop where
  ti : ∀ {a b : α}, PySem.W.dataLt (Pd.toD a) (Pd.toD b) = false → PySem.W.dataLt (Pd.toD b) (Pd.toD a) = false → a = b
class Tis (τ : Type) [Tp τ] [Pq τ] : Prop where
  ti : ∀ {a b : τ}, PySem.W.rowLt (Pq.toDs a) (Pq.toDs b) = false → PySem.W.rowLt (Pq.toDs b) (Pq.toDs a) = false → a = b
instance : Ti Int := ⟨fun {a b} h1 h2 => by
  have h1 : PySem.W.dataLt (.int a) (.int b) = false := h1
  have h2 : PySem.W.dataLt (.int b) (.int a) = false := h2
  rw [PySem.W.dataLt_int, decide_eq_false_iff_not] at h1 h2
  omega⟩
instance : Ti Str := ⟨fun {a b} h1 h2 => by
  have h1 : PySem.W.dataLt (.str a) (.str b) = false := h1
  have h2 : PySem.W.dataLt (.str b) (.str a) = false := h2
  rw [PySem.W.dataLt_str, decide_eq_false_iff_not] at h1 h2
  refine PySem.W.str_of_cps ?_
  exact List.le_antisymm (List.not_lt.mp h2) (List.not_lt.mp h1)⟩
instance : Tis Unit := ⟨fun _ _ => rfl⟩
instance {α τ : Type} [Rp α] [Tp τ] [Pd α] [Pq τ] [Al α] [Ti α] [Tis τ] : Tis (α × τ) := ⟨fun {a b} h1 h2 => by
  have h1 : PySem.W.rowLt (Pd.toD a.1 :: Pq.toDs a.2) (Pd.toD b.1 :: Pq.toDs b.2) = false := h1
  have h2 : PySem.W.rowLt (Pd.toD b.1 :: Pq.toDs b.2) (Pd.toD a.1 :: Pq.toDs a.2) = false := h2
  unfold PySem.W.rowLt at h1 h2
  rw [PySem.W.dataLt_cons (Al.al _ _)] at h1 h2
  by_cases e : a.1 = b.1
  · have e1 : PyData.eqv (Pd.toD a.1) (Pd.toD b.1) = true := (Pd.eqd _ _).mpr e
    have e2 : PyData.eqv (Pd.toD b.1) (Pd.toD a.1) = true := (Pd.eqd _ _).mpr e.symm
    rw [if_pos e1] at h1
    rw [if_pos e2] at h2
    exact Prod.ext e (Tis.ti h1 h2)
  · rw [if_neg (fun z => e ((Pd.eqd _ _).mp z))] at h1
    rw [if_neg (fun z => e ((Pd.eqd _ _).mp z).symm)] at h2
    exact absurd (Ti.ti h1 h2) e⟩
instance {α τ : Type} [Rp α] [Tp τ] [Pd α] [Pq τ] [Al α] [Ti α] [Tis τ] : Ti (α × τ) := ⟨fun {a b} h1 h2 => by
  have h1 : PySem.W.dataLt (.tuple (Pq.toDs a)) (.tuple (Pq.toDs b)) = false := h1
  have h2 : PySem.W.dataLt (.tuple (Pq.toDs b)) (.tuple (Pq.toDs a)) = false := h2
  rw [PySem.W.dataLt_tuple] at h1 h2
  exact Tis.ti (τ := α × τ) h1 h2⟩
theorem leD_anti {α : Type} [Rp α] [Pd α] [Ti α] {a b : α} (h1 : leD a b = true) (h2 : leD b a = true) : a = b := by
  have h1 : (!PySem.W.dataLt (Pd.toD b) (Pd.toD a)) = true := h1
  have h2 : (!PySem.W.dataLt (Pd.toD a) (Pd.toD b)) = true := h2
  rw [Bool.not_eq_true'] at h1 h2
  exact Ti.ti h2 h1
theorem srtD_perm {α : Type} [Rp α] [Pd α] (xs : List α) : (srtD xs).Perm xs := List.mergeSort_perm xs _
theorem srtD_pw {α : Type} [Rp α] [Pd α] (xs : List α) : (srtD xs).Pairwise (fun a b => leD a b = true) := List.pairwise_mergeSort (fun a b c => leD_total.trans a b c) (fun a b => by have := leD_total.total a b; simpa using this) xs
theorem srtD_one {α : Type} [Rp α] [Pd α] [Ti α] {xs ys : List α} (p : ys.Perm xs) (s : ys.Pairwise (fun a b => leD a b = true)) : ys = srtD xs :=
  List.Perm.eq_of_pairwise (le := fun a b : α => leD a b = true) (fun a b _ _ h1 h2 => leD_anti h1 h2) s (srtD_pw xs) (p.trans (srtD_perm xs).symm)
theorem leD_str (a b : Str) : leD a b = decide (a.cps.toList ≤ b.cps.toList) := by
  have := congrFun (congrFun (PySem.W.dataLe_str (fun c : Str => c)) a) b
  exact this
theorem sortedS_pw : ∀ (ys : List Str), PyProof.Rows.sortedS ys = true → ys.Pairwise (fun a b => leD a b = true) := by
  have key : ∀ (ys : List Str) (p : Str), PyProof.Rows.risingS p ys = true → (p :: ys).Pairwise (fun a b => leD a b = true) := by
    intro ys
    induction ys with
    | nil => exact fun p _ => List.pairwise_singleton _ _
    | cons y ys ih =>
      intro p h
      have h : (!ltCps y.cps.toList p.cps.toList && PyProof.Rows.risingS y ys) = true := h
      rw [Bool.and_eq_true] at h
      have h2 := ih y h.2
      have h1 : leD p y = true := by
        rw [leD_str, decide_eq_true_eq]
        have := h.1
        rw [PyProof.Rows.ltCps_eq, Bool.not_eq_true', decide_eq_false_iff_not] at this
        exact List.not_lt.mp this
      refine List.pairwise_cons.mpr ⟨fun z hz => ?_, h2⟩
      rcases List.mem_cons.mp hz with rfl | hz
      · exact h1
      · exact leD_total.trans _ _ _ h1 ((List.pairwise_cons.mp h2).1 z hz)
  intro ys h
  match ys, h with
  | [], _ => exact List.Pairwise.nil
  | y :: ys, h => exact key ys y h
/-! rules -/
def skO {β : Type} (d : Dc Str β) : Option (List Str) := if d.l.length < 64 then some (srtD (d.l.map (·.1))) else none
def dmO (a b : Int) : Option (Int × Int × Unit) := if 0 < b ∧ b < 1073741824 then some (a / b, a % b, ()) else none
def strIO (n : Int) : Option Str := if n.natAbs.log2 < 1920 then some ((toString n : String) : Str) else none
def zfO (s : Str) (n : Int) : Option Str := if PadOk n = true then some (Txt.zfill s n) else none
section
variable {K : Fg} {F Kn0 : Hp} {sl sl' : List Sl} {ow ow1 ow2 : List Ow} {α β γ τ : Type} [Rp α] [Rp β] [Rp γ] [Tp τ] {ta : TA} {ta1 tb te ti tk : TE} {D : Ends} {t : TS} {i j : Nat} {p : Addr}
theorem ev_sumVals {d : Dc Str Int} (h : EV K F Kn0 sl ow te d) : EV K F Kn0 sl ow (tSumVals te) (d.l.map (·.2)).sum := fun σ Kn H s Q q => h σ Kn H s _ fun v Kn1 H1 g1 r1 => by
  obtain ⟨p, ws, rfl, h3, h4⟩ := r1
  refine ⟨p, ws, d.l.map (·.2), rfl, rd_ex g1.kh h3, ?_, q _ Kn1 H1 g1 rfl⟩
  unfold DK at h4
  clear h3 q h
  generalize d.l = kvs at h4
  induction h4 with
  | nil => rfl
  | cons r _ ih =>
    rw [List.map_cons, List.map_cons, List.map_cons, ih]
    congr 1
    exact r.2
theorem dk_keys {H : Hp} {ws : List (Key × V)} {kvs : List (Str × β)} (h : DK K H ws kvs) : ws.map (·.1) = (kvs.map (·.1)).map Sum.inr := by
  unfold DK at h
  induction h with
  | nil => rfl
  | cons r _ ih =>
    rw [List.map_cons, List.map_cons, List.map_cons, ih]
    congr 1
    exact r.1
theorem sk_fin {d : Dc Str β} {zs : List Str} (hz : skO d = some zs) {Kn H : Hp} {p : Addr} {ws : List (Key × V)} (ek : Ex Kn H) (hp : Rd H p (.dK ws)) (h4 : DK K Kn ws d.l) {Q : VK} (q : RL K Kn H Q zs) : rSortedK [.ref p] H Q := by
  unfold skO at hz
  split at hz
  case isFalse => cases hz
  rename_i hl
  cases hz
  refine ⟨p, ws, d.l.map (·.1), rfl, hp, dk_keys h4, by rw [List.length_map]; exact hl, fun ys l pm so hl2 => ?_⟩
  have e := srtD_one pm (sortedS_pw ys so)
  subst e
  exact q l _ Kn _ (Gr.newU ek hl2) hl2 (fresh_back ek hl2) upd_same (fl_paired _)
theorem rc_sortK {d : Dc Str β} {zs : List Str} (hz : skO d = some zs) : RCL K rSortedK (d, ()) zs := fun Kn H vs ek hv Q q => by
  obtain ⟨v, rfl, l, ws, rfl, h1, h2⟩ := one_arg hv
  exact sk_fin hz ek (rd_ex ek h1) h2 q
theorem en_sortKO {d : Dc Str β} {zs : List Str} (hi : sl[i]? = some (.at p)) (hj : ow[j]? = some (oo p d)) (hz : skO d = some zs) : EN K F Kn0 sl ow (tCB rSortedK (tCons (tVar i) tNil)) zs := fun σ Kn H s Q q => by
  obtain ⟨o, h1, h2⟩ := s.sl.get hi
  obtain ⟨f1, f2, ob, f3, ws, f4, f5⟩ := s.ow.each _ (List.mem_of_getElem? hj)
  subst f4
  exact ⟨.ref p, by rw [h1]; exact congrArg some h2, sk_fin hz s.ek (Rd.of f3) f5 q⟩
theorem rc_divmod {a b : Int} {r : Int × Int × Unit} (h : dmO a b = some r) : RCV K (fun xs H Q => ∃ i j, xs = [.int i, .int j] ∧ CDiv i j ∧ ∀ p, H p = none → Q (.ref p) (upd H p (.tup [.int (i / j), .int (i % j)]))) (a, b, ()) r := fun Kn H vs ek hv Q q => by
  obtain ⟨v, w, rfl, h1, h2⟩ := two_args hv
  cases h1
  cases h2
  unfold dmO at h
  split at h
  case isFalse => cases h
  rename_i hb
  cases h
  exact ⟨a, b, rfl, hb, fun p hp => q _ _ _ (Gr.new ek hp) ⟨p, _, rfl, upd_same, .int (a / b), _, rfl, rfl, .int (a % b), _, rfl, rfl, rfl⟩⟩
theorem rc_strI {n : Int} {r : Str} (h : strIO n = some r) : RCV K (fun xs H Q => ∃ i, xs = [.int i] ∧ i.natAbs.log2 < 1920 ∧ Q (.str (toString i)) H) (n, ()) r := fun Kn H vs ek hv Q q => by
  obtain ⟨v, rfl, h1⟩ := one_arg hv
  cases h1
  unfold strIO at h
  split at h
  case isFalse => cases h
  rename_i hb
  cases h
  exact ⟨n, rfl, hb, q.fl ek⟩
theorem ev_zfill {x r : Str} {n : Int} (h : EV K F Kn0 sl ow te x) (hn : EV K F Kn0 sl ow tb n) (hz : zfO x n = some r) : EV K F Kn0 sl ow (tBM K "str" (fun x xs H Q => ∃ (a : Str) (i : Int), x = .str a ∧ xs = [.int i] ∧ PadOk i = true ∧ Q (.str (Txt.zfill a i)) H) te (tCons tb tNil)) r := fun σ Kn H s Q q =>
  h σ Kn H s _ fun v Kn1 H1 g1 r1 => by
    cases r1
    refine ⟨rfl, hn σ Kn1 H1 (s.grow g1) _ fun w Kn2 H2 g2 r2 => ?_⟩
    cases r2
    unfold zfO at hz
    split at hz
    case isFalse => cases hz
    rename_i hb
    cases hz
    exact ⟨x, n, rfl, rfl, hb, q _ Kn2 H2 (g1.trans g2) rfl⟩
/-- d[k] += c -/
theorem sb_daug {κ : Type} [Rp κ] [Ky κ] [DecidableEq κ] {d d' : Dc κ Int} {k : κ} {y c : Int} (hi : sl[i]? = some (.at p)) (hj : ow[j]? = some (oo p d)) (hk : EV K F Kn0 sl ow tk k) (hy : getD d.l k = some y) (h : EV K F Kn0 sl ow te c) (hx : putO d k (y + c) = some d') (ho : ow.set j (oo p d') = ow1) (n : SN K F Kn0 sl ow1 D) :
    SB K F Kn0 sl ow D (sDAug (tVar i) tk te L2.rAdd) := fun σ Kn H s => by
  obtain ⟨o, h1, h2⟩ := s.sl.get hi
  refine ⟨.ref p, by rw [h1]; exact congrArg some h2, hk σ Kn H s _ fun w Kn1 H1 g1 r1 => ?_⟩
  have s1 := s.grow g1
  obtain ⟨f1, f2, o1, f3, ws, f4, f5⟩ := s1.ow.each _ (List.mem_of_getElem? hj)
  subst f4
  rcases f5.get k with ⟨q1, q2⟩ | ⟨y2, w2, q1, q2, q3⟩
  · rw [q1] at hy
    cases hy
  · rw [q1] at hy
    cases hy
    refine ⟨p, w2, rfl, q2 ▸ Ky.get r1 s1.ek (Rd.of f3), h σ Kn1 H1 s1 _ fun u Kn2 H2 g2 r2 => ?_⟩
    cases r2
    cases q3
    refine ⟨y, c, rfl, rfl, ?_⟩
    have s2 := s1.grow g2
    have f3' : H2 p = some (Ky.ho ws) := g2.hh _ _ f3
    have f2' : Kn2 p = none := g2.sp p (ne_none_of f3) f2
    unfold putO at hx
    split at hx
    case isFalse => cases hx
    rename_i hl
    cases hx
    subst ho
    refine ⟨_, Ky.put (Rp.mono g2.kk r1) s2.ek f3' (by rw [f5.length]; exact lt_line hl), n _ Kn2 _ ?_⟩
    exact s2.writeG hj rfl rfl (Ex.refl _) (upd_in s2.ek f2') (fun q hq _ => upd_ne hq) (fun _ _ h => h) ⟨_, upd_same, _, rfl, DK.put k rfl (DK.mono g2.kk f5)⟩
/-- xs[n] += c -/
theorem sb_augI {xs xs' : List Int} {n a c : Int} {f : Int → Int → Int} (hi : sl[i]? = some (.at p)) (hj : ow[j]? = some (ol p xs)) (hn : EV K F Kn0 sl ow ti n) (ha : atI xs n = some a) (h : EV K F Kn0 sl ow te c) (hx : setI xs n (f a c) = some xs') (ho : ow.set j (ol p xs') = ow1) (k : SN K F Kn0 sl ow1 D) :
    SB K F Kn0 sl ow D (tAugS (tVar i) ti te (rIxL K) (ipI f) rSetL) := fun σ Kn H s => by
  obtain ⟨o, h1, h2⟩ := s.sl.get hi
  refine ⟨.ref p, by rw [h1]; exact congrArg some h2, hn σ Kn H s _ fun w Kn1 H1 g1 r1 => ?_⟩
  cases r1
  have s1 := s.grow g1
  obtain ⟨f1, f2, ws, f3, f4⟩ := s1.ow.each _ (List.mem_of_getElem? hj)
  obtain ⟨u, e, r⟩ := paired_atI f4 ha
  cases r
  refine ⟨p, ws, n, _, rfl, rfl, sq_of f3, e, h σ Kn1 H1 s1 _ fun v Kn2 H2 g2 r2 => ?_⟩
  cases r2
  refine ⟨a, c, rfl, rfl, ?_⟩
  have s2 := s1.grow g2
  have f3' : H2 p = some (.lst ws) := g2.hh _ _ f3
  have f2' : Kn2 p = none := g2.sp p (ne_none_of f3) f2
  unfold setI at hx
  cases em : ixN xs.length n with
  | none => rw [em] at hx; cases hx
  | some m =>
    rw [em] at hx
    cases hx
    subst ho
    refine ⟨p, ws, n, m, rfl, rfl, f3', by rw [paired_len f4]; exact em, k _ Kn2 _ ?_⟩
    exact s2.write hj (Ex.refl _) (upd_in s2.ek f2') (fun q hq _ => upd_ne hq) (fun _ _ h => h) upd_same (paired_set (show rep K Kn2 (V.int (f a c)) (f a c) from rfl) m (paired_mono g2.kk f4))
/-- a dict of one's own: from now on it is known and stays as it is -/
theorem sb_freezeG {κ : Type} [Rp κ] [Ky κ] [DecidableEq κ] {d : Dc κ β} (hi : sl[i]? = some (.at p)) (hj : ow[j]? = some (oo p d)) (hs : sl.set i (sv d) = sl') (ho : ow.eraseIdx j = ow1) (k : SB K F Kn0 sl' ow1 D t) : SB K F Kn0 sl ow D t := fun σ Kn H s => by
  obtain ⟨ob, kp, hp, s1⟩ := s.borrowG hi hj
  subst hs
  subst ho
  exact k σ _ H s1
theorem k_listGet {X : Cx} (h : X.K = K := by rfl) : PGet X (rIxL K) := h ▸ get_list
end
end Wk
namespace Wk
open PySem PySem.Spec L2 Evl
section
variable {X : Cx} {o i value : Expr} {tpos tpos' : Pos} {td ty tv : TE}
theorem k_daug (hu : X.A.units + 64 < cLine) (ho : PE X o td) (hi : PE X i ty) (hv : PE X value tv) (ha : ∀ ov iv new, augStore i ov iv new = (do holding [new, ov, iv] (setItem ov iv new); release [new, ov, iv] []; pure .next)) : PS X (.AugAssign (.Subscript o i tpos) .Add value tpos') (sDAug td ty tv L2.rAdd) := ps_daug (by omega) ho hi hv in_add ha
end
end Wk
/-! Wpair: a def that tells two new lists in a tuple; a comprehension over a list of one's own -/
namespace Wk
open PySem PySem.Spec L2 Evl
structure PairAt {α β : Type} [Rp α] [Rp β] (K : Fg) (Kn H : Hp) (pt p1 p2 : Addr) (xs : List α) (ys : List β) : Prop where
  kt : Kn pt = none
  k1 : Kn p1 = none
  k2 : Kn p2 = none
  ne : p1 ≠ p2
  ht : H pt = some (.tup [.ref p1, .ref p2])
  e1 : ∃ w, H p1 = some (.lst w) ∧ Paired (rep K Kn) w xs
  e2 : ∃ w, H p2 = some (.lst w) ∧ Paired (rep K Kn) w ys
section
variable {α β τ : Type} [Rp α] [Rp β] [Tp τ]
def RP (K : Fg) (Kn H : Hp) (Q : VK) (xs : List α) (ys : List β) : Prop := ∀ pt p1 p2 Kn' H', Gr Kn H Kn' H' → H pt = none → H p1 = none → H p2 = none → PairAt K Kn' H' pt p1 p2 xs ys → Q (.ref pt) H'
def EP (K : Fg) (F Kn0 : Hp) (sl : List Sl) (ow : List Ow) (te : TE) (xs : List α) (ys : List β) : Prop := ∀ σ Kn H, S K F Kn0 sl ow σ Kn H → ∀ Q : VK, RP K Kn H Q xs ys → te σ H Q
def PP (K : Fg) (f : τ → Option (List α × List β × Unit)) : Sp := fun vs H Q _ => ∃ Kn t r, Ex Kn H ∧ rept K Kn vs t ∧ f t = some r ∧ RP K Kn H Q r.1 r.2.1
def RNP (K : Fg) (F Kn0 : Hp) (ow : List Ow) (R : VK) (xs : List α) (ys : List β) : Prop := ∀ pt p1 p2 Kn H, S K F Kn0 [] ow [] Kn H → F pt = none → F p1 = none → F p2 = none → PairAt K Kn H pt p1 p2 xs ys → R (.ref pt) H
end
section
variable {K : Fg} {F F' Kn0 Kn1 : Hp} {sl sl' : List Sl} {ow ow0 ow1 : List Ow} {α β γ τ : Type} [Rp α] [Rp β] [Rp γ] [Tp τ] {ta : TA} {te : TE} {t : τ} {E : XK} {D : Ends} {i j k1 k2 : Nat} {p p1 p2 : Addr} {xs : List α} {ys : List β}
theorem RNP.base {R : VK} (q : RNP K F Kn0 ow R xs ys) (b : Bs F Kn0 Kn1) : RNP K F Kn1 ow R xs ys := fun pt p1 p2 Kn H s => q pt p1 p2 Kn H (s.unbase b)
theorem RNP.fr {R : VK} (f : Fle F F') (q : RNP K F Kn0 ow0 R xs ys) : RNP K F' Kn0 ow0 R xs ys := fun pt p1 p2 Kn H s h1 h2 h3 h4 => q pt p1 p2 Kn H (s.back f) (fresh_back f h1) (fresh_back f h2) (fresh_back f h3) h4
theorem rnp_of {H Kn : Hp} {Q : VK} (q : RP K Kn H Q xs ys) : RNP K H Kn [] Q xs ys := fun pt p1 p2 Kn' H' s h1 h2 h3 h4 => q pt p1 p2 Kn' H' ⟨s.e0, s.ef, s.ek, s.sep⟩ h1 h2 h3 h4
theorem ep_call {f : τ → Option (List α × List β × Unit)} {r : List α × List β × Unit} (h : EA K F Kn0 sl ow ta t) (hf : f t = some r) : EP K F Kn0 sl ow (tCall (PP K f) [] E ta) r.1 r.2.1 := fun σ Kn H s Q q =>
  h σ Kn H s _ fun vs Kn1 H1 g1 r1 => by
    show PP K f (vs ++ []) H1 Q E
    rw [List.append_nil]
    exact ⟨Kn1, t, r, g1.kh, r1, hf, fun pt p1 p2 Kn' H' g' h1 h2 h3 h4 => q pt p1 p2 Kn' H' (g1.trans g') (fresh_back g1.hh h1) (fresh_back g1.hh h2) (fresh_back g1.hh h3) h4⟩
theorem EP.ev (h : EP K F Kn0 sl ow te xs ys) : EV K F Kn0 sl ow te (xs, ys, ()) := fun σ Kn H s Q q => h σ Kn H s Q fun pt p1 p2 Kn' H' g f0 f1 f2 a => by
  obtain ⟨kt, k1, k2, ne, ht, ⟨w1, e1, r1⟩, ⟨w2, e2, r2⟩⟩ := a
  have n1 : pt ≠ p1 := fun z => by rw [z, e1] at ht; cases ht
  have n2 : pt ≠ p2 := fun z => by rw [z, e2] at ht; cases ht
  have ga := g.know f1 k1 e1
  have kb : upd Kn' p1 (.lst w1) p2 = none := by rw [upd_ne (Ne.symm ne)]; exact k2
  have gb := ga.know f2 kb e2
  have kc : upd (upd Kn' p1 (.lst w1)) p2 (.lst w2) pt = none := by rw [upd_ne n2, upd_ne n1]; exact kt
  have gc := gb.know f0 kc ht
  have x1 : Ex Kn' (upd Kn' p1 (.lst w1)) := Ex.new k1
  have x2 : Ex (upd Kn' p1 (.lst w1)) (upd (upd Kn' p1 (.lst w1)) p2 (.lst w2)) := Ex.new kb
  have x3 := Ex.new (o := .tup [.ref p1, .ref p2]) kc
  have x := (x1.trans x2).trans x3
  refine q _ _ H' gc ⟨pt, _, rfl, upd_same, .ref p1, _, rfl, ⟨p1, w1, rfl, ?_, paired_mono x r1⟩, .ref p2, _, rfl, ⟨p2, w2, rfl, ?_, paired_mono x r2⟩, rfl⟩
  · exact x3 _ _ (x2 _ _ upd_same)
  · exact x3 _ _ upd_same
theorem EP.cast {xs' : List α} {ys' : List β} (h : EP K F Kn0 sl ow te xs ys) (e1 : xs = xs') (e2 : ys = ys') : EP K F Kn0 sl ow te xs' ys' := e1 ▸ e2 ▸ h
/-- a, b = f(..), both one's own -/
theorem sb_unpP {sl' : Addr → Addr → List Sl} (hs : ∀ p1 p2, (sl.set i (.at p1)).set j (.at p2) = sl' p1 p2) (h : EP K F Kn0 sl ow te xs ys) (k : ∀ p1 p2, SN K F Kn0 (sl' p1 p2) (ol p1 xs :: ol p2 ys :: ow) D) :
    SB K F Kn0 sl ow D (tAsg te (gTup K 2 (gCons (gName i) (gCons (gName j) gNil)))) := fun σ Kn H s => h σ Kn H s _ fun pt p1 p2 Kn' H' g f0 f1 f2 a => by
  obtain ⟨kt, k1, k2, ne, ht, ⟨w1, e1, r1⟩, ⟨w2, e2, r2⟩⟩ := a
  have s1 := s.grow g
  have s2 := s1.own (fresh_back s.ef f2) k2 (owned_ne s f2) e2 r2
  have s3 := s2.own (p := p1) (fresh_back s.ef f1) k1 (fun o ho z => by
    rcases List.mem_cons.mp ho with rfl | ho
    · exact ne z.symm
    · exact owned_ne s f1 o ho z) e1 r1
  exact ⟨pt, _, rfl, st_of ht, rfl, .ref p1, _, rfl, .ref p2, _, rfl, rfl, k p1 p2 _ Kn' H' (hs p1 p2 ▸ (s3.seta (p := p1) i).seta (p := p2) j)⟩
/-- return (a, b), both one's own -/
theorem sb_retP {R : VK} (hi : sl[i]? = some (.at p1)) (hj : sl[j]? = some (.at p2)) (h1 : ow[k1]? = some (ol p1 xs)) (h2 : ow[k2]? = some (ol p2 ys)) (hk : k1 ≠ k2) (q : RNP K F Kn0 ow0 R xs ys) (l : ow0.Sublist ow) (hR : D.rt = R := by rfl) :
    SB K F Kn0 sl ow D (tRet (tTup (tCons (tVar i) (tCons (tVar j) tNil)))) := fun σ Kn H s => by
  subst hR
  obtain ⟨o1, a1, a2⟩ := s.sl.get hi
  obtain ⟨o2, b1, b2⟩ := s.sl.get hj
  obtain ⟨f1, f2, w1, f3, f4⟩ := s.ow.each _ (List.mem_of_getElem? h1)
  obtain ⟨g1, g2, w2, g3, g4⟩ := s.ow.each _ (List.mem_of_getElem? h2)
  have f1 : F p1 = none := f1
  have f2 : Kn p1 = none := f2
  have g1 : F p2 = none := g1
  have g2 : Kn p2 = none := g2
  have ne : p1 ≠ p2 := fun z => hk (ow_at s.ow.nd h1 h2 z)
  refine ⟨.ref p1, by rw [a1]; exact congrArg some a2, .ref p2, by rw [b1]; exact congrArg some b2, by show 2 ≤ sizeLine; exact le_line (by decide), fun pt hp => ?_⟩
  have g : Gr Kn H Kn (upd H pt (.tup [.ref p1, .ref p2])) := Gr.newU s.ek hp
  exact q pt p1 p2 Kn _ ((s.grow g).sub l).fin (fresh_back s.ef hp) f1 g1 ⟨fresh_back s.ek hp, f2, g2, ne, upd_same, ⟨w1, g.hh _ _ f3, f4⟩, ⟨w2, g.hh _ _ g3, g4⟩⟩
/-- [.. for x in xs], xs one's own -/
theorem en_lcO {xs : List β} {zs : List γ} {c : β → Option Bool} {f : β → Option γ} {g : TG} {js vs : List Nat} {tt : TT} (hi : sl[i]? = some (.at p)) (hjw : ow[j]? = some (ol p xs)) (gx : β → List Sl) (hm : lcM c f xs = some zs) (hv : ∀ j ∈ vs, sl[j]? = some .any) (hg : ∀ x, GT K g sl (gx x) js x) (hj : ∀ j ∈ js, j ∈ vs)
    (ht : ∀ p (acc : List γ) x b, c x = some b → ET K F Kn0 (gx x) (ol p acc :: ow) tt b) (he : ∀ p (acc : List γ) x z, c x = some true → f x = some z → EV K F Kn0 (gx x) (ol p acc :: ow) te z) :
    EN K F Kn0 sl ow (tLc (iList K (tVar i)) g tt te vs) zs := fun σ Kn H s Q q => by
  unfold lcM at hm
  split at hm
  case isFalse => cases hm
  rename_i hlen
  obtain ⟨o1, a1, a2⟩ := s.sl.get hi
  obtain ⟨b1, b2, w0, b3, b4⟩ := s.ow.each _ (List.mem_of_getElem? hjw)
  refine ⟨.ref p, by rw [a1]; exact congrArg some a2, p, rfl, ⟨w0, sq_of b3⟩, fun D hD => ?_⟩
  have kD : Kn D = none := fresh_back s.ek hD
  have fD : F D = none := fresh_back s.ef hD
  have W : ∀ i Kn' H', Gr Kn H Kn' H' → (∀ x, xs[i]? = some x → (Itl K p).go i H' ∧ ∀ v H2, (Itl K p).yld i H' v H2 → ∃ Kn2, Gr Kn' H' Kn2 H2 ∧ rep K Kn2 v x) ∧ (xs.length ≤ i → (Itl K p).stop i H') := fun i Kn' H' gr => by
    have hq : SqL K H' p w0 := sq_of (gr.hh _ _ b3)
    refine ⟨fun x hx => ?_, fun hl => ⟨w0, hq, by rw [paired_len b4]; exact hl⟩⟩
    obtain ⟨v, hv, rv⟩ := paired_at b4 hx
    refine ⟨⟨w0, v, hq, hv⟩, fun u H2 hy => ?_⟩
    obtain ⟨rfl, f⟩ := hy
    have : v = u := Option.some.inj (hv.symm.trans (f w0 hq))
    subst this
    exact ⟨Kn', Gr.refl gr.kh, Rp.mono gr.kk rv⟩
  refine ⟨fun i m H' => i + m = xs.length ∧ ∃ Kn' ws acc rest, Gr Kn H Kn' H' ∧ Kn' D = none ∧ H' D = some (.lst ws) ∧ Paired (rep K Kn') ws acc ∧ acc.length ≤ i ∧ lcGo c f (xs.drop i) = some rest ∧ acc ++ rest = zs,
    ⟨xs.length, by omega, Kn, [], [], zs, (Gr.newU s.ek hD), kD, upd_same, .nil, Nat.le_refl _, hm, rfl⟩, fun i m H' hW => ?_⟩
  obtain ⟨em, Kn', ws, acc, rest, gr, kD', hD', rp, hal, hrest, hz⟩ := hW
  have s' : S K F Kn0 sl (ol D acc :: ow) σ Kn' H' := (s.grow gr).own fD kD' (owned_ne s hD) hD' rp
  by_cases hlt : i < xs.length
  · have hx : xs[i]? = some xs[i] := List.getElem?_eq_getElem hlt
    have hd : xs.drop i = xs[i] :: xs.drop (i + 1) := List.drop_eq_getElem_cons hlt
    rw [hd] at hrest
    obtain ⟨b, hb, hrest⟩ := bind_some hrest
    obtain ⟨go, yl⟩ := (W i Kn' H' gr).1 _ hx
    refine .inr ⟨go, fun H'' => ∃ Kn' ws acc rest, Gr Kn H Kn' H'' ∧ Kn' D = none ∧ H'' D = some (.lst ws) ∧ Paired (rep K Kn') ws acc ∧ acc.length ≤ i + 1 ∧ lcGo c f (xs.drop (i + 1)) = some rest ∧ acc ++ rest = zs, fun H'' h => ⟨m - 1, by omega, by omega, h⟩, fun v H2 hy => ?_⟩
    obtain ⟨Kn2, g2, rv⟩ := yl v H2 hy
    have s2 := (s'.grow g2).wipe hv
    refine hg _ _ Kn2 H2 v s2.sl s2.ek rv _ fun σ3 h3 hw3 => ?_
    have s3 := s2.slots h3
    have hDn : H' D ≠ none := ne_none_of hD'
    refine ⟨(hw3 vs hj).trans ?_, ht D acc _ b hb σ3 Kn2 H2 s3 _ fun Kn3 H3 g3 => ?_⟩
    · have ww : ∀ (vs us : List Nat) (σ : L2.St), (∀ j ∈ vs, j ∈ us) → L2.wipe (L2.wipe σ vs) us = L2.wipe σ us := by
        intro vs
        induction vs with
        | nil => intro us σ _; rfl
        | cons a r ih =>
          intro us σ hh
          show L2.wipe ((L2.wipe σ r).set a none) us = L2.wipe σ us
          rw [wipe_set (hh a List.mem_cons_self)]
          exact ih us σ fun j hj => hh j (List.mem_cons_of_mem _ hj)
      exact ww vs vs σ fun _ h => h
    · have g123 : Gr Kn H Kn3 H3 := (gr.trans g2).trans g3
      have kD3 : Kn3 D = none := (g2.trans g3).sp D hDn kD'
      have hD3 : H3 D = some (.lst ws) := (g2.trans g3).hh _ _ hD'
      cases b with
      | true =>
        obtain ⟨z, hfz, hrest⟩ := bind_some (show (f xs[i]).bind _ = some rest from hrest)
        obtain ⟨zs', hzs, hrest⟩ := bind_some hrest
        cases hrest
        refine iteT (he D acc _ z hb hfz σ3 Kn3 H3 (s3.grow g3) _ fun y Kn4 H4 g4 ry => ?_)
        have g234 := (g2.trans g3).trans g4
        have kD4 : Kn4 D = none := g4.sp D (ne_none_of hD3) kD3
        refine ⟨ws, g4.hh _ _ hD3, by rw [paired_len rp]; exact lt_line (by omega), Kn4, ws ++ [y], acc ++ [z], zs', (gr.trans g234).mut hD kD4, kD4, upd_same, paired_append (paired_mono g234.kk rp) (.cons ry .nil), ?_, hzs, ?_⟩
        · rw [List.length_append, List.length_singleton]; omega
        · rw [List.append_assoc]; exact hz
      | false =>
        have hrest : lcGo c f (xs.drop (i + 1)) = some rest := hrest
        exact iteF ⟨Kn3, ws, acc, rest, g123, kD3, hD3, paired_mono (g2.trans g3).kk rp, by omega, hrest, hz⟩
  · have hd : xs.drop i = [] := List.drop_eq_nil_of_le (by omega)
    rw [hd] at hrest
    cases hrest
    rw [List.append_nil] at hz
    subst hz
    exact .inl ⟨(W i Kn' H' gr).2 (by omega), q D ws Kn' H' gr hD kD' hD' rp⟩
end
end Wk
/-! Wdict: a dict walked (it is locked on the way), its values and pairs; a def that tells a new dict; dict(d); dicts alike -/
namespace L2
open PySem PySem.Spec PyProof.Rows
/-- lock it, or it is locked already -/
def tLk (t : TS) : TS := fun D σ H => tLock t D σ H ∨ t D σ H
def tLkE (t : TE) : TE := fun σ H Q => tLockE t σ H Q ∨ t σ H Q
theorem ps_lk {X : Cx} {st : Stmt} {t : TS} (h : PS X st t) : PS X st (tLk t) := by
  refine ⟨fun pins s σ H D I hw => ?_⟩
  rcases hw with hw | hw
  · exact (ps_lock h).run pins s σ H D I hw
  · exact h.run pins s σ H D I hw
theorem pe_lk {X : Cx} {e : Expr} {t : TE} (h : PE X e t) : PE X e (tLkE t) := by
  refine ⟨fun pins s σ H Q I hw => ?_⟩
  rcases hw with hw | hw
  · exact (pe_lock h).run pins s σ H Q I hw
  · exact h.run pins s σ H Q I hw
section
variable {X : Cx}
def rEqDR (r : Bool) : R2 := fun x y H Q => ∃ a b ks ls, x = .ref a ∧ y = .ref b ∧ Rd H a (.dK ks) ∧ Rd H b (.dK ls) ∧ ks.length = ls.length ∧ (∀ p ∈ ks, valV ls p.1 = some p.2 ∧ flatB p.2 = true) ∧ Q (.bl r) H
theorem op_eq_dictR (hu : X.A.units + 64 < cLine) : OpR X (compareOp .Eq) (rEqDR true) := by
  intro pins s σ H x y v u Q I rx ry h
  obtain ⟨a, b, ks, ls, rfl, rfl, ea, eb, hlen, hp, q⟩ := h
  obtain rfl : v = Value.ref a := rx
  obtain rfl : u = Value.ref b := ry
  obtain ⟨_, ya, va, ra, da⟩ := dk_rd I.hok ea
  obtain ⟨_, yb, vb, rb, db⟩ := dk_rd I.hok eb
  have hl : va.length = vb.length := by rw [← ra.length, ← rb.length]; exact hlen
  exact PySem.W.keq_eq (knd := mixKind X.prog X.w) (r := true) ya yb da db (by omega) (fun _ => hits_all rb ra hp) (fin_bl I q (by simp [hl]))
theorem op_ne_dictR (hu : X.A.units + 64 < cLine) : OpR X (compareOp .NotEq) (rEqDR false) := by
  intro pins s σ H x y v u Q I rx ry h
  obtain ⟨a, b, ks, ls, rfl, rfl, ea, eb, hlen, hp, q⟩ := h
  obtain rfl : v = Value.ref a := rx
  obtain rfl : u = Value.ref b := ry
  obtain ⟨_, ya, va, ra, da⟩ := dk_rd I.hok ea
  obtain ⟨_, yb, vb, rb, db⟩ := dk_rd I.hok eb
  have hl : va.length = vb.length := by rw [← ra.length, ← rb.length]; exact hlen
  exact PySem.W.keq_ne (knd := mixKind X.prog X.w) (r := true) ya yb da db (by omega) (fun _ => hits_all rb ra hp) (fin_bl I q (by simp [hl]))
end
end L2
namespace Wk
open PySem PySem.Spec L2 Evl
/-- where it may be walked, and how its results go back -/
structure Mv (K : Fg) (F Kn0 : Hp) (R : VK) (F' Kn1 : Hp) (R' : VK) : Prop where
  fn : ∀ q, F' q = none → F q = none
  st : ∀ sl ow σ Kn H, S K F' Kn1 sl ow σ Kn H → ∃ Kn' H', S K F Kn0 sl ow σ Kn' H' ∧ (∀ v, R v H' → R' v H) ∧ Sw Kn Kn' ∧ ∀ q, Kn q = none → Kn' q = none ∧ H' q = H q
section
variable {K : Fg} {F Kn0 F' Kn1 : Hp} {R R' : VK} {ow0 : List Ow} {α β : Type} [Rp α] [Rp β]
theorem RT.mv {x : α} (q : RT K F Kn0 ow0 R x) (m : Mv K F Kn0 R F' Kn1 R') : RT K F' Kn1 ow0 R' x := fun v Kn H s r => by
  obtain ⟨Kn', H', s', h1, h2, h3⟩ := m.st _ _ _ _ _ s
  exact h1 v (q v Kn' H' s' (Rp.swap h2 r))
theorem RN.mv {xs : List α} (q : RN K F Kn0 ow0 R xs) (m : Mv K F Kn0 R F' Kn1 R') : RN K F' Kn1 ow0 R' xs := fun p ws Kn H s fp kp hp r => by
  obtain ⟨Kn', H', s', h1, h2, h3⟩ := m.st _ _ _ _ _ s
  exact h1 _ (q p ws Kn' H' s' (m.fn p fp) (h3 p kp).1 ((h3 p kp).2.trans hp) (paired_swap h2 r))
theorem RNP.mv {xs : List α} {ys : List β} (q : RNP K F Kn0 ow0 R xs ys) (m : Mv K F Kn0 R F' Kn1 R') : RNP K F' Kn1 ow0 R' xs ys := fun pt p1 p2 Kn H s f0 f1 f2 a => by
  obtain ⟨Kn', H', s', h1, h2, h3⟩ := m.st _ _ _ _ _ s
  obtain ⟨kt, k1, k2, ne, ht, ⟨w1, e1, r1⟩, ⟨w2, e2, r2⟩⟩ := a
  exact h1 _ (q pt p1 p2 Kn' H' s' (m.fn _ f0) (m.fn _ f1) (m.fn _ f2) ⟨(h3 _ kt).1, (h3 _ k1).1, (h3 _ k2).1, ne, (h3 _ kt).2.trans ht, ⟨w1, (h3 _ k1).2.trans e1, paired_swap h2 r1⟩, ⟨w2, (h3 _ k2).2.trans e2, paired_swap h2 r2⟩⟩)
end
def lk (F : Hp) (p : Addr) (o : HO) : Hp := fun q => if q = p then (if F p = none then none else some o) else F q
theorem lk_ne {F : Hp} {p q : Addr} {o : HO} (h : q ≠ p) : lk F p o q = F q := if_neg h
theorem lk_none {F : Hp} {p q : Addr} {o : HO} : lk F p o q = none ↔ F q = none := by
  by_cases h : q = p
  · subst h
    unfold lk
    rw [if_pos rfl]
    constructor
    · intro h
      split at h
      · assumption
      · cases h
    · intro h
      rw [if_pos h]
  · rw [lk_ne h]
section
variable {K : Fg} {F Kn0 : Hp} {sl sl' : List Sl} {ow ow1 : List Ow} {σ : L2.St} {Kn H Kn1 Kn2 H2 : Hp} {p : Addr} {u : HO} {od : Obj}
theorem sw_lock (hu : isDk u) (hk : Kn p = some u) : Sw Kn (upd Kn p (.frz od u)) := fun q w h => by
  by_cases e : q = p
  · subst e
    rw [hk] at h
    cases h
    exact .inr ⟨od, u, hu, .inl ⟨rfl, upd_same⟩⟩
  · exact .inl (by rw [upd_ne e]; exact h)
theorem sw_unlock (hu : isDk u) (hk : Kn p = some (.frz od u)) : Sw Kn (upd Kn p u) := fun q w h => by
  by_cases e : q = p
  · subst e
    rw [hk] at h
    cases h
    exact .inr ⟨od, u, hu, .inr ⟨rfl, upd_same⟩⟩
  · exact .inl (by rw [upd_ne e]; exact h)
theorem S.lock (s : S K F Kn0 sl ow σ Kn H) (hu : isDk u) (hk : Kn p = some u) : S K (lk F p (.frz od u)) (upd Kn p (.frz od u)) sl ow σ (upd Kn p (.frz od u)) (upd H p (.frz od u)) := by
  refine ⟨Ex.refl _, fun a w h => ?_, fun a w h => ?_, fun _ _ h => h, s.sl.swap (sw_lock hu hk), ⟨fun o ho => ?_, s.ow.nd⟩⟩
  · by_cases e : a = p
    · subst e
      rw [upd_same] at h ⊢
      exact h
    · rw [upd_ne e] at h ⊢
      exact s.ek _ _ h
  · by_cases e : a = p
    · subst e
      unfold lk at h
      rw [if_pos rfl] at h
      split at h
      · cases h
      · rw [upd_same]
        exact h
    · rw [lk_ne e] at h
      rw [upd_ne e]
      exact s.ef _ _ h
  · obtain ⟨h1, h2, h3⟩ := s.ow.each o ho
    have hne : o.ad ≠ p := fun z => by rw [z, hk] at h2; cases h2
    exact ⟨lk_none.mpr h1, by rw [upd_ne hne]; exact h2, Ow.ok_swap (sw_lock hu hk) (upd_ne hne) h3⟩
theorem S.unlock (hu : isDk u) (hk : Kn p = some u) (hF : ∀ o, F p = some o → o = u) (s : S K (lk F p (.frz od u)) (upd Kn p (.frz od u)) sl ow σ Kn2 H2) : S K F Kn sl ow σ (upd Kn2 p u) (upd H2 p u) := by
  have hp : Kn2 p = some (.frz od u) := s.e0 _ _ upd_same
  refine ⟨fun a w h => ?_, fun a w h => ?_, fun a w h => ?_, fun a h1 h2 => ?_, s.sl.swap (sw_unlock hu hp), ⟨fun o ho => ?_, s.ow.nd⟩⟩
  · by_cases e : a = p
    · subst e
      rw [upd_same, ← hk]
      exact h
    · rw [upd_ne e]
      exact s.e0 _ _ (by rw [upd_ne e]; exact h)
  · by_cases e : a = p
    · subst e
      rw [upd_same] at h ⊢
      exact h
    · rw [upd_ne e] at h ⊢
      exact s.ek _ _ h
  · by_cases e : a = p
    · subst e
      rw [hF _ h, upd_same]
    · rw [upd_ne e]
      exact s.ef _ _ (by rw [lk_ne e]; exact h)
  · have e : a ≠ p := fun z => by rw [z, hk] at h2; cases h2
    rw [upd_ne e]
    exact s.sep a (fun z => h1 (lk_none.mp z)) (by rw [upd_ne e]; exact h2)
  · obtain ⟨h1, h2, h3⟩ := s.ow.each o ho
    have hne : o.ad ≠ p := fun z => by rw [z, hp] at h2; cases h2
    exact ⟨lk_none.mp h1, by rw [upd_ne hne]; exact h2, Ow.ok_swap (sw_unlock hu hp) (upd_ne hne) h3⟩
theorem mv_lock {R : VK} (b : Bs F Kn0 Kn) (hu : isDk u) (hk : Kn p = some u) (hF : ∀ o, F p = some o → o = u) (b2 : Bs (lk F p (.frz od u)) (upd Kn p (.frz od u)) Kn1) : Mv K F Kn0 R (lk F p (.frz od u)) Kn1 (fun v H' => H' p = some (.frz od u) ∧ R v (upd H' p u)) := by
  refine ⟨fun q h => lk_none.mp h, fun sl ow σ Kn2 H2 s => ?_⟩
  have s2 := s.unbase b2
  have hp : Kn2 p = some (.frz od u) := s2.e0 _ _ upd_same
  refine ⟨_, _, (S.unlock hu hk hF s2).unbase b, fun v h => ⟨s.ek _ _ hp, h⟩, sw_unlock hu hp, fun q h => ?_⟩
  have e : q ≠ p := fun z => by rw [z, hp] at h; cases h
  rw [upd_ne e, upd_ne e]
  exact ⟨h, rfl⟩
theorem mv_base {R : VK} (b : Bs F Kn0 Kn1) : Mv K F Kn0 R F Kn1 R :=
  ⟨fun _ h => h, fun sl ow σ Kn H s => ⟨Kn, H, s.unbase b, fun _ h => h, fun q u h => .inl h, fun q h => ⟨h, rfl⟩⟩⟩
end
/-! ### what is walked of a dict -/
class KB (κ : Type) [Rp κ] [K1 κ] : Prop where
  back : ∀ {K : Fg} {H : Hp} (a : κ), rep K H (kV (K1.key a)) a
instance : KB Int := ⟨fun _ => rfl⟩
instance : KB Str := ⟨fun _ => rfl⟩
section
variable {κ β γ : Type} [Rp κ] [K1 κ] [KB κ] [Rp β] [Rp γ] {K : Fg} {F Kn0 : Hp} {sl sl' : List Sl} {ow ow1 : List Ow} {σ : L2.St} {Kn H Kn1 : Hp} {p : Addr} {i : Nat}
structure DIt (K : Fg) (i : Nat) (d : Dc κ β) {γ : Type} [Rp γ] (wi : TI) (J : Addr → Obj → List (Key × V) → It) (xs : List γ) : Prop where
  w : ∀ (σ : L2.St) (H : Hp) (R : It → Hp → Prop) (p : Addr) (od : Obj) (ws : List (Key × V)), σ[i]? = some (some (.ref p)) → H p = some (.frz od (.dK ws)) → R (J p od ws) H → wi σ H R
  k : ∀ {Kn : Hp} {p : Addr} {od : Obj} {ws : List (Key × V)}, Kn p = some (.frz od (.dK ws)) → DK K Kn ws d.l → WK K Kn (J p od ws) xs
theorem dk_at {ws : List (Key × V)} {kvs : List (κ × β)} (h : DK K Kn ws kvs) {n : Nat} {y : κ × β} (e : kvs[n]? = some y) : ∃ v, ws[n]? = some (K1.key y.1, v) ∧ rep K Kn v y.2 := by
  unfold DK at h
  induction h generalizing n with
  | nil => cases e
  | @cons w kv ws kvs q t ih =>
    cases n with
    | zero =>
      cases e
      exact ⟨w.2, by rw [List.getElem?_cons_zero]; exact congrArg some (Prod.ext q.1 rfl), q.2⟩
    | succ n =>
      obtain ⟨v, h1, h2⟩ := ih (n := n) e
      exact ⟨v, h1, h2⟩
theorem dit_keys {d : Dc κ β} : DIt K i d (iKeys (tVar i)) Itk (d.l.map (·.1)) := by
  refine ⟨fun σ H R p od ws h1 h2 h3 => ⟨.ref p, h1, p, od, rfl, .inl ⟨ws, h2, h3⟩⟩, fun {Kn p od ws} h1 h2 i Kn' H' e1 e2 => ⟨fun x hx => ?_, fun hl => ⟨e2 _ _ (e1 _ _ h1), ?_⟩⟩⟩
  · rw [List.getElem?_map] at hx
    obtain ⟨y, hy, rfl⟩ := Option.map_eq_some_iff.mp hx
    obtain ⟨v, hv, rv⟩ := dk_at h2 hy
    refine ⟨⟨e2 _ _ (e1 _ _ h1), (List.getElem?_eq_some_iff.mp hv).1⟩, fun u H2 hh => ?_⟩
    obtain ⟨rfl, k, v2, e, rfl⟩ := hh
    rw [hv] at e
    cases e
    exact ⟨Kn', Gr.refl e2, KB.back _⟩
  · have := h2.length
    rw [List.length_map] at hl
    omega
theorem dit_vals {d : Dc κ β} : DIt K i d (iVals (tVar i)) Itd (d.l.map (·.2)) := by
  refine ⟨fun σ H R p od ws h1 h2 h3 => ⟨.ref p, h1, p, od, ws, rfl, h2, h3⟩, fun {Kn p od ws} h1 h2 i Kn' H' e1 e2 => ⟨fun x hx => ?_, fun hl => ⟨e2 _ _ (e1 _ _ h1), ?_⟩⟩⟩
  · rw [List.getElem?_map] at hx
    obtain ⟨y, hy, rfl⟩ := Option.map_eq_some_iff.mp hx
    obtain ⟨v, hv, rv⟩ := dk_at h2 hy
    refine ⟨⟨e2 _ _ (e1 _ _ h1), (List.getElem?_eq_some_iff.mp hv).1⟩, fun u H2 hh => ?_⟩
    obtain ⟨rfl, k, e⟩ := hh
    rw [hv] at e
    cases e
    exact ⟨Kn', Gr.refl e2, Rp.mono e1 rv⟩
  · have := h2.length
    rw [List.length_map] at hl
    omega
def itemsD {κ β : Type} (d : Dc κ β) : List (κ × β × Unit) := d.l.map fun kv => (kv.1, kv.2, ())
theorem dit_items {d : Dc κ β} : DIt K i d (iItems (tVar i)) Iti (itemsD d) := by
  unfold itemsD
  refine ⟨fun σ H R p od ws h1 h2 h3 => ⟨.ref p, h1, p, od, ws, rfl, h2, h3⟩, fun {Kn p od ws} h1 h2 i Kn' H' e1 e2 => ⟨fun x hx => ?_, fun hl => ⟨e2 _ _ (e1 _ _ h1), ?_⟩⟩⟩
  · rw [List.getElem?_map] at hx
    obtain ⟨y, hy, rfl⟩ := Option.map_eq_some_iff.mp hx
    obtain ⟨v, hv, rv⟩ := dk_at h2 hy
    refine ⟨⟨e2 _ _ (e1 _ _ h1), (List.getElem?_eq_some_iff.mp hv).1⟩, fun u H2 hh => ?_⟩
    obtain ⟨T, k, v2, e, rfl, hT, rfl⟩ := hh
    rw [hv] at e
    cases e
    have g : Gr Kn' H' (upd Kn' T (.tup [kV (K1.key y.1), v])) (upd H' T (.tup [kV (K1.key y.1), v])) := Gr.new e2 hT
    exact ⟨_, g, T, _, rfl, upd_same, _, _, rfl, KB.back _, v, [], rfl, Rp.mono (e1.trans g.kk) rv, rfl⟩
  · have := h2.length
    rw [List.length_map] at hl
    omega
theorem DIt.it {d : Dc κ β} {wi : TI} {J : Addr → Obj → List (Key × V) → It} {xs : List γ} (h : DIt K i d wi J xs) {od : Obj} {ws : List (Key × V)} (hk : Kn1 p = some (.frz od (.dK ws))) (r : DK K Kn1 ws d.l) : IT K F Kn1 sl ow (fun σ H R => R (J p od ws) H) xs := fun σ Kn H s R q =>
  q _ Kn H (Gr.refl s.ek) (h.k (s.e0 _ _ hk) (DK.mono s.e0 r))
/-- for x in d, d.values(), d.items() -/
theorem sb_forD {g : TG} {tb : TS} {Sx : Type} {d : Dc κ β} {wi : TI} {J : Addr → Obj → List (Key × V) → It} {xs : List γ} {D : Ends} (hd : DIt K i d wi J xs) (hi : sl[i]? = some (sv d))
    (slx : Sx → List Sl) (owx : Sx → List Ow) (gx : γ → Sx → List Sl) (js : List Nat) (P : List γ → Sx → Prop) (s0 : Sx) (h0 : P xs s0) (le : SlLe sl (slx s0)) (eo : (owx s0).Sublist ow)
    (hg : ∀ x s, GT K g (slx s) (gx x s) js x)
    (step : ∀ F' Kn1 R', Mv K F Kn0 D.rt F' Kn1 R' → ∀ bk x rest s, P (x :: rest) s → ∀ N : L2.St → Hp → Prop, (∀ s', P rest s' → ∀ σ Kn H, S K F' Kn1 (slx s') (owx s') σ Kn H → N σ H) → SB K F' Kn1 (gx x s) (owx s) ⟨N, R', bk, N⟩ tb)
    (done : ∀ s, P [] s → SN K F Kn0 (slx s) (owx s) D) : SB K F Kn0 sl ow D (tLk (tFor wi g tb)) := fun σ Kn H s => by
  obtain ⟨o, h1, v, h2, hv⟩ := s.sl.get hi
  obtain ⟨p, ws, rfl, h3, h4⟩ := hv
  have h3 : Rd Kn p (.dK ws) := h3
  have hσ : σ[i]? = some (some (.ref p)) := by rw [h1, h2]
  rcases h3 with h3 | ⟨od, h3⟩
  · refine .inl ⟨p, .dK ws, s.ek _ _ h3, trivial, fun od => ?_⟩
    have hF : ∀ o, F p = some o → o = .dK ws := fun o e => by
      have e1 := s.ef _ _ e
      rw [s.ek _ _ h3] at e1
      exact (Option.some.inj e1).symm
    have s1 := s.lock (u := .dK ws) (od := od) trivial h3
    refine hd.w σ _ _ p od ws hσ upd_same ?_
    have sw : Sw Kn (upd Kn p (.frz od (.dK ws))) := sw_lock (u := .dK ws) trivial h3
    exact sb_for (wi := fun σ H R => R (J p od ws) H) slx owx gx js P s0 (IT.m (hd.it upd_same (DK.swap sw h4))) h0 le eo hg
      (fun Kn1 b x rest st hP N hN => step _ Kn1 _ (mv_lock (u := .dK ws) s.bs trivial h3 hF b) _ x rest st hP N hN)
      (fun st hP σ2 Kn2 H2 s2 => show _ ∧ _ from ⟨s2.ek _ _ (s2.e0 _ _ upd_same), done st hP σ2 _ _ ((S.unlock (u := .dK ws) trivial h3 hF s2).unbase s.bs)⟩) σ _ _ s1
  · refine .inr (hd.w σ _ _ p od ws hσ (s.ek _ _ h3) ?_)
    exact sb_for (wi := fun σ H R => R (J p od ws) H) slx owx gx js P s0 (IT.m (hd.it h3 h4)) h0 le eo hg
      (fun Kn1 b x rest st hP N hN => step F Kn1 D.rt (mv_base ⟨s.e0.trans b.e, fun q h1 h2 => b.sp q h1 (s.sep q h1 h2)⟩) _ x rest st hP N hN)
      (fun st hP => (done st hP).base s.bs) σ Kn H s.rebase
/-- [.. for x in d] -/
theorem en_lcD {d : Dc κ β} {wi : TI} {J : Addr → Obj → List (Key × V) → It} {xs : List γ} {α : Type} [Rp α] {zs : List α} {c : γ → Option Bool} {f : γ → Option α} {g : TG} {tt : TT} {te : TE} {js vs : List Nat} (hd : DIt K i d wi J xs) (hi : sl[i]? = some (sv d)) (gx : γ → List Sl) (hm : lcM c f xs = some zs) (hv : ∀ j ∈ vs, sl[j]? = some .any) (hg : ∀ x, GT K g sl (gx x) js x) (hj : ∀ j ∈ js, j ∈ vs)
    (ht : ∀ F' Kn1 p (acc : List α) x b, c x = some b → ET K F' Kn1 (gx x) (ol p acc :: ow) tt b) (he : ∀ F' Kn1 p (acc : List α) x z, c x = some true → f x = some z → EV K F' Kn1 (gx x) (ol p acc :: ow) te z) :
    EN K F Kn0 sl ow (tLkE (tLc wi g tt te vs)) zs := fun σ Kn H s Q q => by
  obtain ⟨o, h1, v, h2, hv2⟩ := s.sl.get hi
  obtain ⟨p, ws, rfl, h3, h4⟩ := hv2
  have h3 : Rd Kn p (.dK ws) := h3
  have hσ : σ[i]? = some (some (.ref p)) := by rw [h1, h2]
  rcases h3 with h3 | ⟨od, h3⟩
  · refine .inl ⟨p, .dK ws, s.ek _ _ h3, trivial, fun od => ?_⟩
    have s1 := s.lock (u := .dK ws) (od := od) trivial h3
    refine hd.w σ _ _ p od ws hσ upd_same ?_
    have sw : Sw Kn (upd Kn p (.frz od (.dK ws))) := sw_lock (u := .dK ws) trivial h3
    show tLc (fun σ H R => R (J p od ws) H) g tt te vs σ (upd H p (.frz od (.dK ws))) (fun v H' => H' p = some (.frz od (.dK ws)) ∧ Q v (upd H' p (.dK ws)))
    refine en_lc (wi := fun σ H R => R (J p od ws) H) gx hm (hd.it upd_same (DK.swap sw h4)) hv hg hj (ht _ _) (he _ _) σ _ _ s1 _ fun l ys Kn' H' g hl kl hw rr => ?_
    have e1 : Kn' p = some (.frz od (.dK ws)) := g.kk _ _ upd_same
    have e2 : H' p = some (.frz od (.dK ws)) := g.kh _ _ e1
    have np : l ≠ p := fun z => by rw [z, e1] at kl; cases kl
    refine ⟨e2, q l ys (upd Kn' p (.dK ws)) (upd H' p (.dK ws)) ⟨fun a u h => ?_, fun a u h => ?_, fun a u h => ?_, fun a u h => ?_⟩ ?_ ?_ ?_ (paired_swap (sw_unlock (u := .dK ws) trivial e1) rr)⟩
    · by_cases e : a = p
      · subst e
        rw [upd_same, ← h3]
        exact h
      · rw [upd_ne e]
        exact g.kk _ _ (by rw [upd_ne e]; exact h)
    · by_cases e : a = p
      · subst e
        rw [upd_same, ← s.ek _ _ h3]
        exact h
      · rw [upd_ne e]
        exact g.hh _ _ (by rw [upd_ne e]; exact h)
    · by_cases e : a = p
      · subst e
        rw [upd_same] at h ⊢
        exact h
      · rw [upd_ne e] at h ⊢
        exact g.kh _ _ h
    · have e : a ≠ p := fun z => by rw [z, h3] at h; cases h
      rw [upd_ne e]
      exact g.sp a (by rw [upd_ne e]; exact u) (by rw [upd_ne e]; exact h)
    · rw [upd_ne np] at hl
      exact hl
    · rw [upd_ne np]
      exact kl
    · rw [upd_ne np]
      exact hw
  · refine .inr (hd.w σ _ _ p od ws hσ (s.ek _ _ h3) ?_)
    show tLc (fun σ H R => R (J p od ws) H) g tt te vs σ H Q
    refine en_lc (wi := fun σ H R => R (J p od ws) H) gx hm (hd.it h3 h4) hv hg hj (ht _ _) (he _ _) σ Kn H s.rebase _ fun l ys Kn' H' g hl kl hw rr => ?_
    exact q l ys Kn' H' g hl kl hw rr
end
/-! ### a new object told -/
section
variable {α τ γ : Type} [Rp α] [Tp τ] [Ob γ]
def RG (K : Fg) (Kn H : Hp) (Q : VK) (x : γ) : Prop := ∀ p o Kn' H', Gr Kn H Kn' H' → H p = none → Kn' p = none → H' p = some o → Ob.ob K Kn' o x → Q (.ref p) H'
def EG (K : Fg) (F Kn0 : Hp) (sl : List Sl) (ow : List Ow) (te : TE) (x : γ) : Prop := ∀ σ Kn H, S K F Kn0 sl ow σ Kn H → ∀ Q : VK, RG K Kn H Q x → te σ H Q
def PG (K : Fg) (f : τ → Option γ) : Sp := fun vs H Q _ => ∃ Kn t r, Ex Kn H ∧ rept K Kn vs t ∧ f t = some r ∧ RG K Kn H Q r
def RNG (K : Fg) (F Kn0 : Hp) (ow : List Ow) (R : VK) (x : γ) : Prop := ∀ p o Kn H, S K F Kn0 [] ow [] Kn H → F p = none → Kn p = none → H p = some o → Ob.ob K Kn o x → R (.ref p) H
end
section
variable {K : Fg} {F F' Kn0 Kn1 : Hp} {sl sl' : List Sl} {ow ow0 ow1 : List Ow} {α κ β τ γ : Type} [Rp α] [Rp κ] [Ky κ] [DecidableEq κ] [Rp β] [Tp τ] [Ob γ] {ta : TA} {te : TE} {t : τ} {E : XK} {D : Ends} {i j : Nat} {p : Addr} {x : γ} {R R' : VK}
theorem RNG.base (q : RNG K F Kn0 ow R x) (b : Bs F Kn0 Kn1) : RNG K F Kn1 ow R x := fun p o Kn H s => q p o Kn H (s.unbase b)
theorem RNG.fr (f : Fle F F') (q : RNG K F Kn0 ow0 R x) : RNG K F' Kn0 ow0 R x := fun p o Kn H s h1 h2 h3 h4 => q p o Kn H (s.back f) (fresh_back f h1) h2 h3 h4
theorem RNG.mv (q : RNG K F Kn0 ow0 R x) (m : Mv K F Kn0 R F' Kn1 R') : RNG K F' Kn1 ow0 R' x := fun p o Kn H s fp kp hp r => by
  obtain ⟨Kn', H', s', h1, h2, h3⟩ := m.st _ _ _ _ _ s
  exact h1 _ (q p o Kn' H' s' (m.fn p fp) (h3 p kp).1 ((h3 p kp).2.trans hp) (Ob.swap h2 r))
theorem rng_of {H Kn : Hp} {Q : VK} (q : RG K Kn H Q x) : RNG K H Kn [] Q x := fun p o Kn' H' s h1 h2 h3 h4 => q p o Kn' H' ⟨s.e0, s.ef, s.ek, s.sep⟩ h1 h2 h3 h4
theorem eg_call {f : τ → Option γ} {r : γ} (h : EA K F Kn0 sl ow ta t) (hf : f t = some r) : EG K F Kn0 sl ow (tCall (PG K f) [] E ta) r := fun σ Kn H s Q q =>
  h σ Kn H s _ fun vs Kn1 H1 g1 r1 => by
    show PG K f (vs ++ []) H1 Q E
    rw [List.append_nil]
    exact ⟨Kn1, t, r, g1.kh, r1, hf, fun p o Kn' H' g' h1 h2 h3 h4 => q p o Kn' H' (g1.trans g') (fresh_back g1.hh h1) h2 h3 h4⟩
theorem EG.ev {d : Dc κ β} (h : EG K F Kn0 sl ow te d) : EV K F Kn0 sl ow te d := fun σ Kn H s Q q => h σ Kn H s Q fun p o Kn' H' g hp kp ho r => by
  obtain ⟨ws, rfl, r⟩ := r
  exact q _ (upd Kn' p (Ky.ho ws)) H' (g.know hp kp ho) ⟨p, ws, rfl, Rd.of upd_same, DK.mono (Ex.new kp) r⟩
theorem EG.cast {x y : γ} (h : EG K F Kn0 sl ow te x) (e : x = y) : EG K F Kn0 sl ow te y := e ▸ h
/-- x = e, one's own from now on -/
theorem sb_asgG {sl' : Addr → List Sl} (hs : ∀ p, sl.set i (.at p) = sl' p) (h : EG K F Kn0 sl ow te x) (k : ∀ p, SN K F Kn0 (sl' p) (oo p x :: ow) D) : SB K F Kn0 sl ow D (tAsg te (gName i)) := fun σ Kn H s =>
  h σ Kn H s _ fun p o Kn1 H1 g1 hp kp ho r1 => k p _ Kn1 H1 (hs p ▸ ((s.grow g1).ownG (p := p) (o := oo p x) rfl (fresh_back s.ef hp) kp (owned_ne s hp) ⟨o, ho, r1⟩).seta i)
theorem sb_retG (hi : sl[i]? = some (.at p)) (hj : ow[j]? = some (oo p x)) (q : RNG K F Kn0 ow0 R x) (l : ow0.Sublist ow) (hR : D.rt = R := by rfl) : SB K F Kn0 sl ow D (tRet (tVar i)) := fun σ Kn H s => by
  subst hR
  obtain ⟨o, h1, h2⟩ := s.sl.get hi
  obtain ⟨f1, f2, ob, f3, f4⟩ := s.ow.each _ (List.mem_of_getElem? hj)
  exact ⟨.ref p, by rw [h1]; exact congrArg some h2, q p ob Kn H (s.sub l).fin f1 f2 f3 f4⟩
theorem sb_retE (h : EG K F Kn0 sl ow te x) (q : RNG K F Kn0 ow0 R x) (l : ow0.Sublist ow) (hR : D.rt = R := by rfl) : SB K F Kn0 sl ow D (tRet te) := fun σ Kn H s => by
  subst hR
  exact h σ Kn H s _ fun p o Kn' H' g hp kp ho r => q p o Kn' H' ((s.grow g).sub l).fin (fresh_back s.ef hp) kp ho r
end
/-! ### dict(d), dicts alike, a text many times -/
section
variable {K : Fg} {F Kn0 : Hp} {sl sl' : List Sl} {ow ow1 : List Ow} {κ β : Type} [Rp κ] [K1 κ] [DecidableEq κ] [Rp β] {te : TE} {i j : Nat} {p : Addr}
abbrev rDictD : List V → Hp → VK → Prop := fun xs H Q => ∃ (a : Addr) (kvs : List (Key × V)), xs = [.ref a] ∧ Rd H a (.dK kvs) ∧ ∀ p, H p = none → Q (.ref p) (upd H p (.dK kvs))
theorem eg_dict {d : Dc κ β} (h : EV K F Kn0 sl ow te d) : EG K F Kn0 sl ow (tCB rDictD (tCons te tNil)) d := fun σ Kn H s Q q => h σ Kn H s _ fun v Kn1 H1 g1 r1 => by
  obtain ⟨l, ws, rfl, h1, h2⟩ := r1
  exact ⟨l, ws, rfl, rd_ex g1.kh h1, fun p hp => q p _ Kn1 _ (g1.trans (Gr.newU g1.kh hp)) (fresh_back g1.hh hp) (fresh_back g1.kh hp) upd_same ⟨ws, rfl, h2⟩⟩
theorem eg_dictO {d : Dc κ β} (hi : sl[i]? = some (.at p)) (hj : ow[j]? = some (oo p d)) : EG K F Kn0 sl ow (tCB rDictD (tCons (tVar i) tNil)) d := fun σ Kn H s Q q => by
  obtain ⟨o, h1, h2⟩ := s.sl.get hi
  obtain ⟨f1, f2, ob, f3, ws, rfl, f5⟩ := s.ow.each _ (List.mem_of_getElem? hj)
  exact ⟨.ref p, by rw [h1]; exact congrArg some h2, p, ws, rfl, Rd.of f3, fun l hl => q l _ Kn _ (Gr.newU s.ek hl) hl (fresh_back s.ek hl) upd_same ⟨ws, rfl, f5⟩⟩
/-- {k: v, ..} -/
theorem eg_disp {trs : List (TE × TE)} {kvs : List (κ × β)} (hp : EPs K F Kn0 sl ow trs kvs) (hl : kvs.length ≤ 15) : EG K F Kn0 sl ow (tDisp trs) (Dc.mk (mergeD [] kvs)) := fun σ Kn H s Q q p hp0 => by
  have g0 : Gr Kn H Kn (upd H p (.dK [])) := Gr.newU s.ek hp0
  refine hp σ Kn _ (s.grow g0) _ fun ws Kn1 H1 g1 r1 => ?_
  have e1 : H1 p = some (.dK []) := g1.hh _ _ upd_same
  have kp : Kn1 p = none := g1.sp p (ne_none_of upd_same) (fresh_back s.ek hp0)
  have g : Gr Kn H Kn1 (upd H1 p (.dK (mergeK [] ws))) := ⟨g1.kk, fun a u h => by
    have hne : a ≠ p := fun z => by rw [z, hp0] at h; cases h
    rw [upd_ne hne]
    exact g1.hh _ _ (by rw [upd_ne hne]; exact h), upd_in g1.kh kp, fun a h1 h2 => g1.sp a (Ex.nn g0.hh h1) h2⟩
  exact ⟨e1, ws, rfl, by rw [r1.length]; exact hl, q p _ Kn1 _ g hp0 kp upd_same ⟨_, rfl, DK.merge r1 .nil⟩⟩
instance {κ β : Type} [Rp κ] [K1 κ] [Rp β] : Tn (Dc κ β) := ⟨"dict", fun h => by
  obtain ⟨p, ws, rfl, h1, _⟩ := h
  rcases h1 with h1 | ⟨o, h1⟩
  · exact .base (.dK h1)
  · exact .fDict h1⟩
/-- are the dicts alike? told where they are -/
def eqDO {κ β : Type} [DecidableEq κ] [DecidableEq β] (a b : Dc κ β) : Option Bool := if a.l.length = b.l.length ∧ (a.l.all fun kv => decide (getD b.l kv.1 = some kv.2)) = true then some true else none
class FlB (β : Type) [Rp β] : Prop where
  fb : ∀ {K : Fg} {H : Hp} {v : V} {x : β}, rep K H v x → flatB v = true
  un : ∀ {K : Fg} {H : Hp} {v w : V} {x : β}, rep K H v x → rep K H w x → v = w
instance : FlB Int := ⟨fun h => by cases h; rfl, fun h1 h2 => by cases h1; cases h2; rfl⟩
instance : FlB Str := ⟨fun h => by cases h; rfl, fun h1 h2 => by cases h1; cases h2; rfl⟩
instance : FlB Bool := ⟨fun h => by cases h; rfl, fun h1 h2 => by cases h1; cases h2; rfl⟩
theorem dk_mem {Kn : Hp} {ws : List (Key × V)} {kvs : List (κ × β)} (h : DK K Kn ws kvs) {w : Key × V} (hw : w ∈ ws) : ∃ kv ∈ kvs, w.1 = K1.key kv.1 ∧ rep K Kn w.2 kv.2 := by
  unfold DK at h
  induction h with
  | nil => cases hw
  | cons q t ih =>
    rcases List.mem_cons.mp hw with rfl | hw
    · exact ⟨_, List.mem_cons_self, q⟩
    · obtain ⟨kv, h1, h2⟩ := ih hw
      exact ⟨kv, List.mem_cons_of_mem _ h1, h2⟩
theorem eqD_go [DecidableEq β] [FlB β] {a b : Dc κ β} {r r' : Bool} (h : eqDO a b = some r) {Kn H : Hp} {v w : V} (ek : Ex Kn H) (h1 : rep K Kn v a) (h2 : rep K Kn w b) {Q : VK} (q : Q (.bl r') H) : rEqDR r' v w H Q ∧ r = true := by
  obtain ⟨p1, w1, rfl, a1, a2⟩ := h1
  obtain ⟨p2, w2, rfl, b1, b2⟩ := h2
  unfold eqDO at h
  split at h
  case isFalse => cases h
  rename_i hl
  cases h
  refine ⟨⟨p1, p2, w1, w2, rfl, rfl, rd_ex ek a1, rd_ex ek b1, ?_, fun x hx => ?_, q⟩, rfl⟩
  · rw [a2.length, b2.length]
    exact hl.1
  · obtain ⟨kv, hm, e1, e2⟩ := dk_mem a2 hx
    have g := of_decide_eq_true (List.all_eq_true.mp hl.2 kv hm)
    rcases b2.get kv.1 with ⟨z, _⟩ | ⟨y, v, z1, z2, z3⟩
    · rw [z] at g
      cases g
    · rw [z1] at g
      cases g
      refine ⟨?_, FlB.fb e2⟩
      rw [e1]
      have : valV w2 (K1.key kv.1) = some v := z2
      rw [this, FlB.un e2 z3]
theorem r2_eqD [DecidableEq β] [FlB β] {a b : Dc κ β} {r : Bool} (h : eqDO a b = some r) : R2V K (rEqDR true) a b r := fun Kn H v w ek h1 h2 Q q => by
  obtain ⟨_, e⟩ := eqD_go h ek h1 h2 (r' := true) (Q := fun _ _ => True) trivial
  subst e
  exact (eqD_go h ek h1 h2 (r' := true) (q.fl (z := true) ek)).1
theorem r2_neD [DecidableEq β] [FlB β] {a b : Dc κ β} {r : Bool} (h : eqDO a b = some r) : R2V K (rEqDR false) a b (!r) := fun Kn H v w ek h1 h2 Q q => by
  obtain ⟨_, e⟩ := eqD_go h ek h1 h2 (r' := true) (Q := fun _ _ => True) trivial
  subst e
  exact (eqD_go h ek h1 h2 (r' := false) (q.fl (z := false) ek)).1
end
end Wk
set_option maxHeartbeats 4000000
/-! Wpag: dict(xs) of a list of pairs; None asked of a value of any kind; isinstance of an exception by a class of the program -/
namespace Wk
open PySem PySem.Spec L2 Evl
section
variable {K : Fg} {F Kn0 : Hp} {sl : List Sl} {ow : List Ow} {κ β : Type} [Rp κ] [K1 κ] [DecidableEq κ] [Rp β] {te : TE}
def prs1 (xs : List (κ × β × Unit)) : List (κ × β) := xs.map fun t => (t.1, t.2.1)
abbrev rDictP (K : Fg) : List V → Hp → VK → Prop := fun xs H Q => ∃ (a : Addr) (ps : List Addr) (kvs : List (Key × V)), xs = [.ref a] ∧ SqL K H a (ps.map V.ref) ∧ Paired (fun p kv => SqT K H p [kV kv.1, kv.2]) ps kvs ∧
    ∀ p, H p = none → Q (.ref p) (upd H p (.dK (mergeK [] kvs)))
theorem prs1_of {Kn H : Hp} (e : Ex Kn H) : ∀ {vs : List V} {xs : List (κ × β × Unit)}, Paired (rep K Kn) vs xs → ∃ (ps : List Addr) (kvs : List (Key × V)), vs = ps.map V.ref ∧
    Paired (fun p kv => SqT K H p [kV kv.1, kv.2]) ps kvs ∧ DK K Kn kvs (prs1 xs)
  | _, _, .nil => ⟨[], [], rfl, .nil, .nil⟩
  | _, _, .cons (a := v) (b := t) h r => by
    obtain ⟨ps, kvs, e1, e2, e3⟩ := prs1_of e r
    obtain ⟨q, ws, rfl, hq, kv, rest, rfl, hk, yv, rest2, rfl, hy, hu⟩ := h
    cases hu
    have := K1.iff hk
    subst this
    exact ⟨q :: ps, (K1.key t.1, yv) :: kvs, by rw [e1]; rfl, .cons (st_of (e _ _ hq)) e2, .cons ⟨rfl, hy⟩ e3⟩
theorem eg_dictP {xs : List (κ × β × Unit)} (h : EV K F Kn0 sl ow te xs) : EG K F Kn0 sl ow (tCB (rDictP K) (tCons te tNil)) (Dc.mk (mergeD [] (prs1 xs))) := fun σ Kn H s Q q => h σ Kn H s _ fun v Kn1 H1 g1 r1 => by
  obtain ⟨a, vs, rfl, ha, hv⟩ := r1
  obtain ⟨ps, kvs, rfl, e2, e3⟩ := prs1_of g1.kh hv
  exact ⟨a, ps, kvs, rfl, sq_of (g1.kh _ _ ha), e2, fun p hp => q p _ Kn1 _ (g1.trans (Gr.newU g1.kh hp)) (fresh_back g1.hh hp) (fresh_back g1.kh hp) upd_same ⟨_, rfl, DK.merge e3 .nil⟩⟩
end
theorem k_dictP {X : Cx} {K : Fg} (hc : X.calm = true := by rfl) (h : X.K = K := by rfl) : CallR X (.type "dict") (rDictP K) := h ▸ call_dictP hc
/-- found.reverse() -/
theorem sb_rev {K : Fg} {F Kn0 : Hp} {sl : List Sl} {ow ow1 : List Ow} {D : Ends} {α : Type} [Rp α] {xs : List α} {i j : Nat} {p : Addr} (hi : sl[i]? = some (.at p)) (hj : ow[j]? = some (ol p xs)) (ho : ow.set j (ol p xs.reverse) = ow1) (k : SN K F Kn0 sl ow1 D) : SB K F Kn0 sl ow D (tDrop (tBM0 K "list" rReverse (tVar i))) := fun σ Kn H s => by
  obtain ⟨o, h1, h2⟩ := s.sl.get hi
  obtain ⟨f1, f2, ws, f3, f4⟩ := s.ow.each _ (List.mem_of_getElem? hj)
  subst ho
  refine ⟨.ref p, by rw [h1]; exact congrArg some h2, Or.inl ⟨rfl, ws, sq_of f3⟩, p, ws, rfl, rfl, f3, k _ Kn _ ?_⟩
  exact s.write hj (Ex.refl _) (upd_in s.ek f2) (fun q hq _ => upd_ne hq) (fun _ _ h => h) upd_same (paired_rev f4)
/-! ### None -/
def isNoD (x : Dy) : Bool := match x.d with | .none => true | _ => false
section
variable {K : Fg}
theorem r2_isND {x : Dy} : R2V K (fun x y H Q => y = .non ∧ Q (.bl (decide (x = .non))) H) x Nn.nn (isNoD x) := fun Kn H v w ek h1 h2 Q q => by
  cases h2
  refine ⟨rfl, ?_⟩
  have e : decide (v = V.non) = isNoD x := by
    obtain ⟨d⟩ := x
    have h1 : Dq Kn v d := h1
    cases h1 <;> rfl
  rw [e]
  exact q.fl ek
theorem r2_notND {x : Dy} : R2V K (fun x y H Q => y = .non ∧ Q (.bl (!decide (x = .non))) H) x Nn.nn (!isNoD x) := fun Kn H v w ek h1 h2 Q q => by
  cases h2
  refine ⟨rfl, ?_⟩
  have e : decide (v = V.non) = isNoD x := by
    obtain ⟨d⟩ := x
    have h1 : Dq Kn v d := h1
    cases h1 <;> rfl
  rw [e]
  exact q.fl ek
/-! ### classes of the program -/
structure ClN where
  a : Addr
instance rpClN : Rp ClN := { rep := fun _ _ v x => v = .ref x.a, swap := fun _ h => h }
instance : Fl ClN := { toV := fun x => V.ref x.a, iff := Iff.rfl }
theorem ev_cl {F Kn0 : Hp} {sl : List Sl} {ow : List Ow} (C : Addr) : EV K F Kn0 sl ow (tC (.ref C)) (ClN.mk C) := ev_c (ClN.mk C)
theorem rc_isXC {a D C : Addr} {cm : Str → Option Addr} {cls : Value} {d : Option Addr} {n : Str} {b : Bool} {u : Unit} {e : Xc} (hD : cm n = some D) (hx : xcls e n = some u) (hk : PySem.W.kitOne K (.ref D) (.ref C) = some b) : RCV K (rIsX K D a cls d) ((Xv.mk e : Xv cm a cls d), ClN.mk C, ()) b := fun Kn H vs ek h Q q => by
  obtain ⟨v, w, rfl, h1, h2⟩ := two_args h
  obtain ⟨rfl, A, hA, hc, hd⟩ := h1
  rw [xcls_eq hx, hD] at hA
  cases hA
  refine ⟨w, .ref C, b, rfl, hc, ?_, fun u hu => ?_, hk, q.fl ek⟩
  · rcases hd with ⟨_, h1⟩ | ⟨dd, fs, h1, h3, _⟩
    · exact .inl h1
    · exact .inr ⟨dd, fs, h1, ek _ _ h3⟩
  · have h2 : w = .ref C := h2
    subst h2
    exact hu
end
theorem kit_twoC {K : Fg} {D C : Addr} {b : Bool} (h : PySem.W.subIn K (.ref D) (.ref C) = some b) (hr : PySem.W.subIn K (.ref D) (.ref D) = some true) (h2 : PySem.W.isClsIn K C = true) (h3 : PySem.W.typeIn K (.ref C) = some (.type "type")) : PySem.W.kitOne K (.ref D) (.ref C) = some b := by
  unfold PySem.W.kitOne
  by_cases e : D = C
  · subst e
    rw [if_pos (by exact beq_self_eq_true _)]
    rw [hr] at h
    exact h
  · rw [if_neg (fun z => e (by have := eq_of_beq z; cases this; rfl))]
    unfold PySem.W.kitCls
    have e2 : ((PySem.W.clsIn K C).isSome && PySem.W.typeIn K (.ref C) == some (.type "type")) = true := by
      have h2' : (PySem.W.clsIn K C).isSome = true := h2
      rw [h2', h3] <;> rfl
    simp only
    rw [if_pos e2]
    exact h
end Wk
set_option maxHeartbeats 4000000
/-! Wany: isinstance of a value of any kind; lists read as lists of values of any kind -/
namespace Wk
open PySem PySem.Spec L2 Evl
def isiD (x : Dy) (n : String) : Bool := match x.d with
  | .none => n == "NoneType"
  | .bool _ => n == "bool" || n == "int"
  | .int _ => n == "int"
  | .str _ => n == "str"
  | .list _ => n == "list"
  | .tuple _ => n == "tuple"
  | _ => false
section
variable {K : Fg}
theorem rc_isiD {x : Dy} {n : String} (h0 : kitB "NoneType" n = some (n == "NoneType")) (h1 : kitB "bool" n = some (n == "bool" || n == "int")) (h2 : kitB "int" n = some (n == "int")) (h3 : kitB "str" n = some (n == "str")) (h4 : kitB "list" n = some (n == "list")) (h5 : kitB "tuple" n = some (n == "tuple")) :
    RCV K (rIsi K) (x, TyN.mk n, ()) (isiD x n) := fun Kn H vs ek hr Q q => by
  obtain ⟨v, w, rfl, r1, r2⟩ := two_args hr
  cases r2
  obtain ⟨d⟩ := x
  have r1 : Dq Kn v d := r1
  cases r1 with
  | non => exact ⟨_, .ty n, .type "NoneType", .type n, _, rfl, .ty n, Tn.is (α := Nn) (a := Nn.nn) (show rep K H V.non Nn.nn from rfl), kit_ty h0, q.fl ek⟩
  | bl b => exact ⟨_, .ty n, .type "bool", .type n, _, rfl, .ty n, Tn.is (α := Bool) (a := b) (show rep K H (V.bl b) b from rfl), kit_ty h1, q.fl ek⟩
  | int i => exact ⟨_, .ty n, .type "int", .type n, _, rfl, .ty n, Tn.is (α := Int) (a := i) (show rep K H (V.int i) i from rfl), kit_ty h2, q.fl ek⟩
  | str s => exact ⟨_, .ty n, .type "str", .type n, _, rfl, .ty n, Tn.is (α := Str) (a := s) (show rep K H (V.str s) s from rfl), kit_ty h3, q.fl ek⟩
  | lst h r => exact ⟨_, .ty n, .type "list", .type n, _, rfl, .ty n, .base (.lst (ek _ _ h)), kit_ty h4, q.fl ek⟩
  | tup h r => exact ⟨_, .ty n, .type "tuple", .type n, _, rfl, .ty n, .base (.tup (ek _ _ h)), kit_ty h5, q.fl ek⟩
end
section
variable {K : Fg} {F Kn0 : Hp} {sl : List Sl} {ow ow1 : List Ow} {α : Type} [Rp α] [Ud α] {te : TE}
theorem paired_up {H : Hp} : ∀ {vs : List V} {xs : List α}, Paired (rep K H) vs xs → Paired (rep K H) vs (xs.map upD)
  | _, _, .nil => .nil
  | _, _, .cons r t => .cons (Ud.is r) (paired_up t)
theorem ev_upL {xs : List α} (h : EV K F Kn0 sl ow te xs) : EV K F Kn0 sl ow te (xs.map upD) := fun σ Kn H s Q q => h σ Kn H s Q fun v Kn' H' g r => by
  obtain ⟨p, vs, rfl, h1, h2⟩ := r
  exact q _ Kn' H' g ⟨p, vs, rfl, h1, paired_up h2⟩
theorem en_upL {xs : List α} (h : EN K F Kn0 sl ow te xs) : EN K F Kn0 sl ow te (xs.map upD) := fun σ Kn H s Q q => h σ Kn H s Q fun l ws Kn' H' g hl kl hw r => q l ws Kn' H' g hl kl hw (paired_up r)
end
end Wk
/-! Wmix: slices of tuples and texts, extend, a list of unlike things -/
namespace Wk
open PySem PySem.Spec L2 Evl
/-- the places from a on, b of them -/
inductive Cu : {τ : Type} → [Tp τ] → Nat → Nat → {υ : Type} → [Tp υ] → τ → υ → Prop
  | nil {τ : Type} [Tp τ] (t : τ) : Cu 0 0 t ()
  | take {α τ υ : Type} [Rp α] [Tp τ] [Tp υ] {b : Nat} (x : α) {t : τ} {u : υ} : Cu 0 b t u → Cu 0 (b + 1) (x, t) (x, u)
  | drop {α τ υ : Type} [Rp α] [Tp τ] [Tp υ] {a b : Nat} (x : α) {t : τ} {u : υ} : Cu a b t u → Cu (a + 1) b (x, t) u
theorem Cu.get {K : Fg} {H : Hp} {τ : Type} [i : Tp τ] {a b : Nat} {υ : Type} [j : Tp υ] {t : τ} {u : υ} (h : Cu a b t u) : ∀ {vs : List V}, rept K H vs t → rept K H ((vs.drop a).take b) u := by
  induction h with
  | nil t => exact fun _ => rfl
  | take x _ ih =>
    intro vs r
    obtain ⟨v, r, rfl, h1, h2⟩ := r
    exact ⟨v, _, rfl, h1, ih h2⟩
  | drop x _ ih =>
    intro vs r
    obtain ⟨v, r, rfl, h1, h2⟩ := r
    exact ih h2
structure Hl (τ : Type) where
  t : τ
  deriving DecidableEq
instance {τ : Type} [Tp τ] : Rp (Hl τ) where
  rep K H v x := ∃ p vs, v = .ref p ∧ H p = some (.lst vs) ∧ rept K H vs x.t
  swap e h := by
    obtain ⟨p, vs, h1, h2, h3⟩ := h
    exact ⟨p, vs, h1, e.lst h2, Tp.swap e h3⟩
instance {τ : Type} [Tp τ] [Pq τ] : Pd (Hl τ) where
  toD x := .list (Pq.toDs x.t)
  dp := Pq.dp τ + 1
  isD h := by
    obtain ⟨p, vs, rfl, h1, h2⟩ := h
    exact .lst (sq_of h1) (Pq.isD h2)
  dep a := by
    simp only [PyData.depth]
    exact Nat.succ_le_succ (Pq.dep a.t)
  eqd a b := by
    simp only [PyData.eqv]
    rw [Pq.eqd]
    cases a
    cases b
    simp
def cutSO (z : Str) (lo hi : Option Int) : Option Str := if z.length ≤ 1000000 then some (cutS z lo hi) else none
section
variable {K : Fg} {F Kn0 : Hp} {sl sl' : List Sl} {ow ow1 ow2 : List Ow} {α β γ τ υ : Type} [Rp α] [Rp β] [Rp γ] [Tp τ] [Tp υ] {ta : TA} {tb te : TE} {D : Ends} {i j : Nat} {p : Addr}
theorem ev_tsl {t : α × τ} {u : β × υ} {tl th : TO} {lo hi : Option Int} {a b : Nat} (h : EV K F Kn0 sl ow te t) (hl : EO K F Kn0 sl ow tl lo) (hh : EO K F Kn0 sl ow th hi)
    (ha : HT.sIx (Tp.n (α × τ)) 0 lo = a) (hb : HT.sIx (Tp.n (α × τ)) (Tp.n (α × τ)) hi - a = b) (hw : ¬ (HT.sIx (Tp.n (α × τ)) 0 lo = 0 ∧ HT.sIx (Tp.n (α × τ)) (Tp.n (α × τ)) hi = Tp.n (α × τ))) (hc : Cu a b t u) :
    EV K F Kn0 sl ow (tSl (rSlT K) te tl th) u := fun σ Kn H s Q q =>
  h σ Kn H s _ fun v Kn1 H1 g1 r1 => hl σ Kn1 H1 (s.grow g1) _ fun Kn2 H2 g2 => hh σ Kn2 H2 ((s.grow g1).grow g2) _ fun Kn3 H3 g3 => by
    obtain ⟨p, ws, rfl, h3, h4⟩ := r1
    have g : Gr Kn H Kn3 H3 := (g1.trans g2).trans g3
    have e13 : Ex Kn1 Kn3 := g2.kk.trans g3.kk
    have el := Tp.len h4
    refine ⟨p, ws, rfl, st_of ((e13.trans g3.kh) _ _ h3), by rw [el]; exact hw, fun l hl => ?_⟩
    have gn := Gr.new (o := .tup (cutV ws lo hi)) g3.kh hl
    refine q _ _ _ (g.trans gn) ⟨l, _, rfl, upd_same, ?_⟩
    have := hc.get (Tp.mono (e13.trans gn.kk) h4)
    have e : cutV ws lo hi = (ws.drop a).take b := by
      unfold cutV
      rw [el, ha, hb]
    rw [e] at this ⊢
    exact this
theorem ev_slS {z r : Str} {tl th : TO} {lo hi : Option Int} (h : EV K F Kn0 sl ow te z) (hl : EO K F Kn0 sl ow tl lo) (hh : EO K F Kn0 sl ow th hi) (hz : cutSO z lo hi = some r) : EV K F Kn0 sl ow (tSl rSlS te tl th) r := fun σ Kn H s Q q =>
  h σ Kn H s _ fun v Kn1 H1 g1 r1 => hl σ Kn1 H1 (s.grow g1) _ fun Kn2 H2 g2 => hh σ Kn2 H2 ((s.grow g1).grow g2) _ fun Kn3 H3 g3 => by
    cases r1
    unfold cutSO at hz
    split at hz
    · rename_i hq
      cases hz
      exact ⟨z, rfl, le_line hq, q _ Kn3 H3 ((g1.trans g2).trans g3) rfl⟩
    · cases hz
theorem ev_hl {t : τ} (h : EA K F Kn0 sl ow ta t) (hz : Tp.n τ ≤ 1000000 := by decide) : EV K F Kn0 sl ow (tLst ta) (Hl.mk t) := fun σ Kn H s Q q =>
  h σ Kn H s _ fun vs Kn1 H1 g1 r1 => ⟨by rw [Tp.len r1]; exact le_line hz, fun p hp =>
    q _ (upd Kn1 p (.lst vs)) _ (g1.trans (Gr.new g1.kh hp)) ⟨p, vs, rfl, upd_same, Tp.mono (Gr.new g1.kh hp).kk r1⟩⟩
theorem r2_hix {t : Hl τ} {n : Nat} {z : γ} (h : At n t.t z) : R2V K (rIxL K) t (n : Int) z := fun Kn H v w ek h1 h2 Q q => by
  obtain ⟨p, ws, rfl, h3, h4⟩ := h1
  cases h2
  obtain ⟨u, e, r⟩ := h.get h4
  exact ⟨p, ws, n, u, rfl, rfl, sq_of (ek _ _ h3), atI_nat e, q.at ek r⟩
theorem k_slt {X : Cx} (h : X.K = K := by rfl) : SlR X (rSlT K) := h ▸ sl_tup
/-- xs.extend(ys), xs one's own -/
theorem sb_extO {xs ys zs : List α} (hi : sl[i]? = some (.at p)) (hj : ow[j]? = some (ol p xs)) (h : EV K F Kn0 sl ow te ys) (hz : catO xs ys = some zs) (ho : ow.set j (ol p zs) = ow1) (k : SN K F Kn0 sl ow1 D) :
    SB K F Kn0 sl ow D (tDrop (tBM K "list" rExtend (tVar i) (tCons te tNil))) := fun σ Kn H s => by
  obtain ⟨o, h1, h2⟩ := s.sl.get hi
  obtain ⟨f1, f2, ws, f3, f4⟩ := s.ow.each _ (List.mem_of_getElem? hj)
  unfold catO at hz
  split at hz
  case isFalse => cases hz
  rename_i hq
  cases hz
  refine ⟨.ref p, by rw [h1]; exact congrArg some h2, Or.inl ⟨rfl, ws, sq_of f3⟩, h σ Kn H s _ fun v Kn1 H1 g1 r1 => ?_⟩
  obtain ⟨b, vs, rfl, h3, h4⟩ := r1
  refine ⟨p, b, ws, vs, rfl, rfl, g1.hh _ _ f3, g1.kh _ _ h3, by rw [paired_len f4, paired_len h4]; exact le_line hq, k _ Kn1 _ ?_⟩
  have kp1 : Kn1 p = none := g1.sp p (ne_none_of f3) f2
  subst ho
  exact (s.grow g1).write hj (Ex.refl _) (upd_in g1.kh kp1) (fun q hq _ => upd_ne hq) (fun _ _ h => h) upd_same (paired_append (paired_mono g1.kk f4) h4)
end
end Wk
/-! Wtxt: join of a tuple, startswith, str() of a number or a text, `in` a tuple of the module -/
namespace Wk
open PySem PySem.Spec L2 Evl
/-- str() of a value of any kind: a number or a text -/
def strDO (x : Dy) : Option Str := match x.d with
  | .int i => strIO i
  | .str s => some s
  | _ => none
def rStrD : List V → Hp → VK → Prop := fun xs H Q => (∃ i : Int, xs = [.int i] ∧ i.natAbs.log2 < 1920 ∧ Q (.str (toString i)) H) ∨ ∃ a, xs = [.str a] ∧ Q (.str a) H
theorem k_strD {X : Cx} : CallR X (.type "str") rStrD := by
  intro pins s σ H xs us Q I r h
  rcases h with ⟨i, h1, h2, h3⟩ | ⟨a, h1, h2⟩
  · exact call_str_int pins s σ H xs us Q I r ⟨i, h1, h2, h3⟩
  · exact SkE.call_str_str pins s σ H xs us Q I r ⟨a, h1, h2⟩
section
variable {K : Fg} {F Kn0 : Hp} {sl : List Sl} {ow : List Ow} {ta tb te tk : TE}
theorem rc_strD {x : Dy} {r : Str} (h : strDO x = some r) : RCV K rStrD (x, ()) r := fun Kn H vs ek hv Q q => by
  obtain ⟨v, rfl, h1⟩ := one_arg hv
  unfold strDO at h
  obtain ⟨d⟩ := x
  have h1 : Dq Kn v d := h1
  cases h1 with
  | int i =>
    have h : strIO i = some r := h
    unfold strIO at h
    split at h
    case isFalse => cases h
    rename_i hb
    cases h
    exact .inl ⟨i, rfl, hb, q.fl ek⟩
  | str z =>
    cases h
    exact .inr ⟨r, rfl, q.fl ek⟩
  | non => cases h
  | bl b => cases h
  | lst _ _ => cases h
  | tup _ _ => cases h
theorem ev_joinT {s : Str} {ys : Tu Str} {z : Str} (ha : EV K F Kn0 sl ow ta s) (hb : EV K F Kn0 sl ow tb ys) (h : joinO s ys.l = some z) :
    EV K F Kn0 sl ow (tM1 (fun x xs H Q => ∃ a p, ∃ ys : List Str, x = .str a ∧ xs = [.ref p] ∧ (SqL K H p (ys.map V.str) ∨ SqT K H p (ys.map V.str)) ∧ (ys.map (·.length)).sum + ys.length * a.length ≤ 16777216 ∧ Q (.str (Txt.join a ys)) H) ta tb) z := fun σ Kn H s' Q q =>
  ha σ Kn H s' _ fun v Kn1 H1 g1 r1 => by
    cases r1
    refine ⟨⟨s, rfl⟩, hb σ Kn1 H1 (s'.grow g1) _ fun w Kn2 H2 g2 r2 => ?_⟩
    obtain ⟨p, ws, rfl, h3, h4⟩ := r2
    have e := paired_fl h4
    subst e
    unfold joinO at h
    split at h
    · rename_i hz
      cases h
      exact ⟨s, p, ys.l, rfl, rfl, .inr (st_of (g2.kh _ _ h3)), by omega, q _ Kn2 H2 (g1.trans g2) rfl⟩
    · cases h
theorem ev_starts {x y : Str} (h : EV K F Kn0 sl ow te x) (hn : EV K F Kn0 sl ow tb y) : EV K F Kn0 sl ow (tBM K "str" (fun x xs H Q => ∃ a b, x = .str a ∧ xs = [.str b] ∧ Q (.bl (Txt.startswith a b)) H) te (tCons tb tNil)) (Txt.startswith x y) := fun σ Kn H s Q q =>
  h σ Kn H s _ fun v Kn1 H1 g1 r1 => by
    cases r1
    refine ⟨rfl, hn σ Kn1 H1 (s.grow g1) _ fun w Kn2 H2 g2 r2 => ?_⟩
    cases r2
    exact ⟨x, y, rfl, rfl, q _ Kn2 H2 (g1.trans g2) rfl⟩
/-- xs.pop() -/
def popO {α : Type} (xs : List α) : Option (α × List α) := xs.getLast?.map fun x => (x, xs.dropLast)
theorem paired_dropLast {α : Type} {R : V → α → Prop} : ∀ {ws : List V} {xs : List α}, Paired R ws xs → Paired R ws.dropLast xs.dropLast
  | _, _, .nil => .nil
  | _, _, .cons _ .nil => .nil
  | _, _, .cons h (.cons h2 t) => .cons h (paired_dropLast (.cons h2 t))
theorem em_pop {α : Type} [Rp α] {xs xs' : List α} {x : α} {i j : Nat} {p : Addr} (hi : sl[i]? = some (.at p)) (hj : ow[j]? = some (ol p xs)) (hx : popO xs = some (x, xs')) : EM K F Kn0 sl ow (tBM0 K "list" rPop (tVar i)) (ow.set j (ol p xs')) x := fun σ Kn H s Q q => by
  obtain ⟨o, h1, h2⟩ := s.sl.get hi
  obtain ⟨f1, f2, ws, f3, f4⟩ := s.ow.each _ (List.mem_of_getElem? hj)
  unfold popO at hx
  obtain ⟨y, hy, e⟩ := Option.map_eq_some_iff.mp hx
  cases e
  rw [List.getLast?_eq_getElem?] at hy
  obtain ⟨v, hv, rv⟩ := paired_at f4 hy
  have hl := paired_len f4
  refine ⟨.ref p, by rw [h1]; exact congrArg some h2, Or.inl ⟨rfl, ws, sq_of f3⟩, p, ws, v, rfl, rfl, f3, by rw [hl]; exact hv, q v Kn _ (Ex.refl _) ?_ rv⟩
  exact s.write hj (Ex.refl _) (upd_in s.ek f2) (fun q hq _ => upd_ne hq) (fun _ _ h => h) upd_same (paired_dropLast f4)
theorem k_starts {X : Cx} {to te : TE} {o e : Expr} {apos cpos : Pos} (ho : PE X o to) (he : PE X e te)
    (hbase : attributeBase o "startswith" X.env (eval o X.env) = eval o X.env := by rfl)
    (hfew : ((backTo cpos (starEach [e] X.env)).all (fun x => !x.1) && (backToKw cpos (keywordEach [] X.env)).all (fun x => x.1.isSome)
      && decide ([e].length + ([] : List Keyword).length + (if ([] : List Keyword).isEmpty then 0 else 1) < 30)) = true := by rfl)
    (hline : (apos.endLine == cpos.line) = true := by rfl) (hs : starEach [e] X.env = (false, eval e X.env) :: starEach [] X.env := by rfl) (h : X.K = K := by rfl) :
    PE X (.Call (.Attribute o "startswith" apos) [e] [] cpos) (tBM K "str" (fun x xs H Q => ∃ a b, x = .str a ∧ xs = [.str b] ∧ Q (.bl (Txt.startswith a b)) H) to (tCons te tNil)) :=
  h ▸ pe_bm PySem.F.plainAttrs_str PySem.F.slot_str_startswith PySem.F.type_str_startswith mt_startswith ho (pa_cons he pa_nil hs) hbase hfew hline hs
/-- a tuple of texts of the module -/
def KTup (K : Fg) (a : Addr) (tab : List Str) : Prop := ∃ (o : Obj) (its : Array Value) (n : Nat), K.lookup a = some o ∧ o.cls = .type "tuple" ∧ o.data = .seq its n ∧ its.size ≤ sizeLine ∧ Vals (tab.map V.str) its.toList
theorem ev_inK {p : Addr} {tab : List Str} {x : Str} (ht : KTup K p tab) (h : EV K F Kn0 sl ow te x) : EV K F Kn0 sl ow (tOp (rIn K false) te (tC (.ref p))) (decide (x ∈ tab)) := fun σ Kn H s Q q =>
  h σ Kn H s _ fun v Kn1 H1 g1 r1 => by
    cases r1
    refine ⟨p, tab.map V.str, rfl, .inr (.inr ht), Fe.flat x, all_flat tab, ?_⟩
    have e : inV (V.str x) (tab.map V.str) = decide (x ∈ tab) := any_mem x tab
    rw [if_neg (by decide), e]
    exact q _ Kn1 H1 g1 rfl
end
end Wk
/-! Wmut2: a def that changes two of its arguments -/
namespace Wk
open PySem PySem.Spec L2 Evl
/-- where the arguments stand: a value, one's own -/
def mV (f : List V → List V) : List V → List V := fun vs => match vs with
  | v :: r => v :: f r
  | [] => []
def mO (p : Addr) (f : List V → List V) : List V → List V := fun vs => .ref p :: f vs
def mE : List V → List V := fun vs => vs
def PM2 {α τ γ δ : Type} [Rp α] [Tp τ] (K : Fg) (mk : Addr → Addr → List V → List V) (o1 : Addr → γ → Ow) (o2 : Addr → δ → Ow) (f : γ → δ → τ → Option (α × γ × δ)) : Sp := fun vs H Q _ => ∃ Kn p q rest t x y r x' y', vs = mk p q rest ∧ Ex Kn H ∧ p ≠ q ∧ Kn p = none ∧ Kn q = none ∧ (o1 p x).ok K Kn H ∧ (o2 q y).ok K Kn H ∧ rept K Kn rest t ∧ f x y t = some (r, x', y') ∧
  ∀ v Kn' H', Ex Kn Kn' → Ex Kn' H' → (∀ a, a ≠ p → a ≠ q → H a ≠ none → H' a = H a) → (∀ a, H a ≠ none → Kn a = none → Kn' a = none) → (o1 p x').ok K Kn' H' → (o2 q y').ok K Kn' H' → rep K Kn' v r → Q v H'
section
variable {K : Fg} {F Kn0 : Hp} {sl : List Sl} {ow : List Ow} {α τ γ δ : Type} [Rp α] [Tp τ]
/-- the arguments: values that are told, own things by their names -/
def EMx (K : Fg) (F Kn0 : Hp) (sl : List Sl) (ow : List Ow) (ta : TA) (t : τ) (mk : List V → List V) : Prop := ∀ σ Kn H, S K F Kn0 sl ow σ Kn H → ∀ Q : List V → Hp → Prop, (∀ vs Kn' H', Gr Kn H Kn' H' → rept K Kn' vs t → Q (mk vs) H') → ta σ H Q
theorem emx_nil : EMx K F Kn0 sl ow tNil () mE := fun σ Kn H s Q q => q [] Kn H (Gr.refl s.ek) rfl
theorem emx_val {te : TE} {ta : TA} {x : α} {t : τ} {mk : List V → List V} (h : EV K F Kn0 sl ow te x) (h2 : EMx K F Kn0 sl ow ta t mk) : EMx K F Kn0 sl ow (tCons te ta) (x, t) (mV mk) := fun σ Kn H s Q q =>
  h σ Kn H s _ fun v Kn1 H1 g1 r1 => h2 σ Kn1 H1 (s.grow g1) _ fun vs Kn2 H2 g2 r2 => q (v :: vs) Kn2 H2 (g1.trans g2) ⟨v, vs, rfl, Rp.mono g2.kk r1, r2⟩
theorem emx_own {ta : TA} {t : τ} {mk : List V → List V} {i : Nat} {p : Addr} (hi : sl[i]? = some (.at p)) (h2 : EMx K F Kn0 sl ow ta t mk) : EMx K F Kn0 sl ow (tCons (tVar i) ta) t (mO p mk) := fun σ Kn H s Q q => by
  obtain ⟨o, h1, h3⟩ := s.sl.get hi
  exact ⟨.ref p, by rw [h1]; exact congrArg some h3, h2 σ Kn H s _ fun vs Kn2 H2 g2 r2 => q vs Kn2 H2 g2 r2⟩
theorem S.write2 {σ : L2.St} {Kn H Kn' H' : Hp} {p q : Addr} {a1 a2 b1 b2 : Ow} {j k : Nat} (s : S K F Kn0 sl ow σ Kn H) (hj : ow[j]? = some a1) (hk : ow[k]? = some a2) (hne : j ≠ k) (d1 : a1.ad = p) (d2 : a2.ad = q) (d3 : b1.ad = p) (d4 : b2.ad = q)
    (kk : Ex Kn Kn') (kh : Ex Kn' H') (hq : ∀ a, a ≠ p → a ≠ q → H a ≠ none → H' a = H a) (sp : ∀ a, H a ≠ none → Kn a = none → Kn' a = none) (h1 : b1.ok K Kn' H') (h2 : b2.ok K Kn' H') : S K F Kn0 sl ((ow.set j b1).set k b2) σ Kn' H' := by
  obtain ⟨f1, f2, f3⟩ := s.ow.each _ (List.mem_of_getElem? hj)
  obtain ⟨g1, g2, g3⟩ := s.ow.each _ (List.mem_of_getElem? hk)
  have f4 := Ow.there f3
  have g4 := Ow.there g3
  rw [d1] at f1 f2 f4
  rw [d2] at g1 g2 g4
  have jl : j < ow.length := (List.getElem?_eq_some_iff.mp hj).1
  have kl : k < ow.length := (List.getElem?_eq_some_iff.mp hk).1
  refine ⟨s.e0.trans kk, kh, fun a u h => ?_, fun a h1 h2 => sp a (Ex.nn s.ef h1) (s.sep a h1 h2), s.sl.mono kk, ⟨fun o ho => ?_, ?_⟩⟩
  · have n1 : a ≠ p := fun z => by rw [z, f1] at h; cases h
    have n2 : a ≠ q := fun z => by rw [z, g1] at h; cases h
    rw [hq a n1 n2 (ne_none_of (s.ef _ _ h))]
    exact s.ef _ _ h
  · obtain ⟨i, hi⟩ := List.getElem?_of_mem ho
    by_cases e : i = k
    · subst e
      rw [List.getElem?_set_self (by rw [List.length_set]; exact kl)] at hi
      cases hi
      rw [d4]
      exact ⟨g1, sp q g4 g2, h2⟩
    · rw [List.getElem?_set_ne (Ne.symm e)] at hi
      by_cases e2 : i = j
      · subst e2
        rw [List.getElem?_set_self jl] at hi
        cases hi
        rw [d3]
        exact ⟨f1, sp p f4 f2, h1⟩
      · rw [List.getElem?_set_ne (Ne.symm e2)] at hi
        obtain ⟨h1, h2, h3⟩ := s.ow.each o (List.mem_of_getElem? hi)
        have h4 := Ow.there h3
        have n1 : o.ad ≠ p := fun z => e2 (ow_at s.ow.nd hi hj (z.trans d1.symm))
        have n2 : o.ad ≠ q := fun z => e (ow_at s.ow.nd hi hk (z.trans d2.symm))
        exact ⟨h1, sp _ h4 h2, Ow.ok_mono kk (hq _ n1 n2 h4) h3⟩
  · have e : ((ow.set j b1).set k b2).map Ow.ad = ow.map Ow.ad := by
      refine List.ext_getElem? fun i => ?_
      rw [List.getElem?_map, List.getElem?_map]
      by_cases e : k = i
      · subst e
        rw [List.getElem?_set_self (by rw [List.length_set]; exact kl), hk]
        exact congrArg some (d4.trans d2.symm)
      · rw [List.getElem?_set_ne e]
        by_cases e2 : j = i
        · subst e2
          rw [List.getElem?_set_self jl, hj]
          exact congrArg some (d3.trans d1.symm)
        · rw [List.getElem?_set_ne e2]
    rw [e]
    exact s.ow.nd
theorem em_callM2 {mk : Addr → Addr → List V → List V} {o1 : Addr → γ → Ow} {o2 : Addr → δ → Ow} {f : γ → δ → τ → Option (α × γ × δ)} {ta : TA} {t : τ} {E : XK} {x x' : γ} {y y' : δ} {r : α} {p q : Addr} {j k : Nat} (h : EMx K F Kn0 sl ow ta t (mk p q)) (hj : ow[j]? = some (o1 p x)) (hk : ow[k]? = some (o2 q y)) (hne : j ≠ k) (a1 : ∀ p x, (o1 p x).ad = p) (a2 : ∀ p x, (o2 p x).ad = p)
    (hf : f x y t = some (r, x', y')) : EM K F Kn0 sl ow (tCall (PM2 K mk o1 o2 f) [] E ta) ((ow.set j (o1 p x')).set k (o2 q y')) r := fun σ Kn H s Q qq => h σ Kn H s _ fun vs Kn1 H1 g1 r1 => by
  have s1 := s.grow g1
  show PM2 K mk o1 o2 f (mk p q vs ++ []) H1 Q E
  rw [List.append_nil]
  obtain ⟨f1, f2, f3⟩ := s1.ow.each _ (List.mem_of_getElem? hj)
  obtain ⟨k1, k2, k3⟩ := s1.ow.each _ (List.mem_of_getElem? hk)
  rw [a1] at f1 f2
  rw [a2] at k1 k2
  have hpq : p ≠ q := fun z => hne (ow_at s1.ow.nd hj hk ((a1 p x).trans (z.trans (a2 q y).symm)))
  exact ⟨Kn1, p, q, vs, t, x, y, r, x', y', rfl, s1.ek, hpq, f2, k2, f3, k3, r1, hf, fun v Kn' H' kk kh hq sp h1 h2 rv => qq v Kn' H' (g1.kk.trans kk) (s1.write2 hj hk hne (a1 p x) (a2 q y) (a1 p x') (a2 q y') kk kh hq sp h1 h2) rv⟩
/-- the second of the changed things is a list made for the call -/
def EMxT {β : Type} [Rp β] (K : Fg) (F Kn0 : Hp) (sl : List Sl) (ow : List Ow) (ta : TA) (xs : List β) (t : τ) (mk : Addr → List V → List V) : Prop := ∀ σ Kn H, S K F Kn0 sl ow σ Kn H → ∀ Q : List V → Hp → Prop,
  (∀ vs q ws Kn' H', Gr Kn H Kn' H' → H q = none → Kn' q = none → H' q = some (.lst ws) → Paired (rep K Kn') ws xs → rept K Kn' vs t → Q (mk q vs) H') → ta σ H Q
theorem emt_new {β : Type} [Rp β] {te : TE} {ta : TA} {xs : List β} {t : τ} {mk : List V → List V} (h : EN K F Kn0 sl ow te xs) (h2 : EMx K F Kn0 sl ow ta t mk) : EMxT K F Kn0 sl ow (tCons te ta) xs t (fun q => mO q mk) := fun σ Kn H s Q qq =>
  h σ Kn H s _ fun q ws Kn1 H1 g1 hq kq hw r1 => h2 σ Kn1 H1 (s.grow g1) _ fun vs Kn2 H2 g2 r2 =>
    qq vs q ws Kn2 H2 (g1.trans g2) hq (g2.sp q (ne_none_of hw) kq) (g2.hh _ _ hw) (paired_mono g2.kk r1) r2
theorem emt_own {β : Type} [Rp β] {ta : TA} {xs : List β} {t : τ} {mk : Addr → List V → List V} {i : Nat} {p : Addr} (hi : sl[i]? = some (.at p)) (h2 : EMxT K F Kn0 sl ow ta xs t mk) : EMxT K F Kn0 sl ow (tCons (tVar i) ta) xs t (fun q => mO p (mk q)) := fun σ Kn H s Q qq => by
  obtain ⟨o, h1, h3⟩ := s.sl.get hi
  exact ⟨.ref p, by rw [h1]; exact congrArg some h3, h2 σ Kn H s _ fun vs q ws Kn2 H2 g2 a b c d r2 => qq vs q ws Kn2 H2 g2 a b c d r2⟩
theorem em_callM2T {β : Type} [Rp β] {mk : Addr → Addr → List V → List V} {o1 : Addr → γ → Ow} {f : γ → List β → τ → Option (α × γ × List β)} {ta : TA} {t : τ} {E : XK} {x x' : γ} {ys ys' : List β} {r : α} {p : Addr} {j : Nat} (h : EMxT K F Kn0 sl ow ta ys t (mk p)) (hj : ow[j]? = some (o1 p x)) (a1 : ∀ p x, (o1 p x).ad = p)
    (hf : f x ys t = some (r, x', ys')) : EM K F Kn0 sl ow (tCall (PM2 K mk o1 (fun p (xs : List β) => ol p xs) f) [] E ta) (ow.set j (o1 p x')) r := fun σ Kn H s Q qq => h σ Kn H s _ fun vs q ws Kn1 H1 g1 hq kq hw r0 r1 => by
  have s1 := s.grow g1
  show PM2 K mk o1 _ f (mk p q vs ++ []) H1 Q E
  rw [List.append_nil]
  have no : ∀ o ∈ ow, o.ad ≠ q := fun o ho z => by
    obtain ⟨_, _, h3⟩ := s.ow.each o ho
    exact Ow.there h3 (by rw [z]; exact hq)
  have s2 : S K F Kn0 sl (ol q ys :: ow) σ Kn1 H1 := s1.own (fresh_back s.ef hq) kq no hw r0
  obtain ⟨f1, f2, f3⟩ := s1.ow.each _ (List.mem_of_getElem? hj)
  have hpq : p ≠ q := fun z => no _ (List.mem_of_getElem? hj) ((a1 p x).trans z)
  rw [a1] at f1 f2
  refine ⟨Kn1, p, q, vs, t, x, ys, r, x', ys', rfl, s1.ek, hpq, f2, kq, f3, ⟨ws, hw, r0⟩, r1, hf, fun v Kn' H' kk kh hq2 sp h1 h2 rv => qq v Kn' H' (g1.kk.trans kk) ?_ rv⟩
  have s3 := s2.write2 (j := j + 1) (k := 0) (b2 := ol q ys') (show (ol q ys :: ow)[j + 1]? = some (o1 p x) from hj) rfl (by omega) (a1 p x) rfl (a1 p x') rfl kk kh hq2 sp h1 h2
  exact s3.sub (List.sublist_cons_self _ _)
theorem enterM2 {σ : L2.St} {Kn H : Hp} {D : Ends} {t : TS} {p q : Addr} {b1 b2 : Ow} (ek : Ex Kn H) (hpq : p ≠ q) (kp : Kn p = none) (kq : Kn q = none) (d1 : b1.ad = p) (d2 : b2.ad = q) (h1 : b1.ok K Kn H) (h2 : b2.ok K Kn H) (hs : SlsOk K Kn sl σ) (h : SB K (but (but H p) q) Kn sl [b1, b2] D t) : t D σ H :=
  h σ Kn H ⟨Ex.refl _, ek, fun a u e => by
    unfold but at e
    split at e
    · cases e
    · split at e
      · cases e
      · exact e, fun _ _ h => h, hs, ⟨fun o ho => by
      rcases List.mem_cons.mp ho with rfl | ho
      · rw [d1]
        refine ⟨?_, kp, h1⟩
        unfold but
        rw [if_neg hpq, if_pos rfl]
      · cases List.mem_singleton.mp ho
        rw [d2]
        exact ⟨if_pos rfl, kq, h2⟩, by
      show [b1.ad, b2.ad].Nodup
      rw [d1, d2]
      exact List.nodup_cons.mpr ⟨(fun h => hpq (List.mem_singleton.mp h)), List.nodup_cons.mpr ⟨(fun h => nomatch h), List.nodup_nil⟩⟩⟩⟩
theorem rt_ofM2 {H Kn : Hp} {r : α} {p q : Addr} {b1 b2 : Ow} {Q : VK} (hpq : p ≠ q) (kp : Kn p = none) (kq : Kn q = none) (d1 : b1.ad = p) (d2 : b2.ad = q)
    (qq : ∀ v Kn' H', Ex Kn Kn' → Ex Kn' H' → (∀ a, a ≠ p → a ≠ q → H a ≠ none → H' a = H a) → (∀ a, H a ≠ none → Kn a = none → Kn' a = none) → b1.ok K Kn' H' → b2.ok K Kn' H' → rep K Kn' v r → Q v H') :
    RT K (but (but H p) q) Kn [b1, b2] Q r := fun v Kn' H' s rv => by
  obtain ⟨_, k1, h1⟩ := s.ow.each b1 List.mem_cons_self
  obtain ⟨_, k2, h2⟩ := s.ow.each b2 (List.mem_cons_of_mem _ List.mem_cons_self)
  rw [d1] at k1
  rw [d2] at k2
  have eb : ∀ a, a ≠ p → a ≠ q → but (but H p) q a = H a := fun a ha hb => by
    unfold but
    rw [if_neg hb, if_neg ha]
  refine qq v Kn' H' s.e0 s.ek (fun a ha hb hn => ?_) (fun a hn hk => ?_) h1 h2 rv
  · exact (Ex.at_eq s.ef (by rw [eb a ha hb]; exact hn)).trans (eb a ha hb)
  · by_cases ha : a = p
    · subst ha
      exact k1
    · by_cases hb : a = q
      · subst hb
        exact k2
      · exact s.sep a (by rw [eb a ha hb]; exact hn) hk
end
theorem fnok_noneM2 {P : Program} {w : World} {K : Fg} {mg : Str → Option Value} {base : Heap} {CX : CXT} {k : Nat} {f : Addr} {fd : FuncData} {ps : List Str} {τ α γ δ : Type} [Tp τ] [Rp α] {mk : Addr → Addr → List V → List V} {o1 : Addr → γ → Ow} {o2 : Addr → δ → Ow} :
    FnOk P w K mg base CX k f fd ps (PM2 K mk o1 o2 (fun _ _ (_ : τ) => (none : Option (α × γ × δ)))) := by
  refine ⟨fun vs H Q E h => ?_, fun A outer s H args us vs Q E hr he hb hv h => ?_⟩
  · obtain ⟨_, _, _, _, _, _, _, _, _, _, _, _, _, _, _, _, _, _, h, _⟩ := h
    cases h
  · obtain ⟨_, _, _, _, _, _, _, _, _, _, _, _, _, _, _, _, _, _, h, _⟩ := h
    cases h
end Wk
set_option maxHeartbeats 4000000
/-! Wchk: a def that changes a list and may raise; signs of a text walked, looked for in a text; a list of texts of the module -/
namespace Wk
open PySem PySem.Spec L2 Evl
/-! signs -/
def sgn (z : Str) : List Str := z.cps.toList.map fun c => ⟨#[c]⟩
theorem wk_str {K : Fg} {Kn1 : Hp} (z : Str) : WK K Kn1 (Its z) (sgn z) := fun i Kn' H' e1 e2 => by
  refine ⟨fun x hx => ?_, fun hl => ?_⟩
  · unfold sgn at hx
    rw [List.getElem?_map] at hx
    obtain ⟨c, hc, rfl⟩ := Option.map_eq_some_iff.mp hx
    rw [Array.getElem?_toList] at hc
    have hi : i < z.cps.size := (Array.getElem?_eq_some_iff.mp hc).1
    refine ⟨hi, fun v H2 hy => ?_⟩
    obtain ⟨rfl, d, hd, rfl⟩ := hy
    rw [hc] at hd
    cases hd
    exact ⟨Kn', Gr.refl e2, rfl⟩
  · unfold sgn at hl
    rw [List.length_map, Array.length_toList] at hl
    exact hl
section
variable {K : Fg} {F Kn0 : Hp} {sl : List Sl} {ow : List Ow} {te : TE}
theorem it_str {z : Str} (h : EV K F Kn0 sl ow te z) : IT K F Kn0 sl ow (iStr te) (sgn z) := fun σ Kn H s R q => h σ Kn H s _ fun v Kn1 H1 g1 r1 => ⟨z, r1, q _ Kn1 H1 g1 (wk_str z)⟩
end
/-- is a sign in a text? -/
def inSO (x z : Str) : Option Bool := match x.cps.toList with
  | [c] => some (decide (c ∈ z.cps.toList))
  | _ => none
theorem inSO_some {x z : Str} {b : Bool} (h : inSO x z = some b) : ∃ c : Nat, x = ⟨#[c]⟩ ∧ b = decide (c ∈ z.cps.toList) := by
  unfold inSO at h
  split at h
  · rename_i c hc
    cases h
    refine ⟨c, ?_, rfl⟩
    obtain ⟨cps⟩ := x
    have hc : cps.toList = [c] := hc
    have : cps = #[c] := by rw [← Array.toArray_toList (xs := cps), hc]
    rw [this]
  · cases h
def rSgn (neg : Bool) : R2 := fun x y H Q => ∃ (c : Nat) (z : Str), x = .str ⟨#[c]⟩ ∧ y = .str z ∧ Q (.bl (if neg = true then !decide (c ∈ z.cps.toList) else decide (c ∈ z.cps.toList))) H
theorem k_inS {X : Cx} : OpR X (compareOp .In) (rSgn false) := fun pins s σ H x y v u Q I rx ry h => by
  obtain ⟨c, z, h1, h2, q⟩ := h
  exact op_in_sign pins s σ H x y v u Q I rx ry ⟨c, z, h1, h2, q⟩
theorem k_notInS {X : Cx} : OpR X (compareOp .NotIn) (rSgn true) := fun pins s σ H x y v u Q I rx ry h => by
  obtain ⟨c, z, h1, h2, q⟩ := h
  exact op_notIn_sign pins s σ H x y v u Q I rx ry ⟨c, z, h1, h2, q⟩
theorem r2_inS {K : Fg} {x z : Str} {b : Bool} (h : inSO x z = some b) : R2V K (rSgn false) x z b := fun Kn H v w ek h1 h2 Q q => by
  obtain ⟨c, rfl, rfl⟩ := inSO_some h
  cases h1
  cases h2
  exact ⟨c, z, rfl, rfl, q.fl ek⟩
theorem r2_notInS {K : Fg} {x z : Str} {b : Bool} (h : inSO x z = some b) : R2V K (rSgn true) x z (!b) := fun Kn H v w ek h1 h2 Q q => by
  obtain ⟨c, rfl, rfl⟩ := inSO_some h
  cases h1
  cases h2
  exact ⟨c, z, rfl, rfl, q.fl ek⟩
/-! texts of the module -/
def KLst (K : Fg) (a : Addr) (tab : List Str) : Prop := ∃ (o : Obj) (its : Array Value) (n : Nat), K.lookup a = some o ∧ o.cls = .type "list" ∧ o.dict = none ∧ o.data = .seq its n ∧ its.size ≤ sizeLine ∧ Vals (tab.map V.str) its.toList
section
variable {K : Fg} {F Kn0 : Hp} {sl : List Sl} {ow : List Ow}
theorem ev_klst {p : Addr} {tab : List Str} (ht : KLst K p tab) : EV K F Kn0 sl ow (tC (.ref p)) (Fz.mk tab) := fun σ Kn H s Q q => q _ Kn H (Gr.refl s.ek) ⟨p, tab.map V.str, rfl, .inr ht, fl_paired tab⟩
theorem ev_ktup {p : Addr} {tab : List Str} (ht : KTup K p tab) : EV K F Kn0 sl ow (tC (.ref p)) (Kt.mk tab) := fun σ Kn H s Q q => q _ Kn H (Gr.refl s.ek) ⟨p, tab.map V.str, rfl, .inr ht, fl_paired tab⟩
theorem r2_inF {α : Type} [Rp α] [Fl α] [DecidableEq α] [Fe α] {x : α} {xs : Fz α} : R2V K (rIn K false) x xs (decide (x ∈ xs.l)) := fun Kn H v w ek h1 h2 Q q => by
  obtain ⟨p, ws, rfl, h3, h4⟩ := h2
  have e := paired_fl h4
  subst e
  rw [Fl.iff.mp h1]
  refine ⟨p, _, rfl, .inl (ex_l ek h3), Fe.flat x, all_flat xs.l, ?_⟩
  rw [any_mem]
  exact q.fl ek
theorem r2_notInF {α : Type} [Rp α] [Fl α] [DecidableEq α] [Fe α] {x : α} {xs : Fz α} : R2V K (rIn K true) x xs (!decide (x ∈ xs.l)) := fun Kn H v w ek h1 h2 Q q => by
  obtain ⟨p, ws, rfl, h3, h4⟩ := h2
  have e := paired_fl h4
  subst e
  rw [Fl.iff.mp h1]
  refine ⟨p, _, rfl, .inl (ex_l ek h3), Fe.flat x, all_flat xs.l, ?_⟩
  rw [any_mem]
  exact q.fl ek
theorem r2_inKt {α : Type} [Rp α] [Fl α] [DecidableEq α] [Fe α] {x : α} {xs : Kt α} : R2V K (rIn K false) x xs (decide (x ∈ xs.l)) := fun Kn H v w ek h1 h2 Q q => by
  obtain ⟨p, ws, rfl, h3, h4⟩ := h2
  have e := paired_fl h4
  subst e
  rw [Fl.iff.mp h1]
  refine ⟨p, _, rfl, .inr (ex_t ek h3), Fe.flat x, all_flat xs.l, ?_⟩
  rw [any_mem]
  exact q.fl ek
theorem r2_notInKt {α : Type} [Rp α] [Fl α] [DecidableEq α] [Fe α] {x : α} {xs : Kt α} : R2V K (rIn K true) x xs (!decide (x ∈ xs.l)) := fun Kn H v w ek h1 h2 Q q => by
  obtain ⟨p, ws, rfl, h3, h4⟩ := h2
  have e := paired_fl h4
  subst e
  rw [Fl.iff.mp h1]
  refine ⟨p, _, rfl, .inr (ex_t ek h3), Fe.flat x, all_flat xs.l, ?_⟩
  rw [any_mem]
  exact q.fl ek
end
/-- xs + e, xs of one's own -/
theorem en_catOwn {K : Fg} {F Kn0 : Hp} {sl : List Sl} {ow : List Ow} {α : Type} [Rp α] {te : TE} {xs ys zs : List α} {i j : Nat} {p : Addr} (hi : sl[i]? = some (.at p)) (hj : ow[j]? = some (ol p xs)) (h : EV K F Kn0 sl ow te ys) (hz : catO xs ys = some zs) : EN K F Kn0 sl ow (tOp rCat (tVar i) te) zs := fun σ Kn H s Q q => by
  unfold catO at hz
  split at hz
  case isFalse => cases hz
  rename_i hb
  cases hz
  obtain ⟨o, h1, h2⟩ := s.sl.get hi
  obtain ⟨f1, f2, ws, f3, f4⟩ := s.ow.each _ (List.mem_of_getElem? hj)
  refine ⟨.ref p, by rw [h1]; exact congrArg some h2, h σ Kn H s _ fun v Kn1 H1 g1 r1 => ?_⟩
  obtain ⟨p2, ws2, rfl, h5, h6⟩ := r1
  exact ⟨p, p2, ws, ws2, rfl, rfl, g1.hh _ _ f3, g1.kh _ _ h5, by rw [paired_len f4, paired_len h6]; exact le_line hb, fun l hl =>
    q l _ Kn1 _ (g1.trans (Gr.newU g1.kh hl)) (fresh_back g1.hh hl) (fresh_back g1.kh hl) upd_same (paired_append (paired_mono g1.kk f4) h6)⟩
/-! a def that changes a list and may raise -/
def PMX {α β τ : Type} [Rp α] [Rp β] [Tp τ] (K : Fg) (cm : Str → Option Addr) (mk : Addr → List V → List V) (f : List β → τ → Option (Er (α × List β))) : Sp := fun vs H Q E => ∃ Kn p ws rest t xs r, vs = mk p rest ∧ Ex Kn H ∧ Kn p = none ∧ H p = some (.lst ws) ∧ Paired (rep K Kn) ws xs ∧ rept K Kn rest t ∧ f xs t = some r ∧
  match r with
  | .ok y => ∀ v Kn' H' ws', Ex Kn Kn' → Ex Kn' H' → (∀ q, q ≠ p → H q ≠ none → H' q = H q) → (∀ q, H q ≠ none → Kn q = none → Kn' q = none) → H' p = some (.lst ws') → Paired (rep K Kn') ws' y.2 → rep K Kn' v y.1 → Q v H'
  | .ex e => ∀ cls d Kn' H', Ex Kn Kn' → Ex Kn' H' → (∀ q, q ≠ p → H q ≠ none → H' q = H q) → (∀ q, q ≠ p → H q ≠ none → Kn q = none → Kn' q = none) → XR cm Kn' e cls d → E cls d H'
/-- the expression raises e; what stands of one's own is ow1 -/
def ERM (K : Fg) (F Kn0 : Hp) (sl : List Sl) (ow : List Ow) (cm : Str → Option Addr) (W : WX) (te : TE) (ow1 : List Ow) (e : Xc) : Prop := ∀ σ Kn H, S K F Kn0 sl ow σ Kn H → (∀ cls d Kn' H', S K F Kn0 sl ow1 σ Kn' H' → XR cm Kn' e cls d → W cls d σ H') → ∀ Q, te σ H Q
section
variable {K : Fg} {F Kn0 : Hp} {sl : List Sl} {ow ow1 : List Ow} {cm : Str → Option Addr} {α β τ : Type} [Rp α] [Rp β] [Tp τ] {W : WX} {D : Ends} {te : TE} {ta : TA} {t : τ} {e : Xc} {mk : Addr → List V → List V}
theorem em_callMX {f : List β → τ → Option (Er (α × List β))} {E : St → XK} {xs xs' : List β} {r : α} {p : Addr} {j : Nat} (h : EMx K F Kn0 sl ow ta t (mk p)) (hj : ow[j]? = some (ol p xs)) (hf : f xs t = some (.ok (r, xs'))) : EM K F Kn0 sl ow (tCallS (PMX K cm mk f) E ta) (ow.set j (ol p xs')) r := fun σ Kn H s Q q =>
  h σ Kn H s _ fun vs Kn1 H1 g1 r1 => by
    have s1 := s.grow g1
    obtain ⟨f1, f2, ws, f3, f4⟩ := s1.ow.each _ (List.mem_of_getElem? hj)
    exact ⟨Kn1, p, ws, vs, t, xs, .ok (r, xs'), rfl, s1.ek, f2, f3, f4, r1, hf, fun v Kn' H' ws' kk kh hq sp hp rr rv => q v Kn' H' (g1.kk.trans kk) (s1.write hj kk kh hq sp hp rr) rv⟩
/-- one of one's own is given up, all else as it was -/
theorem S.lose {σ : L2.St} {Kn H Kn' H' : Hp} {p : Addr} {xs : List β} {j : Nat} (s : S K F Kn0 sl ow σ Kn H) (hj : ow[j]? = some (ol p xs)) (kk : Ex Kn Kn') (kh : Ex Kn' H') (hq : ∀ q, q ≠ p → H q ≠ none → H' q = H q) (sp : ∀ q, q ≠ p → H q ≠ none → Kn q = none → Kn' q = none) : S K F Kn0 sl (ow.eraseIdx j) σ Kn' H' := by
  obtain ⟨f1, f2, f3⟩ := s.ow.each _ (List.mem_of_getElem? hj)
  have f1 : F p = none := f1
  have hne : ∀ a, F a ≠ none → a ≠ p := fun a h z => h (by rw [z]; exact f1)
  refine ⟨s.e0.trans kk, kh, fun a u h => ?_, fun a h1 h2 => sp a (hne a h1) (Ex.nn s.ef h1) (s.sep a h1 h2), s.sl.mono kk, ⟨fun o ho => ?_, s.ow.nd.sublist ((List.eraseIdx_sublist ow j).map _)⟩⟩
  · rw [hq a (hne a (ne_none_of h)) (ne_none_of (s.ef _ _ h))]
    exact s.ef _ _ h
  · obtain ⟨h1, h2, h3⟩ := s.ow.each o ((List.eraseIdx_sublist ow j).subset ho)
    have h4 := Ow.there h3
    have no : o.ad ≠ p := fun z => by
      obtain ⟨m, hm'⟩ := List.getElem?_of_mem ho
      rw [List.getElem?_eraseIdx] at hm'
      split at hm'
      · have := ow_at s.ow.nd hm' hj z
        omega
      · have := ow_at s.ow.nd hm' hj z
        omega
    exact ⟨h1, sp _ no h4 h2, Ow.ok_mono kk (hq _ no h4) h3⟩
theorem er_callMX {f : List β → τ → Option (Er (α × List β))} {xs : List β} {p : Addr} {j : Nat} (h : EMx K F Kn0 sl ow ta t (mk p)) (hj : ow[j]? = some (ol p xs)) (hf : f xs t = some (.ex e)) : ERM K F Kn0 sl ow cm W (tCallS (PMX K cm mk f) (WE W) ta) (ow.eraseIdx j) e := fun σ Kn H s w Q =>
  h σ Kn H s _ fun vs Kn1 H1 g1 r1 => by
    have s1 := s.grow g1
    obtain ⟨f1, f2, ws, f3, f4⟩ := s1.ow.each _ (List.mem_of_getElem? hj)
    exact ⟨Kn1, p, ws, vs, t, xs, .ex e, rfl, s1.ek, f2, f3, f4, r1, hf, fun cls d Kn' H' kk kh hq sp x => w cls d Kn' H' (s1.lose hj kk kh hq sp) x⟩
theorem emt_val {te : TE} {ta : TA} {γ : Type} [Rp γ] {x : γ} {xs : List β} {t : τ} {mk : Addr → List V → List V} (h : EV K F Kn0 sl ow te x) (h2 : EMxT K F Kn0 sl ow ta xs t mk) : EMxT K F Kn0 sl ow (tCons te ta) xs (x, t) (fun q => mV (mk q)) := fun σ Kn H s Q qq =>
  h σ Kn H s _ fun v Kn1 H1 g1 r1 => h2 σ Kn1 H1 (s.grow g1) _ fun vs q ws Kn2 H2 g2 a b c d r2 => qq (v :: vs) q ws Kn2 H2 (g1.trans g2) (fresh_back g1.hh a) b c d ⟨v, vs, rfl, Rp.mono g2.kk r1, r2⟩
theorem ev_callMXN {f : List β → τ → Option (Er (α × List β))} {E : St → XK} {xs xs' : List β} {r : α} (h : EMxT K F Kn0 sl ow ta xs t mk) (hf : f xs t = some (.ok (r, xs'))) : EV K F Kn0 sl ow (tCallS (PMX K cm mk f) E ta) r := fun σ Kn H s Q qq =>
  h σ Kn H s _ fun vs q ws Kn1 H1 g1 hq kq hw r0 r1 => ⟨Kn1, q, ws, vs, t, xs, .ok (r, xs'), rfl, g1.kh, kq, hw, r0, r1, hf, fun v Kn' H' ws' kk kh hq2 sp hp rr rv =>
    qq v Kn' H' ⟨g1.kk.trans kk, fun a u e => by
      have na : a ≠ q := fun z => by rw [z, hq] at e; cases e
      have e1 := g1.hh a u e
      rw [hq2 a na (ne_none_of e1)]
      exact e1, kh, fun a e1 e2 => sp a (Ex.nn g1.hh e1) (g1.sp a e1 e2)⟩ rv⟩
theorem er_callMXN {f : List β → τ → Option (Er (α × List β))} {xs : List β} (h : EMxT K F Kn0 sl ow ta xs t mk) (hf : f xs t = some (.ex e)) : ER K F Kn0 sl ow cm W (tCallS (PMX K cm mk f) (WE W) ta) e := fun σ Kn H s w Q =>
  h σ Kn H s _ fun vs q ws Kn1 H1 g1 hq kq hw r0 r1 => ⟨Kn1, q, ws, vs, t, xs, .ex e, rfl, g1.kh, kq, hw, r0, r1, hf, fun cls d Kn' H' kk kh hq2 sp x => by
    have na : ∀ a, H a ≠ none → a ≠ q := fun a e z => e (by rw [z]; exact hq)
    refine w cls d Kn' H' (s.grow ⟨g1.kk.trans kk, fun a u e => ?_, kh, fun a e1 e2 => sp a (na a e1) (Ex.nn g1.hh e1) (g1.sp a e1 e2)⟩) x
    have e1 := g1.hh a u e
    rw [hq2 a (na a (ne_none_of e)) (ne_none_of e1)]
    exact e1⟩
theorem sb_dropRM (h : ERM K F Kn0 sl ow cm W te ow1 e) (w : RW K F Kn0 sl ow1 cm W e) : SB K F Kn0 sl ow D (tDrop te) := fun σ Kn H s => h σ Kn H s (fun cls d Kn' H' s' x => w σ Kn' H' cls d s' x) _
end
def REM {α β : Type} [Rp α] [Rp β] (K : Fg) (F Kn0 : Hp) (cm : Str → Option Addr) (p : Addr) (R : VK) (E : XK) : Er (α × List β) → Prop
  | .ok y => RT K F Kn0 [ol p y.2] R y.1
  | .ex e => RX K F Kn0 [] cm E e
section
variable {K : Fg} {F F' Kn0 Kn1 : Hp} {cm : Str → Option Addr} {α β : Type} [Rp α] [Rp β] {p : Addr} {R : VK} {E : XK}
theorem REM.base {r : Er (α × List β)} (q : REM K F Kn0 cm p R E r) (b : Bs F Kn0 Kn1) : REM K F Kn1 cm p R E r := by
  cases r with
  | ok x => exact RT.base (R := R) q b
  | ex e => exact RX.base q b
theorem REM.fr {r : Er (α × List β)} (q : REM K F Kn0 cm p R E r) (f : Fle F F') : REM K F' Kn0 cm p R E r := by
  cases r with
  | ok x => exact RT.fr (R := R) f q
  | ex e => exact RX.fr f q
theorem REM.ok_rt {x : α} {xs : List β} (q : REM K F Kn0 cm p R E (.ok (x, xs))) : RT K F Kn0 [ol p xs] R x := q
theorem rem_of {H Kn : Hp} {r : Er (α × List β)} {Q : VK} (kp : Kn p = none) (q : match r with
    | .ok y => ∀ v Kn' H' ws', Ex Kn Kn' → Ex Kn' H' → (∀ q, q ≠ p → H q ≠ none → H' q = H q) → (∀ q, H q ≠ none → Kn q = none → Kn' q = none) → H' p = some (.lst ws') → Paired (rep K Kn') ws' y.2 → rep K Kn' v y.1 → Q v H'
    | .ex e => ∀ cls d Kn' H', Ex Kn Kn' → Ex Kn' H' → (∀ q, q ≠ p → H q ≠ none → H' q = H q) → (∀ q, q ≠ p → H q ≠ none → Kn q = none → Kn' q = none) → XR cm Kn' e cls d → E cls d H') : REM K (but H p) Kn cm p Q E r := by
  cases r with
  | ok y => exact rt_ofM kp q
  | ex e => exact fun cls d Kn' H' s x => q cls d Kn' H' s.e0 s.ek (fun a ha hn => by
      have e : but H p a = H a := if_neg ha
      exact (Ex.at_eq s.ef (by rw [e]; exact hn)).trans e) (fun a ha hn hk => s.sep a (by unfold but; rw [if_neg ha]; exact hn) hk) x
end
theorem fnok_noneMX {P : Program} {w : World} {K : Fg} {mg : Str → Option Value} {base : Heap} {CX : CXT} {k : Nat} {f : Addr} {fd : FuncData} {ps : List Str} {τ α β : Type} [Tp τ] [Rp α] [Rp β] {cm : Str → Option Addr} {mk : Addr → List V → List V} :
    FnOk P w K mg base CX k f fd ps (PMX K cm mk (fun _ (_ : τ) => (none : Option (Er (α × List β))))) := by
  refine ⟨fun vs H Q E h => ?_, fun A outer s H args us vs Q E hr he hb hv h => ?_⟩
  · obtain ⟨_, _, _, _, _, _, _, _, _, _, _, _, _, h, _⟩ := h
    cases h
  · obtain ⟨_, _, _, _, _, _, _, _, _, _, _, _, _, h, _⟩ := h
    cases h
end Wk
/-! Wpour: lists of dicts alike; a tuple of a dict and more alike; d.update(d2) with keys of one piece; a def that tells a new dict and more in a tuple -/
namespace PySem.SeqAt
open AutoSeq1 (wpAny_loadPart')
open MeetsSeq MeetsSeq2 MeetsSeq3 SeqRoads2
section
variable {prog : Program} {w : World}
theorem wk_ne_loop (l b : Addr) (items items2 : Array Value) (n n2 : Nat) (dd dd2 : Option Addr) (sl sl2 : Array (Option Value)) (hsz : items.size = items2.size) (k : Nat) :
    ∀ i : Nat, items.size - i = k → MeetsIn prog w (Builtin.«list.__eq__.loop» ⟨[.ref l, .ref b, rawInt i, rawInt 3], []⟩)
      (fun A R s => s.heap.get? l = some { cls := .type "list", dict := dd, data := .seq items n, slots := sl } ∧ s.heap.get? b = some { cls := .type "list", dict := dd2, data := .seq items2 n2, slots := sl2 } ∧
        (∀ j (h1 : j < items.size) (h2 : j < items2.size), EqP prog w A.in1 s items[j] items2[j] true) ∧
        R (.ok (.ret (.bool false))) s) := by
  induction k with
  | zero =>
    intro i hk A R s h
    obtain ⟨hp, g, d, tk, os⟩ := s; obtain ⟨hl, hb, he, h⟩ := h
    wp_walk using wpAny_loadPart' hl, wpAny_loadPart' hb
    have hi1 : items[((i : Nat) : Int).toNat]? = none := by simp; omega
    have hi2 : items2[((i : Nat) : Int).toNat]? = none := by simp; omega
    rw [hi1, hi2]
    wp_walk using wpAny_loadPart' hl, wpAny_loadPart' hb
    show R (.ok (.ret (.bool (items.size != items2.size)))) _
    rw [hsz]
    simpa using h
  | succ k ih =>
    intro i hk A R s h
    obtain ⟨hp, g, d, tk, os⟩ := s; obtain ⟨hl, hb, he, h⟩ := h
    wp_walk using wpAny_loadPart' hl, wpAny_loadPart' hb
    have hlt : i < items.size := by omega
    have hlt2 : i < items2.size := by omega
    have hi1 : items[((i : Nat) : Int).toNat]? = some items[i] := by simp [hlt]
    have hi2 : items2[((i : Nat) : Int).toNat]? = some items2[i] := by simp [hlt2]
    have hc : ((i : Int) + 1) = ((i + 1 : Nat) : Int) := by push_cast; rfl
    rw [hi1, hi2]
    refine wpAny_bind (he i hlt hlt2 _ _ ?_)
    wp_walk
    rw [hc]
    exact ⟨plainId_quiet plain_eq_loop _, codeAny_builtin entry_eq_loop (by
      rw [Around.under_plainId plain_eq_loop _]
      exact ih (i + 1) (by omega) A R _ ⟨hl, hb, he, h⟩)⟩
theorem wk_list_ne (l b : Addr) (items items2 : Array Value) (n n2 : Nat) (dd dd2 : Option Addr) (sl sl2 : Array (Option Value)) (hsz : items.size = items2.size) :
    MeetsIn prog w (Builtin.«list.__ne__» ⟨[.ref l, .ref b], []⟩)
      (fun A R s => s.heap.get? l = some { cls := .type "list", dict := dd, data := .seq items n, slots := sl } ∧ s.heap.get? b = some { cls := .type "list", dict := dd2, data := .seq items2 n2, slots := sl2 } ∧
        (∀ j (h1 : j < items.size) (h2 : j < items2.size), EqP prog w A.in1 s items[j] items2[j] true) ∧
        R (.ok (.ret (.bool false))) s) := by
  intro A R s h
  obtain ⟨hp, g, d, tk, os⟩ := s; obtain ⟨hl, hb, he, h⟩ := h
  have f3 := AutoSeq1.sub_list_list
  have hne : ¬ (items.size != items2.size) = true := by simp [hsz]
  wp_walk using wpAny_loadPart' hl, wpAny_loadPart' hb
  exact ⟨plainId_quiet plain_eq_loop _, codeAny_builtin entry_eq_loop (by
    rw [Around.under_plainId plain_eq_loop _]
    exact wk_ne_loop l b items items2 n n2 dd dd2 sl sl2 hsz _ 0 rfl A R _ ⟨hl, hb, he, h⟩)⟩
theorem wk_ne_lists {A : Around} {s : Shared} {l b : Addr} {items items2 : Array Value} (hl : s.heap.IsList l items) (hb : s.heap.IsList b items2) (hsz : items.size = items2.size) (hu : A.units < cLine)
    (he : ∀ j (h1 : j < items.size) (h2 : j < items2.size), EqP prog w A.in1 s items[j] items2[j] true) (E Q : Value → Shared → Prop) (h : Q (.bool false) s) : wpAny (model prog w) A (richCompare .NotEq (.ref l) (.ref b)) Q E s := by
  obtain ⟨⟨cls, dd, data, sl⟩, ho, hc, n, hd⟩ := id hl
  obtain ⟨⟨cls2, dd2, data2, sl2⟩, ho2, hc2, n2, hd2⟩ := id hb
  simp only at hc hd hc2 hd2
  subst hc hd hc2 hd2
  have ta : s.TypeIs (.ref l) "list" := ⟨_, ho, rfl⟩
  have tb : s.TypeIs (.ref b) "list" := ⟨_, ho2, rfl⟩
  exact wpAny_richCompare_same_room (op := .NotEq) ta tb F.slot_list_ne (call_meetsIn F.slot_list_ne ta F.entry_list_ne (F.args_list_ne_2 _ _) (wk_list_ne l b items items2 n n2 dd dd2 sl sl2 hsz)
    ⟨ho, ho2, he, show Value.bool false ≠ Value.notImplemented ∧ Q (.bool false) s from ⟨(fun x => nomatch x), h⟩⟩) hu
end
end PySem.SeqAt
namespace L2
open PySem PySem.Spec PyProof.Rows
/-- two dicts alike, or the same flat thing -/
def DDf (H : Hp) (x y : V) : Prop := (x = y ∧ flatB x = true) ∨ ∃ a b ks ls, x = .ref a ∧ y = .ref b ∧ Rd H a (.dK ks) ∧ Rd H b (.dK ls) ∧ ks.length = ls.length ∧ ∀ p ∈ ks, valV ls p.1 = some p.2 ∧ flatB p.2 = true
section
variable {X : Cx}
theorem ddf_eqP {pins : List (Addr × Obj)} {σ : St} {H : Hp} {s : Shared} (I : Inv X pins σ H s) {A : Around} (hu : A.units < cLine) {x y : V} {v u : Value} (h : DDf H x y) (rx : RelV x v) (ry : RelV y u) : SeqAt.EqP X.prog X.w A s v u true := by
  rcases h with ⟨rfl, f⟩ | ⟨a, b, ks, ls, rfl, rfl, ea, eb, hl, hp⟩
  · exact (eqAt_same rx ry f).eqP
  · cases (show v = Value.ref a from rx)
    cases (show u = Value.ref b from ry)
    by_cases e : a = b
    · subst e
      exact (SeqAt.EqAt.same _).eqP
    · obtain ⟨_, ya, va, ra, da⟩ := dk_rd I.hok ea
      obtain ⟨_, yb, vb, rb, db⟩ := dk_rd I.hok eb
      refine SeqAt.eqP_refs e fun E Q q => PySem.W.rcP_dicts (knd := mixKind X.prog X.w) (r := true) ya yb da db hu (fun _ => hits_run (F := fun x y => x = y ∧ flatB x = true) (fun x y v u h rx ry => by
        obtain ⟨rfl, f⟩ := h
        exact (eqAt_same rx ry f).eqP) rb ra fun p hm => ⟨p.2, (hp p hm).1, rfl, (hp p hm).2⟩) E Q ?_
      have e : va.length = vb.length := by rw [← ra.length, ← rb.length]; exact hl
      rw [show (va.length == vb.length && true) = true from by rw [e]; simp]
      exact q
/-- xs != ys, alike -/
def rNeDL (K : PySem.W.Frag) : R2 := fun x y H Q => ∃ a b xs ys, x = .ref a ∧ y = .ref b ∧ SqL K H a xs ∧ SqL K H b ys ∧ Paired (DDf H) xs ys ∧ Q (.bl false) H
theorem ddf_items {pins : List (Addr × Obj)} {σ : St} {H : Hp} {s : Shared} (I : Inv X pins σ H s) {A : Around} (hu : A.units < cLine) : ∀ {xs ys : List V} {us ws : List Value}, Paired (DDf H) xs ys → Vals xs us → Vals ys ws → ∀ (j : Nat) (h1 : j < us.length) (h2 : j < ws.length), SeqAt.EqP X.prog X.w A s us[j] ws[j] true
  | _, _, _, _, .nil, r1, _, j, h1, _ => by
    cases r1
    exact absurd h1 (Nat.not_lt_zero _)
  | _, _, _, _, .cons h t, r1, r2, j, h1, h2 => by
    cases r1 with
    | cons a1 b1 =>
      cases r2 with
      | cons a2 b2 =>
        cases j with
        | zero => exact ddf_eqP I hu h a1 a2
        | succ j => exact ddf_items I hu t b1 b2 j (Nat.lt_of_succ_lt_succ h1) (Nat.lt_of_succ_lt_succ h2)
theorem op_neDL (hu : X.A.units + 64 < cLine) : OpR X (compareOp .NotEq) (rNeDL X.K) := by
  intro pins s σ H x y v u Q I rx ry h
  obtain ⟨a, b, xs, ys, rfl, rfl, ha, hb, hp, q⟩ := h
  cases (show v = Value.ref a from rx)
  cases (show u = Value.ref b from ry)
  obtain ⟨us, r1, p1, _⟩ := I.list ha
  obtain ⟨ws, r2, p2, _⟩ := I.list hb
  have hsz : us.toArray.size = ws.toArray.size := by
    rw [List.size_toArray, List.size_toArray, ← r1.length, ← r2.length]
    exact Paired.length hp
  show wpAny (model X.prog X.w) X.A (richCompare .NotEq _ _) _ _ _
  refine SeqAt.wk_ne_lists p1.isList p2.isList hsz (by omega) (fun j h1 h2 => ?_) _ _ ⟨.bl false, H, I, rfl, q⟩
  have k := ddf_items I (A := X.A.in1) (by show X.A.units + 1 < cLine; omega) hp r1 r2 j (by simpa using h1) (by simpa using h2)
  simpa using k
/-- a == b, two tuples alike -/
def rEqDT (K : PySem.W.Frag) : R2 := fun x y H Q => ∃ a b xs ys, x = .ref a ∧ y = .ref b ∧ SqT K H a xs ∧ SqT K H b ys ∧ Paired (DDf H) xs ys ∧ Q (.bl true) H
theorem op_eqDT (hu : X.A.units + 64 < cLine) : OpR X (compareOp .Eq) (rEqDT X.K) := by
  intro pins s σ H x y v u Q I rx ry h
  obtain ⟨a, b, xs, ys, rfl, rfl, ha, hb, hp, q⟩ := h
  cases (show v = Value.ref a from rx)
  cases (show u = Value.ref b from ry)
  obtain ⟨us, r1, p1, _⟩ := I.tuple ha
  obtain ⟨ws, r2, p2, _⟩ := I.tuple hb
  have hsz : us.toArray.size = ws.toArray.size := by
    rw [List.size_toArray, List.size_toArray, ← r1.length, ← r2.length]
    exact Paired.length hp
  show wpAny (model X.prog X.w) X.A (richCompare .Eq _ _) _ _ _
  refine GQ.rc_tupG hsz (by omega) (fun _ s' => s' = s) p1 p2 (fun i h1 h2 s' e => ?_) (fun s' e => ?_) rfl
  · subst e
    have k := ddf_items I (A := X.A.in1) (by show X.A.units + 1 < cLine; omega) hp r1 r2 i (by simpa using h1) (by simpa using h2)
    have k2 : SeqAt.EqP X.prog X.w X.A.in1 s' us.toArray[i] ws.toArray[i] true := by simpa using k
    exact k2 _ _ ⟨rfl, rfl⟩
  · subst e
    exact ⟨.bl true, H, I, rfl, q⟩
/-- d.update(d2) -/
def rUpdK : V → List V → Hp → VK → Prop := fun x xs H Q => ∃ (a o : Addr) (kvs more : List (Key × V)), x = .ref a ∧ xs = [.ref o] ∧ H a = some (.dK kvs) ∧ Rd H o (.dK more) ∧ a ≠ o ∧ kvs.length + more.length ≤ 1000000 ∧ Q .non (upd H a (.dK (mergeK kvs more)))
theorem length_mergeK' : ∀ (more kvs : List (Key × V)), (mergeK kvs more).length ≤ kvs.length + more.length
  | [], kvs => Nat.le_refl _
  | p :: r, kvs => by
    have h1 := length_mergeK' r (putK kvs p.1 p.2)
    have h2 := length_putK kvs p.1 p.2
    show (mergeK (putK kvs p.1 p.2) r).length ≤ _
    rw [List.length_cons]
    omega
theorem mt_updK : MtR X "dict.update" rUpdK := by
  intro pins s σ H x xs v us Q I rx rxs h
  obtain ⟨a, o, kvs, more, rfl, rfl, ha, ho, hao, hsz, q⟩ := h
  cases rx
  rw [Vals.ref1 rxs]
  obtain ⟨z1, hd1, xs1, rel1, dd1⟩ := dk_of I.hok ha
  obtain ⟨z2, hd2, xs2, rel2, dd2⟩ := dk_rd I.hok ho
  have hs0 : (1000000 : Nat) ≤ sizeLine := by decide
  refine call_meetsIn F.slot_dict_update dd1.typeIs F.entry_dict_update (F.args_dict_update_2 _ _) (meets_dict_update (mixKind X.prog X.w) a o hao hd2) ⟨xs1, xs2, dd1, dd2, by rw [← rel1.length, ← rel2.length]; omega, fun h' d1 d2 hs => ?_⟩
  have he : ∃ q, h'.get? a = some q := let ⟨q, _, _, hq, _⟩ := d1; ⟨q, hq⟩
  exact ⟨.non, upd H a (.dK (mergeK kvs more)), d_write (t' := s.toks) I (by rw [ha]; exact True.intro) hs he (dk_new (by have := length_mergeK' more kvs; omega) hd1 (KV.merge rel2 rel1) d1), rfl, q⟩
end
end L2
namespace Wk
open PySem PySem.Spec L2 Evl
section
variable {K : Fg} {F Kn0 : Hp} {sl sl' : List Sl} {ow ow1 : List Ow} {κ β : Type} [Rp κ] [K1 κ] [DecidableEq κ] [Rp β] [DecidableEq β] [FlB β]
def neLO (a b : List (Dc κ β)) : Option Bool := if a.length = b.length ∧ (List.zipWith (fun x y => decide (eqDO x y = some true)) a b).all id = true then some false else none
theorem ddf_of {a b : Dc κ β} (h : eqDO a b = some true) {Kn H : Hp} {v w : V} (ek : Ex Kn H) (h1 : rep K Kn v a) (h2 : rep K Kn w b) : DDf H v w := by
  obtain ⟨⟨p1, p2, w1, w2, e1, e2, r1, r2, hl, hp, _⟩, _⟩ := eqD_go h ek h1 h2 (r' := true) (Q := fun _ _ => True) trivial
  exact .inr ⟨p1, p2, w1, w2, e1, e2, r1, r2, hl, hp⟩
theorem ddfs_of {Kn H : Hp} (ek : Ex Kn H) : ∀ {a b : List (Dc κ β)} {vs ws : List V}, a.length = b.length → (List.zipWith (fun x y => decide (eqDO x y = some true)) a b).all id = true → Paired (rep K Kn) vs a → Paired (rep K Kn) ws b → Paired (DDf H) vs ws
  | [], [], _, _, _, _, .nil, .nil => .nil
  | x :: xs, y :: ys, _, _, hl, ha, .cons h1 t1, .cons h2 t2 => by
    rw [List.zipWith_cons_cons, List.all_cons, Bool.and_eq_true] at ha
    exact .cons (ddf_of (of_decide_eq_true ha.1) ek h1 h2) (ddfs_of ek (Nat.succ.inj hl) ha.2 t1 t2)
theorem r2_neL {a b : List (Dc κ β)} {r : Bool} (h : neLO a b = some r) : R2V K (rNeDL K) a b r := fun Kn H v w ek h1 h2 Q q => by
  obtain ⟨p1, w1, rfl, a1, a2⟩ := h1
  obtain ⟨p2, w2, rfl, b1, b2⟩ := h2
  unfold neLO at h
  split at h
  case isFalse => cases h
  rename_i hb
  cases h
  exact ⟨p1, p2, w1, w2, rfl, rfl, sq_of (ek _ _ a1), sq_of (ek _ _ b1), ddfs_of ek hb.1 hb.2 a2 b2, q.fl ek⟩
def eqTpO {γ : Type} (a b : Dc κ β × Option γ × Unit) : Option Bool := if eqDO a.1 b.1 = some true ∧ a.2.1.isNone = true ∧ b.2.1.isNone = true then some true else none
theorem r2_eqTp {γ : Type} [Rp γ] {a b : Dc κ β × Option γ × Unit} {r : Bool} (h : eqTpO a b = some r) : R2V K (rEqDT K) a b r := fun Kn H v w ek h1 h2 Q q => by
  obtain ⟨p1, w1, rfl, a1, v1, r1, rfl, a2, v2, r2, rfl, a3, a4⟩ := h1
  obtain ⟨p2, w2, rfl, b1, u1, s1, rfl, b2, u2, s2, rfl, b3, b4⟩ := h2
  cases a4
  cases b4
  unfold eqTpO at h
  split at h
  case isFalse => cases h
  rename_i hb
  cases h
  obtain ⟨e1, e2, e3⟩ := hb
  obtain ⟨a, ao, ⟨⟩⟩ := a
  obtain ⟨b, bo, ⟨⟩⟩ := b
  cases ao with
  | some x => cases e2
  | none =>
    cases bo with
    | some x => cases e3
    | none =>
      have a3 : v2 = .non := a3
      have b3 : u2 = .non := b3
      subst a3 b3
      exact ⟨p1, p2, _, _, rfl, rfl, st_of (ek _ _ a1), st_of (ek _ _ b1), .cons (ddf_of e1 ek a2 b2) (.cons (.inl ⟨rfl, rfl⟩) .nil), q.fl ek⟩
end
section
variable {K : Fg} {F Kn0 : Hp} {sl sl' : List Sl} {ow ow1 : List Ow} {κ β : Type} [Rp κ] [K1 κ] [DecidableEq κ] [Rp β] {te : TE} {D : Ends} {i j : Nat} {p : Addr}
theorem eg_new : EG K F Kn0 sl ow tDNewK (Dc.mk ([] : List (κ × β))) := fun σ Kn H s Q q p hp => q p _ Kn _ (Gr.newU s.ek hp) hp (fresh_back s.ek hp) upd_same ⟨[], rfl, .nil⟩
def updK (d e : Dc κ β) : Option (Dc κ β) := if d.l.length + e.l.length ≤ 1000000 then some ⟨mergeD d.l e.l⟩ else none
theorem sb_updK {d d' e : Dc κ β} (hi : sl[i]? = some (.at p)) (hj : ow[j]? = some (oo p d)) (h : EV K F Kn0 sl ow te e) (hx : updK d e = some d') (ho : ow.set j (oo p d') = ow1) (n : SN K F Kn0 sl ow1 D) :
    SB K F Kn0 sl ow D (tDrop (tBM K "dict" rUpdK (tVar i) (tCons te tNil))) := fun σ Kn H s => by
  obtain ⟨o, h1, h2⟩ := s.sl.get hi
  obtain ⟨f1, f2, o1, f3, ws, f4, f5⟩ := s.ow.each _ (List.mem_of_getElem? hj)
  subst f4
  have f3 : H p = some (.dK ws) := f3
  unfold updK at hx
  split at hx
  case isFalse => cases hx
  rename_i hc
  cases hx
  subst ho
  refine ⟨.ref p, by rw [h1]; exact congrArg some h2, .inr (.inr (.inl ⟨rfl, .inl ⟨ws, f3⟩⟩)), h σ Kn H s _ fun v Kn1 H1 g1 r1 => ?_⟩
  obtain ⟨a, vs, rfl, ha, hv⟩ := r1
  have ha : Rd Kn1 a (.dK vs) := ha
  have kp : Kn1 p = none := g1.sp p (ne_none_of f3) f2
  have hne : p ≠ a := fun z => by
    rw [← z] at ha
    rcases ha with ha | ⟨_, ha⟩
    · rw [kp] at ha; cases ha
    · rw [kp] at ha; cases ha
  refine ⟨p, a, ws, vs, rfl, rfl, g1.hh _ _ f3, rd_ex g1.kh ha, hne, by rw [f5.length, hv.length]; exact hc, n _ Kn1 _ ?_⟩
  exact (s.grow g1).writeG hj rfl rfl (Ex.refl _) (upd_in g1.kh kp) (fun q hq _ => upd_ne hq) (fun _ _ h => h) ⟨_, upd_same, _, rfl, DK.merge hv (DK.mono g1.kk f5)⟩
end
/-! ### a tuple of a new object and more -/
structure Tgp (β : Type) where
  a : Addr
  b : β
instance {β : Type} [Rp β] : Rp (Tgp β) where
  rep K H v x := ∃ p w, v = .ref p ∧ H p = some (.tup [.ref x.a, w]) ∧ rep K H w x.b
  swap e h := by
    obtain ⟨p, w, h1, h2, h3⟩ := h
    exact ⟨p, w, h1, e.tup h2, Rp.swap e h3⟩
instance {β : Type} [Rp β] : Tn (Tgp β) := ⟨"tuple", fun h => by
  obtain ⟨p, vs, rfl, h1, _⟩ := h
  exact .base (.tup h1)⟩
section
variable {β τ γ : Type} [Rp β] [Tp τ] [Ob γ]
def RPG (K : Fg) (Kn H : Hp) (Q : VK) (x : γ) (y : β) : Prop := ∀ p o v Kn' H', Gr Kn H Kn' H' → H p = none → Kn' p = none → H' p = some o → Ob.ob K Kn' o x → rep K Kn' v (Tgp.mk p y) → Q v H'
def EPG (K : Fg) (F Kn0 : Hp) (sl : List Sl) (ow : List Ow) (te : TE) (x : γ) (y : β) : Prop := ∀ σ Kn H, S K F Kn0 sl ow σ Kn H → ∀ Q : VK, RPG K Kn H Q x y → te σ H Q
def PPG (K : Fg) (f : τ → Option (γ × β × Unit)) : Sp := fun vs H Q _ => ∃ Kn t r, Ex Kn H ∧ rept K Kn vs t ∧ f t = some r ∧ RPG K Kn H Q r.1 r.2.1
def RNPG (K : Fg) (F Kn0 : Hp) (ow : List Ow) (R : VK) (x : γ) (y : β) : Prop := ∀ p o v Kn H, S K F Kn0 [] ow [] Kn H → F p = none → Kn p = none → H p = some o → Ob.ob K Kn o x → rep K Kn v (Tgp.mk p y) → R v H
end
section
variable {K : Fg} {F F' Kn0 Kn1 : Hp} {sl sl' : List Sl} {ow ow0 ow1 : List Ow} {α κ β τ γ δ : Type} [Rp α] [Rp κ] [Ky κ] [DecidableEq κ] [Rp β] [Rp δ] [Tp τ] [Ob γ] {ta : TA} {te : TE} {t : τ} {E : XK} {D : Ends} {i j : Nat} {p : Addr} {x : γ} {y : β} {R R' : VK}
theorem RNPG.base (q : RNPG K F Kn0 ow R x y) (b : Bs F Kn0 Kn1) : RNPG K F Kn1 ow R x y := fun p o v Kn H s => q p o v Kn H (s.unbase b)
theorem RNPG.fr (f : Fle F F') (q : RNPG K F Kn0 ow0 R x y) : RNPG K F' Kn0 ow0 R x y := fun p o v Kn H s h1 h2 h3 h4 h5 => q p o v Kn H (s.back f) (fresh_back f h1) h2 h3 h4 h5
theorem RNPG.mv (q : RNPG K F Kn0 ow0 R x y) (m : Mv K F Kn0 R F' Kn1 R') : RNPG K F' Kn1 ow0 R' x y := fun p o v Kn H s fp kp hp r r2 => by
  obtain ⟨Kn', H', s', h1, h2, h3⟩ := m.st _ _ _ _ _ s
  exact h1 _ (q p o v Kn' H' s' (m.fn p fp) (h3 p kp).1 ((h3 p kp).2.trans hp) (Ob.swap h2 r) (Rp.swap h2 r2))
theorem rnpg_of {H Kn : Hp} {Q : VK} (q : RPG K Kn H Q x y) : RNPG K H Kn [] Q x y := fun p o v Kn' H' s h1 h2 h3 h4 h5 => q p o v Kn' H' ⟨s.e0, s.ef, s.ek, s.sep⟩ h1 h2 h3 h4 h5
theorem epg_call {f : τ → Option (γ × β × Unit)} {r : γ × β × Unit} (h : EA K F Kn0 sl ow ta t) (hf : f t = some r) : EPG K F Kn0 sl ow (tCall (PPG K f) [] E ta) r.1 r.2.1 := fun σ Kn H s Q q =>
  h σ Kn H s _ fun vs Kn1 H1 g1 r1 => by
    show PPG K f (vs ++ []) H1 Q E
    rw [List.append_nil]
    exact ⟨Kn1, t, r, g1.kh, r1, hf, fun p o v Kn' H' g' h1 h2 h3 h4 h5 => q p o v Kn' H' (g1.trans g') (fresh_back g1.hh h1) h2 h3 h4 h5⟩
theorem EPG.ev {d : Dc κ δ} (h : EPG K F Kn0 sl ow te d y) : EV K F Kn0 sl ow te (d, y, ()) := fun σ Kn H s Q q => h σ Kn H s Q fun p o v Kn' H' g hp kp ho r r2 => by
  obtain ⟨ws, rfl, r⟩ := r
  obtain ⟨pt, w, rfl, ht, rw'⟩ := r2
  have n : pt ≠ p := fun z => by rw [z, kp] at ht; cases ht
  exact q _ (upd Kn' p (Ky.ho ws)) H' (g.know hp kp ho) ⟨pt, _, rfl, by rw [upd_ne n]; exact ht, .ref p, _, rfl, ⟨p, ws, rfl, Rd.of upd_same, DK.mono (Ex.new kp) r⟩, w, _, rfl, Rp.mono (Ex.new kp) rw', rfl⟩
theorem EPG.cast {x' : γ} {y' : β} (h : EPG K F Kn0 sl ow te x y) (e1 : x = x') (e2 : y = y') : EPG K F Kn0 sl ow te x' y' := e1 ▸ e2 ▸ h
/-- t = f(..): the object is one's own -/
theorem sb_asgPG {sl' : Addr → List Sl} (hs : ∀ p, sl.set i (sv (Tgp.mk p y)) = sl' p) (h : EPG K F Kn0 sl ow te x y) (k : ∀ p, SN K F Kn0 (sl' p) (oo p x :: ow) D) : SB K F Kn0 sl ow D (tAsg te (gName i)) := fun σ Kn H s =>
  h σ Kn H s _ fun p o v Kn1 H1 g1 hp kp ho r1 r2 => k p _ Kn1 H1 (hs p ▸ ((s.grow g1).ownG (p := p) (o := oo p x) rfl (fresh_back s.ef hp) kp (owned_ne s hp) ⟨o, ho, r1⟩).setv (x := Tgp.mk p y) i r2)
theorem S.seta' {σ : L2.St} {Kn H : Hp} (s : S K F Kn0 sl ow σ Kn H) (i : Nat) : S K F Kn0 (sl.set i (.at p)) ow (σ.set i (some (.ref p))) Kn H := s.set i rfl
/-- a, b = t -/
theorem sb_unpTg (hs : (sl.set i (.at p)).set j (sv y) = sl') (h : EV K F Kn0 sl ow te (Tgp.mk p y)) (k : SN K F Kn0 sl' ow D) : SB K F Kn0 sl ow D (tAsg te (gTup K 2 (gCons (gName i) (gCons (gName j) gNil)))) := fun σ Kn H s => h σ Kn H s _ fun v Kn' H' g r => by
  obtain ⟨pt, w, rfl, ht, rw'⟩ := r
  have s1 := s.grow g
  exact ⟨pt, _, rfl, st_of (s1.ek _ _ ht), rfl, .ref p, _, rfl, w, _, rfl, rfl, k _ Kn' H' (hs ▸ ((s1.seta' (p := p) i).setv (x := y) j rw'))⟩
theorem sb_retPG (hi : sl[i]? = some (.at p)) (hj : ow[j]? = some (oo p x)) (h : EV K F Kn0 sl ow te y) (q : RNPG K F Kn0 ow0 R x y) (l : ow0.Sublist ow) (hR : D.rt = R := by rfl) : SB K F Kn0 sl ow D (tRet (tTup (tCons (tVar i) (tCons te tNil)))) := fun σ Kn H s => by
  subst hR
  obtain ⟨o1, a1, a2⟩ := s.sl.get hi
  refine ⟨.ref p, by rw [a1]; exact congrArg some a2, h σ Kn H s _ fun v Kn1 H1 g1 r1 => ⟨by show 2 ≤ sizeLine; exact le_line (by decide), fun pt hp => ?_⟩⟩
  have s1 := s.grow g1
  obtain ⟨f1, f2, ob, f3, f4⟩ := s1.ow.each _ (List.mem_of_getElem? hj)
  have f1 : F p = none := f1
  have f2 : Kn1 p = none := f2
  have g : Gr Kn1 H1 (upd Kn1 pt (.tup [.ref p, v])) (upd H1 pt (.tup [.ref p, v])) := Gr.new s1.ek hp
  have n : p ≠ pt := fun z => by rw [z, hp] at f3; cases f3
  exact q p ob _ _ _ ((s1.grow g).sub l).fin f1 (by rw [upd_ne n]; exact f2) (g.hh _ _ f3) (Ob.mono g.kk f4) ⟨pt, v, rfl, upd_same, Rp.mono g.kk r1⟩
theorem rc_lenTg {x : Tgp β} : RCV K (fun xs H Q => ∃ p ys, xs = [.ref p] ∧ (SqL K H p ys ∨ SqT K H p ys) ∧ Q (.int ys.length) H) (x, ()) (2 : Int) := fun Kn H vs ek h Q q => by
  obtain ⟨v, rfl, p, ws, rfl, h1, h2⟩ := one_arg h
  exact ⟨p, _, rfl, .inr (st_of (ek _ _ h1)), q.fl (z := (2 : Int)) ek⟩
end
section
variable {X : Cx} {K : Fg}
theorem k_neDL (hu : X.A.units + 64 < cLine) (h : X.K = K := by rfl) : OpR X (compareOp .NotEq) (rNeDL K) := h ▸ op_neDL hu
theorem k_eqDT (hu : X.A.units + 64 < cLine) (h : X.K = K := by rfl) : OpR X (compareOp .Eq) (rEqDT K) := h ▸ op_eqDT hu
end
end Wk
/-! Wdeq: == of dicts of whole numbers, alike or not; xs + script; != of truths -/
namespace L2
open PySem PySem.Spec PyProof.Rows
inductive DH (ls : List (Key × V)) : List (Key × V) → Bool → Prop
  | nil : DH ls [] true
  | miss {k : Key} {v : V} {r : List (Key × V)} : valV ls k = none → DH ls ((k, v) :: r) false
  | hit {k : Key} {i j : Int} {r : List (Key × V)} {b : Bool} : valV ls k = some (.int j) → DH ls r b → DH ls ((k, .int i) :: r) (decide (i = j) && b)
theorem dh_hits {A : Around} {s : Shared} {ls : List (Key × V)} {vb : List (Key × Value)} (rb : KV ls vb) {ks : List (Key × V)} {r : Bool} (h : DH ls ks r) : ∀ {va : List (Key × Value)}, KV ks va → PySem.W.KeqHits A s vb va r := by
  induction h with
  | nil =>
    intro va ra
    unfold KV at ra
    cases ra
    exact .nil
  | @miss k v r hv =>
    intro va ra
    unfold KV at ra
    cases ra with
    | @cons _ q _ qs h t =>
      obtain ⟨key, y⟩ := q
      obtain ⟨h1, h2⟩ := h
      have h1 : k = key := h1
      subst h1
      refine .miss ?_
      have := rb.val k
      rw [hv] at this
      cases e : valueAt vb k with
      | none => rfl
      | some z => rw [e] at this; exact False.elim this
  | @hit k i j r b hv _ ih =>
    intro va ra
    unfold KV at ra
    cases ra with
    | @cons _ q _ qs h t =>
      obtain ⟨key, y⟩ := q
      obtain ⟨h1, h2⟩ := h
      have h1 : k = key := h1
      subst h1
      have rr : RelO (some (V.int j)) (valueAt vb k) := by rw [← hv]; exact rb.val k
      obtain ⟨z, hz, rz⟩ := rr.some_of
      obtain ⟨t1, rfl⟩ := h2
      obtain ⟨t2, rfl⟩ := rz
      exact .hit hz (SeqAt.EqAt.int_int i t1 j t2) (ih t)
def rEqDG : R2 := fun x y H Q => ∃ a b ks ls r, x = .ref a ∧ y = .ref b ∧ Rd H a (.dK ks) ∧ Rd H b (.dK ls) ∧ DH ls ks r ∧ Q (.bl (decide (ks.length = ls.length) && r)) H
section
variable {X : Cx}
theorem op_eqDG (hu : X.A.units + 64 < cLine) : OpR X (compareOp .Eq) rEqDG := by
  intro pins s σ H x y v u Q I rx ry h
  obtain ⟨a, b, ks, ls, r, rfl, rfl, ea, eb, hr, q⟩ := h
  obtain rfl : v = Value.ref a := rx
  obtain rfl : u = Value.ref b := ry
  obtain ⟨_, ya, va, ra, da⟩ := dk_rd I.hok ea
  obtain ⟨_, yb, vb, rb, db⟩ := dk_rd I.hok eb
  exact PySem.W.keq_eq (knd := mixKind X.prog X.w) (r := r) ya yb da db (by omega) (fun _ => dh_hits rb hr ra) (fin_bl I q (by rw [← ra.length, ← rb.length]; cases r <;> simp [BEq.beq, Nat.beq_eq]))
def rCatL (K : PySem.W.Frag) : R2 := fun x y H Q => ∃ l b xs zs, x = .ref l ∧ y = .ref b ∧ SqL K H l xs ∧ SqL K H b zs ∧ xs.length + zs.length ≤ sizeLine ∧ ∀ p, H p = none → Q (.ref p) (upd H p (.lst (xs ++ zs)))
theorem op_catL : OpR X (binaryOp .Add) (rCatL X.K) := by
  intro pins s σ H x y v u Q I rx ry h
  obtain ⟨l, b, xs, zs, rfl, rfl, hH, hB, hz, q⟩ := h
  cases rx
  cases ry
  obtain ⟨its, r, p1, _⟩ := I.list hH
  obtain ⟨its2, r2, p2, _⟩ := I.list hB
  have hl := r.length
  have hl2 := r2.length
  obtain ⟨⟨cls, dd, data, sl⟩, n, ho, hc, hd0, hd⟩ := id p1
  obtain ⟨⟨cls2, dd2, data2, sl2⟩, n2, ho2, hc2, hd02, hd2⟩ := id p2
  simp only at hc hd hc2 hd2
  subst hc hd hc2 hd2
  have ea : its.toArray ++ its2.toArray = (its ++ its2).toArray := by simp
  refine concat_meets ⟨_, ho, rfl⟩ ⟨_, ho2, rfl⟩ noFill_list_add seq_list_add F.slot_list_add F.entry_list_add (F.args_list_add_2 _ _) (PyProof.Rows.list_addW l b its.toArray its2.toArray n n2 dd dd2 sl sl2 (by rw [List.size_toArray, List.size_toArray]; omega)) ⟨ho, ho2, ?_⟩
  rw [ea]
  exact ⟨.ref _, _, I.lnew (t' := s.toks) (r.append r2) (by rw [List.length_append]; omega), rfl, q _ I.fresh⟩
end
end L2
namespace Wk
open PySem PySem.Spec L2 Evl
section
variable {K : Fg} {F Kn0 : Hp} {sl sl' : List Sl} {ow ow1 : List Ow} {κ α : Type} [Rp κ] [K1 κ] [DecidableEq κ] [Rp α]
/-- a == b for dicts of whole numbers -/
def eqDG (a b : Dc κ Int) : Bool := decide (a.l.length = b.l.length) && a.l.all fun kv => decide (getD b.l kv.1 = some kv.2)
theorem dh_of {H : Hp} {w2 : List (Key × V)} {bl : List (κ × Int)} (hb : DK K H w2 bl) : ∀ {w1 : List (Key × V)} {al : List (κ × Int)}, DK K H w1 al → DH w2 w1 (al.all fun kv => decide (getD bl kv.1 = some kv.2))
  | [], [], _ => .nil
  | (k, v) :: ws, (x, i) :: al, h => by
    unfold DK at h
    cases h with
    | cons q t =>
      obtain ⟨q1, q2⟩ := q
      have q1 : k = K1.key x := q1
      have q2 : v = .int i := q2
      subst q1 q2
      rw [List.all_cons]
      rcases hb.get x with ⟨z, zv⟩ | ⟨y, u, z1, z2, z3⟩
      · have e : decide (getD bl (x, i).1 = some (x, i).2) = false := by
          rw [show getD bl (x, i).1 = none from z]; simp
        rw [e, Bool.false_and]
        exact .miss zv
      · have z3 : u = .int y := z3
        subst z3
        have e : decide (getD bl (x, i).1 = some (x, i).2) = decide (i = y) := by
          rw [show getD bl (x, i).1 = some y from z1]
          exact decide_eq_decide.mpr ⟨fun h => (Option.some.inj h).symm, fun h => congrArg some h.symm⟩
        rw [e]
        exact .hit z2 (dh_of hb t)
theorem r2_eqDG {a b : Dc κ Int} : R2V K rEqDG a b (eqDG a b) := fun Kn H v w ek h1 h2 Q q => by
  obtain ⟨p1, w1, rfl, a1, a2⟩ := h1
  obtain ⟨p2, w2, rfl, b1, b2⟩ := h2
  refine ⟨p1, p2, w1, w2, _, rfl, rfl, rd_ex ek a1, rd_ex ek b1, dh_of b2 a2, ?_⟩
  rw [a2.length, b2.length]
  exact q.fl (z := eqDG a b) ek
theorem r2_neB {i j : Bool} : R2V K rNe i j (!decide (i = j)) := fun Kn H v w ek h1 h2 Q q => by
  cases h1
  cases h2
  refine ⟨rfl, ?_⟩
  have e : decide (V.bl i = V.bl j) = decide (i = j) := by simp
  rw [e]
  exact q.fl (z := !decide (i = j)) ek
/-- xs + script -/
def catF (xs : List α) (ys : Fz α) : Option (List α) := if xs.length + ys.l.length ≤ 1000000 then some (xs ++ ys.l) else none
theorem r2_catF {xs zs : List α} {ys : Fz α} (h : catF xs ys = some zs) : R2L K (rCatL K) xs ys zs := fun Kn H v w ek h1 h2 Q q => by
  obtain ⟨p1, w1, rfl, a1, a2⟩ := h1
  obtain ⟨p2, w2, rfl, b1, b2⟩ := h2
  unfold catF at h
  split at h
  case isFalse => cases h
  rename_i hc
  cases h
  have hs0 : (1000000 : Nat) ≤ sizeLine := by decide
  refine ⟨p1, p2, w1, w2, rfl, rfl, SqL.of (ek _ _ a1), ex_l ek b1, ?_, fun p hp => ?_⟩
  · rw [Paired.length a2, Paired.length b2]; omega
  · exact q p _ Kn _ (Gr.newU ek hp) hp (fresh_back ek hp) upd_same (paired_append a2 b2)
end
section
variable {X : Cx} {K : Fg}
theorem k_eqDG (hu : X.A.units + 64 < cLine) : OpR X (compareOp .Eq) rEqDG := op_eqDG hu
theorem k_catL (h : X.K = K := by rfl) : OpR X (binaryOp .Add) (rCatL K) := h ▸ op_catL
end
end Wk
set_option maxHeartbeats 4000000
/-! Weq: == and != of any data: numbers, truths, texts, None, lists, tuples, dicts, one within another -/
namespace PySem.SeqAt
open AutoSeq1 (wpAny_loadPart')
open MeetsSeq MeetsSeq2 MeetsSeq3 SeqRoads2
section
variable {prog : Program} {w : World}
theorem wk_neG_loop (l b : Addr) (items items2 : Array Value) (n n2 : Nat) (dd dd2 : Option Addr) (sl sl2 : Array (Option Value)) (hsz : items.size = items2.size) (e : Nat → Bool) (k : Nat) :
    ∀ i : Nat, items.size - i = k → MeetsIn prog w (Builtin.«list.__eq__.loop» ⟨[.ref l, .ref b, rawInt i, rawInt 3], []⟩)
      (fun A R s => s.heap.get? l = some { cls := .type "list", dict := dd, data := .seq items n, slots := sl } ∧ s.heap.get? b = some { cls := .type "list", dict := dd2, data := .seq items2 n2, slots := sl2 } ∧
        (∀ j (h1 : j < items.size) (h2 : j < items2.size), EqIn prog w A.in1 s items[j] items2[j] (e j)) ∧
        R (.ok (.ret (.bool (!((List.range items.size).drop i).all e)))) s) := by
  induction k with
  | zero =>
    intro i hk A R s h
    obtain ⟨hp, g, d, tk, os⟩ := s; obtain ⟨hl, hb, he, h⟩ := h
    wp_walk using wpAny_loadPart' hl, wpAny_loadPart' hb
    have q1 : items[((i : Nat) : Int).toNat]? = none := by simp; omega
    have q2 : items2[((i : Nat) : Int).toNat]? = none := by simp; omega
    rw [show (List.range items.size).drop i = [] by simp; omega] at h
    rw [q1, q2]
    wp_walk using wpAny_loadPart' hl, wpAny_loadPart' hb
    show R (.ok (.ret (.bool (items.size != items2.size)))) _
    rw [hsz]
    simpa using h
  | succ k ih =>
    intro i hk A R s h
    obtain ⟨hp, g, d, tk, os⟩ := s; obtain ⟨hl, hb, he, h⟩ := h
    wp_walk using wpAny_loadPart' hl, wpAny_loadPart' hb
    have t1 : i < items.size := by omega
    have t2 : i < items2.size := by omega
    have q1 : items[((i : Nat) : Int).toNat]? = some items[i] := by simp [t1]
    have q2 : items2[((i : Nat) : Int).toNat]? = some items2[i] := by simp [t2]
    rw [show (List.range items.size).drop i = i :: (List.range items.size).drop (i + 1) by simp [List.drop_eq_getElem_cons, t1], List.all_cons] at h
    rw [q1, q2]
    refine wpAny_bind (he i t1 t2 _ _ ?_)
    cases ei : e i with
    | true =>
      rw [ei] at h
      wp_walk
      rw [show ((i : Int) + 1) = ((i + 1 : Nat) : Int) by push_cast; rfl]
      refine ⟨plainId_quiet plain_eq_loop _, codeAny_builtin entry_eq_loop ?_⟩
      rw [Around.under_plainId plain_eq_loop _]
      exact ih (i + 1) (by omega) A R _ ⟨hl, hb, he, by simpa using h⟩
    | false =>
      rw [ei] at h
      wp_walk using wpAny_loadPart' hl, wpAny_loadPart' hb
      rw [q1, q2]
      wp_walk
      simpa using h
theorem wk_list_neG (l b : Addr) (items items2 : Array Value) (n n2 : Nat) (dd dd2 : Option Addr) (sl sl2 : Array (Option Value)) (hsz : items.size = items2.size) (e : Nat → Bool) :
    MeetsIn prog w (Builtin.«list.__ne__» ⟨[.ref l, .ref b], []⟩)
      (fun A R s => s.heap.get? l = some { cls := .type "list", dict := dd, data := .seq items n, slots := sl } ∧ s.heap.get? b = some { cls := .type "list", dict := dd2, data := .seq items2 n2, slots := sl2 } ∧
        (∀ j (h1 : j < items.size) (h2 : j < items2.size), EqIn prog w A.in1 s items[j] items2[j] (e j)) ∧
        R (.ok (.ret (.bool (!(List.range items.size).all e)))) s) := by
  intro A R s h
  obtain ⟨hp, g, d, tk, os⟩ := s; obtain ⟨hl, hb, he, h⟩ := h
  have sub := AutoSeq1.sub_list_list
  have hne : ¬ (items.size != items2.size) = true := by simp [hsz]
  wp_walk using wpAny_loadPart' hl, wpAny_loadPart' hb
  refine ⟨plainId_quiet plain_eq_loop _, codeAny_builtin entry_eq_loop ?_⟩
  rw [Around.under_plainId plain_eq_loop _]
  exact wk_neG_loop l b items items2 n n2 dd dd2 sl sl2 hsz e _ 0 rfl A R _ ⟨hl, hb, he, by simpa using h⟩
theorem wk_neG_lists {A : Around} {s : Shared} {l b : Addr} {items items2 : Array Value} {e : Nat → Bool} (hl : s.heap.IsList l items) (hb : s.heap.IsList b items2) (hsz : items.size = items2.size) (hu : A.units < cLine)
    (he : ∀ j (h1 : j < items.size) (h2 : j < items2.size), EqIn prog w A.in1 s items[j] items2[j] (e j)) (E Q : Value → Shared → Prop) (h : Q (.bool (!(List.range items.size).all e)) s) : wpAny (model prog w) A (richCompare .NotEq (.ref l) (.ref b)) Q E s := by
  obtain ⟨⟨cls, dd, data, sl⟩, ho, hc, n, hd⟩ := id hl
  obtain ⟨⟨cls2, dd2, data2, sl2⟩, ho2, hc2, n2, hd2⟩ := id hb
  simp only at hc hd hc2 hd2
  subst hc hd hc2 hd2
  have ta : s.TypeIs (.ref l) "list" := ⟨_, ho, rfl⟩
  have tb : s.TypeIs (.ref b) "list" := ⟨_, ho2, rfl⟩
  exact wpAny_richCompare_same_room (op := .NotEq) ta tb F.slot_list_ne (call_meetsIn F.slot_list_ne ta F.entry_list_ne (F.args_list_ne_2 _ _) (wk_list_neG l b items items2 n n2 dd dd2 sl sl2 hsz e)
    ⟨ho, ho2, he, show Value.bool _ ≠ Value.notImplemented ∧ Q (.bool _) s from ⟨(fun x => nomatch x), h⟩⟩) hu
theorem wk_tuple_neG (l b : Addr) (items items2 : Array Value) (n n2 : Nat) (dd dd2 : Option Addr) (sl sl2 : Array (Option Value)) (e : Nat → Bool) :
    MeetsIn prog w (Builtin.«tuple.__ne__» ⟨[.ref l, .ref b], []⟩)
      (fun A R s => s.heap.get? l = some { cls := .type "tuple", dict := dd, data := .seq items n, slots := sl } ∧ s.heap.get? b = some { cls := .type "tuple", dict := dd2, data := .seq items2 n2, slots := sl2 } ∧
        (∀ j (h1 : j < items.size) (h2 : j < items2.size), EqIn prog w A.in1 s items[j] items2[j] (e j)) ∧
        R (.ok (.ret (.bool (!((List.range (min items.size items2.size)).all e && items.size == items2.size))))) s) :=
  .of_wp fun A R s h => by
    obtain ⟨hp, g, d, tk, os⟩ := s; obtain ⟨hl, hb, he, h⟩ := h
    have sub := AutoSeq1.sub_tuple_tuple
    have zl : (items.toList.zip items2.toList).length = min items.size items2.size := by simp
    wp_walk using wpAny_loadPart' hl, wpAny_loadPart' hb, wpAny_forIn_list _ (fun rest b s' => b.1 = none ∧ s' = ⟨hp, g, d, tk, os⟩ ∧ ∃ i, rest = (items.toList.zip items2.toList).drop i ∧
      R (.ok (.ret (.bool (!(((List.range (min items.size items2.size)).drop i).all e && items.size == items2.size))))) ⟨hp, g, d, tk, os⟩) _
    case turn =>
      rintro ⟨y, x⟩ rest b s' ⟨hb', rfl, i, hz, hR⟩
      have hlt : i < (items.toList.zip items2.toList).length := Nat.lt_of_not_le fun h' => by
        rw [List.drop_of_length_le h'] at hz
        cases hz
      have hm : i < min items.size items2.size := zl ▸ hlt
      have h1 : i < items.size := Nat.lt_of_lt_of_le hm (Nat.min_le_left _ _)
      have h2 : i < items2.size := Nat.lt_of_lt_of_le hm (Nat.min_le_right _ _)
      rw [List.drop_eq_getElem_cons hlt] at hz
      injection hz with hyx hrest
      obtain rfl : y = items[i] := by simpa using congrArg Prod.fst hyx
      obtain rfl : x = items2[i] := by simpa using congrArg Prod.snd hyx
      rw [show (List.range (min items.size items2.size)).drop i = i :: (List.range (min items.size items2.size)).drop (i + 1) by simp [List.drop_eq_getElem_cons, hm], List.all_cons] at hR
      refine wpAny_bind (he i h1 h2 _ _ ?_)
      cases ei : e i with
      | true =>
        rw [ei] at hR
        wp_walk
        exact ⟨rfl, rfl, i + 1, hrest, by simpa using hR⟩
      | false =>
        rw [ei] at hR
        wp_walk
        exact ⟨_, rfl, by simpa using hR⟩
    case fin =>
      rintro ⟨b1, b2⟩ s' ⟨hb', rfl, i, hz, hR⟩
      simp only at hb'
      subst hb'
      have hge : min items.size items2.size ≤ i := Nat.le_of_not_lt fun h' => by
        rw [List.drop_eq_getElem_cons (zl ▸ h')] at hz
        cases hz
      rw [List.drop_of_length_le (by simpa using hge)] at hR
      wp_walk
      exact ⟨_, rfl, by simpa [Builtin.Tuple.tupleCompareSizes, bne] using hR⟩
    case h => exact ⟨rfl, rfl, 0, rfl, by simpa using h⟩
theorem wk_neG_tuples {A : Around} {s : Shared} {l b : Addr} {items items2 : Array Value} {e : Nat → Bool} (hl : s.heap.IsTuple l items) (hb : s.heap.IsTuple b items2) (hu : A.units < cLine)
    (he : ∀ j (h1 : j < items.size) (h2 : j < items2.size), EqIn prog w A.in1 s items[j] items2[j] (e j)) (E Q : Value → Shared → Prop) (h : Q (.bool (!((List.range (min items.size items2.size)).all e && items.size == items2.size))) s) :
    wpAny (model prog w) A (richCompare .NotEq (.ref l) (.ref b)) Q E s := by
  obtain ⟨⟨cls, dd, data, sl⟩, ho, hc, n, hd⟩ := id hl
  obtain ⟨⟨cls2, dd2, data2, sl2⟩, ho2, hc2, n2, hd2⟩ := id hb
  simp only at hc hd hc2 hd2
  subst hc hd hc2 hd2
  have ta : s.TypeIs (.ref l) "tuple" := ⟨_, ho, rfl⟩
  have tb : s.TypeIs (.ref b) "tuple" := ⟨_, ho2, rfl⟩
  exact wpAny_richCompare_same_room (op := .NotEq) ta tb F.slot_tuple_ne (call_meetsIn F.slot_tuple_ne ta F.entry_tuple_ne (F.args_tuple_ne_2 _ _) (wk_tuple_neG l b items items2 n n2 dd dd2 sl sl2 e)
    ⟨ho, ho2, he, show Value.bool _ ≠ Value.notImplemented ∧ Q (.bool _) s from ⟨(fun x => nomatch x), h⟩⟩) hu
end
end PySem.SeqAt
namespace PySem.W
open PySem PySem.Calls PyProof.Rows PySem.Spec
open PySem.SeqAt (EqIn)
theorem wk_neG_dicts {prog : Program} {w : World} {K : Type} [DecidableEq K] {knd : KeyKind prog w K} {A : Around} {s : Shared} {a b : Addr} {ka kb : List (K × Value)} {r : Bool} (ha : (a == sysModules) = false) (hb : (b == sysModules) = false)
    (da : s.heap.DictOf knd a ka) (db : s.heap.DictOf knd b kb) (hu : A.units < cLine) (hits : ka.length = kb.length → KeqHitsIn prog w A.in1 s kb ka r) (E Q : Value → Shared → Prop) (h : Q (.bool (!(ka.length == kb.length && r))) s) :
    wpAny (model prog w) A (richCompare .NotEq (.ref a) (.ref b)) Q E s := by
  refine wpAny_richCompare_same_room (op := .NotEq) da.typeIs db.typeIs PySem.F.slot_dict_ne (wpAny_call_entry PySem.F.slot_dict_ne da.typeIs PySem.F.entry_dict_ne ?_ (PySem.F.args_dict_ne_2 _ _)) hu
  show wpAny _ _ (Builtin.Dict.dictSlotArgs "__ne__" ⟨[.ref a, .ref b], []⟩ >>= _) _ _ s
  unfold Builtin.Dict.dictSlotArgs
  refine wpAny_bind (wpAny_bind (wpAny_notOrdered_dict da.typeIs ?_))
  show wpAny _ _ (pure (Value.ref a, Value.ref b)) _ _ s
  refine wpAny_pure (wpAny_bind (wpAny_isInstance (T := "dict") db.typeIs PySem.F.sub_dict_dict ?_))
  simp only [Bool.not_true, Bool.false_eq_true, if_false]
  refine wpAny_bind (wpAny_pure (wpAny_bind (wpAny_pure (wpAny_bind (keq_samePairsIn ha hb da db hits (wpAny_pure ⟨_, rfl, (fun x => nomatch x), ?_⟩))))))
  simpa using h
theorem EqTree.mono {prog : Program} {w : World} {s : Shared} {n : Nat} {v y : Value} {b : Bool} (t : EqTree prog w s n v y b) : ∀ {m : Nat}, n ≤ m → EqTree prog w s m v y b := by
  induction t with
  | leaf h => exact fun hm => .leaf fun A hu => h A (by omega)
  | same => exact fun _ => .same
  | lists hne hl hl' hsz _ ih =>
    intro m hm
    obtain ⟨k, rfl⟩ : ∃ k, m = k + 1 := ⟨m - 1, by omega⟩
    exact .lists hne hl hl' hsz fun j h1 h2 => ih j h1 h2 (by omega)
  | listsLen hne hl hl' hsz =>
    intro m hm
    obtain ⟨k, rfl⟩ : ∃ k, m = k + 1 := ⟨m - 1, by omega⟩
    exact .listsLen hne hl hl' hsz
  | tuples hne hl hl' _ ih =>
    intro m hm
    obtain ⟨k, rfl⟩ : ∃ k, m = k + 1 := ⟨m - 1, by omega⟩
    exact .tuples hne hl hl' fun j h1 h2 => ih j h1 h2 (by omega)
  | dicts hne ha hb da db _ ih =>
    intro m hm
    obtain ⟨k, rfl⟩ : ∃ k, m = k + 1 := ⟨m - 1, by omega⟩
    exact .dicts hne ha hb da db fun k v y hm hv => ih k v y hm hv (by omega)
end PySem.W
namespace L2
open PySem PySem.Spec PyProof.Rows PySem.W
/-- x == y, x != y answer so, as operations -/
def TopB (K : PySem.W.Frag) (H : Hp) (op : CmpOp) (x y : V) (b : Bool) : Prop := ∀ {X : Cx} {pins σ s}, X.K = K → X.A.units + 64 < cLine → Inv X pins σ H s → ∀ {v u : Value}, RelV x v → RelV y u → ∀ E Q : Value → Shared → Prop, Q (.bool b) s → wpAny (model X.prog X.w) X.A (compareOp op v u) Q E s
def rTop (K : PySem.W.Frag) (op : CmpOp) : R2 := fun x y H Q => ∃ b, TopB K H op x y b ∧ Q (.bl b) H
theorem op_top {X : Cx} {op : CmpOp} (hu : X.A.units + 64 < cLine) : OpR X (compareOp op) (rTop X.K op) := by
  intro pins s σ H x y v u Q I rx ry h
  obtain ⟨b, hb, q⟩ := h
  exact hb rfl hu I rx ry _ _ ⟨.bl b, H, I, rfl, q⟩
end L2
namespace Wk
open PySem PySem.Spec L2 Evl PySem.W
/-- data whose equality is told -/
class Qe (α : Type) [Rp α] where
  dq : Nat
  qe : α → α → Bool
  rf : ∀ {X : Cx} {pins : List (Addr × Obj)} {σ : L2.St} {H : Hp} {s : Shared}, Inv X pins σ H s → ∀ {Kn : Hp} {x : V} {a b : α}, Ex Kn H → rep X.K Kn x a → rep X.K Kn x b → qe a b = true
  is : ∀ {X : Cx} {pins : List (Addr × Obj)} {σ : L2.St} {H : Hp} {s : Shared}, Inv X pins σ H s → ∀ {Kn : Hp} {x y : V} {a b : α}, Ex Kn H → rep X.K Kn x a → rep X.K Kn y b → ∀ {v u : Value}, RelV x v → RelV y u → EqTree X.prog X.w s dq v u (qe a b)
/-- None beside it -/
class Qn (α : Type) [Rp α] where
  no : ∀ {X : Cx} {pins : List (Addr × Obj)} {σ : L2.St} {H : Hp} {s : Shared}, Inv X pins σ H s → ∀ {Kn : Hp} {x : V} {a : α}, Ex Kn H → rep X.K Kn x a → ∀ {v : Value}, RelV x v → EqTree X.prog X.w s 1 v .none false ∧ EqTree X.prog X.w s 1 .none v false
instance : Qe Int where
  dq := 0
  qe a b := decide (a = b)
  rf _ _ _ _ _ _ h1 h2 := by cases h1; cases h2; exact decide_eq_true rfl
  is _ _ _ _ a b _ h1 h2 _ _ r1 r2 := by
    cases h1
    cases h2
    obtain ⟨t1, rfl⟩ := r1
    obtain ⟨t2, rfl⟩ := r2
    exact .leaf fun A _ => SeqAt.EqAt.int_int a t1 b t2
instance : Qn Int where
  no _ _ _ a _ h _ r := by
    cases h
    obtain ⟨t, rfl⟩ := r
    exact ⟨.leaf fun A _ => SeqAt.EqAt.int_none a t, .leaf fun A _ => SeqAt.EqAt.none_int a t⟩
instance : Qe Bool where
  dq := 0
  qe a b := decide (a = b)
  rf _ _ _ _ _ _ h1 h2 := by cases h1; cases h2; exact decide_eq_true rfl
  is _ _ _ _ a b _ h1 h2 _ _ r1 r2 := by
    cases h1
    cases h2
    cases r1
    cases r2
    have e : decide (a = b) = (a == b) := by cases a <;> cases b <;> rfl
    rw [e]
    exact .leaf fun A _ => SeqAt.EqAt.bool_bool a b
instance : Qe Str where
  dq := 0
  qe a b := decide (a = b)
  rf _ _ _ _ _ _ h1 h2 := by cases h1; cases h2; exact decide_eq_true rfl
  is _ _ _ _ a b _ h1 h2 _ _ r1 r2 := by
    cases h1
    cases h2
    obtain ⟨t1, rfl⟩ := r1
    obtain ⟨t2, rfl⟩ := r2
    have e : decide (a = b) = (a == b) := by
      by_cases z : a = b
      · subst z; simp
      · simp [z]
    rw [e]
    exact .leaf fun A _ => SeqAt.EqAt.str_str a t1 b t2
instance : Qe Nn where
  dq := 0
  qe _ _ := true
  rf _ _ _ _ _ _ _ _ := rfl
  is _ _ _ _ _ _ _ h1 h2 _ _ r1 r2 := by
    cases h1
    cases h2
    cases r1
    cases r2
    exact .same
instance {α : Type} [Rp α] [Qe α] [Qn α] : Qe (Option α) where
  dq := Qe.dq α + 1
  qe a b := match a, b with
    | none, none => true
    | some x, some y => Qe.qe x y
    | _, _ => false
  rf {X _ _ _ _} I _ _ a b ek h1 h2 := by
    cases a with
    | none =>
      cases b with
      | none => rfl
      | some y => exact absurd h1 h2.1
    | some x =>
      cases b with
      | none => exact absurd h2 h1.1
      | some y => exact Qe.rf I ek h1.2 h2.2
  is {X _ _ _ _} I _ _ _ a b ek h1 h2 _ _ r1 r2 := by
    cases a with
    | none =>
      cases h1
      cases r1
      cases b with
      | none =>
        cases h2
        cases r2
        exact .same
      | some y => exact (Qn.no I ek h2.2 r2).2.mono (by omega)
    | some x =>
      cases b with
      | none =>
        cases h2
        cases r2
        exact (Qn.no I ek h1.2 r1).1.mono (by omega)
      | some y => exact (Qe.is I ek h1.2 h2.2 r1 r2).mono (by omega)
/-- one by one -/
inductive EqAll (prog : Program) (w : World) (s : Shared) (n : Nat) : List Value → List Value → Bool → Prop
  | nil : EqAll prog w s n [] [] true
  | cons {v u : Value} {vs us : List Value} {b c : Bool} : EqTree prog w s n v u b → EqAll prog w s n vs us c → EqAll prog w s n (v :: vs) (u :: us) (b && c)
theorem range_all (e : Nat → Bool) (n : Nat) : (List.range (n + 1)).all e = (e 0 && (List.range n).all fun j => e (j + 1)) := by
  rw [List.range_succ_eq_map, List.all_cons, List.all_map]
  rfl
theorem EqAll.go {prog : Program} {w : World} {s : Shared} {n : Nat} {vs us : List Value} {b : Bool} (h : EqAll prog w s n vs us b) : vs.length = us.length ∧ ∃ e : Nat → Bool, (∀ j (h1 : j < vs.toArray.size) (h2 : j < us.toArray.size), EqTree prog w s n vs.toArray[j] us.toArray[j] (e j)) ∧ (List.range vs.length).all e = b := by
  induction h with
  | nil => exact ⟨rfl, fun _ => true, fun j h1 _ => absurd h1 (Nat.not_lt_zero _), rfl⟩
  | @cons v u vs us b c h t ih =>
    obtain ⟨hl, e, h1, h2⟩ := ih
    refine ⟨by rw [List.length_cons, List.length_cons, hl], fun j => match j with | 0 => b | j + 1 => e j, fun j j1 j2 => ?_, ?_⟩
    · cases j with
      | zero => exact h
      | succ j => exact h1 j (by simpa using j1) (by simpa using j2)
    · rw [List.length_cons, range_all, ← h2]
def qeL {α : Type} [Rp α] [Qe α] : List α → List α → Bool
  | [], [] => true
  | x :: xs, y :: ys => Qe.qe x y && qeL xs ys
  | _, _ => false
theorem qeL_len {α : Type} [Rp α] [Qe α] : ∀ {xs ys : List α}, xs.length ≠ ys.length → qeL xs ys = false
  | [], [], h => absurd rfl h
  | [], _ :: _, _ => rfl
  | _ :: _, [], _ => rfl
  | x :: xs, y :: ys, h => by
    show (Qe.qe x y && qeL xs ys) = false
    rw [qeL_len (fun z => h (by rw [List.length_cons, List.length_cons, z])), Bool.and_false]
section
variable {X : Cx} {pins : List (Addr × Obj)} {σ : L2.St} {H Kn : Hp} {s : Shared} {α : Type} [Rp α] [Qe α]
theorem rfL (I : Inv X pins σ H s) (ek : Ex Kn H) : ∀ {vs : List V} {xs ys : List α}, Paired (rep X.K Kn) vs xs → Paired (rep X.K Kn) vs ys → qeL xs ys = true
  | _, _, _, .nil, .nil => rfl
  | _, _, _, .cons h1 t1, .cons h2 t2 => by
    show (Qe.qe _ _ && qeL _ _) = true
    rw [Qe.rf I ek h1 h2, rfL I ek t1 t2]
    rfl
theorem eqAllL (I : Inv X pins σ H s) (ek : Ex Kn H) : ∀ {vs ws : List V} {xs ys : List α} {us zs : List Value}, xs.length = ys.length → Paired (rep X.K Kn) vs xs → Paired (rep X.K Kn) ws ys → Vals vs us → Vals ws zs → EqAll X.prog X.w s (Qe.dq α) us zs (qeL xs ys)
  | _, _, _, _, _, _, _, .nil, .nil, .nil, .nil => .nil
  | _, _, _, _, _, _, hl, .cons h1 t1, .cons h2 t2, .cons r1 q1, .cons r2 q2 => .cons (Qe.is I ek h1 h2 r1 r2) (eqAllL I ek (Nat.succ.inj hl) t1 t2 q1 q2)
  | _, _, _, _, _, _, hl, .nil, .cons _ _, _, _ => by cases hl
  | _, _, _, _, _, _, hl, .cons _ _, .nil, _, _ => by cases hl
theorem list_tree (I : Inv X pins σ H s) (ek : Ex Kn H) {p q : Addr} {vs ws : List V} {xs ys : List α} (hp : Kn p = some (.lst vs)) (hq : Kn q = some (.lst ws)) (h1 : Paired (rep X.K Kn) vs xs) (h2 : Paired (rep X.K Kn) ws ys) : EqTree X.prog X.w s (Qe.dq α + 1) (.ref p) (.ref q) (qeL xs ys) := by
  by_cases hpq : p = q
  · subst hpq
    rw [hp] at hq
    cases hq
    rw [rfL I ek h1 h2]
    exact .same
  · obtain ⟨us, r1, p1, _⟩ := I.list (sq_of (ek _ _ hp))
    obtain ⟨zs, r2, p2, _⟩ := I.list (sq_of (ek _ _ hq))
    have l1 := Paired.length h1
    have l2 := Paired.length h2
    have m1 := r1.length
    have m2 := r2.length
    by_cases hl : xs.length = ys.length
    · obtain ⟨_, e, he, hb⟩ := (eqAllL I ek hl h1 h2 r1 r2).go
      have t := EqTree.lists hpq p1.isList p2.isList (by rw [List.size_toArray, List.size_toArray]; omega) he
      rw [List.size_toArray, hb] at t
      exact t
    · rw [qeL_len hl]
      exact .listsLen hpq p1.isList p2.isList (by rw [List.size_toArray, List.size_toArray]; simp; omega)
end
instance {α : Type} [Rp α] [Qe α] : Qe (List α) where
  dq := Qe.dq α + 1
  qe := qeL
  rf I _ _ _ _ ek h1 h2 := by
    obtain ⟨p, vs, rfl, a1, a2⟩ := h1
    obtain ⟨q, ws, e, b1, b2⟩ := h2
    cases e
    rw [a1] at b1
    cases b1
    exact rfL I ek a2 b2
  is I _ _ _ _ _ ek h1 h2 _ _ r1 r2 := by
    obtain ⟨p, vs, rfl, a1, a2⟩ := h1
    obtain ⟨q, ws, rfl, b1, b2⟩ := h2
    cases r1
    cases r2
    exact list_tree I ek a1 b1 a2 b2
instance {α : Type} [Rp α] : Qn (List α) where
  no I _ _ _ ek h _ r := by
    obtain ⟨p, vs, rfl, a1, a2⟩ := h
    cases r
    obtain ⟨us, r1, p1, _⟩ := I.list (sq_of (ek _ _ a1))
    exact ⟨.leaf fun A hu => SeqAt.EqAt.list_none p1.isList (by omega), .leaf fun A hu => SeqAt.EqAt.none_list p1.isList (by omega)⟩
/-- the places of a tuple -/
class Qs (τ : Type) [Tp τ] where
  dq : Nat
  qe : τ → τ → Bool
  rf : ∀ {X : Cx} {pins : List (Addr × Obj)} {σ : L2.St} {H : Hp} {s : Shared}, Inv X pins σ H s → ∀ {Kn : Hp} {vs : List V} {a b : τ}, Ex Kn H → rept X.K Kn vs a → rept X.K Kn vs b → qe a b = true
  is : ∀ {X : Cx} {pins : List (Addr × Obj)} {σ : L2.St} {H : Hp} {s : Shared}, Inv X pins σ H s → ∀ {Kn : Hp} {vs ws : List V} {a b : τ}, Ex Kn H → rept X.K Kn vs a → rept X.K Kn ws b → ∀ {us zs : List Value}, Vals vs us → Vals ws zs → EqAll X.prog X.w s dq us zs (qe a b)
theorem EqAll.mono {prog : Program} {w : World} {s : Shared} {n m : Nat} (hm : n ≤ m) {vs us : List Value} {b : Bool} (h : EqAll prog w s n vs us b) : EqAll prog w s m vs us b := by
  induction h with
  | nil => exact .nil
  | cons h _ ih => exact .cons (h.mono hm) ih
instance : Qs Unit where
  dq := 0
  qe _ _ := true
  rf _ _ _ _ _ _ _ _ := rfl
  is _ _ _ _ _ _ _ h1 h2 _ _ r1 r2 := by
    cases h1
    cases h2
    cases r1
    cases r2
    exact .nil
instance {α τ : Type} [Rp α] [Tp τ] [Qe α] [Qs τ] : Qs (α × τ) where
  dq := max (Qe.dq α) (Qs.dq τ)
  qe a b := Qe.qe a.1 b.1 && Qs.qe a.2 b.2
  rf I _ _ _ _ ek h1 h2 := by
    obtain ⟨v, r, rfl, a1, a2⟩ := h1
    obtain ⟨w, r2, e, b1, b2⟩ := h2
    cases e
    rw [Qe.rf I ek a1 b1, Qs.rf I ek a2 b2]
    rfl
  is I _ _ _ _ _ ek h1 h2 _ _ r1 r2 := by
    obtain ⟨v, r, rfl, a1, a2⟩ := h1
    obtain ⟨w, r2, rfl, b1, b2⟩ := h2
    cases r1 with
    | cons c1 d1 =>
      cases r2 with
      | cons c2 d2 => exact .cons ((Qe.is I ek a1 b1 c1 c2).mono (Nat.le_max_left _ _)) ((Qs.is I ek a2 b2 d1 d2).mono (Nat.le_max_right _ _))
section
variable {X : Cx} {pins : List (Addr × Obj)} {σ : L2.St} {H Kn : Hp} {s : Shared} {τ : Type} [Tp τ] [Qs τ]
theorem tup_tree (I : Inv X pins σ H s) (ek : Ex Kn H) {p q : Addr} {vs ws : List V} {a b : τ} (hp : Kn p = some (.tup vs)) (hq : Kn q = some (.tup ws)) (h1 : rept X.K Kn vs a) (h2 : rept X.K Kn ws b) : EqTree X.prog X.w s (Qs.dq τ + 1) (.ref p) (.ref q) (Qs.qe a b) := by
  by_cases hpq : p = q
  · subst hpq
    rw [hp] at hq
    cases hq
    rw [Qs.rf I ek h1 h2]
    exact .same
  · obtain ⟨us, r1, p1, _⟩ := I.tuple (st_of (ek _ _ hp))
    obtain ⟨zs, r2, p2, _⟩ := I.tuple (st_of (ek _ _ hq))
    obtain ⟨hl, e, he, hb⟩ := (Qs.is I ek h1 h2 r1 r2).go
    have t := EqTree.tuples hpq p1 p2 he
    rw [List.size_toArray, List.size_toArray, ← hl, Nat.min_self, hb] at t
    simpa using t
end
instance {α τ : Type} [Rp α] [Tp τ] [Qe α] [Qs τ] : Qe (α × τ) where
  dq := Qs.dq (α × τ) + 1
  qe a b := Qs.qe a b
  rf I _ _ _ _ ek h1 h2 := by
    obtain ⟨p, vs, rfl, a1, a2⟩ := h1
    obtain ⟨q, ws, e, b1, b2⟩ := h2
    cases e
    rw [a1] at b1
    cases b1
    exact Qs.rf I ek a2 b2
  is I _ _ _ _ _ ek h1 h2 _ _ r1 r2 := by
    obtain ⟨p, vs, rfl, a1, a2⟩ := h1
    obtain ⟨q, ws, rfl, b1, b2⟩ := h2
    cases r1
    cases r2
    exact tup_tree I ek a1 b1 a2 b2
instance {α τ : Type} [Rp α] [Tp τ] : Qn (α × τ) where
  no I _ _ _ ek h _ r := by
    obtain ⟨p, vs, rfl, a1, a2⟩ := h
    cases r
    obtain ⟨us, r1, p1, _⟩ := I.tuple (st_of (ek _ _ a1))
    exact ⟨.leaf fun A hu => SeqAt.EqAt.tuple_none p1 (by omega), .leaf fun A hu => SeqAt.EqAt.none_tuple p1 (by omega)⟩
/-! ### dicts -/
section
variable {κ β : Type} [Rp κ] [K1 κ] [DecidableEq κ] [Rp β]
def getK (l : List (κ × β)) (k : Key) : Option β := (l.find? fun kv => decide ((Ky.key kv.1 : Key) = k)).map (·.2)
theorem getK_key (l : List (κ × β)) (x : κ) : getK l (Ky.key x) = getD l x := by
  unfold getK getD
  congr 2
  funext kv
  exact decide_eq_decide.mpr ⟨fun h => Ky.inj h, fun h => by rw [h]⟩
theorem DK.getK {K : Fg} {H : Hp} {ws : List (Key × V)} {kvs : List (κ × β)} (k : Key) (h : DK K H ws kvs) : (Wk.getK kvs k = none ∧ valV ws k = none) ∨ ∃ y v, Wk.getK kvs k = Option.some y ∧ valV ws k = Option.some v ∧ rep K H v y := by
  unfold DK at h
  induction h with
  | nil => exact .inl ⟨rfl, rfl⟩
  | @cons w kv ws kvs h t ih =>
    unfold Wk.getK valV
    by_cases e : (Ky.key kv.1 : Key) = k
    · have e2 : w.1 = k := h.1.trans e
      rw [List.find?_cons_of_pos (by simpa using e), List.find?_cons_of_pos (by simpa using e2)]
      exact .inr ⟨_, _, rfl, rfl, h.2⟩
    · have e2 : ¬ w.1 = k := fun z => e (h.1.symm.trans z)
      rw [List.find?_cons_of_neg (by simpa using e), List.find?_cons_of_neg (by simpa using e2)]
      exact ih
theorem DK.keys {K : Fg} {H : Hp} {ws : List (Key × V)} {kvs : List (κ × β)} (h : DK K H ws kvs) : kvs.map (fun kv => (Ky.key kv.1 : Key)) = ws.map (·.1) := by
  unfold DK at h
  induction h with
  | nil => rfl
  | cons h _ ih =>
    rw [List.map_cons, List.map_cons, ih]
    exact congrArg (· :: _) h.1.symm
theorem getK_mem {l : List (κ × β)} (nd : (l.map fun kv => (Ky.key kv.1 : Key)).Nodup) : ∀ {kv : κ × β}, kv ∈ l → getK l (Ky.key kv.1) = some kv.2 := by
  induction l with
  | nil => exact fun h => nomatch h
  | cons p l ih =>
    intro kv h
    rw [List.map_cons, List.nodup_cons] at nd
    unfold getK
    rcases List.mem_cons.mp h with rfl | h
    · rw [List.find?_cons_of_pos (by simp)]
      rfl
    · have ne : ¬ (Ky.key p.1 : Key) = Ky.key kv.1 := fun z => nd.1 (z ▸ List.mem_map.mpr ⟨kv, h, rfl⟩)
      rw [List.find?_cons_of_neg (by simpa using ne)]
      exact ih nd.2 h
/-- two values of a pair's place -/
theorem DK.at {K : Fg} {H : Hp} {ws : List (Key × V)} {kvs : List (κ × β)} (h : DK K H ws kvs) : ∀ {w : Key × V}, w ∈ ws → ∃ kv ∈ kvs, w.1 = Ky.key kv.1 ∧ rep K H w.2 kv.2 := by
  unfold DK at h
  induction h with
  | nil => exact fun h => nomatch h
  | @cons w0 kv0 ws kvs h t ih =>
    intro w hw
    rcases List.mem_cons.mp hw with rfl | hw
    · exact ⟨kv0, List.mem_cons_self, h.1, h.2⟩
    · obtain ⟨kv, h1, h2⟩ := ih hw
      exact ⟨kv, List.mem_cons_of_mem _ h1, h2⟩
def qeD [Qe β] (a b : Dc κ β) : Bool := decide (a.l.length = b.l.length) && a.l.all fun kv => match getD b.l kv.1 with
  | some y => Qe.qe kv.2 y
  | none => false
theorem kv_mem {ws : List (Key × V)} {vs : List (Key × Value)} (h : KV ws vs) {k : Key} {v : Value} (hm : (k, v) ∈ vs) : ∃ x, (k, x) ∈ ws ∧ RelV x v := by
  unfold KV at h
  induction h with
  | nil => cases hm
  | @cons p q ws vs h t ih =>
    rcases List.mem_cons.mp hm with e | hm
    · obtain ⟨h1, h2⟩ := h
      obtain ⟨k', x⟩ := p
      subst e
      have h1 : k' = k := h1
      subst h1
      exact ⟨x, List.mem_cons_self, h2⟩
    · obtain ⟨x, h1, h2⟩ := ih hm
      exact ⟨x, List.mem_cons_of_mem _ h1, h2⟩
theorem rd_one {H : Hp} {p : Addr} {w1 w2 : List (Key × V)} (h1 : Rd H p (.dK w1)) (h2 : Rd H p (.dK w2)) : w1 = w2 := by
  rcases h1 with h1 | ⟨o1, h1⟩ <;> rcases h2 with h2 | ⟨o2, h2⟩
  · rw [h1] at h2; cases h2; rfl
  · rw [h1] at h2; cases h2
  · rw [h1] at h2; cases h2
  · rw [h1] at h2; cases h2; rfl
end
section
variable {κ β : Type} [Rp κ] [K1 κ] [DecidableEq κ] [Rp β] [Qe β] {X : Cx} {pins : List (Addr × Obj)} {σ : L2.St} {H Kn : Hp} {s : Shared}
theorem rfD (I : Inv X pins σ H s) (ek : Ex Kn H) {p : Addr} {ws : List (Key × V)} {a b : Dc κ β} (hp : Rd H p (.dK ws)) (h1 : DK X.K Kn ws a.l) (h2 : DK X.K Kn ws b.l) : qeD a b = true := by
  obtain ⟨_, _, vs, rv, dv⟩ := dk_rd I.hok hp
  have nd : (ws.map (·.1)).Nodup := by
    obtain ⟨_, _, _, _, _, _, _, _, nd⟩ := dv
    rw [KV.keys rv]
    exact nd
  unfold qeD
  rw [Bool.and_eq_true, decide_eq_true_eq, List.all_eq_true]
  refine ⟨by rw [← Paired.length h1, ← Paired.length h2], fun kv hkv => ?_⟩
  rw [← getK_key]
  have k1 := getK_mem (by rw [h1.keys]; exact nd) hkv
  rcases h2.getK (Ky.key kv.1) with ⟨_, n⟩ | ⟨y, v, e1, e2, r⟩
  · rcases h1.getK (Ky.key kv.1) with ⟨n1, _⟩ | ⟨y2, v2, _, e4, _⟩
    · rw [k1] at n1; cases n1
    · rw [n] at e4; cases e4
  · rw [e1]
    rcases h1.getK (Ky.key kv.1) with ⟨n1, _⟩ | ⟨y2, v2, e3, e4, r2⟩
    · rw [k1] at n1; cases n1
    · rw [e2] at e4
      cases e4
      rw [k1] at e3
      cases e3
      exact Qe.rf I ek r2 r
def eqK (al bl : List (κ × β)) (k : Key) : Bool := match getK al k, getK bl k with
  | some x, some y => Qe.qe x y
  | _, _ => true
theorem dict_go (I : Inv X pins σ H s) (ek : Ex Kn H) {p q : Addr} {w1 w2 : List (Key × V)} {a b : Dc κ β} (hp : Rd H p (.dK w1)) (hq : Rd H q (.dK w2)) (h1 : DK X.K Kn w1 a.l) (h2 : DK X.K Kn w2 b.l) :
    ∃ (ka kb : List (Key × Value)), (p == sysModules) = false ∧ (q == sysModules) = false ∧ s.heap.DictOf (mixKind X.prog X.w) p ka ∧ s.heap.DictOf (mixKind X.prog X.w) q kb ∧
      (∀ k v y, (k, v) ∈ ka → valueAt kb k = some y → EqTree X.prog X.w s (Qe.dq β) v y (eqK a.l b.l k)) ∧ (ka.length == kb.length && ka.all fun p => (valueAt kb p.1).isSome && eqK a.l b.l p.1) = qeD a b := by
  obtain ⟨_, s1, ka, r1, d1⟩ := dk_rd I.hok hp
  obtain ⟨_, s2, kb, r2, d2⟩ := dk_rd I.hok hq
  have nd : (w1.map (·.1)).Nodup := by
    obtain ⟨_, _, _, _, _, _, _, _, nd⟩ := id d1
    rw [KV.keys r1]
    exact nd
  have nda : (a.l.map fun kv => (Ky.key kv.1 : Key)).Nodup := by rw [h1.keys]; exact nd
  refine ⟨ka, kb, s1, s2, d1, d2, fun k v y hm hv => ?_, ?_⟩
  · obtain ⟨x, hx, rx⟩ := kv_mem r1 hm
    obtain ⟨kv, hkv, hk, rkv⟩ := h1.at hx
    have hk : k = Ky.key kv.1 := hk
    have g1 := getK_mem nda hkv
    rw [← hk] at g1
    have rr := r2.val k
    rw [hv] at rr
    rcases h2.getK k with ⟨_, n⟩ | ⟨z, zv, e1, e2, rz⟩
    · rw [n] at rr
      exact False.elim rr
    · rw [e2] at rr
      unfold eqK
      rw [g1, e1]
      exact Qe.is I ek rkv rz rx rr
  · unfold qeD
    have l1 : ka.length = a.l.length := by rw [← KV.length r1, Paired.length h1]
    have l2 : kb.length = b.l.length := by rw [← KV.length r2, Paired.length h2]
    rw [l1, l2]
    have e0 : (a.l.length == b.l.length) = decide (a.l.length = b.l.length) := by simp [BEq.beq, Nat.beq_eq]
    rw [e0]
    congr 1
    have em : (ka.all fun p => (valueAt kb p.1).isSome && eqK a.l b.l p.1) = (ka.map (·.1)).all fun k => (valueAt kb k).isSome && eqK a.l b.l k := by rw [List.all_map]; rfl
    rw [em, ← KV.keys r1, ← h1.keys, List.all_map]
    refine Bool.eq_iff_iff.mpr ?_
    rw [List.all_eq_true, List.all_eq_true]
    refine forall_congr' fun kv => forall_congr' fun hkv => ?_
    have g1 := getK_mem nda hkv
    have g2 := getK_key b.l kv.1
    have v2 : (valueAt kb (Ky.key kv.1 : Key)).isSome = (getD b.l kv.1).isSome := by
      have rr := r2.val (Ky.key kv.1)
      rw [← h2.some kv.1]
      cases e : valV w2 (Ky.key kv.1 : Key) <;> cases e2 : valueAt kb (Ky.key kv.1 : Key)
      · rfl
      · rw [e, e2] at rr; exact False.elim rr
      · rw [e, e2] at rr; exact False.elim rr
      · rfl
    show ((valueAt kb (Ky.key kv.1 : Key)).isSome && eqK a.l b.l (Ky.key kv.1)) = true ↔ _
    rw [v2]
    unfold eqK
    rw [g1, g2]
    cases getD b.l kv.1 <;> simp
theorem dict_tree (I : Inv X pins σ H s) (ek : Ex Kn H) {p q : Addr} {w1 w2 : List (Key × V)} {a b : Dc κ β} (hp : Rd H p (.dK w1)) (hq : Rd H q (.dK w2)) (h1 : DK X.K Kn w1 a.l) (h2 : DK X.K Kn w2 b.l) : EqTree X.prog X.w s (Qe.dq β + 1) (.ref p) (.ref q) (qeD a b) := by
  by_cases hpq : p = q
  · subst hpq
    have := rd_one hp hq
    subst this
    rw [rfD I ek hp h1 h2]
    exact .same
  · obtain ⟨ka, kb, s1, s2, d1, d2, t, e⟩ := dict_go I ek hp hq h1 h2
    rw [← e]
    exact .dicts hpq s1 s2 d1 d2 t
end
instance {κ β : Type} [Rp κ] [K1 κ] [DecidableEq κ] [Rp β] [Qe β] : Qe (Dc κ β) where
  dq := Qe.dq β + 1
  qe := qeD
  rf I _ _ _ _ ek h1 h2 := by
    obtain ⟨p, vs, rfl, a1, a2⟩ := h1
    obtain ⟨q, ws, e, b1, b2⟩ := h2
    cases e
    have := rd_one (rd_ex ek a1) (rd_ex ek b1)
    subst this
    exact rfD I ek (rd_ex ek a1) a2 b2
  is I _ _ _ _ _ ek h1 h2 _ _ r1 r2 := by
    obtain ⟨p, vs, rfl, a1, a2⟩ := h1
    obtain ⟨q, ws, rfl, b1, b2⟩ := h2
    cases r1
    cases r2
    exact dict_tree I ek (rd_ex ek a1) (rd_ex ek b1) a2 b2
/-! ### as operations -/
class Qt (α : Type) [Rp α] [Qe α] where
  eq : ∀ {K : Fg} {Kn H : Hp} {x y : V} {a b : α}, Qe.dq α ≤ 60 → Ex Kn H → rep K Kn x a → rep K Kn y b → TopB K H .Eq x y (Qe.qe a b)
  ne : ∀ {K : Fg} {Kn H : Hp} {x y : V} {a b : α}, Qe.dq α ≤ 60 → Ex Kn H → rep K Kn x a → rep K Kn y b → TopB K H .NotEq x y (!Qe.qe a b)
instance {α : Type} [Rp α] [Qe α] : Qt (List α) where
  eq {K Kn H x y a b} hd ek h1 h2 := by
    obtain ⟨p, vs, rfl, a1, a2⟩ := h1
    obtain ⟨q, ws, rfl, b1, b2⟩ := h2
    intro X pins σ s hK hu I v u r1 r2 E Q hQ
    subst hK
    cases r1
    cases r2
    have hd : Qe.dq α + 1 ≤ 60 := hd
    obtain ⟨us, c1, p1, _⟩ := I.list (sq_of (ek _ _ a1))
    obtain ⟨zs, c2, p2, _⟩ := I.list (sq_of (ek _ _ b1))
    have l1 := Paired.length a2
    have l2 := Paired.length b2
    have m1 := c1.length
    have m2 := c2.length
    by_cases hl : a.length = b.length
    · obtain ⟨_, e, he, hb⟩ := (eqAllL I ek hl a2 b2 c1 c2).go
      refine eq_listsT p1.isList p2.isList (by rw [List.size_toArray, List.size_toArray]; omega) he (by omega) ?_
      rw [List.size_toArray, hb]
      exact hQ
    · have hQ : Q (.bool (qeL a b)) s := hQ
      rw [qeL_len hl] at hQ
      exact SeqAt.RcAt.lists_lengths p1.isList p2.isList (by rw [List.size_toArray, List.size_toArray]; simp; omega) (by omega) _ _ _ _ hQ
  ne {K Kn H x y a b} hd ek h1 h2 := by
    obtain ⟨p, vs, rfl, a1, a2⟩ := h1
    obtain ⟨q, ws, rfl, b1, b2⟩ := h2
    intro X pins σ s hK hu I v u r1 r2 E Q hQ
    subst hK
    cases r1
    cases r2
    have hd : Qe.dq α + 1 ≤ 60 := hd
    obtain ⟨us, c1, p1, _⟩ := I.list (sq_of (ek _ _ a1))
    obtain ⟨zs, c2, p2, _⟩ := I.list (sq_of (ek _ _ b1))
    have l1 := Paired.length a2
    have l2 := Paired.length b2
    have m1 := c1.length
    have m2 := c2.length
    by_cases hl : a.length = b.length
    · obtain ⟨_, e, he, hb⟩ := (eqAllL I ek hl a2 b2 c1 c2).go
      refine SeqAt.wk_neG_lists p1.isList p2.isList (by rw [List.size_toArray, List.size_toArray]; omega) (by omega) (fun j j1 j2 => (he j j1 j2).at X.A.in1 (by show X.A.units + 1 + _ < cLine; omega)) _ _ ?_
      rw [List.size_toArray, hb]
      exact hQ
    · have hQ : Q (.bool (!qeL a b)) s := hQ
      rw [qeL_len hl] at hQ
      exact SeqAt.RcNeAt.lists_lengths p1.isList p2.isList (by rw [List.size_toArray, List.size_toArray]; simp; omega) (by omega) _ _ _ _ hQ
instance {α τ : Type} [Rp α] [Tp τ] [Qe α] [Qs τ] : Qt (α × τ) where
  eq {K Kn H x y a b} hd ek h1 h2 := by
    obtain ⟨p, vs, rfl, a1, a2⟩ := h1
    obtain ⟨q, ws, rfl, b1, b2⟩ := h2
    intro X pins σ s hK hu I v u r1 r2 E Q hQ
    subst hK
    cases r1
    cases r2
    have hd : Qs.dq (α × τ) + 1 ≤ 60 := hd
    obtain ⟨us, c1, p1, _⟩ := I.tuple (st_of (ek _ _ a1))
    obtain ⟨zs, c2, p2, _⟩ := I.tuple (st_of (ek _ _ b1))
    obtain ⟨hl, e, he, hb⟩ := (Qs.is I ek a2 b2 c1 c2).go
    refine eq_tuplesT p1 p2 he (by omega) ?_
    rw [List.size_toArray, List.size_toArray, ← hl, Nat.min_self, hb]
    have hQ : Q (.bool (Qs.qe a b)) s := hQ
    simpa using hQ
  ne {K Kn H x y a b} hd ek h1 h2 := by
    obtain ⟨p, vs, rfl, a1, a2⟩ := h1
    obtain ⟨q, ws, rfl, b1, b2⟩ := h2
    intro X pins σ s hK hu I v u r1 r2 E Q hQ
    subst hK
    cases r1
    cases r2
    have hd : Qs.dq (α × τ) + 1 ≤ 60 := hd
    obtain ⟨us, c1, p1, _⟩ := I.tuple (st_of (ek _ _ a1))
    obtain ⟨zs, c2, p2, _⟩ := I.tuple (st_of (ek _ _ b1))
    obtain ⟨hl, e, he, hb⟩ := (Qs.is I ek a2 b2 c1 c2).go
    refine SeqAt.wk_neG_tuples p1 p2 (by omega) (fun j j1 j2 => (he j j1 j2).at X.A.in1 (by show X.A.units + 1 + _ < cLine; omega)) _ _ ?_
    rw [List.size_toArray, List.size_toArray, ← hl, Nat.min_self, hb]
    have hQ : Q (.bool (!Qs.qe a b)) s := hQ
    simpa using hQ
instance {κ β : Type} [Rp κ] [K1 κ] [DecidableEq κ] [Rp β] [Qe β] : Qt (Dc κ β) where
  eq {K Kn H x y a b} hd ek h1 h2 := by
    obtain ⟨p, vs, rfl, a1, a2⟩ := h1
    obtain ⟨q, ws, rfl, b1, b2⟩ := h2
    intro X pins σ s hK hu I v u r1 r2 E Q hQ
    subst hK
    cases r1
    cases r2
    have hd : Qe.dq β + 1 ≤ 60 := hd
    obtain ⟨ka, kb, s1, s2, d1, d2, t, e⟩ := dict_go I ek (rd_ex ek a1) (rd_ex ek b1) a2 b2
    refine eq_dictsT s1 s2 d1 d2 t (by omega) ?_
    rw [e]
    exact hQ
  ne {K Kn H x y a b} hd ek h1 h2 := by
    obtain ⟨p, vs, rfl, a1, a2⟩ := h1
    obtain ⟨q, ws, rfl, b1, b2⟩ := h2
    intro X pins σ s hK hu I v u r1 r2 E Q hQ
    subst hK
    cases r1
    cases r2
    have hd : Qe.dq β + 1 ≤ 60 := hd
    obtain ⟨ka, kb, s1, s2, d1, d2, t, e⟩ := dict_go I ek (rd_ex ek a1) (rd_ex ek b1) a2 b2
    refine PySem.W.wk_neG_dicts s1 s2 d1 d2 (by omega) (fun _ => KeqHitsIn.of _ fun k v y hm hv => (t k v y hm hv).at X.A.in1 (by show X.A.units + 1 + _ < cLine; omega)) _ _ ?_
    rw [e]
    exact hQ
section
variable {K : Fg} {α : Type} [Rp α] [Qe α] [Qt α]
theorem r2_eqQ {a b : α} (hd : Qe.dq α ≤ 60 := by decide) : R2V K (rTop K .Eq) a b (Qe.qe a b) := fun Kn H v w ek h1 h2 Q q => ⟨_, Qt.eq hd ek h1 h2, q.fl (z := Qe.qe a b) ek⟩
theorem r2_neQ {a b : α} (hd : Qe.dq α ≤ 60 := by decide) : R2V K (rTop K .NotEq) a b (!Qe.qe a b) := fun Kn H v w ek h1 h2 Q q => ⟨_, Qt.ne hd ek h1 h2, q.fl (z := !Qe.qe a b) ek⟩
end
theorem k_top {X : Cx} {K : Fg} {op : CmpOp} (hu : X.A.units + 64 < cLine) (h : X.K = K := by rfl) : OpR X (compareOp op) (rTop K op) := h ▸ op_top hu
end Wk
/-! Wenum: enumerate over a tuple. -/
namespace L2
open PySem PySem.Spec PyProof.Rows
theorem meets_enum_new1 {v : Value} {o : Obj} {H : Heap → Prop} (B : Begins v o H) :
    Meets (Builtin.«enumerate.__new__» ⟨[.type "enumerate", v], []⟩) (fun _ R s => H s.heap ∧
      R (.ok (.ret (.ref (s.heap.push o).objs.size))) { s with heap := (s.heap.push o).push { cls := .type "enumerate", data := .fields #[.none, .bool false, .ref s.heap.objs.size, rawInt 0, .none, .none] } }) :=
  .of_wp fun prog w A R s h => by
    obtain ⟨hp, g, d, tk, os⟩ := s
    obtain ⟨h1, h⟩ := h
    have hsub := sub_enumerate
    have q1 : ∀ {A' : Around} {E : Value → Shared → Prop} {Q : Value → Shared → Prop}, Q (.ref hp.objs.size) ⟨hp.push o, g, d, tk, os⟩ → wpAny (model prog w) A' (pyIter v) Q E ⟨hp, g, d, tk, os⟩ :=
      fun q => B.iter prog w _ _ ⟨hp, g, d, tk, os⟩ _ h1 q
    wp_walk using q1
    refine wpAny_stack_any fun st => wpAny_pure ?_
    split
    · rename_i c _ _ _ _ _
      cases (c == Value.type "enumerate")
      · wp_walk using q1
        exact ⟨_, rfl, h⟩
      · wp_walk using q1
        exact ⟨_, rfl, h⟩
    · wp_walk using q1
      exact ⟨_, rfl, h⟩
section
variable {prog : Program} {w : World} {A : Around} {E : Value → Shared → Prop} {s : Shared}
theorem enum_begins1 {v : Value} {o : Obj} {H : Heap → Prop} {Q : Value → Shared → Prop} (B : Begins v o H) (h1 : H s.heap)
    (h : ∀ h', IsEnum h' (s.heap.objs.size + 1) s.heap.objs.size 0 .none → h'.get? s.heap.objs.size = some o → h'.objs.size = s.heap.objs.size + 2 →
      (∀ b o, s.heap.get? b = some o → h'.get? b = some o) → Q (.ref (s.heap.objs.size + 1)) { s with heap := h' }) :
    wpAny (model prog w) A (call (.type "enumerate") [v]) Q E s := by
  refine callType_new F.called_enumerate (by decide) (F.typeCall_enumerate_1 _) (F.newCall_enumerate_1 _) (fun obj => F.args_object_init_2 obj _) F.entry_enumerate_new
    (meets_enum_new1 B) ⟨h1, ?_⟩
  have hz : (s.heap.push o).objs.size = s.heap.objs.size + 1 := Heap.size_push ..
  show _ ∧ _
  rw [hz]
  have he : IsEnum ((s.heap.push o).push { cls := .type "enumerate", data := .fields #[.none, .bool false, .ref s.heap.objs.size, rawInt 0, .none, .none] }) (s.heap.objs.size + 1) s.heap.objs.size 0 .none := by
    have := Heap.get?_push_size (s.heap.push o) (o := { cls := .type "enumerate", data := .fields #[.none, .bool false, .ref s.heap.objs.size, rawInt 0, .none, .none] }) rfl
    rw [hz] at this
    exact this
  refine ⟨⟨_, he, rfl⟩, h _ he (Heap.get?_push_of_some _ (Heap.get?_push_size _ B.free)) (by rw [Heap.size_push, hz]) fun b o x => Heap.get?_push_of_some _ (Heap.get?_push_of_some _ x)⟩
end
section
variable {prog : Program} {w : World} {A : Around} {E : Value → Shared → Prop} {s : Shared}
theorem wpAny_pyNext_enum_endT {e it l : Addr} {i : Nat} {items : Array Value} {old : Value} {Q : Option Value → Shared → Prop} (hh : A.handled = none)
    (he : IsEnum s.heap e it i old) (hit : s.heap.IsTupleIter it l i) (hl : s.heap.IsTuple l items) (hx : items[i]? = none)
    (hQ : ∀ h', Heap.ExtBut it s.heap h' → Q none { s with heap := h' }) : wpAny (model prog w) A (pyNext (.ref e)) Q E s := by
  have hT : s.TypeIs (.ref e) "enumerate" := ⟨_, he, rfl⟩
  unfold pyNext
  refine wpAny_bind (wpAny_attempt (wpAny_callSpecial?_slot (name := Str.ofString "__next__") hT F.slot_enumerate_next
    (wpAny_call_entry F.slot_enumerate_next hT F.entry_enumerate_next ?_ (F.args_enumerate_next_1 _))))
  show wpAny _ _ (field (.ref e) 2 >>= _) _ _ _
  refine wpAny_bind (wpAny_field he rfl (x := .ref it) rfl ?_)
  refine wpAny_bind (wpAny_nextOf_tuple_end (by simp [hh]) hit hl hx fun h' x he' hx' => ?_)
  obtain ⟨o, ho, hc⟩ := hx'
  refine wpAny_bind (wpAny_isInstance (T := "StopIteration") (b := true) ⟨o, ho, hc⟩ isSubtype_stop ?_)
  exact wpAny_pure (hQ _ he')
end
/-- the tuple at a, each item in a new pair -/
def IteT (K : PySem.W.Frag) (a : Addr) : It :=
  ⟨fun i H => ∃ (xs : List V) (x : V), SqT K H a xs ∧ xs[i]? = some x, fun i H v H' => ∃ T x, v = .ref T ∧ H T = none ∧ H' = upd H T (.tup [.int (i : Nat), x]) ∧ ∀ xs, SqT K H a xs → xs[i]? = some x, fun i H => ∃ xs : List V, SqT K H a xs ∧ xs.length ≤ i⟩
theorem turn_enumT {P : Program} {w : World} {K : PySem.W.Frag} {elts : List Expr} {kk : Nat} {tpos : Pos} (a e it : Addr) :
    Turn P w K (.Tuple elts kk tpos) (IteT K a) [e, it] e (fun i h => (∃ old, IsEnum h e it ((i : Nat) : Int) old) ∧ h.IsTupleIter it a i ∧ e ≠ it ∧ a ≠ it ∧ e ≠ a) where
  mem := by simp
  obj := fun i h st b hb => by
    obtain ⟨⟨old, he⟩, ⟨o, ho, hc, hd⟩, _⟩ := st
    have e' : b = e ∨ b = it := by simpa using hb
    rcases e' with z | z
    · rw [z]; exact ⟨_, he, fun v q => nomatch q⟩
    · rw [z]; exact ⟨o, ho, fun v q => by rw [hd] at q; cases q⟩
  keep := fun i h h' st k => let ⟨⟨old, he⟩, hi, hne⟩ := st; ⟨⟨old, k e (by simp) _ he⟩, hi.at fun o q => k it (by simp) o q, hne⟩
  item := by
    intro X hP hw hK hc i pins s σ H E I hf st hg
    subst hP hw hK
    obtain ⟨⟨old, he⟩, hit, hne, hai, hea⟩ := st
    obtain ⟨xs, x, hq, hx⟩ := hg
    obtain ⟨its, rv, p, hz⟩ := I.tuple hq
    obtain ⟨u, hu, ru⟩ := rv.get hx
    have hel : e < s.heap.objs.size := Heap.lt_size he
    have hil : it < s.heap.objs.size := by obtain ⟨_, q, _⟩ := hit; exact Heap.lt_size q
    have hlt : i < its.toArray.size := by
      rw [List.size_toArray]
      exact (List.getElem?_eq_some_iff.mp hu).1
    have hh : X.A.in1.handled = none := by simp [I.ok.hd hc]
    refine wpAny_pyNext_enum_itemD (Draws.tuple hh it a hai its.toArray) he ⟨hit, p⟩ hlt hne (by simp [hne, hea]) fun y h' tk hy ho hst hT hsz hk => ?_
    have ey : y = u := by
      rw [show its.toArray[i]? = its[i]? by simp, hu] at hy
      exact (Option.some.inj hy).symm
    subst ey
    obtain ⟨hit', _⟩ := hst
    refine ⟨_, rfl, wpAny_letOwnedTupleGo_enum (s := { s with heap := h', toks := tk + 1 }) ho fun h'' he' sb => ?_⟩
    have hT2 : h''.get? s.heap.objs.size = some { cls := .type "tuple", data := .seq #[.int i tk, y] } := (sb.2 _ (Nat.ne_of_gt hel)).trans hT
    have new : ObjOk X.prog X.w (upd H s.heap.objs.size (.tup [.int (i : Nat), x])) h'' s.heap.objs.size (.tup [.int (i : Nat), x]) :=
      ⟨by show 2 ≤ sizeLine; decide, [.int i tk, y], .cons ⟨_, rfl⟩ (.cons ru .nil), ⟨_, hT2, rfl, _, rfl⟩⟩
    have I1 : Inv X pins σ (upd H s.heap.objs.size (.tup [.int (i : Nat), x])) { s with heap := h'', toks := tk + 1 } :=
      I.turnedNew (ch := [e, it]) (fun b ob hb q => (sb.2 b (fun z => hb (by simp [z]))).trans (hk b ob (fun z => hb (by simp [z])) (fun z => hb (by simp [z])) q)) hf (Nat.le_refl _) new
    refine ⟨.ref s.heap.objs.size, _, I1, rfl, ⟨_, x, rfl, I.hok.fresh (Nat.le_refl _), rfl, fun ys hy => by rw [I.tuple_inj hy hq]; exact hx⟩, ⟨⟨y, ?_⟩, hit'.at fun o q => (sb.2 it (Ne.symm hne)).trans q, hne, hai, hea⟩, fun b hb => ?_⟩
    · have e1 : ((i + 1 : Nat) : Int) = (i : Int) + 1 := by omega
      rw [e1]; exact he'
    · have hb' : b < s.heap.objs.size := by
        have e' : b = e ∨ b = it := by simpa using hb
        rcases e' with z | z
        · rw [z]; exact hel
        · rw [z]; exact hil
      rw [upd_ne (Nat.ne_of_lt hb')]
      exact (hf b hb).1
  done := by
    intro X hP hw hK hc i pins s σ H E I hf st hg
    subst hP hw hK
    obtain ⟨⟨old, he⟩, hit, hne, hai, hea⟩ := st
    obtain ⟨xs, hq, hx⟩ := hg
    obtain ⟨its, rv, p, hz⟩ := I.tuple hq
    obtain ⟨f0, f1, f2, f3, f4, f5⟩ := hf it (by simp)
    have hl := rv.length
    exact wpAny_pyNext_enum_endT (I.ok.hd hc) he hit p (by simp; omega) fun h' eb => ⟨rfl, I.turned (t' := s.toks) (fun b o hb q => eb b o hb q) f0 f1 f3 f4 f5⟩
  self := fun A i s Q E st h => let ⟨⟨_, he⟩, _⟩ := st; wpAny_pyIter_enum he h
def iEnumT (K : PySem.W.Frag) (ta : TA) : TI := fun σ H R => ta σ H fun vs H1 => ∃ a xs, vs = [.ref a] ∧ SqT K H1 a xs ∧ R (IteT K a) H1
theorem pi_enumT {X : Cx} {e : Expr} {ta : TA} {p pos tpos : Pos} {elts : List Expr} {kk : Nat} (hg : Gl X "enumerate") (hm : X.mg "enumerate" = none) (ha : PA X [e] ta) (hs : starEach [e] X.env = [(false, eval e X.env)] := by rfl) :
    PI X (.Tuple elts kk tpos) (.Call (.Name "enumerate" p) [e] [] pos) (iEnumT X.K ta) := by
  refine ⟨fun pins s σ H R I h => ?_⟩
  refine Call_ (ld_blt I hg hm boot_enumerate (PyProof.Rows.callWith_type1 (thn (ha.run pos pins s σ H _ I h) fun us s1 ⟨vs, H1, I1, r1, q1⟩ => ?_) hs rfl))
  obtain ⟨a, xs, ex, hq, q⟩ := q1
  subst ex
  cases r1 with
  | cons r rr =>
    cases rr
    cases r
    obtain ⟨its, rv, p', hz⟩ := I1.tuple hq
    refine enum_begins1 (begins_tuple a its.toArray) p' fun h' he hit hsz hk => wpAny_pyIter_enum he ?_
    have I2 : Inv X pins σ H1 { s1 with heap := h' } := I1.kept (t' := s1.toks) hk
    have hal : a < s1.heap.objs.size := by
      obtain ⟨o, ho, _⟩ := p'
      exact Heap.lt_size ho
    refine ⟨s1.heap.objs.size + 1, [s1.heap.objs.size + 1, s1.heap.objs.size], _, _, H1, rfl, I2, turn_enumT a (s1.heap.objs.size + 1) s1.heap.objs.size, ⟨⟨.none, he⟩, ⟨_, hit, rfl, rfl⟩, Nat.succ_ne_self _, Nat.ne_of_lt hal, Nat.ne_of_gt (Nat.lt_succ_of_lt hal)⟩, fun b hb => ?_, q⟩
    have e' : b = s1.heap.objs.size + 1 ∨ b = s1.heap.objs.size := by simpa using hb
    have hle : s1.heap.objs.size ≤ b := by
      rcases e' with z | z
      · rw [z]; exact Nat.le_add_right _ _
      · rw [z]; exact Nat.le_refl _
    exact I1.fpOk hle (I1.hok.fresh hle)
end L2
namespace Wk
open PySem PySem.Spec L2 Evl
section
variable {K : Fg} {F Kn0 : Hp} {sl sl' : List Sl} {ow ow1 : List Ow} {α β : Type} [Rp α] [Rp β] {te : TE} {ta : TA} {i j : Nat} {p : Addr}
theorem wk_enumT {Kn1 : Hp} {p : Addr} {ws : List V} {xs : List α} (h : SqT K Kn1 p ws) (r : Paired (rep K Kn1) ws xs) : WK K Kn1 (IteT K p) (enumI xs) := fun i Kn' H' e1 e2 => by
  have hq : SqT K H' p ws := ex_t (e1.trans e2) h
  refine ⟨fun y hy => ?_, fun hl => ⟨ws, hq, by rw [paired_len r]; simpa [enumI] using hl⟩⟩
  obtain ⟨x, hx, rfl⟩ := enum_get hy
  obtain ⟨v, hv, rv⟩ := paired_at r hx
  refine ⟨⟨ws, v, hq, hv⟩, fun u H2 hy => ?_⟩
  obtain ⟨T, z, rfl, hT, rfl, f⟩ := hy
  have : v = z := Option.some.inj (hv.symm.trans (f ws hq))
  subst this
  have g : Gr Kn' H' (upd Kn' T (.tup [.int (i : Nat), v])) (upd H' T (.tup [.int (i : Nat), v])) := Gr.new e2 hT
  exact ⟨_, g, T, _, rfl, upd_same, .int (i : Nat), [v], rfl, rfl, v, [], rfl, Rp.mono (e1.trans g.kk) rv, rfl⟩
theorem it_enumT {xs : Tu α} (h : EA K F Kn0 sl ow ta (xs, ())) : IT K F Kn0 sl ow (iEnumT K ta) (enumI xs.l) := fun σ Kn H s R q => h σ Kn H s _ fun vs Kn1 H1 g1 r1 => by
  obtain ⟨v, rfl, p, ws, rfl, h3, h4⟩ := one_arg r1
  exact ⟨p, ws, rfl, st_of (g1.kh _ _ h3), q _ Kn1 H1 g1 (wk_enumT (st_of h3) h4)⟩
/-- tuple(xs), xs one's own -/
theorem ev_tupleO {xs : List α} (hi : sl[i]? = some (.at p)) (hj : ow[j]? = some (ol p xs)) :
    EV K F Kn0 sl ow (tCB (fun xs H Q => ∃ p ys, xs = [.ref p] ∧ ((SqL K H p ys ∧ ∀ l, H l = none → Q (.ref l) (upd H l (.tup ys))) ∨ (SqT K H p ys ∧ Q (.ref p) H))) (tCons (tVar i) tNil)) (Tu.mk xs) := fun σ Kn H s Q q => by
  obtain ⟨o, h1, h2⟩ := s.sl.get hi
  obtain ⟨f1, f2, ws, f3, f4⟩ := s.ow.each _ (List.mem_of_getElem? hj)
  refine ⟨.ref p, by rw [h1]; exact congrArg some h2, p, ws, rfl, .inl ⟨sq_of f3, fun l hl => ?_⟩⟩
  have g : Gr Kn H (upd Kn l (.tup ws)) (upd H l (.tup ws)) := Gr.new s.ek hl
  exact q _ _ _ g ⟨l, ws, rfl, upd_same, paired_mono g.kk f4⟩
end
end Wk
set_option maxHeartbeats 4000000
/-! Wfloor: split and find of texts -/
namespace L2
open PySem PySem.Spec PyProof.Rows
/-- the text x, each sign in a new pair -/
def IteS (x : Str) : It :=
  ⟨fun i _ => i < x.cps.size, fun i H v H' => ∃ T c, v = .ref T ∧ H T = none ∧ H' = upd H T (.tup [.int (i : Nat), .str ⟨#[c]⟩]) ∧ x.cps[i]? = some c, fun i _ => x.cps.size ≤ i⟩
theorem turn_enumS {P : Program} {w : World} {K : PySem.W.Frag} {elts : List Expr} {kk : Nat} {tpos : Pos} (x : Str) (t : Tok) (e it : Addr) :
    Turn P w K (.Tuple elts kk tpos) (IteS x) [e, it] e (fun i h => (∃ old, IsEnum h e it ((i : Nat) : Int) old) ∧ h.IsStrIter it (strIterType x) x t i ∧ e ≠ it ∧ i ≤ x.cps.size) where
  mem := by simp
  obj := fun i h st b hb => by
    obtain ⟨⟨old, he⟩, ⟨o, ho, hc, hd⟩, _⟩ := st
    have e' : b = e ∨ b = it := by simpa using hb
    rcases e' with z | z
    · rw [z]; exact ⟨_, he, fun v q => nomatch q⟩
    · rw [z]; exact ⟨o, ho, fun v q => by rw [hd] at q; cases q⟩
  keep := fun i h h' st k => let ⟨⟨old, he⟩, ⟨o, ho, r⟩, hne⟩ := st; ⟨⟨old, k e (by simp) _ he⟩, ⟨o, k it (by simp) o ho, r⟩, hne⟩
  item := by
    intro X hP hw hK hc i pins s σ H E I hf st hg
    subst hP hw hK
    obtain ⟨⟨old, he⟩, hit, hne, hle⟩ := st
    have hlt : i < x.cps.size := hg
    have hel : e < s.heap.objs.size := Heap.lt_size he
    have hil : it < s.heap.objs.size := by obtain ⟨_, q, _⟩ := hit; exact Heap.lt_size q
    have hh : X.A.in1.handled = none := by simp [I.ok.hd hc]
    refine wpAny_pyNext_enum_itemD (Draws.text hh it x t) he hit hlt hne (by simp [hne]) fun y h' tk hy ho hst hT hsz hk => ?_
    obtain ⟨c, uu, hcx, rfl⟩ := hy
    refine ⟨_, rfl, wpAny_letOwnedTupleGo_enum (s := { s with heap := h', toks := tk + 1 }) ho fun h'' he' sb => ?_⟩
    have hT2 : h''.get? s.heap.objs.size = some { cls := .type "tuple", data := .seq #[.int i tk, .str ⟨#[c]⟩ uu] } := (sb.2 _ (Nat.ne_of_gt hel)).trans hT
    have new : ObjOk X.prog X.w (upd H s.heap.objs.size (.tup [.int (i : Nat), .str ⟨#[c]⟩])) h'' s.heap.objs.size (.tup [.int (i : Nat), .str ⟨#[c]⟩]) :=
      ⟨by show 2 ≤ sizeLine; decide, [.int i tk, .str ⟨#[c]⟩ uu], .cons ⟨_, rfl⟩ (.cons ⟨_, rfl⟩ .nil), ⟨_, hT2, rfl, _, rfl⟩⟩
    have I1 : Inv X pins σ (upd H s.heap.objs.size (.tup [.int (i : Nat), .str ⟨#[c]⟩])) { s with heap := h'', toks := tk + 1 } :=
      I.turnedNew (ch := [e, it]) (fun b ob hb q => (sb.2 b (fun z => hb (by simp [z]))).trans (hk b ob (fun z => hb (by simp [z])) (fun z => hb (by simp [z])) q)) hf (Nat.le_refl _) new
    refine ⟨.ref s.heap.objs.size, _, I1, rfl, ⟨_, c, rfl, I.hok.fresh (Nat.le_refl _), rfl, hcx⟩, ⟨⟨.str ⟨#[c]⟩ uu, ?_⟩, ?_, hne, hlt⟩, fun b hb => ?_⟩
    · have e1 : ((i + 1 : Nat) : Int) = (i : Int) + 1 := by omega
      rw [e1]; exact he'
    · obtain ⟨o, q, r⟩ := hst
      exact ⟨o, (sb.2 it (Ne.symm hne)).trans q, r⟩
    · have hb' : b < s.heap.objs.size := by
        have e' : b = e ∨ b = it := by simpa using hb
        rcases e' with z | z
        · rw [z]; exact hel
        · rw [z]; exact hil
      rw [upd_ne (Nat.ne_of_lt hb')]
      exact (hf b hb).1
  done := by
    intro X hP hw hK hc i pins s σ H E I hf st hg
    subst hP hw hK
    obtain ⟨⟨old, he⟩, hit, hne, hle⟩ := st
    have hge : x.cps.size ≤ i := hg
    have hi : i = x.cps.size := Nat.le_antisymm hle hge
    subst hi
    obtain ⟨f0, f1, f2, f3, f4, f5⟩ := hf it (by simp)
    have hh : X.A.in1.handled = none := by simp [I.ok.hd hc]
    exact wpAny_pyNext_enum_endD (Draws.text hh it x t) he hit fun h' eb => ⟨rfl, I.turned (t' := s.toks) (fun b o hb q => eb b o hb q) f0 f1 f3 f4 f5⟩
  self := fun A i s Q E st h => let ⟨⟨_, he⟩, _⟩ := st; wpAny_pyIter_enum he h
def iEnumS (ta : TA) : TI := fun σ H R => ta σ H fun vs H1 => ∃ x, vs = [.str x] ∧ R (IteS x) H1
theorem pi_enumS {X : Cx} {e : Expr} {ta : TA} {p pos tpos : Pos} {elts : List Expr} {kk : Nat} (hg : Gl X "enumerate") (hm : X.mg "enumerate" = none) (ha : PA X [e] ta) (hs : starEach [e] X.env = [(false, eval e X.env)] := by rfl) :
    PI X (.Tuple elts kk tpos) (.Call (.Name "enumerate" p) [e] [] pos) (iEnumS ta) := by
  refine ⟨fun pins s σ H R I h => ?_⟩
  refine Call_ (ld_blt I hg hm boot_enumerate (PyProof.Rows.callWith_type1 (thn (ha.run pos pins s σ H _ I h) fun us s1 ⟨vs, H1, I1, r1, q1⟩ => ?_) hs rfl))
  obtain ⟨x, ex, q⟩ := q1
  subst ex
  cases r1 with
  | cons r rr =>
    cases rr
    obtain ⟨t, rfl⟩ := r
    refine enum_begins1 (begins_text x t) trivial fun h' he hit hsz hk => wpAny_pyIter_enum he ?_
    have I2 : Inv X pins σ H1 { s1 with heap := h' } := I1.kept (t' := s1.toks) hk
    refine ⟨s1.heap.objs.size + 1, [s1.heap.objs.size + 1, s1.heap.objs.size], _, _, H1, rfl, I2, turn_enumS x t (s1.heap.objs.size + 1) s1.heap.objs.size, ⟨⟨.none, he⟩, ⟨_, hit, rfl, rfl⟩, Nat.succ_ne_self _, Nat.zero_le _⟩, fun b hb => ?_, q⟩
    have e' : b = s1.heap.objs.size + 1 ∨ b = s1.heap.objs.size := by simpa using hb
    have hle : s1.heap.objs.size ≤ b := by
      rcases e' with z | z
      · rw [z]; exact Nat.le_add_right _ _
      · rw [z]; exact Nat.le_refl _
    exact I1.fpOk hle (I1.hok.fresh hle)
end L2
namespace Wk
open PySem PySem.Spec L2 Evl
def splitO (z sep : Str) : Option (List Str) := if sep.length ≠ 0 ∧ z.length + 2 ≤ 1000000 then some (Txt.split z sep) else none
def rSplitS (K : Fg) : V → List V → Hp → VK → Prop := fun x xs H Q => ∃ a b, x = .str a ∧ xs = [.str b] ∧ (b.length == 0) = false ∧ a.length + 2 ≤ sizeLine ∧ rNewStrs (Txt.split a b) H Q
section
variable {K : Fg} {F Kn0 : Hp} {sl : List Sl} {ow : List Ow} {te tb : TE} {x y : Str}
theorem strs_paired {H : Hp} : ∀ ys : List Str, Paired (rep K H) (ys.map V.str) ys
  | [] => .nil
  | y :: ys => .cons rfl (strs_paired ys)
/-- x.split(y) -/
theorem en_split {zs : List Str} (h : EV K F Kn0 sl ow te x) (hn : EV K F Kn0 sl ow tb y) (e : splitO x y = some zs) : EN K F Kn0 sl ow (tBM K "str" (rSplitS K) te (tCons tb tNil)) zs := fun σ Kn H s Q q =>
  h σ Kn H s _ fun v Kn1 H1 g1 r1 => by
    cases r1
    refine ⟨rfl, hn σ Kn1 H1 (s.grow g1) _ fun w Kn2 H2 g2 r2 => ?_⟩
    cases r2
    unfold splitO at e
    split at e
    case isFalse => cases e
    rename_i hc
    cases e
    have g := g1.trans g2
    refine ⟨x, y, rfl, rfl, by simpa using hc.1, le_line hc.2, fun p hp => ?_⟩
    exact q p _ Kn2 _ (g.trans (Gr.newU g2.kh hp)) (fresh_back g.hh hp) (fresh_back g2.kh hp) upd_same (strs_paired _)
/-- x.find(y) -/
theorem ev_find (h : EV K F Kn0 sl ow te x) (hn : EV K F Kn0 sl ow tb y) : EV K F Kn0 sl ow (tBM K "str" (fun x xs H Q => ∃ a b, x = .str a ∧ xs = [.str b] ∧ Q (.int (Txt.find a b)) H) te (tCons tb tNil)) (Txt.find x y) := fun σ Kn H s Q q =>
  h σ Kn H s _ fun v Kn1 H1 g1 r1 => by
    cases r1
    refine ⟨rfl, hn σ Kn1 H1 (s.grow g1) _ fun w Kn2 H2 g2 r2 => ?_⟩
    cases r2
    exact ⟨x, y, rfl, rfl, q _ Kn2 H2 (g1.trans g2) rfl⟩
end
section
variable {K : Fg} {F Kn0 : Hp} {sl : List Sl} {ow : List Ow} {ta : TA}
theorem wk_enumS {Kn1 : Hp} {x : Str} : WK K Kn1 (IteS x) (enumI (sgn x)) := fun i Kn' H' e1 e2 => by
  have hz : (sgn x).length = x.cps.size := by
    unfold sgn
    rw [List.length_map, Array.length_toList]
  refine ⟨fun y hy => ?_, fun hl => by
    have : (enumI (sgn x)).length = x.cps.size := by rw [← hz]; simp [enumI]
    show x.cps.size ≤ i
    omega⟩
  obtain ⟨z, hx, rfl⟩ := enum_get hy
  have hx' := hx
  unfold sgn at hx'
  rw [List.getElem?_map, Array.getElem?_toList] at hx'
  obtain ⟨c, hc, rfl⟩ := Option.map_eq_some_iff.mp hx'
  refine ⟨(Array.getElem?_eq_some_iff.mp hc).1, fun u H2 hy => ?_⟩
  obtain ⟨T, c2, rfl, hT, rfl, f⟩ := hy
  have : c = c2 := Option.some.inj (hc.symm.trans f)
  subst this
  have g : Gr Kn' H' (upd Kn' T (.tup [.int (i : Nat), .str ⟨#[c]⟩])) (upd H' T (.tup [.int (i : Nat), .str ⟨#[c]⟩])) := Gr.new e2 hT
  exact ⟨_, g, T, _, rfl, upd_same, .int (i : Nat), [.str ⟨#[c]⟩], rfl, rfl, .str ⟨#[c]⟩, [], rfl, rfl, rfl⟩
/-- for k, c in enumerate(text) -/
theorem it_enumS {x : Str} (h : EA K F Kn0 sl ow ta (x, ())) : IT K F Kn0 sl ow (iEnumS ta) (enumI (sgn x)) := fun σ Kn H s R q => h σ Kn H s _ fun vs Kn1 H1 g1 r1 => by
  obtain ⟨v, rfl, r⟩ := one_arg r1
  cases r
  exact ⟨x, rfl, q _ Kn1 H1 g1 wk_enumS⟩
end
end Wk
/-! Wmin: min, max of a list of whole numbers. -/
namespace Wk
open PySem PySem.Spec L2 Evl
def minG : Int → List Int → Int
  | m, [] => m
  | m, x :: xs => minG (min m x) xs
def maxG : Int → List Int → Int
  | m, [] => m
  | m, x :: xs => maxG (max m x) xs
def minL : List Int → Option Int
  | [] => none
  | x :: xs => some (minG x xs)
def maxL : List Int → Option Int
  | [] => none
  | x :: xs => some (maxG x xs)
theorem minG_spec : ∀ (xs : List Int) (m : Int), (minG m xs = m ∨ minG m xs ∈ xs) ∧ minG m xs ≤ m ∧ ∀ x ∈ xs, minG m xs ≤ x
  | [], m => ⟨.inl rfl, Int.le_refl _, (fun _ h => nomatch h)⟩
  | y :: ys, m => by
    obtain ⟨h1, h2, h3⟩ := minG_spec ys (min m y)
    show (minG (min m y) ys = m ∨ minG (min m y) ys ∈ y :: ys) ∧ minG (min m y) ys ≤ m ∧ ∀ x ∈ y :: ys, minG (min m y) ys ≤ x
    refine ⟨?_, by omega, fun x hx => ?_⟩
    · rcases h1 with h1 | h1
      · by_cases e : m ≤ y
        · exact .inl (h1.trans (by omega))
        · exact .inr (by rw [h1, show min m y = y by omega]; exact List.mem_cons_self)
      · exact .inr (List.mem_cons_of_mem _ h1)
    · rcases List.mem_cons.mp hx with rfl | hx
      · omega
      · exact h3 x hx
theorem maxG_spec : ∀ (xs : List Int) (m : Int), (maxG m xs = m ∨ maxG m xs ∈ xs) ∧ m ≤ maxG m xs ∧ ∀ x ∈ xs, x ≤ maxG m xs
  | [], m => ⟨.inl rfl, Int.le_refl _, (fun _ h => nomatch h)⟩
  | y :: ys, m => by
    obtain ⟨h1, h2, h3⟩ := maxG_spec ys (max m y)
    show (maxG (max m y) ys = m ∨ maxG (max m y) ys ∈ y :: ys) ∧ m ≤ maxG (max m y) ys ∧ ∀ x ∈ y :: ys, x ≤ maxG (max m y) ys
    refine ⟨?_, by omega, fun x hx => ?_⟩
    · rcases h1 with h1 | h1
      · by_cases e : y ≤ m
        · exact .inl (h1.trans (by omega))
        · exact .inr (by rw [h1, show max m y = y by omega]; exact List.mem_cons_self)
      · exact .inr (List.mem_cons_of_mem _ h1)
    · rcases List.mem_cons.mp hx with rfl | hx
      · omega
      · exact h3 x hx
theorem minL_spec {xs : List Int} {m : Int} (h : minL xs = some m) : m ∈ xs ∧ ∀ x ∈ xs, m ≤ x := by
  match xs, h with
  | y :: ys, h =>
    cases h
    obtain ⟨h1, h2, h3⟩ := minG_spec ys y
    refine ⟨?_, fun x hx => ?_⟩
    · rcases h1 with h1 | h1
      · rw [h1]
        exact List.mem_cons_self
      · exact List.mem_cons_of_mem _ h1
    · rcases List.mem_cons.mp hx with rfl | hx
      · exact h2
      · exact h3 x hx
theorem maxL_spec {xs : List Int} {m : Int} (h : maxL xs = some m) : m ∈ xs ∧ ∀ x ∈ xs, x ≤ m := by
  match xs, h with
  | y :: ys, h =>
    cases h
    obtain ⟨h1, h2, h3⟩ := maxG_spec ys y
    refine ⟨?_, fun x hx => ?_⟩
    · rcases h1 with h1 | h1
      · rw [h1]
        exact List.mem_cons_self
      · exact List.mem_cons_of_mem _ h1
    · rcases List.mem_cons.mp hx with rfl | hx
      · exact h2
      · exact h3 x hx
theorem rc_minL {K : Fg} {xs : List Int} {m : Int} (hm : minL xs = some m) : RCV K (rMin K) (xs, ()) m := fun Kn H vs ek h Q q => by
  obtain ⟨v, rfl, p, ws, rfl, h1, h2⟩ := one_arg h
  have e := paired_fl h2
  subst e
  obtain ⟨s1, s2⟩ := minL_spec hm
  refine ⟨p, xs, rfl, sq_of (ek _ _ h1), List.length_pos_of_mem s1, fun k hk hle => ?_⟩
  have e : k = m := by
    have := s2 k hk
    have := hle m s1
    omega
  subst e
  exact q.fl ek
theorem rc_maxL {K : Fg} {xs : List Int} {m : Int} (hm : maxL xs = some m) : RCV K (rMax K) (xs, ()) m := fun Kn H vs ek h Q q => by
  obtain ⟨v, rfl, p, ws, rfl, h1, h2⟩ := one_arg h
  have e := paired_fl h2
  subst e
  obtain ⟨s1, s2⟩ := maxL_spec hm
  refine ⟨p, xs, rfl, sq_of (ek _ _ h1), List.length_pos_of_mem s1, fun k hk hle => ?_⟩
  have e : k = m := by
    have := s2 k hk
    have := hle m s1
    omega
  subst e
  exact q.fl ek
section
variable {X : Cx} {K : Fg}
theorem k_maxL (hc : X.calm = true := by rfl) (h : X.K = K := by rfl) : CallR X (.builtin "max") (rMax K) := h ▸ cr_max hc
theorem k_minL (hc : X.calm = true := by rfl) (h : X.K = K := by rfl) : CallR X (.builtin "min") (rMin K) := h ▸ cr_min hc
end
end Wk
/-! lists of one's own, lent where a tuple of plain values comes -/
namespace Wk
open PySem PySem.Spec L2 Evl
def del (Kn : Hp) (p : Addr) : Hp := fun a => if a = p then none else Kn a
theorem del_ne {Kn : Hp} {p a : Addr} (h : a ≠ p) : del Kn p a = Kn a := if_neg h
theorem del_same {Kn : Hp} {p : Addr} : del Kn p p = none := if_pos rfl
class Nl (α : Type) [Rp α] where
  out : ∀ {K : Fg} {Kn : Hp} {p : Addr} {ws : List V} {v : V} {x : α}, Kn p = some (.lst ws) → rep K Kn v x → rep K (del Kn p) v x
class NlT (τ : Type) [Tp τ] where
  out : ∀ {K : Fg} {Kn : Hp} {p : Addr} {ws vs : List V} {t : τ}, Kn p = some (.lst ws) → rept K Kn vs t → rept K (del Kn p) vs t
instance : Nl Int := ⟨fun _ h => h⟩
instance : Nl Bool := ⟨fun _ h => h⟩
instance : Nl Str := ⟨fun _ h => h⟩
instance : NlT Unit := ⟨fun _ h => h⟩
instance {α τ : Type} [Rp α] [Tp τ] [Nl α] [NlT τ] : NlT (α × τ) := ⟨fun e h => by
  obtain ⟨v, r, h1, h2, h3⟩ := h
  exact ⟨v, r, h1, Nl.out e h2, NlT.out e h3⟩⟩
instance {α τ : Type} [Rp α] [Tp τ] [NlT (α × τ)] : Nl (α × τ) := ⟨fun {K Kn p ws v x} e h => by
  obtain ⟨q, vs, h1, h2, h3⟩ := h
  have hne : q ≠ p := fun z => by
    rw [z, e] at h2
    cases h2
  exact ⟨q, vs, h1, (del_ne hne).trans h2, NlT.out (τ := α × τ) e h3⟩⟩
theorem ev_borT {K : Fg} {F Kn0 : Hp} {sl sl' : List Sl} {ow ow1 : List Ow} {α γ : Type} [Rp α] [Rp γ] {te : TE} {i j : Nat} {p : Addr} [Nl γ] {z : γ} {xs : List α} (hi : sl[i]? = some (.at p)) (hj : ow[j]? = some (ol p xs)) (hs : sl.set i (sv xs) = sl') (ho : ow.eraseIdx j = ow1) (h : EV K F Kn0 sl' ow1 te z) : EV K F Kn0 sl ow te z := fun σ Kn H s Q q => by
  obtain ⟨ws, kp, hp, s1⟩ := s.borrow hi hj
  subst hs
  subst ho
  refine h σ _ H s1 Q fun v Kn' H' g r => q v (del Kn' p) H' ⟨fun a u h => ?_, g.hh, fun a u h => ?_, fun a h1 h2 => ?_⟩ (Nl.out (g.kk _ _ upd_same) r)
  · have hne : a ≠ p := fun z => by
      rw [z, kp] at h
      cases h
    rw [del_ne hne]
    exact g.kk _ _ (by rw [upd_ne hne]; exact h)
  · by_cases e : a = p
    · subst e
      rw [del_same] at h
      cases h
    · rw [del_ne e] at h
      exact g.kh _ _ h
  · by_cases e : a = p
    · rw [e]
      exact del_same
    · rw [del_ne e]
      exact g.sp a h1 (by rw [upd_ne e]; exact h2)
end Wk
set_option maxHeartbeats 4000000
/-! Wgrid: a list of one's own whose items are lists of one's own -/
namespace Wk
open PySem PySem.Spec L2 Evl
structure Adr where
  a : Addr
instance : Rp Adr := { rep := fun _ _ v x => v = .ref x.a, swap := fun _ h => h }
instance : Fl Adr := { toV := fun x => .ref x.a, iff := Iff.rfl }
def rowsO {α : Type} [Rp α] (ps : Nat → Addr) : Nat → List (List α) → List Ow
  | _, [] => []
  | k, xs :: r => ol (ps k) xs :: rowsO ps (k + 1) r
def ptsO (ps : Nat → Addr) (n : Nat) : List Adr := (List.range n).map fun k => Adr.mk (ps k)
def gridO {α : Type} [Rp α] (p : Addr) (ps : Nat → Addr) (xss : List (List α)) : List Ow := ol p (ptsO ps xss.length) :: rowsO ps 0 xss
/-- rows[i][j] = x -/
def setG {α : Type} (xss : List (List α)) (i j : Int) (x : α) : Option (List (List α)) := (ixN xss.length i).bind fun k => (xss[k]?).bind fun r => (setI r j x).map fun r' => xss.set k r'
section
variable {K : Fg} {F Kn0 : Hp} {sl sl' : List Sl} {ow ow1 base : List Ow} {α β γ : Type} [Rp α] [Rp β] [Rp γ] {D : Ends} {t : TS} {te tb tb1 tb2 : TE} {tt : TT} {b : Bool} {x : α} {i : Nat} {p : Addr} {ps : Nat → Addr} {xss : List (List α)} {σ : L2.St} {Kn H : Hp}
theorem rows_at : ∀ {xss : List (List α)} {k j : Nat} {xs : List α}, xss[j]? = some xs → (rowsO ps k xss)[j]? = some (ol (ps (k + j)) xs)
  | [], _, _, _, h => by simp at h
  | y :: r, k, 0, xs, h => by
    cases h
    rfl
  | y :: r, k, j + 1, xs, h => by
    have h : r[j]? = some xs := h
    show (rowsO ps (k + 1) r)[j]? = _
    rw [rows_at (k := k + 1) h, show k + 1 + j = k + (j + 1) by omega]
theorem rows_set : ∀ {xss : List (List α)} {k j : Nat} {xs : List α}, (rowsO ps k xss).set j (ol (ps (k + j)) xs) = rowsO ps k (xss.set j xs)
  | [], _, _, _ => rfl
  | y :: r, k, 0, xs => rfl
  | y :: r, k, j + 1, xs => by
    show ol (ps k) y :: (rowsO ps (k + 1) r).set j (ol (ps (k + (j + 1))) xs) = ol (ps k) y :: rowsO ps (k + 1) (r.set j xs)
    rw [show k + (j + 1) = k + 1 + j by omega, rows_set]
theorem rows_app : ∀ {xss : List (List α)} {k : Nat} {xs : List α}, rowsO ps k (xss ++ [xs]) = rowsO ps k xss ++ [ol (ps (k + xss.length)) xs]
  | [], k, xs => rfl
  | y :: r, k, xs => by
    show ol (ps k) y :: rowsO ps (k + 1) (r ++ [xs]) = ol (ps k) y :: (rowsO ps (k + 1) r ++ [ol (ps (k + (r.length + 1))) xs])
    rw [rows_app, show k + (r.length + 1) = k + 1 + r.length by omega]
theorem rows_congr {ps qs : Nat → Addr} : ∀ {xss : List (List α)} {k : Nat}, (∀ j, k ≤ j → j < k + xss.length → ps j = qs j) → rowsO ps k xss = rowsO qs k xss
  | [], _, _ => rfl
  | y :: r, k, h => by
    show ol (ps k) y :: rowsO ps (k + 1) r = ol (qs k) y :: rowsO qs (k + 1) r
    rw [h k (Nat.le_refl _) (by rw [List.length_cons]; omega), rows_congr fun j h1 h2 => h j (by omega) (by rw [List.length_cons]; omega)]
theorem pts_at {n j : Nat} (h : j < n) : (ptsO ps n)[j]? = some (Adr.mk (ps j)) := by
  unfold ptsO
  rw [List.getElem?_map, List.getElem?_range h]
  rfl
theorem pts_len {n : Nat} : (ptsO ps n).length = n := by
  unfold ptsO
  rw [List.length_map, List.length_range]
/-- one of one's own is known from now on -/
theorem S.knowAt {xs : List α} {j : Nat} (s : S K F Kn0 sl ow σ Kn H) (hj : ow[j]? = some (ol p xs)) : ∃ ws, Kn p = none ∧ H p = some (.lst ws) ∧ Paired (rep K Kn) ws xs ∧ S K F Kn0 sl (ow.eraseIdx j) σ (upd Kn p (.lst ws)) H := by
  obtain ⟨f1, f2, ws, f3, f4⟩ := s.ow.each _ (List.mem_of_getElem? hj)
  have s1 := s.sub (List.eraseIdx_sublist ow j)
  have no : ∀ o ∈ ow.eraseIdx j, o.ad ≠ p := fun o hm z => by
    obtain ⟨m, hm'⟩ := List.getElem?_of_mem hm
    rw [List.getElem?_eraseIdx] at hm'
    split at hm'
    · have := ow_at s.ow.nd hm' hj z
      omega
    · have := ow_at s.ow.nd hm' hj z
      omega
  exact ⟨ws, f2, f3, f4, s1.know (o := .lst ws) f1 f2 no f3⟩
theorem erase_mid (o : Ow) : ∀ (base r : List Ow), (base ++ o :: r).eraseIdx base.length = base ++ r
  | [], _ => rfl
  | a :: base, r => by
    show a :: (base ++ o :: r).eraseIdx base.length = a :: (base ++ r)
    rw [erase_mid o base r]
theorem at_mid (o : Ow) : ∀ (base r : List Ow), (base ++ o :: r)[base.length]? = some o
  | [], _ => rfl
  | a :: base, r => at_mid o base r
theorem S.knowRows : ∀ {xss : List (List α)} {k : Nat} {Kn : Hp}, S K F Kn0 sl (base ++ rowsO ps k xss) σ Kn H → ∃ Kn', Ex Kn Kn' ∧ S K F Kn0 sl base σ Kn' H ∧ (∀ j xs, xss[j]? = some xs → rep K Kn' (.ref (ps (k + j))) xs) ∧ ∀ q, Kn q = none → (∀ j, j < xss.length → ps (k + j) ≠ q) → Kn' q = none
  | [], k, Kn, s => ⟨Kn, Ex.refl _, by
    have e : base ++ rowsO ps k ([] : List (List α)) = base := List.append_nil _
    rw [← e]
    exact s, (fun j xs h => by simp at h), fun q h _ => h⟩
  | y :: r, k, Kn, s => by
    have hj : (base ++ rowsO ps k (y :: r))[base.length]? = some (ol (ps k) y) := at_mid _ _ _
    obtain ⟨ws, h1, h2, h3, s1⟩ := s.knowAt hj
    have e : (base ++ rowsO ps k (y :: r)).eraseIdx base.length = base ++ rowsO ps (k + 1) r := erase_mid _ _ _
    rw [e] at s1
    obtain ⟨Kn', e1, s2, e2, e3⟩ := S.knowRows (k := k + 1) s1
    have ex := (Ex.new (o := HO.lst ws) h1)
    refine ⟨Kn', ex.trans e1, s2, fun j xs h => ?_, fun q h hn => ?_⟩
    · cases j with
      | zero =>
        cases h
        exact ⟨ps k, ws, rfl, e1 _ _ upd_same, paired_mono (ex.trans e1) h3⟩
      | succ j =>
        have := e2 j xs h
        rw [show k + 1 + j = k + (j + 1) by omega] at this
        exact this
    · have hk : q ≠ ps k := fun z => hn 0 (by rw [List.length_cons]; omega) z.symm
      refine e3 q ?_ fun j hj => ?_
      · rw [upd_ne hk]
        exact h
      · have := hn (j + 1) (by rw [List.length_cons]; omega)
        rw [show k + (j + 1) = k + 1 + j by omega] at this
        exact this
/-- the grid is known from now on -/
theorem S.knowGrid (s : S K F Kn0 sl (base ++ gridO p ps xss) σ Kn H) (hi : sl[i]? = some (.at p)) : ∃ Kn', Ex Kn Kn' ∧ S K F Kn0 (sl.set i (sv xss)) base σ Kn' H := by
  obtain ⟨o, h1, h2⟩ := s.sl.get hi
  have h2 : o = some (.ref p) := h2
  have e0 : base ++ gridO p ps xss = (base ++ [ol p (ptsO ps xss.length)]) ++ rowsO ps 0 xss := by
    rw [List.append_assoc]
    rfl
  rw [e0] at s
  obtain ⟨Kn1, e1, s1, e2, e3⟩ := S.knowRows s
  have hj : (base ++ [ol p (ptsO ps xss.length)])[base.length]? = some (ol p (ptsO ps xss.length)) := at_mid _ _ _
  obtain ⟨ws, k1, k2, k3, s2⟩ := s1.knowAt hj
  have e : (base ++ [ol p (ptsO ps xss.length)]).eraseIdx base.length = base := by
    rw [erase_mid, List.append_nil]
  rw [e] at s2
  have ex := (Ex.new (o := HO.lst ws) k1)
  have hr : rep K (upd Kn1 p (.lst ws)) (.ref p) xss := by
    refine ⟨p, ws, rfl, upd_same, ?_⟩
    have hl := paired_len k3
    rw [pts_len] at hl
    have key : ∀ (n : Nat) (vs : List V) (yss : List (List α)), (∀ j v, vs[j]? = some v → v = V.ref (ps (n + j))) → (∀ j xs, yss[j]? = some xs → rep K Kn1 (.ref (ps (n + j))) xs) → vs.length = yss.length → Paired (rep K (upd Kn1 p (.lst ws))) vs yss := by
      intro n vs
      induction vs generalizing n with
      | nil =>
        intro yss _ _ hl
        cases yss with
        | nil => exact .nil
        | cons y r => cases hl
      | cons v vs ih =>
        intro yss hv hy hl
        cases yss with
        | nil => cases hl
        | cons y r =>
          have q1 := hv 0 v rfl
          have q2 := hy 0 y rfl
          refine .cons ?_ (ih (n + 1) r (fun j u h => ?_) (fun j xs h => ?_) (Nat.succ.inj hl))
          · rw [q1]
            exact Rp.mono ex q2
          · rw [show n + 1 + j = n + (j + 1) by omega]
            exact hv (j + 1) u h
          · rw [show n + 1 + j = n + (j + 1) by omega]
            exact hy (j + 1) xs h
    refine key 0 ws xss (fun j v h => ?_) (fun j xs h => e2 j xs h) hl
    have hjl : j < xss.length := by
      have := (List.getElem?_eq_some_iff.mp h).1
      omega
    obtain ⟨v', q1, q2⟩ := paired_at k3 (pts_at (ps := ps) hjl)
    rw [h] at q1
    cases q1
    rw [Nat.zero_add]
    exact q2
  have hσ : σ.set i o = σ := by
    refine List.ext_getElem? fun m => ?_
    by_cases e : i = m
    · subst e
      rw [List.getElem?_set_self (List.getElem?_eq_some_iff.mp h1).1, h1]
    · rw [List.getElem?_set_ne e]
  have s3 := s2.set (x := sv xss) (o := o) i ⟨.ref p, h2, hr⟩
  rw [hσ] at s3
  exact ⟨_, e1.trans ex, s3⟩
theorem sb_frzQ (hi : sl[i]? = some (.at p)) (ho : ow = base ++ gridO p ps xss) (hs : sl.set i (sv xss) = sl') (k : SB K F Kn0 sl' base D t) : SB K F Kn0 sl ow D t := fun σ Kn H s => by
  subst ho hs
  obtain ⟨Kn', _, s'⟩ := s.knowGrid hi
  exact k σ Kn' H s'
theorem ev_borQ [Fl γ] {z : γ} (hi : sl[i]? = some (.at p)) (ho : ow = base ++ gridO p ps xss) (hs : sl.set i (sv xss) = sl') (h : EV K F Kn0 sl' base te z) : EV K F Kn0 sl ow te z := fun σ Kn H s Q q => by
  subst ho hs
  obtain ⟨Kn1, _, s1⟩ := s.knowGrid hi
  exact h σ _ H s1 Q fun v Kn' H' g r => q v Kn H' ⟨Ex.refl _, g.hh, s.ek.trans g.hh, fun _ _ h => h⟩ (Fl.iff.mpr (Fl.iff.mp r))
theorem et_borQ (hi : sl[i]? = some (.at p)) (ho : ow = base ++ gridO p ps xss) (hs : sl.set i (sv xss) = sl') (h : ET K F Kn0 sl' base tt b) : ET K F Kn0 sl ow tt b := fun σ Kn H s Q q => by
  subst ho hs
  obtain ⟨Kn1, _, s1⟩ := s.knowGrid hi
  exact h σ _ H s1 Q fun Kn' H' g => q Kn H' ⟨Ex.refl _, g.hh, s.ek.trans g.hh, fun _ _ h => h⟩
theorem grid_at {j : Nat} {xs : List α} (h : xss[j]? = some xs) : (base ++ gridO p ps xss)[base.length + 1 + j]? = some (ol (ps j) xs) := by
  rw [List.getElem?_append_right (by omega), show base.length + 1 + j - base.length = j + 1 by omega]
  show (rowsO ps 0 xss)[j]? = _
  rw [rows_at h, Nat.zero_add]
theorem grid_set {j : Nat} {xs : List α} (hl : j < xss.length) : (base ++ gridO p ps xss).set (base.length + 1 + j) (ol (ps j) xs) = base ++ gridO p ps (xss.set j xs) := by
  rw [List.set_append_right _ _ (by omega), show base.length + 1 + j - base.length = j + 1 by omega]
  show base ++ (ol p (ptsO ps xss.length) :: (rowsO ps 0 xss).set j (ol (ps j) xs)) = base ++ (ol p (ptsO ps (xss.set j xs).length) :: rowsO ps 0 (xss.set j xs))
  have := rows_set (ps := ps) (xss := xss) (k := 0) (j := j) (xs := xs)
  rw [Nat.zero_add] at this
  rw [this, List.length_set]
/-- rows[i][j] = e -/
theorem sb_setQ {n m : Int} {xss' : List (List α)} (hi : sl[i]? = some (.at p)) (ho : ow = base ++ gridO p ps xss) (h : EV K F Kn0 sl ow te x) (hn : EV K F Kn0 sl ow tb1 n) (hm : EV K F Kn0 sl ow tb2 m) (hx : setG xss n m x = some xss') (k : SN K F Kn0 sl (base ++ gridO p ps xss') D) :
    SB K F Kn0 sl ow D (tAsg te (gSub (tOp (rIxL K) (tVar i) tb1) tb2 rSetL)) := fun σ Kn H s => h σ Kn H s _ fun v Kn1 H1 g1 r1 => by
  subst ho
  obtain ⟨o, h1, h2⟩ := s.sl.get hi
  refine ⟨.ref p, by rw [h1]; exact congrArg some h2, hn σ Kn1 H1 (s.grow g1) _ fun w Kn2 H2 g2 r2 => ?_⟩
  have s2 := (s.grow g1).grow g2
  unfold setG at hx
  obtain ⟨j, hj, hx⟩ := bind_some hx
  obtain ⟨r, hr, hx⟩ := bind_some hx
  obtain ⟨r', hr', hx⟩ := Option.map_eq_some_iff.mp hx
  subst hx
  have hjl : j < xss.length := (List.getElem?_eq_some_iff.mp hr).1
  obtain ⟨f1, f2, ws, f3, f4⟩ := s2.ow.each (ol p (ptsO ps xss.length)) (List.mem_of_getElem? (at_mid _ _ _))
  have f3 : H2 p = some (.lst ws) := f3
  have f4 : Paired (rep K Kn2) ws (ptsO ps xss.length) := f4
  obtain ⟨u, q1, q2⟩ := paired_at f4 (pts_at (ps := ps) hjl)
  have q2 : u = .ref (ps j) := q2
  cases r2
  refine ⟨p, ws, n, u, rfl, rfl, sq_of f3, ?_, hm σ Kn2 H2 s2 _ fun y Kn3 H3 g3 r3 => ?_⟩
  · unfold atI
    rw [paired_len f4, pts_len, hj]
    exact q1
  · have s3 := s2.grow g3
    obtain ⟨d1, d2, us, d3, d4⟩ := s3.ow.each _ (List.mem_of_getElem? (grid_at (base := base) (p := p) (ps := ps) hr))
    have d3 : H3 (ps j) = some (.lst us) := d3
    unfold setI at hr'
    obtain ⟨l, hl, rfl⟩ := Option.map_eq_some_iff.mp hr'
    cases r3
    refine ⟨ps j, us, m, l, q2, rfl, d3, by rw [paired_len d4]; exact hl, k _ Kn3 _ ?_⟩
    have := s3.write (grid_at (base := base) (p := p) (ps := ps) hr) (Ex.refl _) (upd_in g3.kh d2) (fun q hq _ => upd_ne hq) (fun _ _ h => h) upd_same (paired_set (Rp.mono (g2.kk.trans g3.kk) r1) l d4)
    rw [grid_set hjl] at this
    exact this
theorem EN.is {xs : List α} (h1 : sl = sl') (h : EN K F Kn0 sl' ow te xs) : EN K F Kn0 sl ow te xs := by subst h1; exact h
theorem S.perm (s : S K F Kn0 sl ow σ Kn H) (h : ow.Perm ow1) : S K F Kn0 sl ow1 σ Kn H := ⟨s.e0, s.ek, s.ef, s.sep, s.sl, ⟨fun o ho => s.ow.each o (h.mem_iff.mpr ho), (h.map _).nodup_iff.mp s.ow.nd⟩⟩
/-- a new grid -/
structure NewG (K : Fg) (H Kn' H' : Hp) (p : Addr) (ps : Nat → Addr) (xss : List (List α)) : Prop where
  each : ∀ o ∈ gridO p ps xss, H o.ad = none ∧ Kn' o.ad = none ∧ o.ok K Kn' H'
  nd : ((gridO p ps xss).map Ow.ad).Nodup
theorem S.ownGr {Kn' H' : Hp} (s : S K F Kn0 sl ow σ Kn H) (g : Gr Kn H Kn' H') (n : NewG K H Kn' H' p ps xss) : S K F Kn0 sl (ow ++ gridO p ps xss) σ Kn' H' := by
  have s' := s.grow g
  refine ⟨s'.e0, s'.ek, s'.ef, s'.sep, s'.sl, ⟨fun o ho => ?_, ?_⟩⟩
  · rcases List.mem_append.mp ho with ho | ho
    · exact s'.ow.each o ho
    · obtain ⟨h1, h2, h3⟩ := n.each o ho
      exact ⟨fresh_back s.ef h1, h2, h3⟩
  · rw [List.map_append]
    refine List.nodup_append.mpr ⟨s.ow.nd, n.nd, fun a ha b hb e => ?_⟩
    obtain ⟨o, ho, rfl⟩ := List.mem_map.mp ha
    obtain ⟨u, hu, rfl⟩ := List.mem_map.mp hb
    exact owned_ne s (n.each u hu).1 o ho e
def EQ2 (K : Fg) (F Kn0 : Hp) (sl : List Sl) (ow : List Ow) (te : TE) (xss : List (List α)) : Prop := ∀ σ Kn H, S K F Kn0 sl ow σ Kn H → ∀ Q : VK, (∀ p ps Kn' H', Gr Kn H Kn' H' → NewG K H Kn' H' p ps xss → Q (.ref p) H') → te σ H Q
theorem EQ2.cast {xss yss : List (List α)} (h : EQ2 K F Kn0 sl ow te xss) (e : xss = yss) : EQ2 K F Kn0 sl ow te yss := e ▸ h
theorem sb_asgQ2 {sl' : Addr → List Sl} (hs : ∀ p, sl.set i (.at p) = sl' p) (h : EQ2 K F Kn0 sl ow te xss) (k : ∀ p ps, SN K F Kn0 (sl' p) (ow ++ gridO p ps xss) D) : SB K F Kn0 sl ow D (tAsg te (gName i)) := fun σ Kn H s =>
  h σ Kn H s _ fun p ps Kn1 H1 g1 n1 => k p ps _ Kn1 H1 (hs p ▸ (s.ownGr g1 n1).seta i)
theorem eq_lcQ {wi : TI} {g : TG} {vs js : List Nat} {xs : List β} {zs : List (List γ)} {c : β → Option Bool} {f : β → Option (List γ)} (gx : β → List Sl) (hm : lcM c f xs = some zs) (hi : IT K F Kn0 sl ow wi xs) (hv : ∀ j ∈ vs, sl[j]? = some .any) (hg : ∀ x, GT K g sl (gx x) js x) (hj : ∀ j ∈ js, j ∈ vs)
    (ht : ∀ ex x b, c x = some b → ET K F Kn0 (gx x) (ow ++ ex) tt b) (he : ∀ ex x z, c x = some true → f x = some z → EN K F Kn0 (gx x) (ow ++ ex) te z) :
    EQ2 K F Kn0 sl ow (tLc wi g tt te vs) zs := fun σ Kn H s Q q => by
  unfold lcM at hm
  split at hm
  case isFalse => cases hm
  rename_i hlen
  refine hi σ Kn H s _ fun J Kn1 H1 g1 w D hD => ?_
  have s1 := s.grow g1
  have kD : Kn1 D = none := fresh_back s1.ek hD
  have fD : F D = none := fresh_back s1.ef hD
  refine ⟨fun i m H' => i + m = xs.length ∧ ∃ Kn' ps acc rest, (Gr Kn1 H1 Kn' H' ∧ ∀ o ∈ gridO D ps acc, H1 o.ad = none) ∧ S K F Kn0 sl (ow ++ gridO D ps acc) σ Kn' H' ∧ acc.length ≤ i ∧ lcGo c f (xs.drop i) = some rest ∧ acc ++ rest = zs,
    ⟨xs.length, by omega, Kn1, fun _ => D, [], zs, ⟨Gr.newU s1.ek hD, fun o ho => by
      cases List.mem_singleton.mp ho
      exact hD⟩, ?_, Nat.le_refl _, hm, rfl⟩, fun i m H' hW => ?_⟩
  · have s2 := (s1.grow (Gr.newU (o := .lst []) s1.ek hD)).own (α := Adr) (xs := []) fD kD (owned_ne s1 hD) upd_same .nil
    exact s2.perm (List.perm_append_singleton _ _).symm
  obtain ⟨em, Kn', ps, acc, rest, ⟨gr, fr⟩, s', hal, hrest, hz⟩ := hW
  have ek := gr.kk
  by_cases hlt : i < xs.length
  · have hx : xs[i]? = some xs[i] := List.getElem?_eq_getElem hlt
    have hd : xs.drop i = xs[i] :: xs.drop (i + 1) := List.drop_eq_getElem_cons hlt
    rw [hd] at hrest
    obtain ⟨b, hb, hrest⟩ := bind_some hrest
    obtain ⟨go, yl⟩ := (w i Kn' H' ek s'.ek).1 _ hx
    refine .inr ⟨go, fun H'' => ∃ Kn' ps acc rest, (Gr Kn1 H1 Kn' H'' ∧ ∀ o ∈ gridO D ps acc, H1 o.ad = none) ∧ S K F Kn0 sl (ow ++ gridO D ps acc) σ Kn' H'' ∧ acc.length ≤ i + 1 ∧ lcGo c f (xs.drop (i + 1)) = some rest ∧ acc ++ rest = zs, fun H'' h => ⟨m - 1, by omega, by omega, h⟩, fun v H2 hy => ?_⟩
    obtain ⟨Kn2, g2, rv⟩ := yl v H2 hy
    have s2 := (s'.grow g2).wipe hv
    refine hg _ _ Kn2 H2 v s2.sl s2.ek rv _ fun σ3 h3 hw3 => ?_
    have s3 := s2.slots h3
    refine ⟨(hw3 vs hj).trans ?_, ht _ _ b hb σ3 Kn2 H2 s3 _ fun Kn3 H3 g3 => ?_⟩
    · have ww : ∀ (vs us : List Nat) (σ : L2.St), (∀ j ∈ vs, j ∈ us) → L2.wipe (L2.wipe σ vs) us = L2.wipe σ us := by
        intro vs
        induction vs with
        | nil => intro us σ _; rfl
        | cons a r ih =>
          intro us σ hh
          show L2.wipe ((L2.wipe σ r).set a none) us = L2.wipe σ us
          rw [wipe_set (hh a List.mem_cons_self)]
          exact ih us σ fun j hj => hh j (List.mem_cons_of_mem _ hj)
      exact ww vs vs σ fun _ h => h
    · cases b with
      | true =>
        obtain ⟨z, hfz, hrest⟩ := bind_some (show (f xs[i]).bind _ = some rest from hrest)
        obtain ⟨zs', hzs, hrest⟩ := bind_some hrest
        cases hrest
        refine iteT (he _ _ z hb hfz σ3 Kn3 H3 (s3.grow g3) _ fun a ws Kn4 H4 g4 ha ka hw rw_ => ?_)
        have s4 := s'.grow ((g2.trans g3).trans g4)
        have sa := (s'.grow (g2.trans g3))
        have fa : F a = none := fresh_back sa.ef ha
        have na : ∀ o ∈ ow ++ gridO D ps acc, o.ad ≠ a := owned_ne sa ha
        obtain ⟨d1, d2, us, d3, d4⟩ := s4.ow.each (ol D (ptsO ps acc.length)) (List.mem_of_getElem? (at_mid _ _ _))
        have d3 : H4 D = some (.lst us) := d3
        have d4 : Paired (rep K Kn4) us (ptsO ps acc.length) := d4
        have ul := paired_len d4
        rw [pts_len] at ul
        have aD : D ≠ a := fun z => na (ol D (ptsO ps acc.length)) (List.mem_of_getElem? (at_mid _ _ _)) z
        let qs : Nat → Addr := fun k => if k = acc.length then a else ps k
        have eg : gridO D ps acc = ol D (ptsO ps acc.length) :: rowsO qs 0 acc := by
          unfold gridO
          rw [rows_congr (ps := ps) (qs := qs) fun j _ h => (if_neg (show ¬ j = acc.length by omega)).symm]
        have s5 := s4.own fa ka na hw rw_
        have s6 := s5.perm (ow1 := ow ++ (ol D (ptsO ps acc.length) :: (rowsO qs 0 acc ++ [ol a z]))) (by
          rw [eg]
          have : ow ++ (ol D (ptsO ps acc.length) :: (rowsO qs 0 acc ++ [ol a z])) = (ow ++ (ol D (ptsO ps acc.length) :: rowsO qs 0 acc)) ++ [ol a z] := by
            rw [List.append_assoc]
            rfl
          rw [this]
          exact (List.perm_append_singleton _ _).symm)
        have epts : ptsO qs (acc.length + 1) = ptsO ps acc.length ++ [Adr.mk a] := by
          unfold ptsO
          rw [List.range_succ, List.map_append]
          refine congr (congrArg _ (List.map_congr_left fun k hk => ?_)) ?_
          · rw [List.mem_range] at hk
            show Adr.mk (if k = acc.length then a else ps k) = _
            rw [if_neg (by omega)]
          · show [Adr.mk (if acc.length = acc.length then a else ps acc.length)] = _
            rw [if_pos rfl]
        have hk4 : Kn4 D = none := d2
        have s7 := s6.write (p := D) (xs' := ptsO qs (acc.length + 1)) (ws := us ++ [.ref a]) (H' := upd H4 D (.lst (us ++ [.ref a]))) (at_mid _ _ _) (Ex.refl _) (upd_in g4.kh hk4) (fun q hq _ => upd_ne hq) (fun _ _ h => h) upd_same (by
          rw [epts]
          exact paired_append d4 (.cons rfl .nil))
        have e8 : (ow ++ (ol D (ptsO ps acc.length) :: (rowsO qs 0 acc ++ [ol a z]))).set ow.length (ol D (ptsO qs (acc.length + 1))) = ow ++ gridO D qs (acc ++ [z]) := by
          rw [List.set_append_right _ _ (Nat.le_refl _), Nat.sub_self]
          show ow ++ (ol D (ptsO qs (acc.length + 1)) :: (rowsO qs 0 acc ++ [ol a z])) = ow ++ (ol D (ptsO qs (acc ++ [z]).length) :: rowsO qs 0 (acc ++ [z]))
          rw [rows_app, Nat.zero_add, List.length_append, show qs acc.length = a from if_pos rfl]
          rfl
        rw [e8] at s7
        have g14 : Gr Kn1 H1 Kn4 H4 := gr.trans ((g2.trans g3).trans g4)
        refine ⟨us, d3, by rw [ul]; exact lt_line (by omega), Kn4, qs, acc ++ [z], zs', ⟨g14.mut hD hk4, fun o ho => ?_⟩, s7, ?_, hzs, ?_⟩
        · rcases List.mem_cons.mp ho with rfl | ho
          · exact hD
          · rw [rows_app] at ho
            rcases List.mem_append.mp ho with ho | ho
            · exact fr o (by rw [eg]; exact List.mem_cons_of_mem _ ho)
            · cases List.mem_singleton.mp ho
              show H1 (qs (0 + acc.length)) = none
              rw [Nat.zero_add, show qs acc.length = a from if_pos rfl]
              exact fresh_back (gr.trans (g2.trans g3)).hh ha
        · rw [List.length_append, List.length_singleton]; omega
        · rw [List.append_assoc]; exact hz
      | false =>
        have hrest : lcGo c f (xs.drop (i + 1)) = some rest := hrest
        exact iteF ⟨Kn3, ps, acc, rest, ⟨gr.trans (g2.trans g3), fr⟩, s'.grow (g2.trans g3), by omega, hrest, hz⟩
  · have hd : xs.drop i = [] := List.drop_eq_nil_of_le (by omega)
    rw [hd] at hrest
    cases hrest
    rw [List.append_nil] at hz
    subst hz
    refine .inl ⟨(w i Kn' H' ek s'.ek).2 (by omega), q D ps Kn' H' (g1.trans gr) ⟨fun o ho => ?_, ?_⟩⟩
    · obtain ⟨_, h2, h3⟩ := s'.ow.each o (List.mem_append_right _ ho)
      exact ⟨fresh_back g1.hh (fr o ho), h2, h3⟩
    · have := s'.ow.nd
      rw [List.map_append] at this
      exact (List.nodup_append.mp this).2.1
end
end Wk
set_option maxHeartbeats 4000000
/-! Wtry2: several except clauses, each with a name -/
namespace L2
open PySem PySem.Spec PyProof.Rows
/-- what clauses with names wish, one behind another -/
def wAsM (K : PySem.W.Frag) (Wout : WX) (D : Ends) : List (Value × Nat × (Addr → Value → Option Addr → TS)) → WX
  | [] => Wout
  | (c, i, ts) :: r => wAs K c i ts (wAsM K Wout D r) D
inductive HdA (X : Cx) : List ExceptHandler → List (Value × Nat × (Addr → Value → Option Addr → TS)) → Prop
  | nil : HdA X [] []
  | cons {x n : Str} {c : Value} {i : Nat} {ts : Addr → Value → Option Addr → TS} {b₀ : Stmt} {suite : List Stmt} {np pos' : Pos} {hds : List ExceptHandler} {l : List (Value × Nat × (Addr → Value → Option Addr → TS))} (hi : X.N[i]? = some n) (hln : X.env.kindOf n = some .local) (hc : Names X x c)
      (hsu : ∀ (a : Addr) (oe : Obj) (cls : Value) (d : Option Addr) (pn : List (Addr × Obj)), Zc cls d oe → (∃ vs, oe.data = .fields vs) → PSs (X.suite a ((a, oe) :: pn)) (b₀ :: suite) (ts a cls d)) (r : HdA X hds l) :
      HdA X (.ExceptHandler (some (.Name x np)) (some n) (b₀ :: suite) pos' :: hds) ((c, i, ts) :: l)
section
variable {X : Cx} {body : List Stmt} {h₀ : ExceptHandler} {hds : List ExceptHandler} {l : List (Value × Nat × (Addr → Value → Option Addr → TS))} {pos : Pos} {tb : WX → TS} {Wout : WX}
theorem ps_try_asM (hs : X.stack = X.env :: X.outer) (hf : X.env.frame = some X.env.locals) (hN : X.N.Nodup) (tk : Takes X Wout)
    (hb : ∀ (W : WX) (pn : List (Addr × Obj)) (xe : Value → Shared → Prop), Takes (X.tr pn xe) W → PassesOwn (model X.prog X.w) X.A X.env xe → PSs (X.tr pn xe) body (tb W))
    (hh : HdA X (h₀ :: hds) l) : PS X (.Try body (h₀ :: hds) [] [] pos) (fun D σ H => tb (wAsM X.K Wout D l) D σ H) := by
  refine ⟨fun pins s σ H D I h => ?_⟩
  have ok := I.ok
  have hfr : X.A.frames = some (X.env :: X.outer) := by rw [ok.frames, hs]
  refine wpAny_Try_except ?_
  refine wpAny_mono ((hb (wAsM X.K Wout D l) (X.pn ++ pins) (fun e s₁ => wpAny (model X.prog X.w) X.A (noteFrame e X.env) (fun _ s₂ => wpAny (model X.prog X.w) X.A (setFlight e none) (fun _ s₃ =>
    wpAny (model X.prog X.w) X.A (handleBy e X.env (h₀ :: hds)) (SP X pins D) X.xe s₃) X.xe s₂) X.xe s₁) (fun u s' xx => ?_) PassesOwn.looking).run [] s σ H D (I.toTry _) h) (fun f s1 hsp => ?_) (fun e s1 he => he)
  · obtain ⟨a, B, sI, pins', σ', H', cls, d, rfl, J', nb, up, sky, na, os, ag, w⟩ := xx
    have J : Inv X pins σ' H' sI := J'.ofTry ok
    have sky' : Sky B (X.env :: X.outer) a (Zc cls d) X.env.locals s'.heap := by rw [← hs]; exact sky
    show wpAny (model X.prog X.w) X.A (noteFrame (.ref a) X.env) _ _ _
    refine Sky.land Zc.steady hfr hf sky' fun h3 fl3 up3 => ?_
    have J3 : Inv X pins σ' H' { s' with heap := h3 } := J.landed nb fl3.1 (up.trans up3) os ag
    obtain ⟨oe3, vs3, he3, hz3, hd3⟩ := fl3.there
    have notFr : ∀ {h : Heap} {o : Obj} {vs : Array Value}, h.FunFrames B (X.env :: X.outer) → h.get? a = some o → o.data = .fields vs → a ∉ frs (X.env :: X.outer) := fun {h o vs} ff e dd hm => by
      obtain ⟨_, o', e', hnf⟩ := ff.mem hm
      rw [e] at e'; cases e'
      exact hnf _ dd
    have nfr := notFr fl3.2.2.1 he3 hd3
    have nL : a ≠ X.env.locals := fun z => nfr (List.mem_filterMap.mpr ⟨X.env, List.mem_cons_self, by rw [hf, z]⟩)
    have nF : a ∉ X.fs := fun hm => by
      obtain ⟨e, he, q⟩ := List.mem_filterMap.mp hm
      exact nfr (List.mem_filterMap.mpr ⟨e, List.mem_cons_of_mem _ he, q⟩)
    have S3 := J3.suite he3 hd3 na nL nF
    have go : ∀ {hds' : List ExceptHandler} {l' : List (Value × Nat × (Addr → Value → Option Addr → TS))}, HdA X hds' l' → wAsM X.K Wout D l' cls d σ' H' →
        wpAny (model X.prog X.w) X.A (handleBy (.ref a) X.env hds') (SP X pins D) X.xe { s' with heap := h3 } := by
      intro hds' l' hk
      induction hk with
      | nil =>
        intro w
        refine wpAny_handleBy_nil ?_
        obtain ⟨k1, k2, k3, oe, vs, T, oT, ts', he, hz, hd, h1, hr⟩ := id fl3
        unfold PySem.passOn
        refine wpAny_bind (wpAny_field he hd h1 ?_)
        rw [if_neg (show ¬ ((Value.ref T == Value.none) = true) from by simp)]
        have fin : wpAny (model X.prog X.w) X.A (setFlight (.ref a) X.env.frame) (fun _ s4 => wpAny (model X.prog X.w) X.A (throw (.ref a) : Sem Flow) (SP X pins D) X.xe s4) X.xe { s' with heap := h3 } := by
          rw [hf]
          refine HandSPX.setFlight_upZ fl3 fun h4 hh4 up4 => wpAny_throw (tk _ _ ?_)
          exact ⟨a, B, sI, pins, σ', H', cls, d, rfl, J, nb, (up.trans up3).trans up4, .inr (.inr (by rw [hs]; exact hh4)), na, os, ag, w⟩
        first
          | exact wpAny_bind (wpAny_pure (wpAny_bind fin))
          | exact wpAny_bind fin
      | @cons x n c i ts b₀ suite np pos' hds2 l2 hi hln hc hsu r ih =>
        intro w
        obtain ⟨b, hb1, hyes, hno⟩ := w
        have hloc : Loc X.env.scope n := .inl hln
        refine wpAny_handleBy_cons (codeAny_handlers_test ?_) (by intro q; cases q)
        have LT : PySem.W.Looks (model X.prog X.w) h3 (typeOf (.ref a)) cls := fun A Q E s k q => wpAny_typeOf_ref (k _ _ he3) (by rw [hz3.1]; exact q)
        have LM := PySem.W.exm_one (M := model X.prog X.w) (J3.kIn) LT hb1
        have test : ∀ {Q : Value → Shared → Prop} {E : Value → Shared → Prop}, Q c { s' with heap := h3 } → wpAny (model X.prog X.w) (X.A.mark (some (.ref a))) (eval (.Name x np) X.env) Q E { s' with heap := h3 } := fun {Q E} q => by
          obtain ⟨hg, hdbg, hm | ⟨hm, hv, hnn⟩⟩ := hc
          · exact ld_glob (X := X.suite a ((a, oe3) :: (X.pn ++ pins))) S3 hg hm q hdbg
          · exact ld_blt (X := X.suite a ((a, oe3) :: (X.pn ++ pins))) S3 hg hm hv q hnn hdbg
        refine test (LM.here ?_)
        cases b with
        | true =>
          refine codeAny_handlers_suite_as ?_
          refine HandSPX.lands_againZ fl3 fun h4 fl4 up4 => ?_
          have J4 : Inv X pins σ' H' { s' with heap := h4 } := J.landed nb fl4.1 ((up.trans up3).trans up4) os ag
          obtain ⟨oe4, vs4, he4, hz4, hd4⟩ := fl4.there
          have S4 := J4.suite he4 hd4 na nL nF
          refine store_ok (X := X.suite a ((a, oe4) :: (X.pn ++ pins))) (v := .ref a) S4 hN hi hloc rfl (fun s5 S5 => ?_) (.inr hln)
          refine wpAny_mono ((hsu a oe4 cls d (X.pn ++ pins) hz4 ⟨_, hd4⟩).run [] s5 _ H' _ S5 (hyes rfl a na)) (fun f s6 hsp => ?_) (fun _ _ z => False.elim z)
          have end_ : ∀ {σ6 : St} {H6 : Hp} {Q : Shared → Prop}, Inv (X.suite a ((a, oe4) :: (X.pn ++ pins))) [] σ6 H6 s6 → (∀ s7, Inv X pins (σ6.set i none) H6 s7 → Q s7) →
              wpAny (model X.prog X.w) X.A (do bindName X.env n .none; unbindBehindTheSuite X.env n pos') (fun _ s7 => Q s7) X.xe s6 := fun {σ6 H6 Q} S6 hq => gone_ok (S6.unsuite ok) hN hi hln hq
          cases f with
          | next =>
            obtain ⟨σ6, H6, S6, q6⟩ := hsp
            exact end_ S6 fun s7 J7 => ⟨_, _, J7, q6⟩
          | brk =>
            obtain ⟨σ6, H6, S6, q6⟩ := hsp
            exact end_ S6 fun s7 J7 => ⟨_, _, J7, q6⟩
          | cont =>
            obtain ⟨σ6, H6, S6, q6⟩ := hsp
            exact end_ S6 fun s7 J7 => ⟨_, _, J7, q6⟩
          | ret u =>
            obtain ⟨v6, σ6, H6, S6, r6, q6⟩ := hsp
            exact end_ S6 fun s7 J7 => ⟨_, _, _, J7, r6, q6⟩
        | false =>
          show wpAny _ X.A (handleBy (.ref a) X.env hds2) _ _ _
          exact ih (hno rfl)
    exact go hh w
  · cases f with
    | next =>
      obtain ⟨σ', H', J', q⟩ := hsp
      exact wpAny_execs_nil ⟨σ', H', J'.ofTry ok, q⟩
    | brk =>
      obtain ⟨σ', H', J', q⟩ := hsp
      exact ⟨σ', H', J'.ofTry ok, q⟩
    | cont =>
      obtain ⟨σ', H', J', q⟩ := hsp
      exact ⟨σ', H', J'.ofTry ok, q⟩
    | ret u =>
      obtain ⟨v, σ', H', J', r, q⟩ := hsp
      exact ⟨v, σ', H', J'.ofTry ok, r, q⟩
end
end L2
namespace Wk
open PySem PySem.Spec L2 Evl
section
variable {K : Fg} {F Kn0 : Hp} {sl : List Sl} {ow : List Ow} {cm : Str → Option Addr} {D : Ends} {e : Xc} {i : Nat}
theorem rw_no {C : Value} {ts : Addr → Value → Option Addr → TS} {Wout : WX} (hm : ∀ A, cm e.cls = some A → PySem.W.exmOne K (.ref A) C = some false) (h : RW K F Kn0 sl ow cm Wout e) : RW K F Kn0 sl ow cm (wAs K C i ts Wout D) e := fun σ Kn H cls d s x => by
  obtain ⟨A, hA, rfl, hx⟩ := id x
  exact ⟨false, hm A hA, (fun z => nomatch z), fun _ => h σ Kn H _ d s x⟩
theorem rw_only {C : Value} {ts : Addr → Value → Option Addr → TS} {Wout : WX} (hm : ∀ A, cm e.cls = some A → PySem.W.exmOne K (.ref A) C = some true) (h : ∀ a cls d, SB K F Kn0 sl ow D (ts a cls d)) : RW K F Kn0 sl ow cm (wOnly K C ts Wout D) e := fun σ Kn H cls d s x => by
  obtain ⟨A, hA, rfl, hx⟩ := id x
  exact ⟨true, hm A hA, (fun _ a _ => h a _ d _ Kn H s), fun z => nomatch z⟩
theorem ite_two {α : Type} {c d : Bool} {x z : Option α} {y : α} (h : (if c = true then x else (if d = true then z else none)) = some y) : (c = true ∧ x = some y) ∨ (d = true ∧ z = some y) := by
  cases c with
  | true => exact .inl ⟨rfl, h⟩
  | false => exact .inr (ite_some h)
theorem exm_twoN {K : Fg} {A C : Addr} {b : Bool} (h1 : PySem.W.subIn K (.ref C) (.type "BaseException") = some true) (h2 : PySem.W.isClsIn K C = true) (h3 : PySem.W.typeIn K (.ref C) = some (.type "type")) (h4 : PySem.W.subIn K (.ref A) (.ref C) = some b) : PySem.W.exmOne K (.ref A) (.ref C) = some b := exm_two h1 h2 h3 h4
end
end Wk
set_option maxHeartbeats 4000000
/-! WisT: isinstance(e, (C, ..)), e the exception that a suite holds -/
namespace L2
open PySem PySem.Spec PyProof.Rows
section
variable {X : Cx}
def rIsXT (K : PySem.W.Frag) (D a : Addr) (cls : Value) (d : Option Addr) : List V → Hp → VK → Prop := fun xs H Q => ∃ (tp : Addr) (cs : List V) (us : List Value) (b : Bool), xs = [.ref a, .ref tp] ∧ cls = .ref D ∧ (d = none ∨ ∃ dd fs, d = some dd ∧ H dd = some (.xd fs)) ∧ H tp = some (.tup cs) ∧ Paired ClsV cs us ∧ PySem.W.kitAny K (.ref D) us = some b ∧ Q (.bl b) H
theorem call_isXT {a D : Addr} {oe : Obj} {cls : Value} {d : Option Addr} {pn : List (Addr × Obj)} (C : PySem.W.findIn X.K (.ref D) "__getattribute__" = some (some (.builtin "BaseException.__getattribute__")) ∧ PySem.W.findIn X.K (.ref D) "__getattr__" = some none ∧ PySem.W.subIn X.K (.ref D) (.type "BaseException") = some true ∧ PySem.W.isClsIn X.K D = true ∧
      PySem.W.findIn X.K (.ref D) "__class__" = some (some (.builtin "object.__class__")) ∧ PySem.W.specialIn X.K (.builtin "object.__class__") "__get__" = some (some (.builtin "getset_descriptor.__get__")) ∧ PySem.W.takesIn X.K (.builtin "object.__class__") = some true ∧ PySem.W.mroIn X.K D (.type "object") = some true)
    (hz : Zc cls d oe) (hf : ∃ vs, oe.data = .fields vs) : CallR (X.suite a ((a, oe) :: pn)) (.builtin "isinstance") (rIsXT X.K D a cls d) := by
  intro pins s σ H xs us Q I r h
  obtain ⟨tp, cs, ws, b, rfl, rfl, hd, hT, k, e, q⟩ := h
  obtain ⟨c1, c2, c3, c4, c5, c6, c7, c8⟩ := C
  obtain ⟨u1, u2, rfl, r1, r2⟩ := vals2 r
  cases (show u1 = Value.ref a from r1)
  cases (show u2 = Value.ref tp from r2)
  obtain ⟨hget, _⟩ := I.pin (a, oe) (List.mem_append.mpr (.inl List.mem_cons_self))
  obtain ⟨vs, hv⟩ := hf
  have J : ∃ od, PySem.W.InstAt s.heap a oe D od := by
    rcases hd with rfl | ⟨dd, fs, rfl, hdd⟩
    · refine ⟨none, hget, hz.1, by unfold PySem.W.notCls; rw [hv] <;> rfl, ?_⟩
      rw [hz.2]
      trivial
    · have hx : ObjOk X.prog X.w H s.heap dd (.xd fs) := I.hok dd _ hdd
      obtain ⟨mA, hns, _⟩ := hx
      obtain ⟨od, ho, _⟩ := lookIn_ns hns
      refine ⟨some od, hget, hz.1, by unfold PySem.W.notCls; rw [hv] <;> rfl, ?_⟩
      rw [hz.2]
      exact ho
  obtain ⟨od, J⟩ := J
  obtain ⟨_, its, rv, o, h1, h2, n, h3⟩ := (show ObjOk X.prog X.w H s.heap tp (.tup cs) from I.hok tp _ hT)
  have e3 := ClsV.all k rv
  subst e3
  obtain ⟨oc, odd, dt, sl⟩ := o
  simp only at h2 h3
  subst h2 h3
  exact PySem.W.kia_tup (PySem.W.kitx_exc c4 c1 c2 c3 c5 c6 c7 c8) I.kIn J h1 e (fun z => nomatch z) fun tk => ⟨.bl b, H, I.kept (t' := tk) fun _ _ z => z, rfl, q⟩
end
end L2
namespace Wk
open PySem PySem.Spec L2 Evl
class Ct (τ : Type) [Tp τ] where
  us : τ → List Value
  is : ∀ {K : Fg} {H : Hp} {vs : List V} {t : τ}, rept K H vs t → Paired ClsV vs (us t)
instance : Ct Unit := ⟨fun _ => [], fun h => by cases h; exact .nil⟩
instance {τ : Type} [Tp τ] [Ct τ] : Ct (ClN × τ) := ⟨fun t => .ref t.1.a :: Ct.us t.2, fun h => by
  obtain ⟨v, r, rfl, h1, h2⟩ := h
  cases h1
  exact .cons (.own _) (Ct.is h2)⟩
instance {τ : Type} [Tp τ] [Ct τ] : Ct (TyN × τ) := ⟨fun t => .type t.1.n :: Ct.us t.2, fun h => by
  obtain ⟨v, r, rfl, h1, h2⟩ := h
  cases h1
  exact .cons (.ty _) (Ct.is h2)⟩
theorem rc_isXT {K : Fg} {α τ : Type} [Rp α] [Tp τ] [Ct (α × τ)] {t : α × τ} {a D : Addr} {cm : Str → Option Addr} {cls : Value} {d : Option Addr} {n : Str} {b : Bool} {u : Unit} {e : Xc} (hD : cm n = some D) (hx : xcls e n = some u) (hk : PySem.W.kitAny K (.ref D) (Ct.us t) = some b) : RCV K (rIsXT K D a cls d) ((Xv.mk e : Xv cm a cls d), t, ()) b := fun Kn H vs ek h Q q => by
  obtain ⟨v, w, rfl, h1, h2⟩ := two_args h
  obtain ⟨rfl, A, hA, hc, hd⟩ := h1
  rw [xcls_eq hx, hD] at hA
  cases hA
  obtain ⟨p, ws, rfl, h3, h4⟩ := h2
  refine ⟨p, ws, _, b, rfl, hc, ?_, ek _ _ h3, Ct.is (τ := α × τ) h4, hk, q.fl ek⟩
  rcases hd with ⟨_, h1⟩ | ⟨dd, fs, h1, h3, _⟩
  · exact .inl h1
  · exact .inr ⟨dd, fs, h1, ek _ _ h3⟩
end Wk
set_option maxHeartbeats 4000000
/-! Wkeep: an exception that a suite holds, kept as a value behind it -/
namespace L2
open PySem PySem.Spec PyProof.Rows
/-- a caught exception, kept -/
def KxO (cls : Value) (d : Option Addr) (a : Addr) : HO := .ext fun h => ∃ (oe : Obj) (vs : Array Value), h.get? a = some oe ∧ Zc cls d oe ∧ oe.data = .fields vs
section
variable {X : Cx} {pins : List (Addr × Obj)} {σ : St} {H : Hp} {s : Shared}
/-- an object that was not there at the entry is told of from here on -/
theorem Inv.adopt (I : Inv X pins σ H s) {a : Addr} {o : HO} (hn : H a = none) (n0 : X.s_0.heap.get? a = none) (nL : a ≠ X.env.locals) (nC : ∀ v, ¬ s.heap.IsCell a v) (nP : ∀ p ∈ X.pn ++ pins, p.1 ≠ a) (new : ObjOk X.prog X.w (upd H a o) s.heap a o) : Inv X pins σ (upd H a o) s := by
  have ne0 : ∀ b u, X.s_0.heap.get? b = some u → b ≠ a := fun b u e z => by
    rw [z, n0] at e
    cases e
  have neH : ∀ b u, H b = some u → b ≠ a := fun b u e z => by
    rw [z, hn] at e
    cases e
  refine ⟨I.ok, I.os, I.bare, ⟨I.base.keep, I.base.slot, fun b u e n hb => ?_, I.base.there, fun b xs e => ?_, fun b u xs e => ?_, fun b ps e => ?_⟩, I.loc, I.cell, ?_, fun x c e => ?_, fun p hp => ?_, HOk.laidN I.hok (fun _ _ q => q) hn new, I.len⟩
  · rw [upd_ne (ne0 b u e)]
    exact I.base.free b u e n hb
  · have q := I.base.tups b xs e
    rw [upd_ne (neH b _ q)]
    exact q
  · have q := I.base.frzs b u xs e
    rw [upd_ne (neH b _ q)]
    exact q
  · obtain ⟨m, q⟩ := I.base.tbls b ps e
    exact ⟨m, by rw [upd_ne (neH b _ q)]; exact q⟩
  · rw [upd_ne (Ne.symm nL)]
    exact I.free
  · obtain ⟨v, z⟩ := I.cell x c e
    rw [upd_ne (fun z2 => nC v (by rw [← z2]; exact z))]
    exact I.freeC x c e
  · obtain ⟨e, n, r⟩ := I.pin p hp
    exact ⟨e, by rw [upd_ne (nP p hp)]; exact n, r⟩
end
/-- what a clause that keeps the exception wishes -/
def wAsK (K : PySem.W.Frag) (c : Value) (i : Nat) (ts : Addr → Value → Option Addr → TS) (D : Ends) : WX := fun cls d σ H =>
  PySem.W.exmOne K cls c = some true ∧ ∀ a, H a = none → ts a cls d { nx := fun σ' H' => H' a = none → D.nx (σ'.set i none) (upd H' a (KxO cls d a)), rt := fun _ _ => False, bk := fun _ _ => False, ct := fun _ _ => False } (σ.set i (some (.ref a))) H
section
variable {X : Cx} {x n : Str} {c : Value} {i : Nat} {body suite : List Stmt} {b₀ : Stmt} {np pos pos' : Pos} {tb : WX → TS} {ts : Addr → Value → Option Addr → TS}
theorem ps_try_keep (hs : X.stack = X.env :: X.outer) (hf : X.env.frame = some X.env.locals) (hx : X.ex = []) (hN : X.N.Nodup) (hi : X.N[i]? = some n) (hln : X.env.kindOf n = some .local) (hc : Names X x c)
    (hb : ∀ (W : WX) (pn : List (Addr × Obj)) (xe : Value → Shared → Prop), Takes (X.tr pn xe) W → PassesOwn (model X.prog X.w) X.A X.env xe → PSs (X.tr pn xe) body (tb W))
    (hsu : ∀ (a : Addr) (oe : Obj) (cls : Value) (d : Option Addr) (pn : List (Addr × Obj)), Zc cls d oe → (∃ vs, oe.data = .fields vs) → PSs (X.suite a ((a, oe) :: pn)) (b₀ :: suite) (ts a cls d)) :
    PS X (.Try body [.ExceptHandler (some (.Name x np)) (some n) (b₀ :: suite) pos'] [] [] pos) (fun D σ H => tb (wAsK X.K c i ts D) D σ H) := by
  refine ⟨fun pins s σ H D I h => ?_⟩
  have ok := I.ok
  have hfr : X.A.frames = some (X.env :: X.outer) := by rw [ok.frames, hs]
  refine wpAny_Try_except ?_
  refine wpAny_mono ((hb (wAsK X.K c i ts D) (X.pn ++ pins) (fun e s₁ => wpAny (model X.prog X.w) X.A (noteFrame e X.env) (fun _ s₂ => wpAny (model X.prog X.w) X.A (setFlight e none) (fun _ s₃ =>
    wpAny (model X.prog X.w) X.A (handleBy e X.env [.ExceptHandler (some (.Name x np)) (some n) (b₀ :: suite) pos']) (SP X pins D) X.xe s₃) X.xe s₂) X.xe s₁) (fun u s' xx => ?_) PassesOwn.looking).run [] s σ H D (I.toTry _) h) (fun f s1 hsp => ?_) (fun e s1 he => he)
  · obtain ⟨a, B, sI, pins', σ', H', cls, d, rfl, J', nb, up, sky, na, os, ag, hb1, hyes⟩ := xx
    have J : Inv X pins σ' H' sI := J'.ofTry ok
    have sky' : Sky B (X.env :: X.outer) a (Zc cls d) X.env.locals s'.heap := by rw [← hs]; exact sky
    show wpAny (model X.prog X.w) X.A (noteFrame (.ref a) X.env) _ _ _
    refine Sky.land Zc.steady hfr hf sky' fun h3 fl3 up3 => ?_
    have J3 : Inv X pins σ' H' { s' with heap := h3 } := J.landed nb fl3.1 (up.trans up3) os ag
    obtain ⟨oe3, vs3, he3, hz3, hd3⟩ := fl3.there
    have nfr : a ∉ frs (X.env :: X.outer) := fun hm => by
      obtain ⟨_, o', e', hnf⟩ := fl3.2.2.1.mem hm
      rw [he3] at e'; cases e'
      exact hnf _ hd3
    have nfr' : a ∉ frs X.stack := by rw [hs]; exact nfr
    have nL : a ≠ X.env.locals := fun z => nfr (List.mem_filterMap.mpr ⟨X.env, List.mem_cons_self, by rw [hf, z]⟩)
    have nF : a ∉ X.fs := fun hm => by
      obtain ⟨e, he, q⟩ := List.mem_filterMap.mp hm
      exact nfr (List.mem_filterMap.mpr ⟨e, List.mem_cons_of_mem _ he, q⟩)
    have nI : sI.heap.get? a = none := by
      cases e : sI.heap.get? a with
      | none => rfl
      | some o =>
        have := nb a o e nfr'
        rw [fl3.2.1] at this
        cases this
    have n0 : X.s_0.heap.get? a = none := by
      cases e : X.s_0.heap.get? a with
      | none => rfl
      | some o =>
        obtain ⟨o', q⟩ := J.base.there a o e (by rw [hx]; exact fun z => nomatch z)
        rw [nI] at q
        cases q
    have nP : ∀ p ∈ X.pn ++ pins, p.1 ≠ a := fun p hp z => by
      have q := (J.pin p hp).1
      rw [z, nI] at q
      cases q
    have S3 := J3.suite he3 hd3 na nL nF
    refine wpAny_handleBy_cons (codeAny_handlers_test ?_) (by intro q; cases q)
    have LT : PySem.W.Looks (model X.prog X.w) h3 (typeOf (.ref a)) cls := fun A Q E s k q => wpAny_typeOf_ref (k _ _ he3) (by rw [hz3.1]; exact q)
    have LM := PySem.W.exm_one (M := model X.prog X.w) (J3.kIn) LT hb1
    have test : ∀ {Q : Value → Shared → Prop} {E : Value → Shared → Prop}, Q c { s' with heap := h3 } → wpAny (model X.prog X.w) (X.A.mark (some (.ref a))) (eval (.Name x np) X.env) Q E { s' with heap := h3 } := fun {Q E} q => by
      obtain ⟨hg, hdbg, hm | ⟨hm, hv, hnn⟩⟩ := hc
      · exact ld_glob (X := X.suite a ((a, oe3) :: (X.pn ++ pins))) S3 hg hm q hdbg
      · exact ld_blt (X := X.suite a ((a, oe3) :: (X.pn ++ pins))) S3 hg hm hv q hnn hdbg
    refine test (LM.here ?_)
    refine codeAny_handlers_suite_as ?_
    refine HandSPX.lands_againZ fl3 fun h4 fl4 up4 => ?_
    have J4 : Inv X pins σ' H' { s' with heap := h4 } := J.landed nb fl4.1 ((up.trans up3).trans up4) os ag
    obtain ⟨oe4, vs4, he4, hz4, hd4⟩ := fl4.there
    have S4 := J4.suite he4 hd4 na nL nF
    refine store_ok (X := X.suite a ((a, oe4) :: (X.pn ++ pins))) (v := .ref a) S4 hN hi (.inl hln) rfl (fun s5 S5 => ?_) (.inr hln)
    refine wpAny_mono ((hsu a oe4 cls d (X.pn ++ pins) hz4 ⟨_, hd4⟩).run [] s5 _ H' _ S5 (hyes a na)) (fun f s6 hsp => ?_) (fun _ _ z => False.elim z)
    cases f with
    | next =>
      obtain ⟨σ6, H6, S6, q6⟩ := hsp
      have P6 : Inv X ((a, oe4) :: pins) σ6 H6 s6 := ⟨ok, S6.os, S6.bare, S6.base, S6.loc, S6.cell, S6.free, S6.freeC, fun p hp => S6.pin p (by
        rw [List.append_nil]
        rcases List.mem_append.mp hp with hp | hp
        · exact List.mem_cons_of_mem _ (List.mem_append_left _ hp)
        · rcases List.mem_cons.mp hp with e | hp
          · rw [e]
            exact List.mem_cons_self
          · exact List.mem_cons_of_mem _ (List.mem_append_right _ hp)), S6.hok, S6.len⟩
      refine gone_ok P6 hN hi hln fun s7 J7 => ?_
      obtain ⟨g7, h7, _, _, c7⟩ := J7.pin (a, oe4) (List.mem_append_right _ List.mem_cons_self)
      have K7 : Inv X pins (σ6.set i none) H6 s7 := ⟨ok, J7.os, J7.bare, J7.base, J7.loc, J7.cell, J7.free, J7.freeC, fun p hp => J7.pin p (by
        rcases List.mem_append.mp hp with hp | hp
        · exact List.mem_append_left _ hp
        · exact List.mem_append_right _ (List.mem_cons_of_mem _ hp)), J7.hok, J7.len⟩
      exact ⟨_, _, K7.adopt (a := a) (o := KxO cls d a) h7 n0 nL (fun v ⟨o, ho, hv⟩ => by
        have : oe4 = o := Option.some.inj (g7.symm.trans ho)
        subst this
        exact c7 v hv) nP ⟨⟨oe4, vs4, g7, hz4, hd4⟩, ⟨oe4, g7⟩, fun _ _ ⟨o, v, q, r⟩ k => ⟨o, v, k o q, r⟩⟩, q6 h7⟩
    | brk =>
      obtain ⟨σ6, H6, S6, q6⟩ := hsp
      exact False.elim q6
    | cont =>
      obtain ⟨σ6, H6, S6, q6⟩ := hsp
      exact False.elim q6
    | ret u =>
      obtain ⟨v6, σ6, H6, S6, r6, q6⟩ := hsp
      exact False.elim q6
  · cases f with
    | next =>
      obtain ⟨σ', H', J', q⟩ := hsp
      exact wpAny_execs_nil ⟨σ', H', J'.ofTry ok, q⟩
    | brk =>
      obtain ⟨σ', H', J', q⟩ := hsp
      exact ⟨σ', H', J'.ofTry ok, q⟩
    | cont =>
      obtain ⟨σ', H', J', q⟩ := hsp
      exact ⟨σ', H', J'.ofTry ok, q⟩
    | ret u =>
      obtain ⟨v, σ', H', J', r, q⟩ := hsp
      exact ⟨v, σ', H', J'.ofTry ok, r, q⟩
end
section
variable {X : Cx}
/-- an instance of the class D, kept -/
theorem kept_inst {a D : Addr} {d : Option Addr} {pins : List (Addr × Obj)} {s : Shared} {σ : St} {H : Hp} (I : Inv X pins σ H s) (hk : H a = some (KxO (.ref D) d a)) (hd : d = none ∨ ∃ dd fs, d = some dd ∧ H dd = some (.xd fs)) : ∃ ox od, s.heap.get? a = some ox ∧ Zc (.ref D) d ox ∧ PySem.W.InstAt s.heap a ox D od := by
  obtain ⟨⟨oe, vs, hget, hz, hv⟩, _⟩ := I.hok a _ hk
  refine ⟨oe, ?_⟩
  rcases hd with rfl | ⟨dd, fs, rfl, hdd⟩
  · refine ⟨none, hget, hz, hget, hz.1, by unfold PySem.W.notCls; rw [hv] <;> rfl, ?_⟩
    rw [hz.2]
    trivial
  · have hx : ObjOk X.prog X.w H s.heap dd (.xd fs) := I.hok dd _ hdd
    obtain ⟨mA, hns, _⟩ := hx
    obtain ⟨od, ho, _⟩ := lookIn_ns hns
    refine ⟨some od, hget, hz, hget, hz.1, by unfold PySem.W.notCls; rw [hv] <;> rfl, ?_⟩
    rw [hz.2]
    exact ho
def rIsK (K : PySem.W.Frag) (D : Addr) : List V → Hp → VK → Prop := fun xs H Q => ∃ (a : Addr) (d : Option Addr) (c : V) (cv : Value) (b : Bool), xs = [.ref a, c] ∧ H a = some (KxO (.ref D) d a) ∧ (d = none ∨ ∃ dd fs, d = some dd ∧ H dd = some (.xd fs)) ∧ (∀ u, RelV c u → u = cv) ∧ PySem.W.kitOne K (.ref D) cv = some b ∧ Q (.bl b) H
theorem call_isK {D : Addr} (C : PySem.W.findIn X.K (.ref D) "__getattribute__" = some (some (.builtin "BaseException.__getattribute__")) ∧ PySem.W.findIn X.K (.ref D) "__getattr__" = some none ∧ PySem.W.subIn X.K (.ref D) (.type "BaseException") = some true ∧ PySem.W.isClsIn X.K D = true ∧
      PySem.W.findIn X.K (.ref D) "__class__" = some (some (.builtin "object.__class__")) ∧ PySem.W.specialIn X.K (.builtin "object.__class__") "__get__" = some (some (.builtin "getset_descriptor.__get__")) ∧ PySem.W.takesIn X.K (.builtin "object.__class__") = some true ∧ PySem.W.mroIn X.K D (.type "object") = some true) : CallR X (.builtin "isinstance") (rIsK X.K D) := by
  intro pins s σ H xs us Q I r h
  obtain ⟨a, d, c, cv, b, rfl, hk, hd, hcv, e, q⟩ := h
  obtain ⟨c1, c2, c3, c4, c5, c6, c7, c8⟩ := C
  obtain ⟨u1, u2, rfl, r1, r2⟩ := vals2 r
  cases (show u1 = Value.ref a from r1)
  have ec := hcv _ r2
  subst ec
  obtain ⟨ox, od, _, _, J⟩ := kept_inst I hk hd
  exact PySem.W.kia_one (PySem.W.kitx_exc c4 c1 c2 c3 c5 c6 c7 c8) I.kIn J e (fun z => nomatch z) fun tk => ⟨.bl b, H, I.kept (t' := tk) fun _ _ z => z, rfl, q⟩
def rIsKT (K : PySem.W.Frag) (D : Addr) : List V → Hp → VK → Prop := fun xs H Q => ∃ (a : Addr) (d : Option Addr) (tp : Addr) (cs : List V) (us : List Value) (b : Bool), xs = [.ref a, .ref tp] ∧ H a = some (KxO (.ref D) d a) ∧ (d = none ∨ ∃ dd fs, d = some dd ∧ H dd = some (.xd fs)) ∧ H tp = some (.tup cs) ∧ Paired ClsV cs us ∧ PySem.W.kitAny K (.ref D) us = some b ∧ Q (.bl b) H
theorem call_isKT {D : Addr} (C : PySem.W.findIn X.K (.ref D) "__getattribute__" = some (some (.builtin "BaseException.__getattribute__")) ∧ PySem.W.findIn X.K (.ref D) "__getattr__" = some none ∧ PySem.W.subIn X.K (.ref D) (.type "BaseException") = some true ∧ PySem.W.isClsIn X.K D = true ∧
      PySem.W.findIn X.K (.ref D) "__class__" = some (some (.builtin "object.__class__")) ∧ PySem.W.specialIn X.K (.builtin "object.__class__") "__get__" = some (some (.builtin "getset_descriptor.__get__")) ∧ PySem.W.takesIn X.K (.builtin "object.__class__") = some true ∧ PySem.W.mroIn X.K D (.type "object") = some true) : CallR X (.builtin "isinstance") (rIsKT X.K D) := by
  intro pins s σ H xs us Q I r h
  obtain ⟨a, d, tp, cs, ws, b, rfl, hk, hd, hT, k, e, q⟩ := h
  obtain ⟨c1, c2, c3, c4, c5, c6, c7, c8⟩ := C
  obtain ⟨u1, u2, rfl, r1, r2⟩ := vals2 r
  cases (show u1 = Value.ref a from r1)
  cases (show u2 = Value.ref tp from r2)
  obtain ⟨ox, od, _, _, J⟩ := kept_inst I hk hd
  obtain ⟨_, its, rv, o, h1, h2, n, h3⟩ := (show ObjOk X.prog X.w H s.heap tp (.tup cs) from I.hok tp _ hT)
  have e3 := ClsV.all k rv
  subst e3
  obtain ⟨oc, odd, dt, sl⟩ := o
  simp only at h2 h3
  subst h2 h3
  exact PySem.W.kia_tup (PySem.W.kitx_exc c4 c1 c2 c3 c5 c6 c7 c8) I.kIn J h1 e (fun z => nomatch z) fun tk => ⟨.bl b, H, I.kept (t' := tk) fun _ _ z => z, rfl, q⟩
/-- e.f, e kept -/
def tXk (C : Addr) (f : Str) (te : TE) : TE := fun σ H Q => te σ H fun x H1 => ∃ (a dd : Addr) (fs : List (Str × V)) (v : V), x = .ref a ∧ H1 a = some (KxO (.ref C) (some dd) a) ∧ H1 dd = some (.xd fs) ∧ fs.lookup f = some v ∧ Q v H1
theorem pe_xk {C : Addr} {e : Expr} {te : TE} {pos : Pos} {n : Str} (T : XfC X.K C) (hno : PySem.W.findIn X.K (.ref C) n = some none) (he : PE X e te) (hb : attributeBase e n X.env (eval e X.env) = eval e X.env := by rfl) : PE X (.Attribute e n pos) (tXk C n te) := by
  refine ⟨fun pins s σ H Q I h => ?_⟩
  refine attr_of hb (thn (he.run pins s σ H _ I h) fun u s1 hh => ?_)
  obtain ⟨x, H1, I1, rx, a, dd, fs, v, ex, hk, ea, l, q⟩ := hh
  subst ex
  obtain rfl : u = Value.ref a := rx
  obtain ⟨⟨oe, vs, ha, hz, hd⟩, _⟩ := I1.hok a _ hk
  have hx : ObjOk X.prog X.w H1 s1.heap dd (.xd fs) := I1.hok dd _ ea
  obtain ⟨mA, hns, hr⟩ := hx
  obtain ⟨od, ho, hl⟩ := lookIn_ns hns
  obtain ⟨u, hu, ru⟩ := RelO.some_of (v := v) (o := mA n) (by rw [← l]; exact hr n)
  have J : PySem.W.InstAt s1.heap a oe C (some od) := ⟨ha, hz.1, by unfold PySem.W.notCls; rw [hd] <;> rfl, by rw [hz.2]; exact ho⟩
  exact HandSPX.exc_get I1.kIn J T.ga T.gg T.exC (PySem.W.findObj_own T.hdC hno rfl (by rw [hl, hu])) (handed_of ru) ⟨v, H1, I1.tok _, ru, q⟩
end
end L2
namespace Wk
open PySem PySem.Spec L2 Evl
/-- an exception kept -/
def Kx (_ : Str → Option Addr) : Type := Xc
instance {cm : Str → Option Addr} : Rp (Kx cm) where
  rep _ H v x := ∃ a cls d, v = .ref a ∧ H a = some (KxO cls d a) ∧ XR cm H (x : Xc) cls d
  swap w h := by
    obtain ⟨a, cls, d, e, h1, h2⟩ := h
    exact ⟨a, cls, d, e, w.keep h1 (fun z => z) (fun _ _ z => nomatch z), h2.swap w⟩
abbrev DsuK (i : Nat) (a : Addr) (cls : Value) (d : Option Addr) (D : Ends) : Ends := { nx := fun σ' H' => H' a = none → D.nx (σ'.set i none) (upd H' a (KxO cls d a)), rt := fun _ _ => False, bk := fun _ _ => False, ct := fun _ _ => False }
section
variable {K : Fg} {F Kn0 : Hp} {sl sl' : List Sl} {ow : List Ow} {cm : Str → Option Addr} {D : Ends} {e : Xc} {i k : Nat} {te : TE}
theorem rw_asK {C : Value} {ts : Addr → Value → Option Addr → TS} {sl' : Addr → Value → Option Addr → List Sl} (hm : ∀ A, cm e.cls = some A → PySem.W.exmOne K (.ref A) C = some true) (hs : ∀ a cls d, sl.set i (sv (Xv.mk e : Xv cm a cls d)) = sl' a cls d)
    (h : ∀ a cls d, SB K F Kn0 (sl' a cls d) ow (DsuK i a cls d D) (ts a cls d)) : RW K F Kn0 sl ow cm (wAsK K C i ts D) e := fun σ Kn H cls d s x => by
  obtain ⟨A, hA, rfl, hx⟩ := id x
  refine ⟨hm A hA, fun a _ => ?_⟩
  exact h a _ d _ Kn H (hs a _ d ▸ s.setv (x := (Xv.mk e : Xv cm a (.ref A) d)) i ⟨rfl, x⟩)
theorem sn_keep {a : Addr} {cls : Value} {d : Option Addr} (h1 : sl[k]? = some (sv (Xv.mk e : Xv cm a cls d))) (hs : (sl.set k (sv (α := Option (Kx cm)) (some e))).set i .any = sl') (kk : SN K F Kn0 sl' ow D) : SN K F Kn0 sl ow (DsuK i a cls d D) := fun σ Kn H s hna => by
  obtain ⟨o, h2, v, rfl, h3, h4⟩ := s.sl.get h1
  have h3 : v = .ref a := h3
  subst h3
  have g : Gr Kn H (upd Kn a (KxO cls d a)) (upd H a (KxO cls d a)) := Gr.new s.ek hna
  have s1 := (s.grow g).setv (α := Option (Kx cm)) (x := some e) (v := .ref a) k ⟨(fun z => nomatch z), a, cls, d, rfl, upd_same, h4.swap (.of g.kk)⟩
  have e1 : σ.set k (some (.ref a)) = σ := by
    obtain ⟨h5, h6⟩ := List.getElem?_eq_some_iff.mp h2
    rw [← h6, List.set_getElem_self]
  rw [e1] at s1
  exact kk _ _ _ (hs ▸ s1.set (x := .any) (o := none) i trivial)
/-- e.f -/
theorem ev_xk {C : Addr} {n f : Str} {y : Dy} (h : EV (α := Kx cm) K F Kn0 sl ow te e) (hC : cm n = some C) (hx : xfl e n f = some y) : EV K F Kn0 sl ow (tXk C f te) y := fun σ Kn H s Q q =>
  h σ Kn H s _ fun v Kn1 H1 g1 r1 => by
    unfold xfl at hx
    split at hx
    case isFalse => cases hx
    rename_i hn
    obtain ⟨z, hz, rfl⟩ := Option.map_eq_some_iff.mp hx
    obtain ⟨a, cls, d, rfl, ka, A, hA, hc, hd⟩ := r1
    rw [hn, hC] at hA
    cases hA
    subst hc
    rcases hd with ⟨h1, _⟩ | ⟨dd, fs, rfl, h2, h3⟩
    · rw [h1] at hz
      cases hz
    · obtain ⟨u, hu, ru⟩ := fp_lookup h3 hz
      exact ⟨a, dd, fs, u, rfl, g1.kh _ _ ka, g1.kh _ _ h2, hu, q u Kn1 H1 g1 ru⟩
theorem rc_isK {D : Addr} {n : Str} {ty : String} {b : Bool} {u : Unit} (hD : cm n = some D) (hx : xcls e n = some u) (hk : PySem.W.kitOne K (.ref D) (.type ty) = some b) : RCV (τ := Kx cm × TyN × Unit) K (rIsK K D) (e, TyN.mk ty, ()) b := fun Kn H vs ek h Q q => by
  obtain ⟨v, w, rfl, h1, h2⟩ := two_args h
  obtain ⟨a, cls, d, rfl, ka, A, hA, hc, hd⟩ := h1
  rw [xcls_eq hx, hD] at hA
  cases hA
  subst hc
  refine ⟨a, d, w, .type ty, b, rfl, ek _ _ ka, ?_, fun u hu => ?_, hk, q.fl ek⟩
  · rcases hd with ⟨_, h1⟩ | ⟨dd, fs, h1, h3, _⟩
    · exact .inl h1
    · exact .inr ⟨dd, fs, h1, ek _ _ h3⟩
  · have h2 : w = .ty ty := h2
    subst h2
    exact hu
theorem rc_isKC {D C : Addr} {n : Str} {b : Bool} {u : Unit} (hD : cm n = some D) (hx : xcls e n = some u) (hk : PySem.W.kitOne K (.ref D) (.ref C) = some b) : RCV (τ := Kx cm × ClN × Unit) K (rIsK K D) (e, ClN.mk C, ()) b := fun Kn H vs ek h Q q => by
  obtain ⟨v, w, rfl, h1, h2⟩ := two_args h
  obtain ⟨a, cls, d, rfl, ka, A, hA, hc, hd⟩ := h1
  rw [xcls_eq hx, hD] at hA
  cases hA
  subst hc
  refine ⟨a, d, w, .ref C, b, rfl, ek _ _ ka, ?_, fun u hu => ?_, hk, q.fl ek⟩
  · rcases hd with ⟨_, h1⟩ | ⟨dd, fs, h1, h3, _⟩
    · exact .inl h1
    · exact .inr ⟨dd, fs, h1, ek _ _ h3⟩
  · have h2 : w = .ref C := h2
    subst h2
    exact hu
theorem rc_isKT {α τ : Type} [Rp α] [Tp τ] [Ct (α × τ)] {t : α × τ} {D : Addr} {n : Str} {b : Bool} {u : Unit} (hD : cm n = some D) (hx : xcls e n = some u) (hk : PySem.W.kitAny K (.ref D) (Ct.us t) = some b) : RCV (τ := Kx cm × (α × τ) × Unit) K (rIsKT K D) (e, t, ()) b := fun Kn H vs ek h Q q => by
  obtain ⟨v, w, rfl, h1, h2⟩ := two_args h
  obtain ⟨a, cls, d, rfl, ka, A, hA, hc, hd⟩ := h1
  rw [xcls_eq hx, hD] at hA
  cases hA
  subst hc
  obtain ⟨p, ws, rfl, h3, h4⟩ := h2
  refine ⟨a, d, p, ws, _, b, rfl, ek _ _ ka, ?_, ek _ _ h3, Ct.is (τ := α × τ) h4, hk, q.fl ek⟩
  rcases hd with ⟨_, h1⟩ | ⟨dd, fs, h1, h3, _⟩
  · exact .inl h1
  · exact .inr ⟨dd, fs, h1, ek _ _ h3⟩
end
/-! ### tuple(x) of what may be a list or a tuple -/
def seqY (x : Dy) : Option (Tu Dy) := match x.d with
  | .list ds => some ⟨ds.map Dy.mk⟩
  | .tuple ds => some ⟨ds.map Dy.mk⟩
  | _ => none
theorem ofAll_dy : ∀ ds : List PyData, ofAll (α := Dy) ds = some (ds.map Dy.mk)
  | [] => rfl
  | d :: ds => by
    show (some (Dy.mk d)).bind (fun x => (ofAll ds).bind fun xs => some (x :: xs)) = _
    rw [ofAll_dy ds]
    rfl
theorem rc_tupleY {K : Fg} {x : Dy} {o : Tu Dy} (h : seqY x = some o) : RCV K (fun xs H Q => ∃ p ys, xs = [.ref p] ∧ ((SqL K H p ys ∧ ∀ l, H l = none → Q (.ref l) (upd H l (.tup ys))) ∨ (SqT K H p ys ∧ Q (.ref p) H))) (x, ()) o := fun Kn H vs ek h2 Q q => by
  obtain ⟨v, rfl, r⟩ := one_arg h2
  obtain ⟨d⟩ := x
  have r : Dq Kn v d := r
  cases r with
  | lst h3 h4 =>
    cases h
    exact ⟨_, _, rfl, .inl ⟨sq_of (ek _ _ h3), fun l hl => q _ (upd Kn l (.tup _)) _ (Gr.new ek hl) ⟨l, _, rfl, upd_same, paired_mono (Gr.new ek hl).kk (ofAll_un h4 (ofAll_dy _))⟩⟩⟩
  | tup h3 h4 =>
    cases h
    exact ⟨_, _, rfl, .inr ⟨.inl (.inl (ek _ _ h3)), q _ Kn _ (Gr.refl ek) ⟨_, _, rfl, h3, ofAll_un h4 (ofAll_dy _)⟩⟩⟩
  | _ => cases h
theorem rc_tupleT {K : Fg} {α : Type} [Rp α] {x : Tu α} : RCV K (fun xs H Q => ∃ p ys, xs = [.ref p] ∧ ((SqL K H p ys ∧ ∀ l, H l = none → Q (.ref l) (upd H l (.tup ys))) ∨ (SqT K H p ys ∧ Q (.ref p) H))) (x, ()) x := fun Kn H vs ek h2 Q q => by
  obtain ⟨v, rfl, p, ws, rfl, h3, h4⟩ := one_arg h2
  exact ⟨p, ws, rfl, .inr ⟨.inl (.inl (ek _ _ h3)), q _ Kn _ (Gr.refl ek) ⟨p, ws, rfl, h3, h4⟩⟩⟩
theorem rc_tupleF {K : Fg} {α : Type} [Rp α] {x : Fz α} : RCV K (fun xs H Q => ∃ p ys, xs = [.ref p] ∧ ((SqL K H p ys ∧ ∀ l, H l = none → Q (.ref l) (upd H l (.tup ys))) ∨ (SqT K H p ys ∧ Q (.ref p) H))) (x, ()) (Tu.mk x.l) := fun Kn H vs ek h Q q => by
  obtain ⟨v, rfl, p, ws, rfl, h1, h2⟩ := one_arg h
  exact ⟨p, ws, rfl, .inl ⟨ex_l ek h1, fun l hl => q _ (upd Kn l (.tup ws)) _ (Gr.new ek hl) ⟨l, ws, rfl, upd_same, paired_mono (Gr.new ek hl).kk h2⟩⟩⟩
/-- e + xs, xs of one's own -/
theorem en_catOwnR {K : Fg} {F Kn0 : Hp} {sl : List Sl} {ow : List Ow} {α : Type} [Rp α] {te : TE} {xs ys zs : List α} {i j : Nat} {p : Addr} (hi : sl[i]? = some (.at p)) (hj : ow[j]? = some (ol p ys)) (h : EV K F Kn0 sl ow te xs) (hz : catO xs ys = some zs) : EN K F Kn0 sl ow (tOp rCat te (tVar i)) zs := fun σ Kn H s Q q => by
  unfold catO at hz
  split at hz
  case isFalse => cases hz
  rename_i hb
  cases hz
  obtain ⟨o, h1, h2⟩ := s.sl.get hi
  obtain ⟨f1, f2, ws, f3, f4⟩ := s.ow.each _ (List.mem_of_getElem? hj)
  refine h σ Kn H s _ fun v Kn1 H1 g1 r1 => ⟨.ref p, by rw [h1]; exact congrArg some h2, ?_⟩
  obtain ⟨p2, ws2, rfl, h5, h6⟩ := r1
  exact ⟨p2, p, ws2, ws, rfl, rfl, g1.kh _ _ h5, g1.hh _ _ f3, by rw [paired_len f4, paired_len h6]; exact le_line hb, fun l hl =>
    q l _ Kn1 _ (g1.trans (Gr.newU g1.kh hl)) (fresh_back g1.hh hl) (fresh_back g1.kh hl) upd_same (paired_append h6 (paired_mono g1.kk f4))⟩
/-- xs.pop(0) -/
def popO0 {α : Type} : List α → Option (α × List α)
  | [] => none
  | x :: r => some (x, r)
theorem em_pop0 {K : Fg} {F Kn0 : Hp} {sl : List Sl} {ow : List Ow} {α : Type} [Rp α] {xs xs' : List α} {x : α} {i j : Nat} {p : Addr} (hi : sl[i]? = some (.at p)) (hj : ow[j]? = some (ol p xs)) (hx : popO0 xs = some (x, xs')) : EM K F Kn0 sl ow (tBM K "list" rPopAt (tVar i) (tCons (tC (.int 0)) tNil)) (ow.set j (ol p xs')) x := fun σ Kn H s Q q => by
  obtain ⟨o, h1, h2⟩ := s.sl.get hi
  obtain ⟨f1, f2, ws, f3, f4⟩ := s.ow.each _ (List.mem_of_getElem? hj)
  cases xs with
  | nil => cases hx
  | cons y r =>
    cases hx
    cases f4 with
    | @cons v _ vs _ rv rr =>
      refine ⟨.ref p, by rw [h1]; exact congrArg some h2, Or.inl ⟨rfl, _, sq_of f3⟩, p, _, 0, 0, v, rfl, rfl, f3, by decide, by decide, ?_, rfl, q v Kn _ (Ex.refl _) ?_ rv⟩
      · unfold seqIndex?
        simp
      · exact s.write hj (Ex.refl _) (upd_in s.ek f2) (fun q hq _ => upd_ne hq) (fun _ _ h => h) upd_same rr
/-- xs.pop(n) -/
def popNO {α : Type} (xs : List α) (n : Int) : Option (α × List α) := if 0 ≤ n ∧ n < 1000000 ∧ n < (xs.length : Int) then (xs[n.toNat]?).map fun x => (x, xs.eraseIdx n.toNat) else none
theorem paired_erase {α : Type} {R : V → α → Prop} : ∀ {ws : List V} {xs : List α} (k : Nat), Paired R ws xs → Paired R (ws.eraseIdx k) (xs.eraseIdx k)
  | _, _, _, .nil => .nil
  | _, _, 0, .cons _ t => t
  | _, _, k + 1, .cons h t => .cons h (paired_erase k t)
theorem em_popN {K : Fg} {F Kn0 : Hp} {sl : List Sl} {ow : List Ow} {α : Type} [Rp α] {te : TE} {xs xs' : List α} {x : α} {n : Int} {i j : Nat} {p : Addr} (hi : sl[i]? = some (.at p)) (hj : ow[j]? = some (ol p xs)) (hn : EV K F Kn0 sl ow te n) (hx : popNO xs n = some (x, xs')) : EM K F Kn0 sl ow (tBM K "list" rPopAt (tVar i) (tCons te tNil)) (ow.set j (ol p xs')) x := fun σ Kn H s Q q => by
  obtain ⟨o, h1, h2⟩ := s.sl.get hi
  obtain ⟨_, _, ws0, f0, _⟩ := s.ow.each _ (List.mem_of_getElem? hj)
  refine ⟨.ref p, by rw [h1]; exact congrArg some h2, Or.inl ⟨rfl, ws0, sq_of f0⟩, hn σ Kn H s _ fun v Kn1 H1 g1 r1 => ?_⟩
  cases r1
  have s1 := s.grow g1
  obtain ⟨f1, f2, ws, f3, f4⟩ := s1.ow.each _ (List.mem_of_getElem? hj)
  unfold popNO at hx
  split at hx
  case isFalse => cases hx
  rename_i hc
  obtain ⟨c1, c2, c3⟩ := hc
  obtain ⟨y, hy, e⟩ := Option.map_eq_some_iff.mp hx
  cases e
  obtain ⟨v, hv, rv⟩ := paired_at f4 hy
  have hl := paired_len f4
  refine ⟨p, ws, n, n.toNat, v, rfl, rfl, f3, by omega, by omega, ?_, hv, q v Kn1 _ g1.kk ?_ rv⟩
  · unfold seqIndex?
    rw [if_neg (show ¬ n < 0 by omega)]
    rw [if_pos (by rw [Bool.and_eq_true, decide_eq_true_eq, decide_eq_true_eq, hl]; omega)]
  · exact s1.write hj (Ex.refl _) (upd_in s1.ek f2) (fun q hq _ => upd_ne hq) (fun _ _ h => h) upd_same (paired_erase _ f4)
end Wk
/-! Wperm: the objects of one's own, in another order -/
namespace Wk
open PySem PySem.Spec L2 Evl
section
variable {K : Fg} {F Kn0 : Hp} {sl : List Sl} {ow ow1 ow' : List Ow} {D : Ends}
theorem S.perm2 {σ : L2.St} {Kn H : Hp} (s : S K F Kn0 sl ow σ Kn H) (p : ow'.Perm ow) : S K F Kn0 sl ow' σ Kn H :=
  ⟨s.e0, s.ek, s.ef, s.sep, s.sl, ⟨fun o ho => s.ow.each o (p.mem_iff.mp ho), (p.map Ow.ad).nodup_iff.mpr s.ow.nd⟩⟩
theorem sn_perm (l : ow1.Sublist ow) (p : ow'.Perm ow1) (k : SN K F Kn0 sl ow' D) : SN K F Kn0 sl ow D := fun σ Kn H s => k σ Kn H ((s.sub l).perm2 p)
end
end Wk
set_option maxHeartbeats 4000000
/-! Wgrid2: a def that tells a new list of new lists; such a list lent where something new and flat is made; rows made longer -/
namespace Wk
open PySem PySem.Spec L2 Evl
/-- what is not None -/
class Nz (α : Type) [Rp α] [Fl α] : Prop where
  nz : ∀ a : α, Fl.toV a ≠ V.non
instance : Nz Int := ⟨fun _ z => nomatch z⟩
instance : Nz Str := ⟨fun _ z => nomatch z⟩
instance : Nz Bool := ⟨fun _ z => nomatch z⟩
def optV {α : Type} [Rp α] [Fl α] : Option α → V
  | none => .non
  | some x => Fl.toV x
instance {α : Type} [Rp α] [Fl α] [Nz α] : Fl (Option α) where
  toV := optV
  iff {K H v a} := by
    cases a with
    | none => exact Iff.rfl
    | some x =>
      constructor
      · intro h
        exact Fl.iff.mp h.2
      · intro h
        subst h
        exact ⟨Nz.nz x, Fl.iff.mpr rfl⟩
section
variable {K : Fg} {F Kn0 : Hp} {sl sl' : List Sl} {ow ow1 base : List Ow} {α β γ τ : Type} [Rp α] [Rp β] [Rp γ] [Tp τ] {D : Ends} {t : TS} {te tb tb1 tb2 : TE} {tt : TT} {b : Bool} {x : α} {i : Nat} {p : Addr} {ps : Nat → Addr} {xss : List (List α)} {σ : L2.St} {Kn H : Hp}
theorem flat_any [Fl γ] {H H' : Hp} {vs : List V} {xs : List γ} (h : Paired (rep K H) vs xs) : Paired (rep K H') vs xs := by
  have e := paired_fl h
  subst e
  exact fl_paired xs
theorem en_borQ [Fl γ] {zs : List γ} (hi : sl[i]? = some (.at p)) (ho : ow = base ++ gridO p ps xss) (hs : sl.set i (sv xss) = sl') (h : EN K F Kn0 sl' base te zs) : EN K F Kn0 sl ow te zs := fun σ Kn H s Q q => by
  subst ho hs
  obtain ⟨Kn1, _, s1⟩ := s.knowGrid hi
  exact h σ _ H s1 Q fun l ws Kn' H' g hl kl hw r => q l ws Kn H' ⟨Ex.refl _, g.hh, s.ek.trans g.hh, fun _ _ h => h⟩ hl (fresh_back s.ek hl) hw (flat_any r)
theorem rows_mem {ps : Nat → Addr} : ∀ {xss : List (List α)} {k : Nat} {o : Ow}, o ∈ rowsO ps k xss → ∃ j xs, xs ∈ xss ∧ o = ol (ps j) xs
  | [], _, _, h => nomatch h
  | y :: r, k, o, h => by
    rcases List.mem_cons.mp h with rfl | h
    · exact ⟨k, y, List.mem_cons_self, rfl⟩
    · obtain ⟨j, xs, h1, h2⟩ := rows_mem h
      exact ⟨j, xs, List.mem_cons_of_mem _ h1, h2⟩
theorem newG_flat [Fl γ] {zss : List (List γ)} {H Kn1 Kn2 H' : Hp} {p : Addr} {ps : Nat → Addr} (n : NewG K H Kn1 H' p ps zss) (e : Ex Kn2 H) : NewG K H Kn2 H' p ps zss := ⟨fun o ho => by
  obtain ⟨h1, h2, h3⟩ := n.each o ho
  refine ⟨h1, fresh_back e h1, ?_⟩
  rcases List.mem_cons.mp ho with rfl | ho
  · obtain ⟨ws, h4, h5⟩ := h3
    exact ⟨ws, h4, flat_any h5⟩
  · obtain ⟨j, xs, _, rfl⟩ := rows_mem ho
    obtain ⟨ws, h4, h5⟩ := h3
    exact ⟨ws, h4, flat_any h5⟩, n.nd⟩
theorem eq_borQ [Fl γ] {zss : List (List γ)} (hi : sl[i]? = some (.at p)) (ho : ow = base ++ gridO p ps xss) (hs : sl.set i (sv xss) = sl') (h : EQ2 K F Kn0 sl' base te zss) : EQ2 K F Kn0 sl ow te zss := fun σ Kn H s Q q => by
  subst ho hs
  obtain ⟨Kn1, _, s1⟩ := s.knowGrid hi
  exact h σ _ H s1 Q fun p' ps' Kn' H' g n => q p' ps' Kn H' ⟨Ex.refl _, g.hh, s.ek.trans g.hh, fun _ _ h => h⟩ (newG_flat n s.ek)
/-- [e], a new list of one new list -/
theorem eq_one {xs : List α} (h : EN K F Kn0 sl ow te xs) : EQ2 K F Kn0 sl ow (tLst (tCons te tNil)) [xs] := fun σ Kn H s Q q =>
  h σ Kn H s _ fun a ws Kn1 H1 g1 ha ka hw r1 => ⟨(Nat.le_of_ble_eq_true rfl), fun p hp => by
    have hne : p ≠ a := fun z => by rw [z, hw] at hp; cases hp
    refine q p (fun _ => a) Kn1 _ (g1.trans (Gr.newU g1.kh hp)) ⟨fun o ho => ?_, ?_⟩
    · rcases List.mem_cons.mp ho with rfl | ho
      · exact ⟨fresh_back g1.hh hp, fresh_back g1.kh hp, [.ref a], upd_same, .cons rfl .nil⟩
      · cases List.mem_singleton.mp ho
        refine ⟨ha, ka, ws, ?_, r1⟩
        show upd H1 p _ a = _
        rw [upd_ne (Ne.symm hne)]
        exact hw
    · show [p, a].Nodup
      exact List.nodup_cons.mpr ⟨(fun h => hne (List.mem_singleton.mp h)), List.nodup_cons.mpr ⟨(fun h => nomatch h), List.nodup_nil⟩⟩⟩
theorem S.appG {xs : List α} {ws : List V} {a : Addr} (s : S K F Kn0 sl (ow ++ gridO p ps xss) σ Kn H) (fa : F a = none) (ka : Kn a = none) (na : ∀ o ∈ ow ++ gridO p ps xss, o.ad ≠ a) (hw : H a = some (.lst ws)) (r : Paired (rep K Kn) ws xs) :
    ∃ qs us, H p = some (.lst us) ∧ us.length = xss.length ∧ S K F Kn0 sl (ow ++ gridO p qs (xss ++ [xs])) σ Kn (upd H p (.lst (us ++ [.ref a]))) := by
  obtain ⟨d1, d2, us, d3, d4⟩ := s.ow.each (ol p (ptsO ps xss.length)) (List.mem_of_getElem? (at_mid _ _ _))
  have d3 : H p = some (.lst us) := d3
  have d4 : Paired (rep K Kn) us (ptsO ps xss.length) := d4
  have ul := paired_len d4
  rw [pts_len] at ul
  let qs : Nat → Addr := fun k => if k = xss.length then a else ps k
  have eg : gridO p ps xss = ol p (ptsO ps xss.length) :: rowsO qs 0 xss := by
    unfold gridO
    rw [rows_congr (ps := ps) (qs := qs) fun j _ h => (if_neg (show ¬ j = xss.length by omega)).symm]
  have s5 := s.own fa ka na hw r
  have s6 := s5.perm (ow1 := ow ++ (ol p (ptsO ps xss.length) :: (rowsO qs 0 xss ++ [ol a xs]))) (by
    rw [eg]
    have : ow ++ (ol p (ptsO ps xss.length) :: (rowsO qs 0 xss ++ [ol a xs])) = (ow ++ (ol p (ptsO ps xss.length) :: rowsO qs 0 xss)) ++ [ol a xs] := by
      rw [List.append_assoc]
      rfl
    rw [this]
    exact (List.perm_append_singleton _ _).symm)
  have epts : ptsO qs (xss.length + 1) = ptsO ps xss.length ++ [Adr.mk a] := by
    unfold ptsO
    rw [List.range_succ, List.map_append]
    refine congr (congrArg _ (List.map_congr_left fun k hk => ?_)) ?_
    · rw [List.mem_range] at hk
      show Adr.mk (if k = xss.length then a else ps k) = _
      rw [if_neg (by omega)]
    · show [Adr.mk (if xss.length = xss.length then a else ps xss.length)] = _
      rw [if_pos rfl]
  have hk4 : Kn p = none := d2
  have s7 := s6.write (p := p) (xs' := ptsO qs (xss.length + 1)) (ws := us ++ [.ref a]) (H' := upd H p (.lst (us ++ [.ref a]))) (at_mid _ _ _) (Ex.refl _) (upd_in s.ek hk4) (fun q hq _ => upd_ne hq) (fun _ _ h => h) upd_same (by
    rw [epts]
    exact paired_append d4 (.cons rfl .nil))
  have e8 : (ow ++ (ol p (ptsO ps xss.length) :: (rowsO qs 0 xss ++ [ol a xs]))).set ow.length (ol p (ptsO qs (xss.length + 1))) = ow ++ gridO p qs (xss ++ [xs]) := by
    rw [List.set_append_right _ _ (Nat.le_refl _), Nat.sub_self]
    show ow ++ (ol p (ptsO qs (xss.length + 1)) :: (rowsO qs 0 xss ++ [ol a xs])) = ow ++ (ol p (ptsO qs (xss ++ [xs]).length) :: rowsO qs 0 (xss ++ [xs]))
    rw [rows_app, Nat.zero_add, List.length_append, show qs xss.length = a from if_pos rfl]
    rfl
  rw [e8] at s7
  exact ⟨qs, us, d3, ul, s7⟩
/-- rows.append(e), e a new list -/
theorem sb_appQ {xs : List α} {xss' : List (List α)} (hi : sl[i]? = some (.at p)) (ho : ow = base ++ gridO p ps xss) (h : EN K F Kn0 sl ow te xs) (hx : appO xss xs = some xss') (k : ∀ qs, SN K F Kn0 sl (base ++ gridO p qs xss') D) : SB K F Kn0 sl ow D (tDrop (tBM K "list" rAppend (tVar i) (tCons te tNil))) := fun σ Kn H s => by
  subst ho
  obtain ⟨hl, rfl⟩ := appO_some hx
  obtain ⟨o, h1, h2⟩ := s.sl.get hi
  obtain ⟨_, _, ws0, f0, _⟩ := s.ow.each (ol p (ptsO ps xss.length)) (List.mem_of_getElem? (at_mid _ _ _))
  refine ⟨.ref p, by rw [h1]; exact congrArg some h2, Or.inl ⟨rfl, ws0, sq_of f0⟩, h σ Kn H s _ fun a ws Kn1 H1 g1 ha ka hw r1 => ?_⟩
  obtain ⟨qs, us, e1, e2, s2⟩ := (s.grow g1).appG (fresh_back s.ef ha) ka (owned_ne s ha) hw r1
  exact ⟨p, us, .ref a, rfl, rfl, e1, by rw [e2]; exact lt_line hl, k qs _ Kn1 _ s2⟩
/-- one of the rows is another one now -/
def rowG (xss : List (List α)) (n : Int) (f : List α → Option (List α)) : Option (List (List α)) := (ixN xss.length n).bind fun k => (xss[k]?).bind fun r => (f r).map fun r' => xss.set k r'
theorem rowG_some {n : Int} {f : List α → Option (List α)} {xss' : List (List α)} (h : rowG xss n f = some xss') : ∃ k r r', ixN xss.length n = some k ∧ xss[k]? = some r ∧ f r = some r' ∧ xss' = xss.set k r' := by
  unfold rowG at h
  obtain ⟨k, h1, h⟩ := bind_some h
  obtain ⟨r, h2, h⟩ := bind_some h
  obtain ⟨r', h3, rfl⟩ := Option.map_eq_some_iff.mp h
  exact ⟨k, r, r', h1, h2, h3, rfl⟩
theorem S.rowAt {k : Nat} {n : Int} {r : List α} (s : S K F Kn0 sl (base ++ gridO p ps xss) σ Kn H) (h1 : ixN xss.length n = some k) (h2 : xss[k]? = some r) : ∃ us, H p = some (.lst us) ∧ atI us n = some (.ref (ps k)) ∧ ∃ ws, H (ps k) = some (.lst ws) ∧ Kn (ps k) = none ∧ Paired (rep K Kn) ws r := by
  have hjl : k < xss.length := (List.getElem?_eq_some_iff.mp h2).1
  obtain ⟨f1, f2, us, f3, f4⟩ := s.ow.each (ol p (ptsO ps xss.length)) (List.mem_of_getElem? (at_mid _ _ _))
  have f4 : Paired (rep K Kn) us (ptsO ps xss.length) := f4
  obtain ⟨u, q1, q2⟩ := paired_at f4 (pts_at (ps := ps) hjl)
  have q2 : u = .ref (ps k) := q2
  subst q2
  obtain ⟨d1, d2, ws, d3, d4⟩ := s.ow.each _ (List.mem_of_getElem? (grid_at (base := base) (p := p) (ps := ps) h2))
  refine ⟨us, f3, ?_, ws, d3, d2, d4⟩
  unfold atI
  rw [paired_len f4, pts_len, h1]
  exact q1
/-- rows[n].append(e) -/
theorem sb_appRow {n : Int} {xss' : List (List α)} (hi : sl[i]? = some (.at p)) (ho : ow = base ++ gridO p ps xss) (hn : EV K F Kn0 sl ow tb n) (h : EV K F Kn0 sl ow te x) (hx : rowG xss n (fun r => appO r x) = some xss') (k : SN K F Kn0 sl (base ++ gridO p ps xss') D) :
    SB K F Kn0 sl ow D (tDrop (tBM K "list" rAppend (tOp (rIxL K) (tVar i) tb) (tCons te tNil))) := fun σ Kn H s => by
  subst ho
  obtain ⟨o, h1, h2⟩ := s.sl.get hi
  obtain ⟨kk, r, r', e1, e2, e3, rfl⟩ := rowG_some hx
  obtain ⟨hl, rfl⟩ := appO_some e3
  have hjl : kk < xss.length := (List.getElem?_eq_some_iff.mp e2).1
  refine ⟨.ref p, by rw [h1]; exact congrArg some h2, hn σ Kn H s _ fun w Kn2 H2 g2 r2 => ?_⟩
  cases r2
  have s2 := s.grow g2
  obtain ⟨us, q1, q2, ws, q3, q4, q5⟩ := s2.rowAt e1 e2
  refine ⟨p, us, n, .ref (ps kk), rfl, rfl, sq_of q1, q2, Or.inl ⟨rfl, ws, sq_of q3⟩, h σ Kn2 H2 s2 _ fun v Kn3 H3 g3 r3 => ?_⟩
  have s3 := s2.grow g3
  have hk := g3.sp _ (ne_none_of q3) q4
  refine ⟨ps kk, ws, v, rfl, rfl, g3.hh _ _ q3, by rw [paired_len q5]; exact lt_line hl, k _ Kn3 _ ?_⟩
  have := s3.write (grid_at (base := base) (p := p) (ps := ps) e2) (Ex.refl _) (upd_in g3.kh hk) (fun q hq _ => upd_ne hq) (fun _ _ h => h) upd_same (paired_append (paired_mono g3.kk q5) (.cons r3 .nil))
  rw [grid_set hjl] at this
  exact this
/-- rows[n].clear() -/
theorem sb_clrRow {n : Int} {xss' : List (List α)} (hi : sl[i]? = some (.at p)) (ho : ow = base ++ gridO p ps xss) (hn : EV K F Kn0 sl ow tb n) (hx : rowG xss n (fun _ => some []) = some xss') (k : SN K F Kn0 sl (base ++ gridO p ps xss') D) :
    SB K F Kn0 sl ow D (tDrop (tBM0 K "list" rClear (tOp (rIxL K) (tVar i) tb))) := fun σ Kn H s => by
  subst ho
  obtain ⟨o, h1, h2⟩ := s.sl.get hi
  obtain ⟨kk, r, r', e1, e2, e3, rfl⟩ := rowG_some hx
  cases e3
  have hjl : kk < xss.length := (List.getElem?_eq_some_iff.mp e2).1
  refine ⟨.ref p, by rw [h1]; exact congrArg some h2, hn σ Kn H s _ fun w Kn2 H2 g2 r2 => ?_⟩
  cases r2
  have s2 := s.grow g2
  obtain ⟨us, q1, q2, ws, q3, q4, q5⟩ := s2.rowAt e1 e2
  refine ⟨p, us, n, .ref (ps kk), rfl, rfl, sq_of q1, q2, Or.inl ⟨rfl, ws, sq_of q3⟩, ps kk, ws, rfl, rfl, q3, k _ Kn2 _ ?_⟩
  have := s2.write (xs' := ([] : List α)) (grid_at (base := base) (p := p) (ps := ps) e2) (Ex.refl _) (upd_in g2.kh q4) (fun q hq _ => upd_ne hq) (fun _ _ h => h) upd_same .nil
  rw [grid_set hjl] at this
  exact this
/-! a def that tells one -/
def PGr (K : Fg) (f : τ → Option (List (List α))) : Sp := fun vs H Q _ => ∃ Kn t r, Ex Kn H ∧ rept K Kn vs t ∧ f t = some r ∧ ∀ p ps Kn' H', Gr Kn H Kn' H' → NewG K H Kn' H' p ps r → Q (.ref p) H'
def RGr (K : Fg) (F Kn0 : Hp) (R : VK) (xss : List (List α)) : Prop := ∀ p ps Kn H, S K F Kn0 [] (gridO p ps xss) [] Kn H → R (.ref p) H
theorem sb_retGr {R : VK} (hi : sl[i]? = some (.at p)) (ho : ow = base ++ gridO p ps xss) (q : RGr K F Kn0 R xss) (hR : D.rt = R := by rfl) : SB K F Kn0 sl ow D (tRet (tVar i)) := fun σ Kn H s => by
  subst hR ho
  obtain ⟨o, h1, h2⟩ := s.sl.get hi
  exact ⟨.ref p, by rw [h1]; exact congrArg some h2, q p ps Kn H (s.sub (List.sublist_append_right _ _)).fin⟩
theorem rgr_of {H Kn : Hp} {r : List (List α)} {Q : VK} (q : ∀ p ps Kn' H', Gr Kn H Kn' H' → NewG K H Kn' H' p ps r → Q (.ref p) H') : RGr K H Kn Q r := fun p ps Kn' H' s =>
  q p ps Kn' H' ⟨s.e0, s.ef, s.ek, s.sep⟩ ⟨fun o ho => s.ow.each o ho, s.ow.nd⟩
theorem eq_call {f : τ → Option (List (List α))} {r : List (List α)} {ta : TA} {t : τ} {E : XK} (h : EA K F Kn0 sl ow ta t) (hf : f t = some r) : EQ2 K F Kn0 sl ow (tCall (PGr K f) [] E ta) r := fun σ Kn H s Q q =>
  h σ Kn H s _ fun vs Kn1 H1 g1 r1 => by
    show PGr K f (vs ++ []) H1 Q E
    rw [List.append_nil]
    exact ⟨Kn1, t, r, g1.kh, r1, hf, fun p ps Kn' H' g' n => q p ps Kn' H' (g1.trans g') ⟨fun o ho => ⟨fresh_back g1.hh (n.each o ho).1, (n.each o ho).2⟩, n.nd⟩⟩
/-- known at once -/
theorem EQ2.ev (h : EQ2 K F Kn0 sl ow te xss) : EV K F Kn0 sl ow te xss := fun σ Kn H s Q q => h σ Kn H s Q fun p ps Kn' H' g n => by
  have s1 : S K H Kn [] ([] ++ gridO p ps xss) [] Kn' H' := ⟨g.kk, g.kh, g.hh, g.sp, trivial, ⟨fun o ho => n.each o ho, n.nd⟩⟩
  have s2 : S K H Kn [.at p] ([] ++ gridO p ps xss) [some (.ref p)] Kn' H' := ⟨s1.e0, s1.ek, s1.ef, s1.sep, ⟨rfl, trivial⟩, s1.ow⟩
  obtain ⟨Kn2, e2, s3⟩ := s2.knowGrid (i := 0) rfl
  obtain ⟨o, e3, v, e4, e5⟩ := s3.sl.get (i := 0) rfl
  cases e3
  cases e4
  exact q _ Kn2 H' ⟨s3.e0, s3.ef, s3.ek, s3.sep⟩ e5
end
section
variable {K : Fg} {F Kn0 : Hp} {α : Type} [Rp α] {xss : List (List α)}
theorem RGr.base {R : VK} {Kn1 : Hp} (q : RGr K F Kn0 R xss) (b : Bs F Kn0 Kn1) : RGr K F Kn1 R xss := fun p ps Kn H s => q p ps Kn H (s.unbase b)
end
end Wk
set_option maxHeartbeats 4000000
/-! Wsetd: a dict of one's own whose values are lists of one's own; d.setdefault(k, []).append(x) -/
namespace Wk
open PySem PySem.Spec L2 Evl
section
variable {K : Fg} {F Kn0 : Hp} {sl sl' : List Sl} {ow base : List Ow} {κ α : Type} [Rp κ] [K1 κ] [DecidableEq κ] [Rp α] {D : Ends} {te tk : TE} {x : α} {k : κ} {i : Nat} {p : Addr} {ps : Nat → Addr} {σ : L2.St} {Kn H : Hp}
def kysD (ps : Nat → Addr) : Nat → List (κ × List α) → List (κ × Adr)
  | _, [] => []
  | n, kv :: r => (kv.1, ⟨ps n⟩) :: kysD ps (n + 1) r
def dlO (p : Addr) (ps : Nat → Addr) (kvs : List (κ × List α)) : List Ow := oo p (Dc.mk (kysD ps 0 kvs)) :: rowsO ps 0 (kvs.map (·.2))
def sdIx {β : Type} : List (κ × β) → κ → Option Nat
  | [], _ => none
  | kv :: r, k => if kv.1 = k then some 0 else (sdIx r k).map (· + 1)
def sdO (d : Dc κ (List α)) (k : κ) (x : α) : Option (Dc κ (List α)) := if d.l.length < 1000000 then match sdIx d.l k with
  | some j => (d.l[j]?).bind fun kv => (appO kv.2 x).map fun r => ⟨d.l.set j (kv.1, r)⟩
  | none => some ⟨d.l ++ [(k, [x])]⟩ else none
theorem kys_len : ∀ {kvs : List (κ × List α)} {n : Nat}, (kysD ps n kvs).length = kvs.length
  | [], _ => rfl
  | kv :: r, n => by
    show (kysD ps (n + 1) r).length + 1 = r.length + 1
    rw [kys_len]
theorem kys_get : ∀ {kvs : List (κ × List α)} {n : Nat}, getD (kysD ps n kvs) k = (sdIx kvs k).map fun j => Adr.mk (ps (n + j))
  | [], _ => rfl
  | kv :: r, n => by
    have ih := kys_get (kvs := r) (n := n + 1)
    unfold getD at ih ⊢
    unfold sdIx
    show ((List.find? (fun kv => decide (kv.1 = k)) ((kv.1, Adr.mk (ps n)) :: kysD ps (n + 1) r)).map (·.2)) = _
    by_cases e : kv.1 = k
    · rw [List.find?_cons_of_pos (by simpa using e), if_pos e]
      rfl
    · rw [List.find?_cons_of_neg (by simpa using e), if_neg e, ih, Option.map_map]
      refine congrFun (congrArg _ (funext fun j => ?_)) _
      show Adr.mk (ps (n + 1 + j)) = Adr.mk (ps (n + (j + 1)))
      rw [show n + 1 + j = n + (j + 1) by omega]
theorem sdIx_at {β : Type} : ∀ {kvs : List (κ × β)} {j : Nat}, sdIx kvs k = some j → ∃ y, kvs[j]? = some (k, y)
  | [], _, h => nomatch h
  | kv :: r, j, h => by
    unfold sdIx at h
    by_cases e : kv.1 = k
    · rw [if_pos e] at h
      cases h
      exact ⟨kv.2, by rw [← e]; rfl⟩
    · rw [if_neg e] at h
      obtain ⟨m, hm, rfl⟩ := Option.map_eq_some_iff.mp h
      obtain ⟨y, hy⟩ := sdIx_at (kvs := r) hm
      exact ⟨y, hy⟩
theorem kys_set : ∀ {kvs : List (κ × List α)} {n j : Nat} {k : κ} {y y' : List α}, kvs[j]? = some (k, y) → kysD ps n (kvs.set j (k, y')) = kysD ps n kvs
  | [], _, _, _, _, _, h => by simp at h
  | kv :: r, n, 0, k, y, y', h => by
    cases h
    rfl
  | kv :: r, n, j + 1, k, y, y', h => by
    show (kv.1, Adr.mk (ps n)) :: kysD ps (n + 1) (r.set j (k, y')) = (kv.1, Adr.mk (ps n)) :: kysD ps (n + 1) r
    rw [kys_set (kvs := r) (n := n + 1) (j := j) h]
theorem kys_congr {qs : Nat → Addr} : ∀ {kvs : List (κ × List α)} {n : Nat}, (∀ j, n ≤ j → j < n + kvs.length → ps j = qs j) → kysD ps n kvs = kysD qs n kvs
  | [], _, _ => rfl
  | kv :: r, n, h => by
    show (kv.1, Adr.mk (ps n)) :: kysD ps (n + 1) r = (kv.1, Adr.mk (qs n)) :: kysD qs (n + 1) r
    rw [h n (Nat.le_refl _) (by rw [List.length_cons]; omega), kys_congr fun j h1 h2 => h j (by omega) (by rw [List.length_cons]; omega)]
theorem kys_app : ∀ {kvs : List (κ × List α)} {n : Nat} {kv : κ × List α}, kysD ps n (kvs ++ [kv]) = kysD ps n kvs ++ [(kv.1, Adr.mk (ps (n + kvs.length)))]
  | [], n, kv => rfl
  | a :: r, n, kv => by
    show (a.1, Adr.mk (ps n)) :: kysD ps (n + 1) (r ++ [kv]) = (a.1, Adr.mk (ps n)) :: (kysD ps (n + 1) r ++ [(kv.1, Adr.mk (ps (n + (r.length + 1))))])
    rw [kys_app, show n + 1 + r.length = n + (r.length + 1) by omega]
theorem dl_at {kvs : List (κ × List α)} {j : Nat} {y : List α} (h : kvs[j]? = some (k, y)) : (base ++ dlO p ps kvs)[base.length + (j + 1)]? = some (ol (ps j) y) := by
  rw [List.getElem?_append_right (by omega), show base.length + (j + 1) - base.length = j + 1 by omega]
  show (rowsO ps 0 (kvs.map (·.2)))[j]? = _
  rw [rows_at (xs := y) (by rw [List.getElem?_map, h]; rfl), Nat.zero_add]
theorem dl_set {kvs : List (κ × List α)} {j : Nat} {y y' : List α} (h : kvs[j]? = some (k, y)) : (base ++ dlO p ps kvs).set (base.length + (j + 1)) (ol (ps j) y') = base ++ dlO p ps (kvs.set j (k, y')) := by
  rw [List.set_append_right _ _ (by omega), show base.length + (j + 1) - base.length = j + 1 by omega]
  refine congrArg (base ++ ·) ?_
  show oo p (Dc.mk (kysD ps 0 kvs)) :: (rowsO ps 0 (kvs.map (·.2))).set j (ol (ps j) y') = oo p (Dc.mk (kysD ps 0 (kvs.set j (k, y')))) :: rowsO ps 0 ((kvs.set j (k, y')).map (·.2))
  rw [kys_set h, List.map_set]
  have := rows_set (ps := ps) (xss := kvs.map (·.2)) (k := 0) (j := j) (xs := y')
  rw [Nat.zero_add] at this
  rw [this]
theorem dl_mid {kvs : List (κ × List α)} : (base ++ dlO p ps kvs)[base.length]? = some (oo p (Dc.mk (kysD ps 0 kvs))) := by
  rw [List.getElem?_append_right (Nat.le_refl _), Nat.sub_self]
  rfl
/-- the dict, and the lists of its values -/
theorem S.dlHas {kvs : List (κ × List α)} (s : S K F Kn0 sl (base ++ dlO p ps kvs) σ Kn H) : ∃ ws, Kn p = none ∧ H p = some (.dK ws) ∧ DK K Kn ws (kysD ps 0 kvs) := by
  obtain ⟨f1, f2, o1, f3, ws, f4, f5⟩ := s.ow.each _ (List.mem_of_getElem? (dl_mid (base := base) (p := p) (ps := ps) (kvs := kvs)))
  subst f4
  exact ⟨ws, f2, f3, f5⟩
/-- d.setdefault(k, []).append(e) -/
theorem sb_setd {kvs kvs' : List (κ × List α)} (hi : sl[i]? = some (.at p)) (ho : ow = base ++ dlO p ps kvs) (hk : EV K F Kn0 sl ow tk k) (h : ∀ ow2, EV K F Kn0 sl ow2 te x) (hx : sdO (Dc.mk kvs) k x = some (Dc.mk kvs')) (n : ∀ qs, SN K F Kn0 sl (base ++ dlO p qs kvs') D) :
    SB K F Kn0 sl ow D (tDrop (tBM K "list" rAppend (tDSetd (tVar i) tk (tLst tNil)) (tCons te tNil))) := fun σ Kn H s => by
  subst ho
  obtain ⟨o, h1, h2⟩ := s.sl.get hi
  obtain ⟨ws0, d1, d2, d3⟩ := s.dlHas
  refine ⟨.ref p, by rw [h1]; exact congrArg some h2, p, rfl, .inl ⟨_, Rd.of d2⟩, hk σ Kn H s _ fun w Kn1 H1 g1 r1 => ⟨Nat.le_of_ble_eq_true rfl, fun q hq => ?_⟩⟩
  have s1 := s.grow g1
  have hp1 : H1 p = some (.dK ws0) := g1.hh _ _ d2
  have npq : p ≠ q := fun z => by rw [z, hq] at hp1; cases hp1
  have s2 := s1.grow (Gr.newU (o := .lst []) s1.ek hq)
  have kq : Kn1 q = none := fresh_back s1.ek hq
  have fq : F q = none := fresh_back s1.ef hq
  obtain ⟨ws, e1, e2, e3⟩ := s2.dlHas
  have hl : ws.length = kvs.length := by rw [e3.length]; exact kys_len
  unfold sdO at hx
  split at hx
  case isFalse => cases hx
  rename_i hlen
  refine ⟨ws, K1.key k, e2, K1.iff r1, by rw [hl]; exact lt_line hlen, fun v hv => ?_, fun hv => ?_⟩
  · have hv : valV ws (Ky.key k) = some v := hv
    rcases e3.get k with ⟨_, z⟩ | ⟨y, v2, z1, z2, z3⟩
    · rw [z] at hv
      cases hv
    · rw [z2] at hv
      cases hv
      rw [kys_get] at z1
      obtain ⟨j, hj, rfl⟩ := Option.map_eq_some_iff.mp z1
      have z3 : v = .ref (ps (0 + j)) := z3
      rw [Nat.zero_add] at z3
      subst z3
      obtain ⟨y, hy⟩ := sdIx_at hj
      have hx : (match sdIx kvs k with | some j => (kvs[j]?).bind fun kv => (appO kv.2 x).map fun r => (Dc.mk (kvs.set j (kv.1, r)) : Dc κ (List α)) | none => some ⟨kvs ++ [(k, [x])]⟩) = some (Dc.mk kvs') := hx
      rw [hj] at hx
      have hx : (kvs[j]?).bind (fun kv => (appO kv.2 x).map fun r => (Dc.mk (kvs.set j (kv.1, r)) : Dc κ (List α))) = some (Dc.mk kvs') := hx
      rw [hy] at hx
      obtain ⟨r, hr, er⟩ := Option.map_eq_some_iff.mp (show (appO y x).map (fun r => (Dc.mk (kvs.set j (k, r)) : Dc κ (List α))) = some (Dc.mk kvs') from hx)
      obtain ⟨hyl, rfl⟩ := appO_some hr
      cases er
      obtain ⟨a1, a2, ys, a3, a4⟩ := s2.ow.each _ (List.mem_of_getElem? (dl_at (base := base) (p := p) (ps := ps) hy))
      refine ⟨Or.inl ⟨rfl, ys, sq_of a3⟩, h _ σ Kn1 _ s2 _ fun u Kn3 H3 g3 r3 => ?_⟩
      have s3 := s2.grow g3
      have k3 := g3.sp _ (ne_none_of a3) a2
      refine ⟨ps j, ys, u, rfl, rfl, g3.hh _ _ a3, by rw [paired_len a4]; exact lt_line hyl, n ps _ Kn3 _ ?_⟩
      have := s3.write (dl_at (base := base) (p := p) (ps := ps) hy) (Ex.refl _) (upd_in g3.kh k3) (fun q hq _ => upd_ne hq) (fun _ _ h => h) upd_same (paired_append (paired_mono g3.kk a4) (.cons r3 .nil))
      rw [dl_set hy] at this
      exact this
  · have hv : valV ws (Ky.key k) = none := hv
    have hno : sdIx kvs k = none := by
      rcases e3.get k with ⟨z, _⟩ | ⟨y, v2, _, z2, _⟩
      · rw [kys_get] at z
        exact Option.map_eq_none_iff.mp z
      · rw [z2] at hv
        cases hv
    have hx : (match sdIx kvs k with | some j => (kvs[j]?).bind fun kv => (appO kv.2 x).map fun r => (Dc.mk (kvs.set j (kv.1, r)) : Dc κ (List α)) | none => some ⟨kvs ++ [(k, [x])]⟩) = some (Dc.mk kvs') := hx
    rw [hno] at hx
    cases hx
    let qs : Nat → Addr := fun m => if m = kvs.length then q else ps m
    have eq0 : base ++ dlO p ps kvs = base ++ (oo p (Dc.mk (kysD qs 0 kvs)) :: rowsO qs 0 (kvs.map (·.2))) := by
      unfold dlO
      rw [kys_congr (ps := ps) (qs := qs) (fun j _ h => (if_neg (show ¬ j = kvs.length by omega)).symm), rows_congr (ps := ps) (qs := qs) (fun j _ h => by
        rw [List.length_map] at h
        exact (if_neg (show ¬ j = kvs.length by omega)).symm)]
    have s5 := s2.own (xs := ([] : List α)) fq kq (owned_ne s1 hq) upd_same .nil
    have s6 := s5.perm (ow1 := base ++ (oo p (Dc.mk (kysD qs 0 kvs)) :: (rowsO qs 0 (kvs.map (·.2)) ++ [ol q ([] : List α)]))) (by
      rw [eq0]
      have : base ++ (oo p (Dc.mk (kysD qs 0 kvs)) :: (rowsO qs 0 (kvs.map (·.2)) ++ [ol q ([] : List α)])) = (base ++ (oo p (Dc.mk (kysD qs 0 kvs)) :: rowsO qs 0 (kvs.map (·.2)))) ++ [ol q ([] : List α)] := by
        rw [List.append_assoc]
        rfl
      rw [this]
      exact (List.perm_append_singleton _ _).symm)
    have e3' : DK K Kn1 ws (kysD qs 0 kvs) := by
      rw [← kys_congr (ps := ps) (qs := qs) (fun j _ h => (if_neg (show ¬ j = kvs.length by omega)).symm)]
      exact e3
    have gno : getD (kysD qs 0 kvs) k = none := by rw [kys_get, hno]; rfl
    have hput := DK.put (β := Adr) k (v := .ref q) (y := Adr.mk q) rfl e3'
    have eput : putD (kysD qs 0 kvs) k (Adr.mk q) = kysD qs 0 (kvs ++ [(k, ([] : List α))]) := by
      unfold putD
      rw [gno, if_neg (by decide), kys_app, Nat.zero_add, show qs kvs.length = q from if_pos rfl]
    rw [eput] at hput
    have s7 := s6.writeG (p := p) (o2 := oo p (Dc.mk (kysD qs 0 (kvs ++ [(k, ([] : List α))])))) (at_mid _ _ _) rfl rfl (Ex.refl _) (upd_in s2.ek e1) (fun q hq _ => upd_ne hq) (fun _ _ h => h) ⟨_, upd_same, _, rfl, hput⟩
    have e8 : (base ++ (oo p (Dc.mk (kysD qs 0 kvs)) :: (rowsO qs 0 (kvs.map (·.2)) ++ [ol q ([] : List α)]))).set base.length (oo p (Dc.mk (kysD qs 0 (kvs ++ [(k, ([] : List α))])))) = base ++ dlO p qs (kvs ++ [(k, [])]) := by
      rw [List.set_append_right _ _ (Nat.le_refl _), Nat.sub_self]
      show base ++ (oo p _ :: (rowsO qs 0 (kvs.map (·.2)) ++ [ol q ([] : List α)])) = base ++ (oo p _ :: rowsO qs 0 ((kvs ++ [(k, ([] : List α))]).map (·.2)))
      rw [List.map_append, List.map_cons, List.map_nil, rows_app, Nat.zero_add, List.length_map, show qs kvs.length = q from if_pos rfl]
    rw [e8] at s7
    have hat : (kvs ++ [(k, ([] : List α))])[kvs.length]? = some (k, []) := by simp
    obtain ⟨a1, a2, ys, a3, a4⟩ := s7.ow.each _ (List.mem_of_getElem? (dl_at (base := base) (p := p) (ps := qs) hat))
    have eqq : qs kvs.length = q := if_pos rfl
    rw [eqq] at a1 a2 a3
    refine ⟨Or.inl ⟨rfl, ys, sq_of a3⟩, h _ σ Kn1 _ s7 _ fun u Kn3 H3 g3 r3 => ?_⟩
    have s8 := s7.grow g3
    have k3 := g3.sp _ (ne_none_of a3) a2
    refine ⟨q, ys, u, rfl, rfl, g3.hh _ _ a3, by rw [paired_len a4]; exact lt_line (Nat.zero_lt_succ _), n qs _ Kn3 _ ?_⟩
    have := s8.write (p := q) (by rw [← eqq]; exact dl_at (base := base) (p := p) (ps := qs) hat) (Ex.refl _) (upd_in g3.kh k3) (fun q hq _ => upd_ne hq) (fun _ _ h => h) upd_same (paired_append (paired_mono g3.kk a4) (.cons r3 .nil))
    have e9 := dl_set (base := base) (p := p) (ps := qs) (y' := ([] : List α) ++ [x]) hat
    rw [eqq] at e9
    rw [e9] at this
    have e10 : (kvs ++ [(k, ([] : List α))]).set kvs.length (k, [] ++ [x]) = kvs ++ [(k, [x])] := by simp
    rw [e10] at this
    exact this
theorem dk_rows {Kn' : Hp} : ∀ {kvs : List (κ × List α)} {n : Nat} {ws : List (Key × V)}, DK K Kn ws (kysD ps n kvs) → (∀ j y, (kvs.map (·.2))[j]? = some y → rep K Kn' (.ref (ps (n + j))) y) → DK K Kn' ws kvs
  | [], n, ws, h, _ => by
    cases h
    exact .nil
  | kv :: r, n, ws, h, hr => by
    cases h with
    | @cons w _ ws _ h1 h2 =>
      obtain ⟨h3, h4⟩ := h1
      have h4 : w.2 = .ref (ps n) := h4
      refine .cons ⟨h3, ?_⟩ (dk_rows (n := n + 1) h2 fun j y hy => ?_)
      · rw [h4]
        exact hr 0 _ rfl
      · have := hr (j + 1) y hy
        rw [show n + (j + 1) = n + 1 + j by omega] at this
        exact this
/-- it is known from now on -/
theorem S.knowDl {kvs : List (κ × List α)} (s : S K F Kn0 sl (base ++ dlO p ps kvs) σ Kn H) (hi : sl[i]? = some (.at p)) : ∃ Kn', Ex Kn Kn' ∧ S K F Kn0 (sl.set i (sv (Dc.mk kvs))) base σ Kn' H := by
  obtain ⟨o, h1, h2⟩ := s.sl.get hi
  have h2 : o = some (.ref p) := h2
  have e0 : base ++ dlO p ps kvs = (base ++ [oo p (Dc.mk (kysD ps 0 kvs))]) ++ rowsO ps 0 (kvs.map (·.2)) := by
    rw [List.append_assoc]
    rfl
  rw [e0] at s
  obtain ⟨Kn1, e1, s1, e2, e3⟩ := S.knowRows s
  have hj : (base ++ [oo p (Dc.mk (kysD ps 0 kvs))])[base.length]? = some (oo p (Dc.mk (kysD ps 0 kvs))) := at_mid _ _ _
  obtain ⟨f1, f2, ob, f3, ws, f4, f5⟩ := s1.ow.each _ (List.mem_of_getElem? hj)
  obtain ⟨ob2, k1, k2, s2⟩ := s1.borrowG hi hj
  have e : (base ++ [oo p (Dc.mk (kysD ps 0 kvs))]).eraseIdx base.length = base := by
    rw [erase_mid, List.append_nil]
  rw [e] at s2
  have f3 : H p = some ob := f3
  rw [f3] at k2
  cases k2
  subst f4
  have hr : rep K (upd Kn1 p (.dK ws)) (.ref p) (Dc.mk kvs) := ⟨p, ws, rfl, Rd.of upd_same, dk_rows (K := K) (Kn := Kn1) (n := 0) f5 fun j y hy => Rp.mono (Ex.new k1) (e2 j y hy)⟩
  have hσ : σ.set i o = σ := by
    refine List.ext_getElem? fun m => ?_
    by_cases e : i = m
    · subst e
      rw [List.getElem?_set_self (List.getElem?_eq_some_iff.mp h1).1, h1]
    · rw [List.getElem?_set_ne e]
  have s3 := s2.set (x := sv (Dc.mk kvs)) (o := o) i ⟨.ref p, h2, hr⟩
  rw [hσ, List.set_set] at s3
  exact ⟨_, e1.trans (Ex.new k1), s3⟩
theorem sb_frzDl {t : TS} {kvs : List (κ × List α)} (hi : sl[i]? = some (.at p)) (ho : ow = base ++ dlO p ps kvs) (hs : sl.set i (sv (Dc.mk kvs)) = sl') (k : SB K F Kn0 sl' base D t) : SB K F Kn0 sl ow D t := fun σ Kn H s => by
  subst ho hs
  obtain ⟨Kn', _, s'⟩ := s.knowDl hi
  exact k σ Kn' H s'
/-- a new dict, as one whose values are lists of one's own -/
theorem dl_nil (p : Addr) (ps : Nat → Addr) : [oo p (Dc.mk ([] : List (κ × Adr)))] = dlO (α := α) p ps ([] : List (κ × List α)) := rfl
end
end Wk
set_option synthInstance.maxHeartbeats 4000000
set_option synthInstance.maxSize 20000
/-! the mirrors of k89, printed by gen.py -/
namespace Wk89
open PySem L2 Wk
noncomputable def m_look_alone_L1 : Str → (Unit) → Option (Ctl (Unit) (Er Nn)) := fun name_6 _ =>
  some (Ctl.rt (Er.ex ⟨"NoFloor", ((["name"] : List Str).zip (Us.toDs (name_6, ()))).reverse⟩))
noncomputable def m_look_alone_L2 (wide_1 : Int) (high_2 : Int) (places_3 : (Dc Str (Int × Int × Int × Int × Unit))) : Str → (Unit) → Option (Ctl (Unit) (Er Nn)) := fun name_14 _ =>
  (getD places_3.l name_14).bind fun i_20 =>
  (some i_20).bind fun (x_21, y_22, width_23, height_24, _) =>
  (if ((decide (x_21 < (0 : Int))) || ((decide (y_22 < (0 : Int))) || ((decide (width_23 < (1 : Int))) || ((decide (height_24 < (1 : Int))) || ((decide (wide_1 < (x_21 + width_23))) || (decide (high_2 < (y_22 + height_24)))))))) = true then (some (Ctl.rt (Er.ex ⟨"NoFloor", ((["name"] : List Str).zip (Us.toDs (name_14, ()))).reverse⟩))) else (some (Ctl.nx ())))
noncomputable def m_look_alone (wide_1 : Int) (high_2 : Int) (places_3 : (Dc Str (Int × Int × Int × Int × Unit))) : Option (Er Nn) :=
  (lenS ("abcdefghijklmnopqrstuvwxyzABCDEFGHIJKLMNOPQRSTUVWXYZ01234567" : Str)).bind fun n_4 =>
  (skO places_3).bind fun sk_5 =>
  (forC (m_look_alone_L1) (cut sk_5 (some n_4) none) ()).bind fun tot_11 => match tot_11 with
  | .nx _ => ((skO places_3).bind fun sk_13 =>
  (forC (m_look_alone_L2 wide_1 high_2 places_3) sk_13 ()).bind fun tot_19 => match tot_19 with
  | .nx _ => (some (Er.ok Nn.nn))
  | .bk _ => none
  | .rt r_ => some r_)
  | .bk _ => none
  | .rt r_ => some r_
noncomputable def m_draw_L3 (row_55 : Int) (k_41 : Int) (name_42 : Str) : Int → ((List (List Str))) → Option (Ctl ((List (List Str))) (Er Str)) := fun column_63 rows_62 =>
  (atI rows_62 row_55).bind fun i_70 =>
  (atI i_70 column_63).bind fun i_71 =>
  (if (!decide (i_71 = ("." : Str))) = true then (some (Ctl.rt (Er.ex ⟨"NoFloor", ((["name"] : List Str).zip (Us.toDs (name_42, ()))).reverse⟩))) else ((ixS ("abcdefghijklmnopqrstuvwxyzABCDEFGHIJKLMNOPQRSTUVWXYZ01234567" : Str) k_41).bind fun i_74 =>
  (setG rows_62 row_55 column_63 i_74).bind fun rows_75 =>
  some (Ctl.nx rows_75)))
noncomputable def m_draw_L2 (k_41 : Int) (name_42 : Str) (x_49 : Int) (width_51 : Int) : Int → ((List (List Str))) → Option (Ctl ((List (List Str))) (Er Str)) := fun row_55 rows_54 =>
  (rngO x_49 (x_49 + width_51)).bind fun rg_61 =>
  (forC (m_draw_L3 row_55 k_41 name_42) rg_61 rows_54).bind fun tot_68 => match tot_68 with
  | .nx rows_76 => (some (Ctl.nx rows_76))
  | .bk _ => none
  | .rt r_ => some (Ctl.rt r_)
noncomputable def m_draw_L1 (places_31 : (Dc Str (Int × Int × Int × Int × Unit))) : (Int × Str × Unit) → ((List (List Str))) → Option (Ctl ((List (List Str))) (Er Str)) := fun (k_41, name_42, _) rows_40 =>
  (getD places_31.l name_42).bind fun i_48 =>
  (some i_48).bind fun (x_49, y_50, width_51, height_52, _) =>
  (rngO y_50 (y_50 + height_52)).bind fun rg_53 =>
  (forC (m_draw_L2 k_41 name_42 x_49 width_51) rg_53 rows_40).bind fun tot_60 => match tot_60 with
  | .nx rows_78 => (some (Ctl.nx rows_78))
  | .bk _ => none
  | .rt r_ => some (Ctl.rt r_)
noncomputable def m_draw (wide_29 : Int) (high_30 : Int) (places_31 : (Dc Str (Int × Int × Int × Int × Unit))) : Option (Er Str) :=
  (m_look_alone wide_29 high_30 places_31).bind fun r_32_0 => match r_32_0 with
  | .ex ex_33 => some (Er.ex ex_33)
  | .ok r_32 =>
  (rngO 0 high_30).bind fun rg_34 =>
  (lcM (fun _ => some true) (fun row_35 => ((repO ([("." : Str)] : List Str) wide_29).bind fun rep_37 => some rep_37)) rg_34).bind fun zs_36 =>
  (some zs_36).bind fun rows_38 =>
  (skO places_31).bind fun sk_39 =>
  (forC (m_draw_L1 places_31) (enumI sk_39) rows_38).bind fun tot_47 => match tot_47 with
  | .nx rows_80 => ((lcM (fun _ => some true) (fun row_82 => ((joinO ("" : Str) row_82).bind fun j_84 => some j_84)) rows_80).bind fun zs_83 =>
  (joinO ("\n" : Str) zs_83).bind fun j_85 =>
  some (Er.ok j_85))
  | .bk _ => none
  | .rt r_ => some r_
noncomputable def m_rows_of_floor_L1 (rows_92 : (List Str)) : Str → (Unit) → Option (Ctl (Unit) (Er (List Str))) := fun row_99 _ =>
  ((if (decide (row_99 = ("" : Str))) = true then some true else ((lenS row_99).bind fun n_106 => (atI rows_92 (0 : Int)).bind fun i_107 => (lenS i_107).bind fun n_108 => some (!decide (n_106 = n_108))))).bind fun b_109 =>
  (if b_109 = true then (some (Ctl.rt (Er.ex ⟨"NoRead", []⟩))) else (some (Ctl.nx ())))
noncomputable def m_rows_of_floor (text_86 : Dy) : Option (Er (List Str)) :=
  (if (!(isiD text_86 "str")) = true then (some (Er.ex ⟨"NoRead", []⟩)) else (((ofD text_86 : Option Str)).bind fun o_90 =>
  (splitO o_90 ("\n" : Str)).bind fun sp_91 =>
  (some sp_91).bind fun rows_92 =>
  ((if (decide ((200 : Int) < (rows_92.length : Int))) = true then some true else ((atI rows_92 (0 : Int)).bind fun i_94 => (lenS i_94).bind fun n_95 => some (decide ((200 : Int) < n_95))))).bind fun b_96 =>
  (if b_96 = true then (some (Er.ex ⟨"NoRead", []⟩)) else ((forC (m_rows_of_floor_L1 rows_92) rows_92 ()).bind fun tot_104 => match tot_104 with
  | .nx _ => (some (Er.ok rows_92))
  | .bk _ => none
  | .rt r_ => some r_))))
noncomputable def m_read_floor_L2 (names_114 : (Fz Str)) (k_119 : Int) : (Int × Str × Unit) → ((Dc Str (List (Int × Int × Unit)))) → Option (Ctl ((Dc Str (List (Int × Int × Unit)))) (Er (Dc Str (Int × Int × Int × Int × Unit)))) := fun (column_128, sign_129, _) cells_127 =>
  (if (!decide (sign_129 = ("." : Str))) = true then ((some (Txt.find ("abcdefghijklmnopqrstuvwxyzABCDEFGHIJKLMNOPQRSTUVWXYZ01234567" : Str) sign_129)).bind fun at_138 =>
  (if (!((decide ((0 : Int) ≤ at_138)) && (decide (at_138 < (names_114.l.length : Int))))) = true then (some (Ctl.rt (Er.ex ⟨"NoRead", []⟩))) else ((atI names_114.l at_138).bind fun i_142 =>
  (sdO cells_127 i_142 (column_128, k_119, ())).bind fun cells_143 =>
  some (Ctl.nx cells_143)))) else (some (Ctl.nx cells_127)))
noncomputable def m_read_floor_L1 (names_114 : (Fz Str)) : (Int × Str × Unit) → ((Dc Str (List (Int × Int × Unit)))) → Option (Ctl ((Dc Str (List (Int × Int × Unit)))) (Er (Dc Str (Int × Int × Int × Int × Unit)))) := fun (k_119, row_120, _) cells_118 =>
  (forC (m_read_floor_L2 names_114 k_119) (enumI (sgn row_120)) cells_118).bind fun tot_134 => match tot_134 with
  | .nx cells_144 => (some (Ctl.nx cells_144))
  | .bk _ => none
  | .rt r_ => some (Ctl.rt r_)
noncomputable def m_read_floor_L3 (cells_146 : (Dc Str (List (Int × Int × Unit)))) : Str → ((Dc Str (Int × Int × Int × Int × Unit))) → Option (Ctl ((Dc Str (Int × Int × Int × Int × Unit))) (Er (Dc Str (Int × Int × Int × Int × Unit)))) := fun name_150 places_149 =>
  (if (!(getD cells_146.l name_150).isSome) = true then (some (Ctl.rt (Er.ex ⟨"NoRead", []⟩))) else ((getD cells_146.l name_150).bind fun i_159 =>
  (lcM (fun _ => some true) (fun (column_160, row_161, _) => (some column_160)) i_159).bind fun zs_162 =>
  (some zs_162).bind fun across_163 =>
  (getD cells_146.l name_150).bind fun i_164 =>
  (lcM (fun _ => some true) (fun (column_165, row_166, _) => (some row_166)) i_164).bind fun zs_167 =>
  (some zs_167).bind fun down_168 =>
  (minL across_163).bind fun min_169 =>
  (minL down_168).bind fun min_170 =>
  (maxL across_163).bind fun max_171 =>
  (minL across_163).bind fun min_172 =>
  (maxL down_168).bind fun max_173 =>
  (minL down_168).bind fun min_174 =>
  (some (min_169, min_170, ((max_171 - min_172) + (1 : Int)), ((max_173 - min_174) + (1 : Int)), ())).bind fun place_175 =>
  (getD cells_146.l name_150).bind fun i_177 =>
  (mulO place_175.2.2.1 place_175.2.2.2.1).bind fun m_178 =>
  (if (!decide ((i_177.length : Int) = m_178)) = true then (some (Ctl.rt (Er.ex ⟨"NoRead", []⟩))) else ((putO places_149 name_150 place_175).bind fun places_181 =>
  some (Ctl.nx places_181)))))
noncomputable def m_read_floor (text_113 : Dy) (names_114 : (Fz Str)) : Option (Er (Dc Str (Int × Int × Int × Int × Unit))) :=
  ((m_rows_of_floor text_113).bind unX).bind fun r_116 =>
  (forC (m_read_floor_L1 names_114) (enumI r_116) (Dc.mk ([] : List (Str × (List (Int × Int × Unit)))))).bind fun tot_125 => match tot_125 with
  | .nx cells_146 => ((forC (m_read_floor_L3 cells_146) names_114.l (Dc.mk ([] : List (Str × (Int × Int × Int × Int × Unit))))).bind fun tot_155 => match tot_155 with
  | .nx places_182 => (some (Er.ok places_182))
  | .bk _ => none
  | .rt r_ => some r_)
  | .bk _ => none
  | .rt r_ => some r_
noncomputable def m__law_cell_at (script_184 : (Fz Int)) (k_185 : Int) : Option Int :=
  (if (decide (k_185 < (script_184.l.length : Int))) = true then ((atI script_184.l k_185).bind fun i_189 =>
  some i_189) else (some (0 : Int)))
noncomputable def m__law_numbers_L1 : Int → (Int × (List Int)) → Option (Int × (List Int)) := fun k_200 (number_198, found_199) =>
  (appO found_199 (number_198 % (5040 : Int))).bind fun found_206 =>
  (some (number_198 / (5040 : Int))).bind fun number_207 =>
  some (number_207, found_206)
noncomputable def m__law_numbers_L2 : Int → (Int × (List Int)) → Option (Int × (List Int)) := fun k_215 (number_213, found_214) =>
  (some ((((number_213 + k_215) + (1 : Int)) * (48271 : Int)) % (2147483647 : Int))).bind fun number_221 =>
  (appO found_214 ((number_221 * (69621 : Int)) % (2147483629 : Int))).bind fun found_222 =>
  some (number_221, found_222)
noncomputable def m__law_numbers (cell_190 : Int) (many_191 : Int) : Option (List Int) :=
  (some ([] : List Int)).bind fun found_192 =>
  (some (cell_190 - (1000000000000000000 : Int))).bind fun number_193 =>
  (if (decide ((0 : Int) ≤ number_193)) = true then ((rngO 0 many_191).bind fun rg_197 =>
  (forS (m__law_numbers_L1) rg_197 (number_193, found_192)).bind fun (number_208, found_209) =>
  some found_209) else ((some (cell_190 % (2147483647 : Int))).bind fun number_211 =>
  (rngO 0 (many_191 + (1 : Int))).bind fun rg_212 =>
  (forS (m__law_numbers_L2) rg_212 (number_211, found_192)).bind fun (number_223, found_224) =>
  some (cut found_224 (some (1 : Int)) none)))
noncomputable def m__law_names_L2 (letters_228 : Str) (some_230 : (List Int)) (at_235 : Int) (turn_239 : Int) : Int → (Str) → Option (Str) := fun k_248 name_247 =>
  (mulO ((7 : Int) * (turn_239 % (26 : Int))) (if (decide (k_248 = at_235)) = true then (1 : Int) else 0)).bind fun m_254 =>
  (mulO (turn_239 / (26 : Int)) (if (decide (k_248 = (at_235 + (1 : Int)))) = true then (1 : Int) else 0)).bind fun m_255 =>
  (some (m_254 + m_255)).bind fun step_256 =>
  (atI some_230 k_248).bind fun i_257 =>
  (ixS letters_228 ((i_257 + step_256) % (26 : Int))).bind fun i_258 =>
  (addS name_247 i_258).bind fun t_259 =>
  (some t_259).bind fun name_260 =>
  some name_260
noncomputable def m__law_names_L1 (letters_228 : Str) (some_230 : (List Int)) (size_232 : Int) (at_235 : Int) : Int → ((List Str)) → Option ((List Str)) := fun turn_239 names_here_238 =>
  (some ("" : Str)).bind fun name_245 =>
  (rngO 0 size_232).bind fun rg_246 =>
  (forS (m__law_names_L2 letters_228 some_230 at_235 turn_239) rg_246 name_245).bind fun name_261 =>
  ((if ((decide ((turn_239 % (2 : Int)) = (1 : Int))) && (decide (size_232 < (8 : Int)))) = true then ((addS name_261 ("m" : Str)).bind fun t_265 =>
  (some t_265).bind fun name_266 =>
  some name_266) else (some name_261))).bind fun name_267 =>
  (appO names_here_238 name_267).bind fun names_here_269 =>
  some names_here_269
noncomputable def m__law_names (cell_226 : Int) (many_227 : Int) : Option (List Str) :=
  (some ("abcdefghijklmnopqrstuvwxyz" : Str)).bind fun letters_228 =>
  (m__law_numbers cell_226 (10 : Int)).bind fun r_229 =>
  (some r_229).bind fun some_230 =>
  (atI some_230 (8 : Int)).bind fun i_231 =>
  (some ((2 : Int) + (i_231 % (7 : Int)))).bind fun size_232 =>
  (atI some_230 (9 : Int)).bind fun i_233 =>
  (modO i_233 (size_232 - (1 : Int))).bind fun r_234 =>
  (some r_234).bind fun at_235 =>
  (some ([] : List Str)).bind fun names_here_236 =>
  (rngO 0 many_227).bind fun rg_237 =>
  (forS (m__law_names_L1 letters_228 some_230 size_232 at_235) rg_237 names_here_236).bind fun names_here_270 =>
  some names_here_270
noncomputable def m__law_parted (place_272 : (Int × Int × Int × Int × Unit)) (number_273 : Int) : Option (List (Int × Int × Int × Int × Unit)) :=
  (some place_272).bind fun (x_274, y_275, width_276, height_277, _) =>
  (if ((decide ((number_273 % (2 : Int)) = (0 : Int))) && (decide ((1 : Int) < width_276))) = true then ((modO (number_273 / (8 : Int)) (width_276 - (1 : Int))).bind fun r_281 =>
  (some ((1 : Int) + r_281)).bind fun left_282 =>
  some ([(x_274, y_275, left_282, height_277, ()), ((x_274 + left_282), y_275, (width_276 - left_282), height_277, ())] : List (Int × Int × Int × Int × Unit))) else ((if (decide ((1 : Int) < height_277)) = true then ((modO (number_273 / (8 : Int)) (height_277 - (1 : Int))).bind fun r_286 =>
  (some ((1 : Int) + r_286)).bind fun top_287 =>
  some ([(x_274, y_275, width_276, top_287, ()), (x_274, (y_275 + top_287), width_276, (height_277 - top_287), ())] : List (Int × Int × Int × Int × Unit))) else (some ([place_272] : List (Int × Int × Int × Int × Unit))))))
noncomputable def m__law_places_L2 : Int → ((List (Int × Int × Int × Int × Unit)) × (List (Int × Int × Int × Int × Unit))) → Option ((List (Int × Int × Int × Int × Unit)) × (List (Int × Int × Int × Int × Unit))) := fun number_306 (found_304, open_ones_305) =>
  (if ((decide ((0 : Int) < (open_ones_305.length : Int))) && (decide (((found_304.length : Int) + (open_ones_305.length : Int)) < (60 : Int)))) = true then ((modO number_306 (open_ones_305.length : Int)).bind fun r_315 =>
  (popNO open_ones_305 r_315).bind fun (pp_316, open_ones_317) =>
  (some pp_316).bind fun (x_318, y_319, width_320, height_321, _) =>
  (if (decide (((number_306 / (64 : Int)) % (8 : Int)) = (0 : Int))) = true then ((appO found_304 (x_318, y_319, width_320, height_321, ())).bind fun found_325 =>
  some (found_325, open_ones_317)) else ((if (decide (((number_306 / (64 : Int)) % (8 : Int)) = (1 : Int))) = true then ((if (decide ((1 : Int) < width_320)) = true then ((appO open_ones_317 ((x_318 + ((number_306 / (512 : Int)) % (2 : Int))), y_319, (width_320 - (1 : Int)), height_321, ())).bind fun open_ones_332 =>
  some (found_304, open_ones_332)) else (some (found_304, open_ones_317)))) else ((m__law_parted (x_318, y_319, width_320, height_321, ()) (number_306 / (512 : Int))).bind fun r_333 =>
  (catO open_ones_317 r_333).bind fun cat_334 =>
  (some cat_334).bind fun open_ones_335 =>
  some (found_304, open_ones_335)))))) else (some (found_304, open_ones_305)))
noncomputable def m__law_places_L1 : Int → ((List (Int × Int × Int × Int × Unit)) × (List (Int × Int × Int × Int × Unit))) → Option ((List (Int × Int × Int × Int × Unit)) × (List (Int × Int × Int × Int × Unit))) := fun cell_296 (found_294, open_ones_295) =>
  (m__law_numbers cell_296 (3 : Int)).bind fun r_302 =>
  (forS (m__law_places_L2) r_302 (found_294, open_ones_295)).bind fun (found_336, open_ones_337) =>
  some (found_336, open_ones_337)
noncomputable def m__law_places (wide_288 : Int) (high_289 : Int) (cells_290 : (Fz Int)) : Option (List (Int × Int × Int × Int × Unit)) :=
  (some ([((0 : Int), (0 : Int), wide_288, high_289, ())] : List (Int × Int × Int × Int × Unit))).bind fun open_ones_291 =>
  (some ([] : List (Int × Int × Int × Int × Unit))).bind fun found_292 =>
  (forS (m__law_places_L1) cells_290.l (found_292, open_ones_291)).bind fun (found_339, open_ones_340) =>
  (catO found_339 open_ones_340).bind fun cat_342 =>
  some (cut cat_342 none (some (60 : Int)))
noncomputable def m_law_L1 (told_349 : (List (Int × Int × Int × Int × Unit))) : (Int × Str × Unit) → ((Dc Str (Int × Int × Int × Int × Unit))) → Option ((Dc Str (Int × Int × Int × Int × Unit))) := fun (k_355, name_356, _) places_here_354 =>
  (atI told_349 k_355).bind fun i_362 =>
  (putO places_here_354 name_356 i_362).bind fun places_here_363 =>
  some places_here_363
noncomputable def m_law_L4 (k_375 : Int) (signs_367 : Str) (row_389 : Int) : Int → ((List (List Str))) → Option ((List (List Str))) := fun column_397 rows_396 =>
  (ixS signs_367 k_375).bind fun i_403 =>
  (setG rows_396 row_389 column_397 i_403).bind fun rows_404 =>
  some rows_404
noncomputable def m_law_L3 (k_375 : Int) (signs_367 : Str) (x_383 : Int) (width_385 : Int) : Int → ((List (List Str))) → Option ((List (List Str))) := fun row_389 rows_388 =>
  (rngO x_383 (x_383 + width_385)).bind fun rg_395 =>
  (forS (m_law_L4 k_375 signs_367 row_389) rg_395 rows_388).bind fun rows_405 =>
  some rows_405
noncomputable def m_law_L2 (places_here_364 : (Dc Str (Int × Int × Int × Int × Unit))) (signs_367 : Str) : (Int × Str × Unit) → ((List (List Str))) → Option ((List (List Str))) := fun (k_375, name_376, _) rows_374 =>
  (getD places_here_364.l name_376).bind fun i_382 =>
  (some i_382).bind fun (x_383, y_384, width_385, height_386, _) =>
  (rngO y_384 (y_384 + height_386)).bind fun rg_387 =>
  (forS (m_law_L3 k_375 signs_367 x_383 width_385) rg_387 rows_374).bind fun rows_407 =>
  some rows_407
noncomputable def m_law (script_343 : (Fz Int)) : Option Bool :=
  (m__law_cell_at script_343 (0 : Int)).bind fun r_344 =>
  (some ((1 : Int) + (r_344 % (40 : Int)))).bind fun wide_345 =>
  (m__law_cell_at script_343 (1 : Int)).bind fun r_346 =>
  (some ((1 : Int) + (r_346 % (40 : Int)))).bind fun high_347 =>
  (m__law_places wide_345 high_347 (Fz.mk (cut script_343.l (some (3 : Int)) (some (63 : Int))))).bind fun r_348 =>
  (some r_348).bind fun told_349 =>
  (m__law_cell_at script_343 (2 : Int)).bind fun r_350 =>
  (m__law_names r_350 (told_349.length : Int)).bind fun r_351 =>
  (some r_351).bind fun names_here_352 =>
  (forS (m_law_L1 told_349) (enumI names_here_352) (Dc.mk ([] : List (Str × (Int × Int × Int × Int × Unit))))).bind fun places_here_364 =>
  (some places_here_364).bind fun held_366 =>
  (some ("abcdefghijklmnopqrstuvwxyzABCDEFGHIJKLMNOPQRSTUVWXYZ01234567" : Str)).bind fun signs_367 =>
  (rngO 0 high_347).bind fun rg_368 =>
  (lcM (fun _ => some true) (fun row_369 => ((repO ([("." : Str)] : List Str) wide_345).bind fun rep_371 => some rep_371)) rg_368).bind fun zs_370 =>
  (some zs_370).bind fun rows_372 =>
  (skO places_here_364).bind fun sk_373 =>
  (forS (m_law_L2 places_here_364 signs_367) (enumI sk_373) rows_372).bind fun rows_409 =>
  ((m_draw wide_345 high_347 held_366).bind unX).bind fun r_411 =>
  (some r_411).bind fun floor_412 =>
  (lcM (fun _ => some true) (fun row_413 => ((joinO ("" : Str) row_413).bind fun j_415 => some j_415)) rows_409).bind fun zs_414 =>
  (joinO ("\n" : Str) zs_414).bind fun j_416 =>
  (some j_416).bind fun due_417 =>
  (if ((!true) || ((!decide (floor_412 = due_417)) || (!Qe.qe held_366 places_here_364))) = true then (some false) else ((srtDO names_here_352).bind fun sd_421 =>
  ((m_read_floor (upD floor_412) (Fz.mk sd_421)).bind unX).bind fun r_422 =>
  some (Qe.qe r_422 places_here_364)))
end Wk89
set_option synthInstance.maxHeartbeats 4000000
set_option synthInstance.maxSize 20000
/-! the walks of k89, printed by gen.py -/
namespace Wk89
open PySem L2 Wk
def topS (i : Nat) : Stmt := PySem.Challenge.pw_boxgalley_k89_whole_drawn_and_read_back.main.body.getD i (.Pass ⟨0, 0, 0, 0⟩)
abbrev s_look_alone : Stmt := topS 8
abbrev s_draw : Stmt := topS 9
abbrev s_rows_of_floor : Stmt := topS 10
abbrev s_read_floor : Stmt := topS 11
abbrev s__law_cell_at : Stmt := topS 13
abbrev s__law_numbers : Stmt := topS 14
abbrev s__law_names : Stmt := topS 15
abbrev s__law_parted : Stmt := topS 16
abbrev s__law_places : Stmt := topS 17
abbrev s_law : Stmt := topS 18
structure TX (K : Fg) (mg : Str → Option Value) (w : World) where
  a_look_alone : Addr
  d_look_alone : FuncData
  F_look_alone : Fun K "look_alone" "look_alone" s_look_alone a_look_alone d_look_alone
  b_look_alone : Binds K d_look_alone ["wide", "high", "places"] []
  g_look_alone : mg "look_alone" = some (.ref a_look_alone)
  a_draw : Addr
  d_draw : FuncData
  F_draw : Fun K "draw" "draw" s_draw a_draw d_draw
  b_draw : Binds K d_draw ["wide", "high", "places"] []
  g_draw : mg "draw" = some (.ref a_draw)
  a_rows_of_floor : Addr
  d_rows_of_floor : FuncData
  F_rows_of_floor : Fun K "rows_of_floor" "rows_of_floor" s_rows_of_floor a_rows_of_floor d_rows_of_floor
  b_rows_of_floor : Binds K d_rows_of_floor ["text"] []
  g_rows_of_floor : mg "rows_of_floor" = some (.ref a_rows_of_floor)
  a_read_floor : Addr
  d_read_floor : FuncData
  F_read_floor : Fun K "read_floor" "read_floor" s_read_floor a_read_floor d_read_floor
  b_read_floor : Binds K d_read_floor ["text", "names"] []
  g_read_floor : mg "read_floor" = some (.ref a_read_floor)
  a__law_cell_at : Addr
  d__law_cell_at : FuncData
  F__law_cell_at : Fun K "_law_cell_at" "_law_cell_at" s__law_cell_at a__law_cell_at d__law_cell_at
  b__law_cell_at : Binds K d__law_cell_at ["_law_script", "_law_k"] []
  g__law_cell_at : mg "_law_cell_at" = some (.ref a__law_cell_at)
  a__law_numbers : Addr
  d__law_numbers : FuncData
  F__law_numbers : Fun K "_law_numbers" "_law_numbers" s__law_numbers a__law_numbers d__law_numbers
  b__law_numbers : Binds K d__law_numbers ["_law_cell", "_law_many"] []
  g__law_numbers : mg "_law_numbers" = some (.ref a__law_numbers)
  a__law_names : Addr
  d__law_names : FuncData
  F__law_names : Fun K "_law_names" "_law_names" s__law_names a__law_names d__law_names
  b__law_names : Binds K d__law_names ["_law_cell", "_law_many"] []
  g__law_names : mg "_law_names" = some (.ref a__law_names)
  a__law_parted : Addr
  d__law_parted : FuncData
  F__law_parted : Fun K "_law_parted" "_law_parted" s__law_parted a__law_parted d__law_parted
  b__law_parted : Binds K d__law_parted ["_law_place", "_law_number"] []
  g__law_parted : mg "_law_parted" = some (.ref a__law_parted)
  a__law_places : Addr
  d__law_places : FuncData
  F__law_places : Fun K "_law_places" "_law_places" s__law_places a__law_places d__law_places
  b__law_places : Binds K d__law_places ["_law_wide", "_law_high", "_law_cells"] []
  g__law_places : mg "_law_places" = some (.ref a__law_places)
  a_law : Addr
  d_law : FuncData
  F_law : Fun K "law" "law" s_law a_law d_law
  b_law : Binds K d_law ["_law_script"] []
  g_law : mg "law" = some (.ref a_law)
  z_dict : mg "dict" = none
  z_enumerate : mg "enumerate" = none
  z_int : mg "int" = none
  z_isinstance : mg "isinstance" = none
  z_len : mg "len" = none
  z_max : mg "max" = none
  z_min : mg "min" = none
  z_range : mg "range" = none
  z_sorted : mg "sorted" = none
  z_str : mg "str" = none
  c_NoFloor : Addr
  gC_NoFloor : mg "NoFloor" = some (.ref c_NoFloor)
  c_BoxError : Addr
  gC_BoxError : mg "BoxError" = some (.ref c_BoxError)
  c_NoRead : Addr
  gC_NoRead : mg "NoRead" = some (.ref c_NoRead)
  oex_NoFloor : OexC K c_NoFloor
  no_NoFloor : ∀ f ∈ (["name"] : List Str), PySem.W.findIn K (.ref c_NoFloor) f = some none
  fi_NoFloor : Addr
  fdi_NoFloor : FuncData
  Fi_NoFloor : Fun K "__init__" "NoFloor.__init__" (inClass (topS 2) 0) fi_NoFloor fdi_NoFloor
  bi_NoFloor : Binds K fdi_NoFloor ["self", "name"] []
  iC_NoFloor : PySem.W.findIn K (.ref c_NoFloor) "__init__" = some (some (.ref fi_NoFloor))
  tI_NoFloor : PySem.W.typeIn K (.ref fi_NoFloor) = some (.type "function")
  xf_NoFloor : XfC K c_NoFloor
  sg_BoxError : PySem.W.specialIn K (.ref c_BoxError) "__getattribute__" = some (some (.builtin "type.__getattribute__"))
  rd_BoxError : PySem.W.readsIn K c_BoxError (.type "type") = true
  fc_BoxError : PySem.W.findCls K (.ref c_BoxError) (.type "type") "__init__" = some (.val (.builtin "ValueError.__init__"))
  xP_NoRead : PySem.W.excIn K c_NoRead [.type "ValueError", .type "Exception", .type "BaseException", .type "object"] "ValueError.__new__" = true
  kC_NoRead : PySem.W.keepIn K (.ref c_NoRead) = true
  bP_NoRead : PySem.W.subIn K (.ref c_NoRead) (.type "BaseException") = some true
  tP_NoRead : PySem.W.typeIn K (.ref c_NoRead) = some (.type "type")
  ti_SIGNS : Tok
  gi_SIGNS : mg "SIGNS" = some (.str "abcdefghijklmnopqrstuvwxyzABCDEFGHIJKLMNOPQRSTUVWXYZ01234567" ti_SIGNS)
  ti_FREE : Tok
  gi_FREE : mg "FREE" = some (.str "." ti_FREE)
  ti_MOST : Tok
  gi_MOST : mg "MOST" = some (.int 200 ti_MOST)
def spLaw (K : Fg) : Sp := fun vs H Q _ => ∃ (a : Addr) (ns : List Int), vs = [.ref a] ∧ SqL K H a (ns.map V.int) ∧ ns.length ≤ 63 ∧ ∀ H', Q (.bl true) H'
theorem fn_weak {P : Program} {w : World} {K : Fg} {mg : Str → Option Value} {base : Heap} {k : Nat} {f : Addr} {fd : FuncData} {m : Fz Int → Option Bool}
    (h : FnOk P w K mg base CX0 k f fd ["_law_script"] (PF (τ := Fz Int × Unit) K fun t => m t.1)) (main : ∀ ns : List Int, ns.length ≤ 63 → m (Fz.mk ns) = some true) : FnOk P w K mg base CX0 k f fd ["_law_script"] (spLaw K) :=
  h.imp fun vs H Q E hh => by
    obtain ⟨a, ns, rfl, hs, hl, q⟩ := hh
    exact ⟨H, (Fz.mk ns, ()), true, Evl.Ex.refl _, ⟨.ref a, [], rfl, ⟨a, ns.map V.int, rfl, hs, fl_paired ns⟩, rfl⟩, main ns hl, fun u Kn' H' g r => by cases r; exact q H'⟩
section
variable {P : Program} {w : World} {K : Fg} {mg : Str → Option Value} {base : Heap}
def cmT (T : TX K mg w) : Str → Option Addr := fun n =>
  if n = "NoFloor" then some T.c_NoFloor else if n = "NoRead" then some T.c_NoRead else none
theorem sci_NoFloor : FnScope ["self", "name"] ["self", "name"] (defScope (inClass (topS 2) 0)) := ⟨rfl, rfl, rfl, by decide +kernel, rfl, by decide +kernel, by decide +kernel⟩
theorem oki_NoFloor (T : TX K mg w) : FnOk P w K mg base CX0 1 T.fi_NoFloor T.fdi_NoFloor ["self", "name"] (spI K T.c_NoFloor ["name"]) := by
  refine T.Fi_NoFloor.ok sci_NoFloor (fun vs H Q E h => spI_len h) (fun cdv A outer s H vs Q E hr h => ?_)
  obtain ⟨a, ws, rfl, hl, T0, hno, ha, q⟩ := h
  match ws, hl with
  | [v_0], _ =>
  refine ⟨_, (pss_cons (ps_expr (pe_cinit (by rfl) T.gC_BoxError T.sg_BoxError T.rd_BoxError T.fc_BoxError (pa_cons (pv 0) (pa_cons pe_str pa_nil)))) (pss_one (ps_ost (pv 0) (pv 1)))), ?_⟩
  refine ⟨_, rfl, a, T.c_NoFloor, [_], rfl, by decide, T0, ha, ?_⟩
  refine ⟨_, rfl, _, rfl, a, T.c_NoFloor, rfl, T0, hno _ List.mem_cons_self, .inl ⟨ha, fun dx hdx hne => ?_⟩⟩
  exact q _ dx hdx hne upd_same (by rw [upd_ne hne]; exact upd_same) (fun b h1 h2 => by rw [upd_ne h1, upd_ne h2])
theorem sc_look_alone : FnScope ["wide", "high", "places", "name", "x", "y", "width", "height"] ["wide", "high", "places"] (defScope s_look_alone) := ⟨rfl, rfl, rfl, by decide +kernel, rfl, by decide +kernel, by decide +kernel⟩
set_option maxHeartbeats 4000000 in
theorem ok_look_alone (T : TX K mg w) : FnOk P w K mg base (L2.CX P w) 3 T.a_look_alone T.d_look_alone ["wide", "high", "places"] (PX (τ := Int × Int × (Dc Str (Int × Int × Int × Int × Unit)) × Unit) K (cmT T) (fun t => m_look_alone t.1 t.2.1 t.2.2.1)) := by
  refine T.F_look_alone.okX sc_look_alone (fun vs H Q E h => ?_) (fun cdv A outer s H vs Q E hr h => ?_)
  · obtain ⟨Kn, t, r, ek, h, hf, q⟩ := h
    exact Tp.len h
  · obtain ⟨Kn, t, r_, ek, h, hf, q⟩ := h
    obtain ⟨wide_1, high_2, places_3, u_⟩ := t
    obtain ⟨v_0, rr_, rfl, hv_0, h⟩ := h
    obtain ⟨v_1, rr_, rfl, hv_1, h⟩ := h
    obtain ⟨v_2, rr_, rfl, hv_2, h⟩ := h
    obtain rfl := h
    replace hf : m_look_alone wide_1 high_2 places_3 = some r_ := hf
    unfold m_look_alone at hf
    refine ⟨_, (pss_cons (ps_for (passes_of rfl) rfl (kpi_list (pe_slice k_sll (pe_callB k_sortedK (by rfl) T.z_sorted (by decide +kernel) (pa_cons (pv 2) pa_nil)) (po_some (pe_callB call_len_str (by rfl) T.z_len PySem.boot_len (pa_cons (pe_glob (v := .str "abcdefghijklmnopqrstuvwxyzABCDEFGHIJKLMNOPQRSTUVWXYZ01234567") (by rfl) T.gi_SIGNS ⟨_, rfl⟩) pa_nil))) po_none)) (pg_name (i := 3) sc_look_alone.nd rfl (.inl rfl)) (pss_one (ps_raise rfl (takes_of rfl rfl rfl rfl) (pmk_oex T.oex_NoFloor T.iC_NoFloor T.tI_NoFloor (oki_NoFloor T) hr T.bi_NoFloor .nil pass0 (by rfl) T.gC_NoFloor (pa_cons (pv 3) pa_nil)))))
      (pss_one (ps_for (passes_of rfl) rfl (kpi_list (pe_callB k_sortedK (by rfl) T.z_sorted (by decide +kernel) (pa_cons (pv 2) pa_nil))) (pg_name (i := 3) sc_look_alone.nd rfl (.inl rfl)) (pss_cons (ps_asg (k_dget hr.units (pv 2) (pv 3) (fun _ _ => rfl)) (kpg_tup (n := 4) (pgs_cons (pg_name (i := 4) sc_look_alone.nd rfl (.inl rfl)) (pgs_cons (pg_name (i := 5) sc_look_alone.nd rfl (.inl rfl)) (pgs_cons (pg_name (i := 6) sc_look_alone.nd rfl (.inl rfl)) (pgs_cons (pg_name (i := 7) sc_look_alone.nd rfl (.inl rfl)) pgs_nil))))))
      (pss_one (ps_if (PW.pt (pw_or (pt_cmpR op_lt (pv 4) pe_int (nomark _)) (pw_or (pt_cmpR op_lt (pv 5) pe_int (nomark _)) (pw_or (pt_cmpR op_lt (pv 6) pe_int (nomark _)) (pw_or (pt_cmpR op_lt (pv 7) pe_int (nomark _)) (pw_or (pt_cmpR op_gt (pe_op op_add (pv 4) (pv 6)) (pv 0) (nomark _)) (pw_or1 (pt_cmpR op_gt (pe_op op_add (pv 5) (pv 7)) (pv 1) (nomark _))))))))) (pss_one (ps_raise rfl (takes_of rfl rfl rfl rfl) (pmk_oex T.oex_NoFloor T.iC_NoFloor T.tI_NoFloor (oki_NoFloor T) hr T.bi_NoFloor .nil pass0 (by rfl) T.gC_NoFloor (pa_cons (pv 3) pa_nil)))) pss_nil)))))), ?_⟩
    refine enter (K := K) (Kn := Kn) (sl := [sv wide_1, sv high_2, sv places_3, .any, .any, .any, .any, .any]) ek ⟨⟨v_0, rfl, hv_0⟩, ⟨v_1, rfl, hv_1⟩, ⟨v_2, rfl, hv_2⟩, trivial, trivial, trivial, trivial, trivial, trivial⟩ ?_
    have q := re_of q
    obtain ⟨n_4, h_n_4, hf⟩ := bind_some hf
    obtain ⟨sk_5, h_sk_5, hf⟩ := bind_some hf
    obtain ⟨tot_11, h_tot_11, hf⟩ := bind_some hf
    refine SB.seqB (fun kx_12 => sb_for (β := Str) (Sx := Unit) (fun s => [sv wide_1, sv high_2, sv places_3, .any, .any, .any, .any, .any]) (fun s => []) (fun x s => [sv wide_1, sv high_2, sv places_3, sv x, .any, .any, .any, .any]) [3] (fun xs s => forC (m_look_alone_L1) xs s = some tot_11) () (IT.m (it_list (EN.ev (en_sl (EN.ev (en_cb (ea_cons (ev_var (i := 2) rfl) ea_nil) (rc_sortK h_sk_5))) (eo_some (ev_cb (ea_cons (ev_str ("abcdefghijklmnopqrstuvwxyzABCDEFGHIJKLMNOPQRSTUVWXYZ01234567" : Str)) ea_nil) (rc_lenS h_n_4))) eo_none)))) h_tot_11 (.keep (.keep (.keep (.keep (.keep (.keep (.keep (.keep .nil)))))))) (List.Sublist.refl _) (fun x s => (gt_name rfl)) ?_ ?_)
    · intro Kn1 b1 name_6 rest_ s_ hP_8 N_ hN_7
      obtain ⟨c_, hc_9, hP_8⟩ := bind_some hP_8
      have q_10 := q.base b1
      unfold m_look_alone_L1 at hc_9
      refine SB.is (sl' := [sv wide_1, sv high_2, sv places_3, sv name_6, .any, .any, .any, .any]) (ow1 := []) rfl rfl ?_
      cases hc_9
      replace hP_8 : some (Ctl.rt (Er.ex ⟨"NoFloor", ((["name"] : List Str).zip (Us.toDs (name_6, ()))).reverse⟩)) = some tot_11 := hP_8
      cases hP_8
      replace hf : some (Er.ex ⟨"NoFloor", ((["name"] : List Str).zip (Us.toDs (name_6, ()))).reverse⟩) = some r_ := hf
      cases hf
      exact sb_raise (cm := cmT T) (fs := (["name"] : List Str)) (ea_cons (ev_var (i := 3) rfl) ea_nil) rfl T.oex_NoFloor T.no_NoFloor rfl (by decide) q_10 (List.Sublist.refl _)
    · intro s_ h0
      cases h0
      refine kx_12 _ _ ?_
      refine SB.is (sl' := [sv wide_1, sv high_2, sv places_3, .any, .any, .any, .any, .any]) (ow1 := []) rfl rfl ?_
      obtain ⟨sk_13, h_sk_13, hf⟩ := bind_some hf
      obtain ⟨tot_19, h_tot_19, hf⟩ := bind_some hf
      refine sb_for (β := Str) (Sx := Unit) (fun s => [sv wide_1, sv high_2, sv places_3, .any, .any, .any, .any, .any]) (fun s => []) (fun x s => [sv wide_1, sv high_2, sv places_3, sv x, .any, .any, .any, .any]) [3] (fun xs s => forC (m_look_alone_L2 wide_1 high_2 places_3) xs s = some tot_19) () (IT.m (it_list (EN.ev (en_cb (ea_cons (ev_var (i := 2) rfl) ea_nil) (rc_sortK h_sk_13))))) h_tot_19 (.keep (.keep (.keep (.keep (.keep (.keep (.keep (.keep .nil)))))))) (List.Sublist.refl _) (fun x s => (gt_name rfl)) ?_ ?_
      · intro Kn1 b1 name_14 rest_ s_ hP_16 N_ hN_15
        obtain ⟨c_, hc_17, hP_16⟩ := bind_some hP_16
        have q_18 := q.base b1
        unfold m_look_alone_L2 at hc_17
        refine SB.is (sl' := [sv wide_1, sv high_2, sv places_3, sv name_14, .any, .any, .any, .any]) (ow1 := []) rfl rfl ?_
        obtain ⟨i_20, h_i_20, hc_17⟩ := bind_some hc_17
        obtain ⟨⟨x_21, y_22, width_23, height_24, _⟩, h_x_21, hc_17⟩ := bind_some hc_17
        refine SB.seqB (fun kx_ => sb_unp (sl' := [sv wide_1, sv high_2, sv places_3, sv name_14, sv x_21, sv y_22, sv width_23, sv height_24]) (EV.cast (ev_dget (ev_var (i := 2) rfl) (ev_var (i := 3) rfl) h_i_20) (Option.some.inj h_x_21)) (gt_tup (gts_cons (gt_name rfl) (gts_cons (gt_name rfl) (gts_cons (gt_name rfl) (gts_cons (gt_name rfl) gts_nil))))) (kx_ _ _ ?_))
        refine sb_if (b := ((decide (x_21 < (0 : Int))) || ((decide (y_22 < (0 : Int))) || ((decide (width_23 < (1 : Int))) || ((decide (height_24 < (1 : Int))) || ((decide (wide_1 < (x_21 + width_23))) || (decide (high_2 < (y_22 + height_24))))))))) (et_or (et_test (ev_op (ev_var (i := 4) rfl) (ev_int 0) r2_lt)) (fun _ => (et_or (et_test (ev_op (ev_var (i := 5) rfl) (ev_int 0) r2_lt)) (fun _ => (et_or (et_test (ev_op (ev_var (i := 6) rfl) (ev_int 1) r2_lt)) (fun _ => (et_or (et_test (ev_op (ev_var (i := 7) rfl) (ev_int 1) r2_lt)) (fun _ => (et_or (et_test (ev_op (ev_op (ev_var (i := 4) rfl) (ev_var (i := 6) rfl) r2_add) (ev_var (i := 0) rfl) r2_gt)) (fun _ => (et_test (ev_op (ev_op (ev_var (i := 5) rfl) (ev_var (i := 7) rfl) r2_add) (ev_var (i := 1) rfl) r2_gt)))))))))))) (fun hb_26 => ?_) (fun hb_26 => ?_)
        · have hc_17 := ite_t hb_26 hc_17
          cases hc_17
          replace hP_16 : some (Ctl.rt (Er.ex ⟨"NoFloor", ((["name"] : List Str).zip (Us.toDs (name_14, ()))).reverse⟩)) = some tot_19 := hP_16
          cases hP_16
          replace hf : some (Er.ex ⟨"NoFloor", ((["name"] : List Str).zip (Us.toDs (name_14, ()))).reverse⟩) = some r_ := hf
          cases hf
          exact sb_raise (cm := cmT T) (fs := (["name"] : List Str)) (ea_cons (ev_var (i := 3) rfl) ea_nil) rfl T.oex_NoFloor T.no_NoFloor rfl (by decide) q_18 (List.Sublist.refl _)
        · have hc_17 := ite_f hb_26 hc_17
          refine sb_nx ?_
          cases hc_17
          exact fun σ Kn H s => hN_15 _ hP_16 σ Kn H ((s.le (.keep (.keep (.keep (.drop (.drop (.drop (.drop (.drop .nil))))))))).sub (List.Sublist.refl _))
      · intro s_ h0
        cases h0
        show SN _ _ _ [sv wide_1, sv high_2, sv places_3, .any, .any, .any, .any, .any] [] _
        cases hf
        exact sn_end (RE.ok_rt q) (fun _ _ h => h) (List.Sublist.refl _)
theorem sc_draw : FnScope ["wide", "high", "places", "row", "rows", "k", "name", "x", "y", "width", "height", "column"] ["wide", "high", "places"] (defScope s_draw) := ⟨rfl, rfl, rfl, by decide +kernel, rfl, by decide +kernel, by decide +kernel⟩
set_option maxHeartbeats 4000000 in
theorem ok_draw (T : TX K mg w) : FnOk P w K mg base (L2.CX P w) 4 T.a_draw T.d_draw ["wide", "high", "places"] (PX (τ := Int × Int × (Dc Str (Int × Int × Int × Int × Unit)) × Unit) K (cmT T) (fun t => m_draw t.1 t.2.1 t.2.2.1)) := by
  refine T.F_draw.okX sc_draw (fun vs H Q E h => ?_) (fun cdv A outer s H vs Q E hr h => ?_)
  · obtain ⟨Kn, t, r, ek, h, hf, q⟩ := h
    exact Tp.len h
  · obtain ⟨Kn, t, r_, ek, h, hf, q⟩ := h
    obtain ⟨wide_29, high_30, places_31, u_⟩ := t
    obtain ⟨v_0, rr_, rfl, hv_0, h⟩ := h
    obtain ⟨v_1, rr_, rfl, hv_1, h⟩ := h
    obtain ⟨v_2, rr_, rfl, hv_2, h⟩ := h
    obtain rfl := h
    replace hf : m_draw wide_29 high_30 places_31 = some r_ := hf
    unfold m_draw at hf
    refine ⟨_, (pss_cons (ps_expr (pe_callS (ok_look_alone T) hr (by rfl) T.g_look_alone T.F_look_alone.kp T.b_look_alone (fun σ => passAt (takes_of rfl rfl rfl rfl) σ) (pa_cons (pv 0) (pa_cons (pv 1) (pa_cons (pv 2) pa_nil)))))
      (pss_cons (ps_setLc (i := 4) (own := [("row", 3)]) (g := gName 3) (tt := tYes) rfl sc_draw.nd rfl rfl (sw_true rfl rfl rfl (by decide +kernel)) (pi_range1 (by rfl) T.z_range (pa_cons (pv 1) pa_nil)) (blkOk_by (own := [("row", 3)]) (N := ["wide", "high", "places", "row", "rows", "k", "name", "x", "y", "width", "height", "column"]) (sc := defScope s_draw) (by decide +kernel)) (fun _ _ _ _ _ => (pg_name (i := 3) sc_draw.nd rfl (Or.inl rfl))) (fun _ _ _ _ _ => pts_nil) (fun _ _ _ _ _ => (pe_op op_rep (pe_lst (pa_cons (pe_glob (v := .str ".") (by rfl) T.gi_FREE ⟨_, rfl⟩) pa_nil)) (pv 0))))
      (pss_cons (ps_for (passes_of rfl) rfl (pi_enum (by rfl) T.z_enumerate (pa_cons (pe_callB k_sortedK (by rfl) T.z_sorted (by decide +kernel) (pa_cons (pv 2) pa_nil)) pa_nil)) (kpg_tup (n := 2) (pgs_cons (pg_name (i := 5) sc_draw.nd rfl (.inl rfl)) (pgs_cons (pg_name (i := 6) sc_draw.nd rfl (.inl rfl)) pgs_nil))) (pss_cons (ps_asg (k_dget hr.units (pv 2) (pv 6) (fun _ _ => rfl)) (kpg_tup (n := 4) (pgs_cons (pg_name (i := 7) sc_draw.nd rfl (.inl rfl)) (pgs_cons (pg_name (i := 8) sc_draw.nd rfl (.inl rfl)) (pgs_cons (pg_name (i := 9) sc_draw.nd rfl (.inl rfl)) (pgs_cons (pg_name (i := 10) sc_draw.nd rfl (.inl rfl)) pgs_nil))))))
      (pss_one (ps_for (passes_of rfl) rfl (pi_range2 (by rfl) T.z_range (pa_cons (pv 8) (pa_cons (pe_op op_add (pv 8) (pv 10)) pa_nil))) (pg_name (i := 3) sc_draw.nd rfl (.inl rfl)) (pss_one (ps_for (passes_of rfl) rfl (pi_range2 (by rfl) T.z_range (pa_cons (pv 7) (pa_cons (pe_op op_add (pv 7) (pv 9)) pa_nil))) (pg_name (i := 11) sc_draw.nd rfl (.inl rfl)) (pss_cons (ps_if (pt_cmpR op_ne (pe_ix k_ixl (pe_ix k_ixl (pv 4) (pv 3) (fun _ _ => rfl)) (pv 11) (fun _ _ => rfl)) (pe_glob (v := .str ".") (by rfl) T.gi_FREE ⟨_, rfl⟩) (nomark _)) (pss_one (ps_raise rfl (takes_of rfl rfl rfl rfl) (pmk_oex T.oex_NoFloor T.iC_NoFloor T.tI_NoFloor (oki_NoFloor T) (hr.mono (by decide)) T.bi_NoFloor .nil pass0 (by rfl) T.gC_NoFloor (pa_cons (pv 6) pa_nil)))) pss_nil)
      (pss_one (ps_asg (pe_ix ix_str (pe_glob (v := .str "abcdefghijklmnopqrstuvwxyzABCDEFGHIJKLMNOPQRSTUVWXYZ01234567") (by rfl) T.gi_SIGNS ⟨_, rfl⟩) (pv 5) (fun _ _ => rfl)) (pg_sub (pe_ix k_ixl (pv 4) (pv 3) (fun _ _ => rfl)) (pv 11) set_list))))))))))
      (pss_one (ps_ret (k_join pe_str (pe_lc (own := [("row", 3)]) (g := gName 3) (tt := tYes) (by rfl) sc_draw.nd (kpi_list (pv 4)) (blkOk_by (own := [("row", 3)]) (N := ["wide", "high", "places", "row", "rows", "k", "name", "x", "y", "width", "height", "column"]) (sc := defScope s_draw) (by decide +kernel)) (fun _ _ _ _ _ => (pg_name (i := 3) sc_draw.nd rfl (Or.inl rfl))) (fun _ _ _ _ _ => pts_nil) (fun _ _ _ _ _ => (k_join pe_str (pv 3)))))))))), ?_⟩
    refine enter (K := K) (Kn := Kn) (sl := [sv wide_29, sv high_30, sv places_31, .any, .any, .any, .any, .any, .any, .any, .any, .any]) ek ⟨⟨v_0, rfl, hv_0⟩, ⟨v_1, rfl, hv_1⟩, ⟨v_2, rfl, hv_2⟩, trivial, trivial, trivial, trivial, trivial, trivial, trivial, trivial, trivial, trivial⟩ ?_
    have q := re_of q
    obtain ⟨r_32_0, h_r_32, hf⟩ := bind_some hf
    obtain ⟨ex_33, rfl⟩ | ⟨r_32, rfl⟩ := er_cases r_32_0
    · replace hf : some (Er.ex ex_33) = some _ := hf
      cases hf
      exact SB.seqB (fun _ => sb_dropR (er_call (ea_cons (ev_var (i := 0) rfl) (ea_cons (ev_var (i := 1) rfl) (ea_cons (ev_var (i := 2) rfl) ea_nil))) h_r_32) (rw_out q (List.Sublist.refl _)))
    refine SB.seqB (fun kx_ => sb_drop (ev_callX (ea_cons (ev_var (i := 0) rfl) (ea_cons (ev_var (i := 1) rfl) (ea_cons (ev_var (i := 2) rfl) ea_nil))) h_r_32) (kx_ _ _ ?_))
    obtain ⟨rg_34, h_rg_34, hf⟩ := bind_some hf
    obtain ⟨zs_36, h_zs_36, hf⟩ := bind_some hf
    obtain ⟨rows_38, h_rows_38, hf⟩ := bind_some hf
    refine SB.seqB (fun kx_ => sb_asgQ2 (sl' := fun p_rows_38 => [sv wide_29, sv high_30, sv places_31, .any, .at p_rows_38, .any, .any, .any, .any, .any, .any, .any]) (fun _ => rfl) (EQ2.cast (eq_lcQ (js := [3]) (fun x => [sv wide_29, sv high_30, sv places_31, sv x, .any, .any, .any, .any, .any, .any, .any, .any]) h_zs_36 (it_rng1 (ea_cons (ev_var (i := 1) rfl) ea_nil) h_rg_34) (anyAt_of (by rfl)) (fun x => (gt_name rfl)) (sub_of (by rfl)) (fun _ x b h => by cases h; exact et_yes) (fun _ x z _ h => by obtain ⟨row_35, hx_⟩ : ∃ y, y = x := ⟨x, rfl⟩; subst hx_; obtain ⟨rep_37, h_rep_37, h⟩ := bind_some h; have hz_ := Option.some.inj h; subst hz_; exact EN.is (sl' := [sv wide_29, sv high_30, sv places_31, sv row_35, .any, .any, .any, .any, .any, .any, .any, .any]) rfl (en_op (EN.ev (en_lst (el_cons (ev_str ("." : Str)) el_nil))) (ev_var (i := 0) rfl) (r2_repO h_rep_37)))) (Option.some.inj h_rows_38)) (fun p_rows_38 ps_rows_38 => (kx_ _ _ ?_)))
    obtain ⟨sk_39, h_sk_39, hf⟩ := bind_some hf
    obtain ⟨tot_47, h_tot_47, hf⟩ := bind_some hf
    refine SB.seqB (fun kx_81 => sb_for (β := (Int × Str × Unit)) (Sx := (List (List Str))) (fun s => [sv wide_29, sv high_30, sv places_31, .any, .at p_rows_38, .any, .any, .any, .any, .any, .any, .any]) (fun s => ([] ++ gridO p_rows_38 ps_rows_38 s)) (fun x s => [sv wide_29, sv high_30, sv places_31, .any, .at p_rows_38, sv x.1, sv x.2.1, .any, .any, .any, .any, .any]) [5, 6] (fun xs s => forC (m_draw_L1 places_31) xs s = some tot_47) rows_38 (IT.m (it_enum (ea_cons (EN.ev (en_cb (ea_cons (ev_var (i := 2) rfl) ea_nil) (rc_sortK h_sk_39))) ea_nil))) h_tot_47 (.keep (.keep (.keep (.keep (.keep (.keep (.keep (.keep (.keep (.keep (.keep (.keep .nil)))))))))))) (List.Sublist.refl _) (fun x s => (gt_tup (gts_cons (gt_name rfl) (gts_cons (gt_name rfl) gts_nil)))) ?_ ?_)
    · intro Kn1 b1 x_ rest_ rows_40 hP_44 N_ hN_43
      obtain ⟨k_41, name_42, _⟩ := x_
      obtain ⟨c_, hc_45, hP_44⟩ := bind_some hP_44
      have q_46 := q.base b1
      unfold m_draw_L1 at hc_45
      refine SB.is (sl' := [sv wide_29, sv high_30, sv places_31, .any, .at p_rows_38, sv k_41, sv name_42, .any, .any, .any, .any, .any]) (ow1 := ([] ++ gridO p_rows_38 ps_rows_38 rows_40)) rfl rfl ?_
      obtain ⟨i_48, h_i_48, hc_45⟩ := bind_some hc_45
      obtain ⟨⟨x_49, y_50, width_51, height_52, _⟩, h_x_49, hc_45⟩ := bind_some hc_45
      refine SB.seqB (fun kx_ => sb_unp (sl' := [sv wide_29, sv high_30, sv places_31, .any, .at p_rows_38, sv k_41, sv name_42, sv x_49, sv y_50, sv width_51, sv height_52, .any]) (EV.cast (ev_dget (ev_var (i := 2) rfl) (ev_var (i := 6) rfl) h_i_48) (Option.some.inj h_x_49)) (gt_tup (gts_cons (gt_name rfl) (gts_cons (gt_name rfl) (gts_cons (gt_name rfl) (gts_cons (gt_name rfl) gts_nil))))) (kx_ _ _ ?_))
      obtain ⟨rg_53, h_rg_53, hc_45⟩ := bind_some hc_45
      obtain ⟨tot_60, h_tot_60, hc_45⟩ := bind_some hc_45
      refine sb_for (β := Int) (Sx := (List (List Str))) (fun s => [sv wide_29, sv high_30, sv places_31, .any, .at p_rows_38, sv k_41, sv name_42, sv x_49, sv y_50, sv width_51, sv height_52, .any]) (fun s => ([] ++ gridO p_rows_38 ps_rows_38 s)) (fun x s => [sv wide_29, sv high_30, sv places_31, sv x, .at p_rows_38, sv k_41, sv name_42, sv x_49, sv y_50, sv width_51, sv height_52, .any]) [3] (fun xs s => forC (m_draw_L2 k_41 name_42 x_49 width_51) xs s = some tot_60) rows_40 (IT.m (it_rng2 (ea_cons (ev_var (i := 8) rfl) (ea_cons (ev_op (ev_var (i := 8) rfl) (ev_var (i := 10) rfl) r2_add) ea_nil)) h_rg_53)) h_tot_60 (.keep (.keep (.keep (.keep (.keep (.keep (.keep (.keep (.keep (.keep (.keep (.keep .nil)))))))))))) (List.Sublist.refl _) (fun x s => (gt_name rfl)) ?_ ?_
      · intro Kn1 b1 row_55 rest_ rows_54 hP_57 N_ hN_56
        obtain ⟨c_, hc_58, hP_57⟩ := bind_some hP_57
        have q_59 := q_46.base b1
        unfold m_draw_L2 at hc_58
        refine SB.is (sl' := [sv wide_29, sv high_30, sv places_31, sv row_55, .at p_rows_38, sv k_41, sv name_42, sv x_49, sv y_50, sv width_51, sv height_52, .any]) (ow1 := ([] ++ gridO p_rows_38 ps_rows_38 rows_54)) rfl rfl ?_
        obtain ⟨rg_61, h_rg_61, hc_58⟩ := bind_some hc_58
        obtain ⟨tot_68, h_tot_68, hc_58⟩ := bind_some hc_58
        refine sb_for (β := Int) (Sx := (List (List Str))) (fun s => [sv wide_29, sv high_30, sv places_31, sv row_55, .at p_rows_38, sv k_41, sv name_42, sv x_49, sv y_50, sv width_51, sv height_52, .any]) (fun s => ([] ++ gridO p_rows_38 ps_rows_38 s)) (fun x s => [sv wide_29, sv high_30, sv places_31, sv row_55, .at p_rows_38, sv k_41, sv name_42, sv x_49, sv y_50, sv width_51, sv height_52, sv x]) [11] (fun xs s => forC (m_draw_L3 row_55 k_41 name_42) xs s = some tot_68) rows_54 (IT.m (it_rng2 (ea_cons (ev_var (i := 7) rfl) (ea_cons (ev_op (ev_var (i := 7) rfl) (ev_var (i := 9) rfl) r2_add) ea_nil)) h_rg_61)) h_tot_68 (.keep (.keep (.keep (.keep (.keep (.keep (.keep (.keep (.keep (.keep (.keep (.keep .nil)))))))))))) (List.Sublist.refl _) (fun x s => (gt_name rfl)) ?_ ?_
        · intro Kn1 b1 column_63 rest_ rows_62 hP_65 N_ hN_64
          obtain ⟨c_, hc_66, hP_65⟩ := bind_some hP_65
          have q_67 := q_59.base b1
          unfold m_draw_L3 at hc_66
          refine SB.is (sl' := [sv wide_29, sv high_30, sv places_31, sv row_55, .at p_rows_38, sv k_41, sv name_42, sv x_49, sv y_50, sv width_51, sv height_52, sv column_63]) (ow1 := ([] ++ gridO p_rows_38 ps_rows_38 rows_62)) rfl rfl ?_
          obtain ⟨i_70, h_i_70, hc_66⟩ := bind_some hc_66
          obtain ⟨i_71, h_i_71, hc_66⟩ := bind_some hc_66
          refine SB.seqB (fun kx_73 => sb_if (b := (!decide (i_71 = ("." : Str)))) (et_test (ev_borQ (i := 4) (base := []) (sl' := [sv wide_29, sv high_30, sv places_31, sv row_55, sv rows_62, sv k_41, sv name_42, sv x_49, sv y_50, sv width_51, sv height_52, sv column_63]) rfl rfl rfl (ev_op (ev_op (ev_op (ev_var (i := 4) rfl) (ev_var (i := 3) rfl) (r2_ixL h_i_70)) (ev_var (i := 11) rfl) (r2_ixL h_i_71)) (ev_str ("." : Str)) r2_neS))) (fun hb_72 => ?_) (fun hb_72 => ?_))
          · have hc_66 := ite_t hb_72 hc_66
            cases hc_66
            replace hP_65 : some (Ctl.rt (Er.ex ⟨"NoFloor", ((["name"] : List Str).zip (Us.toDs (name_42, ()))).reverse⟩)) = some tot_68 := hP_65
            cases hP_65
            cases hc_58
            replace hP_57 : some (Ctl.rt (Er.ex ⟨"NoFloor", ((["name"] : List Str).zip (Us.toDs (name_42, ()))).reverse⟩)) = some tot_60 := hP_57
            cases hP_57
            cases hc_45
            replace hP_44 : some (Ctl.rt (Er.ex ⟨"NoFloor", ((["name"] : List Str).zip (Us.toDs (name_42, ()))).reverse⟩)) = some tot_47 := hP_44
            cases hP_44
            replace hf : some (Er.ex ⟨"NoFloor", ((["name"] : List Str).zip (Us.toDs (name_42, ()))).reverse⟩) = some r_ := hf
            cases hf
            exact sb_raise (cm := cmT T) (fs := (["name"] : List Str)) (ea_cons (ev_var (i := 6) rfl) ea_nil) rfl T.oex_NoFloor T.no_NoFloor rfl (by decide) q_67 (List.nil_sublist _)
          · have hc_66 := ite_f hb_72 hc_66
            refine sb_nx ?_
            refine kx_73 _ _ ?_
            obtain ⟨i_74, h_i_74, hc_66⟩ := bind_some hc_66
            obtain ⟨rows_75, h_rows_75, hc_66⟩ := bind_some hc_66
            refine sb_setQ (i := 4) (base := []) rfl rfl (ev_op (ev_str ("abcdefghijklmnopqrstuvwxyzABCDEFGHIJKLMNOPQRSTUVWXYZ01234567" : Str)) (ev_var (i := 5) rfl) (r2_ixS h_i_74)) (ev_var (i := 3) rfl) (ev_var (i := 11) rfl) h_rows_75 ?_
            cases hc_66
            exact fun σ Kn H s => hN_64 _ hP_65 σ Kn H ((s.le (.keep (.keep (.keep (.keep (.keep (.keep (.keep (.keep (.keep (.keep (.keep (.drop .nil))))))))))))).sub (List.Sublist.refl _))
        · intro rows_76 h0
          cases h0
          show SN _ _ _ [sv wide_29, sv high_30, sv places_31, sv row_55, .at p_rows_38, sv k_41, sv name_42, sv x_49, sv y_50, sv width_51, sv height_52, .any] ([] ++ gridO p_rows_38 ps_rows_38 rows_76) _
          cases hc_58
          exact fun σ Kn H s => hN_56 _ hP_57 σ Kn H ((s.le (.keep (.keep (.keep (.drop (.keep (.keep (.keep (.keep (.keep (.keep (.keep (.keep .nil))))))))))))).sub (List.Sublist.refl _))
      · intro rows_78 h0
        cases h0
        show SN _ _ _ [sv wide_29, sv high_30, sv places_31, .any, .at p_rows_38, sv k_41, sv name_42, sv x_49, sv y_50, sv width_51, sv height_52, .any] ([] ++ gridO p_rows_38 ps_rows_38 rows_78) _
        cases hc_45
        exact fun σ Kn H s => hN_43 _ hP_44 σ Kn H ((s.le (.keep (.keep (.keep (.keep (.keep (.drop (.drop (.drop (.drop (.drop (.drop (.keep .nil))))))))))))).sub (List.Sublist.refl _))
    · intro rows_80 h0
      cases h0
      refine kx_81 _ _ ?_
      refine SB.is (sl' := [sv wide_29, sv high_30, sv places_31, .any, .at p_rows_38, .any, .any, .any, .any, .any, .any, .any]) (ow1 := ([] ++ gridO p_rows_38 ps_rows_38 rows_80)) rfl rfl ?_
      refine sb_frzQ (i := 4) (base := []) (sl' := [sv wide_29, sv high_30, sv places_31, .any, sv rows_80, .any, .any, .any, .any, .any, .any, .any]) rfl rfl rfl ?_
      obtain ⟨zs_83, h_zs_83, hf⟩ := bind_some hf
      obtain ⟨j_85, h_j_85, hf⟩ := bind_some hf
      cases hf
      exact sb_ret (ev_joinO (ev_str ("\n" : Str)) (EN.ev (en_lc (js := [3]) (fun x => [sv wide_29, sv high_30, sv places_31, sv x, sv rows_80, .any, .any, .any, .any, .any, .any, .any]) h_zs_83 (it_list (ev_var (i := 4) rfl)) (anyAt_of (by rfl)) (fun x => (gt_name rfl)) (sub_of (by rfl)) (fun _ _ x b h => by cases h; exact et_yes) (fun _ _ x z _ h => by obtain ⟨row_82, hx_⟩ : ∃ y, y = x := ⟨x, rfl⟩; subst hx_; obtain ⟨j_84, h_j_84, h⟩ := bind_some h; have hz_ := Option.some.inj h; subst hz_; exact EV.is (sl' := [sv wide_29, sv high_30, sv places_31, sv row_82, sv rows_80, .any, .any, .any, .any, .any, .any, .any]) rfl (ev_joinO (ev_str ("" : Str)) (ev_var (i := 3) rfl) h_j_84)))) h_j_85) q (List.Sublist.refl _)
theorem sc_rows_of_floor : FnScope ["text", "rows", "row"] ["text"] (defScope s_rows_of_floor) := ⟨rfl, rfl, rfl, by decide +kernel, rfl, by decide +kernel, by decide +kernel⟩
set_option maxHeartbeats 4000000 in
theorem ok_rows_of_floor (T : TX K mg w) : FnOk P w K mg base (L2.CX P w) 1 T.a_rows_of_floor T.d_rows_of_floor ["text"] (PX (τ := Dy × Unit) K (cmT T) (fun t => m_rows_of_floor t.1)) := by
  refine T.F_rows_of_floor.okX sc_rows_of_floor (fun vs H Q E h => ?_) (fun cdv A outer s H vs Q E hr h => ?_)
  · obtain ⟨Kn, t, r, ek, h, hf, q⟩ := h
    exact Tp.len h
  · obtain ⟨Kn, t, r_, ek, h, hf, q⟩ := h
    obtain ⟨text_86, u_⟩ := t
    obtain ⟨v_0, rr_, rfl, hv_0, h⟩ := h
    obtain rfl := h
    replace hf : m_rows_of_floor text_86 = some r_ := hf
    unfold m_rows_of_floor at hf
    refine ⟨_, (pss_cons (ps_if (pt_not (pt_val (pe_callB k_isi (by rfl) T.z_isinstance (by decide +kernel) (pa_cons (pv 0) (pa_cons (pe_bltn (v := .ty "str") (u := .type "str") (by rfl) T.z_str (by decide +kernel) rfl) pa_nil))))) (pss_one (ps_raise rfl (takes_of rfl rfl rfl rfl) (pmk_own PySem.F.excBase_ValueError T.xP_NoRead T.gC_NoRead T.kC_NoRead (raises_own T.bP_NoRead T.tP_NoRead) (by rfl)))) pss_nil)
      (pss_cons (ps_set (i := 1) sc_rows_of_floor.nd rfl (.inl rfl) (pe_bm PySem.F.plainAttrs_str PySem.F.slot_str_split PySem.F.type_str_split mt_split (pv 0) (pa_cons pe_str pa_nil)))
      (pss_cons (ps_if (PW.pt (pw_or (pt_cmpR op_gt (pe_callB k_len (by rfl) T.z_len PySem.boot_len (pa_cons (pv 1) pa_nil)) (pe_glob (v := .int 200) (by rfl) T.gi_MOST ⟨_, rfl⟩) (nomark _)) (pw_or1 (pt_cmpR op_gt (pe_callB call_len_str (by rfl) T.z_len PySem.boot_len (pa_cons (pe_ix k_ixl (pv 1) pe_int (fun _ _ => rfl)) pa_nil)) (pe_glob (v := .int 200) (by rfl) T.gi_MOST ⟨_, rfl⟩) (nomark _))))) (pss_one (ps_raise rfl (takes_of rfl rfl rfl rfl) (pmk_own PySem.F.excBase_ValueError T.xP_NoRead T.gC_NoRead T.kC_NoRead (raises_own T.bP_NoRead T.tP_NoRead) (by rfl)))) pss_nil)
      (pss_cons (ps_for (passes_of rfl) rfl (kpi_list (pv 1)) (pg_name (i := 2) sc_rows_of_floor.nd rfl (.inl rfl)) (pss_one (ps_if (PW.pt (pw_or (pt_cmpR op_eq (pv 2) pe_str (nomark _)) (pw_or1 (pt_cmpR op_ne (pe_callB call_len_str (by rfl) T.z_len PySem.boot_len (pa_cons (pv 2) pa_nil)) (pe_callB call_len_str (by rfl) T.z_len PySem.boot_len (pa_cons (pe_ix k_ixl (pv 1) pe_int (fun _ _ => rfl)) pa_nil)) (nomark _))))) (pss_one (ps_raise rfl (takes_of rfl rfl rfl rfl) (pmk_own PySem.F.excBase_ValueError T.xP_NoRead T.gC_NoRead T.kC_NoRead (raises_own T.bP_NoRead T.tP_NoRead) (by rfl)))) pss_nil)))
      (pss_one (ps_ret (pv 1))))))), ?_⟩
    refine enter (K := K) (Kn := Kn) (sl := [sv text_86, .any, .any]) ek ⟨⟨v_0, rfl, hv_0⟩, trivial, trivial, trivial⟩ ?_
    have q := re_of q
    refine SB.seqB (fun kx_89 => sb_if (b := (!(isiD text_86 "str"))) (et_not (et_B (ev_cb (ea_cons (ev_var (i := 0) rfl) (ea_cons (ev_ty "str") ea_nil)) (rc_isiD (by decide +kernel) (by decide +kernel) (by decide +kernel) (by decide +kernel) (by decide +kernel) (by decide +kernel))))) (fun hb_88 => ?_) (fun hb_88 => ?_))
    · have hf := ite_t hb_88 hf
      cases hf
      exact sb_raise0 (cm := cmT T) rfl q (List.Sublist.refl _)
    · have hf := ite_f hb_88 hf
      refine sb_nx ?_
      refine kx_89 _ _ ?_
      obtain ⟨o_90, h_o_90, hf⟩ := bind_some hf
      obtain ⟨sp_91, h_sp_91, hf⟩ := bind_some hf
      obtain ⟨rows_92, h_rows_92, hf⟩ := bind_some hf
      refine SB.seqB (fun kx_ => sb_asg (sl' := [sv text_86, sv rows_92, .any]) rfl (EV.cast (EN.ev (en_split (ev_of (ev_var (i := 0) rfl) h_o_90) (ev_str ("\n" : Str)) h_sp_91)) (Option.some.inj h_rows_92)) (kx_ _ _ ?_))
      obtain ⟨b_96, h_b_96, hf⟩ := bind_some hf
      refine SB.seqB (fun kx_98 => sb_if (b := b_96) (et_orO h_b_96 (et_test (ev_op (ev_cb (ea_cons (ev_var (i := 1) rfl) ea_nil) rc_len) (ev_int 200) r2_gt)) (fun _ _ h => by obtain ⟨i_94, h_i_94, h⟩ := bind_some h; obtain ⟨n_95, h_n_95, h⟩ := bind_some h; have hz_ := Option.some.inj h; subst hz_; exact (et_test (ev_op (ev_cb (ea_cons (ev_op (ev_var (i := 1) rfl) (ev_int 0) (r2_ixL h_i_94)) ea_nil) (rc_lenS h_n_95)) (ev_int 200) r2_gt)))) (fun hb_97 => ?_) (fun hb_97 => ?_))
      · have hf := ite_t hb_97 hf
        cases hf
        exact sb_raise0 (cm := cmT T) rfl q (List.Sublist.refl _)
      · have hf := ite_f hb_97 hf
        refine sb_nx ?_
        refine kx_98 _ _ ?_
        obtain ⟨tot_104, h_tot_104, hf⟩ := bind_some hf
        refine SB.seqB (fun kx_112 => sb_for (β := Str) (Sx := Unit) (fun s => [sv text_86, sv rows_92, .any]) (fun s => []) (fun x s => [sv text_86, sv rows_92, sv x]) [2] (fun xs s => forC (m_rows_of_floor_L1 rows_92) xs s = some tot_104) () (IT.m (it_list (ev_var (i := 1) rfl))) h_tot_104 (.keep (.keep (.keep .nil))) (List.Sublist.refl _) (fun x s => (gt_name rfl)) ?_ ?_)
        · intro Kn1 b1 row_99 rest_ s_ hP_101 N_ hN_100
          obtain ⟨c_, hc_102, hP_101⟩ := bind_some hP_101
          have q_103 := q.base b1
          unfold m_rows_of_floor_L1 at hc_102
          refine SB.is (sl' := [sv text_86, sv rows_92, sv row_99]) (ow1 := []) rfl rfl ?_
          obtain ⟨b_109, h_b_109, hc_102⟩ := bind_some hc_102
          refine sb_if (b := b_109) (et_orO h_b_109 (et_test (ev_op (ev_var (i := 2) rfl) (ev_str ("" : Str)) r2_eqS)) (fun _ _ h => by obtain ⟨n_106, h_n_106, h⟩ := bind_some h; obtain ⟨i_107, h_i_107, h⟩ := bind_some h; obtain ⟨n_108, h_n_108, h⟩ := bind_some h; have hz_ := Option.some.inj h; subst hz_; exact (et_test (ev_op (ev_cb (ea_cons (ev_var (i := 2) rfl) ea_nil) (rc_lenS h_n_106)) (ev_cb (ea_cons (ev_op (ev_var (i := 1) rfl) (ev_int 0) (r2_ixL h_i_107)) ea_nil) (rc_lenS h_n_108)) r2_neI)))) (fun hb_110 => ?_) (fun hb_110 => ?_)
          · have hc_102 := ite_t hb_110 hc_102
            cases hc_102
            replace hP_101 : some (Ctl.rt (Er.ex ⟨"NoRead", []⟩)) = some tot_104 := hP_101
            cases hP_101
            replace hf : some (Er.ex ⟨"NoRead", []⟩) = some r_ := hf
            cases hf
            exact sb_raise0 (cm := cmT T) rfl q_103 (List.Sublist.refl _)
          · have hc_102 := ite_f hb_110 hc_102
            refine sb_nx ?_
            cases hc_102
            exact fun σ Kn H s => hN_100 _ hP_101 σ Kn H ((s.le (.keep (.keep (.drop .nil)))).sub (List.Sublist.refl _))
        · intro s_ h0
          cases h0
          refine kx_112 _ _ ?_
          refine SB.is (sl' := [sv text_86, sv rows_92, .any]) (ow1 := []) rfl rfl ?_
          cases hf
          exact sb_ret (ev_var (i := 1) rfl) q (List.Sublist.refl _)
theorem sc_read_floor : FnScope ["text", "names", "cells", "k", "row", "column", "sign", "at", "places", "name", "across", "down", "place"] ["text", "names"] (defScope s_read_floor) := ⟨rfl, rfl, rfl, by decide +kernel, rfl, by decide +kernel, by decide +kernel⟩
set_option maxHeartbeats 4000000 in
theorem ok_read_floor (T : TX K mg w) : FnOk P w K mg base (L2.CX P w) 2 T.a_read_floor T.d_read_floor ["text", "names"] (PX (τ := Dy × (Fz Str) × Unit) K (cmT T) (fun t => m_read_floor t.1 t.2.1)) := by
  refine T.F_read_floor.okX sc_read_floor (fun vs H Q E h => ?_) (fun cdv A outer s H vs Q E hr h => ?_)
  · obtain ⟨Kn, t, r, ek, h, hf, q⟩ := h
    exact Tp.len h
  · obtain ⟨Kn, t, r_, ek, h, hf, q⟩ := h
    obtain ⟨text_113, names_114, u_⟩ := t
    obtain ⟨v_0, rr_, rfl, hv_0, h⟩ := h
    obtain ⟨v_1, rr_, rfl, hv_1, h⟩ := h
    obtain rfl := h
    replace hf : m_read_floor text_113 names_114 = some r_ := hf
    unfold m_read_floor at hf
    refine ⟨_, (pss_cons (ps_set (i := 2) sc_read_floor.nd rfl (.inl rfl) pe_dnewK)
      (pss_cons (ps_for (passes_of rfl) rfl (pi_enum (by rfl) T.z_enumerate (pa_cons (pe_callS (ok_rows_of_floor T) hr (by rfl) T.g_rows_of_floor T.F_rows_of_floor.kp T.b_rows_of_floor (fun σ => passAt takes0 σ) (pa_cons (pv 0) pa_nil)) pa_nil)) (kpg_tup (n := 2) (pgs_cons (pg_name (i := 3) sc_read_floor.nd rfl (.inl rfl)) (pgs_cons (pg_name (i := 4) sc_read_floor.nd rfl (.inl rfl)) pgs_nil))) (pss_one (ps_for (passes_of rfl) rfl (pi_enumS (by rfl) T.z_enumerate (pa_cons (pv 4) pa_nil)) (kpg_tup (n := 2) (pgs_cons (pg_name (i := 5) sc_read_floor.nd rfl (.inl rfl)) (pgs_cons (pg_name (i := 6) sc_read_floor.nd rfl (.inl rfl)) pgs_nil))) (pss_one (ps_if (pt_cmpR op_ne (pv 6) (pe_glob (v := .str ".") (by rfl) T.gi_FREE ⟨_, rfl⟩) (nomark _)) (pss_cons (ps_set (i := 7) sc_read_floor.nd rfl (.inl rfl) (pe_bm PySem.F.plainAttrs_str PySem.F.slot_str_find PySem.F.type_str_find mt_find (pe_glob (v := .str "abcdefghijklmnopqrstuvwxyzABCDEFGHIJKLMNOPQRSTUVWXYZ01234567") (by rfl) T.gi_SIGNS ⟨_, rfl⟩) (pa_cons (pv 6) pa_nil)))
      (pss_cons (ps_if (pt_not (pt_chain op_le op_lt pe_int (pv 7) (pe_callB k_len (by rfl) T.z_len PySem.boot_len (pa_cons (pv 1) pa_nil)))) (pss_one (ps_raise rfl (takes_of rfl rfl rfl rfl) (pmk_own PySem.F.excBase_ValueError T.xP_NoRead T.gC_NoRead T.kC_NoRead (raises_own T.bP_NoRead T.tP_NoRead) (by rfl)))) pss_nil)
      (pss_one (ps_expr (pe_bm PySem.F.plainAttrs_list PySem.F.slot_list_append PySem.F.type_list_append mt_append (pe_dsetd (pv 2) (pe_ix k_ixl (pv 1) (pv 7) (fun _ _ => rfl)) (pe_lst pa_nil) ⟨rfl, rfl, rfl, rfl⟩) (pa_cons (pe_tup (pa_cons (pv 5) (pa_cons (pv 3) pa_nil))) pa_nil)))))) pss_nil)))))
      (pss_cons (ps_set (i := 8) sc_read_floor.nd rfl (.inl rfl) pe_dnewK)
      (pss_cons (ps_for (passes_of rfl) rfl (kpi_list (pv 1)) (pg_name (i := 9) sc_read_floor.nd rfl (.inl rfl)) (pss_cons (ps_if (pt_cmp (k_dnotin hr.units (pv 9) (pv 2)) rfl) (pss_one (ps_raise rfl (takes_of rfl rfl rfl rfl) (pmk_own PySem.F.excBase_ValueError T.xP_NoRead T.gC_NoRead T.kC_NoRead (raises_own T.bP_NoRead T.tP_NoRead) (by rfl)))) pss_nil)
      (pss_cons (ps_setLc (i := 10) (own := [("column", 5), ("row", 4)]) (g := gTup K 2 (gCons (gName 5) (gCons (gName 4) gNil))) (tt := tYes) rfl sc_read_floor.nd rfl rfl (sw_true rfl rfl rfl (by decide +kernel)) (kpi_list (k_dget hr.units (pv 2) (pv 9) (fun _ _ => rfl))) (blkOk_by (own := [("column", 5), ("row", 4)]) (N := ["text", "names", "cells", "k", "row", "column", "sign", "at", "places", "name", "across", "down", "place"]) (sc := defScope s_read_floor) (by decide +kernel)) (fun _ _ _ _ _ => (kpg_tup (n := 2) (pgs_cons (pg_name (i := 5) sc_read_floor.nd rfl (Or.inl rfl)) (pgs_cons (pg_name (i := 4) sc_read_floor.nd rfl (Or.inl rfl)) pgs_nil)))) (fun _ _ _ _ _ => pts_nil) (fun _ _ _ _ _ => (pv 5)))
      (pss_cons (ps_setLc (i := 11) (own := [("column", 5), ("row", 4)]) (g := gTup K 2 (gCons (gName 5) (gCons (gName 4) gNil))) (tt := tYes) rfl sc_read_floor.nd rfl rfl (sw_true rfl rfl rfl (by decide +kernel)) (kpi_list (k_dget hr.units (pv 2) (pv 9) (fun _ _ => rfl))) (blkOk_by (own := [("column", 5), ("row", 4)]) (N := ["text", "names", "cells", "k", "row", "column", "sign", "at", "places", "name", "across", "down", "place"]) (sc := defScope s_read_floor) (by decide +kernel)) (fun _ _ _ _ _ => (kpg_tup (n := 2) (pgs_cons (pg_name (i := 5) sc_read_floor.nd rfl (Or.inl rfl)) (pgs_cons (pg_name (i := 4) sc_read_floor.nd rfl (Or.inl rfl)) pgs_nil)))) (fun _ _ _ _ _ => pts_nil) (fun _ _ _ _ _ => (pv 4)))
      (pss_cons (ps_set (i := 12) sc_read_floor.nd rfl (.inl rfl) (pe_tup (pa_cons (pe_callB k_minL (by rfl) T.z_min (by decide +kernel) (pa_cons (pv 10) pa_nil)) (pa_cons (pe_callB k_minL (by rfl) T.z_min (by decide +kernel) (pa_cons (pv 11) pa_nil)) (pa_cons (pe_op op_add (pe_op op_sub (pe_callB k_maxL (by rfl) T.z_max (by decide +kernel) (pa_cons (pv 10) pa_nil)) (pe_callB k_minL (by rfl) T.z_min (by decide +kernel) (pa_cons (pv 10) pa_nil))) pe_int) (pa_cons (pe_op op_add (pe_op op_sub (pe_callB k_maxL (by rfl) T.z_max (by decide +kernel) (pa_cons (pv 11) pa_nil)) (pe_callB k_minL (by rfl) T.z_min (by decide +kernel) (pa_cons (pv 11) pa_nil))) pe_int) pa_nil))))))
      (pss_cons (ps_if (pt_cmpR op_ne (pe_callB k_len (by rfl) T.z_len PySem.boot_len (pa_cons (k_dget hr.units (pv 2) (pv 9) (fun _ _ => rfl)) pa_nil)) (pe_op op_mul (pe_ix k_ixt (pv 12) pe_int (fun _ _ => rfl)) (pe_ix k_ixt (pv 12) pe_int (fun _ _ => rfl))) (nomark _)) (pss_one (ps_raise rfl (takes_of rfl rfl rfl rfl) (pmk_own PySem.F.excBase_ValueError T.xP_NoRead T.gC_NoRead T.kC_NoRead (raises_own T.bP_NoRead T.tP_NoRead) (by rfl)))) pss_nil)
      (pss_one (k_dput hr.units (pv 8) (pv 9) (pv 12) rfl))))))))
      (pss_one (ps_ret (pv 8))))))), ?_⟩
    refine enter (K := K) (Kn := Kn) (sl := [sv text_113, sv names_114, .any, .any, .any, .any, .any, .any, .any, .any, .any, .any, .any]) ek ⟨⟨v_0, rfl, hv_0⟩, ⟨v_1, rfl, hv_1⟩, trivial, trivial, trivial, trivial, trivial, trivial, trivial, trivial, trivial, trivial, trivial, trivial⟩ ?_
    have q := re_of q
    refine SB.seqB (fun kx_ => sb_dnewK (κ := Str) (β := Adr) (sl' := fun p_cells_115 => [sv text_113, sv names_114, .at p_cells_115, .any, .any, .any, .any, .any, .any, .any, .any, .any, .any]) rfl (fun _ => rfl) (fun p_cells_115 => (kx_ _ _ ?_)))
    obtain ⟨r_116, h_r_116, hf⟩ := bind_some hf
    obtain ⟨tot_125, h_tot_125, hf⟩ := bind_some hf
    refine SB.seqB (fun kx_147 => sb_for (β := (Int × Str × Unit)) (Sx := (Nat → Addr) × (Dc Str (List (Int × Int × Unit)))) (fun s => [sv text_113, sv names_114, .at p_cells_115, .any, .any, .any, .any, .any, .any, .any, .any, .any, .any]) (fun s => ([] ++ dlO p_cells_115 s.1 (s.2).l)) (fun x s => [sv text_113, sv names_114, .at p_cells_115, sv x.1, sv x.2.1, .any, .any, .any, .any, .any, .any, .any, .any]) [3, 4] (fun xs s => forC (m_read_floor_L1 names_114) xs s.2 = some tot_125) ((fun _ => p_cells_115), (Dc.mk ([] : List (Str × (List (Int × Int × Unit)))))) (IT.m (it_enum (ea_cons (ev_callX (ea_cons (ev_var (i := 0) rfl) ea_nil) (unX_is h_r_116)) ea_nil))) h_tot_125 (.keep (.keep (.keep (.keep (.keep (.keep (.keep (.keep (.keep (.keep (.keep (.keep (.keep .nil))))))))))))) (List.Sublist.refl _) (fun x s => (gt_tup (gts_cons (gt_name rfl) (gts_cons (gt_name rfl) gts_nil)))) ?_ ?_)
    · intro Kn1 b1 x_ rest_ s_ hP_122 N_ hN_121
      obtain ⟨k_119, row_120, _⟩ := x_
      obtain ⟨qs_117, cells_118⟩ := s_
      replace hP_122 : forC (m_read_floor_L1 names_114) (_ :: rest_) cells_118 = some tot_125 := hP_122
      obtain ⟨c_, hc_123, hP_122⟩ := bind_some hP_122
      have q_124 := q.base b1
      unfold m_read_floor_L1 at hc_123
      refine SB.is (sl' := [sv text_113, sv names_114, .at p_cells_115, sv k_119, sv row_120, .any, .any, .any, .any, .any, .any, .any, .any]) (ow1 := ([] ++ dlO p_cells_115 qs_117 (cells_118).l)) rfl rfl ?_
      obtain ⟨tot_134, h_tot_134, hc_123⟩ := bind_some hc_123
      refine sb_for (β := (Int × Str × Unit)) (Sx := (Nat → Addr) × (Dc Str (List (Int × Int × Unit)))) (fun s => [sv text_113, sv names_114, .at p_cells_115, sv k_119, sv row_120, .any, .any, .any, .any, .any, .any, .any, .any]) (fun s => ([] ++ dlO p_cells_115 s.1 (s.2).l)) (fun x s => [sv text_113, sv names_114, .at p_cells_115, sv k_119, sv row_120, sv x.1, sv x.2.1, .any, .any, .any, .any, .any, .any]) [5, 6] (fun xs s => forC (m_read_floor_L2 names_114 k_119) xs s.2 = some tot_134) (qs_117, cells_118) (IT.m (it_enumS (ea_cons (ev_var (i := 4) rfl) ea_nil))) h_tot_134 (.keep (.keep (.keep (.keep (.keep (.keep (.keep (.keep (.keep (.keep (.keep (.keep (.keep .nil))))))))))))) (List.Sublist.refl _) (fun x s => (gt_tup (gts_cons (gt_name rfl) (gts_cons (gt_name rfl) gts_nil)))) ?_ ?_
      · intro Kn1 b1 x_ rest_ s_ hP_131 N_ hN_130
        obtain ⟨column_128, sign_129, _⟩ := x_
        obtain ⟨qs_126, cells_127⟩ := s_
        replace hP_131 : forC (m_read_floor_L2 names_114 k_119) (_ :: rest_) cells_127 = some tot_134 := hP_131
        obtain ⟨c_, hc_132, hP_131⟩ := bind_some hP_131
        have q_133 := q_124.base b1
        unfold m_read_floor_L2 at hc_132
        refine SB.is (sl' := [sv text_113, sv names_114, .at p_cells_115, sv k_119, sv row_120, sv column_128, sv sign_129, .any, .any, .any, .any, .any, .any]) (ow1 := ([] ++ dlO p_cells_115 qs_126 (cells_127).l)) rfl rfl ?_
        refine sb_if (b := (!decide (sign_129 = ("." : Str)))) (et_test (ev_op (ev_var (i := 6) rfl) (ev_str ("." : Str)) r2_neS)) (fun hb_136 => ?_) (fun hb_136 => ?_)
        · have hc_132 := ite_t hb_136 hc_132
          obtain ⟨at_138, h_at_138, hc_132⟩ := bind_some hc_132
          refine SB.seqB (fun kx_ => sb_asg (sl' := [sv text_113, sv names_114, .at p_cells_115, sv k_119, sv row_120, sv column_128, sv sign_129, sv at_138, .any, .any, .any, .any, .any]) rfl (EV.cast (ev_find (ev_str ("abcdefghijklmnopqrstuvwxyzABCDEFGHIJKLMNOPQRSTUVWXYZ01234567" : Str)) (ev_var (i := 6) rfl)) (Option.some.inj h_at_138)) (kx_ _ _ ?_))
          refine SB.seqB (fun kx_141 => sb_if (b := (!((decide ((0 : Int) ≤ at_138)) && (decide (at_138 < (names_114.l.length : Int)))))) (et_not (et_test (ev_chain (ev_int 0) (ev_var (i := 7) rfl) r2_le (ev_cb (ea_cons (ev_var (i := 1) rfl) ea_nil) rc_lenF) r2_lt))) (fun hb_140 => ?_) (fun hb_140 => ?_))
          · have hc_132 := ite_t hb_140 hc_132
            cases hc_132
            replace hP_131 : some (Ctl.rt (Er.ex ⟨"NoRead", []⟩)) = some tot_134 := hP_131
            cases hP_131
            cases hc_123
            replace hP_122 : some (Ctl.rt (Er.ex ⟨"NoRead", []⟩)) = some tot_125 := hP_122
            cases hP_122
            replace hf : some (Er.ex ⟨"NoRead", []⟩) = some r_ := hf
            cases hf
            exact sb_raise0 (cm := cmT T) rfl q_133 (List.nil_sublist _)
          · have hc_132 := ite_f hb_140 hc_132
            refine sb_nx ?_
            refine kx_141 _ _ ?_
            obtain ⟨i_142, h_i_142, hc_132⟩ := bind_some hc_132
            obtain ⟨cells_143, h_cells_143, hc_132⟩ := bind_some hc_132
            refine sb_setd (i := 2) (base := []) (kvs := (cells_127).l) (kvs' := cells_143.l) rfl rfl (ev_op (ev_var (i := 1) rfl) (ev_var (i := 7) rfl) (r2_ixF h_i_142)) (fun _ => (ev_tup (ea_cons (ev_var (i := 5) rfl) (ea_cons (ev_var (i := 3) rfl) ea_nil)))) h_cells_143 (fun qs_cells_143 => ?_)
            cases hc_132
            exact fun σ Kn H s => hN_130 (qs_cells_143, _) hP_131 σ Kn H ((s.le (.keep (.keep (.keep (.keep (.keep (.drop (.drop (.drop (.keep (.keep (.keep (.keep (.keep .nil)))))))))))))).sub (List.Sublist.refl _))
        · have hc_132 := ite_f hb_136 hc_132
          refine sb_nx ?_
          cases hc_132
          exact fun σ Kn H s => hN_130 (qs_126, _) hP_131 σ Kn H ((s.le (.keep (.keep (.keep (.keep (.keep (.drop (.drop (.keep (.keep (.keep (.keep (.keep (.keep .nil)))))))))))))).sub (List.Sublist.refl _))
      · intro s_ h0
        obtain ⟨qs_126, cells_144⟩ := s_
        cases h0
        show SN _ _ _ [sv text_113, sv names_114, .at p_cells_115, sv k_119, sv row_120, .any, .any, .any, .any, .any, .any, .any, .any] ([] ++ dlO p_cells_115 qs_126 (cells_144).l) _
        cases hc_123
        exact fun σ Kn H s => hN_121 (qs_126, _) hP_122 σ Kn H ((s.le (.keep (.keep (.keep (.drop (.drop (.keep (.keep (.keep (.keep (.keep (.keep (.keep (.keep .nil)))))))))))))).sub (List.Sublist.refl _))
    · intro s_ h0
      obtain ⟨qs_117, cells_146⟩ := s_
      cases h0
      refine kx_147 _ _ ?_
      refine SB.is (sl' := [sv text_113, sv names_114, .at p_cells_115, .any, .any, .any, .any, .any, .any, .any, .any, .any, .any]) (ow1 := ([] ++ dlO p_cells_115 qs_117 (cells_146).l)) rfl rfl ?_
      refine SB.seqB (fun kx_ => sb_dnewK (κ := Str) (β := (Int × Int × Int × Int × Unit)) (sl' := fun p_places_148 => [sv text_113, sv names_114, .at p_cells_115, .any, .any, .any, .any, .any, .at p_places_148, .any, .any, .any, .any]) rfl (fun _ => rfl) (fun p_places_148 => (kx_ _ _ ?_)))
      refine sb_frzDl (i := 2) (base := [oo p_places_148 (Dc.mk ([] : List (Str × (Int × Int × Int × Int × Unit))))]) (sl' := [sv text_113, sv names_114, sv cells_146, .any, .any, .any, .any, .any, .at p_places_148, .any, .any, .any, .any]) rfl rfl rfl ?_
      obtain ⟨tot_155, h_tot_155, hf⟩ := bind_some hf
      refine SB.seqB (fun kx_183 => sb_for (β := Str) (Sx := (Dc Str (Int × Int × Int × Int × Unit))) (fun s => [sv text_113, sv names_114, sv cells_146, .any, .any, .any, .any, .any, .at p_places_148, .any, .any, .any, .any]) (fun s => [oo p_places_148 s]) (fun x s => [sv text_113, sv names_114, sv cells_146, .any, .any, .any, .any, .any, .at p_places_148, sv x, .any, .any, .any]) [9] (fun xs s => forC (m_read_floor_L3 cells_146) xs s = some tot_155) (Dc.mk ([] : List (Str × (Int × Int × Int × Int × Unit)))) (IT.m (it_listF (ev_var (i := 1) rfl))) h_tot_155 (.keep (.keep (.keep (.keep (.keep (.keep (.keep (.keep (.keep (.keep (.keep (.keep (.keep .nil))))))))))))) (List.Sublist.refl _) (fun x s => (gt_name rfl)) ?_ ?_)
      · intro Kn1 b1 name_150 rest_ places_149 hP_152 N_ hN_151
        obtain ⟨c_, hc_153, hP_152⟩ := bind_some hP_152
        have q_154 := q.base b1
        unfold m_read_floor_L3 at hc_153
        refine SB.is (sl' := [sv text_113, sv names_114, sv cells_146, .any, .any, .any, .any, .any, .at p_places_148, sv name_150, .any, .any, .any]) (ow1 := [oo p_places_148 places_149]) rfl rfl ?_
        refine SB.seqB (fun kx_158 => sb_if (b := (!(getD cells_146.l name_150).isSome)) (et_B (ev_dnotin (ev_var (i := 2) rfl) (ev_var (i := 9) rfl))) (fun hb_157 => ?_) (fun hb_157 => ?_))
        · have hc_153 := ite_t hb_157 hc_153
          cases hc_153
          replace hP_152 : some (Ctl.rt (Er.ex ⟨"NoRead", []⟩)) = some tot_155 := hP_152
          cases hP_152
          replace hf : some (Er.ex ⟨"NoRead", []⟩) = some r_ := hf
          cases hf
          exact sb_raise0 (cm := cmT T) rfl q_154 (List.Sublist.cons _ List.Sublist.slnil)
        · have hc_153 := ite_f hb_157 hc_153
          refine sb_nx ?_
          refine kx_158 _ _ ?_
          obtain ⟨i_159, h_i_159, hc_153⟩ := bind_some hc_153
          obtain ⟨zs_162, h_zs_162, hc_153⟩ := bind_some hc_153
          obtain ⟨across_163, h_across_163, hc_153⟩ := bind_some hc_153
          refine SB.seqB (fun kx_ => sb_asg (sl' := [sv text_113, sv names_114, sv cells_146, .any, .any, .any, .any, .any, .at p_places_148, sv name_150, sv across_163, .any, .any]) rfl (EV.cast (EN.ev (en_lc (js := [5, 4]) (fun x => [sv text_113, sv names_114, sv cells_146, .any, sv x.2.1, sv x.1, .any, .any, .at p_places_148, sv name_150, .any, .any, .any]) h_zs_162 (it_list (ev_dget (ev_var (i := 2) rfl) (ev_var (i := 9) rfl) h_i_159)) (anyAt_of (by rfl)) (fun x => (gt_tup (gts_cons (gt_name rfl) (gts_cons (gt_name rfl) gts_nil)))) (sub_of (by rfl)) (fun _ _ x b h => by cases h; exact et_yes) (fun _ _ x z _ h => by obtain ⟨column_160, row_161, _⟩ := x; have hz_ := Option.some.inj h; subst hz_; exact EV.is (sl' := [sv text_113, sv names_114, sv cells_146, .any, sv row_161, sv column_160, .any, .any, .at p_places_148, sv name_150, .any, .any, .any]) rfl (ev_var (i := 5) rfl)))) (Option.some.inj h_across_163)) (kx_ _ _ ?_))
          obtain ⟨i_164, h_i_164, hc_153⟩ := bind_some hc_153
          obtain ⟨zs_167, h_zs_167, hc_153⟩ := bind_some hc_153
          obtain ⟨down_168, h_down_168, hc_153⟩ := bind_some hc_153
          refine SB.seqB (fun kx_ => sb_asg (sl' := [sv text_113, sv names_114, sv cells_146, .any, .any, .any, .any, .any, .at p_places_148, sv name_150, sv across_163, sv down_168, .any]) rfl (EV.cast (EN.ev (en_lc (js := [5, 4]) (fun x => [sv text_113, sv names_114, sv cells_146, .any, sv x.2.1, sv x.1, .any, .any, .at p_places_148, sv name_150, sv across_163, .any, .any]) h_zs_167 (it_list (ev_dget (ev_var (i := 2) rfl) (ev_var (i := 9) rfl) h_i_164)) (anyAt_of (by rfl)) (fun x => (gt_tup (gts_cons (gt_name rfl) (gts_cons (gt_name rfl) gts_nil)))) (sub_of (by rfl)) (fun _ _ x b h => by cases h; exact et_yes) (fun _ _ x z _ h => by obtain ⟨column_165, row_166, _⟩ := x; have hz_ := Option.some.inj h; subst hz_; exact EV.is (sl' := [sv text_113, sv names_114, sv cells_146, .any, sv row_166, sv column_165, .any, .any, .at p_places_148, sv name_150, sv across_163, .any, .any]) rfl (ev_var (i := 4) rfl)))) (Option.some.inj h_down_168)) (kx_ _ _ ?_))
          obtain ⟨min_169, h_min_169, hc_153⟩ := bind_some hc_153
          obtain ⟨min_170, h_min_170, hc_153⟩ := bind_some hc_153
          obtain ⟨max_171, h_max_171, hc_153⟩ := bind_some hc_153
          obtain ⟨min_172, h_min_172, hc_153⟩ := bind_some hc_153
          obtain ⟨max_173, h_max_173, hc_153⟩ := bind_some hc_153
          obtain ⟨min_174, h_min_174, hc_153⟩ := bind_some hc_153
          obtain ⟨place_175, h_place_175, hc_153⟩ := bind_some hc_153
          refine SB.seqB (fun kx_ => sb_asg (sl' := [sv text_113, sv names_114, sv cells_146, .any, .any, .any, .any, .any, .at p_places_148, sv name_150, sv across_163, sv down_168, sv place_175]) rfl (EV.cast (ev_tup (ea_cons (ev_cb (ea_cons (ev_var (i := 10) rfl) ea_nil) (rc_minL h_min_169)) (ea_cons (ev_cb (ea_cons (ev_var (i := 11) rfl) ea_nil) (rc_minL h_min_170)) (ea_cons (ev_op (ev_op (ev_cb (ea_cons (ev_var (i := 10) rfl) ea_nil) (rc_maxL h_max_171)) (ev_cb (ea_cons (ev_var (i := 10) rfl) ea_nil) (rc_minL h_min_172)) r2_sub) (ev_int 1) r2_add) (ea_cons (ev_op (ev_op (ev_cb (ea_cons (ev_var (i := 11) rfl) ea_nil) (rc_maxL h_max_173)) (ev_cb (ea_cons (ev_var (i := 11) rfl) ea_nil) (rc_minL h_min_174)) r2_sub) (ev_int 1) r2_add) ea_nil))))) (Option.some.inj h_place_175)) (kx_ _ _ ?_))
          obtain ⟨i_177, h_i_177, hc_153⟩ := bind_some hc_153
          obtain ⟨m_178, h_m_178, hc_153⟩ := bind_some hc_153
          refine SB.seqB (fun kx_180 => sb_if (b := (!decide ((i_177.length : Int) = m_178))) (et_test (ev_op (ev_cb (ea_cons (ev_dget (ev_var (i := 2) rfl) (ev_var (i := 9) rfl) h_i_177) ea_nil) rc_len) (ev_op (ev_op (ev_var (i := 12) rfl) (ev_int 2) (r2_tix (n := 2) (At.s _ (At.s _ (At.z _ _))))) (ev_op (ev_var (i := 12) rfl) (ev_int 3) (r2_tix (n := 3) (At.s _ (At.s _ (At.s _ (At.z _ _)))))) (r2_mulO h_m_178)) r2_neI)) (fun hb_179 => ?_) (fun hb_179 => ?_))
          · have hc_153 := ite_t hb_179 hc_153
            cases hc_153
            replace hP_152 : some (Ctl.rt (Er.ex ⟨"NoRead", []⟩)) = some tot_155 := hP_152
            cases hP_152
            replace hf : some (Er.ex ⟨"NoRead", []⟩) = some r_ := hf
            cases hf
            exact sb_raise0 (cm := cmT T) rfl q_154 (List.Sublist.cons _ List.Sublist.slnil)
          · have hc_153 := ite_f hb_179 hc_153
            refine sb_nx ?_
            refine kx_180 _ _ ?_
            obtain ⟨places_181, h_places_181, hc_153⟩ := bind_some hc_153
            refine sb_dput (i := 8) (j := 0) rfl rfl (ev_var (i := 12) rfl) (ev_var (i := 9) rfl) h_places_181 (ow1 := [oo p_places_148 places_181]) rfl ?_
            cases hc_153
            exact fun σ Kn H s => hN_151 _ hP_152 σ Kn H ((s.le (.keep (.keep (.keep (.keep (.keep (.keep (.keep (.keep (.keep (.drop (.drop (.drop (.drop .nil)))))))))))))).sub (List.Sublist.refl _))
      · intro places_182 h0
        cases h0
        refine kx_183 _ _ ?_
        refine SB.is (sl' := [sv text_113, sv names_114, sv cells_146, .any, .any, .any, .any, .any, .at p_places_148, .any, .any, .any, .any]) (ow1 := [oo p_places_148 places_182]) rfl rfl ?_
        refine sb_freezeG (i := 8) (j := 0) (sl' := [sv text_113, sv names_114, sv cells_146, .any, .any, .any, .any, .any, sv places_182, .any, .any, .any, .any]) (ow1 := []) rfl rfl rfl rfl ?_
        cases hf
        exact sb_ret (ev_var (i := 8) rfl) q (List.Sublist.refl _)
theorem sc__law_cell_at : FnScope ["_law_script", "_law_k"] ["_law_script", "_law_k"] (defScope s__law_cell_at) := ⟨rfl, rfl, rfl, by decide +kernel, rfl, by decide +kernel, by decide +kernel⟩
set_option maxHeartbeats 4000000 in
theorem ok__law_cell_at (T : TX K mg w) : FnOk P w K mg base CX0 1 T.a__law_cell_at T.d__law_cell_at ["_law_script", "_law_k"] (PF (τ := (Fz Int) × Int × Unit) K (fun t => m__law_cell_at t.1 t.2.1)) := by
  refine T.F__law_cell_at.ok sc__law_cell_at (fun vs H Q E h => ?_) (fun cdv A outer s H vs Q E hr h => ?_)
  · obtain ⟨Kn, t, r, ek, h, hf, q⟩ := h
    exact Tp.len h
  · obtain ⟨Kn, t, r_, ek, h, hf, q⟩ := h
    obtain ⟨script_184, k_185, u_⟩ := t
    obtain ⟨v_0, rr_, rfl, hv_0, h⟩ := h
    obtain ⟨v_1, rr_, rfl, hv_1, h⟩ := h
    obtain rfl := h
    replace hf : m__law_cell_at script_184 k_185 = some r_ := hf
    unfold m__law_cell_at at hf
    refine ⟨_, (pss_cons (ps_if (pt_cmpR op_lt (pv 1) (pe_callB k_len (by rfl) T.z_len PySem.boot_len (pa_cons (pv 0) pa_nil)) (nomark _)) (pss_one (ps_ret (pe_ix k_ixl (pv 0) (pv 1) (fun _ _ => rfl)))) pss_nil)
      (pss_one (ps_ret pe_int))), ?_⟩
    refine enter (K := K) (Kn := Kn) (sl := [sv script_184, sv k_185]) ek ⟨⟨v_0, rfl, hv_0⟩, ⟨v_1, rfl, hv_1⟩, trivial⟩ ?_
    have q := rt_of q
    refine SB.seqB (fun kx_188 => sb_if (b := (decide (k_185 < (script_184.l.length : Int)))) (et_test (ev_op (ev_var (i := 1) rfl) (ev_cb (ea_cons (ev_var (i := 0) rfl) ea_nil) rc_lenF) r2_lt)) (fun hb_187 => ?_) (fun hb_187 => ?_))
    · have hf := ite_t hb_187 hf
      obtain ⟨i_189, h_i_189, hf⟩ := bind_some hf
      cases hf
      exact sb_ret (ev_op (ev_var (i := 0) rfl) (ev_var (i := 1) rfl) (r2_ixF h_i_189)) q (List.Sublist.refl _)
    · have hf := ite_f hb_187 hf
      refine sb_nx ?_
      refine kx_188 _ _ ?_
      cases hf
      exact sb_ret (ev_int 0) q (List.Sublist.refl _)
theorem sc__law_numbers : FnScope ["_law_cell", "_law_many", "_law_found", "_law_number", "_law_k"] ["_law_cell", "_law_many"] (defScope s__law_numbers) := ⟨rfl, rfl, rfl, by decide +kernel, rfl, by decide +kernel, by decide +kernel⟩
set_option maxHeartbeats 4000000 in
theorem ok__law_numbers (T : TX K mg w) : FnOk P w K mg base CX0 1 T.a__law_numbers T.d__law_numbers ["_law_cell", "_law_many"] (PL (τ := Int × Int × Unit) K (fun t => m__law_numbers t.1 t.2.1)) := by
  refine T.F__law_numbers.ok sc__law_numbers (fun vs H Q E h => ?_) (fun cdv A outer s H vs Q E hr h => ?_)
  · obtain ⟨Kn, t, r, ek, h, hf, q⟩ := h
    exact Tp.len h
  · obtain ⟨Kn, t, r_, ek, h, hf, q⟩ := h
    obtain ⟨cell_190, many_191, u_⟩ := t
    obtain ⟨v_0, rr_, rfl, hv_0, h⟩ := h
    obtain ⟨v_1, rr_, rfl, hv_1, h⟩ := h
    obtain rfl := h
    replace hf : m__law_numbers cell_190 many_191 = some r_ := hf
    unfold m__law_numbers at hf
    refine ⟨_, (pss_cons (ps_set (i := 2) sc__law_numbers.nd rfl (.inl rfl) (pe_lst pa_nil))
      (pss_cons (ps_set (i := 3) sc__law_numbers.nd rfl (.inl rfl) (pe_op op_sub (pv 0) (pe_op op_pow pe_int pe_int)))
      (pss_cons (ps_if (pt_cmpR op_ge (pv 3) pe_int (nomark _)) (pss_cons (ps_for PassesOwn.never rfl (pi_range1 (by rfl) T.z_range (pa_cons (pv 1) pa_nil)) (pg_name (i := 4) sc__law_numbers.nd rfl (.inl rfl)) (pss_cons (ps_expr (pe_bm PySem.F.plainAttrs_list PySem.F.slot_list_append PySem.F.type_list_append mt_append (pv 2) (pa_cons (pe_op op_mod (pv 3) pe_int) pa_nil)))
      (pss_one (ps_set (i := 3) sc__law_numbers.nd rfl (.inl rfl) (pe_op op_fdiv (pv 3) pe_int)))))
      (pss_one (ps_ret (pv 2)))) pss_nil)
      (pss_cons (ps_set (i := 3) sc__law_numbers.nd rfl (.inl rfl) (pe_op op_mod (pv 0) pe_int))
      (pss_cons (ps_for PassesOwn.never rfl (pi_range1 (by rfl) T.z_range (pa_cons (pe_op op_add (pv 1) pe_int) pa_nil)) (pg_name (i := 4) sc__law_numbers.nd rfl (.inl rfl)) (pss_cons (ps_set (i := 3) sc__law_numbers.nd rfl (.inl rfl) (pe_op op_mod (pe_op op_mul (pe_op op_add (pe_op op_add (pv 3) (pv 4)) pe_int) pe_int) pe_int))
      (pss_one (ps_expr (pe_bm PySem.F.plainAttrs_list PySem.F.slot_list_append PySem.F.type_list_append mt_append (pv 2) (pa_cons (pe_op op_mod (pe_op op_mul (pv 3) pe_int) pe_int) pa_nil))))))
      (pss_one (ps_ret (pe_slice k_sll (pv 2) (po_some pe_int) po_none)))))))), ?_⟩
    refine enter (K := K) (Kn := Kn) (sl := [sv cell_190, sv many_191, .any, .any, .any]) ek ⟨⟨v_0, rfl, hv_0⟩, ⟨v_1, rfl, hv_1⟩, trivial, trivial, trivial, trivial⟩ ?_
    have q := rn_of q
    obtain ⟨found_192, h_found_192, hf⟩ := bind_some hf
    refine SB.seqB (fun kx_ => sb_asgO (sl' := fun p_found_192 => [sv cell_190, sv many_191, .at p_found_192, .any, .any]) (fun _ => rfl) (EN.cast (en_lst el_nil) (Option.some.inj h_found_192)) (fun p_found_192 => (kx_ _ _ ?_)))
    obtain ⟨number_193, h_number_193, hf⟩ := bind_some hf
    refine SB.seqB (fun kx_ => sb_asg (sl' := [sv cell_190, sv many_191, .at p_found_192, sv number_193, .any]) rfl (EV.cast (ev_op (ev_var (i := 0) rfl) (ev_op (ev_int 10) (ev_int 18) (r2_pow (r := 1000000000000000000))) r2_sub) (Option.some.inj h_number_193)) (kx_ _ _ ?_))
    refine SB.seqB (fun kx_196 => sb_if (b := (decide ((0 : Int) ≤ number_193))) (et_test (ev_op (ev_var (i := 3) rfl) (ev_int 0) r2_ge)) (fun hb_195 => ?_) (fun hb_195 => ?_))
    · have hf := ite_t hb_195 hf
      obtain ⟨rg_197, h_rg_197, hf⟩ := bind_some hf
      obtain ⟨⟨number_208, found_209⟩, h_tot_205, hf⟩ := bind_some hf
      refine SB.seqB (fun kx_210 => sb_for (β := Int) (Sx := Int × (List Int)) (fun s => [sv cell_190, sv many_191, .at p_found_192, sv s.1, .any]) (fun s => [ol p_found_192 s.2]) (fun x s => [sv cell_190, sv many_191, .at p_found_192, sv s.1, sv x]) [4] (fun xs s => forS (m__law_numbers_L1) xs s = some (number_208, found_209)) (number_193, found_192) (IT.m (it_rng1 (ea_cons (ev_var (i := 1) rfl) ea_nil) h_rg_197)) h_tot_205 (.keep (.keep (.keep (.keep (.keep .nil))))) (List.Sublist.refl _) (fun x s => (gt_name rfl)) ?_ ?_)
      · intro Kn1 b1 k_200 rest_ s_ hP_202 N_ hN_201
        obtain ⟨number_198, found_199⟩ := s_
        obtain ⟨c_, hc_203, hP_202⟩ := bind_some hP_202
        have q_204 := q.base b1
        unfold m__law_numbers_L1 at hc_203
        refine SB.is (sl' := [sv cell_190, sv many_191, .at p_found_192, sv number_198, sv k_200]) (ow1 := [ol p_found_192 found_199]) rfl rfl ?_
        obtain ⟨found_206, h_found_206, hc_203⟩ := bind_some hc_203
        refine SB.seqB (fun kx_ => sb_appO (i := 2) (j := 0) rfl rfl (ev_op (ev_var (i := 3) rfl) (ev_int 5040) r2_mod) h_found_206 (ow1 := [ol p_found_192 found_206]) rfl (kx_ _ _ ?_))
        obtain ⟨number_207, h_number_207, hc_203⟩ := bind_some hc_203
        refine sb_asg (sl' := [sv cell_190, sv many_191, .at p_found_192, sv number_207, sv k_200]) rfl (EV.cast (ev_op (ev_var (i := 3) rfl) (ev_int 5040) r2_div) (Option.some.inj h_number_207)) ?_
        cases hc_203
        exact fun σ Kn H s => hN_201 _ hP_202 σ Kn H ((s.le (.keep (.keep (.keep (.keep (.drop .nil)))))).sub (List.Sublist.refl _))
      · intro s_ h0
        cases h0
        refine kx_210 _ _ ?_
        refine SB.is (sl' := [sv cell_190, sv many_191, .at p_found_192, sv number_208, .any]) (ow1 := [ol p_found_192 found_209]) rfl rfl ?_
        cases hf
        exact sb_retO (i := 2) (j := 0) rfl rfl q (List.Sublist.cons _ List.Sublist.slnil)
    · have hf := ite_f hb_195 hf
      refine sb_nx ?_
      refine kx_196 _ _ ?_
      obtain ⟨number_211, h_number_211, hf⟩ := bind_some hf
      refine SB.seqB (fun kx_ => sb_asg (sl' := [sv cell_190, sv many_191, .at p_found_192, sv number_211, .any]) rfl (EV.cast (ev_op (ev_var (i := 0) rfl) (ev_int 2147483647) r2_mod) (Option.some.inj h_number_211)) (kx_ _ _ ?_))
      obtain ⟨rg_212, h_rg_212, hf⟩ := bind_some hf
      obtain ⟨⟨number_223, found_224⟩, h_tot_220, hf⟩ := bind_some hf
      refine SB.seqB (fun kx_225 => sb_for (β := Int) (Sx := Int × (List Int)) (fun s => [sv cell_190, sv many_191, .at p_found_192, sv s.1, .any]) (fun s => [ol p_found_192 s.2]) (fun x s => [sv cell_190, sv many_191, .at p_found_192, sv s.1, sv x]) [4] (fun xs s => forS (m__law_numbers_L2) xs s = some (number_223, found_224)) (number_211, found_192) (IT.m (it_rng1 (ea_cons (ev_op (ev_var (i := 1) rfl) (ev_int 1) r2_add) ea_nil) h_rg_212)) h_tot_220 (.keep (.keep (.keep (.keep (.keep .nil))))) (List.Sublist.refl _) (fun x s => (gt_name rfl)) ?_ ?_)
      · intro Kn1 b1 k_215 rest_ s_ hP_217 N_ hN_216
        obtain ⟨number_213, found_214⟩ := s_
        obtain ⟨c_, hc_218, hP_217⟩ := bind_some hP_217
        have q_219 := q.base b1
        unfold m__law_numbers_L2 at hc_218
        refine SB.is (sl' := [sv cell_190, sv many_191, .at p_found_192, sv number_213, sv k_215]) (ow1 := [ol p_found_192 found_214]) rfl rfl ?_
        obtain ⟨number_221, h_number_221, hc_218⟩ := bind_some hc_218
        refine SB.seqB (fun kx_ => sb_asg (sl' := [sv cell_190, sv many_191, .at p_found_192, sv number_221, sv k_215]) rfl (EV.cast (ev_op (ev_op (ev_op (ev_op (ev_var (i := 3) rfl) (ev_var (i := 4) rfl) r2_add) (ev_int 1) r2_add) (ev_int 48271) r2_mulr) (ev_int 2147483647) r2_mod) (Option.some.inj h_number_221)) (kx_ _ _ ?_))
        obtain ⟨found_222, h_found_222, hc_218⟩ := bind_some hc_218
        refine sb_appO (i := 2) (j := 0) rfl rfl (ev_op (ev_op (ev_var (i := 3) rfl) (ev_int 69621) r2_mulr) (ev_int 2147483629) r2_mod) h_found_222 (ow1 := [ol p_found_192 found_222]) rfl ?_
        cases hc_218
        exact fun σ Kn H s => hN_216 _ hP_217 σ Kn H ((s.le (.keep (.keep (.keep (.keep (.drop .nil)))))).sub (List.Sublist.refl _))
      · intro s_ h0
        cases h0
        refine kx_225 _ _ ?_
        refine SB.is (sl' := [sv cell_190, sv many_191, .at p_found_192, sv number_223, .any]) (ow1 := [ol p_found_192 found_224]) rfl rfl ?_
        refine sb_freeze (i := 2) (j := 0) (sl' := [sv cell_190, sv many_191, sv found_224, sv number_223, .any]) (ow1 := []) rfl rfl rfl rfl ?_
        cases hf
        exact sb_retL (en_sl (ev_var (i := 2) rfl) (eo_some (ev_int 1)) eo_none) q (List.Sublist.refl _)
theorem sc__law_names : FnScope ["_law_cell", "_law_many", "_law_letters", "_law_some", "_law_size", "_law_at", "_law_names_here", "_law_turn", "_law_name", "_law_k", "_law_step"] ["_law_cell", "_law_many"] (defScope s__law_names) := ⟨rfl, rfl, rfl, by decide +kernel, rfl, by decide +kernel, by decide +kernel⟩
set_option maxHeartbeats 4000000 in
theorem ok__law_names (T : TX K mg w) : FnOk P w K mg base CX0 2 T.a__law_names T.d__law_names ["_law_cell", "_law_many"] (PL (τ := Int × Int × Unit) K (fun t => m__law_names t.1 t.2.1)) := by
  refine T.F__law_names.ok sc__law_names (fun vs H Q E h => ?_) (fun cdv A outer s H vs Q E hr h => ?_)
  · obtain ⟨Kn, t, r, ek, h, hf, q⟩ := h
    exact Tp.len h
  · obtain ⟨Kn, t, r_, ek, h, hf, q⟩ := h
    obtain ⟨cell_226, many_227, u_⟩ := t
    obtain ⟨v_0, rr_, rfl, hv_0, h⟩ := h
    obtain ⟨v_1, rr_, rfl, hv_1, h⟩ := h
    obtain rfl := h
    replace hf : m__law_names cell_226 many_227 = some r_ := hf
    unfold m__law_names at hf
    refine ⟨_, (pss_cons (ps_set (i := 2) sc__law_names.nd rfl (.inl rfl) pe_str)
      (pss_cons (ps_set (i := 3) sc__law_names.nd rfl (.inl rfl) (pe_call (ok__law_numbers T) hr (by rfl) T.g__law_numbers T.F__law_numbers.kp T.b__law_numbers .nil pass0 (pa_cons (pv 0) (pa_cons pe_int pa_nil))))
      (pss_cons (ps_set (i := 4) sc__law_names.nd rfl (.inl rfl) (pe_op op_add pe_int (pe_op op_mod (pe_ix k_ixl (pv 3) pe_int (fun _ _ => rfl)) pe_int)))
      (pss_cons (ps_set (i := 5) sc__law_names.nd rfl (.inl rfl) (pe_op op_mod (pe_ix k_ixl (pv 3) pe_int (fun _ _ => rfl)) (pe_op op_sub (pv 4) pe_int)))
      (pss_cons (ps_set (i := 6) sc__law_names.nd rfl (.inl rfl) (pe_lst pa_nil))
      (pss_cons (ps_for PassesOwn.never rfl (pi_range1 (by rfl) T.z_range (pa_cons (pv 1) pa_nil)) (pg_name (i := 7) sc__law_names.nd rfl (.inl rfl)) (pss_cons (ps_set (i := 8) sc__law_names.nd rfl (.inl rfl) pe_str)
      (pss_cons (ps_for PassesOwn.never rfl (pi_range1 (by rfl) T.z_range (pa_cons (pv 4) pa_nil)) (pg_name (i := 9) sc__law_names.nd rfl (.inl rfl)) (pss_cons (ps_set (i := 10) sc__law_names.nd rfl (.inl rfl) (pe_op op_add (pe_op op_mul (pe_op op_mul pe_int (pe_op op_mod (pv 7) pe_int)) (pe_callTy call_int1 (by rfl) T.z_int (by decide +kernel) (pa_cons (pe_cmpR op_eq (pv 9) (pv 5) (nomark _)) pa_nil))) (pe_op op_mul (pe_op op_fdiv (pv 7) pe_int) (pe_callTy call_int1 (by rfl) T.z_int (by decide +kernel) (pa_cons (pe_cmpR op_eq (pv 9) (pe_op op_add (pv 5) pe_int) (nomark _)) pa_nil)))))
      (pss_one (ps_set (i := 8) sc__law_names.nd rfl (.inl rfl) (pe_op op_add_str (pv 8) (pe_ix ix_str (pv 2) (pe_op op_mod (pe_op op_add (pe_ix k_ixl (pv 3) (pv 9) (fun _ _ => rfl)) (pv 10)) pe_int) (fun _ _ => rfl)))))))
      (Evl.pss_cut (ps_if (PW.pt (pw_and (pt_cmpR op_eq (pe_op op_mod (pv 7) pe_int) pe_int (nomark _)) (pw_and1 (pt_cmpR op_lt (pv 4) pe_int (nomark _))))) (pss_one (ps_set (i := 8) sc__law_names.nd rfl (.inl rfl) (pe_op op_add_str (pv 8) pe_str))) pss_nil)
      (pss_one (ps_expr (pe_bm PySem.F.plainAttrs_list PySem.F.slot_list_append PySem.F.type_list_append mt_append (pv 6) (pa_cons (pv 8) pa_nil))))))))
      (pss_one (ps_ret (pv 6))))))))), ?_⟩
    refine enter (K := K) (Kn := Kn) (sl := [sv cell_226, sv many_227, .any, .any, .any, .any, .any, .any, .any, .any, .any]) ek ⟨⟨v_0, rfl, hv_0⟩, ⟨v_1, rfl, hv_1⟩, trivial, trivial, trivial, trivial, trivial, trivial, trivial, trivial, trivial, trivial⟩ ?_
    have q := rn_of q
    obtain ⟨letters_228, h_letters_228, hf⟩ := bind_some hf
    refine SB.seqB (fun kx_ => sb_asg (sl' := [sv cell_226, sv many_227, sv letters_228, .any, .any, .any, .any, .any, .any, .any, .any]) rfl (EV.cast (ev_str ("abcdefghijklmnopqrstuvwxyz" : Str)) (Option.some.inj h_letters_228)) (kx_ _ _ ?_))
    obtain ⟨r_229, h_r_229, hf⟩ := bind_some hf
    obtain ⟨some_230, h_some_230, hf⟩ := bind_some hf
    refine SB.seqB (fun kx_ => sb_asg (sl' := [sv cell_226, sv many_227, sv letters_228, sv some_230, .any, .any, .any, .any, .any, .any, .any]) rfl (EV.cast (EN.ev (en_call (ea_cons (ev_var (i := 0) rfl) (ea_cons (ev_int 10) ea_nil)) h_r_229)) (Option.some.inj h_some_230)) (kx_ _ _ ?_))
    obtain ⟨i_231, h_i_231, hf⟩ := bind_some hf
    obtain ⟨size_232, h_size_232, hf⟩ := bind_some hf
    refine SB.seqB (fun kx_ => sb_asg (sl' := [sv cell_226, sv many_227, sv letters_228, sv some_230, sv size_232, .any, .any, .any, .any, .any, .any]) rfl (EV.cast (ev_op (ev_int 2) (ev_op (ev_op (ev_var (i := 3) rfl) (ev_int 8) (r2_ixL h_i_231)) (ev_int 7) r2_mod) r2_add) (Option.some.inj h_size_232)) (kx_ _ _ ?_))
    obtain ⟨i_233, h_i_233, hf⟩ := bind_some hf
    obtain ⟨r_234, h_r_234, hf⟩ := bind_some hf
    obtain ⟨at_235, h_at_235, hf⟩ := bind_some hf
    refine SB.seqB (fun kx_ => sb_asg (sl' := [sv cell_226, sv many_227, sv letters_228, sv some_230, sv size_232, sv at_235, .any, .any, .any, .any, .any]) rfl (EV.cast (ev_op (ev_op (ev_var (i := 3) rfl) (ev_int 9) (r2_ixL h_i_233)) (ev_op (ev_var (i := 4) rfl) (ev_int 1) r2_sub) (r2_modO h_r_234)) (Option.some.inj h_at_235)) (kx_ _ _ ?_))
    obtain ⟨names_here_236, h_names_here_236, hf⟩ := bind_some hf
    refine SB.seqB (fun kx_ => sb_asgO (sl' := fun p_names_here_236 => [sv cell_226, sv many_227, sv letters_228, sv some_230, sv size_232, sv at_235, .at p_names_here_236, .any, .any, .any, .any]) (fun _ => rfl) (EN.cast (en_lst el_nil) (Option.some.inj h_names_here_236)) (fun p_names_here_236 => (kx_ _ _ ?_)))
    obtain ⟨rg_237, h_rg_237, hf⟩ := bind_some hf
    obtain ⟨names_here_270, h_tot_244, hf⟩ := bind_some hf
    refine SB.seqB (fun kx_271 => sb_for (β := Int) (Sx := (List Str)) (fun s => [sv cell_226, sv many_227, sv letters_228, sv some_230, sv size_232, sv at_235, .at p_names_here_236, .any, .any, .any, .any]) (fun s => [ol p_names_here_236 s]) (fun x s => [sv cell_226, sv many_227, sv letters_228, sv some_230, sv size_232, sv at_235, .at p_names_here_236, sv x, .any, .any, .any]) [7] (fun xs s => forS (m__law_names_L1 letters_228 some_230 size_232 at_235) xs s = some names_here_270) names_here_236 (IT.m (it_rng1 (ea_cons (ev_var (i := 1) rfl) ea_nil) h_rg_237)) h_tot_244 (.keep (.keep (.keep (.keep (.keep (.keep (.keep (.keep (.keep (.keep (.keep .nil))))))))))) (List.Sublist.refl _) (fun x s => (gt_name rfl)) ?_ ?_)
    · intro Kn1 b1 turn_239 rest_ names_here_238 hP_241 N_ hN_240
      obtain ⟨c_, hc_242, hP_241⟩ := bind_some hP_241
      have q_243 := q.base b1
      unfold m__law_names_L1 at hc_242
      refine SB.is (sl' := [sv cell_226, sv many_227, sv letters_228, sv some_230, sv size_232, sv at_235, .at p_names_here_236, sv turn_239, .any, .any, .any]) (ow1 := [ol p_names_here_236 names_here_238]) rfl rfl ?_
      obtain ⟨name_245, h_name_245, hc_242⟩ := bind_some hc_242
      refine SB.seqB (fun kx_ => sb_asg (sl' := [sv cell_226, sv many_227, sv letters_228, sv some_230, sv size_232, sv at_235, .at p_names_here_236, sv turn_239, sv name_245, .any, .any]) rfl (EV.cast (ev_str ("" : Str)) (Option.some.inj h_name_245)) (kx_ _ _ ?_))
      obtain ⟨rg_246, h_rg_246, hc_242⟩ := bind_some hc_242
      obtain ⟨name_261, h_tot_253, hc_242⟩ := bind_some hc_242
      refine SB.seqB (fun kx_262 => sb_for (β := Int) (Sx := Str) (fun s => [sv cell_226, sv many_227, sv letters_228, sv some_230, sv size_232, sv at_235, .at p_names_here_236, sv turn_239, sv s, .any, .any]) (fun s => [ol p_names_here_236 names_here_238]) (fun x s => [sv cell_226, sv many_227, sv letters_228, sv some_230, sv size_232, sv at_235, .at p_names_here_236, sv turn_239, sv s, sv x, .any]) [9] (fun xs s => forS (m__law_names_L2 letters_228 some_230 at_235 turn_239) xs s = some name_261) name_245 (IT.m (it_rng1 (ea_cons (ev_var (i := 4) rfl) ea_nil) h_rg_246)) h_tot_253 (.keep (.keep (.keep (.keep (.keep (.keep (.keep (.keep (.keep (.keep (.keep .nil))))))))))) (List.Sublist.refl _) (fun x s => (gt_name rfl)) ?_ ?_)
      · intro Kn1 b1 k_248 rest_ name_247 hP_250 N_ hN_249
        obtain ⟨c_, hc_251, hP_250⟩ := bind_some hP_250
        have q_252 := q_243.base b1
        unfold m__law_names_L2 at hc_251
        refine SB.is (sl' := [sv cell_226, sv many_227, sv letters_228, sv some_230, sv size_232, sv at_235, .at p_names_here_236, sv turn_239, sv name_247, sv k_248, .any]) (ow1 := [ol p_names_here_236 names_here_238]) rfl rfl ?_
        obtain ⟨m_254, h_m_254, hc_251⟩ := bind_some hc_251
        obtain ⟨m_255, h_m_255, hc_251⟩ := bind_some hc_251
        obtain ⟨step_256, h_step_256, hc_251⟩ := bind_some hc_251
        refine SB.seqB (fun kx_ => sb_asg (sl' := [sv cell_226, sv many_227, sv letters_228, sv some_230, sv size_232, sv at_235, .at p_names_here_236, sv turn_239, sv name_247, sv k_248, sv step_256]) rfl (EV.cast (ev_op (ev_op (ev_op (ev_int 7) (ev_op (ev_var (i := 7) rfl) (ev_int 26) r2_mod) r2_mull) (ev_cb (ea_cons (ev_op (ev_var (i := 9) rfl) (ev_var (i := 5) rfl) r2_eqI) ea_nil) rc_intB) (r2_mulO h_m_254)) (ev_op (ev_op (ev_var (i := 7) rfl) (ev_int 26) r2_div) (ev_cb (ea_cons (ev_op (ev_var (i := 9) rfl) (ev_op (ev_var (i := 5) rfl) (ev_int 1) r2_add) r2_eqI) ea_nil) rc_intB) (r2_mulO h_m_255)) r2_add) (Option.some.inj h_step_256)) (kx_ _ _ ?_))
        obtain ⟨i_257, h_i_257, hc_251⟩ := bind_some hc_251
        obtain ⟨i_258, h_i_258, hc_251⟩ := bind_some hc_251
        obtain ⟨t_259, h_t_259, hc_251⟩ := bind_some hc_251
        obtain ⟨name_260, h_name_260, hc_251⟩ := bind_some hc_251
        refine sb_asg (sl' := [sv cell_226, sv many_227, sv letters_228, sv some_230, sv size_232, sv at_235, .at p_names_here_236, sv turn_239, sv name_260, sv k_248, sv step_256]) rfl (EV.cast (ev_op (ev_var (i := 8) rfl) (ev_op (ev_var (i := 2) rfl) (ev_op (ev_op (ev_op (ev_var (i := 3) rfl) (ev_var (i := 9) rfl) (r2_ixL h_i_257)) (ev_var (i := 10) rfl) r2_add) (ev_int 26) r2_mod) (r2_ixS h_i_258)) (r2_addS h_t_259)) (Option.some.inj h_name_260)) ?_
        cases hc_251
        exact fun σ Kn H s => hN_249 _ hP_250 σ Kn H ((s.le (.keep (.keep (.keep (.keep (.keep (.keep (.keep (.keep (.keep (.drop (.drop .nil)))))))))))).sub (List.Sublist.refl _))
      · intro s_ h0
        cases h0
        refine kx_262 _ _ ?_
        refine SB.is (sl' := [sv cell_226, sv many_227, sv letters_228, sv some_230, sv size_232, sv at_235, .at p_names_here_236, sv turn_239, sv name_261, .any, .any]) (ow1 := [ol p_names_here_236 names_here_238]) rfl rfl ?_
        obtain ⟨name_267, hj_263, hc_242⟩ := bind_some hc_242
        refine SB.cutB (sl' := [sv cell_226, sv many_227, sv letters_228, sv some_230, sv size_232, sv at_235, .at p_names_here_236, sv turn_239, sv name_267, .any, .any]) (ow1 := [ol p_names_here_236 names_here_238]) (fun km_268 => sb_if (b := ((decide ((turn_239 % (2 : Int)) = (1 : Int))) && (decide (size_232 < (8 : Int))))) (et_and (et_test (ev_op (ev_op (ev_var (i := 7) rfl) (ev_int 2) r2_mod) (ev_int 1) r2_eqI)) (fun _ => (et_test (ev_op (ev_var (i := 4) rfl) (ev_int 8) r2_lt)))) (fun hb_264 => ?_) (fun hb_264 => ?_)) ?_
        · have hj_263 := ite_t hb_264 hj_263
          obtain ⟨t_265, h_t_265, hj_263⟩ := bind_some hj_263
          obtain ⟨name_266, h_name_266, hj_263⟩ := bind_some hj_263
          refine sb_asg (sl' := [sv cell_226, sv many_227, sv letters_228, sv some_230, sv size_232, sv at_235, .at p_names_here_236, sv turn_239, sv name_266, .any, .any]) rfl (EV.cast (ev_op (ev_var (i := 8) rfl) (ev_str ("m" : Str)) (r2_addS h_t_265)) (Option.some.inj h_name_266)) ?_
          cases hj_263
          exact km_268 _ _ (.keep (.keep (.keep (.keep (.keep (.keep (.keep (.keep (.keep (.keep (.keep .nil))))))))))) (List.Sublist.refl _)
        · have hj_263 := ite_f hb_264 hj_263
          refine sb_nx ?_
          cases hj_263
          exact km_268 _ _ (.keep (.keep (.keep (.keep (.keep (.keep (.keep (.keep (.keep (.keep (.keep .nil))))))))))) (List.Sublist.refl _)
        obtain ⟨names_here_269, h_names_here_269, hc_242⟩ := bind_some hc_242
        refine sb_appO (i := 6) (j := 0) rfl rfl (ev_var (i := 8) rfl) h_names_here_269 (ow1 := [ol p_names_here_236 names_here_269]) rfl ?_
        cases hc_242
        exact fun σ Kn H s => hN_240 _ hP_241 σ Kn H ((s.le (.keep (.keep (.keep (.keep (.keep (.keep (.keep (.drop (.drop (.keep (.keep .nil)))))))))))).sub (List.Sublist.refl _))
    · intro s_ h0
      cases h0
      refine kx_271 _ _ ?_
      refine SB.is (sl' := [sv cell_226, sv many_227, sv letters_228, sv some_230, sv size_232, sv at_235, .at p_names_here_236, .any, .any, .any, .any]) (ow1 := [ol p_names_here_236 names_here_270]) rfl rfl ?_
      cases hf
      exact sb_retO (i := 6) (j := 0) rfl rfl q (List.Sublist.cons _ List.Sublist.slnil)
theorem sc__law_parted : FnScope ["_law_place", "_law_number", "_law_x", "_law_y", "_law_width", "_law_height", "_law_left", "_law_top"] ["_law_place", "_law_number"] (defScope s__law_parted) := ⟨rfl, rfl, rfl, by decide +kernel, rfl, by decide +kernel, by decide +kernel⟩
set_option maxHeartbeats 4000000 in
theorem ok__law_parted (T : TX K mg w) : FnOk P w K mg base CX0 1 T.a__law_parted T.d__law_parted ["_law_place", "_law_number"] (PF (τ := (Int × Int × Int × Int × Unit) × Int × Unit) K (fun t => m__law_parted t.1 t.2.1)) := by
  refine T.F__law_parted.ok sc__law_parted (fun vs H Q E h => ?_) (fun cdv A outer s H vs Q E hr h => ?_)
  · obtain ⟨Kn, t, r, ek, h, hf, q⟩ := h
    exact Tp.len h
  · obtain ⟨Kn, t, r_, ek, h, hf, q⟩ := h
    obtain ⟨place_272, number_273, u_⟩ := t
    obtain ⟨v_0, rr_, rfl, hv_0, h⟩ := h
    obtain ⟨v_1, rr_, rfl, hv_1, h⟩ := h
    obtain rfl := h
    replace hf : m__law_parted place_272 number_273 = some r_ := hf
    unfold m__law_parted at hf
    refine ⟨_, (pss_cons (ps_asg (pv 0) (kpg_tup (n := 4) (pgs_cons (pg_name (i := 2) sc__law_parted.nd rfl (.inl rfl)) (pgs_cons (pg_name (i := 3) sc__law_parted.nd rfl (.inl rfl)) (pgs_cons (pg_name (i := 4) sc__law_parted.nd rfl (.inl rfl)) (pgs_cons (pg_name (i := 5) sc__law_parted.nd rfl (.inl rfl)) pgs_nil))))))
      (pss_cons (ps_if (PW.pt (pw_and (pt_cmpR op_eq (pe_op op_mod (pv 1) pe_int) pe_int (nomark _)) (pw_and1 (pt_cmpR op_gt (pv 4) pe_int (nomark _))))) (pss_cons (ps_set (i := 6) sc__law_parted.nd rfl (.inl rfl) (pe_op op_add pe_int (pe_op op_mod (pe_op op_fdiv (pv 1) pe_int) (pe_op op_sub (pv 4) pe_int))))
      (pss_one (ps_ret (pe_lst (pa_cons (pe_tup (pa_cons (pv 2) (pa_cons (pv 3) (pa_cons (pv 6) (pa_cons (pv 5) pa_nil))))) (pa_cons (pe_tup (pa_cons (pe_op op_add (pv 2) (pv 6)) (pa_cons (pv 3) (pa_cons (pe_op op_sub (pv 4) (pv 6)) (pa_cons (pv 5) pa_nil))))) pa_nil)))))) pss_nil)
      (pss_cons (ps_if (pt_cmpR op_gt (pv 5) pe_int (nomark _)) (pss_cons (ps_set (i := 7) sc__law_parted.nd rfl (.inl rfl) (pe_op op_add pe_int (pe_op op_mod (pe_op op_fdiv (pv 1) pe_int) (pe_op op_sub (pv 5) pe_int))))
      (pss_one (ps_ret (pe_lst (pa_cons (pe_tup (pa_cons (pv 2) (pa_cons (pv 3) (pa_cons (pv 4) (pa_cons (pv 7) pa_nil))))) (pa_cons (pe_tup (pa_cons (pv 2) (pa_cons (pe_op op_add (pv 3) (pv 7)) (pa_cons (pv 4) (pa_cons (pe_op op_sub (pv 5) (pv 7)) pa_nil))))) pa_nil)))))) pss_nil)
      (pss_one (ps_ret (pe_lst (pa_cons (pv 0) pa_nil))))))), ?_⟩
    refine enter (K := K) (Kn := Kn) (sl := [sv place_272, sv number_273, .any, .any, .any, .any, .any, .any]) ek ⟨⟨v_0, rfl, hv_0⟩, ⟨v_1, rfl, hv_1⟩, trivial, trivial, trivial, trivial, trivial, trivial, trivial⟩ ?_
    have q := rt_of q
    obtain ⟨⟨x_274, y_275, width_276, height_277, _⟩, h_x_274, hf⟩ := bind_some hf
    refine SB.seqB (fun kx_ => sb_unp (sl' := [sv place_272, sv number_273, sv x_274, sv y_275, sv width_276, sv height_277, .any, .any]) (EV.cast (ev_var (i := 0) rfl) (Option.some.inj h_x_274)) (gt_tup (gts_cons (gt_name rfl) (gts_cons (gt_name rfl) (gts_cons (gt_name rfl) (gts_cons (gt_name rfl) gts_nil))))) (kx_ _ _ ?_))
    refine SB.seqB (fun kx_280 => sb_if (b := ((decide ((number_273 % (2 : Int)) = (0 : Int))) && (decide ((1 : Int) < width_276)))) (et_and (et_test (ev_op (ev_op (ev_var (i := 1) rfl) (ev_int 2) r2_mod) (ev_int 0) r2_eqI)) (fun _ => (et_test (ev_op (ev_var (i := 4) rfl) (ev_int 1) r2_gt)))) (fun hb_279 => ?_) (fun hb_279 => ?_))
    · have hf := ite_t hb_279 hf
      obtain ⟨r_281, h_r_281, hf⟩ := bind_some hf
      obtain ⟨left_282, h_left_282, hf⟩ := bind_some hf
      refine SB.seqB (fun kx_ => sb_asg (sl' := [sv place_272, sv number_273, sv x_274, sv y_275, sv width_276, sv height_277, sv left_282, .any]) rfl (EV.cast (ev_op (ev_int 1) (ev_op (ev_op (ev_var (i := 1) rfl) (ev_int 8) r2_div) (ev_op (ev_var (i := 4) rfl) (ev_int 1) r2_sub) (r2_modO h_r_281)) r2_add) (Option.some.inj h_left_282)) (kx_ _ _ ?_))
      cases hf
      exact sb_ret (EN.ev (en_lst (el_cons (ev_tup (ea_cons (ev_var (i := 2) rfl) (ea_cons (ev_var (i := 3) rfl) (ea_cons (ev_var (i := 6) rfl) (ea_cons (ev_var (i := 5) rfl) ea_nil))))) (el_cons (ev_tup (ea_cons (ev_op (ev_var (i := 2) rfl) (ev_var (i := 6) rfl) r2_add) (ea_cons (ev_var (i := 3) rfl) (ea_cons (ev_op (ev_var (i := 4) rfl) (ev_var (i := 6) rfl) r2_sub) (ea_cons (ev_var (i := 5) rfl) ea_nil))))) el_nil)))) q (List.Sublist.refl _)
    · have hf := ite_f hb_279 hf
      refine sb_nx ?_
      refine kx_280 _ _ ?_
      refine SB.seqB (fun kx_285 => sb_if (b := (decide ((1 : Int) < height_277))) (et_test (ev_op (ev_var (i := 5) rfl) (ev_int 1) r2_gt)) (fun hb_284 => ?_) (fun hb_284 => ?_))
      · have hf := ite_t hb_284 hf
        obtain ⟨r_286, h_r_286, hf⟩ := bind_some hf
        obtain ⟨top_287, h_top_287, hf⟩ := bind_some hf
        refine SB.seqB (fun kx_ => sb_asg (sl' := [sv place_272, sv number_273, sv x_274, sv y_275, sv width_276, sv height_277, .any, sv top_287]) rfl (EV.cast (ev_op (ev_int 1) (ev_op (ev_op (ev_var (i := 1) rfl) (ev_int 8) r2_div) (ev_op (ev_var (i := 5) rfl) (ev_int 1) r2_sub) (r2_modO h_r_286)) r2_add) (Option.some.inj h_top_287)) (kx_ _ _ ?_))
        cases hf
        exact sb_ret (EN.ev (en_lst (el_cons (ev_tup (ea_cons (ev_var (i := 2) rfl) (ea_cons (ev_var (i := 3) rfl) (ea_cons (ev_var (i := 4) rfl) (ea_cons (ev_var (i := 7) rfl) ea_nil))))) (el_cons (ev_tup (ea_cons (ev_var (i := 2) rfl) (ea_cons (ev_op (ev_var (i := 3) rfl) (ev_var (i := 7) rfl) r2_add) (ea_cons (ev_var (i := 4) rfl) (ea_cons (ev_op (ev_var (i := 5) rfl) (ev_var (i := 7) rfl) r2_sub) ea_nil))))) el_nil)))) q (List.Sublist.refl _)
      · have hf := ite_f hb_284 hf
        refine sb_nx ?_
        refine kx_285 _ _ ?_
        cases hf
        exact sb_ret (EN.ev (en_lst (el_cons (ev_var (i := 0) rfl) el_nil))) q (List.Sublist.refl _)
theorem sc__law_places : FnScope ["_law_wide", "_law_high", "_law_cells", "_law_open_ones", "_law_found", "_law_cell", "_law_number", "_law_x", "_law_y", "_law_width", "_law_height"] ["_law_wide", "_law_high", "_law_cells"] (defScope s__law_places) := ⟨rfl, rfl, rfl, by decide +kernel, rfl, by decide +kernel, by decide +kernel⟩
set_option maxHeartbeats 4000000 in
theorem ok__law_places (T : TX K mg w) : FnOk P w K mg base CX0 2 T.a__law_places T.d__law_places ["_law_wide", "_law_high", "_law_cells"] (PF (τ := Int × Int × (Fz Int) × Unit) K (fun t => m__law_places t.1 t.2.1 t.2.2.1)) := by
  refine T.F__law_places.ok sc__law_places (fun vs H Q E h => ?_) (fun cdv A outer s H vs Q E hr h => ?_)
  · obtain ⟨Kn, t, r, ek, h, hf, q⟩ := h
    exact Tp.len h
  · obtain ⟨Kn, t, r_, ek, h, hf, q⟩ := h
    obtain ⟨wide_288, high_289, cells_290, u_⟩ := t
    obtain ⟨v_0, rr_, rfl, hv_0, h⟩ := h
    obtain ⟨v_1, rr_, rfl, hv_1, h⟩ := h
    obtain ⟨v_2, rr_, rfl, hv_2, h⟩ := h
    obtain rfl := h
    replace hf : m__law_places wide_288 high_289 cells_290 = some r_ := hf
    unfold m__law_places at hf
    refine ⟨_, (pss_cons (ps_set (i := 3) sc__law_places.nd rfl (.inl rfl) (pe_lst (pa_cons (pe_tup (pa_cons pe_int (pa_cons pe_int (pa_cons (pv 0) (pa_cons (pv 1) pa_nil))))) pa_nil)))
      (pss_cons (ps_set (i := 4) sc__law_places.nd rfl (.inl rfl) (pe_lst pa_nil))
      (pss_cons (ps_for PassesOwn.never rfl (kpi_list (pv 2)) (pg_name (i := 5) sc__law_places.nd rfl (.inl rfl)) (pss_one (ps_for PassesOwn.never rfl (kpi_list (pe_call (ok__law_numbers T) hr (by rfl) T.g__law_numbers T.F__law_numbers.kp T.b__law_numbers .nil pass0 (pa_cons (pv 5) (pa_cons pe_int pa_nil)))) (pg_name (i := 6) sc__law_places.nd rfl (.inl rfl)) (pss_one (ps_if (PW.pt (pw_and (pt_cmpR op_gt (pe_callB k_len (by rfl) T.z_len PySem.boot_len (pa_cons (pv 3) pa_nil)) pe_int (nomark _)) (pw_and1 (pt_cmpR op_lt (pe_op op_add (pe_callB k_len (by rfl) T.z_len PySem.boot_len (pa_cons (pv 4) pa_nil)) (pe_callB k_len (by rfl) T.z_len PySem.boot_len (pa_cons (pv 3) pa_nil))) pe_int (nomark _))))) (pss_cons (ps_asg (pe_bm PySem.F.plainAttrs_list PySem.F.slot_list_pop PySem.F.type_list_pop mt_popAt (pv 3) (pa_cons (pe_op op_mod (pv 6) (pe_callB k_len (by rfl) T.z_len PySem.boot_len (pa_cons (pv 3) pa_nil))) pa_nil)) (kpg_tup (n := 4) (pgs_cons (pg_name (i := 7) sc__law_places.nd rfl (.inl rfl)) (pgs_cons (pg_name (i := 8) sc__law_places.nd rfl (.inl rfl)) (pgs_cons (pg_name (i := 9) sc__law_places.nd rfl (.inl rfl)) (pgs_cons (pg_name (i := 10) sc__law_places.nd rfl (.inl rfl)) pgs_nil))))))
      (pss_one (ps_if (pt_cmpR op_eq (pe_op op_mod (pe_op op_fdiv (pv 6) pe_int) pe_int) pe_int (nomark _)) (pss_one (ps_expr (pe_bm PySem.F.plainAttrs_list PySem.F.slot_list_append PySem.F.type_list_append mt_append (pv 4) (pa_cons (pe_tup (pa_cons (pv 7) (pa_cons (pv 8) (pa_cons (pv 9) (pa_cons (pv 10) pa_nil))))) pa_nil)))) (pss_one (ps_if (pt_cmpR op_eq (pe_op op_mod (pe_op op_fdiv (pv 6) pe_int) pe_int) pe_int (nomark _)) (pss_one (ps_if (pt_cmpR op_gt (pv 9) pe_int (nomark _)) (pss_one (ps_expr (pe_bm PySem.F.plainAttrs_list PySem.F.slot_list_append PySem.F.type_list_append mt_append (pv 3) (pa_cons (pe_tup (pa_cons (pe_op op_add (pv 7) (pe_op op_mod (pe_op op_fdiv (pv 6) pe_int) pe_int)) (pa_cons (pv 8) (pa_cons (pe_op op_sub (pv 9) pe_int) (pa_cons (pv 10) pa_nil))))) pa_nil)))) pss_nil)) (pss_one (ps_set (i := 3) sc__law_places.nd rfl (.inl rfl) (pe_op op_cat (pv 3) (pe_call (ok__law_parted T) hr (by rfl) T.g__law_parted T.F__law_parted.kp T.b__law_parted .nil pass0 (pa_cons (pe_tup (pa_cons (pv 7) (pa_cons (pv 8) (pa_cons (pv 9) (pa_cons (pv 10) pa_nil))))) (pa_cons (pe_op op_fdiv (pv 6) pe_int) pa_nil))))))))))) pss_nil)))))
      (pss_one (ps_ret (pe_slice k_sll (pe_op op_cat (pv 4) (pv 3)) po_none (po_some pe_int))))))), ?_⟩
    refine enter (K := K) (Kn := Kn) (sl := [sv wide_288, sv high_289, sv cells_290, .any, .any, .any, .any, .any, .any, .any, .any]) ek ⟨⟨v_0, rfl, hv_0⟩, ⟨v_1, rfl, hv_1⟩, ⟨v_2, rfl, hv_2⟩, trivial, trivial, trivial, trivial, trivial, trivial, trivial, trivial, trivial⟩ ?_
    have q := rt_of q
    obtain ⟨open_ones_291, h_open_ones_291, hf⟩ := bind_some hf
    refine SB.seqB (fun kx_ => sb_asgO (sl' := fun p_open_ones_291 => [sv wide_288, sv high_289, sv cells_290, .at p_open_ones_291, .any, .any, .any, .any, .any, .any, .any]) (fun _ => rfl) (EN.cast (en_lst (el_cons (ev_tup (ea_cons (ev_int 0) (ea_cons (ev_int 0) (ea_cons (ev_var (i := 0) rfl) (ea_cons (ev_var (i := 1) rfl) ea_nil))))) el_nil)) (Option.some.inj h_open_ones_291)) (fun p_open_ones_291 => (kx_ _ _ ?_)))
    obtain ⟨found_292, h_found_292, hf⟩ := bind_some hf
    refine SB.seqB (fun kx_ => sb_asgO (sl' := fun p_found_292 => [sv wide_288, sv high_289, sv cells_290, .at p_open_ones_291, .at p_found_292, .any, .any, .any, .any, .any, .any]) (fun _ => rfl) (EN.cast (en_lst el_nil) (Option.some.inj h_found_292)) (fun p_found_292 => (kx_ _ _ ?_)))
    obtain ⟨⟨found_339, open_ones_340⟩, h_tot_301, hf⟩ := bind_some hf
    refine SB.seqB (fun kx_341 => sb_for (β := Int) (Sx := Addr × (List (Int × Int × Int × Int × Unit)) × (List (Int × Int × Int × Int × Unit))) (fun s => [sv wide_288, sv high_289, sv cells_290, .at s.1, .at p_found_292, .any, .any, .any, .any, .any, .any]) (fun s => [ol p_found_292 s.2.1, ol s.1 s.2.2]) (fun x s => [sv wide_288, sv high_289, sv cells_290, .at s.1, .at p_found_292, sv x, .any, .any, .any, .any, .any]) [5] (fun xs s => forS (m__law_places_L1) xs s.2 = some (found_339, open_ones_340)) (p_open_ones_291, found_292, open_ones_291) (IT.m (it_listF (ev_var (i := 2) rfl))) h_tot_301 (.keep (.keep (.keep (.keep (.keep (.keep (.keep (.keep (.keep (.keep (.keep .nil))))))))))) (List.Sublist.refl _) (fun x s => (gt_name rfl)) ?_ ?_)
    · intro Kn1 b1 cell_296 rest_ s_ hP_298 N_ hN_297
      obtain ⟨pa_293, found_294, open_ones_295⟩ := s_
      replace hP_298 : forS (m__law_places_L1) (_ :: rest_) (found_294, open_ones_295) = some (found_339, open_ones_340) := hP_298
      obtain ⟨c_, hc_299, hP_298⟩ := bind_some hP_298
      have q_300 := q.base b1
      unfold m__law_places_L1 at hc_299
      refine SB.is (sl' := [sv wide_288, sv high_289, sv cells_290, .at pa_293, .at p_found_292, sv cell_296, .any, .any, .any, .any, .any]) (ow1 := [ol p_found_292 found_294, ol pa_293 open_ones_295]) rfl rfl ?_
      obtain ⟨r_302, h_r_302, hc_299⟩ := bind_some hc_299
      obtain ⟨⟨found_336, open_ones_337⟩, h_tot_311, hc_299⟩ := bind_some hc_299
      refine sb_for (β := Int) (Sx := Addr × (List (Int × Int × Int × Int × Unit)) × (List (Int × Int × Int × Int × Unit))) (fun s => [sv wide_288, sv high_289, sv cells_290, .at s.1, .at p_found_292, sv cell_296, .any, .any, .any, .any, .any]) (fun s => [ol p_found_292 s.2.1, ol s.1 s.2.2]) (fun x s => [sv wide_288, sv high_289, sv cells_290, .at s.1, .at p_found_292, sv cell_296, sv x, .any, .any, .any, .any]) [6] (fun xs s => forS (m__law_places_L2) xs s.2 = some (found_336, open_ones_337)) (pa_293, found_294, open_ones_295) (IT.m (it_list (EN.ev (en_call (ea_cons (ev_var (i := 5) rfl) (ea_cons (ev_int 3) ea_nil)) h_r_302)))) h_tot_311 (.keep (.keep (.keep (.keep (.keep (.keep (.keep (.keep (.keep (.keep (.keep .nil))))))))))) (List.Sublist.refl _) (fun x s => (gt_name rfl)) ?_ ?_
      · intro Kn1 b1 number_306 rest_ s_ hP_308 N_ hN_307
        obtain ⟨pa_303, found_304, open_ones_305⟩ := s_
        replace hP_308 : forS (m__law_places_L2) (_ :: rest_) (found_304, open_ones_305) = some (found_336, open_ones_337) := hP_308
        obtain ⟨c_, hc_309, hP_308⟩ := bind_some hP_308
        have q_310 := q_300.base b1
        unfold m__law_places_L2 at hc_309
        refine SB.is (sl' := [sv wide_288, sv high_289, sv cells_290, .at pa_303, .at p_found_292, sv cell_296, sv number_306, .any, .any, .any, .any]) (ow1 := [ol p_found_292 found_304, ol pa_303 open_ones_305]) rfl rfl ?_
        refine sb_if (b := ((decide ((0 : Int) < (open_ones_305.length : Int))) && (decide (((found_304.length : Int) + (open_ones_305.length : Int)) < (60 : Int))))) (et_and (et_test (ev_bor (i := 3) (j := 1) (sl' := [sv wide_288, sv high_289, sv cells_290, sv open_ones_305, .at p_found_292, sv cell_296, sv number_306, .any, .any, .any, .any]) (ow1 := [ol p_found_292 found_304]) rfl rfl rfl rfl (ev_op (ev_cb (ea_cons (ev_var (i := 3) rfl) ea_nil) rc_len) (ev_int 0) r2_gt))) (fun _ => (et_test (ev_bor (i := 4) (j := 0) (sl' := [sv wide_288, sv high_289, sv cells_290, .at pa_303, sv found_304, sv cell_296, sv number_306, .any, .any, .any, .any]) (ow1 := [ol pa_303 open_ones_305]) rfl rfl rfl rfl (ev_bor (i := 3) (j := 0) (sl' := [sv wide_288, sv high_289, sv cells_290, sv open_ones_305, sv found_304, sv cell_296, sv number_306, .any, .any, .any, .any]) (ow1 := []) rfl rfl rfl rfl (ev_op (ev_op (ev_cb (ea_cons (ev_var (i := 4) rfl) ea_nil) rc_len) (ev_cb (ea_cons (ev_var (i := 3) rfl) ea_nil) rc_len) r2_add) (ev_int 60) r2_lt)))))) (fun hb_313 => ?_) (fun hb_313 => ?_)
        · have hc_309 := ite_t hb_313 hc_309
          obtain ⟨r_315, h_r_315, hc_309⟩ := bind_some hc_309
          obtain ⟨⟨pp_316, open_ones_317⟩, h_pp_316, hc_309⟩ := bind_some hc_309
          obtain ⟨⟨x_318, y_319, width_320, height_321, _⟩, h_x_318, hc_309⟩ := bind_some hc_309
          refine SB.seqB (fun kx_ => sb_unpM (sl' := [sv wide_288, sv high_289, sv cells_290, .at pa_303, .at p_found_292, sv cell_296, sv number_306, sv x_318, sv y_319, sv width_320, sv height_321]) (EM.cast (em_popN (i := 3) (j := 1) rfl rfl (ev_op (ev_var (i := 6) rfl) (ev_bor (i := 3) (j := 1) (sl' := [sv wide_288, sv high_289, sv cells_290, sv open_ones_305, .at p_found_292, sv cell_296, sv number_306, .any, .any, .any, .any]) (ow1 := [ol p_found_292 found_304]) rfl rfl rfl rfl (ev_cb (ea_cons (ev_var (i := 3) rfl) ea_nil) rc_len)) (r2_modO h_r_315)) h_pp_316) (Option.some.inj h_x_318)) (gt_tup (gts_cons (gt_name rfl) (gts_cons (gt_name rfl) (gts_cons (gt_name rfl) (gts_cons (gt_name rfl) gts_nil))))) (kx_ _ _ ?_))
          refine sb_if (b := (decide (((number_306 / (64 : Int)) % (8 : Int)) = (0 : Int)))) (et_test (ev_op (ev_op (ev_op (ev_var (i := 6) rfl) (ev_int 64) r2_div) (ev_int 8) r2_mod) (ev_int 0) r2_eqI)) (fun hb_323 => ?_) (fun hb_323 => ?_)
          · have hc_309 := ite_t hb_323 hc_309
            obtain ⟨found_325, h_found_325, hc_309⟩ := bind_some hc_309
            refine sb_appO (i := 4) (j := 0) rfl rfl (ev_tup (ea_cons (ev_var (i := 7) rfl) (ea_cons (ev_var (i := 8) rfl) (ea_cons (ev_var (i := 9) rfl) (ea_cons (ev_var (i := 10) rfl) ea_nil))))) h_found_325 (ow1 := [ol p_found_292 found_325, ol pa_303 open_ones_317]) rfl ?_
            cases hc_309
            exact fun σ Kn H s => hN_307 (pa_303, found_325, open_ones_317) hP_308 σ Kn H ((s.le (.keep (.keep (.keep (.keep (.keep (.keep (.drop (.drop (.drop (.drop (.drop .nil)))))))))))).sub (List.Sublist.refl _))
          · have hc_309 := ite_f hb_323 hc_309
            refine sb_if (b := (decide (((number_306 / (64 : Int)) % (8 : Int)) = (1 : Int)))) (et_test (ev_op (ev_op (ev_op (ev_var (i := 6) rfl) (ev_int 64) r2_div) (ev_int 8) r2_mod) (ev_int 1) r2_eqI)) (fun hb_327 => ?_) (fun hb_327 => ?_)
            · have hc_309 := ite_t hb_327 hc_309
              refine sb_if (b := (decide ((1 : Int) < width_320))) (et_test (ev_op (ev_var (i := 9) rfl) (ev_int 1) r2_gt)) (fun hb_330 => ?_) (fun hb_330 => ?_)
              · have hc_309 := ite_t hb_330 hc_309
                obtain ⟨open_ones_332, h_open_ones_332, hc_309⟩ := bind_some hc_309
                refine sb_appO (i := 3) (j := 1) rfl rfl (ev_tup (ea_cons (ev_op (ev_var (i := 7) rfl) (ev_op (ev_op (ev_var (i := 6) rfl) (ev_int 512) r2_div) (ev_int 2) r2_mod) r2_add) (ea_cons (ev_var (i := 8) rfl) (ea_cons (ev_op (ev_var (i := 9) rfl) (ev_int 1) r2_sub) (ea_cons (ev_var (i := 10) rfl) ea_nil))))) h_open_ones_332 (ow1 := [ol p_found_292 found_304, ol pa_303 open_ones_332]) rfl ?_
                cases hc_309
                exact fun σ Kn H s => hN_307 (pa_303, found_304, open_ones_332) hP_308 σ Kn H ((s.le (.keep (.keep (.keep (.keep (.keep (.keep (.drop (.drop (.drop (.drop (.drop .nil)))))))))))).sub (List.Sublist.refl _))
              · have hc_309 := ite_f hb_330 hc_309
                refine sb_nx ?_
                cases hc_309
                exact fun σ Kn H s => hN_307 (pa_303, found_304, open_ones_317) hP_308 σ Kn H ((s.le (.keep (.keep (.keep (.keep (.keep (.keep (.drop (.drop (.drop (.drop (.drop .nil)))))))))))).sub (List.Sublist.refl _))
            · have hc_309 := ite_f hb_327 hc_309
              obtain ⟨r_333, h_r_333, hc_309⟩ := bind_some hc_309
              obtain ⟨cat_334, h_cat_334, hc_309⟩ := bind_some hc_309
              obtain ⟨open_ones_335, h_open_ones_335, hc_309⟩ := bind_some hc_309
              refine sb_asgO (sl' := fun p_open_ones_335 => [sv wide_288, sv high_289, sv cells_290, .at p_open_ones_335, .at p_found_292, sv cell_296, sv number_306, sv x_318, sv y_319, sv width_320, sv height_321]) (fun _ => rfl) (EN.cast (en_catOwn (i := 3) (j := 1) rfl rfl (ev_call (ea_cons (ev_tup (ea_cons (ev_var (i := 7) rfl) (ea_cons (ev_var (i := 8) rfl) (ea_cons (ev_var (i := 9) rfl) (ea_cons (ev_var (i := 10) rfl) ea_nil))))) (ea_cons (ev_op (ev_var (i := 6) rfl) (ev_int 512) r2_div) ea_nil)) h_r_333) h_cat_334) (Option.some.inj h_open_ones_335)) (fun p_open_ones_335 => sn_perm (ow1 := [ol p_open_ones_335 open_ones_335, ol p_found_292 found_304]) (ow' := [ol p_found_292 found_304, ol p_open_ones_335 open_ones_335]) (List.Sublist.cons_cons _ (List.Sublist.cons_cons _ (List.Sublist.cons _ List.Sublist.slnil))) (List.perm_middle (a := ol p_open_ones_335 open_ones_335) (l₁ := [ol p_found_292 found_304]) (l₂ := [])) ?_)
              cases hc_309
              exact fun σ Kn H s => hN_307 (p_open_ones_335, found_304, open_ones_335) hP_308 σ Kn H ((s.le (.keep (.keep (.keep (.keep (.keep (.keep (.drop (.drop (.drop (.drop (.drop .nil)))))))))))).sub (List.Sublist.refl _))
        · have hc_309 := ite_f hb_313 hc_309
          refine sb_nx ?_
          cases hc_309
          exact fun σ Kn H s => hN_307 (pa_303, found_304, open_ones_305) hP_308 σ Kn H ((s.le (.keep (.keep (.keep (.keep (.keep (.keep (.drop (.keep (.keep (.keep (.keep .nil)))))))))))).sub (List.Sublist.refl _))
      · intro s_ h0
        obtain ⟨pa_303, s_⟩ := s_
        replace h0 : some s_ = some (found_336, open_ones_337) := h0
        cases h0
        show SN _ _ _ [sv wide_288, sv high_289, sv cells_290, .at pa_303, .at p_found_292, sv cell_296, .any, .any, .any, .any, .any] [ol p_found_292 found_336, ol pa_303 open_ones_337] _
        cases hc_299
        exact fun σ Kn H s => hN_297 (pa_303, found_336, open_ones_337) hP_298 σ Kn H ((s.le (.keep (.keep (.keep (.keep (.keep (.drop (.keep (.keep (.keep (.keep (.keep .nil)))))))))))).sub (List.Sublist.refl _))
    · intro s_ h0
      obtain ⟨pa_293, s_⟩ := s_
      replace h0 : some s_ = some (found_339, open_ones_340) := h0
      cases h0
      refine kx_341 _ _ ?_
      refine SB.is (sl' := [sv wide_288, sv high_289, sv cells_290, .at pa_293, .at p_found_292, .any, .any, .any, .any, .any, .any]) (ow1 := [ol p_found_292 found_339, ol pa_293 open_ones_340]) rfl rfl ?_
      refine sb_freeze (i := 4) (j := 0) (sl' := [sv wide_288, sv high_289, sv cells_290, .at pa_293, sv found_339, .any, .any, .any, .any, .any, .any]) (ow1 := [ol pa_293 open_ones_340]) rfl rfl rfl rfl ?_
      refine sb_freeze (i := 3) (j := 0) (sl' := [sv wide_288, sv high_289, sv cells_290, sv open_ones_340, sv found_339, .any, .any, .any, .any, .any, .any]) (ow1 := []) rfl rfl rfl rfl ?_
      obtain ⟨cat_342, h_cat_342, hf⟩ := bind_some hf
      cases hf
      exact sb_ret (EN.ev (en_sl (EN.ev (en_op (ev_var (i := 4) rfl) (ev_var (i := 3) rfl) (r2_catO h_cat_342))) eo_none (eo_some (ev_int 60)))) q (List.Sublist.refl _)
theorem sc_law : FnScope ["_law_script", "_law_wide", "_law_high", "_law_told", "_law_names_here", "_law_places_here", "_law_k", "_law_name", "_law_held", "_law_signs", "_law_row", "_law_rows", "_law_x", "_law_y", "_law_width", "_law_height", "_law_column", "_law_floor", "_law_due"] ["_law_script"] (defScope s_law) := ⟨rfl, rfl, rfl, by decide +kernel, rfl, by decide +kernel, by decide +kernel⟩
set_option maxHeartbeats 4000000 in
theorem ok_law (T : TX K mg w) : FnOk P w K mg base CX0 5 T.a_law T.d_law ["_law_script"] (PF (τ := (Fz Int) × Unit) K (fun t => m_law t.1)) := by
  refine T.F_law.ok sc_law (fun vs H Q E h => ?_) (fun cdv A outer s H vs Q E hr h => ?_)
  · obtain ⟨Kn, t, r, ek, h, hf, q⟩ := h
    exact Tp.len h
  · obtain ⟨Kn, t, r_, ek, h, hf, q⟩ := h
    obtain ⟨script_343, u_⟩ := t
    obtain ⟨v_0, rr_, rfl, hv_0, h⟩ := h
    obtain rfl := h
    replace hf : m_law script_343 = some r_ := hf
    unfold m_law at hf
    refine ⟨_, (pss_cons (ps_set (i := 1) sc_law.nd rfl (.inr rfl) (pe_op op_add pe_int (pe_op op_mod (pe_call (ok__law_cell_at T) (hr.mono (by decide)) (by rfl) T.g__law_cell_at T.F__law_cell_at.kp T.b__law_cell_at .nil pass0 (pa_cons (pv 0) (pa_cons pe_int pa_nil))) pe_int)))
      (pss_cons (ps_set (i := 2) sc_law.nd rfl (.inl rfl) (pe_op op_add pe_int (pe_op op_mod (pe_call (ok__law_cell_at T) (hr.mono (by decide)) (by rfl) T.g__law_cell_at T.F__law_cell_at.kp T.b__law_cell_at .nil pass0 (pa_cons (pv 0) (pa_cons pe_int pa_nil))) pe_int)))
      (pss_cons (ps_set (i := 3) sc_law.nd rfl (.inl rfl) (pe_call (ok__law_places T) (hr.mono (by decide)) (by rfl) T.g__law_places T.F__law_places.kp T.b__law_places .nil pass0 (pa_cons (pv 1) (pa_cons (pv 2) (pa_cons (pe_slice k_sll (pv 0) (po_some pe_int) (po_some pe_int)) pa_nil)))))
      (pss_cons (ps_set (i := 4) sc_law.nd rfl (.inl rfl) (pe_call (ok__law_names T) (hr.mono (by decide)) (by rfl) T.g__law_names T.F__law_names.kp T.b__law_names .nil pass0 (pa_cons (pe_call (ok__law_cell_at T) (hr.mono (by decide)) (by rfl) T.g__law_cell_at T.F__law_cell_at.kp T.b__law_cell_at .nil pass0 (pa_cons (pv 0) (pa_cons pe_int pa_nil))) (pa_cons (pe_callB k_len (by rfl) T.z_len PySem.boot_len (pa_cons (pv 3) pa_nil)) pa_nil))))
      (pss_cons (ps_set (i := 5) sc_law.nd rfl (.inl rfl) pe_dnewK)
      (pss_cons (ps_for PassesOwn.never rfl (pi_enum (by rfl) T.z_enumerate (pa_cons (pv 4) pa_nil)) (kpg_tup (n := 2) (pgs_cons (pg_name (i := 6) sc_law.nd rfl (.inl rfl)) (pgs_cons (pg_name (i := 7) sc_law.nd rfl (.inl rfl)) pgs_nil))) (pss_one (k_dput hr.units (pv 5) (pv 7) (pe_ix k_ixl (pv 3) (pv 6) (fun _ _ => rfl)) rfl)))
      (pss_cons (ps_set (i := 8) sc_law.nd rfl (.inl rfl) (pe_callTy call_dictD (by rfl) T.z_dict (by decide +kernel) (pa_cons (pv 5) pa_nil)))
      (pss_cons (ps_set (i := 9) sc_law.nd rfl (.inl rfl) pe_str)
      (pss_cons (ps_setLc (i := 11) (own := [("_law_row", 10)]) (g := gName 10) (tt := tYes) rfl sc_law.nd rfl rfl (sw_true rfl rfl rfl (by decide +kernel)) (pi_range1 (by rfl) T.z_range (pa_cons (pv 2) pa_nil)) (blkOk_by (own := [("_law_row", 10)]) (N := ["_law_script", "_law_wide", "_law_high", "_law_told", "_law_names_here", "_law_places_here", "_law_k", "_law_name", "_law_held", "_law_signs", "_law_row", "_law_rows", "_law_x", "_law_y", "_law_width", "_law_height", "_law_column", "_law_floor", "_law_due"]) (sc := defScope s_law) (by decide +kernel)) (fun _ _ _ _ _ => (pg_name (i := 10) sc_law.nd rfl (Or.inl rfl))) (fun _ _ _ _ _ => pts_nil) (fun _ _ _ _ _ => (pe_op op_rep (pe_lst (pa_cons pe_str pa_nil)) (pv 1))))
      (pss_cons (ps_for PassesOwn.never rfl (pi_enum (by rfl) T.z_enumerate (pa_cons (pe_callB k_sortedK (by rfl) T.z_sorted (by decide +kernel) (pa_cons (pv 5) pa_nil)) pa_nil)) (kpg_tup (n := 2) (pgs_cons (pg_name (i := 6) sc_law.nd rfl (.inl rfl)) (pgs_cons (pg_name (i := 7) sc_law.nd rfl (.inl rfl)) pgs_nil))) (pss_cons (ps_asg (k_dget hr.units (pv 5) (pv 7) (fun _ _ => rfl)) (kpg_tup (n := 4) (pgs_cons (pg_name (i := 12) sc_law.nd rfl (.inl rfl)) (pgs_cons (pg_name (i := 13) sc_law.nd rfl (.inl rfl)) (pgs_cons (pg_name (i := 14) sc_law.nd rfl (.inl rfl)) (pgs_cons (pg_name (i := 15) sc_law.nd rfl (.inl rfl)) pgs_nil))))))
      (pss_one (ps_for PassesOwn.never rfl (pi_range2 (by rfl) T.z_range (pa_cons (pv 13) (pa_cons (pe_op op_add (pv 13) (pv 15)) pa_nil))) (pg_name (i := 10) sc_law.nd rfl (.inl rfl)) (pss_one (ps_for PassesOwn.never rfl (pi_range2 (by rfl) T.z_range (pa_cons (pv 12) (pa_cons (pe_op op_add (pv 12) (pv 14)) pa_nil))) (pg_name (i := 16) sc_law.nd rfl (.inl rfl)) (pss_one (ps_asg (pe_ix ix_str (pv 9) (pv 6) (fun _ _ => rfl)) (pg_sub (pe_ix k_ixl (pv 11) (pv 10) (fun _ _ => rfl)) (pv 16) set_list)))))))))
      (pss_cons (ps_set (i := 17) sc_law.nd rfl (.inl rfl) (pe_callS (ok_draw T) hr (by rfl) T.g_draw T.F_draw.kp T.b_draw (fun σ => passAt takes0 σ) (pa_cons (pv 1) (pa_cons (pv 2) (pa_cons (pv 8) pa_nil)))))
      (pss_cons (ps_set (i := 18) sc_law.nd rfl (.inl rfl) (k_join pe_str (pe_lc (own := [("_law_row", 10)]) (g := gName 10) (tt := tYes) (by rfl) sc_law.nd (kpi_list (pv 11)) (blkOk_by (own := [("_law_row", 10)]) (N := ["_law_script", "_law_wide", "_law_high", "_law_told", "_law_names_here", "_law_places_here", "_law_k", "_law_name", "_law_held", "_law_signs", "_law_row", "_law_rows", "_law_x", "_law_y", "_law_width", "_law_height", "_law_column", "_law_floor", "_law_due"]) (sc := defScope s_law) (by decide +kernel)) (fun _ _ _ _ _ => (pg_name (i := 10) sc_law.nd rfl (Or.inl rfl))) (fun _ _ _ _ _ => pts_nil) (fun _ _ _ _ _ => (k_join pe_str (pv 10))))))
      (pss_cons (ps_if (PW.pt (pw_or (pt_not (pt_val (pe_callB k_isi (by rfl) T.z_isinstance (by decide +kernel) (pa_cons (pv 17) (pa_cons (pe_bltn (v := .ty "str") (u := .type "str") (by rfl) T.z_str (by decide +kernel) rfl) pa_nil))))) (pw_or (pt_cmpR op_ne (pv 17) (pv 18) (nomark _)) (pw_or1 (pt_cmpR (k_top hr.units) (pv 8) (pv 5) (nomark _)))))) (pss_one (ps_ret pe_bl)) pss_nil)
      (pss_one (ps_ret (pe_cmpR (k_top hr.units) (pe_callS (ok_read_floor T) (hr.mono (by decide)) (by rfl) T.g_read_floor T.F_read_floor.kp T.b_read_floor (fun σ => passAt takes0 σ) (pa_cons (pv 17) (pa_cons (pe_callB (k_sortedD hr.units) (by rfl) T.z_sorted (by decide +kernel) (pa_cons (pv 4) pa_nil)) pa_nil))) (pv 5) (nomark _))))))))))))))))), ?_⟩
    refine enter (K := K) (Kn := Kn) (sl := [sv script_343, .any, .any, .any, .any, .any, .any, .any, .any, .any, .any, .any, .any, .any, .any, .any, .any, .any, .any]) ek ⟨⟨v_0, rfl, hv_0⟩, trivial, trivial, trivial, trivial, trivial, trivial, trivial, trivial, trivial, trivial, trivial, trivial, trivial, trivial, trivial, trivial, trivial, trivial, trivial⟩ ?_
    have q := rt_of q
    obtain ⟨r_344, h_r_344, hf⟩ := bind_some hf
    obtain ⟨wide_345, h_wide_345, hf⟩ := bind_some hf
    refine SB.seqB (fun kx_ => sb_asg (sl' := [sv script_343, sv wide_345, .any, .any, .any, .any, .any, .any, .any, .any, .any, .any, .any, .any, .any, .any, .any, .any, .any]) rfl (EV.cast (ev_op (ev_int 1) (ev_op (ev_call (ea_cons (ev_var (i := 0) rfl) (ea_cons (ev_int 0) ea_nil)) h_r_344) (ev_int 40) r2_mod) r2_add) (Option.some.inj h_wide_345)) (kx_ _ _ ?_))
    obtain ⟨r_346, h_r_346, hf⟩ := bind_some hf
    obtain ⟨high_347, h_high_347, hf⟩ := bind_some hf
    refine SB.seqB (fun kx_ => sb_asg (sl' := [sv script_343, sv wide_345, sv high_347, .any, .any, .any, .any, .any, .any, .any, .any, .any, .any, .any, .any, .any, .any, .any, .any]) rfl (EV.cast (ev_op (ev_int 1) (ev_op (ev_call (ea_cons (ev_var (i := 0) rfl) (ea_cons (ev_int 1) ea_nil)) h_r_346) (ev_int 40) r2_mod) r2_add) (Option.some.inj h_high_347)) (kx_ _ _ ?_))
    obtain ⟨r_348, h_r_348, hf⟩ := bind_some hf
    obtain ⟨told_349, h_told_349, hf⟩ := bind_some hf
    refine SB.seqB (fun kx_ => sb_asg (sl' := [sv script_343, sv wide_345, sv high_347, sv told_349, .any, .any, .any, .any, .any, .any, .any, .any, .any, .any, .any, .any, .any, .any, .any]) rfl (EV.cast (ev_call (ea_cons (ev_var (i := 1) rfl) (ea_cons (ev_var (i := 2) rfl) (ea_cons (ev_fz (EN.ev (en_slF (ev_var (i := 0) rfl) (eo_some (ev_int 3)) (eo_some (ev_int 63))))) ea_nil))) h_r_348) (Option.some.inj h_told_349)) (kx_ _ _ ?_))
    obtain ⟨r_350, h_r_350, hf⟩ := bind_some hf
    obtain ⟨r_351, h_r_351, hf⟩ := bind_some hf
    obtain ⟨names_here_352, h_names_here_352, hf⟩ := bind_some hf
    refine SB.seqB (fun kx_ => sb_asg (sl' := [sv script_343, sv wide_345, sv high_347, sv told_349, sv names_here_352, .any, .any, .any, .any, .any, .any, .any, .any, .any, .any, .any, .any, .any, .any]) rfl (EV.cast (EN.ev (en_call (ea_cons (ev_call (ea_cons (ev_var (i := 0) rfl) (ea_cons (ev_int 2) ea_nil)) h_r_350) (ea_cons (ev_cb (ea_cons (ev_var (i := 3) rfl) ea_nil) rc_len) ea_nil)) h_r_351)) (Option.some.inj h_names_here_352)) (kx_ _ _ ?_))
    refine SB.seqB (fun kx_ => sb_dnewK (κ := Str) (β := (Int × Int × Int × Int × Unit)) (sl' := fun p_places_here_353 => [sv script_343, sv wide_345, sv high_347, sv told_349, sv names_here_352, .at p_places_here_353, .any, .any, .any, .any, .any, .any, .any, .any, .any, .any, .any, .any, .any]) rfl (fun _ => rfl) (fun p_places_here_353 => (kx_ _ _ ?_)))
    obtain ⟨places_here_364, h_tot_361, hf⟩ := bind_some hf
    refine SB.seqB (fun kx_365 => sb_for (β := (Int × Str × Unit)) (Sx := (Dc Str (Int × Int × Int × Int × Unit))) (fun s => [sv script_343, sv wide_345, sv high_347, sv told_349, sv names_here_352, .at p_places_here_353, .any, .any, .any, .any, .any, .any, .any, .any, .any, .any, .any, .any, .any]) (fun s => [oo p_places_here_353 s]) (fun x s => [sv script_343, sv wide_345, sv high_347, sv told_349, sv names_here_352, .at p_places_here_353, sv x.1, sv x.2.1, .any, .any, .any, .any, .any, .any, .any, .any, .any, .any, .any]) [6, 7] (fun xs s => forS (m_law_L1 told_349) xs s = some places_here_364) (Dc.mk ([] : List (Str × (Int × Int × Int × Int × Unit)))) (IT.m (it_enum (ea_cons (ev_var (i := 4) rfl) ea_nil))) h_tot_361 (.keep (.keep (.keep (.keep (.keep (.keep (.keep (.keep (.keep (.keep (.keep (.keep (.keep (.keep (.keep (.keep (.keep (.keep (.keep .nil))))))))))))))))))) (List.Sublist.refl _) (fun x s => (gt_tup (gts_cons (gt_name rfl) (gts_cons (gt_name rfl) gts_nil)))) ?_ ?_)
    · intro Kn1 b1 x_ rest_ places_here_354 hP_358 N_ hN_357
      obtain ⟨k_355, name_356, _⟩ := x_
      obtain ⟨c_, hc_359, hP_358⟩ := bind_some hP_358
      have q_360 := q.base b1
      unfold m_law_L1 at hc_359
      refine SB.is (sl' := [sv script_343, sv wide_345, sv high_347, sv told_349, sv names_here_352, .at p_places_here_353, sv k_355, sv name_356, .any, .any, .any, .any, .any, .any, .any, .any, .any, .any, .any]) (ow1 := [oo p_places_here_353 places_here_354]) rfl rfl ?_
      obtain ⟨i_362, h_i_362, hc_359⟩ := bind_some hc_359
      obtain ⟨places_here_363, h_places_here_363, hc_359⟩ := bind_some hc_359
      refine sb_dput (i := 5) (j := 0) rfl rfl (ev_op (ev_var (i := 3) rfl) (ev_var (i := 6) rfl) (r2_ixL h_i_362)) (ev_var (i := 7) rfl) h_places_here_363 (ow1 := [oo p_places_here_353 places_here_363]) rfl ?_
      cases hc_359
      exact fun σ Kn H s => hN_357 _ hP_358 σ Kn H ((s.le (.keep (.keep (.keep (.keep (.keep (.keep (.drop (.drop (.keep (.keep (.keep (.keep (.keep (.keep (.keep (.keep (.keep (.keep (.keep .nil)))))))))))))))))))).sub (List.Sublist.refl _))
    · intro s_ h0
      cases h0
      refine kx_365 _ _ ?_
      refine SB.is (sl' := [sv script_343, sv wide_345, sv high_347, sv told_349, sv names_here_352, .at p_places_here_353, .any, .any, .any, .any, .any, .any, .any, .any, .any, .any, .any, .any, .any]) (ow1 := [oo p_places_here_353 places_here_364]) rfl rfl ?_
      refine sb_freezeG (i := 5) (j := 0) (sl' := [sv script_343, sv wide_345, sv high_347, sv told_349, sv names_here_352, sv places_here_364, .any, .any, .any, .any, .any, .any, .any, .any, .any, .any, .any, .any, .any]) (ow1 := []) rfl rfl rfl rfl ?_
      obtain ⟨held_366, h_held_366, hf⟩ := bind_some hf
      refine SB.seqB (fun kx_ => sb_asg (sl' := [sv script_343, sv wide_345, sv high_347, sv told_349, sv names_here_352, sv places_here_364, .any, .any, sv held_366, .any, .any, .any, .any, .any, .any, .any, .any, .any, .any]) rfl (EV.cast (EG.ev (eg_dict (ev_var (i := 5) rfl))) (Option.some.inj h_held_366)) (kx_ _ _ ?_))
      obtain ⟨signs_367, h_signs_367, hf⟩ := bind_some hf
      refine SB.seqB (fun kx_ => sb_asg (sl' := [sv script_343, sv wide_345, sv high_347, sv told_349, sv names_here_352, sv places_here_364, .any, .any, sv held_366, sv signs_367, .any, .any, .any, .any, .any, .any, .any, .any, .any]) rfl (EV.cast (ev_str ("abcdefghijklmnopqrstuvwxyzABCDEFGHIJKLMNOPQRSTUVWXYZ01234567" : Str)) (Option.some.inj h_signs_367)) (kx_ _ _ ?_))
      obtain ⟨rg_368, h_rg_368, hf⟩ := bind_some hf
      obtain ⟨zs_370, h_zs_370, hf⟩ := bind_some hf
      obtain ⟨rows_372, h_rows_372, hf⟩ := bind_some hf
      refine SB.seqB (fun kx_ => sb_asgQ2 (sl' := fun p_rows_372 => [sv script_343, sv wide_345, sv high_347, sv told_349, sv names_here_352, sv places_here_364, .any, .any, sv held_366, sv signs_367, .any, .at p_rows_372, .any, .any, .any, .any, .any, .any, .any]) (fun _ => rfl) (EQ2.cast (eq_lcQ (js := [10]) (fun x => [sv script_343, sv wide_345, sv high_347, sv told_349, sv names_here_352, sv places_here_364, .any, .any, sv held_366, sv signs_367, sv x, .any, .any, .any, .any, .any, .any, .any, .any]) h_zs_370 (it_rng1 (ea_cons (ev_var (i := 2) rfl) ea_nil) h_rg_368) (anyAt_of (by rfl)) (fun x => (gt_name rfl)) (sub_of (by rfl)) (fun _ x b h => by cases h; exact et_yes) (fun _ x z _ h => by obtain ⟨row_369, hx_⟩ : ∃ y, y = x := ⟨x, rfl⟩; subst hx_; obtain ⟨rep_371, h_rep_371, h⟩ := bind_some h; have hz_ := Option.some.inj h; subst hz_; exact EN.is (sl' := [sv script_343, sv wide_345, sv high_347, sv told_349, sv names_here_352, sv places_here_364, .any, .any, sv held_366, sv signs_367, sv row_369, .any, .any, .any, .any, .any, .any, .any, .any]) rfl (en_op (EN.ev (en_lst (el_cons (ev_str ("." : Str)) el_nil))) (ev_var (i := 1) rfl) (r2_repO h_rep_371)))) (Option.some.inj h_rows_372)) (fun p_rows_372 ps_rows_372 => (kx_ _ _ ?_)))
      obtain ⟨sk_373, h_sk_373, hf⟩ := bind_some hf
      obtain ⟨rows_409, h_tot_381, hf⟩ := bind_some hf
      refine SB.seqB (fun kx_410 => sb_for (β := (Int × Str × Unit)) (Sx := (List (List Str))) (fun s => [sv script_343, sv wide_345, sv high_347, sv told_349, sv names_here_352, sv places_here_364, .any, .any, sv held_366, sv signs_367, .any, .at p_rows_372, .any, .any, .any, .any, .any, .any, .any]) (fun s => ([] ++ gridO p_rows_372 ps_rows_372 s)) (fun x s => [sv script_343, sv wide_345, sv high_347, sv told_349, sv names_here_352, sv places_here_364, sv x.1, sv x.2.1, sv held_366, sv signs_367, .any, .at p_rows_372, .any, .any, .any, .any, .any, .any, .any]) [6, 7] (fun xs s => forS (m_law_L2 places_here_364 signs_367) xs s = some rows_409) rows_372 (IT.m (it_enum (ea_cons (EN.ev (en_cb (ea_cons (ev_var (i := 5) rfl) ea_nil) (rc_sortK h_sk_373))) ea_nil))) h_tot_381 (.keep (.keep (.keep (.keep (.keep (.keep (.keep (.keep (.keep (.keep (.keep (.keep (.keep (.keep (.keep (.keep (.keep (.keep (.keep .nil))))))))))))))))))) (List.Sublist.refl _) (fun x s => (gt_tup (gts_cons (gt_name rfl) (gts_cons (gt_name rfl) gts_nil)))) ?_ ?_)
      · intro Kn1 b1 x_ rest_ rows_374 hP_378 N_ hN_377
        obtain ⟨k_375, name_376, _⟩ := x_
        obtain ⟨c_, hc_379, hP_378⟩ := bind_some hP_378
        have q_380 := q.base b1
        unfold m_law_L2 at hc_379
        refine SB.is (sl' := [sv script_343, sv wide_345, sv high_347, sv told_349, sv names_here_352, sv places_here_364, sv k_375, sv name_376, sv held_366, sv signs_367, .any, .at p_rows_372, .any, .any, .any, .any, .any, .any, .any]) (ow1 := ([] ++ gridO p_rows_372 ps_rows_372 rows_374)) rfl rfl ?_
        obtain ⟨i_382, h_i_382, hc_379⟩ := bind_some hc_379
        obtain ⟨⟨x_383, y_384, width_385, height_386, _⟩, h_x_383, hc_379⟩ := bind_some hc_379
        refine SB.seqB (fun kx_ => sb_unp (sl' := [sv script_343, sv wide_345, sv high_347, sv told_349, sv names_here_352, sv places_here_364, sv k_375, sv name_376, sv held_366, sv signs_367, .any, .at p_rows_372, sv x_383, sv y_384, sv width_385, sv height_386, .any, .any, .any]) (EV.cast (ev_dget (ev_var (i := 5) rfl) (ev_var (i := 7) rfl) h_i_382) (Option.some.inj h_x_383)) (gt_tup (gts_cons (gt_name rfl) (gts_cons (gt_name rfl) (gts_cons (gt_name rfl) (gts_cons (gt_name rfl) gts_nil))))) (kx_ _ _ ?_))
        obtain ⟨rg_387, h_rg_387, hc_379⟩ := bind_some hc_379
        obtain ⟨rows_407, h_tot_394, hc_379⟩ := bind_some hc_379
        refine sb_for (β := Int) (Sx := (List (List Str))) (fun s => [sv script_343, sv wide_345, sv high_347, sv told_349, sv names_here_352, sv places_here_364, sv k_375, sv name_376, sv held_366, sv signs_367, .any, .at p_rows_372, sv x_383, sv y_384, sv width_385, sv height_386, .any, .any, .any]) (fun s => ([] ++ gridO p_rows_372 ps_rows_372 s)) (fun x s => [sv script_343, sv wide_345, sv high_347, sv told_349, sv names_here_352, sv places_here_364, sv k_375, sv name_376, sv held_366, sv signs_367, sv x, .at p_rows_372, sv x_383, sv y_384, sv width_385, sv height_386, .any, .any, .any]) [10] (fun xs s => forS (m_law_L3 k_375 signs_367 x_383 width_385) xs s = some rows_407) rows_374 (IT.m (it_rng2 (ea_cons (ev_var (i := 13) rfl) (ea_cons (ev_op (ev_var (i := 13) rfl) (ev_var (i := 15) rfl) r2_add) ea_nil)) h_rg_387)) h_tot_394 (.keep (.keep (.keep (.keep (.keep (.keep (.keep (.keep (.keep (.keep (.keep (.keep (.keep (.keep (.keep (.keep (.keep (.keep (.keep .nil))))))))))))))))))) (List.Sublist.refl _) (fun x s => (gt_name rfl)) ?_ ?_
        · intro Kn1 b1 row_389 rest_ rows_388 hP_391 N_ hN_390
          obtain ⟨c_, hc_392, hP_391⟩ := bind_some hP_391
          have q_393 := q_380.base b1
          unfold m_law_L3 at hc_392
          refine SB.is (sl' := [sv script_343, sv wide_345, sv high_347, sv told_349, sv names_here_352, sv places_here_364, sv k_375, sv name_376, sv held_366, sv signs_367, sv row_389, .at p_rows_372, sv x_383, sv y_384, sv width_385, sv height_386, .any, .any, .any]) (ow1 := ([] ++ gridO p_rows_372 ps_rows_372 rows_388)) rfl rfl ?_
          obtain ⟨rg_395, h_rg_395, hc_392⟩ := bind_some hc_392
          obtain ⟨rows_405, h_tot_402, hc_392⟩ := bind_some hc_392
          refine sb_for (β := Int) (Sx := (List (List Str))) (fun s => [sv script_343, sv wide_345, sv high_347, sv told_349, sv names_here_352, sv places_here_364, sv k_375, sv name_376, sv held_366, sv signs_367, sv row_389, .at p_rows_372, sv x_383, sv y_384, sv width_385, sv height_386, .any, .any, .any]) (fun s => ([] ++ gridO p_rows_372 ps_rows_372 s)) (fun x s => [sv script_343, sv wide_345, sv high_347, sv told_349, sv names_here_352, sv places_here_364, sv k_375, sv name_376, sv held_366, sv signs_367, sv row_389, .at p_rows_372, sv x_383, sv y_384, sv width_385, sv height_386, sv x, .any, .any]) [16] (fun xs s => forS (m_law_L4 k_375 signs_367 row_389) xs s = some rows_405) rows_388 (IT.m (it_rng2 (ea_cons (ev_var (i := 12) rfl) (ea_cons (ev_op (ev_var (i := 12) rfl) (ev_var (i := 14) rfl) r2_add) ea_nil)) h_rg_395)) h_tot_402 (.keep (.keep (.keep (.keep (.keep (.keep (.keep (.keep (.keep (.keep (.keep (.keep (.keep (.keep (.keep (.keep (.keep (.keep (.keep .nil))))))))))))))))))) (List.Sublist.refl _) (fun x s => (gt_name rfl)) ?_ ?_
          · intro Kn1 b1 column_397 rest_ rows_396 hP_399 N_ hN_398
            obtain ⟨c_, hc_400, hP_399⟩ := bind_some hP_399
            have q_401 := q_393.base b1
            unfold m_law_L4 at hc_400
            refine SB.is (sl' := [sv script_343, sv wide_345, sv high_347, sv told_349, sv names_here_352, sv places_here_364, sv k_375, sv name_376, sv held_366, sv signs_367, sv row_389, .at p_rows_372, sv x_383, sv y_384, sv width_385, sv height_386, sv column_397, .any, .any]) (ow1 := ([] ++ gridO p_rows_372 ps_rows_372 rows_396)) rfl rfl ?_
            obtain ⟨i_403, h_i_403, hc_400⟩ := bind_some hc_400
            obtain ⟨rows_404, h_rows_404, hc_400⟩ := bind_some hc_400
            refine sb_setQ (i := 11) (base := []) rfl rfl (ev_op (ev_var (i := 9) rfl) (ev_var (i := 6) rfl) (r2_ixS h_i_403)) (ev_var (i := 10) rfl) (ev_var (i := 16) rfl) h_rows_404 ?_
            cases hc_400
            exact fun σ Kn H s => hN_398 _ hP_399 σ Kn H ((s.le (.keep (.keep (.keep (.keep (.keep (.keep (.keep (.keep (.keep (.keep (.keep (.keep (.keep (.keep (.keep (.keep (.drop (.keep (.keep .nil)))))))))))))))))))).sub (List.Sublist.refl _))
          · intro s_ h0
            cases h0
            show SN _ _ _ [sv script_343, sv wide_345, sv high_347, sv told_349, sv names_here_352, sv places_here_364, sv k_375, sv name_376, sv held_366, sv signs_367, sv row_389, .at p_rows_372, sv x_383, sv y_384, sv width_385, sv height_386, .any, .any, .any] ([] ++ gridO p_rows_372 ps_rows_372 rows_405) _
            cases hc_392
            exact fun σ Kn H s => hN_390 _ hP_391 σ Kn H ((s.le (.keep (.keep (.keep (.keep (.keep (.keep (.keep (.keep (.keep (.keep (.drop (.keep (.keep (.keep (.keep (.keep (.keep (.keep (.keep .nil)))))))))))))))))))).sub (List.Sublist.refl _))
        · intro s_ h0
          cases h0
          show SN _ _ _ [sv script_343, sv wide_345, sv high_347, sv told_349, sv names_here_352, sv places_here_364, sv k_375, sv name_376, sv held_366, sv signs_367, .any, .at p_rows_372, sv x_383, sv y_384, sv width_385, sv height_386, .any, .any, .any] ([] ++ gridO p_rows_372 ps_rows_372 rows_407) _
          cases hc_379
          exact fun σ Kn H s => hN_377 _ hP_378 σ Kn H ((s.le (.keep (.keep (.keep (.keep (.keep (.keep (.drop (.drop (.keep (.keep (.keep (.keep (.drop (.drop (.drop (.drop (.keep (.keep (.keep .nil)))))))))))))))))))).sub (List.Sublist.refl _))
      · intro s_ h0
        cases h0
        refine kx_410 _ _ ?_
        refine SB.is (sl' := [sv script_343, sv wide_345, sv high_347, sv told_349, sv names_here_352, sv places_here_364, .any, .any, sv held_366, sv signs_367, .any, .at p_rows_372, .any, .any, .any, .any, .any, .any, .any]) (ow1 := ([] ++ gridO p_rows_372 ps_rows_372 rows_409)) rfl rfl ?_
        obtain ⟨r_411, h_r_411, hf⟩ := bind_some hf
        obtain ⟨floor_412, h_floor_412, hf⟩ := bind_some hf
        refine SB.seqB (fun kx_ => sb_asg (sl' := [sv script_343, sv wide_345, sv high_347, sv told_349, sv names_here_352, sv places_here_364, .any, .any, sv held_366, sv signs_367, .any, .at p_rows_372, .any, .any, .any, .any, .any, sv floor_412, .any]) rfl (EV.cast (ev_callX (ea_cons (ev_var (i := 1) rfl) (ea_cons (ev_var (i := 2) rfl) (ea_cons (ev_var (i := 8) rfl) ea_nil))) (unX_is h_r_411)) (Option.some.inj h_floor_412)) (kx_ _ _ ?_))
        refine sb_frzQ (i := 11) (base := []) (sl' := [sv script_343, sv wide_345, sv high_347, sv told_349, sv names_here_352, sv places_here_364, .any, .any, sv held_366, sv signs_367, .any, sv rows_409, .any, .any, .any, .any, .any, sv floor_412, .any]) rfl rfl rfl ?_
        obtain ⟨zs_414, h_zs_414, hf⟩ := bind_some hf
        obtain ⟨j_416, h_j_416, hf⟩ := bind_some hf
        obtain ⟨due_417, h_due_417, hf⟩ := bind_some hf
        refine SB.seqB (fun kx_ => sb_asg (sl' := [sv script_343, sv wide_345, sv high_347, sv told_349, sv names_here_352, sv places_here_364, .any, .any, sv held_366, sv signs_367, .any, sv rows_409, .any, .any, .any, .any, .any, sv floor_412, sv due_417]) rfl (EV.cast (ev_joinO (ev_str ("\n" : Str)) (EN.ev (en_lc (js := [10]) (fun x => [sv script_343, sv wide_345, sv high_347, sv told_349, sv names_here_352, sv places_here_364, .any, .any, sv held_366, sv signs_367, sv x, sv rows_409, .any, .any, .any, .any, .any, sv floor_412, .any]) h_zs_414 (it_list (ev_var (i := 11) rfl)) (anyAt_of (by rfl)) (fun x => (gt_name rfl)) (sub_of (by rfl)) (fun _ _ x b h => by cases h; exact et_yes) (fun _ _ x z _ h => by obtain ⟨row_413, hx_⟩ : ∃ y, y = x := ⟨x, rfl⟩; subst hx_; obtain ⟨j_415, h_j_415, h⟩ := bind_some h; have hz_ := Option.some.inj h; subst hz_; exact EV.is (sl' := [sv script_343, sv wide_345, sv high_347, sv told_349, sv names_here_352, sv places_here_364, .any, .any, sv held_366, sv signs_367, sv row_413, sv rows_409, .any, .any, .any, .any, .any, sv floor_412, .any]) rfl (ev_joinO (ev_str ("" : Str)) (ev_var (i := 10) rfl) h_j_415)))) h_j_416) (Option.some.inj h_due_417)) (kx_ _ _ ?_))
        refine SB.seqB (fun kx_420 => sb_if (b := ((!true) || ((!decide (floor_412 = due_417)) || (!Qe.qe held_366 places_here_364)))) (et_or (et_not (et_B (ev_cb (ea_cons (ev_var (i := 17) rfl) (ea_cons (ev_ty "str") ea_nil)) (rc_isi (b := true) (by decide +kernel))))) (fun _ => (et_or (et_test (ev_op (ev_var (i := 17) rfl) (ev_var (i := 18) rfl) r2_neS)) (fun _ => (et_test (ev_op (ev_var (i := 8) rfl) (ev_var (i := 5) rfl) r2_neQ)))))) (fun hb_419 => ?_) (fun hb_419 => ?_))
        · have hf := ite_t hb_419 hf
          cases hf
          exact sb_ret (ev_bool false) q (List.Sublist.refl _)
        · have hf := ite_f hb_419 hf
          refine sb_nx ?_
          refine kx_420 _ _ ?_
          obtain ⟨sd_421, h_sd_421, hf⟩ := bind_some hf
          obtain ⟨r_422, h_r_422, hf⟩ := bind_some hf
          cases hf
          exact sb_ret (ev_op (ev_callX (ea_cons (ev_up (ev_var (i := 17) rfl)) (ea_cons (ev_fz (EN.ev (en_cb (ea_cons (ev_var (i := 4) rfl) ea_nil) (rc_sortD h_sd_421)))) ea_nil)) (unX_is h_r_422)) (ev_var (i := 5) rfl) r2_eqQ) q (List.Sublist.refl _)
end
theorem all_mk (main : ∀ ns : List Int, ns.length ≤ 63 → m_law (Fz.mk ns) = some true) {l : PySem.W.OpenLaw} {w : World} {K : Fg} {h : Heap} {mg : Str → Option Value} {fa f_look_alone f_draw f_rows_of_floor f_read_floor f__law_cell_at f__law_numbers f__law_names f__law_parted f__law_places f_law : Addr} (X : K.In h) (G : h.Ns mainGlobals mg) (hfa : mg "law" = some (.ref fa))
     {od_look_alone an_look_alone : Option Addr} {sl_look_alone : Array (Option Value)} {oc_look_alone kV_look_alone dc_look_alone pm_look_alone cd_look_alone ct_look_alone : Value} {od_draw an_draw : Option Addr} {sl_draw : Array (Option Value)} {oc_draw kV_draw dc_draw pm_draw cd_draw ct_draw : Value} {od_rows_of_floor an_rows_of_floor : Option Addr} {sl_rows_of_floor : Array (Option Value)} {oc_rows_of_floor kV_rows_of_floor dc_rows_of_floor pm_rows_of_floor cd_rows_of_floor ct_rows_of_floor : Value} {od_read_floor an_read_floor : Option Addr} {sl_read_floor : Array (Option Value)} {oc_read_floor kV_read_floor dc_read_floor pm_read_floor cd_read_floor ct_read_floor : Value} {od__law_cell_at an__law_cell_at : Option Addr} {sl__law_cell_at : Array (Option Value)} {oc__law_cell_at kV__law_cell_at dc__law_cell_at pm__law_cell_at cd__law_cell_at ct__law_cell_at : Value} {od__law_numbers an__law_numbers : Option Addr} {sl__law_numbers : Array (Option Value)} {oc__law_numbers kV__law_numbers dc__law_numbers pm__law_numbers cd__law_numbers ct__law_numbers : Value} {od__law_names an__law_names : Option Addr} {sl__law_names : Array (Option Value)} {oc__law_names kV__law_names dc__law_names pm__law_names cd__law_names ct__law_names : Value} {od__law_parted an__law_parted : Option Addr} {sl__law_parted : Array (Option Value)} {oc__law_parted kV__law_parted dc__law_parted pm__law_parted cd__law_parted ct__law_parted : Value} {od__law_places an__law_places : Option Addr} {sl__law_places : Array (Option Value)} {oc__law_places kV__law_places dc__law_places pm__law_places cd__law_places ct__law_places : Value} {od_law an_law : Option Addr} {sl_law : Array (Option Value)} {oc_law kV_law dc_law pm_law cd_law ct_law : Value} {c_NoFloor : Addr} {c_BoxError : Addr} {c_NoRead : Addr} {nm_NoFloor qn_NoFloor : Str} {nn_NoFloor : Addr} {bs_NoFloor : List Value} {sn_NoFloor : List Str} {su_NoFloor : List Value} {ab_NoFloor : Bool} {co_NoFloor : Option Bool} {dd_NoFloor : Option Addr} {m0_NoFloor m1_NoFloor m2_NoFloor m3_NoFloor m5_NoFloor : Option Value} {i_NoFloor : Addr} {iod_NoFloor ian_NoFloor : Option Addr} {isl_NoFloor : Array (Option Value)} {ioc_NoFloor ikV_NoFloor idc_NoFloor ipm_NoFloor icd_NoFloor ict_NoFloor : Value} {tki_SIGNS : Tok} {tki_FREE : Tok} {tki_MOST : Tok}
    (a_look_alone : PySem.W.nsIn K mainGlobals "look_alone" = some (some (.ref f_look_alone))) (l_look_alone : K.lookup f_look_alone = some ⟨oc_look_alone, od_look_alone, .func (PySem.W.fnOf "look_alone" "look_alone" (defArgs s_look_alone) (defBody s_look_alone) (defScope s_look_alone) .none kV_look_alone dc_look_alone pm_look_alone an_look_alone cd_look_alone ct_look_alone), sl_look_alone⟩) (c_look_alone : PySem.W.codeIn K cd_look_alone "look_alone" = true) (k_look_alone : PySem.W.keepIn K (.ref f_look_alone) = true)
    (a_draw : PySem.W.nsIn K mainGlobals "draw" = some (some (.ref f_draw))) (l_draw : K.lookup f_draw = some ⟨oc_draw, od_draw, .func (PySem.W.fnOf "draw" "draw" (defArgs s_draw) (defBody s_draw) (defScope s_draw) .none kV_draw dc_draw pm_draw an_draw cd_draw ct_draw), sl_draw⟩) (c_draw : PySem.W.codeIn K cd_draw "draw" = true) (k_draw : PySem.W.keepIn K (.ref f_draw) = true)
    (a_rows_of_floor : PySem.W.nsIn K mainGlobals "rows_of_floor" = some (some (.ref f_rows_of_floor))) (l_rows_of_floor : K.lookup f_rows_of_floor = some ⟨oc_rows_of_floor, od_rows_of_floor, .func (PySem.W.fnOf "rows_of_floor" "rows_of_floor" (defArgs s_rows_of_floor) (defBody s_rows_of_floor) (defScope s_rows_of_floor) .none kV_rows_of_floor dc_rows_of_floor pm_rows_of_floor an_rows_of_floor cd_rows_of_floor ct_rows_of_floor), sl_rows_of_floor⟩) (c_rows_of_floor : PySem.W.codeIn K cd_rows_of_floor "rows_of_floor" = true) (k_rows_of_floor : PySem.W.keepIn K (.ref f_rows_of_floor) = true)
    (a_read_floor : PySem.W.nsIn K mainGlobals "read_floor" = some (some (.ref f_read_floor))) (l_read_floor : K.lookup f_read_floor = some ⟨oc_read_floor, od_read_floor, .func (PySem.W.fnOf "read_floor" "read_floor" (defArgs s_read_floor) (defBody s_read_floor) (defScope s_read_floor) .none kV_read_floor dc_read_floor pm_read_floor an_read_floor cd_read_floor ct_read_floor), sl_read_floor⟩) (c_read_floor : PySem.W.codeIn K cd_read_floor "read_floor" = true) (k_read_floor : PySem.W.keepIn K (.ref f_read_floor) = true)
    (a__law_cell_at : PySem.W.nsIn K mainGlobals "_law_cell_at" = some (some (.ref f__law_cell_at))) (l__law_cell_at : K.lookup f__law_cell_at = some ⟨oc__law_cell_at, od__law_cell_at, .func (PySem.W.fnOf "_law_cell_at" "_law_cell_at" (defArgs s__law_cell_at) (defBody s__law_cell_at) (defScope s__law_cell_at) .none kV__law_cell_at dc__law_cell_at pm__law_cell_at an__law_cell_at cd__law_cell_at ct__law_cell_at), sl__law_cell_at⟩) (c__law_cell_at : PySem.W.codeIn K cd__law_cell_at "_law_cell_at" = true) (k__law_cell_at : PySem.W.keepIn K (.ref f__law_cell_at) = true)
    (a__law_numbers : PySem.W.nsIn K mainGlobals "_law_numbers" = some (some (.ref f__law_numbers))) (l__law_numbers : K.lookup f__law_numbers = some ⟨oc__law_numbers, od__law_numbers, .func (PySem.W.fnOf "_law_numbers" "_law_numbers" (defArgs s__law_numbers) (defBody s__law_numbers) (defScope s__law_numbers) .none kV__law_numbers dc__law_numbers pm__law_numbers an__law_numbers cd__law_numbers ct__law_numbers), sl__law_numbers⟩) (c__law_numbers : PySem.W.codeIn K cd__law_numbers "_law_numbers" = true) (k__law_numbers : PySem.W.keepIn K (.ref f__law_numbers) = true)
    (a__law_names : PySem.W.nsIn K mainGlobals "_law_names" = some (some (.ref f__law_names))) (l__law_names : K.lookup f__law_names = some ⟨oc__law_names, od__law_names, .func (PySem.W.fnOf "_law_names" "_law_names" (defArgs s__law_names) (defBody s__law_names) (defScope s__law_names) .none kV__law_names dc__law_names pm__law_names an__law_names cd__law_names ct__law_names), sl__law_names⟩) (c__law_names : PySem.W.codeIn K cd__law_names "_law_names" = true) (k__law_names : PySem.W.keepIn K (.ref f__law_names) = true)
    (a__law_parted : PySem.W.nsIn K mainGlobals "_law_parted" = some (some (.ref f__law_parted))) (l__law_parted : K.lookup f__law_parted = some ⟨oc__law_parted, od__law_parted, .func (PySem.W.fnOf "_law_parted" "_law_parted" (defArgs s__law_parted) (defBody s__law_parted) (defScope s__law_parted) .none kV__law_parted dc__law_parted pm__law_parted an__law_parted cd__law_parted ct__law_parted), sl__law_parted⟩) (c__law_parted : PySem.W.codeIn K cd__law_parted "_law_parted" = true) (k__law_parted : PySem.W.keepIn K (.ref f__law_parted) = true)
    (a__law_places : PySem.W.nsIn K mainGlobals "_law_places" = some (some (.ref f__law_places))) (l__law_places : K.lookup f__law_places = some ⟨oc__law_places, od__law_places, .func (PySem.W.fnOf "_law_places" "_law_places" (defArgs s__law_places) (defBody s__law_places) (defScope s__law_places) .none kV__law_places dc__law_places pm__law_places an__law_places cd__law_places ct__law_places), sl__law_places⟩) (c__law_places : PySem.W.codeIn K cd__law_places "_law_places" = true) (k__law_places : PySem.W.keepIn K (.ref f__law_places) = true)
    (a_law : PySem.W.nsIn K mainGlobals "law" = some (some (.ref f_law))) (l_law : K.lookup f_law = some ⟨oc_law, od_law, .func (PySem.W.fnOf "law" "law" (defArgs s_law) (defBody s_law) (defScope s_law) .none kV_law dc_law pm_law an_law cd_law ct_law), sl_law⟩) (c_law : PySem.W.codeIn K cd_law "law" = true) (k_law : PySem.W.keepIn K (.ref f_law) = true)
    (aC_NoFloor : PySem.W.nsIn K mainGlobals "NoFloor" = some (some (.ref c_NoFloor)))
    (aC_BoxError : PySem.W.nsIn K mainGlobals "BoxError" = some (some (.ref c_BoxError)))
    (aC_NoRead : PySem.W.nsIn K mainGlobals "NoRead" = some (some (.ref c_NoRead)))
    (xl_NoFloor : K.lookup c_NoFloor = some (excClassObj nm_NoFloor qn_NoFloor c_NoFloor nn_NoFloor bs_NoFloor [.ref c_BoxError, .type "ValueError", .type "Exception", .type "BaseException", .type "object"] true sn_NoFloor su_NoFloor ab_NoFloor co_NoFloor dd_NoFloor m0_NoFloor m1_NoFloor m2_NoFloor m3_NoFloor m5_NoFloor "ValueError.__new__"))
    (fi_NoFloor_init : PySem.W.findIn K (.ref c_NoFloor) "__init__" = some (some (.ref i_NoFloor)))
    (il_NoFloor : K.lookup i_NoFloor = some ⟨ioc_NoFloor, iod_NoFloor, .func (PySem.W.fnOf "__init__" "NoFloor.__init__" (defArgs (inClass (topS 2) 0)) (defBody (inClass (topS 2) 0)) (defScope (inClass (topS 2) 0)) .none ikV_NoFloor idc_NoFloor ipm_NoFloor ian_NoFloor icd_NoFloor ict_NoFloor), isl_NoFloor⟩)
    (ic_NoFloor : PySem.W.codeIn K icd_NoFloor "NoFloor.__init__" = true)
    (ik_NoFloor : PySem.W.keepIn K (.ref i_NoFloor) = true)
    (it_NoFloor : PySem.W.typeIn K (.ref i_NoFloor) = some (.type "function"))
    (fi_NoFloor_name : PySem.W.findIn K (.ref c_NoFloor) "name" = some none)
    (fi_NoFloor_setattr : PySem.W.findIn K (.ref c_NoFloor) "__setattr__" = some (some (.builtin "object.__setattr__")))
    (su_NoFloor_BaseException : PySem.W.subIn K (.ref c_NoFloor) (.type "BaseException") = some true)
    (ty_NoFloor : PySem.W.typeIn K (.ref c_NoFloor) = some (.type "type"))
    (kc_NoFloor : PySem.W.keepIn K (.ref c_NoFloor) = true)
    (fi_NoFloor_getattribute : PySem.W.findIn K (.ref c_NoFloor) "__getattribute__" = some (some (.builtin "BaseException.__getattribute__")))
    (fi_NoFloor_getattr : PySem.W.findIn K (.ref c_NoFloor) "__getattr__" = some none)
    (hd_NoFloor : PySem.W.hasDictIn K c_NoFloor = true)
    (sg_BoxError : PySem.W.specialIn K (.ref c_BoxError) "__getattribute__" = some (some (.builtin "type.__getattribute__")))
    (rd_BoxError : PySem.W.readsIn K c_BoxError (.type "type") = true)
    (fc_BoxError : PySem.W.findCls K (.ref c_BoxError) (.type "type") "__init__" = some (.val (.builtin "ValueError.__init__")))
    (xP_NoRead : PySem.W.excIn K c_NoRead [.type "ValueError", .type "Exception", .type "BaseException", .type "object"] "ValueError.__new__" = true)
    (kc_NoRead : PySem.W.keepIn K (.ref c_NoRead) = true)
    (su_NoRead_BaseException : PySem.W.subIn K (.ref c_NoRead) (.type "BaseException") = some true)
    (ty_NoRead : PySem.W.typeIn K (.ref c_NoRead) = some (.type "type"))
    (z_dict : PySem.W.nsIn K mainGlobals "dict" = some none)
    (z_enumerate : PySem.W.nsIn K mainGlobals "enumerate" = some none)
    (z_int : PySem.W.nsIn K mainGlobals "int" = some none)
    (z_isinstance : PySem.W.nsIn K mainGlobals "isinstance" = some none)
    (z_len : PySem.W.nsIn K mainGlobals "len" = some none)
    (z_max : PySem.W.nsIn K mainGlobals "max" = some none)
    (z_min : PySem.W.nsIn K mainGlobals "min" = some none)
    (z_range : PySem.W.nsIn K mainGlobals "range" = some none)
    (z_sorted : PySem.W.nsIn K mainGlobals "sorted" = some none)
    (z_str : PySem.W.nsIn K mainGlobals "str" = some none)
    (ki_SIGNS : PySem.W.nsIn K mainGlobals "SIGNS" = some (some (.str "abcdefghijklmnopqrstuvwxyzABCDEFGHIJKLMNOPQRSTUVWXYZ01234567" tki_SIGNS)))
    (ki_FREE : PySem.W.nsIn K mainGlobals "FREE" = some (some (.str "." tki_FREE)))
    (ki_MOST : PySem.W.nsIn K mainGlobals "MOST" = some (some (.int 200 tki_MOST))) :
    ∃ fd : FuncData, (∀ (s : Shared) (v : Value), BindsTo s fd ⟨[v], []⟩ [("_law_script", v)]) ∧ ∀ base : Heap, K.In base → base.Ns mainGlobals mg → FnOk l.prog w K mg base CX0 5 fa fd ["_law_script"] (spLaw K) := by
  have e := hfa.symm.trans (PySem.W.mg_of X G a_law)
  cases e
  have F_look_alone := fun_mk (st := s_look_alone) l_look_alone c_look_alone k_look_alone
  have F_draw := fun_mk (st := s_draw) l_draw c_draw k_draw
  have F_rows_of_floor := fun_mk (st := s_rows_of_floor) l_rows_of_floor c_rows_of_floor k_rows_of_floor
  have F_read_floor := fun_mk (st := s_read_floor) l_read_floor c_read_floor k_read_floor
  have F__law_cell_at := fun_mk (st := s__law_cell_at) l__law_cell_at c__law_cell_at k__law_cell_at
  have F__law_numbers := fun_mk (st := s__law_numbers) l__law_numbers c__law_numbers k__law_numbers
  have F__law_names := fun_mk (st := s__law_names) l__law_names c__law_names k__law_names
  have F__law_parted := fun_mk (st := s__law_parted) l__law_parted c__law_parted k__law_parted
  have F__law_places := fun_mk (st := s__law_places) l__law_places c__law_places k__law_places
  have F_law := fun_mk (st := s_law) l_law c_law k_law
  have b_look_alone := F_look_alone.binds (ps := ["wide", "high", "places"]) fun _ _ _ _ _ _ us hl => match us, hl with | [_, _, _], _ => rfl
  have b_draw := F_draw.binds (ps := ["wide", "high", "places"]) fun _ _ _ _ _ _ us hl => match us, hl with | [_, _, _], _ => rfl
  have b_rows_of_floor := F_rows_of_floor.binds (ps := ["text"]) fun _ _ _ _ _ _ us hl => match us, hl with | [_], _ => rfl
  have b_read_floor := F_read_floor.binds (ps := ["text", "names"]) fun _ _ _ _ _ _ us hl => match us, hl with | [_, _], _ => rfl
  have b__law_cell_at := F__law_cell_at.binds (ps := ["_law_script", "_law_k"]) fun _ _ _ _ _ _ us hl => match us, hl with | [_, _], _ => rfl
  have b__law_numbers := F__law_numbers.binds (ps := ["_law_cell", "_law_many"]) fun _ _ _ _ _ _ us hl => match us, hl with | [_, _], _ => rfl
  have b__law_names := F__law_names.binds (ps := ["_law_cell", "_law_many"]) fun _ _ _ _ _ _ us hl => match us, hl with | [_, _], _ => rfl
  have b__law_parted := F__law_parted.binds (ps := ["_law_place", "_law_number"]) fun _ _ _ _ _ _ us hl => match us, hl with | [_, _], _ => rfl
  have b__law_places := F__law_places.binds (ps := ["_law_wide", "_law_high", "_law_cells"]) fun _ _ _ _ _ _ us hl => match us, hl with | [_, _, _], _ => rfl
  have b_law := F_law.binds (ps := ["_law_script"]) fun _ _ _ _ _ _ us hl => match us, hl with | [_], _ => rfl
  have Fi_NoFloor := fun_mk (st := (inClass (topS 2) 0)) il_NoFloor ic_NoFloor ik_NoFloor
  let T : TX K mg w := ⟨_, _, F_look_alone, b_look_alone, PySem.W.mg_of X G a_look_alone, _, _, F_draw, b_draw, PySem.W.mg_of X G a_draw, _, _, F_rows_of_floor, b_rows_of_floor, PySem.W.mg_of X G a_rows_of_floor, _, _, F_read_floor, b_read_floor, PySem.W.mg_of X G a_read_floor, _, _, F__law_cell_at, b__law_cell_at, PySem.W.mg_of X G a__law_cell_at, _, _, F__law_numbers, b__law_numbers, PySem.W.mg_of X G a__law_numbers, _, _, F__law_names, b__law_names, PySem.W.mg_of X G a__law_names, _, _, F__law_parted, b__law_parted, PySem.W.mg_of X G a__law_parted, _, _, F__law_places, b__law_places, PySem.W.mg_of X G a__law_places, _, _, F_law, b_law, PySem.W.mg_of X G a_law, PySem.W.mg_none_of X G z_dict, PySem.W.mg_none_of X G z_enumerate, PySem.W.mg_none_of X G z_int, PySem.W.mg_none_of X G z_isinstance, PySem.W.mg_none_of X G z_len, PySem.W.mg_none_of X G z_max, PySem.W.mg_none_of X G z_min, PySem.W.mg_none_of X G z_range, PySem.W.mg_none_of X G z_sorted, PySem.W.mg_none_of X G z_str, _, PySem.W.mg_of X G aC_NoFloor, _, PySem.W.mg_of X G aC_BoxError, _, PySem.W.mg_of X G aC_NoRead, ⟨⟨nm_NoFloor, qn_NoFloor, nn_NoFloor, bs_NoFloor, _, sn_NoFloor, su_NoFloor, ab_NoFloor, co_NoFloor, dd_NoFloor, m0_NoFloor, m1_NoFloor, m2_NoFloor, m3_NoFloor, m5_NoFloor, xl_NoFloor, by rfl⟩, fi_NoFloor_setattr, su_NoFloor_BaseException, ty_NoFloor, kc_NoFloor⟩, (fun f hf => by rcases List.mem_cons.mp hf with rfl | hf; exact fi_NoFloor_name; cases hf), _, _, Fi_NoFloor, (Fi_NoFloor.binds (ps := ["self", "name"]) fun _ _ _ _ _ _ us hl => match us, hl with | [_, _], _ => rfl), fi_NoFloor_init, it_NoFloor, ⟨fi_NoFloor_getattribute, fi_NoFloor_getattr, su_NoFloor_BaseException, hd_NoFloor⟩, sg_BoxError, rd_BoxError, fc_BoxError, xP_NoRead, kc_NoRead, su_NoRead_BaseException, ty_NoRead, _, PySem.W.mg_of X G ki_SIGNS, _, PySem.W.mg_of X G ki_FREE, _, PySem.W.mg_of X G ki_MOST⟩
  refine ⟨PySem.W.fnOf "law" "law" (defArgs s_law) (defBody s_law) (defScope s_law) .none kV_law dc_law pm_law an_law cd_law ct_law, fun s v => .of_eq rfl, fun base _ _ => ?_⟩
  exact fn_weak (ok_law T) main
end Wk89
/-! Wp: plain facts about the mirrors' words -/
namespace Wk
open PySem L2

theorem bs {α β : Type} (a : α) (f : α → Option β) : (some a).bind f = f a := by rw [Option.bind_some]
theorem bind_ok {α β : Type} {m : Option α} {f : α → Option β} {a : α} (h : m = some a) : m.bind f = f a := by rw [h]; rfl
theorem atI_ok {α : Type} {xs : List α} {i : Int} (h0 : 0 ≤ i) (h : i < xs.length) : atI xs i = xs[i.toNat]? := by
  obtain ⟨k, rfl⟩ := Int.eq_ofNat_of_zero_le h0
  have hk : k < xs.length := by omega
  have e : xs[k]? = some xs[k] := List.getElem?_eq_getElem hk
  rw [show ((k : Int)).toNat = k from rfl, e]
  exact atI_nat e
theorem atI_some {α : Type} {xs : List α} {i : Int} (h0 : 0 ≤ i) (h : i < xs.length) : ∃ x, atI xs i = some x ∧ xs[i.toNat]? = some x := by
  have hk : i.toNat < xs.length := by omega
  exact ⟨xs[i.toNat], by rw [atI_ok h0 h]; exact List.getElem?_eq_getElem hk, List.getElem?_eq_getElem hk⟩
theorem pick2 {α : Type} (x y : α) {k : Int} (h0 : 0 ≤ k) (h : k < 2) : atI [x, y] k = some (if k = 0 then x else y) := by
  rcases (show k = 0 ∨ k = 1 by omega) with rfl | rfl <;> rfl
theorem pick3 {α : Type} (x y z : α) {k : Int} (h0 : 0 ≤ k) (h : k < 3) : atI [x, y, z] k = some (if k = 0 then x else if k = 1 then y else z) := by
  rcases (show k = 0 ∨ k = 1 ∨ k = 2 by omega) with rfl | rfl | rfl <;> rfl
theorem pick4 {α : Type} (x y z u : α) {k : Int} (h0 : 0 ≤ k) (h : k < 4) : atI [x, y, z, u] k = some (if k = 0 then x else if k = 1 then y else if k = 2 then z else u) := by
  rcases (show k = 0 ∨ k = 1 ∨ k = 2 ∨ k = 3 by omega) with rfl | rfl | rfl | rfl <;> rfl
theorem forC_all {β R : Type} {f : β → Unit → Option (Ctl Unit R)} : ∀ {xs : List β}, (∀ x ∈ xs, f x () = some (.nx ())) → forC f xs () = some (.nx ())
  | [], _ => rfl
  | x :: xs, h => by
    unfold forC
    rw [h x List.mem_cons_self]
    exact forC_all fun y hy => h y (List.mem_cons_of_mem _ hy)
/-- a loop that always goes on, by an invariant -/
theorem forC_inv {β Sx R : Type} {f : β → Sx → Option (Ctl Sx R)} (I : List β → Sx → Prop) : ∀ {xs : List β} {s : Sx}, I xs s → (∀ x rest s, I (x :: rest) s → ∃ s', f x s = some (.nx s') ∧ I rest s') → ∃ s', forC f xs s = some (.nx s') ∧ I [] s'
  | [], s, h, _ => ⟨s, rfl, h⟩
  | x :: xs, s, h, hs => by
    obtain ⟨s', e, h'⟩ := hs x xs s h
    obtain ⟨s2, e2, h2⟩ := forC_inv I h' hs
    refine ⟨s2, ?_, h2⟩
    unfold forC
    rw [e]
    exact e2
theorem forS_inv {β Sx : Type} {f : β → Sx → Option Sx} (I : List β → Sx → Prop) : ∀ {xs : List β} {s : Sx}, I xs s → (∀ x rest s, I (x :: rest) s → ∃ s', f x s = some s' ∧ I rest s') → ∃ s', forS f xs s = some s' ∧ I [] s'
  | [], s, h, _ => ⟨s, rfl, h⟩
  | x :: xs, s, h, hs => by
    obtain ⟨s', e, h'⟩ := hs x xs s h
    obtain ⟨s2, e2, h2⟩ := forS_inv I h' hs
    refine ⟨s2, ?_, h2⟩
    unfold forS
    rw [e]
    exact e2
/-- a loop as a fold -/
theorem forS_fold {β Sx : Type} {f : β → Sx → Option Sx} (g : Sx → β → Sx) (I : List β → Sx → Prop) : ∀ {xs : List β} {s : Sx}, I xs s → (∀ x rest s, I (x :: rest) s → f x s = some (g s x) ∧ I rest (g s x)) → forS f xs s = some (xs.foldl g s)
  | [], s, h, _ => rfl
  | x :: xs, s, h, hs => by
    obtain ⟨e, h'⟩ := hs x xs s h
    unfold forS
    rw [e]
    exact forS_fold g I h' hs
theorem forS_cons {β Sx : Type} {f : β → Sx → Option Sx} {x : β} {xs : List β} {s s' : Sx} (h : f x s = some s') : forS f (x :: xs) s = forS f xs s' := by
  show ((f x s).bind _) = _
  rw [h]
  rfl
theorem forC_cons {β Sx R : Type} {f : β → Sx → Option (Ctl Sx R)} {x : β} {xs : List β} {s s' : Sx} (h : f x s = some (.nx s')) : forC f (x :: xs) s = forC f xs s' := by
  show ((f x s).bind _) = _
  rw [h]
  rfl
/-- by places -/
theorem forS_ix {β Sx : Type} {f : β → Sx → Option Sx} {xs : List β} (P : Nat → Sx → Prop) {s : Sx} (h0 : P 0 s) (step : ∀ (i : Nat) (hi : i < xs.length) s, P i s → ∃ s', f xs[i] s = some s' ∧ P (i + 1) s') : ∃ s', forS f xs s = some s' ∧ P xs.length s' := by
  have key : ∀ (m i : Nat) (s : Sx), i + m = xs.length → P i s → ∃ s', forS f (xs.drop i) s = some s' ∧ P xs.length s' := by
    intro m
    induction m with
    | zero =>
      intro i s hi hp
      have e : i = xs.length := by omega
      subst e
      rw [List.drop_length]
      exact ⟨s, rfl, hp⟩
    | succ m ih =>
      intro i s hi hp
      have hl : i < xs.length := by omega
      obtain ⟨s', e, hp'⟩ := step i hl s hp
      obtain ⟨r, e2, h2⟩ := ih (i + 1) s' (by omega) hp'
      refine ⟨r, ?_, h2⟩
      rw [List.drop_eq_getElem_cons hl, forS_cons e]
      exact e2
  have := key xs.length 0 s (by omega) h0
  rwa [List.drop_zero] at this
theorem forC_ix {β Sx R : Type} {f : β → Sx → Option (Ctl Sx R)} {xs : List β} (P : Nat → Sx → Prop) {s : Sx} (h0 : P 0 s) (step : ∀ (i : Nat) (hi : i < xs.length) s, P i s → ∃ s', f xs[i] s = some (.nx s') ∧ P (i + 1) s') : ∃ s', forC f xs s = some (.nx s') ∧ P xs.length s' := by
  have key : ∀ (m i : Nat) (s : Sx), i + m = xs.length → P i s → ∃ s', forC f (xs.drop i) s = some (.nx s') ∧ P xs.length s' := by
    intro m
    induction m with
    | zero =>
      intro i s hi hp
      have e : i = xs.length := by omega
      subst e
      rw [List.drop_length]
      exact ⟨s, rfl, hp⟩
    | succ m ih =>
      intro i s hi hp
      have hl : i < xs.length := by omega
      obtain ⟨s', e, hp'⟩ := step i hl s hp
      obtain ⟨r, e2, h2⟩ := ih (i + 1) s' (by omega) hp'
      refine ⟨r, ?_, h2⟩
      rw [List.drop_eq_getElem_cons hl, forC_cons e]
      exact e2
  have := key xs.length 0 s (by omega) h0
  rwa [List.drop_zero] at this
/-- two loops over one list, turn by turn -/
theorem forS2_ix {β S1 S2 : Type} {f1 : β → S1 → Option S1} {f2 : β → S2 → Option S2} {xs : List β} (P : Nat → S1 → S2 → Prop) {s1 : S1} {s2 : S2} (h0 : P 0 s1 s2)
    (step : ∀ (i : Nat) (hi : i < xs.length) s1 s2, P i s1 s2 → ∃ s1' s2', f1 xs[i] s1 = some s1' ∧ f2 xs[i] s2 = some s2' ∧ P (i + 1) s1' s2') : ∃ r1 r2, forS f1 xs s1 = some r1 ∧ forS f2 xs s2 = some r2 ∧ P xs.length r1 r2 := by
  have key : ∀ (m i : Nat) (s1 : S1) (s2 : S2), i + m = xs.length → P i s1 s2 → ∃ r1 r2, forS f1 (xs.drop i) s1 = some r1 ∧ forS f2 (xs.drop i) s2 = some r2 ∧ P xs.length r1 r2 := by
    intro m
    induction m with
    | zero =>
      intro i s1 s2 hi hp
      have e : i = xs.length := by omega
      subst e
      rw [List.drop_length]
      exact ⟨s1, s2, rfl, rfl, hp⟩
    | succ m ih =>
      intro i s1 s2 hi hp
      have hl : i < xs.length := by omega
      obtain ⟨a, b, e1, e2, hp'⟩ := step i hl s1 s2 hp
      obtain ⟨r1, r2, h1, h2, h3⟩ := ih (i + 1) a b (by omega) hp'
      refine ⟨r1, r2, ?_, ?_, h3⟩
      · rw [List.drop_eq_getElem_cons hl, forS_cons e1]
        exact h1
      · rw [List.drop_eq_getElem_cons hl, forS_cons e2]
        exact h2
  have := key xs.length 0 s1 s2 (by omega) h0
  rwa [List.drop_zero] at this
theorem enumI_at {α : Type} (xs : List α) (i : Nat) (hi : i < (enumI xs).length) : (enumI xs)[i] = ((i : Int), xs[i]'(by simpa [enumI] using hi), ()) := by simp [enumI]
theorem whileS_inv {Sx : Type} {c : Sx → Option Bool} {f : Sx → Option Sx} (I : Sx → Prop) (μ : Sx → Nat) (step : ∀ s, I s → ∃ b, c s = some b ∧ (b = true → ∃ s', f s = some s' ∧ I s' ∧ μ s' < μ s)) :
    ∀ (n : Nat) {s : Sx}, I s → μ s < n → ∃ s', whileS c f n s = some s' ∧ I s' ∧ c s' = some false
  | 0, _, _, h => absurd h (Nat.not_lt_zero _)
  | n + 1, s, hI, hn => by
    obtain ⟨b, hb, hs⟩ := step s hI
    unfold whileS
    rw [hb]
    cases b with
    | false => exact ⟨s, rfl, hI, hb⟩
    | true =>
      obtain ⟨s', e, hI', hm⟩ := hs rfl
      obtain ⟨s2, e2, h2⟩ := whileS_inv I μ step n hI' (by omega)
      refine ⟨s2, ?_, h2⟩
      show ((f s).bind _) = _
      rw [e]
      exact e2
theorem whileF_inv {Sx : Type} {c : Sx → Option Bool} {f : Sx → Option Sx} (I : Sx → Prop) (μ : Sx → Nat) (step : ∀ s, I s → ∃ b, c s = some b ∧ (b = true → ∃ s', f s = some s' ∧ I s' ∧ μ s' < μ s)) {s : Sx} (h : I s) :
    ∃ s', whileF c f s = some s' ∧ I s' ∧ c s' = some false := by
  obtain ⟨s', e, h1, h2⟩ := whileS_inv I μ step (μ s + 1) h (Nat.lt_succ_self _)
  exact ⟨s', whileF_of e, h1, h2⟩
theorem cut_len {α : Type} (xs : List α) (lo hi : Option Int) : (cut xs lo hi).length ≤ xs.length := by
  unfold cut
  rw [List.length_take, List.length_drop]
  omega
theorem cut_mem {α : Type} {xs : List α} {lo hi : Option Int} {x : α} (h : x ∈ cut xs lo hi) : x ∈ xs := List.mem_of_mem_drop (List.mem_of_mem_take h)
theorem cut_from {α : Type} (xs : List α) (k : Nat) : cut xs (some (k : Int)) none = xs.drop k := by
  unfold cut
  rw [HT.sIx_nat, HT.sIx_none]
  by_cases h : k ≤ xs.length
  · rw [Nat.min_eq_left h, List.take_of_length_le (by rw [List.length_drop]; omega)]
  · rw [Nat.min_eq_right (by omega), List.drop_eq_nil_of_le (Nat.le_refl _), List.drop_eq_nil_of_le (show xs.length ≤ k by omega)]
    exact List.take_nil
theorem cut_to {α : Type} (xs : List α) (k : Nat) : cut xs none (some (k : Int)) = xs.take k := by
  unfold cut
  rw [HT.sIx_nat, HT.sIx_none, List.drop_zero, Nat.sub_zero]
  by_cases h : k ≤ xs.length
  · rw [Nat.min_eq_left h]
  · rw [Nat.min_eq_right (by omega), List.take_of_length_le (Nat.le_refl _), List.take_of_length_le (by omega)]
theorem rngO_ok {lo hi : Int} (h1 : -1000000000000 ≤ lo) (h2 : lo ≤ 1000000000000) (h3 : -1000000000000 ≤ hi) (h4 : hi ≤ 1000000000000) : rngO lo hi = some (irange lo hi) := if_pos ⟨h1, h2, h3, h4⟩
theorem irange_len (lo hi : Int) : (irange lo hi).length = (hi - lo).toNat := by simp [irange]
theorem enumI_len {α : Type} (xs : List α) : (enumI xs).length = xs.length := by simp [enumI]
theorem lcM_len {β γ : Type} {c : β → Option Bool} {f : β → Option γ} {xs : List β} (h : xs.length < 1000000) : lcM c f xs = lcGo c f xs := if_pos h
theorem lcGo_all {β γ : Type} {f : β → Option γ} (g : β → γ) : ∀ {xs : List β}, (∀ x ∈ xs, f x = some (g x)) → lcGo (fun _ => some true) f xs = some (xs.map g)
  | [], _ => rfl
  | x :: xs, h => by
    unfold lcGo
    show ((f x).bind _) = _
    rw [h x List.mem_cons_self, lcGo_all g fun y hy => h y (List.mem_cons_of_mem _ hy)]
    rfl
theorem lcGo_if {β γ : Type} {c : β → Option Bool} {f : β → Option γ} (p : β → Bool) (g : β → γ) : ∀ {xs : List β}, (∀ x ∈ xs, c x = some (p x)) → (∀ x ∈ xs, p x = true → f x = some (g x)) → lcGo c f xs = some ((xs.filter p).map g)
  | [], _, _ => rfl
  | x :: xs, hc, h => by
    unfold lcGo
    rw [hc x List.mem_cons_self]
    have ih := lcGo_if p g (xs := xs) (fun y hy => hc y (List.mem_cons_of_mem _ hy)) (fun y hy => h y (List.mem_cons_of_mem _ hy))
    cases e : p x with
    | true =>
      show ((f x).bind _) = _
      rw [h x List.mem_cons_self e, ih, List.filter_cons_of_pos e]
      rfl
    | false =>
      show lcGo c f xs = _
      rw [ih, List.filter_cons_of_neg (by rw [e]; exact Bool.false_ne_true)]
theorem lcM_all {β γ : Type} {f : β → Option γ} (g : β → γ) {xs : List β} (hl : xs.length < 1000000) (h : ∀ x ∈ xs, f x = some (g x)) : lcM (fun _ => some true) f xs = some (xs.map g) := by
  rw [lcM_len hl, lcGo_all g h]
/-- draws, one an item -/
theorem lcSGo_inv {β γ Sx : Type} {f : β → Sx → Option (γ × Sx)} (I : Sx → Prop) (P : γ → Prop) (step : ∀ x s, I s → ∃ z s', f x s = some (z, s') ∧ I s' ∧ P z) :
    ∀ {xs : List β} {s : Sx}, I s → ∃ zs s', lcSGo f xs s = some (zs, s') ∧ I s' ∧ zs.length = xs.length ∧ ∀ z ∈ zs, P z
  | [], s, h => ⟨[], s, rfl, h, rfl, fun _ hz => nomatch hz⟩
  | x :: xs, s, h => by
    obtain ⟨z, s', e, h', hp⟩ := step x s h
    obtain ⟨zs, s2, e2, h2, hl, hz⟩ := lcSGo_inv I P step (xs := xs) h'
    refine ⟨z :: zs, s2, ?_, h2, by rw [List.length_cons, List.length_cons, hl], fun y hy => ?_⟩
    · unfold lcSGo
      rw [e]
      show ((lcSGo f xs s').bind _) = _
      rw [e2]
      rfl
    · rcases List.mem_cons.mp hy with rfl | hy
      · exact hp
      · exact hz y hy
theorem lcS_inv {β γ Sx : Type} {f : β → Sx → Option (γ × Sx)} (I : Sx → Prop) (P : γ → Prop) (step : ∀ x s, I s → ∃ z s', f x s = some (z, s') ∧ I s' ∧ P z) {xs : List β} {s : Sx} (hl : xs.length < 1000000) (h : I s) :
    ∃ zs s', lcS f xs s = some (zs, s') ∧ I s' ∧ zs.length = xs.length ∧ ∀ z ∈ zs, P z := by
  unfold lcS
  rw [if_pos hl]
  exact lcSGo_inv I P step h
theorem forS_app {β γ : Type} {f : β → List γ → Option (List γ)} (g : β → γ) : ∀ {xs : List β} {s : List γ}, s.length + xs.length ≤ 1000000 → (∀ x ∈ xs, ∀ s : List γ, s.length < 1000000 → f x s = some (s ++ [g x])) → forS f xs s = some (s ++ xs.map g)
  | [], s, _, _ => by rw [List.map_nil, List.append_nil]; rfl
  | x :: xs, s, hl, h => by
    rw [List.length_cons] at hl
    rw [forS_cons (h x List.mem_cons_self s (by omega)), forS_app g (by rw [List.length_append, List.length_singleton]; omega) fun y hy => h y (List.mem_cons_of_mem _ hy), List.map_cons, List.append_assoc]
    rfl
theorem enumI_mem {α : Type} [Rp α] {xs : List α} {y : Int × α × Unit} (h : y ∈ enumI xs) : ∃ (i : Nat) (x : α), xs[i]? = some x ∧ y = ((i : Int), x, ()) := by
  obtain ⟨i, hi⟩ := List.getElem?_of_mem h
  obtain ⟨x, hx, e⟩ := enum_get hi
  exact ⟨i, x, hx, e⟩
theorem zipI_mem {α β : Type} [Rp α] [Rp β] {xs : List α} {ys : List β} {z : α × β × Unit} (h : z ∈ zipI xs ys) : ∃ (i : Nat) (x : α) (y : β), xs[i]? = some x ∧ ys[i]? = some y ∧ z = (x, y, ()) := by
  obtain ⟨i, hi⟩ := List.getElem?_of_mem h
  obtain ⟨x, y, hx, hy, e⟩ := zip_get hi
  exact ⟨i, x, y, hx, hy, e⟩
/-! texts -/
theorem len_app (x y : Str) : (x ++ y).length = x.length + y.length := by
  show (x.cps ++ y.cps).size = _
  rw [Array.size_append]
  rfl
theorem ok_app {x y : Str} (hx : PyData.strOk x = true) (hy : PyData.strOk y = true) : PyData.strOk (x ++ y) = true := by
  show (x.cps ++ y.cps).all _ = true
  rw [Array.all_append]
  exact Bool.and_eq_true_iff.mpr ⟨hx, hy⟩
theorem ok_join {s : Str} (hs : PyData.strOk s = true) : ∀ {ys : List Str}, (∀ y ∈ ys, PyData.strOk y = true) → PyData.strOk (Str.join s ys) = true
  | [], _ => by
    unfold Str.join
    decide +kernel
  | [x], h => h x List.mem_cons_self
  | x :: y :: r, h => ok_app (ok_app (h x List.mem_cons_self) hs) (ok_join hs fun z hz => h z (List.mem_cons_of_mem _ hz))
theorem joinO_ok {s : Str} {ys : List Str} (h : (ys.map (·.length)).sum + ys.length * s.length ≤ 1000000) : joinO s ys = some (Str.join s ys) := by
  unfold joinO
  rw [if_pos h, TL.join_eq]
/-- a sign of a written text -/
theorem ixS_ok {s : Str} {i : Int} (hl : s.length ≤ 100000) (h0 : 0 ≤ i) (h : i < (s.length : Int)) (hs : PyData.strOk s = true) : ∃ c, ixS s i = some ⟨#[c]⟩ ∧ PyData.strOk ⟨#[c]⟩ = true ∧ (⟨#[c]⟩ : Str).length = 1 := by
  have hl2 : s.cps.toList.length = s.length := Array.length_toList
  obtain ⟨c, e, e2⟩ := atI_some (xs := s.cps.toList) h0 (by rw [hl2]; exact h)
  refine ⟨c, ?_, ?_, rfl⟩
  · unfold ixS
    rw [if_pos hl, e]
    rfl
  · have hm : c ∈ s.cps := Array.mem_toList_iff.mp (List.mem_of_getElem? e2)
    have := Array.all_eq_true'.mp hs c hm
    show (#[c] : Array Nat).all _ = true
    simpa using this
/-! dicts, and more -/
theorem cut_init {α : Type} (xs : List α) : cut xs none (some (-(1 : Int))) = xs.dropLast := by
  unfold cut
  rw [HT.sIx_none, List.drop_zero, Nat.sub_zero, List.dropLast_eq_take]
  have e : HT.sIx xs.length xs.length (some (-(1 : Int))) = (-(1 : Int) + (xs.length : Int)).toNat := rfl
  rw [e]
  congr 1
  omega
theorem mem_irange {x a b : Int} : x ∈ irange a b ↔ a ≤ x ∧ x < b := by
  unfold irange
  rw [List.mem_map]
  constructor
  · rintro ⟨k, hk, rfl⟩
    rw [List.mem_range] at hk
    omega
  · intro h
    exact ⟨(x - a).toNat, List.mem_range.mpr (by omega), by omega⟩
section
variable {κ β : Type} [DecidableEq κ]
theorem getD_pos {p : κ × β} {r : List (κ × β)} {k : κ} (e : p.1 = k) : getD (p :: r) k = some p.2 := by simp [getD, List.find?_cons, e]
theorem getD_neg {p : κ × β} {r : List (κ × β)} {k : κ} (e : ¬ p.1 = k) : getD (p :: r) k = getD r k := by simp [getD, List.find?_cons, e]
theorem getD_map (k j : κ) (y : β) : ∀ kvs : List (κ × β), getD (kvs.map fun kv => if kv.1 = k then (kv.1, y) else kv) j = (getD kvs j).map fun x => if j = k then y else x
  | [] => rfl
  | p :: r => by
    rw [List.map_cons]
    have ih := getD_map k j y r
    by_cases a : p.1 = k
    · rw [if_pos a]
      by_cases b : p.1 = j
      · rw [getD_pos (p := (p.1, y)) b, getD_pos b, Option.map_some, if_pos (b.symm.trans a)]
      · rw [getD_neg (p := (p.1, y)) b, getD_neg b, ih]
    · rw [if_neg a]
      by_cases b : p.1 = j
      · rw [getD_pos b, getD_pos b, Option.map_some, if_neg (fun z => a (b.trans z))]
      · rw [getD_neg b, getD_neg b, ih]
theorem getD_snoc (k j : κ) (y : β) : ∀ kvs : List (κ × β), getD kvs k = none → getD (kvs ++ [(k, y)]) j = if j = k then some y else getD kvs j
  | [], _ => by
    by_cases e : k = j
    · rw [List.nil_append, getD_pos (p := (k, y)) e, if_pos e.symm]
    · rw [List.nil_append, getD_neg (p := (k, y)) e, if_neg (Ne.symm e)]
  | p :: r, h => by
    have hk : ¬ p.1 = k := fun e => by rw [getD_pos e] at h; cases h
    rw [getD_neg hk] at h
    have ih := getD_snoc k j y r h
    rw [List.cons_append]
    by_cases e : p.1 = j
    · rw [getD_pos e, getD_pos e, if_neg (fun z => hk (e.trans z))]
    · rw [getD_neg e, getD_neg e, ih]
theorem getD_put (kvs : List (κ × β)) (k j : κ) (y : β) : getD (putD kvs k y) j = if j = k then some y else getD kvs j := by
  unfold putD
  by_cases a : (getD kvs k).isSome = true
  · rw [if_pos a, getD_map]
    by_cases e : j = k
    · obtain ⟨x, hx⟩ := Option.isSome_iff_exists.mp a
      rw [if_pos e, e, hx, Option.map_some, if_pos rfl]
    · rw [if_neg e]
      cases getD kvs j with
      | none => rfl
      | some x => rw [Option.map_some, if_neg e]
  · rw [if_neg a]
    refine getD_snoc k j y kvs ?_
    cases q : getD kvs k with
    | none => rfl
    | some x => rw [q] at a; exact (a rfl).elim
theorem len_put (kvs : List (κ × β)) (k : κ) (y : β) : (putD kvs k y).length ≤ kvs.length + 1 := by
  unfold putD
  split
  · rw [List.length_map]; omega
  · rw [List.length_append, List.length_cons, List.length_nil]; omega
theorem putO_ok {d : Dc κ β} {k : κ} {y : β} (h : d.l.length < 1000000) : putO d k y = some ⟨putD d.l k y⟩ := if_pos h
end
theorem forC_any {β R : Type} {f : β → Unit → Option (Ctl Unit R)} {r : R} (p : β → Bool) : ∀ {xs : List β}, (∀ x ∈ xs, f x () = some (if p x = true then .rt r else .nx ())) → forC f xs () = some (if xs.any p = true then .rt r else .nx ())
  | [], _ => rfl
  | x :: xs, h => by
    have hx := h x List.mem_cons_self
    cases e : p x with
    | true =>
      rw [e] at hx
      show ((f x ()).bind _) = _
      rw [hx, List.any_cons, e]
      rfl
    | false =>
      rw [e] at hx
      rw [forC_cons (s' := ()) hx, forC_any p fun y hy => h y (List.mem_cons_of_mem _ hy), List.any_cons, e]
      rfl
end Wk
set_option synthInstance.maxHeartbeats 400000
set_option synthInstance.maxSize 2000
namespace Wk89
open PySem L2 Wk
/-! a floor's rows -/
abbrev Cl := Int × Int × Unit
abbrev P4 := Int × Int × Int × Int × Unit
def gridOf (W H : Int) (G : Cl → Str) : List (List Str) := (irange 0 H).map fun r => (irange 0 W).map fun c => G (c, r, ())
theorem ir_at {lo hi : Int} {i : Nat} (h : i < (hi - lo).toNat) : (irange lo hi)[i]? = some (lo + (i : Int)) := by
  unfold irange
  rw [List.getElem?_map, List.getElem?_range h]
  rfl
theorem atI_map {α : Type} {n : Int} {f : Int → α} {k : Int} (h0 : 0 ≤ k) (h1 : k < n) : atI ((irange 0 n).map f) k = some (f k) := by
  rw [atI_ok h0 (by rw [List.length_map, irange_len]; omega), List.getElem?_map, ir_at (by omega)]
  show some (f (0 + (k.toNat : Int))) = _
  rw [show (0 : Int) + (k.toNat : Int) = k by omega]
theorem grid_row {W H : Int} {G : Cl → Str} {r : Int} (h0 : 0 ≤ r) (h1 : r < H) : atI (gridOf W H G) r = some ((irange 0 W).map fun c => G (c, r, ())) := atI_map h0 h1
theorem row_at {W : Int} {G : Cl → Str} {c r : Int} (h0 : 0 ≤ c) (h1 : c < W) : atI ((irange 0 W).map fun c => G (c, r, ())) c = some (G (c, r, ())) := atI_map h0 h1
theorem set_map {α : Type} {n : Int} {f : Int → α} {k : Nat} {x : α} : ((irange 0 n).map f).set k x = (irange 0 n).map fun j => if j = (k : Int) then x else f j := by
  refine List.ext_getElem? fun i => ?_
  rw [List.getElem?_set, List.getElem?_map, List.getElem?_map, List.length_map, irange_len]
  by_cases hi : i < (n - 0).toNat
  · rw [ir_at hi]
    by_cases e : k = i
    · subst e
      rw [if_pos rfl, if_pos hi]
      show some x = some (if (0 : Int) + (k : Int) = (k : Int) then x else _)
      rw [if_pos (by omega)]
    · rw [if_neg e]
      show some (f _) = some (if (0 : Int) + (i : Int) = (k : Int) then x else _)
      rw [if_neg (by omega)]
  · have e0 : (irange 0 n)[i]? = none := List.getElem?_eq_none (by rw [irange_len]; omega)
    rw [e0]
    by_cases e : k = i
    · subst e
      rw [if_pos rfl, if_neg hi]
      rfl
    · rw [if_neg e]
      rfl
theorem ixN_is {n : Nat} {i : Int} (h0 : 0 ≤ i) (h1 : i < (n : Int)) : ixN n i = some i.toNat := by
  unfold ixN
  simp only [h0, h1, and_self, if_true]
theorem grid_set {W H : Int} {G : Cl → Str} {c r : Int} {v : Str} (h0 : 0 ≤ r) (h1 : r < H) (h2 : 0 ≤ c) (h3 : c < W) : setG (gridOf W H G) r c v = some (gridOf W H fun d => if d = (c, r, ()) then v else G d) := by
  unfold setG
  rw [ixN_is h0 (by unfold gridOf; rw [List.length_map, irange_len]; omega)]
  simp only [bs]
  have e1 : (gridOf W H G)[r.toNat]? = some ((irange 0 W).map fun c => G (c, r, ())) := by
    rw [← atI_ok h0 (by unfold gridOf; rw [List.length_map, irange_len]; omega)]
    exact grid_row h0 h1
  rw [e1, bs]
  unfold setI
  rw [ixN_is h2 (by rw [List.length_map, irange_len]; omega)]
  show some ((gridOf W H G).set r.toNat (((irange 0 W).map fun c => G (c, r, ())).set c.toNat v)) = _
  congr 1
  unfold gridOf
  rw [set_map, set_map]
  refine List.map_congr_left fun j hj => ?_
  rw [mem_irange] at hj
  by_cases e : j = (r.toNat : Int)
  · rw [if_pos e]
    refine List.map_congr_left fun i hi => ?_
    rw [mem_irange] at hi
    have ej : j = r := by omega
    subst ej
    by_cases e2 : i = (c.toNat : Int)
    · have ei : i = c := by omega
      subst ei
      rw [if_pos e2]
      exact (if_pos rfl).symm
    · rw [if_neg e2]
      refine (if_neg ?_).symm
      intro z
      have z : i = c := congrArg (fun d : Cl => d.1) z
      omega
  · rw [if_neg e]
    refine List.map_congr_left fun i hi => ?_
    refine (if_neg ?_).symm
    intro z
    have z : j = r := congrArg (fun d : Cl => d.2.1) z
    omega
/-! loops within loops, as one -/
theorem forC_nobk {β Sx R : Type} {g : β → Sx → Option (Ctl Sx R)} : ∀ (a : List β) (s : Sx) (s' : Sx), forC g a s ≠ some (.bk s')
  | [], s, s' => by
    intro h
    cases h
  | x :: xs, s, s' => by
    unfold forC
    intro h
    cases e : g x s with
    | none =>
      rw [e] at h
      cases h
    | some t =>
      rw [e] at h
      cases t with
      | nx s2 => exact forC_nobk xs s2 s' h
      | bk s2 => cases h
      | rt r => cases h
theorem forC_id {β Sx R : Type} {g : β → Sx → Option (Ctl Sx R)} {a : List β} {s : Sx} {q : Ctl Sx R → Option (Ctl Sx R)} (h1 : ∀ s, q (.nx s) = some (.nx s)) (h2 : ∀ r, q (.rt r) = some (.rt r)) : (forC g a s).bind q = forC g a s := by
  cases e : forC g a s with
  | none => rfl
  | some t =>
    cases t with
    | nx s2 => exact h1 s2
    | bk s2 => exact absurd e (forC_nobk a s s2)
    | rt r => exact h2 r
theorem forC_append {β Sx R : Type} {g : β → Sx → Option (Ctl Sx R)} (hb : ∀ c s s', g c s ≠ some (.bk s')) {b : List β} : ∀ (a : List β) (s : Sx), forC g (a ++ b) s = ((forC g a s).bind fun t => (match t with
  | .nx s' => forC g b s'
  | .bk _ => none
  | .rt r => some (Ctl.rt r)))
  | [], s => rfl
  | x :: xs, s => by
    rw [List.cons_append]
    cases e : g x s with
    | none =>
      show ((g x s).bind _) = (((g x s).bind _).bind _)
      rw [e]
      rfl
    | some t =>
      show ((g x s).bind _) = (((g x s).bind _).bind _)
      rw [e, bs, bs]
      cases t with
      | nx s2 => exact forC_append hb (b := b) xs s2
      | bk s2 => exact absurd e (hb x s s2)
      | rt r => rfl
theorem forC_flat {β γ Sx R : Type} {f : β → Sx → Option (Ctl Sx R)} {g : γ → Sx → Option (Ctl Sx R)} (hb : ∀ c s s', g c s ≠ some (.bk s')) {xs : β → List γ} : ∀ (ys : List β), (∀ b ∈ ys, ∀ s, f b s = forC g (xs b) s) → ∀ s, forC f ys s = forC g (ys.flatMap xs) s
  | [], _, s => rfl
  | y :: ys, h, s => by
    rw [List.flatMap_cons, forC_append hb]
    show ((f y s).bind _) = _
    rw [h y List.mem_cons_self]
    cases e : forC g (xs y) s with
    | none => rfl
    | some t =>
      cases t with
      | nx s2 => exact forC_flat hb ys (fun b hb' => h b (List.mem_cons_of_mem _ hb')) s2
      | bk s2 => exact absurd e (forC_nobk _ _ _)
      | rt r => rfl
theorem forC_map {β γ Sx R : Type} {g : γ → Sx → Option (Ctl Sx R)} {q : β → γ} : ∀ (ys : List β) (s : Sx), forC g (ys.map q) s = forC (fun b => g (q b)) ys s
  | [], s => rfl
  | y :: ys, s => by
    rw [List.map_cons]
    unfold forC
    congr 1
    funext t
    cases t with
    | nx s2 => exact forC_map ys s2
    | bk s2 => rfl
    | rt r => rfl
theorem forS_cat {β γ : Type} {f : β → List γ → Option (List γ)} (g : β → List γ) (B : Nat) : ∀ (xs : List β) (s : List γ), (∀ x ∈ xs, ∀ s : List γ, s.length + B ≤ 1000000 → f x s = some (s ++ g x)) → (∀ x ∈ xs, (g x).length ≤ B) → s.length + xs.length * B ≤ 1000000 → forS f xs s = some (s ++ xs.flatMap g)
  | [], s, _, _, _ => by
    rw [List.flatMap_nil, List.append_nil]
    rfl
  | x :: xs, s, h, hg, hl => by
    rw [List.length_cons, Nat.succ_mul] at hl
    have h2 := hg x List.mem_cons_self
    rw [forS_cons (h x List.mem_cons_self s (by omega)), forS_cat g B xs (s ++ g x) (fun y hy => h y (List.mem_cons_of_mem _ hy)) (fun y hy => hg y (List.mem_cons_of_mem _ hy)) (by rw [List.length_append]; omega)]
    rw [List.flatMap_cons, List.append_assoc]
/-! the cells of a place -/
def cellsR (p : P4) : List Cl := (irange p.2.1 (p.2.1 + p.2.2.2.1)).flatMap fun r => (irange p.1 (p.1 + p.2.2.1)).map fun c => (c, r, ())
def inR (p : P4) (c : Cl) : Prop := (p.1 ≤ c.1 ∧ c.1 < p.1 + p.2.2.1) ∧ p.2.1 ≤ c.2.1 ∧ c.2.1 < p.2.1 + p.2.2.2.1
instance (p : P4) (c : Cl) : Decidable (inR p c) := by unfold inR; infer_instance
theorem mem_cells {p : P4} {c : Cl} : c ∈ cellsR p ↔ inR p c := by
  unfold cellsR inR
  rw [List.mem_flatMap]
  constructor
  · rintro ⟨r, hr, h⟩
    obtain ⟨x, hx, rfl⟩ := List.mem_map.mp h
    exact ⟨mem_irange.mp hx, mem_irange.mp hr⟩
  · rintro ⟨h1, h2⟩
    exact ⟨c.2.1, mem_irange.mpr h2, List.mem_map.mpr ⟨c.1, mem_irange.mpr h1, rfl⟩⟩
theorem irange_nodup (a b : Int) : (irange a b).Nodup := by
  refine List.pairwise_iff_getElem.mpr fun i j hi hj hij e => ?_
  have ei : ∀ (k : Nat) (hk : k < (irange a b).length), (irange a b)[k] = a + (k : Int) := fun k hk => by simp [irange]
  rw [ei, ei] at e
  omega
theorem cells_nodup (p : P4) : (cellsR p).Nodup := by
  unfold cellsR
  refine List.pairwise_flatMap.mpr ⟨fun r hr => ?_, ?_⟩
  · refine List.Pairwise.map _ (R := fun a b => a ≠ b) ?_ (irange_nodup _ _)
    intro a b hab e
    exact hab (congrArg (fun d : Cl => d.1) e)
  · refine List.Pairwise.imp ?_ (irange_nodup _ _)
    intro a b hab d h1 d2 h2 e
    obtain ⟨x, _, rfl⟩ := List.mem_map.mp h1
    obtain ⟨y, _, rfl⟩ := List.mem_map.mp h2
    exact hab (congrArg (fun d : Cl => d.2.1) e)
structure Pk (p : P4) : Prop where
  x0 : 0 ≤ p.1
  x1 : p.1 ≤ 1000
  y0 : 0 ≤ p.2.1
  y1 : p.2.1 ≤ 1000
  w0 : 0 ≤ p.2.2.1
  w1 : p.2.2.1 ≤ 1000
  h0 : 0 ≤ p.2.2.2.1
  h1 : p.2.2.2.1 ≤ 1000
/-! a place is drawn -/
def nof (name : Str) : Xc := ⟨"NoFloor", ((["name"] : List Str).zip (Us.toDs (name, ()))).reverse⟩
def InF (W H : Int) (c : Cl) : Prop := (0 ≤ c.1 ∧ c.1 < W) ∧ 0 ≤ c.2.1 ∧ c.2.1 < H
def SIGNS : Str := "abcdefghijklmnopqrstuvwxyzABCDEFGHIJKLMNOPQRSTUVWXYZ01234567"
def sgK (k : Nat) : Str := ⟨#[SIGNS.cps.getD k 0]⟩
theorem signs_ok : ∀ k : Fin 60, ixS SIGNS (k.val : Int) = some (sgK k.val) ∧ decide (sgK k.val = (".": Str)) = false ∧ Txt.find SIGNS (sgK k.val) = (k.val : Int) := by decide +kernel
theorem sg_ix {k : Nat} (h : k < 60) : ixS SIGNS (k : Int) = some (sgK k) := (signs_ok ⟨k, h⟩).1
theorem sg_ne {k : Nat} (h : k < 60) : sgK k ≠ "." := of_decide_eq_false (signs_ok ⟨k, h⟩).2.1
theorem sg_find {k : Nat} (h : k < 60) : Txt.find SIGNS (sgK k) = (k : Int) := (signs_ok ⟨k, h⟩).2.2
theorem L3_is {W H : Int} {G : Cl → Str} {k : Nat} {name : Str} {c : Cl} (hk : k < 60) (hc : InF W H c) :
    m_draw_L3 c.2.1 (k : Int) name c.1 (gridOf W H G) = some (if G c = "." then .nx (gridOf W H fun d => if d = c then sgK k else G d) else .rt (Er.ex (nof name))) := by
  obtain ⟨x, y, u⟩ := c
  obtain ⟨⟨x0, x1⟩, y0, y1⟩ := hc
  unfold m_draw_L3
  rw [grid_row y0 y1, bs, row_at x0 x1, bs]
  by_cases e : G (x, y, ()) = "."
  · rw [if_pos e, decide_eq_true e]
    have e2 : ixS "abcdefghijklmnopqrstuvwxyzABCDEFGHIJKLMNOPQRSTUVWXYZ01234567" (k : Int) = some (sgK k) := sg_ix hk
    show ((ixS _ _).bind _) = _
    rw [e2, bs]
    have e3 := grid_set (G := G) (v := sgK k) y0 y1 x0 x1
    exact (bind_ok e3)
  · rw [if_neg e, decide_eq_false e]
    rfl
theorem L3_nobk (k : Int) (name : Str) (c : Cl) (s s' : List (List Str)) : m_draw_L3 c.2.1 k name c.1 s ≠ some (.bk s') := by
  unfold m_draw_L3
  intro h
  cases e1 : atI s c.2.1 with
  | none => rw [e1] at h; cases h
  | some r =>
    rw [e1, bs] at h
    cases e2 : atI r c.1 with
    | none => rw [e2] at h; cases h
    | some v =>
      rw [e2, bs] at h
      by_cases e : v = "."
      · rw [decide_eq_true e] at h
        have h : (ixS _ _).bind _ = _ := h
        cases e3 : ixS ("abcdefghijklmnopqrstuvwxyzABCDEFGHIJKLMNOPQRSTUVWXYZ01234567" : Str) k with
        | none => rw [e3] at h; cases h
        | some w =>
          rw [e3, bs] at h
          cases e4 : setG s c.2.1 c.1 w with
          | none => rw [e4] at h; cases h
          | some q => rw [e4, bs] at h; cases h
      · rw [decide_eq_false e] at h
        cases h
theorem draw_cells {W H : Int} {k : Nat} {name : Str} (hk : k < 60) : ∀ (cs : List Cl) (G : Cl → Str), cs.Nodup → (∀ c ∈ cs, InF W H c) →
    forC (fun (c : Cl) rows => m_draw_L3 c.2.1 (k : Int) name c.1 rows) cs (gridOf W H G) = some (if cs.all (fun c => decide (G c = ".")) = true then .nx (gridOf W H fun d => if d ∈ cs then sgK k else G d) else .rt (Er.ex (nof name)))
  | [], G, _, _ => by
    have e : (fun d => if d ∈ ([] : List Cl) then sgK k else G d) = G := by
      funext d
      exact if_neg List.not_mem_nil
    rw [e]
    rfl
  | c :: cs, G, nd, h => by
    rw [List.nodup_cons] at nd
    show ((m_draw_L3 _ _ _ _ _).bind _) = _
    rw [L3_is hk (h c List.mem_cons_self), bs, List.all_cons]
    by_cases e : G c = "."
    · rw [if_pos e, decide_eq_true e, Bool.true_and]
      refine Eq.trans (draw_cells hk cs _ nd.2 fun d hd => h d (List.mem_cons_of_mem _ hd)) ?_
      have e1 : (cs.all fun d => decide ((if d = c then sgK k else G d) = ".")) = cs.all fun d => decide (G d = ".") := by
        refine Bool.eq_iff_iff.mpr ?_
        rw [List.all_eq_true, List.all_eq_true]
        refine forall_congr' fun d => forall_congr' fun hd => ?_
        rw [if_neg (show ¬ d = c from fun z => nd.1 (z ▸ hd))]
      have e2 : (fun d => if d ∈ cs then sgK k else if d = c then sgK k else G d) = fun d => if d ∈ c :: cs then sgK k else G d := by
        funext d
        by_cases e3 : d = c
        · rw [if_pos (show d ∈ c :: cs by rw [e3]; exact List.mem_cons_self), if_pos e3]
          by_cases e4 : d ∈ cs
          · rw [if_pos e4]
          · rw [if_neg e4]
        · rw [if_neg e3]
          by_cases e4 : d ∈ cs
          · rw [if_pos e4, if_pos (List.mem_cons_of_mem _ e4)]
          · rw [if_neg e4, if_neg (fun z => (List.mem_cons.mp z).elim e3 e4)]
      rw [e1, e2]
    · rw [if_neg e, decide_eq_false e]
      rfl
def InFl (W H : Int) (p : P4) : Prop := p.1 + p.2.2.1 ≤ W ∧ p.2.1 + p.2.2.2.1 ≤ H
theorem draw_place {W H : Int} {k : Nat} {name : Str} {p : P4} {places : Dc Str P4} (hk : k < 60) (hp : getD places.l name = some p) (h : Pk p) (hf : InFl W H p) (G : Cl → Str) :
    m_draw_L1 places ((k : Int), name, ()) (gridOf W H G) = some (if (cellsR p).all (fun c => decide (G c = ".")) = true then .nx (gridOf W H fun d => if d ∈ cellsR p then sgK k else G d) else .rt (Er.ex (nof name))) := by
  obtain ⟨x, y, w, q, u⟩ := p
  have x0 : 0 ≤ x := h.x0
  have x1 : x ≤ 1000 := h.x1
  have y0 : 0 ≤ y := h.y0
  have y1 : y ≤ 1000 := h.y1
  have w0 : 0 ≤ w := h.w0
  have w1 : w ≤ 1000 := h.w1
  have h0 : 0 ≤ q := h.h0
  have h1 : q ≤ 1000 := h.h1
  unfold m_draw_L1
  show ((getD places.l name).bind _) = _
  rw [hp, bs, bs]
  show ((rngO _ _).bind _) = _
  rw [rngO_ok (by omega) (by omega) (by omega) (by omega), bs]
  have e : forC (m_draw_L2 (k : Int) name x w) (irange y (y + q)) (gridOf W H G) = forC (fun (c : Cl) rows => m_draw_L3 c.2.1 (k : Int) name c.1 rows) (cellsR (x, y, w, q, u)) (gridOf W H G) := by
    refine forC_flat (g := fun (c : Cl) rows => m_draw_L3 c.2.1 (k : Int) name c.1 rows) (xs := fun r => (irange x (x + w)).map fun c => ((c, r, ()) : Cl)) (fun c s s' => L3_nobk _ _ c s s') _ (fun r hr s => ?_) _
    unfold m_draw_L2
    rw [rngO_ok (by omega) (by omega) (by omega) (by omega), bs, forC_map]
    exact forC_id (fun _ => rfl) (fun _ => rfl)
  rw [e]
  refine Eq.trans (forC_id (fun _ => rfl) (fun _ => rfl)) ?_
  refine draw_cells hk _ G (cells_nodup _) fun c hc => ?_
  obtain ⟨⟨a1, a2⟩, a3, a4⟩ := mem_cells.mp hc
  have a1 : x ≤ c.1 := a1
  have a2 : c.1 < x + w := a2
  have a3 : y ≤ c.2.1 := a3
  have a4 : c.2.1 < y + q := a4
  obtain ⟨f1, f2⟩ := hf
  have f1 : x + w ≤ W := f1
  have f2 : y + q ≤ H := f2
  exact ⟨⟨by omega, by omega⟩, by omega, by omega⟩
/-! parts joined by a sign come back by split -/
theorem app_cut {c : Nat} : ∀ {a b x y : List Nat}, c ∉ a → c ∉ b → a ++ c :: x = b ++ c :: y → a = b ∧ x = y
  | [], [], x, y, _, _, h => by
    have := List.cons.inj h
    exact ⟨rfl, this.2⟩
  | [], b :: bs, x, y, _, hb, h => by
    have := List.cons.inj h
    exact absurd (by rw [this.1]; exact List.mem_cons_self) hb
  | a :: as, [], x, y, ha, _, h => by
    have := List.cons.inj h
    exact absurd (by rw [← this.1]; exact List.mem_cons_self) ha
  | a :: as, b :: bs, x, y, ha, hb, h => by
    have h := List.cons.inj h
    obtain ⟨e1, e2⟩ := app_cut (fun z => ha (List.mem_cons_of_mem _ z)) (fun z => hb (List.mem_cons_of_mem _ z)) h.2
    exact ⟨by rw [h.1, e1], e2⟩
theorem join_two {c : Nat} (x y : Str) (r : List Str) : (Str.join ⟨#[c]⟩ (x :: y :: r)).cps.toList = x.cps.toList ++ c :: (Str.join ⟨#[c]⟩ (y :: r)).cps.toList := by
  show (x.cps ++ #[c] ++ (Str.join ⟨#[c]⟩ (y :: r)).cps).toList = _
  simp
theorem join_inj {c : Nat} : ∀ {xs ys : List Str}, xs ≠ [] → ys ≠ [] → (∀ p ∈ xs, c ∉ p.cps.toList) → (∀ p ∈ ys, c ∉ p.cps.toList) → Str.join ⟨#[c]⟩ xs = Str.join ⟨#[c]⟩ ys → xs = ys
  | [], _, h, _, _, _, _ => absurd rfl h
  | _ :: _, [], _, h, _, _, _ => absurd rfl h
  | [a], [b], _, _, _, _, h => by
    have h : a = b := h
    rw [h]
  | [a], b :: b2 :: r, _, _, ha, _, h => by
    have h := congrArg (fun s : Str => s.cps.toList) h
    have h : a.cps.toList = _ := h
    rw [join_two] at h
    exact absurd (by rw [h]; simp) (ha a List.mem_cons_self)
  | a :: a2 :: r, [b], _, _, _, hb, h => by
    have h := congrArg (fun s : Str => s.cps.toList) h
    have h : _ = b.cps.toList := h
    rw [join_two] at h
    exact absurd (by rw [← h]; simp) (hb b List.mem_cons_self)
  | a :: a2 :: r, b :: b2 :: r2, _, _, ha, hb, h => by
    have h := congrArg (fun s : Str => s.cps.toList) h
    simp only [join_two] at h
    obtain ⟨e1, e2⟩ := app_cut (ha a List.mem_cons_self) (hb b List.mem_cons_self) h
    have e3 := join_inj (xs := a2 :: r) (ys := b2 :: r2) (by simp) (by simp) (fun p hp => ha p (List.mem_cons_of_mem _ hp)) (fun p hp => hb p (List.mem_cons_of_mem _ hp)) (by
      have : ∀ s t : Str, s.cps.toList = t.cps.toList → s = t := fun s t e => by
        cases s; cases t; simp only at e; congr 1; exact Array.toList_inj.mp e
      exact this _ _ e2)
    have e4 : a = b := by
      cases a; cases b; congr 1; exact Array.toList_inj.mp e1
    rw [e3, e4]
theorem split_join {c : Nat} {xs : List Str} (h : xs ≠ []) (hx : ∀ p ∈ xs, c ∉ p.cps.toList) : Txt.split (Str.join ⟨#[c]⟩ xs) ⟨#[c]⟩ = xs :=
  join_inj (by intro z; have := PyProof.Rows.split_pos (Str.join ⟨#[c]⟩ xs) ⟨#[c]⟩; rw [z] at this; cases this) h (PySem.StrLaws.split_free _ _) hx (PySem.StrLaws.join_split _ _)
/-! a floor is read -/
theorem sd_ix {β : Type} : ∀ (l : List (Str × β)) (k : Str), (sdIx l k = none → getD l k = none) ∧ ∀ j, sdIx l k = some j → ∃ v, l[j]? = some (k, v) ∧ getD l k = some v ∧ ∀ y i, getD (l.set j (k, y)) i = if i = k then some y else getD l i
  | [], k => ⟨fun _ => rfl, fun j h => by cases h⟩
  | kv :: r, k => by
    obtain ⟨h1, h2⟩ := sd_ix r k
    unfold sdIx
    by_cases e : kv.1 = k
    · rw [if_pos e]
      refine ⟨(fun h => by cases h), fun j h => ?_⟩
      cases h
      refine ⟨kv.2, by rw [← e]; rfl, getD_pos e, fun y i => ?_⟩
      show getD ((k, y) :: r) i = _
      by_cases e2 : i = k
      · rw [if_pos e2, getD_pos e2.symm]
      · rw [if_neg e2, getD_neg (p := (k, y)) (fun z => e2 z.symm), getD_neg (p := kv) (fun z => e2 (z.symm.trans e))]
    · rw [if_neg e]
      constructor
      · intro h
        rw [getD_neg e]
        cases e2 : sdIx r k with
        | none => exact h1 e2
        | some j => rw [e2] at h; cases h
      · intro j h
        cases e2 : sdIx r k with
        | none => rw [e2] at h; cases h
        | some i =>
          rw [e2] at h
          cases h
          obtain ⟨v, a1, a2, a3⟩ := h2 i e2
          refine ⟨v, a1, (getD_neg e).trans a2, fun y m => ?_⟩
          show getD (kv :: r.set i (k, y)) m = _
          by_cases e3 : kv.1 = m
          · rw [getD_pos e3, getD_pos e3, if_neg (fun z => e (e3.trans z))]
          · rw [getD_neg e3, getD_neg e3, a3]
theorem sd_ok {d : Dc Str (List Cl)} {k : Str} {x : Cl} (hl : d.l.length < 1000000) (hv : ∀ v, getD d.l k = some v → v.length < 1000000) :
    ∃ d', sdO d k x = some d' ∧ (∀ j, getD d'.l j = if j = k then some ((getD d.l k).getD [] ++ [x]) else getD d.l j) ∧ d'.l.length ≤ d.l.length + 1 := by
  obtain ⟨h1, h2⟩ := sd_ix d.l k
  unfold sdO
  rw [if_pos hl]
  cases e : sdIx d.l k with
  | none =>
    refine ⟨_, rfl, fun j => ?_, ?_⟩
    · show getD (d.l ++ [(k, [x])]) j = _
      rw [getD_snoc k j [x] d.l (h1 e), h1 e]
      rfl
    · show (d.l ++ [(k, [x])]).length ≤ _
      rw [List.length_append]
      exact Nat.le_refl _
  | some j =>
    obtain ⟨v, a1, a2, a3⟩ := h2 j e
    refine ⟨⟨d.l.set j (k, v ++ [x])⟩, ?_, fun i => ?_, ?_⟩
    · show ((d.l[j]?).bind _) = _
      rw [a1, bs, appO_ok (hv v a2)]
      rfl
    · show getD (d.l.set j (k, v ++ [x])) i = _
      rw [a3, a2]
      rfl
    · show (d.l.set j _).length ≤ _
      rw [List.length_set]
      exact Nat.le_succ _
theorem sg_inj {i j : Nat} (hi : i < 60) (hj : j < 60) (h : sgK i = sgK j) : i = j := by
  have := (sg_find hi).symm.trans ((congrArg (Txt.find SIGNS) h).trans (sg_find hj))
  omega
/-- whose a cell is -/
def Own (sk : List Str) (pl : Str → P4) (G : Cl → Str) (c : Cl) : Prop := (∀ j n, sk[j]? = some n → inR (pl n) c → G c = sgK j) ∧ ((∀ n ∈ sk, ¬ inR (pl n) c) → G c = ".")
def fil (pl : Str → P4) (n : Str) (cs : List Cl) : List Cl := cs.filter fun c => decide (inR (pl n) c)
def Red (sk : List Str) (pl : Str → P4) (pre : List Cl) (d : Dc Str (List Cl)) : Prop := (∀ n ∈ sk, getD d.l n = if fil pl n pre = [] then none else some (fil pl n pre)) ∧ d.l.length ≤ pre.length
theorem fil_snoc (pl : Str → P4) (n : Str) (cs : List Cl) (c : Cl) : fil pl n (cs ++ [c]) = if inR (pl n) c then fil pl n cs ++ [c] else fil pl n cs := by
  unfold fil
  rw [List.filter_append]
  by_cases e : inR (pl n) c
  · rw [if_pos e, List.filter_cons_of_pos (by exact decide_eq_true e)]
    rfl
  · rw [if_neg e, List.filter_cons_of_neg (by rw [decide_eq_false e]; exact Bool.false_ne_true)]
    show _ ++ [] = _
    rw [List.append_nil]
theorem read_one {sk : List Str} {pl : Str → P4} {G : Cl → Str} {c : Cl} {pre : List Cl} {d : Dc Str (List Cl)} (hs : sk.length ≤ 60) (ho : Own sk pl G c) (hd : Red sk pl pre d) (hp : pre.length < 900000) :
    ∃ d', m_read_floor_L2 (Fz.mk sk) c.2.1 (c.1, G c, ()) d = some (.nx d') ∧ Red sk pl (pre ++ [c]) d' := by
  unfold m_read_floor_L2
  obtain ⟨o1, o2⟩ := ho
  obtain ⟨d1, d2⟩ := hd
  by_cases h : ∃ n ∈ sk, inR (pl n) c
  · obtain ⟨n, hn, hi⟩ := h
    obtain ⟨j, hj⟩ := List.getElem?_of_mem hn
    have hjl : j < sk.length := (List.getElem?_eq_some_iff.mp hj).1
    have eg := o1 j n hj hi
    have hfl : (fil pl n pre).length ≤ pre.length := List.length_filter_le _ _
    obtain ⟨d', e1, e2, e3⟩ := sd_ok (d := d) (k := n) (x := c) (by omega) (fun v hv => by
      rw [d1 n hn] at hv
      by_cases z : fil pl n pre = []
      · rw [if_pos z] at hv; cases hv
      · rw [if_neg z] at hv
        cases hv
        omega)
    refine ⟨d', ?_, fun m hm => ?_, ?_⟩
    · rw [eg]
      show (if (!decide (sgK j = ".")) = true then _ else _) = _
      rw [decide_eq_false (sg_ne (show j < 60 by omega)), if_pos (show (!false) = true from rfl)]
      have ef : Txt.find "abcdefghijklmnopqrstuvwxyzABCDEFGHIJKLMNOPQRSTUVWXYZ01234567" (sgK j) = (j : Int) := sg_find (by omega)
      show ((some (Txt.find _ _)).bind _) = _
      rw [ef, bs]
      have e4 : ((decide ((0 : Int) ≤ (j : Int))) && (decide ((j : Int) < ((Fz.mk sk).l.length : Int)))) = true := by
        rw [Bool.and_eq_true]
        exact ⟨decide_eq_true (by omega), decide_eq_true (by show (j : Int) < (sk.length : Int); omega)⟩
      rw [e4]
      show ((atI sk (j : Int)).bind _) = _
      rw [atI_nat hj, bs]
      exact bind_ok e1
    · rw [e2 m, fil_snoc]
      by_cases em : m = n
      · subst em
        rw [if_pos rfl, if_pos hi, if_neg (by simp), d1 m hm]
        by_cases z : fil pl m pre = []
        · rw [if_pos z, z]; rfl
        · rw [if_neg z]; rfl
      · have hni : ¬ inR (pl m) c := fun z => by
          obtain ⟨i, hi2⟩ := List.getElem?_of_mem hm
          have hil : i < sk.length := (List.getElem?_eq_some_iff.mp hi2).1
          have e5 := sg_inj (by omega) (by omega) ((o1 i m hi2 z).symm.trans eg)
          subst e5
          rw [hj] at hi2
          cases hi2
          exact em rfl
        rw [if_neg em, if_neg hni, d1 m hm]
    · rw [List.length_append]
      show d'.l.length ≤ pre.length + 1
      omega
  · have hno : ∀ n ∈ sk, ¬ inR (pl n) c := fun n hn z => h ⟨n, hn, z⟩
    refine ⟨d, ?_, fun m hm => ?_, ?_⟩
    · rw [o2 hno]
      rfl
    · rw [fil_snoc, if_neg (hno m hm), d1 m hm]
    · rw [List.length_append]
      exact Nat.le_trans d2 (Nat.le_add_right _ _)
theorem read_all {sk : List Str} {pl : Str → P4} {G : Cl → Str} (hs : sk.length ≤ 60) : ∀ (cs pre : List Cl) (d : Dc Str (List Cl)), (∀ c ∈ cs, Own sk pl G c) → Red sk pl pre d → pre.length + cs.length < 900000 →
    ∃ d', forC (fun (c : Cl) d => m_read_floor_L2 (Fz.mk sk) c.2.1 (c.1, G c, ()) d) cs d = some (.nx d') ∧ Red sk pl (pre ++ cs) d'
  | [], pre, d, _, h, _ => ⟨d, rfl, by rw [List.append_nil]; exact h⟩
  | c :: cs, pre, d, ho, h, hl => by
    rw [List.length_cons] at hl
    obtain ⟨d1, e1, h1⟩ := read_one hs (ho c List.mem_cons_self) h (by omega)
    obtain ⟨d2, e2, h2⟩ := read_all hs cs (pre ++ [c]) d1 (fun b hb => ho b (List.mem_cons_of_mem _ hb)) h1 (by rw [List.length_append, List.length_singleton]; omega)
    refine ⟨d2, ?_, ?_⟩
    · exact Eq.trans (forC_cons (s' := d1) e1) e2
    · rw [List.append_assoc] at h2
      exact h2
/-! places looked at alone -/
theorem forC_find {β R : Type} {f : β → Unit → Option (Ctl Unit R)} (p : β → Bool) (r : β → R) : ∀ {xs : List β}, (∀ x ∈ xs, f x () = some (if p x = true then .rt (r x) else .nx ())) →
    (∃ x ∈ xs, xs.find? p = some x ∧ forC f xs () = some (.rt (r x))) ∨ ((∀ x ∈ xs, p x = false) ∧ xs.find? p = none ∧ forC f xs () = some (.nx ()))
  | [], _ => .inr ⟨(fun x hx => absurd hx List.not_mem_nil), rfl, rfl⟩
  | x :: xs, h => by
    have hx := h x List.mem_cons_self
    cases e : p x with
    | true =>
      rw [e, if_pos rfl] at hx
      refine .inl ⟨x, List.mem_cons_self, List.find?_cons_of_pos e, ?_⟩
      show ((f x ()).bind _) = _
      rw [hx]
      rfl
    | false =>
      rw [e, if_neg Bool.false_ne_true] at hx
      rw [List.find?_cons_of_neg (by rw [e]; exact Bool.false_ne_true), forC_cons hx]
      rcases forC_find p r (xs := xs) (fun y hy => h y (List.mem_cons_of_mem _ hy)) with ⟨y, hy, a, b⟩ | ⟨a, b, c⟩
      · exact .inl ⟨y, List.mem_cons_of_mem _ hy, a, b⟩
      · refine .inr ⟨fun y hy => ?_, b, c⟩
        rcases List.mem_cons.mp hy with rfl | hy
        · exact e
        · exact a y hy
def badP (W H : Int) (p : P4) : Bool := decide (p.2.2.1 = 0) || (decide (p.2.2.2.1 = 0) || (decide (W < p.1 + p.2.2.1) || decide (H < p.2.1 + p.2.2.2.1)))
theorem bad_own {W H : Int} {places : Dc Str P4} {n : Str} {p : P4} (h : getD places.l n = some p) (hp : Pk p) : m_look_alone_L2 W H places n () = some (if badP W H p = true then .rt (Er.ex (nof n)) else .nx ()) := by
  obtain ⟨x, y, w, q, u⟩ := p
  have x0 : 0 ≤ x := hp.x0
  have y0 : 0 ≤ y := hp.y0
  have w0 : 0 ≤ w := hp.w0
  have h0 : 0 ≤ q := hp.h0
  unfold m_look_alone_L2
  rw [h, bs, bs]
  show (if (decide (x < 0) || (decide (y < 0) || (decide (w < 1) || (decide (q < 1) || (decide (W < x + w) || decide (H < y + q)))))) = true then _ else _) = _
  have e : (decide (x < 0) || (decide (y < 0) || (decide (w < 1) || (decide (q < 1) || (decide (W < x + w) || decide (H < y + q)))))) = badP W H (x, y, w, q, u) := by
    unfold badP
    rw [decide_eq_false (show ¬ x < 0 by omega), decide_eq_false (show ¬ y < 0 by omega), Bool.false_or, Bool.false_or, show decide (w < 1) = decide (w = 0) from decide_eq_decide.mpr (by omega), show decide (q < 1) = decide (q = 0) from decide_eq_decide.mpr (by omega)]
  rw [e]
  by_cases e : badP W H (x, y, w, q, u) = true
  · rw [if_pos e, if_pos e]
    rfl
  · rw [if_neg e, if_neg e]
theorem good_is {W H : Int} {p : P4} (hp : Pk p) (h : badP W H p = false) : InFl W H p ∧ 1 ≤ p.2.2.1 ∧ 1 ≤ p.2.2.2.1 := by
  unfold badP at h
  rw [Bool.or_eq_false_iff, Bool.or_eq_false_iff, Bool.or_eq_false_iff, decide_eq_false_iff_not, decide_eq_false_iff_not, decide_eq_false_iff_not, decide_eq_false_iff_not] at h
  obtain ⟨a, b, c, d⟩ := h
  have := hp.w0
  have := hp.h0
  exact ⟨⟨by omega, by omega⟩, by omega, by omega⟩
theorem len_signs : lenS ("abcdefghijklmnopqrstuvwxyzABCDEFGHIJKLMNOPQRSTUVWXYZ01234567" : Str) = some (60 : Int) := by decide +kernel
/-! the rows as text -/
def One (s : Str) : Prop := ∃ x, s = ⟨#[x]⟩ ∧ x ≠ 10
theorem sg_one : ∀ k : Fin 60, decide ((sgK k.val).cps.size = 1) = true ∧ decide ((sgK k.val).cps.getD 0 0 ≠ 10) = true := by decide +kernel
theorem one_sg {k : Nat} (h : k < 60) : One (sgK k) := by
  have := of_decide_eq_true (sg_one ⟨k, h⟩).2
  exact ⟨SIGNS.cps.getD k 0, rfl, this⟩
theorem one_dot : One "." := ⟨46, rfl, by decide⟩
theorem join_cons0 (x : Str) (xs : List Str) : (Str.join "" (x :: xs)).cps.toList = x.cps.toList ++ (Str.join "" xs).cps.toList := by
  cases xs with
  | nil =>
    show x.cps.toList = x.cps.toList ++ (#[] : Array Nat).toList
    simp
  | cons y r =>
    show (x.cps ++ #[] ++ (Str.join "" (y :: r)).cps).toList = _
    simp
theorem sgn_join : ∀ {xs : List Str}, (∀ x ∈ xs, One x) → sgn (Str.join "" xs) = xs ∧ 10 ∉ (Str.join "" xs).cps.toList ∧ (Str.join "" xs).length = xs.length
  | [], _ => ⟨rfl, by decide +kernel, rfl⟩
  | x :: xs, h => by
    obtain ⟨h1, h2, h3⟩ := sgn_join (xs := xs) fun y hy => h y (List.mem_cons_of_mem _ hy)
    obtain ⟨c, rfl, hc⟩ := h x List.mem_cons_self
    have e := join_cons0 ⟨#[c]⟩ xs
    refine ⟨?_, ?_, ?_⟩
    · unfold sgn
      rw [e, List.map_append]
      unfold sgn at h1
      rw [h1]
      rfl
    · rw [e]
      show 10 ∉ c :: _
      rw [List.mem_cons]
      exact fun z => z.elim (fun z => hc z.symm) h2
    · show (Str.join "" (⟨#[c]⟩ :: xs)).cps.size = _
      have e2 := congrArg List.length e
      rw [List.length_append, Array.length_toList, Array.length_toList, Array.length_toList] at e2
      rw [e2]
      have h3 : (Str.join "" xs).cps.size = xs.length := h3
      rw [h3, List.length_cons]
      show 1 + _ = _
      omega
/-! the drawn text, and its rows again -/
def rowG (W : Int) (G : Cl → Str) (r : Int) : List Str := (irange 0 W).map fun c => G (c, r, ())
def rowsS (W H : Int) (G : Cl → Str) : List Str := (irange 0 H).map fun r => Str.join "" (rowG W G r)
def textOf (W H : Int) (G : Cl → Str) : Str := Str.join "\n" (rowsS W H G)
structure Fl1 (W H : Int) (G : Cl → Str) : Prop where
  w0 : 1 ≤ W
  w1 : W ≤ 200
  h0 : 1 ≤ H
  h1 : H ≤ 200
  one : ∀ c, InF W H c → One (G c)
theorem row_one {W H : Int} {G : Cl → Str} (f : Fl1 W H G) {r : Int} (hr : r ∈ irange 0 H) : ∀ x ∈ rowG W G r, One x := fun x hx => by
  obtain ⟨c, hc, rfl⟩ := List.mem_map.mp hx
  rw [mem_irange] at hr hc
  exact f.one _ ⟨hc, hr⟩
theorem row_len (W : Int) (G : Cl → Str) (r : Int) : (rowG W G r).length = W.toNat := by
  unfold rowG
  rw [List.length_map, irange_len, Int.sub_zero]
theorem sum_const {α : Type} {f : α → Nat} {n : Nat} : ∀ {xs : List α}, (∀ x ∈ xs, f x = n) → (xs.map f).sum = xs.length * n
  | [], _ => by simp
  | x :: xs, h => by
    rw [List.map_cons, List.sum_cons, sum_const fun y hy => h y (List.mem_cons_of_mem _ hy), h x List.mem_cons_self, List.length_cons, Nat.succ_mul, Nat.add_comm]
theorem one_len {x : Str} (h : One x) : x.length = 1 := by
  obtain ⟨c, rfl, _⟩ := h
  rfl
theorem row_join {W H : Int} {G : Cl → Str} (f : Fl1 W H G) {r : Int} (hr : r ∈ irange 0 H) : joinO ("" : Str) (rowG W G r) = some (Str.join "" (rowG W G r)) := by
  refine joinO_ok ?_
  rw [sum_const (n := 1) (fun x hx => one_len (row_one f hr x hx)), row_len]
  have := f.w1
  show W.toNat * 1 + W.toNat * 0 ≤ 1000000
  omega
theorem rows_map (W H : Int) (G : Cl → Str) : gridOf W H G = (irange 0 H).map (rowG W G) := rfl
theorem rows_len (W H : Int) (G : Cl → Str) : (rowsS W H G).length = H.toNat := by
  unfold rowsS
  rw [List.length_map, irange_len, Int.sub_zero]
theorem rows_each {W H : Int} {G : Cl → Str} (f : Fl1 W H G) {s : Str} (hs : s ∈ rowsS W H G) : s.length = W.toNat ∧ 10 ∉ s.cps.toList := by
  obtain ⟨r, hr, rfl⟩ := List.mem_map.mp hs
  obtain ⟨h1, h2, h3⟩ := sgn_join (row_one f hr)
  exact ⟨by rw [h3, row_len], h2⟩
theorem joins_ok {W H : Int} {G : Cl → Str} (f : Fl1 W H G) : ((lcM (fun _ => some true) (fun row => ((joinO ("" : Str) row).bind fun j => some j)) (gridOf W H G)).bind fun zs => (joinO ("\n" : Str) zs).bind fun j => some (Er.ok j)) = some (Er.ok (textOf W H G)) := by
  have h1 := f.h1
  have w1 := f.w1
  rw [lcM_all (fun row => Str.join "" row) (by rw [rows_map, List.length_map, irange_len]; omega) (fun x hx => by
    rw [rows_map] at hx
    obtain ⟨r, hr, rfl⟩ := List.mem_map.mp hx
    rw [row_join f hr, bs]), bs]
  have e : (gridOf W H G).map (fun row => Str.join "" row) = rowsS W H G := by
    rw [rows_map, List.map_map]
    rfl
  rw [e, joinO_ok (by
    rw [sum_const (n := W.toNat) (fun x hx => (rows_each f hx).1), rows_len]
    have : H.toNat * W.toNat ≤ 200 * 200 := Nat.mul_le_mul (by omega) (by omega)
    show H.toNat * W.toNat + H.toNat * 1 ≤ 1000000
    omega), bs]
  rfl
theorem join_len (c : Nat) : ∀ (xs : List Str), (Str.join ⟨#[c]⟩ xs).length ≤ (xs.map (·.length)).sum + xs.length
  | [] => Nat.zero_le _
  | [x] => by
    show x.length ≤ x.length + 0 + 1
    omega
  | x :: y :: r => by
    have ih := join_len c (y :: r)
    have e := congrArg List.length (join_two (c := c) x y r)
    rw [List.length_append, List.length_cons, Array.length_toList, Array.length_toList, Array.length_toList] at e
    show (Str.join ⟨#[c]⟩ (x :: y :: r)).cps.size ≤ _
    rw [e, List.map_cons, List.sum_cons, List.length_cons]
    have ih : (Str.join ⟨#[c]⟩ (y :: r)).cps.size ≤ _ := ih
    show x.length + _ ≤ _
    omega
theorem split_ok {W H : Int} {G : Cl → Str} (f : Fl1 W H G) : splitO (textOf W H G) ("\n" : Str) = some (rowsS W H G) := by
  have h0 := f.h0
  have h1 := f.h1
  have w1 := f.w1
  have hl : (textOf W H G).length ≤ 40200 := by
    refine Nat.le_trans (join_len 10 _) ?_
    rw [sum_const (n := W.toNat) (fun x hx => (rows_each f hx).1), rows_len]
    have : H.toNat * W.toNat ≤ 200 * 200 := Nat.mul_le_mul (by omega) (by omega)
    omega
  unfold splitO
  rw [if_pos ⟨by decide, by omega⟩]
  have hn : rowsS W H G ≠ [] := fun z => by
    have := rows_len W H G
    rw [z] at this
    have : 0 = H.toNat := this
    omega
  exact congrArg some (split_join (c := 10) hn fun p hp => (rows_each f hp).2)
theorem floor_rows {W H : Int} {G : Cl → Str} (f : Fl1 W H G) : m_rows_of_floor (upD (textOf W H G)) = some (Er.ok (rowsS W H G)) := by
  have h0 := f.h0
  have h1 := f.h1
  have w0 := f.w0
  have w1 := f.w1
  unfold m_rows_of_floor
  rw [if_neg (show ¬ (!(isiD (upD (textOf W H G)) "str")) = true from fun z => nomatch z)]
  show ((some (textOf W H G)).bind _) = _
  rw [bs, split_ok f, bs, bs]
  have hl : (rowsS W H G).length = H.toNat := rows_len W H G
  obtain ⟨s0, e0, e1⟩ := atI_some (xs := rowsS W H G) (i := 0) (by omega) (by omega)
  have hs0 := (rows_each f (List.mem_of_getElem? e1)).1
  have hlen : ∀ s ∈ rowsS W H G, lenS s = some W := fun s hs => by
    have := (rows_each f hs).1
    unfold lenS
    rw [if_pos (by omega), this]
    congr 1
    omega
  have l0 := hlen s0 (List.mem_of_getElem? e1)
  rw [hl, decide_eq_false (by omega), if_neg Bool.false_ne_true, e0, bs, l0, bs, bs, decide_eq_false (by omega), if_neg Bool.false_ne_true]
  rw [forC_all (fun x hx => by
    unfold m_rows_of_floor_L1
    have hx2 : x ≠ "" := fun z => by
      have := (rows_each f hx).1
      rw [z] at this
      have : 0 = W.toNat := this
      omega
    rw [decide_eq_false hx2, if_neg Bool.false_ne_true, hlen x hx, bs, e0, bs, l0, bs, bs, decide_eq_true rfl]
    rfl)]
  rfl
/-! the floor as one row of cells -/
theorem enum_irange {α : Type} (n : Int) (f : Int → α) : enumI ((irange 0 n).map f) = (irange 0 n).map fun i => (i, f i, ()) := by
  refine List.ext_getElem? fun k => ?_
  unfold enumI
  rw [List.getElem?_mapIdx, List.getElem?_map, List.getElem?_map]
  by_cases hk : k < (n - 0).toNat
  · rw [ir_at hk]
    show some (((k : Int)), f (0 + (k : Int)), ()) = some (0 + (k : Int), f (0 + (k : Int)), ())
    rw [Int.zero_add]
  · rw [List.getElem?_eq_none (by rw [irange_len]; omega)]
    rfl
theorem L2_nobk (sk : List Str) (k : Int) (t : Int × Str × Unit) (s s' : Dc Str (List Cl)) : m_read_floor_L2 (Fz.mk sk) k t s ≠ some (.bk s') := by
  obtain ⟨c, v, u⟩ := t
  unfold m_read_floor_L2
  intro h
  dsimp only at h
  split at h
  · rw [bs] at h
    split at h
    · cases h
    · cases e1 : atI (Fz.mk sk).l (Txt.find "abcdefghijklmnopqrstuvwxyzABCDEFGHIJKLMNOPQRSTUVWXYZ01234567" v) with
      | none => rw [e1] at h; cases h
      | some n =>
        rw [e1, bs] at h
        cases e2 : sdO s n (c, k, ()) with
        | none => rw [e2] at h; cases h
        | some d => rw [e2, bs] at h; cases h
  · cases h
theorem read_cells {W H : Int} {G : Cl → Str} {sk : List Str} (f : Fl1 W H G) (d : Dc Str (List Cl)) :
    forC (m_read_floor_L1 (Fz.mk sk)) (enumI (rowsS W H G)) d = forC (fun (c : Cl) d => m_read_floor_L2 (Fz.mk sk) c.2.1 (c.1, G c, ()) d) (cellsR (0, 0, W, H, ())) d := by
  have e : enumI (rowsS W H G) = (irange 0 H).map fun r => (r, Str.join "" (rowG W G r), ()) := enum_irange _ _
  rw [e, forC_map]
  have e2 : cellsR (0, 0, W, H, ()) = (irange 0 H).flatMap fun r => (irange 0 W).map fun c => ((c, r, ()) : Cl) := by
    unfold cellsR
    show (irange 0 (0 + H)).flatMap (fun r => (irange 0 (0 + W)).map fun c => ((c, r, ()) : Cl)) = _
    rw [Int.zero_add, Int.zero_add]
  rw [e2]
  refine forC_flat (g := fun (c : Cl) d => m_read_floor_L2 (Fz.mk sk) c.2.1 (c.1, G c, ()) d) (xs := fun r => (irange 0 W).map fun c => ((c, r, ()) : Cl)) (fun c s s' => L2_nobk _ _ _ s s') _ (fun r hr s => ?_) d
  unfold m_read_floor_L1
  rw [forC_map]
  obtain ⟨h1, h2, h3⟩ := sgn_join (row_one f hr)
  show ((forC (m_read_floor_L2 (Fz.mk sk) r) (enumI (sgn (Str.join "" (rowG W G r)))) s).bind _) = _
  rw [h1]
  have e3 : enumI (rowG W G r) = (irange 0 W).map fun c => (c, G (c, r, ()), ()) := enum_irange _ _
  rw [e3, forC_map]
  exact forC_id (fun _ => rfl) (fun _ => rfl)
/-! the floor's places -/
theorem cells_count {p : P4} (w0 : 0 ≤ p.2.2.1) (h0 : 0 ≤ p.2.2.2.1) : ((cellsR p).length : Int) = p.2.2.1 * p.2.2.2.1 := by
  unfold cellsR
  rw [List.length_flatMap, sum_const (n := p.2.2.1.toNat) (fun r hr => by rw [List.length_map, irange_len]; congr 1; omega), irange_len, Int.natCast_mul]
  rw [show ((p.2.1 + p.2.2.2.1 - p.2.1).toNat : Int) = p.2.2.2.1 by omega, show (p.2.2.1.toNat : Int) = p.2.2.1 by omega, Int.mul_comm]
theorem minL_ex {xs : List Int} (h : xs ≠ []) : ∃ m, minL xs = some m := by
  cases xs with
  | nil => exact absurd rfl h
  | cons x r => exact ⟨_, rfl⟩
theorem maxL_ex {xs : List Int} (h : xs ≠ []) : ∃ m, maxL xs = some m := by
  cases xs with
  | nil => exact absurd rfl h
  | cons x r => exact ⟨_, rfl⟩
theorem fil_mem {pl : Str → P4} {n : Str} {W H : Int} {c : Cl} (h0 : 0 ≤ (pl n).1) (h1 : 0 ≤ (pl n).2.1) (hf : InFl W H (pl n)) : c ∈ fil pl n (cellsR (0, 0, W, H, ())) ↔ inR (pl n) c := by
  unfold fil
  rw [List.mem_filter, mem_cells, decide_eq_true_eq]
  constructor
  · exact fun h => h.2
  · intro h
    refine ⟨?_, h⟩
    obtain ⟨⟨a, b⟩, c1, d⟩ := h
    obtain ⟨f1, f2⟩ := hf
    exact ⟨⟨by show (0 : Int) ≤ _; omega, by show _ < 0 + W; omega⟩, by show (0 : Int) ≤ _; omega, by show _ < 0 + H; omega⟩
structure Pin (W H : Int) (p : P4) : Prop where
  x0 : 0 ≤ p.1
  y0 : 0 ≤ p.2.1
  w1 : 1 ≤ p.2.2.1
  h1 : 1 ≤ p.2.2.2.1
  f : InFl W H p
theorem fil_place {pl : Str → P4} {n : Str} {W H : Int} (hW : W ≤ 200) (hH : H ≤ 200) (h : Pin W H (pl n)) (cells : Dc Str (List Cl)) (hc : getD cells.l n = some (fil pl n (cellsR (0, 0, W, H, ())))) (d : Dc Str P4) (hd : d.l.length < 1000000) :
    m_read_floor_L3 cells n d = some (.nx ⟨putD d.l n (pl n)⟩) := by
  have hm := fun c => fil_mem (c := c) (W := W) (H := H) h.x0 h.y0 h.f
  have hnd : (fil pl n (cellsR (0, 0, W, H, ()))).Nodup := (cells_nodup _).filter _
  have hlen : ((fil pl n (cellsR (0, 0, W, H, ()))).length : Int) = (pl n).2.2.1 * (pl n).2.2.2.1 := by
    have hp : (fil pl n (cellsR (0, 0, W, H, ()))).Perm (cellsR (pl n)) := (List.perm_ext_iff_of_nodup hnd (cells_nodup _)).mpr fun c => by rw [hm, mem_cells]
    rw [hp.length_eq]
    have := h.w1
    have := h.h1
    exact cells_count (by omega) (by omega)
  generalize fil pl n (cellsR (0, 0, W, H, ())) = L at hc hm hnd hlen
  generalize hpl : pl n = p at h hm hlen
  obtain ⟨x, y, w, q, u⟩ := p
  obtain ⟨x0, y0, w1, q1, f1, f2⟩ := h
  have x0 : 0 ≤ x := x0
  have y0 : 0 ≤ y := y0
  have w1 : 1 ≤ w := w1
  have q1 : 1 ≤ q := q1
  have f1 : x + w ≤ W := f1
  have f2 : y + q ≤ H := f2
  have hlen : (L.length : Int) = w * q := hlen
  have wq : w * q ≤ 200 * 200 := Int.mul_le_mul (by omega) (by omega) (by omega) (by omega)
  have hl : L.length < 1000000 := by omega
  have e1 : lcM (fun _ => some true) (fun (column, row, _) => (some column)) L = some (L.map (·.1)) := lcM_all (fun c : Cl => c.1) hl fun c _ => by obtain ⟨a, b, u⟩ := c; rfl
  have e2 : lcM (fun _ => some true) (fun (column, row, _) => (some row)) L = some (L.map (·.2.1)) := lcM_all (fun c : Cl => c.2.1) hl fun c _ => by obtain ⟨a, b, u⟩ := c; rfl
  have hin : ∀ a b : Int, x ≤ a → a < x + w → y ≤ b → b < y + q → (a, b, ()) ∈ L := fun a b h1 h2 h3 h4 => (hm _).mpr ⟨⟨h1, h2⟩, h3, h4⟩
  have hout : ∀ c ∈ L, (x ≤ c.1 ∧ c.1 < x + w) ∧ y ≤ c.2.1 ∧ c.2.1 < y + q := fun c hc => (hm c).mp hc
  have ne1 : L.map (·.1) ≠ [] := fun z => by
    have := hin x y (by omega) (by omega) (by omega) (by omega)
    rw [List.map_eq_nil_iff.mp z] at this
    exact absurd this List.not_mem_nil
  have ne2 : L.map (·.2.1) ≠ [] := fun z => by
    have := hin x y (by omega) (by omega) (by omega) (by omega)
    rw [List.map_eq_nil_iff.mp z] at this
    exact absurd this List.not_mem_nil
  obtain ⟨m1, hm1⟩ := minL_ex ne1
  obtain ⟨m2, hm2⟩ := minL_ex ne2
  obtain ⟨m3, hm3⟩ := maxL_ex ne1
  obtain ⟨m4, hm4⟩ := maxL_ex ne2
  have r1 : m1 = x := by
    obtain ⟨a, b⟩ := minL_spec hm1
    obtain ⟨c, hc, rfl⟩ := List.mem_map.mp a
    have := b x (List.mem_map.mpr ⟨(x, y, ()), hin x y (by omega) (by omega) (by omega) (by omega), rfl⟩)
    have := hout c hc
    omega
  have r2 : m2 = y := by
    obtain ⟨a, b⟩ := minL_spec hm2
    obtain ⟨c, hc, rfl⟩ := List.mem_map.mp a
    have := b y (List.mem_map.mpr ⟨(x, y, ()), hin x y (by omega) (by omega) (by omega) (by omega), rfl⟩)
    have := hout c hc
    omega
  have r3 : m3 = x + w - 1 := by
    obtain ⟨a, b⟩ := maxL_spec hm3
    obtain ⟨c, hc, rfl⟩ := List.mem_map.mp a
    have := b (x + w - 1) (List.mem_map.mpr ⟨(x + w - 1, y, ()), hin _ y (by omega) (by omega) (by omega) (by omega), rfl⟩)
    have := hout c hc
    omega
  have r4 : m4 = y + q - 1 := by
    obtain ⟨a, b⟩ := maxL_spec hm4
    obtain ⟨c, hc, rfl⟩ := List.mem_map.mp a
    have := b (y + q - 1) (List.mem_map.mpr ⟨(x, y + q - 1, ()), hin x _ (by omega) (by omega) (by omega) (by omega), rfl⟩)
    have := hout c hc
    omega
  unfold m_read_floor_L3
  rw [hc]
  rw [if_neg (show ¬ (!(some L).isSome) = true from fun z => nomatch z), bs, e1, bs, bs, bs, e2, bs, bs, hm1, bs, hm2, bs, hm3, bs, bs, hm4, bs, bs, bs, bs]
  subst r1 r2 r3 r4
  rw [show m1 + w - 1 - m1 + 1 = w by omega, show m2 + q - 1 - m2 + 1 = q by omega]
  rw [mulO_ok (by show (-18446744073709551616 : Int) < w; omega) (by show w < (18446744073709551616 : Int); omega), bs, decide_eq_true hlen]
  show ((putO d n (m1, m2, w, q, ())).bind _) = _
  rw [putO_ok hd]
  rfl
theorem putD_new {β : Type} {l : List (Str × β)} {n : Str} {y : β} (h : n ∉ l.map (·.1)) : putD l n y = l ++ [(n, y)] := by
  unfold putD
  rw [if_neg]
  intro z
  obtain ⟨v, hv⟩ := Option.isSome_iff_exists.mp z
  obtain ⟨kv, hf, _⟩ := Option.map_eq_some_iff.mp (show (l.find? _).map _ = some v from hv)
  have hk := List.find?_some hf
  rw [decide_eq_true_eq] at hk
  exact h (List.mem_map.mpr ⟨kv, List.mem_of_find?_eq_some hf, hk⟩)
theorem read_floor_ok {W H : Int} {G : Cl → Str} {sk : List Str} {pl : Str → P4} (f : Fl1 W H G) (hs : sk.length ≤ 60) (nd : sk.Nodup) (hp : ∀ n ∈ sk, Pin W H (pl n)) (ho : ∀ c, InF W H c → Own sk pl G c) :
    m_read_floor (upD (textOf W H G)) (Fz.mk sk) = some (Er.ok ⟨sk.map fun n => (n, pl n)⟩) := by
  have w1 := f.w1
  have h1 := f.h1
  have w0 := f.w0
  have h0 := f.h0
  unfold m_read_floor
  rw [floor_rows f, bs]
  show ((some (rowsS W H G)).bind _) = _
  rw [bs, read_cells f]
  have hin : ∀ c ∈ cellsR (0, 0, W, H, ()), InF W H c := fun c hc => by
    obtain ⟨⟨a, b⟩, c1, d⟩ := mem_cells.mp hc
    have b : c.1 < 0 + W := b
    have d : c.2.1 < 0 + H := d
    exact ⟨⟨a, by omega⟩, c1, by omega⟩
  have hcl : (cellsR (0, 0, W, H, ())).length < 900000 := by
    have e := cells_count (p := (0, 0, W, H, ())) (show (0 : Int) ≤ W by omega) (show (0 : Int) ≤ H by omega)
    have e : ((cellsR (0, 0, W, H, ())).length : Int) = W * H := e
    have : W * H ≤ 200 * 200 := Int.mul_le_mul (by omega) (by omega) (by omega) (by omega)
    omega
  obtain ⟨cells, e1, hr, hl⟩ := read_all (sk := sk) (pl := pl) (G := G) hs (cellsR (0, 0, W, H, ())) [] (Dc.mk []) (fun c hc => ho c (hin c hc)) ⟨fun n hn => rfl, Nat.le_refl _⟩ (by rw [List.length_nil]; omega)
  refine Eq.trans (bind_ok e1) ?_
  rw [List.nil_append] at hr
  have hget : ∀ n ∈ sk, getD cells.l n = some (fil pl n (cellsR (0, 0, W, H, ()))) := fun n hn => by
    rw [hr n hn, if_neg]
    intro z
    have p := hp n hn
    have : (((pl n).1, (pl n).2.1, ()) : Cl) ∈ fil pl n (cellsR (0, 0, W, H, ())) := (fil_mem p.x0 p.y0 p.f).mpr ⟨⟨Int.le_refl _, by have := p.w1; show (pl n).1 < _; omega⟩, Int.le_refl _, by have := p.h1; show (pl n).2.1 < _; omega⟩
    rw [z] at this
    exact absurd this List.not_mem_nil
  obtain ⟨d, e2, h2⟩ := forC_ix (f := m_read_floor_L3 cells) (xs := sk) (fun i (d : Dc Str P4) => d.l = (sk.take i).map fun n => (n, pl n)) (s := Dc.mk []) rfl (fun i hi d hd => by
    have hn : sk[i] ∈ sk := List.getElem_mem hi
    refine ⟨_, fil_place w1 h1 (hp _ hn) cells (hget _ hn) d (by rw [hd, List.length_map, List.length_take]; omega), ?_⟩
    show putD d.l _ _ = _
    rw [hd, putD_new, List.take_succ_eq_append_getElem hi, List.map_append]
    · rfl
    · rw [List.map_map]
      intro z
      obtain ⟨m, hm, e⟩ := List.mem_map.mp z
      have e : m = sk[i] := e
      rw [e] at hm
      obtain ⟨j, hj⟩ := List.mem_iff_getElem?.mp hm
      have hji : j < i := by
        have := (List.getElem?_eq_some_iff.mp hj).1
        rw [List.length_take] at this
        omega
      rw [List.getElem?_take_of_lt hji] at hj
      obtain ⟨hj1, hj2⟩ := List.getElem?_eq_some_iff.mp hj
      exact (List.pairwise_iff_getElem.mp nd) j i hj1 hi hji hj2)
  refine Eq.trans (bind_ok e2) ?_
  rw [List.take_length] at h2
  show some (Er.ok d) = _
  rw [show d = ⟨d.l⟩ from rfl, h2]
theorem cell_at {ns : List Int} (k : Int) (h0 : 0 ≤ k) : ∃ c, m__law_cell_at (Fz.mk ns) k = some c := by
  unfold m__law_cell_at
  by_cases h : k < (ns.length : Int)
  · obtain ⟨x, e, _⟩ := atI_some (xs := ns) h0 h
    exact ⟨x, by rw [if_pos (decide_eq_true h), e]; rfl⟩
  · exact ⟨0, by rw [if_neg (by simpa using h)]⟩
theorem numbers_ok (cell many : Int) (h0 : 0 ≤ many) (hm : many ≤ 1000) : ∃ f, m__law_numbers cell many = some f ∧ f.length = many.toNat := by
  unfold m__law_numbers
  simp only [bs]
  by_cases hc : 0 ≤ cell - 1000000000000000000
  · rw [decide_eq_true hc]
    simp only [if_true]
    rw [rngO_ok (by omega) (by omega) (by omega) (by omega)]
    simp only [bs]
    obtain ⟨⟨n, f⟩, e, h⟩ := forS_inv (f := m__law_numbers_L1) (fun rest s => s.2.length + rest.length = many.toNat) (xs := irange 0 many) (s := (cell - 1000000000000000000, [])) (by rw [irange_len]; simp) (fun x rest s hs => by
      obtain ⟨n, f⟩ := s
      have hs : f.length + (rest.length + 1) = many.toNat := hs
      refine ⟨(n / 5040, f ++ [n % 5040]), ?_, ?_⟩
      · unfold m__law_numbers_L1
        simp only [appO_ok (show f.length < 1000000 by omega), bs]
      · show (f ++ [n % 5040]).length + rest.length = _
        rw [List.length_append, List.length_singleton]
        omega)
    rw [e]
    exact ⟨f, rfl, h⟩
  · rw [decide_eq_false hc]
    simp only [Bool.false_eq_true, if_false, bs]
    rw [rngO_ok (by omega) (by omega) (by omega) (by omega)]
    simp only [bs]
    obtain ⟨⟨n, f⟩, e, h⟩ := forS_inv (f := m__law_numbers_L2) (fun rest s => s.2.length + rest.length = many.toNat + 1) (xs := irange 0 (many + 1)) (s := (cell % 2147483647, [])) (by rw [irange_len]; show 0 + _ = _; omega) (fun x rest s hs => by
      obtain ⟨n, f⟩ := s
      have hs : f.length + (rest.length + 1) = many.toNat + 1 := hs
      refine ⟨((n + x + 1) * 48271 % 2147483647, f ++ [((n + x + 1) * 48271 % 2147483647) * 69621 % 2147483629]), ?_, ?_⟩
      · unfold m__law_numbers_L2
        simp only [appO_ok (show f.length < 1000000 by omega), bs]
      · show (f ++ [((n + x + 1) * 48271 % 2147483647) * 69621 % 2147483629]).length + rest.length = _
        rw [List.length_append, List.length_singleton]
        omega)
    rw [e]
    simp only [bs]
    rw [show cut f (some (1 : Int)) none = f.drop 1 from cut_from f 1]
    have h : f.length + 0 = many.toNat + 1 := h
    exact ⟨_, rfl, by rw [List.length_drop]; omega⟩
/-! names that differ at two places, every second one longer -/
def alpha : Str := "abcdefghijklmnopqrstuvwxyz"
theorem alpha_at : ∀ i : Fin 26, alpha.cps[i.val]? = some (97 + i.val) := by decide +kernel
theorem alpha_size : alpha.cps.size = 26 := by decide +kernel
theorem letter (i : Int) : ixS alpha (i % 26) = some ⟨#[97 + (i % 26).toNat]⟩ := by
  have h1 : 0 ≤ i % 26 := by omega
  have h2 : i % 26 < 26 := by omega
  have hl : alpha.length = 26 := alpha_size
  unfold ixS
  rw [if_pos (by rw [hl]; omega), atI_ok h1 (by rw [Array.length_toList, alpha_size]; omega)]
  have e : alpha.cps.toList[(i % 26).toNat]? = some (97 + (i % 26).toNat) := by
    rw [Array.getElem?_toList]
    exact alpha_at ⟨(i % 26).toNat, by omega⟩
  rw [e]
  rfl
def stepOf (at_ turn : Int) (i : Int) : Int := 7 * (turn % 26) * (if (decide (i = at_)) = true then (1 : Int) else 0) + turn / 26 * (if (decide (i = at_ + 1)) = true then (1 : Int) else 0)
structure NmOk (some_ : List Int) (at_ turn : Int) (j : Nat) (n : Str) : Prop where
  size : n.cps.size = j
  at_ : ∀ (i : Nat) (s : Int), i < j → some_[i]? = some s → n.cps[i]? = some (97 + ((s + stepOf at_ turn (i : Int)) % 26).toNat)
  ok : PyData.strOk n = true
theorem name_ok (some_ : List Int) (at_ turn size : Int) (hs : some_.length = 10) (h0 : 0 ≤ size) (h1 : size ≤ 8) (ht0 : 0 ≤ turn) (ht1 : turn < 1000) :
    ∃ n, forS (m__law_names_L2 alpha some_ at_ turn) (irange 0 size) ("" : Str) = some n ∧ NmOk some_ at_ turn size.toNat n := by
  obtain ⟨n, e, h⟩ := forS_ix (f := m__law_names_L2 alpha some_ at_ turn) (xs := irange 0 size) (fun j n => NmOk some_ at_ turn j n) (s := ("" : Str)) ⟨rfl, fun i s hi => absurd hi (Nat.not_lt_zero _), by decide +kernel⟩ (fun j hj n hn => by
    rw [irange_len] at hj
    have ej : (irange 0 size)[j]'(by rw [irange_len]; exact hj) = (j : Int) := by simp [irange]
    rw [ej]
    obtain ⟨s, e1, e2⟩ := atI_some (xs := some_) (i := (j : Int)) (by omega) (by omega)
    rw [show ((j : Int)).toNat = j from rfl] at e2
    have hsz : n.length = j := hn.size
    have e3 : ixS alpha ((s + stepOf at_ turn (j : Int)) % 26) = _ := letter _
    generalize hk : 97 + ((s + stepOf at_ turn (j : Int)) % 26).toNat = k at e3
    have hk2 : k < 200 := by omega
    refine ⟨n ++ ⟨#[k]⟩, ?_, ?_, ?_, ?_⟩
    · unfold m__law_names_L2
      rw [mulO_ok (by omega) (by omega), bs, mulO_ok (by omega) (by omega), bs, bs, e1, bs]
      show ((ixS alpha ((s + stepOf at_ turn (j : Int)) % 26)).bind _) = _
      rw [e3, bs]
      have : addS n ⟨#[k]⟩ = some (n ++ ⟨#[k]⟩) := if_pos (by
        show n.length + 1 ≤ 1000000
        omega)
      rw [this]
      rfl
    · show (n.cps ++ #[k]).size = _
      rw [Array.size_append, hn.size]
      rfl
    · intro i s' hi hs'
      show (n.cps ++ #[k])[i]? = _
      by_cases hij : i < j
      · rw [Array.getElem?_append_left (by rw [hn.size]; exact hij)]
        exact hn.at_ i s' hij hs'
      · have : i = j := by omega
        subst this
        rw [e2] at hs'
        cases hs'
        rw [Array.getElem?_append_right (by rw [hn.size]; exact Nat.le_refl _), hn.size, Nat.sub_self, hk]
        rfl
    · refine ok_app hn.ok ?_
      show (#[k] : Array Nat).all _ = true
      have : ∀ k : Fin 200, PyData.strOk ⟨#[k.val]⟩ = true := by decide +kernel
      exact this ⟨k, hk2⟩)
  rw [irange_len, Int.sub_zero] at h
  exact ⟨n, e, h⟩
theorem names_ok (cell many : Int) (h0 : 0 ≤ many) (hm : many ≤ 60) : ∃ ns, m__law_names cell many = some ns ∧ ns.length = many.toNat ∧ ns.Nodup ∧ ∀ n ∈ ns, PyData.strOk n = true := by
  obtain ⟨l, e0, hl⟩ := numbers_ok cell 10 (by omega) (by omega)
  obtain ⟨s8, e8, _⟩ := atI_some (xs := l) (i := 8) (by omega) (by omega)
  obtain ⟨s9, e9, _⟩ := atI_some (xs := l) (i := 9) (by omega) (by omega)
  unfold m__law_names
  simp only [e0, e8, e9, bs]
  generalize hz : 2 + s8 % 7 = size
  have z1 : 2 ≤ size := by omega
  have z2 : size ≤ 8 := by omega
  rw [modO_ok (by omega), rngO_ok (by omega) (by omega) (by omega) (by omega)]
  simp only [bs]
  have a1 := Int.emod_nonneg s9 (show size - 1 ≠ 0 by omega)
  have a2 := Int.emod_lt_of_pos s9 (show 0 < size - 1 by omega)
  generalize s9 % (size - 1) = at_ at a1 a2
  obtain ⟨p, ep⟩ : ∃ p : Nat, at_ = p := ⟨at_.toNat, by omega⟩
  subst ep
  obtain ⟨sp, esp⟩ : ∃ sp, l[p]? = some sp := ⟨_, List.getElem?_eq_getElem (show p < l.length by omega)⟩
  obtain ⟨sq, esq⟩ : ∃ sq, l[p + 1]? = some sq := ⟨_, List.getElem?_eq_getElem (show p + 1 < l.length by omega)⟩
  obtain ⟨ns, e, h1, h2⟩ := forS_ix (f := m__law_names_L1 alpha l size p) (xs := irange 0 many) (fun (j : Nat) (ns : List Str) => ns.length = j ∧ ∀ (i : Nat) (n : Str), ns[i]? = some n → PyData.strOk n = true ∧ n.cps[p]? = some (97 + ((sp + 7 * ((i : Int) % 26)) % 26).toNat) ∧ n.cps[p + 1]? = some (97 + ((sq + (i : Int) / 26) % 26).toNat)) (s := []) ⟨rfl, fun i n h => by simp at h⟩ (fun j hj ns hn => by
    rw [irange_len] at hj
    have ej : (irange 0 many)[j]'(by rw [irange_len]; exact hj) = (j : Int) := by simp [irange]
    rw [ej]
    obtain ⟨n, en, hn'⟩ := name_ok l p j size (by omega) (by omega) (by omega) (by omega) (by omega)
    have q1 := hn'.at_ p sp (by omega) esp
    have q3 := hn'.at_ (p + 1) sq (by omega) esq
    have s1 : stepOf (p : Int) (j : Int) (p : Int) = 7 * ((j : Int) % 26) := by
      unfold stepOf
      rw [decide_eq_true rfl, if_pos rfl, decide_eq_false (by omega), if_neg Bool.false_ne_true]
      omega
    have s2 : stepOf (p : Int) (j : Int) ((p + 1 : Nat) : Int) = (j : Int) / 26 := by
      unfold stepOf
      rw [decide_eq_false (by omega), if_neg Bool.false_ne_true, decide_eq_true (by omega), if_pos rfl]
      omega
    rw [s1] at q1
    rw [s2] at q3
    have q2 : n.cps.size = size.toNat := hn'.size
    have key : ∀ x : Str, PyData.strOk x = true → x.cps[p]? = some (97 + ((sp + 7 * ((j : Int) % 26)) % 26).toNat) → x.cps[p + 1]? = some (97 + ((sq + (j : Int) / 26) % 26).toNat) → appO ns x = some (ns ++ [x]) ∧ (ns ++ [x]).length = j + 1 ∧ ∀ (i : Nat) (n : Str), (ns ++ [x])[i]? = some n → PyData.strOk n = true ∧ n.cps[p]? = some (97 + ((sp + 7 * ((i : Int) % 26)) % 26).toNat) ∧ n.cps[p + 1]? = some (97 + ((sq + (i : Int) / 26) % 26).toNat) := fun x hx1 hx2 hx3 => by
      refine ⟨appO_ok (show ns.length < 1000000 by omega), by rw [List.length_append, hn.1]; rfl, fun i m hi => ?_⟩
      by_cases hij : i < j
      · rw [List.getElem?_append_left (by omega)] at hi
        exact hn.2 i m hi
      · rw [List.getElem?_append_right (by omega)] at hi
        have : i = j := by
          cases q : i - ns.length with
          | zero => omega
          | succ k => rw [q] at hi; simp at hi
        subst this
        rw [hn.1, Nat.sub_self] at hi
        cases hi
        exact ⟨hx1, hx2, hx3⟩
    unfold m__law_names_L1
    rw [bs, rngO_ok (by omega) (by omega) (by omega) (by omega), bs, en, bs]
    by_cases hb : ((decide ((j : Int) % 2 = 1)) && (decide (size < 8))) = true
    · rw [if_pos hb]
      have ea : addS n "m" = some (n ++ "m") := if_pos (by
        show n.cps.size + 1 ≤ 1000000
        omega)
      rw [ea, bs, bs, bs]
      obtain ⟨k1, k2, k3⟩ := key (n ++ "m") (ok_app hn'.ok (by decide +kernel)) (by
        show (n.cps ++ ("m" : Str).cps)[p]? = _
        rw [Array.getElem?_append_left (by omega)]
        exact q1) (by
        show (n.cps ++ ("m" : Str).cps)[p + 1]? = _
        rw [Array.getElem?_append_left (by omega)]
        exact q3)
      rw [k1]
      exact ⟨_, rfl, k2, k3⟩
    · rw [if_neg hb, bs]
      obtain ⟨k1, k2, k3⟩ := key n hn'.ok q1 q3
      rw [k1]
      exact ⟨_, rfl, k2, k3⟩)
  have e : forS (m__law_names_L1 "abcdefghijklmnopqrstuvwxyz" l size p) (irange 0 many) [] = some ns := e
  rw [e, bs]
  rw [irange_len, Int.sub_zero] at h1
  refine ⟨ns, rfl, h1, ?_, fun n hn => ?_⟩
  · show List.Pairwise (· ≠ ·) ns
    rw [List.pairwise_iff_getElem]
    intro i j hi hj hij heq
    have ea : ns[i]? = some ns[i] := List.getElem?_eq_getElem hi
    have eb : ns[j]? = some ns[i] := by rw [heq]; exact List.getElem?_eq_getElem hj
    have q1 := (h2 i _ ea).2
    have q2 := (h2 j _ eb).2
    rw [q1.1, q1.2] at q2
    have q3 := Option.some.inj q2.1
    have q4 := Option.some.inj q2.2
    omega
  · obtain ⟨i, hi⟩ := List.getElem?_of_mem hn
    exact (h2 i n hi).1
/-! places apart -/
def Dj (p q : P4) : Prop := ∀ c, ¬ (inR p c ∧ inR q c)
theorem Dj.symm {p q : P4} (h : Dj p q) : Dj q p := fun c hc => h c ⟨hc.2, hc.1⟩
def Sub (p q : P4) : Prop := ∀ c, inR p c → inR q c
theorem Dj.sub {p q r : P4} (h : Dj p q) (s : Sub r p) : Dj r q := fun c hc => h c ⟨s c hc.1, hc.2⟩
structure Ap (W H : Int) (L : List P4) : Prop where
  pw : L.Pairwise Dj
  pin : ∀ p ∈ L, Pin W H p
theorem Ap.perm {W H : Int} {L M : List P4} (h : Ap W H L) (p : M.Perm L) : Ap W H M :=
  ⟨(p.pairwise_iff (fun {_ _} h => Dj.symm h)).mpr h.pw, fun q hq => h.pin q (p.mem_iff.mp hq)⟩
/-- a place parted into some -/
theorem Ap.part {W H : Int} {p : P4} {L Q : List P4} (h : Ap W H (p :: L)) (hq : Q.Pairwise Dj) (hs : ∀ q ∈ Q, Sub q p ∧ Pin W H q) : Ap W H (L ++ Q) := by
  obtain ⟨h1, h2⟩ := List.pairwise_cons.mp h.pw
  refine ⟨List.pairwise_append.mpr ⟨h2, hq, fun a ha b hb => ?_⟩, fun q hq => ?_⟩
  · exact ((h1 a ha).sub (hs b hb).1).symm
  · rcases List.mem_append.mp hq with z | z
    · exact h.pin q (List.mem_cons_of_mem _ z)
    · exact (hs q z).2
theorem parted_ok {W H : Int} {p : P4} {n : Int} (hp : Pin W H p) : ∃ Q, m__law_parted p n = some Q ∧ Q.length ≤ 2 ∧ Q.Pairwise Dj ∧ ∀ q ∈ Q, Sub q p ∧ Pin W H q := by
  obtain ⟨x, y, w, q, u⟩ := p
  obtain ⟨x0, y0, w1, q1, f1, f2⟩ := hp
  have x0 : 0 ≤ x := x0
  have y0 : 0 ≤ y := y0
  have w1 : 1 ≤ w := w1
  have q1 : 1 ≤ q := q1
  have f1 : x + w ≤ W := f1
  have f2 : y + q ≤ H := f2
  unfold m__law_parted
  rw [bs]
  dsimp only
  by_cases h1 : ((decide (n % 2 = 0)) && (decide (1 < w))) = true
  · rw [if_pos h1]
    have h2 : 1 < w := of_decide_eq_true (Bool.and_eq_true_iff.mp h1).2
    rw [modO_ok (by omega), bs, bs]
    have a1 := Int.emod_nonneg (n / 8) (show w - 1 ≠ 0 by omega)
    have a2 := Int.emod_lt_of_pos (n / 8) (show 0 < w - 1 by omega)
    generalize n / 8 % (w - 1) = k at a1 a2
    refine ⟨_, rfl, Nat.le_refl _, ?_, ?_⟩
    · refine List.pairwise_cons.mpr ⟨fun b hb => ?_, List.pairwise_singleton _ _⟩
      rw [List.mem_singleton.mp hb]
      intro c hc
      obtain ⟨⟨⟨b1, b2⟩, _⟩, ⟨⟨b3, b4⟩, _⟩⟩ := hc
      have b2 : c.1 < x + (1 + k) := b2
      have b3 : x + (1 + k) ≤ c.1 := b3
      omega
    · intro b hb
      rcases List.mem_cons.mp hb with rfl | hb
      · refine ⟨fun c hc => ?_, ⟨x0, y0, (show 1 ≤ 1 + k by omega), q1, ⟨(show x + (1 + k) ≤ W by omega), f2⟩⟩⟩
        obtain ⟨⟨b1, b2⟩, b3⟩ := hc
        have b2 : c.1 < x + (1 + k) := b2
        exact ⟨⟨b1, (show c.1 < x + w by omega)⟩, b3⟩
      · rw [List.mem_singleton.mp hb]
        refine ⟨fun c hc => ?_, ⟨(show 0 ≤ x + (1 + k) by omega), y0, (show 1 ≤ w - (1 + k) by omega), q1, ⟨(show x + (1 + k) + (w - (1 + k)) ≤ W by omega), f2⟩⟩⟩
        obtain ⟨⟨b1, b2⟩, b3⟩ := hc
        have b1 : x + (1 + k) ≤ c.1 := b1
        have b2 : c.1 < x + (1 + k) + (w - (1 + k)) := b2
        exact ⟨⟨(show x ≤ c.1 by omega), (show c.1 < x + w by omega)⟩, b3⟩
  · rw [if_neg h1]
    by_cases h2 : 1 < q
    · rw [if_pos (decide_eq_true h2), modO_ok (by omega), bs, bs]
      have a1 := Int.emod_nonneg (n / 8) (show q - 1 ≠ 0 by omega)
      have a2 := Int.emod_lt_of_pos (n / 8) (show 0 < q - 1 by omega)
      generalize n / 8 % (q - 1) = k at a1 a2
      refine ⟨_, rfl, Nat.le_refl _, ?_, ?_⟩
      · refine List.pairwise_cons.mpr ⟨fun b hb => ?_, List.pairwise_singleton _ _⟩
        rw [List.mem_singleton.mp hb]
        intro c hc
        obtain ⟨⟨_, b1, b2⟩, ⟨_, b3, b4⟩⟩ := hc
        have b2 : c.2.1 < y + (1 + k) := b2
        have b3 : y + (1 + k) ≤ c.2.1 := b3
        omega
      · intro b hb
        rcases List.mem_cons.mp hb with rfl | hb
        · refine ⟨fun c hc => ?_, ⟨x0, y0, w1, (show 1 ≤ 1 + k by omega), ⟨f1, (show y + (1 + k) ≤ H by omega)⟩⟩⟩
          obtain ⟨b3, b1, b2⟩ := hc
          have b2 : c.2.1 < y + (1 + k) := b2
          exact ⟨b3, b1, (show c.2.1 < y + q by omega)⟩
        · rw [List.mem_singleton.mp hb]
          refine ⟨fun c hc => ?_, ⟨x0, (show 0 ≤ y + (1 + k) by omega), w1, (show 1 ≤ q - (1 + k) by omega), ⟨f1, (show y + (1 + k) + (q - (1 + k)) ≤ H by omega)⟩⟩⟩
          obtain ⟨b3, b1, b2⟩ := hc
          have b1 : y + (1 + k) ≤ c.2.1 := b1
          have b2 : c.2.1 < y + (1 + k) + (q - (1 + k)) := b2
          exact ⟨b3, (show y ≤ c.2.1 by omega), (show c.2.1 < y + q by omega)⟩
    · rw [if_neg (by rw [decide_eq_true_eq]; exact h2)]
      refine ⟨_, rfl, Nat.le_of_ble_eq_true rfl, List.pairwise_singleton _ _, fun b hb => ?_⟩
      rw [List.mem_singleton.mp hb]
      exact ⟨fun c hc => hc, x0, y0, w1, q1, f1, f2⟩
theorem pop_perm {α : Type} {xs : List α} {k : Nat} {x : α} (h : xs[k]? = some x) : (x :: xs.eraseIdx k).Perm xs := by
  obtain ⟨hk, rfl⟩ := List.getElem?_eq_some_iff.mp h
  rw [List.eraseIdx_eq_take_drop_succ]
  have e : xs = xs.take k ++ xs[k] :: xs.drop (k + 1) := by
    rw [← List.drop_eq_getElem_cons hk, List.take_append_drop]
  refine List.Perm.trans ?_ (List.Perm.of_eq e.symm)
  exact (List.perm_middle (a := xs[k]) (l₁ := xs.take k) (l₂ := xs.drop (k + 1))).symm
structure Ops (W H : Int) (s : List P4 × List P4) : Prop where
  ap : Ap W H (s.1 ++ s.2)
  le : (s.1 ++ s.2).length ≤ 60
theorem open_step {W H : Int} (n : Int) {s : List P4 × List P4} (hs : Ops W H s) : ∃ s', m__law_places_L2 n s = some s' ∧ Ops W H s' := by
  obtain ⟨fd, op⟩ := s
  obtain ⟨ap, le⟩ := hs
  have ap : Ap W H (fd ++ op) := ap
  have le : (fd ++ op).length ≤ 60 := le
  rw [List.length_append] at le
  unfold m__law_places_L2
  dsimp only
  by_cases h : ((decide ((0 : Int) < (op.length : Int))) && (decide (((fd.length : Int) + (op.length : Int)) < (60 : Int)))) = true
  · rw [if_pos h]
    have hb := Bool.and_eq_true_iff.mp h
    have h1 : (0 : Int) < (op.length : Int) := of_decide_eq_true hb.1
    have h2 : (fd.length : Int) + (op.length : Int) < 60 := of_decide_eq_true hb.2
    rw [modO_ok h1, bs]
    have a1 := Int.emod_nonneg n (show (op.length : Int) ≠ 0 by omega)
    have a2 := Int.emod_lt_of_pos n h1
    generalize n % (op.length : Int) = k at a1 a2
    have ek : op[k.toNat]? = some (op[k.toNat]'(by omega)) := List.getElem?_eq_getElem (by omega)
    generalize (op[k.toNat]'(by omega)) = p at ek
    have hp := pop_perm ek
    have hl : (op.eraseIdx k.toNat).length + 1 = op.length := by
      have := hp.length_eq
      rw [List.length_cons] at this
      exact this
    unfold popNO
    rw [if_pos ⟨a1, by omega, a2⟩, ek]
    generalize op.eraseIdx k.toNat = r at hp hl
    rw [Option.map_some, bs, bs]
    have hpl : (p :: (fd ++ r)).Perm (fd ++ op) := (List.perm_middle (a := p) (l₁ := fd) (l₂ := r)).symm.trans (hp.append_left fd)
    have ap2 := ap.perm hpl
    have hpin := ap2.pin p List.mem_cons_self
    obtain ⟨x, y, w, q, u⟩ := p
    dsimp only
    by_cases c0 : n / 64 % 8 = 0
    · rw [if_pos (decide_eq_true c0), appO_ok (by omega), bs]
      refine ⟨_, rfl, ⟨ap2.perm ?_, ?_⟩⟩
      · show ((fd ++ [(x, y, w, q, ())]) ++ r).Perm _
        rw [List.append_assoc]
        exact List.perm_middle
      · show ((fd ++ [(x, y, w, q, ())]) ++ r).length ≤ 60
        rw [List.length_append, List.length_append, List.length_singleton]
        omega
    · rw [if_neg (by rw [decide_eq_true_eq]; exact c0)]
      obtain ⟨x0, y0, w1, q1, f1, f2⟩ := hpin
      have x0 : 0 ≤ x := x0
      have w1 : 1 ≤ w := w1
      have f1 : x + w ≤ W := f1
      by_cases c1 : n / 64 % 8 = 1
      · rw [if_pos (decide_eq_true c1)]
        by_cases c2 : 1 < w
        · rw [if_pos (decide_eq_true c2), appO_ok (by omega), bs]
          have t1 : 0 ≤ n / 512 % 2 ∧ n / 512 % 2 ≤ 1 := by omega
          generalize n / 512 % 2 = e at t1
          refine ⟨_, rfl, ⟨?_, ?_⟩⟩
          · show Ap W H (fd ++ (r ++ [(x + e, y, w - 1, q, ())]))
            rw [← List.append_assoc]
            refine ap2.part (List.pairwise_singleton _ _) fun b hb => ?_
            rw [List.mem_singleton.mp hb]
            refine ⟨fun c hc => ?_, ⟨(show 0 ≤ x + e by omega), y0, (show 1 ≤ w - 1 by omega), q1, ⟨(show x + e + (w - 1) ≤ W by omega), f2⟩⟩⟩
            obtain ⟨⟨b1, b2⟩, b3⟩ := hc
            have b1 : x + e ≤ c.1 := b1
            have b2 : c.1 < x + e + (w - 1) := b2
            exact ⟨⟨(show x ≤ c.1 by omega), (show c.1 < x + w by omega)⟩, b3⟩
          · show (fd ++ (r ++ [_])).length ≤ 60
            rw [List.length_append, List.length_append, List.length_singleton]
            omega
        · rw [if_neg (by rw [decide_eq_true_eq]; exact c2)]
          refine ⟨_, rfl, ⟨?_, ?_⟩⟩
          · have := ap2.part (Q := []) List.Pairwise.nil (fun b hb => absurd hb List.not_mem_nil)
            rwa [List.append_nil] at this
          · show (fd ++ r).length ≤ 60
            rw [List.length_append]
            omega
      · rw [if_neg (by rw [decide_eq_true_eq]; exact c1)]
        obtain ⟨Q, eQ, hQl, hQ1, hQ2⟩ := parted_ok (W := W) (H := H) (p := (x, y, w, q, ())) (n := n / 512) ⟨x0, y0, w1, q1, f1, f2⟩
        rw [eQ, bs, catO_ok (by omega), bs, bs]
        refine ⟨_, rfl, ⟨?_, ?_⟩⟩
        · show Ap W H (fd ++ (r ++ Q))
          rw [← List.append_assoc]
          exact ap2.part hQ1 hQ2
        · show (fd ++ (r ++ Q)).length ≤ 60
          rw [List.length_append, List.length_append]
          omega
  · rw [if_neg h]
    exact ⟨_, rfl, ap, by rw [List.length_append]; exact le⟩
theorem places_ok {W H : Int} (hW : 1 ≤ W) (hH : 1 ≤ H) (cells : List Int) : ∃ L, m__law_places W H (Fz.mk cells) = some L ∧ Ap W H L ∧ L.length ≤ 60 := by
  unfold m__law_places
  rw [bs, bs]
  obtain ⟨s, e, hs⟩ := forS_inv (f := m__law_places_L1) (fun _ s => Ops W H s) (xs := cells) (s := (([] : List P4), [((0 : Int), (0 : Int), W, H, ())])) ⟨⟨List.pairwise_singleton _ _, fun p hp => by
    rw [List.mem_singleton.mp hp]
    exact ⟨Int.le_refl _, Int.le_refl _, hW, hH, ⟨(show 0 + W ≤ W by omega), (show 0 + H ≤ H by omega)⟩⟩⟩, by show (1 : Nat) ≤ 60; decide⟩ (fun cell rest s hs => by
    obtain ⟨l, e0, hl⟩ := numbers_ok cell 3 (by omega) (by omega)
    obtain ⟨s2, e2, h2⟩ := forS_inv (f := m__law_places_L2) (fun _ s => Ops W H s) (xs := l) hs (fun n rest s hs => open_step n hs)
    obtain ⟨fd, op⟩ := s
    unfold m__law_places_L1
    dsimp only
    rw [e0, bs, e2]
    exact ⟨s2, rfl, h2⟩)
  obtain ⟨fd, op⟩ := s
  have le : (fd ++ op).length ≤ 60 := hs.le
  rw [List.length_append] at le
  rw [e, bs]
  dsimp only
  rw [catO_ok (by omega), bs]
  have ec : cut (fd ++ op) none (some (60 : Int)) = (fd ++ op).take 60 := cut_to _ 60
  rw [ec, List.take_of_length_le (by rw [List.length_append]; exact le)]
  exact ⟨_, rfl, hs.ap, by rw [List.length_append]; exact le⟩
/-! the law's own drawing -/
theorem forS_append {β Sx : Type} {g : β → Sx → Option Sx} {b : List β} : ∀ (a : List β) (s : Sx), forS g (a ++ b) s = (forS g a s).bind fun s' => forS g b s'
  | [], s => rfl
  | x :: xs, s => by
    rw [List.cons_append]
    show ((g x s).bind _) = (((g x s).bind _).bind _)
    cases e : g x s with
    | none => rfl
    | some t =>
      rw [bs, bs]
      exact forS_append (b := b) xs t
theorem forS_flat {β γ Sx : Type} {f : β → Sx → Option Sx} {g : γ → Sx → Option Sx} {xs : β → List γ} : ∀ (ys : List β), (∀ b ∈ ys, ∀ s, f b s = forS g (xs b) s) → ∀ s, forS f ys s = forS g (ys.flatMap xs) s
  | [], _, s => rfl
  | y :: ys, h, s => by
    rw [List.flatMap_cons, forS_append]
    show ((f y s).bind _) = _
    rw [h y List.mem_cons_self]
    cases e : forS g (xs y) s with
    | none => rfl
    | some t => exact forS_flat ys (fun b hb' => h b (List.mem_cons_of_mem _ hb')) t
theorem forS_map {β γ Sx : Type} {g : γ → Sx → Option Sx} {q : β → γ} : ∀ (ys : List β) (s : Sx), forS g (ys.map q) s = forS (fun b => g (q b)) ys s
  | [], s => rfl
  | y :: ys, s => by
    rw [List.map_cons]
    show ((g (q y) s).bind _) = ((g (q y) s).bind _)
    cases e : g (q y) s with
    | none => rfl
    | some t => exact forS_map ys t
theorem forS_id {β Sx : Type} {g : β → Sx → Option Sx} {a : List β} {s : Sx} : ((forS g a s).bind fun t => some t) = forS g a s := by
  cases forS g a s <;> rfl
theorem law_cells {W H : Int} {k : Nat} (hk : k < 60) : ∀ (cs : List Cl) (G : Cl → Str), (∀ c ∈ cs, InF W H c) →
    forS (fun (c : Cl) rows => m_law_L4 (k : Int) SIGNS c.2.1 c.1 rows) cs (gridOf W H G) = some (gridOf W H fun d => if d ∈ cs then sgK k else G d)
  | [], G, _ => by
    have e : (fun d => if d ∈ ([] : List Cl) then sgK k else G d) = G := by
      funext d
      exact if_neg List.not_mem_nil
    rw [e]
    rfl
  | c :: cs, G, h => by
    obtain ⟨⟨x0, x1⟩, y0, y1⟩ := h c List.mem_cons_self
    have e1 : m_law_L4 (k : Int) SIGNS c.2.1 c.1 (gridOf W H G) = some (gridOf W H fun d => if d = c then sgK k else G d) := by
      unfold m_law_L4
      rw [sg_ix hk, bs]
      have e3 := grid_set (G := G) (v := sgK k) y0 y1 x0 x1
      rw [e3]
      rfl
    refine Eq.trans (forS_cons (s' := gridOf W H fun d => if d = c then sgK k else G d) e1) ?_
    refine Eq.trans (law_cells hk cs _ fun d hd => h d (List.mem_cons_of_mem _ hd)) ?_
    congr 2
    funext d
    by_cases e3 : d = c
    · rw [if_pos (show d ∈ c :: cs by rw [e3]; exact List.mem_cons_self), if_pos e3]
      by_cases e4 : d ∈ cs
      · rw [if_pos e4]
      · rw [if_neg e4]
    · rw [if_neg e3]
      by_cases e4 : d ∈ cs
      · rw [if_pos e4, if_pos (List.mem_cons_of_mem _ e4)]
      · rw [if_neg e4, if_neg (fun z => (List.mem_cons.mp z).elim e3 e4)]
theorem law_place {W H : Int} {k : Nat} {name : Str} {p : P4} {places : Dc Str P4} (hk : k < 60) (hp : getD places.l name = some p) (h : Pk p) (hf : InFl W H p) (G : Cl → Str) :
    m_law_L2 places SIGNS ((k : Int), name, ()) (gridOf W H G) = some (gridOf W H fun d => if d ∈ cellsR p then sgK k else G d) := by
  have hc2 : ∀ c ∈ cellsR p, InF W H c := fun c hc => by
    obtain ⟨⟨a1, a2⟩, a3, a4⟩ := mem_cells.mp hc
    obtain ⟨f1, f2⟩ := hf
    have := h.x0
    have := h.y0
    exact ⟨⟨by omega, by omega⟩, by omega, by omega⟩
  obtain ⟨x, y, w, q, u⟩ := p
  have x0 : 0 ≤ x := h.x0
  have x1 : x ≤ 1000 := h.x1
  have y0 : 0 ≤ y := h.y0
  have y1 : y ≤ 1000 := h.y1
  have w0 : 0 ≤ w := h.w0
  have w1 : w ≤ 1000 := h.w1
  have h0 : 0 ≤ q := h.h0
  have h1 : q ≤ 1000 := h.h1
  unfold m_law_L2
  show ((getD places.l name).bind _) = _
  rw [hp, bs, bs]
  show ((rngO _ _).bind _) = _
  rw [rngO_ok (by omega) (by omega) (by omega) (by omega), bs]
  have e : forS (m_law_L3 (k : Int) SIGNS x w) (irange y (y + q)) (gridOf W H G) = forS (fun (c : Cl) rows => m_law_L4 (k : Int) SIGNS c.2.1 c.1 rows) (cellsR (x, y, w, q, u)) (gridOf W H G) := by
    refine forS_flat (g := fun (c : Cl) rows => m_law_L4 (k : Int) SIGNS c.2.1 c.1 rows) (xs := fun r => (irange x (x + w)).map fun c => ((c, r, ()) : Cl)) _ (fun r hr s => ?_) _
    unfold m_law_L3
    rw [rngO_ok (by omega) (by omega) (by omega) (by omega), bs, forS_map]
    exact forS_id
  rw [e, law_cells hk _ G hc2]
  rfl
def enumK (k : Nat) (xs : List Str) : List (Int × Str × Unit) := xs.mapIdx fun i x => (((k + i : Nat) : Int), x, ())
theorem enumK_cons (k : Nat) (x : Str) (xs : List Str) : enumK k (x :: xs) = ((k : Int), x, ()) :: enumK (k + 1) xs := by
  unfold enumK
  rw [List.mapIdx_cons]
  congr 1
  congr 1
  funext i y
  rw [show k + (i + 1) = k + 1 + i by omega]
theorem enumI_K (xs : List Str) : enumI xs = enumK 0 xs := by
  unfold enumI enumK
  congr 1
  funext i y
  rw [Nat.zero_add]
theorem pk_of {W H : Int} (hW : W ≤ 200) (hH : H ≤ 200) {p : P4} (h : Pin W H p) : Pk p := by
  obtain ⟨x, y, w, q, u⟩ := p
  obtain ⟨x0, y0, w1, q1, f1, f2⟩ := h
  have x0 : 0 ≤ x := x0
  have y0 : 0 ≤ y := y0
  have w1 : 1 ≤ w := w1
  have q1 : 1 ≤ q := q1
  have f1 : x + w ≤ W := f1
  have f2 : y + q ≤ H := f2
  exact ⟨x0, (show x ≤ 1000 by omega), y0, (show y ≤ 1000 by omega), (show 0 ≤ w by omega), (show w ≤ 1000 by omega), (show 0 ≤ q by omega), (show q ≤ 1000 by omega)⟩
/-- both drawings, place by place -/
theorem both89 {W H : Int} (hW : W ≤ 200) (hH : H ≤ 200) {places : Dc Str P4} {pl : Str → P4} : ∀ (rest : List Str) (k : Nat) (G : Cl → Str), k + rest.length ≤ 60 →
    (∀ n ∈ rest, getD places.l n = some (pl n) ∧ Pin W H (pl n)) → rest.Pairwise (fun a b => Dj (pl a) (pl b)) → (∀ c, G c ≠ "." → ∀ n ∈ rest, ¬ inR (pl n) c) →
    ∃ G', forC (m_draw_L1 places) (enumK k rest) (gridOf W H G) = some (.nx (gridOf W H G')) ∧ forS (m_law_L2 places SIGNS) (enumK k rest) (gridOf W H G) = some (gridOf W H G') ∧
      ∀ c, (∀ j n, rest[j]? = some n → inR (pl n) c → G' c = sgK (k + j)) ∧ ((∀ n ∈ rest, ¬ inR (pl n) c) → G' c = G c)
  | [], k, G, _, _, _, _ => ⟨G, rfl, rfl, fun c => ⟨fun j n h => by simp at h, fun _ => rfl⟩⟩
  | n :: rest, k, G, hk, hp, hd, hG => by
    rw [List.length_cons] at hk
    obtain ⟨d1, d2⟩ := List.pairwise_cons.mp hd
    obtain ⟨h1, h2⟩ := hp n List.mem_cons_self
    have e1 := draw_place (W := W) (H := H) (k := k) (by omega) h1 (pk_of hW hH h2) h2.f G
    have e2 := law_place (W := W) (H := H) (k := k) (by omega) h1 (pk_of hW hH h2) h2.f G
    have hall : (cellsR (pl n)).all (fun c => decide (G c = ".")) = true := List.all_eq_true.mpr fun c hc => by
      by_cases z : G c = "."
      · exact decide_eq_true z
      · exact absurd (mem_cells.mp hc) (hG c z n List.mem_cons_self)
    rw [if_pos hall] at e1
    rw [enumK_cons, forC_cons e1, forS_cons e2]
    obtain ⟨G', a, b, own⟩ := both89 hW hH rest (k + 1) (fun d => if d ∈ cellsR (pl n) then sgK k else G d) (by omega) (fun m hm => hp m (List.mem_cons_of_mem _ hm)) d2 (fun c hc m hm hi => by
      by_cases z : c ∈ cellsR (pl n)
      · exact d1 m hm c ⟨mem_cells.mp z, hi⟩
      · exact hG c (fun y => hc ((if_neg z).trans y)) m (List.mem_cons_of_mem _ hm) hi)
    refine ⟨G', a, b, fun c => ?_⟩
    obtain ⟨o1, o2⟩ := own c
    refine ⟨fun j m hj hm => ?_, fun hno => ?_⟩
    · cases j with
      | zero =>
        have em : n = m := by simpa using hj
        subst em
        have ec : (fun d => if d ∈ cellsR (pl n) then sgK k else G d) c = sgK k := if_pos (mem_cells.mpr hm)
        exact (o2 fun m2 hm2 hi2 => d1 m2 hm2 c ⟨hm, hi2⟩).trans ec
      | succ j =>
        rw [show k + (j + 1) = k + 1 + j by omega]
        exact o1 j m (by simpa using hj) hm
    · refine (o2 fun m hm => hno m (List.mem_cons_of_mem _ hm)).trans ?_
      exact if_neg (fun z => hno n List.mem_cons_self (mem_cells.mp z))
theorem alone_ok {W H : Int} (hW : W ≤ 200) (hH : H ≤ 200) {places : Dc Str P4} {pl : Str → P4} {sk : List Str} (hs : skO places = some sk) (hl : sk.length ≤ 60) (hp : ∀ n ∈ sk, getD places.l n = some (pl n) ∧ Pin W H (pl n)) : m_look_alone W H places = some (.ok Nn.nn) := by
  have ec : cut sk (some (60 : Int)) none = [] := by
    rw [show (60 : Int) = ((60 : Nat) : Int) from rfl, cut_from]
    exact List.drop_eq_nil_of_le hl
  unfold m_look_alone
  rw [len_signs, bs, hs, bs, ec]
  rw [show forC m_look_alone_L1 [] () = some (Ctl.nx ()) from rfl, bs]
  show (Option.bind (forC (m_look_alone_L2 W H places) sk ()) _) = _
  rw [forC_all (fun n hn => by
    rw [bad_own (hp n hn).1 (pk_of hW hH (hp n hn).2)]
    obtain ⟨x0, y0, w1, q1, f1, f2⟩ := (hp n hn).2
    rw [if_neg]
    unfold badP
    rw [decide_eq_false (show ¬ (pl n).2.2.1 = 0 by omega), decide_eq_false (show ¬ (pl n).2.2.2.1 = 0 by omega), decide_eq_false (show ¬ W < (pl n).1 + (pl n).2.2.1 by omega), decide_eq_false (show ¬ H < (pl n).2.1 + (pl n).2.2.2.1 by omega)]
    exact fun z => nomatch z)]
  rfl
theorem dots {W H : Int} (hW : 1 ≤ W ∧ W ≤ 200) (hH : 1 ≤ H ∧ H ≤ 200) : lcM (fun _ => some true) (fun (row : Int) => ((repO ([("." : Str)] : List Str) W).bind fun rep_37 => some rep_37)) (irange 0 H) = some (gridOf W H fun _ => ".") := by
  rw [lcM_all (fun _ => (irange 0 W).map fun _ => (".": Str)) (by rw [irange_len]; omega) (fun r _ => by
    unfold repO
    rw [if_pos ⟨by omega, by omega, by show 1 * W.toNat ≤ 1000000; omega⟩, bs]
    congr 1
    have : (irange 0 W).map (fun _ => (".": Str)) = List.replicate W.toNat (".": Str) := by
      rw [List.map_const', irange_len, Int.sub_zero]
    rw [this]
    generalize W.toNat = k
    induction k with
    | zero => rfl
    | succ k ih =>
      rw [List.replicate_succ, List.replicate_succ, List.flatten_cons, ih]
      rfl)]
  rfl
def plOf (d : Dc Str P4) (n : Str) : P4 := (getD d.l n).getD (0, 0, 0, 0, ())
theorem getD_of_mem {β : Type} : ∀ {l : List (Str × β)} {n : Str} {y : β}, (l.map (·.1)).Nodup → (n, y) ∈ l → getD l n = some y
  | [], _, _, _, h => absurd h List.not_mem_nil
  | kv :: r, n, y, nd, h => by
    rw [List.map_cons, List.nodup_cons] at nd
    rcases List.mem_cons.mp h with e | h
    · rw [← e]
      exact getD_pos rfl
    · rw [getD_neg]
      · exact getD_of_mem nd.2 h
      · intro z
        exact nd.1 (z ▸ List.mem_map.mpr ⟨(n, y), h, rfl⟩)
theorem qeD_ok {β : Type} [Rp β] [Qe β] {a b : Dc Str β} (hl : a.l.length = b.l.length) (h : ∀ kv ∈ a.l, ∃ y, getD b.l kv.1 = some y ∧ Qe.qe kv.2 y = true) : Qe.qe a b = true := by
  show (decide (a.l.length = b.l.length) && a.l.all _) = true
  rw [Bool.and_eq_true]
  refine ⟨decide_eq_true hl, List.all_eq_true.mpr fun kv hkv => ?_⟩
  obtain ⟨y, e, q⟩ := h kv hkv
  show (match getD b.l kv.1 with | some y => Qe.qe kv.2 y | none => false) = true
  rw [e]
  exact q
theorem qeP4 (p : P4) : Qe.qe p p = true := by
  obtain ⟨a, b, c, d, u⟩ := p
  show (decide (a = a) && (decide (b = b) && (decide (c = c) && (decide (d = d) && true)))) = true
  rw [decide_eq_true rfl, decide_eq_true rfl, decide_eq_true rfl, decide_eq_true rfl]
  rfl
theorem qe_self {d : Dc Str P4} (nd : (d.l.map (·.1)).Nodup) : Qe.qe d d = true :=
  qeD_ok rfl fun kv hkv => ⟨kv.2, getD_of_mem nd hkv, qeP4 _⟩
theorem getD_zip : ∀ {ns : List Str} {L : List P4} {i : Nat} {n : Str} {p : P4}, ns[i]? = some n → L[i]? = some p → ns.Nodup → getD (ns.zip L) n = some p
  | [], _, _, _, _, h, _, _ => by simp at h
  | _ :: _, [], _, _, _, _, h, _ => by simp at h
  | m :: ns, q :: L, 0, n, p, h1, h2, _ => by
    cases Option.some.inj h1
    cases Option.some.inj h2
    exact getD_pos rfl
  | m :: ns, q :: L, i + 1, n, p, h1, h2, nd => by
    have nd := List.nodup_cons.mp nd
    have h1 : ns[i]? = some n := h1
    show getD ((m, q) :: ns.zip L) n = some p
    rw [getD_neg (p := (m, q)) (fun z => nd.1 (show m ∈ ns from (show m = n from z) ▸ List.mem_of_getElem? h1))]
    exact getD_zip h1 h2 nd.2
theorem law_main (ns : List Int) (hl : ns.length ≤ 63) : m_law (Fz.mk ns) = some true := by
  obtain ⟨c0, e0⟩ := cell_at (ns := ns) 0 (by omega)
  obtain ⟨c1, e1⟩ := cell_at (ns := ns) 1 (by omega)
  obtain ⟨c2, e2⟩ := cell_at (ns := ns) 2 (by omega)
  unfold m_law
  rw [e0, bs, bs, e1, bs, bs]
  have hW : 1 ≤ 1 + c0 % 40 ∧ 1 + c0 % 40 ≤ 40 := by omega
  have hH : 1 ≤ 1 + c1 % 40 ∧ 1 + c1 % 40 ≤ 40 := by omega
  generalize 1 + c0 % 40 = W at hW
  generalize 1 + c1 % 40 = H at hH
  obtain ⟨L, eL, ap, Ll⟩ := places_ok (W := W) (H := H) hW.1 hH.1 (cut ns (some (3 : Int)) (some (63 : Int)))
  rw [eL, bs, bs, e2, bs]
  obtain ⟨nm, en, nl, nnd, nok⟩ := names_ok c2 (L.length : Int) (by omega) (by omega)
  rw [en, bs, bs]
  rw [Int.toNat_natCast] at nl
  obtain ⟨d, ed, hd⟩ := forS_ix (f := m_law_L1 L) (xs := enumI nm) (fun i (d : Dc Str P4) => d.l = (nm.take i).zip (L.take i)) (s := Dc.mk []) rfl (fun i hi d hd => by
    rw [enumI_len] at hi
    rw [enumI_at]
    have hnn : nm[i] ∉ d.l.map (·.1) := fun z => by
      rw [hd] at z
      obtain ⟨kv, hkv, e⟩ := List.mem_map.mp z
      have := (List.of_mem_zip hkv).1
      obtain ⟨j, hj⟩ := List.mem_iff_getElem?.mp this
      have hji : j < i := by
        have := (List.getElem?_eq_some_iff.mp hj).1
        rw [List.length_take] at this
        omega
      rw [List.getElem?_take_of_lt hji] at hj
      obtain ⟨hj1, hj2⟩ := List.getElem?_eq_some_iff.mp hj
      exact (List.pairwise_iff_getElem.mp nnd) j i hj1 (by omega) hji (hj2.trans e)
    have hdl : d.l.length ≤ 60 := by
      rw [hd, List.length_zip, List.length_take]
      omega
    unfold m_law_L1
    dsimp only
    rw [atI_nat (List.getElem?_eq_getElem (show i < L.length by omega)), bs, putO_ok (by omega), putD_new hnn, bs]
    refine ⟨_, rfl, ?_⟩
    show d.l ++ [_] = _
    rw [hd, List.take_succ_eq_append_getElem hi, List.take_succ_eq_append_getElem (show i < L.length by omega), List.zip_append (by rw [List.length_take, List.length_take]; omega)]
    rfl)
  rw [ed, bs, bs, bs]
  rw [enumI_len] at hd
  have hd : d.l = nm.zip L := by rw [hd, List.take_of_length_le (Nat.le_refl _), List.take_of_length_le (by omega)]
  have hkeys : d.l.map (·.1) = nm := by rw [hd, List.map_fst_zip (by omega)]
  have hdl : d.l.length = nm.length := by rw [← hkeys, List.length_map]
  have hsk : skO d = some (srtD nm) := by
    unfold skO
    rw [if_pos (by omega), hkeys]
  have hperm : (srtD nm).Perm nm := srtD_perm _
  have es : srtDO nm = some (srtD nm) := by
    unfold srtDO
    rw [if_pos ⟨by omega, by decide⟩]
  generalize srtD nm = sk at hsk hperm es
  have hskl : sk.length ≤ 60 := by
    rw [hperm.length_eq]
    omega
  have hsknd : sk.Nodup := hperm.nodup_iff.mpr nnd
  have hix : ∀ n ∈ nm, ∃ (i : Nat) (h1 : i < nm.length) (h2 : i < L.length), n = nm[i] ∧ plOf d n = L[i] ∧ getD d.l n = some L[i] := fun n hn => by
    obtain ⟨i, hi, rfl⟩ := List.mem_iff_getElem.mp hn
    have := getD_zip (L := L) (List.getElem?_eq_getElem hi) (List.getElem?_eq_getElem (show i < L.length by omega)) nnd
    rw [← hd] at this
    refine ⟨i, hi, by omega, rfl, ?_, this⟩
    unfold plOf
    rw [this]
    rfl
  have hmem : ∀ n ∈ sk, getD d.l n = some (plOf d n) ∧ Pin W H (plOf d n) := fun n hn => by
    obtain ⟨i, h1, h2, _, a, b⟩ := hix n (hperm.mem_iff.mp hn)
    rw [a]
    exact ⟨b, ap.pin _ (List.getElem_mem h2)⟩
  have hdj : sk.Pairwise (fun a b => Dj (plOf d a) (plOf d b)) := by
    refine (hperm.pairwise_iff (fun {_ _} h => Dj.symm h)).mpr ?_
    refine List.pairwise_iff_getElem.mpr fun i j hi hj hij => ?_
    have a := getD_zip (L := L) (List.getElem?_eq_getElem hi) (List.getElem?_eq_getElem (show i < L.length by omega)) nnd
    have b := getD_zip (L := L) (List.getElem?_eq_getElem hj) (List.getElem?_eq_getElem (show j < L.length by omega)) nnd
    rw [← hd] at a b
    unfold plOf
    rw [a, b]
    exact (List.pairwise_iff_getElem.mp ap.pw) i j (by omega) (by omega) hij
  rw [rngO_ok (by omega) (by omega) (by omega) (by omega), bs, dots ⟨hW.1, by omega⟩ ⟨hH.1, by omega⟩, bs, bs, hsk, bs]
  obtain ⟨G, e3, e4, own⟩ := both89 (W := W) (H := H) (by omega) (by omega) (places := d) (pl := plOf d) sk 0 (fun _ => ".") (by omega) hmem hdj (fun c hc => absurd rfl hc)
  have e4 : forS (m_law_L2 d "abcdefghijklmnopqrstuvwxyzABCDEFGHIJKLMNOPQRSTUVWXYZ01234567") (enumI sk) (gridOf W H fun _ => ".") = some (gridOf W H G) := by
    rw [enumI_K]
    exact e4
  have hF : Fl1 W H G := ⟨hW.1, by omega, hH.1, by omega, fun c _ => by
    obtain ⟨o1, o2⟩ := own c
    by_cases z : ∃ n ∈ sk, inR (plOf d n) c
    · obtain ⟨n, hn, hi⟩ := z
      obtain ⟨j, hj⟩ := List.getElem?_of_mem hn
      rw [o1 j n hj hi]
      have : j < sk.length := (List.getElem?_eq_some_iff.mp hj).1
      exact one_sg (by omega)
    · rw [o2 fun n hn hi => z ⟨n, hn, hi⟩]
      exact one_dot⟩
  have hdraw : m_draw W H d = some (.ok (textOf W H G)) := by
    unfold m_draw
    rw [alone_ok (W := W) (H := H) (by omega) (by omega) hsk hskl hmem, bs]
    show ((rngO 0 H).bind _) = _
    rw [rngO_ok (by omega) (by omega) (by omega) (by omega), bs, dots ⟨hW.1, by omega⟩ ⟨hH.1, by omega⟩, bs, bs, hsk, bs, enumI_K, e3, bs]
    exact joins_ok hF
  rw [e4, bs, hdraw]
  show ((some (textOf W H G)).bind _) = _
  rw [bs, bs]
  have hj := joins_ok hF
  cases hz : lcM (fun _ => some true) (fun (row : List Str) => ((joinO ("" : Str) row).bind fun j => some j)) (gridOf W H G) with
  | none => rw [hz] at hj; cases hj
  | some zs =>
    rw [hz, bs] at hj
    rw [bs]
    cases hz2 : joinO ("\n" : Str) zs with
    | none => rw [hz2] at hj; cases hj
    | some j =>
      rw [hz2, bs] at hj
      have hj : j = textOf W H G := Er.ok.inj (Option.some.inj hj)
      subst hj
      rw [bs, bs, decide_eq_true rfl, qe_self (by rw [hkeys]; exact nnd)]
      rw [if_neg (show ¬ ((!true) || ((!true) || (!true))) = true from fun z => nomatch z), es, bs]
      rw [read_floor_ok (pl := plOf d) hF hskl hsknd (fun n hn => (hmem n hn).2) (fun c _ => by
        obtain ⟨o1, o2⟩ := own c
        refine ⟨fun j n hj hi => ?_, o2⟩
        have := o1 j n hj hi
        rwa [Nat.zero_add] at this)]
      show ((some (Dc.mk (sk.map fun n => (n, plOf d n)))).bind _) = _
      rw [bs, qeD_ok (by
        show (sk.map _).length = _
        rw [List.length_map, hperm.length_eq, hdl]) (fun kv hkv => by
        obtain ⟨m, hm, rfl⟩ := List.mem_map.mp hkv
        exact ⟨_, (hmem m hm).1, qeP4 _⟩)]
end Wk89
set_option synthInstance.maxHeartbeats 4000000
set_option synthInstance.maxSize 20000
open PySem PySem.W PyProof.Rows in
set_option maxRecDepth 100000 in
set_option maxHeartbeats 0 in
theorem PySem.Challenge.cw_boxgalley_k89_whole_drawn_and_read_back_holds : PySem.Challenge.rw_boxgalley_k89_whole_drawn_and_read_back.Holds := by
  w_on; o_law; k_head; (case hw => w_witness2)
  k_fill
  refine L2.walk_of (l := PySem.Challenge.rw_boxgalley_k89_whole_drawn_and_read_back) (n := 63) (k := 5) (x := "_law_script") (CX := fun _ => L2.CX0) (sp := fun w => Wk89.spLaw _) rfl (by decide) rfl ⟨rfl, by decide, by decide⟩ (fun w h Y => PySem.W.kIn_of Y) ?F (fun _ _ a ns hl _ hS => ⟨a, ns, rfl, hS, hl, fun _ => rfl⟩) (fun _ _ _ _ _ h => h)
  case F =>
    intro w mg fa h KX G hmg
    refine' Wk89.all_mk Wk89.law_main KX G hmg ?a_look_alone ?l_look_alone ?c_look_alone ?k_look_alone ?a_draw ?l_draw ?c_draw ?k_draw ?a_rows_of_floor ?l_rows_of_floor ?c_rows_of_floor ?k_rows_of_floor ?a_read_floor ?l_read_floor ?c_read_floor ?k_read_floor ?a__law_cell_at ?l__law_cell_at ?c__law_cell_at ?k__law_cell_at ?a__law_numbers ?l__law_numbers ?c__law_numbers ?k__law_numbers ?a__law_names ?l__law_names ?c__law_names ?k__law_names ?a__law_parted ?l__law_parted ?c__law_parted ?k__law_parted ?a__law_places ?l__law_places ?c__law_places ?k__law_places ?a_law ?l_law ?c_law ?k_law ?aC_NoFloor ?aC_BoxError ?aC_NoRead ?xl_NoFloor ?fi_NoFloor_init ?il_NoFloor ?ic_NoFloor ?ik_NoFloor ?it_NoFloor ?fi_NoFloor_name ?fi_NoFloor_setattr ?su_NoFloor_BaseException ?ty_NoFloor ?kc_NoFloor ?fi_NoFloor_getattribute ?fi_NoFloor_getattr ?hd_NoFloor ?sg_BoxError ?rd_BoxError ?fc_BoxError ?xP_NoRead ?kc_NoRead ?su_NoRead_BaseException ?ty_NoRead ?z_dict ?z_enumerate ?z_int ?z_isinstance ?z_len ?z_max ?z_min ?z_range ?z_sorted ?z_str ?ki_SIGNS ?ki_FREE ?ki_MOST
    (case a_look_alone => k_is)
    (case l_look_alone => k_is)
    (case c_look_alone => k_is)
    (case k_look_alone => k_is)
    (case a_draw => k_is)
    (case l_draw => k_is)
    (case c_draw => k_is)
    (case k_draw => k_is)
    (case a_rows_of_floor => k_is)
    (case l_rows_of_floor => k_is)
    (case c_rows_of_floor => k_is)
    (case k_rows_of_floor => k_is)
    (case a_read_floor => k_is)
    (case l_read_floor => k_is)
    (case c_read_floor => k_is)
    (case k_read_floor => k_is)
    (case a__law_cell_at => k_is)
    (case l__law_cell_at => k_is)
    (case c__law_cell_at => k_is)
    (case k__law_cell_at => k_is)
    (case a__law_numbers => k_is)
    (case l__law_numbers => k_is)
    (case c__law_numbers => k_is)
    (case k__law_numbers => k_is)
    (case a__law_names => k_is)
    (case l__law_names => k_is)
    (case c__law_names => k_is)
    (case k__law_names => k_is)
    (case a__law_parted => k_is)
    (case l__law_parted => k_is)
    (case c__law_parted => k_is)
    (case k__law_parted => k_is)
    (case a__law_places => k_is)
    (case l__law_places => k_is)
    (case c__law_places => k_is)
    (case k__law_places => k_is)
    (case a_law => k_is)
    (case l_law => k_is)
    (case c_law => k_is)
    (case k_law => k_is)
    (case aC_NoFloor => k_is)
    (case aC_BoxError => k_is)
    (case aC_NoRead => k_is)
    (case xl_NoFloor => k_is)
    (case fi_NoFloor_init => k_is)
    (case il_NoFloor => k_is)
    (case ic_NoFloor => k_is)
    (case ik_NoFloor => k_is)
    (case it_NoFloor => k_is)
    (case fi_NoFloor_name => k_is)
    (case fi_NoFloor_setattr => k_is)
    (case su_NoFloor_BaseException => k_is)
    (case ty_NoFloor => k_is)
    (case kc_NoFloor => k_is)
    (case fi_NoFloor_getattribute => k_is)
    (case fi_NoFloor_getattr => k_is)
    (case hd_NoFloor => k_is)
    (case sg_BoxError => k_is)
    (case rd_BoxError => k_is)
    (case fc_BoxError => k_is)
    (case xP_NoRead => k_exc)
    (case kc_NoRead => k_is)
    (case su_NoRead_BaseException => k_is)
    (case ty_NoRead => k_is)
    (case z_dict => k_is)
    (case z_enumerate => k_is)
    (case z_int => k_is)
    (case z_isinstance => k_is)
    (case z_len => k_is)
    (case z_max => k_is)
    (case z_min => k_is)
    (case z_range => k_is)
    (case z_sorted => k_is)
    (case z_str => k_is)
    (case ki_SIGNS => k_is)
    (case ki_FREE => k_is)
    (case ki_MOST => k_is)
