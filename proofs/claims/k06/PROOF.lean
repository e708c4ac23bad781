import PyProof.Rows.All
import Wide.All
import OpenK.AllK
import Wide.FinOn
import HandS.ForMost
import HandS.Evl
import HandS.Wide
import HandS.IsInst
import HandS.SortInts
import HandS.TupAny
import HandS.Dict
import HandS.More
import KE.KDictPairs
import KE.KDictCopyH
import HandS.ForExc
import HandS.ExcInit
import HandS.ExcField
import HandS.Iter
import KE.KExcIs
import HandS.Style
import KE.SortData
import HandS.Sort
import HandS.StrMore
import PyProof.SumAny
import HandS.DictComp
import HandS.Text
import HandS.RaiseMore
import HandS.TryMany
import HandS.ExcValue
import HandS.SortKw
import KE.DataMinMax
import KE.GoesEnum
import KE.GoesMore
import HandS.Zip
import PySem.Challenge.RW_boxgalley_k06_what_is_a_tree
set_option Elab.async false
set_option linter.all false
set_option maxRecDepth 100000
set_option maxHeartbeats 2000000
/-! Wk: typed mirrors over the hand layer: what a value stands for, a state by slots and owned objects, one rule a construct. -/
namespace Wk
open PySem PySem.Spec L2 Evl

abbrev Fg := PySem.W.Frag
def isDk : HO → Prop
  | .dK _ => True
  | .dT _ => True
  | _ => False
/-- all that stood stands; a dict may be locked, or set free again -/
def Sw (H H' : Hp) : Prop := ∀ q u, H q = some u → H' q = some u ∨ ∃ o w, isDk w ∧ ((u = w ∧ H' q = some (.frz o w)) ∨ (u = .frz o w ∧ H' q = some w))
theorem Sw.of {H H' : Hp} (e : Ex H H') : Sw H H' := fun q u h => .inl (e q u h)
theorem Sw.keep {H H' : Hp} (e : Sw H H') {q : Addr} {u : HO} (h : H q = some u) (n1 : ¬ isDk u) (n2 : ∀ o w, u ≠ .frz o w) : H' q = some u := by
  rcases e q u h with h | ⟨o, w, hw, ⟨rfl, _⟩ | ⟨h, _⟩⟩
  · exact h
  · exact absurd hw n1
  · exact absurd h (n2 o w)
theorem Sw.lst {H H' : Hp} (e : Sw H H') {q : Addr} {vs : List V} (h : H q = some (.lst vs)) : H' q = some (.lst vs) := e.keep h (fun z => z) (fun _ _ z => nomatch z)
theorem Sw.tup {H H' : Hp} (e : Sw H H') {q : Addr} {vs : List V} (h : H q = some (.tup vs)) : H' q = some (.tup vs) := e.keep h (fun z => z) (fun _ _ z => nomatch z)
theorem Sw.rdl {H H' : Hp} (e : Sw H H') {q : Addr} {u : HO} (h : Rd H q u) (n1 : ¬ isDk u) (n2 : ∀ o w, u ≠ .frz o w) : Rd H' q u := by
  rcases h with h | ⟨o, h⟩
  · exact .inl (e.keep h n1 n2)
  · rcases e q _ h with h | ⟨o2, w, hw, ⟨z, _⟩ | ⟨h, h2⟩⟩
    · exact .inr ⟨o, h⟩
    · subst z
      exact False.elim hw
    · cases h
      exact absurd hw n1
theorem Sw.rd {H H' : Hp} (e : Sw H H') {q : Addr} {u : HO} (h : Rd H q u) (n1 : isDk u) : Rd H' q u := by
  have n2 : ∀ o w, u ≠ .frz o w := fun o w z => by
    subst z
    exact n1
  rcases h with h | ⟨o, h⟩
  · rcases e q _ h with h | ⟨o2, w, hw, ⟨rfl, h⟩ | ⟨h, _⟩⟩
    · exact .inl h
    · exact .inr ⟨o2, h⟩
    · exact absurd h (n2 _ _)
  · rcases e q _ h with h | ⟨o2, w, hw, ⟨z, _⟩ | ⟨h, h2⟩⟩
    · exact .inr ⟨o, h⟩
    · subst z
      exact False.elim hw
    · cases h
      exact .inl h2
theorem Sw.l {K : Fg} {H H' : Hp} (e : Sw H H') {a : Addr} {xs : List V} (h : SqL K H a xs) : SqL K H' a xs := by
  rcases h with h | h
  · exact .inl (e.rdl h (fun z => z) (fun _ _ z => nomatch z))
  · exact .inr h
theorem Sw.t {K : Fg} {H H' : Hp} (e : Sw H H') {a : Addr} {xs : List V} (h : SqT K H a xs) : SqT K H' a xs := by
  rcases h with h | h
  · exact .inl (e.rdl h (fun z => z) (fun _ _ z => nomatch z))
  · exact .inr h
/-- v stands for a, by what is known in H -/
class Rp (α : Type) where
  rep : Fg → Hp → V → α → Prop
  swap : ∀ {K : Fg} {H H' : Hp} {v : V} {a : α}, Sw H H' → rep K H v a → rep K H' v a
theorem Rp.mono {α : Type} [i : Rp α] {K : Fg} {H H' : Hp} {v : V} {a : α} (e : Ex H H') (h : Rp.rep K H v a) : Rp.rep K H' v a := i.swap (.of e) h
/-- the places of a tuple | the arguments of a call -/
class Tp (τ : Type) where
  n : Nat
  rept : Fg → Hp → List V → τ → Prop
  len : ∀ {K : Fg} {H : Hp} {vs : List V} {t : τ}, rept K H vs t → vs.length = n
  swap : ∀ {K : Fg} {H H' : Hp} {vs : List V} {t : τ}, Sw H H' → rept K H vs t → rept K H' vs t
theorem Tp.mono {τ : Type} [i : Tp τ] {K : Fg} {H H' : Hp} {vs : List V} {t : τ} (e : Ex H H') (h : Tp.rept K H vs t) : Tp.rept K H' vs t := i.swap (.of e) h
abbrev rep {α : Type} [Rp α] (K : Fg) (H : Hp) (v : V) (a : α) : Prop := Rp.rep K H v a
abbrev rept {τ : Type} [Tp τ] (K : Fg) (H : Hp) (vs : List V) (t : τ) : Prop := Tp.rept K H vs t
/-- what needs no heap -/
class Fl (α : Type) [Rp α] where
  toV : α → V
  iff : ∀ {K : Fg} {H : Hp} {v : V} {a : α}, Rp.rep K H v a ↔ v = toV a

inductive Nn where | nn
  deriving DecidableEq
instance rpInt : Rp Int := { rep := fun _ _ v a => v = .int a, swap := fun _ h => h }
instance : Fl Int := { toV := V.int, iff := Iff.rfl }
instance rpBool : Rp Bool := { rep := fun _ _ v a => v = .bl a, swap := fun _ h => h }
instance : Fl Bool := { toV := V.bl, iff := Iff.rfl }
instance rpStr : Rp Str := { rep := fun _ _ v a => v = .str a, swap := fun _ h => h }
instance : Fl Str := { toV := V.str, iff := Iff.rfl }
instance rpNn : Rp Nn := { rep := fun _ _ v _ => v = .non, swap := fun _ h => h }
instance : Fl Nn := { toV := fun _ => V.non, iff := Iff.rfl }
/-- None, or something -/
instance {α : Type} [Rp α] : Rp (Option α) where
  rep K H v a := match a with | none => v = .non | some x => v ≠ .non ∧ rep K H v x
  swap {K H H' v a} e h := match a, h with
    | none, h => h
    | some _, h => ⟨h.1, Rp.swap e h.2⟩

theorem paired_mono {α : Type} [Rp α] {K : Fg} {H H' : Hp} (e : Ex H H') {vs : List V} {xs : List α} (h : Paired (rep K H) vs xs) : Paired (rep K H') vs xs :=
  Paired.mapP h fun _ _ q => Rp.mono e q
theorem paired_swap {α : Type} [Rp α] {K : Fg} {H H' : Hp} (e : Sw H H') {vs : List V} {xs : List α} (h : Paired (rep K H) vs xs) : Paired (rep K H') vs xs :=
  Paired.mapP h fun _ _ q => Rp.swap e q
/-- a list that stands exactly so -/
instance {α : Type} [Rp α] : Rp (List α) where
  rep K H v xs := ∃ p vs, v = .ref p ∧ H p = some (.lst vs) ∧ Paired (rep K H) vs xs
  swap e h := by
    obtain ⟨p, vs, h1, h2, h3⟩ := h
    exact ⟨p, vs, h1, e.lst h2, paired_swap e h3⟩
/-- a list that is read (the script, a list of the top) -/
structure Fz (α : Type) where
  l : List α
instance {α : Type} [Rp α] : Rp (Fz α) where
  rep K H v xs := ∃ p vs, v = .ref p ∧ SqL K H p vs ∧ Paired (rep K H) vs xs.l
  swap e h := by
    obtain ⟨p, vs, h1, h2, h3⟩ := h
    exact ⟨p, vs, h1, e.l h2, paired_swap e h3⟩
/-- a tuple of the top -/
structure Kt (α : Type) where
  l : List α
instance {α : Type} [Rp α] : Rp (Kt α) where
  rep K H v xs := ∃ p vs, v = .ref p ∧ SqT K H p vs ∧ Paired (rep K H) vs xs.l
  swap e h := by
    obtain ⟨p, vs, h1, h2, h3⟩ := h
    exact ⟨p, vs, h1, e.t h2, paired_swap e h3⟩
/-- a tuple of alike things, of any length -/
structure Tu (α : Type) where
  l : List α
  deriving DecidableEq
instance {α : Type} [Rp α] : Rp (Tu α) where
  rep K H v xs := ∃ p vs, v = .ref p ∧ H p = some (.tup vs) ∧ Paired (rep K H) vs xs.l
  swap e h := by
    obtain ⟨p, vs, h1, h2, h3⟩ := h
    exact ⟨p, vs, h1, e.tup h2, paired_swap e h3⟩
instance : Tp Unit where
  n := 0
  rept _ _ vs _ := vs = []
  len h := by rw [h]; rfl
  swap _ h := h
instance {α τ : Type} [Rp α] [Tp τ] : Tp (α × τ) where
  n := Tp.n τ + 1
  rept K H vs t := ∃ v r, vs = v :: r ∧ rep K H v t.1 ∧ rept K H r t.2
  len h := by
    obtain ⟨v, r, h1, h2, h3⟩ := h
    rw [h1, List.length_cons, Tp.len h3]
  swap e h := by
    obtain ⟨v, r, h1, h2, h3⟩ := h
    exact ⟨v, r, h1, Rp.swap e h2, Tp.swap e h3⟩
/-- a tuple: (a, (b, (c, ()))) -/
instance {α τ : Type} [Rp α] [Tp τ] : Rp (α × τ) where
  rep K H v t := ∃ p vs, v = .ref p ∧ H p = some (.tup vs) ∧ rept K H vs t
  swap e h := by
    obtain ⟨p, vs, h1, h2, h3⟩ := h
    exact ⟨p, vs, h1, e.tup h2, Tp.swap e h3⟩

/-! ### the state -/
inductive Sl : Type 1 where
  | any
  | val (α : Type) (i : Rp α) (x : α)
  | at (p : Addr)
def sv {α : Type} [i : Rp α] (x : α) : Sl := .val α i x
def Sl.ok (K : Fg) (Kn : Hp) : Sl → Option V → Prop
  | .any, _ => True
  | .val _ i x, o => ∃ v, o = some v ∧ i.rep K Kn v x
  | .at p, o => o = some (.ref p)
def SlsOk (K : Fg) (Kn : Hp) : List Sl → St → Prop
  | [], [] => True
  | s :: ss, o :: os => s.ok K Kn o ∧ SlsOk K Kn ss os
  | _, _ => False
theorem Sl.ok_mono {K : Fg} {H H' : Hp} (e : Ex H H') : ∀ {s : Sl} {o : Option V}, s.ok K H o → s.ok K H' o
  | .any, _, _ => trivial
  | .val _ i _, _, ⟨v, h1, h2⟩ => ⟨v, h1, i.swap (.of e) h2⟩
  | .at _, _, h => h
theorem SlsOk.mono {K : Fg} {H H' : Hp} (e : Ex H H') : ∀ {ss : List Sl} {σ : St}, SlsOk K H ss σ → SlsOk K H' ss σ
  | [], [], _ => trivial
  | _ :: _, _ :: _, h => ⟨Sl.ok_mono e h.1, SlsOk.mono e h.2⟩
theorem Sl.ok_swap {K : Fg} {H H' : Hp} (e : Sw H H') : ∀ {s : Sl} {o : Option V}, s.ok K H o → s.ok K H' o
  | .any, _, _ => trivial
  | .val _ i _, _, ⟨v, h1, h2⟩ => ⟨v, h1, i.swap e h2⟩
  | .at _, _, h => h
theorem SlsOk.swap {K : Fg} {H H' : Hp} (e : Sw H H') : ∀ {ss : List Sl} {σ : St}, SlsOk K H ss σ → SlsOk K H' ss σ
  | [], [], _ => trivial
  | _ :: _, _ :: _, h => ⟨Sl.ok_swap e h.1, SlsOk.swap e h.2⟩
theorem SlsOk.get {K : Fg} {H : Hp} : ∀ {ss : List Sl} {σ : St} {i : Nat} {s : Sl}, SlsOk K H ss σ → ss[i]? = some s → ∃ o, σ[i]? = some o ∧ s.ok K H o
  | _ :: _, o :: _, 0, _, h, e => by
    cases Option.some.inj e
    exact ⟨o, rfl, h.1⟩
  | _ :: ss, _ :: os, i + 1, s, h, e => SlsOk.get (ss := ss) (σ := os) (i := i) h.2 e
theorem SlsOk.set {K : Fg} {H : Hp} {s : Sl} {o : Option V} (hs : s.ok K H o) : ∀ {ss : List Sl} {σ : St} (i : Nat), SlsOk K H ss σ → SlsOk K H (ss.set i s) (σ.set i o)
  | [], [], _, _ => trivial
  | _ :: _, _ :: _, 0, h => ⟨hs, h.2⟩
  | _ :: _, _ :: _, i + 1, h => ⟨h.1, SlsOk.set hs i h.2⟩
/-- less is known -/
inductive SlLe : List Sl → List Sl → Prop
  | nil : SlLe [] []
  | keep {s : Sl} {a b : List Sl} : SlLe a b → SlLe (s :: a) (s :: b)
  | drop {s : Sl} {a b : List Sl} : SlLe a b → SlLe (s :: a) (.any :: b)
theorem SlLe.refl : ∀ (a : List Sl), SlLe a a
  | [] => .nil
  | _ :: r => .keep (SlLe.refl r)
theorem SlsOk.le {K : Fg} {H : Hp} : ∀ {a b : List Sl} {σ : St}, SlLe a b → SlsOk K H a σ → SlsOk K H b σ
  | _, _, [], .nil, _ => trivial
  | _, _, _ :: _, .keep l, h => ⟨h.1, SlsOk.le l h.2⟩
  | _, _, _ :: _, .drop l, h => ⟨trivial, SlsOk.le l h.2⟩

/-- what an object stands for, by what is known in H -/
class Ob (γ : Type) where
  ob : Fg → Hp → HO → γ → Prop
  swap : ∀ {K : Fg} {H H' : Hp} {o : HO} {x : γ}, Sw H H' → ob K H o x → ob K H' o x
theorem Ob.mono {γ : Type} [i : Ob γ] {K : Fg} {H H' : Hp} {o : HO} {x : γ} (e : Ex H H') (h : Ob.ob K H o x) : Ob.ob K H' o x := i.swap (.of e) h
/-- an object of one's own, that may change -/
inductive Ow : Type 1 where
  | lst (p : Addr) (α : Type) (i : Rp α) (xs : List α)
  | obj (p : Addr) (γ : Type) (i : Ob γ) (x : γ)
def oo {γ : Type} [i : Ob γ] (p : Addr) (x : γ) : Ow := .obj p γ i x
def ol {α : Type} [i : Rp α] (p : Addr) (xs : List α) : Ow := .lst p α i xs
def Ow.ad : Ow → Addr
  | .lst p _ _ _ => p
  | .obj p _ _ _ => p
def Ow.ok (K : Fg) (Kn H : Hp) : Ow → Prop
  | .lst p _ i xs => ∃ vs, H p = some (.lst vs) ∧ Paired (i.rep K Kn) vs xs
  | .obj p _ i x => ∃ o, H p = some o ∧ i.ob K Kn o x
theorem Ow.ok_swap {K : Fg} {Kn Kn' H H' : Hp} (e : Sw Kn Kn') : ∀ {o : Ow}, H' o.ad = H o.ad → o.ok K Kn H → o.ok K Kn' H'
  | .lst _ _ i _, eh, ⟨vs, h1, h2⟩ => ⟨vs, eh.trans h1, Paired.mapP h2 fun _ _ q => i.swap e q⟩
  | .obj _ _ i _, eh, ⟨o, h1, h2⟩ => ⟨o, eh.trans h1, i.swap e h2⟩
theorem Ow.ok_mono {K : Fg} {Kn Kn' H H' : Hp} (e : Ex Kn Kn') {o : Ow} (eh : H' o.ad = H o.ad) (h : o.ok K Kn H) : o.ok K Kn' H' := Ow.ok_swap (.of e) eh h
theorem ne_none_of {H : Hp} {p : Addr} {o : HO} (h : H p = some o) : H p ≠ none := fun z => by
  rw [h] at z
  cases z
theorem Ow.there {K : Fg} {Kn H : Hp} : ∀ {o : Ow}, o.ok K Kn H → H o.ad ≠ none
  | .lst p _ _ _, h => by
    obtain ⟨vs, h, _⟩ := h
    exact ne_none_of (show H p = some (.lst vs) from h)
  | .obj p _ _ _, h => by
    obtain ⟨o, h, _⟩ := h
    exact ne_none_of (show H p = some o from h)
structure OwsOk (K : Fg) (F Kn H : Hp) (ow : List Ow) : Prop where
  each : ∀ o ∈ ow, F o.ad = none ∧ Kn o.ad = none ∧ o.ok K Kn H
  nd : (ow.map Ow.ad).Nodup

/-- the state: F stands untouched, Kn is known (by and by more), the slots, the objects of one's own -/
structure S (K : Fg) (F Kn0 : Hp) (sl : List Sl) (ow : List Ow) (σ : St) (Kn H : Hp) : Prop where
  e0 : Ex Kn0 Kn
  ek : Ex Kn H
  ef : Ex F H
  sep : ∀ p, F p ≠ none → Kn0 p = none → Kn p = none
  sl : SlsOk K Kn sl σ
  ow : OwsOk K F Kn H ow

/-- growth: nothing that stood is touched, nothing that stood unknown is known -/
structure Gr (Kn H Kn' H' : Hp) : Prop where
  kk : Ex Kn Kn'
  hh : Ex H H'
  kh : Ex Kn' H'
  sp : ∀ p, H p ≠ none → Kn p = none → Kn' p = none
theorem Gr.refl {Kn H : Hp} (e : Ex Kn H) : Gr Kn H Kn H := ⟨Ex.refl _, Ex.refl _, e, fun _ _ h => h⟩
theorem Ex.nn {H H' : Hp} (e : Ex H H') {p : Addr} (h : H p ≠ none) : H' p ≠ none := by
  cases q : H p with
  | none => exact absurd q h
  | some o => exact ne_none_of (e _ _ q)
theorem Ex.at_eq {H H' : Hp} (e : Ex H H') {p : Addr} (h : H p ≠ none) : H' p = H p := by
  cases q : H p with
  | none => exact absurd q h
  | some o => exact e _ _ q
theorem Gr.trans {Kn H Kn1 H1 Kn2 H2 : Hp} (a : Gr Kn H Kn1 H1) (b : Gr Kn1 H1 Kn2 H2) : Gr Kn H Kn2 H2 :=
  ⟨a.kk.trans b.kk, a.hh.trans b.hh, b.kh, fun p h1 h2 => b.sp p (Ex.nn a.hh h1) (a.sp p h1 h2)⟩
/-- a new object, known -/
theorem Gr.new {Kn H : Hp} {p : Addr} {o : HO} (e : Ex Kn H) (hp : H p = none) : Gr Kn H (upd Kn p o) (upd H p o) := by
  have kp : Kn p = none := fresh_back e hp
  refine ⟨Ex.new kp, Ex.new hp, fun a u h => ?_, fun q h1 h2 => ?_⟩
  · by_cases hq : a = p
    · subst hq
      rw [upd_same] at h ⊢
      exact h
    · rw [upd_ne hq] at h ⊢
      exact e _ _ h
  · have hq : q ≠ p := fun z => by
      subst z
      exact h1 hp
    rw [upd_ne hq]
    exact h2
/-- a new object, not known yet -/
theorem Gr.newU {Kn H : Hp} {p : Addr} {o : HO} (e : Ex Kn H) (hp : H p = none) : Gr Kn H Kn (upd H p o) :=
  ⟨Ex.refl _, Ex.new hp, e.trans (Ex.new hp), fun _ _ h2 => h2⟩
/-- what was new is known from now on -/
theorem Gr.know {Kn H Kn' H' : Hp} {p : Addr} {o : HO} (g : Gr Kn H Kn' H') (hp : H p = none) (kp : Kn' p = none) (hp' : H' p = some o) : Gr Kn H (upd Kn' p o) H' :=
  ⟨g.kk.trans (Ex.new kp), g.hh, fun a u h => by
    by_cases hq : a = p
    · subst hq
      rw [upd_same] at h
      rw [← h]
      exact hp'
    · rw [upd_ne hq] at h
      exact g.kh _ _ h, fun q h1 h2 => by
    have hq : q ≠ p := fun z => by
      subst z
      exact h1 hp
    rw [upd_ne hq]
    exact g.sp q h1 h2⟩

section
variable {K : Fg} {F Kn0 : Hp} {sl sl' : List Sl} {ow ow' : List Ow} {σ : St} {Kn H Kn' H' : Hp}
theorem S.grow (s : S K F Kn0 sl ow σ Kn H) (g : Gr Kn H Kn' H') : S K F Kn0 sl ow σ Kn' H' :=
  ⟨s.e0.trans g.kk, g.kh, s.ef.trans g.hh, fun p h1 h2 => g.sp p (Ex.nn s.ef h1) (s.sep p h1 h2), s.sl.mono g.kk,
    ⟨fun o ho => by
      obtain ⟨h1, h2, h3⟩ := s.ow.each o ho
      have h4 := Ow.there h3
      exact ⟨h1, g.sp _ h4 h2, Ow.ok_mono g.kk (Ex.at_eq g.hh h4) h3⟩, s.ow.nd⟩⟩
theorem S.le (s : S K F Kn0 sl ow σ Kn H) (l : SlLe sl sl') : S K F Kn0 sl' ow σ Kn H := ⟨s.e0, s.ek, s.ef, s.sep, s.sl.le l, s.ow⟩
theorem S.set (s : S K F Kn0 sl ow σ Kn H) {x : Sl} {o : Option V} (i : Nat) (h : x.ok K Kn o) : S K F Kn0 (sl.set i x) ow (σ.set i o) Kn H :=
  ⟨s.e0, s.ek, s.ef, s.sep, SlsOk.set h i s.sl, s.ow⟩
theorem S.setv (s : S K F Kn0 sl ow σ Kn H) {α : Type} [Rp α] {x : α} {v : V} (i : Nat) (h : rep K Kn v x) : S K F Kn0 (sl.set i (sv x)) ow (σ.set i (some v)) Kn H :=
  s.set i ⟨v, rfl, h⟩
/-- some objects are not named any more -/
theorem S.sub (s : S K F Kn0 sl ow σ Kn H) (l : ow'.Sublist ow) : S K F Kn0 sl ow' σ Kn H :=
  ⟨s.e0, s.ek, s.ef, s.sep, s.sl, ⟨fun o ho => s.ow.each o (l.subset ho), s.ow.nd.sublist (l.map _)⟩⟩
theorem S.fin (s : S K F Kn0 sl ow σ Kn H) : S K F Kn0 [] ow [] Kn H := ⟨s.e0, s.ek, s.ef, s.sep, trivial, s.ow⟩
end

/-! ### the judgements -/
section
variable (K : Fg) (F Kn0 : Hp) (sl : List Sl) (ow : List Ow)
def EV {α : Type} [Rp α] (te : TE) (x : α) : Prop := ∀ σ Kn H, S K F Kn0 sl ow σ Kn H → ∀ Q : VK, (∀ v Kn' H', Gr Kn H Kn' H' → rep K Kn' v x → Q v H') → te σ H Q
/-- a new list -/
def EN {α : Type} [Rp α] (te : TE) (xs : List α) : Prop := ∀ σ Kn H, S K F Kn0 sl ow σ Kn H → ∀ Q : VK,
  (∀ p ws Kn' H', Gr Kn H Kn' H' → H p = none → Kn' p = none → H' p = some (.lst ws) → Paired (rep K Kn') ws xs → Q (.ref p) H') → te σ H Q
/-- what is changed on the way is told: ow, then ow' -/
def EM {α : Type} [Rp α] (te : TE) (ow' : List Ow) (x : α) : Prop := ∀ σ Kn H, S K F Kn0 sl ow σ Kn H → ∀ Q : VK,
  (∀ v Kn' H', Ex Kn Kn' → S K F Kn0 sl ow' σ Kn' H' → rep K Kn' v x → Q v H') → te σ H Q
def ENM {α : Type} [Rp α] (te : TE) (ow' : List Ow) (xs : List α) : Prop := ∀ σ Kn H, S K F Kn0 sl ow σ Kn H → ∀ Q : VK,
  (∀ p ws Kn' H', Ex Kn Kn' → S K F Kn0 sl ow' σ Kn' H' → F p = none → Kn' p = none → (∀ o ∈ ow', o.ad ≠ p) → H' p = some (.lst ws) → Paired (rep K Kn') ws xs → Q (.ref p) H') → te σ H Q
def ET (tt : TT) (b : Bool) : Prop := ∀ σ Kn H, S K F Kn0 sl ow σ Kn H → ∀ Q : Bool → Hp → Prop, (∀ Kn' H', Gr Kn H Kn' H' → Q b H') → tt σ H Q
def EA {τ : Type} [Tp τ] (ta : TA) (t : τ) : Prop := ∀ σ Kn H, S K F Kn0 sl ow σ Kn H → ∀ Q : List V → Hp → Prop, (∀ vs Kn' H', Gr Kn H Kn' H' → rept K Kn' vs t → Q vs H') → ta σ H Q
def EAM {τ : Type} [Tp τ] (ta : TA) (ow' : List Ow) (t : τ) : Prop := ∀ σ Kn H, S K F Kn0 sl ow σ Kn H → ∀ Q : List V → Hp → Prop,
  (∀ vs Kn' H', Ex Kn Kn' → S K F Kn0 sl ow' σ Kn' H' → rept K Kn' vs t → Q vs H') → ta σ H Q
def SB (D : Ends) (ts : TS) : Prop := ∀ σ Kn H, S K F Kn0 sl ow σ Kn H → ts D σ H
/-- what is wanted of a return -/
def RT (R : VK) {α : Type} [Rp α] (x : α) : Prop := ∀ v Kn H, S K F Kn0 [] ow [] Kn H → rep K Kn v x → R v H
def RN (R : VK) {α : Type} [Rp α] (xs : List α) : Prop := ∀ p ws Kn H, S K F Kn0 [] ow [] Kn H → F p = none → Kn p = none → H p = some (.lst ws) → Paired (rep K Kn) ws xs → R (.ref p) H
end

section
variable {K : Fg} {F Kn0 : Hp} {sl sl' : List Sl} {ow ow1 ow2 : List Ow} {α β γ : Type} [Rp α] [Rp β] [Rp γ] {ta tb te : TE} {x : α} {y : β} {z : γ}
theorem EN.ev {xs : List α} (h : EN K F Kn0 sl ow te xs) : EV K F Kn0 sl ow te xs := fun σ Kn H s Q q => h σ Kn H s Q fun p ws Kn' H' g hp kp hw r =>
  q _ (upd Kn' p (.lst ws)) H' (g.know hp kp hw) ⟨p, ws, rfl, upd_same, paired_mono (Ex.new kp) r⟩
theorem EV.em (h : EV K F Kn0 sl ow te x) : EM K F Kn0 sl ow te ow x := fun σ Kn H s Q q => h σ Kn H s Q fun v Kn' H' g r => q v Kn' H' g.kk (s.grow g) r
theorem owned_ne {σ : St} {Kn H : Hp} (s : S K F Kn0 sl ow σ Kn H) {p : Addr} (hp : H p = none) : ∀ o ∈ ow, o.ad ≠ p := fun o ho z => by
  have := Ow.there (s.ow.each o ho).2.2
  rw [z] at this
  exact this hp
theorem EN.em {xs : List α} (h : EN K F Kn0 sl ow te xs) : ENM K F Kn0 sl ow te ow xs := fun σ Kn H s Q q => h σ Kn H s Q fun p ws Kn' H' g hp kp hw r =>
  q p ws Kn' H' g.kk (s.grow g) (fresh_back s.ef hp) kp (owned_ne s hp) hw r
theorem S.know {σ : St} {Kn H : Hp} (s : S K F Kn0 sl ow σ Kn H) {p : Addr} {o : HO} (fp : F p = none) (kp : Kn p = none) (no : ∀ o ∈ ow, o.ad ≠ p) (hp : H p = some o) : S K F Kn0 sl ow σ (upd Kn p o) H :=
  ⟨s.e0.trans (Ex.new kp), fun a u h => by
    by_cases hq : a = p
    · subst hq
      rw [upd_same] at h
      rw [← h]
      exact hp
    · rw [upd_ne hq] at h
      exact s.ek _ _ h, s.ef, fun q h1 h2 => by
    have hq : q ≠ p := fun z => by
      subst z
      exact h1 fp
    rw [upd_ne hq]
    exact s.sep q h1 h2, s.sl.mono (Ex.new kp), ⟨fun o ho => by
      obtain ⟨h1, h2, h3⟩ := s.ow.each o ho
      exact ⟨h1, by rw [upd_ne (no o ho)]; exact h2, Ow.ok_mono (Ex.new kp) rfl h3⟩, s.ow.nd⟩⟩
theorem ENM.em {xs : List α} (h : ENM K F Kn0 sl ow te ow1 xs) : EM K F Kn0 sl ow te ow1 xs := fun σ Kn H s Q q => h σ Kn H s Q fun p ws Kn' H' e s' fp kp no hw r =>
  q _ (upd Kn' p (.lst ws)) H' (e.trans (Ex.new kp)) (s'.know fp kp no hw) ⟨p, ws, rfl, upd_same, paired_mono (Ex.new kp) r⟩
theorem EV.cast {x' : α} (h : EV K F Kn0 sl ow te x) (e : x = x') : EV K F Kn0 sl ow te x' := e ▸ h
theorem ET.cast {tt : TT} {b b' : Bool} (h : ET K F Kn0 sl ow tt b) (e : b = b') : ET K F Kn0 sl ow tt b' := e ▸ h
end
end Wk
/-! Wk2: rules for expressions -/
namespace Wk
open PySem PySem.Spec L2 Evl
section
variable {K : Fg} {F Kn0 : Hp} {sl sl' : List Sl} {ow ow1 ow2 : List Ow} {α β γ τ : Type} [Rp α] [Rp β] [Rp γ] [Tp τ] {ta tb te : TE} {x : α} {y : β} {z : γ}

theorem paired_fl {α : Type} [Rp α] [Fl α] {H : Hp} : ∀ {vs : List V} {xs : List α}, Paired (rep K H) vs xs → vs = xs.map Fl.toV
  | _, _, .nil => rfl
  | _, _, .cons h t => by rw [List.map_cons, ← paired_fl t, Fl.iff.mp h]
theorem fl_paired {α : Type} [Rp α] [Fl α] {H : Hp} : ∀ (xs : List α), Paired (rep K H) (xs.map Fl.toV) xs
  | [] => .nil
  | _ :: t => .cons (Fl.iff.mpr rfl) (fl_paired t)
theorem paired_len {H : Hp} {vs : List V} {xs : List α} (h : Paired (rep K H) vs xs) : vs.length = xs.length := Paired.length h
theorem paired_at {F : V → α → Prop} : ∀ {vs : List V} {xs : List α}, Paired F vs xs → ∀ {j : Nat} {a : α}, xs[j]? = some a → ∃ v, vs[j]? = some v ∧ F v a
  | _, _, .nil, _, _, e => by simp at e
  | _, _, .cons r _, 0, _, e => by
    simp at e
    subst e
    exact ⟨_, rfl, r⟩
  | _, _, .cons _ t, j + 1, a, e => by
    obtain ⟨v, h1, h2⟩ := paired_at t (j := j) (a := a) (by simpa using e)
    exact ⟨v, by simpa using h1, h2⟩
theorem paired_append {F : V → α → Prop} : ∀ {vs ws : List V} {xs ys : List α}, Paired F vs xs → Paired F ws ys → Paired F (vs ++ ws) (xs ++ ys)
  | _, _, _, _, .nil, h => h
  | _, _, _, _, .cons r t, h => .cons r (paired_append t h)
theorem paired_drop {F : V → α → Prop} : ∀ {vs : List V} {xs : List α} (n : Nat), Paired F vs xs → Paired F (vs.drop n) (xs.drop n)
  | _, _, 0, h => h
  | _, _, _ + 1, .nil => .nil
  | _, _, n + 1, .cons _ t => paired_drop n t
theorem paired_take {F : V → α → Prop} : ∀ {vs : List V} {xs : List α} (n : Nat), Paired F vs xs → Paired F (vs.take n) (xs.take n)
  | _, _, 0, _ => .nil
  | _, _, _ + 1, .nil => .nil
  | _, _, n + 1, .cons r t => .cons r (paired_take n t)
theorem paired_set {F : V → α → Prop} {v : V} {a : α} (h : F v a) : ∀ {vs : List V} {xs : List α} (n : Nat), Paired F vs xs → Paired F (vs.set n v) (xs.set n a)
  | _, _, _, .nil => .nil
  | _, _, 0, .cons _ t => .cons h t
  | _, _, n + 1, .cons r t => .cons r (paired_set h n t)
theorem paired_atI {H : Hp} {vs : List V} {xs : List α} (h : Paired (rep K H) vs xs) {i : Int} {a : α} (e : atI xs i = some a) : ∃ v, atI vs i = some v ∧ rep K H v a := by
  unfold atI at e ⊢
  rw [paired_len h]
  cases q : ixN xs.length i with
  | none => rw [q] at e; cases e
  | some j =>
    rw [q] at e
    exact paired_at h e

/-! ### results of rules by values -/
def RS (K : Fg) (Kn H : Hp) (Q : VK) (z : γ) : Prop := ∀ u Kn' H', Gr Kn H Kn' H' → rep K Kn' u z → Q u H'
def RL (K : Fg) (Kn H : Hp) (Q : VK) (zs : List γ) : Prop := ∀ p ws Kn' H', Gr Kn H Kn' H' → H p = none → Kn' p = none → H' p = some (.lst ws) → Paired (rep K Kn') ws zs → Q (.ref p) H'
theorem RS.rl {Kn H : Hp} {Q : VK} {zs : List γ} (h : RS K Kn H Q zs) : RL K Kn H Q zs := fun p ws Kn' H' g hp kp hw r =>
  h _ (upd Kn' p (.lst ws)) H' (g.know hp kp hw) ⟨p, ws, rfl, upd_same, paired_mono (Ex.new kp) r⟩
theorem RS.fl {γ : Type} [Rp γ] [Fl γ] {z : γ} {Kn H : Hp} {Q : VK} (h : RS K Kn H Q z) (e : Ex Kn H) : Q (Fl.toV z) H := h _ Kn H (Gr.refl e) (Fl.iff.mpr rfl)
theorem RS.at {Kn H : Hp} {Q : VK} {z : γ} (h : RS K Kn H Q z) (e : Ex Kn H) {v : V} (r : rep K Kn v z) : Q v H := h _ Kn H (Gr.refl e) r

def R1V (r : V → Hp → VK → Prop) (x : α) (z : γ) : Prop := ∀ (K : Fg) Kn H v, Ex Kn H → rep K Kn v x → ∀ Q, RS K Kn H Q z → r v H Q
def R2V (K : Fg) (r : R2) (x : α) (y : β) (z : γ) : Prop := ∀ Kn H v w, Ex Kn H → rep K Kn v x → rep K Kn w y → ∀ Q, RS K Kn H Q z → r v w H Q
def R2L (K : Fg) (r : R2) (x : α) (y : β) (zs : List γ) : Prop := ∀ Kn H v w, Ex Kn H → rep K Kn v x → rep K Kn w y → ∀ Q, RL K Kn H Q zs → r v w H Q
def RCV (K : Fg) (r : List V → Hp → VK → Prop) (t : τ) (z : γ) : Prop := ∀ Kn H vs, Ex Kn H → rept K Kn vs t → ∀ Q, RS K Kn H Q z → r vs H Q
def RCL (K : Fg) (r : List V → Hp → VK → Prop) (t : τ) (zs : List γ) : Prop := ∀ Kn H vs, Ex Kn H → rept K Kn vs t → ∀ Q, RL K Kn H Q zs → r vs H Q

/-! ### names, constants, operators -/
theorem ev_var {i : Nat} (h : sl[i]? = some (sv x)) : EV K F Kn0 sl ow (tVar i) x := fun σ Kn H s Q q => by
  obtain ⟨o, h1, v, h2, h3⟩ := s.sl.get h
  exact ⟨v, by rw [h1, h2], q v Kn H (Gr.refl s.ek) h3⟩
theorem ev_c {γ : Type} [Rp γ] [Fl γ] (z : γ) {v : V} (e : v = Fl.toV z := by rfl) : EV K F Kn0 sl ow (tC v) z := fun σ Kn H s Q q => q v Kn H (Gr.refl s.ek) (Fl.iff.mpr e)
theorem ev_none : EV K F Kn0 sl ow (tC .non) (none : Option α) := fun σ Kn H s Q q => q .non Kn H (Gr.refl s.ek) rfl
theorem ev_un {r : V → Hp → VK → Prop} (ha : EV K F Kn0 sl ow ta x) (hr : R1V r x z) : EV K F Kn0 sl ow (tUn r ta) z := fun σ Kn H s Q q =>
  ha σ Kn H s _ fun v Kn1 H1 g1 r1 => hr K Kn1 H1 v g1.kh r1 Q fun u Kn' H' g' r' => q u Kn' H' (g1.trans g') r'
theorem ev_op {r : R2} (ha : EV K F Kn0 sl ow ta x) (hb : EV K F Kn0 sl ow tb y) (hr : R2V K r x y z) : EV K F Kn0 sl ow (tOp r ta tb) z := fun σ Kn H s Q q =>
  ha σ Kn H s _ fun v Kn1 H1 g1 r1 => hb σ Kn1 H1 (s.grow g1) _ fun w Kn2 H2 g2 r2 => hr Kn2 H2 v w g2.kh (Rp.mono g2.kk r1) r2 Q fun u Kn' H' g' r' => q u Kn' H' ((g1.trans g2).trans g') r'
theorem en_op {r : R2} {zs : List γ} (ha : EV K F Kn0 sl ow ta x) (hb : EV K F Kn0 sl ow tb y) (hr : R2L K r x y zs) : EN K F Kn0 sl ow (tOp r ta tb) zs := fun σ Kn H s Q q =>
  ha σ Kn H s _ fun v Kn1 H1 g1 r1 => hb σ Kn1 H1 (s.grow g1) _ fun w Kn2 H2 g2 r2 => hr Kn2 H2 v w g2.kh (Rp.mono g2.kk r1) r2 Q fun p ws Kn' H' g' hp kp hw r' =>
    q p ws Kn' H' ((g1.trans g2).trans g') (fresh_back (g1.trans g2).hh hp) kp hw r'
theorem em_op {r : R2} (ha : EM K F Kn0 sl ow ta ow1 x) (hb : EM K F Kn0 sl ow1 tb ow2 y) (hr : R2V K r x y z) : EM K F Kn0 sl ow (tOp r ta tb) ow2 z := fun σ Kn H s Q q =>
  ha σ Kn H s _ fun v Kn1 H1 e1 s1 r1 => hb σ Kn1 H1 s1 _ fun w Kn2 H2 e2 s2 r2 => hr Kn2 H2 v w s2.ek (Rp.mono e2 r1) r2 Q fun u Kn' H' g' r' => q u Kn' H' ((e1.trans e2).trans g'.kk) (s2.grow g') r'
theorem r2_I0 {γ : Type} [Rp γ] [Fl γ] {z : γ} {g : Int → Int → V} {i j : Int} (e : g i j = Fl.toV z := by rfl) : R2V K (rI0 g) i j z := fun Kn H v w ek h1 h2 Q q => ⟨i, j, h1, h2, e ▸ q.fl ek⟩
theorem r2_I {γ : Type} [Rp γ] [Fl γ] {z : γ} {C : Int → Int → Prop} {g : Int → Int → V} {i j : Int} (c : C i j) (e : g i j = Fl.toV z := by rfl) : R2V K (rI C g) i j z := fun Kn H v w ek h1 h2 Q q => ⟨i, j, h1, h2, c, e ▸ q.fl ek⟩
theorem r1_neg {i : Int} : R1V (rU fun i => .int (-i)) i (-i) := fun K Kn H v ek h1 Q q => ⟨i, h1, q.fl ek⟩
theorem r2_eqI {i j : Int} : R2V K rEq i j (decide (i = j)) := fun Kn H v w ek h1 h2 Q q => by
  cases h1
  cases h2
  refine ⟨rfl, ?_⟩
  have e : decide (V.int i = V.int j) = decide (i = j) := by simp
  rw [e]
  exact q.fl ek
theorem r2_neI {i j : Int} : R2V K rNe i j (!decide (i = j)) := fun Kn H v w ek h1 h2 Q q => by
  cases h1
  cases h2
  refine ⟨rfl, ?_⟩
  have e : decide (V.int i = V.int j) = decide (i = j) := by simp
  rw [e]
  exact q.fl ek
theorem r2_eqS {i j : Str} : R2V K rEq i j (decide (i = j)) := fun Kn H v w ek h1 h2 Q q => by
  cases h1
  cases h2
  refine ⟨rfl, ?_⟩
  have e : decide (V.str i = V.str j) = decide (i = j) := by simp
  rw [e]
  exact q.fl ek
theorem r2_neS {i j : Str} : R2V K rNe i j (!decide (i = j)) := fun Kn H v w ek h1 h2 Q q => by
  cases h1
  cases h2
  refine ⟨rfl, ?_⟩
  have e : decide (V.str i = V.str j) = decide (i = j) := by simp
  rw [e]
  exact q.fl ek
theorem r2_eqB {i j : Bool} : R2V K rEq i j (decide (i = j)) := fun Kn H v w ek h1 h2 Q q => by
  cases h1
  cases h2
  refine ⟨rfl, ?_⟩
  have e : decide (V.bl i = V.bl j) = decide (i = j) := by simp
  rw [e]
  exact q.fl ek

/-! ### arguments, tuples, lists -/
theorem ea_nil : EA K F Kn0 sl ow tNil () := fun σ Kn H s Q q => q [] Kn H (Gr.refl s.ek) rfl
theorem ea_cons {tr : TA} {t : τ} (h : EV K F Kn0 sl ow ta x) (hr : EA K F Kn0 sl ow tr t) : EA K F Kn0 sl ow (tCons ta tr) (x, t) := fun σ Kn H s Q q =>
  h σ Kn H s _ fun v Kn1 H1 g1 r1 => hr σ Kn1 H1 (s.grow g1) _ fun vs Kn2 H2 g2 r2 => q _ Kn2 H2 (g1.trans g2) ⟨v, vs, rfl, Rp.mono g2.kk r1, r2⟩
theorem eam_nil : EAM K F Kn0 sl ow tNil ow () := fun σ Kn H s Q q => q [] Kn H (Ex.refl _) s rfl
theorem eam_cons {tr : TA} {t : τ} (h : EM K F Kn0 sl ow ta ow1 x) (hr : EAM K F Kn0 sl ow1 tr ow2 t) : EAM K F Kn0 sl ow (tCons ta tr) ow2 (x, t) := fun σ Kn H s Q q =>
  h σ Kn H s _ fun v Kn1 H1 e1 s1 r1 => hr σ Kn1 H1 s1 _ fun vs Kn2 H2 e2 s2 r2 => q _ Kn2 H2 (e1.trans e2) s2 ⟨v, vs, rfl, Rp.mono e2 r1, r2⟩
theorem EA.eam {ta : TA} {t : τ} (h : EA K F Kn0 sl ow ta t) : EAM K F Kn0 sl ow ta ow t := fun σ Kn H s Q q => h σ Kn H s Q fun vs Kn' H' g r => q vs Kn' H' g.kk (s.grow g) r
/-- alike things -/
def EL {α : Type} [Rp α] (K : Fg) (F Kn0 : Hp) (sl : List Sl) (ow : List Ow) (ta : TA) (xs : List α) : Prop := ∀ σ Kn H, S K F Kn0 sl ow σ Kn H → ∀ Q : List V → Hp → Prop, (∀ vs Kn' H', Gr Kn H Kn' H' → Paired (rep K Kn') vs xs → Q vs H') → ta σ H Q
def ELM {α : Type} [Rp α] (K : Fg) (F Kn0 : Hp) (sl : List Sl) (ow : List Ow) (ta : TA) (ow' : List Ow) (xs : List α) : Prop := ∀ σ Kn H, S K F Kn0 sl ow σ Kn H → ∀ Q : List V → Hp → Prop, (∀ vs Kn' H', Ex Kn Kn' → S K F Kn0 sl ow' σ Kn' H' → Paired (rep K Kn') vs xs → Q vs H') → ta σ H Q
theorem el_nil : EL K F Kn0 sl ow tNil ([] : List α) := fun σ Kn H s Q q => q [] Kn H (Gr.refl s.ek) .nil
theorem el_cons {tr : TA} {xs : List α} (h : EV K F Kn0 sl ow ta x) (hr : EL K F Kn0 sl ow tr xs) : EL K F Kn0 sl ow (tCons ta tr) (x :: xs) := fun σ Kn H s Q q =>
  h σ Kn H s _ fun v Kn1 H1 g1 r1 => hr σ Kn1 H1 (s.grow g1) _ fun vs Kn2 H2 g2 r2 => q _ Kn2 H2 (g1.trans g2) (.cons (Rp.mono g2.kk r1) r2)
theorem elm_nil : ELM K F Kn0 sl ow tNil ow ([] : List α) := fun σ Kn H s Q q => q [] Kn H (Ex.refl _) s .nil
theorem elm_cons {tr : TA} {xs : List α} (h : EM K F Kn0 sl ow ta ow1 x) (hr : ELM K F Kn0 sl ow1 tr ow2 xs) : ELM K F Kn0 sl ow (tCons ta tr) ow2 (x :: xs) := fun σ Kn H s Q q =>
  h σ Kn H s _ fun v Kn1 H1 e1 s1 r1 => hr σ Kn1 H1 s1 _ fun vs Kn2 H2 e2 s2 r2 => q _ Kn2 H2 (e1.trans e2) s2 (.cons (Rp.mono e2 r1) r2)
theorem le_line {n : Nat} (h : n ≤ 1000000) : n ≤ sizeLine := Nat.le_trans h (by decide)
theorem lt_line {n : Nat} (h : n < 1000000) : n < sizeLine := Nat.lt_of_lt_of_le h (by decide)
theorem en_lst {ta : TA} {xs : List α} (h : EL K F Kn0 sl ow ta xs) (hz : xs.length ≤ 1000000 := by exact Nat.le_of_ble_eq_true rfl) : EN K F Kn0 sl ow (tLst ta) xs := fun σ Kn H s Q q =>
  h σ Kn H s _ fun vs Kn1 H1 g1 r1 => ⟨by rw [paired_len r1]; exact le_line hz, fun p hp => q p vs Kn1 _ (g1.trans (Gr.newU g1.kh hp)) (fresh_back g1.hh hp) (fresh_back g1.kh hp) upd_same r1⟩
theorem enm_lst {ta : TA} {xs : List α} (h : ELM K F Kn0 sl ow ta ow1 xs) (hz : xs.length ≤ 1000000 := by exact Nat.le_of_ble_eq_true rfl) : ENM K F Kn0 sl ow (tLst ta) ow1 xs := fun σ Kn H s Q q =>
  h σ Kn H s _ fun vs Kn1 H1 e1 s1 r1 => ⟨by rw [paired_len r1]; exact le_line hz, fun p hp =>
    q p vs Kn1 _ e1 (s1.grow (Gr.newU s1.ek hp)) (fresh_back s1.ef hp) (fresh_back s1.ek hp) (owned_ne s1 hp) upd_same r1⟩
theorem ev_tup {ta : TA} {t : α × τ} (h : EA K F Kn0 sl ow ta t) (hz : Tp.n (α × τ) ≤ 1000000 := by decide) : EV K F Kn0 sl ow (tTup ta) t := fun σ Kn H s Q q =>
  h σ Kn H s _ fun vs Kn1 H1 g1 r1 => ⟨by rw [Tp.len r1]; exact le_line hz, fun p hp =>
    q _ (upd Kn1 p (.tup vs)) _ (g1.trans (Gr.new g1.kh hp)) ⟨p, vs, rfl, upd_same, Tp.mono (Gr.new g1.kh hp).kk r1⟩⟩
theorem em_tup {ta : TA} {t : α × τ} (h : EAM K F Kn0 sl ow ta ow1 t) (hz : Tp.n (α × τ) ≤ 1000000 := by decide) : EM K F Kn0 sl ow (tTup ta) ow1 t := fun σ Kn H s Q q =>
  h σ Kn H s _ fun vs Kn1 H1 e1 s1 r1 => ⟨by rw [Tp.len r1]; exact le_line hz, fun p hp =>
    q _ (upd Kn1 p (.tup vs)) _ (e1.trans (Gr.new s1.ek hp).kk) (s1.grow (Gr.new s1.ek hp)) ⟨p, vs, rfl, upd_same, Tp.mono (Gr.new s1.ek hp).kk r1⟩⟩
theorem ev_tuH {ta : TA} {xs : List α} (h : EL K F Kn0 sl ow ta xs) (hz : xs.length ≤ 1000000 := by exact Nat.le_of_ble_eq_true rfl) : EV K F Kn0 sl ow (tTup ta) (Tu.mk xs) := fun σ Kn H s Q q =>
  h σ Kn H s _ fun vs Kn1 H1 g1 r1 => ⟨by rw [paired_len r1]; exact le_line hz, fun p hp =>
    q _ (upd Kn1 p (.tup vs)) _ (g1.trans (Gr.new g1.kh hp)) ⟨p, vs, rfl, upd_same, paired_mono (Gr.new g1.kh hp).kk r1⟩⟩

/-! ### built-ins, defs -/
theorem ev_cb {r : List V → Hp → VK → Prop} {ta : TA} {t : τ} (h : EA K F Kn0 sl ow ta t) (hr : RCV K r t z) : EV K F Kn0 sl ow (tCB r ta) z := fun σ Kn H s Q q =>
  h σ Kn H s _ fun vs Kn1 H1 g1 r1 => hr Kn1 H1 vs g1.kh r1 Q fun u Kn' H' g' r' => q u Kn' H' (g1.trans g') r'
theorem en_cb {r : List V → Hp → VK → Prop} {ta : TA} {t : τ} {zs : List γ} (h : EA K F Kn0 sl ow ta t) (hr : RCL K r t zs) : EN K F Kn0 sl ow (tCB r ta) zs := fun σ Kn H s Q q =>
  h σ Kn H s _ fun vs Kn1 H1 g1 r1 => hr Kn1 H1 vs g1.kh r1 Q fun p ws Kn' H' g' hp kp hw r' => q p ws Kn' H' (g1.trans g') (fresh_back g1.hh hp) kp hw r'
theorem em_cb {r : List V → Hp → VK → Prop} {ta : TA} {t : τ} (h : EAM K F Kn0 sl ow ta ow1 t) (hr : RCV K r t z) : EM K F Kn0 sl ow (tCB r ta) ow1 z := fun σ Kn H s Q q =>
  h σ Kn H s _ fun vs Kn1 H1 e1 s1 r1 => hr Kn1 H1 vs s1.ek r1 Q fun u Kn' H' g' r' => q u Kn' H' (e1.trans g'.kk) (s1.grow g') r'
theorem one_arg {Kn : Hp} {vs : List V} {x : α} (h : rept K Kn vs (x, ())) : ∃ v, vs = [v] ∧ rep K Kn v x := by
  obtain ⟨v, r, rfl, h1, h2⟩ := h
  cases h2
  exact ⟨v, rfl, h1⟩
theorem two_args {Kn : Hp} {vs : List V} {x : α} {y : β} (h : rept K Kn vs (x, y, ())) : ∃ v w, vs = [v, w] ∧ rep K Kn v x ∧ rep K Kn w y := by
  obtain ⟨v, r, rfl, h1, h2⟩ := h
  obtain ⟨w, rfl, h3⟩ := one_arg h2
  exact ⟨v, w, rfl, h1, h3⟩
theorem rc_max {i j : Int} : RCV K (fun xs H Q => ∃ i j, xs = [.int i, .int j] ∧ Q (.int (if j > i then j else i)) H) (i, j, ()) (max i j) := fun Kn H vs ek h Q q => by
  obtain ⟨v, w, rfl, h1, h2⟩ := two_args h
  cases h1
  cases h2
  refine ⟨i, j, rfl, ?_⟩
  have e : (if j > i then j else i) = max i j := by split <;> omega
  rw [e]
  exact q.fl ek
theorem rc_min {i j : Int} : RCV K (fun xs H Q => ∃ i j, xs = [.int i, .int j] ∧ Q (.int (if j < i then j else i)) H) (i, j, ()) (min i j) := fun Kn H vs ek h Q q => by
  obtain ⟨v, w, rfl, h1, h2⟩ := two_args h
  cases h1
  cases h2
  refine ⟨i, j, rfl, ?_⟩
  have e : (if j < i then j else i) = min i j := by split <;> omega
  rw [e]
  exact q.fl ek
theorem rc_abs {i : Int} : RCV K (fun xs H Q => ∃ i, xs = [.int i] ∧ Q (.int (if i < 0 then -i else i)) H) (i, ()) ((i.natAbs : Int)) := fun Kn H vs ek h Q q => by
  obtain ⟨v, rfl, h1⟩ := one_arg h
  cases h1
  refine ⟨i, rfl, ?_⟩
  have e : (if i < 0 then -i else i) = (i.natAbs : Int) := by split <;> omega
  rw [e]
  exact q.fl ek
theorem rc_len {xs : List α} : RCV K (fun xs H Q => ∃ p ys, xs = [.ref p] ∧ (SqL K H p ys ∨ SqT K H p ys) ∧ Q (.int ys.length) H) (xs, ()) (xs.length : Int) := fun Kn H vs ek h Q q => by
  obtain ⟨v, rfl, p, ws, rfl, h1, h2⟩ := one_arg h
  refine ⟨p, ws, rfl, .inl (sq_of (ek _ _ h1)), ?_⟩
  rw [paired_len h2]
  exact q.fl ek
theorem rc_lenF {xs : Fz α} : RCV K (fun xs H Q => ∃ p ys, xs = [.ref p] ∧ (SqL K H p ys ∨ SqT K H p ys) ∧ Q (.int ys.length) H) (xs, ()) (xs.l.length : Int) := fun Kn H vs ek h Q q => by
  obtain ⟨v, rfl, p, ws, rfl, h1, h2⟩ := one_arg h
  refine ⟨p, ws, rfl, .inl (ex_l ek h1), ?_⟩
  rw [paired_len h2]
  exact q.fl ek
theorem rc_lenT {xs : Tu α} : RCV K (fun xs H Q => ∃ p ys, xs = [.ref p] ∧ (SqL K H p ys ∨ SqT K H p ys) ∧ Q (.int ys.length) H) (xs, ()) (xs.l.length : Int) := fun Kn H vs ek h Q q => by
  obtain ⟨v, rfl, p, ws, rfl, h1, h2⟩ := one_arg h
  refine ⟨p, ws, rfl, .inr (st_of (ek _ _ h1)), ?_⟩
  rw [paired_len h2]
  exact q.fl ek
theorem rc_lenP {t : α × τ} : RCV K (fun xs H Q => ∃ p ys, xs = [.ref p] ∧ (SqL K H p ys ∨ SqT K H p ys) ∧ Q (.int ys.length) H) (t, ()) ((Tp.n (α × τ) : Nat) : Int) := fun Kn H vs ek h Q q => by
  obtain ⟨v, rfl, p, ws, rfl, h1, h2⟩ := one_arg h
  refine ⟨p, ws, rfl, .inr (st_of (ek _ _ h1)), ?_⟩
  rw [Tp.len h2]
  exact q.fl ek
theorem rc_sum {xs : List Int} : RCV K (rSum K) (xs, ()) xs.sum := fun Kn H vs ek h Q q => by
  obtain ⟨v, rfl, p, ws, rfl, h1, h2⟩ := one_arg h
  have e := paired_fl h2
  subst e
  exact ⟨p, xs, rfl, sq_of (ek _ _ h1), q.fl ek⟩
theorem rc_all {xs : List Bool} : RCV K (rAll K) (xs, ()) (xs.all id) := fun Kn H vs ek h Q q => by
  obtain ⟨v, rfl, p, ws, rfl, h1, h2⟩ := one_arg h
  have e := paired_fl h2
  subst e
  exact ⟨p, xs, rfl, sq_of (ek _ _ h1), q.fl ek⟩
theorem rc_any {xs : List Bool} : RCV K (rAny K) (xs, ()) (xs.any id) := fun Kn H vs ek h Q q => by
  obtain ⟨v, rfl, p, ws, rfl, h1, h2⟩ := one_arg h
  have e := paired_fl h2
  subst e
  exact ⟨p, xs, rfl, sq_of (ek _ _ h1), q.fl ek⟩
theorem rc_list {xs : List α} : RCL K (fun xs H Q => ∃ p ys, xs = [.ref p] ∧ (SqL K H p ys ∨ SqT K H p ys) ∧ ∀ l, H l = none → Q (.ref l) (upd H l (.lst ys))) (xs, ()) xs := fun Kn H vs ek h Q q => by
  obtain ⟨v, rfl, p, ws, rfl, h1, h2⟩ := one_arg h
  exact ⟨p, ws, rfl, .inl (sq_of (ek _ _ h1)), fun l hl => q l ws Kn _ (Gr.newU ek hl) hl (fresh_back ek hl) upd_same h2⟩
theorem rc_listF {xs : Fz α} : RCL K (fun xs H Q => ∃ p ys, xs = [.ref p] ∧ (SqL K H p ys ∨ SqT K H p ys) ∧ ∀ l, H l = none → Q (.ref l) (upd H l (.lst ys))) (xs, ()) xs.l := fun Kn H vs ek h Q q => by
  obtain ⟨v, rfl, p, ws, rfl, h1, h2⟩ := one_arg h
  exact ⟨p, ws, rfl, .inl (ex_l ek h1), fun l hl => q l ws Kn _ (Gr.newU ek hl) hl (fresh_back ek hl) upd_same h2⟩
theorem rc_listT {xs : Tu α} : RCL K (fun xs H Q => ∃ p ys, xs = [.ref p] ∧ (SqL K H p ys ∨ SqT K H p ys) ∧ ∀ l, H l = none → Q (.ref l) (upd H l (.lst ys))) (xs, ()) xs.l := fun Kn H vs ek h Q q => by
  obtain ⟨v, rfl, p, ws, rfl, h1, h2⟩ := one_arg h
  exact ⟨p, ws, rfl, .inr (st_of (ek _ _ h1)), fun l hl => q l ws Kn _ (Gr.newU ek hl) hl (fresh_back ek hl) upd_same h2⟩
theorem rc_tuple {xs : List α} : RCV K (fun xs H Q => ∃ p ys, xs = [.ref p] ∧ ((SqL K H p ys ∧ ∀ l, H l = none → Q (.ref l) (upd H l (.tup ys))) ∨ (SqT K H p ys ∧ Q (.ref p) H))) (xs, ()) (Tu.mk xs) := fun Kn H vs ek h Q q => by
  obtain ⟨v, rfl, p, ws, rfl, h1, h2⟩ := one_arg h
  exact ⟨p, ws, rfl, .inl ⟨sq_of (ek _ _ h1), fun l hl => q _ (upd Kn l (.tup ws)) _ (Gr.new ek hl) ⟨l, ws, rfl, upd_same, paired_mono (Gr.new ek hl).kk h2⟩⟩⟩
end

/-! ### items, slices -/
section
variable {K : Fg} {F Kn0 : Hp} {sl sl' : List Sl} {ow ow1 ow2 : List Ow} {α β γ τ : Type} [Rp α] [Rp β] [Rp γ] [Tp τ] {ta tb te : TE}
theorem r2_ixL {xs : List α} {i : Int} {z : α} (h : atI xs i = some z) : R2V K (rIxL K) xs i z := fun Kn H v w ek h1 h2 Q q => by
  obtain ⟨p, ws, rfl, h3, h4⟩ := h1
  cases h2
  obtain ⟨u, e, r⟩ := paired_atI h4 h
  exact ⟨p, ws, i, u, rfl, rfl, sq_of (ek _ _ h3), e, q.at ek r⟩
theorem r2_ixF {xs : Fz α} {i : Int} {z : α} (h : atI xs.l i = some z) : R2V K (rIxL K) xs i z := fun Kn H v w ek h1 h2 Q q => by
  obtain ⟨p, ws, rfl, h3, h4⟩ := h1
  cases h2
  obtain ⟨u, e, r⟩ := paired_atI h4 h
  exact ⟨p, ws, i, u, rfl, rfl, ex_l ek h3, e, q.at ek r⟩
theorem r2_ixU {xs : Tu α} {i : Int} {z : α} (h : atI xs.l i = some z) : R2V K (rIxT K) xs i z := fun Kn H v w ek h1 h2 Q q => by
  obtain ⟨p, ws, rfl, h3, h4⟩ := h1
  cases h2
  obtain ⟨u, e, r⟩ := paired_atI h4 h
  exact ⟨p, ws, i, u, rfl, rfl, st_of (ek _ _ h3), e, q.at ek r⟩
theorem r2_ixK {xs : Kt α} {i : Int} {z : α} (h : atI xs.l i = some z) : R2V K (rIxT K) xs i z := fun Kn H v w ek h1 h2 Q q => by
  obtain ⟨p, ws, rfl, h3, h4⟩ := h1
  cases h2
  obtain ⟨u, e, r⟩ := paired_atI h4 h
  exact ⟨p, ws, i, u, rfl, rfl, ex_t ek h3, e, q.at ek r⟩
/-- the n-th place of a tuple -/
inductive At : {τ : Type} → [Tp τ] → Nat → {α : Type} → [Rp α] → τ → α → Prop
  | z {α τ : Type} [Rp α] [Tp τ] (x : α) (t : τ) : At 0 (x, t) x
  | s {α β τ : Type} [Rp α] [Rp β] [Tp τ] {n : Nat} (x : α) {t : τ} {y : β} : At n t y → At (n + 1) (x, t) y
theorem At.get {K : Fg} {H : Hp} {τ : Type} [i : Tp τ] {n : Nat} {α : Type} [j : Rp α] {t : τ} {a : α} (h : At n t a) : ∀ {vs : List V}, rept K H vs t → ∃ v, vs[n]? = some v ∧ rep K H v a := by
  induction h with
  | z x t =>
    intro vs r
    obtain ⟨v, r, rfl, h1, h2⟩ := r
    exact ⟨v, rfl, h1⟩
  | s x _ ih =>
    intro vs r
    obtain ⟨v, r, rfl, h1, h2⟩ := r
    obtain ⟨w, e, h3⟩ := ih h2
    exact ⟨w, e, h3⟩
theorem r2_tix {t : α × τ} {n : Nat} {z : γ} (h : At n t z) : R2V K (rIxT K) t (n : Int) z := fun Kn H v w ek h1 h2 Q q => by
  obtain ⟨p, ws, rfl, h3, h4⟩ := h1
  cases h2
  obtain ⟨u, e, r⟩ := h.get h4
  exact ⟨p, ws, n, u, rfl, rfl, st_of (ek _ _ h3), atI_nat e, q.at ek r⟩
/-- one sign of a text -/
def ixS (z : Str) (i : Int) : Option Str := if z.length ≤ 100000 then (atI z.cps.toList i).map (fun c => ⟨#[c]⟩) else none
theorem r2_ixS {x : Str} {i : Int} {z : Str} (h : ixS x i = some z) : R2V K rIxS x i z := fun Kn H v w ek h1 h2 Q q => by
  cases h1
  cases h2
  unfold ixS at h
  split at h
  · rename_i hl
    cases e : atI x.cps.toList i with
    | none => rw [e] at h; cases h
    | some c =>
      rw [e] at h
      cases h
      exact ⟨x, i, c, rfl, rfl, le_line (by omega), e, q.fl ek⟩
  · cases h
def cut {α : Type} (xs : List α) (lo hi : Option Int) : List α := (xs.drop (HT.sIx xs.length 0 lo)).take (HT.sIx xs.length xs.length hi - HT.sIx xs.length 0 lo)
theorem paired_cut {F : V → α → Prop} {vs : List V} {xs : List α} (h : Paired F vs xs) (lo hi : Option Int) : Paired F (cutV vs lo hi) (cut xs lo hi) := by
  unfold cutV cut
  rw [Paired.length h]
  exact paired_take _ (paired_drop _ h)
def EO (K : Fg) (F Kn0 : Hp) (sl : List Sl) (ow : List Ow) (to : TO) (o : Option Int) : Prop := ∀ σ Kn H, S K F Kn0 sl ow σ Kn H → ∀ Q : Option Int → Hp → Prop, (∀ Kn' H', Gr Kn H Kn' H' → Q o H') → to σ H Q
theorem eo_none : EO K F Kn0 sl ow tNoPart none := fun σ Kn H s Q q => q Kn H (Gr.refl s.ek)
theorem eo_some {i : Int} (h : EV K F Kn0 sl ow te i) : EO K F Kn0 sl ow (tPart te) (some i) := fun σ Kn H s Q q => h σ Kn H s _ fun v Kn1 H1 g1 r1 => ⟨i, r1, q Kn1 H1 g1⟩
theorem en_sl {xs : List α} {tl th : TO} {lo hi : Option Int} (h : EV K F Kn0 sl ow te xs) (hl : EO K F Kn0 sl ow tl lo) (hh : EO K F Kn0 sl ow th hi) : EN K F Kn0 sl ow (tSl (rSlL K) te tl th) (cut xs lo hi) := fun σ Kn H s Q q =>
  h σ Kn H s _ fun v Kn1 H1 g1 r1 => hl σ Kn1 H1 (s.grow g1) _ fun Kn2 H2 g2 => hh σ Kn2 H2 ((s.grow g1).grow g2) _ fun Kn3 H3 g3 => by
    obtain ⟨p, ws, rfl, h3, h4⟩ := r1
    have g : Gr Kn H Kn3 H3 := (g1.trans g2).trans g3
    have e13 : Ex Kn1 Kn3 := g2.kk.trans g3.kk
    exact ⟨p, ws, rfl, sq_of (g3.kh _ _ (e13 _ _ h3)), fun l hl => q l _ Kn3 _ (g.trans (Gr.newU g3.kh hl)) (fresh_back g.hh hl) (fresh_back g3.kh hl) upd_same (paired_cut (paired_mono e13 h4) lo hi)⟩
theorem en_slF {xs : Fz α} {tl th : TO} {lo hi : Option Int} (h : EV K F Kn0 sl ow te xs) (hl : EO K F Kn0 sl ow tl lo) (hh : EO K F Kn0 sl ow th hi) : EN K F Kn0 sl ow (tSl (rSlL K) te tl th) (cut xs.l lo hi) := fun σ Kn H s Q q =>
  h σ Kn H s _ fun v Kn1 H1 g1 r1 => hl σ Kn1 H1 (s.grow g1) _ fun Kn2 H2 g2 => hh σ Kn2 H2 ((s.grow g1).grow g2) _ fun Kn3 H3 g3 => by
    obtain ⟨p, ws, rfl, h3, h4⟩ := r1
    have g : Gr Kn H Kn3 H3 := (g1.trans g2).trans g3
    have e13 : Ex Kn1 Kn3 := g2.kk.trans g3.kk
    exact ⟨p, ws, rfl, ex_l (e13.trans g3.kh) h3, fun l hl => q l _ Kn3 _ (g.trans (Gr.newU g3.kh hl)) (fresh_back g.hh hl) (fresh_back g3.kh hl) upd_same (paired_cut (paired_mono e13 h4) lo hi)⟩
theorem r2_cat {xs ys : List α} (hz : xs.length + ys.length ≤ 1000000) : R2L K rCat xs ys (xs ++ ys) := fun Kn H v w ek h1 h2 Q q => by
  obtain ⟨p, ws, rfl, h3, h4⟩ := h1
  obtain ⟨p2, ws2, rfl, h5, h6⟩ := h2
  exact ⟨p, p2, ws, ws2, rfl, rfl, ek _ _ h3, ek _ _ h5, by rw [paired_len h4, paired_len h6]; exact le_line hz, fun l hl =>
    q l _ Kn _ (Gr.newU ek hl) hl (fresh_back ek hl) upd_same (paired_append h4 h6)⟩

/-! ### tests -/
variable {t u : TT} {a b c : Bool}
theorem et_test (h : EV K F Kn0 sl ow te b) : ET K F Kn0 sl ow (tTest te) b := fun σ Kn H s Q q => h σ Kn H s _ fun v Kn' H' g r => ⟨b, r, q Kn' H' g⟩
theorem et_B (h : EV K F Kn0 sl ow te b) : ET K F Kn0 sl ow (tB te) b := fun σ Kn H s Q q => h σ Kn H s _ fun v Kn' H' g r => ⟨b, r, q Kn' H' g⟩
theorem et_not (h : ET K F Kn0 sl ow t b) : ET K F Kn0 sl ow (tNot t) (!b) := fun σ Kn H s Q q => h σ Kn H s _ fun Kn' H' g => q Kn' H' g
theorem et_and (h1 : ET K F Kn0 sl ow t a) (h2 : a = true → ET K F Kn0 sl ow u b) : ET K F Kn0 sl ow (tAnd t u) (a && b) := fun σ Kn H s Q q => h1 σ Kn H s _ fun Kn1 H1 g1 => by
  cases a with
  | true => exact iteT (h2 rfl σ Kn1 H1 (s.grow g1) Q fun Kn2 H2 g2 => q Kn2 H2 (g1.trans g2))
  | false => exact iteF (q Kn1 H1 g1)
theorem et_or (h1 : ET K F Kn0 sl ow t a) (h2 : a = false → ET K F Kn0 sl ow u b) : ET K F Kn0 sl ow (tOr t u) (a || b) := fun σ Kn H s Q q => h1 σ Kn H s _ fun Kn1 H1 g1 => by
  cases a with
  | true => exact iteT (q Kn1 H1 g1)
  | false => exact iteF (h2 rfl σ Kn1 H1 (s.grow g1) Q fun Kn2 H2 g2 => q Kn2 H2 (g1.trans g2))
theorem et_andO {m : Option Bool} (h : (if a = true then m else some false) = some c) (h1 : ET K F Kn0 sl ow t a) (h2 : ∀ b, a = true → m = some b → ET K F Kn0 sl ow u b) : ET K F Kn0 sl ow (tAnd t u) c := fun σ Kn H s Q q => h1 σ Kn H s _ fun Kn1 H1 g1 => by
  cases a with
  | true => exact iteT (h2 c rfl h σ Kn1 H1 (s.grow g1) Q fun Kn2 H2 g2 => q Kn2 H2 (g1.trans g2))
  | false =>
    cases h
    exact iteF (q Kn1 H1 g1)
theorem et_orO {m : Option Bool} (h : (if a = true then some true else m) = some c) (h1 : ET K F Kn0 sl ow t a) (h2 : ∀ b, a = false → m = some b → ET K F Kn0 sl ow u b) : ET K F Kn0 sl ow (tOr t u) c := fun σ Kn H s Q q => h1 σ Kn H s _ fun Kn1 H1 g1 => by
  cases a with
  | false => exact iteF (h2 c rfl h σ Kn1 H1 (s.grow g1) Q fun Kn2 H2 g2 => q Kn2 H2 (g1.trans g2))
  | true =>
    cases h
    exact iteT (q Kn1 H1 g1)
theorem ev_andO {m : Option Bool} (h : (if a = true then m else some false) = some c) (h1 : EV K F Kn0 sl ow ta a) (h2 : ∀ b, a = true → m = some b → EV K F Kn0 sl ow tb b) : EV K F Kn0 sl ow (tAndV ta tb) c := fun σ Kn H s Q q => h1 σ Kn H s _ fun v Kn1 H1 g1 r1 => ⟨a, r1, by
  cases a with
  | true => exact iteT (h2 c rfl h σ Kn1 H1 (s.grow g1) Q fun v Kn2 H2 g2 r2 => q v Kn2 H2 (g1.trans g2) r2)
  | false =>
    cases h
    exact iteF (q _ Kn1 H1 g1 rfl)⟩
theorem ev_orO {m : Option Bool} (h : (if a = true then some true else m) = some c) (h1 : EV K F Kn0 sl ow ta a) (h2 : ∀ b, a = false → m = some b → EV K F Kn0 sl ow tb b) : EV K F Kn0 sl ow (tOrV ta tb) c := fun σ Kn H s Q q => h1 σ Kn H s _ fun v Kn1 H1 g1 r1 => ⟨a, r1, by
  cases a with
  | false => exact iteF (h2 c rfl h σ Kn1 H1 (s.grow g1) Q fun v Kn2 H2 g2 r2 => q v Kn2 H2 (g1.trans g2) r2)
  | true =>
    cases h
    exact iteT (q _ Kn1 H1 g1 rfl)⟩
theorem ev_andV (h1 : EV K F Kn0 sl ow ta a) (h2 : a = true → EV K F Kn0 sl ow tb b) : EV K F Kn0 sl ow (tAndV ta tb) (a && b) := fun σ Kn H s Q q => h1 σ Kn H s _ fun v Kn1 H1 g1 r1 => ⟨a, r1, by
  cases a with
  | true => exact iteT (h2 rfl σ Kn1 H1 (s.grow g1) Q fun v Kn2 H2 g2 r2 => q v Kn2 H2 (g1.trans g2) r2)
  | false => exact iteF (q _ Kn1 H1 g1 rfl)⟩
theorem ev_orV (h1 : EV K F Kn0 sl ow ta a) (h2 : a = false → EV K F Kn0 sl ow tb b) : EV K F Kn0 sl ow (tOrV ta tb) (a || b) := fun σ Kn H s Q q => h1 σ Kn H s _ fun v Kn1 H1 g1 r1 => ⟨a, r1, by
  cases a with
  | false => exact iteF (h2 rfl σ Kn1 H1 (s.grow g1) Q fun v Kn2 H2 g2 r2 => q v Kn2 H2 (g1.trans g2) r2)
  | true => exact iteT (q _ Kn1 H1 g1 rfl)⟩
theorem ev_notV (h1 : EV K F Kn0 sl ow ta a) : EV K F Kn0 sl ow (tNotV ta) (!a) := fun σ Kn H s Q q => h1 σ Kn H s _ fun v Kn1 H1 g1 r1 => ⟨a, r1, q _ Kn1 H1 g1 rfl⟩
theorem ev_if {x y : α} (h : ET K F Kn0 sl ow t b) (h1 : b = true → EV K F Kn0 sl ow ta x) (h2 : b = false → EV K F Kn0 sl ow tb y) : EV K F Kn0 sl ow (tIf t ta tb) (if b = true then x else y) := fun σ Kn H s Q q => h σ Kn H s _ fun Kn1 H1 g1 => by
  cases b with
  | true => exact iteT (h1 rfl σ Kn1 H1 (s.grow g1) Q fun v Kn2 H2 g2 r2 => q v Kn2 H2 (g1.trans g2) r2)
  | false => exact iteF (h2 rfl σ Kn1 H1 (s.grow g1) Q fun v Kn2 H2 g2 r2 => q v Kn2 H2 (g1.trans g2) r2)
theorem ev_ifO {m n : Option α} {z : α} (hz : (if b = true then m else n) = some z) (h : ET K F Kn0 sl ow t b) (h1 : ∀ x, b = true → m = some x → EV K F Kn0 sl ow ta x) (h2 : ∀ y, b = false → n = some y → EV K F Kn0 sl ow tb y) : EV K F Kn0 sl ow (tIf t ta tb) z := fun σ Kn H s Q q => h σ Kn H s _ fun Kn1 H1 g1 => by
  cases b with
  | true => exact iteT (h1 z rfl hz σ Kn1 H1 (s.grow g1) Q fun v Kn2 H2 g2 r2 => q v Kn2 H2 (g1.trans g2) r2)
  | false => exact iteF (h2 z rfl hz σ Kn1 H1 (s.grow g1) Q fun v Kn2 H2 g2 r2 => q v Kn2 H2 (g1.trans g2) r2)
/-- truth of a list -/
theorem et_truL {xs : List α} (h : EV K F Kn0 sl ow ta xs) : ET K F Kn0 sl ow (fun σ H Q => ta σ H fun x H' => ∃ k, TruV K x H' k ∧ Q k H') (!xs.isEmpty) := fun σ Kn H s Q q => h σ Kn H s _ fun v Kn1 H1 g1 r1 => by
  obtain ⟨p, ws, rfl, h3, h4⟩ := r1
  refine ⟨_, .inl ⟨ws, sq_of (g1.kh _ _ h3), rfl⟩, ?_⟩
  have e : (!ws.isEmpty) = !xs.isEmpty := by
    cases h4 <;> rfl
  rw [e]
  exact q Kn1 H1 g1
end
end Wk
/-! Wk3: calls, statements, loops, comprehensions -/
namespace Wk
open PySem PySem.Spec L2 Evl

/-! ### promises -/
section
variable {α τ : Type} [Rp α] [Tp τ]
/-- a def that changes nothing: it tells f of its arguments -/
def PF (K : Fg) (f : τ → Option α) : Sp := fun vs H Q _ => ∃ Kn t r, Ex Kn H ∧ rept K Kn vs t ∧ f t = some r ∧ RS K Kn H Q r
/-- .. a new list -/
def PL (K : Fg) (f : τ → Option (List α)) : Sp := fun vs H Q _ => ∃ Kn t r, Ex Kn H ∧ rept K Kn vs t ∧ f t = some r ∧ RL K Kn H Q r
/-- its first argument is a list that it changes -/
def PM {β : Type} [Rp β] (K : Fg) (f : List β → τ → Option (α × List β)) : Sp := fun vs H Q _ => ∃ Kn p ws rest t xs r xs', vs = .ref p :: rest ∧ Ex Kn H ∧ Kn p = none ∧ H p = some (.lst ws) ∧ Paired (rep K Kn) ws xs ∧ rept K Kn rest t ∧ f xs t = some (r, xs') ∧
  ∀ v Kn' H' ws', Ex Kn Kn' → Ex Kn' H' → (∀ q, q ≠ p → H q ≠ none → H' q = H q) → (∀ q, H q ≠ none → Kn q = none → Kn' q = none) → H' p = some (.lst ws') → Paired (rep K Kn') ws' xs' → rep K Kn' v r → Q v H'
end
section
variable {K : Fg} {F Kn0 : Hp} {sl sl' : List Sl} {ow ow1 ow2 : List Ow} {α β γ τ : Type} [Rp α] [Rp β] [Rp γ] [Tp τ] {ta : TA} {te : TE} {t : τ} {E : XK}
theorem ev_call {f : τ → Option α} {r : α} (h : EA K F Kn0 sl ow ta t) (hf : f t = some r) : EV K F Kn0 sl ow (tCall (PF K f) [] E ta) r := fun σ Kn H s Q q =>
  h σ Kn H s _ fun vs Kn1 H1 g1 r1 => by
    show PF K f (vs ++ []) H1 Q E
    rw [List.append_nil]
    exact ⟨Kn1, t, r, g1.kh, r1, hf, fun u Kn' H' g' r' => q u Kn' H' (g1.trans g') r'⟩
theorem en_call {f : τ → Option (List α)} {r : List α} (h : EA K F Kn0 sl ow ta t) (hf : f t = some r) : EN K F Kn0 sl ow (tCall (PL K f) [] E ta) r := fun σ Kn H s Q q =>
  h σ Kn H s _ fun vs Kn1 H1 g1 r1 => by
    show PL K f (vs ++ []) H1 Q E
    rw [List.append_nil]
    exact ⟨Kn1, t, r, g1.kh, r1, hf, fun p ws Kn' H' g' hp kp hw r' => q p ws Kn' H' (g1.trans g') (fresh_back g1.hh hp) kp hw r'⟩
theorem em_call {f : τ → Option α} {r : α} (h : EAM K F Kn0 sl ow ta ow1 t) (hf : f t = some r) : EM K F Kn0 sl ow (tCall (PF K f) [] E ta) ow1 r := fun σ Kn H s Q q =>
  h σ Kn H s _ fun vs Kn1 H1 e1 s1 r1 => by
    show PF K f (vs ++ []) H1 Q E
    rw [List.append_nil]
    exact ⟨Kn1, t, r, s1.ek, r1, hf, fun u Kn' H' g' r' => q u Kn' H' (e1.trans g'.kk) (s1.grow g') r'⟩
theorem enm_call {f : τ → Option (List α)} {r : List α} (h : EAM K F Kn0 sl ow ta ow1 t) (hf : f t = some r) : ENM K F Kn0 sl ow (tCall (PL K f) [] E ta) ow1 r := fun σ Kn H s Q q =>
  h σ Kn H s _ fun vs Kn1 H1 e1 s1 r1 => by
    show PL K f (vs ++ []) H1 Q E
    rw [List.append_nil]
    exact ⟨Kn1, t, r, s1.ek, r1, hf, fun p ws Kn' H' g' hp kp hw r' => q p ws Kn' H' (e1.trans g'.kk) (s1.grow g') (fresh_back s1.ef hp) kp (owned_ne s1 hp) hw r'⟩
theorem ow_at {ow : List Ow} (h : (ow.map Ow.ad).Nodup) {i j : Nat} {o u : Ow} (hi : ow[i]? = some o) (hj : ow[j]? = some u) (e : o.ad = u.ad) : i = j := by
  have a1 : (ow.map Ow.ad)[i]? = some o.ad := by rw [List.getElem?_map, hi]; rfl
  have a2 : (ow.map Ow.ad)[j]? = some o.ad := by rw [List.getElem?_map, hj, e]; rfl
  exact nd_ix h a1 a2
/-- the object at place j is another one now, all else as it was -/
theorem S.write {σ : L2.St} {Kn H Kn' H' : Hp} {p : Addr} {xs xs' : List β} {ws : List V} {j : Nat} (s : S K F Kn0 sl ow σ Kn H) (hj : ow[j]? = some (ol p xs)) (kk : Ex Kn Kn') (kh : Ex Kn' H')
    (hq : ∀ q, q ≠ p → H q ≠ none → H' q = H q) (sp : ∀ q, H q ≠ none → Kn q = none → Kn' q = none) (hp : H' p = some (.lst ws)) (r : Paired (rep K Kn') ws xs') : S K F Kn0 sl (ow.set j (ol p xs')) σ Kn' H' := by
  obtain ⟨f1, f2, f3⟩ := s.ow.each _ (List.mem_of_getElem? hj)
  have f1 : F p = none := f1
  have f2 : Kn p = none := f2
  have f4 : H p ≠ none := Ow.there f3
  have jl : j < ow.length := (List.getElem?_eq_some_iff.mp hj).1
  refine ⟨s.e0.trans kk, kh, fun a u h => ?_, fun a h1 h2 => sp a (Ex.nn s.ef h1) (s.sep a h1 h2), s.sl.mono kk, ⟨fun o ho => ?_, ?_⟩⟩
  · have hne : a ≠ p := fun z => by rw [z, f1] at h; cases h
    rw [hq a hne (ne_none_of (s.ef _ _ h))]
    exact s.ef _ _ h
  · obtain ⟨i, hi⟩ := List.getElem?_of_mem ho
    by_cases e : i = j
    · subst e
      rw [List.getElem?_set_self jl] at hi
      cases hi
      exact ⟨f1, sp p f4 f2, ws, hp, r⟩
    · rw [List.getElem?_set_ne (Ne.symm e)] at hi
      obtain ⟨h1, h2, h3⟩ := s.ow.each o (List.mem_of_getElem? hi)
      have h4 := Ow.there h3
      have hne : o.ad ≠ p := fun z => e (ow_at s.ow.nd hi hj z)
      exact ⟨h1, sp _ h4 h2, Ow.ok_mono kk (hq _ hne h4) h3⟩
  · have e : (ow.set j (ol p xs')).map Ow.ad = ow.map Ow.ad := by
      rw [List.map_set]
      refine List.ext_getElem? fun i => ?_
      by_cases e : j = i
      · subst e
        rw [List.getElem?_set_self (by rw [List.length_map]; exact jl), List.getElem?_map, hj]
        rfl
      · rw [List.getElem?_set_ne e]
    rw [e]
    exact s.ow.nd
theorem em_callM {f : List β → τ → Option (α × List β)} {r : α} {i j : Nat} {p : Addr} {xs xs' : List β} (hi : sl[i]? = some (.at p)) (h : EAM K F Kn0 sl ow ta ow1 t) (hj : ow1[j]? = some (ol p xs)) (hf : f xs t = some (r, xs')) :
    EM K F Kn0 sl ow (tCall (PM K f) [] E (tCons (tVar i) ta)) (ow1.set j (ol p xs')) r := fun σ Kn H s Q q => by
  obtain ⟨o, h1, h2⟩ := s.sl.get hi
  refine ⟨.ref p, by rw [h1]; exact congrArg some h2, h σ Kn H s _ fun vs Kn1 H1 e1 s1 r1 => ?_⟩
  show PM K f ((.ref p :: vs) ++ []) H1 Q E
  rw [List.append_nil]
  obtain ⟨f1, f2, ws, f3, f4⟩ := s1.ow.each _ (List.mem_of_getElem? hj)
  exact ⟨Kn1, p, ws, vs, t, xs, r, xs', rfl, s1.ek, f2, f3, f4, r1, hf, fun v Kn' H' ws' kk kh hq sp hp rr rv => q v Kn' H' (e1.trans kk) (s1.write hj kk kh hq sp hp rr) rv⟩
end

/-! ### statements -/
section
variable (K : Fg) (F Kn0 : Hp) (sl : List Sl) (ow : List Ow)
def SN (D : Ends) : Prop := ∀ σ Kn H, S K F Kn0 sl ow σ Kn H → D.nx σ H
def SC (D : Ends) : Prop := ∀ σ Kn H, S K F Kn0 sl ow σ Kn H → D.ct σ H
def SK (D : Ends) : Prop := ∀ σ Kn H, S K F Kn0 sl ow σ Kn H → D.bk σ H
end
section
variable {K : Fg} {F Kn0 : Hp} {sl sl' : List Sl} {ow ow0 ow1 ow2 : List Ow} {α β γ τ : Type} [Rp α] [Rp β] [Rp γ] [Tp τ] {ta tb te : TE} {x : α} {D : Ends} {t u tz : TS} {tt : TT} {b : Bool} {i j : Nat} {p : Addr}
theorem SB.seq (h : SB K F Kn0 sl ow { D with nx := tz D } t) : SB K F Kn0 sl ow D (tSeq t tz) := h
theorem SB.le (h : SB K F Kn0 sl' ow D t) (l : SlLe sl sl') : SB K F Kn0 sl ow D t := fun σ Kn H s => h σ Kn H (s.le l)
theorem SB.sub (h : SB K F Kn0 sl ow1 D t) (l : ow1.Sublist ow) : SB K F Kn0 sl ow D t := fun σ Kn H s => h σ Kn H (s.sub l)
theorem SN.le (h : SN K F Kn0 sl' ow D) (l : SlLe sl sl') : SN K F Kn0 sl ow D := fun σ Kn H s => h σ Kn H (s.le l)
theorem SN.sub (h : SN K F Kn0 sl ow1 D) (l : ow1.Sublist ow) : SN K F Kn0 sl ow D := fun σ Kn H s => h σ Kn H (s.sub l)
theorem EN.le {xs : List α} (h : EN K F Kn0 sl' ow te xs) (l : SlLe sl sl') : EN K F Kn0 sl ow te xs := fun σ Kn H s => h σ Kn H (s.le l)
theorem EV.le (h : EV K F Kn0 sl' ow te x) (l : SlLe sl sl') : EV K F Kn0 sl ow te x := fun σ Kn H s => h σ Kn H (s.le l)
theorem sb_nx (k : SN K F Kn0 sl ow D) : SB K F Kn0 sl ow D tNext := k
theorem sb_ct (k : SC K F Kn0 sl ow D) : SB K F Kn0 sl ow D tCont := k
theorem sb_bk (k : SK K F Kn0 sl ow D) : SB K F Kn0 sl ow D tBreak := k
theorem sb_asg (hs : sl.set i (sv x) = sl') (h : EV K F Kn0 sl ow te x) (k : SN K F Kn0 sl' ow D) : SB K F Kn0 sl ow D (tAsg te (gName i)) := fun σ Kn H s =>
  h σ Kn H s _ fun v Kn1 H1 g1 r1 => k _ Kn1 H1 (hs ▸ (s.grow g1).setv i r1)
theorem sb_asgM (hs : sl.set i (sv x) = sl') (h : EM K F Kn0 sl ow te ow1 x) (k : SN K F Kn0 sl' ow1 D) : SB K F Kn0 sl ow D (tAsg te (gName i)) := fun σ Kn H s =>
  h σ Kn H s _ fun v Kn1 H1 e1 s1 r1 => k _ Kn1 H1 (hs ▸ s1.setv i r1)
/-- a new object is one's own -/
theorem S.own {σ : L2.St} {Kn H : Hp} {xs : List α} {ws : List V} (s : S K F Kn0 sl ow σ Kn H) (fp : F p = none) (kp : Kn p = none) (no : ∀ o ∈ ow, o.ad ≠ p) (hp : H p = some (.lst ws)) (r : Paired (rep K Kn) ws xs) : S K F Kn0 sl (ol p xs :: ow) σ Kn H :=
  ⟨s.e0, s.ek, s.ef, s.sep, s.sl, ⟨fun o ho => by
    rcases List.mem_cons.mp ho with rfl | ho
    · exact ⟨fp, kp, ws, hp, r⟩
    · exact s.ow.each o ho, List.nodup_cons.mpr ⟨fun h => by
      obtain ⟨o, ho, e⟩ := List.mem_map.mp h
      exact no o ho e, s.ow.nd⟩⟩⟩
theorem S.seta {σ : L2.St} {Kn H : Hp} (s : S K F Kn0 sl ow σ Kn H) (i : Nat) : S K F Kn0 (sl.set i (.at p)) ow (σ.set i (some (.ref p))) Kn H := s.set i rfl
theorem sb_asgO {xs : List α} {sl' : Addr → List Sl} (hs : ∀ p, sl.set i (.at p) = sl' p) (h : EN K F Kn0 sl ow te xs) (k : ∀ p, SN K F Kn0 (sl' p) (ol p xs :: ow) D) : SB K F Kn0 sl ow D (tAsg te (gName i)) := fun σ Kn H s =>
  h σ Kn H s _ fun p ws Kn1 H1 g1 hp kp hw r1 => k p _ Kn1 H1 (hs p ▸ ((s.grow g1).own (fresh_back s.ef hp) kp (owned_ne s hp) hw r1).seta i)
theorem sb_asgOM {xs : List α} {sl' : Addr → List Sl} (hs : ∀ p, sl.set i (.at p) = sl' p) (h : ENM K F Kn0 sl ow te ow1 xs) (k : ∀ p, SN K F Kn0 (sl' p) (ol p xs :: ow1) D) : SB K F Kn0 sl ow D (tAsg te (gName i)) := fun σ Kn H s =>
  h σ Kn H s _ fun p ws Kn1 H1 e1 s1 fp kp no hw r1 => k p _ Kn1 H1 (hs p ▸ (s1.own fp kp no hw r1).seta i)
theorem sb_aug {a c : Int} {f : Int → Int → Int} (hi : sl[i]? = some (sv a)) (hs : sl.set i (sv (f a c)) = sl') (h : EV K F Kn0 sl ow te c) (k : SN K F Kn0 sl' ow D) : SB K F Kn0 sl ow D (tAug i te (ipI f)) := fun σ Kn H s => by
  obtain ⟨o, h1, v, h2, h3⟩ := s.sl.get hi
  cases h3
  exact ⟨.int a, by rw [h1, h2], h σ Kn H s _ fun v Kn1 H1 g1 r1 => ⟨a, c, rfl, r1, k _ Kn1 H1 (hs ▸ (s.grow g1).setv (x := f a c) i rfl)⟩⟩
theorem sb_drop (h : EV K F Kn0 sl ow te x) (k : SN K F Kn0 sl ow D) : SB K F Kn0 sl ow D (tDrop te) := fun σ Kn H s => h σ Kn H s _ fun v Kn1 H1 g1 r1 => k _ Kn1 H1 (s.grow g1)
theorem sb_dropM (h : EM K F Kn0 sl ow te ow1 x) (k : SN K F Kn0 sl ow1 D) : SB K F Kn0 sl ow D (tDrop te) := fun σ Kn H s => h σ Kn H s _ fun v Kn1 H1 e1 s1 r1 => k _ Kn1 H1 s1
theorem upd_in {Kn H : Hp} {o : HO} (ek : Ex Kn H) (kp : Kn p = none) : Ex Kn (upd H p o) := fun a u h => by
  have hq : a ≠ p := fun z => by rw [z, kp] at h; cases h
  rw [upd_ne hq]
  exact ek _ _ h
/-- found.append(e) -/
theorem sb_app {xs : List α} (hi : sl[i]? = some (.at p)) (hj : ow[j]? = some (ol p xs)) (h : EV K F Kn0 sl ow te x) (hz : xs.length < 1000000) (k : SN K F Kn0 sl (ow.set j (ol p (xs ++ [x]))) D) :
    SB K F Kn0 sl ow D (tDrop (tBM K "list" rAppend (tVar i) (tCons te tNil))) := fun σ Kn H s => by
  obtain ⟨o, h1, h2⟩ := s.sl.get hi
  obtain ⟨f1, f2, ws, f3, f4⟩ := s.ow.each _ (List.mem_of_getElem? hj)
  refine ⟨.ref p, by rw [h1]; exact congrArg some h2, Or.inl ⟨rfl, ws, sq_of f3⟩, h σ Kn H s _ fun v Kn1 H1 g1 r1 => ?_⟩
  refine ⟨p, ws, v, rfl, rfl, g1.hh _ _ f3, by rw [paired_len f4]; exact lt_line hz, k _ Kn1 _ ?_⟩
  have kp1 : Kn1 p = none := g1.sp p (ne_none_of f3) f2
  exact (s.grow g1).write hj (Ex.refl _) (upd_in g1.kh kp1) (fun q hq _ => upd_ne hq) (fun _ _ h => h) upd_same (paired_append (paired_mono g1.kk f4) (.cons r1 .nil))
theorem sb_appM {xs : List α} (hi : sl[i]? = some (.at p)) (hi0 : ow[j]? = some (ol p xs)) (h : EM K F Kn0 sl ow te ow1 x) (hj : ow1[j]? = some (ol p xs)) (hz : xs.length < 1000000) (k : SN K F Kn0 sl (ow1.set j (ol p (xs ++ [x]))) D) :
    SB K F Kn0 sl ow D (tDrop (tBM K "list" rAppend (tVar i) (tCons te tNil))) := fun σ Kn H s => by
  obtain ⟨o, h1, h2⟩ := s.sl.get hi
  obtain ⟨_, _, ws0, f0, _⟩ := s.ow.each _ (List.mem_of_getElem? hi0)
  refine ⟨.ref p, by rw [h1]; exact congrArg some h2, Or.inl ⟨rfl, ws0, sq_of f0⟩, h σ Kn H s _ fun v Kn1 H1 e1 s1 r1 => ?_⟩
  obtain ⟨f1, f2, ws, f3, f4⟩ := s1.ow.each _ (List.mem_of_getElem? hj)
  refine ⟨p, ws, v, rfl, rfl, f3, by rw [paired_len f4]; exact lt_line hz, k _ Kn1 _ ?_⟩
  exact s1.write hj (Ex.refl _) (upd_in s1.ek f2) (fun q hq _ => upd_ne hq) (fun _ _ h => h) upd_same (paired_append f4 (.cons r1 .nil))
/-- the place of a written index -/
def setI {α : Type} (xs : List α) (i : Int) (x : α) : Option (List α) := (ixN xs.length i).map fun j => xs.set j x
/-- found[e] = x -/
theorem sb_setI {xs xs' : List α} {n : Int} (hi : sl[i]? = some (.at p)) (hj : ow[j]? = some (ol p xs)) (h : EV K F Kn0 sl ow te x) (hn : EV K F Kn0 sl ow tb n) (hx : setI xs n x = some xs') (k : SN K F Kn0 sl (ow.set j (ol p xs')) D) :
    SB K F Kn0 sl ow D (tAsg te (gSub (tVar i) tb rSetL)) := fun σ Kn H s => h σ Kn H s _ fun v Kn1 H1 g1 r1 => by
  obtain ⟨o, h1, h2⟩ := s.sl.get hi
  refine ⟨.ref p, by rw [h1]; exact congrArg some h2, hn σ Kn1 H1 (s.grow g1) _ fun w Kn2 H2 g2 r2 => ?_⟩
  have s2 := (s.grow g1).grow g2
  obtain ⟨f1, f2, ws, f3, f4⟩ := s2.ow.each _ (List.mem_of_getElem? hj)
  unfold setI at hx
  cases e : ixN xs.length n with
  | none => rw [e] at hx; cases hx
  | some m =>
    rw [e] at hx
    cases hx
    cases r2
    refine ⟨p, ws, n, m, rfl, rfl, f3, by rw [paired_len f4]; exact e, k _ Kn2 _ ?_⟩
    exact s2.write hj (Ex.refl _) (upd_in g2.kh f2) (fun q hq _ => upd_ne hq) (fun _ _ h => h) upd_same (paired_set (Rp.mono g2.kk r1) m f4)
/-- from now on it is known and stays as it is -/
theorem sb_freeze {xs : List α} (hi : sl[i]? = some (.at p)) (hj : ow[j]? = some (ol p xs)) (hs : sl.set i (sv xs) = sl') (ho : ow.eraseIdx j = ow1) (k : SB K F Kn0 sl' ow1 D t) : SB K F Kn0 sl ow D t := fun σ Kn H s => by
  obtain ⟨o, h1, h2⟩ := s.sl.get hi
  have h2 : o = some (.ref p) := h2
  obtain ⟨f1, f2, ws, f3, f4⟩ := s.ow.each _ (List.mem_of_getElem? hj)
  have hsub : ow1.Sublist ow := ho ▸ List.eraseIdx_sublist ow j
  have s1 := s.sub hsub
  have no : ∀ o ∈ ow1, o.ad ≠ p := fun o hm z => by
    have hnd := s.ow.nd
    subst ho
    obtain ⟨m, hm'⟩ := List.getElem?_of_mem hm
    rw [List.getElem?_eraseIdx] at hm'
    split at hm'
    · rename_i hlt
      have := ow_at hnd hm' hj z
      omega
    · rename_i hge
      have := ow_at hnd hm' hj z
      omega
  have s2 := s1.know (o := .lst ws) f1 f2 no f3
  have hσ : σ.set i o = σ := by
    refine List.ext_getElem? fun m => ?_
    by_cases e : i = m
    · subst e
      rw [List.getElem?_set_self (List.getElem?_eq_some_iff.mp h1).1, h1]
    · rw [List.getElem?_set_ne e]
  have s3 := s2.set (x := sv xs) (o := o) i ⟨.ref p, h2, p, ws, rfl, upd_same, paired_mono (Ex.new f2) f4⟩
  rw [hs, hσ] at s3
  exact k σ _ H s3
theorem sb_if (h : ET K F Kn0 sl ow tt b) (h1 : b = true → SB K F Kn0 sl ow D t) (h2 : b = false → SB K F Kn0 sl ow D u) : SB K F Kn0 sl ow D (tIfS tt t u) := fun σ Kn H s => h σ Kn H s _ fun Kn1 H1 g1 => by
  cases b with
  | true => exact iteT (h1 rfl σ Kn1 H1 (s.grow g1))
  | false => exact iteF (h2 rfl σ Kn1 H1 (s.grow g1))
theorem sb_cut (h : SB K F Kn0 sl ow { D with nx := fun σ H => ∃ Kn, S K F Kn0 sl' ow1 σ Kn H } t) (k : SB K F Kn0 sl' ow1 D tz) : SB K F Kn0 sl ow D (tCut t tz) := fun σ Kn H s => ⟨_, h σ Kn H s, fun σ' H' ⟨Kn', s'⟩ => k σ' Kn' H' s'⟩
theorem sn_mid (l : SlLe sl sl') (l2 : ow1.Sublist ow) : SN K F Kn0 sl ow { D with nx := fun σ H => ∃ Kn, S K F Kn0 sl' ow1 σ Kn H } := fun σ Kn H s => ⟨Kn, (s.le l).sub l2⟩
/-- returns -/
theorem sb_ret {R : VK} (h : EV K F Kn0 sl ow te x) (q : RT K F Kn0 ow0 R x) (l : ow0.Sublist ow) (hR : D.rt = R := by rfl) : SB K F Kn0 sl ow D (tRet te) := fun σ Kn H s => by
  subst hR
  exact h σ Kn H s _ fun v Kn1 H1 g1 r1 => q v Kn1 H1 ((s.grow g1).sub l).fin r1
theorem sb_retM {R : VK} (h : EM K F Kn0 sl ow te ow1 x) (q : RT K F Kn0 ow0 R x) (l : ow0.Sublist ow1) (hR : D.rt = R := by rfl) : SB K F Kn0 sl ow D (tRet te) := fun σ Kn H s => by
  subst hR
  exact h σ Kn H s _ fun v Kn1 H1 e1 s1 r1 => q v Kn1 H1 (s1.sub l).fin r1
theorem sb_retL {R : VK} {xs : List α} (h : EN K F Kn0 sl ow te xs) (q : RN K F Kn0 ow0 R xs) (l : ow0.Sublist ow) (hR : D.rt = R := by rfl) : SB K F Kn0 sl ow D (tRet te) := fun σ Kn H s => by
  subst hR
  exact h σ Kn H s _ fun p ws Kn1 H1 g1 hp kp hw r1 => q p ws Kn1 H1 ((s.grow g1).sub l).fin (fresh_back s.ef hp) kp hw r1
/-- a list of one's own is told -/
theorem sb_retO {R : VK} {xs : List α} (hi : sl[i]? = some (.at p)) (hj : ow[j]? = some (ol p xs)) (q : RN K F Kn0 ow0 R xs) (l : ow0.Sublist ow) (hR : D.rt = R := by rfl) : SB K F Kn0 sl ow D (tRet (tVar i)) := fun σ Kn H s => by
  subst hR
  obtain ⟨o, h1, h2⟩ := s.sl.get hi
  obtain ⟨f1, f2, ws, f3, f4⟩ := s.ow.each _ (List.mem_of_getElem? hj)
  exact ⟨.ref p, by rw [h1]; exact congrArg some h2, q p ws Kn H (s.sub l).fin f1 f2 f3 f4⟩
theorem SB.seqB (h : (∀ sl' ow', SB K F Kn0 sl' ow' D tz → SN K F Kn0 sl' ow' { D with nx := tz D }) → SB K F Kn0 sl ow { D with nx := tz D } t) : SB K F Kn0 sl ow D (tSeq t tz) := h fun _ _ k => k
theorem SB.cutB (h : (∀ sl2 ow2, SlLe sl2 sl' → ow1.Sublist ow2 → SN K F Kn0 sl2 ow2 { D with nx := fun σ H => ∃ Kn, S K F Kn0 sl' ow1 σ Kn H }) → SB K F Kn0 sl ow { D with nx := fun σ H => ∃ Kn, S K F Kn0 sl' ow1 σ Kn H } t) (k : SB K F Kn0 sl' ow1 D tz) : SB K F Kn0 sl ow D (tCut t tz) :=
  sb_cut (h fun _ _ l l2 => sn_mid l l2) k
end

/-! ### targets -/
section
variable {α β τ : Type} [Rp α] [Rp β] [Tp τ] {sl sl' sl2 : List Sl} {K : Fg}
theorem wipe_set : ∀ {vs : List Nat} {i : Nat} {o : Option V} {σ : L2.St}, i ∈ vs → wipe (σ.set i o) vs = wipe σ vs
  | v :: vs, i, o, σ, h => by
    by_cases e : i ∈ vs
    · unfold wipe
      rw [wipe_set e]
    · have hv : i = v := (List.mem_cons.mp h).resolve_right e
      subst hv
      have w : ∀ (vs : List Nat) (σ : L2.St), i ∉ vs → wipe (σ.set i o) vs = (wipe σ vs).set i o := by
        intro vs
        induction vs with
        | nil => intro σ _; rfl
        | cons a r ih =>
          intro σ hn
          show (wipe (σ.set i o) r).set a none = ((wipe σ r).set a none).set i o
          rw [ih σ (fun z => hn (List.mem_cons_of_mem _ z)), List.set_comm]
          exact fun z => hn (by rw [z]; exact List.mem_cons_self)
      show (wipe (σ.set i o) vs).set i none = (wipe σ vs).set i none
      rw [w vs σ e, List.set_set]
def GT (K : Fg) (g : TG) (sl sl' : List Sl) (js : List Nat) (x : α) : Prop := ∀ σ Kn H v, SlsOk K Kn sl σ → Ex Kn H → rep K Kn v x → ∀ Q : L2.St → Hp → Prop, (∀ σ', SlsOk K Kn sl' σ' → (∀ vs, (∀ j ∈ js, j ∈ vs) → wipe σ' vs = wipe σ vs) → Q σ' H) → g v σ H Q
def GTs (K : Fg) (g : TGs) (sl sl' : List Sl) (js : List Nat) (t : τ) : Prop := ∀ σ Kn H vs, SlsOk K Kn sl σ → Ex Kn H → rept K Kn vs t → ∀ Q : L2.St → Hp → Prop, (∀ σ', SlsOk K Kn sl' σ' → (∀ vs, (∀ j ∈ js, j ∈ vs) → wipe σ' vs = wipe σ vs) → Q σ' H) → g vs σ H Q
theorem gt_name {i : Nat} {x : α} (hs : sl.set i (sv x) = sl') : GT K (gName i) sl sl' [i] x := fun σ Kn H v s ek r Q q => q _ (hs ▸ SlsOk.set (s := sv x) ⟨v, rfl, r⟩ i s) fun vs h => wipe_set (h i (by simp))
theorem gts_nil : GTs K gNil sl sl [] () := fun σ Kn H vs s ek r Q q => ⟨r, q σ s fun _ _ => rfl⟩
theorem gts_cons {g : TG} {gs : TGs} {js ks : List Nat} {x : α} {t : τ} (h1 : GT K g sl sl' js x) (h2 : GTs K gs sl' sl2 ks t) : GTs K (gCons g gs) sl sl2 (js ++ ks) (x, t) := fun σ Kn H vs s ek r Q q => by
  obtain ⟨v, rest, rfl, r1, r2⟩ := r
  exact ⟨v, rest, rfl, h1 σ Kn H v s ek r1 _ fun σ1 s1 w1 => h2 σ1 Kn H rest s1 ek r2 _ fun σ2 s2 w2 => q σ2 s2 fun vs h => (w2 vs fun j hj => h j (List.mem_append_right _ hj)).trans (w1 vs fun j hj => h j (List.mem_append_left _ hj))⟩
theorem gt_tup {gs : TGs} {js : List Nat} {n : Nat} {t : α × τ} (h : GTs K gs sl sl' js t) (hn : Tp.n (α × τ) = n := by rfl) : GT K (gTup K n gs) sl sl' js t := fun σ Kn H v s ek r Q q => by
  obtain ⟨p, ws, rfl, h1, h2⟩ := r
  exact ⟨p, ws, rfl, st_of (ek _ _ h1), (Tp.len h2).trans hn, h σ Kn H ws s ek h2 Q q⟩
end
section
variable {K : Fg} {F Kn0 : Hp} {sl sl' : List Sl} {ow ow1 : List Ow} {α : Type} [Rp α] {te : TE} {x : α} {D : Ends} {g : TG} {js : List Nat}
/-- a, b = e -/
theorem sb_unp (h : EV K F Kn0 sl ow te x) (hg : GT K g sl sl' js x) (k : SN K F Kn0 sl' ow D) : SB K F Kn0 sl ow D (tAsg te g) := fun σ Kn H s =>
  h σ Kn H s _ fun v Kn1 H1 g1 r1 => by
    have s1 := s.grow g1
    exact hg σ Kn1 H1 v s1.sl s1.ek r1 _ fun σ' h' _ => k σ' Kn1 H1 ⟨s1.e0, s1.ek, s1.ef, s1.sep, h', s1.ow⟩
theorem sb_unpM (h : EM K F Kn0 sl ow te ow1 x) (hg : GT K g sl sl' js x) (k : SN K F Kn0 sl' ow1 D) : SB K F Kn0 sl ow D (tAsg te g) := fun σ Kn H s =>
  h σ Kn H s _ fun v Kn1 H1 e1 s1 r1 => hg σ Kn1 H1 v s1.sl s1.ek r1 _ fun σ' h' _ => k σ' Kn1 H1 ⟨s1.e0, s1.ek, s1.ef, s1.sep, h', s1.ow⟩
/-- a, b = e1, e2 -/
theorem sb_par {α β : Type} [Rp α] [Rp β] {ta : TA} {i j : Nat} {x : α} {y : β} (hs : (sl.set i (sv x)).set j (sv y) = sl') (h : EA K F Kn0 sl ow ta (x, y, ())) (k : SN K F Kn0 sl' ow D) : SB K F Kn0 sl ow D (tPar i j ta) := fun σ Kn H s =>
  h σ Kn H s _ fun vs Kn1 H1 g1 r1 => by
    obtain ⟨v, w, rfl, h1, h2⟩ := two_args r1
    exact ⟨v, w, rfl, k _ Kn1 H1 (hs ▸ ((s.grow g1).setv i h1).setv j h2)⟩
end

/-! ### what is walked -/
def WK {β : Type} [Rp β] (K : Fg) (Kn1 : Hp) (J : It) (xs : List β) : Prop := ∀ i Kn' H', Ex Kn1 Kn' → Ex Kn' H' →
  (∀ x, xs[i]? = some x → J.go i H' ∧ ∀ v H2, J.yld i H' v H2 → ∃ Kn2, Gr Kn' H' Kn2 H2 ∧ rep K Kn2 v x) ∧ (xs.length ≤ i → J.stop i H')
section
variable (K : Fg) (F Kn0 : Hp) (sl : List Sl) (ow : List Ow)
def IT {β : Type} [Rp β] (wi : TI) (xs : List β) : Prop := ∀ σ Kn H, S K F Kn0 sl ow σ Kn H → ∀ R : It → Hp → Prop, (∀ J Kn1 H1, Gr Kn H Kn1 H1 → WK K Kn1 J xs → R J H1) → wi σ H R
def ITM {β : Type} [Rp β] (wi : TI) (ow' : List Ow) (xs : List β) : Prop := ∀ σ Kn H, S K F Kn0 sl ow σ Kn H → ∀ R : It → Hp → Prop, (∀ J Kn1 H1, Ex Kn Kn1 → S K F Kn0 sl ow' σ Kn1 H1 → WK K Kn1 J xs → R J H1) → wi σ H R
end
/-- lo, lo + 1 .. below hi -/
def irange (lo hi : Int) : List Int := (List.range (hi - lo).toNat).map fun (k : Nat) => lo + (k : Int)
def rngO (lo hi : Int) : Option (List Int) := if -1000000000000 ≤ lo ∧ lo ≤ 1000000000000 ∧ -1000000000000 ≤ hi ∧ hi ≤ 1000000000000 then some (irange lo hi) else none
def enumI {α : Type} (xs : List α) : List (Int × α × Unit) := xs.mapIdx fun i x => ((i : Int), x, ())
def zipI {α β : Type} (xs : List α) (ys : List β) : List (α × β × Unit) := List.zipWith (fun a b => (a, b, ())) xs ys
section
variable {K : Fg} {F Kn0 : Hp} {sl sl' : List Sl} {ow ow1 : List Ow} {α β : Type} [Rp α] [Rp β] {te : TE} {ta : TA}
theorem IT.m {wi : TI} {xs : List β} (h : IT K F Kn0 sl ow wi xs) : ITM K F Kn0 sl ow wi ow xs := fun σ Kn H s R q => h σ Kn H s R fun J Kn1 H1 g w => q J Kn1 H1 g.kk (s.grow g) w
theorem wk_list {Kn1 : Hp} {p : Addr} {ws : List V} {xs : List α} (h : SqL K Kn1 p ws) (r : Paired (rep K Kn1) ws xs) : WK K Kn1 (Itl K p) xs := fun i Kn' H' e1 e2 => by
  have hq : SqL K H' p ws := ex_l (e1.trans e2) h
  refine ⟨fun x hx => ?_, fun hl => ⟨ws, hq, by rw [paired_len r]; exact hl⟩⟩
  obtain ⟨v, hv, rv⟩ := paired_at r hx
  refine ⟨⟨ws, v, hq, hv⟩, fun u H2 hy => ?_⟩
  obtain ⟨rfl, f⟩ := hy
  have : v = u := Option.some.inj (hv.symm.trans (f ws hq))
  subst this
  exact ⟨Kn', Gr.refl e2, Rp.mono e1 rv⟩
theorem it_list {xs : List α} (h : EV K F Kn0 sl ow te xs) : IT K F Kn0 sl ow (iList K te) xs := fun σ Kn H s R q => h σ Kn H s _ fun v Kn1 H1 g1 r1 => by
  obtain ⟨p, ws, rfl, h3, h4⟩ := r1
  exact ⟨p, rfl, ⟨ws, sq_of (g1.kh _ _ h3)⟩, q _ Kn1 H1 g1 (wk_list (sq_of h3) h4)⟩
theorem it_listF {xs : Fz α} (h : EV K F Kn0 sl ow te xs) : IT K F Kn0 sl ow (iList K te) xs.l := fun σ Kn H s R q => h σ Kn H s _ fun v Kn1 H1 g1 r1 => by
  obtain ⟨p, ws, rfl, h3, h4⟩ := r1
  exact ⟨p, rfl, ⟨ws, ex_l g1.kh h3⟩, q _ Kn1 H1 g1 (wk_list h3 h4)⟩
theorem itm_list {xs : List α} (h : ENM K F Kn0 sl ow te ow1 xs) : ITM K F Kn0 sl ow (iList K te) ow1 xs := fun σ Kn H s R q => h σ Kn H s _ fun p ws Kn1 H1 e1 s1 fp kp no hw r1 => by
  have s2 := s1.know (o := .lst ws) fp kp no hw
  exact ⟨p, rfl, ⟨ws, sq_of hw⟩, q _ _ H1 (e1.trans (Ex.new kp)) s2 (wk_list (sq_of upd_same) (paired_mono (Ex.new kp) r1))⟩
theorem it_tup {xs : Tu α} (h : EV K F Kn0 sl ow te xs) : IT K F Kn0 sl ow (iTup K te) xs.l := fun σ Kn H s R q => h σ Kn H s _ fun v Kn1 H1 g1 r1 => by
  obtain ⟨p, ws, rfl, h3, h4⟩ := r1
  refine ⟨p, rfl, ⟨ws, st_of (g1.kh _ _ h3)⟩, q _ Kn1 H1 g1 fun i Kn' H' e1 e2 => ?_⟩
  have hq : SqT K H' p ws := st_of ((e1.trans e2) _ _ h3)
  refine ⟨fun x hx => ?_, fun hl => ⟨ws, hq, by rw [paired_len h4]; exact hl⟩⟩
  obtain ⟨v, hv, rv⟩ := paired_at h4 hx
  refine ⟨⟨ws, v, hq, hv⟩, fun u H2 hy => ?_⟩
  obtain ⟨rfl, f⟩ := hy
  have : v = u := Option.some.inj (hv.symm.trans (f ws hq))
  subst this
  exact ⟨Kn', Gr.refl e2, Rp.mono e1 rv⟩
theorem wk_range {Kn1 : Hp} (lo hi : Int) : WK K Kn1 (Itr lo (hi - lo).toNat) (irange lo hi) := fun i Kn' H' e1 e2 => by
  refine ⟨fun x hx => ?_, fun hl => ?_⟩
  · unfold irange at hx
    rw [List.getElem?_map] at hx
    cases q : (List.range (hi - lo).toNat)[i]? with
    | none => rw [q] at hx; cases hx
    | some m =>
      rw [q] at hx
      obtain ⟨hlt, he⟩ := List.getElem?_eq_some_iff.mp q
      rw [List.getElem_range] at he
      rw [List.length_range] at hlt
      subst he
      cases hx
      refine ⟨hlt, fun v H2 hy => ?_⟩
      obtain ⟨rfl, rfl⟩ := hy
      exact ⟨Kn', Gr.refl e2, rfl⟩
  · unfold irange at hl
    rw [List.length_map, List.length_range] at hl
    exact hl
theorem it_rng1 {n : Int} {xs : List Int} (h : EA K F Kn0 sl ow ta (n, ())) (hx : rngO 0 n = some xs) : IT K F Kn0 sl ow (iRng1 ta) xs := fun σ Kn H s R q => h σ Kn H s _ fun vs Kn1 H1 g1 r1 => by
  obtain ⟨v, rfl, h1⟩ := one_arg r1
  cases h1
  unfold rngO at hx
  split at hx
  · rename_i hb
    cases hx
    refine ⟨n, rfl, by omega, by omega, q _ Kn1 H1 g1 ?_⟩
    have w := wk_range (K := K) (Kn1 := Kn1) 0 n
    rw [Int.sub_zero] at w
    exact w
  · cases hx
theorem itm_rng1 {n : Int} {xs : List Int} (h : EAM K F Kn0 sl ow ta ow1 (n, ())) (hx : rngO 0 n = some xs) : ITM K F Kn0 sl ow (iRng1 ta) ow1 xs := fun σ Kn H s R q => h σ Kn H s _ fun vs Kn1 H1 e1 s1 r1 => by
  obtain ⟨v, rfl, h1⟩ := one_arg r1
  cases h1
  unfold rngO at hx
  split at hx
  · rename_i hb
    cases hx
    refine ⟨n, rfl, by omega, by omega, q _ Kn1 H1 e1 s1 ?_⟩
    have w := wk_range (K := K) (Kn1 := Kn1) 0 n
    rw [Int.sub_zero] at w
    exact w
  · cases hx
theorem it_rng2 {lo n : Int} {xs : List Int} (h : EA K F Kn0 sl ow ta (lo, n, ())) (hx : rngO lo n = some xs) : IT K F Kn0 sl ow (iRng2 ta) xs := fun σ Kn H s R q => h σ Kn H s _ fun vs Kn1 H1 g1 r1 => by
  obtain ⟨v, w, rfl, h1, h2⟩ := two_args r1
  cases h1
  cases h2
  unfold rngO at hx
  split at hx
  · rename_i hb
    cases hx
    exact ⟨lo, n, rfl, ⟨by omega, by omega, by omega, by omega⟩, q _ Kn1 H1 g1 (wk_range lo n)⟩
  · cases hx
theorem enum_get {xs : List α} {i : Nat} {y : Int × α × Unit} (h : (enumI xs)[i]? = some y) : ∃ x, xs[i]? = some x ∧ y = ((i : Int), x, ()) := by
  unfold enumI at h
  rw [List.getElem?_mapIdx] at h
  cases q : xs[i]? with
  | none => rw [q] at h; cases h
  | some x => rw [q] at h; cases h; exact ⟨x, rfl, rfl⟩
theorem wk_enum {Kn1 : Hp} {p : Addr} {ws : List V} {xs : List α} (h : SqL K Kn1 p ws) (r : Paired (rep K Kn1) ws xs) : WK K Kn1 (Ite K p) (enumI xs) := fun i Kn' H' e1 e2 => by
  have hq : SqL K H' p ws := ex_l (e1.trans e2) h
  refine ⟨fun y hy => ?_, fun hl => ⟨ws, hq, by rw [paired_len r]; simpa [enumI] using hl⟩⟩
  obtain ⟨x, hx, rfl⟩ := enum_get hy
  obtain ⟨v, hv, rv⟩ := paired_at r hx
  refine ⟨⟨ws, v, hq, hv⟩, fun u H2 hy => ?_⟩
  obtain ⟨T, z, rfl, hT, rfl, f⟩ := hy
  have : v = z := Option.some.inj (hv.symm.trans (f ws hq))
  subst this
  have g : Gr Kn' H' (upd Kn' T (.tup [.int (i : Nat), v])) (upd H' T (.tup [.int (i : Nat), v])) := Gr.new e2 hT
  exact ⟨_, g, T, _, rfl, upd_same, .int (i : Nat), [v], rfl, rfl, v, [], rfl, Rp.mono (e1.trans g.kk) rv, rfl⟩
theorem it_enum {xs : List α} (h : EA K F Kn0 sl ow ta (xs, ())) : IT K F Kn0 sl ow (iEnum K ta) (enumI xs) := fun σ Kn H s R q => h σ Kn H s _ fun vs Kn1 H1 g1 r1 => by
  obtain ⟨v, rfl, p, ws, rfl, h3, h4⟩ := one_arg r1
  exact ⟨p, ws, rfl, sq_of (g1.kh _ _ h3), q _ Kn1 H1 g1 (wk_enum (sq_of h3) h4)⟩
theorem zip_get {xs : List α} {ys : List β} {i : Nat} {z : α × β × Unit} (h : (zipI xs ys)[i]? = some z) : ∃ x y, xs[i]? = some x ∧ ys[i]? = some y ∧ z = (x, y, ()) := by
  unfold zipI at h
  rw [List.getElem?_zipWith] at h
  cases q : xs[i]? with
  | none => rw [q] at h; simp at h
  | some x =>
    cases q2 : ys[i]? with
    | none => rw [q, q2] at h; simp at h
    | some y =>
      rw [q, q2] at h
      simp at h
      exact ⟨x, y, rfl, rfl, h.symm⟩
theorem it_zip {xs : List α} {ys : List β} (h : EA K F Kn0 sl ow ta (xs, ys, ())) : IT K F Kn0 sl ow (iZip K ta) (zipI xs ys) := fun σ Kn H s R q => h σ Kn H s _ fun vs Kn1 H1 g1 r1 => by
  obtain ⟨v, w, rfl, ⟨p, ws, rfl, h3, h4⟩, ⟨p2, ws2, rfl, h5, h6⟩⟩ := two_args r1
  refine ⟨p, p2, ws, ws2, rfl, sq_of (g1.kh _ _ h3), sq_of (g1.kh _ _ h5), q _ Kn1 H1 g1 fun i Kn' H' e1 e2 => ?_⟩
  have hq : SqL K H' p ws := sq_of ((e1.trans e2) _ _ h3)
  have hq2 : SqL K H' p2 ws2 := sq_of ((e1.trans e2) _ _ h5)
  refine ⟨fun y hy => ?_, fun hl => ⟨ws, ws2, hq, hq2, ?_⟩⟩
  · obtain ⟨x, y, hx, hy2, rfl⟩ := zip_get hy
    obtain ⟨v, hv, rv⟩ := paired_at h4 hx
    obtain ⟨v2, hv2, rv2⟩ := paired_at h6 hy2
    refine ⟨⟨ws, ws2, v, v2, hq, hq2, hv, hv2⟩, fun u H2 hy => ?_⟩
    obtain ⟨T, z, z2, rfl, hT, rfl, f, f2⟩ := hy
    have e3 : v = z := Option.some.inj (hv.symm.trans (f ws hq))
    have e4 : v2 = z2 := Option.some.inj (hv2.symm.trans (f2 ws2 hq2))
    subst e3
    subst e4
    have g : Gr Kn' H' (upd Kn' T (.tup [v, v2])) (upd H' T (.tup [v, v2])) := Gr.new e2 hT
    exact ⟨_, g, T, _, rfl, upd_same, v, [v2], rfl, Rp.mono (e1.trans g.kk) rv, v2, [], rfl, Rp.mono (e1.trans g.kk) rv2, rfl⟩
  · rw [paired_len h4, paired_len h6]
    simp [zipI] at hl
    omega
end

/-! ### loops -/
structure Bs (F Kn0 Kn1 : Hp) : Prop where
  e : Ex Kn0 Kn1
  sp : ∀ p, F p ≠ none → Kn0 p = none → Kn1 p = none
section
variable {K : Fg} {F Kn0 Kn1 : Hp} {sl sl' : List Sl} {ow ow0 ow1 : List Ow} {α β γ : Type} [Rp α] [Rp β] [Rp γ] {D : Ends} {σ : L2.St} {Kn H : Hp}
theorem Bs.refl : Bs F Kn0 Kn0 := ⟨Ex.refl _, fun _ _ h => h⟩
theorem S.bs (s : S K F Kn0 sl ow σ Kn H) : Bs F Kn0 Kn := ⟨s.e0, s.sep⟩
theorem S.rebase (s : S K F Kn0 sl ow σ Kn H) : S K F Kn sl ow σ Kn H := ⟨Ex.refl _, s.ek, s.ef, fun _ _ h => h, s.sl, s.ow⟩
theorem S.unbase (b : Bs F Kn0 Kn1) (s : S K F Kn1 sl ow σ Kn H) : S K F Kn0 sl ow σ Kn H := ⟨b.e.trans s.e0, s.ek, s.ef, fun p h1 h2 => s.sep p h1 (b.sp p h1 h2), s.sl, s.ow⟩
theorem RT.base {R : VK} {x : α} (q : RT K F Kn0 ow R x) (b : Bs F Kn0 Kn1) : RT K F Kn1 ow R x := fun v Kn H s => q v Kn H (s.unbase b)
theorem RN.base {R : VK} {xs : List α} (q : RN K F Kn0 ow R xs) (b : Bs F Kn0 Kn1) : RN K F Kn1 ow R xs := fun p ws Kn H s => q p ws Kn H (s.unbase b)
theorem SN.base (q : SN K F Kn0 sl ow D) (b : Bs F Kn0 Kn1) : SN K F Kn1 sl ow D := fun σ Kn H s => q σ Kn H (s.unbase b)
theorem sb_for {wi : TI} {g : TG} {tb : TS} {Sx : Type} {xs : List β} (slx : Sx → List Sl) (owx : Sx → List Ow) (gx : β → Sx → List Sl) (js : List Nat) (P : List β → Sx → Prop) (s0 : Sx) (hi : ITM K F Kn0 sl ow wi ow1 xs) (h0 : P xs s0) (le : SlLe sl (slx s0)) (eo : (owx s0).Sublist ow1)
    (hg : ∀ x s, GT K g (slx s) (gx x s) js x)
    (step : ∀ Kn1, Bs F Kn0 Kn1 → ∀ x rest s, P (x :: rest) s → ∀ N : L2.St → Hp → Prop, (∀ s', P rest s' → ∀ σ Kn H, S K F Kn1 (slx s') (owx s') σ Kn H → N σ H) → SB K F Kn1 (gx x s) (owx s) { D with nx := N, ct := N, bk := D.nx } tb)
    (done : ∀ s, P [] s → SN K F Kn0 (slx s) (owx s) D) : SB K F Kn0 sl ow D (tFor wi g tb) := fun σ Kn H s =>
  hi σ Kn H s _ fun J Kn1 H1 e1 s1 w => by
    have b : Bs F Kn0 Kn1 := s1.bs
    refine ⟨fun i m σ H => i + m = xs.length ∧ ∃ Kn s, P (xs.drop i) s ∧ S K F Kn1 (slx s) (owx s) σ Kn H, ⟨xs.length, by omega, Kn1, s0, h0, (s1.rebase.le le).sub eo⟩, fun i m σ H hW => ?_⟩
    obtain ⟨em, Kn, s, hP, hS⟩ := hW
    by_cases hlt : i < xs.length
    · have hx : xs[i]? = some xs[i] := List.getElem?_eq_getElem hlt
      have hd : xs.drop i = xs[i] :: xs.drop (i + 1) := List.drop_eq_getElem_cons hlt
      rw [hd] at hP
      obtain ⟨go, yl⟩ := (w i Kn H hS.e0 hS.ek).1 _ hx
      refine .inr ⟨go, fun σ' H' => ∃ Kn s, P (xs.drop (i + 1)) s ∧ S K F Kn1 (slx s) (owx s) σ' Kn H', fun σ' H' ⟨Kn', s', h1, h2⟩ => ⟨m - 1, by omega, by omega, Kn', s', h1, h2⟩, fun v H' hy => ?_⟩
      obtain ⟨Kn2, g2, rv⟩ := yl v H' hy
      have hS2 := hS.grow g2
      refine hg _ s σ Kn2 H' v hS2.sl hS2.ek rv _ fun σ2 h2 _ => ?_
      exact step Kn1 b _ _ s hP _ (fun s' hs' σ Kn H hS' => ⟨Kn, s', hs', hS'⟩) σ2 Kn2 H' ⟨hS2.e0, hS2.ek, hS2.ef, hS2.sep, h2, hS2.ow⟩
    · have hd : xs.drop i = [] := List.drop_eq_nil_of_le (by omega)
      rw [hd] at hP
      exact .inl ⟨(w i Kn H hS.e0 hS.ek).2 (by omega), done s hP σ Kn H (hS.unbase b)⟩
theorem sb_while {tt : TT} {tb : TS} {Sx : Type} (slx : Sx → List Sl) (owx : Sx → List Ow) (P : Nat → Sx → Prop) (n0 : Nat) (s0 : Sx) (h0 : P n0 s0) (le : SlLe sl (slx s0)) (eo : (owx s0).Sublist ow)
    (step : ∀ n s, P n s → ∃ b, ET K F Kn0 (slx s) (owx s) tt b ∧
      (b = true → ∀ N : L2.St → Hp → Prop, (∀ m s', m < n → P m s' → ∀ σ Kn H, S K F Kn0 (slx s') (owx s') σ Kn H → N σ H) → SB K F Kn0 (slx s) (owx s) { D with nx := N, ct := N, bk := D.nx } tb) ∧ (b = false → SN K F Kn0 (slx s) (owx s) D)) :
    SB K F Kn0 sl ow D (tWhile tt tb) := fun σ Kn H s => by
  refine ⟨fun n σ H => ∃ Kn s, P n s ∧ S K F Kn0 (slx s) (owx s) σ Kn H, ⟨n0, Kn, s0, h0, (s.le le).sub eo⟩, fun n σ H hW => ?_⟩
  obtain ⟨Kn, s, hP, hS⟩ := hW
  obtain ⟨b, h1, h2, h3⟩ := step n s hP
  refine h1 σ Kn H hS _ fun Kn1 H1 g1 => ?_
  cases b with
  | true => exact iteT ⟨fun σ H => ∃ m Kn s, m < n ∧ P m s ∧ S K F Kn0 (slx s) (owx s) σ Kn H, fun σ' H' ⟨m, Kn', s', hm, hp, hs⟩ => ⟨m, hm, Kn', s', hp, hs⟩, h2 rfl _ (fun m s' hm hp σ Kn H hs => ⟨m, Kn, s', hm, hp, hs⟩) σ Kn1 H1 (hS.grow g1)⟩
  | false => exact iteF (h3 rfl σ Kn1 H1 (hS.grow g1))
end

/-! ### comprehensions -/
def lcGo {β γ : Type} (c : β → Option Bool) (f : β → Option γ) : List β → Option (List γ)
  | [] => some []
  | x :: xs => (c x).bind fun b => if b = true then (f x).bind fun z => (lcGo c f xs).bind fun zs => some (z :: zs) else lcGo c f xs
def lcM {β γ : Type} (c : β → Option Bool) (f : β → Option γ) (xs : List β) : Option (List γ) := if xs.length < 1000000 then lcGo c f xs else none
def lcSGo {β γ Sx : Type} (f : β → Sx → Option (γ × Sx)) : List β → Sx → Option (List γ × Sx)
  | [], s => some ([], s)
  | x :: xs, s => (f x s).bind fun r => (lcSGo f xs r.2).bind fun q => some (r.1 :: q.1, q.2)
def lcS {β γ Sx : Type} (f : β → Sx → Option (γ × Sx)) (xs : List β) (s : Sx) : Option (List γ × Sx) := if xs.length < 1000000 then lcSGo f xs s else none
section
variable {K : Fg} {F Kn0 : Hp} {sl sl' : List Sl} {ow ow0 ow1 : List Ow} {α β γ : Type} [Rp α] [Rp β] [Rp γ] {σ : L2.St} {Kn H : Hp} {tt : TT} {te : TE} {wi : TI} {g : TG} {vs js : List Nat}
theorem bind_some {α β : Type} {m : Option α} {f : α → Option β} {r : β} (h : m.bind f = some r) : ∃ a, m = some a ∧ f a = some r := by
  cases m with
  | none => cases h
  | some a => exact ⟨a, rfl, h⟩
theorem SlsOk.wipe : ∀ {vs : List Nat} {Kn : Hp} {sl : List Sl} {σ : L2.St}, (∀ j ∈ vs, sl[j]? = some .any) → SlsOk K Kn sl σ → SlsOk K Kn sl (wipe σ vs)
  | [], _, _, _, _, h => h
  | v :: vs, Kn, sl, σ, hv, h => by
    have h1 := SlsOk.wipe (vs := vs) (fun j hj => hv j (List.mem_cons_of_mem _ hj)) h
    have h2 := SlsOk.set (K := K) (H := Kn) (s := .any) (o := none) trivial v h1
    have e : sl.set v .any = sl := by
      refine List.ext_getElem? fun m => ?_
      have hm := hv v List.mem_cons_self
      by_cases q : v = m
      · subst q
        rw [List.getElem?_set_self (List.getElem?_eq_some_iff.mp hm).1, hm]
      · rw [List.getElem?_set_ne q]
    rw [e] at h2
    exact h2
theorem S.wipe (s : S K F Kn0 sl ow σ Kn H) (hv : ∀ j ∈ vs, sl[j]? = some .any) : S K F Kn0 sl ow (wipe σ vs) Kn H := ⟨s.e0, s.ek, s.ef, s.sep, s.sl.wipe hv, s.ow⟩
theorem Gr.mut {Kn' H' : Hp} {p : Addr} {o : HO} (g : Gr Kn H Kn' H') (hp : H p = none) (kp : Kn' p = none) : Gr Kn H Kn' (upd H' p o) :=
  ⟨g.kk, Ex.mut g.hh hp, upd_in g.kh kp, g.sp⟩
theorem S.slots {σ2 : L2.St} (s : S K F Kn0 sl ow σ Kn H) (h : SlsOk K Kn sl' σ2) : S K F Kn0 sl' ow σ2 Kn H := ⟨s.e0, s.ek, s.ef, s.sep, h, s.ow⟩
theorem en_lc {xs : List β} {zs : List γ} {c : β → Option Bool} {f : β → Option γ} (gx : β → List Sl) (hm : lcM c f xs = some zs) (hi : IT K F Kn0 sl ow wi xs) (hv : ∀ j ∈ vs, sl[j]? = some .any) (hg : ∀ x, GT K g sl (gx x) js x) (hj : ∀ j ∈ js, j ∈ vs)
    (ht : ∀ p (acc : List γ) x b, c x = some b → ET K F Kn0 (gx x) (ol p acc :: ow) tt b) (he : ∀ p (acc : List γ) x z, c x = some true → f x = some z → EV K F Kn0 (gx x) (ol p acc :: ow) te z) :
    EN K F Kn0 sl ow (tLc wi g tt te vs) zs := fun σ Kn H s Q q => by
  unfold lcM at hm
  split at hm
  case isFalse => cases hm
  rename_i hlen
  refine hi σ Kn H s _ fun J Kn1 H1 g1 w D hD => ?_
  have s1 := s.grow g1
  have kD : Kn1 D = none := fresh_back s1.ek hD
  have fD : F D = none := fresh_back s1.ef hD
  refine ⟨fun i m H' => i + m = xs.length ∧ ∃ Kn' ws acc rest, Gr Kn1 H1 Kn' H' ∧ Kn' D = none ∧ H' D = some (.lst ws) ∧ Paired (rep K Kn') ws acc ∧ acc.length ≤ i ∧ lcGo c f (xs.drop i) = some rest ∧ acc ++ rest = zs,
    ⟨xs.length, by omega, Kn1, [], [], zs, (Gr.newU g1.kh hD), kD, upd_same, .nil, Nat.le_refl _, hm, rfl⟩, fun i m H' hW => ?_⟩
  obtain ⟨em, Kn', ws, acc, rest, gr, kD', hD', rp, hal, hrest, hz⟩ := hW
  have s' : S K F Kn0 sl (ol D acc :: ow) σ Kn' H' := (s1.grow gr).own fD kD' (owned_ne s1 hD) hD' rp
  by_cases hlt : i < xs.length
  · have hx : xs[i]? = some xs[i] := List.getElem?_eq_getElem hlt
    have hd : xs.drop i = xs[i] :: xs.drop (i + 1) := List.drop_eq_getElem_cons hlt
    rw [hd] at hrest
    obtain ⟨b, hb, hrest⟩ := bind_some hrest
    obtain ⟨go, yl⟩ := (w i Kn' H' gr.kk gr.kh).1 _ hx
    refine .inr ⟨go, fun H'' => ∃ Kn' ws acc rest, Gr Kn1 H1 Kn' H'' ∧ Kn' D = none ∧ H'' D = some (.lst ws) ∧ Paired (rep K Kn') ws acc ∧ acc.length ≤ i + 1 ∧ lcGo c f (xs.drop (i + 1)) = some rest ∧ acc ++ rest = zs, fun H'' h => ⟨m - 1, by omega, by omega, h⟩, fun v H2 hy => ?_⟩
    obtain ⟨Kn2, g2, rv⟩ := yl v H2 hy
    have s2 := (s'.grow g2).wipe hv
    refine hg _ _ Kn2 H2 v s2.sl s2.ek rv _ fun σ3 h3 hw3 => ?_
    have s3 := s2.slots h3
    have hDn : H' D ≠ none := ne_none_of hD'
    refine ⟨(hw3 vs hj).trans ?_, ht D acc _ b hb σ3 Kn2 H2 s3 _ fun Kn3 H3 g3 => ?_⟩
    · have ww : ∀ (vs us : List Nat) (σ : L2.St), (∀ j ∈ vs, j ∈ us) → L2.wipe (L2.wipe σ vs) us = L2.wipe σ us := by
        intro vs
        induction vs with
        | nil => intro us σ _; rfl
        | cons a r ih =>
          intro us σ hh
          show L2.wipe ((L2.wipe σ r).set a none) us = L2.wipe σ us
          rw [wipe_set (hh a List.mem_cons_self)]
          exact ih us σ fun j hj => hh j (List.mem_cons_of_mem _ hj)
      exact ww vs vs σ fun _ h => h
    · have g123 : Gr Kn1 H1 Kn3 H3 := (gr.trans g2).trans g3
      have kD3 : Kn3 D = none := (g2.trans g3).sp D hDn kD'
      have hD3 : H3 D = some (.lst ws) := (g2.trans g3).hh _ _ hD'
      cases b with
      | true =>
        obtain ⟨z, hfz, hrest⟩ := bind_some (show (f xs[i]).bind _ = some rest from hrest)
        obtain ⟨zs', hzs, hrest⟩ := bind_some hrest
        cases hrest
        refine iteT (he D acc _ z hb hfz σ3 Kn3 H3 (s3.grow g3) _ fun y Kn4 H4 g4 ry => ?_)
        have g234 := (g2.trans g3).trans g4
        have kD4 : Kn4 D = none := g4.sp D (ne_none_of hD3) kD3
        refine ⟨ws, g4.hh _ _ hD3, by rw [paired_len rp]; exact lt_line (by omega), Kn4, ws ++ [y], acc ++ [z], zs', (gr.trans g234).mut hD kD4, kD4, upd_same, paired_append (paired_mono g234.kk rp) (.cons ry .nil), ?_, hzs, ?_⟩
        · rw [List.length_append, List.length_singleton]; omega
        · rw [List.append_assoc]; exact hz
      | false =>
        have hrest : lcGo c f (xs.drop (i + 1)) = some rest := hrest
        exact iteF ⟨Kn3, ws, acc, rest, g123, kD3, hD3, paired_mono (g2.trans g3).kk rp, by omega, hrest, hz⟩
  · have hd : xs.drop i = [] := List.drop_eq_nil_of_le (by omega)
    rw [hd] at hrest
    cases hrest
    rw [List.append_nil] at hz
    subst hz
    exact .inl ⟨(w i Kn' H' gr.kk gr.kh).2 (by omega), q D ws Kn' H' (g1.trans gr) (fresh_back g1.hh hD) kD' hD' rp⟩
theorem et_yes : ET K F Kn0 sl ow tYes true := fun σ Kn H s Q q => q Kn H (Gr.refl s.ek)
/-- what changes on the way: owx -/
theorem enm_lc {Sx : Type} {xs : List β} {zs : List γ} {f : β → Sx → Option (γ × Sx)} (owx : Sx → List Ow) (gx : β → List Sl) (s0 s9 : Sx) (hm : lcS f xs s0 = some (zs, s9)) (hi : ITM K F Kn0 sl ow wi (owx s0) xs) (hv : ∀ j ∈ vs, sl[j]? = some .any) (hg : ∀ x, GT K g sl (gx x) js x) (hj : ∀ j ∈ js, j ∈ vs)
    (he : ∀ Kn1, Bs F Kn0 Kn1 → ∀ p (acc : List γ) x s z s', f x s = some (z, s') → EM K F Kn1 (gx x) (ol p acc :: owx s) te (ol p acc :: owx s') z) :
    ENM K F Kn0 sl ow (tLc wi g tYes te vs) (owx s9) zs := fun σ Kn H s Q q => by
  unfold lcS at hm
  split at hm
  case isFalse => cases hm
  rename_i hlen
  refine hi σ Kn H s _ fun J Kn1 H1 e1 s1 w D hD => ?_
  have kD : Kn1 D = none := fresh_back s1.ek hD
  have fD : F D = none := fresh_back s1.ef hD
  have b1 : Bs F Kn0 Kn1 := s1.bs
  refine ⟨fun i m H' => i + m = xs.length ∧ ∃ Kn' st acc rest, S K F Kn1 sl (ol D acc :: owx st) σ Kn' H' ∧ acc.length ≤ i ∧ lcSGo f (xs.drop i) st = some (rest, s9) ∧ acc ++ rest = zs,
    ⟨xs.length, by omega, Kn1, s0, [], zs, ?_, Nat.le_refl _, hm, rfl⟩, fun i m H' hW => ?_⟩
  · have s2 := s1.rebase.grow (Gr.newU (o := .lst []) s1.ek hD)
    exact s2.own fD kD (owned_ne s1 hD) upd_same .nil
  obtain ⟨em, Kn', st, acc, rest, s', hal, hrest, hz⟩ := hW
  obtain ⟨_, kD', ws, hD', rp⟩ := s'.ow.each (ol D acc) List.mem_cons_self
  have hD' : H' D = some (.lst ws) := hD'
  by_cases hlt : i < xs.length
  · have hx : xs[i]? = some xs[i] := List.getElem?_eq_getElem hlt
    have hd : xs.drop i = xs[i] :: xs.drop (i + 1) := List.drop_eq_getElem_cons hlt
    rw [hd] at hrest
    obtain ⟨⟨z, st'⟩, hf, hrest⟩ := bind_some hrest
    obtain ⟨⟨zs', s9'⟩, hzs, hrest⟩ := bind_some hrest
    have h9 := Option.some.inj hrest
    have h91 : z :: zs' = rest := congrArg Prod.fst h9
    have h92 : s9' = s9 := congrArg Prod.snd h9
    rw [h92] at hzs
    subst h91
    obtain ⟨go, yl⟩ := (w i Kn' H' s'.e0 s'.ek).1 _ hx
    refine .inr ⟨go, fun H'' => ∃ Kn' st acc rest, S K F Kn1 sl (ol D acc :: owx st) σ Kn' H'' ∧ acc.length ≤ i + 1 ∧ lcSGo f (xs.drop (i + 1)) st = some (rest, s9) ∧ acc ++ rest = zs, fun H'' h => ⟨m - 1, by omega, by omega, h⟩, fun v H2 hy => ?_⟩
    obtain ⟨Kn2, g2, rv⟩ := yl v H2 hy
    have s2 := (s'.grow g2).wipe hv
    refine hg _ _ Kn2 H2 v s2.sl s2.ek rv _ fun σ3 h3 hw3 => ?_
    have s3 := s2.slots h3
    refine ⟨(hw3 vs hj).trans ?_, ?_⟩
    · have ww : ∀ (vs us : List Nat) (σ : L2.St), (∀ j ∈ vs, j ∈ us) → L2.wipe (L2.wipe σ vs) us = L2.wipe σ us := by
        intro vs
        induction vs with
        | nil => intro us σ _; rfl
        | cons a r ih =>
          intro us σ hh
          show L2.wipe ((L2.wipe σ r).set a none) us = L2.wipe σ us
          rw [wipe_set (hh a List.mem_cons_self)]
          exact ih us σ fun j hj => hh j (List.mem_cons_of_mem _ hj)
      exact ww vs vs σ fun _ h => h
    · unfold tYes
      refine iteT ?_
      refine he Kn1 b1 D acc _ st z st' hf σ3 Kn2 H2 s3 _ fun y Kn4 H4 e4 s4 ry => ?_
      obtain ⟨_, kD4, ws4, hD4, rp4⟩ := s4.ow.each (ol D acc) List.mem_cons_self
      have kD4 : Kn4 D = none := kD4
      have s5 : S K F Kn1 (gx xs[i]) (ol D (acc ++ [z]) :: owx st') σ3 Kn4 (upd H4 D (.lst (ws4 ++ [y]))) := s4.write (j := 0) (xs' := acc ++ [z]) rfl (Ex.refl _) (upd_in s4.ek kD4) (fun q hq _ => upd_ne hq) (fun _ _ h => h) upd_same (paired_append rp4 (.cons ry .nil))
      have hsl : SlsOk K Kn4 sl σ := s'.sl.mono (g2.kk.trans e4)
      refine ⟨ws4, hD4, by rw [paired_len rp4]; exact lt_line (by omega), Kn4, st', acc ++ [z], zs', s5.slots hsl, ?_, hzs, ?_⟩
      · rw [List.length_append, List.length_singleton]; omega
      · rw [List.append_assoc]; exact hz
  · have hd : xs.drop i = [] := List.drop_eq_nil_of_le (by omega)
    rw [hd] at hrest
    have h9 := Option.some.inj hrest
    have h91 : [] = rest := congrArg Prod.fst h9
    have h92 : st = s9 := congrArg Prod.snd h9
    subst h91
    subst h92
    rw [List.append_nil] at hz
    subst hz
    have no : ∀ o ∈ owx st, o.ad ≠ D := fun o ho z => (List.nodup_cons.mp s'.ow.nd).1 (List.mem_map.mpr ⟨o, ho, z⟩)
    exact .inl ⟨(w i Kn' H' s'.e0 s'.ek).2 (by omega), q D ws Kn' H' (e1.trans s'.e0) ((s'.unbase b1).sub (List.sublist_cons_self _ _)) fD kD' no hD' rp⟩
end
end Wk
/-! Wk4: loops as functions, == of data, kinds, lists of one's own that are read -/
namespace Wk
open PySem PySem.Spec L2 Evl

/-! ### the mirrors' words -/
inductive Ctl (Sx R : Type) where
  | nx (s : Sx)
  | bk (s : Sx)
  | rt (r : R)
def forS {β Sx : Type} (f : β → Sx → Option Sx) : List β → Sx → Option Sx
  | [], s => some s
  | x :: xs, s => (f x s).bind (forS f xs)
def forC {β Sx R : Type} (f : β → Sx → Option (Ctl Sx R)) : List β → Sx → Option (Ctl Sx R)
  | [], s => some (.nx s)
  | x :: xs, s => (f x s).bind fun c => match c with
    | .nx s' => forC f xs s'
    | .bk s' => some (.nx s')
    | .rt r => some (.rt r)
def whileS {Sx : Type} (c : Sx → Option Bool) (f : Sx → Option Sx) : Nat → Sx → Option Sx
  | 0, _ => none
  | n + 1, s => (c s).bind fun b => if b = true then (f s).bind (whileS c f n) else some s
def whileC {Sx R : Type} (c : Sx → Option Bool) (f : Sx → Option (Ctl Sx R)) : Nat → Sx → Option (Ctl Sx R)
  | 0, _ => none
  | n + 1, s => (c s).bind fun b => if b = true then (f s).bind fun c' => match c' with
    | .nx s' => whileC c f n s'
    | .bk s' => some (.nx s')
    | .rt r => some (.rt r) else some (.nx s)
theorem whileS_more {Sx : Type} {c : Sx → Option Bool} {f : Sx → Option Sx} : ∀ {n m : Nat} {s r : Sx}, whileS c f n s = some r → n ≤ m → whileS c f m s = some r
  | 0, _, _, _, h, _ => by cases h
  | n + 1, 0, _, _, _, h => absurd h (Nat.not_succ_le_zero _)
  | n + 1, m + 1, s, r, h, hm => by
    unfold whileS at h ⊢
    cases e : c s with
    | none => rw [e] at h; cases h
    | some b =>
      rw [e] at h
      cases b with
      | false => exact h
      | true =>
        have h : ((f s).bind (whileS c f n)) = some r := h
        show ((f s).bind (whileS c f m)) = some r
        cases e2 : f s with
        | none => rw [e2] at h; cases h
        | some s' =>
          rw [e2] at h
          exact whileS_more (show whileS c f n s' = some r from h) (Nat.le_of_succ_le_succ hm)
theorem whileC_more {Sx R : Type} {c : Sx → Option Bool} {f : Sx → Option (Ctl Sx R)} : ∀ {n m : Nat} {s : Sx} {r : Ctl Sx R}, whileC c f n s = some r → n ≤ m → whileC c f m s = some r
  | 0, _, _, _, h, _ => by cases h
  | n + 1, 0, _, _, _, h => absurd h (Nat.not_succ_le_zero _)
  | n + 1, m + 1, s, r, h, hm => by
    unfold whileC at h ⊢
    cases e : c s with
    | none => rw [e] at h; cases h
    | some b =>
      rw [e] at h
      cases b with
      | false => exact h
      | true =>
        have h : ((f s).bind _) = some r := h
        show ((f s).bind _) = some r
        cases e2 : f s with
        | none => rw [e2] at h; cases h
        | some k =>
          rw [e2] at h
          cases k with
          | nx s' => exact whileC_more (show whileC c f n s' = some r from h) (Nat.le_of_succ_le_succ hm)
          | bk _ => exact h
          | rt _ => exact h
/-- a while, for as many turns as it takes -/
noncomputable def whileF {Sx : Type} (c : Sx → Option Bool) (f : Sx → Option Sx) (s : Sx) : Option Sx := by
  classical exact if h : ∃ n r, whileS c f n s = some r then some h.choose_spec.choose else none
theorem whileF_some {Sx : Type} {c : Sx → Option Bool} {f : Sx → Option Sx} {s r : Sx} (h : whileF c f s = some r) : ∃ n, whileS c f n s = some r := by
  unfold whileF at h
  split at h
  · rename_i he
    refine ⟨he.choose, ?_⟩
    rw [← Option.some.inj h]
    exact he.choose_spec.choose_spec
  · cases h
theorem whileF_of {Sx : Type} {c : Sx → Option Bool} {f : Sx → Option Sx} {n : Nat} {s r : Sx} (h : whileS c f n s = some r) : whileF c f s = some r := by
  have he : ∃ n r, whileS c f n s = some r := ⟨n, r, h⟩
  unfold whileF
  rw [dif_pos he]
  have h2 := he.choose_spec.choose_spec
  have a := whileS_more h (Nat.le_max_left n he.choose)
  have b := whileS_more h2 (Nat.le_max_right n he.choose)
  exact b.symm.trans a
noncomputable def whileCF {Sx R : Type} (c : Sx → Option Bool) (f : Sx → Option (Ctl Sx R)) (s : Sx) : Option (Ctl Sx R) := by
  classical exact if h : ∃ n r, whileC c f n s = some r then some h.choose_spec.choose else none
theorem whileCF_some {Sx R : Type} {c : Sx → Option Bool} {f : Sx → Option (Ctl Sx R)} {s : Sx} {r : Ctl Sx R} (h : whileCF c f s = some r) : ∃ n, whileC c f n s = some r := by
  unfold whileCF at h
  split at h
  · rename_i he
    refine ⟨he.choose, ?_⟩
    rw [← Option.some.inj h]
    exact he.choose_spec.choose_spec
  · cases h
theorem whileCF_of {Sx R : Type} {c : Sx → Option Bool} {f : Sx → Option (Ctl Sx R)} {n : Nat} {s : Sx} {r : Ctl Sx R} (h : whileC c f n s = some r) : whileCF c f s = some r := by
  have he : ∃ n r, whileC c f n s = some r := ⟨n, r, h⟩
  unfold whileCF
  rw [dif_pos he]
  have h2 := he.choose_spec.choose_spec
  have a := whileC_more h (Nat.le_max_left n he.choose)
  have b := whileC_more h2 (Nat.le_max_right n he.choose)
  exact b.symm.trans a
def appO {α : Type} (xs : List α) (x : α) : Option (List α) := if xs.length < 1000000 then some (xs ++ [x]) else none
def modO (i j : Int) : Option Int := if 0 < j then some (i % j) else none
def divO (i j : Int) : Option Int := if 0 < j ∧ j < 18446744073709551616 then some (i / j) else none
def mulO (i j : Int) : Option Int := if -18446744073709551616 < i ∧ i < 18446744073709551616 then some (i * j) else none
def catO {α : Type} (xs ys : List α) : Option (List α) := if xs.length + ys.length ≤ 1000000 then some (xs ++ ys) else none
theorem appO_some {α : Type} {xs ys : List α} {x : α} (h : appO xs x = some ys) : xs.length < 1000000 ∧ ys = xs ++ [x] := by
  unfold appO at h
  split at h
  · exact ⟨by assumption, (Option.some.inj h).symm⟩
  · cases h
theorem appO_ok {α : Type} {xs : List α} {x : α} (h : xs.length < 1000000) : appO xs x = some (xs ++ [x]) := if_pos h
theorem modO_ok {i j : Int} (h : 0 < j) : modO i j = some (i % j) := if_pos h
theorem divO_ok {i j : Int} (h : 0 < j) (h2 : j < 18446744073709551616) : divO i j = some (i / j) := if_pos ⟨h, h2⟩
theorem mulO_ok {i j : Int} (h : -18446744073709551616 < i) (h2 : i < 18446744073709551616) : mulO i j = some (i * j) := if_pos ⟨h, h2⟩
theorem catO_ok {α : Type} {xs ys : List α} (h : xs.length + ys.length ≤ 1000000) : catO xs ys = some (xs ++ ys) := if_pos h

section
variable {K : Fg} {F Kn0 : Hp} {sl sl' : List Sl} {ow ow0 ow1 ow2 : List Ow} {α β γ τ : Type} [Rp α] [Rp β] [Rp γ] [Tp τ] {ta tb te : TE} {x : α} {D : Ends} {t u tz : TS} {tt : TT} {b : Bool} {i j : Nat} {p : Addr}
theorem SB.sn (h : SB K F Kn0 sl ow D tz) : SN K F Kn0 sl ow { D with nx := tz D } := h
theorem r2_modO {i j z : Int} (h : modO i j = some z) : R2V K (rI (fun _ j => 0 < j) fun i j => .int (i % j)) i j z := by
  unfold modO at h
  split at h
  · cases h
    exact r2_I (by assumption)
  · cases h
theorem r2_divO {i j z : Int} (h : divO i j = some z) : R2V K (rI CDivW fun i j => .int (i / j)) i j z := by
  unfold divO at h
  split at h
  · rename_i hb
    cases h
    exact r2_I (wide_div (b := 64) hb.1 (by omega) (by decide) (by decide))
  · cases h
theorem r2_mulO {i j z : Int} (h : mulO i j = some z) : R2V K (rI CMul fun i j => .int (i * j)) i j z := by
  unfold mulO at h
  split at h
  · rename_i hb
    cases h
    exact r2_I (.inl ⟨by omega, by omega⟩)
  · cases h
theorem r2_catO {xs ys zs : List α} (h : catO xs ys = some zs) : R2L K rCat xs ys zs := by
  unfold catO at h
  split at h
  · cases h
    exact r2_cat (by assumption)
  · cases h
theorem sb_appO {xs xs' : List α} (hi : sl[i]? = some (.at p)) (hj : ow[j]? = some (ol p xs)) (h : EV K F Kn0 sl ow te x) (hx : appO xs x = some xs') (ho : ow.set j (ol p xs') = ow1) (k : SN K F Kn0 sl ow1 D) :
    SB K F Kn0 sl ow D (tDrop (tBM K "list" rAppend (tVar i) (tCons te tNil))) := by
  obtain ⟨h1, rfl⟩ := appO_some hx
  subst ho
  exact sb_app hi hj h h1 k
theorem sb_appOM {xs xs' : List α} (hi : sl[i]? = some (.at p)) (hi0 : ow[j]? = some (ol p xs)) (h : EM K F Kn0 sl ow te ow1 x) (hj : ow1[j]? = some (ol p xs)) (hx : appO xs x = some xs') (ho : ow1.set j (ol p xs') = ow2) (k : SN K F Kn0 sl ow2 D) :
    SB K F Kn0 sl ow D (tDrop (tBM K "list" rAppend (tVar i) (tCons te tNil))) := by
  obtain ⟨h1, rfl⟩ := appO_some hx
  subst ho
  exact sb_appM hi hi0 h hj h1 k
theorem sb_setO {xs xs' : List α} {n : Int} (hi : sl[i]? = some (.at p)) (hj : ow[j]? = some (ol p xs)) (h : EV K F Kn0 sl ow te x) (hn : EV K F Kn0 sl ow tb n) (hx : setI xs n x = some xs') (ho : ow.set j (ol p xs') = ow1) (k : SN K F Kn0 sl ow1 D) :
    SB K F Kn0 sl ow D (tAsg te (gSub (tVar i) tb rSetL)) := by
  subst ho
  exact sb_setI hi hj h hn hx k

/-! ### lists of one's own, read -/
theorem S.borrow {σ : L2.St} {Kn H : Hp} {xs : List α} (s : S K F Kn0 sl ow σ Kn H) (hi : sl[i]? = some (.at p)) (hj : ow[j]? = some (ol p xs)) : ∃ ws, Kn p = none ∧ H p = some (.lst ws) ∧ S K F Kn0 (sl.set i (sv xs)) (ow.eraseIdx j) σ (upd Kn p (.lst ws)) H := by
  obtain ⟨o, h1, h2⟩ := s.sl.get hi
  have h2 : o = some (.ref p) := h2
  obtain ⟨f1, f2, ws, f3, f4⟩ := s.ow.each _ (List.mem_of_getElem? hj)
  have s1 := s.sub (List.eraseIdx_sublist ow j)
  have no : ∀ o ∈ ow.eraseIdx j, o.ad ≠ p := fun o hm z => by
    obtain ⟨m, hm'⟩ := List.getElem?_of_mem hm
    rw [List.getElem?_eraseIdx] at hm'
    split at hm'
    · have := ow_at s.ow.nd hm' hj z
      omega
    · have := ow_at s.ow.nd hm' hj z
      omega
  have s2 := s1.know (o := .lst ws) f1 f2 no f3
  have hσ : σ.set i o = σ := by
    refine List.ext_getElem? fun m => ?_
    by_cases e : i = m
    · subst e
      rw [List.getElem?_set_self (List.getElem?_eq_some_iff.mp h1).1, h1]
    · rw [List.getElem?_set_ne e]
  have s3 := s2.set (x := sv xs) (o := o) i ⟨.ref p, h2, p, ws, rfl, upd_same, paired_mono (Ex.new f2) f4⟩
  rw [hσ] at s3
  exact ⟨ws, f2, f3, s3⟩
theorem ev_bor {γ : Type} [Rp γ] [Fl γ] {z : γ} {xs : List α} (hi : sl[i]? = some (.at p)) (hj : ow[j]? = some (ol p xs)) (hs : sl.set i (sv xs) = sl') (ho : ow.eraseIdx j = ow1) (h : EV K F Kn0 sl' ow1 te z) : EV K F Kn0 sl ow te z := fun σ Kn H s Q q => by
  obtain ⟨ws, kp, hp, s1⟩ := s.borrow hi hj
  subst hs
  subst ho
  exact h σ _ H s1 Q fun v Kn' H' g r => q v Kn H' ⟨Ex.refl _, g.hh, s.ek.trans g.hh, fun _ _ h => h⟩ (Fl.iff.mpr (Fl.iff.mp r))
theorem et_bor {xs : List α} (hi : sl[i]? = some (.at p)) (hj : ow[j]? = some (ol p xs)) (hs : sl.set i (sv xs) = sl') (ho : ow.eraseIdx j = ow1) (h : ET K F Kn0 sl' ow1 tt b) : ET K F Kn0 sl ow tt b := fun σ Kn H s Q q => by
  obtain ⟨ws, kp, hp, s1⟩ := s.borrow hi hj
  subst hs
  subst ho
  exact h σ _ H s1 Q fun Kn' H' g => q Kn H' ⟨Ex.refl _, g.hh, s.ek.trans g.hh, fun _ _ h => h⟩
theorem ev_ixO {xs : List α} {n : Int} {z : α} (hi : sl[i]? = some (.at p)) (hj : ow[j]? = some (ol p xs)) (hn : EV K F Kn0 sl ow tb n) (hz : atI xs n = some z) : EV K F Kn0 sl ow (tOp (rIxL K) (tVar i) tb) z := fun σ Kn H s Q q => by
  obtain ⟨o, h1, h2⟩ := s.sl.get hi
  obtain ⟨f1, f2, ws, f3, f4⟩ := s.ow.each _ (List.mem_of_getElem? hj)
  refine ⟨.ref p, by rw [h1]; exact congrArg some h2, hn σ Kn H s _ fun v Kn1 H1 g1 r1 => ?_⟩
  cases r1
  obtain ⟨u, e, r⟩ := paired_atI f4 hz
  exact ⟨p, ws, n, u, rfl, rfl, sq_of (g1.hh _ _ f3), e, q u Kn1 H1 g1 (Rp.mono g1.kk r)⟩
theorem en_slO {xs : List α} {tl th : TO} {lo hi : Option Int} (hx : sl[i]? = some (.at p)) (hj : ow[j]? = some (ol p xs)) (hl : EO K F Kn0 sl ow tl lo) (hh : EO K F Kn0 sl ow th hi) : EN K F Kn0 sl ow (tSl (rSlL K) (tVar i) tl th) (cut xs lo hi) := fun σ Kn H s Q q => by
  obtain ⟨o, h1, h2⟩ := s.sl.get hx
  obtain ⟨f1, f2, ws, f3, f4⟩ := s.ow.each _ (List.mem_of_getElem? hj)
  refine ⟨.ref p, by rw [h1]; exact congrArg some h2, hl σ Kn H s _ fun Kn2 H2 g2 => hh σ Kn2 H2 (s.grow g2) _ fun Kn3 H3 g3 => ?_⟩
  have g := g2.trans g3
  exact ⟨p, ws, rfl, sq_of (g.hh _ _ f3), fun l hl => q l _ Kn3 _ (g.trans (Gr.newU g3.kh hl)) (fresh_back g.hh hl) (fresh_back g3.kh hl) upd_same (paired_cut (paired_mono g.kk f4) lo hi)⟩
end

/-! ### == -/
class Pd (α : Type) [Rp α] where
  toD : α → PyData
  dp : Nat
  isD : ∀ {K : Fg} {H : Hp} {v : V} {a : α}, rep K H v a → Dp K H v (toD a)
  dep : ∀ a, (toD a).depth ≤ dp
  eqd : ∀ a b : α, PyData.eqv (toD a) (toD b) = true ↔ a = b
class Pq (τ : Type) [Tp τ] where
  toDs : τ → List PyData
  dp : Nat
  isD : ∀ {K : Fg} {H : Hp} {vs : List V} {a : τ}, rept K H vs a → DpAll K H vs (toDs a)
  dep : ∀ a, PyData.depthAll (toDs a) ≤ dp
  eqd : ∀ a b : τ, PyData.eqvAll (toDs a) (toDs b) = true ↔ a = b
def okD {α : Type} [Rp α] [Pd α] (a : α) : Bool := (Pd.toD a).canLay0
instance : Pd Int := { toD := .int, dp := 0, isD := fun h => by cases h; exact .int _, dep := fun a => Nat.le_refl _, eqd := fun a b => by simp [PyData.eqv] }
instance : Pd Bool := { toD := .bool, dp := 0, isD := fun h => by cases h; exact .bl _, dep := fun a => Nat.le_refl _, eqd := fun a b => by simp [PyData.eqv] }
instance : Pd Str := { toD := .str, dp := 0, isD := fun h => by cases h; exact .str _, dep := fun a => Nat.le_refl _, eqd := fun a b => by simp [PyData.eqv] }
theorem eqvAll_map {α : Type} [Rp α] [Pd α] : ∀ (xs ys : List α), PyData.eqvAll (xs.map Pd.toD) (ys.map Pd.toD) = true ↔ xs = ys
  | [], [] => by simp [PyData.eqvAll]
  | [], y :: ys => by simp [PyData.eqvAll]
  | x :: xs, [] => by simp [PyData.eqvAll]
  | x :: xs, y :: ys => by
    simp only [List.map_cons, PyData.eqvAll, Bool.and_eq_true, Pd.eqd, eqvAll_map xs ys, List.cons.injEq]
theorem depthAll_map {α : Type} [Rp α] [Pd α] : ∀ (xs : List α), PyData.depthAll (xs.map Pd.toD) ≤ Pd.dp α
  | [] => Nat.zero_le _
  | x :: xs => by
    simp only [List.map_cons, PyData.depthAll]
    exact Nat.max_le.mpr ⟨Pd.dep x, depthAll_map xs⟩
theorem dpAll_of {α : Type} [Rp α] [Pd α] {K : Fg} {H : Hp} : ∀ {vs : List V} {xs : List α}, Paired (rep K H) vs xs → DpAll K H vs (xs.map Pd.toD)
  | _, _, .nil => .nil
  | _, _, .cons r t => .cons (Pd.isD r) (dpAll_of t)
instance {α : Type} [Rp α] [Pd α] : Pd (List α) where
  toD xs := .list (xs.map Pd.toD)
  dp := Pd.dp α + 1
  isD h := by
    obtain ⟨p, vs, rfl, h1, h2⟩ := h
    exact .lst (sq_of h1) (dpAll_of h2)
  dep a := by
    simp only [PyData.depth]
    exact Nat.succ_le_succ (depthAll_map a)
  eqd a b := by
    simp only [PyData.eqv]
    exact eqvAll_map a b
instance {α : Type} [Rp α] [Pd α] : Pd (Tu α) where
  toD xs := .tuple (xs.l.map Pd.toD)
  dp := Pd.dp α + 1
  isD h := by
    obtain ⟨p, vs, rfl, h1, h2⟩ := h
    exact .tup (st_of h1) (dpAll_of h2)
  dep a := by
    simp only [PyData.depth]
    exact Nat.succ_le_succ (depthAll_map a.l)
  eqd a b := by
    simp only [PyData.eqv]
    rw [eqvAll_map]
    cases a
    cases b
    simp
instance : Pq Unit where
  toDs _ := []
  dp := 0
  isD h := by cases h; exact .nil
  dep _ := Nat.le_refl _
  eqd _ _ := by simp [PyData.eqvAll]
instance {α τ : Type} [Rp α] [Tp τ] [Pd α] [Pq τ] : Pq (α × τ) where
  toDs t := Pd.toD t.1 :: Pq.toDs t.2
  dp := max (Pd.dp α) (Pq.dp τ)
  isD h := by
    obtain ⟨v, r, rfl, h1, h2⟩ := h
    exact .cons (Pd.isD h1) (Pq.isD h2)
  dep a := by
    simp only [PyData.depthAll]
    exact Nat.max_le.mpr ⟨Nat.le_trans (Pd.dep _) (Nat.le_max_left _ _), Nat.le_trans (Pq.dep _) (Nat.le_max_right _ _)⟩
  eqd a b := by
    simp only [PyData.eqvAll, Bool.and_eq_true, Pd.eqd, Pq.eqd]
    constructor
    · rintro ⟨h1, h2⟩
      exact Prod.ext h1 h2
    · rintro rfl
      exact ⟨rfl, rfl⟩
instance {α τ : Type} [Rp α] [Tp τ] [Pd α] [Pq τ] : Pd (α × τ) where
  toD t := .tuple (Pq.toDs t)
  dp := Pq.dp (α × τ) + 1
  isD h := by
    obtain ⟨p, vs, rfl, h1, h2⟩ := h
    exact .tup (st_of h1) (Pq.isD h2)
  dep a := by
    simp only [PyData.depth]
    exact Nat.succ_le_succ (Pq.dep a)
  eqd a b := by
    simp only [PyData.eqv]
    exact Pq.eqd a b
/-- the same kind on both sides -/
def eqO {α : Type} [Rp α] [Pd α] [DecidableEq α] (a b : α) : Option Bool := if (okD a && okD b && decide (Pd.dp α ≤ 64)) = true then some (decide (a = b)) else none
def neO {α : Type} [Rp α] [Pd α] [DecidableEq α] (a b : α) : Option Bool := if (okD a && okD b && decide (Pd.dp α ≤ 64)) = true then some (!decide (a = b)) else none
section
variable {K : Fg} {α : Type} [Rp α] [Pd α] [DecidableEq α]
theorem shaped_of {a : α} (h : okD a = true) (h2 : Pd.dp α ≤ 64) : SeqAt.shaped (Pd.toD a) = true := by
  unfold SeqAt.shaped
  rw [Bool.and_eq_true]
  exact ⟨h, decide_eq_true (Nat.le_trans (Pd.dep a) h2)⟩
theorem eqv_dec (a b : α) : PyData.eqv (Pd.toD a) (Pd.toD b) = decide (a = b) := by
  by_cases h : a = b
  · rw [decide_eq_true h]
    exact (Pd.eqd a b).mpr h
  · rw [decide_eq_false h]
    cases e : PyData.eqv (Pd.toD a) (Pd.toD b) with
    | false => rfl
    | true => exact absurd ((Pd.eqd a b).mp e) h
theorem dp_mono {H H' : Hp} (e : Ex H H') : ∀ {v : V} {d : PyData}, Dp K H v d → Dp K H' v d := fun h =>
  Dp.rec (motive_1 := fun v d _ => Dp K H' v d) (motive_2 := fun vs ds _ => DpAll K H' vs ds) .non .bl .int .str (fun s _ ih => .lst (ex_l e s) ih) (fun s _ ih => .tup (ex_t e s) ih) .nil (fun _ _ h1 h2 => .cons h1 h2) h
theorem r2_eqO {a b : α} {c : Bool} (h : eqO a b = some c) : R2V K (rEqD K) a b c := fun Kn H v w ek h1 h2 Q q => by
  unfold eqO at h
  split at h
  · rename_i hb
    rw [Bool.and_eq_true, Bool.and_eq_true] at hb
    cases h
    refine ⟨Pd.toD a, Pd.toD b, dp_mono ek (Pd.isD h1), dp_mono ek (Pd.isD h2), shaped_of hb.1.1 (of_decide_eq_true hb.2), shaped_of hb.1.2 (of_decide_eq_true hb.2), ?_⟩
    rw [eqv_dec]
    exact q.fl ek
  · cases h
theorem r2_neO {a b : α} {c : Bool} (h : neO a b = some c) : R2V K (rNeD K) a b c := fun Kn H v w ek h1 h2 Q q => by
  unfold neO at h
  split at h
  · rename_i hb
    rw [Bool.and_eq_true, Bool.and_eq_true] at hb
    cases h
    refine ⟨Pd.toD a, Pd.toD b, dp_mono ek (Pd.isD h1), dp_mono ek (Pd.isD h2), shaped_of hb.1.1 (of_decide_eq_true hb.2), shaped_of hb.1.2 (of_decide_eq_true hb.2), ?_⟩
    rw [eqv_dec]
    exact q.fl ek
  · cases h
/-- data without texts: always -/
class Pt (α : Type) [Rp α] [Pd α] : Prop where
  ok : ∀ a : α, okD a = true
class Pu (τ : Type) [Tp τ] [Pq τ] : Prop where
  ok : ∀ a : τ, PyData.canLayAll0 (Pq.toDs a) = true
instance : Pt Int := ⟨fun _ => rfl⟩
instance : Pt Bool := ⟨fun _ => rfl⟩
theorem canLayAll_map {α : Type} [Rp α] [Pd α] : ∀ (xs : List α), (∀ x ∈ xs, okD x = true) → PyData.canLayAll0 (xs.map Pd.toD) = true
  | [], _ => by simp [PyData.canLayAll0]
  | x :: xs, h => by
    simp only [List.map_cons, PyData.canLayAll0, Bool.and_eq_true]
    exact ⟨h x List.mem_cons_self, canLayAll_map xs fun y hy => h y (List.mem_cons_of_mem _ hy)⟩
theorem okD_list {α : Type} [Rp α] [Pd α] {xs : List α} (h : ∀ x ∈ xs, okD x = true) : okD xs = true := by
  show PyData.canLay0 (.list _) = true
  simp only [PyData.canLay0]
  exact canLayAll_map xs h
theorem okD_tu {α : Type} [Rp α] [Pd α] {xs : Tu α} (h : ∀ x ∈ xs.l, okD x = true) : okD xs = true := by
  show PyData.canLay0 (.tuple _) = true
  simp only [PyData.canLay0]
  exact canLayAll_map xs.l h
theorem okD_pair {α τ : Type} [Rp α] [Tp τ] [Pd α] [Pq τ] {t : α × τ} (h : okD t.1 = true) (h2 : PyData.canLayAll0 (Pq.toDs t.2) = true) : okD t = true := by
  show PyData.canLay0 (.tuple (Pd.toD t.1 :: Pq.toDs t.2)) = true
  simp only [PyData.canLay0, PyData.canLayAll0, Bool.and_eq_true]
  exact ⟨h, h2⟩
theorem okDs_cons {α τ : Type} [Rp α] [Tp τ] [Pd α] [Pq τ] {t : α × τ} (h : okD t.1 = true) (h2 : PyData.canLayAll0 (Pq.toDs t.2) = true) : PyData.canLayAll0 (Pq.toDs t) = true := by
  show PyData.canLayAll0 (Pd.toD t.1 :: Pq.toDs t.2) = true
  simp only [PyData.canLayAll0, Bool.and_eq_true]
  exact ⟨h, h2⟩
instance {α : Type} [Rp α] [Pd α] [Pt α] : Pt (List α) := ⟨fun _ => okD_list fun x _ => Pt.ok x⟩
instance {α : Type} [Rp α] [Pd α] [Pt α] : Pt (Tu α) := ⟨fun _ => okD_tu fun x _ => Pt.ok x⟩
instance : Pu Unit := ⟨fun _ => rfl⟩
instance {α τ : Type} [Rp α] [Tp τ] [Pd α] [Pq τ] [Pt α] [Pu τ] : Pu (α × τ) := ⟨fun _ => okDs_cons (Pt.ok _) (Pu.ok _)⟩
instance {α τ : Type} [Rp α] [Tp τ] [Pd α] [Pq τ] [Pt α] [Pu τ] : Pt (α × τ) := ⟨fun _ => okD_pair (Pt.ok _) (Pu.ok _)⟩
theorem r2_eqT [Pt α] {a b : α} (hd : Pd.dp α ≤ 64 := by decide) : R2V K (rEqD K) a b (decide (a = b)) := r2_eqO (by
  unfold eqO
  rw [Pt.ok a, Pt.ok b, decide_eq_true hd]
  rfl)
theorem r2_neT [Pt α] {a b : α} (hd : Pd.dp α ≤ 64 := by decide) : R2V K (rNeD K) a b (!decide (a = b)) := r2_neO (by
  unfold neO
  rw [Pt.ok a, Pt.ok b, decide_eq_true hd]
  rfl)
theorem eqO_ok {a b : α} (h1 : okD a = true) (h2 : okD b = true) (hd : Pd.dp α ≤ 64 := by decide) : eqO a b = some (decide (a = b)) := by
  unfold eqO
  rw [h1, h2, decide_eq_true hd]
  rfl
theorem neO_ok {a b : α} (h1 : okD a = true) (h2 : okD b = true) (hd : Pd.dp α ≤ 64 := by decide) : neO a b = some (!decide (a = b)) := by
  unfold neO
  rw [h1, h2, decide_eq_true hd]
  rfl
end

/-! ### isinstance -/
structure TyN where
  n : String
instance rpTyN : Rp TyN := { rep := fun _ _ v a => v = .ty a.n, swap := fun _ h => h }
instance : Fl TyN := { toV := fun a => V.ty a.n, iff := Iff.rfl }
class Tn (α : Type) [Rp α] where
  nm : String
  is : ∀ {K : Fg} {H : Hp} {v : V} {a : α}, rep K H v a → TyX K H v (.type nm)
instance : Tn Int := ⟨"int", fun h => by cases h; exact .base (.int _)⟩
instance : Tn Bool := ⟨"bool", fun h => by cases h; exact .base (.bl _)⟩
instance : Tn Str := ⟨"str", fun h => by cases h; exact .base (.str _)⟩
instance : Tn Nn := ⟨"NoneType", fun h => by cases h; exact .base .non⟩
instance {α : Type} [Rp α] : Tn (List α) := ⟨"list", fun h => by
  obtain ⟨p, vs, rfl, h1, _⟩ := h
  exact .base (.lst h1)⟩
instance {α : Type} [Rp α] : Tn (Tu α) := ⟨"tuple", fun h => by
  obtain ⟨p, vs, rfl, h1, _⟩ := h
  exact .base (.tup h1)⟩
instance {α τ : Type} [Rp α] [Tp τ] : Tn (α × τ) := ⟨"tuple", fun h => by
  obtain ⟨p, vs, rfl, h1, _⟩ := h
  exact .base (.tup h1)⟩
theorem rc_isi {K : Fg} {α : Type} [Rp α] [Tn α] {x : α} {n : String} {b : Bool} (h : kitB (Tn.nm α) n = some b) : RCV K (rIsi K) (x, TyN.mk n, ()) b := fun Kn H vs ek hr Q q => by
  obtain ⟨v, w, rfl, h1, h2⟩ := two_args hr
  cases h2
  refine ⟨v, .ty n, .type (Tn.nm α), .type n, b, rfl, .ty n, ?_, kit_ty h, q.fl ek⟩
  exact Tn.is (Rp.mono ek h1)

/-! ### great divisors -/
theorem r2_divW {K : Fg} {i j : Int} {b : Nat} (h : 0 < j) (hb : j.natAbs < 2 ^ b) (h0 : 0 < b) (h9 : b ≤ 9000) : R2V K (rI CDivW fun i j => .int (i / j)) i j (i / j) := r2_I (wide_div h hb h0 h9)

/-! ### sorted of whole numbers -/
def srt (xs : List Int) : List Int := xs.mergeSort fun a b => decide (a ≤ b)
theorem srt_perm (xs : List Int) : (srt xs).Perm xs := List.mergeSort_perm xs _
theorem srt_pw (xs : List Int) : (srt xs).Pairwise (· ≤ ·) := by
  have h := List.pairwise_mergeSort (le := fun a b => decide (a ≤ b)) (fun a b c h1 h2 => by
    have h1 := of_decide_eq_true h1
    have h2 := of_decide_eq_true h2
    exact decide_eq_true (by omega)) (fun a b => by
    rcases Int.le_total a b with h | h
    · rw [decide_eq_true h]; rfl
    · rw [decide_eq_true h]; exact Bool.or_true _) xs
  exact h.imp fun h => of_decide_eq_true h
theorem srt_one {xs ys : List Int} (p : ys.Perm xs) (s : ys.Pairwise (· ≤ ·)) : ys = srt xs :=
  List.Perm.eq_of_pairwise (le := fun a b : Int => a ≤ b) (fun a b _ _ h1 h2 => Int.le_antisymm h1 h2) s (srt_pw xs) (p.trans (srt_perm xs).symm)
theorem rc_sorted {K : Fg} {xs : List Int} : RCL K (rSortedI K) (xs, ()) (srt xs) := fun Kn H vs ek h Q q => by
  obtain ⟨v, rfl, p, ws, rfl, h1, h2⟩ := one_arg h
  have e := paired_fl h2
  subst e
  refine ⟨p, xs, rfl, sq_of (ek _ _ h1), fun ns' l pm pw hl => ?_⟩
  rw [srt_one pm pw]
  exact q l _ Kn _ (Gr.newU ek hl) hl (fresh_back ek hl) upd_same (fl_paired (srt xs))
end Wk

namespace Wk
open PySem PySem.Spec L2 Evl
section
variable {K : Fg} {F Kn0 : Hp} {sl sl' : List Sl} {ow ow0 ow1 ow2 : List Ow} {α β γ τ : Type} [Rp α] [Rp β] [Rp γ] [Tp τ] {ta tb te : TE} {x : α} {D : Ends} {t u tz : TS} {tt : TT} {b : Bool} {i j : Nat} {p : Addr}
theorem ev_int (n : Int) : EV K F Kn0 sl ow (tC (.int n)) n := ev_c n
theorem ev_bool (n : Bool) : EV K F Kn0 sl ow (tC (.bl n)) n := ev_c n
theorem ev_str (n : Str) : EV K F Kn0 sl ow (tC (.str n)) n := ev_c n
theorem ev_nn : EV K F Kn0 sl ow (tC .non) Nn.nn := ev_c Nn.nn
theorem ev_ty (n : String) : EV K F Kn0 sl ow (tC (.ty n)) (TyN.mk n) := ev_c (TyN.mk n)
variable {m n : Int}
theorem r2_add : R2V K (rI0 fun i j => .int (i + j)) m n (m + n) := r2_I0
theorem r2_sub : R2V K (rI0 fun i j => .int (i - j)) m n (m - n) := r2_I0
theorem r2_lt : R2V K (rI0 fun i j => .bl (decide (i < j))) m n (decide (m < n)) := r2_I0
theorem r2_le : R2V K (rI0 fun i j => .bl (decide (i ≤ j))) m n (decide (m ≤ n)) := r2_I0
theorem r2_gt : R2V K (rI0 fun i j => .bl (decide (j < i))) m n (decide (n < m)) := r2_I0
theorem r2_ge : R2V K (rI0 fun i j => .bl (decide (j ≤ i))) m n (decide (n ≤ m)) := r2_I0
theorem r2_mod (h : 0 < n := by decide) : R2V K (rI (fun _ j => 0 < j) fun i j => .int (i % j)) m n (m % n) := r2_I h
theorem r2_div (h : 0 < n ∧ n < 1073741824 := by decide) : R2V K (rI CDiv fun i j => .int (i / j)) m n (m / n) := r2_I h
theorem r2_mulr (h : -18446744073709551616 < n ∧ n < 18446744073709551616 := by decide) : R2V K (rI CMul fun i j => .int (i * j)) m n (m * n) := r2_I (.inr ⟨by omega, by omega⟩)
theorem r2_mull (h : -18446744073709551616 < m ∧ m < 18446744073709551616 := by decide) : R2V K (rI CMul fun i j => .int (i * j)) m n (m * n) := r2_I (.inl ⟨by omega, by omega⟩)
theorem r2_divw (h : 0 < n ∧ n < 18446744073709551616 := by decide) : R2V K (rI CDivW fun i j => .int (i / j)) m n (m / n) := r2_divW h.1 (b := 64) (by omega) (by decide) (by decide)
theorem r2_pow {r : Int} (h : 0 ≤ n ∧ n ≤ 1000000 ∧ m.natAbs < 18446744073709551616 := by decide) (e : m ^ n.toNat = r := by decide) : R2V K (rI CPow fun i j => .int (i ^ j.toNat)) m n r := e ▸ r2_I ⟨h.1, h.2.1, by omega⟩
theorem EN.cast {xs ys : List α} (h : EN K F Kn0 sl ow te xs) (e : xs = ys) : EN K F Kn0 sl ow te ys := e ▸ h
theorem EM.cast {y : α} (h : EM K F Kn0 sl ow te ow1 x) (e : x = y) : EM K F Kn0 sl ow te ow1 y := e ▸ h
theorem ENM.cast {xs ys : List α} (h : ENM K F Kn0 sl ow te ow1 xs) (e : xs = ys) : ENM K F Kn0 sl ow te ow1 ys := e ▸ h
theorem SB.is (h1 : sl = sl') (h2 : ow = ow1) (h : SB K F Kn0 sl' ow1 D t) : SB K F Kn0 sl ow D t := by subst h1; subst h2; exact h
theorem EV.is (h1 : sl = sl') (h : EV K F Kn0 sl' ow te x) : EV K F Kn0 sl ow te x := by subst h1; exact h
theorem EM.is (h1 : sl = sl') (h2 : ow = ow2) (h3 : ow1 = ow0) (h : EM K F Kn0 sl' ow2 te ow0 x) : EM K F Kn0 sl ow te ow1 x := by subst h1; subst h2; subst h3; exact h
theorem ET.is (h1 : sl = sl') (h : ET K F Kn0 sl' ow tt b) : ET K F Kn0 sl ow tt b := by subst h1; exact h
theorem ite_t {γ : Type} {b : Bool} {A B : Option γ} {r : γ} (hb : b = true) (h : (if b = true then A else B) = some r) : A = some r := by rw [if_pos hb] at h; exact h
theorem ite_f {γ : Type} {b : Bool} {A B : Option γ} {r : γ} (hb : b = false) (h : (if b = true then A else B) = some r) : B = some r := by rw [if_neg (by rw [hb]; exact Bool.false_ne_true)] at h; exact h
def anyAt (sl : List Sl) (vs : List Nat) : Bool := vs.all fun j => match sl[j]? with
  | some .any => true
  | _ => false
theorem anyAt_of {sl : List Sl} {vs : List Nat} (h : anyAt sl vs = true) : ∀ j ∈ vs, sl[j]? = some .any := fun j hj => by
  have q := List.all_eq_true.mp h j hj
  cases e : sl[j]? with
  | none => rw [e] at q; cases q
  | some s =>
    rw [e] at q
    cases s with
    | any => rfl
    | val _ _ _ => cases q
    | «at» _ => cases q
theorem sub_of {js vs : List Nat} (h : (js.all fun j => vs.contains j) = true) : ∀ j ∈ js, j ∈ vs := fun j hj => by
  have q := List.all_eq_true.mp h j hj
  simpa using q
theorem sn_end {R : VK} (q : RT K F Kn0 ow0 R Nn.nn) (hd : ∀ σ H, R .non H → D.nx σ H) (l : ow0.Sublist ow) : SN K F Kn0 sl ow D := fun σ Kn H s => hd σ H (q _ Kn H (s.sub l).fin rfl)
def EOM (K : Fg) (F Kn0 : Hp) (sl : List Sl) (ow : List Ow) (to : TO) (ow' : List Ow) (o : Option Int) : Prop := ∀ σ Kn H, S K F Kn0 sl ow σ Kn H → ∀ Q : Option Int → Hp → Prop, (∀ Kn' H', Ex Kn Kn' → S K F Kn0 sl ow' σ Kn' H' → Q o H') → to σ H Q
theorem EO.eom {to : TO} {o : Option Int} (h : EO K F Kn0 sl ow to o) : EOM K F Kn0 sl ow to ow o := fun σ Kn H s Q q => h σ Kn H s Q fun Kn' H' g => q Kn' H' g.kk (s.grow g)
theorem eom_some {i : Int} (h : EM K F Kn0 sl ow te ow1 i) : EOM K F Kn0 sl ow (tPart te) ow1 (some i) := fun σ Kn H s Q q => h σ Kn H s _ fun v Kn1 H1 e1 s1 r1 => ⟨i, r1, q Kn1 H1 e1 s1⟩
theorem enm_sl {ow3 : List Ow} {xs : List α} {tl th : TO} {lo hi : Option Int} (h : EM K F Kn0 sl ow te ow1 xs) (hl : EOM K F Kn0 sl ow1 tl ow2 lo) (hh : EOM K F Kn0 sl ow2 th ow3 hi) : ENM K F Kn0 sl ow (tSl (rSlL K) te tl th) ow3 (cut xs lo hi) := fun σ Kn H s Q q =>
  h σ Kn H s _ fun v Kn1 H1 e1 s1 r1 => hl σ Kn1 H1 s1 _ fun Kn2 H2 e2 s2 => hh σ Kn2 H2 s2 _ fun Kn3 H3 e3 s3 => by
    obtain ⟨p, ws, rfl, h3, h4⟩ := r1
    have e13 : Ex Kn1 Kn3 := e2.trans e3
    exact ⟨p, ws, rfl, sq_of (s3.ek _ _ (e13 _ _ h3)), fun l hl => q l _ Kn3 _ (e1.trans e13) (s3.grow (Gr.newU s3.ek hl)) (fresh_back s3.ef hl) (fresh_back s3.ek hl) (owned_ne s3 hl) upd_same (paired_cut (paired_mono e13 h4) lo hi)⟩
/-- the entry of a def -/
theorem enter {σ : L2.St} {Kn H : Hp} {D : Ends} {t : TS} (ek : Ex Kn H) (hs : SlsOk K Kn sl σ) (h : SB K H Kn sl [] D t) : t D σ H := h σ Kn H ⟨Ex.refl _, ek, Ex.refl _, fun _ _ h => h, hs, ⟨(fun _ h => nomatch h), List.nodup_nil⟩⟩
theorem rt_of {H Kn : Hp} {r : α} {Q : VK} (q : RS K Kn H Q r) : RT K H Kn [] Q r := fun v Kn' H' s rv => q v Kn' H' ⟨s.e0, s.ef, s.ek, s.sep⟩ rv
theorem rn_of {H Kn : Hp} {r : List α} {Q : VK} (q : RL K Kn H Q r) : RN K H Kn [] Q r := fun p ws Kn' H' s fp kp hw rv => q p ws Kn' H' ⟨s.e0, s.ef, s.ek, s.sep⟩ fp kp hw rv
/-- all but p -/
def but (H : Hp) (p : Addr) : Hp := fun a => if a = p then none else H a
theorem enterM {σ : L2.St} {Kn H : Hp} {D : Ends} {t : TS} {p : Addr} {ws : List V} {xs : List α} (ek : Ex Kn H) (kp : Kn p = none) (hp : H p = some (.lst ws)) (r : Paired (rep K Kn) ws xs) (hs : SlsOk K Kn sl σ) (h : SB K (but H p) Kn sl [ol p xs] D t) : t D σ H :=
  h σ Kn H ⟨Ex.refl _, ek, fun a u e => by
    unfold but at e
    split at e
    · cases e
    · exact e, fun _ _ h => h, hs, ⟨fun o ho => by
      cases List.mem_singleton.mp ho
      exact ⟨if_pos rfl, kp, ws, hp, r⟩, List.nodup_cons.mpr ⟨(fun h => nomatch h), List.nodup_nil⟩⟩⟩
theorem rt_ofM {H Kn : Hp} {r : β} {p : Addr} {xs' : List α} {Q : VK} (kp : Kn p = none) (q : ∀ v Kn' H' ws', Ex Kn Kn' → Ex Kn' H' → (∀ q, q ≠ p → H q ≠ none → H' q = H q) → (∀ q, H q ≠ none → Kn q = none → Kn' q = none) → H' p = some (.lst ws') → Paired (rep K Kn') ws' xs' → rep K Kn' v r → Q v H') :
    RT K (but H p) Kn [ol p xs'] Q r := fun v Kn' H' s rv => by
  obtain ⟨_, k1, ws, h1, h2⟩ := s.ow.each (ol p xs') List.mem_cons_self
  refine q v Kn' H' ws s.e0 s.ek (fun a ha hn => ?_) (fun a hn hk => ?_) h1 h2 rv
  · have e : but H p a = H a := if_neg ha
    exact (Ex.at_eq s.ef (by rw [e]; exact hn)).trans e
  · by_cases ha : a = p
    · subst ha
      exact k1
    · exact s.sep a (by unfold but; rw [if_neg ha]; exact hn) hk
end
end Wk

/-! ### rules whose readings name K itself (within comprehensions) -/
namespace Wk
open PySem PySem.Spec L2 Evl
section
variable {X : Cx} {K : Fg}
theorem k_isi (h : X.K = K := by rfl) : CallR X (.builtin "isinstance") (rIsi K) := h ▸ call_isi
theorem k_len (h : X.K = K := by rfl) : CallR X (.builtin "len") (fun xs H Q => ∃ p ys, xs = [.ref p] ∧ (SqL K H p ys ∨ SqT K H p ys) ∧ Q (.int ys.length) H) := h ▸ call_len_seq
theorem k_list (h : X.K = K := by rfl) : CallR X (.type "list") (fun xs H Q => ∃ p ys, xs = [.ref p] ∧ (SqL K H p ys ∨ SqT K H p ys) ∧ ∀ l, H l = none → Q (.ref l) (upd H l (.lst ys))) := h ▸ call_list_of
theorem k_tuple (h : X.K = K := by rfl) : CallR X (.type "tuple") (fun xs H Q => ∃ p ys, xs = [.ref p] ∧ ((SqL K H p ys ∧ ∀ l, H l = none → Q (.ref l) (upd H l (.tup ys))) ∨ (SqT K H p ys ∧ Q (.ref p) H))) := h ▸ call_tuple_of
theorem k_sum (hc : X.calm = true := by rfl) (h : X.K = K := by rfl) : CallR X (.builtin "sum") (rSum K) := h ▸ cr_sum hc
theorem k_any (hc : X.calm = true := by rfl) (h : X.K = K := by rfl) : CallR X (.builtin "any") (rAny K) := h ▸ cr_any hc
theorem k_all (hc : X.calm = true := by rfl) (h : X.K = K := by rfl) : CallR X (.builtin "all") (rAll K) := h ▸ cr_all hc
theorem k_max2 (hc : X.calm = true := by rfl) : CallR X (.builtin "max") (fun xs H Q => ∃ i j, xs = [.int i, .int j] ∧ Q (.int (if j > i then j else i)) H) := call_max2 hc
theorem k_min2 (hc : X.calm = true := by rfl) : CallR X (.builtin "min") (fun xs H Q => ∃ i j, xs = [.int i, .int j] ∧ Q (.int (if j < i then j else i)) H) := call_min2 hc
theorem k_sorted (h : X.K = K := by rfl) : CallR X (.builtin "sorted") (rSortedI K) := h ▸ cr_sortedI
theorem k_ixl (h : X.K = K := by rfl) : IxR X (rIxL K) := h ▸ ix_list
theorem k_ixt (h : X.K = K := by rfl) : IxR X (rIxT K) := h ▸ ix_tup
theorem k_sll (h : X.K = K := by rfl) : SlR X (rSlL K) := h ▸ sl_list
theorem k_eqD (hu : X.A.units + 64 < cLine) (h : X.K = K := by rfl) : OpR X (compareOp .Eq) (rEqD K) := h ▸ op_eqD hu
theorem k_neD (hu : X.A.units + 64 < cLine) (h : X.K = K := by rfl) : OpR X (compareOp .NotEq) (rNeD K) := h ▸ op_neD hu
theorem k_in (h : X.K = K := by rfl) : OpR X (compareOp .In) (rIn K false) := h ▸ op_in_seq
theorem k_notIn (h : X.K = K := by rfl) : OpR X (compareOp .NotIn) (rIn K true) := h ▸ op_notIn_seq
theorem kpg_tup {es : List Expr} {k : Nat} {t : TGs} {n : Nat} {pos : Pos} (hs : PGs X es t) (hc : X.calm = true := by rfl) (h : X.K = K := by rfl)
    (hn : (assignEach es X.env).length = n := by rfl) (hst : (assignEach es X.env).findIdx? (·.1) = none := by rfl) : PG X (.Tuple es k pos) (gTup K n t) := h ▸ pg_tup hc hs hn hst
theorem kpi_list {tg e : Expr} {te : TE} (he : PE X e te) (h : X.K = K := by rfl) : PI X tg e (iList K te) := h ▸ pi_list he
theorem kpi_tup {tg e : Expr} {te : TE} (he : PE X e te) (h : X.K = K := by rfl) : PI X tg e (iTup K te) := h ▸ pi_tup he
theorem kpt_truth {a : Expr} {ta : TE} (ha : PE X a ta) (he : ∀ whole, isTrue a X.env whole = (do let v ← whole; standAt a.pos; holding [v] (truthy v)) := by intro _; rfl) (h : X.K = K := by rfl) : PT X a (fun σ H Q => ta σ H fun x H' => ∃ k, TruV K x H' k ∧ Q k H') := h ▸ pt_truth ha he
end
end Wk
/-! Wk5: in, lists made longer, texts, chains, tuples put together -/
namespace Wk
open PySem PySem.Spec L2 Evl
class Fe (α : Type) [Rp α] [Fl α] [DecidableEq α] : Prop where
  flat : ∀ a : α, flatV (Fl.toV a) = true
  eq : ∀ a b : α, eqV (Fl.toV a) (Fl.toV b) = decide (a = b)
instance : Fe Int := ⟨fun _ => rfl, fun a b => by show (a == b) = decide (a = b); by_cases h : a = b <;> simp [h]⟩
instance : Fe Str := ⟨fun _ => rfl, fun a b => by show (a == b) = decide (a = b); by_cases h : a = b <;> simp [h]⟩
def repO {α : Type} (xs : List α) (k : Int) : Option (List α) := if -1000000000 ≤ k ∧ k ≤ 1000000000 ∧ xs.length * k.toNat ≤ 1000000 then some (List.replicate k.toNat xs).flatten else none
def addS (x y : Str) : Option Str := if x.length + y.length ≤ 1000000 then some (x ++ y) else none
def lenS (x : Str) : Option Int := if x.length ≤ 1000000 then some (x.length : Int) else none
def joinO (a : Str) (ys : List Str) : Option Str := if (ys.map (·.length)).sum + ys.length * a.length ≤ 1000000 then some (Txt.join a ys) else none
def powO (i j : Int) : Option Int := if 0 ≤ j ∧ j ≤ 1000000 ∧ i.natAbs < 18446744073709551616 then some (i ^ j.toNat) else none
section
variable {K : Fg} {F Kn0 : Hp} {sl sl' : List Sl} {ow ow0 ow1 ow2 : List Ow} {α β γ τ : Type} [Rp α] [Rp β] [Rp γ] [Tp τ] {ta tb tc te : TE} {x : α} {y : β} {z : γ} {D : Ends} {t u tz : TS} {tt : TT} {a b : Bool} {i j : Nat} {p : Addr}
theorem any_mem {α : Type} [Rp α] [Fl α] [DecidableEq α] [Fe α] (x : α) : ∀ xs : List α, inV (Fl.toV x) (xs.map Fl.toV) = decide (x ∈ xs)
  | [] => by simp [inV]
  | y :: ys => by
    have ih := any_mem x ys
    unfold inV at ih ⊢
    rw [List.map_cons, List.any_cons, ih, Fe.eq]
    by_cases h : y = x
    · subst h
      simp
    · have h' : ¬ x = y := fun e => h e.symm
      simp [h, h']
theorem all_flat {α : Type} [Rp α] [Fl α] [DecidableEq α] [Fe α] : ∀ xs : List α, (xs.map Fl.toV).all flatV = true
  | [] => rfl
  | y :: ys => by
    rw [List.map_cons, List.all_cons, Fe.flat, all_flat ys]
    rfl
theorem r2_in {α : Type} [Rp α] [Fl α] [DecidableEq α] [Fe α] {x : α} {xs : List α} : R2V K (rIn K false) x xs (decide (x ∈ xs)) := fun Kn H v w ek h1 h2 Q q => by
  obtain ⟨p, ws, rfl, h3, h4⟩ := h2
  have e := paired_fl h4
  subst e
  rw [Fl.iff.mp h1]
  refine ⟨p, _, rfl, .inl (sq_of (ek _ _ h3)), Fe.flat x, all_flat xs, ?_⟩
  rw [any_mem]
  exact q.fl ek
theorem r2_notIn {α : Type} [Rp α] [Fl α] [DecidableEq α] [Fe α] {x : α} {xs : List α} : R2V K (rIn K true) x xs (!decide (x ∈ xs)) := fun Kn H v w ek h1 h2 Q q => by
  obtain ⟨p, ws, rfl, h3, h4⟩ := h2
  have e := paired_fl h4
  subst e
  rw [Fl.iff.mp h1]
  refine ⟨p, _, rfl, .inl (sq_of (ek _ _ h3)), Fe.flat x, all_flat xs, ?_⟩
  rw [any_mem]
  exact q.fl ek
theorem r2_inU {α : Type} [Rp α] [Fl α] [DecidableEq α] [Fe α] {x : α} {xs : Tu α} : R2V K (rIn K false) x xs (decide (x ∈ xs.l)) := fun Kn H v w ek h1 h2 Q q => by
  obtain ⟨p, ws, rfl, h3, h4⟩ := h2
  have e := paired_fl h4
  subst e
  rw [Fl.iff.mp h1]
  refine ⟨p, _, rfl, .inr (st_of (ek _ _ h3)), Fe.flat x, all_flat xs.l, ?_⟩
  rw [any_mem]
  exact q.fl ek
theorem r2_notInU {α : Type} [Rp α] [Fl α] [DecidableEq α] [Fe α] {x : α} {xs : Tu α} : R2V K (rIn K true) x xs (!decide (x ∈ xs.l)) := fun Kn H v w ek h1 h2 Q q => by
  obtain ⟨p, ws, rfl, h3, h4⟩ := h2
  have e := paired_fl h4
  subst e
  rw [Fl.iff.mp h1]
  refine ⟨p, _, rfl, .inr (st_of (ek _ _ h3)), Fe.flat x, all_flat xs.l, ?_⟩
  rw [any_mem]
  exact q.fl ek
theorem paired_rep {F : V → α → Prop} {vs : List V} {xs : List α} (h : Paired F vs xs) : ∀ n : Nat, Paired F (List.replicate n vs).flatten (List.replicate n xs).flatten
  | 0 => .nil
  | n + 1 => by
    rw [List.replicate_succ, List.replicate_succ, List.flatten_cons, List.flatten_cons]
    exact paired_append h (paired_rep h n)
theorem r2_repO {xs zs : List α} {k : Int} (h : repO xs k = some zs) : R2L K rRep xs k zs := fun Kn H v w ek h1 h2 Q q => by
  unfold repO at h
  split at h
  · rename_i hb
    cases h
    obtain ⟨p, ws, rfl, h3, h4⟩ := h1
    cases h2
    refine ⟨p, k, ws, rfl, rfl, ek _ _ h3, by omega, by omega, by rw [paired_len h4]; exact le_line hb.2.2, fun l hl => q l _ Kn _ (Gr.newU ek hl) hl (fresh_back ek hl) upd_same (paired_rep h4 _)⟩
  · cases h
theorem r2_addS {x y z : Str} (h : addS x y = some z) : R2V K (fun x y H Q => ∃ i j, x = .str i ∧ y = .str j ∧ i.length + j.length ≤ sizeLine ∧ Q (.str (i ++ j)) H) x y z := fun Kn H v w ek h1 h2 Q q => by
  unfold addS at h
  split at h
  · rename_i hb
    cases h
    exact ⟨x, y, h1, h2, le_line hb, q.fl ek⟩
  · cases h
theorem rc_lenS {x : Str} {z : Int} (h : lenS x = some z) : RCV K (fun xs H Q => ∃ z, xs = [.str z] ∧ z.length ≤ sizeLine ∧ Q (.int z.length) H) (x, ()) z := fun Kn H vs ek hr Q q => by
  obtain ⟨v, rfl, h1⟩ := one_arg hr
  cases h1
  unfold lenS at h
  split at h
  · rename_i hb
    cases h
    exact ⟨x, rfl, le_line hb, q.fl ek⟩
  · cases h
theorem ev_joinO {s : Str} {ys : List Str} {z : Str} (ha : EV K F Kn0 sl ow ta s) (hb : EV K F Kn0 sl ow tb ys) (h : joinO s ys = some z) :
    EV K F Kn0 sl ow (tM1 (fun x xs H Q => ∃ a p, ∃ ys : List Str, x = .str a ∧ xs = [.ref p] ∧ (SqL K H p (ys.map V.str) ∨ SqT K H p (ys.map V.str)) ∧ (ys.map (·.length)).sum + ys.length * a.length ≤ 16777216 ∧ Q (.str (Txt.join a ys)) H) ta tb) z := fun σ Kn H s' Q q =>
  ha σ Kn H s' _ fun v Kn1 H1 g1 r1 => by
    cases r1
    refine ⟨⟨s, rfl⟩, hb σ Kn1 H1 (s'.grow g1) _ fun w Kn2 H2 g2 r2 => ?_⟩
    obtain ⟨p, ws, rfl, h3, h4⟩ := r2
    have e := paired_fl h4
    subst e
    unfold joinO at h
    split at h
    · rename_i hz
      cases h
      exact ⟨s, p, ys, rfl, rfl, .inl (sq_of (g2.kh _ _ h3)), by omega, q _ Kn2 H2 (g1.trans g2) rfl⟩
    · cases h
theorem rc_intB {x : Bool} : RCV K (fun xs H Q => (∃ i, xs = [.int i] ∧ Q (.int i) H) ∨ ∃ k, xs = [.bl k] ∧ Q (.int (if k then 1 else 0)) H) (x, ()) (if x = true then (1 : Int) else 0) := fun Kn H vs ek hr Q q => by
  obtain ⟨v, rfl, h1⟩ := one_arg hr
  cases h1
  exact .inr ⟨x, rfl, q.fl ek⟩
theorem rc_intI {x : Int} : RCV K (fun xs H Q => (∃ i, xs = [.int i] ∧ Q (.int i) H) ∨ ∃ k, xs = [.bl k] ∧ Q (.int (if k then 1 else 0)) H) (x, ()) x := fun Kn H vs ek hr Q q => by
  obtain ⟨v, rfl, h1⟩ := one_arg hr
  cases h1
  exact .inl ⟨x, rfl, q.fl ek⟩
theorem r2_powO {i j z : Int} (h : powO i j = some z) : R2V K (rI CPow fun i j => .int (i ^ j.toNat)) i j z := by
  unfold powO at h
  split at h
  · rename_i hb
    cases h
    exact r2_I ⟨hb.1, hb.2.1, by omega⟩
  · cases h
/-- x < y < z -/
theorem ev_chain {r r' : R2} (ha : EV K F Kn0 sl ow ta x) (hb : EV K F Kn0 sl ow tb y) (hr : R2V K r x y a) (hc : EV K F Kn0 sl ow tc z) (hr' : R2V K r' y z b) : EV K F Kn0 sl ow (tChain r r' ta tb tc) (a && b) := fun σ Kn H s Q q =>
  ha σ Kn H s _ fun v Kn1 H1 g1 r1 => hb σ Kn1 H1 (s.grow g1) _ fun w Kn2 H2 g2 r2 => hr Kn2 H2 v w g2.kh (Rp.mono g2.kk r1) r2 _ fun u Kn3 H3 g3 r3 => by
    refine ⟨a, r3, ?_⟩
    cases a with
    | true => exact iteT (hc σ Kn3 H3 (((s.grow g1).grow g2).grow g3) _ fun v4 Kn4 H4 g4 r4 => hr' Kn4 H4 w v4 g4.kh (Rp.mono (g3.kk.trans g4.kk) r2) r4 Q fun u5 Kn5 H5 g5 r5 => q u5 Kn5 H5 ((((g1.trans g2).trans g3).trans g4).trans g5) r5)
    | false => exact iteF (q _ Kn3 H3 ((g1.trans g2).trans g3) rfl)
/-- t3 is t1 and t2 put together -/
inductive Ap : {τ1 τ2 τ3 : Type} → [Tp τ1] → [Tp τ2] → [Tp τ3] → τ1 → τ2 → τ3 → Prop
  | z {τ : Type} [Tp τ] (t : τ) : Ap () t t
  | s {α τ1 τ2 τ3 : Type} [Rp α] [Tp τ1] [Tp τ2] [Tp τ3] (x : α) {t1 : τ1} {t2 : τ2} {t3 : τ3} : Ap t1 t2 t3 → Ap (x, t1) t2 (x, t3)
theorem Ap.rept {K : Fg} {H : Hp} {τ1 τ2 τ3 : Type} [i1 : Tp τ1] [i2 : Tp τ2] [i3 : Tp τ3] {t1 : τ1} {t2 : τ2} {t3 : τ3} (h : Ap t1 t2 t3) : ∀ {vs ws : List V}, Wk.rept K H vs t1 → Wk.rept K H ws t2 → Wk.rept K H (vs ++ ws) t3 := by
  induction h with
  | z t =>
    intro vs ws h1 h2
    cases h1
    exact h2
  | s x _ ih =>
    intro vs ws h1 h2
    obtain ⟨v, r, rfl, h3, h4⟩ := h1
    exact ⟨v, r ++ ws, rfl, h3, ih h4 h2⟩
theorem r2_catA {α1 τ1 α2 τ2 α3 τ3 : Type} [Rp α1] [Tp τ1] [Rp α2] [Tp τ2] [Rp α3] [Tp τ3] {t1 : α1 × τ1} {t2 : α2 × τ2} {t3 : α3 × τ3} (h : Ap t1 t2 t3) (hn : Tp.n (α1 × τ1) + Tp.n (α2 × τ2) ≤ 1000 := by decide) : R2V K (rCatA K) t1 t2 t3 := fun Kn H v w ek h1 h2 Q q => by
  obtain ⟨p, vs, rfl, h3, h4⟩ := h1
  obtain ⟨p2, ws, rfl, h5, h6⟩ := h2
  have n1 : vs ≠ [] := by
    obtain ⟨_, _, rfl, _⟩ := h4
    simp
  have n2 : ws ≠ [] := by
    obtain ⟨_, _, rfl, _⟩ := h6
    simp
  refine ⟨p, p2, vs, ws, rfl, rfl, st_of (ek _ _ h3), st_of (ek _ _ h5), ?_, fun e => absurd e n1, fun _ e => absurd e n2, fun _ _ l hl => ?_⟩
  · rw [Tp.len h4, Tp.len h6]
    exact le_line (by omega)
  · exact q _ (upd Kn l (.tup (vs ++ ws))) _ (Gr.new ek hl) ⟨l, _, rfl, upd_same, h.rept (Tp.mono (Gr.new ek hl).kk h4) (Tp.mono (Gr.new ek hl).kk h6)⟩
/-- found.clear() -/
theorem sb_clr {xs : List α} (hi : sl[i]? = some (.at p)) (hj : ow[j]? = some (ol p xs)) (ho : ow.set j (ol p ([] : List α)) = ow1) (k : SN K F Kn0 sl ow1 D) : SB K F Kn0 sl ow D (tDrop (tBM0 K "list" rClear (tVar i))) := fun σ Kn H s => by
  obtain ⟨o, h1, h2⟩ := s.sl.get hi
  obtain ⟨f1, f2, ws, f3, f4⟩ := s.ow.each _ (List.mem_of_getElem? hj)
  subst ho
  refine ⟨.ref p, by rw [h1]; exact congrArg some h2, Or.inl ⟨rfl, ws, sq_of f3⟩, p, ws, rfl, rfl, f3, k _ Kn _ ?_⟩
  exact s.write hj (Ex.refl _) (upd_in s.ek f2) (fun q hq _ => upd_ne hq) (fun _ _ h => h) upd_same .nil
theorem en_listO {xs : List α} (hi : sl[i]? = some (.at p)) (hj : ow[j]? = some (ol p xs)) : EN K F Kn0 sl ow (tCB (fun xs H Q => ∃ p ys, xs = [.ref p] ∧ (SqL K H p ys ∨ SqT K H p ys) ∧ ∀ l, H l = none → Q (.ref l) (upd H l (.lst ys))) (tCons (tVar i) tNil)) xs := fun σ Kn H s Q q => by
  obtain ⟨o, h1, h2⟩ := s.sl.get hi
  obtain ⟨f1, f2, ws, f3, f4⟩ := s.ow.each _ (List.mem_of_getElem? hj)
  exact ⟨.ref p, by rw [h1]; exact congrArg some h2, p, ws, rfl, .inl (sq_of f3), fun l hl => q l ws Kn _ (Gr.newU s.ek hl) hl (fresh_back s.ek hl) upd_same f4⟩
/-- a test that changes something on its way -/
def ETM (K : Fg) (F Kn0 : Hp) (sl : List Sl) (ow : List Ow) (tt : TT) (ow' : List Ow) (b : Bool) : Prop := ∀ σ Kn H, S K F Kn0 sl ow σ Kn H → ∀ Q : Bool → Hp → Prop, (∀ Kn' H', Ex Kn Kn' → S K F Kn0 sl ow' σ Kn' H' → Q b H') → tt σ H Q
theorem ET.etm (h : ET K F Kn0 sl ow tt b) : ETM K F Kn0 sl ow tt ow b := fun σ Kn H s Q q => h σ Kn H s Q fun Kn' H' g => q Kn' H' g.kk (s.grow g)
theorem etm_test (h : EM K F Kn0 sl ow te ow1 b) : ETM K F Kn0 sl ow (tTest te) ow1 b := fun σ Kn H s Q q => h σ Kn H s _ fun v Kn' H' e s' r => ⟨b, r, q Kn' H' e s'⟩
theorem etm_and {t u : TT} (h1 : ETM K F Kn0 sl ow t ow1 a) (h2 : a = true → ET K F Kn0 sl ow1 u b) : ETM K F Kn0 sl ow (tAnd t u) ow1 (a && b) := fun σ Kn H s Q q => h1 σ Kn H s _ fun Kn1 H1 e1 s1 => by
  cases a with
  | true => exact iteT (h2 rfl σ Kn1 H1 s1 Q fun Kn2 H2 g2 => q Kn2 H2 (e1.trans g2.kk) (s1.grow g2))
  | false => exact iteF (q Kn1 H1 e1 s1)
theorem etm_or {t u : TT} (h1 : ETM K F Kn0 sl ow t ow1 a) (h2 : a = false → ET K F Kn0 sl ow1 u b) : ETM K F Kn0 sl ow (tOr t u) ow1 (a || b) := fun σ Kn H s Q q => h1 σ Kn H s _ fun Kn1 H1 e1 s1 => by
  cases a with
  | true => exact iteT (q Kn1 H1 e1 s1)
  | false => exact iteF (h2 rfl σ Kn1 H1 s1 Q fun Kn2 H2 g2 => q Kn2 H2 (e1.trans g2.kk) (s1.grow g2))
theorem sb_ifM {t u : TS} (h : ETM K F Kn0 sl ow tt ow1 b) (h1 : b = true → SB K F Kn0 sl ow1 D t) (h2 : b = false → SB K F Kn0 sl ow1 D u) : SB K F Kn0 sl ow D (tIfS tt t u) := fun σ Kn H s => h σ Kn H s _ fun Kn1 H1 e1 s1 => by
  cases b with
  | true => exact iteT (h1 rfl σ Kn1 H1 s1)
  | false => exact iteF (h2 rfl σ Kn1 H1 s1)
end
section
variable {X : Cx} {K : Fg}
theorem k_catA (h : X.K = K := by rfl) : OpR X (binaryOp .Add) (rCatA K) := h ▸ op_catA
theorem k_join {to te : TE} {o e : Expr} {apos pos : Pos} (ho : PE X o to) (he : PE X e te) (hs : starEach [e] X.env = [(false, eval e X.env)] := by rfl) (hbase : attributeBase o "join" X.env (eval o X.env) = eval o X.env := by rfl) (hline : (apos.endLine == pos.line) = true := by rfl) (h : X.K = K := by rfl) :
    PE X (.Call (.Attribute o "join" apos) [e] [] pos) (tM1 (fun x xs H Q => ∃ a p, ∃ ys : List Str, x = .str a ∧ xs = [.ref p] ∧ (SqL K H p (ys.map V.str) ∨ SqT K H p (ys.map V.str)) ∧ (ys.map (·.length)).sum + ys.length * a.length ≤ 16777216 ∧ Q (.str (Txt.join a ys)) H) to te) := h ▸ pe_join ho he hs hbase hline
end
end Wk
/-! Wk6: dicts. -/
namespace Wk
open PySem PySem.Spec L2 Evl
/-- what may be a key -/
class K1 (α : Type) [Rp α] where
  key : α → Key
  inj : ∀ {a b : α}, key a = key b → a = b
  iff : ∀ {K : Fg} {H : Hp} {v : V} {a : α}, rep K H v a → v = kV (key a)
instance : K1 Int := { key := Sum.inl, inj := fun h => Sum.inl.inj h, iff := fun h => h }
instance : K1 Str := { key := Sum.inr, inj := fun h => Sum.inr.inj h, iff := fun h => h }
class KT1 (τ : Type) [Tp τ] where
  keys : τ → List Key
  inj : ∀ {a b : τ}, keys a = keys b → a = b
  iff : ∀ {K : Fg} {H : Hp} {vs : List V} {a : τ}, rept K H vs a → vs = (keys a).map kV
instance : KT1 Unit := { keys := fun _ => [], inj := fun _ => rfl, iff := fun h => h }
instance {α τ : Type} [Rp α] [Tp τ] [K1 α] [KT1 τ] : KT1 (α × τ) where
  keys t := K1.key t.1 :: KT1.keys t.2
  inj h := Prod.ext (K1.inj (List.cons.inj h).1) (KT1.inj (List.cons.inj h).2)
  iff h := by
    obtain ⟨v, r, h1, h2, h3⟩ := h
    rw [h1, K1.iff h2, KT1.iff h3]
    rfl
class Ky (κ : Type) [Rp κ] where
  kt : Type
  dec : DecidableEq kt
  key : κ → kt
  inj : ∀ {a b : κ}, key a = key b → a = b
  ho : List (kt × V) → HO
  isd : ∀ ws, isDk (ho ws)
  get : ∀ {K : Fg} {Kh H : Hp} {p : Addr} {v : V} {a : κ} {ws : List (kt × V)}, rep K Kh v a → Ex Kh H → Rd H p (ho ws) → DGet H p v (valV ws (key a))
  put : ∀ {K : Fg} {Kh H : Hp} {p : Addr} {v y : V} {a : κ} {ws : List (kt × V)}, rep K Kh v a → Ex Kh H → H p = some (ho ws) → ws.length < sizeLine → DPut H p v y (upd H p (ho (putK ws (key a) y)))
instance {κ : Type} [Rp κ] [Ky κ] : DecidableEq (Ky.kt κ) := Ky.dec
instance {α : Type} [Rp α] [K1 α] : Ky α where
  kt := Key
  dec := inferInstance
  key := K1.key
  inj := K1.inj
  ho := .dK
  isd _ := trivial
  get h _ e := by
    rw [K1.iff h]
    exact .inl ⟨_, _, e, rfl, rfl⟩
  put h _ e l := by
    rw [K1.iff h]
    exact DPut.k e l
instance {α τ : Type} [Rp α] [Tp τ] [KT1 (α × τ)] : Ky (α × τ) where
  kt := List Key
  dec := inferInstance
  key := KT1.keys
  inj := KT1.inj
  ho := .dT
  isd _ := trivial
  get h x e := by
    obtain ⟨p, vs, h1, h2, h3⟩ := h
    rw [h1]
    have h4 := x _ _ h2
    rw [KT1.iff (τ := α × _) h3] at h4
    exact .inr ⟨_, _, _, e, rfl, h4, rfl⟩
  put h x e l := by
    obtain ⟨p, vs, h1, h2, h3⟩ := h
    rw [h1]
    have h4 := x _ _ h2
    rw [KT1.iff (τ := α × _) h3] at h4
    exact DPut.t e h4 l
/-- the table of a dict -/
structure Dc (κ β : Type) where
  l : List (κ × β)
section
variable {κ β : Type} [DecidableEq κ]
def getD (kvs : List (κ × β)) (k : κ) : Option β := (kvs.find? fun kv => decide (kv.1 = k)).map (·.2)
def putD (kvs : List (κ × β)) (k : κ) (y : β) : List (κ × β) := if (getD kvs k).isSome = true then kvs.map (fun kv => if kv.1 = k then (kv.1, y) else kv) else kvs ++ [(k, y)]
def putO (kvs : Dc κ β) (k : κ) (y : β) : Option (Dc κ β) := if kvs.l.length < 1000000 then some ⟨putD kvs.l k y⟩ else none
def mergeD (kvs more : List (κ × β)) : List (κ × β) := more.foldl (fun acc kv => putD acc kv.1 kv.2) kvs
end
section
variable {κ β : Type} [Rp κ] [Ky κ] [Rp β]
abbrev DK (K : Fg) (H : Hp) : List (Ky.kt κ × V) → List (κ × β) → Prop := Paired fun w kv => w.1 = Ky.key kv.1 ∧ rep K H w.2 kv.2
theorem DK.mono {K : Fg} {H H' : Hp} {ws : List (Ky.kt κ × V)} {kvs : List (κ × β)} (e : Ex H H') (h : DK K H ws kvs) : DK K H' ws kvs := Paired.mapP h fun _ _ q => ⟨q.1, Rp.mono e q.2⟩
theorem DK.swap {K : Fg} {H H' : Hp} {ws : List (Ky.kt κ × V)} {kvs : List (κ × β)} (e : Sw H H') (h : DK K H ws kvs) : DK K H' ws kvs := Paired.mapP h fun _ _ q => ⟨q.1, Rp.swap e q.2⟩
instance obDc : Ob (Dc κ β) where
  ob K H o x := ∃ ws, o = Ky.ho (κ := κ) ws ∧ DK K H ws x.l
  swap e h := by
    obtain ⟨ws, h1, h2⟩ := h
    exact ⟨ws, h1, DK.swap e h2⟩
instance rpDc : Rp (Dc κ β) where
  rep K H v x := ∃ p ws, v = .ref p ∧ Rd H p (Ky.ho (κ := κ) ws) ∧ DK K H ws x.l
  swap e h := by
    obtain ⟨p, ws, h1, h2, h3⟩ := h
    exact ⟨p, ws, h1, e.rd h2 (Ky.isd ws), DK.swap e h3⟩
theorem rd_ex {H H' : Hp} (e : Ex H H') {q : Addr} {u : HO} (h : Rd H q u) : Rd H' q u := by
  rcases h with h | ⟨o, h⟩
  · exact .inl (e _ _ h)
  · exact .inr ⟨o, e _ _ h⟩
variable [DecidableEq κ]
theorem DK.get {K : Fg} {H : Hp} {ws : List (Ky.kt κ × V)} {kvs : List (κ × β)} (k : κ) (h : DK K H ws kvs) : (getD kvs k = none ∧ valV ws (Ky.key k) = none) ∨ ∃ y v, getD kvs k = some y ∧ valV ws (Ky.key k) = some v ∧ rep K H v y := by
  unfold DK at h
  induction h with
  | nil => exact .inl ⟨rfl, rfl⟩
  | @cons w kv ws kvs h t ih =>
    unfold getD valV
    by_cases e : kv.1 = k
    · have e2 : w.1 = Ky.key k := h.1.trans (congrArg _ e)
      rw [List.find?_cons_of_pos (by simpa using e), List.find?_cons_of_pos (by simpa using e2)]
      exact .inr ⟨_, _, rfl, rfl, h.2⟩
    · have e2 : ¬ w.1 = Ky.key k := fun z => e (Ky.inj (h.1.symm.trans z))
      rw [List.find?_cons_of_neg (by simpa using e), List.find?_cons_of_neg (by simpa using e2)]
      exact ih
theorem DK.some {K : Fg} {H : Hp} {ws : List (Ky.kt κ × V)} {kvs : List (κ × β)} (k : κ) (h : DK K H ws kvs) : (valV ws (Ky.key k)).isSome = (getD kvs k).isSome := by
  rcases h.get k with ⟨h1, h2⟩ | ⟨y, v, h1, h2, _⟩
  · rw [h1, h2]
    rfl
  · rw [h1, h2]
    rfl
theorem DK.repl {K : Fg} {H : Hp} {ws : List (Ky.kt κ × V)} {kvs : List (κ × β)} (k : κ) {v : V} {y : β} (hv : rep K H v y) (h : DK K H ws kvs) : DK K H (ws.map fun kv => if kv.1 = Ky.key k then (kv.1, v) else kv) (kvs.map fun kv => if kv.1 = k then (kv.1, y) else kv) := by
  unfold DK at h ⊢
  induction h with
  | nil => exact .nil
  | @cons w kv ws kvs h t ih =>
    rw [List.map_cons, List.map_cons]
    refine .cons ?_ ih
    by_cases e : kv.1 = k
    · have e2 : w.1 = Ky.key k := h.1.trans (congrArg _ e)
      rw [if_pos e, if_pos e2]
      exact ⟨h.1, hv⟩
    · have e2 : ¬ w.1 = Ky.key k := fun z => e (Ky.inj (h.1.symm.trans z))
      rw [if_neg e, if_neg e2]
      exact h
theorem Paired.app2 {α β : Type} {R : α → β → Prop} : ∀ {xs xs' : List α} {ys ys' : List β}, Paired R xs ys → Paired R xs' ys' → Paired R (xs ++ xs') (ys ++ ys')
  | _, _, _, _, .nil, h => h
  | _, _, _, _, .cons q t, h => .cons q (Paired.app2 t h)
theorem DK.put {K : Fg} {H : Hp} {ws : List (Ky.kt κ × V)} {kvs : List (κ × β)} (k : κ) {v : V} {y : β} (hv : rep K H v y) (h : DK K H ws kvs) : DK K H (putK ws (Ky.key k) v) (putD kvs k y) := by
  unfold putK putD
  rw [valV_any, h.some k]
  split
  · exact DK.repl k hv h
  · exact Paired.app2 h (.cons ⟨rfl, hv⟩ .nil)
end
section
variable {K : Fg} {F Kn0 : Hp} {sl sl' : List Sl} {ow ow0 ow1 ow2 : List Ow} {κ β γ : Type} [Rp κ] [Ky κ] [DecidableEq κ] [Rp β] [Rp γ] {ta tb te td tk : TE} {k : κ} {x : γ} {D : Ends} {t u tz : TS} {b : Bool} {i j : Nat} {p : Addr}
/-- the object at place j is another one now, all else as it was -/
theorem S.writeG {σ : L2.St} {Kn H Kn' H' : Hp} {o1 o2 : Ow} (s : S K F Kn0 sl ow σ Kn H) (hj : ow[j]? = some o1) (ha : o1.ad = p) (hb : o2.ad = p) (kk : Ex Kn Kn') (kh : Ex Kn' H')
    (hq : ∀ q, q ≠ p → H q ≠ none → H' q = H q) (sp : ∀ q, H q ≠ none → Kn q = none → Kn' q = none) (hp : o2.ok K Kn' H') : S K F Kn0 sl (ow.set j o2) σ Kn' H' := by
  obtain ⟨f1, f2, f3⟩ := s.ow.each _ (List.mem_of_getElem? hj)
  have f4 := Ow.there f3
  rw [ha] at f1 f2 f4
  have jl : j < ow.length := (List.getElem?_eq_some_iff.mp hj).1
  refine ⟨s.e0.trans kk, kh, fun a u h => ?_, fun a h1 h2 => sp a (Ex.nn s.ef h1) (s.sep a h1 h2), s.sl.mono kk, ⟨fun o ho => ?_, ?_⟩⟩
  · have hne : a ≠ p := fun z => by rw [z, f1] at h; cases h
    rw [hq a hne (ne_none_of (s.ef _ _ h))]
    exact s.ef _ _ h
  · obtain ⟨i, hi⟩ := List.getElem?_of_mem ho
    by_cases e : i = j
    · subst e
      rw [List.getElem?_set_self jl] at hi
      cases hi
      rw [hb]
      exact ⟨f1, sp p f4 f2, hp⟩
    · rw [List.getElem?_set_ne (Ne.symm e)] at hi
      obtain ⟨h1, h2, h3⟩ := s.ow.each o (List.mem_of_getElem? hi)
      have h4 := Ow.there h3
      have hne : o.ad ≠ p := fun z => e (ow_at s.ow.nd hi hj (z.trans ha.symm))
      exact ⟨h1, sp _ h4 h2, Ow.ok_mono kk (hq _ hne h4) h3⟩
  · have e : (ow.set j o2).map Ow.ad = ow.map Ow.ad := by
      rw [List.map_set]
      refine List.ext_getElem? fun i => ?_
      by_cases e : j = i
      · subst e
        rw [List.getElem?_set_self (by rw [List.length_map]; exact jl), List.getElem?_map, hj, hb, ← ha]
        rfl
      · rw [List.getElem?_set_ne e]
    rw [e]
    exact s.ow.nd
theorem S.ownG {σ : L2.St} {Kn H : Hp} {o : Ow} (s : S K F Kn0 sl ow σ Kn H) (ha : o.ad = p) (fp : F p = none) (kp : Kn p = none) (no : ∀ o ∈ ow, o.ad ≠ p) (ok : o.ok K Kn H) : S K F Kn0 sl (o :: ow) σ Kn H :=
  ⟨s.e0, s.ek, s.ef, s.sep, s.sl, ⟨fun o ho => by
    rcases List.mem_cons.mp ho with rfl | ho
    · rw [ha]
      exact ⟨fp, kp, ok⟩
    · exact s.ow.each o ho, List.nodup_cons.mpr ⟨fun h => by
      obtain ⟨o, ho, e⟩ := List.mem_map.mp h
      exact no o ho (e.trans ha), s.ow.nd⟩⟩⟩
/-- x = {} -/
theorem sb_dnewK {sl' : Addr → List Sl} (hm : Ky.ho (κ := κ) [] = HO.dK []) (hs : ∀ p, sl.set i (.at p) = sl' p) (k : ∀ p, SN K F Kn0 (sl' p) (oo p (Dc.mk ([] : List (κ × β))) :: ow) D) : SB K F Kn0 sl ow D (tAsg tDNewK (gName i)) := fun σ Kn H s p hp =>
  k p _ Kn _ (hs p ▸ ((s.grow (Gr.newU s.ek hp)).ownG (p := p) (o := oo p (Dc.mk ([] : List (κ × β)))) rfl (fresh_back s.ef hp) (fresh_back s.ek hp) (owned_ne s hp) ⟨_, upd_same, [], hm.symm, .nil⟩).seta i)
theorem sb_dnewT {sl' : Addr → List Sl} (hm : Ky.ho (κ := κ) [] = HO.dT []) (hs : ∀ p, sl.set i (.at p) = sl' p) (k : ∀ p, SN K F Kn0 (sl' p) (oo p (Dc.mk ([] : List (κ × β))) :: ow) D) : SB K F Kn0 sl ow D (tAsg tDNewT (gName i)) := fun σ Kn H s p hp =>
  k p _ Kn _ (hs p ▸ ((s.grow (Gr.newU s.ek hp)).ownG (p := p) (o := oo p (Dc.mk ([] : List (κ × β)))) rfl (fresh_back s.ef hp) (fresh_back s.ek hp) (owned_ne s hp) ⟨_, upd_same, [], hm.symm, .nil⟩).seta i)
/-- d[k] = y -/
theorem sb_dput {y : β} {d d' : Dc κ β} (hi : sl[i]? = some (.at p)) (hj : ow[j]? = some (oo p d)) (h : EV K F Kn0 sl ow te y) (hk : EV K F Kn0 sl ow tk k) (hx : putO d k y = some d') (ho : ow.set j (oo p d') = ow1) (n : SN K F Kn0 sl ow1 D) :
    SB K F Kn0 sl ow D (sDPut (tVar i) tk te) := fun σ Kn H s => h σ Kn H s _ fun v Kn1 H1 g1 r1 => by
  obtain ⟨o, h1, h2⟩ := s.sl.get hi
  refine ⟨.ref p, by rw [h1]; exact congrArg some h2, hk σ Kn1 H1 (s.grow g1) _ fun w Kn2 H2 g2 r2 => ?_⟩
  have s2 := (s.grow g1).grow g2
  obtain ⟨f1, f2, o1, f3, ws, f4, f5⟩ := s2.ow.each _ (List.mem_of_getElem? hj)
  subst f4
  unfold putO at hx
  split at hx
  · case isTrue hl =>
    cases hx
    subst ho
    refine ⟨p, _, rfl, Ky.put r2 s2.ek f3 (by rw [f5.length]; exact lt_line hl), n _ Kn2 _ ?_⟩
    exact s2.writeG hj rfl rfl (Ex.refl _) (upd_in s2.ek f2) (fun q hq _ => upd_ne hq) (fun _ _ h => h) ⟨_, upd_same, _, rfl, DK.put k (Rp.mono g2.kk r1) f5⟩
  · cases hx
/-- k in d -/
theorem ev_dinO {d : Dc κ β} (hi : sl[i]? = some (.at p)) (hj : ow[j]? = some (oo p d)) (hk : EV K F Kn0 sl ow tk k) : EV K F Kn0 sl ow (tDIn tk (tVar i)) (getD d.l k).isSome := fun σ Kn H s Q q => hk σ Kn H s _ fun v Kn1 H1 g1 r1 => by
  have s1 := s.grow g1
  obtain ⟨o, h1, h2⟩ := s1.sl.get hi
  obtain ⟨f1, f2, o1, f3, ws, f4, f5⟩ := s1.ow.each _ (List.mem_of_getElem? hj)
  subst f4
  exact ⟨.ref p, by rw [h1]; exact congrArg some h2, p, _, rfl, Ky.get r1 s1.ek (Rd.of f3), q _ Kn1 H1 g1 (congrArg V.bl (f5.some k))⟩
theorem ev_din {d : Dc κ β} (hd : EV K F Kn0 sl ow td d) (hk : EV K F Kn0 sl ow tk k) : EV K F Kn0 sl ow (tDIn tk td) (getD d.l k).isSome := fun σ Kn H s Q q => hk σ Kn H s _ fun v Kn1 H1 g1 r1 => hd σ Kn1 H1 (s.grow g1) _ fun u Kn2 H2 g2 r2 => by
  obtain ⟨p, ws, e1, e2, f5⟩ := r2
  exact ⟨p, _, e1, Ky.get (Rp.mono g2.kk r1) g2.kh (rd_ex g2.kh e2), q _ Kn2 H2 (g1.trans g2) (congrArg V.bl (f5.some k))⟩
theorem ev_dnotinO {d : Dc κ β} (hi : sl[i]? = some (.at p)) (hj : ow[j]? = some (oo p d)) (hk : EV K F Kn0 sl ow tk k) : EV K F Kn0 sl ow (tDNotIn tk (tVar i)) (!(getD d.l k).isSome) := fun σ Kn H s Q q => hk σ Kn H s _ fun v Kn1 H1 g1 r1 => by
  have s1 := s.grow g1
  obtain ⟨o, h1, h2⟩ := s1.sl.get hi
  obtain ⟨f1, f2, o1, f3, ws, f4, f5⟩ := s1.ow.each _ (List.mem_of_getElem? hj)
  subst f4
  exact ⟨.ref p, by rw [h1]; exact congrArg some h2, p, _, rfl, Ky.get r1 s1.ek (Rd.of f3), q _ Kn1 H1 g1 (congrArg (fun b => V.bl (!b)) (f5.some k))⟩
theorem ev_dnotin {d : Dc κ β} (hd : EV K F Kn0 sl ow td d) (hk : EV K F Kn0 sl ow tk k) : EV K F Kn0 sl ow (tDNotIn tk td) (!(getD d.l k).isSome) := fun σ Kn H s Q q => hk σ Kn H s _ fun v Kn1 H1 g1 r1 => hd σ Kn1 H1 (s.grow g1) _ fun u Kn2 H2 g2 r2 => by
  obtain ⟨p, ws, e1, e2, f5⟩ := r2
  exact ⟨p, _, e1, Ky.get (Rp.mono g2.kk r1) g2.kh (rd_ex g2.kh e2), q _ Kn2 H2 (g1.trans g2) (congrArg (fun b => V.bl (!b)) (f5.some k))⟩
/-- d[k] -/
theorem ev_dgetO {d : Dc κ β} {y : β} (hi : sl[i]? = some (.at p)) (hj : ow[j]? = some (oo p d)) (hk : EV K F Kn0 sl ow tk k) (hy : getD d.l k = some y) : EV K F Kn0 sl ow (tDGet (tVar i) tk) y := fun σ Kn H s Q q => by
  obtain ⟨o, h1, h2⟩ := s.sl.get hi
  refine ⟨.ref p, by rw [h1]; exact congrArg some h2, hk σ Kn H s _ fun v Kn1 H1 g1 r1 => ?_⟩
  have s1 := s.grow g1
  obtain ⟨f1, f2, o1, f3, ws, f4, f5⟩ := s1.ow.each _ (List.mem_of_getElem? hj)
  subst f4
  rcases f5.get k with ⟨h1, h2⟩ | ⟨y2, w, h1, h2, h3⟩
  · rw [h1] at hy
    cases hy
  · rw [h1] at hy
    cases hy
    exact ⟨p, w, rfl, h2 ▸ Ky.get r1 s1.ek (Rd.of f3), q w Kn1 H1 g1 h3⟩
theorem ev_dget {d : Dc κ β} {y : β} (hd : EV K F Kn0 sl ow td d) (hk : EV K F Kn0 sl ow tk k) (hy : getD d.l k = some y) : EV K F Kn0 sl ow (tDGet td tk) y := fun σ Kn H s Q q => hd σ Kn H s _ fun u Kn1 H1 g1 r1 => hk σ Kn1 H1 (s.grow g1) _ fun v Kn2 H2 g2 r2 => by
  obtain ⟨p, ws, e1, e2, f5⟩ := Rp.mono g2.kk r1
  rcases f5.get k with ⟨h1, h2⟩ | ⟨y2, w, h1, h2, h3⟩
  · rw [h1] at hy
    cases hy
  · rw [h1] at hy
    cases hy
    exact ⟨p, w, e1, h2 ▸ Ky.get r2 g2.kh (rd_ex g2.kh e2), q w Kn2 H2 (g1.trans g2) h3⟩
/-- a dict of one's own, lent -/
theorem S.borrowG {σ : L2.St} {Kn H : Hp} {d : Dc κ β} (s : S K F Kn0 sl ow σ Kn H) (hi : sl[i]? = some (.at p)) (hj : ow[j]? = some (oo p d)) : ∃ o, Kn p = none ∧ H p = some o ∧ S K F Kn0 (sl.set i (sv d)) (ow.eraseIdx j) σ (upd Kn p o) H := by
  obtain ⟨o, h1, h2⟩ := s.sl.get hi
  have h2 : o = some (.ref p) := h2
  obtain ⟨f1, f2, ob, f3, f4⟩ := s.ow.each _ (List.mem_of_getElem? hj)
  have s1 := s.sub (List.eraseIdx_sublist ow j)
  have no : ∀ o ∈ ow.eraseIdx j, o.ad ≠ p := fun o hm z => by
    obtain ⟨m, hm'⟩ := List.getElem?_of_mem hm
    rw [List.getElem?_eraseIdx] at hm'
    split at hm'
    · have := ow_at s.ow.nd hm' hj z
      omega
    · have := ow_at s.ow.nd hm' hj z
      omega
  have s2 := s1.know (o := ob) f1 f2 no f3
  have hσ : σ.set i o = σ := by
    refine List.ext_getElem? fun m => ?_
    by_cases e : i = m
    · subst e
      rw [List.getElem?_set_self (List.getElem?_eq_some_iff.mp h1).1, h1]
    · rw [List.getElem?_set_ne e]
  have s3 := s2.set (x := sv d) (o := o) i ⟨.ref p, h2, by
    obtain ⟨ws, rfl, f5⟩ := f4
    exact ⟨p, ws, rfl, Rd.of upd_same, DK.mono (Ex.new f2) f5⟩⟩
  rw [hσ] at s3
  exact ⟨ob, f2, f3, s3⟩
theorem ev_borG [Fl γ] {z : γ} {d : Dc κ β} (hi : sl[i]? = some (.at p)) (hj : ow[j]? = some (oo p d)) (hs : sl.set i (sv d) = sl') (ho : ow.eraseIdx j = ow1) (h : EV K F Kn0 sl' ow1 te z) : EV K F Kn0 sl ow te z := fun σ Kn H s Q q => by
  obtain ⟨ws, kp, hp, s1⟩ := s.borrowG hi hj
  subst hs
  subst ho
  exact h σ _ H s1 Q fun v Kn' H' g r => q v Kn H' ⟨Ex.refl _, g.hh, s.ek.trans g.hh, fun _ _ h => h⟩ (Fl.iff.mpr (Fl.iff.mp r))
theorem et_borG {tt : TT} {d : Dc κ β} (hi : sl[i]? = some (.at p)) (hj : ow[j]? = some (oo p d)) (hs : sl.set i (sv d) = sl') (ho : ow.eraseIdx j = ow1) (h : ET K F Kn0 sl' ow1 tt b) : ET K F Kn0 sl ow tt b := fun σ Kn H s Q q => by
  obtain ⟨ws, kp, hp, s1⟩ := s.borrowG hi hj
  subst hs
  subst ho
  exact h σ _ H s1 Q fun Kn' H' g => q Kn H' ⟨Ex.refl _, g.hh, s.ek.trans g.hh, fun _ _ h => h⟩
end
section
variable {X : Cx} {o i e value : Expr} {pos pos' tpos : Pos} {td ty tv : TE}
theorem k_dget (hu : X.A.units + 64 < cLine) (ho : PE X o td) (hi : PE X i ty) (hs : NoSl i) : PE X (.Subscript o i pos) (tDGet td ty) := pe_dget (by omega) ho hi hs
theorem k_din (hu : X.A.units + 64 < cLine) (hi : PE X i ty) (ho : PE X o td) : PC X .In i o (tDIn ty td) := pc_din (by omega) hi ho
theorem k_dnotin (hu : X.A.units + 64 < cLine) (hi : PE X i ty) (ho : PE X o td) : PC X .NotIn i o (tDNotIn ty td) := pc_dnotin (by omega) hi ho
theorem k_dput (hu : X.A.units + 64 < cLine) (ho : PE X o td) (hi : PE X i ty) (hv : PE X value tv) (hs : swapsWith value (some (.Subscript o i pos')) pos.line X.env = pure false) : PS X (.Assign [.Subscript o i pos'] value pos) (sDPut td ty tv) := ps_dput (by omega) ho hi hv hs
end
/-! ### a new list out of an operation with effects -/
section
variable {K : Fg} {F Kn0 : Hp} {sl : List Sl} {ow ow1 ow2 : List Ow} {α β γ : Type} [Rp α] [Rp β] [Rp γ] {ta tb : TE} {x : α} {y : β}
theorem enm_op {r : R2} {zs : List γ} (ha : EM K F Kn0 sl ow ta ow1 x) (hb : EM K F Kn0 sl ow1 tb ow2 y) (hr : R2L K r x y zs) : ENM K F Kn0 sl ow (tOp r ta tb) ow2 zs := fun σ Kn H s Q q =>
  ha σ Kn H s _ fun v Kn1 H1 e1 s1 r1 => hb σ Kn1 H1 s1 _ fun w Kn2 H2 e2 s2 r2 => hr Kn2 H2 v w s2.ek (Rp.mono e2 r1) r2 Q fun p ws Kn' H' g' hp kp hw r' =>
    q p ws Kn' H' ((e1.trans e2).trans g'.kk) (s2.grow g') (fresh_back s2.ef hp) kp (owned_ne s2 hp) hw r'
end
/-! ### a display -/
section
variable {K : Fg} {F Kn0 : Hp} {sl : List Sl} {ow : List Ow} {κ β : Type} [Rp κ] [K1 κ] [DecidableEq κ] [Rp β] {tk tv : TE} {k : κ} {y : β} {trs : List (TE × TE)} {kvs : List (κ × β)}
def EPs (K : Fg) (F Kn0 : Hp) (sl : List Sl) (ow : List Ow) (trs : List (TE × TE)) (kvs : List (κ × β)) : Prop := ∀ σ Kn H, S K F Kn0 sl ow σ Kn H → ∀ Q : List (V × V) → Hp → Prop,
  (∀ ws Kn' H', Gr Kn H Kn' H' → DK K Kn' ws kvs → Q (ws.map fun w => (kV w.1, w.2)) H') → tPairs trs σ H Q
theorem eps_nil : EPs K F Kn0 sl ow [] ([] : List (κ × β)) := fun σ Kn H s Q q => q [] Kn H (Gr.refl s.ek) .nil
theorem eps_cons (hk : EV K F Kn0 sl ow tk k) (hv : EV K F Kn0 sl ow tv y) (hr : EPs K F Kn0 sl ow trs kvs) : EPs K F Kn0 sl ow ((tk, tv) :: trs) ((k, y) :: kvs) := fun σ Kn H s Q q =>
  hk σ Kn H s _ fun v Kn1 H1 g1 r1 => hv σ Kn1 H1 (s.grow g1) _ fun w Kn2 H2 g2 r2 => hr σ Kn2 H2 ((s.grow g1).grow g2) _ fun ws Kn3 H3 g3 r3 => by
    have e := K1.iff r1
    subst e
    exact q ((K1.key k, w) :: ws) Kn3 H3 ((g1.trans g2).trans g3) (.cons ⟨rfl, Rp.mono g3.kk r2⟩ r3)
theorem DK.merge {K : Fg} {H : Hp} : ∀ {ms : List (Key × V)} {more : List (κ × β)} {ws : List (Key × V)} {kvs : List (κ × β)}, DK K H ms more → DK K H ws kvs → DK K H (mergeK ws ms) (mergeD kvs more) := by
  intro ms more ws kvs h
  unfold DK at h
  induction h generalizing ws kvs with
  | nil => exact fun h => h
  | @cons w kv ms more h t ih =>
    intro q
    refine ih ?_
    show DK K H (putK ws w.1 w.2) (putD kvs kv.1 kv.2)
    rw [h.1]
    exact DK.put kv.1 h.2 q
/-- {..}[k] -/
theorem ev_pick (hp : EPs K F Kn0 sl ow trs kvs) (hk : EV K F Kn0 sl ow tk k) (hl : kvs.length ≤ 15) (hy : getD (mergeD [] kvs) k = some y) : EV K F Kn0 sl ow (tDGet (tDisp trs) tk) y := fun σ Kn H s Q q p hp0 => by
  have g0 : Gr Kn H Kn (upd H p (.dK [])) := Gr.newU s.ek hp0
  refine hp σ Kn _ (s.grow g0) _ fun ws Kn1 H1 g1 r1 => ?_
  have e1 : H1 p = some (.dK []) := g1.hh _ _ upd_same
  have kp : Kn1 p = none := g1.sp p (ne_none_of upd_same) (fresh_back s.ek hp0)
  have g : Gr Kn H Kn1 (upd H1 p (.dK (mergeK [] ws))) := ⟨g1.kk, fun a u h => by
    have hne : a ≠ p := fun z => by rw [z, hp0] at h; cases h
    rw [upd_ne hne]
    exact g1.hh _ _ (by rw [upd_ne hne]; exact h), upd_in g1.kh kp, fun a h1 h2 => g1.sp a (Ex.nn g0.hh h1) h2⟩
  refine ⟨e1, ws, rfl, by rw [r1.length]; exact hl, hk σ Kn1 _ (s.grow g) _ fun v Kn2 H2 g2 r2 => ?_⟩
  have r3 : DK K Kn1 (mergeK [] ws) (mergeD [] kvs) := DK.merge r1 .nil
  rcases r3.get k with ⟨h1, h2⟩ | ⟨y2, w, h1, h2, h3⟩
  · rw [h1] at hy
    cases hy
  · rw [h1] at hy
    cases hy
    exact ⟨p, w, rfl, h2 ▸ Ky.get r2 g2.kh (Rd.of (g2.hh _ _ upd_same)), q w Kn2 H2 (g.trans g2) (Rp.mono g2.kk h3)⟩
end
end Wk
/-! Wdy: values of any kind (None, truths, numbers, texts, tuples and lists of these), read as data; a dict of the module; a def that calls itself -/
namespace Wk
open PySem PySem.Spec L2 Evl
mutual
inductive Dq (H : Hp) : V → PyData → Prop
  | non : Dq H .non .none
  | bl (b : Bool) : Dq H (.bl b) (.bool b)
  | int (i : Int) : Dq H (.int i) (.int i)
  | str (x : Str) : Dq H (.str x) (.str x)
  | lst {a : Addr} {xs : List V} {ds : List PyData} : H a = some (.lst xs) → DqAll H xs ds → Dq H (.ref a) (.list ds)
  | tup {a : Addr} {xs : List V} {ds : List PyData} : H a = some (.tup xs) → DqAll H xs ds → Dq H (.ref a) (.tuple ds)
inductive DqAll (H : Hp) : List V → List PyData → Prop
  | nil : DqAll H [] []
  | cons {v : V} {vs : List V} {d : PyData} {ds : List PyData} : Dq H v d → DqAll H vs ds → DqAll H (v :: vs) (d :: ds)
end
theorem Dq.swap {H H' : Hp} (e : Sw H H') {v : V} {d : PyData} (h : Dq H v d) : Dq H' v d :=
  Dq.rec (motive_1 := fun v d _ => Dq H' v d) (motive_2 := fun vs ds _ => DqAll H' vs ds) .non .bl .int .str (fun s _ ih => .lst (e.lst s) ih) (fun s _ ih => .tup (e.tup s) ih) .nil (fun _ _ h1 h2 => .cons h1 h2) h
theorem DqAll.swap {H H' : Hp} (e : Sw H H') {v : List V} {d : List PyData} (h : DqAll H v d) : DqAll H' v d :=
  DqAll.rec (motive_1 := fun v d _ => Dq H' v d) (motive_2 := fun vs ds _ => DqAll H' vs ds) .non .bl .int .str (fun s _ ih => .lst (e.lst s) ih) (fun s _ ih => .tup (e.tup s) ih) .nil (fun _ _ h1 h2 => .cons h1 h2) h
theorem Dq.dp {K : Fg} {H : Hp} {v : V} {d : PyData} (h : Dq H v d) : Dp K H v d :=
  Dq.rec (motive_1 := fun v d _ => Dp K H v d) (motive_2 := fun vs ds _ => DpAll K H vs ds) .non .bl .int .str (fun s _ ih => .lst (sq_of s) ih) (fun s _ ih => .tup (st_of s) ih) .nil (fun _ _ h1 h2 => .cons h1 h2) h
structure Dy where
  d : PyData
instance : Rp Dy := { rep := fun _ H v x => Dq H v x.d, swap := fun e h => Dq.swap e h }
/-- to data -/
class Ud (α : Type) [Rp α] where
  toD : α → PyData
  is : ∀ {K : Fg} {H : Hp} {v : V} {a : α}, rep K H v a → Dq H v (toD a)
class Us (τ : Type) [Tp τ] where
  toDs : τ → List PyData
  is : ∀ {K : Fg} {H : Hp} {vs : List V} {a : τ}, rept K H vs a → DqAll H vs (toDs a)
instance : Ud Int := ⟨.int, fun h => by cases h; exact .int _⟩
instance : Ud Bool := ⟨.bool, fun h => by cases h; exact .bl _⟩
instance : Ud Str := ⟨.str, fun h => by cases h; exact .str _⟩
instance : Ud Nn := ⟨fun _ => .none, fun h => by cases h; exact .non⟩
instance : Ud Dy := ⟨Dy.d, fun h => h⟩
instance {α : Type} [Rp α] [Ud α] : Ud (Option α) where
  toD x := match x with | none => .none | some a => Ud.toD a
  is {K H v a} h := by
    cases a with
    | none => cases h; exact .non
    | some a => exact Ud.is h.2
theorem dqAll_of {α : Type} [Rp α] [Ud α] {K : Fg} {H : Hp} : ∀ {vs : List V} {xs : List α}, Paired (rep K H) vs xs → DqAll H vs (xs.map Ud.toD)
  | _, _, .nil => .nil
  | _, _, .cons r t => .cons (Ud.is r) (dqAll_of t)
instance {α : Type} [Rp α] [Ud α] : Ud (List α) where
  toD xs := .list (xs.map Ud.toD)
  is h := by
    obtain ⟨p, vs, rfl, h1, h2⟩ := h
    exact .lst h1 (dqAll_of h2)
instance {α : Type} [Rp α] [Ud α] : Ud (Tu α) where
  toD xs := .tuple (xs.l.map Ud.toD)
  is h := by
    obtain ⟨p, vs, rfl, h1, h2⟩ := h
    exact .tup h1 (dqAll_of h2)
instance : Us Unit := ⟨fun _ => [], fun h => by cases h; exact .nil⟩
instance {α τ : Type} [Rp α] [Tp τ] [Ud α] [Us τ] : Us (α × τ) where
  toDs t := Ud.toD t.1 :: Us.toDs t.2
  is h := by
    obtain ⟨v, r, rfl, h1, h2⟩ := h
    exact .cons (Ud.is h1) (Us.is h2)
instance {α τ : Type} [Rp α] [Tp τ] [Ud α] [Us τ] : Ud (α × τ) where
  toD t := .tuple (Us.toDs (τ := α × τ) t)
  is h := by
    obtain ⟨p, vs, rfl, h1, h2⟩ := h
    exact .tup h1 (Us.is h2)
/-- out of data, where it is of the kind -/
class Od (α : Type) [Rp α] where
  of : PyData → Option α
  un : ∀ {K : Fg} {H : Hp} {v : V} {d : PyData} {a : α}, Dq H v d → of d = some a → rep K H v a
class Os (τ : Type) [Tp τ] where
  ofs : List PyData → Option τ
  un : ∀ {K : Fg} {H : Hp} {vs : List V} {ds : List PyData} {a : τ}, DqAll H vs ds → ofs ds = some a → rept K H vs a
instance : Od Int := ⟨fun d => match d with | .int i => some i | _ => none, fun h e => by cases h <;> cases e; rfl⟩
instance : Od Bool := ⟨fun d => match d with | .bool i => some i | _ => none, fun h e => by cases h <;> cases e; rfl⟩
instance : Od Str := ⟨fun d => match d with | .str i => some i | _ => none, fun h e => by cases h <;> cases e; rfl⟩
instance : Od Dy := ⟨fun d => some ⟨d⟩, fun h e => by cases e; exact h⟩
def ofAll {α : Type} [Rp α] [Od α] : List PyData → Option (List α)
  | [] => some []
  | d :: ds => (Od.of d).bind fun x => (ofAll ds).bind fun xs => some (x :: xs)
theorem ofAll_un {α : Type} [Rp α] [Od α] {K : Fg} {H : Hp} : ∀ {ds : List PyData} {vs : List V} {xs : List α}, DqAll H vs ds → ofAll ds = some xs → Paired (rep K H) vs xs
  | [], _, _, h, e => by
    cases h
    cases e
    exact .nil
  | d :: ds, _, xs, h, e => by
    cases h with
    | cons h1 h2 =>
      obtain ⟨x, ex, e⟩ := bind_some e
      obtain ⟨ys, ey, e⟩ := bind_some e
      cases e
      exact .cons (Od.un h1 ex) (ofAll_un h2 ey)
instance {α : Type} [Rp α] [Od α] : Od (Tu α) where
  of d := match d with | .tuple ds => (ofAll ds).map Tu.mk | _ => none
  un h e := by
    cases h with
    | tup h1 h2 =>
      obtain ⟨xs, e1, rfl⟩ := Option.map_eq_some_iff.mp e
      exact ⟨_, _, rfl, h1, ofAll_un h2 e1⟩
    | _ => cases e
instance {α : Type} [Rp α] [Od α] : Od (List α) where
  of d := match d with | .list ds => ofAll ds | _ => none
  un h e := by
    cases h with
    | lst h1 h2 => exact ⟨_, _, rfl, h1, ofAll_un h2 e⟩
    | _ => cases e
instance : Os Unit := ⟨fun ds => match ds with | [] => some () | _ => none, fun h e => by cases h <;> cases e; rfl⟩
instance {α τ : Type} [Rp α] [Tp τ] [Od α] [Os τ] : Os (α × τ) where
  ofs ds := match ds with | [] => none | d :: ds => (Od.of d).bind fun x => (Os.ofs ds).bind fun t => some (x, t)
  un h e := by
    cases h with
    | nil => cases e
    | cons h1 h2 =>
      obtain ⟨x, ex, e⟩ := bind_some e
      obtain ⟨t, et, e⟩ := bind_some e
      cases e
      exact ⟨_, _, rfl, Od.un h1 ex, Os.un h2 et⟩
instance {α τ : Type} [Rp α] [Tp τ] [Od α] [Os τ] : Od (α × τ) where
  of d := match d with | .tuple ds => Os.ofs (τ := α × τ) ds | _ => none
  un h e := by
    cases h with
    | tup h1 h2 => exact ⟨_, _, rfl, h1, Os.un h2 e⟩
    | _ => cases e
def ofD {α : Type} [Rp α] [Od α] (x : Dy) : Option α := Od.of x.d
def upD {α : Type} [Rp α] [Ud α] (x : α) : Dy := ⟨Ud.toD x⟩
def eqYO (a b : Dy) : Option Bool := if SeqAt.shaped a.d = true ∧ SeqAt.shaped b.d = true then some (PyData.eqv a.d b.d) else none
section
variable {K : Fg} {F Kn0 : Hp} {sl sl' : List Sl} {ow ow1 : List Ow} {α β τ : Type} [Rp α] [Rp β] [Tp τ] {te tk : TE} {x : Dy}
theorem ev_of [Od α] {y : α} (h : EV K F Kn0 sl ow te x) (e : ofD x = some y) : EV K F Kn0 sl ow te y := fun σ Kn H s Q q => h σ Kn H s Q fun v Kn' H' g r => q v Kn' H' g (Od.un r e)
theorem ev_up [Ud α] {y : α} (h : EV K F Kn0 sl ow te y) : EV K F Kn0 sl ow te (upD y) := fun σ Kn H s Q q => h σ Kn H s Q fun v Kn' H' g r => q v Kn' H' g (Ud.is r)
theorem em_up [Ud α] {y : α} (h : EM K F Kn0 sl ow te ow1 y) : EM K F Kn0 sl ow te ow1 (upD y) := fun σ Kn H s Q q => h σ Kn H s Q fun v Kn' H' e s' r => q v Kn' H' e s' (Ud.is r)
/-- a list, where a list is read -/
theorem ev_fz {xs : List α} (h : EV K F Kn0 sl ow te xs) : EV K F Kn0 sl ow te (Fz.mk xs) := fun σ Kn H s Q q => h σ Kn H s Q fun v Kn' H' g r => by
  obtain ⟨p, vs, rfl, h1, h2⟩ := r
  exact q _ Kn' H' g ⟨p, vs, rfl, sq_of h1, h2⟩
theorem r2_eqY {a b : Dy} {c : Bool} (h : eqYO a b = some c) : R2V K (rEqD K) a b c := fun Kn H v w ek h1 h2 Q q => by
  unfold eqYO at h
  split at h
  case isFalse => cases h
  rename_i hb
  cases h
  exact ⟨a.d, b.d, dp_mono ek (Dq.dp h1), dp_mono ek (Dq.dp h2), hb.1, hb.2, q.fl ek⟩
theorem r2_neY {a b : Dy} {c : Bool} (h : eqYO a b = some c) : R2V K (rNeD K) a b (!c) := fun Kn H v w ek h1 h2 Q q => by
  unfold eqYO at h
  split at h
  case isFalse => cases h
  rename_i hb
  cases h
  exact ⟨a.d, b.d, dp_mono ek (Dq.dp h1), dp_mono ek (Dq.dp h2), hb.1, hb.2, q.fl ek⟩
/-- D[k], D a dict of the module -/
theorem ev_kd {w : World} {p : Addr} {tab : List (Str × Str)} {k z : Str} (ht : ∀ kv ∈ tab, KDct K w p kv.1 (.str kv.2)) (hk : EV K F Kn0 sl ow tk k) (hz : getD tab k = some z) : EV K F Kn0 sl ow (tOp (rIxD K w) (tC (.ref p)) tk) z := fun σ Kn H s Q q =>
  hk σ Kn H s _ fun v Kn1 H1 g1 r1 => by
    cases r1
    unfold getD at hz
    obtain ⟨kv, hf, rfl⟩ := Option.map_eq_some_iff.mp hz
    have hk2 := List.find?_some hf
    rw [decide_eq_true_eq] at hk2
    have := ht kv (List.mem_of_find?_eq_some hf)
    rw [hk2] at this
    exact ⟨p, _, _, rfl, rfl, this, q _ Kn1 H1 g1 rfl⟩
theorem k_ixkd {X : Cx} {w : World} (h : X.K = K := by rfl) (hw : X.w = w := by rfl) : IxR X (rIxD K w) := by
  subst h
  subst hw
  exact ix_kdict


end
theorem fnok_none {P : Program} {w : World} {K : Fg} {mg : Str → Option Value} {base : Heap} {CX : CXT} {k : Nat} {f : Addr} {fd : FuncData} {ps : List Str} {τ α : Type} [Tp τ] [Rp α] : FnOk P w K mg base CX k f fd ps (PF K (fun _ : τ => (none : Option α))) := by
  refine ⟨fun vs H Q E h => ?_, fun A outer s H args us vs Q E hr he hb hv h => ?_⟩
  · obtain ⟨_, _, _, _, _, h, _⟩ := h
    cases h
  · obtain ⟨_, _, _, _, _, h, _⟩ := h
    cases h
theorem fnok_noneL {P : Program} {w : World} {K : Fg} {mg : Str → Option Value} {base : Heap} {CX : CXT} {k : Nat} {f : Addr} {fd : FuncData} {ps : List Str} {τ α : Type} [Tp τ] [Rp α] : FnOk P w K mg base CX k f fd ps (PL K (fun _ : τ => (none : Option (List α)))) := by
  refine ⟨fun vs H Q E h => ?_, fun A outer s H args us vs Q E hr he hb hv h => ?_⟩
  · obtain ⟨_, _, _, _, _, h, _⟩ := h
    cases h
  · obtain ⟨_, _, _, _, _, h, _⟩ := h
    cases h
end Wk
/-! Wupd: dict(pairs) and d.update(d2) with tuple keys. -/
namespace L2
open PySem PySem.Spec PyProof.Rows
def mergeT (kvs more : List (List Key × V)) : List (List Key × V) := more.foldl (fun acc kv => putK acc kv.1 kv.2) kvs
theorem length_mergeT : ∀ (more kvs : List (List Key × V)), (mergeT kvs more).length ≤ kvs.length + more.length
  | [], kvs => Nat.le_refl _
  | p :: r, kvs => by
    have h1 := length_mergeT r (putK kvs p.1 p.2)
    have h2 := length_putK kvs p.1 p.2
    show (mergeT (putK kvs p.1 p.2) r).length ≤ _
    rw [List.length_cons]
    omega
theorem KT.merge {H : Hp} : ∀ {more : List (List Key × V)} {ms : List (List Key × Addr × Value)} {kvs : List (List Key × V)} {xs : List (List Key × Addr × Value)}, KT H more ms → KT H kvs xs → KT H (mergeT kvs more) (storedAllH xs ms) := by
  intro more ms kvs xs r
  unfold KT at r
  induction r generalizing kvs xs with
  | nil => intro q; exact q
  | @cons p q ps qs h t ih =>
    intro r0
    have e : KT H (putK kvs p.1 p.2) (storedH xs q.1 q.2.1 q.2.2) := by
      have := r0.put p.1 h.2.1 h.2.2
      rw [← h.1]
      exact this
    exact ih e
section
variable {X : Cx} {pins : List (Addr × Obj)} {σ : St} {H : Hp} {s : Shared}
theorem pairsT_of (I : Inv X pins σ H s) : ∀ {ps : List Addr} {kvs : List (List Key × V)}, Paired (fun p kv => ∃ b, SqT X.K H p [.ref b, kv.2] ∧ H b = some (.tup (kv.1.map kV))) ps kvs →
    ∃ ms : List (List Key × Addr × Value), KT H kvs ms ∧ ms.length = ps.length ∧ ∀ (j : Nat) (m : List Key × Addr × Value), ms[j]? = some m → ∃ p : Addr, ps[j]? = some p ∧ IsTup s.heap p #[.ref m.2.1, m.2.2]
  | _, _, .nil => ⟨[], .nil, rfl, fun j q e => by simp at e⟩
  | _, _, .cons (a := p) (b := kv) h t => by
    obtain ⟨ms, r, hl, hp⟩ := pairsT_of I t
    obtain ⟨b, h1, h2⟩ := h
    obtain ⟨its, rv, ht, _⟩ := I.tuple h1
    obtain ⟨u, y, ei, ru, ry⟩ := vals2 rv
    subst ei
    cases ru
    refine ⟨(kv.1, b, y) :: ms, .cons ⟨rfl, h2, ry⟩ r, by rw [List.length_cons, List.length_cons, hl], fun j m e => ?_⟩
    cases j with
    | zero =>
      have e' : (kv.1, b, y) = m := Option.some.inj e
      subst e'
      exact ⟨p, rfl, ht⟩
    | succ j =>
      obtain ⟨p', e1, e2⟩ := hp j m (by simpa using e)
      exact ⟨p', by simpa using e1, e2⟩
theorem KT.is_all (I : Inv X pins σ H s) : ∀ {kvs : List (List Key × V)} {ms : List (List Key × Addr × Value)}, KT H kvs ms → ∀ x ∈ ms, (tupleKind (mixKind X.prog X.w)).is s.heap x.1 x.2.1 := by
  intro kvs ms q
  unfold KT at q
  induction q with
  | nil => intro x hx; exact nomatch hx
  | @cons p q ps qs hq t ih =>
    intro x hx
    rcases List.mem_cons.mp hx with e | hx
    · subst e
      exact key_of I.hok (by rw [← hq.1]; exact hq.2.1)
    · exact ih x hx
theorem key_stays {P : Program} {w : World} {h h' : Heap} {k : List Key} {b : Addr} (x : (tupleKind (mixKind P w)).is h k b) (e : ∀ o, h.get? b = some o → h'.get? b = some o) : (tupleKind (mixKind P w)).is h' k b := by
  obtain ⟨o, its, n, h1, h2, h3, h4⟩ := x
  exact ⟨o, its, n, e _ h1, h2, h3, h4⟩
theorem key_there {P : Program} {w : World} {h : Heap} {k : List Key} {b : Addr} (x : (tupleKind (mixKind P w)).is h k b) : b < h.objs.size := by
  obtain ⟨o, its, n, h1, h2, h3, h4⟩ := x
  exact Heap.lt_size h1
end
section
variable {X : Cx}
/-- dict(xs), xs a list of pairs whose keys are tuples -/
def rDictT (K : PySem.W.Frag) : List V → Hp → VK → Prop := fun xs H Q => ∃ (a : Addr) (ps : List Addr) (kvs : List (List Key × V)), xs = [.ref a] ∧ SqL K H a (ps.map V.ref) ∧ Paired (fun p kv => ∃ b, SqT K H p [.ref b, kv.2] ∧ H b = some (.tup (kv.1.map kV))) ps kvs ∧
    ∀ p, H p = none → Q (.ref p) (upd H p (.dT (mergeT [] kvs)))
theorem cr_dictT (hcalm : X.calm = true) (hu : X.A.units + 64 < cLine) : CallR X (.type "dict") (rDictT X.K) := by
  intro pins s σ H xs us Q I r q
  obtain ⟨a, ps, kvs, ex, hq, hp, q⟩ := q
  subst ex
  rw [Vals.ref1 r]
  obtain ⟨its, rv, pl, hz⟩ := I.list hq
  have ei := refs_at rv
  subst ei
  rw [List.length_map] at hz
  obtain ⟨ms, rel, hl, hpr⟩ := pairsT_of I hp
  obtain ⟨o, n, ho, hc, hd, hdat⟩ := pl
  have hall := KT.is_all I rel
  have hprs : (ms.map fun m => ((Value.ref m.2.1, m.2.2) : Value × Value)).length = ms.length := List.length_map _
  refine call_dict_pairsH (knd := tupleKind (mixKind X.prog X.w)) (ps := ms) (PairArg.list a (ps.map Value.ref).toArray (fun j => ps.getD j 0) (ms.map fun m => ((Value.ref m.2.1, m.2.2) : Value × Value))) (I.ok.hd hcalm)
    (show X.A.units + 1 + 1 < cLine by omega) ⟨⟨o, n, ho, hc, hd, hdat⟩, by simp [hl], fun j k v e => ?_⟩ ⟨by rw [hprs], fun i key v e => ?_⟩ (fun h' hk x hx => ?_) (by rw [hprs, hl]; exact hz) fun h' tk dd' k => ?_
  · rw [List.getElem?_map] at e
    cases em : ms[j]? with
    | none => rw [em] at e; cases e
    | some m =>
      rw [em] at e
      cases e
      obtain ⟨p, e1, e2⟩ := hpr j m em
      have eg : ps.getD j 0 = p := by rw [List.getD_eq_getElem?_getD, e1]; rfl
      refine ⟨by simp [e1], ?_⟩
      show PairAt s.heap (ps.getD j 0) _ _
      rw [eg]
      exact .inl e2
  · have e : (ms.map fun m => ((Value.ref m.2.1, m.2.2) : Value × Value))[i]? = some (key, v) := e
    rw [List.getElem?_map] at e
    cases em : ms[i]? with
    | none => rw [em] at e; cases e
    | some m =>
      rw [em] at e
      cases e
      exact ⟨m.1, m.2.1, rfl, rfl⟩
  · exact key_stays (hall x hx) fun o e => hk _ o (Nat.ne_of_lt (key_there (hall x hx))) (by simp) e
  · have hm : (s.heap.objs.size == sysModules) = false := beq_eq_false_iff_ne.mpr (Nat.ne_of_gt I.big)
    have hlen : (mergeT [] kvs).length ≤ sizeLine := by
      refine Nat.le_trans (length_mergeT kvs []) ?_
      rw [List.length_nil, Nat.zero_add, Paired.length rel, hl]
      exact hz
    have hf : H s.heap.objs.size = none := I.hok.fresh (Nat.le_refl _)
    obtain ⟨ob, es, ep, hq2, h2, h3, h4, _, h5⟩ := dd'
    have rel2 : KT (upd H s.heap.objs.size (.dT (mergeT [] kvs))) (mergeT [] kvs) (storedAllH [] ms) := (KT.merge rel .nil).keeps fun b ys e => by
      rw [upd_ne (ne_of_none e hf)]
      exact e
    exact ⟨.ref s.heap.objs.size, upd H s.heap.objs.size (.dT (mergeT [] kvs)), I.laid (t' := tk) (fun b o e => k b o (by simp) e) (Nat.le_refl _) ⟨hlen, hm, _, rel2, ob, es, ep, hq2, h2, h3, h4, h5⟩, rfl, q _ hf⟩
/-- d.update(d2), both with tuple keys -/
def rUpdT (P : Program) (w : World) : V → List V → Hp → VK → Prop := fun x xs H Q => ∃ (a o : Addr) (kvs more : List (List Key × V)), x = .ref a ∧ xs = [.ref o] ∧ H a = some (.dT kvs) ∧ H o = some (.dT more) ∧ a ≠ o ∧ kvs.length + more.length ≤ sizeLine ∧
  (kvs ≠ [] ∨ (more.map fun kv => tupleKeyHash (mixKind P w) kv.1).Nodup) ∧ Q .non (upd H a (.dT (mergeT kvs more)))
theorem mt_updT (hu : X.A.units + 64 < cLine) : MtR X "dict.update" (rUpdT X.prog X.w) := by
  intro pins s σ H x xs v us Q I rx rxs h
  obtain ⟨a, o, kvs, more, rfl, rfl, ha, ho, hao, hsz, hap, q⟩ := h
  cases rx
  rw [Vals.ref1 rxs]
  obtain ⟨z1, hd1, xs1, rel1, dd1⟩ := dt_of I.hok ha
  obtain ⟨z2, hd2, xs2, rel2, dd2⟩ := dt_of I.hok ho
  have l1 := Paired.length rel1
  have l2 := Paired.length rel2
  have hall := KT.is_all I rel2
  refine call_update_dictH (knd := tupleKind (mixKind X.prog X.w)) (show X.A.units + 1 < cLine by omega) hao hd2 dd1 dd2 ?_ (by rw [← l1, ← l2]; exact hsz) fun h' dd' _ hs => ?_
  · rcases hap with h | h
    · refine .inl fun e => h ?_
      rw [e] at l1
      exact List.length_eq_zero_iff.mp l1
    · refine .inr ⟨fun x hx => IsTupleKey.typeIs (hall x hx), ?_⟩
      have e : xs2.map (fun x => (tupleKind (mixKind X.prog X.w)).hash x.1) = more.map fun kv => tupleKeyHash (mixKind X.prog X.w) kv.1 := by
        clear h hsz l1 l2 hall dd2 ho q z2
        unfold KT at rel2
        induction rel2 with
        | nil => rfl
        | cons h t ih =>
          rw [List.map_cons, List.map_cons, ih, h.1]
          rfl
      rw [e]
      exact h
  · have hlen : (mergeT kvs more).length ≤ sizeLine := Nat.le_trans (length_mergeT more kvs) hsz
    obtain ⟨ob, es, ep, hq2, h2, h3, h4, _, h5⟩ := dd'
    have rel3 : KT (upd H a (.dT (mergeT kvs more))) (mergeT kvs more) (storedAllH xs1 xs2) := (KT.merge rel2 rel1).keeps fun c ys ec => by
      rw [upd_ne (ne_of ec ha (fun z => nomatch z))]
      exact ec
    exact ⟨.non, upd H a (.dT (mergeT kvs more)), d_write (ob := .dT (mergeT kvs more)) (t' := s.toks) I (by rw [ha]; exact True.intro) hs ⟨ob, hq2⟩ ⟨hlen, hd1, _, rel3, ob, es, ep, hq2, h2, h3, h4, h5⟩, rfl, q⟩
end
end L2
namespace Wk
open PySem PySem.Spec L2 Evl
abbrev C2 := Int × Int × Unit
def hash2 (x : C2) : Int := reduceHash (Builtin.Tuple.tupleHashOf [hashInt x.1, hashInt x.2.1])
def prs {β : Type} (more : List (C2 × β × Unit)) : List (C2 × β) := more.map fun t => (t.1, t.2.1)
open Classical in
noncomputable def updO {β : Type} (d : Dc C2 β) (more : List (C2 × β × Unit)) : Option (Dc C2 β) :=
  if d.l.length + more.length ≤ 900000 ∧ (d.l ≠ [] ∨ ((mergeD [] (prs more)).map fun t => hash2 t.1).Nodup) then some ⟨mergeD d.l (mergeD [] (prs more))⟩ else none
section
variable {K : Fg} {F Kn0 : Hp} {sl : List Sl} {ow ow1 : List Ow} {β : Type} [Rp β] {te : TE} {D : Ends} {i j : Nat} {p : Addr} {P : Program} {w : World}
theorem prs_of {Kn H : Hp} (e : Ex Kn H) : ∀ {vs : List V} {more : List (C2 × β × Unit)}, Paired (rep K Kn) vs more → ∃ (ps : List Addr) (kvs : List (List Key × V)), vs = ps.map V.ref ∧
    Paired (fun p kv => ∃ b, SqT K H p [.ref b, kv.2] ∧ H b = some (.tup (kv.1.map kV))) ps kvs ∧ DK (κ := C2) K Kn kvs (prs more)
  | _, _, .nil => ⟨[], [], rfl, .nil, .nil⟩
  | _, _, .cons (a := v) (b := t) h r => by
    obtain ⟨ps, kvs, e1, e2, e3⟩ := prs_of e r
    obtain ⟨q, ws, rfl, hq, kv, rest, rfl, hk, yv, rest2, rfl, hy, hu⟩ := h
    cases hu
    obtain ⟨b, us, rfl, hb, h3⟩ := hk
    have hus : us = (KT1.keys t.1).map kV := KT1.iff (τ := C2) h3
    subst hus
    refine ⟨q :: ps, (KT1.keys t.1, yv) :: kvs, by rw [e1]; rfl, .cons ⟨b, st_of (e _ _ hq), e _ _ hb⟩ e2, .cons ⟨rfl, hy⟩ e3⟩
theorem DK.mergeT {Kn : Hp} : ∀ {ms : List (List Key × V)} {more : List (C2 × β)} {ws : List (List Key × V)} {kvs : List (C2 × β)}, DK (κ := C2) K Kn ms more → DK (κ := C2) K Kn ws kvs → DK (κ := C2) K Kn (L2.mergeT ws ms) (mergeD kvs more) := by
  intro ms more ws kvs h
  unfold DK at h
  induction h generalizing ws kvs with
  | nil => exact fun h => h
  | @cons w kv ms more h t ih =>
    intro q
    refine ih ?_
    show DK (κ := C2) K Kn (putK ws w.1 w.2) (putD kvs kv.1 kv.2)
    rw [h.1]
    exact DK.put kv.1 h.2 q
theorem DK.hash {Kn : Hp} : ∀ {ms : List (List Key × V)} {more : List (C2 × β)}, DK (κ := C2) K Kn ms more → (ms.map fun kv => tupleKeyHash (mixKind P w) kv.1) = more.map fun t => hash2 t.1 := by
  intro ms more h
  unfold DK at h
  induction h with
  | nil => rfl
  | cons h t ih =>
    rw [List.map_cons, List.map_cons, ih, h.1]
    rfl
theorem sb_upd {d d' : Dc C2 β} {more : List (C2 × β × Unit)} (hi : sl[i]? = some (.at p)) (hj : ow[j]? = some (oo p d)) (h : EV K F Kn0 sl ow te more) (hx : updO d more = some d') (ho : ow.set j (oo p d') = ow1) (n : SN K F Kn0 sl ow1 D) :
    SB K F Kn0 sl ow D (tDrop (tBM K "dict" (rUpdT P w) (tVar i) (tCons (tCB (rDictT K) (tCons te tNil)) tNil))) := fun σ Kn H s => by
  obtain ⟨o, h1, h2⟩ := s.sl.get hi
  obtain ⟨f1, f2, o1, f3, ws, f4, f5⟩ := s.ow.each _ (List.mem_of_getElem? hj)
  subst f4
  have f3 : H p = some (.dT ws) := f3
  unfold updO at hx
  split at hx
  · case isTrue hc =>
    cases hx
    subst ho
    refine ⟨.ref p, by rw [h1]; exact congrArg some h2, .inr (.inr (.inl ⟨rfl, .inr ⟨ws, f3⟩⟩)), h σ Kn H s _ fun v Kn1 H1 g1 r1 => ?_⟩
    obtain ⟨a, vs, rfl, ha, hv⟩ := r1
    obtain ⟨ps, kvs, rfl, e2, e3⟩ := prs_of g1.kh hv
    refine ⟨a, ps, kvs, rfl, sq_of (g1.kh _ _ ha), e2, fun p2 hp2 => ?_⟩
    have s1 := s.grow g1
    have g2 : Gr Kn1 H1 Kn1 (upd H1 p2 (.dT (L2.mergeT [] kvs))) := Gr.newU g1.kh hp2
    have s2 := s1.grow g2
    have hp1 : H1 p = some (.dT ws) := g1.hh _ _ f3
    have hne : p ≠ p2 := fun z => by
      rw [z, hp2] at hp1
      cases hp1
    have hH2 : (upd H1 p2 (.dT (L2.mergeT [] kvs))) p = some (.dT ws) := by
      rw [upd_ne hne]
      exact hp1
    have f6 : DK (κ := C2) K Kn1 ws d.l := DK.mono g1.kk f5
    have e4 : DK (κ := C2) K Kn1 (L2.mergeT [] kvs) (mergeD [] (prs more)) := DK.mergeT e3 .nil
    have l1 : ws.length = d.l.length := f6.length
    have l2 : kvs.length = more.length := by
      rw [e3.length]
      exact List.length_map _
    have l3 := length_mergeT kvs []
    rw [List.length_nil] at l3
    have kp : Kn1 p = none := g1.sp p (ne_none_of f3) f2
    refine ⟨p, p2, ws, L2.mergeT [] kvs, rfl, rfl, hH2, upd_same, hne, ?_, ?_, n _ Kn1 _ ?_⟩
    · have hs : sizeLine ≥ 1000000 := by rw [sizeLine_eq]; decide
      omega
    · rcases hc.2 with hc | hc
      · refine .inl fun z => hc ?_
        rw [z] at l1
        exact List.length_eq_zero_iff.mp l1.symm
      · refine .inr ?_
        rw [DK.hash e4]
        exact hc
    · exact s2.writeG hj rfl rfl (Ex.refl _) (upd_in s2.ek kp) (fun q hq _ => upd_ne hq) (fun _ _ h => h) ⟨_, upd_same, _, rfl, DK.mergeT e4 f6⟩
  · cases hx
end
section
variable {X : Cx} {K : Fg} {P : Program} {w : World}
theorem k_dictT (hu : X.A.units + 64 < cLine) (hc : X.calm = true := by rfl) (h : X.K = K := by rfl) : CallR X (.type "dict") (rDictT K) := by
  subst h
  exact cr_dictT hc hu
theorem k_updT (hu : X.A.units + 64 < cLine) (h : X.prog = P := by rfl) (hw : X.w = w := by rfl) : MtR X "dict.update" (rUpdT P w) := by
  subst h
  subst hw
  exact mt_updT hu
end
end Wk
namespace Wk
open PySem PySem.Spec L2 Evl
/-- a list with a None put behind -/
structure Nx (α : Type) where
  l : List α
section
variable {K : Fg} {F Kn0 : Hp} {sl : List Sl} {ow ow1 : List Ow} {α γ : Type} [Rp α] [Rp γ] {te : TE} {D : Ends} {i j : Nat} {p : Addr}
instance obNx : Ob (Nx α) where
  ob K H o x := ∃ ws, o = .lst (ws ++ [.non]) ∧ Paired (rep K H) ws x.l
  swap e h := by
    obtain ⟨ws, h1, h2⟩ := h
    exact ⟨ws, h1, paired_swap e h2⟩
theorem sb_appN {xs : List α} (hi : sl[i]? = some (.at p)) (hj : ow[j]? = some (ol p xs)) (h : EV K F Kn0 sl ow te Nn.nn) (hz : (if xs.length < 1000000 then some () else none) = some ()) (ho : ow.set j (oo p (Nx.mk xs)) = ow1) (k : SN K F Kn0 sl ow1 D) :
    SB K F Kn0 sl ow D (tDrop (tBM K "list" rAppend (tVar i) (tCons te tNil))) := fun σ Kn H s => by
  obtain ⟨o, h1, h2⟩ := s.sl.get hi
  obtain ⟨f1, f2, ws, f3, f4⟩ := s.ow.each _ (List.mem_of_getElem? hj)
  have hz : xs.length < 1000000 := by
    by_cases e : xs.length < 1000000
    · exact e
    · rw [if_neg e] at hz
      cases hz
  refine ⟨.ref p, by rw [h1]; exact congrArg some h2, Or.inl ⟨rfl, ws, sq_of f3⟩, h σ Kn H s _ fun v Kn1 H1 g1 r1 => ?_⟩
  cases r1
  refine ⟨p, ws, .non, rfl, rfl, g1.hh _ _ f3, by rw [paired_len f4]; exact lt_line hz, k _ Kn1 _ ?_⟩
  have kp1 : Kn1 p = none := g1.sp p (ne_none_of f3) f2
  subst ho
  exact (s.grow g1).writeG hj rfl rfl (Ex.refl _) (upd_in g1.kh kp1) (fun q hq _ => upd_ne hq) (fun _ _ h => h) ⟨_, upd_same, ws, rfl, paired_mono g1.kk f4⟩
theorem cut_snoc (ws : List V) (v : V) : cut (ws ++ [v]) none (some (-(1 : Int))) = ws := by
  unfold cut
  rw [HT.sIx_none, List.drop_zero, Nat.sub_zero]
  have e : HT.sIx (ws ++ [v]).length (ws ++ [v]).length (some (-(1 : Int))) = (-(1 : Int) + ((ws ++ [v]).length : Int)).toNat := rfl
  rw [e, List.length_append, List.length_singleton, show (-(1 : Int) + ((ws.length + 1 : Nat) : Int)).toNat = ws.length by omega]
  exact List.take_left
theorem en_slN {xs : List α} {tl th : TO} (hx : sl[i]? = some (.at p)) (hj : ow[j]? = some (oo p (Nx.mk xs))) (hl : EO K F Kn0 sl ow tl none) (hh : EO K F Kn0 sl ow th (some (-(1 : Int)))) : EN K F Kn0 sl ow (tSl (rSlL K) (tVar i) tl th) xs := fun σ Kn H s Q q => by
  obtain ⟨o, h1, h2⟩ := s.sl.get hx
  obtain ⟨f1, f2, o1, f3, ws, f4, f5⟩ := s.ow.each _ (List.mem_of_getElem? hj)
  subst f4
  have f3 : H p = some (.lst (ws ++ [.non])) := f3
  refine ⟨.ref p, by rw [h1]; exact congrArg some h2, hl σ Kn H s _ fun Kn2 H2 g2 => hh σ Kn2 H2 (s.grow g2) _ fun Kn3 H3 g3 => ?_⟩
  have g := g2.trans g3
  refine ⟨p, ws ++ [.non], rfl, sq_of (g.hh _ _ f3), fun l hl => ?_⟩
  have e : cutV (ws ++ [V.non]) none (some (-(1 : Int))) = ws := cut_snoc ws .non
  exact q l _ Kn3 _ (g.trans (Gr.newU g3.kh hl)) (fresh_back g.hh hl) (fresh_back g3.kh hl) upd_same (by rw [e]; exact paired_mono g.kk f5)
end
end Wk
namespace Wk
open PySem PySem.Spec L2 Evl
/-- more is untouched -/
def Fle (F F' : Hp) : Prop := Ex F F'
section
variable {K : Fg} {F F' Kn0 : Hp} {sl sl' : List Sl} {ow ow0 ow1 : List Ow} {α γ : Type} [Rp α] [Rp γ] {D : Ends} {i j : Nat} {p : Addr}
theorem S.back {σ : L2.St} {Kn H : Hp} (f : Fle F F') (s : S K F' Kn0 sl ow σ Kn H) : S K F Kn0 sl ow σ Kn H :=
  ⟨s.e0, s.ek, Ex.trans f s.ef, fun q h1 h2 => s.sep q (Ex.nn f h1) h2, s.sl, ⟨fun o ho => by
    obtain ⟨h1, h2, h3⟩ := s.ow.each o ho
    exact ⟨fresh_back f h1, h2, h3⟩, s.ow.nd⟩⟩
theorem RT.fr {R : VK} {x : γ} (f : Fle F F') (q : RT K F Kn0 ow0 R x) : RT K F' Kn0 ow0 R x := fun v Kn H s r => q v Kn H (s.back f) r
theorem RN.fr {R : VK} {xs : List γ} (f : Fle F F') (q : RN K F Kn0 ow0 R xs) : RN K F' Kn0 ow0 R xs := fun p ws Kn H s fp kp hp r => q p ws Kn H (s.back f) (fresh_back f fp) kp hp r
/-- for x in xs, xs one's own, not touched on the way and one's own behind it -/
theorem sb_forO {g : TG} {tb : TS} {Sx : Type} {xs : List α} (hi : sl[i]? = some (.at p)) (hj : ow[j]? = some (ol p xs)) (ho : ow.eraseIdx j = ow1)
    (slx : Sx → List Sl) (owx : Sx → List Ow) (gx : α → Sx → List Sl) (js : List Nat) (P : List α → Sx → Prop) (s0 : Sx) (h0 : P xs s0) (le : SlLe sl (slx s0)) (eo : (owx s0).Sublist ow1)
    (hg : ∀ x s, GT K g (slx s) (gx x s) js x)
    (step : ∀ F', Fle F F' → ∀ Kn1, Bs F' Kn0 Kn1 → ∀ x rest s, P (x :: rest) s → ∀ N : L2.St → Hp → Prop, (∀ s', P rest s' → ∀ σ Kn H, S K F' Kn1 (slx s') (owx s') σ Kn H → N σ H) → SB K F' Kn1 (gx x s) (owx s) { D with nx := N, ct := N, bk := D.nx } tb)
    (done : ∀ s, P [] s → SN K F Kn0 (slx s) (ol p xs :: owx s) D) : SB K F Kn0 sl ow D (tFor (iList K (tVar i)) g tb) := fun σ Kn H s => by
  obtain ⟨o, h1, h2⟩ := s.sl.get hi
  obtain ⟨f1, f2, ws, f3, f4⟩ := s.ow.each _ (List.mem_of_getElem? hj)
  have f1 : F p = none := f1
  have f2 : Kn p = none := f2
  have fl : Fle F (upd F p (.lst ws)) := Ex.new f1
  have s1 := s.sub (List.eraseIdx_sublist ow j)
  have no : ∀ o ∈ ow.eraseIdx j, o.ad ≠ p := fun o hm z => by
    obtain ⟨m, hm'⟩ := List.getElem?_of_mem hm
    rw [List.getElem?_eraseIdx] at hm'
    split at hm'
    · have := ow_at s.ow.nd hm' hj z
      omega
    · have := ow_at s.ow.nd hm' hj z
      omega
  have s2 : S K (upd F p (.lst ws)) Kn0 sl (ow.eraseIdx j) σ Kn H := ⟨s1.e0, s1.ek, fun a u h => by
    by_cases hq : a = p
    · subst hq
      rw [upd_same] at h
      rw [← h]
      exact f3
    · rw [upd_ne hq] at h
      exact s1.ef _ _ h, fun q h1 h2 => by
    by_cases hq : q = p
    · rw [hq]
      exact f2
    · rw [upd_ne hq] at h1
      exact s1.sep q h1 h2, s1.sl, ⟨fun o ho => by
        obtain ⟨a1, a2, a3⟩ := s1.ow.each o ho
        refine ⟨?_, a2, a3⟩
        rw [upd_ne (no o ho)]
        exact a1, s1.ow.nd⟩⟩
  have b : Bs (upd F p (.lst ws)) Kn0 Kn := s2.bs
  refine ⟨.ref p, by rw [h1]; exact congrArg some h2, p, rfl, ⟨ws, sq_of f3⟩, ?_⟩
  refine ⟨fun i m σ H => i + m = xs.length ∧ ∃ Kn2 s, P (xs.drop i) s ∧ S K (upd F p (.lst ws)) Kn (slx s) (owx s) σ Kn2 H, ⟨xs.length, by omega, Kn, s0, h0, (s2.rebase.le le).sub (ho ▸ eo)⟩, fun i m σ H hW => ?_⟩
  obtain ⟨em, Kn2, st, hP, hS⟩ := hW
  have hp2 : H p = some (.lst ws) := hS.ef _ _ upd_same
  have f5 : Paired (rep K Kn2) ws xs := paired_mono hS.e0 f4
  by_cases hlt : i < xs.length
  · have hx : xs[i]? = some xs[i] := List.getElem?_eq_getElem hlt
    have hd : xs.drop i = xs[i] :: xs.drop (i + 1) := List.drop_eq_getElem_cons hlt
    rw [hd] at hP
    obtain ⟨v, hv, rv⟩ := paired_at f5 hx
    refine .inr ⟨⟨ws, v, sq_of hp2, hv⟩, fun σ' H' => ∃ Kn2 s, P (xs.drop (i + 1)) s ∧ S K (upd F p (.lst ws)) Kn (slx s) (owx s) σ' Kn2 H', fun σ' H' ⟨Kn', s', h1, h2⟩ => ⟨m - 1, by omega, by omega, Kn', s', h1, h2⟩, fun u H' hy => ?_⟩
    obtain ⟨rfl, f⟩ := hy
    have : v = u := Option.some.inj (hv.symm.trans (f ws (sq_of hp2)))
    subst this
    refine hg _ st σ Kn2 H' v hS.sl hS.ek rv _ fun σ2 h2 _ => ?_
    exact step _ fl Kn b _ _ st hP _ (fun s' hs' σ Kn2 H hS' => ⟨Kn2, s', hs', hS'⟩) σ2 Kn2 H' ⟨hS.e0, hS.ek, hS.ef, hS.sep, h2, hS.ow⟩
  · have hd : xs.drop i = [] := List.drop_eq_nil_of_le (by omega)
    rw [hd] at hP
    refine .inl ⟨⟨ws, sq_of hp2, by rw [paired_len f5]; omega⟩, done st hP σ Kn2 H ?_⟩
    have s3 := (hS.unbase b).back fl
    refine s3.own f1 (hS.sep p (by rw [upd_same]; exact fun z => nomatch z) f2) (fun o ho z => ?_) hp2 f5
    have := (hS.ow.each o ho).1
    rw [z, upd_same] at this
    cases this
end
end Wk
set_option maxHeartbeats 4000000
/-! Wexc: a def that may raise; raise C(e, ..); try: .. except C as e: ..; e.f, isinstance(e, T) in the suite -/
namespace L2
open PySem PySem.Spec PyProof.Rows
section
variable {X : Cx} {e : Expr} {es : List Expr} {ta : TA} {p1 p2 pos : Pos}
/-- B.__init__(self, ..), B a class of the program over ValueError without an __init__ of its own -/
theorem pe_cinit {x : Str} {C0 : Addr} {pl : Sem Bool} (hg : Gl X x) (hm : X.mg x = some (.ref C0)) (sg : PySem.W.specialIn X.K (.ref C0) "__getattribute__" = some (some (.builtin "type.__getattribute__"))) (rd : PySem.W.readsIn X.K C0 (.type "type") = true)
    (fc : PySem.W.findCls X.K (.ref C0) (.type "type") "__init__" = some (.val (.builtin "ValueError.__init__"))) (ha : PA X (e :: es) ta) (hdb : (x == ("__debug__" : Str)) = false := by decide)
    (hc : eval (.Call (.Attribute (.Name x p1) "__init__" p2) (e :: es) [] pos) X.env = (do
      let ov ← eval (.Name x p1) X.env
      standAt p2.atName
      let (f, first) ← holding [ov] (getMethod ov "__init__" pl)
      callWith pos f first (backTo pos (starEach (e :: es) X.env)) (backToKw pos (keywordEach [] X.env))) := by rfl)
    (he : starEach (e :: es) X.env = (false, eval e X.env) :: starEach es X.env := by rfl) (hpl : (backTo pos (starEach es X.env)).any (·.1) = false := by rfl) :
    PE X (.Call (.Attribute (.Name x p1) "__init__" p2) (e :: es) [] pos) (tVeI X.K ta) := by
  refine ⟨fun pins s σ H Q I h => ?_⟩
  refine PySem.W.methodCall_KW (ld_glob I hg hm ?_ hdb) hc
  refine PySem.W.method_cls I.kIn sg (PySem.W.cls_value I.kIn rd fc (by decide +kernel) ?_)
  show wpAny _ _ (callWith pos (Value.builtin "ValueError.__init__") [] (backTo pos (starEach (e :: es) X.env)) []) _ _ _
  refine PyProof.Rows.callWith_method1 (thn (ha.run pos pins _ σ H _ (I.tok _) h) fun us s1 ⟨vs, H1, I1, r1, a, C, ws, ev, hl, T, ea, q⟩ => ?_) he hpl
  subst ev
  cases r1 with
  | @cons _ u0 _ ur ra rw' =>
    obtain rfl : u0 = Value.ref a := ra
    have hlen : ur.length ≤ sizeLine := by
      rw [← Paired.length rw', sizeLine_eq]
      omega
    exact oinit_ok T I1 ea hlen fun s' J => ⟨.non, H1, J, rfl, q⟩
/-- isinstance(e, c), e the exception that the suite holds -/
def rIsX (K : PySem.W.Frag) (D a : Addr) (cls : Value) (d : Option Addr) : List V → Hp → VK → Prop := fun xs H Q => ∃ (c : V) (cv : Value) (b : Bool), xs = [.ref a, c] ∧ cls = .ref D ∧ (d = none ∨ ∃ dd fs, d = some dd ∧ H dd = some (.xd fs)) ∧ (∀ u, RelV c u → u = cv) ∧ PySem.W.kitOne K (.ref D) cv = some b ∧ Q (.bl b) H
theorem call_isX {a D : Addr} {oe : Obj} {cls : Value} {d : Option Addr} {pn : List (Addr × Obj)} (C : PySem.W.findIn X.K (.ref D) "__getattribute__" = some (some (.builtin "BaseException.__getattribute__")) ∧ PySem.W.findIn X.K (.ref D) "__getattr__" = some none ∧ PySem.W.subIn X.K (.ref D) (.type "BaseException") = some true ∧ PySem.W.isClsIn X.K D = true ∧
      PySem.W.findIn X.K (.ref D) "__class__" = some (some (.builtin "object.__class__")) ∧ PySem.W.specialIn X.K (.builtin "object.__class__") "__get__" = some (some (.builtin "getset_descriptor.__get__")) ∧ PySem.W.takesIn X.K (.builtin "object.__class__") = some true ∧ PySem.W.mroIn X.K D (.type "object") = some true)
    (hz : Zc cls d oe) (hf : ∃ vs, oe.data = .fields vs) : CallR (X.suite a ((a, oe) :: pn)) (.builtin "isinstance") (rIsX X.K D a cls d) := by
  intro pins s σ H xs us Q I r h
  obtain ⟨c, cv, b, rfl, rfl, hd, hcv, e, q⟩ := h
  obtain ⟨c1, c2, c3, c4, c5, c6, c7, c8⟩ := C
  cases r with
  | cons rx rr =>
    cases rr with
    | cons rt rr =>
      cases rr
      cases rx
      have ec := hcv _ rt
      subst ec
      obtain ⟨hget, _⟩ := I.pin (a, oe) (List.mem_append.mpr (.inl List.mem_cons_self))
      obtain ⟨vs, hv⟩ := hf
      have J : ∃ od, PySem.W.InstAt s.heap a oe D od := by
        rcases hd with rfl | ⟨dd, fs, rfl, hdd⟩
        · refine ⟨none, hget, hz.1, by unfold PySem.W.notCls; rw [hv] <;> rfl, ?_⟩
          rw [hz.2]
          trivial
        · have hx : ObjOk X.prog X.w H s.heap dd (.xd fs) := I.hok dd _ hdd
          obtain ⟨mA, hns, _⟩ := hx
          obtain ⟨od, ho, _⟩ := lookIn_ns hns
          refine ⟨some od, hget, hz.1, by unfold PySem.W.notCls; rw [hv] <;> rfl, ?_⟩
          rw [hz.2]
          exact ho
      obtain ⟨od, J⟩ := J
      exact PySem.W.kia_one (PySem.W.kitx_exc c4 c1 c2 c3 c5 c6 c7 c8) I.kIn J e (fun z => nomatch z) fun tk => ⟨.bl b, H, I.kept (t' := tk) fun _ _ z => z, rfl, q⟩
end
end L2
namespace Wk
open PySem PySem.Spec L2 Evl
structure Xc where
  cls : Str
  fl : List (Str × PyData)
/-- what a def that may raise tells -/
inductive Er (α : Type) where
  | ok (x : α)
  | ex (e : Xc)
abbrev FP (Kn : Hp) (fs : List (Str × V)) (fl : List (Str × PyData)) : Prop := Paired (fun p q => p.1 = q.1 ∧ Dq Kn p.2 q.2) fs fl
/-- an exception of the class cls with the dict d stands for e -/
def XR (cm : Str → Option Addr) (Kn : Hp) (e : Xc) (cls : Value) (d : Option Addr) : Prop :=
  ∃ C, cm e.cls = some C ∧ cls = .ref C ∧ ((e.fl = [] ∧ d = none) ∨ ∃ dd fs, d = some dd ∧ Kn dd = some (.xd fs) ∧ FP Kn fs e.fl)
theorem XR.swap {cm : Str → Option Addr} {H H' : Hp} {e : Xc} {cls : Value} {d : Option Addr} (w : Sw H H') (h : XR cm H e cls d) : XR cm H' e cls d := by
  obtain ⟨C, h1, h2, h3⟩ := h
  refine ⟨C, h1, h2, h3.imp id fun ⟨dd, fs, e1, e2, e3⟩ => ⟨dd, fs, e1, w.keep e2 (fun z => z) (fun _ _ z => nomatch z), Paired.mapP e3 fun _ _ q => ⟨q.1, q.2.swap w⟩⟩⟩
/-- the exception that a suite holds -/
structure Xv (cm : Str → Option Addr) (a : Addr) (cls : Value) (d : Option Addr) where
  e : Xc
instance {cm : Str → Option Addr} {a : Addr} {cls : Value} {d : Option Addr} : Rp (Xv cm a cls d) where
  rep _ H v x := v = .ref a ∧ XR cm H x.e cls d
  swap w h := ⟨h.1, h.2.swap w⟩
def xcls (e : Xc) (n : Str) : Option Unit := if e.cls = n then some () else none
def xfl (e : Xc) (n f : Str) : Option Dy := if e.cls = n then (e.fl.lookup f).map Dy.mk else none
theorem xcls_eq {e : Xc} {n : Str} {u : Unit} (h : xcls e n = some u) : e.cls = n := by
  unfold xcls at h
  split at h
  · assumption
  · cases h
theorem fp_lookup {Kn : Hp} : ∀ {fs : List (Str × V)} {fl : List (Str × PyData)} {f : Str} {y : PyData}, FP Kn fs fl → fl.lookup f = some y → ∃ v, fs.lookup f = some v ∧ Dq Kn v y
  | _, _, f, y, .nil, h => by cases h
  | (g, v) :: fs, (g2, z) :: fl, f, y, .cons h t, e => by
    obtain ⟨h1, h2⟩ := h
    have h1 : g = g2 := h1
    subst h1
    rw [lookup_put]
    by_cases hf : f = g
    · subst hf
      have : z = y := by
        simp [List.lookup] at e
        exact e
      subst this
      exact ⟨v, if_pos rfl, h2⟩
    · rw [if_neg hf]
      refine fp_lookup t ?_
      have e2 : (f == g) = false := by simpa using hf
      simpa [List.lookup, e2] using e
section
variable (K : Fg) (F Kn0 : Hp) (sl : List Sl) (ow : List Ow) (cm : Str → Option Addr)
def RX (E : XK) (e : Xc) : Prop := ∀ cls d Kn H, S K F Kn0 [] ow [] Kn H → XR cm Kn e cls d → E cls d H
def RE {α : Type} [Rp α] (R : VK) (E : XK) : Er α → Prop
  | .ok x => RT K F Kn0 ow R x
  | .ex e => RX K F Kn0 ow cm E e
/-- the expression raises e -/
def ER (W : WX) (te : TE) (e : Xc) : Prop := ∀ σ Kn H, S K F Kn0 sl ow σ Kn H → (∀ cls d Kn' H', S K F Kn0 sl ow σ Kn' H' → XR cm Kn' e cls d → W cls d σ H') → ∀ Q, te σ H Q
/-- what is wished of it -/
def RW (W : WX) (e : Xc) : Prop := ∀ σ Kn H cls d, S K F Kn0 sl ow σ Kn H → XR cm Kn e cls d → W cls d σ H
end
def PX {τ α : Type} [Tp τ] [Rp α] (K : Fg) (cm : Str → Option Addr) (f : τ → Option (Er α)) : Sp := fun vs H Q E => ∃ Kn t r, Ex Kn H ∧ rept K Kn vs t ∧ f t = some r ∧
  match r with
  | .ok x => RS K Kn H Q x
  | .ex e => ∀ cls d Kn' H', Gr Kn H Kn' H' → XR cm Kn' e cls d → E cls d H'
section
variable {K : Fg} {F F' Kn0 Kn1 : Hp} {sl sl' : List Sl} {ow ow0 ow1 : List Ow} {cm : Str → Option Addr} {α β τ : Type} [Rp α] [Rp β] [Tp τ] {D : Ends} {E : XK} {R : VK} {W : WX} {te tb : TE} {ta tr : TA} {e : Xc} {i : Nat}
theorem RX.base (q : RX K F Kn0 ow cm E e) (b : Bs F Kn0 Kn1) : RX K F Kn1 ow cm E e := fun cls d Kn H s x => q cls d Kn H (s.unbase b) x
theorem RX.fr (f : Fle F F') (q : RX K F Kn0 ow cm E e) : RX K F' Kn0 ow cm E e := fun cls d Kn H s x => q cls d Kn H (s.back f) x
theorem RE.base {r : Er α} (q : RE K F Kn0 ow cm R E r) (b : Bs F Kn0 Kn1) : RE K F Kn1 ow cm R E r := by
  cases r with
  | ok x => exact RT.base (R := R) q b
  | ex e => exact RX.base q b
theorem RE.fr {r : Er α} (q : RE K F Kn0 ow cm R E r) (f : Fle F F') : RE K F' Kn0 ow cm R E r := by
  cases r with
  | ok x => exact RT.fr (R := R) f q
  | ex e => exact RX.fr f q
theorem re_of {H Kn : Hp} {r : Er α} {Q : VK} (q : match r with | .ok x => RS K Kn H Q x | .ex e => ∀ cls d Kn' H', Gr Kn H Kn' H' → XR cm Kn' e cls d → E cls d H') : RE K H Kn [] cm Q E r := by
  cases r with
  | ok x => exact rt_of q
  | ex e => exact fun cls d Kn' H' s x => q cls d Kn' H' ⟨s.e0, s.ef, s.ek, s.sep⟩ x
/-- the dict of a new exception -/
theorem XR.mk {Kn : Hp} {C dd : Addr} {fs : List (Str × V)} (hc : cm e.cls = some C) (h : FP Kn fs e.fl) (kd : Kn dd = none) : XR cm (upd Kn dd (.xd fs)) e (.ref C) (some dd) :=
  ⟨C, hc, rfl, .inr ⟨dd, fs, rfl, upd_same, Paired.mapP h fun _ _ q => ⟨q.1, q.2.swap (.of (Ex.new kd))⟩⟩⟩
/-- __init__(self, ..) of a class with fields: each is stored -/
def spI (K : Fg) (C : Addr) (fs : List Str) : Sp := fun vs H Q _ => ∃ a ws, vs = .ref a :: ws ∧ ws.length = fs.length ∧ OexC K C ∧ (∀ f ∈ fs, PySem.W.findIn K (.ref C) f = some none) ∧ H a = some (exo a C none) ∧
  ∀ H' dx, H dx = none → dx ≠ a → H' a = some (exo a C (some dx)) → H' dx = some (exd dx (fs.zip ws).reverse) → (∀ q, q ≠ a → q ≠ dx → H' q = H q) → Q .non H'
theorem spI_len {C : Addr} {fs : List Str} {vs : List V} {H : Hp} {Q : VK} {E : XK} (h : spI K C fs vs H Q E) : vs.length = fs.length + 1 := by
  obtain ⟨a, ws, rfl, hl, _⟩ := h
  rw [List.length_cons, hl]
theorem fp_zip {Kn : Hp} : ∀ {fs : List Str} {ws : List V} {ds : List PyData}, DqAll Kn ws ds → Paired (fun (p : Str × V) (q : Str × PyData) => p.1 = q.1 ∧ Dq Kn p.2 q.2) (fs.zip ws) (fs.zip ds)
  | [], _, _, _ => by
    rw [List.zip_nil_left, List.zip_nil_left]
    exact .nil
  | f :: fs, _, _, .nil => .nil
  | f :: fs, _, _, .cons h t => .cons ⟨rfl, h⟩ (fp_zip t)
theorem paired_rev {α β : Type} {G : α → β → Prop} : ∀ {xs : List α} {ys : List β}, Paired G xs ys → Paired G xs.reverse ys.reverse
  | _, _, .nil => .nil
  | _, _, .cons (a := x) (b := y) h t => by
    rw [List.reverse_cons, List.reverse_cons]
    have app : ∀ {as : List α} {bs : List β} {cs : List α} {ds : List β}, Paired G as bs → Paired G cs ds → Paired G (as ++ cs) (bs ++ ds) := fun {as bs cs ds} h1 h2 => by
      induction h1 with
      | nil => exact h2
      | cons h _ ih => exact .cons h ih
    exact app (paired_rev t) (.cons h .nil)
/-- raise C(e, ..) -/
theorem sb_raise [Us τ] {t : τ} {C : Addr} {n : Str} {fs : List Str} (h : EA K F Kn0 sl ow ta t) (hc : cm n = some C) (T : OexC K C) (no : ∀ f ∈ fs, PySem.W.findIn K (.ref C) f = some none) (hl : Tp.n τ = fs.length) (hl2 : fs.length ≤ 100)
    (q : RX K F Kn0 ow0 cm E ⟨n, (fs.zip (Us.toDs t)).reverse⟩) (l : ow0.Sublist ow) : SB K F Kn0 sl ow D (fun _ σ H => tMkO C (spI K C fs) [] ta σ H fun cls d H' => E cls d H') := fun σ Kn H s =>
  h σ Kn H s _ fun vs Kn1 H1 g1 r1 => by
    have hv : vs.length = fs.length := by rw [Tp.len r1, hl]
    refine ⟨by omega, fun a ha => ?_⟩
    rw [List.append_nil]
    refine ⟨a, vs, rfl, hv, T, no, upd_same, fun H2 dx hdx hne e1 e2 e3 => ⟨rfl, dx, _, e1, e2, ?_, ?_⟩⟩
    · rw [upd_ne hne] at hdx
      exact hdx
    · rw [upd_ne hne] at hdx
      have eH : upd (del H2 a) dx (.xd (fs.zip vs).reverse) = upd H1 dx (.xd (fs.zip vs).reverse) := by
        funext b
        by_cases hb : b = dx
        · rw [hb, upd_same, upd_same]
        · rw [upd_ne hb, upd_ne hb]
          by_cases hba : b = a
          · rw [hba, del_same, ha]
          · rw [del_ne hba, e3 b hba hb, upd_ne hba]
      rw [eH]
      have g2 := Gr.new (o := .xd (fs.zip vs).reverse) g1.kh hdx
      exact q _ _ _ _ (((s.grow g1).grow g2).fin.sub l) (XR.mk (e := ⟨n, _⟩) hc (paired_rev (fp_zip (Us.is r1))) (fresh_back g1.kh hdx))
/-- raise C('..'), C without fields -/
theorem sb_raise0 {C : Addr} {n : Str} (hc : cm n = some C) (q : RX K F Kn0 ow0 cm E ⟨n, []⟩) (l : ow0.Sublist ow) : SB K F Kn0 sl ow D (fun _ σ H => (fun (_ : St) (H : Hp) (Q : XK) => Q (.ref C) none H) σ H fun cls d H' => E cls d H') := fun σ Kn H s =>
  q _ _ Kn H (s.fin.sub l) ⟨C, hc, rfl, .inl ⟨rfl, rfl⟩⟩
/-! ### calls that may raise -/
theorem ev_callX {f : τ → Option (Er α)} {r : α} {E : St → XK} {t : τ} (h : EA K F Kn0 sl ow ta t) (hf : f t = some (.ok r)) : EV K F Kn0 sl ow (tCallS (PX K cm f) E ta) r := fun σ Kn H s Q q =>
  h σ Kn H s _ fun vs Kn1 H1 g1 r1 => ⟨Kn1, t, .ok r, g1.kh, r1, hf, fun u Kn' H' g' r' => q u Kn' H' (g1.trans g') r'⟩
theorem er_call {f : τ → Option (Er α)} {t : τ} (h : EA K F Kn0 sl ow ta t) (hf : f t = some (.ex e)) : ER K F Kn0 sl ow cm W (tCallS (PX K cm f) (WE W) ta) e := fun σ Kn H s w Q =>
  h σ Kn H s _ fun vs Kn1 H1 g1 r1 => ⟨Kn1, t, .ex e, g1.kh, r1, hf, fun cls d Kn' H' g' x => w cls d Kn' H' ((s.grow g1).grow g') x⟩
theorem er_opL {r : R2} (h : ER K F Kn0 sl ow cm W te e) : ER K F Kn0 sl ow cm W (tOp r te tb) e := fun σ Kn H s w _ => h σ Kn H s w _
theorem er_cb {r : List V → Hp → VK → Prop} (h : ER K F Kn0 sl ow cm W te e) : ER K F Kn0 sl ow cm W (tCB r (tCons te tr)) e := fun σ Kn H s w _ => h σ Kn H s w _
theorem er_tup (h : ER K F Kn0 sl ow cm W te e) : ER K F Kn0 sl ow cm W (tTup (tCons te tr)) e := fun σ Kn H s w _ => h σ Kn H s w _
theorem sb_asgR {g : TG} (h : ER K F Kn0 sl ow cm W te e) (w : RW K F Kn0 sl ow cm W e) : SB K F Kn0 sl ow D (tAsg te g) := fun σ Kn H s => h σ Kn H s (fun cls d Kn' H' s' x => w σ Kn' H' cls d s' x) _
theorem sb_dropR (h : ER K F Kn0 sl ow cm W te e) (w : RW K F Kn0 sl ow cm W e) : SB K F Kn0 sl ow D (tDrop te) := fun σ Kn H s => h σ Kn H s (fun cls d Kn' H' s' x => w σ Kn' H' cls d s' x) _
theorem sb_retR (h : ER K F Kn0 sl ow cm W te e) (w : RW K F Kn0 sl ow cm W e) : SB K F Kn0 sl ow D (tRet te) := fun σ Kn H s => h σ Kn H s (fun cls d Kn' H' s' x => w σ Kn' H' cls d s' x) _
/-- it leaves the def -/
theorem rw_out (q : RX K F Kn0 ow0 cm E e) (l : ow0.Sublist ow) : RW K F Kn0 sl ow cm (fun cls d _ H => E cls d H) e := fun _ Kn H cls d s x => q cls d Kn H (s.fin.sub l) x
/-! ### try -/
theorem sb_tryAs {C : Value} {ts : Addr → Value → Option Addr → TS} {Wout : WX} {tw : WX → TS} (h : SB K F Kn0 sl ow D (tw (wAs K C i ts Wout D))) : SB K F Kn0 sl ow D (fun D σ H => tw (wAs K C i ts Wout D) D σ H) := h
abbrev Dsu (i : Nat) (D : Ends) : Ends := { nx := fun σ' H' => D.nx (σ'.set i none) H', rt := D.rt, bk := fun σ' H' => D.bk (σ'.set i none) H', ct := fun σ' H' => D.ct (σ'.set i none) H' }
theorem rw_as {C : Value} {ts : Addr → Value → Option Addr → TS} {Wout : WX} {sl' : Addr → Value → Option Addr → List Sl} (hm : ∀ A, cm e.cls = some A → PySem.W.exmOne K (.ref A) C = some true) (hs : ∀ a cls d, sl.set i (sv (Xv.mk e : Xv cm a cls d)) = sl' a cls d)
    (h : ∀ a cls d, SB K F Kn0 (sl' a cls d) ow (Dsu i D) (ts a cls d)) : RW K F Kn0 sl ow cm (wAs K C i ts Wout D) e := fun σ Kn H cls d s x => by
  obtain ⟨A, hA, rfl, hx⟩ := id x
  refine ⟨true, hm A hA, fun _ a _ => ?_, fun z => nomatch z⟩
  exact h a _ d _ Kn H (hs a _ d ▸ s.setv (x := (Xv.mk e : Xv cm a (.ref A) d)) i ⟨rfl, x⟩)
theorem sn_suite (hs : sl.set i .any = sl') (k : SN K F Kn0 sl' ow D) : SN K F Kn0 sl ow (Dsu i D) := fun σ Kn H s => k _ Kn H (hs ▸ s.set (x := .any) (o := none) i trivial)
/-- e.f -/
theorem ev_xf {a C : Addr} {cls : Value} {d : Option Addr} {n f : Str} {y : Dy} (h : EV K F Kn0 sl ow te (Xv.mk e : Xv cm a cls d)) (hC : cm n = some C) (hx : xfl e n f = some y) : EV K F Kn0 sl ow (tXf a cls d C f te) y := fun σ Kn H s Q q =>
  h σ Kn H s _ fun v Kn1 H1 g1 r1 => by
    unfold xfl at hx
    split at hx
    case isFalse => cases hx
    rename_i hn
    obtain ⟨z, hz, rfl⟩ := Option.map_eq_some_iff.mp hx
    obtain ⟨r1, A, hA, hc, hd⟩ := r1
    rw [hn, hC] at hA
    cases hA
    refine ⟨r1, hc, ?_⟩
    rcases hd with ⟨h1, _⟩ | ⟨dd, fs, h1, h2, h3⟩
    · rw [h1] at hz
      cases hz
    · obtain ⟨u, hu, ru⟩ := fp_lookup h3 hz
      exact ⟨dd, fs, u, h1, g1.kh _ _ h2, hu, q u Kn1 H1 g1 ru⟩
theorem rc_isX {a D : Addr} {cls : Value} {d : Option Addr} {n : Str} {ty : String} {b : Bool} {u : Unit} (hD : cm n = some D) (hx : xcls e n = some u) (hk : PySem.W.kitOne K (.ref D) (.type ty) = some b) : RCV K (rIsX K D a cls d) ((Xv.mk e : Xv cm a cls d), TyN.mk ty, ()) b := fun Kn H vs ek h Q q => by
  obtain ⟨v, w, rfl, h1, h2⟩ := two_args h
  obtain ⟨rfl, A, hA, hc, hd⟩ := h1
  rw [xcls_eq hx, hD] at hA
  cases hA
  refine ⟨w, .type ty, b, rfl, hc, ?_, fun u hu => ?_, hk, q.fl ek⟩
  · rcases hd with ⟨_, h1⟩ | ⟨dd, fs, h1, h3, _⟩
    · exact .inl h1
    · exact .inr ⟨dd, fs, h1, ek _ _ h3⟩
  · have h2 : w = .ty ty := h2
    subst h2
    exact hu
end
/-! ### more -/
theorem unX_some {α : Type} {x : Option (Er α)} {r : α} (h : (x.bind fun y => match y with | .ok r => some r | .ex _ => none) = some r) : x = some (.ok r) := by
  obtain ⟨y, h1, h⟩ := bind_some h
  cases y with
  | ok z => cases h; exact h1
  | ex e => cases h
def unX {α : Type} (x : Er α) : Option α := match x with | .ok r => some r | .ex _ => none
theorem unX_is {α : Type} {x : Option (Er α)} {r : α} (h : x.bind unX = some r) : x = some (.ok r) := unX_some h
theorem er_cases {α : Type} (x : Er α) : (∃ e, x = .ex e) ∨ ∃ r, x = .ok r := by
  cases x with
  | ok r => exact .inr ⟨r, rfl⟩
  | ex e => exact .inl ⟨e, rfl⟩
theorem ite_some {α : Type} {c : Bool} {x : Option α} {y : α} (h : (if c = true then x else none) = some y) : c = true ∧ x = some y := by
  cases c with
  | true => exact ⟨rfl, h⟩
  | false => cases h
theorem exm_two {K : Fg} {A C : Addr} {b : Bool} (h1 : PySem.W.subIn K (.ref C) (.type "BaseException") = some true) (h2 : PySem.W.isClsIn K C = true) (h3 : PySem.W.typeIn K (.ref C) = some (.type "type")) (h4 : PySem.W.subIn K (.ref A) (.ref C) = some b) : PySem.W.exmOne K (.ref A) (.ref C) = some b := by
  have e1 : (PySem.W.subIn K (.ref C) (.type "BaseException") == some true) = true := by rw [h1] <;> rfl
  have e2 : ((PySem.W.clsIn K C).isSome && PySem.W.typeIn K (.ref C) == some (.type "type")) = true := by
    have h2' : (PySem.W.clsIn K C).isSome = true := h2
    rw [h2', h3] <;> rfl
  unfold PySem.W.exmOne
  rw [if_pos e1]
  unfold PySem.W.kitCls
  simp only
  rw [if_pos e2]
  exact h4
/-- for x in reversed(xs) -/
theorem wk_rev {K : Fg} {α : Type} [Rp α] {Kn1 : Hp} {p : Addr} {ws : List V} {xs : List α} (h : SqL K Kn1 p ws) (r : Paired (rep K Kn1) ws xs) : WK K Kn1 (Itv K p ws.length) xs.reverse := fun i Kn' H' e1 e2 => by
  have hq : SqL K H' p ws := ex_l (e1.trans e2) h
  have hl := paired_len r
  refine ⟨fun x hx => ?_, fun hle => by
    rw [List.length_reverse] at hle
    show ws.length ≤ i
    omega⟩
  have hi : i < xs.length := by
    have := (List.getElem?_eq_some_iff.mp hx).1
    rw [List.length_reverse] at this
    exact this
  rw [List.getElem?_reverse hi] at hx
  obtain ⟨v, hv, rv⟩ := paired_at r hx
  rw [← hl] at hv
  refine ⟨⟨by omega, ws, v, hq, hv⟩, fun u H2 hy => ?_⟩
  obtain ⟨rfl, f⟩ := hy
  have : v = u := Option.some.inj (hv.symm.trans (f ws hq))
  subst this
  exact ⟨Kn', Gr.refl e2, Rp.mono e1 rv⟩
theorem it_rev {K : Fg} {F Kn0 : Hp} {sl : List Sl} {ow : List Ow} {α : Type} [Rp α] {ta : TA} {xs : List α} (h : EA K F Kn0 sl ow ta (xs, ())) : IT K F Kn0 sl ow (iRev K ta) xs.reverse := fun σ Kn H s R q => h σ Kn H s _ fun vs Kn1 H1 g1 r1 => by
  obtain ⟨v, rfl, p, ws, rfl, h3, h4⟩ := one_arg r1
  exact ⟨p, ws, rfl, sq_of (g1.kh _ _ h3), q _ Kn1 H1 g1 (wk_rev (sq_of h3) h4)⟩
theorem kit_two {K : Fg} {D : Addr} {ty : String} {b : Bool} (h : PySem.W.subIn K (.ref D) (.type ty) = some b) (hm : PySem.W.kitMeta ty = true := by decide +kernel) : PySem.W.kitOne K (.ref D) (.type ty) = some b := by
  unfold PySem.W.kitOne
  rw [if_neg (show ¬ (Value.ref D == Value.type ty) = true from fun z => Value.noConfusion (eq_of_beq z))]
  show (if PySem.W.kitMeta ty = true then PySem.W.subIn K (.ref D) (.type ty) else none) = some b
  rw [if_pos hm]
  exact h
theorem RE.ok_rt {K : Fg} {F Kn0 : Hp} {ow : List Ow} {cm : Str → Option Addr} {α : Type} [Rp α] {R : VK} {E : XK} {x : α} (q : RE K F Kn0 ow cm R E (.ok x)) : RT K F Kn0 ow R x := q
end Wk
/-! Wopt: None or something; is; a tuple of alike things walked; a tuple of two lists of one's own -/
namespace Wk
open PySem PySem.Spec L2 Evl
/-- never None -/
class NN (α : Type) [Rp α] : Prop where
  nn : ∀ {K : Fg} {H : Hp} {v : V} {a : α}, rep K H v a → v ≠ .non
instance : NN Int := ⟨fun h z => by rw [show _ = V.int _ from h] at z; cases z⟩
instance : NN Bool := ⟨fun h z => by rw [show _ = V.bl _ from h] at z; cases z⟩
instance : NN Str := ⟨fun h z => by rw [show _ = V.str _ from h] at z; cases z⟩
instance {α : Type} [Rp α] : NN (List α) := ⟨fun h z => by
  obtain ⟨p, vs, rfl, _⟩ := h
  cases z⟩
instance {α τ : Type} [Rp α] [Tp τ] : NN (α × τ) := ⟨fun h z => by
  obtain ⟨p, vs, rfl, _⟩ := h
  cases z⟩
inductive Ho {α : Type} [Rp α] : {τ : Type} → [Tp τ] → τ → List α → Prop
  | nil : Ho () []
  | cons {τ : Type} [Tp τ] (x : α) {t : τ} {xs : List α} : Ho t xs → Ho (x, t) (x :: xs)
theorem Ho.get {α : Type} [Rp α] {K : Fg} {H : Hp} {τ : Type} [i : Tp τ] {t : τ} {xs : List α} (h : Ho t xs) : ∀ {vs : List V}, rept K H vs t → Paired (rep K H) vs xs := by
  induction h with
  | nil => intro vs r; cases r; exact .nil
  | cons x _ ih =>
    intro vs r
    obtain ⟨v, r, rfl, h1, h2⟩ := r
    exact .cons h1 (ih h2)
structure P2 where
  a : Addr
  b : Addr
instance : Ob P2 := { ob := fun _ _ o x => o = .tup [.ref x.a, .ref x.b], swap := fun _ h => h }
def appP {α : Type} (c : Bool) (xs ys : List α) (x : α) : Option (List α × List α) := if xs.length < 1000000 ∧ ys.length < 1000000 then some (if c = true then (xs, ys ++ [x]) else (xs ++ [x], ys)) else none
section
variable {K : Fg} {F Kn0 : Hp} {sl sl' : List Sl} {ow ow1 ow2 : List Ow} {α β γ τ : Type} [Rp α] [Rp β] [Rp γ] [Tp τ] {ta tb te tn : TE} {D : Ends} {i j k1 k2 : Nat} {p pt p1 p2 : Addr}
theorem ev_some [NN α] {x : α} (h : EV K F Kn0 sl ow te x) : EV K F Kn0 sl ow te (some x) := fun σ Kn H s Q q => h σ Kn H s Q fun v Kn' H' g r => q v Kn' H' g ⟨NN.nn r, r⟩
theorem ev_unopt {o : Option α} {x : α} (h : EV K F Kn0 sl ow te o) (e : o = some x) : EV K F Kn0 sl ow te x := fun σ Kn H s Q q => h σ Kn H s Q fun v Kn' H' g r => by
  subst e
  exact q v Kn' H' g r.2
theorem r2_isN {o : Option α} : R2V K (fun x y H Q => y = .non ∧ Q (.bl (decide (x = .non))) H) o Nn.nn o.isNone := fun Kn H v w ek h1 h2 Q q => by
  cases h2
  refine ⟨rfl, ?_⟩
  cases o with
  | none =>
    cases h1
    exact q.fl ek
  | some x =>
    rw [decide_eq_false h1.1]
    exact q.fl ek
theorem r2_notN {o : Option α} : R2V K (fun x y H Q => y = .non ∧ Q (.bl (!decide (x = .non))) H) o Nn.nn o.isSome := fun Kn H v w ek h1 h2 Q q => by
  cases h2
  refine ⟨rfl, ?_⟩
  cases o with
  | none =>
    cases h1
    exact q.fl ek
  | some x =>
    rw [decide_eq_false h1.1]
    exact q.fl ek
theorem r2_isB {a b : Bool} : R2V K L2.rIsB a b (decide (a = b)) := fun Kn H v w ek h1 h2 Q q => by
  cases h1
  cases h2
  exact ⟨a, b, rfl, rfl, q.fl ek⟩
theorem r2_notB {a b : Bool} : R2V K L2.rNotB a b (!decide (a = b)) := fun Kn H v w ek h1 h2 Q q => by
  cases h1
  cases h2
  exact ⟨a, b, rfl, rfl, q.fl ek⟩
theorem ev_hom {t : β × τ} {xs : List α} (h : EV K F Kn0 sl ow te t) (ho : Ho t xs) : EV K F Kn0 sl ow te (Tu.mk xs) := fun σ Kn H s Q q => h σ Kn H s Q fun v Kn' H' g r => by
  obtain ⟨p, vs, rfl, h1, h2⟩ := r
  exact q _ Kn' H' g ⟨p, vs, rfl, h1, ho.get h2⟩
/-- an object of one's own becomes known, and is no more named -/
theorem S.lend {σ : L2.St} {Kn H : Hp} {o1 : Ow} {ob : HO} (s : S K F Kn0 sl ow σ Kn H) (hj : ow[j]? = some o1) (hp : H o1.ad = some ob) : S K F Kn0 sl (ow.eraseIdx j) σ (upd Kn o1.ad ob) H := by
  obtain ⟨f1, f2, f3⟩ := s.ow.each _ (List.mem_of_getElem? hj)
  have s1 := s.sub (List.eraseIdx_sublist ow j)
  refine s1.know f1 f2 (fun o hm z => ?_) hp
  obtain ⟨m, hm'⟩ := List.getElem?_of_mem hm
  rw [List.getElem?_eraseIdx] at hm'
  split at hm'
  · have := ow_at s.ow.nd hm' hj z
    omega
  · have := ow_at s.ow.nd hm' hj z
    omega
theorem S.borrowP {σ : L2.St} {Kn H : Hp} {xs ys : List α} (s : S K F Kn0 sl ow σ Kn H) (hi : sl[i]? = some (.at pt)) (hj : ow[j]? = some (oo pt (P2.mk p1 p2))) (h1 : (ow.eraseIdx j)[k1]? = some (ol p1 xs)) (h2 : ((ow.eraseIdx j).eraseIdx k1)[k2]? = some (ol p2 ys)) :
    ∃ Kn', S K F Kn0 (sl.set i (sv ((xs, ys, ()) : List α × List α × Unit))) (((ow.eraseIdx j).eraseIdx k1).eraseIdx k2) σ Kn' H := by
  obtain ⟨o, q1, q2⟩ := s.sl.get hi
  have q2 : o = some (.ref pt) := q2
  obtain ⟨_, a2, ob, a3, a4⟩ := s.ow.each _ (List.mem_of_getElem? hj)
  have a4 : ob = .tup [.ref p1, .ref p2] := a4
  subst a4
  have s1 := s.lend hj a3
  obtain ⟨_, b2, w1, b3, b4⟩ := s1.ow.each _ (List.mem_of_getElem? h1)
  have s2 := s1.lend h1 b3
  obtain ⟨_, c2, w2, c3, c4⟩ := s2.ow.each _ (List.mem_of_getElem? h2)
  have s3 := s2.lend h2 c3
  have x2 : Ex (upd Kn pt (.tup [.ref p1, .ref p2])) (upd (upd Kn pt (.tup [.ref p1, .ref p2])) p1 (.lst w1)) := Ex.new b2
  have x3 : Ex (upd (upd Kn pt (.tup [.ref p1, .ref p2])) p1 (.lst w1)) (upd (upd (upd Kn pt (.tup [.ref p1, .ref p2])) p1 (.lst w1)) p2 (.lst w2)) := Ex.new c2
  have hσ : σ.set i o = σ := by
    refine List.ext_getElem? fun m => ?_
    by_cases e : i = m
    · subst e
      rw [List.getElem?_set_self (List.getElem?_eq_some_iff.mp q1).1, q1]
    · rw [List.getElem?_set_ne e]
  have s4 := s3.set (x := sv ((xs, ys, ()) : List α × List α × Unit)) (o := o) i ⟨.ref pt, q2, pt, _, rfl, (x2.trans x3) _ _ upd_same, .ref p1, _, rfl, ⟨p1, w1, rfl, x3 _ _ upd_same, paired_mono (x2.trans x3) b4⟩, .ref p2, _, rfl, ⟨p2, w2, rfl, upd_same, paired_mono x3 c4⟩, rfl⟩
  rw [hσ] at s4
  exact ⟨_, s4⟩
theorem ev_borP [Fl γ] {z : γ} {xs ys : List α} (hi : sl[i]? = some (.at pt)) (hj : ow[j]? = some (oo pt (P2.mk p1 p2))) (h1 : (ow.eraseIdx j)[k1]? = some (ol p1 xs)) (h2 : ((ow.eraseIdx j).eraseIdx k1)[k2]? = some (ol p2 ys)) (hs : sl.set i (sv ((xs, ys, ()) : List α × List α × Unit)) = sl')
    (ho : ((ow.eraseIdx j).eraseIdx k1).eraseIdx k2 = ow1) (h : EV K F Kn0 sl' ow1 te z) : EV K F Kn0 sl ow te z := fun σ Kn H s Q q => by
  obtain ⟨Kn', s1⟩ := s.borrowP hi hj h1 h2
  subst hs
  subst ho
  exact h σ _ H s1 Q fun v Kn' H' g r => q v Kn H' ⟨Ex.refl _, g.hh, s.ek.trans g.hh, fun _ _ h => h⟩ (Fl.iff.mpr (Fl.iff.mp r))
/-- a = (xs, ys), both new -/
theorem sb_asgPair {xs ys : List α} {sl' : Addr → List Sl} (hs : ∀ p, sl.set i (.at p) = sl' p) (ha : EN K F Kn0 sl ow ta xs) (hb : EN K F Kn0 sl ow tb ys) (k : ∀ pt p1 p2, SN K F Kn0 (sl' pt) (oo pt (P2.mk p1 p2) :: ol p1 xs :: ol p2 ys :: ow) D) :
    SB K F Kn0 sl ow D (tAsg (tTup (tCons ta (tCons tb tNil))) (gName i)) := fun σ Kn H s =>
  ha σ Kn H s _ fun p1 w1 Kn1 H1 g1 hp1 kp1 hw1 r1 => hb σ Kn1 H1 (s.grow g1) _ fun p2 w2 Kn2 H2 g2 hp2 kp2 hw2 r2 => by
    have g12 := g1.trans g2
    have h12 : H2 p1 = some (.lst w1) := g2.hh _ _ hw1
    have k12 : Kn2 p1 = none := g2.sp p1 (ne_none_of hw1) kp1
    have n12 : p1 ≠ p2 := fun z => by rw [← z, hw1] at hp2; cases hp2
    refine ⟨by show ([V.ref p1, V.ref p2] : List V).length ≤ sizeLine; exact le_line (Nat.le_of_ble_eq_true rfl), fun pt hp => ?_⟩
    have g3 := g12.trans (Gr.newU (o := .tup [V.ref p1, V.ref p2]) g12.kh hp)
    have n1 : p1 ≠ pt := fun z => by rw [← z, h12] at hp; cases hp
    have n2 : p2 ≠ pt := fun z => by rw [← z, hw2] at hp; cases hp
    have s3 := s.grow g3
    have u1 : upd H2 pt (.tup [V.ref p1, V.ref p2]) p1 = some (.lst w1) := by rw [upd_ne n1]; exact h12
    have u2 : upd H2 pt (.tup [V.ref p1, V.ref p2]) p2 = some (.lst w2) := by rw [upd_ne n2]; exact hw2
    have o2 := s3.own (p := p2) (fresh_back s.ef (fresh_back g1.hh hp2)) kp2 (owned_ne s (fresh_back g1.hh hp2)) u2 r2
    have o1 := o2.own (p := p1) (fresh_back s.ef hp1) k12 (fun o ho z => by
      rcases List.mem_cons.mp ho with rfl | ho
      · exact n12 z.symm
      · exact owned_ne s hp1 o ho z) u1 (paired_mono g2.kk r1)
    have hpH : H pt = none := fresh_back g12.hh hp
    have o0 := o1.ownG (p := pt) (o := oo pt (P2.mk p1 p2)) rfl (fresh_back s.ef hpH) (fresh_back g12.kh hp) (fun o ho z => by
      rcases List.mem_cons.mp ho with rfl | ho
      · exact n1 z
      · rcases List.mem_cons.mp ho with rfl | ho
        · exact n2 z
        · exact owned_ne s hpH o ho z) ⟨_, upd_same, rfl⟩
    exact k pt p1 p2 _ Kn2 _ (hs pt ▸ o0.seta (p := pt) i)
theorem set_ow {o : Ow} (h : ow[j]? = some o) : ow.set j o = ow := by
  refine List.ext_getElem? fun m => ?_
  by_cases e : j = m
  · subst e
    rw [List.getElem?_set_self (List.getElem?_eq_some_iff.mp h).1, h]
  · rw [List.getElem?_set_ne e]
/-- a[int(c)].append(x) -/
theorem sb_appP {xs ys xs' ys' : List α} {x : α} {c : Bool} (hi : sl[i]? = some (.at pt)) (hj : ow[j]? = some (oo pt (P2.mk p1 p2))) (h1 : ow[k1]? = some (ol p1 xs)) (h2 : ow[k2]? = some (ol p2 ys)) (hn : EV K F Kn0 sl ow tn (if c = true then (1 : Int) else 0)) (h : EV K F Kn0 sl ow te x) (hx : appP c xs ys x = some (xs', ys'))
    (ho : (ow.set k1 (ol p1 xs')).set k2 (ol p2 ys') = ow1) (hk : k1 ≠ k2) (k : SN K F Kn0 sl ow1 D) : SB K F Kn0 sl ow D (tDrop (tBM K "list" rAppend (tOp (rIxT K) (tVar i) tn) (tCons te tNil))) := fun σ Kn H s => by
  obtain ⟨o, q1, q2⟩ := s.sl.get hi
  refine ⟨.ref pt, by rw [q1]; exact congrArg some q2, hn σ Kn H s _ fun v Kn1 H1 g1 r1 => ?_⟩
  have s1 := s.grow g1
  obtain ⟨_, a2, ob, a3, a4⟩ := s1.ow.each _ (List.mem_of_getElem? hj)
  have a4 : ob = .tup [.ref p1, .ref p2] := a4
  subst a4
  cases r1
  obtain ⟨_, b2, w1, b3, b4⟩ := s1.ow.each _ (List.mem_of_getElem? h1)
  obtain ⟨_, c2, w2, c3, c4⟩ := s1.ow.each _ (List.mem_of_getElem? h2)
  unfold appP at hx
  split at hx
  case isFalse => cases hx
  rename_i hl
  have hx := Option.some.inj hx
  subst ho
  cases c with
  | true =>
    have e1 : xs = xs' := congrArg Prod.fst hx
    have e2 : ys ++ [x] = ys' := congrArg Prod.snd hx
    subst e1
    subst e2
    refine ⟨pt, _, 1, .ref p2, rfl, rfl, st_of a3, rfl, Or.inl ⟨rfl, w2, sq_of c3⟩, h σ Kn1 H1 s1 _ fun u Kn2 H2 g2 r2 => ?_⟩
    refine ⟨p2, w2, u, rfl, rfl, g2.hh _ _ c3, by rw [paired_len c4]; exact lt_line hl.2, k _ Kn2 _ ?_⟩
    have kp : Kn2 p2 = none := g2.sp p2 (ne_none_of c3) c2
    rw [set_ow h1]
    exact (s1.grow g2).write h2 (Ex.refl _) (upd_in g2.kh kp) (fun q hq _ => upd_ne hq) (fun _ _ h => h) upd_same (paired_append (paired_mono g2.kk c4) (.cons r2 .nil))
  | false =>
    have e1 : xs ++ [x] = xs' := congrArg Prod.fst hx
    have e2 : ys = ys' := congrArg Prod.snd hx
    subst e1
    subst e2
    refine ⟨pt, _, 0, .ref p1, rfl, rfl, st_of a3, rfl, Or.inl ⟨rfl, w1, sq_of b3⟩, h σ Kn1 H1 s1 _ fun u Kn2 H2 g2 r2 => ?_⟩
    refine ⟨p1, w1, u, rfl, rfl, g2.hh _ _ b3, by rw [paired_len b4]; exact lt_line hl.1, k _ Kn2 _ ?_⟩
    have kp : Kn2 p1 = none := g2.sp p1 (ne_none_of b3) b2
    have e : (ow.set k1 (ol p1 (xs ++ [x]))).set k2 (ol p2 ys) = ow.set k1 (ol p1 (xs ++ [x])) := set_ow (by rw [List.getElem?_set_ne hk]; exact h2)
    rw [e]
    exact (s1.grow g2).write h1 (Ex.refl _) (upd_in g2.kh kp) (fun q hq _ => upd_ne hq) (fun _ _ h => h) upd_same (paired_append (paired_mono g2.kk b4) (.cons r2 .nil))
end
end Wk
/-! Wsort: sorted of a list of alike data (numbers, texts, tuples of these); sorted of a dict's keys; xs[::-1] -/
namespace L2
open PySem PySem.Spec PyProof.Rows
/-- sorted(xs), xs a list of alike data -/
def rSortedD (K : PySem.W.Frag) : List V → Hp → VK → Prop := fun vs H Q => ∃ (a : Addr) (bs : List (V × PyData)), vs = [V.ref a] ∧ SqL K H a (bs.map (·.1)) ∧ (∀ b ∈ bs, Dp K H b.1 b.2) ∧ PySem.W.AllAlike (bs.map (·.2)) ∧ PySem.W.Sortable (bs.map (·.2)) ∧ bs.length ≤ 1000000 ∧ (∀ b ∈ bs, b.2.depth ≤ 60) ∧
  ∀ p, H p = none → Q (.ref p) (upd H p (.lst ((bs.mergeSort (PySem.W.dataLe false (fun b : V × PyData => b.2))).map (·.1))))
theorem each_vals : ∀ {bs : List (V × PyData)} {us : List Value}, Vals (bs.map (·.1)) us → PySem.W.EachIs (fun v (b : V × PyData) => RelV b.1 v) us bs
  | [], _, h => by
    have h' : Vals [] _ := h
    cases h'
    exact .nil
  | b :: bs, _, h => by
    have h' : Vals (b.1 :: bs.map (·.1)) _ := h
    cases h' with
    | cons r t => exact .cons r (each_vals t)
theorem vals_each : ∀ {bs : List (V × PyData)} {us : List Value}, PySem.W.EachIs (fun v (b : V × PyData) => RelV b.1 v) us bs → Vals (bs.map (·.1)) us
  | _, _, .nil => .nil
  | _, _, .cons r t => .cons r (vals_each t)
theorem each_reads {X : Cx} {pins : List (Addr × Obj)} {σ : St} {H : Hp} {s : Shared} (I : Inv X pins σ H s) : ∀ {bs : List (V × PyData)} {us : List Value}, (∀ b ∈ bs, Dp X.K H b.1 b.2) → PySem.W.EachIs (fun v (b : V × PyData) => RelV b.1 v) us bs → PySem.W.EachIs (fun v (b : V × PyData) => ∃ as, Reads s.heap v b.2 as) us bs
  | _, _, _, .nil => .nil
  | _, _, h, .cons r t => .cons (Dp.reads I _ _ _ (h _ List.mem_cons_self) r) (each_reads I (fun b hb => h b (List.mem_cons_of_mem _ hb)) t)
theorem cr_sortedD {X : Cx} (hu : X.A.units + 64 < cLine) : CallR X (.builtin "sorted") (rSortedD X.K) := by
  intro pins s σ H vs us Q I r h
  obtain ⟨a, bs, rfl, hs, hd, hal, hk, hL, hdp, q⟩ := h
  obtain ⟨its, rv, hl, hz⟩ := I.list hs
  rw [Vals.ref1 r]
  have e := each_vals rv
  have hL' : bs.length ≤ sizeLine := Nat.le_trans hL (by decide)
  refine PySem.W.sorted_data (vs := its) (enc := fun b : V × PyData => b.2) hl.isList e (each_reads I hd e) hal hk hL' (fun b hb => by have := hdp b hb; omega) fun out ho eo => ?_
  obtain ⟨ep, he'⟩ := PyProof.Rows.sortedAll_at s.heap its out.toArray
  have hlen : ((bs.mergeSort (PySem.W.dataLe false (fun b : V × PyData => b.2))).map (·.1)).length ≤ sizeLine := by
    rw [List.length_map, List.length_mergeSort]
    exact hL'
  exact ⟨.ref _, upd H (s.heap.objs.size + 1) (.lst _), I.laid (t' := s.toks) (fun _ _ => PyProof.Rows.sortedAll_old) (Nat.le_succ _) ⟨hlen, out, ep, vals_each eo, he'⟩, rfl, q _ (I.hok.fresh (Nat.le_succ _))⟩
end L2
namespace Wk
open PySem PySem.Spec L2 Evl
/-- alike, one with the other -/
class Al (α : Type) [Rp α] [Pd α] : Prop where
  al : ∀ a b : α, PySem.W.alike (Pd.toD a) (Pd.toD b) = true
class Als (τ : Type) [Tp τ] [Pq τ] : Prop where
  al : ∀ a b : τ, PySem.W.alikeAll (Pq.toDs a) (Pq.toDs b) = true
class So (α : Type) [Rp α] [Pd α] : Prop where
  so : (∀ a : α, ∃ x r, Pd.toD a = .tuple (x :: r)) ∨ ∀ a : α, Pd.toD a ≠ .none ∧ ∀ xs, Pd.toD a ≠ .tuple xs
instance : Al Int := ⟨fun _ _ => rfl⟩
instance : Al Str := ⟨fun _ _ => rfl⟩
instance : Al Bool := ⟨fun _ _ => rfl⟩
instance : Als Unit := ⟨fun _ _ => rfl⟩
instance {α τ : Type} [Rp α] [Tp τ] [Pd α] [Pq τ] [Al α] [Als τ] : Als (α × τ) := ⟨fun a b => by
  show PySem.W.alikeAll (Pd.toD a.1 :: Pq.toDs a.2) (Pd.toD b.1 :: Pq.toDs b.2) = true
  rw [PySem.W.alikeAll, Al.al, Als.al]
  rfl⟩
instance {α τ : Type} [Rp α] [Tp τ] [Pd α] [Pq τ] [Al α] [Als τ] : Al (α × τ) := ⟨fun a b => by
  show PySem.W.alike (.tuple (Pq.toDs a)) (.tuple (Pq.toDs b)) = true
  rw [PySem.W.alike, Als.al]⟩
instance : So Int := ⟨.inr fun a => ⟨(fun h => nomatch h), (fun _ h => nomatch h)⟩⟩
instance : So Str := ⟨.inr fun a => ⟨(fun h => nomatch h), (fun _ h => nomatch h)⟩⟩
instance : So Bool := ⟨.inr fun a => ⟨(fun h => nomatch h), (fun _ h => nomatch h)⟩⟩
instance {α τ : Type} [Rp α] [Tp τ] [Pd α] [Pq τ] : So (α × τ) := ⟨.inl fun a => ⟨_, _, rfl⟩⟩
def leD {α : Type} [Rp α] [Pd α] (a b : α) : Bool := PySem.W.dataLe false (fun c : α => Pd.toD c) a b
def srtD {α : Type} [Rp α] [Pd α] (xs : List α) : List α := xs.mergeSort leD
def srtDO {α : Type} [Rp α] [Pd α] (xs : List α) : Option (List α) := if xs.length ≤ 1000000 ∧ Pd.dp α ≤ 60 then some (srtD xs) else none
theorem paired_zip {α β : Type} {R : α → β → Prop} : ∀ {vs : List α} {xs : List β}, Paired R vs xs → ∃ ps : List (α × β), ps.map (·.1) = vs ∧ ps.map (·.2) = xs ∧ ∀ c ∈ ps, R c.1 c.2
  | _, _, .nil => ⟨[], rfl, rfl, (fun _ h => nomatch h)⟩
  | _, _, .cons r t => by
    obtain ⟨ps, h1, h2, h3⟩ := paired_zip t
    refine ⟨(_, _) :: ps, by rw [List.map_cons, h1], by rw [List.map_cons, h2], fun c hc => ?_⟩
    rcases List.mem_cons.mp hc with rfl | hc
    · exact r
    · exact h3 c hc
theorem zip_paired {α β : Type} {R : α → β → Prop} : ∀ {ps : List (α × β)}, (∀ c ∈ ps, R c.1 c.2) → Paired R (ps.map (·.1)) (ps.map (·.2))
  | [], _ => .nil
  | c :: ps, h => .cons (h c List.mem_cons_self) (zip_paired fun d hd => h d (List.mem_cons_of_mem _ hd))
section
variable {K : Fg} {F Kn0 : Hp} {sl sl' : List Sl} {ow ow1 : List Ow} {α β γ : Type} [Rp α] [Rp β] [Rp γ] {te : TE} {i j : Nat} {p : Addr}
theorem rc_sortD {α : Type} [Rp α] [Pd α] [Al α] [So α] {xs zs : List α} (h : srtDO xs = some zs) : RCL K (rSortedD K) (xs, ()) zs := fun Kn H vs ek hv Q q => by
  unfold srtDO at h
  split at h
  case isFalse => cases h
  rename_i hl
  cases h
  obtain ⟨v, rfl, l, ws, rfl, h1, h2⟩ := one_arg hv
  obtain ⟨ps, e1, e2, e3⟩ := paired_zip h2
  have eb1 : (ps.map fun c => ((c.1, Pd.toD c.2) : V × PyData)).map (·.1) = ws := by
    rw [List.map_map, ← e1]
    rfl
  have lp : ps.length = xs.length := by rw [← e2, List.length_map]
  refine ⟨l, ps.map fun c => (c.1, Pd.toD c.2), rfl, by rw [eb1]; exact sq_of (ek _ _ h1), fun b hb => ?_, ?_, ?_, by rw [List.length_map, lp]; exact hl.1, fun b hb => ?_, fun p hp => ?_⟩
  · obtain ⟨c, hc, rfl⟩ := List.mem_map.mp hb
    exact Pd.isD (Rp.mono ek (e3 c hc))
  · rw [List.map_map]
    exact PySem.W.AllAlike.of fun a b => Al.al _ _
  · rw [List.map_map]
    rcases (So.so : _ ∨ ∀ a : α, _) with h | h
    · exact PySem.W.Sortable.tuples fun c => h _
    · exact PySem.W.Sortable.others fun c => h _
  · obtain ⟨c, hc, rfl⟩ := List.mem_map.mp hb
    exact Nat.le_trans (Pd.dep _) hl.2
  · have m1 : (ps.mergeSort fun a b => leD a.2 b.2).map (fun c => ((c.1, Pd.toD c.2) : V × PyData)) = (ps.map fun c => ((c.1, Pd.toD c.2) : V × PyData)).mergeSort (PySem.W.dataLe false (fun b : V × PyData => b.2)) := List.map_mergeSort fun a _ b _ => rfl
    have m2 : (ps.mergeSort fun a b => leD a.2 b.2).map (·.2) = srtD xs := by
      unfold srtD
      rw [← e2]
      exact List.map_mergeSort fun a _ b _ => rfl
    rw [← m1, List.map_map]
    refine q p _ Kn _ (Gr.newU ek hp) hp (fresh_back ek hp) upd_same ?_
    rw [← m2]
    exact zip_paired fun c hc => e3 c ((List.mergeSort_perm _ _).mem_iff.mp hc)
theorem en_rev {xs : List α} (h : EV K F Kn0 sl ow te xs) : EN K F Kn0 sl ow (tRevL K te) xs.reverse := fun σ Kn H s Q q => h σ Kn H s _ fun v Kn1 H1 g1 r1 => by
  obtain ⟨p, ws, rfl, h3, h4⟩ := r1
  refine ⟨p, ws, rfl, sq_of (g1.kh _ _ h3), fun l hl => q l _ Kn1 _ (g1.trans (Gr.newU g1.kh hl)) (fresh_back g1.hh hl) (fresh_back g1.kh hl) upd_same ?_⟩
  obtain ⟨ps, e1, e2, e3⟩ := paired_zip h4
  rw [← e1, ← e2, ← List.map_reverse, ← List.map_reverse]
  exact zip_paired fun c hc => e3 c (List.mem_reverse.mp hc)
theorem k_sortedD {X : Cx} (hu : X.A.units + 64 < cLine) (h : X.K = K := by rfl) : CallR X (.builtin "sorted") (rSortedD K) := h ▸ cr_sortedD hu
theorem k_revL {X : Cx} {e : Expr} {te : TE} {k : Nat} {p1 p2 p3 pos : Pos} (he : PE X e te) (h : X.K = K := by rfl) : PE X (.Subscript e (.Slice none none (some (.UnaryOp .USub (.Constant (.int 1) k p1) p2)) p3) pos) (tRevL K te) := h ▸ pe_revL he
/-- sorted(d), d a dict with text keys -/
def rSortedK : List V → Hp → VK → Prop := fun xs H Q => ∃ (a : Addr) (kvs : List (Key × V)) (ks : List Str), xs = [.ref a] ∧ Rd H a (.dK kvs) ∧ kvs.map (·.1) = ks.map Sum.inr ∧ ks.length < 64 ∧ ∀ ys p, ys.Perm ks → PyProof.Rows.sortedS ys = true → H p = none → Q (.ref p) (upd H p (.lst (ys.map V.str)))
theorem k_sortedK {X : Cx} (hc : X.calm = true := by rfl) : CallR X (.builtin "sorted") rSortedK := call_sortedD hc
end
end Wk
/-! Wdeal: sum(d.values()), divmod, d[k] += c, xs[i] += c, str(n), zfill, a dict of one's own told -/
namespace L2
open PySem PySem.Spec PyProof.Rows
section
variable {X : Cx}
theorem get_list : PGet X (rIxL X.K) := by
  intro pins s σ H x y v u Q I rx ry h
  obtain ⟨p, xs, i, z, rfl, rfl, hq, he, q⟩ := h
  cases rx
  obtain ⟨t, rfl⟩ := ry
  obtain ⟨its, r, pl, hz⟩ := I.list hq
  obtain ⟨j, h1, h2, h3, h4, h5⟩ := atI_get he
  obtain ⟨w, ew, rw'⟩ := r.get h2
  have hl := r.length
  have hn := line63
  have fin : EP X pins σ Q w s := ⟨z, H, I, rw', q⟩
  by_cases h0 : 0 ≤ i
  · have hj : i.toNat = j := by
      rw [seqIndex_of h0 h5] at h1
      exact Option.some.inj h1
    exact wpAny_getItem_list pl.isList h0 (by omega) (by rw [hj]; simpa using ew) fin
  · have hj : (i + (its.toArray.size : Int)).toNat = j := by
      rw [seqIndex_neg (by omega) h4] at h1
      rw [List.size_toArray, ← hl]
      exact Option.some.inj h1
    exact wpAny_getItem_list_neg pl.isList (by omega) (by rw [List.size_toArray] <;> omega) (by omega) (by rw [hj]; simpa using ew) fin
/-- sum(o.values()), a dict with int values -/
def tSumVals (td : TE) : TE := fun σ H Q => td σ H fun x H1 => ∃ (a : Addr) (kvs : List (Key × V)) (is : List Int), x = V.ref a ∧ Rd H1 a (.dK kvs) ∧ kvs.map (·.2) = is.map V.int ∧ Q (.int is.sum) H1
theorem pre_sum (is : List Int) : ∀ n : Nat, n ≤ is.length → preSum (fun i => is.getD i 0) n = (is.take n).sum
  | 0, _ => rfl
  | n + 1, h => by
    have ih := pre_sum is n (by omega)
    show preSum (fun i => is.getD i 0) n + is.getD n 0 = _
    rw [ih, List.take_succ, List.sum_append, List.getD_eq_getElem?_getD, List.getElem?_eq_getElem (show n < is.length by omega)]
    simp
variable {o : Expr} {p pos apos mpos : Pos} {td : TE}
theorem pe_sumVals (hc : X.calm = true) (hg : Gl X "sum") (hm : X.mg "sum" = none) (hd : PE X o td) (hbase : attributeBase o "values" X.env (eval o X.env) = eval o X.env := by rfl) (hline : (apos.endLine == mpos.line) = true := by rfl)
    (hse : starEach [Expr.Call (.Attribute o "values" apos) [] [] mpos] X.env = [(false, eval (Expr.Call (.Attribute o "values" apos) [] [] mpos) X.env)] := by rfl) :
    PE X (.Call (.Name "sum" p) [.Call (.Attribute o "values" apos) [] [] mpos] [] pos) (tSumVals td) := by
  refine ⟨fun pins s σ H Q I h => ?_⟩
  refine wpAny_Call_Name_kw (ld_blt I hg hm (u := .builtin "sum") (by first | rfl | decide +kernel) ?_ (by first | decide +kernel | decide) (by first | decide +kernel | decide))
  rw [hse]
  refine PySem.callWith_builtin1 (wpAny_Call_method0_late hbase hline (thn (hd.run pins s σ H _ I h) fun v s1 ⟨x, H1, I1, r1, a, kvs, is, ex, ha, hv, q⟩ => ?_))
  subst ex
  obtain rfl : v = Value.ref a := r1
  obtain ⟨_, hsys, vs, rel, dof⟩ := dk_rd I1.hok ha
  obtain ⟨ep, dat⟩ := dof.dictAt
  have dat' := dat
  obtain ⟨ob, es, ho, ex, hdat, hko, hpr, hnd⟩ := dat'
  refine ⟨"dict", "dict.values", F.plainAttrs_dict, F.slot_dict_values, F.type_dict_values, ⟨ob, ho, ex.1⟩, fun b e => ?_, Calls.callWith_builtin rfl (PySem.evalArgs_none ?_)⟩
  · cases e
    exact ⟨ob, ho, ex.2.1⟩
  refine call_meetsIn F.slot_dict_values ⟨ob, ho, ex.1⟩ F.entry_dict_values (F.args_dict_values_1 _) (meets_dict_values (mixKind X.prog X.w) a hsys) ⟨⟨vs, dof⟩, ?_⟩
  have k1 : ∀ b u, s1.heap.get? b = some u → (s1.heap.push { cls := .type "dict_values", data := .fields #[.ref a] }).get? b = some u := fun b u e => Heap.get?_push_of_some _ e
  have dat1 : (s1.heap.push { cls := .type "dict_values", data := .fields #[.ref a] }).DictAt (mixKind X.prog X.w) a vs ep := dat.keep k1
  have hlv : vs.length = is.length := by
    have e1 := congrArg List.length hv
    rw [List.length_map, List.length_map] at e1
    rw [← e1]
    exact (KV.length rel).symm
  have hval : ∀ (i : Nat) (v : Value), (∃ k, vs[i]? = some (k, v)) → ∃ t, v = Value.int (is.getD i 0) t := fun i v ⟨k, hk⟩ => by
    obtain ⟨x, h1, h2⟩ := KV.at' rel hk
    have e1 : (kvs.map (·.2))[i]? = some x := by rw [List.getElem?_map, h1] <;> rfl
    rw [hv, List.getElem?_map] at e1
    obtain ⟨j, hj, e2⟩ := Option.map_eq_some_iff.mp e1
    subst e2
    obtain ⟨t, e3⟩ := h2
    refine ⟨t, ?_⟩
    rw [e3, List.getD_eq_getElem?_getD, hj] <;> rfl
  refine PySem.call_sum_walkAnyS (wpAny_pyIter_values (v := s1.heap.objs.size) (d := a) ⟨_, Heap.get?_push_size _ rfl, rfl, rfl⟩ dat1 ?_)
  have hlt : a < s1.heap.objs.size := Heap.lt_size ho
  have hsz : (s1.heap.push { cls := .type "dict_values", data := .fields #[.ref a] }).objs.size = s1.heap.objs.size + 1 := Heap.size_push _ _
  refine ⟨_, _, _, _, _, _, _, _, rfl, (Walks.dictValues (knd := mixKind X.prog X.w) (A := X.A.in1) (I.ok.hd hc) (s1.heap.push { cls := .type "dict_values", data := .fields #[.ref a] }).objs.size a (by rw [hsz]; exact Nat.ne_of_lt (Nat.lt_succ_of_lt hlt)) vs ep).toS,
    ⟨⟨_, Heap.get?_push_size _ rfl, rfl, rfl⟩, dat1.keep fun b u e => Heap.get?_push_of_some _ e⟩, fun b hb => ?_, hval, fun s' t' hmv => ?_⟩
  · show b < ((s1.heap.push _).push _).objs.size
    rw [Heap.size_push, Heap.size_push]
    rw [hsz] at hb
    rcases List.mem_cons.mp hb with e | hb
    · rw [e]
      exact Nat.lt_succ_self _
    · have e : b = a := List.mem_singleton.mp hb
      rw [e]
      exact Nat.lt_succ_of_lt (Nat.lt_succ_of_lt hlt)
  · have hk : ∀ b u, s1.heap.get? b = some u → s'.heap.get? b = some u := fun b u e => hmv.heap b u (fun hmem => by
      have e1 : b = (s1.heap.push { cls := .type "dict_values", data := .fields #[.ref a] }).objs.size := List.mem_singleton.mp hmem
      have e2 := Heap.lt_size e
      rw [hsz] at e1
      rw [e1] at e2
      exact absurd e2 (Nat.not_lt.mpr (Nat.le_succ _))) (Heap.get?_push_of_some _ (k1 b u e))
    rw [Moved.eq_with hmv]
    have es : preSum (fun i => is.getD i 0) vs.length = is.sum := by
      rw [pre_sum is _ (by omega), hlv, List.take_length]
    refine ⟨.int is.sum, H1, I1.kept (t' := s'.toks) hk, ⟨t', ?_⟩, q⟩
    rw [es]
end
end L2
namespace Wk
open PySem PySem.Spec L2 Evl
theorem leD_total {α : Type} [Rp α] [Pd α] : PySem.W.TotalLe (leD (α := α)) := by
  have h : PySem.W.TotalLe (PySem.W.dataLe false (fun c : α => Pd.toD c)) := by
    unfold PySem.W.dataLe
    exact PySem.W.sortLe_total _ _ _
  exact ⟨fun a b c => h.trans a b c, fun a b => h.total a b⟩
/-- neither less than the other: the same -/
class Ti (α : Type) [Rp α] [Pd α] : Prop where
  ti : ∀ {a b : α}, PySem.W.dataLt (Pd.toD a) (Pd.toD b) = false → PySem.W.dataLt (Pd.toD b) (Pd.toD a) = false → a = b
class Tis (τ : Type) [Tp τ] [Pq τ] : Prop where
  ti : ∀ {a b : τ}, PySem.W.rowLt (Pq.toDs a) (Pq.toDs b) = false → PySem.W.rowLt (Pq.toDs b) (Pq.toDs a) = false → a = b
instance : Ti Int := ⟨fun {a b} h1 h2 => by
  have h1 : PySem.W.dataLt (.int a) (.int b) = false := h1
  have h2 : PySem.W.dataLt (.int b) (.int a) = false := h2
  rw [PySem.W.dataLt_int, decide_eq_false_iff_not] at h1 h2
  omega⟩
instance : Ti Str := ⟨fun {a b} h1 h2 => by
  have h1 : PySem.W.dataLt (.str a) (.str b) = false := h1
  have h2 : PySem.W.dataLt (.str b) (.str a) = false := h2
  rw [PySem.W.dataLt_str, decide_eq_false_iff_not] at h1 h2
  refine PySem.W.str_of_cps ?_
  exact List.le_antisymm (List.not_lt.mp h2) (List.not_lt.mp h1)⟩
instance : Tis Unit := ⟨fun _ _ => rfl⟩
instance {α τ : Type} [Rp α] [Tp τ] [Pd α] [Pq τ] [Al α] [Ti α] [Tis τ] : Tis (α × τ) := ⟨fun {a b} h1 h2 => by
  have h1 : PySem.W.rowLt (Pd.toD a.1 :: Pq.toDs a.2) (Pd.toD b.1 :: Pq.toDs b.2) = false := h1
  have h2 : PySem.W.rowLt (Pd.toD b.1 :: Pq.toDs b.2) (Pd.toD a.1 :: Pq.toDs a.2) = false := h2
  unfold PySem.W.rowLt at h1 h2
  rw [PySem.W.dataLt_cons (Al.al _ _)] at h1 h2
  by_cases e : a.1 = b.1
  · have e1 : PyData.eqv (Pd.toD a.1) (Pd.toD b.1) = true := (Pd.eqd _ _).mpr e
    have e2 : PyData.eqv (Pd.toD b.1) (Pd.toD a.1) = true := (Pd.eqd _ _).mpr e.symm
    rw [if_pos e1] at h1
    rw [if_pos e2] at h2
    exact Prod.ext e (Tis.ti h1 h2)
  · rw [if_neg (fun z => e ((Pd.eqd _ _).mp z))] at h1
    rw [if_neg (fun z => e ((Pd.eqd _ _).mp z).symm)] at h2
    exact absurd (Ti.ti h1 h2) e⟩
instance {α τ : Type} [Rp α] [Tp τ] [Pd α] [Pq τ] [Al α] [Ti α] [Tis τ] : Ti (α × τ) := ⟨fun {a b} h1 h2 => by
  have h1 : PySem.W.dataLt (.tuple (Pq.toDs a)) (.tuple (Pq.toDs b)) = false := h1
  have h2 : PySem.W.dataLt (.tuple (Pq.toDs b)) (.tuple (Pq.toDs a)) = false := h2
  rw [PySem.W.dataLt_tuple] at h1 h2
  exact Tis.ti (τ := α × τ) h1 h2⟩
theorem leD_anti {α : Type} [Rp α] [Pd α] [Ti α] {a b : α} (h1 : leD a b = true) (h2 : leD b a = true) : a = b := by
  have h1 : (!PySem.W.dataLt (Pd.toD b) (Pd.toD a)) = true := h1
  have h2 : (!PySem.W.dataLt (Pd.toD a) (Pd.toD b)) = true := h2
  rw [Bool.not_eq_true'] at h1 h2
  exact Ti.ti h2 h1
theorem srtD_perm {α : Type} [Rp α] [Pd α] (xs : List α) : (srtD xs).Perm xs := List.mergeSort_perm xs _
theorem srtD_pw {α : Type} [Rp α] [Pd α] (xs : List α) : (srtD xs).Pairwise (fun a b => leD a b = true) := List.pairwise_mergeSort (fun a b c => leD_total.trans a b c) (fun a b => by have := leD_total.total a b; simpa using this) xs
theorem srtD_one {α : Type} [Rp α] [Pd α] [Ti α] {xs ys : List α} (p : ys.Perm xs) (s : ys.Pairwise (fun a b => leD a b = true)) : ys = srtD xs :=
  List.Perm.eq_of_pairwise (le := fun a b : α => leD a b = true) (fun a b _ _ h1 h2 => leD_anti h1 h2) s (srtD_pw xs) (p.trans (srtD_perm xs).symm)
theorem leD_str (a b : Str) : leD a b = decide (a.cps.toList ≤ b.cps.toList) := by
  have := congrFun (congrFun (PySem.W.dataLe_str (fun c : Str => c)) a) b
  exact this
theorem sortedS_pw : ∀ (ys : List Str), PyProof.Rows.sortedS ys = true → ys.Pairwise (fun a b => leD a b = true) := by
  have key : ∀ (ys : List Str) (p : Str), PyProof.Rows.risingS p ys = true → (p :: ys).Pairwise (fun a b => leD a b = true) := by
    intro ys
    induction ys with
    | nil => exact fun p _ => List.pairwise_singleton _ _
    | cons y ys ih =>
      intro p h
      have h : (!ltCps y.cps.toList p.cps.toList && PyProof.Rows.risingS y ys) = true := h
      rw [Bool.and_eq_true] at h
      have h2 := ih y h.2
      have h1 : leD p y = true := by
        rw [leD_str, decide_eq_true_eq]
        have := h.1
        rw [PyProof.Rows.ltCps_eq, Bool.not_eq_true', decide_eq_false_iff_not] at this
        exact List.not_lt.mp this
      refine List.pairwise_cons.mpr ⟨fun z hz => ?_, h2⟩
      rcases List.mem_cons.mp hz with rfl | hz
      · exact h1
      · exact leD_total.trans _ _ _ h1 ((List.pairwise_cons.mp h2).1 z hz)
  intro ys h
  match ys, h with
  | [], _ => exact List.Pairwise.nil
  | y :: ys, h => exact key ys y h
/-! rules -/
def skO {β : Type} (d : Dc Str β) : Option (List Str) := if d.l.length < 64 then some (srtD (d.l.map (·.1))) else none
def dmO (a b : Int) : Option (Int × Int × Unit) := if 0 < b ∧ b < 1073741824 then some (a / b, a % b, ()) else none
def strIO (n : Int) : Option Str := if n.natAbs.log2 < 1920 then some ((toString n : String) : Str) else none
def zfO (s : Str) (n : Int) : Option Str := if PadOk n = true then some (Txt.zfill s n) else none
section
variable {K : Fg} {F Kn0 : Hp} {sl sl' : List Sl} {ow ow1 ow2 : List Ow} {α β γ τ : Type} [Rp α] [Rp β] [Rp γ] [Tp τ] {ta : TA} {ta1 tb te ti tk : TE} {D : Ends} {t : TS} {i j : Nat} {p : Addr}
theorem ev_sumVals {d : Dc Str Int} (h : EV K F Kn0 sl ow te d) : EV K F Kn0 sl ow (tSumVals te) (d.l.map (·.2)).sum := fun σ Kn H s Q q => h σ Kn H s _ fun v Kn1 H1 g1 r1 => by
  obtain ⟨p, ws, rfl, h3, h4⟩ := r1
  refine ⟨p, ws, d.l.map (·.2), rfl, rd_ex g1.kh h3, ?_, q _ Kn1 H1 g1 rfl⟩
  unfold DK at h4
  clear h3 q h
  generalize d.l = kvs at h4
  induction h4 with
  | nil => rfl
  | cons r _ ih =>
    rw [List.map_cons, List.map_cons, List.map_cons, ih]
    congr 1
    exact r.2
theorem dk_keys {H : Hp} {ws : List (Key × V)} {kvs : List (Str × β)} (h : DK K H ws kvs) : ws.map (·.1) = (kvs.map (·.1)).map Sum.inr := by
  unfold DK at h
  induction h with
  | nil => rfl
  | cons r _ ih =>
    rw [List.map_cons, List.map_cons, List.map_cons, ih]
    congr 1
    exact r.1
theorem sk_fin {d : Dc Str β} {zs : List Str} (hz : skO d = some zs) {Kn H : Hp} {p : Addr} {ws : List (Key × V)} (ek : Ex Kn H) (hp : Rd H p (.dK ws)) (h4 : DK K Kn ws d.l) {Q : VK} (q : RL K Kn H Q zs) : rSortedK [.ref p] H Q := by
  unfold skO at hz
  split at hz
  case isFalse => cases hz
  rename_i hl
  cases hz
  refine ⟨p, ws, d.l.map (·.1), rfl, hp, dk_keys h4, by rw [List.length_map]; exact hl, fun ys l pm so hl2 => ?_⟩
  have e := srtD_one pm (sortedS_pw ys so)
  subst e
  exact q l _ Kn _ (Gr.newU ek hl2) hl2 (fresh_back ek hl2) upd_same (fl_paired _)
theorem rc_sortK {d : Dc Str β} {zs : List Str} (hz : skO d = some zs) : RCL K rSortedK (d, ()) zs := fun Kn H vs ek hv Q q => by
  obtain ⟨v, rfl, l, ws, rfl, h1, h2⟩ := one_arg hv
  exact sk_fin hz ek (rd_ex ek h1) h2 q
theorem en_sortKO {d : Dc Str β} {zs : List Str} (hi : sl[i]? = some (.at p)) (hj : ow[j]? = some (oo p d)) (hz : skO d = some zs) : EN K F Kn0 sl ow (tCB rSortedK (tCons (tVar i) tNil)) zs := fun σ Kn H s Q q => by
  obtain ⟨o, h1, h2⟩ := s.sl.get hi
  obtain ⟨f1, f2, ob, f3, ws, f4, f5⟩ := s.ow.each _ (List.mem_of_getElem? hj)
  subst f4
  exact ⟨.ref p, by rw [h1]; exact congrArg some h2, sk_fin hz s.ek (Rd.of f3) f5 q⟩
theorem rc_divmod {a b : Int} {r : Int × Int × Unit} (h : dmO a b = some r) : RCV K (fun xs H Q => ∃ i j, xs = [.int i, .int j] ∧ CDiv i j ∧ ∀ p, H p = none → Q (.ref p) (upd H p (.tup [.int (i / j), .int (i % j)]))) (a, b, ()) r := fun Kn H vs ek hv Q q => by
  obtain ⟨v, w, rfl, h1, h2⟩ := two_args hv
  cases h1
  cases h2
  unfold dmO at h
  split at h
  case isFalse => cases h
  rename_i hb
  cases h
  exact ⟨a, b, rfl, hb, fun p hp => q _ _ _ (Gr.new ek hp) ⟨p, _, rfl, upd_same, .int (a / b), _, rfl, rfl, .int (a % b), _, rfl, rfl, rfl⟩⟩
theorem rc_strI {n : Int} {r : Str} (h : strIO n = some r) : RCV K (fun xs H Q => ∃ i, xs = [.int i] ∧ i.natAbs.log2 < 1920 ∧ Q (.str (toString i)) H) (n, ()) r := fun Kn H vs ek hv Q q => by
  obtain ⟨v, rfl, h1⟩ := one_arg hv
  cases h1
  unfold strIO at h
  split at h
  case isFalse => cases h
  rename_i hb
  cases h
  exact ⟨n, rfl, hb, q.fl ek⟩
theorem ev_zfill {x r : Str} {n : Int} (h : EV K F Kn0 sl ow te x) (hn : EV K F Kn0 sl ow tb n) (hz : zfO x n = some r) : EV K F Kn0 sl ow (tBM K "str" (fun x xs H Q => ∃ (a : Str) (i : Int), x = .str a ∧ xs = [.int i] ∧ PadOk i = true ∧ Q (.str (Txt.zfill a i)) H) te (tCons tb tNil)) r := fun σ Kn H s Q q =>
  h σ Kn H s _ fun v Kn1 H1 g1 r1 => by
    cases r1
    refine ⟨rfl, hn σ Kn1 H1 (s.grow g1) _ fun w Kn2 H2 g2 r2 => ?_⟩
    cases r2
    unfold zfO at hz
    split at hz
    case isFalse => cases hz
    rename_i hb
    cases hz
    exact ⟨x, n, rfl, rfl, hb, q _ Kn2 H2 (g1.trans g2) rfl⟩
/-- d[k] += c -/
theorem sb_daug {κ : Type} [Rp κ] [Ky κ] [DecidableEq κ] {d d' : Dc κ Int} {k : κ} {y c : Int} (hi : sl[i]? = some (.at p)) (hj : ow[j]? = some (oo p d)) (hk : EV K F Kn0 sl ow tk k) (hy : getD d.l k = some y) (h : EV K F Kn0 sl ow te c) (hx : putO d k (y + c) = some d') (ho : ow.set j (oo p d') = ow1) (n : SN K F Kn0 sl ow1 D) :
    SB K F Kn0 sl ow D (sDAug (tVar i) tk te L2.rAdd) := fun σ Kn H s => by
  obtain ⟨o, h1, h2⟩ := s.sl.get hi
  refine ⟨.ref p, by rw [h1]; exact congrArg some h2, hk σ Kn H s _ fun w Kn1 H1 g1 r1 => ?_⟩
  have s1 := s.grow g1
  obtain ⟨f1, f2, o1, f3, ws, f4, f5⟩ := s1.ow.each _ (List.mem_of_getElem? hj)
  subst f4
  rcases f5.get k with ⟨q1, q2⟩ | ⟨y2, w2, q1, q2, q3⟩
  · rw [q1] at hy
    cases hy
  · rw [q1] at hy
    cases hy
    refine ⟨p, w2, rfl, q2 ▸ Ky.get r1 s1.ek (Rd.of f3), h σ Kn1 H1 s1 _ fun u Kn2 H2 g2 r2 => ?_⟩
    cases r2
    cases q3
    refine ⟨y, c, rfl, rfl, ?_⟩
    have s2 := s1.grow g2
    have f3' : H2 p = some (Ky.ho ws) := g2.hh _ _ f3
    have f2' : Kn2 p = none := g2.sp p (ne_none_of f3) f2
    unfold putO at hx
    split at hx
    case isFalse => cases hx
    rename_i hl
    cases hx
    subst ho
    refine ⟨_, Ky.put (Rp.mono g2.kk r1) s2.ek f3' (by rw [f5.length]; exact lt_line hl), n _ Kn2 _ ?_⟩
    exact s2.writeG hj rfl rfl (Ex.refl _) (upd_in s2.ek f2') (fun q hq _ => upd_ne hq) (fun _ _ h => h) ⟨_, upd_same, _, rfl, DK.put k rfl (DK.mono g2.kk f5)⟩
/-- xs[n] += c -/
theorem sb_augI {xs xs' : List Int} {n a c : Int} {f : Int → Int → Int} (hi : sl[i]? = some (.at p)) (hj : ow[j]? = some (ol p xs)) (hn : EV K F Kn0 sl ow ti n) (ha : atI xs n = some a) (h : EV K F Kn0 sl ow te c) (hx : setI xs n (f a c) = some xs') (ho : ow.set j (ol p xs') = ow1) (k : SN K F Kn0 sl ow1 D) :
    SB K F Kn0 sl ow D (tAugS (tVar i) ti te (rIxL K) (ipI f) rSetL) := fun σ Kn H s => by
  obtain ⟨o, h1, h2⟩ := s.sl.get hi
  refine ⟨.ref p, by rw [h1]; exact congrArg some h2, hn σ Kn H s _ fun w Kn1 H1 g1 r1 => ?_⟩
  cases r1
  have s1 := s.grow g1
  obtain ⟨f1, f2, ws, f3, f4⟩ := s1.ow.each _ (List.mem_of_getElem? hj)
  obtain ⟨u, e, r⟩ := paired_atI f4 ha
  cases r
  refine ⟨p, ws, n, _, rfl, rfl, sq_of f3, e, h σ Kn1 H1 s1 _ fun v Kn2 H2 g2 r2 => ?_⟩
  cases r2
  refine ⟨a, c, rfl, rfl, ?_⟩
  have s2 := s1.grow g2
  have f3' : H2 p = some (.lst ws) := g2.hh _ _ f3
  have f2' : Kn2 p = none := g2.sp p (ne_none_of f3) f2
  unfold setI at hx
  cases em : ixN xs.length n with
  | none => rw [em] at hx; cases hx
  | some m =>
    rw [em] at hx
    cases hx
    subst ho
    refine ⟨p, ws, n, m, rfl, rfl, f3', by rw [paired_len f4]; exact em, k _ Kn2 _ ?_⟩
    exact s2.write hj (Ex.refl _) (upd_in s2.ek f2') (fun q hq _ => upd_ne hq) (fun _ _ h => h) upd_same (paired_set (show rep K Kn2 (V.int (f a c)) (f a c) from rfl) m (paired_mono g2.kk f4))
/-- a dict of one's own: from now on it is known and stays as it is -/
theorem sb_freezeG {κ : Type} [Rp κ] [Ky κ] [DecidableEq κ] {d : Dc κ β} (hi : sl[i]? = some (.at p)) (hj : ow[j]? = some (oo p d)) (hs : sl.set i (sv d) = sl') (ho : ow.eraseIdx j = ow1) (k : SB K F Kn0 sl' ow1 D t) : SB K F Kn0 sl ow D t := fun σ Kn H s => by
  obtain ⟨ob, kp, hp, s1⟩ := s.borrowG hi hj
  subst hs
  subst ho
  exact k σ _ H s1
theorem k_listGet {X : Cx} (h : X.K = K := by rfl) : PGet X (rIxL K) := h ▸ get_list
end
end Wk
namespace Wk
open PySem PySem.Spec L2 Evl
section
variable {X : Cx} {o i value : Expr} {tpos tpos' : Pos} {td ty tv : TE}
theorem k_daug (hu : X.A.units + 64 < cLine) (ho : PE X o td) (hi : PE X i ty) (hv : PE X value tv) (ha : ∀ ov iv new, augStore i ov iv new = (do holding [new, ov, iv] (setItem ov iv new); release [new, ov, iv] []; pure .next)) : PS X (.AugAssign (.Subscript o i tpos) .Add value tpos') (sDAug td ty tv L2.rAdd) := ps_daug (by omega) ho hi hv in_add ha
end
end Wk
/-! Wpair: a def that tells two new lists in a tuple; a comprehension over a list of one's own -/
namespace Wk
open PySem PySem.Spec L2 Evl
structure PairAt {α β : Type} [Rp α] [Rp β] (K : Fg) (Kn H : Hp) (pt p1 p2 : Addr) (xs : List α) (ys : List β) : Prop where
  kt : Kn pt = none
  k1 : Kn p1 = none
  k2 : Kn p2 = none
  ne : p1 ≠ p2
  ht : H pt = some (.tup [.ref p1, .ref p2])
  e1 : ∃ w, H p1 = some (.lst w) ∧ Paired (rep K Kn) w xs
  e2 : ∃ w, H p2 = some (.lst w) ∧ Paired (rep K Kn) w ys
section
variable {α β τ : Type} [Rp α] [Rp β] [Tp τ]
def RP (K : Fg) (Kn H : Hp) (Q : VK) (xs : List α) (ys : List β) : Prop := ∀ pt p1 p2 Kn' H', Gr Kn H Kn' H' → H pt = none → H p1 = none → H p2 = none → PairAt K Kn' H' pt p1 p2 xs ys → Q (.ref pt) H'
def EP (K : Fg) (F Kn0 : Hp) (sl : List Sl) (ow : List Ow) (te : TE) (xs : List α) (ys : List β) : Prop := ∀ σ Kn H, S K F Kn0 sl ow σ Kn H → ∀ Q : VK, RP K Kn H Q xs ys → te σ H Q
def PP (K : Fg) (f : τ → Option (List α × List β × Unit)) : Sp := fun vs H Q _ => ∃ Kn t r, Ex Kn H ∧ rept K Kn vs t ∧ f t = some r ∧ RP K Kn H Q r.1 r.2.1
def RNP (K : Fg) (F Kn0 : Hp) (ow : List Ow) (R : VK) (xs : List α) (ys : List β) : Prop := ∀ pt p1 p2 Kn H, S K F Kn0 [] ow [] Kn H → F pt = none → F p1 = none → F p2 = none → PairAt K Kn H pt p1 p2 xs ys → R (.ref pt) H
end
section
variable {K : Fg} {F F' Kn0 Kn1 : Hp} {sl sl' : List Sl} {ow ow0 ow1 : List Ow} {α β γ τ : Type} [Rp α] [Rp β] [Rp γ] [Tp τ] {ta : TA} {te : TE} {t : τ} {E : XK} {D : Ends} {i j k1 k2 : Nat} {p p1 p2 : Addr} {xs : List α} {ys : List β}
theorem RNP.base {R : VK} (q : RNP K F Kn0 ow R xs ys) (b : Bs F Kn0 Kn1) : RNP K F Kn1 ow R xs ys := fun pt p1 p2 Kn H s => q pt p1 p2 Kn H (s.unbase b)
theorem RNP.fr {R : VK} (f : Fle F F') (q : RNP K F Kn0 ow0 R xs ys) : RNP K F' Kn0 ow0 R xs ys := fun pt p1 p2 Kn H s h1 h2 h3 h4 => q pt p1 p2 Kn H (s.back f) (fresh_back f h1) (fresh_back f h2) (fresh_back f h3) h4
theorem rnp_of {H Kn : Hp} {Q : VK} (q : RP K Kn H Q xs ys) : RNP K H Kn [] Q xs ys := fun pt p1 p2 Kn' H' s h1 h2 h3 h4 => q pt p1 p2 Kn' H' ⟨s.e0, s.ef, s.ek, s.sep⟩ h1 h2 h3 h4
theorem ep_call {f : τ → Option (List α × List β × Unit)} {r : List α × List β × Unit} (h : EA K F Kn0 sl ow ta t) (hf : f t = some r) : EP K F Kn0 sl ow (tCall (PP K f) [] E ta) r.1 r.2.1 := fun σ Kn H s Q q =>
  h σ Kn H s _ fun vs Kn1 H1 g1 r1 => by
    show PP K f (vs ++ []) H1 Q E
    rw [List.append_nil]
    exact ⟨Kn1, t, r, g1.kh, r1, hf, fun pt p1 p2 Kn' H' g' h1 h2 h3 h4 => q pt p1 p2 Kn' H' (g1.trans g') (fresh_back g1.hh h1) (fresh_back g1.hh h2) (fresh_back g1.hh h3) h4⟩
theorem EP.ev (h : EP K F Kn0 sl ow te xs ys) : EV K F Kn0 sl ow te (xs, ys, ()) := fun σ Kn H s Q q => h σ Kn H s Q fun pt p1 p2 Kn' H' g f0 f1 f2 a => by
  obtain ⟨kt, k1, k2, ne, ht, ⟨w1, e1, r1⟩, ⟨w2, e2, r2⟩⟩ := a
  have n1 : pt ≠ p1 := fun z => by rw [z, e1] at ht; cases ht
  have n2 : pt ≠ p2 := fun z => by rw [z, e2] at ht; cases ht
  have ga := g.know f1 k1 e1
  have kb : upd Kn' p1 (.lst w1) p2 = none := by rw [upd_ne (Ne.symm ne)]; exact k2
  have gb := ga.know f2 kb e2
  have kc : upd (upd Kn' p1 (.lst w1)) p2 (.lst w2) pt = none := by rw [upd_ne n2, upd_ne n1]; exact kt
  have gc := gb.know f0 kc ht
  have x1 : Ex Kn' (upd Kn' p1 (.lst w1)) := Ex.new k1
  have x2 : Ex (upd Kn' p1 (.lst w1)) (upd (upd Kn' p1 (.lst w1)) p2 (.lst w2)) := Ex.new kb
  have x3 := Ex.new (o := .tup [.ref p1, .ref p2]) kc
  have x := (x1.trans x2).trans x3
  refine q _ _ H' gc ⟨pt, _, rfl, upd_same, .ref p1, _, rfl, ⟨p1, w1, rfl, ?_, paired_mono x r1⟩, .ref p2, _, rfl, ⟨p2, w2, rfl, ?_, paired_mono x r2⟩, rfl⟩
  · exact x3 _ _ (x2 _ _ upd_same)
  · exact x3 _ _ upd_same
theorem EP.cast {xs' : List α} {ys' : List β} (h : EP K F Kn0 sl ow te xs ys) (e1 : xs = xs') (e2 : ys = ys') : EP K F Kn0 sl ow te xs' ys' := e1 ▸ e2 ▸ h
/-- a, b = f(..), both one's own -/
theorem sb_unpP {sl' : Addr → Addr → List Sl} (hs : ∀ p1 p2, (sl.set i (.at p1)).set j (.at p2) = sl' p1 p2) (h : EP K F Kn0 sl ow te xs ys) (k : ∀ p1 p2, SN K F Kn0 (sl' p1 p2) (ol p1 xs :: ol p2 ys :: ow) D) :
    SB K F Kn0 sl ow D (tAsg te (gTup K 2 (gCons (gName i) (gCons (gName j) gNil)))) := fun σ Kn H s => h σ Kn H s _ fun pt p1 p2 Kn' H' g f0 f1 f2 a => by
  obtain ⟨kt, k1, k2, ne, ht, ⟨w1, e1, r1⟩, ⟨w2, e2, r2⟩⟩ := a
  have s1 := s.grow g
  have s2 := s1.own (fresh_back s.ef f2) k2 (owned_ne s f2) e2 r2
  have s3 := s2.own (p := p1) (fresh_back s.ef f1) k1 (fun o ho z => by
    rcases List.mem_cons.mp ho with rfl | ho
    · exact ne z.symm
    · exact owned_ne s f1 o ho z) e1 r1
  exact ⟨pt, _, rfl, st_of ht, rfl, .ref p1, _, rfl, .ref p2, _, rfl, rfl, k p1 p2 _ Kn' H' (hs p1 p2 ▸ (s3.seta (p := p1) i).seta (p := p2) j)⟩
/-- return (a, b), both one's own -/
theorem sb_retP {R : VK} (hi : sl[i]? = some (.at p1)) (hj : sl[j]? = some (.at p2)) (h1 : ow[k1]? = some (ol p1 xs)) (h2 : ow[k2]? = some (ol p2 ys)) (hk : k1 ≠ k2) (q : RNP K F Kn0 ow0 R xs ys) (l : ow0.Sublist ow) (hR : D.rt = R := by rfl) :
    SB K F Kn0 sl ow D (tRet (tTup (tCons (tVar i) (tCons (tVar j) tNil)))) := fun σ Kn H s => by
  subst hR
  obtain ⟨o1, a1, a2⟩ := s.sl.get hi
  obtain ⟨o2, b1, b2⟩ := s.sl.get hj
  obtain ⟨f1, f2, w1, f3, f4⟩ := s.ow.each _ (List.mem_of_getElem? h1)
  obtain ⟨g1, g2, w2, g3, g4⟩ := s.ow.each _ (List.mem_of_getElem? h2)
  have f1 : F p1 = none := f1
  have f2 : Kn p1 = none := f2
  have g1 : F p2 = none := g1
  have g2 : Kn p2 = none := g2
  have ne : p1 ≠ p2 := fun z => hk (ow_at s.ow.nd h1 h2 z)
  refine ⟨.ref p1, by rw [a1]; exact congrArg some a2, .ref p2, by rw [b1]; exact congrArg some b2, by show 2 ≤ sizeLine; exact le_line (by decide), fun pt hp => ?_⟩
  have g : Gr Kn H Kn (upd H pt (.tup [.ref p1, .ref p2])) := Gr.newU s.ek hp
  exact q pt p1 p2 Kn _ ((s.grow g).sub l).fin (fresh_back s.ef hp) f1 g1 ⟨fresh_back s.ek hp, f2, g2, ne, upd_same, ⟨w1, g.hh _ _ f3, f4⟩, ⟨w2, g.hh _ _ g3, g4⟩⟩
/-- [.. for x in xs], xs one's own -/
theorem en_lcO {xs : List β} {zs : List γ} {c : β → Option Bool} {f : β → Option γ} {g : TG} {js vs : List Nat} {tt : TT} (hi : sl[i]? = some (.at p)) (hjw : ow[j]? = some (ol p xs)) (gx : β → List Sl) (hm : lcM c f xs = some zs) (hv : ∀ j ∈ vs, sl[j]? = some .any) (hg : ∀ x, GT K g sl (gx x) js x) (hj : ∀ j ∈ js, j ∈ vs)
    (ht : ∀ p (acc : List γ) x b, c x = some b → ET K F Kn0 (gx x) (ol p acc :: ow) tt b) (he : ∀ p (acc : List γ) x z, c x = some true → f x = some z → EV K F Kn0 (gx x) (ol p acc :: ow) te z) :
    EN K F Kn0 sl ow (tLc (iList K (tVar i)) g tt te vs) zs := fun σ Kn H s Q q => by
  unfold lcM at hm
  split at hm
  case isFalse => cases hm
  rename_i hlen
  obtain ⟨o1, a1, a2⟩ := s.sl.get hi
  obtain ⟨b1, b2, w0, b3, b4⟩ := s.ow.each _ (List.mem_of_getElem? hjw)
  refine ⟨.ref p, by rw [a1]; exact congrArg some a2, p, rfl, ⟨w0, sq_of b3⟩, fun D hD => ?_⟩
  have kD : Kn D = none := fresh_back s.ek hD
  have fD : F D = none := fresh_back s.ef hD
  have W : ∀ i Kn' H', Gr Kn H Kn' H' → (∀ x, xs[i]? = some x → (Itl K p).go i H' ∧ ∀ v H2, (Itl K p).yld i H' v H2 → ∃ Kn2, Gr Kn' H' Kn2 H2 ∧ rep K Kn2 v x) ∧ (xs.length ≤ i → (Itl K p).stop i H') := fun i Kn' H' gr => by
    have hq : SqL K H' p w0 := sq_of (gr.hh _ _ b3)
    refine ⟨fun x hx => ?_, fun hl => ⟨w0, hq, by rw [paired_len b4]; exact hl⟩⟩
    obtain ⟨v, hv, rv⟩ := paired_at b4 hx
    refine ⟨⟨w0, v, hq, hv⟩, fun u H2 hy => ?_⟩
    obtain ⟨rfl, f⟩ := hy
    have : v = u := Option.some.inj (hv.symm.trans (f w0 hq))
    subst this
    exact ⟨Kn', Gr.refl gr.kh, Rp.mono gr.kk rv⟩
  refine ⟨fun i m H' => i + m = xs.length ∧ ∃ Kn' ws acc rest, Gr Kn H Kn' H' ∧ Kn' D = none ∧ H' D = some (.lst ws) ∧ Paired (rep K Kn') ws acc ∧ acc.length ≤ i ∧ lcGo c f (xs.drop i) = some rest ∧ acc ++ rest = zs,
    ⟨xs.length, by omega, Kn, [], [], zs, (Gr.newU s.ek hD), kD, upd_same, .nil, Nat.le_refl _, hm, rfl⟩, fun i m H' hW => ?_⟩
  obtain ⟨em, Kn', ws, acc, rest, gr, kD', hD', rp, hal, hrest, hz⟩ := hW
  have s' : S K F Kn0 sl (ol D acc :: ow) σ Kn' H' := (s.grow gr).own fD kD' (owned_ne s hD) hD' rp
  by_cases hlt : i < xs.length
  · have hx : xs[i]? = some xs[i] := List.getElem?_eq_getElem hlt
    have hd : xs.drop i = xs[i] :: xs.drop (i + 1) := List.drop_eq_getElem_cons hlt
    rw [hd] at hrest
    obtain ⟨b, hb, hrest⟩ := bind_some hrest
    obtain ⟨go, yl⟩ := (W i Kn' H' gr).1 _ hx
    refine .inr ⟨go, fun H'' => ∃ Kn' ws acc rest, Gr Kn H Kn' H'' ∧ Kn' D = none ∧ H'' D = some (.lst ws) ∧ Paired (rep K Kn') ws acc ∧ acc.length ≤ i + 1 ∧ lcGo c f (xs.drop (i + 1)) = some rest ∧ acc ++ rest = zs, fun H'' h => ⟨m - 1, by omega, by omega, h⟩, fun v H2 hy => ?_⟩
    obtain ⟨Kn2, g2, rv⟩ := yl v H2 hy
    have s2 := (s'.grow g2).wipe hv
    refine hg _ _ Kn2 H2 v s2.sl s2.ek rv _ fun σ3 h3 hw3 => ?_
    have s3 := s2.slots h3
    have hDn : H' D ≠ none := ne_none_of hD'
    refine ⟨(hw3 vs hj).trans ?_, ht D acc _ b hb σ3 Kn2 H2 s3 _ fun Kn3 H3 g3 => ?_⟩
    · have ww : ∀ (vs us : List Nat) (σ : L2.St), (∀ j ∈ vs, j ∈ us) → L2.wipe (L2.wipe σ vs) us = L2.wipe σ us := by
        intro vs
        induction vs with
        | nil => intro us σ _; rfl
        | cons a r ih =>
          intro us σ hh
          show L2.wipe ((L2.wipe σ r).set a none) us = L2.wipe σ us
          rw [wipe_set (hh a List.mem_cons_self)]
          exact ih us σ fun j hj => hh j (List.mem_cons_of_mem _ hj)
      exact ww vs vs σ fun _ h => h
    · have g123 : Gr Kn H Kn3 H3 := (gr.trans g2).trans g3
      have kD3 : Kn3 D = none := (g2.trans g3).sp D hDn kD'
      have hD3 : H3 D = some (.lst ws) := (g2.trans g3).hh _ _ hD'
      cases b with
      | true =>
        obtain ⟨z, hfz, hrest⟩ := bind_some (show (f xs[i]).bind _ = some rest from hrest)
        obtain ⟨zs', hzs, hrest⟩ := bind_some hrest
        cases hrest
        refine iteT (he D acc _ z hb hfz σ3 Kn3 H3 (s3.grow g3) _ fun y Kn4 H4 g4 ry => ?_)
        have g234 := (g2.trans g3).trans g4
        have kD4 : Kn4 D = none := g4.sp D (ne_none_of hD3) kD3
        refine ⟨ws, g4.hh _ _ hD3, by rw [paired_len rp]; exact lt_line (by omega), Kn4, ws ++ [y], acc ++ [z], zs', (gr.trans g234).mut hD kD4, kD4, upd_same, paired_append (paired_mono g234.kk rp) (.cons ry .nil), ?_, hzs, ?_⟩
        · rw [List.length_append, List.length_singleton]; omega
        · rw [List.append_assoc]; exact hz
      | false =>
        have hrest : lcGo c f (xs.drop (i + 1)) = some rest := hrest
        exact iteF ⟨Kn3, ws, acc, rest, g123, kD3, hD3, paired_mono (g2.trans g3).kk rp, by omega, hrest, hz⟩
  · have hd : xs.drop i = [] := List.drop_eq_nil_of_le (by omega)
    rw [hd] at hrest
    cases hrest
    rw [List.append_nil] at hz
    subst hz
    exact .inl ⟨(W i Kn' H' gr).2 (by omega), q D ws Kn' H' gr hD kD' hD' rp⟩
end
end Wk
/-! Wdict: a dict walked (it is locked on the way), its values and pairs; a def that tells a new dict; dict(d); dicts alike -/
namespace L2
open PySem PySem.Spec PyProof.Rows
/-- lock it, or it is locked already -/
def tLk (t : TS) : TS := fun D σ H => tLock t D σ H ∨ t D σ H
def tLkE (t : TE) : TE := fun σ H Q => tLockE t σ H Q ∨ t σ H Q
theorem ps_lk {X : Cx} {st : Stmt} {t : TS} (h : PS X st t) : PS X st (tLk t) := by
  refine ⟨fun pins s σ H D I hw => ?_⟩
  rcases hw with hw | hw
  · exact (ps_lock h).run pins s σ H D I hw
  · exact h.run pins s σ H D I hw
theorem pe_lk {X : Cx} {e : Expr} {t : TE} (h : PE X e t) : PE X e (tLkE t) := by
  refine ⟨fun pins s σ H Q I hw => ?_⟩
  rcases hw with hw | hw
  · exact (pe_lock h).run pins s σ H Q I hw
  · exact h.run pins s σ H Q I hw
section
variable {X : Cx}
def rEqDR (r : Bool) : R2 := fun x y H Q => ∃ a b ks ls, x = .ref a ∧ y = .ref b ∧ Rd H a (.dK ks) ∧ Rd H b (.dK ls) ∧ ks.length = ls.length ∧ (∀ p ∈ ks, valV ls p.1 = some p.2 ∧ flatB p.2 = true) ∧ Q (.bl r) H
theorem op_eq_dictR (hu : X.A.units + 64 < cLine) : OpR X (compareOp .Eq) (rEqDR true) := by
  intro pins s σ H x y v u Q I rx ry h
  obtain ⟨a, b, ks, ls, rfl, rfl, ea, eb, hlen, hp, q⟩ := h
  obtain rfl : v = Value.ref a := rx
  obtain rfl : u = Value.ref b := ry
  obtain ⟨_, ya, va, ra, da⟩ := dk_rd I.hok ea
  obtain ⟨_, yb, vb, rb, db⟩ := dk_rd I.hok eb
  have hl : va.length = vb.length := by rw [← ra.length, ← rb.length]; exact hlen
  exact PySem.W.keq_eq (knd := mixKind X.prog X.w) (r := true) ya yb da db (by omega) (fun _ => hits_all rb ra hp) (fin_bl I q (by simp [hl]))
theorem op_ne_dictR (hu : X.A.units + 64 < cLine) : OpR X (compareOp .NotEq) (rEqDR false) := by
  intro pins s σ H x y v u Q I rx ry h
  obtain ⟨a, b, ks, ls, rfl, rfl, ea, eb, hlen, hp, q⟩ := h
  obtain rfl : v = Value.ref a := rx
  obtain rfl : u = Value.ref b := ry
  obtain ⟨_, ya, va, ra, da⟩ := dk_rd I.hok ea
  obtain ⟨_, yb, vb, rb, db⟩ := dk_rd I.hok eb
  have hl : va.length = vb.length := by rw [← ra.length, ← rb.length]; exact hlen
  exact PySem.W.keq_ne (knd := mixKind X.prog X.w) (r := true) ya yb da db (by omega) (fun _ => hits_all rb ra hp) (fin_bl I q (by simp [hl]))
end
end L2
namespace Wk
open PySem PySem.Spec L2 Evl
/-- where it may be walked, and how its results go back -/
structure Mv (K : Fg) (F Kn0 : Hp) (R : VK) (F' Kn1 : Hp) (R' : VK) : Prop where
  fn : ∀ q, F' q = none → F q = none
  st : ∀ sl ow σ Kn H, S K F' Kn1 sl ow σ Kn H → ∃ Kn' H', S K F Kn0 sl ow σ Kn' H' ∧ (∀ v, R v H' → R' v H) ∧ Sw Kn Kn' ∧ ∀ q, Kn q = none → Kn' q = none ∧ H' q = H q
section
variable {K : Fg} {F Kn0 F' Kn1 : Hp} {R R' : VK} {ow0 : List Ow} {α β : Type} [Rp α] [Rp β]
theorem RT.mv {x : α} (q : RT K F Kn0 ow0 R x) (m : Mv K F Kn0 R F' Kn1 R') : RT K F' Kn1 ow0 R' x := fun v Kn H s r => by
  obtain ⟨Kn', H', s', h1, h2, h3⟩ := m.st _ _ _ _ _ s
  exact h1 v (q v Kn' H' s' (Rp.swap h2 r))
theorem RN.mv {xs : List α} (q : RN K F Kn0 ow0 R xs) (m : Mv K F Kn0 R F' Kn1 R') : RN K F' Kn1 ow0 R' xs := fun p ws Kn H s fp kp hp r => by
  obtain ⟨Kn', H', s', h1, h2, h3⟩ := m.st _ _ _ _ _ s
  exact h1 _ (q p ws Kn' H' s' (m.fn p fp) (h3 p kp).1 ((h3 p kp).2.trans hp) (paired_swap h2 r))
theorem RNP.mv {xs : List α} {ys : List β} (q : RNP K F Kn0 ow0 R xs ys) (m : Mv K F Kn0 R F' Kn1 R') : RNP K F' Kn1 ow0 R' xs ys := fun pt p1 p2 Kn H s f0 f1 f2 a => by
  obtain ⟨Kn', H', s', h1, h2, h3⟩ := m.st _ _ _ _ _ s
  obtain ⟨kt, k1, k2, ne, ht, ⟨w1, e1, r1⟩, ⟨w2, e2, r2⟩⟩ := a
  exact h1 _ (q pt p1 p2 Kn' H' s' (m.fn _ f0) (m.fn _ f1) (m.fn _ f2) ⟨(h3 _ kt).1, (h3 _ k1).1, (h3 _ k2).1, ne, (h3 _ kt).2.trans ht, ⟨w1, (h3 _ k1).2.trans e1, paired_swap h2 r1⟩, ⟨w2, (h3 _ k2).2.trans e2, paired_swap h2 r2⟩⟩)
end
def lk (F : Hp) (p : Addr) (o : HO) : Hp := fun q => if q = p then (if F p = none then none else some o) else F q
theorem lk_ne {F : Hp} {p q : Addr} {o : HO} (h : q ≠ p) : lk F p o q = F q := if_neg h
theorem lk_none {F : Hp} {p q : Addr} {o : HO} : lk F p o q = none ↔ F q = none := by
  by_cases h : q = p
  · subst h
    unfold lk
    rw [if_pos rfl]
    constructor
    · intro h
      split at h
      · assumption
      · cases h
    · intro h
      rw [if_pos h]
  · rw [lk_ne h]
section
variable {K : Fg} {F Kn0 : Hp} {sl sl' : List Sl} {ow ow1 : List Ow} {σ : L2.St} {Kn H Kn1 Kn2 H2 : Hp} {p : Addr} {u : HO} {od : Obj}
theorem sw_lock (hu : isDk u) (hk : Kn p = some u) : Sw Kn (upd Kn p (.frz od u)) := fun q w h => by
  by_cases e : q = p
  · subst e
    rw [hk] at h
    cases h
    exact .inr ⟨od, u, hu, .inl ⟨rfl, upd_same⟩⟩
  · exact .inl (by rw [upd_ne e]; exact h)
theorem sw_unlock (hu : isDk u) (hk : Kn p = some (.frz od u)) : Sw Kn (upd Kn p u) := fun q w h => by
  by_cases e : q = p
  · subst e
    rw [hk] at h
    cases h
    exact .inr ⟨od, u, hu, .inr ⟨rfl, upd_same⟩⟩
  · exact .inl (by rw [upd_ne e]; exact h)
theorem S.lock (s : S K F Kn0 sl ow σ Kn H) (hu : isDk u) (hk : Kn p = some u) : S K (lk F p (.frz od u)) (upd Kn p (.frz od u)) sl ow σ (upd Kn p (.frz od u)) (upd H p (.frz od u)) := by
  refine ⟨Ex.refl _, fun a w h => ?_, fun a w h => ?_, fun _ _ h => h, s.sl.swap (sw_lock hu hk), ⟨fun o ho => ?_, s.ow.nd⟩⟩
  · by_cases e : a = p
    · subst e
      rw [upd_same] at h ⊢
      exact h
    · rw [upd_ne e] at h ⊢
      exact s.ek _ _ h
  · by_cases e : a = p
    · subst e
      unfold lk at h
      rw [if_pos rfl] at h
      split at h
      · cases h
      · rw [upd_same]
        exact h
    · rw [lk_ne e] at h
      rw [upd_ne e]
      exact s.ef _ _ h
  · obtain ⟨h1, h2, h3⟩ := s.ow.each o ho
    have hne : o.ad ≠ p := fun z => by rw [z, hk] at h2; cases h2
    exact ⟨lk_none.mpr h1, by rw [upd_ne hne]; exact h2, Ow.ok_swap (sw_lock hu hk) (upd_ne hne) h3⟩
theorem S.unlock (hu : isDk u) (hk : Kn p = some u) (hF : ∀ o, F p = some o → o = u) (s : S K (lk F p (.frz od u)) (upd Kn p (.frz od u)) sl ow σ Kn2 H2) : S K F Kn sl ow σ (upd Kn2 p u) (upd H2 p u) := by
  have hp : Kn2 p = some (.frz od u) := s.e0 _ _ upd_same
  refine ⟨fun a w h => ?_, fun a w h => ?_, fun a w h => ?_, fun a h1 h2 => ?_, s.sl.swap (sw_unlock hu hp), ⟨fun o ho => ?_, s.ow.nd⟩⟩
  · by_cases e : a = p
    · subst e
      rw [upd_same, ← hk]
      exact h
    · rw [upd_ne e]
      exact s.e0 _ _ (by rw [upd_ne e]; exact h)
  · by_cases e : a = p
    · subst e
      rw [upd_same] at h ⊢
      exact h
    · rw [upd_ne e] at h ⊢
      exact s.ek _ _ h
  · by_cases e : a = p
    · subst e
      rw [hF _ h, upd_same]
    · rw [upd_ne e]
      exact s.ef _ _ (by rw [lk_ne e]; exact h)
  · have e : a ≠ p := fun z => by rw [z, hk] at h2; cases h2
    rw [upd_ne e]
    exact s.sep a (fun z => h1 (lk_none.mp z)) (by rw [upd_ne e]; exact h2)
  · obtain ⟨h1, h2, h3⟩ := s.ow.each o ho
    have hne : o.ad ≠ p := fun z => by rw [z, hp] at h2; cases h2
    exact ⟨lk_none.mp h1, by rw [upd_ne hne]; exact h2, Ow.ok_swap (sw_unlock hu hp) (upd_ne hne) h3⟩
theorem mv_lock {R : VK} (b : Bs F Kn0 Kn) (hu : isDk u) (hk : Kn p = some u) (hF : ∀ o, F p = some o → o = u) (b2 : Bs (lk F p (.frz od u)) (upd Kn p (.frz od u)) Kn1) : Mv K F Kn0 R (lk F p (.frz od u)) Kn1 (fun v H' => H' p = some (.frz od u) ∧ R v (upd H' p u)) := by
  refine ⟨fun q h => lk_none.mp h, fun sl ow σ Kn2 H2 s => ?_⟩
  have s2 := s.unbase b2
  have hp : Kn2 p = some (.frz od u) := s2.e0 _ _ upd_same
  refine ⟨_, _, (S.unlock hu hk hF s2).unbase b, fun v h => ⟨s.ek _ _ hp, h⟩, sw_unlock hu hp, fun q h => ?_⟩
  have e : q ≠ p := fun z => by rw [z, hp] at h; cases h
  rw [upd_ne e, upd_ne e]
  exact ⟨h, rfl⟩
theorem mv_base {R : VK} (b : Bs F Kn0 Kn1) : Mv K F Kn0 R F Kn1 R :=
  ⟨fun _ h => h, fun sl ow σ Kn H s => ⟨Kn, H, s.unbase b, fun _ h => h, fun q u h => .inl h, fun q h => ⟨h, rfl⟩⟩⟩
end
/-! ### what is walked of a dict -/
class KB (κ : Type) [Rp κ] [K1 κ] : Prop where
  back : ∀ {K : Fg} {H : Hp} (a : κ), rep K H (kV (K1.key a)) a
instance : KB Int := ⟨fun _ => rfl⟩
instance : KB Str := ⟨fun _ => rfl⟩
section
variable {κ β γ : Type} [Rp κ] [K1 κ] [KB κ] [Rp β] [Rp γ] {K : Fg} {F Kn0 : Hp} {sl sl' : List Sl} {ow ow1 : List Ow} {σ : L2.St} {Kn H Kn1 : Hp} {p : Addr} {i : Nat}
structure DIt (K : Fg) (i : Nat) (d : Dc κ β) {γ : Type} [Rp γ] (wi : TI) (J : Addr → Obj → List (Key × V) → It) (xs : List γ) : Prop where
  w : ∀ (σ : L2.St) (H : Hp) (R : It → Hp → Prop) (p : Addr) (od : Obj) (ws : List (Key × V)), σ[i]? = some (some (.ref p)) → H p = some (.frz od (.dK ws)) → R (J p od ws) H → wi σ H R
  k : ∀ {Kn : Hp} {p : Addr} {od : Obj} {ws : List (Key × V)}, Kn p = some (.frz od (.dK ws)) → DK K Kn ws d.l → WK K Kn (J p od ws) xs
theorem dk_at {ws : List (Key × V)} {kvs : List (κ × β)} (h : DK K Kn ws kvs) {n : Nat} {y : κ × β} (e : kvs[n]? = some y) : ∃ v, ws[n]? = some (K1.key y.1, v) ∧ rep K Kn v y.2 := by
  unfold DK at h
  induction h generalizing n with
  | nil => cases e
  | @cons w kv ws kvs q t ih =>
    cases n with
    | zero =>
      cases e
      exact ⟨w.2, by rw [List.getElem?_cons_zero]; exact congrArg some (Prod.ext q.1 rfl), q.2⟩
    | succ n =>
      obtain ⟨v, h1, h2⟩ := ih (n := n) e
      exact ⟨v, h1, h2⟩
theorem dit_keys {d : Dc κ β} : DIt K i d (iKeys (tVar i)) Itk (d.l.map (·.1)) := by
  refine ⟨fun σ H R p od ws h1 h2 h3 => ⟨.ref p, h1, p, od, rfl, .inl ⟨ws, h2, h3⟩⟩, fun {Kn p od ws} h1 h2 i Kn' H' e1 e2 => ⟨fun x hx => ?_, fun hl => ⟨e2 _ _ (e1 _ _ h1), ?_⟩⟩⟩
  · rw [List.getElem?_map] at hx
    obtain ⟨y, hy, rfl⟩ := Option.map_eq_some_iff.mp hx
    obtain ⟨v, hv, rv⟩ := dk_at h2 hy
    refine ⟨⟨e2 _ _ (e1 _ _ h1), (List.getElem?_eq_some_iff.mp hv).1⟩, fun u H2 hh => ?_⟩
    obtain ⟨rfl, k, v2, e, rfl⟩ := hh
    rw [hv] at e
    cases e
    exact ⟨Kn', Gr.refl e2, KB.back _⟩
  · have := h2.length
    rw [List.length_map] at hl
    omega
theorem dit_vals {d : Dc κ β} : DIt K i d (iVals (tVar i)) Itd (d.l.map (·.2)) := by
  refine ⟨fun σ H R p od ws h1 h2 h3 => ⟨.ref p, h1, p, od, ws, rfl, h2, h3⟩, fun {Kn p od ws} h1 h2 i Kn' H' e1 e2 => ⟨fun x hx => ?_, fun hl => ⟨e2 _ _ (e1 _ _ h1), ?_⟩⟩⟩
  · rw [List.getElem?_map] at hx
    obtain ⟨y, hy, rfl⟩ := Option.map_eq_some_iff.mp hx
    obtain ⟨v, hv, rv⟩ := dk_at h2 hy
    refine ⟨⟨e2 _ _ (e1 _ _ h1), (List.getElem?_eq_some_iff.mp hv).1⟩, fun u H2 hh => ?_⟩
    obtain ⟨rfl, k, e⟩ := hh
    rw [hv] at e
    cases e
    exact ⟨Kn', Gr.refl e2, Rp.mono e1 rv⟩
  · have := h2.length
    rw [List.length_map] at hl
    omega
def itemsD {κ β : Type} (d : Dc κ β) : List (κ × β × Unit) := d.l.map fun kv => (kv.1, kv.2, ())
theorem dit_items {d : Dc κ β} : DIt K i d (iItems (tVar i)) Iti (itemsD d) := by
  unfold itemsD
  refine ⟨fun σ H R p od ws h1 h2 h3 => ⟨.ref p, h1, p, od, ws, rfl, h2, h3⟩, fun {Kn p od ws} h1 h2 i Kn' H' e1 e2 => ⟨fun x hx => ?_, fun hl => ⟨e2 _ _ (e1 _ _ h1), ?_⟩⟩⟩
  · rw [List.getElem?_map] at hx
    obtain ⟨y, hy, rfl⟩ := Option.map_eq_some_iff.mp hx
    obtain ⟨v, hv, rv⟩ := dk_at h2 hy
    refine ⟨⟨e2 _ _ (e1 _ _ h1), (List.getElem?_eq_some_iff.mp hv).1⟩, fun u H2 hh => ?_⟩
    obtain ⟨T, k, v2, e, rfl, hT, rfl⟩ := hh
    rw [hv] at e
    cases e
    have g : Gr Kn' H' (upd Kn' T (.tup [kV (K1.key y.1), v])) (upd H' T (.tup [kV (K1.key y.1), v])) := Gr.new e2 hT
    exact ⟨_, g, T, _, rfl, upd_same, _, _, rfl, KB.back _, v, [], rfl, Rp.mono (e1.trans g.kk) rv, rfl⟩
  · have := h2.length
    rw [List.length_map] at hl
    omega
theorem DIt.it {d : Dc κ β} {wi : TI} {J : Addr → Obj → List (Key × V) → It} {xs : List γ} (h : DIt K i d wi J xs) {od : Obj} {ws : List (Key × V)} (hk : Kn1 p = some (.frz od (.dK ws))) (r : DK K Kn1 ws d.l) : IT K F Kn1 sl ow (fun σ H R => R (J p od ws) H) xs := fun σ Kn H s R q =>
  q _ Kn H (Gr.refl s.ek) (h.k (s.e0 _ _ hk) (DK.mono s.e0 r))
/-- for x in d, d.values(), d.items() -/
theorem sb_forD {g : TG} {tb : TS} {Sx : Type} {d : Dc κ β} {wi : TI} {J : Addr → Obj → List (Key × V) → It} {xs : List γ} {D : Ends} (hd : DIt K i d wi J xs) (hi : sl[i]? = some (sv d))
    (slx : Sx → List Sl) (owx : Sx → List Ow) (gx : γ → Sx → List Sl) (js : List Nat) (P : List γ → Sx → Prop) (s0 : Sx) (h0 : P xs s0) (le : SlLe sl (slx s0)) (eo : (owx s0).Sublist ow)
    (hg : ∀ x s, GT K g (slx s) (gx x s) js x)
    (step : ∀ F' Kn1 R', Mv K F Kn0 D.rt F' Kn1 R' → ∀ bk x rest s, P (x :: rest) s → ∀ N : L2.St → Hp → Prop, (∀ s', P rest s' → ∀ σ Kn H, S K F' Kn1 (slx s') (owx s') σ Kn H → N σ H) → SB K F' Kn1 (gx x s) (owx s) ⟨N, R', bk, N⟩ tb)
    (done : ∀ s, P [] s → SN K F Kn0 (slx s) (owx s) D) : SB K F Kn0 sl ow D (tLk (tFor wi g tb)) := fun σ Kn H s => by
  obtain ⟨o, h1, v, h2, hv⟩ := s.sl.get hi
  obtain ⟨p, ws, rfl, h3, h4⟩ := hv
  have h3 : Rd Kn p (.dK ws) := h3
  have hσ : σ[i]? = some (some (.ref p)) := by rw [h1, h2]
  rcases h3 with h3 | ⟨od, h3⟩
  · refine .inl ⟨p, .dK ws, s.ek _ _ h3, trivial, fun od => ?_⟩
    have hF : ∀ o, F p = some o → o = .dK ws := fun o e => by
      have e1 := s.ef _ _ e
      rw [s.ek _ _ h3] at e1
      exact (Option.some.inj e1).symm
    have s1 := s.lock (u := .dK ws) (od := od) trivial h3
    refine hd.w σ _ _ p od ws hσ upd_same ?_
    have sw : Sw Kn (upd Kn p (.frz od (.dK ws))) := sw_lock (u := .dK ws) trivial h3
    exact sb_for (wi := fun σ H R => R (J p od ws) H) slx owx gx js P s0 (IT.m (hd.it upd_same (DK.swap sw h4))) h0 le eo hg
      (fun Kn1 b x rest st hP N hN => step _ Kn1 _ (mv_lock (u := .dK ws) s.bs trivial h3 hF b) _ x rest st hP N hN)
      (fun st hP σ2 Kn2 H2 s2 => show _ ∧ _ from ⟨s2.ek _ _ (s2.e0 _ _ upd_same), done st hP σ2 _ _ ((S.unlock (u := .dK ws) trivial h3 hF s2).unbase s.bs)⟩) σ _ _ s1
  · refine .inr (hd.w σ _ _ p od ws hσ (s.ek _ _ h3) ?_)
    exact sb_for (wi := fun σ H R => R (J p od ws) H) slx owx gx js P s0 (IT.m (hd.it h3 h4)) h0 le eo hg
      (fun Kn1 b x rest st hP N hN => step F Kn1 D.rt (mv_base ⟨s.e0.trans b.e, fun q h1 h2 => b.sp q h1 (s.sep q h1 h2)⟩) _ x rest st hP N hN)
      (fun st hP => (done st hP).base s.bs) σ Kn H s.rebase
/-- [.. for x in d] -/
theorem en_lcD {d : Dc κ β} {wi : TI} {J : Addr → Obj → List (Key × V) → It} {xs : List γ} {α : Type} [Rp α] {zs : List α} {c : γ → Option Bool} {f : γ → Option α} {g : TG} {tt : TT} {te : TE} {js vs : List Nat} (hd : DIt K i d wi J xs) (hi : sl[i]? = some (sv d)) (gx : γ → List Sl) (hm : lcM c f xs = some zs) (hv : ∀ j ∈ vs, sl[j]? = some .any) (hg : ∀ x, GT K g sl (gx x) js x) (hj : ∀ j ∈ js, j ∈ vs)
    (ht : ∀ F' Kn1 p (acc : List α) x b, c x = some b → ET K F' Kn1 (gx x) (ol p acc :: ow) tt b) (he : ∀ F' Kn1 p (acc : List α) x z, c x = some true → f x = some z → EV K F' Kn1 (gx x) (ol p acc :: ow) te z) :
    EN K F Kn0 sl ow (tLkE (tLc wi g tt te vs)) zs := fun σ Kn H s Q q => by
  obtain ⟨o, h1, v, h2, hv2⟩ := s.sl.get hi
  obtain ⟨p, ws, rfl, h3, h4⟩ := hv2
  have h3 : Rd Kn p (.dK ws) := h3
  have hσ : σ[i]? = some (some (.ref p)) := by rw [h1, h2]
  rcases h3 with h3 | ⟨od, h3⟩
  · refine .inl ⟨p, .dK ws, s.ek _ _ h3, trivial, fun od => ?_⟩
    have s1 := s.lock (u := .dK ws) (od := od) trivial h3
    refine hd.w σ _ _ p od ws hσ upd_same ?_
    have sw : Sw Kn (upd Kn p (.frz od (.dK ws))) := sw_lock (u := .dK ws) trivial h3
    show tLc (fun σ H R => R (J p od ws) H) g tt te vs σ (upd H p (.frz od (.dK ws))) (fun v H' => H' p = some (.frz od (.dK ws)) ∧ Q v (upd H' p (.dK ws)))
    refine en_lc (wi := fun σ H R => R (J p od ws) H) gx hm (hd.it upd_same (DK.swap sw h4)) hv hg hj (ht _ _) (he _ _) σ _ _ s1 _ fun l ys Kn' H' g hl kl hw rr => ?_
    have e1 : Kn' p = some (.frz od (.dK ws)) := g.kk _ _ upd_same
    have e2 : H' p = some (.frz od (.dK ws)) := g.kh _ _ e1
    have np : l ≠ p := fun z => by rw [z, e1] at kl; cases kl
    refine ⟨e2, q l ys (upd Kn' p (.dK ws)) (upd H' p (.dK ws)) ⟨fun a u h => ?_, fun a u h => ?_, fun a u h => ?_, fun a u h => ?_⟩ ?_ ?_ ?_ (paired_swap (sw_unlock (u := .dK ws) trivial e1) rr)⟩
    · by_cases e : a = p
      · subst e
        rw [upd_same, ← h3]
        exact h
      · rw [upd_ne e]
        exact g.kk _ _ (by rw [upd_ne e]; exact h)
    · by_cases e : a = p
      · subst e
        rw [upd_same, ← s.ek _ _ h3]
        exact h
      · rw [upd_ne e]
        exact g.hh _ _ (by rw [upd_ne e]; exact h)
    · by_cases e : a = p
      · subst e
        rw [upd_same] at h ⊢
        exact h
      · rw [upd_ne e] at h ⊢
        exact g.kh _ _ h
    · have e : a ≠ p := fun z => by rw [z, h3] at h; cases h
      rw [upd_ne e]
      exact g.sp a (by rw [upd_ne e]; exact u) (by rw [upd_ne e]; exact h)
    · rw [upd_ne np] at hl
      exact hl
    · rw [upd_ne np]
      exact kl
    · rw [upd_ne np]
      exact hw
  · refine .inr (hd.w σ _ _ p od ws hσ (s.ek _ _ h3) ?_)
    show tLc (fun σ H R => R (J p od ws) H) g tt te vs σ H Q
    refine en_lc (wi := fun σ H R => R (J p od ws) H) gx hm (hd.it h3 h4) hv hg hj (ht _ _) (he _ _) σ Kn H s.rebase _ fun l ys Kn' H' g hl kl hw rr => ?_
    exact q l ys Kn' H' g hl kl hw rr
end
/-! ### a new object told -/
section
variable {α τ γ : Type} [Rp α] [Tp τ] [Ob γ]
def RG (K : Fg) (Kn H : Hp) (Q : VK) (x : γ) : Prop := ∀ p o Kn' H', Gr Kn H Kn' H' → H p = none → Kn' p = none → H' p = some o → Ob.ob K Kn' o x → Q (.ref p) H'
def EG (K : Fg) (F Kn0 : Hp) (sl : List Sl) (ow : List Ow) (te : TE) (x : γ) : Prop := ∀ σ Kn H, S K F Kn0 sl ow σ Kn H → ∀ Q : VK, RG K Kn H Q x → te σ H Q
def PG (K : Fg) (f : τ → Option γ) : Sp := fun vs H Q _ => ∃ Kn t r, Ex Kn H ∧ rept K Kn vs t ∧ f t = some r ∧ RG K Kn H Q r
def RNG (K : Fg) (F Kn0 : Hp) (ow : List Ow) (R : VK) (x : γ) : Prop := ∀ p o Kn H, S K F Kn0 [] ow [] Kn H → F p = none → Kn p = none → H p = some o → Ob.ob K Kn o x → R (.ref p) H
end
section
variable {K : Fg} {F F' Kn0 Kn1 : Hp} {sl sl' : List Sl} {ow ow0 ow1 : List Ow} {α κ β τ γ : Type} [Rp α] [Rp κ] [Ky κ] [DecidableEq κ] [Rp β] [Tp τ] [Ob γ] {ta : TA} {te : TE} {t : τ} {E : XK} {D : Ends} {i j : Nat} {p : Addr} {x : γ} {R R' : VK}
theorem RNG.base (q : RNG K F Kn0 ow R x) (b : Bs F Kn0 Kn1) : RNG K F Kn1 ow R x := fun p o Kn H s => q p o Kn H (s.unbase b)
theorem RNG.fr (f : Fle F F') (q : RNG K F Kn0 ow0 R x) : RNG K F' Kn0 ow0 R x := fun p o Kn H s h1 h2 h3 h4 => q p o Kn H (s.back f) (fresh_back f h1) h2 h3 h4
theorem RNG.mv (q : RNG K F Kn0 ow0 R x) (m : Mv K F Kn0 R F' Kn1 R') : RNG K F' Kn1 ow0 R' x := fun p o Kn H s fp kp hp r => by
  obtain ⟨Kn', H', s', h1, h2, h3⟩ := m.st _ _ _ _ _ s
  exact h1 _ (q p o Kn' H' s' (m.fn p fp) (h3 p kp).1 ((h3 p kp).2.trans hp) (Ob.swap h2 r))
theorem rng_of {H Kn : Hp} {Q : VK} (q : RG K Kn H Q x) : RNG K H Kn [] Q x := fun p o Kn' H' s h1 h2 h3 h4 => q p o Kn' H' ⟨s.e0, s.ef, s.ek, s.sep⟩ h1 h2 h3 h4
theorem eg_call {f : τ → Option γ} {r : γ} (h : EA K F Kn0 sl ow ta t) (hf : f t = some r) : EG K F Kn0 sl ow (tCall (PG K f) [] E ta) r := fun σ Kn H s Q q =>
  h σ Kn H s _ fun vs Kn1 H1 g1 r1 => by
    show PG K f (vs ++ []) H1 Q E
    rw [List.append_nil]
    exact ⟨Kn1, t, r, g1.kh, r1, hf, fun p o Kn' H' g' h1 h2 h3 h4 => q p o Kn' H' (g1.trans g') (fresh_back g1.hh h1) h2 h3 h4⟩
theorem EG.ev {d : Dc κ β} (h : EG K F Kn0 sl ow te d) : EV K F Kn0 sl ow te d := fun σ Kn H s Q q => h σ Kn H s Q fun p o Kn' H' g hp kp ho r => by
  obtain ⟨ws, rfl, r⟩ := r
  exact q _ (upd Kn' p (Ky.ho ws)) H' (g.know hp kp ho) ⟨p, ws, rfl, Rd.of upd_same, DK.mono (Ex.new kp) r⟩
theorem EG.cast {x y : γ} (h : EG K F Kn0 sl ow te x) (e : x = y) : EG K F Kn0 sl ow te y := e ▸ h
/-- x = e, one's own from now on -/
theorem sb_asgG {sl' : Addr → List Sl} (hs : ∀ p, sl.set i (.at p) = sl' p) (h : EG K F Kn0 sl ow te x) (k : ∀ p, SN K F Kn0 (sl' p) (oo p x :: ow) D) : SB K F Kn0 sl ow D (tAsg te (gName i)) := fun σ Kn H s =>
  h σ Kn H s _ fun p o Kn1 H1 g1 hp kp ho r1 => k p _ Kn1 H1 (hs p ▸ ((s.grow g1).ownG (p := p) (o := oo p x) rfl (fresh_back s.ef hp) kp (owned_ne s hp) ⟨o, ho, r1⟩).seta i)
theorem sb_retG (hi : sl[i]? = some (.at p)) (hj : ow[j]? = some (oo p x)) (q : RNG K F Kn0 ow0 R x) (l : ow0.Sublist ow) (hR : D.rt = R := by rfl) : SB K F Kn0 sl ow D (tRet (tVar i)) := fun σ Kn H s => by
  subst hR
  obtain ⟨o, h1, h2⟩ := s.sl.get hi
  obtain ⟨f1, f2, ob, f3, f4⟩ := s.ow.each _ (List.mem_of_getElem? hj)
  exact ⟨.ref p, by rw [h1]; exact congrArg some h2, q p ob Kn H (s.sub l).fin f1 f2 f3 f4⟩
theorem sb_retE (h : EG K F Kn0 sl ow te x) (q : RNG K F Kn0 ow0 R x) (l : ow0.Sublist ow) (hR : D.rt = R := by rfl) : SB K F Kn0 sl ow D (tRet te) := fun σ Kn H s => by
  subst hR
  exact h σ Kn H s _ fun p o Kn' H' g hp kp ho r => q p o Kn' H' ((s.grow g).sub l).fin (fresh_back s.ef hp) kp ho r
end
/-! ### dict(d), dicts alike, a text many times -/
section
variable {K : Fg} {F Kn0 : Hp} {sl sl' : List Sl} {ow ow1 : List Ow} {κ β : Type} [Rp κ] [K1 κ] [DecidableEq κ] [Rp β] {te : TE} {i j : Nat} {p : Addr}
abbrev rDictD : List V → Hp → VK → Prop := fun xs H Q => ∃ (a : Addr) (kvs : List (Key × V)), xs = [.ref a] ∧ Rd H a (.dK kvs) ∧ ∀ p, H p = none → Q (.ref p) (upd H p (.dK kvs))
theorem eg_dict {d : Dc κ β} (h : EV K F Kn0 sl ow te d) : EG K F Kn0 sl ow (tCB rDictD (tCons te tNil)) d := fun σ Kn H s Q q => h σ Kn H s _ fun v Kn1 H1 g1 r1 => by
  obtain ⟨l, ws, rfl, h1, h2⟩ := r1
  exact ⟨l, ws, rfl, rd_ex g1.kh h1, fun p hp => q p _ Kn1 _ (g1.trans (Gr.newU g1.kh hp)) (fresh_back g1.hh hp) (fresh_back g1.kh hp) upd_same ⟨ws, rfl, h2⟩⟩
theorem eg_dictO {d : Dc κ β} (hi : sl[i]? = some (.at p)) (hj : ow[j]? = some (oo p d)) : EG K F Kn0 sl ow (tCB rDictD (tCons (tVar i) tNil)) d := fun σ Kn H s Q q => by
  obtain ⟨o, h1, h2⟩ := s.sl.get hi
  obtain ⟨f1, f2, ob, f3, ws, rfl, f5⟩ := s.ow.each _ (List.mem_of_getElem? hj)
  exact ⟨.ref p, by rw [h1]; exact congrArg some h2, p, ws, rfl, Rd.of f3, fun l hl => q l _ Kn _ (Gr.newU s.ek hl) hl (fresh_back s.ek hl) upd_same ⟨ws, rfl, f5⟩⟩
/-- {k: v, ..} -/
theorem eg_disp {trs : List (TE × TE)} {kvs : List (κ × β)} (hp : EPs K F Kn0 sl ow trs kvs) (hl : kvs.length ≤ 15) : EG K F Kn0 sl ow (tDisp trs) (Dc.mk (mergeD [] kvs)) := fun σ Kn H s Q q p hp0 => by
  have g0 : Gr Kn H Kn (upd H p (.dK [])) := Gr.newU s.ek hp0
  refine hp σ Kn _ (s.grow g0) _ fun ws Kn1 H1 g1 r1 => ?_
  have e1 : H1 p = some (.dK []) := g1.hh _ _ upd_same
  have kp : Kn1 p = none := g1.sp p (ne_none_of upd_same) (fresh_back s.ek hp0)
  have g : Gr Kn H Kn1 (upd H1 p (.dK (mergeK [] ws))) := ⟨g1.kk, fun a u h => by
    have hne : a ≠ p := fun z => by rw [z, hp0] at h; cases h
    rw [upd_ne hne]
    exact g1.hh _ _ (by rw [upd_ne hne]; exact h), upd_in g1.kh kp, fun a h1 h2 => g1.sp a (Ex.nn g0.hh h1) h2⟩
  exact ⟨e1, ws, rfl, by rw [r1.length]; exact hl, q p _ Kn1 _ g hp0 kp upd_same ⟨_, rfl, DK.merge r1 .nil⟩⟩
instance {κ β : Type} [Rp κ] [K1 κ] [Rp β] : Tn (Dc κ β) := ⟨"dict", fun h => by
  obtain ⟨p, ws, rfl, h1, _⟩ := h
  rcases h1 with h1 | ⟨o, h1⟩
  · exact .base (.dK h1)
  · exact .fDict h1⟩
/-- are the dicts alike? told where they are -/
def eqDO {κ β : Type} [DecidableEq κ] [DecidableEq β] (a b : Dc κ β) : Option Bool := if a.l.length = b.l.length ∧ (a.l.all fun kv => decide (getD b.l kv.1 = some kv.2)) = true then some true else none
class FlB (β : Type) [Rp β] : Prop where
  fb : ∀ {K : Fg} {H : Hp} {v : V} {x : β}, rep K H v x → flatB v = true
  un : ∀ {K : Fg} {H : Hp} {v w : V} {x : β}, rep K H v x → rep K H w x → v = w
instance : FlB Int := ⟨fun h => by cases h; rfl, fun h1 h2 => by cases h1; cases h2; rfl⟩
instance : FlB Str := ⟨fun h => by cases h; rfl, fun h1 h2 => by cases h1; cases h2; rfl⟩
instance : FlB Bool := ⟨fun h => by cases h; rfl, fun h1 h2 => by cases h1; cases h2; rfl⟩
theorem dk_mem {Kn : Hp} {ws : List (Key × V)} {kvs : List (κ × β)} (h : DK K Kn ws kvs) {w : Key × V} (hw : w ∈ ws) : ∃ kv ∈ kvs, w.1 = K1.key kv.1 ∧ rep K Kn w.2 kv.2 := by
  unfold DK at h
  induction h with
  | nil => cases hw
  | cons q t ih =>
    rcases List.mem_cons.mp hw with rfl | hw
    · exact ⟨_, List.mem_cons_self, q⟩
    · obtain ⟨kv, h1, h2⟩ := ih hw
      exact ⟨kv, List.mem_cons_of_mem _ h1, h2⟩
theorem eqD_go [DecidableEq β] [FlB β] {a b : Dc κ β} {r r' : Bool} (h : eqDO a b = some r) {Kn H : Hp} {v w : V} (ek : Ex Kn H) (h1 : rep K Kn v a) (h2 : rep K Kn w b) {Q : VK} (q : Q (.bl r') H) : rEqDR r' v w H Q ∧ r = true := by
  obtain ⟨p1, w1, rfl, a1, a2⟩ := h1
  obtain ⟨p2, w2, rfl, b1, b2⟩ := h2
  unfold eqDO at h
  split at h
  case isFalse => cases h
  rename_i hl
  cases h
  refine ⟨⟨p1, p2, w1, w2, rfl, rfl, rd_ex ek a1, rd_ex ek b1, ?_, fun x hx => ?_, q⟩, rfl⟩
  · rw [a2.length, b2.length]
    exact hl.1
  · obtain ⟨kv, hm, e1, e2⟩ := dk_mem a2 hx
    have g := of_decide_eq_true (List.all_eq_true.mp hl.2 kv hm)
    rcases b2.get kv.1 with ⟨z, _⟩ | ⟨y, v, z1, z2, z3⟩
    · rw [z] at g
      cases g
    · rw [z1] at g
      cases g
      refine ⟨?_, FlB.fb e2⟩
      rw [e1]
      have : valV w2 (K1.key kv.1) = some v := z2
      rw [this, FlB.un e2 z3]
theorem r2_eqD [DecidableEq β] [FlB β] {a b : Dc κ β} {r : Bool} (h : eqDO a b = some r) : R2V K (rEqDR true) a b r := fun Kn H v w ek h1 h2 Q q => by
  obtain ⟨_, e⟩ := eqD_go h ek h1 h2 (r' := true) (Q := fun _ _ => True) trivial
  subst e
  exact (eqD_go h ek h1 h2 (r' := true) (q.fl (z := true) ek)).1
theorem r2_neD [DecidableEq β] [FlB β] {a b : Dc κ β} {r : Bool} (h : eqDO a b = some r) : R2V K (rEqDR false) a b (!r) := fun Kn H v w ek h1 h2 Q q => by
  obtain ⟨_, e⟩ := eqD_go h ek h1 h2 (r' := true) (Q := fun _ _ => True) trivial
  subst e
  exact (eqD_go h ek h1 h2 (r' := false) (q.fl (z := false) ek)).1
end
end Wk
set_option maxHeartbeats 4000000
/-! Wpag: dict(xs) of a list of pairs; None asked of a value of any kind; isinstance of an exception by a class of the program -/
namespace Wk
open PySem PySem.Spec L2 Evl
section
variable {K : Fg} {F Kn0 : Hp} {sl : List Sl} {ow : List Ow} {κ β : Type} [Rp κ] [K1 κ] [DecidableEq κ] [Rp β] {te : TE}
def prs1 (xs : List (κ × β × Unit)) : List (κ × β) := xs.map fun t => (t.1, t.2.1)
abbrev rDictP (K : Fg) : List V → Hp → VK → Prop := fun xs H Q => ∃ (a : Addr) (ps : List Addr) (kvs : List (Key × V)), xs = [.ref a] ∧ SqL K H a (ps.map V.ref) ∧ Paired (fun p kv => SqT K H p [kV kv.1, kv.2]) ps kvs ∧
    ∀ p, H p = none → Q (.ref p) (upd H p (.dK (mergeK [] kvs)))
theorem prs1_of {Kn H : Hp} (e : Ex Kn H) : ∀ {vs : List V} {xs : List (κ × β × Unit)}, Paired (rep K Kn) vs xs → ∃ (ps : List Addr) (kvs : List (Key × V)), vs = ps.map V.ref ∧
    Paired (fun p kv => SqT K H p [kV kv.1, kv.2]) ps kvs ∧ DK K Kn kvs (prs1 xs)
  | _, _, .nil => ⟨[], [], rfl, .nil, .nil⟩
  | _, _, .cons (a := v) (b := t) h r => by
    obtain ⟨ps, kvs, e1, e2, e3⟩ := prs1_of e r
    obtain ⟨q, ws, rfl, hq, kv, rest, rfl, hk, yv, rest2, rfl, hy, hu⟩ := h
    cases hu
    have := K1.iff hk
    subst this
    exact ⟨q :: ps, (K1.key t.1, yv) :: kvs, by rw [e1]; rfl, .cons (st_of (e _ _ hq)) e2, .cons ⟨rfl, hy⟩ e3⟩
theorem eg_dictP {xs : List (κ × β × Unit)} (h : EV K F Kn0 sl ow te xs) : EG K F Kn0 sl ow (tCB (rDictP K) (tCons te tNil)) (Dc.mk (mergeD [] (prs1 xs))) := fun σ Kn H s Q q => h σ Kn H s _ fun v Kn1 H1 g1 r1 => by
  obtain ⟨a, vs, rfl, ha, hv⟩ := r1
  obtain ⟨ps, kvs, rfl, e2, e3⟩ := prs1_of g1.kh hv
  exact ⟨a, ps, kvs, rfl, sq_of (g1.kh _ _ ha), e2, fun p hp => q p _ Kn1 _ (g1.trans (Gr.newU g1.kh hp)) (fresh_back g1.hh hp) (fresh_back g1.kh hp) upd_same ⟨_, rfl, DK.merge e3 .nil⟩⟩
end
theorem k_dictP {X : Cx} {K : Fg} (hc : X.calm = true := by rfl) (h : X.K = K := by rfl) : CallR X (.type "dict") (rDictP K) := h ▸ call_dictP hc
/-- found.reverse() -/
theorem sb_rev {K : Fg} {F Kn0 : Hp} {sl : List Sl} {ow ow1 : List Ow} {D : Ends} {α : Type} [Rp α] {xs : List α} {i j : Nat} {p : Addr} (hi : sl[i]? = some (.at p)) (hj : ow[j]? = some (ol p xs)) (ho : ow.set j (ol p xs.reverse) = ow1) (k : SN K F Kn0 sl ow1 D) : SB K F Kn0 sl ow D (tDrop (tBM0 K "list" rReverse (tVar i))) := fun σ Kn H s => by
  obtain ⟨o, h1, h2⟩ := s.sl.get hi
  obtain ⟨f1, f2, ws, f3, f4⟩ := s.ow.each _ (List.mem_of_getElem? hj)
  subst ho
  refine ⟨.ref p, by rw [h1]; exact congrArg some h2, Or.inl ⟨rfl, ws, sq_of f3⟩, p, ws, rfl, rfl, f3, k _ Kn _ ?_⟩
  exact s.write hj (Ex.refl _) (upd_in s.ek f2) (fun q hq _ => upd_ne hq) (fun _ _ h => h) upd_same (paired_rev f4)
/-! ### None -/
def isNoD (x : Dy) : Bool := match x.d with | .none => true | _ => false
section
variable {K : Fg}
theorem r2_isND {x : Dy} : R2V K (fun x y H Q => y = .non ∧ Q (.bl (decide (x = .non))) H) x Nn.nn (isNoD x) := fun Kn H v w ek h1 h2 Q q => by
  cases h2
  refine ⟨rfl, ?_⟩
  have e : decide (v = V.non) = isNoD x := by
    obtain ⟨d⟩ := x
    have h1 : Dq Kn v d := h1
    cases h1 <;> rfl
  rw [e]
  exact q.fl ek
theorem r2_notND {x : Dy} : R2V K (fun x y H Q => y = .non ∧ Q (.bl (!decide (x = .non))) H) x Nn.nn (!isNoD x) := fun Kn H v w ek h1 h2 Q q => by
  cases h2
  refine ⟨rfl, ?_⟩
  have e : decide (v = V.non) = isNoD x := by
    obtain ⟨d⟩ := x
    have h1 : Dq Kn v d := h1
    cases h1 <;> rfl
  rw [e]
  exact q.fl ek
/-! ### classes of the program -/
structure ClN where
  a : Addr
instance rpClN : Rp ClN := { rep := fun _ _ v x => v = .ref x.a, swap := fun _ h => h }
instance : Fl ClN := { toV := fun x => V.ref x.a, iff := Iff.rfl }
theorem ev_cl {F Kn0 : Hp} {sl : List Sl} {ow : List Ow} (C : Addr) : EV K F Kn0 sl ow (tC (.ref C)) (ClN.mk C) := ev_c (ClN.mk C)
theorem rc_isXC {a D C : Addr} {cm : Str → Option Addr} {cls : Value} {d : Option Addr} {n : Str} {b : Bool} {u : Unit} {e : Xc} (hD : cm n = some D) (hx : xcls e n = some u) (hk : PySem.W.kitOne K (.ref D) (.ref C) = some b) : RCV K (rIsX K D a cls d) ((Xv.mk e : Xv cm a cls d), ClN.mk C, ()) b := fun Kn H vs ek h Q q => by
  obtain ⟨v, w, rfl, h1, h2⟩ := two_args h
  obtain ⟨rfl, A, hA, hc, hd⟩ := h1
  rw [xcls_eq hx, hD] at hA
  cases hA
  refine ⟨w, .ref C, b, rfl, hc, ?_, fun u hu => ?_, hk, q.fl ek⟩
  · rcases hd with ⟨_, h1⟩ | ⟨dd, fs, h1, h3, _⟩
    · exact .inl h1
    · exact .inr ⟨dd, fs, h1, ek _ _ h3⟩
  · have h2 : w = .ref C := h2
    subst h2
    exact hu
end
theorem kit_twoC {K : Fg} {D C : Addr} {b : Bool} (h : PySem.W.subIn K (.ref D) (.ref C) = some b) (hr : PySem.W.subIn K (.ref D) (.ref D) = some true) (h2 : PySem.W.isClsIn K C = true) (h3 : PySem.W.typeIn K (.ref C) = some (.type "type")) : PySem.W.kitOne K (.ref D) (.ref C) = some b := by
  unfold PySem.W.kitOne
  by_cases e : D = C
  · subst e
    rw [if_pos (by exact beq_self_eq_true _)]
    rw [hr] at h
    exact h
  · rw [if_neg (fun z => e (by have := eq_of_beq z; cases this; rfl))]
    unfold PySem.W.kitCls
    have e2 : ((PySem.W.clsIn K C).isSome && PySem.W.typeIn K (.ref C) == some (.type "type")) = true := by
      have h2' : (PySem.W.clsIn K C).isSome = true := h2
      rw [h2', h3] <;> rfl
    simp only
    rw [if_pos e2]
    exact h
end Wk
set_option maxHeartbeats 4000000
/-! Wany: isinstance of a value of any kind; lists read as lists of values of any kind -/
namespace Wk
open PySem PySem.Spec L2 Evl
def isiD (x : Dy) (n : String) : Bool := match x.d with
  | .none => n == "NoneType"
  | .bool _ => n == "bool" || n == "int"
  | .int _ => n == "int"
  | .str _ => n == "str"
  | .list _ => n == "list"
  | .tuple _ => n == "tuple"
  | _ => false
section
variable {K : Fg}
theorem rc_isiD {x : Dy} {n : String} (h0 : kitB "NoneType" n = some (n == "NoneType")) (h1 : kitB "bool" n = some (n == "bool" || n == "int")) (h2 : kitB "int" n = some (n == "int")) (h3 : kitB "str" n = some (n == "str")) (h4 : kitB "list" n = some (n == "list")) (h5 : kitB "tuple" n = some (n == "tuple")) :
    RCV K (rIsi K) (x, TyN.mk n, ()) (isiD x n) := fun Kn H vs ek hr Q q => by
  obtain ⟨v, w, rfl, r1, r2⟩ := two_args hr
  cases r2
  obtain ⟨d⟩ := x
  have r1 : Dq Kn v d := r1
  cases r1 with
  | non => exact ⟨_, .ty n, .type "NoneType", .type n, _, rfl, .ty n, Tn.is (α := Nn) (a := Nn.nn) (show rep K H V.non Nn.nn from rfl), kit_ty h0, q.fl ek⟩
  | bl b => exact ⟨_, .ty n, .type "bool", .type n, _, rfl, .ty n, Tn.is (α := Bool) (a := b) (show rep K H (V.bl b) b from rfl), kit_ty h1, q.fl ek⟩
  | int i => exact ⟨_, .ty n, .type "int", .type n, _, rfl, .ty n, Tn.is (α := Int) (a := i) (show rep K H (V.int i) i from rfl), kit_ty h2, q.fl ek⟩
  | str s => exact ⟨_, .ty n, .type "str", .type n, _, rfl, .ty n, Tn.is (α := Str) (a := s) (show rep K H (V.str s) s from rfl), kit_ty h3, q.fl ek⟩
  | lst h r => exact ⟨_, .ty n, .type "list", .type n, _, rfl, .ty n, .base (.lst (ek _ _ h)), kit_ty h4, q.fl ek⟩
  | tup h r => exact ⟨_, .ty n, .type "tuple", .type n, _, rfl, .ty n, .base (.tup (ek _ _ h)), kit_ty h5, q.fl ek⟩
end
section
variable {K : Fg} {F Kn0 : Hp} {sl : List Sl} {ow ow1 : List Ow} {α : Type} [Rp α] [Ud α] {te : TE}
theorem paired_up {H : Hp} : ∀ {vs : List V} {xs : List α}, Paired (rep K H) vs xs → Paired (rep K H) vs (xs.map upD)
  | _, _, .nil => .nil
  | _, _, .cons r t => .cons (Ud.is r) (paired_up t)
theorem ev_upL {xs : List α} (h : EV K F Kn0 sl ow te xs) : EV K F Kn0 sl ow te (xs.map upD) := fun σ Kn H s Q q => h σ Kn H s Q fun v Kn' H' g r => by
  obtain ⟨p, vs, rfl, h1, h2⟩ := r
  exact q _ Kn' H' g ⟨p, vs, rfl, h1, paired_up h2⟩
theorem en_upL {xs : List α} (h : EN K F Kn0 sl ow te xs) : EN K F Kn0 sl ow te (xs.map upD) := fun σ Kn H s Q q => h σ Kn H s Q fun l ws Kn' H' g hl kl hw r => q l ws Kn' H' g hl kl hw (paired_up r)
end
end Wk
/-! Wmix: slices of tuples and texts, extend, a list of unlike things -/
namespace Wk
open PySem PySem.Spec L2 Evl
/-- the places from a on, b of them -/
inductive Cu : {τ : Type} → [Tp τ] → Nat → Nat → {υ : Type} → [Tp υ] → τ → υ → Prop
  | nil {τ : Type} [Tp τ] (t : τ) : Cu 0 0 t ()
  | take {α τ υ : Type} [Rp α] [Tp τ] [Tp υ] {b : Nat} (x : α) {t : τ} {u : υ} : Cu 0 b t u → Cu 0 (b + 1) (x, t) (x, u)
  | drop {α τ υ : Type} [Rp α] [Tp τ] [Tp υ] {a b : Nat} (x : α) {t : τ} {u : υ} : Cu a b t u → Cu (a + 1) b (x, t) u
theorem Cu.get {K : Fg} {H : Hp} {τ : Type} [i : Tp τ] {a b : Nat} {υ : Type} [j : Tp υ] {t : τ} {u : υ} (h : Cu a b t u) : ∀ {vs : List V}, rept K H vs t → rept K H ((vs.drop a).take b) u := by
  induction h with
  | nil t => exact fun _ => rfl
  | take x _ ih =>
    intro vs r
    obtain ⟨v, r, rfl, h1, h2⟩ := r
    exact ⟨v, _, rfl, h1, ih h2⟩
  | drop x _ ih =>
    intro vs r
    obtain ⟨v, r, rfl, h1, h2⟩ := r
    exact ih h2
structure Hl (τ : Type) where
  t : τ
  deriving DecidableEq
instance {τ : Type} [Tp τ] : Rp (Hl τ) where
  rep K H v x := ∃ p vs, v = .ref p ∧ H p = some (.lst vs) ∧ rept K H vs x.t
  swap e h := by
    obtain ⟨p, vs, h1, h2, h3⟩ := h
    exact ⟨p, vs, h1, e.lst h2, Tp.swap e h3⟩
instance {τ : Type} [Tp τ] [Pq τ] : Pd (Hl τ) where
  toD x := .list (Pq.toDs x.t)
  dp := Pq.dp τ + 1
  isD h := by
    obtain ⟨p, vs, rfl, h1, h2⟩ := h
    exact .lst (sq_of h1) (Pq.isD h2)
  dep a := by
    simp only [PyData.depth]
    exact Nat.succ_le_succ (Pq.dep a.t)
  eqd a b := by
    simp only [PyData.eqv]
    rw [Pq.eqd]
    cases a
    cases b
    simp
def cutSO (z : Str) (lo hi : Option Int) : Option Str := if z.length ≤ 1000000 then some (cutS z lo hi) else none
section
variable {K : Fg} {F Kn0 : Hp} {sl sl' : List Sl} {ow ow1 ow2 : List Ow} {α β γ τ υ : Type} [Rp α] [Rp β] [Rp γ] [Tp τ] [Tp υ] {ta : TA} {tb te : TE} {D : Ends} {i j : Nat} {p : Addr}
theorem ev_tsl {t : α × τ} {u : β × υ} {tl th : TO} {lo hi : Option Int} {a b : Nat} (h : EV K F Kn0 sl ow te t) (hl : EO K F Kn0 sl ow tl lo) (hh : EO K F Kn0 sl ow th hi)
    (ha : HT.sIx (Tp.n (α × τ)) 0 lo = a) (hb : HT.sIx (Tp.n (α × τ)) (Tp.n (α × τ)) hi - a = b) (hw : ¬ (HT.sIx (Tp.n (α × τ)) 0 lo = 0 ∧ HT.sIx (Tp.n (α × τ)) (Tp.n (α × τ)) hi = Tp.n (α × τ))) (hc : Cu a b t u) :
    EV K F Kn0 sl ow (tSl (rSlT K) te tl th) u := fun σ Kn H s Q q =>
  h σ Kn H s _ fun v Kn1 H1 g1 r1 => hl σ Kn1 H1 (s.grow g1) _ fun Kn2 H2 g2 => hh σ Kn2 H2 ((s.grow g1).grow g2) _ fun Kn3 H3 g3 => by
    obtain ⟨p, ws, rfl, h3, h4⟩ := r1
    have g : Gr Kn H Kn3 H3 := (g1.trans g2).trans g3
    have e13 : Ex Kn1 Kn3 := g2.kk.trans g3.kk
    have el := Tp.len h4
    refine ⟨p, ws, rfl, st_of ((e13.trans g3.kh) _ _ h3), by rw [el]; exact hw, fun l hl => ?_⟩
    have gn := Gr.new (o := .tup (cutV ws lo hi)) g3.kh hl
    refine q _ _ _ (g.trans gn) ⟨l, _, rfl, upd_same, ?_⟩
    have := hc.get (Tp.mono (e13.trans gn.kk) h4)
    have e : cutV ws lo hi = (ws.drop a).take b := by
      unfold cutV
      rw [el, ha, hb]
    rw [e] at this ⊢
    exact this
theorem ev_slS {z r : Str} {tl th : TO} {lo hi : Option Int} (h : EV K F Kn0 sl ow te z) (hl : EO K F Kn0 sl ow tl lo) (hh : EO K F Kn0 sl ow th hi) (hz : cutSO z lo hi = some r) : EV K F Kn0 sl ow (tSl rSlS te tl th) r := fun σ Kn H s Q q =>
  h σ Kn H s _ fun v Kn1 H1 g1 r1 => hl σ Kn1 H1 (s.grow g1) _ fun Kn2 H2 g2 => hh σ Kn2 H2 ((s.grow g1).grow g2) _ fun Kn3 H3 g3 => by
    cases r1
    unfold cutSO at hz
    split at hz
    · rename_i hq
      cases hz
      exact ⟨z, rfl, le_line hq, q _ Kn3 H3 ((g1.trans g2).trans g3) rfl⟩
    · cases hz
theorem ev_hl {t : τ} (h : EA K F Kn0 sl ow ta t) (hz : Tp.n τ ≤ 1000000 := by decide) : EV K F Kn0 sl ow (tLst ta) (Hl.mk t) := fun σ Kn H s Q q =>
  h σ Kn H s _ fun vs Kn1 H1 g1 r1 => ⟨by rw [Tp.len r1]; exact le_line hz, fun p hp =>
    q _ (upd Kn1 p (.lst vs)) _ (g1.trans (Gr.new g1.kh hp)) ⟨p, vs, rfl, upd_same, Tp.mono (Gr.new g1.kh hp).kk r1⟩⟩
theorem r2_hix {t : Hl τ} {n : Nat} {z : γ} (h : At n t.t z) : R2V K (rIxL K) t (n : Int) z := fun Kn H v w ek h1 h2 Q q => by
  obtain ⟨p, ws, rfl, h3, h4⟩ := h1
  cases h2
  obtain ⟨u, e, r⟩ := h.get h4
  exact ⟨p, ws, n, u, rfl, rfl, sq_of (ek _ _ h3), atI_nat e, q.at ek r⟩
theorem k_slt {X : Cx} (h : X.K = K := by rfl) : SlR X (rSlT K) := h ▸ sl_tup
/-- xs.extend(ys), xs one's own -/
theorem sb_extO {xs ys zs : List α} (hi : sl[i]? = some (.at p)) (hj : ow[j]? = some (ol p xs)) (h : EV K F Kn0 sl ow te ys) (hz : catO xs ys = some zs) (ho : ow.set j (ol p zs) = ow1) (k : SN K F Kn0 sl ow1 D) :
    SB K F Kn0 sl ow D (tDrop (tBM K "list" rExtend (tVar i) (tCons te tNil))) := fun σ Kn H s => by
  obtain ⟨o, h1, h2⟩ := s.sl.get hi
  obtain ⟨f1, f2, ws, f3, f4⟩ := s.ow.each _ (List.mem_of_getElem? hj)
  unfold catO at hz
  split at hz
  case isFalse => cases hz
  rename_i hq
  cases hz
  refine ⟨.ref p, by rw [h1]; exact congrArg some h2, Or.inl ⟨rfl, ws, sq_of f3⟩, h σ Kn H s _ fun v Kn1 H1 g1 r1 => ?_⟩
  obtain ⟨b, vs, rfl, h3, h4⟩ := r1
  refine ⟨p, b, ws, vs, rfl, rfl, g1.hh _ _ f3, g1.kh _ _ h3, by rw [paired_len f4, paired_len h4]; exact le_line hq, k _ Kn1 _ ?_⟩
  have kp1 : Kn1 p = none := g1.sp p (ne_none_of f3) f2
  subst ho
  exact (s.grow g1).write hj (Ex.refl _) (upd_in g1.kh kp1) (fun q hq _ => upd_ne hq) (fun _ _ h => h) upd_same (paired_append (paired_mono g1.kk f4) h4)
end
end Wk
/-! Wtxt: join of a tuple, startswith, str() of a number or a text, `in` a tuple of the module -/
namespace Wk
open PySem PySem.Spec L2 Evl
/-- str() of a value of any kind: a number or a text -/
def strDO (x : Dy) : Option Str := match x.d with
  | .int i => strIO i
  | .str s => some s
  | _ => none
def rStrD : List V → Hp → VK → Prop := fun xs H Q => (∃ i : Int, xs = [.int i] ∧ i.natAbs.log2 < 1920 ∧ Q (.str (toString i)) H) ∨ ∃ a, xs = [.str a] ∧ Q (.str a) H
theorem k_strD {X : Cx} : CallR X (.type "str") rStrD := by
  intro pins s σ H xs us Q I r h
  rcases h with ⟨i, h1, h2, h3⟩ | ⟨a, h1, h2⟩
  · exact call_str_int pins s σ H xs us Q I r ⟨i, h1, h2, h3⟩
  · exact SkE.call_str_str pins s σ H xs us Q I r ⟨a, h1, h2⟩
section
variable {K : Fg} {F Kn0 : Hp} {sl : List Sl} {ow : List Ow} {ta tb te tk : TE}
theorem rc_strD {x : Dy} {r : Str} (h : strDO x = some r) : RCV K rStrD (x, ()) r := fun Kn H vs ek hv Q q => by
  obtain ⟨v, rfl, h1⟩ := one_arg hv
  unfold strDO at h
  obtain ⟨d⟩ := x
  have h1 : Dq Kn v d := h1
  cases h1 with
  | int i =>
    have h : strIO i = some r := h
    unfold strIO at h
    split at h
    case isFalse => cases h
    rename_i hb
    cases h
    exact .inl ⟨i, rfl, hb, q.fl ek⟩
  | str z =>
    cases h
    exact .inr ⟨r, rfl, q.fl ek⟩
  | non => cases h
  | bl b => cases h
  | lst _ _ => cases h
  | tup _ _ => cases h
theorem ev_joinT {s : Str} {ys : Tu Str} {z : Str} (ha : EV K F Kn0 sl ow ta s) (hb : EV K F Kn0 sl ow tb ys) (h : joinO s ys.l = some z) :
    EV K F Kn0 sl ow (tM1 (fun x xs H Q => ∃ a p, ∃ ys : List Str, x = .str a ∧ xs = [.ref p] ∧ (SqL K H p (ys.map V.str) ∨ SqT K H p (ys.map V.str)) ∧ (ys.map (·.length)).sum + ys.length * a.length ≤ 16777216 ∧ Q (.str (Txt.join a ys)) H) ta tb) z := fun σ Kn H s' Q q =>
  ha σ Kn H s' _ fun v Kn1 H1 g1 r1 => by
    cases r1
    refine ⟨⟨s, rfl⟩, hb σ Kn1 H1 (s'.grow g1) _ fun w Kn2 H2 g2 r2 => ?_⟩
    obtain ⟨p, ws, rfl, h3, h4⟩ := r2
    have e := paired_fl h4
    subst e
    unfold joinO at h
    split at h
    · rename_i hz
      cases h
      exact ⟨s, p, ys.l, rfl, rfl, .inr (st_of (g2.kh _ _ h3)), by omega, q _ Kn2 H2 (g1.trans g2) rfl⟩
    · cases h
theorem ev_starts {x y : Str} (h : EV K F Kn0 sl ow te x) (hn : EV K F Kn0 sl ow tb y) : EV K F Kn0 sl ow (tBM K "str" (fun x xs H Q => ∃ a b, x = .str a ∧ xs = [.str b] ∧ Q (.bl (Txt.startswith a b)) H) te (tCons tb tNil)) (Txt.startswith x y) := fun σ Kn H s Q q =>
  h σ Kn H s _ fun v Kn1 H1 g1 r1 => by
    cases r1
    refine ⟨rfl, hn σ Kn1 H1 (s.grow g1) _ fun w Kn2 H2 g2 r2 => ?_⟩
    cases r2
    exact ⟨x, y, rfl, rfl, q _ Kn2 H2 (g1.trans g2) rfl⟩
/-- xs.pop() -/
def popO {α : Type} (xs : List α) : Option (α × List α) := xs.getLast?.map fun x => (x, xs.dropLast)
theorem paired_dropLast {α : Type} {R : V → α → Prop} : ∀ {ws : List V} {xs : List α}, Paired R ws xs → Paired R ws.dropLast xs.dropLast
  | _, _, .nil => .nil
  | _, _, .cons _ .nil => .nil
  | _, _, .cons h (.cons h2 t) => .cons h (paired_dropLast (.cons h2 t))
theorem em_pop {α : Type} [Rp α] {xs xs' : List α} {x : α} {i j : Nat} {p : Addr} (hi : sl[i]? = some (.at p)) (hj : ow[j]? = some (ol p xs)) (hx : popO xs = some (x, xs')) : EM K F Kn0 sl ow (tBM0 K "list" rPop (tVar i)) (ow.set j (ol p xs')) x := fun σ Kn H s Q q => by
  obtain ⟨o, h1, h2⟩ := s.sl.get hi
  obtain ⟨f1, f2, ws, f3, f4⟩ := s.ow.each _ (List.mem_of_getElem? hj)
  unfold popO at hx
  obtain ⟨y, hy, e⟩ := Option.map_eq_some_iff.mp hx
  cases e
  rw [List.getLast?_eq_getElem?] at hy
  obtain ⟨v, hv, rv⟩ := paired_at f4 hy
  have hl := paired_len f4
  refine ⟨.ref p, by rw [h1]; exact congrArg some h2, Or.inl ⟨rfl, ws, sq_of f3⟩, p, ws, v, rfl, rfl, f3, by rw [hl]; exact hv, q v Kn _ (Ex.refl _) ?_ rv⟩
  exact s.write hj (Ex.refl _) (upd_in s.ek f2) (fun q hq _ => upd_ne hq) (fun _ _ h => h) upd_same (paired_dropLast f4)
theorem k_starts {X : Cx} {to te : TE} {o e : Expr} {apos cpos : Pos} (ho : PE X o to) (he : PE X e te)
    (hbase : attributeBase o "startswith" X.env (eval o X.env) = eval o X.env := by rfl)
    (hfew : ((backTo cpos (starEach [e] X.env)).all (fun x => !x.1) && (backToKw cpos (keywordEach [] X.env)).all (fun x => x.1.isSome)
      && decide ([e].length + ([] : List Keyword).length + (if ([] : List Keyword).isEmpty then 0 else 1) < 30)) = true := by rfl)
    (hline : (apos.endLine == cpos.line) = true := by rfl) (hs : starEach [e] X.env = (false, eval e X.env) :: starEach [] X.env := by rfl) (h : X.K = K := by rfl) :
    PE X (.Call (.Attribute o "startswith" apos) [e] [] cpos) (tBM K "str" (fun x xs H Q => ∃ a b, x = .str a ∧ xs = [.str b] ∧ Q (.bl (Txt.startswith a b)) H) to (tCons te tNil)) :=
  h ▸ pe_bm PySem.F.plainAttrs_str PySem.F.slot_str_startswith PySem.F.type_str_startswith mt_startswith ho (pa_cons he pa_nil hs) hbase hfew hline hs
/-- a tuple of texts of the module -/
def KTup (K : Fg) (a : Addr) (tab : List Str) : Prop := ∃ (o : Obj) (its : Array Value) (n : Nat), K.lookup a = some o ∧ o.cls = .type "tuple" ∧ o.data = .seq its n ∧ its.size ≤ sizeLine ∧ Vals (tab.map V.str) its.toList
theorem ev_inK {p : Addr} {tab : List Str} {x : Str} (ht : KTup K p tab) (h : EV K F Kn0 sl ow te x) : EV K F Kn0 sl ow (tOp (rIn K false) te (tC (.ref p))) (decide (x ∈ tab)) := fun σ Kn H s Q q =>
  h σ Kn H s _ fun v Kn1 H1 g1 r1 => by
    cases r1
    refine ⟨p, tab.map V.str, rfl, .inr (.inr ht), Fe.flat x, all_flat tab, ?_⟩
    have e : inV (V.str x) (tab.map V.str) = decide (x ∈ tab) := any_mem x tab
    rw [if_neg (by decide), e]
    exact q _ Kn1 H1 g1 rfl
end
end Wk
/-! Wmut2: a def that changes two of its arguments -/
namespace Wk
open PySem PySem.Spec L2 Evl
/-- where the arguments stand: a value, one's own -/
def mV (f : List V → List V) : List V → List V := fun vs => match vs with
  | v :: r => v :: f r
  | [] => []
def mO (p : Addr) (f : List V → List V) : List V → List V := fun vs => .ref p :: f vs
def mE : List V → List V := fun vs => vs
def PM2 {α τ γ δ : Type} [Rp α] [Tp τ] (K : Fg) (mk : Addr → Addr → List V → List V) (o1 : Addr → γ → Ow) (o2 : Addr → δ → Ow) (f : γ → δ → τ → Option (α × γ × δ)) : Sp := fun vs H Q _ => ∃ Kn p q rest t x y r x' y', vs = mk p q rest ∧ Ex Kn H ∧ p ≠ q ∧ Kn p = none ∧ Kn q = none ∧ (o1 p x).ok K Kn H ∧ (o2 q y).ok K Kn H ∧ rept K Kn rest t ∧ f x y t = some (r, x', y') ∧
  ∀ v Kn' H', Ex Kn Kn' → Ex Kn' H' → (∀ a, a ≠ p → a ≠ q → H a ≠ none → H' a = H a) → (∀ a, H a ≠ none → Kn a = none → Kn' a = none) → (o1 p x').ok K Kn' H' → (o2 q y').ok K Kn' H' → rep K Kn' v r → Q v H'
section
variable {K : Fg} {F Kn0 : Hp} {sl : List Sl} {ow : List Ow} {α τ γ δ : Type} [Rp α] [Tp τ]
/-- the arguments: values that are told, own things by their names -/
def EMx (K : Fg) (F Kn0 : Hp) (sl : List Sl) (ow : List Ow) (ta : TA) (t : τ) (mk : List V → List V) : Prop := ∀ σ Kn H, S K F Kn0 sl ow σ Kn H → ∀ Q : List V → Hp → Prop, (∀ vs Kn' H', Gr Kn H Kn' H' → rept K Kn' vs t → Q (mk vs) H') → ta σ H Q
theorem emx_nil : EMx K F Kn0 sl ow tNil () mE := fun σ Kn H s Q q => q [] Kn H (Gr.refl s.ek) rfl
theorem emx_val {te : TE} {ta : TA} {x : α} {t : τ} {mk : List V → List V} (h : EV K F Kn0 sl ow te x) (h2 : EMx K F Kn0 sl ow ta t mk) : EMx K F Kn0 sl ow (tCons te ta) (x, t) (mV mk) := fun σ Kn H s Q q =>
  h σ Kn H s _ fun v Kn1 H1 g1 r1 => h2 σ Kn1 H1 (s.grow g1) _ fun vs Kn2 H2 g2 r2 => q (v :: vs) Kn2 H2 (g1.trans g2) ⟨v, vs, rfl, Rp.mono g2.kk r1, r2⟩
theorem emx_own {ta : TA} {t : τ} {mk : List V → List V} {i : Nat} {p : Addr} (hi : sl[i]? = some (.at p)) (h2 : EMx K F Kn0 sl ow ta t mk) : EMx K F Kn0 sl ow (tCons (tVar i) ta) t (mO p mk) := fun σ Kn H s Q q => by
  obtain ⟨o, h1, h3⟩ := s.sl.get hi
  exact ⟨.ref p, by rw [h1]; exact congrArg some h3, h2 σ Kn H s _ fun vs Kn2 H2 g2 r2 => q vs Kn2 H2 g2 r2⟩
theorem S.write2 {σ : L2.St} {Kn H Kn' H' : Hp} {p q : Addr} {a1 a2 b1 b2 : Ow} {j k : Nat} (s : S K F Kn0 sl ow σ Kn H) (hj : ow[j]? = some a1) (hk : ow[k]? = some a2) (hne : j ≠ k) (d1 : a1.ad = p) (d2 : a2.ad = q) (d3 : b1.ad = p) (d4 : b2.ad = q)
    (kk : Ex Kn Kn') (kh : Ex Kn' H') (hq : ∀ a, a ≠ p → a ≠ q → H a ≠ none → H' a = H a) (sp : ∀ a, H a ≠ none → Kn a = none → Kn' a = none) (h1 : b1.ok K Kn' H') (h2 : b2.ok K Kn' H') : S K F Kn0 sl ((ow.set j b1).set k b2) σ Kn' H' := by
  obtain ⟨f1, f2, f3⟩ := s.ow.each _ (List.mem_of_getElem? hj)
  obtain ⟨g1, g2, g3⟩ := s.ow.each _ (List.mem_of_getElem? hk)
  have f4 := Ow.there f3
  have g4 := Ow.there g3
  rw [d1] at f1 f2 f4
  rw [d2] at g1 g2 g4
  have jl : j < ow.length := (List.getElem?_eq_some_iff.mp hj).1
  have kl : k < ow.length := (List.getElem?_eq_some_iff.mp hk).1
  refine ⟨s.e0.trans kk, kh, fun a u h => ?_, fun a h1 h2 => sp a (Ex.nn s.ef h1) (s.sep a h1 h2), s.sl.mono kk, ⟨fun o ho => ?_, ?_⟩⟩
  · have n1 : a ≠ p := fun z => by rw [z, f1] at h; cases h
    have n2 : a ≠ q := fun z => by rw [z, g1] at h; cases h
    rw [hq a n1 n2 (ne_none_of (s.ef _ _ h))]
    exact s.ef _ _ h
  · obtain ⟨i, hi⟩ := List.getElem?_of_mem ho
    by_cases e : i = k
    · subst e
      rw [List.getElem?_set_self (by rw [List.length_set]; exact kl)] at hi
      cases hi
      rw [d4]
      exact ⟨g1, sp q g4 g2, h2⟩
    · rw [List.getElem?_set_ne (Ne.symm e)] at hi
      by_cases e2 : i = j
      · subst e2
        rw [List.getElem?_set_self jl] at hi
        cases hi
        rw [d3]
        exact ⟨f1, sp p f4 f2, h1⟩
      · rw [List.getElem?_set_ne (Ne.symm e2)] at hi
        obtain ⟨h1, h2, h3⟩ := s.ow.each o (List.mem_of_getElem? hi)
        have h4 := Ow.there h3
        have n1 : o.ad ≠ p := fun z => e2 (ow_at s.ow.nd hi hj (z.trans d1.symm))
        have n2 : o.ad ≠ q := fun z => e (ow_at s.ow.nd hi hk (z.trans d2.symm))
        exact ⟨h1, sp _ h4 h2, Ow.ok_mono kk (hq _ n1 n2 h4) h3⟩
  · have e : ((ow.set j b1).set k b2).map Ow.ad = ow.map Ow.ad := by
      refine List.ext_getElem? fun i => ?_
      rw [List.getElem?_map, List.getElem?_map]
      by_cases e : k = i
      · subst e
        rw [List.getElem?_set_self (by rw [List.length_set]; exact kl), hk]
        exact congrArg some (d4.trans d2.symm)
      · rw [List.getElem?_set_ne e]
        by_cases e2 : j = i
        · subst e2
          rw [List.getElem?_set_self jl, hj]
          exact congrArg some (d3.trans d1.symm)
        · rw [List.getElem?_set_ne e2]
    rw [e]
    exact s.ow.nd
theorem em_callM2 {mk : Addr → Addr → List V → List V} {o1 : Addr → γ → Ow} {o2 : Addr → δ → Ow} {f : γ → δ → τ → Option (α × γ × δ)} {ta : TA} {t : τ} {E : XK} {x x' : γ} {y y' : δ} {r : α} {p q : Addr} {j k : Nat} (h : EMx K F Kn0 sl ow ta t (mk p q)) (hj : ow[j]? = some (o1 p x)) (hk : ow[k]? = some (o2 q y)) (hne : j ≠ k) (a1 : ∀ p x, (o1 p x).ad = p) (a2 : ∀ p x, (o2 p x).ad = p)
    (hf : f x y t = some (r, x', y')) : EM K F Kn0 sl ow (tCall (PM2 K mk o1 o2 f) [] E ta) ((ow.set j (o1 p x')).set k (o2 q y')) r := fun σ Kn H s Q qq => h σ Kn H s _ fun vs Kn1 H1 g1 r1 => by
  have s1 := s.grow g1
  show PM2 K mk o1 o2 f (mk p q vs ++ []) H1 Q E
  rw [List.append_nil]
  obtain ⟨f1, f2, f3⟩ := s1.ow.each _ (List.mem_of_getElem? hj)
  obtain ⟨k1, k2, k3⟩ := s1.ow.each _ (List.mem_of_getElem? hk)
  rw [a1] at f1 f2
  rw [a2] at k1 k2
  have hpq : p ≠ q := fun z => hne (ow_at s1.ow.nd hj hk ((a1 p x).trans (z.trans (a2 q y).symm)))
  exact ⟨Kn1, p, q, vs, t, x, y, r, x', y', rfl, s1.ek, hpq, f2, k2, f3, k3, r1, hf, fun v Kn' H' kk kh hq sp h1 h2 rv => qq v Kn' H' (g1.kk.trans kk) (s1.write2 hj hk hne (a1 p x) (a2 q y) (a1 p x') (a2 q y') kk kh hq sp h1 h2) rv⟩
/-- the second of the changed things is a list made for the call -/
def EMxT {β : Type} [Rp β] (K : Fg) (F Kn0 : Hp) (sl : List Sl) (ow : List Ow) (ta : TA) (xs : List β) (t : τ) (mk : Addr → List V → List V) : Prop := ∀ σ Kn H, S K F Kn0 sl ow σ Kn H → ∀ Q : List V → Hp → Prop,
  (∀ vs q ws Kn' H', Gr Kn H Kn' H' → H q = none → Kn' q = none → H' q = some (.lst ws) → Paired (rep K Kn') ws xs → rept K Kn' vs t → Q (mk q vs) H') → ta σ H Q
theorem emt_new {β : Type} [Rp β] {te : TE} {ta : TA} {xs : List β} {t : τ} {mk : List V → List V} (h : EN K F Kn0 sl ow te xs) (h2 : EMx K F Kn0 sl ow ta t mk) : EMxT K F Kn0 sl ow (tCons te ta) xs t (fun q => mO q mk) := fun σ Kn H s Q qq =>
  h σ Kn H s _ fun q ws Kn1 H1 g1 hq kq hw r1 => h2 σ Kn1 H1 (s.grow g1) _ fun vs Kn2 H2 g2 r2 =>
    qq vs q ws Kn2 H2 (g1.trans g2) hq (g2.sp q (ne_none_of hw) kq) (g2.hh _ _ hw) (paired_mono g2.kk r1) r2
theorem emt_own {β : Type} [Rp β] {ta : TA} {xs : List β} {t : τ} {mk : Addr → List V → List V} {i : Nat} {p : Addr} (hi : sl[i]? = some (.at p)) (h2 : EMxT K F Kn0 sl ow ta xs t mk) : EMxT K F Kn0 sl ow (tCons (tVar i) ta) xs t (fun q => mO p (mk q)) := fun σ Kn H s Q qq => by
  obtain ⟨o, h1, h3⟩ := s.sl.get hi
  exact ⟨.ref p, by rw [h1]; exact congrArg some h3, h2 σ Kn H s _ fun vs q ws Kn2 H2 g2 a b c d r2 => qq vs q ws Kn2 H2 g2 a b c d r2⟩
theorem em_callM2T {β : Type} [Rp β] {mk : Addr → Addr → List V → List V} {o1 : Addr → γ → Ow} {f : γ → List β → τ → Option (α × γ × List β)} {ta : TA} {t : τ} {E : XK} {x x' : γ} {ys ys' : List β} {r : α} {p : Addr} {j : Nat} (h : EMxT K F Kn0 sl ow ta ys t (mk p)) (hj : ow[j]? = some (o1 p x)) (a1 : ∀ p x, (o1 p x).ad = p)
    (hf : f x ys t = some (r, x', ys')) : EM K F Kn0 sl ow (tCall (PM2 K mk o1 (fun p (xs : List β) => ol p xs) f) [] E ta) (ow.set j (o1 p x')) r := fun σ Kn H s Q qq => h σ Kn H s _ fun vs q ws Kn1 H1 g1 hq kq hw r0 r1 => by
  have s1 := s.grow g1
  show PM2 K mk o1 _ f (mk p q vs ++ []) H1 Q E
  rw [List.append_nil]
  have no : ∀ o ∈ ow, o.ad ≠ q := fun o ho z => by
    obtain ⟨_, _, h3⟩ := s.ow.each o ho
    exact Ow.there h3 (by rw [z]; exact hq)
  have s2 : S K F Kn0 sl (ol q ys :: ow) σ Kn1 H1 := s1.own (fresh_back s.ef hq) kq no hw r0
  obtain ⟨f1, f2, f3⟩ := s1.ow.each _ (List.mem_of_getElem? hj)
  have hpq : p ≠ q := fun z => no _ (List.mem_of_getElem? hj) ((a1 p x).trans z)
  rw [a1] at f1 f2
  refine ⟨Kn1, p, q, vs, t, x, ys, r, x', ys', rfl, s1.ek, hpq, f2, kq, f3, ⟨ws, hw, r0⟩, r1, hf, fun v Kn' H' kk kh hq2 sp h1 h2 rv => qq v Kn' H' (g1.kk.trans kk) ?_ rv⟩
  have s3 := s2.write2 (j := j + 1) (k := 0) (b2 := ol q ys') (show (ol q ys :: ow)[j + 1]? = some (o1 p x) from hj) rfl (by omega) (a1 p x) rfl (a1 p x') rfl kk kh hq2 sp h1 h2
  exact s3.sub (List.sublist_cons_self _ _)
theorem enterM2 {σ : L2.St} {Kn H : Hp} {D : Ends} {t : TS} {p q : Addr} {b1 b2 : Ow} (ek : Ex Kn H) (hpq : p ≠ q) (kp : Kn p = none) (kq : Kn q = none) (d1 : b1.ad = p) (d2 : b2.ad = q) (h1 : b1.ok K Kn H) (h2 : b2.ok K Kn H) (hs : SlsOk K Kn sl σ) (h : SB K (but (but H p) q) Kn sl [b1, b2] D t) : t D σ H :=
  h σ Kn H ⟨Ex.refl _, ek, fun a u e => by
    unfold but at e
    split at e
    · cases e
    · split at e
      · cases e
      · exact e, fun _ _ h => h, hs, ⟨fun o ho => by
      rcases List.mem_cons.mp ho with rfl | ho
      · rw [d1]
        refine ⟨?_, kp, h1⟩
        unfold but
        rw [if_neg hpq, if_pos rfl]
      · cases List.mem_singleton.mp ho
        rw [d2]
        exact ⟨if_pos rfl, kq, h2⟩, by
      show [b1.ad, b2.ad].Nodup
      rw [d1, d2]
      exact List.nodup_cons.mpr ⟨(fun h => hpq (List.mem_singleton.mp h)), List.nodup_cons.mpr ⟨(fun h => nomatch h), List.nodup_nil⟩⟩⟩⟩
theorem rt_ofM2 {H Kn : Hp} {r : α} {p q : Addr} {b1 b2 : Ow} {Q : VK} (hpq : p ≠ q) (kp : Kn p = none) (kq : Kn q = none) (d1 : b1.ad = p) (d2 : b2.ad = q)
    (qq : ∀ v Kn' H', Ex Kn Kn' → Ex Kn' H' → (∀ a, a ≠ p → a ≠ q → H a ≠ none → H' a = H a) → (∀ a, H a ≠ none → Kn a = none → Kn' a = none) → b1.ok K Kn' H' → b2.ok K Kn' H' → rep K Kn' v r → Q v H') :
    RT K (but (but H p) q) Kn [b1, b2] Q r := fun v Kn' H' s rv => by
  obtain ⟨_, k1, h1⟩ := s.ow.each b1 List.mem_cons_self
  obtain ⟨_, k2, h2⟩ := s.ow.each b2 (List.mem_cons_of_mem _ List.mem_cons_self)
  rw [d1] at k1
  rw [d2] at k2
  have eb : ∀ a, a ≠ p → a ≠ q → but (but H p) q a = H a := fun a ha hb => by
    unfold but
    rw [if_neg hb, if_neg ha]
  refine qq v Kn' H' s.e0 s.ek (fun a ha hb hn => ?_) (fun a hn hk => ?_) h1 h2 rv
  · exact (Ex.at_eq s.ef (by rw [eb a ha hb]; exact hn)).trans (eb a ha hb)
  · by_cases ha : a = p
    · subst ha
      exact k1
    · by_cases hb : a = q
      · subst hb
        exact k2
      · exact s.sep a (by rw [eb a ha hb]; exact hn) hk
end
theorem fnok_noneM2 {P : Program} {w : World} {K : Fg} {mg : Str → Option Value} {base : Heap} {CX : CXT} {k : Nat} {f : Addr} {fd : FuncData} {ps : List Str} {τ α γ δ : Type} [Tp τ] [Rp α] {mk : Addr → Addr → List V → List V} {o1 : Addr → γ → Ow} {o2 : Addr → δ → Ow} :
    FnOk P w K mg base CX k f fd ps (PM2 K mk o1 o2 (fun _ _ (_ : τ) => (none : Option (α × γ × δ)))) := by
  refine ⟨fun vs H Q E h => ?_, fun A outer s H args us vs Q E hr he hb hv h => ?_⟩
  · obtain ⟨_, _, _, _, _, _, _, _, _, _, _, _, _, _, _, _, _, _, h, _⟩ := h
    cases h
  · obtain ⟨_, _, _, _, _, _, _, _, _, _, _, _, _, _, _, _, _, _, h, _⟩ := h
    cases h
end Wk
set_option maxHeartbeats 4000000
/-! Wchk: a def that changes a list and may raise; signs of a text walked, looked for in a text; a list of texts of the module -/
namespace Wk
open PySem PySem.Spec L2 Evl
/-! signs -/
def sgn (z : Str) : List Str := z.cps.toList.map fun c => ⟨#[c]⟩
theorem wk_str {K : Fg} {Kn1 : Hp} (z : Str) : WK K Kn1 (Its z) (sgn z) := fun i Kn' H' e1 e2 => by
  refine ⟨fun x hx => ?_, fun hl => ?_⟩
  · unfold sgn at hx
    rw [List.getElem?_map] at hx
    obtain ⟨c, hc, rfl⟩ := Option.map_eq_some_iff.mp hx
    rw [Array.getElem?_toList] at hc
    have hi : i < z.cps.size := (Array.getElem?_eq_some_iff.mp hc).1
    refine ⟨hi, fun v H2 hy => ?_⟩
    obtain ⟨rfl, d, hd, rfl⟩ := hy
    rw [hc] at hd
    cases hd
    exact ⟨Kn', Gr.refl e2, rfl⟩
  · unfold sgn at hl
    rw [List.length_map, Array.length_toList] at hl
    exact hl
section
variable {K : Fg} {F Kn0 : Hp} {sl : List Sl} {ow : List Ow} {te : TE}
theorem it_str {z : Str} (h : EV K F Kn0 sl ow te z) : IT K F Kn0 sl ow (iStr te) (sgn z) := fun σ Kn H s R q => h σ Kn H s _ fun v Kn1 H1 g1 r1 => ⟨z, r1, q _ Kn1 H1 g1 (wk_str z)⟩
end
/-- is a sign in a text? -/
def inSO (x z : Str) : Option Bool := match x.cps.toList with
  | [c] => some (decide (c ∈ z.cps.toList))
  | _ => none
theorem inSO_some {x z : Str} {b : Bool} (h : inSO x z = some b) : ∃ c : Nat, x = ⟨#[c]⟩ ∧ b = decide (c ∈ z.cps.toList) := by
  unfold inSO at h
  split at h
  · rename_i c hc
    cases h
    refine ⟨c, ?_, rfl⟩
    obtain ⟨cps⟩ := x
    have hc : cps.toList = [c] := hc
    have : cps = #[c] := by rw [← Array.toArray_toList (xs := cps), hc]
    rw [this]
  · cases h
def rSgn (neg : Bool) : R2 := fun x y H Q => ∃ (c : Nat) (z : Str), x = .str ⟨#[c]⟩ ∧ y = .str z ∧ Q (.bl (if neg = true then !decide (c ∈ z.cps.toList) else decide (c ∈ z.cps.toList))) H
theorem k_inS {X : Cx} : OpR X (compareOp .In) (rSgn false) := fun pins s σ H x y v u Q I rx ry h => by
  obtain ⟨c, z, h1, h2, q⟩ := h
  exact op_in_sign pins s σ H x y v u Q I rx ry ⟨c, z, h1, h2, q⟩
theorem k_notInS {X : Cx} : OpR X (compareOp .NotIn) (rSgn true) := fun pins s σ H x y v u Q I rx ry h => by
  obtain ⟨c, z, h1, h2, q⟩ := h
  exact op_notIn_sign pins s σ H x y v u Q I rx ry ⟨c, z, h1, h2, q⟩
theorem r2_inS {K : Fg} {x z : Str} {b : Bool} (h : inSO x z = some b) : R2V K (rSgn false) x z b := fun Kn H v w ek h1 h2 Q q => by
  obtain ⟨c, rfl, rfl⟩ := inSO_some h
  cases h1
  cases h2
  exact ⟨c, z, rfl, rfl, q.fl ek⟩
theorem r2_notInS {K : Fg} {x z : Str} {b : Bool} (h : inSO x z = some b) : R2V K (rSgn true) x z (!b) := fun Kn H v w ek h1 h2 Q q => by
  obtain ⟨c, rfl, rfl⟩ := inSO_some h
  cases h1
  cases h2
  exact ⟨c, z, rfl, rfl, q.fl ek⟩
/-! texts of the module -/
def KLst (K : Fg) (a : Addr) (tab : List Str) : Prop := ∃ (o : Obj) (its : Array Value) (n : Nat), K.lookup a = some o ∧ o.cls = .type "list" ∧ o.dict = none ∧ o.data = .seq its n ∧ its.size ≤ sizeLine ∧ Vals (tab.map V.str) its.toList
section
variable {K : Fg} {F Kn0 : Hp} {sl : List Sl} {ow : List Ow}
theorem ev_klst {p : Addr} {tab : List Str} (ht : KLst K p tab) : EV K F Kn0 sl ow (tC (.ref p)) (Fz.mk tab) := fun σ Kn H s Q q => q _ Kn H (Gr.refl s.ek) ⟨p, tab.map V.str, rfl, .inr ht, fl_paired tab⟩
theorem ev_ktup {p : Addr} {tab : List Str} (ht : KTup K p tab) : EV K F Kn0 sl ow (tC (.ref p)) (Kt.mk tab) := fun σ Kn H s Q q => q _ Kn H (Gr.refl s.ek) ⟨p, tab.map V.str, rfl, .inr ht, fl_paired tab⟩
theorem r2_inF {α : Type} [Rp α] [Fl α] [DecidableEq α] [Fe α] {x : α} {xs : Fz α} : R2V K (rIn K false) x xs (decide (x ∈ xs.l)) := fun Kn H v w ek h1 h2 Q q => by
  obtain ⟨p, ws, rfl, h3, h4⟩ := h2
  have e := paired_fl h4
  subst e
  rw [Fl.iff.mp h1]
  refine ⟨p, _, rfl, .inl (ex_l ek h3), Fe.flat x, all_flat xs.l, ?_⟩
  rw [any_mem]
  exact q.fl ek
theorem r2_notInF {α : Type} [Rp α] [Fl α] [DecidableEq α] [Fe α] {x : α} {xs : Fz α} : R2V K (rIn K true) x xs (!decide (x ∈ xs.l)) := fun Kn H v w ek h1 h2 Q q => by
  obtain ⟨p, ws, rfl, h3, h4⟩ := h2
  have e := paired_fl h4
  subst e
  rw [Fl.iff.mp h1]
  refine ⟨p, _, rfl, .inl (ex_l ek h3), Fe.flat x, all_flat xs.l, ?_⟩
  rw [any_mem]
  exact q.fl ek
theorem r2_inKt {α : Type} [Rp α] [Fl α] [DecidableEq α] [Fe α] {x : α} {xs : Kt α} : R2V K (rIn K false) x xs (decide (x ∈ xs.l)) := fun Kn H v w ek h1 h2 Q q => by
  obtain ⟨p, ws, rfl, h3, h4⟩ := h2
  have e := paired_fl h4
  subst e
  rw [Fl.iff.mp h1]
  refine ⟨p, _, rfl, .inr (ex_t ek h3), Fe.flat x, all_flat xs.l, ?_⟩
  rw [any_mem]
  exact q.fl ek
theorem r2_notInKt {α : Type} [Rp α] [Fl α] [DecidableEq α] [Fe α] {x : α} {xs : Kt α} : R2V K (rIn K true) x xs (!decide (x ∈ xs.l)) := fun Kn H v w ek h1 h2 Q q => by
  obtain ⟨p, ws, rfl, h3, h4⟩ := h2
  have e := paired_fl h4
  subst e
  rw [Fl.iff.mp h1]
  refine ⟨p, _, rfl, .inr (ex_t ek h3), Fe.flat x, all_flat xs.l, ?_⟩
  rw [any_mem]
  exact q.fl ek
end
/-- xs + e, xs of one's own -/
theorem en_catOwn {K : Fg} {F Kn0 : Hp} {sl : List Sl} {ow : List Ow} {α : Type} [Rp α] {te : TE} {xs ys zs : List α} {i j : Nat} {p : Addr} (hi : sl[i]? = some (.at p)) (hj : ow[j]? = some (ol p xs)) (h : EV K F Kn0 sl ow te ys) (hz : catO xs ys = some zs) : EN K F Kn0 sl ow (tOp rCat (tVar i) te) zs := fun σ Kn H s Q q => by
  unfold catO at hz
  split at hz
  case isFalse => cases hz
  rename_i hb
  cases hz
  obtain ⟨o, h1, h2⟩ := s.sl.get hi
  obtain ⟨f1, f2, ws, f3, f4⟩ := s.ow.each _ (List.mem_of_getElem? hj)
  refine ⟨.ref p, by rw [h1]; exact congrArg some h2, h σ Kn H s _ fun v Kn1 H1 g1 r1 => ?_⟩
  obtain ⟨p2, ws2, rfl, h5, h6⟩ := r1
  exact ⟨p, p2, ws, ws2, rfl, rfl, g1.hh _ _ f3, g1.kh _ _ h5, by rw [paired_len f4, paired_len h6]; exact le_line hb, fun l hl =>
    q l _ Kn1 _ (g1.trans (Gr.newU g1.kh hl)) (fresh_back g1.hh hl) (fresh_back g1.kh hl) upd_same (paired_append (paired_mono g1.kk f4) h6)⟩
/-! a def that changes a list and may raise -/
def PMX {α β τ : Type} [Rp α] [Rp β] [Tp τ] (K : Fg) (cm : Str → Option Addr) (mk : Addr → List V → List V) (f : List β → τ → Option (Er (α × List β))) : Sp := fun vs H Q E => ∃ Kn p ws rest t xs r, vs = mk p rest ∧ Ex Kn H ∧ Kn p = none ∧ H p = some (.lst ws) ∧ Paired (rep K Kn) ws xs ∧ rept K Kn rest t ∧ f xs t = some r ∧
  match r with
  | .ok y => ∀ v Kn' H' ws', Ex Kn Kn' → Ex Kn' H' → (∀ q, q ≠ p → H q ≠ none → H' q = H q) → (∀ q, H q ≠ none → Kn q = none → Kn' q = none) → H' p = some (.lst ws') → Paired (rep K Kn') ws' y.2 → rep K Kn' v y.1 → Q v H'
  | .ex e => ∀ cls d Kn' H', Ex Kn Kn' → Ex Kn' H' → (∀ q, q ≠ p → H q ≠ none → H' q = H q) → (∀ q, q ≠ p → H q ≠ none → Kn q = none → Kn' q = none) → XR cm Kn' e cls d → E cls d H'
/-- the expression raises e; what stands of one's own is ow1 -/
def ERM (K : Fg) (F Kn0 : Hp) (sl : List Sl) (ow : List Ow) (cm : Str → Option Addr) (W : WX) (te : TE) (ow1 : List Ow) (e : Xc) : Prop := ∀ σ Kn H, S K F Kn0 sl ow σ Kn H → (∀ cls d Kn' H', S K F Kn0 sl ow1 σ Kn' H' → XR cm Kn' e cls d → W cls d σ H') → ∀ Q, te σ H Q
section
variable {K : Fg} {F Kn0 : Hp} {sl : List Sl} {ow ow1 : List Ow} {cm : Str → Option Addr} {α β τ : Type} [Rp α] [Rp β] [Tp τ] {W : WX} {D : Ends} {te : TE} {ta : TA} {t : τ} {e : Xc} {mk : Addr → List V → List V}
theorem em_callMX {f : List β → τ → Option (Er (α × List β))} {E : St → XK} {xs xs' : List β} {r : α} {p : Addr} {j : Nat} (h : EMx K F Kn0 sl ow ta t (mk p)) (hj : ow[j]? = some (ol p xs)) (hf : f xs t = some (.ok (r, xs'))) : EM K F Kn0 sl ow (tCallS (PMX K cm mk f) E ta) (ow.set j (ol p xs')) r := fun σ Kn H s Q q =>
  h σ Kn H s _ fun vs Kn1 H1 g1 r1 => by
    have s1 := s.grow g1
    obtain ⟨f1, f2, ws, f3, f4⟩ := s1.ow.each _ (List.mem_of_getElem? hj)
    exact ⟨Kn1, p, ws, vs, t, xs, .ok (r, xs'), rfl, s1.ek, f2, f3, f4, r1, hf, fun v Kn' H' ws' kk kh hq sp hp rr rv => q v Kn' H' (g1.kk.trans kk) (s1.write hj kk kh hq sp hp rr) rv⟩
/-- one of one's own is given up, all else as it was -/
theorem S.lose {σ : L2.St} {Kn H Kn' H' : Hp} {p : Addr} {xs : List β} {j : Nat} (s : S K F Kn0 sl ow σ Kn H) (hj : ow[j]? = some (ol p xs)) (kk : Ex Kn Kn') (kh : Ex Kn' H') (hq : ∀ q, q ≠ p → H q ≠ none → H' q = H q) (sp : ∀ q, q ≠ p → H q ≠ none → Kn q = none → Kn' q = none) : S K F Kn0 sl (ow.eraseIdx j) σ Kn' H' := by
  obtain ⟨f1, f2, f3⟩ := s.ow.each _ (List.mem_of_getElem? hj)
  have f1 : F p = none := f1
  have hne : ∀ a, F a ≠ none → a ≠ p := fun a h z => h (by rw [z]; exact f1)
  refine ⟨s.e0.trans kk, kh, fun a u h => ?_, fun a h1 h2 => sp a (hne a h1) (Ex.nn s.ef h1) (s.sep a h1 h2), s.sl.mono kk, ⟨fun o ho => ?_, s.ow.nd.sublist ((List.eraseIdx_sublist ow j).map _)⟩⟩
  · rw [hq a (hne a (ne_none_of h)) (ne_none_of (s.ef _ _ h))]
    exact s.ef _ _ h
  · obtain ⟨h1, h2, h3⟩ := s.ow.each o ((List.eraseIdx_sublist ow j).subset ho)
    have h4 := Ow.there h3
    have no : o.ad ≠ p := fun z => by
      obtain ⟨m, hm'⟩ := List.getElem?_of_mem ho
      rw [List.getElem?_eraseIdx] at hm'
      split at hm'
      · have := ow_at s.ow.nd hm' hj z
        omega
      · have := ow_at s.ow.nd hm' hj z
        omega
    exact ⟨h1, sp _ no h4 h2, Ow.ok_mono kk (hq _ no h4) h3⟩
theorem er_callMX {f : List β → τ → Option (Er (α × List β))} {xs : List β} {p : Addr} {j : Nat} (h : EMx K F Kn0 sl ow ta t (mk p)) (hj : ow[j]? = some (ol p xs)) (hf : f xs t = some (.ex e)) : ERM K F Kn0 sl ow cm W (tCallS (PMX K cm mk f) (WE W) ta) (ow.eraseIdx j) e := fun σ Kn H s w Q =>
  h σ Kn H s _ fun vs Kn1 H1 g1 r1 => by
    have s1 := s.grow g1
    obtain ⟨f1, f2, ws, f3, f4⟩ := s1.ow.each _ (List.mem_of_getElem? hj)
    exact ⟨Kn1, p, ws, vs, t, xs, .ex e, rfl, s1.ek, f2, f3, f4, r1, hf, fun cls d Kn' H' kk kh hq sp x => w cls d Kn' H' (s1.lose hj kk kh hq sp) x⟩
theorem emt_val {te : TE} {ta : TA} {γ : Type} [Rp γ] {x : γ} {xs : List β} {t : τ} {mk : Addr → List V → List V} (h : EV K F Kn0 sl ow te x) (h2 : EMxT K F Kn0 sl ow ta xs t mk) : EMxT K F Kn0 sl ow (tCons te ta) xs (x, t) (fun q => mV (mk q)) := fun σ Kn H s Q qq =>
  h σ Kn H s _ fun v Kn1 H1 g1 r1 => h2 σ Kn1 H1 (s.grow g1) _ fun vs q ws Kn2 H2 g2 a b c d r2 => qq (v :: vs) q ws Kn2 H2 (g1.trans g2) (fresh_back g1.hh a) b c d ⟨v, vs, rfl, Rp.mono g2.kk r1, r2⟩
theorem ev_callMXN {f : List β → τ → Option (Er (α × List β))} {E : St → XK} {xs xs' : List β} {r : α} (h : EMxT K F Kn0 sl ow ta xs t mk) (hf : f xs t = some (.ok (r, xs'))) : EV K F Kn0 sl ow (tCallS (PMX K cm mk f) E ta) r := fun σ Kn H s Q qq =>
  h σ Kn H s _ fun vs q ws Kn1 H1 g1 hq kq hw r0 r1 => ⟨Kn1, q, ws, vs, t, xs, .ok (r, xs'), rfl, g1.kh, kq, hw, r0, r1, hf, fun v Kn' H' ws' kk kh hq2 sp hp rr rv =>
    qq v Kn' H' ⟨g1.kk.trans kk, fun a u e => by
      have na : a ≠ q := fun z => by rw [z, hq] at e; cases e
      have e1 := g1.hh a u e
      rw [hq2 a na (ne_none_of e1)]
      exact e1, kh, fun a e1 e2 => sp a (Ex.nn g1.hh e1) (g1.sp a e1 e2)⟩ rv⟩
theorem er_callMXN {f : List β → τ → Option (Er (α × List β))} {xs : List β} (h : EMxT K F Kn0 sl ow ta xs t mk) (hf : f xs t = some (.ex e)) : ER K F Kn0 sl ow cm W (tCallS (PMX K cm mk f) (WE W) ta) e := fun σ Kn H s w Q =>
  h σ Kn H s _ fun vs q ws Kn1 H1 g1 hq kq hw r0 r1 => ⟨Kn1, q, ws, vs, t, xs, .ex e, rfl, g1.kh, kq, hw, r0, r1, hf, fun cls d Kn' H' kk kh hq2 sp x => by
    have na : ∀ a, H a ≠ none → a ≠ q := fun a e z => e (by rw [z]; exact hq)
    refine w cls d Kn' H' (s.grow ⟨g1.kk.trans kk, fun a u e => ?_, kh, fun a e1 e2 => sp a (na a e1) (Ex.nn g1.hh e1) (g1.sp a e1 e2)⟩) x
    have e1 := g1.hh a u e
    rw [hq2 a (na a (ne_none_of e)) (ne_none_of e1)]
    exact e1⟩
theorem sb_dropRM (h : ERM K F Kn0 sl ow cm W te ow1 e) (w : RW K F Kn0 sl ow1 cm W e) : SB K F Kn0 sl ow D (tDrop te) := fun σ Kn H s => h σ Kn H s (fun cls d Kn' H' s' x => w σ Kn' H' cls d s' x) _
end
def REM {α β : Type} [Rp α] [Rp β] (K : Fg) (F Kn0 : Hp) (cm : Str → Option Addr) (p : Addr) (R : VK) (E : XK) : Er (α × List β) → Prop
  | .ok y => RT K F Kn0 [ol p y.2] R y.1
  | .ex e => RX K F Kn0 [] cm E e
section
variable {K : Fg} {F F' Kn0 Kn1 : Hp} {cm : Str → Option Addr} {α β : Type} [Rp α] [Rp β] {p : Addr} {R : VK} {E : XK}
theorem REM.base {r : Er (α × List β)} (q : REM K F Kn0 cm p R E r) (b : Bs F Kn0 Kn1) : REM K F Kn1 cm p R E r := by
  cases r with
  | ok x => exact RT.base (R := R) q b
  | ex e => exact RX.base q b
theorem REM.fr {r : Er (α × List β)} (q : REM K F Kn0 cm p R E r) (f : Fle F F') : REM K F' Kn0 cm p R E r := by
  cases r with
  | ok x => exact RT.fr (R := R) f q
  | ex e => exact RX.fr f q
theorem REM.ok_rt {x : α} {xs : List β} (q : REM K F Kn0 cm p R E (.ok (x, xs))) : RT K F Kn0 [ol p xs] R x := q
theorem rem_of {H Kn : Hp} {r : Er (α × List β)} {Q : VK} (kp : Kn p = none) (q : match r with
    | .ok y => ∀ v Kn' H' ws', Ex Kn Kn' → Ex Kn' H' → (∀ q, q ≠ p → H q ≠ none → H' q = H q) → (∀ q, H q ≠ none → Kn q = none → Kn' q = none) → H' p = some (.lst ws') → Paired (rep K Kn') ws' y.2 → rep K Kn' v y.1 → Q v H'
    | .ex e => ∀ cls d Kn' H', Ex Kn Kn' → Ex Kn' H' → (∀ q, q ≠ p → H q ≠ none → H' q = H q) → (∀ q, q ≠ p → H q ≠ none → Kn q = none → Kn' q = none) → XR cm Kn' e cls d → E cls d H') : REM K (but H p) Kn cm p Q E r := by
  cases r with
  | ok y => exact rt_ofM kp q
  | ex e => exact fun cls d Kn' H' s x => q cls d Kn' H' s.e0 s.ek (fun a ha hn => by
      have e : but H p a = H a := if_neg ha
      exact (Ex.at_eq s.ef (by rw [e]; exact hn)).trans e) (fun a ha hn hk => s.sep a (by unfold but; rw [if_neg ha]; exact hn) hk) x
end
theorem fnok_noneMX {P : Program} {w : World} {K : Fg} {mg : Str → Option Value} {base : Heap} {CX : CXT} {k : Nat} {f : Addr} {fd : FuncData} {ps : List Str} {τ α β : Type} [Tp τ] [Rp α] [Rp β] {cm : Str → Option Addr} {mk : Addr → List V → List V} :
    FnOk P w K mg base CX k f fd ps (PMX K cm mk (fun _ (_ : τ) => (none : Option (Er (α × List β))))) := by
  refine ⟨fun vs H Q E h => ?_, fun A outer s H args us vs Q E hr he hb hv h => ?_⟩
  · obtain ⟨_, _, _, _, _, _, _, _, _, _, _, _, _, h, _⟩ := h
    cases h
  · obtain ⟨_, _, _, _, _, _, _, _, _, _, _, _, _, h, _⟩ := h
    cases h
end Wk
set_option maxHeartbeats 4000000
/-! WisT: isinstance(e, (C, ..)), e the exception that a suite holds -/
namespace L2
open PySem PySem.Spec PyProof.Rows
section
variable {X : Cx}
def rIsXT (K : PySem.W.Frag) (D a : Addr) (cls : Value) (d : Option Addr) : List V → Hp → VK → Prop := fun xs H Q => ∃ (tp : Addr) (cs : List V) (us : List Value) (b : Bool), xs = [.ref a, .ref tp] ∧ cls = .ref D ∧ (d = none ∨ ∃ dd fs, d = some dd ∧ H dd = some (.xd fs)) ∧ H tp = some (.tup cs) ∧ Paired ClsV cs us ∧ PySem.W.kitAny K (.ref D) us = some b ∧ Q (.bl b) H
theorem call_isXT {a D : Addr} {oe : Obj} {cls : Value} {d : Option Addr} {pn : List (Addr × Obj)} (C : PySem.W.findIn X.K (.ref D) "__getattribute__" = some (some (.builtin "BaseException.__getattribute__")) ∧ PySem.W.findIn X.K (.ref D) "__getattr__" = some none ∧ PySem.W.subIn X.K (.ref D) (.type "BaseException") = some true ∧ PySem.W.isClsIn X.K D = true ∧
      PySem.W.findIn X.K (.ref D) "__class__" = some (some (.builtin "object.__class__")) ∧ PySem.W.specialIn X.K (.builtin "object.__class__") "__get__" = some (some (.builtin "getset_descriptor.__get__")) ∧ PySem.W.takesIn X.K (.builtin "object.__class__") = some true ∧ PySem.W.mroIn X.K D (.type "object") = some true)
    (hz : Zc cls d oe) (hf : ∃ vs, oe.data = .fields vs) : CallR (X.suite a ((a, oe) :: pn)) (.builtin "isinstance") (rIsXT X.K D a cls d) := by
  intro pins s σ H xs us Q I r h
  obtain ⟨tp, cs, ws, b, rfl, rfl, hd, hT, k, e, q⟩ := h
  obtain ⟨c1, c2, c3, c4, c5, c6, c7, c8⟩ := C
  obtain ⟨u1, u2, rfl, r1, r2⟩ := vals2 r
  cases (show u1 = Value.ref a from r1)
  cases (show u2 = Value.ref tp from r2)
  obtain ⟨hget, _⟩ := I.pin (a, oe) (List.mem_append.mpr (.inl List.mem_cons_self))
  obtain ⟨vs, hv⟩ := hf
  have J : ∃ od, PySem.W.InstAt s.heap a oe D od := by
    rcases hd with rfl | ⟨dd, fs, rfl, hdd⟩
    · refine ⟨none, hget, hz.1, by unfold PySem.W.notCls; rw [hv] <;> rfl, ?_⟩
      rw [hz.2]
      trivial
    · have hx : ObjOk X.prog X.w H s.heap dd (.xd fs) := I.hok dd _ hdd
      obtain ⟨mA, hns, _⟩ := hx
      obtain ⟨od, ho, _⟩ := lookIn_ns hns
      refine ⟨some od, hget, hz.1, by unfold PySem.W.notCls; rw [hv] <;> rfl, ?_⟩
      rw [hz.2]
      exact ho
  obtain ⟨od, J⟩ := J
  obtain ⟨_, its, rv, o, h1, h2, n, h3⟩ := (show ObjOk X.prog X.w H s.heap tp (.tup cs) from I.hok tp _ hT)
  have e3 := ClsV.all k rv
  subst e3
  obtain ⟨oc, odd, dt, sl⟩ := o
  simp only at h2 h3
  subst h2 h3
  exact PySem.W.kia_tup (PySem.W.kitx_exc c4 c1 c2 c3 c5 c6 c7 c8) I.kIn J h1 e (fun z => nomatch z) fun tk => ⟨.bl b, H, I.kept (t' := tk) fun _ _ z => z, rfl, q⟩
end
end L2
namespace Wk
open PySem PySem.Spec L2 Evl
class Ct (τ : Type) [Tp τ] where
  us : τ → List Value
  is : ∀ {K : Fg} {H : Hp} {vs : List V} {t : τ}, rept K H vs t → Paired ClsV vs (us t)
instance : Ct Unit := ⟨fun _ => [], fun h => by cases h; exact .nil⟩
instance {τ : Type} [Tp τ] [Ct τ] : Ct (ClN × τ) := ⟨fun t => .ref t.1.a :: Ct.us t.2, fun h => by
  obtain ⟨v, r, rfl, h1, h2⟩ := h
  cases h1
  exact .cons (.own _) (Ct.is h2)⟩
instance {τ : Type} [Tp τ] [Ct τ] : Ct (TyN × τ) := ⟨fun t => .type t.1.n :: Ct.us t.2, fun h => by
  obtain ⟨v, r, rfl, h1, h2⟩ := h
  cases h1
  exact .cons (.ty _) (Ct.is h2)⟩
theorem rc_isXT {K : Fg} {α τ : Type} [Rp α] [Tp τ] [Ct (α × τ)] {t : α × τ} {a D : Addr} {cm : Str → Option Addr} {cls : Value} {d : Option Addr} {n : Str} {b : Bool} {u : Unit} {e : Xc} (hD : cm n = some D) (hx : xcls e n = some u) (hk : PySem.W.kitAny K (.ref D) (Ct.us t) = some b) : RCV K (rIsXT K D a cls d) ((Xv.mk e : Xv cm a cls d), t, ()) b := fun Kn H vs ek h Q q => by
  obtain ⟨v, w, rfl, h1, h2⟩ := two_args h
  obtain ⟨rfl, A, hA, hc, hd⟩ := h1
  rw [xcls_eq hx, hD] at hA
  cases hA
  obtain ⟨p, ws, rfl, h3, h4⟩ := h2
  refine ⟨p, ws, _, b, rfl, hc, ?_, ek _ _ h3, Ct.is (τ := α × τ) h4, hk, q.fl ek⟩
  rcases hd with ⟨_, h1⟩ | ⟨dd, fs, h1, h3, _⟩
  · exact .inl h1
  · exact .inr ⟨dd, fs, h1, ek _ _ h3⟩
end Wk
set_option maxHeartbeats 4000000
/-! Wtry2: several except clauses, each with a name -/
namespace L2
open PySem PySem.Spec PyProof.Rows
/-- what clauses with names wish, one behind another -/
def wAsM (K : PySem.W.Frag) (Wout : WX) (D : Ends) : List (Value × Nat × (Addr → Value → Option Addr → TS)) → WX
  | [] => Wout
  | (c, i, ts) :: r => wAs K c i ts (wAsM K Wout D r) D
inductive HdA (X : Cx) : List ExceptHandler → List (Value × Nat × (Addr → Value → Option Addr → TS)) → Prop
  | nil : HdA X [] []
  | cons {x n : Str} {c : Value} {i : Nat} {ts : Addr → Value → Option Addr → TS} {b₀ : Stmt} {suite : List Stmt} {np pos' : Pos} {hds : List ExceptHandler} {l : List (Value × Nat × (Addr → Value → Option Addr → TS))} (hi : X.N[i]? = some n) (hln : X.env.kindOf n = some .local) (hc : Names X x c)
      (hsu : ∀ (a : Addr) (oe : Obj) (cls : Value) (d : Option Addr) (pn : List (Addr × Obj)), Zc cls d oe → (∃ vs, oe.data = .fields vs) → PSs (X.suite a ((a, oe) :: pn)) (b₀ :: suite) (ts a cls d)) (r : HdA X hds l) :
      HdA X (.ExceptHandler (some (.Name x np)) (some n) (b₀ :: suite) pos' :: hds) ((c, i, ts) :: l)
section
variable {X : Cx} {body : List Stmt} {h₀ : ExceptHandler} {hds : List ExceptHandler} {l : List (Value × Nat × (Addr → Value → Option Addr → TS))} {pos : Pos} {tb : WX → TS} {Wout : WX}
theorem ps_try_asM (hs : X.stack = X.env :: X.outer) (hf : X.env.frame = some X.env.locals) (hN : X.N.Nodup) (tk : Takes X Wout)
    (hb : ∀ (W : WX) (pn : List (Addr × Obj)) (xe : Value → Shared → Prop), Takes (X.tr pn xe) W → PassesOwn (model X.prog X.w) X.A X.env xe → PSs (X.tr pn xe) body (tb W))
    (hh : HdA X (h₀ :: hds) l) : PS X (.Try body (h₀ :: hds) [] [] pos) (fun D σ H => tb (wAsM X.K Wout D l) D σ H) := by
  refine ⟨fun pins s σ H D I h => ?_⟩
  have ok := I.ok
  have hfr : X.A.frames = some (X.env :: X.outer) := by rw [ok.frames, hs]
  refine wpAny_Try_except ?_
  refine wpAny_mono ((hb (wAsM X.K Wout D l) (X.pn ++ pins) (fun e s₁ => wpAny (model X.prog X.w) X.A (noteFrame e X.env) (fun _ s₂ => wpAny (model X.prog X.w) X.A (setFlight e none) (fun _ s₃ =>
    wpAny (model X.prog X.w) X.A (handleBy e X.env (h₀ :: hds)) (SP X pins D) X.xe s₃) X.xe s₂) X.xe s₁) (fun u s' xx => ?_) PassesOwn.looking).run [] s σ H D (I.toTry _) h) (fun f s1 hsp => ?_) (fun e s1 he => he)
  · obtain ⟨a, B, sI, pins', σ', H', cls, d, rfl, J', nb, up, sky, na, os, ag, w⟩ := xx
    have J : Inv X pins σ' H' sI := J'.ofTry ok
    have sky' : Sky B (X.env :: X.outer) a (Zc cls d) X.env.locals s'.heap := by rw [← hs]; exact sky
    show wpAny (model X.prog X.w) X.A (noteFrame (.ref a) X.env) _ _ _
    refine Sky.land Zc.steady hfr hf sky' fun h3 fl3 up3 => ?_
    have J3 : Inv X pins σ' H' { s' with heap := h3 } := J.landed nb fl3.1 (up.trans up3) os ag
    obtain ⟨oe3, vs3, he3, hz3, hd3⟩ := fl3.there
    have notFr : ∀ {h : Heap} {o : Obj} {vs : Array Value}, h.FunFrames B (X.env :: X.outer) → h.get? a = some o → o.data = .fields vs → a ∉ frs (X.env :: X.outer) := fun {h o vs} ff e dd hm => by
      obtain ⟨_, o', e', hnf⟩ := ff.mem hm
      rw [e] at e'; cases e'
      exact hnf _ dd
    have nfr := notFr fl3.2.2.1 he3 hd3
    have nL : a ≠ X.env.locals := fun z => nfr (List.mem_filterMap.mpr ⟨X.env, List.mem_cons_self, by rw [hf, z]⟩)
    have nF : a ∉ X.fs := fun hm => by
      obtain ⟨e, he, q⟩ := List.mem_filterMap.mp hm
      exact nfr (List.mem_filterMap.mpr ⟨e, List.mem_cons_of_mem _ he, q⟩)
    have S3 := J3.suite he3 hd3 na nL nF
    have go : ∀ {hds' : List ExceptHandler} {l' : List (Value × Nat × (Addr → Value → Option Addr → TS))}, HdA X hds' l' → wAsM X.K Wout D l' cls d σ' H' →
        wpAny (model X.prog X.w) X.A (handleBy (.ref a) X.env hds') (SP X pins D) X.xe { s' with heap := h3 } := by
      intro hds' l' hk
      induction hk with
      | nil =>
        intro w
        refine wpAny_handleBy_nil ?_
        obtain ⟨k1, k2, k3, oe, vs, T, oT, ts', he, hz, hd, h1, hr⟩ := id fl3
        unfold PySem.passOn
        refine wpAny_bind (wpAny_field he hd h1 ?_)
        rw [if_neg (show ¬ ((Value.ref T == Value.none) = true) from by simp)]
        have fin : wpAny (model X.prog X.w) X.A (setFlight (.ref a) X.env.frame) (fun _ s4 => wpAny (model X.prog X.w) X.A (throw (.ref a) : Sem Flow) (SP X pins D) X.xe s4) X.xe { s' with heap := h3 } := by
          rw [hf]
          refine HandSPX.setFlight_upZ fl3 fun h4 hh4 up4 => wpAny_throw (tk _ _ ?_)
          exact ⟨a, B, sI, pins, σ', H', cls, d, rfl, J, nb, (up.trans up3).trans up4, .inr (.inr (by rw [hs]; exact hh4)), na, os, ag, w⟩
        first
          | exact wpAny_bind (wpAny_pure (wpAny_bind fin))
          | exact wpAny_bind fin
      | @cons x n c i ts b₀ suite np pos' hds2 l2 hi hln hc hsu r ih =>
        intro w
        obtain ⟨b, hb1, hyes, hno⟩ := w
        have hloc : Loc X.env.scope n := .inl hln
        refine wpAny_handleBy_cons (codeAny_handlers_test ?_) (by intro q; cases q)
        have LT : PySem.W.Looks (model X.prog X.w) h3 (typeOf (.ref a)) cls := fun A Q E s k q => wpAny_typeOf_ref (k _ _ he3) (by rw [hz3.1]; exact q)
        have LM := PySem.W.exm_one (M := model X.prog X.w) (J3.kIn) LT hb1
        have test : ∀ {Q : Value → Shared → Prop} {E : Value → Shared → Prop}, Q c { s' with heap := h3 } → wpAny (model X.prog X.w) (X.A.mark (some (.ref a))) (eval (.Name x np) X.env) Q E { s' with heap := h3 } := fun {Q E} q => by
          obtain ⟨hg, hdbg, hm | ⟨hm, hv, hnn⟩⟩ := hc
          · exact ld_glob (X := X.suite a ((a, oe3) :: (X.pn ++ pins))) S3 hg hm q hdbg
          · exact ld_blt (X := X.suite a ((a, oe3) :: (X.pn ++ pins))) S3 hg hm hv q hnn hdbg
        refine test (LM.here ?_)
        cases b with
        | true =>
          refine codeAny_handlers_suite_as ?_
          refine HandSPX.lands_againZ fl3 fun h4 fl4 up4 => ?_
          have J4 : Inv X pins σ' H' { s' with heap := h4 } := J.landed nb fl4.1 ((up.trans up3).trans up4) os ag
          obtain ⟨oe4, vs4, he4, hz4, hd4⟩ := fl4.there
          have S4 := J4.suite he4 hd4 na nL nF
          refine store_ok (X := X.suite a ((a, oe4) :: (X.pn ++ pins))) (v := .ref a) S4 hN hi hloc rfl (fun s5 S5 => ?_) (.inr hln)
          refine wpAny_mono ((hsu a oe4 cls d (X.pn ++ pins) hz4 ⟨_, hd4⟩).run [] s5 _ H' _ S5 (hyes rfl a na)) (fun f s6 hsp => ?_) (fun _ _ z => False.elim z)
          have end_ : ∀ {σ6 : St} {H6 : Hp} {Q : Shared → Prop}, Inv (X.suite a ((a, oe4) :: (X.pn ++ pins))) [] σ6 H6 s6 → (∀ s7, Inv X pins (σ6.set i none) H6 s7 → Q s7) →
              wpAny (model X.prog X.w) X.A (do bindName X.env n .none; unbindBehindTheSuite X.env n pos') (fun _ s7 => Q s7) X.xe s6 := fun {σ6 H6 Q} S6 hq => gone_ok (S6.unsuite ok) hN hi hln hq
          cases f with
          | next =>
            obtain ⟨σ6, H6, S6, q6⟩ := hsp
            exact end_ S6 fun s7 J7 => ⟨_, _, J7, q6⟩
          | brk =>
            obtain ⟨σ6, H6, S6, q6⟩ := hsp
            exact end_ S6 fun s7 J7 => ⟨_, _, J7, q6⟩
          | cont =>
            obtain ⟨σ6, H6, S6, q6⟩ := hsp
            exact end_ S6 fun s7 J7 => ⟨_, _, J7, q6⟩
          | ret u =>
            obtain ⟨v6, σ6, H6, S6, r6, q6⟩ := hsp
            exact end_ S6 fun s7 J7 => ⟨_, _, _, J7, r6, q6⟩
        | false =>
          show wpAny _ X.A (handleBy (.ref a) X.env hds2) _ _ _
          exact ih (hno rfl)
    exact go hh w
  · cases f with
    | next =>
      obtain ⟨σ', H', J', q⟩ := hsp
      exact wpAny_execs_nil ⟨σ', H', J'.ofTry ok, q⟩
    | brk =>
      obtain ⟨σ', H', J', q⟩ := hsp
      exact ⟨σ', H', J'.ofTry ok, q⟩
    | cont =>
      obtain ⟨σ', H', J', q⟩ := hsp
      exact ⟨σ', H', J'.ofTry ok, q⟩
    | ret u =>
      obtain ⟨v, σ', H', J', r, q⟩ := hsp
      exact ⟨v, σ', H', J'.ofTry ok, r, q⟩
end
end L2
namespace Wk
open PySem PySem.Spec L2 Evl
section
variable {K : Fg} {F Kn0 : Hp} {sl : List Sl} {ow : List Ow} {cm : Str → Option Addr} {D : Ends} {e : Xc} {i : Nat}
theorem rw_no {C : Value} {ts : Addr → Value → Option Addr → TS} {Wout : WX} (hm : ∀ A, cm e.cls = some A → PySem.W.exmOne K (.ref A) C = some false) (h : RW K F Kn0 sl ow cm Wout e) : RW K F Kn0 sl ow cm (wAs K C i ts Wout D) e := fun σ Kn H cls d s x => by
  obtain ⟨A, hA, rfl, hx⟩ := id x
  exact ⟨false, hm A hA, (fun z => nomatch z), fun _ => h σ Kn H _ d s x⟩
theorem rw_only {C : Value} {ts : Addr → Value → Option Addr → TS} {Wout : WX} (hm : ∀ A, cm e.cls = some A → PySem.W.exmOne K (.ref A) C = some true) (h : ∀ a cls d, SB K F Kn0 sl ow D (ts a cls d)) : RW K F Kn0 sl ow cm (wOnly K C ts Wout D) e := fun σ Kn H cls d s x => by
  obtain ⟨A, hA, rfl, hx⟩ := id x
  exact ⟨true, hm A hA, (fun _ a _ => h a _ d _ Kn H s), fun z => nomatch z⟩
theorem ite_two {α : Type} {c d : Bool} {x z : Option α} {y : α} (h : (if c = true then x else (if d = true then z else none)) = some y) : (c = true ∧ x = some y) ∨ (d = true ∧ z = some y) := by
  cases c with
  | true => exact .inl ⟨rfl, h⟩
  | false => exact .inr (ite_some h)
theorem exm_twoN {K : Fg} {A C : Addr} {b : Bool} (h1 : PySem.W.subIn K (.ref C) (.type "BaseException") = some true) (h2 : PySem.W.isClsIn K C = true) (h3 : PySem.W.typeIn K (.ref C) = some (.type "type")) (h4 : PySem.W.subIn K (.ref A) (.ref C) = some b) : PySem.W.exmOne K (.ref A) (.ref C) = some b := exm_two h1 h2 h3 h4
end
end Wk
set_option maxHeartbeats 4000000
/-! Wkeep: an exception that a suite holds, kept as a value behind it -/
namespace L2
open PySem PySem.Spec PyProof.Rows
/-- a caught exception, kept -/
def KxO (cls : Value) (d : Option Addr) (a : Addr) : HO := .ext fun h => ∃ (oe : Obj) (vs : Array Value), h.get? a = some oe ∧ Zc cls d oe ∧ oe.data = .fields vs
section
variable {X : Cx} {pins : List (Addr × Obj)} {σ : St} {H : Hp} {s : Shared}
/-- an object that was not there at the entry is told of from here on -/
theorem Inv.adopt (I : Inv X pins σ H s) {a : Addr} {o : HO} (hn : H a = none) (n0 : X.s_0.heap.get? a = none) (nL : a ≠ X.env.locals) (nC : ∀ v, ¬ s.heap.IsCell a v) (nP : ∀ p ∈ X.pn ++ pins, p.1 ≠ a) (new : ObjOk X.prog X.w (upd H a o) s.heap a o) : Inv X pins σ (upd H a o) s := by
  have ne0 : ∀ b u, X.s_0.heap.get? b = some u → b ≠ a := fun b u e z => by
    rw [z, n0] at e
    cases e
  have neH : ∀ b u, H b = some u → b ≠ a := fun b u e z => by
    rw [z, hn] at e
    cases e
  refine ⟨I.ok, I.os, I.bare, ⟨I.base.keep, I.base.slot, fun b u e n hb => ?_, I.base.there, fun b xs e => ?_, fun b u xs e => ?_, fun b ps e => ?_⟩, I.loc, I.cell, ?_, fun x c e => ?_, fun p hp => ?_, HOk.laidN I.hok (fun _ _ q => q) hn new, I.len⟩
  · rw [upd_ne (ne0 b u e)]
    exact I.base.free b u e n hb
  · have q := I.base.tups b xs e
    rw [upd_ne (neH b _ q)]
    exact q
  · have q := I.base.frzs b u xs e
    rw [upd_ne (neH b _ q)]
    exact q
  · obtain ⟨m, q⟩ := I.base.tbls b ps e
    exact ⟨m, by rw [upd_ne (neH b _ q)]; exact q⟩
  · rw [upd_ne (Ne.symm nL)]
    exact I.free
  · obtain ⟨v, z⟩ := I.cell x c e
    rw [upd_ne (fun z2 => nC v (by rw [← z2]; exact z))]
    exact I.freeC x c e
  · obtain ⟨e, n, r⟩ := I.pin p hp
    exact ⟨e, by rw [upd_ne (nP p hp)]; exact n, r⟩
end
/-- what a clause that keeps the exception wishes -/
def wAsK (K : PySem.W.Frag) (c : Value) (i : Nat) (ts : Addr → Value → Option Addr → TS) (D : Ends) : WX := fun cls d σ H =>
  PySem.W.exmOne K cls c = some true ∧ ∀ a, H a = none → ts a cls d { nx := fun σ' H' => H' a = none → D.nx (σ'.set i none) (upd H' a (KxO cls d a)), rt := fun _ _ => False, bk := fun _ _ => False, ct := fun _ _ => False } (σ.set i (some (.ref a))) H
section
variable {X : Cx} {x n : Str} {c : Value} {i : Nat} {body suite : List Stmt} {b₀ : Stmt} {np pos pos' : Pos} {tb : WX → TS} {ts : Addr → Value → Option Addr → TS}
theorem ps_try_keep (hs : X.stack = X.env :: X.outer) (hf : X.env.frame = some X.env.locals) (hx : X.ex = []) (hN : X.N.Nodup) (hi : X.N[i]? = some n) (hln : X.env.kindOf n = some .local) (hc : Names X x c)
    (hb : ∀ (W : WX) (pn : List (Addr × Obj)) (xe : Value → Shared → Prop), Takes (X.tr pn xe) W → PassesOwn (model X.prog X.w) X.A X.env xe → PSs (X.tr pn xe) body (tb W))
    (hsu : ∀ (a : Addr) (oe : Obj) (cls : Value) (d : Option Addr) (pn : List (Addr × Obj)), Zc cls d oe → (∃ vs, oe.data = .fields vs) → PSs (X.suite a ((a, oe) :: pn)) (b₀ :: suite) (ts a cls d)) :
    PS X (.Try body [.ExceptHandler (some (.Name x np)) (some n) (b₀ :: suite) pos'] [] [] pos) (fun D σ H => tb (wAsK X.K c i ts D) D σ H) := by
  refine ⟨fun pins s σ H D I h => ?_⟩
  have ok := I.ok
  have hfr : X.A.frames = some (X.env :: X.outer) := by rw [ok.frames, hs]
  refine wpAny_Try_except ?_
  refine wpAny_mono ((hb (wAsK X.K c i ts D) (X.pn ++ pins) (fun e s₁ => wpAny (model X.prog X.w) X.A (noteFrame e X.env) (fun _ s₂ => wpAny (model X.prog X.w) X.A (setFlight e none) (fun _ s₃ =>
    wpAny (model X.prog X.w) X.A (handleBy e X.env [.ExceptHandler (some (.Name x np)) (some n) (b₀ :: suite) pos']) (SP X pins D) X.xe s₃) X.xe s₂) X.xe s₁) (fun u s' xx => ?_) PassesOwn.looking).run [] s σ H D (I.toTry _) h) (fun f s1 hsp => ?_) (fun e s1 he => he)
  · obtain ⟨a, B, sI, pins', σ', H', cls, d, rfl, J', nb, up, sky, na, os, ag, hb1, hyes⟩ := xx
    have J : Inv X pins σ' H' sI := J'.ofTry ok
    have sky' : Sky B (X.env :: X.outer) a (Zc cls d) X.env.locals s'.heap := by rw [← hs]; exact sky
    show wpAny (model X.prog X.w) X.A (noteFrame (.ref a) X.env) _ _ _
    refine Sky.land Zc.steady hfr hf sky' fun h3 fl3 up3 => ?_
    have J3 : Inv X pins σ' H' { s' with heap := h3 } := J.landed nb fl3.1 (up.trans up3) os ag
    obtain ⟨oe3, vs3, he3, hz3, hd3⟩ := fl3.there
    have nfr : a ∉ frs (X.env :: X.outer) := fun hm => by
      obtain ⟨_, o', e', hnf⟩ := fl3.2.2.1.mem hm
      rw [he3] at e'; cases e'
      exact hnf _ hd3
    have nfr' : a ∉ frs X.stack := by rw [hs]; exact nfr
    have nL : a ≠ X.env.locals := fun z => nfr (List.mem_filterMap.mpr ⟨X.env, List.mem_cons_self, by rw [hf, z]⟩)
    have nF : a ∉ X.fs := fun hm => by
      obtain ⟨e, he, q⟩ := List.mem_filterMap.mp hm
      exact nfr (List.mem_filterMap.mpr ⟨e, List.mem_cons_of_mem _ he, q⟩)
    have nI : sI.heap.get? a = none := by
      cases e : sI.heap.get? a with
      | none => rfl
      | some o =>
        have := nb a o e nfr'
        rw [fl3.2.1] at this
        cases this
    have n0 : X.s_0.heap.get? a = none := by
      cases e : X.s_0.heap.get? a with
      | none => rfl
      | some o =>
        obtain ⟨o', q⟩ := J.base.there a o e (by rw [hx]; exact fun z => nomatch z)
        rw [nI] at q
        cases q
    have nP : ∀ p ∈ X.pn ++ pins, p.1 ≠ a := fun p hp z => by
      have q := (J.pin p hp).1
      rw [z, nI] at q
      cases q
    have S3 := J3.suite he3 hd3 na nL nF
    refine wpAny_handleBy_cons (codeAny_handlers_test ?_) (by intro q; cases q)
    have LT : PySem.W.Looks (model X.prog X.w) h3 (typeOf (.ref a)) cls := fun A Q E s k q => wpAny_typeOf_ref (k _ _ he3) (by rw [hz3.1]; exact q)
    have LM := PySem.W.exm_one (M := model X.prog X.w) (J3.kIn) LT hb1
    have test : ∀ {Q : Value → Shared → Prop} {E : Value → Shared → Prop}, Q c { s' with heap := h3 } → wpAny (model X.prog X.w) (X.A.mark (some (.ref a))) (eval (.Name x np) X.env) Q E { s' with heap := h3 } := fun {Q E} q => by
      obtain ⟨hg, hdbg, hm | ⟨hm, hv, hnn⟩⟩ := hc
      · exact ld_glob (X := X.suite a ((a, oe3) :: (X.pn ++ pins))) S3 hg hm q hdbg
      · exact ld_blt (X := X.suite a ((a, oe3) :: (X.pn ++ pins))) S3 hg hm hv q hnn hdbg
    refine test (LM.here ?_)
    refine codeAny_handlers_suite_as ?_
    refine HandSPX.lands_againZ fl3 fun h4 fl4 up4 => ?_
    have J4 : Inv X pins σ' H' { s' with heap := h4 } := J.landed nb fl4.1 ((up.trans up3).trans up4) os ag
    obtain ⟨oe4, vs4, he4, hz4, hd4⟩ := fl4.there
    have S4 := J4.suite he4 hd4 na nL nF
    refine store_ok (X := X.suite a ((a, oe4) :: (X.pn ++ pins))) (v := .ref a) S4 hN hi (.inl hln) rfl (fun s5 S5 => ?_) (.inr hln)
    refine wpAny_mono ((hsu a oe4 cls d (X.pn ++ pins) hz4 ⟨_, hd4⟩).run [] s5 _ H' _ S5 (hyes a na)) (fun f s6 hsp => ?_) (fun _ _ z => False.elim z)
    cases f with
    | next =>
      obtain ⟨σ6, H6, S6, q6⟩ := hsp
      have P6 : Inv X ((a, oe4) :: pins) σ6 H6 s6 := ⟨ok, S6.os, S6.bare, S6.base, S6.loc, S6.cell, S6.free, S6.freeC, fun p hp => S6.pin p (by
        rw [List.append_nil]
        rcases List.mem_append.mp hp with hp | hp
        · exact List.mem_cons_of_mem _ (List.mem_append_left _ hp)
        · rcases List.mem_cons.mp hp with e | hp
          · rw [e]
            exact List.mem_cons_self
          · exact List.mem_cons_of_mem _ (List.mem_append_right _ hp)), S6.hok, S6.len⟩
      refine gone_ok P6 hN hi hln fun s7 J7 => ?_
      obtain ⟨g7, h7, _, _, c7⟩ := J7.pin (a, oe4) (List.mem_append_right _ List.mem_cons_self)
      have K7 : Inv X pins (σ6.set i none) H6 s7 := ⟨ok, J7.os, J7.bare, J7.base, J7.loc, J7.cell, J7.free, J7.freeC, fun p hp => J7.pin p (by
        rcases List.mem_append.mp hp with hp | hp
        · exact List.mem_append_left _ hp
        · exact List.mem_append_right _ (List.mem_cons_of_mem _ hp)), J7.hok, J7.len⟩
      exact ⟨_, _, K7.adopt (a := a) (o := KxO cls d a) h7 n0 nL (fun v ⟨o, ho, hv⟩ => by
        have : oe4 = o := Option.some.inj (g7.symm.trans ho)
        subst this
        exact c7 v hv) nP ⟨⟨oe4, vs4, g7, hz4, hd4⟩, ⟨oe4, g7⟩, fun _ _ ⟨o, v, q, r⟩ k => ⟨o, v, k o q, r⟩⟩, q6 h7⟩
    | brk =>
      obtain ⟨σ6, H6, S6, q6⟩ := hsp
      exact False.elim q6
    | cont =>
      obtain ⟨σ6, H6, S6, q6⟩ := hsp
      exact False.elim q6
    | ret u =>
      obtain ⟨v6, σ6, H6, S6, r6, q6⟩ := hsp
      exact False.elim q6
  · cases f with
    | next =>
      obtain ⟨σ', H', J', q⟩ := hsp
      exact wpAny_execs_nil ⟨σ', H', J'.ofTry ok, q⟩
    | brk =>
      obtain ⟨σ', H', J', q⟩ := hsp
      exact ⟨σ', H', J'.ofTry ok, q⟩
    | cont =>
      obtain ⟨σ', H', J', q⟩ := hsp
      exact ⟨σ', H', J'.ofTry ok, q⟩
    | ret u =>
      obtain ⟨v, σ', H', J', r, q⟩ := hsp
      exact ⟨v, σ', H', J'.ofTry ok, r, q⟩
end
section
variable {X : Cx}
/-- an instance of the class D, kept -/
theorem kept_inst {a D : Addr} {d : Option Addr} {pins : List (Addr × Obj)} {s : Shared} {σ : St} {H : Hp} (I : Inv X pins σ H s) (hk : H a = some (KxO (.ref D) d a)) (hd : d = none ∨ ∃ dd fs, d = some dd ∧ H dd = some (.xd fs)) : ∃ ox od, s.heap.get? a = some ox ∧ Zc (.ref D) d ox ∧ PySem.W.InstAt s.heap a ox D od := by
  obtain ⟨⟨oe, vs, hget, hz, hv⟩, _⟩ := I.hok a _ hk
  refine ⟨oe, ?_⟩
  rcases hd with rfl | ⟨dd, fs, rfl, hdd⟩
  · refine ⟨none, hget, hz, hget, hz.1, by unfold PySem.W.notCls; rw [hv] <;> rfl, ?_⟩
    rw [hz.2]
    trivial
  · have hx : ObjOk X.prog X.w H s.heap dd (.xd fs) := I.hok dd _ hdd
    obtain ⟨mA, hns, _⟩ := hx
    obtain ⟨od, ho, _⟩ := lookIn_ns hns
    refine ⟨some od, hget, hz, hget, hz.1, by unfold PySem.W.notCls; rw [hv] <;> rfl, ?_⟩
    rw [hz.2]
    exact ho
def rIsK (K : PySem.W.Frag) (D : Addr) : List V → Hp → VK → Prop := fun xs H Q => ∃ (a : Addr) (d : Option Addr) (c : V) (cv : Value) (b : Bool), xs = [.ref a, c] ∧ H a = some (KxO (.ref D) d a) ∧ (d = none ∨ ∃ dd fs, d = some dd ∧ H dd = some (.xd fs)) ∧ (∀ u, RelV c u → u = cv) ∧ PySem.W.kitOne K (.ref D) cv = some b ∧ Q (.bl b) H
theorem call_isK {D : Addr} (C : PySem.W.findIn X.K (.ref D) "__getattribute__" = some (some (.builtin "BaseException.__getattribute__")) ∧ PySem.W.findIn X.K (.ref D) "__getattr__" = some none ∧ PySem.W.subIn X.K (.ref D) (.type "BaseException") = some true ∧ PySem.W.isClsIn X.K D = true ∧
      PySem.W.findIn X.K (.ref D) "__class__" = some (some (.builtin "object.__class__")) ∧ PySem.W.specialIn X.K (.builtin "object.__class__") "__get__" = some (some (.builtin "getset_descriptor.__get__")) ∧ PySem.W.takesIn X.K (.builtin "object.__class__") = some true ∧ PySem.W.mroIn X.K D (.type "object") = some true) : CallR X (.builtin "isinstance") (rIsK X.K D) := by
  intro pins s σ H xs us Q I r h
  obtain ⟨a, d, c, cv, b, rfl, hk, hd, hcv, e, q⟩ := h
  obtain ⟨c1, c2, c3, c4, c5, c6, c7, c8⟩ := C
  obtain ⟨u1, u2, rfl, r1, r2⟩ := vals2 r
  cases (show u1 = Value.ref a from r1)
  have ec := hcv _ r2
  subst ec
  obtain ⟨ox, od, _, _, J⟩ := kept_inst I hk hd
  exact PySem.W.kia_one (PySem.W.kitx_exc c4 c1 c2 c3 c5 c6 c7 c8) I.kIn J e (fun z => nomatch z) fun tk => ⟨.bl b, H, I.kept (t' := tk) fun _ _ z => z, rfl, q⟩
def rIsKT (K : PySem.W.Frag) (D : Addr) : List V → Hp → VK → Prop := fun xs H Q => ∃ (a : Addr) (d : Option Addr) (tp : Addr) (cs : List V) (us : List Value) (b : Bool), xs = [.ref a, .ref tp] ∧ H a = some (KxO (.ref D) d a) ∧ (d = none ∨ ∃ dd fs, d = some dd ∧ H dd = some (.xd fs)) ∧ H tp = some (.tup cs) ∧ Paired ClsV cs us ∧ PySem.W.kitAny K (.ref D) us = some b ∧ Q (.bl b) H
theorem call_isKT {D : Addr} (C : PySem.W.findIn X.K (.ref D) "__getattribute__" = some (some (.builtin "BaseException.__getattribute__")) ∧ PySem.W.findIn X.K (.ref D) "__getattr__" = some none ∧ PySem.W.subIn X.K (.ref D) (.type "BaseException") = some true ∧ PySem.W.isClsIn X.K D = true ∧
      PySem.W.findIn X.K (.ref D) "__class__" = some (some (.builtin "object.__class__")) ∧ PySem.W.specialIn X.K (.builtin "object.__class__") "__get__" = some (some (.builtin "getset_descriptor.__get__")) ∧ PySem.W.takesIn X.K (.builtin "object.__class__") = some true ∧ PySem.W.mroIn X.K D (.type "object") = some true) : CallR X (.builtin "isinstance") (rIsKT X.K D) := by
  intro pins s σ H xs us Q I r h
  obtain ⟨a, d, tp, cs, ws, b, rfl, hk, hd, hT, k, e, q⟩ := h
  obtain ⟨c1, c2, c3, c4, c5, c6, c7, c8⟩ := C
  obtain ⟨u1, u2, rfl, r1, r2⟩ := vals2 r
  cases (show u1 = Value.ref a from r1)
  cases (show u2 = Value.ref tp from r2)
  obtain ⟨ox, od, _, _, J⟩ := kept_inst I hk hd
  obtain ⟨_, its, rv, o, h1, h2, n, h3⟩ := (show ObjOk X.prog X.w H s.heap tp (.tup cs) from I.hok tp _ hT)
  have e3 := ClsV.all k rv
  subst e3
  obtain ⟨oc, odd, dt, sl⟩ := o
  simp only at h2 h3
  subst h2 h3
  exact PySem.W.kia_tup (PySem.W.kitx_exc c4 c1 c2 c3 c5 c6 c7 c8) I.kIn J h1 e (fun z => nomatch z) fun tk => ⟨.bl b, H, I.kept (t' := tk) fun _ _ z => z, rfl, q⟩
/-- e.f, e kept -/
def tXk (C : Addr) (f : Str) (te : TE) : TE := fun σ H Q => te σ H fun x H1 => ∃ (a dd : Addr) (fs : List (Str × V)) (v : V), x = .ref a ∧ H1 a = some (KxO (.ref C) (some dd) a) ∧ H1 dd = some (.xd fs) ∧ fs.lookup f = some v ∧ Q v H1
theorem pe_xk {C : Addr} {e : Expr} {te : TE} {pos : Pos} {n : Str} (T : XfC X.K C) (hno : PySem.W.findIn X.K (.ref C) n = some none) (he : PE X e te) (hb : attributeBase e n X.env (eval e X.env) = eval e X.env := by rfl) : PE X (.Attribute e n pos) (tXk C n te) := by
  refine ⟨fun pins s σ H Q I h => ?_⟩
  refine attr_of hb (thn (he.run pins s σ H _ I h) fun u s1 hh => ?_)
  obtain ⟨x, H1, I1, rx, a, dd, fs, v, ex, hk, ea, l, q⟩ := hh
  subst ex
  obtain rfl : u = Value.ref a := rx
  obtain ⟨⟨oe, vs, ha, hz, hd⟩, _⟩ := I1.hok a _ hk
  have hx : ObjOk X.prog X.w H1 s1.heap dd (.xd fs) := I1.hok dd _ ea
  obtain ⟨mA, hns, hr⟩ := hx
  obtain ⟨od, ho, hl⟩ := lookIn_ns hns
  obtain ⟨u, hu, ru⟩ := RelO.some_of (v := v) (o := mA n) (by rw [← l]; exact hr n)
  have J : PySem.W.InstAt s1.heap a oe C (some od) := ⟨ha, hz.1, by unfold PySem.W.notCls; rw [hd] <;> rfl, by rw [hz.2]; exact ho⟩
  exact HandSPX.exc_get I1.kIn J T.ga T.gg T.exC (PySem.W.findObj_own T.hdC hno rfl (by rw [hl, hu])) (handed_of ru) ⟨v, H1, I1.tok _, ru, q⟩
end
end L2
namespace Wk
open PySem PySem.Spec L2 Evl
/-- an exception kept -/
def Kx (_ : Str → Option Addr) : Type := Xc
instance {cm : Str → Option Addr} : Rp (Kx cm) where
  rep _ H v x := ∃ a cls d, v = .ref a ∧ H a = some (KxO cls d a) ∧ XR cm H (x : Xc) cls d
  swap w h := by
    obtain ⟨a, cls, d, e, h1, h2⟩ := h
    exact ⟨a, cls, d, e, w.keep h1 (fun z => z) (fun _ _ z => nomatch z), h2.swap w⟩
abbrev DsuK (i : Nat) (a : Addr) (cls : Value) (d : Option Addr) (D : Ends) : Ends := { nx := fun σ' H' => H' a = none → D.nx (σ'.set i none) (upd H' a (KxO cls d a)), rt := fun _ _ => False, bk := fun _ _ => False, ct := fun _ _ => False }
section
variable {K : Fg} {F Kn0 : Hp} {sl sl' : List Sl} {ow : List Ow} {cm : Str → Option Addr} {D : Ends} {e : Xc} {i k : Nat} {te : TE}
theorem rw_asK {C : Value} {ts : Addr → Value → Option Addr → TS} {sl' : Addr → Value → Option Addr → List Sl} (hm : ∀ A, cm e.cls = some A → PySem.W.exmOne K (.ref A) C = some true) (hs : ∀ a cls d, sl.set i (sv (Xv.mk e : Xv cm a cls d)) = sl' a cls d)
    (h : ∀ a cls d, SB K F Kn0 (sl' a cls d) ow (DsuK i a cls d D) (ts a cls d)) : RW K F Kn0 sl ow cm (wAsK K C i ts D) e := fun σ Kn H cls d s x => by
  obtain ⟨A, hA, rfl, hx⟩ := id x
  refine ⟨hm A hA, fun a _ => ?_⟩
  exact h a _ d _ Kn H (hs a _ d ▸ s.setv (x := (Xv.mk e : Xv cm a (.ref A) d)) i ⟨rfl, x⟩)
theorem sn_keep {a : Addr} {cls : Value} {d : Option Addr} (h1 : sl[k]? = some (sv (Xv.mk e : Xv cm a cls d))) (hs : (sl.set k (sv (α := Option (Kx cm)) (some e))).set i .any = sl') (kk : SN K F Kn0 sl' ow D) : SN K F Kn0 sl ow (DsuK i a cls d D) := fun σ Kn H s hna => by
  obtain ⟨o, h2, v, rfl, h3, h4⟩ := s.sl.get h1
  have h3 : v = .ref a := h3
  subst h3
  have g : Gr Kn H (upd Kn a (KxO cls d a)) (upd H a (KxO cls d a)) := Gr.new s.ek hna
  have s1 := (s.grow g).setv (α := Option (Kx cm)) (x := some e) (v := .ref a) k ⟨(fun z => nomatch z), a, cls, d, rfl, upd_same, h4.swap (.of g.kk)⟩
  have e1 : σ.set k (some (.ref a)) = σ := by
    obtain ⟨h5, h6⟩ := List.getElem?_eq_some_iff.mp h2
    rw [← h6, List.set_getElem_self]
  rw [e1] at s1
  exact kk _ _ _ (hs ▸ s1.set (x := .any) (o := none) i trivial)
/-- e.f -/
theorem ev_xk {C : Addr} {n f : Str} {y : Dy} (h : EV (α := Kx cm) K F Kn0 sl ow te e) (hC : cm n = some C) (hx : xfl e n f = some y) : EV K F Kn0 sl ow (tXk C f te) y := fun σ Kn H s Q q =>
  h σ Kn H s _ fun v Kn1 H1 g1 r1 => by
    unfold xfl at hx
    split at hx
    case isFalse => cases hx
    rename_i hn
    obtain ⟨z, hz, rfl⟩ := Option.map_eq_some_iff.mp hx
    obtain ⟨a, cls, d, rfl, ka, A, hA, hc, hd⟩ := r1
    rw [hn, hC] at hA
    cases hA
    subst hc
    rcases hd with ⟨h1, _⟩ | ⟨dd, fs, rfl, h2, h3⟩
    · rw [h1] at hz
      cases hz
    · obtain ⟨u, hu, ru⟩ := fp_lookup h3 hz
      exact ⟨a, dd, fs, u, rfl, g1.kh _ _ ka, g1.kh _ _ h2, hu, q u Kn1 H1 g1 ru⟩
theorem rc_isK {D : Addr} {n : Str} {ty : String} {b : Bool} {u : Unit} (hD : cm n = some D) (hx : xcls e n = some u) (hk : PySem.W.kitOne K (.ref D) (.type ty) = some b) : RCV (τ := Kx cm × TyN × Unit) K (rIsK K D) (e, TyN.mk ty, ()) b := fun Kn H vs ek h Q q => by
  obtain ⟨v, w, rfl, h1, h2⟩ := two_args h
  obtain ⟨a, cls, d, rfl, ka, A, hA, hc, hd⟩ := h1
  rw [xcls_eq hx, hD] at hA
  cases hA
  subst hc
  refine ⟨a, d, w, .type ty, b, rfl, ek _ _ ka, ?_, fun u hu => ?_, hk, q.fl ek⟩
  · rcases hd with ⟨_, h1⟩ | ⟨dd, fs, h1, h3, _⟩
    · exact .inl h1
    · exact .inr ⟨dd, fs, h1, ek _ _ h3⟩
  · have h2 : w = .ty ty := h2
    subst h2
    exact hu
theorem rc_isKC {D C : Addr} {n : Str} {b : Bool} {u : Unit} (hD : cm n = some D) (hx : xcls e n = some u) (hk : PySem.W.kitOne K (.ref D) (.ref C) = some b) : RCV (τ := Kx cm × ClN × Unit) K (rIsK K D) (e, ClN.mk C, ()) b := fun Kn H vs ek h Q q => by
  obtain ⟨v, w, rfl, h1, h2⟩ := two_args h
  obtain ⟨a, cls, d, rfl, ka, A, hA, hc, hd⟩ := h1
  rw [xcls_eq hx, hD] at hA
  cases hA
  subst hc
  refine ⟨a, d, w, .ref C, b, rfl, ek _ _ ka, ?_, fun u hu => ?_, hk, q.fl ek⟩
  · rcases hd with ⟨_, h1⟩ | ⟨dd, fs, h1, h3, _⟩
    · exact .inl h1
    · exact .inr ⟨dd, fs, h1, ek _ _ h3⟩
  · have h2 : w = .ref C := h2
    subst h2
    exact hu
theorem rc_isKT {α τ : Type} [Rp α] [Tp τ] [Ct (α × τ)] {t : α × τ} {D : Addr} {n : Str} {b : Bool} {u : Unit} (hD : cm n = some D) (hx : xcls e n = some u) (hk : PySem.W.kitAny K (.ref D) (Ct.us t) = some b) : RCV (τ := Kx cm × (α × τ) × Unit) K (rIsKT K D) (e, t, ()) b := fun Kn H vs ek h Q q => by
  obtain ⟨v, w, rfl, h1, h2⟩ := two_args h
  obtain ⟨a, cls, d, rfl, ka, A, hA, hc, hd⟩ := h1
  rw [xcls_eq hx, hD] at hA
  cases hA
  subst hc
  obtain ⟨p, ws, rfl, h3, h4⟩ := h2
  refine ⟨a, d, p, ws, _, b, rfl, ek _ _ ka, ?_, ek _ _ h3, Ct.is (τ := α × τ) h4, hk, q.fl ek⟩
  rcases hd with ⟨_, h1⟩ | ⟨dd, fs, h1, h3, _⟩
  · exact .inl h1
  · exact .inr ⟨dd, fs, h1, ek _ _ h3⟩
end
/-! ### tuple(x) of what may be a list or a tuple -/
def seqY (x : Dy) : Option (Tu Dy) := match x.d with
  | .list ds => some ⟨ds.map Dy.mk⟩
  | .tuple ds => some ⟨ds.map Dy.mk⟩
  | _ => none
theorem ofAll_dy : ∀ ds : List PyData, ofAll (α := Dy) ds = some (ds.map Dy.mk)
  | [] => rfl
  | d :: ds => by
    show (some (Dy.mk d)).bind (fun x => (ofAll ds).bind fun xs => some (x :: xs)) = _
    rw [ofAll_dy ds]
    rfl
theorem rc_tupleY {K : Fg} {x : Dy} {o : Tu Dy} (h : seqY x = some o) : RCV K (fun xs H Q => ∃ p ys, xs = [.ref p] ∧ ((SqL K H p ys ∧ ∀ l, H l = none → Q (.ref l) (upd H l (.tup ys))) ∨ (SqT K H p ys ∧ Q (.ref p) H))) (x, ()) o := fun Kn H vs ek h2 Q q => by
  obtain ⟨v, rfl, r⟩ := one_arg h2
  obtain ⟨d⟩ := x
  have r : Dq Kn v d := r
  cases r with
  | lst h3 h4 =>
    cases h
    exact ⟨_, _, rfl, .inl ⟨sq_of (ek _ _ h3), fun l hl => q _ (upd Kn l (.tup _)) _ (Gr.new ek hl) ⟨l, _, rfl, upd_same, paired_mono (Gr.new ek hl).kk (ofAll_un h4 (ofAll_dy _))⟩⟩⟩
  | tup h3 h4 =>
    cases h
    exact ⟨_, _, rfl, .inr ⟨.inl (.inl (ek _ _ h3)), q _ Kn _ (Gr.refl ek) ⟨_, _, rfl, h3, ofAll_un h4 (ofAll_dy _)⟩⟩⟩
  | _ => cases h
theorem rc_tupleT {K : Fg} {α : Type} [Rp α] {x : Tu α} : RCV K (fun xs H Q => ∃ p ys, xs = [.ref p] ∧ ((SqL K H p ys ∧ ∀ l, H l = none → Q (.ref l) (upd H l (.tup ys))) ∨ (SqT K H p ys ∧ Q (.ref p) H))) (x, ()) x := fun Kn H vs ek h2 Q q => by
  obtain ⟨v, rfl, p, ws, rfl, h3, h4⟩ := one_arg h2
  exact ⟨p, ws, rfl, .inr ⟨.inl (.inl (ek _ _ h3)), q _ Kn _ (Gr.refl ek) ⟨p, ws, rfl, h3, h4⟩⟩⟩
theorem rc_tupleF {K : Fg} {α : Type} [Rp α] {x : Fz α} : RCV K (fun xs H Q => ∃ p ys, xs = [.ref p] ∧ ((SqL K H p ys ∧ ∀ l, H l = none → Q (.ref l) (upd H l (.tup ys))) ∨ (SqT K H p ys ∧ Q (.ref p) H))) (x, ()) (Tu.mk x.l) := fun Kn H vs ek h Q q => by
  obtain ⟨v, rfl, p, ws, rfl, h1, h2⟩ := one_arg h
  exact ⟨p, ws, rfl, .inl ⟨ex_l ek h1, fun l hl => q _ (upd Kn l (.tup ws)) _ (Gr.new ek hl) ⟨l, ws, rfl, upd_same, paired_mono (Gr.new ek hl).kk h2⟩⟩⟩
/-- e + xs, xs of one's own -/
theorem en_catOwnR {K : Fg} {F Kn0 : Hp} {sl : List Sl} {ow : List Ow} {α : Type} [Rp α] {te : TE} {xs ys zs : List α} {i j : Nat} {p : Addr} (hi : sl[i]? = some (.at p)) (hj : ow[j]? = some (ol p ys)) (h : EV K F Kn0 sl ow te xs) (hz : catO xs ys = some zs) : EN K F Kn0 sl ow (tOp rCat te (tVar i)) zs := fun σ Kn H s Q q => by
  unfold catO at hz
  split at hz
  case isFalse => cases hz
  rename_i hb
  cases hz
  obtain ⟨o, h1, h2⟩ := s.sl.get hi
  obtain ⟨f1, f2, ws, f3, f4⟩ := s.ow.each _ (List.mem_of_getElem? hj)
  refine h σ Kn H s _ fun v Kn1 H1 g1 r1 => ⟨.ref p, by rw [h1]; exact congrArg some h2, ?_⟩
  obtain ⟨p2, ws2, rfl, h5, h6⟩ := r1
  exact ⟨p2, p, ws2, ws, rfl, rfl, g1.kh _ _ h5, g1.hh _ _ f3, by rw [paired_len f4, paired_len h6]; exact le_line hb, fun l hl =>
    q l _ Kn1 _ (g1.trans (Gr.newU g1.kh hl)) (fresh_back g1.hh hl) (fresh_back g1.kh hl) upd_same (paired_append h6 (paired_mono g1.kk f4))⟩
/-- xs.pop(0) -/
def popO0 {α : Type} : List α → Option (α × List α)
  | [] => none
  | x :: r => some (x, r)
theorem em_pop0 {K : Fg} {F Kn0 : Hp} {sl : List Sl} {ow : List Ow} {α : Type} [Rp α] {xs xs' : List α} {x : α} {i j : Nat} {p : Addr} (hi : sl[i]? = some (.at p)) (hj : ow[j]? = some (ol p xs)) (hx : popO0 xs = some (x, xs')) : EM K F Kn0 sl ow (tBM K "list" rPopAt (tVar i) (tCons (tC (.int 0)) tNil)) (ow.set j (ol p xs')) x := fun σ Kn H s Q q => by
  obtain ⟨o, h1, h2⟩ := s.sl.get hi
  obtain ⟨f1, f2, ws, f3, f4⟩ := s.ow.each _ (List.mem_of_getElem? hj)
  cases xs with
  | nil => cases hx
  | cons y r =>
    cases hx
    cases f4 with
    | @cons v _ vs _ rv rr =>
      refine ⟨.ref p, by rw [h1]; exact congrArg some h2, Or.inl ⟨rfl, _, sq_of f3⟩, p, _, 0, 0, v, rfl, rfl, f3, by decide, by decide, ?_, rfl, q v Kn _ (Ex.refl _) ?_ rv⟩
      · unfold seqIndex?
        simp
      · exact s.write hj (Ex.refl _) (upd_in s.ek f2) (fun q hq _ => upd_ne hq) (fun _ _ h => h) upd_same rr
end Wk
/-! Wmaxd: max(xs, default=d) of ints -/
namespace L2
open PySem PySem.Spec PyProof.Rows
def maxDf : List Int → Int → Int
  | [], d => d
  | y :: ys, _ => ys.foldl max y
def rMaxDf (K : PySem.W.Frag) : List V → List V → Hp → VK → Prop := fun xs zs H Q => ∃ (p : Addr) (ns : List Int) (d : Int), xs = [.ref p] ∧ zs = [.int d] ∧ SqL K H p (ns.map V.int) ∧ Q (.int (maxDf ns d)) H
theorem dpAll_int {K : PySem.W.Frag} {H : Hp} : ∀ ns : List Int, DpAll K H (ns.map V.int) (ns.map PyData.int)
  | [] => .nil
  | n :: ns => .cons (.int n) (dpAll_int ns)
theorem cr_maxDf {X : Cx} (hc : X.calm = true) (hu : X.A.units + 64 < cLine) : CallRK X (.builtin "max") [Str.ofString "default"] (rMaxDf X.K) := by
  intro pins s σ H xs zs us ws Q I r r2 h
  obtain ⟨p, ns, d, rfl, rfl, hs, q⟩ := h
  obtain ⟨its, rv, hl, hz⟩ := I.list hs
  rw [Vals.ref1 r]
  cases r2 with
  | cons rz rr =>
    cases rr
    obtain ⟨t, rfl⟩ := rz
    obtain ⟨as, hr⟩ := Dp.readsAll I _ _ _ (dpAll_int ns) rv
    have hr' : ReadsAll s.heap its.toArray.toList (ns.map PyData.int) as := by simpa using hr
    have hal : PySem.W.AlikeAll (ns.map PyData.int) := ⟨fun x hx y hy => by
      obtain ⟨a, _, rfl⟩ := List.mem_map.mp hx
      obtain ⟨b, _, rfl⟩ := List.mem_map.mp hy
      simp only [PySem.W.alike], fun x hx => by
      obtain ⟨a, _, rfl⟩ := List.mem_map.mp hx
      exact fun z => nomatch z⟩
    refine PySem.W.max_list_default (I.ok.hd hc) hl.isList hr' hal (by rw [PySem.W.depth_ints]; omega) (fun hn h' tk hk => ?_) (fun y ys i v h' tk bs hn hv hrd hk => ?_)
    · have : ns = [] := List.map_eq_nil_iff.mp hn
      subst this
      exact ⟨.int d, H, I.kept (t' := tk) hk, ⟨t, rfl⟩, q⟩
    · cases ns with
      | nil => cases hn
      | cons n ns =>
        injection hn with e1 e2
        subst e1 e2
        rw [PySem.W.maxD_ints] at hrd
        obtain ⟨t2, rfl, _⟩ := reads_int_inv hrd
        exact ⟨.int (maxDf (n :: ns) d), H, I.kept (t' := tk) hk, ⟨t2, rfl⟩, q⟩
end L2
namespace Wk
open PySem PySem.Spec L2 Evl
section
variable {K : Fg} {F Kn0 : Hp} {sl : List Sl} {ow : List Ow} {te td : TE}
theorem ev_maxd {xs : List Int} {d : Int} (h : EV K F Kn0 sl ow te xs) (h2 : EV K F Kn0 sl ow td d) : EV K F Kn0 sl ow (tCKw (rMaxDf K) (tCons te tNil) (tCons td tNil)) (maxDf xs d) := fun σ Kn H s Q q => h σ Kn H s _ fun v Kn1 H1 g1 r1 => h2 σ Kn1 H1 (s.grow g1) _ fun v2 Kn2 H2 g2 r2 => by
  obtain ⟨p, ws, rfl, h3, h4⟩ := r1
  have e := paired_fl h4
  subst e
  cases r2
  exact ⟨p, xs, d, rfl, rfl, sq_of ((g2.kk.trans g2.kh) _ _ h3), q _ Kn2 H2 (g1.trans g2) rfl⟩
theorem k_maxDf {X : Cx} (hu : X.A.units + 64 < cLine) (hc : X.calm = true := by rfl) (h : X.K = K := by rfl) : CallRK X (.builtin "max") [Str.ofString "default"] (rMaxDf K) := h ▸ cr_maxDf hc hu
end
end Wk
/-! Wmut: a def that changes its second argument, a list; an effect behind and; sorted(xs, reverse=True) -/
namespace Wk
open PySem PySem.Spec L2 Evl
section
variable {α δ τ : Type} [Rp α] [Rp δ] [Tp τ]
def PM1 {β : Type} [Rp β] (K : Fg) (f : List β → δ × τ → Option (α × List β)) : Sp := fun vs H Q _ => ∃ Kn p ws v0 rest t0 t xs r xs', vs = v0 :: .ref p :: rest ∧ Ex Kn H ∧ Kn p = none ∧ H p = some (.lst ws) ∧ Paired (rep K Kn) ws xs ∧ rep K Kn v0 t0 ∧ rept K Kn rest t ∧ f xs (t0, t) = some (r, xs') ∧
  ∀ v Kn' H' ws', Ex Kn Kn' → Ex Kn' H' → (∀ q, q ≠ p → H q ≠ none → H' q = H q) → (∀ q, H q ≠ none → Kn q = none → Kn' q = none) → H' p = some (.lst ws') → Paired (rep K Kn') ws' xs' → rep K Kn' v r → Q v H'
end
section
variable {K : Fg} {F Kn0 : Hp} {sl sl' : List Sl} {ow ow1 ow2 : List Ow} {α β γ δ τ : Type} [Rp α] [Rp β] [Rp γ] [Rp δ] [Tp τ] {ta : TA} {te t0e : TE} {t : τ} {t0 : δ} {E : XK} {D : Ends} {i j : Nat} {p : Addr} {a b c : Bool}
theorem em_callM1 {f : List β → δ × τ → Option (α × List β)} {r : α} {xs xs' : List β} (h0 : EV K F Kn0 sl ow t0e t0) (hi : sl[i]? = some (.at p)) (hj : ow[j]? = some (ol p xs)) (h : EA K F Kn0 sl ow ta t) (hf : f xs (t0, t) = some (r, xs')) :
    EM K F Kn0 sl ow (tCall (PM1 K f) [] E (tCons t0e (tCons (tVar i) ta))) (ow.set j (ol p xs')) r := fun σ Kn H s Q q => h0 σ Kn H s _ fun v0 Kn0' H0 g0 r0 => by
  have s0 := s.grow g0
  obtain ⟨o, h1, h2⟩ := s0.sl.get hi
  refine ⟨.ref p, by rw [h1]; exact congrArg some h2, h σ Kn0' H0 s0 _ fun vs Kn1 H1 g1 r1 => ?_⟩
  have s1 := s0.grow g1
  show PM1 K f ((v0 :: .ref p :: vs) ++ []) H1 Q E
  rw [List.append_nil]
  obtain ⟨f1, f2, ws, f3, f4⟩ := s1.ow.each _ (List.mem_of_getElem? hj)
  exact ⟨Kn1, p, ws, v0, vs, t0, t, xs, r, xs', rfl, s1.ek, f2, f3, f4, Rp.mono g1.kk r0, r1, hf, fun v Kn' H' ws' kk kh hq sp hp rr rv => q v Kn' H' ((g0.kk.trans g1.kk).trans kk) (s1.write hj kk kh hq sp hp rr) rv⟩
/-- a and (b, which changes a list of one's own) -/
theorem etm_andO {t u : TT} {m : Option (Bool × List β)} {xs zs : List β} (h : (if a = true then m else some (false, xs)) = some (c, zs)) (hj : ow[j]? = some (ol p xs)) (h1 : ET K F Kn0 sl ow t a) (h2 : ∀ b ys, a = true → m = some (b, ys) → ETM K F Kn0 sl ow u (ow.set j (ol p ys)) b) :
    ETM K F Kn0 sl ow (tAnd t u) (ow.set j (ol p zs)) c := fun σ Kn H s Q q => h1 σ Kn H s _ fun Kn1 H1 g1 => by
  cases a with
  | true => exact iteT (h2 c zs rfl h σ Kn1 H1 (s.grow g1) Q fun Kn2 H2 e2 s2 => q Kn2 H2 (g1.kk.trans e2) s2)
  | false =>
    have h9 := Option.some.inj h
    have e1 : false = c := congrArg Prod.fst h9
    have e2 : xs = zs := congrArg Prod.snd h9
    subst e1
    subst e2
    have e : ow.set j (ol p xs) = ow := by
      refine List.ext_getElem? fun i => ?_
      by_cases e : j = i
      · subst e
        rw [List.getElem?_set_self (List.getElem?_eq_some_iff.mp hj).1, hj]
      · rw [List.getElem?_set_ne e]
    rw [e] at q
    exact iteF (q Kn1 H1 g1.kk (s.grow g1))
theorem etm_not {t : TT} (h : ETM K F Kn0 sl ow t ow1 b) : ETM K F Kn0 sl ow (tNot t) ow1 (!b) := fun σ Kn H s Q q => h σ Kn H s _ fun Kn' H' e s' => q Kn' H' e s'
theorem etm_B (h : EM K F Kn0 sl ow te ow1 b) : ETM K F Kn0 sl ow (tB te) ow1 b := fun σ Kn H s Q q => h σ Kn H s _ fun v Kn' H' e s' r => ⟨b, r, q Kn' H' e s'⟩
/-- falling -/
def srtR (xs : List Int) : List Int := xs.mergeSort fun a b => decide (b ≤ a)
theorem srtR_perm (xs : List Int) : (srtR xs).Perm xs := List.mergeSort_perm xs _
theorem srtR_pw (xs : List Int) : (srtR xs).Pairwise (· ≥ ·) := by
  have h := List.pairwise_mergeSort (le := fun a b : Int => decide (b ≤ a)) (fun a b c h1 h2 => by
    rw [decide_eq_true_eq] at h1 h2 ⊢
    omega) (fun a b => by
    rw [Bool.or_eq_true, decide_eq_true_eq, decide_eq_true_eq]
    omega) xs
  exact h.imp fun q => of_decide_eq_true q
theorem srtR_one {xs ys : List Int} (p : ys.Perm xs) (s : ys.Pairwise (· ≥ ·)) : ys = srtR xs :=
  List.Perm.eq_of_pairwise (le := fun a b : Int => a ≥ b) (fun a b _ _ h1 h2 => Int.le_antisymm h2 h1) s (srtR_pw xs) (p.trans (srtR_perm xs).symm)
theorem en_sortR {xs : List Int} (h : EV K F Kn0 sl ow te xs) : EN K F Kn0 sl ow (tCKw (rSortedKw K true [.bl true]) (tCons te tNil) (tCons (tC (.bl true)) tNil)) (srtR xs) := fun σ Kn H s Q q => h σ Kn H s _ fun v Kn1 H1 g1 r1 => by
  obtain ⟨p, ws, rfl, h3, h4⟩ := r1
  have e := paired_fl h4
  subst e
  refine ⟨p, xs, rfl, rfl, sq_of (g1.kh _ _ h3), fun ns' l pm so hl => ?_⟩
  have e := srtR_one pm so
  subst e
  exact q l _ Kn1 _ (g1.trans (Gr.newU g1.kh hl)) (fresh_back g1.hh hl) (fresh_back g1.kh hl) upd_same (fl_paired _)
theorem k_sortedRev {X : Cx} (h : X.K = K := by rfl) : CallRK X (.builtin "sorted") [Str.ofString "reverse"] (rSortedKw K true [.bl true]) := h ▸ cr_sortedRev
end
end Wk
set_option maxHeartbeats 4000000
/-! Wodo: a value of any kind read as None or something -/
namespace Wk
open PySem PySem.Spec L2 Evl
instance {α : Type} [Rp α] [Od α] : Od (Option α) where
  of d := match d with | .none => some none | d => (Od.of d).map some
  un {K H v d a} h e := by
    cases h with
    | non =>
      cases e
      rfl
    | _ =>
      rename_i h1
      obtain ⟨x, e1, rfl⟩ := Option.map_eq_some_iff.mp e
      exact ⟨(fun z => nomatch z), Od.un (by first | exact h1 | constructor <;> assumption) e1⟩
end Wk
/-! Wpick: one of two new lists, picked out of a display: [a, b][i]; truths in a list -/
namespace Wk
open PySem PySem.Spec L2 Evl
instance : Fe Bool := ⟨fun _ => rfl, fun a b => by cases a <;> cases b <;> rfl⟩
section
variable {K : Fg} {F Kn0 : Hp} {sl sl' : List Sl} {ow ow1 ow2 : List Ow} {α β γ τ : Type} [Rp α] [Rp β] [Rp γ] [Tp τ] {ta tb te : TE}
theorem en_pick2 {xs ys zs : List α} {i : Int} (ha : EN K F Kn0 sl ow ta xs) (hb : EN K F Kn0 sl ow tb ys) (hi : EV K F Kn0 sl ow te i) (hz : atI [xs, ys] i = some zs) :
    EN K F Kn0 sl ow (tOp (rIxL K) (tLst (tCons ta (tCons tb tNil))) te) zs := fun σ Kn H s Q q =>
  ha σ Kn H s _ fun p1 w1 Kn1 H1 g1 hp1 kp1 hw1 r1 => hb σ Kn1 H1 (s.grow g1) _ fun p2 w2 Kn2 H2 g2 hp2 kp2 hw2 r2 => by
    have k12 : Kn2 p1 = none := g2.sp p1 (ne_none_of hw1) kp1
    have h12 : H2 p1 = some (.lst w1) := g2.hh _ _ hw1
    have g12 := g1.trans g2
    refine ⟨by show ([V.ref p1, V.ref p2] : List V).length ≤ sizeLine; exact le_line (Nat.le_of_ble_eq_true rfl), fun p hp => ?_⟩
    have g3 := g12.trans (Gr.newU (o := .lst [V.ref p1, V.ref p2]) g12.kh hp)
    refine hi σ Kn2 _ (s.grow g3) _ fun v Kn4 H4 g4 r4 => ?_
    cases r4
    have n1 : p1 ≠ p := fun z => by rw [← z, h12] at hp; cases hp
    have n2 : p2 ≠ p := fun z => by rw [← z, hw2] at hp; cases hp
    have u1 : upd H2 p (.lst [V.ref p1, V.ref p2]) p1 = some (.lst w1) := by rw [upd_ne n1]; exact h12
    have u2 : upd H2 p (.lst [V.ref p1, V.ref p2]) p2 = some (.lst w2) := by rw [upd_ne n2]; exact hw2
    have g := g3.trans g4
    have hpp : H4 p = some (.lst [V.ref p1, V.ref p2]) := g4.hh _ _ upd_same
    have fin : ∀ p' ws', (p' = p1 ∧ ws' = w1 ∧ zs = xs) ∨ (p' = p2 ∧ ws' = w2 ∧ zs = ys) → Q (.ref p') H4 := by
      intro p' ws' h
      rcases h with ⟨rfl, rfl, rfl⟩ | ⟨rfl, rfl, rfl⟩
      · exact q p' ws' Kn4 H4 g hp1 (g4.sp _ (ne_none_of u1) k12) (g4.hh _ _ u1) (paired_mono (g2.kk.trans g4.kk) r1)
      · exact q p' ws' Kn4 H4 g (fresh_back g1.hh hp2) (g4.sp _ (ne_none_of u2) kp2) (g4.hh _ _ u2) (paired_mono g4.kk r2)
    unfold atI at hz
    cases e : ixN [xs, ys].length i with
    | none => rw [e] at hz; cases hz
    | some j =>
      rw [e] at hz
      have e' : ixN [V.ref p1, V.ref p2].length i = some j := e
      match j, hz, e' with
      | 0, hz, e' =>
        cases hz
        exact ⟨p, _, i, .ref p1, rfl, rfl, sq_of hpp, by unfold atI; rw [e']; rfl, fin p1 w1 (.inl ⟨rfl, rfl, rfl⟩)⟩
      | 1, hz, e' =>
        cases hz
        exact ⟨p, _, i, .ref p2, rfl, rfl, sq_of hpp, by unfold atI; rw [e']; rfl, fin p2 w2 (.inr ⟨rfl, rfl, rfl⟩)⟩
      | n + 2, hz, _ => cases hz
end
/-! range with a step -/
def rng3O (lo hi c : Int) : Option (List Int) := if c ≠ 0 ∧ c.natAbs < 1073741824 ∧ Builtin.Range.small lo hi c = true ∧ Builtin.Range.rangeSize lo hi c = ((Builtin.Range.rangeSize lo hi c).toNat : Int) then some ((List.range (Builtin.Range.rangeSize lo hi c).toNat).map fun (k : Nat) => lo + (k : Int) * c) else none
section
variable {K : Fg} {F Kn0 : Hp} {sl : List Sl} {ow : List Ow} {ta : TA}
theorem wk_range3 {Kn1 : Hp} (lo c : Int) (n : Nat) : WK K Kn1 (Itc lo c n) ((List.range n).map fun (k : Nat) => lo + (k : Int) * c) := fun i Kn' H' e1 e2 => by
  refine ⟨fun x hx => ?_, fun hl => ?_⟩
  · rw [List.getElem?_map] at hx
    cases q : (List.range n)[i]? with
    | none => rw [q] at hx; cases hx
    | some m =>
      rw [q] at hx
      obtain ⟨hlt, he⟩ := List.getElem?_eq_some_iff.mp q
      rw [List.getElem_range] at he
      rw [List.length_range] at hlt
      subst he
      cases hx
      refine ⟨hlt, fun v H2 hy => ?_⟩
      obtain ⟨rfl, rfl⟩ := hy
      exact ⟨Kn', Gr.refl e2, rfl⟩
  · rw [List.length_map, List.length_range] at hl
    exact hl
theorem it_rng3 {lo hi c : Int} {xs : List Int} (h : EA K F Kn0 sl ow ta (lo, hi, c, ())) (hx : rng3O lo hi c = some xs) : IT K F Kn0 sl ow (iRng3 ta) xs := fun σ Kn H s R q => h σ Kn H s _ fun vs Kn1 H1 g1 r1 => by
  obtain ⟨v, r, rfl, h1, r1⟩ := r1
  obtain ⟨w, u, rfl, h2, h3⟩ := two_args r1
  cases h1
  cases h2
  cases h3
  unfold rng3O at hx
  split at hx
  · rename_i hb
    cases hx
    exact ⟨lo, hi, c, _, rfl, ⟨hb.1, hb.2.1, hb.2.2.1, hb.2.2.2⟩, q _ Kn1 H1 g1 (wk_range3 lo c _)⟩
  · cases hx
end
end Wk
set_option maxHeartbeats 4000000
/-! Wtup: tuples of any length cut and put together -/
namespace Wk
open PySem PySem.Spec L2 Evl
def cutTO {α : Type} (xs : Tu α) (lo hi : Option Int) : Option (Tu α) := if HT.sIx xs.l.length 0 lo = 0 ∧ HT.sIx xs.l.length xs.l.length hi = xs.l.length then none else some ⟨cut xs.l lo hi⟩
def catTO {α : Type} (xs ys : Tu α) : Option (Tu α) := if xs.l.length + ys.l.length ≤ 1000000 then some ⟨xs.l ++ ys.l⟩ else none
section
variable {K : Fg} {F Kn0 : Hp} {sl : List Sl} {ow : List Ow} {α : Type} [Rp α] {te : TE}
theorem ev_slTu {xs ys : Tu α} {tl th : TO} {lo hi : Option Int} (h : EV K F Kn0 sl ow te xs) (hl : EO K F Kn0 sl ow tl lo) (hh : EO K F Kn0 sl ow th hi) (hc : cutTO xs lo hi = some ys) : EV K F Kn0 sl ow (tSl (rSlT K) te tl th) ys := fun σ Kn H s Q q =>
  h σ Kn H s _ fun v Kn1 H1 g1 r1 => hl σ Kn1 H1 (s.grow g1) _ fun Kn2 H2 g2 => hh σ Kn2 H2 ((s.grow g1).grow g2) _ fun Kn3 H3 g3 => by
    obtain ⟨p, ws, rfl, h3, h4⟩ := r1
    unfold cutTO at hc
    split at hc
    · cases hc
    · rename_i hw
      cases hc
      have g : Gr Kn H Kn3 H3 := (g1.trans g2).trans g3
      have e13 : Ex Kn1 Kn3 := g2.kk.trans g3.kk
      have el := paired_len h4
      refine ⟨p, ws, rfl, st_of ((e13.trans g3.kh) _ _ h3), by rw [el]; exact hw, fun l hl => ?_⟩
      have gn := Gr.new (o := .tup (cutV ws lo hi)) g3.kh hl
      exact q _ _ _ (g.trans gn) ⟨l, _, rfl, upd_same, paired_cut (paired_mono (e13.trans gn.kk) h4) lo hi⟩
theorem r2_catTu {xs ys zs : Tu α} (h : catTO xs ys = some zs) : R2V K (rCatA K) xs ys zs := fun Kn H v w ek h1 h2 Q q => by
  unfold catTO at h
  split at h
  case isFalse => cases h
  rename_i hb
  cases h
  obtain ⟨p, vs, rfl, h3, h4⟩ := h1
  obtain ⟨p2, ws, rfl, h5, h6⟩ := h2
  have l1 := paired_len h4
  have l2 := paired_len h6
  have app : ∀ {G : V → α → Prop} {as : List V} {bs : List α} {cs : List V} {ds : List α}, Paired G as bs → Paired G cs ds → Paired G (as ++ cs) (bs ++ ds) := fun {G as bs cs ds} h1 h2 => by
    induction h1 with
    | nil => exact h2
    | cons h _ ih => exact .cons h ih
  refine ⟨p, p2, vs, ws, rfl, rfl, st_of (ek _ _ h3), st_of (ek _ _ h5), ?_, fun e => ?_, fun _ e => ?_, fun _ _ l hl => ?_⟩
  · rw [l1, l2]
    exact le_line (by omega)
  · subst e
    cases xs with
    | mk l =>
      have l1 : 0 = l.length := l1
      have : l = [] := List.length_eq_zero_iff.mp l1.symm
      subst this
      exact q _ Kn H (Gr.refl ek) ⟨p2, ws, rfl, h5, h6⟩
  · subst e
    cases ys with
    | mk l =>
      have l2 : 0 = l.length := l2
      have : l = [] := List.length_eq_zero_iff.mp l2.symm
      subst this
      refine q _ Kn H (Gr.refl ek) ⟨p, vs, rfl, h3, ?_⟩
      show Paired (rep K Kn) vs (xs.l ++ [])
      rw [List.append_nil]
      exact h4
  · exact q _ (upd Kn l (.tup (vs ++ ws))) _ (Gr.new ek hl) ⟨l, _, rfl, upd_same, app (paired_mono (Gr.new ek hl).kk h4) (paired_mono (Gr.new ek hl).kk h6)⟩
end
end Wk
/-! Wzip: for k, x in zip(range(n), xs) -/
namespace PySem
section
variable {prog : Program} {w : World} {A : Around} {E : Value → Shared → Prop} {s : Shared}
theorem wz_next_item {it : Addr} {x left step : Int} {Q : Value → Shared → Prop} (hit : IsRangeIter s.heap it x left step) (hleft : 0 < left)
    (hQ : ∀ h', IsRangeIter h' it (x + step) (left - 1) step → Heap.SameBut it s.heap h' → Q (.int x s.toks) { s with heap := h', toks := s.toks + 1 }) :
    wpAny (model prog w) A (Builtin.SmallTypes.nextOf (.ref it)) Q E s := by
  have hT : s.TypeIs (.ref it) "range_iterator" := ⟨_, hit, rfl⟩
  unfold Builtin.SmallTypes.nextOf
  refine wpAny_bind (wpAny_callSpecial?_slot (name := Str.ofString "__next__") hT F.slot_range_iterator_next
    (call_meets F.slot_range_iterator_next hT F.entry_range_iterator_next (F.args_range_iterator_next_1 _) (AutoRange.range_iterator___next___range_iterator_1 it x left step (by omega)) ⟨hit, ?_⟩))
  exact wpAny_pure (hQ _ (Heap.get?_update_self _ (Heap.get?_update_self _ hit rfl) rfl) ((Heap.SameBut.update ..).trans (Heap.SameBut.update ..)))
theorem wz_next_end {it : Addr} {x left step : Int} {Q : Value → Shared → Prop} (hh : A.handled = none) (hit : IsRangeIter s.heap it x left step) (hleft : left ≤ 0)
    (hE : ∀ h' e, Heap.ExtBut it s.heap h' → (∃ o, h'.get? e = some o ∧ o.cls = .type "StopIteration") → E (.ref e) { s with heap := h' }) : wpAny (model prog w) A (Builtin.SmallTypes.nextOf (.ref it)) Q E s := by
  have hT : s.TypeIs (.ref it) "range_iterator" := ⟨_, hit, rfl⟩
  unfold Builtin.SmallTypes.nextOf
  refine wpAny_bind (wpAny_callSpecial?_slot (name := Str.ofString "__next__") hT F.slot_range_iterator_next
    (wpAny_call_entry F.slot_range_iterator_next hT F.entry_range_iterator_next ?_ (F.args_range_iterator_next_1 _)))
  show wpAny _ _ (field (.ref it) 0 >>= _) _ _ s
  refine wpAny_bind (wpAny_field hit rfl (x := rawInt x) rfl ?_)
  show wpAny _ _ (field (.ref it) 1 >>= _) _ _ s
  refine wpAny_bind (wpAny_field hit rfl (x := rawInt left) rfl ?_)
  show wpAny _ _ (field (.ref it) 2 >>= _) _ _ s
  refine wpAny_bind (wpAny_field hit rfl (x := rawInt step) rfl ?_)
  show wpAny _ _ (if left ≤ 0 then _ else _) _ _ s
  rw [if_pos hleft]
  refine wpAny_bind (wpAny_rule ?_)
  refine wpAny_bind ?_
  show wpAny _ _ (newExc (.type "StopIteration") [] >>= _) _ _ _
  refine wpAny_bind ?_
  simp only [newExc, newTuple]
  refine wpAny_bind (wpAny_newObj_type ?_ (by size_fits))
  refine wpAny_bind (m := firstArgMember _ _) (wpAny_of_eq (a := Value.none) (by first | rfl | (simp only [firstArgMember]; rfl)) ?_)
  refine wpAny_newObj_type ?_ (by size_fits)
  simp only [raiseNew]
  refine wpAny_bind (wpAny_handled ?_)
  first | rw [show A.in1.handled = none from hh] | rw [hh]
  refine wpAny_bind (wpAny_pure (wpAny_throw ?_))
  exact hE _ _ (((Heap.ExtBut.refl it s.heap).push _).push _) ⟨_, Heap.get?_push_size _ rfl, rfl⟩
end
theorem Draws.range {prog : Program} {w : World} {A : Around} (hh : A.handled = none) (it : Addr) (n : Nat) :
    Draws prog w A it [it] n (fun i v => ∃ t, v = .int (i : Nat) t) (fun i h => IsRangeIter h it (i : Nat) ((n : Int) - (i : Nat)) 1) where
  live := fun _ _ st => ⟨_, st⟩
  frame := fun _ _ _ st hk => hk it (by simp) _ st
  item := fun i s Q E hi st hQ => by
    refine wz_next_item st (by omega) fun h' st' sb => ?_
    refine hQ _ h' _ ⟨_, rfl⟩ ?_ sb
    have e1 : (((i : Nat) : Int) + 1) = ((i + 1 : Nat) : Int) := by omega
    have e2 : ((n : Int) - ((i : Nat) : Int) - 1) = (n : Int) - ((i + 1 : Nat) : Int) := by omega
    rw [e1, e2] at st'
    exact st'
  done := fun s Q E st hE => wz_next_end hh st (by omega) hE
theorem begins_range (r : Addr) (b : Int) (t u v : Tok) (hs : Builtin.Range.small 0 b 1 = true) : Begins (.ref r) { cls := .type "range_iterator", data := .fields #[rawInt 0, rawInt (Builtin.Range.rangeSize 0 b 1), rawInt 1] } fun h => IsRange h r 0 b 1 t u v where
  iter := fun prog w A E s Q hr h => wpAny_pyIter_range hr hs h
  keeps := fun h h' x hk => hk r _ x
  free := rfl
end PySem
namespace L2
open PySem PySem.Spec PyProof.Rows
/-- numbers from 0 on, n of them, and the list at b as it stands, the items in new pairs -/
def Itzr (K : PySem.W.Frag) (n m : Nat) (b : Addr) : It :=
  ⟨fun i H => ∃ (ys : List V) (y : V), i < n ∧ SqL K H b ys ∧ ys.length = m ∧ ys[i]? = some y,
    fun i H v H' => ∃ T y, v = .ref T ∧ H T = none ∧ H' = upd H T (.tup [.int (i : Nat), y]) ∧ ∀ ys, SqL K H b ys → ys[i]? = some y,
    fun i H => ∃ ys : List V, SqL K H b ys ∧ ys.length = m ∧ (n ≤ i ∨ m ≤ i)⟩
theorem turn_zipR {P : Program} {w : World} {K : PySem.W.Frag} {elts : List Expr} {kk n m : Nat} {tpos : Pos} {b z TI TO i1 i2 : Addr} (D : ZipSep2 z TI TO i1 i2 [i1] [i2, b]) (hb : b ≠ i2) :
    Turn P w K (.Tuple elts kk tpos) (Itzr K n m b) [z, TI, TO, i1, i2] z (fun i h => (i ≤ n ∧ i ≤ m) ∧ IsZip h z TI TO .none ∧ IsTupOf2 h TI (.ref i1) (.ref i2) ∧ (∃ x y, IsTupOf2 h TO x y) ∧ IsRangeIter h i1 (i : Nat) ((n : Int) - (i : Nat)) 1 ∧ h.IsListIter i2 b i) where
  mem := by simp
  obj := fun i h st c hc => by
    obtain ⟨_, hz, hTI, ⟨x, y, hTO⟩, h1, ⟨o2, e2, _, d2⟩⟩ := st
    have e' : c = z ∨ c = TI ∨ c = TO ∨ c = i1 ∨ c = i2 := by simpa using hc
    rcases e' with q | q | q | q | q
    · rw [q]; exact ⟨_, hz, fun v q => nomatch q⟩
    · rw [q]; exact ⟨_, hTI, fun v q => nomatch q⟩
    · rw [q]; exact ⟨_, hTO, fun v q => nomatch q⟩
    · rw [q]; exact ⟨_, h1, fun v q => nomatch q⟩
    · rw [q]; exact ⟨o2, e2, fun v q => by rw [d2] at q; cases q⟩
  keep := fun i h h' st k => by
    obtain ⟨hnm, hz, hTI, ⟨x, y, hTO⟩, h1, h2⟩ := st
    exact ⟨hnm, k z (by simp) _ hz, k TI (by simp) _ hTI, ⟨x, y, k TO (by simp) _ hTO⟩, k i1 (by simp) _ h1, h2.at fun o q => k i2 (by simp) o q⟩
  item := by
    intro X hP hw hK hc i pins s σ H E I hf st hg
    subst hP hw hK
    obtain ⟨hnm, hz, hTI, ⟨x0, y0, hTO⟩, h1, h2⟩ := st
    obtain ⟨ys, y, hin, hqy, hym, hy⟩ := hg
    have him : i < m := hym ▸ (List.getElem?_eq_some_iff.mp hy).1
    obtain ⟨its2, rv2, p2, _⟩ := I.list hqy
    obtain ⟨u2, hu2, ru2⟩ := rv2.get hy
    have hzl : z < s.heap.objs.size := Heap.lt_size hz
    have hl2 : i < its2.toArray.size := by
      rw [List.size_toArray]
      exact (List.getElem?_eq_some_iff.mp hu2).1
    have D1 := Draws.range (prog := X.prog) (w := X.w) (A := X.A.in1) (I.ok.hd hc) i1 n
    have D2 := Draws.list (prog := X.prog) (w := X.w) (A := X.A.in1) (I.ok.hd hc) i2 b hb its2.toArray
    refine wpAny_pyNext_zipD2_item D D1 D2 hz hTI hTO h1 ⟨h2, p2.isList⟩ hin hl2 fun x1 x2 h' tk hx1 hx2 z' TO' h1' h2' hT hsz hk => ?_
    obtain ⟨t1, rfl⟩ := hx1
    have e2 : u2 = x2 := by
      have hx2 : its2.toArray[i]? = some x2 := hx2
      rw [List.getElem?_toArray, hu2] at hx2
      exact Option.some.inj hx2
    subst e2
    refine ⟨_, rfl, wpAny_letOwnedTupleGo_zip (s := { s with heap := h', toks := tk }) z' fun h'' z'' sb => ?_⟩
    have hT2 : h''.get? s.heap.objs.size = some { cls := .type "tuple", data := .seq #[.int (i : Nat) t1, u2] } := (sb.2 _ (Nat.ne_of_gt hzl)).trans hT
    have new : ObjOk X.prog X.w (upd H s.heap.objs.size (.tup [.int (i : Nat), y])) h'' s.heap.objs.size (.tup [.int (i : Nat), y]) :=
      ⟨by show 2 ≤ sizeLine; decide, [.int (i : Nat) t1, u2], .cons ⟨t1, rfl⟩ (.cons ru2 .nil), ⟨_, hT2, rfl, _, rfl⟩⟩
    have I1 : Inv X pins σ (upd H s.heap.objs.size (.tup [.int (i : Nat), y])) { s with heap := h'', toks := tk } :=
      I.turnedNew (t' := tk) (ch := [z, TI, TO, i1, i2]) (fun c o hb q => (sb.2 c (fun q' => hb (by simp [q']))).trans (hk c o (fun q' => hb (by simp [q'])) (fun q' => hb (by simp [q'])) (fun q' => hb (by simp [q'])) (fun q' => hb (by simp [q'])) q)) hf (Nat.le_refl _) new
    refine ⟨.ref s.heap.objs.size, _, I1, rfl, ⟨_, y, rfl, I.hok.fresh (Nat.le_refl _), rfl, fun l hl => by rw [I.list_inj hl hqy]; exact hy⟩, ⟨⟨hin, him⟩, z'', ?_, ⟨.int (i : Nat) t1, u2, ?_⟩, ?_, ?_⟩, fun c hcm => ?_⟩
    · exact (sb.2 _ D.TIz).trans (hk _ _ D.TIz D.TITO D.TIi1 D.TIi2 hTI)
    · exact (sb.2 _ D.TOz).trans TO'
    · exact (sb.2 _ (Ne.symm D.zi1)).trans h1'
    · exact h2'.1.at fun o q => (sb.2 _ (Ne.symm D.zi2)).trans q
    · have hlt : c < s.heap.objs.size := by
        have e' : c = z ∨ c = TI ∨ c = TO ∨ c = i1 ∨ c = i2 := by simpa using hcm
        rcases e' with q | q | q | q | q
        · rw [q]; exact hzl
        · rw [q]; exact Heap.lt_size hTI
        · rw [q]; exact Heap.lt_size hTO
        · rw [q]; exact Heap.lt_size h1
        · rw [q]; obtain ⟨_, e2, _⟩ := h2; exact Heap.lt_size e2
      rw [upd_ne (Nat.ne_of_lt hlt)]
      exact (hf c hcm).1
  done := by
    intro X hP hw hK hc i pins s σ H E I hf st hg
    subst hP hw hK
    obtain ⟨⟨hin, him⟩, hz, hTI, ⟨x0, y0, hTO⟩, h1, h2⟩ := st
    obtain ⟨ys, hqy, hym, hend⟩ := hg
    obtain ⟨its2, rv2, p2, _⟩ := I.list hqy
    have l2 := rv2.length
    have D1 := Draws.range (prog := X.prog) (w := X.w) (A := X.A.in1) (I.ok.hd hc) i1 n
    have D2 := Draws.list (prog := X.prog) (w := X.w) (A := X.A.in1) (I.ok.hd hc) i2 b hb its2.toArray
    exact wpAny_pyNext_zipD2_end D D1 D2 hz hTI hTO h1 ⟨h2, p2.isList⟩ hin (by rw [List.size_toArray]; omega) (by rw [List.size_toArray]; omega) fun h' tk hk => ⟨rfl, I.turnedL (t' := tk) (ch := [z, TI, TO, i1, i2]) (fun c o hb q =>
      hk c o (fun q' => hb (by simp [q'])) (fun q' => hb (by simp [q'])) (fun q' => hb (by simp [q'])) (fun q' => hb (by simp [q'])) q) hf⟩
  self := fun A i s Q E st h => wpAny_pyIter_zip st.2.1 h
def iZipR (K : PySem.W.Frag) (te1 te2 : TE) : TI := fun σ H R => te1 σ H fun x H1 => ∃ j : Int, x = .int j ∧ -(2 ^ 62) ≤ j ∧ j < 2 ^ 62 ∧ te2 σ H1 fun y H2 => ∃ b ys, y = .ref b ∧ SqL K H2 b ys ∧ R (Itzr K j.toNat ys.length b) H2
theorem pi_zipR {X : Cx} {e1 e2 : Expr} {te1 te2 : TE} {p p2 pos pos2 tpos : Pos} {elts : List Expr} {kk : Nat} (hg : Gl X "zip") (hm : X.mg "zip" = none) (hg2 : Gl X "range") (hm2 : X.mg "range" = none) (h1 : PE X e1 te1) (h2 : PE X e2 te2)
    (na : starEach [e1] X.env = [(false, eval e1 X.env)] := by rfl)
    (hs : starEach [.Call (.Name "range" p2) [e1] [] pos2, e2] X.env = (false, eval (.Call (.Name "range" p2) [e1] [] pos2) X.env) :: starEach [e2] X.env := by rfl) (hs2 : starEach [e2] X.env = [(false, eval e2 X.env)] := by rfl) :
    PI X (.Tuple elts kk tpos) (.Call (.Name "zip" p) [.Call (.Name "range" p2) [e1] [] pos2, e2] [] pos) (iZipR X.K te1 te2) := by
  refine ⟨fun pins s σ H R I h => ?_⟩
  refine Call_ (ld_blt I hg hm PyProof.Rows.boot_zip (PyProof.Rows.callWith_type1 (PyProof.Rows.args_cons ?_ hs) hs (by rw [hs2]; rfl)))
  refine Call_ (ld_blt I hg2 hm2 boot_range (PyProof.Rows.callWith_type1 (PyProof.Rows.args_cons (thn (h1.run pins s σ H _ I h) fun v s1 ⟨x, H1, I1, r1, q1⟩ => PyProof.Rows.args_nil ?_) na) na rfl))
  obtain ⟨j, rfl, j0, j1, q1⟩ := q1
  obtain ⟨t, rfl⟩ := r1
  refine call_range_1 ?_
  have hfr := I1.fpOk (Nat.le_refl _) (I1.hok.fresh (Nat.le_refl _))
  have I2 : Inv X ((s1.heap.objs.size, { cls := .type "range", data := .fields #[.int 0 s1.toks, .int j t, .int 1 (s1.toks + 1)] }) :: pins) σ H1 { s1 with heap := s1.heap.push { cls := .type "range", data := .fields #[.int 0 s1.toks, .int j t, .int 1 (s1.toks + 1)] }, toks := s1.toks + 1 + 1 } := by
    have I1' : Inv X pins σ H1 { s1 with heap := s1.heap.push { cls := .type "range", data := .fields #[.int 0 s1.toks, .int j t, .int 1 (s1.toks + 1)] }, toks := s1.toks + 1 + 1 } := I1.kept (t' := s1.toks + 1 + 1) fun b o e => Heap.get?_push_of_some _ e
    refine I1'.pins_of fun r hr => ?_
    rcases List.mem_cons.mp hr with rfl | hr
    · exact ⟨Heap.get?_push_size _ rfl, hfr.1, hfr.2.1, hfr.2.2.1, fun v q => nomatch q⟩
    · exact I1'.pin r (List.mem_append_right _ hr)
  refine PyProof.Rows.args_cons (thn (h2.run _ _ σ H1 _ I2 q1) fun v s2 ⟨y, H2, I3, r3, q3⟩ => PyProof.Rows.args_nil ?_) hs2
  obtain ⟨b, ys, rfl, hq, q3⟩ := q3
  cases r3
  have I4 : Inv X pins σ H2 s2 := I3.pins_of fun r hr => I3.pin r (List.mem_append_right _ (List.mem_cons_of_mem _ hr))
  have hr : IsRange s2.heap s1.heap.objs.size 0 j 1 s1.toks t (s1.toks + 1) := (I3.pin _ (List.mem_append_right _ List.mem_cons_self)).1
  obtain ⟨its2, rv2, p2', _⟩ := I4.list hq
  have lb : b < s2.heap.objs.size := p2'.lt
  refine zip_begins2 (begins_range s1.heap.objs.size j s1.toks t (s1.toks + 1) (small_one (by decide) (by decide) j0 j1)) (begins_list b its2.toArray) hr p2'.isList fun h' hz hTI hTO g1 g2 hsz hk => wpAny_pyIter_zip hz ?_
  have I5 : Inv X pins σ H2 { s2 with heap := h' } := I4.kept (t' := s2.toks) hk
  have sep : ZipSep2 (s2.heap.objs.size + 4) (s2.heap.objs.size + 2) (s2.heap.objs.size + 3) s2.heap.objs.size (s2.heap.objs.size + 1) [s2.heap.objs.size] [s2.heap.objs.size + 1, b] :=
    zip_sep2 (N := s2.heap.objs.size) (fp1 := []) (fp2 := [b]) (fun c hc => nomatch hc) fun c hc => by rw [List.mem_singleton.mp hc]; exact lb
  refine ⟨s2.heap.objs.size + 4, [s2.heap.objs.size + 4, s2.heap.objs.size + 2, s2.heap.objs.size + 3, s2.heap.objs.size, s2.heap.objs.size + 1], _, _, H2, rfl, I5, turn_zipR sep (Nat.ne_of_lt (Nat.lt_succ_of_lt lb)), ⟨⟨Nat.zero_le _, Nat.zero_le _⟩, hz, hTI, ⟨_, _, hTO⟩, ?_, ⟨_, g2, rfl, rfl⟩⟩, fun c hcm => ?_, q3⟩
  · have e2 : ((j.toNat : Nat) : Int) - ((0 : Nat) : Int) = Builtin.Range.rangeSize 0 j 1 := by rw [rangeSize_one]; split <;> omega
    show IsRangeIter h' _ ((0 : Nat) : Int) (((j.toNat : Nat) : Int) - ((0 : Nat) : Int)) 1
    rw [e2]
    exact g1
  · have e' : c = s2.heap.objs.size + 4 ∨ c = s2.heap.objs.size + 2 ∨ c = s2.heap.objs.size + 3 ∨ c = s2.heap.objs.size ∨ c = s2.heap.objs.size + 1 := by simpa using hcm
    have hle : s2.heap.objs.size ≤ c := by
      rcases e' with z | z | z | z | z
      · rw [z]; exact Nat.le_add_right _ _
      · rw [z]; exact Nat.le_add_right _ _
      · rw [z]; exact Nat.le_add_right _ _
      · rw [z]; exact Nat.le_refl _
      · rw [z]; exact Nat.le_add_right _ _
    exact I4.fpOk hle (I4.hok.fresh hle)
end L2
namespace Wk
open PySem PySem.Spec L2 Evl
section
variable {K : Fg} {F Kn0 : Hp} {sl : List Sl} {ow : List Ow} {α : Type} [Rp α] {t1 t2 : TE}
theorem it_zipR {n : Int} {rg : List Int} {ys : List α} (h1 : EV K F Kn0 sl ow t1 n) (hx : rngO 0 n = some rg) (h2 : EV K F Kn0 sl ow t2 ys) : IT K F Kn0 sl ow (iZipR K t1 t2) (zipI rg ys) := fun σ Kn H s R q => h1 σ Kn H s _ fun v Kn1 H1 g1 r1 => by
  cases r1
  unfold rngO at hx
  split at hx
  · rename_i hb
    cases hx
    refine ⟨n, rfl, by omega, by omega, h2 σ Kn1 H1 (s.grow g1) _ fun v2 Kn2 H2 g2 r2 => ?_⟩
    obtain ⟨p2, ws2, rfl, h5, h6⟩ := r2
    refine ⟨p2, ws2, rfl, sq_of (g2.kh _ _ h5), q _ Kn2 H2 (g1.trans g2) fun i Kn' H' e1 e2 => ?_⟩
    have hq2 : SqL K H' p2 ws2 := sq_of ((e1.trans e2) _ _ h5)
    have ln : (irange 0 n).length = n.toNat := by simp [irange]
    refine ⟨fun y hy => ?_, fun hl => ⟨ws2, hq2, rfl, ?_⟩⟩
    · obtain ⟨x, y, hx, hy2, rfl⟩ := zip_get hy
      obtain ⟨v2, hv2, rv2⟩ := paired_at h6 hy2
      have hi : i < n.toNat := ln ▸ (List.getElem?_eq_some_iff.mp hx).1
      have ex : x = (i : Nat) := by
        unfold irange at hx
        rw [List.getElem?_map, List.getElem?_range (by omega)] at hx
        have : (0 : Int) + ((i : Nat) : Int) = x := Option.some.inj hx
        omega
      subst ex
      refine ⟨⟨ws2, v2, hi, hq2, rfl, hv2⟩, fun u H2 hy => ?_⟩
      obtain ⟨T, z2, rfl, hT, rfl, f2⟩ := hy
      have e4 : v2 = z2 := Option.some.inj (hv2.symm.trans (f2 ws2 hq2))
      subst e4
      have g : Gr Kn' H' (upd Kn' T (.tup [.int (i : Nat), v2])) (upd H' T (.tup [.int (i : Nat), v2])) := Gr.new e2 hT
      exact ⟨_, g, T, _, rfl, upd_same, .int (i : Nat), [v2], rfl, rfl, v2, [], rfl, Rp.mono (e1.trans g.kk) rv2, rfl⟩
    · rw [paired_len h6]
      simp [zipI] at hl
      rw [ln] at hl
      omega
  · cases hx
end
end Wk
/-! Wzip2: for x, y in zip(t, xs): a tuple and a list -/
namespace L2
open PySem PySem.Spec PyProof.Rows
/-- the tuple at a and the list at b as they stand, the items in new pairs -/
def ItzTL (K : PySem.W.Frag) (n m : Nat) (a b : Addr) : It :=
  ⟨fun i H => ∃ (xs ys : List V) (x y : V), SqT K H a xs ∧ xs.length = n ∧ xs[i]? = some x ∧ SqL K H b ys ∧ ys.length = m ∧ ys[i]? = some y,
    fun i H v H' => ∃ T x y, v = .ref T ∧ H T = none ∧ H' = upd H T (.tup [x, y]) ∧ (∀ xs, SqT K H a xs → xs[i]? = some x) ∧ ∀ ys, SqL K H b ys → ys[i]? = some y,
    fun i H => ∃ xs ys : List V, SqT K H a xs ∧ xs.length = n ∧ SqL K H b ys ∧ ys.length = m ∧ (n ≤ i ∨ m ≤ i)⟩
theorem turn_zipTL {P : Program} {w : World} {K : PySem.W.Frag} {elts : List Expr} {kk n m : Nat} {tpos : Pos} {a b z TI TO i1 i2 : Addr} (D : ZipSep2 z TI TO i1 i2 [i1, a] [i2, b]) (ha : a ≠ i1) (hb : b ≠ i2) :
    Turn P w K (.Tuple elts kk tpos) (ItzTL K n m a b) [z, TI, TO, i1, i2] z (fun i h => (i ≤ n ∧ i ≤ m) ∧ IsZip h z TI TO .none ∧ IsTupOf2 h TI (.ref i1) (.ref i2) ∧ (∃ x y, IsTupOf2 h TO x y) ∧ h.IsTupleIter i1 a i ∧ h.IsListIter i2 b i) where
  mem := by simp
  obj := fun i h st c hc => by
    obtain ⟨_, hz, hTI, ⟨x, y, hTO⟩, ⟨o1, e1, _, d1⟩, ⟨o2, e2, _, d2⟩⟩ := st
    have e' : c = z ∨ c = TI ∨ c = TO ∨ c = i1 ∨ c = i2 := by simpa using hc
    rcases e' with q | q | q | q | q
    · rw [q]; exact ⟨_, hz, fun v q => nomatch q⟩
    · rw [q]; exact ⟨_, hTI, fun v q => nomatch q⟩
    · rw [q]; exact ⟨_, hTO, fun v q => nomatch q⟩
    · rw [q]; exact ⟨o1, e1, fun v q => by rw [d1] at q; cases q⟩
    · rw [q]; exact ⟨o2, e2, fun v q => by rw [d2] at q; cases q⟩
  keep := fun i h h' st k => by
    obtain ⟨hnm, hz, hTI, ⟨x, y, hTO⟩, h1, h2⟩ := st
    exact ⟨hnm, k z (by simp) _ hz, k TI (by simp) _ hTI, ⟨x, y, k TO (by simp) _ hTO⟩, h1.at fun o q => k i1 (by simp) o q, h2.at fun o q => k i2 (by simp) o q⟩
  item := by
    intro X hP hw hK hc i pins s σ H E I hf st hg
    subst hP hw hK
    obtain ⟨hnm, hz, hTI, ⟨x0, y0, hTO⟩, h1, h2⟩ := st
    obtain ⟨xs, ys, x, y, hqx, hxm, hx, hqy, hym, hy⟩ := hg
    have hin : i < n := hxm ▸ (List.getElem?_eq_some_iff.mp hx).1
    have him : i < m := hym ▸ (List.getElem?_eq_some_iff.mp hy).1
    obtain ⟨its1, rv1, p1, _⟩ := I.tuple hqx
    obtain ⟨its2, rv2, p2, _⟩ := I.list hqy
    obtain ⟨u1, hu1, ru1⟩ := rv1.get hx
    obtain ⟨u2, hu2, ru2⟩ := rv2.get hy
    have hzl : z < s.heap.objs.size := Heap.lt_size hz
    have hl1 : i < its1.toArray.size := by
      rw [List.size_toArray]
      exact (List.getElem?_eq_some_iff.mp hu1).1
    have hl2 : i < its2.toArray.size := by
      rw [List.size_toArray]
      exact (List.getElem?_eq_some_iff.mp hu2).1
    have D1 := Draws.tuple (prog := X.prog) (w := X.w) (A := X.A.in1) (I.ok.hd hc) i1 a ha its1.toArray
    have D2 := Draws.list (prog := X.prog) (w := X.w) (A := X.A.in1) (I.ok.hd hc) i2 b hb its2.toArray
    refine wpAny_pyNext_zipD2_item D D1 D2 hz hTI hTO ⟨h1, p1⟩ ⟨h2, p2.isList⟩ hl1 hl2 fun x1 x2 h' tk hx1 hx2 z' TO' h1' h2' hT hsz hk => ?_
    have e1 : u1 = x1 := by
      have hx1 : its1.toArray[i]? = some x1 := hx1
      rw [List.getElem?_toArray, hu1] at hx1
      exact Option.some.inj hx1
    subst e1
    have e2 : u2 = x2 := by
      have hx2 : its2.toArray[i]? = some x2 := hx2
      rw [List.getElem?_toArray, hu2] at hx2
      exact Option.some.inj hx2
    subst e2
    refine ⟨_, rfl, wpAny_letOwnedTupleGo_zip (s := { s with heap := h', toks := tk }) z' fun h'' z'' sb => ?_⟩
    have hT2 : h''.get? s.heap.objs.size = some { cls := .type "tuple", data := .seq #[u1, u2] } := (sb.2 _ (Nat.ne_of_gt hzl)).trans hT
    have new : ObjOk X.prog X.w (upd H s.heap.objs.size (.tup [x, y])) h'' s.heap.objs.size (.tup [x, y]) :=
      ⟨by show 2 ≤ sizeLine; decide, [u1, u2], .cons ru1 (.cons ru2 .nil), ⟨_, hT2, rfl, _, rfl⟩⟩
    have I1 : Inv X pins σ (upd H s.heap.objs.size (.tup [x, y])) { s with heap := h'', toks := tk } :=
      I.turnedNew (t' := tk) (ch := [z, TI, TO, i1, i2]) (fun c o hb q => (sb.2 c (fun q' => hb (by simp [q']))).trans (hk c o (fun q' => hb (by simp [q'])) (fun q' => hb (by simp [q'])) (fun q' => hb (by simp [q'])) (fun q' => hb (by simp [q'])) q)) hf (Nat.le_refl _) new
    refine ⟨.ref s.heap.objs.size, _, I1, rfl, ⟨_, x, y, rfl, I.hok.fresh (Nat.le_refl _), rfl, fun l hl => by rw [I.tuple_inj hl hqx]; exact hx, fun l hl => by rw [I.list_inj hl hqy]; exact hy⟩, ⟨⟨hin, him⟩, z'', ?_, ⟨u1, u2, ?_⟩, ?_, ?_⟩, fun c hcm => ?_⟩
    · exact (sb.2 _ D.TIz).trans (hk _ _ D.TIz D.TITO D.TIi1 D.TIi2 hTI)
    · exact (sb.2 _ D.TOz).trans TO'
    · exact h1'.1.at fun o q => (sb.2 _ (Ne.symm D.zi1)).trans q
    · exact h2'.1.at fun o q => (sb.2 _ (Ne.symm D.zi2)).trans q
    · have hlt : c < s.heap.objs.size := by
        have e' : c = z ∨ c = TI ∨ c = TO ∨ c = i1 ∨ c = i2 := by simpa using hcm
        rcases e' with q | q | q | q | q
        · rw [q]; exact hzl
        · rw [q]; exact Heap.lt_size hTI
        · rw [q]; exact Heap.lt_size hTO
        · rw [q]; obtain ⟨_, e1, _⟩ := h1; exact Heap.lt_size e1
        · rw [q]; obtain ⟨_, e2, _⟩ := h2; exact Heap.lt_size e2
      rw [upd_ne (Nat.ne_of_lt hlt)]
      exact (hf c hcm).1
  done := by
    intro X hP hw hK hc i pins s σ H E I hf st hg
    subst hP hw hK
    obtain ⟨⟨hin, him⟩, hz, hTI, ⟨x0, y0, hTO⟩, h1, h2⟩ := st
    obtain ⟨xs, ys, hqx, hxm, hqy, hym, hend⟩ := hg
    obtain ⟨its1, rv1, p1, _⟩ := I.tuple hqx
    obtain ⟨its2, rv2, p2, _⟩ := I.list hqy
    have l1 := rv1.length
    have l2 := rv2.length
    have D1 := Draws.tuple (prog := X.prog) (w := X.w) (A := X.A.in1) (I.ok.hd hc) i1 a ha its1.toArray
    have D2 := Draws.list (prog := X.prog) (w := X.w) (A := X.A.in1) (I.ok.hd hc) i2 b hb its2.toArray
    exact wpAny_pyNext_zipD2_end D D1 D2 hz hTI hTO ⟨h1, p1⟩ ⟨h2, p2.isList⟩ (by rw [List.size_toArray]; omega) (by rw [List.size_toArray]; omega) (by rw [List.size_toArray, List.size_toArray]; omega) fun h' tk hk => ⟨rfl, I.turnedL (t' := tk) (ch := [z, TI, TO, i1, i2]) (fun c o hb q =>
      hk c o (fun q' => hb (by simp [q'])) (fun q' => hb (by simp [q'])) (fun q' => hb (by simp [q'])) (fun q' => hb (by simp [q'])) q) hf⟩
  self := fun A i s Q E st h => wpAny_pyIter_zip st.2.1 h
def iZipTL (K : PySem.W.Frag) (ta : TA) : TI := fun σ H R => ta σ H fun vs H1 => ∃ a b xs ys, vs = [.ref a, .ref b] ∧ SqT K H1 a xs ∧ SqL K H1 b ys ∧ R (ItzTL K xs.length ys.length a b) H1
theorem pi_zipTL {X : Cx} {e e2 : Expr} {ta : TA} {p pos tpos : Pos} {elts : List Expr} {kk : Nat} (hg : Gl X "zip") (hm : X.mg "zip" = none) (ha : PA X [e, e2] ta)
    (hs : starEach [e, e2] X.env = (false, eval e X.env) :: starEach [e2] X.env := by rfl) (hpl : (backTo pos (starEach [e2] X.env)).any (·.1) = false := by rfl) :
    PI X (.Tuple elts kk tpos) (.Call (.Name "zip" p) [e, e2] [] pos) (iZipTL X.K ta) := by
  refine ⟨fun pins s σ H R I h => ?_⟩
  refine Call_ (ld_blt I hg hm PyProof.Rows.boot_zip (PyProof.Rows.callWith_type1 (thn (ha.run pos pins s σ H _ I h) fun us s1 ⟨vs, H1, I1, r1, q1⟩ => ?_) hs hpl))
  obtain ⟨a, b, xs, ys, ex, hqx, hqy, q1⟩ := q1
  subst ex
  cases r1 with
  | cons r rr =>
  cases rr with
  | cons r' rr =>
  cases rr
  cases r
  cases r'
  obtain ⟨its1, rv1, p1, _⟩ := I1.tuple hqx
  obtain ⟨its2, rv2, p2, _⟩ := I1.list hqy
  have la : a < s1.heap.objs.size := by
    obtain ⟨o, e, _⟩ := p1
    exact Heap.lt_size e
  have lb : b < s1.heap.objs.size := p2.lt
  refine zip_begins2 (begins_tuple a its1.toArray) (begins_list b its2.toArray) p1 p2.isList fun h' hz hTI hTO g1 g2 hsz hk => wpAny_pyIter_zip hz ?_
  have I5 : Inv X pins σ H1 { s1 with heap := h' } := I1.kept (t' := s1.toks) hk
  have sep : ZipSep2 (s1.heap.objs.size + 4) (s1.heap.objs.size + 2) (s1.heap.objs.size + 3) s1.heap.objs.size (s1.heap.objs.size + 1) [s1.heap.objs.size, a] [s1.heap.objs.size + 1, b] :=
    zip_sep2 (N := s1.heap.objs.size) (fp1 := [a]) (fp2 := [b]) (fun c hc => by rw [List.mem_singleton.mp hc]; exact la) fun c hc => by rw [List.mem_singleton.mp hc]; exact lb
  refine ⟨s1.heap.objs.size + 4, [s1.heap.objs.size + 4, s1.heap.objs.size + 2, s1.heap.objs.size + 3, s1.heap.objs.size, s1.heap.objs.size + 1], _, _, H1, rfl, I5, turn_zipTL sep (Nat.ne_of_lt la) (Nat.ne_of_lt (Nat.lt_succ_of_lt lb)), ⟨⟨Nat.zero_le _, Nat.zero_le _⟩, hz, hTI, ⟨_, _, hTO⟩, ⟨_, g1, rfl, rfl⟩, ⟨_, g2, rfl, rfl⟩⟩, fun c hcm => ?_, q1⟩
  have e' : c = s1.heap.objs.size + 4 ∨ c = s1.heap.objs.size + 2 ∨ c = s1.heap.objs.size + 3 ∨ c = s1.heap.objs.size ∨ c = s1.heap.objs.size + 1 := by simpa using hcm
  have hle : s1.heap.objs.size ≤ c := by
    rcases e' with z | z | z | z | z
    · rw [z]; exact Nat.le_add_right _ _
    · rw [z]; exact Nat.le_add_right _ _
    · rw [z]; exact Nat.le_add_right _ _
    · rw [z]; exact Nat.le_refl _
    · rw [z]; exact Nat.le_add_right _ _
  exact I1.fpOk hle (I1.hok.fresh hle)
end L2
namespace Wk
open PySem PySem.Spec L2 Evl
section
variable {K : Fg} {F Kn0 : Hp} {sl : List Sl} {ow : List Ow} {α β : Type} [Rp α] [Rp β] {ta : TA}
theorem it_zipTL {xs : Tu α} {ys : List β} (h : EA K F Kn0 sl ow ta (xs, ys, ())) : IT K F Kn0 sl ow (iZipTL K ta) (zipI xs.l ys) := fun σ Kn H s R q => h σ Kn H s _ fun vs Kn1 H1 g1 r1 => by
  obtain ⟨v, w, rfl, h1, h2⟩ := two_args r1
  obtain ⟨p1, ws1, rfl, h3, h4⟩ := h1
  obtain ⟨p2, ws2, rfl, h5, h6⟩ := h2
  refine ⟨p1, p2, ws1, ws2, rfl, st_of (g1.kh _ _ h3), sq_of (g1.kh _ _ h5), q _ Kn1 H1 g1 fun i Kn' H' e1 e2 => ?_⟩
  have hq1 : SqT K H' p1 ws1 := st_of ((e1.trans e2) _ _ h3)
  have hq2 : SqL K H' p2 ws2 := sq_of ((e1.trans e2) _ _ h5)
  refine ⟨fun y hy => ?_, fun hl => ⟨ws1, ws2, hq1, rfl, hq2, rfl, ?_⟩⟩
  · obtain ⟨x, y, hx, hy2, rfl⟩ := zip_get hy
    obtain ⟨v1, hv1, rv1⟩ := paired_at h4 hx
    obtain ⟨v2, hv2, rv2⟩ := paired_at h6 hy2
    refine ⟨⟨ws1, ws2, v1, v2, hq1, rfl, hv1, hq2, rfl, hv2⟩, fun u H2 hy => ?_⟩
    obtain ⟨T, z1, z2, rfl, hT, rfl, f1, f2⟩ := hy
    have e3 : v1 = z1 := Option.some.inj (hv1.symm.trans (f1 ws1 hq1))
    have e4 : v2 = z2 := Option.some.inj (hv2.symm.trans (f2 ws2 hq2))
    subst e3
    subst e4
    have g : Gr Kn' H' (upd Kn' T (.tup [v1, v2])) (upd H' T (.tup [v1, v2])) := Gr.new e2 hT
    exact ⟨_, g, T, _, rfl, upd_same, v1, [v2], rfl, Rp.mono (e1.trans g.kk) rv1, v2, [], rfl, Rp.mono (e1.trans g.kk) rv2, rfl⟩
  · rw [paired_len h4, paired_len h6]
    simp [zipI] at hl
    omega
end
end Wk
set_option synthInstance.maxHeartbeats 4000000
set_option synthInstance.maxSize 20000
/-! the mirrors of k06, printed by gen.py -/
namespace Wk06
open PySem L2 Wk
noncomputable def m_cells_at (row_1 : Int) (column_2 : Int) (span_3 : (Int × Int × Unit)) : Option (List (Int × Int × Unit)) :=
  (mulO span_3.1 span_3.2.1).bind fun m_4 =>
  (rngO 0 m_4).bind fun rg_5 =>
  (lcM (fun _ => some true) (fun k_6 => ((divO k_6 span_3.1).bind fun q_8 => (modO k_6 span_3.1).bind fun r_9 => some ((row_1 + q_8), (column_2 + r_9), ()))) rg_5).bind fun zs_7 =>
  some zs_7
noncomputable def m_is_open_L2 (taken_10 : (Dc (Int × Int × Unit) Bool)) (there_15 : Int) : Int → (Unit) → Option (Ctl (Unit) Bool) := fun at_22 _ =>
  (if (getD taken_10.l (there_15, at_22, ())).isSome = true then (some (Ctl.rt false)) else (some (Ctl.nx ())))
noncomputable def m_is_open_L1 (taken_10 : (Dc (Int × Int × Unit) Bool)) (column_12 : Int) (span_13 : (Int × Int × Unit)) : Int → (Unit) → Option (Ctl (Unit) Bool) := fun there_15 _ =>
  (rngO column_12 (column_12 + span_13.1)).bind fun rg_21 =>
  (forC (m_is_open_L2 taken_10 there_15) rg_21 ()).bind fun tot_27 => match tot_27 with
  | .nx _ => (some (Ctl.nx ()))
  | .bk _ => none
  | .rt r_ => some (Ctl.rt r_)
noncomputable def m_is_open (taken_10 : (Dc (Int × Int × Unit) Bool)) (row_11 : Int) (column_12 : Int) (span_13 : (Int × Int × Unit)) : Option Bool :=
  (rngO row_11 (row_11 + span_13.2.1)).bind fun rg_14 =>
  (forC (m_is_open_L1 taken_10 column_12 span_13) rg_14 ()).bind fun tot_20 => match tot_20 with
  | .nx _ => (some true)
  | .bk _ => none
  | .rt r_ => some r_
noncomputable def m_put_cells_L2_c (columns_33 : Int) (span_39 : (Int × Int × Unit)) (taken_38 : (Dc (Int × Int × Unit) Bool)) : (Int) → Option Bool := fun at_46 =>
  ((modO at_46 columns_33).bind fun r_47 => ((if (decide (columns_33 < (r_47 + span_39.1))) = true then some true else ((divO at_46 columns_33).bind fun q_48 => (modO at_46 columns_33).bind fun r_49 => (m_is_open taken_38 q_48 r_49 span_39).bind fun r_50 => some (!r_50)))).bind fun b_51 => some b_51)
noncomputable def m_put_cells_L2 (columns_33 : Int) (span_39 : (Int × Int × Unit)) (taken_38 : (Dc (Int × Int × Unit) Bool)) : (Int) → Option (Int) := fun at_46 =>
  (some (at_46 + (1 : Int))).bind fun at_57 =>
  some at_57
noncomputable def m_put_cells_L3 : (Int × Int × Unit) → ((Dc (Int × Int × Unit) Bool)) → Option ((Dc (Int × Int × Unit) Bool)) := fun cell_64 taken_63 =>
  (putO taken_63 cell_64 true).bind fun taken_70 =>
  some taken_70
noncomputable def m_put_cells_L1 (columns_33 : Int) : (Int × Int × Unit) → ((List (Int × Int × Unit)) × (Dc (Int × Int × Unit) Bool)) → Option ((List (Int × Int × Unit)) × (Dc (Int × Int × Unit) Bool)) := fun span_39 (found_37, taken_38) =>
  (some (0 : Int)).bind fun at_45 =>
  (whileF (m_put_cells_L2_c columns_33 span_39 taken_38) (m_put_cells_L2 columns_33 span_39 taken_38) at_45).bind fun at_58 =>
  (divO at_58 columns_33).bind fun q_60 =>
  (modO at_58 columns_33).bind fun r_61 =>
  (m_cells_at q_60 r_61 span_39).bind fun r_62 =>
  (forS (m_put_cells_L3) r_62 taken_38).bind fun taken_71 =>
  (divO at_58 columns_33).bind fun q_73 =>
  (modO at_58 columns_33).bind fun r_74 =>
  (appO found_37 (q_73, r_74, ())).bind fun found_75 =>
  some (found_75, taken_71)
noncomputable def m_put_cells (columns_33 : Int) (spans_34 : (Tu (Int × Int × Unit))) : Option (List (Int × Int × Unit)) :=
  (some ([] : List (Int × Int × Unit))).bind fun found_36 =>
  (forS (m_put_cells_L1 columns_33) spans_34.l (found_36, (Dc.mk ([] : List ((Int × Int × Unit) × Bool))))).bind fun (found_76, taken_77) =>
  some found_76
noncomputable def m_last_row (spans_79 : (Tu (Int × Int × Unit))) (places_80 : (List (Int × Int × Unit))) : Option Int :=
  (lcM (fun _ => some true) (fun (span_81, place_82, _) => (some (place_82.1 + span_81.2.1))) (zipI spans_79.l places_80)).bind fun zs_83 =>
  some (L2.maxDf zs_83 (0 : Int))
noncomputable def m_rows_taken (columns_84 : Int) (spans_85 : (Tu (Int × Int × Unit))) : Option Int :=
  (m_put_cells columns_84 spans_85).bind fun r_86 =>
  (m_last_row spans_85 r_86).bind fun r_87 =>
  some r_87
noncomputable def m_is_piece_L1 : Str → (Unit) → Option (Ctl (Unit) Bool) := fun sign_96 _ =>
  (inSO sign_96 ("!\"#$&'()*+,-./0123456789:;<=>?\u0040ABCDEFGHIJKLMNOPQRSTUVWXYZ[\\]^_`abcdefghijklmnopqrstuvwxyz{}~" : Str)).bind fun is_103 =>
  (if (!is_103) = true then (some (Ctl.rt false)) else (some (Ctl.nx ())))
noncomputable def m_is_piece (thing_88 : Dy) : Option Bool :=
  ((if (!(isiD thing_88 "str")) = true then some true else (((ofD thing_88 : Option Str)).bind fun o_90 => (lenS o_90).bind fun n_91 => some (!((decide ((1 : Int) ≤ n_91)) && (decide (n_91 ≤ (12 : Int)))))))).bind fun b_92 =>
  (if b_92 = true then (some false) else (((ofD thing_88 : Option Str)).bind fun o_95 =>
  (forC (m_is_piece_L1) (sgn o_95) ()).bind fun tot_101 => match tot_101 with
  | .nx _ => (some true)
  | .bk _ => none
  | .rt r_ => some r_))
noncomputable def m_are_words_L1 : Dy → (Int) → Option (Ctl (Int) Bool) := fun word_114 many_113 =>
  ((if (!(isiD word_114 "tuple")) = true then some true else (((ofD word_114 : Option (Tu Dy))).bind fun o_121 => some (!((decide ((1 : Int) ≤ (o_121.l.length : Int))) && (decide ((o_121.l.length : Int) ≤ (6 : Int)))))))).bind fun b_122 =>
  (if b_122 = true then (some (Ctl.rt false)) else (((ofD word_114 : Option (Tu Dy))).bind fun o_126 =>
  (lcM (fun _ => some true) (fun piece_127 => ((m_is_piece piece_127).bind fun r_129 => some r_129)) o_126.l).bind fun zs_128 =>
  (if (decide (false ∈ zs_128)) = true then (some (Ctl.rt false)) else (((ofD word_114 : Option (Tu Dy))).bind fun o_132 =>
  (some (many_113 + (o_132.l.length : Int))).bind fun many_133 =>
  some (Ctl.nx many_133)))))
noncomputable def m_are_words (words_107 : Dy) : Option Bool :=
  (if (!(isiD words_107 "tuple")) = true then (some false) else ((some (0 : Int)).bind fun many_111 =>
  ((ofD words_107 : Option (Tu Dy))).bind fun o_112 =>
  (forC (m_are_words_L1) o_112.l many_111).bind fun tot_119 => match tot_119 with
  | .nx many_134 => (some (decide (many_134 ≤ (60 : Int))))
  | .bk _ => none
  | .rt r_ => some r_))
noncomputable def m_is_joint (thing_136 : Dy) : Option Bool :=
  ((if (isiD thing_136 "int") = true then (((if (!(isiD thing_136 "bool")) = true then (((ofD thing_136 : Option Int)).bind fun o_137 => some ((decide ((0 : Int) ≤ o_137)) && (decide (o_137 ≤ (999 : Int))))) else some false)).bind fun b_138 => some b_138) else some false)).bind fun b_139 =>
  some b_139
noncomputable def m_words_ok (what_140 : Dy) (parts_141 : Dy) : Option Bool :=
  ((if (!(isiD what_140 "tuple")) = true then some true else (((ofD what_140 : Option (Tu Dy))).bind fun o_143 => ((if (!decide ((o_143.l.length : Int) = (2 : Int))) = true then some true else ((eqYO parts_141 (upD (Tu.mk ([] : List Int)))).bind fun e_144 => some (!e_144)))).bind fun b_145 => some b_145))).bind fun b_146 =>
  (if b_146 = true then (some false) else (((ofD what_140 : Option (Tu Dy))).bind fun o_149 =>
  (atI o_149.l (0 : Int)).bind fun i_150 =>
  (m_are_words i_150).bind fun r_151 =>
  ((if r_151 = true then (((ofD what_140 : Option (Tu Dy))).bind fun o_152 => (atI o_152.l (1 : Int)).bind fun i_153 => (m_is_joint i_153).bind fun r_154 => some r_154) else some false)).bind fun b_155 =>
  some b_155))
noncomputable def m_flow_ok (what_156 : Dy) (parts_157 : Dy) : Option Bool :=
  ((if (!(isiD what_156 "tuple")) = true then some true else (((ofD what_156 : Option (Tu Dy))).bind fun o_159 => ((if (!decide ((o_159.l.length : Int) = (3 : Int))) = true then some true else (((ofD what_156 : Option (Tu Dy))).bind fun o_160 => (atI o_160.l (0 : Int)).bind fun i_161 => ((if (!(isiD i_161 "tuple")) = true then some true else (((ofD parts_157 : Option (Tu Dy))).bind fun o_162 => some (decide ((12 : Int) < (o_162.l.length : Int)))))).bind fun b_163 => some b_163))).bind fun b_164 => some b_164))).bind fun b_165 =>
  (if b_165 = true then (some false) else (((ofD what_156 : Option (Tu Dy))).bind fun o_169 =>
  (atI o_169.l (0 : Int)).bind fun i_170 =>
  ((ofD i_170 : Option (Tu Dy))).bind fun o_171 =>
  ((ofD parts_157 : Option (Tu Dy))).bind fun o_172 =>
  ((if (!decide ((o_171.l.length : Int) = (o_172.l.length : Int))) = true then some true else (((ofD what_156 : Option (Tu Dy))).bind fun o_173 => (atI o_173.l (0 : Int)).bind fun i_174 => ((ofD i_174 : Option (Tu Dy))).bind fun o_175 => (lcM (fun _ => some true) (fun side_176 => (some (isiD side_176 "str"))) o_175.l).bind fun zs_177 => some (decide (false ∈ zs_177))))).bind fun b_178 =>
  (if b_178 = true then (some false) else (((ofD what_156 : Option (Tu Dy))).bind fun o_182 =>
  (atI o_182.l (0 : Int)).bind fun i_183 =>
  ((ofD i_183 : Option (Tu Dy))).bind fun o_184 =>
  (lcM (fun _ => some true) (fun side_185 => (((ofD side_185 : Option Str)).bind fun o_187 => some (decide (o_187 ∈ ([("left" : Str), ("right" : Str)] : List Str))))) o_184.l).bind fun zs_186 =>
  (if (decide (false ∈ zs_186)) = true then (some false) else (((ofD what_156 : Option (Tu Dy))).bind fun o_190 =>
  (atI o_190.l (1 : Int)).bind fun i_191 =>
  (m_are_words i_191).bind fun r_192 =>
  ((if r_192 = true then (((ofD what_156 : Option (Tu Dy))).bind fun o_193 => (atI o_193.l (2 : Int)).bind fun i_194 => (m_is_joint i_194).bind fun r_195 => some r_195) else some false)).bind fun b_196 =>
  some b_196))))))
noncomputable def m_is_anchor (thing_197 : Dy) : Option Bool :=
  ((if (!(isiD thing_197 "tuple")) = true then some true else (((ofD thing_197 : Option (Tu Dy))).bind fun o_199 => ((if (!decide ((o_199.l.length : Int) = (2 : Int))) = true then some true else (((ofD thing_197 : Option (Tu Dy))).bind fun o_200 => (atI o_200.l (0 : Int)).bind fun i_201 => ((if (!(isiD i_201 "str")) = true then some true else (((ofD thing_197 : Option (Tu Dy))).bind fun o_202 => (atI o_202.l (0 : Int)).bind fun i_203 => ((ofD i_203 : Option Str)).bind fun o_204 => some (!(decide (o_204 ∈ (Fz.mk ([("start" : Str), ("mid" : Str), ("mid2" : Str), ("end" : Str)] : List Str)).l)))))).bind fun b_205 => some b_205))).bind fun b_206 => some b_206))).bind fun b_207 =>
  (if b_207 = true then (some false) else (((ofD thing_197 : Option (Tu Dy))).bind fun o_210 =>
  (atI o_210.l (1 : Int)).bind fun i_211 =>
  (some i_211).bind fun by_212 =>
  ((if (isiD by_212 "int") = true then (((if (!(isiD by_212 "bool")) = true then (((ofD by_212 : Option Int)).bind fun o_213 => some ((decide (((0 : Int) - (1000000 : Int)) ≤ o_213)) && (decide (o_213 ≤ (1000000 : Int))))) else some false)).bind fun b_214 => some b_214) else some false)).bind fun b_215 =>
  some b_215))
noncomputable def m_over_ok_L1 : Dy → (Unit) → Option (Ctl (Unit) Bool) := fun pair_227 _ =>
  ((if (!(isiD pair_227 "tuple")) = true then some true else (((ofD pair_227 : Option (Tu Dy))).bind fun o_234 => ((if (!decide ((o_234.l.length : Int) = (2 : Int))) = true then some true else (((ofD pair_227 : Option (Tu Dy))).bind fun o_235 => (atI o_235.l (0 : Int)).bind fun i_236 => (m_is_anchor i_236).bind fun r_237 => ((if (!r_237) = true then some true else (((ofD pair_227 : Option (Tu Dy))).bind fun o_238 => (atI o_238.l (1 : Int)).bind fun i_239 => (m_is_anchor i_239).bind fun r_240 => some (!r_240)))).bind fun b_241 => some b_241))).bind fun b_242 => some b_242))).bind fun b_243 =>
  (if b_243 = true then (some (Ctl.rt false)) else (some (Ctl.nx ())))
noncomputable def m_over_ok (what_216 : Dy) (parts_217 : Dy) : Option Bool :=
  ((if (!(isiD what_216 "tuple")) = true then some true else (((ofD parts_217 : Option (Tu Dy))).bind fun o_219 => ((if (!((decide ((1 : Int) ≤ (o_219.l.length : Int))) && (decide ((o_219.l.length : Int) ≤ (12 : Int))))) = true then some true else (((ofD what_216 : Option (Tu Dy))).bind fun o_220 => ((ofD parts_217 : Option (Tu Dy))).bind fun o_221 => some (!decide ((o_220.l.length : Int) = ((o_221.l.length : Int) - (1 : Int))))))).bind fun b_222 => some b_222))).bind fun b_223 =>
  (if b_223 = true then (some false) else (((ofD what_216 : Option (Tu Dy))).bind fun o_226 =>
  (forC (m_over_ok_L1) o_226.l ()).bind fun tot_232 => match tot_232 with
  | .nx _ => (some true)
  | .bk _ => none
  | .rt r_ => some r_))
noncomputable def m_is_whole (thing_247 : Dy) (least_248 : Int) (greatest_249 : Int) : Option Bool :=
  ((if (isiD thing_247 "int") = true then (((if (!(isiD thing_247 "bool")) = true then (((ofD thing_247 : Option Int)).bind fun o_250 => some ((decide (least_248 ≤ o_250)) && (decide (o_250 ≤ greatest_249)))) else some false)).bind fun b_251 => some b_251) else some false)).bind fun b_252 =>
  some b_252
noncomputable def m_is_name (thing_253 : Dy) : Option Bool :=
  ((if (!(isiD thing_253 "str")) = true then some true else (((ofD thing_253 : Option Str)).bind fun o_255 => (lenS o_255).bind fun n_256 => some (!((decide ((1 : Int) ≤ n_256)) && (decide (n_256 ≤ (8 : Int)))))))).bind fun b_257 =>
  (if b_257 = true then (some false) else (((ofD thing_253 : Option Str)).bind fun o_260 =>
  (lcM (fun _ => some true) (fun sign_261 => ((inSO sign_261 ("abcdefghijklmnopqrstuvwxyz" : Str)).bind fun is_263 => some is_263)) (sgn o_260)).bind fun zs_262 =>
  some (zs_262.all id)))
noncomputable def m_is_pair (thing_264 : Dy) (least_265 : Int) (greatest_266 : Int) : Option Bool :=
  ((if (!(isiD thing_264 "tuple")) = true then some true else (((ofD thing_264 : Option (Tu Dy))).bind fun o_268 => some (!decide ((o_268.l.length : Int) = (2 : Int)))))).bind fun b_269 =>
  (if b_269 = true then (some false) else (((ofD thing_264 : Option (Tu Dy))).bind fun o_272 =>
  (atI o_272.l (0 : Int)).bind fun i_273 =>
  (m_is_whole i_273 least_265 greatest_266).bind fun r_274 =>
  ((if r_274 = true then (((ofD thing_264 : Option (Tu Dy))).bind fun o_275 => (atI o_275.l (1 : Int)).bind fun i_276 => (m_is_whole i_276 least_265 greatest_266).bind fun r_277 => some r_277) else some false)).bind fun b_278 =>
  some b_278))
noncomputable def m_is_span (thing_279 : Dy) : Option Bool :=
  (m_is_pair thing_279 (0 : Int) (1000000 : Int)).bind fun r_280 =>
  ((if r_280 = true then (((ofD thing_279 : Option (Tu Dy))).bind fun o_281 => (atI o_281.l (0 : Int)).bind fun i_282 => ((ofD thing_279 : Option (Tu Dy))).bind fun o_283 => (atI o_283.l (1 : Int)).bind fun i_284 => ((ofD i_282 : Option Int)).bind fun o_285 => ((ofD i_284 : Option Int)).bind fun o_286 => some (decide (o_285 ≤ o_286))) else some false)).bind fun b_287 =>
  some b_287
noncomputable def m_is_own (thing_288 : Dy) : Option Bool :=
  ((if (!(isiD thing_288 "tuple")) = true then some true else (((ofD thing_288 : Option (Tu Dy))).bind fun o_290 => ((if (!decide ((o_290.l.length : Int) = (6 : Int))) = true then some true else (((ofD thing_288 : Option (Tu Dy))).bind fun o_291 => (atI o_291.l (0 : Int)).bind fun i_292 => (m_is_span i_292).bind fun r_293 => ((if (!r_293) = true then some true else (((ofD thing_288 : Option (Tu Dy))).bind fun o_294 => (atI o_294.l (1 : Int)).bind fun i_295 => (m_is_span i_295).bind fun r_296 => some (!r_296)))).bind fun b_297 => some b_297))).bind fun b_298 => some b_298))).bind fun b_299 =>
  (if b_299 = true then (some false) else (((ofD thing_288 : Option (Tu Dy))).bind fun o_303 =>
  (atI o_303.l (2 : Int)).bind fun i_304 =>
  (m_is_whole i_304 (0 : Int) (99 : Int)).bind fun r_305 =>
  ((if (!r_305) = true then some true else (((ofD thing_288 : Option (Tu Dy))).bind fun o_306 => (atI o_306.l (3 : Int)).bind fun i_307 => (m_is_whole i_307 (0 : Int) (99 : Int)).bind fun r_308 => some (!r_308)))).bind fun b_309 =>
  (if b_309 = true then (some false) else (((ofD thing_288 : Option (Tu Dy))).bind fun o_312 =>
  (atI o_312.l (4 : Int)).bind fun i_313 =>
  (m_is_whole i_313 (0 : Int) (9 : Int)).bind fun r_314 =>
  ((if r_314 = true then (((ofD thing_288 : Option (Tu Dy))).bind fun o_315 => (atI o_315.l (5 : Int)).bind fun i_316 => (m_is_whole i_316 (0 : Int) (9 : Int)).bind fun r_317 => some r_317) else some false)).bind fun b_318 =>
  some b_318))))
noncomputable def m_is_word (thing_319 : Dy) (words_320 : (Kt Str)) : Option Bool :=
  ((if (isiD thing_319 "str") = true then (((ofD thing_319 : Option Str)).bind fun o_321 => some (decide (o_321 ∈ words_320.l))) else some false)).bind fun b_322 =>
  some b_322
noncomputable def m_line_ok (what_323 : Dy) (parts_324 : Dy) : Option Bool :=
  ((if (!(isiD what_323 "tuple")) = true then some true else (((ofD what_323 : Option (Tu Dy))).bind fun o_326 => ((if (!decide ((o_326.l.length : Int) = (3 : Int))) = true then some true else (((ofD parts_324 : Option (Tu Dy))).bind fun o_327 => some (decide ((20 : Int) < (o_327.l.length : Int)))))).bind fun b_328 => some b_328))).bind fun b_329 =>
  (if b_329 = true then (some false) else (((ofD what_323 : Option (Tu Dy))).bind fun o_332 =>
  (atI o_332.l (0 : Int)).bind fun i_333 =>
  (m_is_whole i_333 (0 : Int) (1000 : Int)).bind fun r_334 =>
  ((if r_334 = true then (((ofD what_323 : Option (Tu Dy))).bind fun o_335 => (atI o_335.l (1 : Int)).bind fun i_336 => (m_is_word i_336 (Kt.mk ([("start" : Str), ("end" : Str), ("mid" : Str), ("mid2" : Str)] : List Str))).bind fun r_337 => ((if r_337 = true then (((ofD what_323 : Option (Tu Dy))).bind fun o_338 => (atI o_338.l (2 : Int)).bind fun i_339 => (m_is_word i_339 (Kt.mk ([("left" : Str), ("right" : Str)] : List Str))).bind fun r_340 => some r_340) else some false)).bind fun b_341 => some b_341) else some false)).bind fun b_342 =>
  some b_342))
noncomputable def m_table_ok_L1 (what_343 : Dy) : Dy → (Unit) → Option (Ctl (Unit) Bool) := fun span_379 _ =>
  (m_is_pair span_379 (1 : Int) (12 : Int)).bind fun r_386 =>
  ((if (!r_386) = true then some true else (((ofD span_379 : Option (Tu Dy))).bind fun o_387 => (atI o_387.l (0 : Int)).bind fun i_388 => ((ofD what_343 : Option (Tu Dy))).bind fun o_389 => (atI o_389.l (0 : Int)).bind fun i_390 => ((ofD i_388 : Option Int)).bind fun o_391 => ((ofD i_390 : Option Int)).bind fun o_392 => some (decide (o_392 < o_391))))).bind fun b_393 =>
  (if b_393 = true then (some (Ctl.rt false)) else (some (Ctl.nx ())))
noncomputable def m_table_ok (what_343 : Dy) (parts_344 : Dy) : Option Bool :=
  ((if (!(isiD what_343 "tuple")) = true then some true else (((ofD what_343 : Option (Tu Dy))).bind fun o_346 => ((if (!decide ((o_346.l.length : Int) = (4 : Int))) = true then some true else (((ofD parts_344 : Option (Tu Dy))).bind fun o_347 => some (decide ((40 : Int) < (o_347.l.length : Int)))))).bind fun b_348 => some b_348))).bind fun b_349 =>
  (if b_349 = true then (some false) else (((ofD what_343 : Option (Tu Dy))).bind fun o_353 =>
  (atI o_353.l (0 : Int)).bind fun i_354 =>
  (m_is_whole i_354 (1 : Int) (12 : Int)).bind fun r_355 =>
  ((if (!r_355) = true then some true else (((ofD what_343 : Option (Tu Dy))).bind fun o_356 => (atI o_356.l (1 : Int)).bind fun i_357 => (m_is_whole i_357 (0 : Int) (1000 : Int)).bind fun r_358 => ((if (!r_358) = true then some true else (((ofD what_343 : Option (Tu Dy))).bind fun o_359 => (atI o_359.l (2 : Int)).bind fun i_360 => (m_is_word i_360 (Kt.mk ([("left" : Str), ("right" : Str)] : List Str))).bind fun r_361 => some (!r_361)))).bind fun b_362 => some b_362))).bind fun b_363 =>
  (if b_363 = true then (some false) else (((ofD what_343 : Option (Tu Dy))).bind fun o_367 =>
  (atI o_367.l (3 : Int)).bind fun i_368 =>
  ((if (!(isiD i_368 "tuple")) = true then some true else (((ofD what_343 : Option (Tu Dy))).bind fun o_369 => (atI o_369.l (3 : Int)).bind fun i_370 => ((ofD i_370 : Option (Tu Dy))).bind fun o_371 => ((ofD parts_344 : Option (Tu Dy))).bind fun o_372 => some (!decide ((o_371.l.length : Int) = (o_372.l.length : Int)))))).bind fun b_373 =>
  (if b_373 = true then (some false) else (((ofD what_343 : Option (Tu Dy))).bind fun o_376 =>
  (atI o_376.l (3 : Int)).bind fun i_377 =>
  ((ofD i_377 : Option (Tu Dy))).bind fun o_378 =>
  (forC (m_table_ok_L1 what_343) o_378.l ()).bind fun tot_384 => match tot_384 with
  | .nx _ => (((ofD what_343 : Option (Tu Dy))).bind fun o_397 =>
  (atI o_397.l (0 : Int)).bind fun i_398 =>
  ((ofD what_343 : Option (Tu Dy))).bind fun o_399 =>
  (atI o_399.l (3 : Int)).bind fun i_400 =>
  ((ofD i_398 : Option Int)).bind fun o_401 =>
  ((ofD i_400 : Option (Tu (Int × Int × Unit)))).bind fun o_402 =>
  (m_rows_taken o_401 o_402).bind fun r_403 =>
  some (decide (r_403 ≤ (60 : Int))))
  | .bk _ => none
  | .rt r_ => some r_))))))
noncomputable def m_kind_ok (kind_404 : Dy) (what_405 : Dy) (parts_406 : Dy) : Option Bool :=
  (if ((!(isiD kind_404 "str")) || (!(isiD parts_406 "tuple"))) = true then (some false) else (((ofD kind_404 : Option Str)).bind fun o_411 =>
  (if (decide (o_411 = ("leaf" : Str))) = true then ((eqYO parts_406 (upD (Tu.mk ([] : List Int)))).bind fun e_414 =>
  ((if e_414 = true then ((m_is_pair what_405 (0 : Int) (1000000 : Int)).bind fun r_415 => some r_415) else some false)).bind fun b_416 =>
  some b_416) else (((ofD kind_404 : Option Str)).bind fun o_418 =>
  (if (decide (o_418 ∈ ([("row" : Str), ("column" : Str), ("wrap" : Str)] : List Str))) = true then ((m_line_ok what_405 parts_406).bind fun r_421 =>
  some r_421) else (((ofD kind_404 : Option Str)).bind fun o_423 =>
  (if (decide (o_423 = ("table" : Str))) = true then ((m_table_ok what_405 parts_406).bind fun r_426 =>
  some r_426) else (((ofD kind_404 : Option Str)).bind fun o_428 =>
  (if (decide (o_428 = ("words" : Str))) = true then ((m_words_ok what_405 parts_406).bind fun r_431 =>
  some r_431) else (((ofD kind_404 : Option Str)).bind fun o_433 =>
  (if (decide (o_433 = ("flow" : Str))) = true then ((m_flow_ok what_405 parts_406).bind fun r_436 =>
  some r_436) else (((ofD kind_404 : Option Str)).bind fun o_437 =>
  ((if (decide (o_437 = ("over" : Str))) = true then ((m_over_ok what_405 parts_406).bind fun r_438 => some r_438) else some false)).bind fun b_439 =>
  some b_439))))))))))))
noncomputable def m_name_of (thing_440 : Dy) : Option (Option Str) :=
  ((if (isiD thing_440 "tuple") = true then (((ofD thing_440 : Option (Tu Dy))).bind fun o_442 => ((if (decide ((o_442.l.length : Int) = (5 : Int))) = true then (((ofD thing_440 : Option (Tu Dy))).bind fun o_443 => (atI o_443.l (1 : Int)).bind fun i_444 => (m_is_name i_444).bind fun r_445 => some r_445) else some false)).bind fun b_446 => some b_446) else some false)).bind fun b_447 =>
  (if b_447 = true then (((ofD thing_440 : Option (Tu Dy))).bind fun o_450 =>
  (atI o_450.l (1 : Int)).bind fun i_451 =>
  ((ofD i_451 : Option (Option Str))).bind fun o_452 =>
  some o_452) else (some none))
noncomputable def m_box_ok (thing_453 : Dy) (deep_454 : Int) (tabled_455 : Bool) (seen_456 : (List Str)) : Option Bool :=
  (m_name_of thing_453).bind fun r_457 =>
  (some r_457).bind fun name_458 =>
  ((if (name_458.isNone) = true then some true else ((name_458).bind fun s_460 => some ((decide (s_460 ∈ seen_456)) || ((decide ((seen_456.length : Int) = (60 : Int))) || (decide ((8 : Int) < deep_454))))))).bind fun b_461 =>
  (if b_461 = true then (some false) else (((ofD thing_453 : Option (Dy × Dy × Dy × Dy × Dy × Unit))).bind fun o_464 =>
  (some o_464).bind fun (kind_465, other_466, own_467, what_468, parts_469, _) =>
  (m_is_own own_467).bind fun r_471 =>
  ((if (!r_471) = true then some true else ((m_kind_ok kind_465 what_468 parts_469).bind fun r_472 => some (!r_472)))).bind fun b_473 =>
  (if b_473 = true then (some false) else (((ofD own_467 : Option (Tu Dy))).bind fun o_476 =>
  (atI o_476.l (5 : Int)).bind fun i_477 =>
  ((ofD i_477 : Option Int)).bind fun o_478 =>
  ((if (decide (o_478 = (0 : Int))) = true then some true else (((if (!tabled_455) = true then (((ofD kind_465 : Option Str)).bind fun o_479 => ((if (decide (o_479 = ("leaf" : Str))) = true then some true else (((ofD kind_465 : Option Str)).bind fun o_480 => some (decide (o_480 ∈ ([("row" : Str), ("column" : Str), ("wrap" : Str)] : List Str)))))).bind fun b_481 => some b_481) else some false)).bind fun b_482 => some b_482))).bind fun b_483 =>
  some b_483))))
noncomputable def m_check_box_L1 (rec_check_box : (Dy → Int → Bool → (List Str) → Option (Er (Nn × (List Str))))) (thing_484 : Dy) (deep_485 : Int) (tabled_486 : Bool) : Dy → ((List Str)) → Option (Ctl ((List Str)) (Er (Nn × (List Str)))) := fun part_501 seen_500 =>
  ((if tabled_486 = true then some true else (((ofD thing_484 : Option (Tu Dy))).bind fun o_507 => (atI o_507.l (0 : Int)).bind fun i_508 => ((ofD i_508 : Option Str)).bind fun o_509 => some (decide (o_509 = ("table" : Str)))))).bind fun b_510 =>
  (rec_check_box part_501 (deep_485 + (1 : Int)) b_510 seen_500).bind fun r_511_0 => match r_511_0 with
  | .ex ex_513 => some (Ctl.rt (Er.ex ex_513))
  | .ok (r_511, seen_512) =>
  some (Ctl.nx seen_512)
noncomputable def m_check_box_step (rec_check_box : (Dy → Int → Bool → (List Str) → Option (Er (Nn × (List Str))))) (thing_484 : Dy) (deep_485 : Int) (tabled_486 : Bool) (seen_487 : (List Str)) : Option (Er (Nn × (List Str))) :=
  (m_box_ok thing_484 deep_485 tabled_486 seen_487).bind fun r_489 =>
  (if (!r_489) = true then ((m_name_of thing_484).bind fun r_492 =>
  some (Er.ex ⟨"BadBox", ((["name"] : List Str).zip (Us.toDs (r_492, ()))).reverse⟩)) else (((ofD thing_484 : Option (Tu Dy))).bind fun o_493 =>
  (atI o_493.l (1 : Int)).bind fun i_494 =>
  ((ofD i_494 : Option Str)).bind fun o_495 =>
  (appO seen_487 o_495).bind fun seen_496 =>
  ((ofD thing_484 : Option (Tu Dy))).bind fun o_497 =>
  (atI o_497.l (4 : Int)).bind fun i_498 =>
  ((ofD i_498 : Option (Tu Dy))).bind fun o_499 =>
  (forC (m_check_box_L1 rec_check_box thing_484 deep_485 tabled_486) o_499.l seen_496).bind fun tot_506 => match tot_506 with
  | .nx seen_514 => (some (Er.ok (Nn.nn, seen_514)))
  | .bk _ => none
  | .rt r_ => some r_))
noncomputable def m_check_box : Nat → Dy → Int → Bool → (List Str) → Option (Er (Nn × (List Str)))
  | 0 => fun _ _ _ _ => none
  | n_ + 1 => m_check_box_step (m_check_box n_)
noncomputable def m_check_tree (thing_516 : Dy) : Option (Er Nn) :=
  (m_check_box 10 thing_516 (1 : Int) false ([] : List Str)).bind fun r_517_0 => match r_517_0 with
  | .ex ex_519 => some (Er.ex ex_519)
  | .ok (r_517, tmp_518) =>
  some (Er.ok Nn.nn)
noncomputable def m__law_at (script_520 : (Fz Int)) (k_521 : Int) : Option Int :=
  (if (decide (k_521 < (script_520.l.length : Int))) = true then ((atI script_520.l k_521).bind fun i_525 =>
  some i_525) else (some (0 : Int)))
noncomputable def m__law_mixed (cell_526 : Int) : Option Int :=
  (some ((cell_526 * (48271 : Int)) % (2147483647 : Int))).bind fun n_527 =>
  (some (((n_527 / (65536 : Int)) + (n_527 * (16807 : Int))) % (2147483629 : Int))).bind fun n_528 =>
  (mulO n_528 ((n_528 % (32768 : Int)) + (40961 : Int))).bind fun m_529 =>
  some (m_529 % (1000000000039 : Int))
noncomputable def m__law_draws_L1_c (many_532 : Int) (base_533 : Int) : (Int × (List Int)) → Option Bool := fun (cell_537, found_538) =>
  (some ((decide ((1000000000000000000 : Int) ≤ cell_537)) && (decide ((found_538.length : Int) < many_532))))
noncomputable def m__law_draws_L1 (many_532 : Int) (base_533 : Int) : (Int × (List Int)) → Option (Int × (List Int)) := fun (cell_537, found_538) =>
  (modO cell_537 base_533).bind fun r_544 =>
  (appO found_538 r_544).bind fun found_545 =>
  (divO cell_537 base_533).bind fun q_546 =>
  (some q_546).bind fun cell_547 =>
  some (cell_547, found_545)
noncomputable def m__law_draws_L2 (script_530 : (Fz Int)) (first_531 : Int) (base_533 : Int) : Int → ((List Int)) → Option ((List Int)) := fun k_553 found_552 =>
  (m__law_at script_530 ((first_531 + (1 : Int)) + k_553)).bind fun r_559 =>
  (mulO ((97 : Int) * k_553) k_553).bind fun m_560 =>
  (m__law_mixed (r_559 + m_560)).bind fun r_561 =>
  (some r_561).bind fun n_562 =>
  (m__law_mixed ((n_562 + ((7 : Int) * k_553)) + (1 : Int))).bind fun r_563 =>
  (modO ((n_562 * (1000000000039 : Int)) + r_563) base_533).bind fun r_564 =>
  (appO found_552 r_564).bind fun found_565 =>
  some found_565
noncomputable def m__law_draws (script_530 : (Fz Int)) (first_531 : Int) (many_532 : Int) (base_533 : Int) : Option (List Int) :=
  (some ([] : List Int)).bind fun found_534 =>
  (m__law_at script_530 first_531).bind fun r_535 =>
  (some r_535).bind fun cell_536 =>
  (whileF (m__law_draws_L1_c many_532 base_533) (m__law_draws_L1 many_532 base_533) (cell_536, found_534)).bind fun (cell_548, found_549) =>
  (rngO 0 (many_532 - (found_549.length : Int))).bind fun rg_551 =>
  (forS (m__law_draws_L2 script_530 first_531 base_533) rg_551 found_549).bind fun found_566 =>
  some found_566
noncomputable def m__law_label_L1 (letters_570 : Str) : Int → (Int × Str) → Option (Int × Str) := fun step_here_576 (n_574, word_575) =>
  (some (n_574 / (7 : Int))).bind fun n_582 =>
  (ixS letters_570 (n_582 % (26 : Int))).bind fun i_583 =>
  (addS word_575 i_583).bind fun t_584 =>
  (some t_584).bind fun word_585 =>
  some (n_582, word_585)
noncomputable def m__law_label (k_568 : Int) (cell_569 : Int) : Option Str :=
  (some ("abcdefghijklmnopqrstuvwxyz" : Str)).bind fun letters_570 =>
  (some ((cell_569 * (1099087573 : Int)) % (10000000000037 : Int))).bind fun n_571 =>
  (some ("" : Str)).bind fun word_572 =>
  (rngO 0 (n_571 % (6 : Int))).bind fun rg_573 =>
  (forS (m__law_label_L1 letters_570) rg_573 (n_571, word_572)).bind fun (n_586, word_587) =>
  (lenS word_587).bind fun n_589 =>
  (modO cell_569 (n_589 + (1 : Int))).bind fun r_590 =>
  (some r_590).bind fun at_here_591 =>
  (ixS letters_570 ((k_568 + cell_569) % (26 : Int))).bind fun i_592 =>
  (ixS letters_570 (k_568 / (26 : Int))).bind fun i_593 =>
  (addS i_592 i_593).bind fun t_594 =>
  (some t_594).bind fun mark_595 =>
  (cutSO word_587 none (some at_here_591)).bind fun cs_596 =>
  (addS cs_596 mark_595).bind fun t_597 =>
  (cutSO word_587 (some at_here_591) none).bind fun cs_598 =>
  (addS t_597 cs_598).bind fun t_599 =>
  some t_599
noncomputable def m__law_span (n_600 : Int) : Option (Int × Int × Unit) :=
  (atI ([(0 : Int), (n_600 % (4 : Int)), (n_600 % (30 : Int))] : List Int) ((n_600 / (30 : Int)) % (3 : Int))).bind fun i_601 =>
  (some i_601).bind fun least_602 =>
  (atI ([(1000000 : Int), (least_602 + ((n_600 / (90 : Int)) % (50 : Int)))] : List Int) ((n_600 / (4500 : Int)) % (2 : Int))).bind fun i_603 =>
  some (least_602, i_603, ())
noncomputable def m__law_own (n_604 : Int) (alike_605 : Bool) : Option ((Int × Int × Unit) × (Int × Int × Unit) × Int × Int × Int × Int × Unit) :=
  (m__law_span (n_604 % (9000 : Int))).bind fun r_606 =>
  (some r_606).bind fun wide_607 =>
  (m__law_span ((n_604 / (9000 : Int)) % (9000 : Int))).bind fun r_608 =>
  (some r_608).bind fun high_609 =>
  (some (n_604 / (81000000 : Int))).bind fun n_610 =>
  (atI ([(0 : Int), (0 : Int), (1 : Int), (2 : Int)] : List Int) ((n_610 / (160 : Int)) % (4 : Int))).bind fun i_611 =>
  (mulO i_611 (if alike_605 = true then (1 : Int) else 0)).bind fun m_612 =>
  (some m_612).bind fun group_613 =>
  some (wide_607, high_609, (n_610 % (4 : Int)), ((n_610 / (4 : Int)) % (4 : Int)), ((n_610 / (16 : Int)) % (10 : Int)), group_613, ())
noncomputable def m__law_leaf (name_614 : Str) (n_615 : Int) : Option Dy :=
  (m__law_own (n_615 / (100 : Int)) (decide ((n_615 % (3 : Int)) = (0 : Int)))).bind fun r_616 =>
  (some r_616).bind fun own_here_617 =>
  (some ((n_615 / (100 : Int)) / (51840000000 : Int))).bind fun rest_618 =>
  some (upD (("leaf" : Str), name_614, own_here_617, ((rest_618 % (40 : Int)), ((rest_618 / (40 : Int)) % (12 : Int)), ()), (Tu.mk ([] : List Int)), ()))
noncomputable def m__law_within_L1 (rest_626 : Int) (columns_636 : Int) : Int → ((List (Int × Int × Unit))) → Option ((List (Int × Int × Unit))) := fun k_640 spans_639 =>
  (mulO k_640 k_640).bind fun m_646 =>
  (some ((rest_626 / (3840 : Int)) + m_646)).bind fun far_647 =>
  (modO far_647 columns_636).bind fun r_648 =>
  (appO spans_639 (((1 : Int) + r_648), ((1 : Int) + ((far_647 / (4 : Int)) % (2 : Int))), ())).bind fun spans_649 =>
  some spans_649
noncomputable def m__law_within (kind_619 : Str) (name_620 : Str) (n_621 : Int) (some_622 : (List Dy)) (alike_623 : Bool) : Option Dy :=
  (m__law_own (n_621 / (100 : Int)) alike_623).bind fun r_624 =>
  (some r_624).bind fun own_here_625 =>
  (some ((n_621 / (100 : Int)) / (51840000000 : Int))).bind fun rest_626 =>
  (atI ([(0 : Int), (1 : Int), ((rest_626 / (8 : Int)) % (4 : Int)), ((rest_626 / (8 : Int)) % (30 : Int))] : List Int) ((rest_626 / (960 : Int)) % (4 : Int))).bind fun i_627 =>
  (some i_627).bind fun gap_628 =>
  (atI ([("left" : Str), ("right" : Str)] : List Str) (rest_626 % (2 : Int))).bind fun i_629 =>
  (some i_629).bind fun side_630 =>
  (if (!decide (kind_619 = ("table" : Str))) = true then ((atI ([("start" : Str), ("end" : Str), ("mid" : Str), ("mid2" : Str)] : List Str) ((rest_626 / (2 : Int)) % (4 : Int))).bind fun i_634 =>
  (some i_634).bind fun align_635 =>
  some (upD (kind_619, name_620, own_here_625, (gap_628, align_635, side_630, ()), (Tu.mk some_622), ()))) else ((some ((1 : Int) + ((rest_626 / (2 : Int)) % (4 : Int)))).bind fun columns_636 =>
  (some ([] : List (Int × Int × Unit))).bind fun spans_637 =>
  (rngO 0 (some_622.length : Int)).bind fun rg_638 =>
  (forS (m__law_within_L1 rest_626 columns_636) rg_638 spans_637).bind fun spans_650 =>
  some (upD (kind_619, name_620, own_here_625, (columns_636, gap_628, side_630, (Tu.mk spans_650), ()), (Tu.mk some_622), ()))))
noncomputable def m__law_step (stack_652 : (List (Dy × Int × Bool × Unit))) (n_653 : Int) (name_654 : Str) : Option (List (Dy × Int × Bool × Unit)) :=
  (some (n_653 % (16 : Int))).bind fun way_655 =>
  (some (((1 : Int) + (n_653 / (16 : Int))) % (5 : Int))).bind fun many_656 =>
  (if ((decide (way_655 < (7 : Int))) || (decide ((stack_652.length : Int) < many_656))) = true then ((m__law_leaf name_654 n_653).bind fun r_660 =>
  (some r_660).bind fun leaf_here_661 =>
  ((ofD leaf_here_661 : Option (Tu Dy))).bind fun o_662 =>
  (atI o_662.l (2 : Int)).bind fun i_663 =>
  ((ofD i_663 : Option (Tu Dy))).bind fun o_664 =>
  (atI o_664.l (5 : Int)).bind fun i_665 =>
  ((ofD i_665 : Option Int)).bind fun o_666 =>
  (catO stack_652 ([(leaf_here_661, (1 : Int), (decide ((0 : Int) < o_666)), ())] : List (Dy × Int × Bool × Unit))).bind fun cat_667 =>
  some cat_667) else ((some (cut stack_652 (some ((stack_652.length : Int) - many_656)) none)).bind fun some_668 =>
  (lcM (fun _ => some true) (fun one_669 => (some one_669.2.1)) some_668).bind fun zs_670 =>
  (some (L2.maxDf zs_670 (0 : Int))).bind fun deep_671 =>
  (lcM (fun _ => some true) (fun one_672 => (some one_672.2.2.1)) some_668).bind fun zs_673 =>
  (some (zs_673.any id)).bind fun grouped_674 =>
  (atI ([("row" : Str), ("column" : Str), ("wrap" : Str), ("table" : Str), ("row" : Str), ("column" : Str)] : List Str) ((way_655 - (7 : Int)) % (6 : Int))).bind fun i_675 =>
  (some i_675).bind fun kind_676 =>
  (if (decide ((4 : Int) < deep_671)) = true then ((m__law_leaf name_654 n_653).bind fun r_680 =>
  (some r_680).bind fun leaf_here_681 =>
  ((ofD leaf_here_681 : Option (Tu Dy))).bind fun o_682 =>
  (atI o_682.l (2 : Int)).bind fun i_683 =>
  ((ofD i_683 : Option (Tu Dy))).bind fun o_684 =>
  (atI o_684.l (5 : Int)).bind fun i_685 =>
  ((ofD i_685 : Option Int)).bind fun o_686 =>
  (catO stack_652 ([(leaf_here_681, (1 : Int), (decide ((0 : Int) < o_686)), ())] : List (Dy × Int × Bool × Unit))).bind fun cat_687 =>
  some cat_687) else (((if ((decide (kind_676 = ("table" : Str))) && grouped_674) = true then ((some ("row" : Str)).bind fun kind_690 =>
  some kind_690) else (some kind_676))).bind fun kind_691 =>
  (lcM (fun _ => some true) (fun one_693 => (some one_693.1)) some_668).bind fun zs_694 =>
  (m__law_within kind_691 name_654 n_653 zs_694 ((!decide (kind_691 = ("table" : Str))) && (decide (((n_653 / (64 : Int)) % (3 : Int)) = (0 : Int))))).bind fun r_695 =>
  (some r_695).bind fun box_696 =>
  ((if grouped_674 = true then some true else (((ofD box_696 : Option (Tu Dy))).bind fun o_697 => (atI o_697.l (2 : Int)).bind fun i_698 => ((ofD i_698 : Option (Tu Dy))).bind fun o_699 => (atI o_699.l (5 : Int)).bind fun i_700 => ((ofD i_700 : Option Int)).bind fun o_701 => some (decide ((0 : Int) < o_701))))).bind fun b_702 =>
  (catO (cut stack_652 none (some ((stack_652.length : Int) - many_656))) ([(box_696, (deep_671 + (1 : Int)), b_702, ())] : List (Dy × Int × Bool × Unit))).bind fun cat_703 =>
  some cat_703))))
noncomputable def m__law_tree_L1 (cell_709 : Int) : (Int × Int × Unit) → ((List (Dy × Int × Bool × Unit))) → Option ((List (Dy × Int × Bool × Unit))) := fun (k_713, n_714, _) stack_712 =>
  (m__law_label k_713 cell_709).bind fun r_720 =>
  (m__law_step stack_712 n_714 r_720).bind fun r_721 =>
  (some r_721).bind fun stack_722 =>
  some stack_722
noncomputable def m__law_tree (script_704 : (Fz Int)) (first_705 : Int) (many_706 : Int) : Option Dy :=
  (some ([] : List (Dy × Int × Bool × Unit))).bind fun stack_707 =>
  (m__law_at script_704 (first_705 + many_706)).bind fun r_708 =>
  (some r_708).bind fun cell_709 =>
  (rngO 0 many_706).bind fun rg_710 =>
  (m__law_draws script_704 first_705 many_706 (1000000000000000000 : Int)).bind fun r_711 =>
  (forS (m__law_tree_L1 cell_709) (zipI rg_710 r_711) stack_707).bind fun stack_723 =>
  (if (decide ((stack_723.length : Int) = (1 : Int))) = true then ((atI stack_723 (0 : Int)).bind fun i_728 =>
  some i_728.1) else ((m__law_mixed cell_709).bind fun r_729 =>
  (m__law_mixed (cell_709 + (1 : Int))).bind fun r_730 =>
  (some ((r_729 * (1000000000039 : Int)) + r_730)).bind fun n_731 =>
  (atI ([("row" : Str), ("column" : Str), ("wrap" : Str)] : List Str) (n_731 % (3 : Int))).bind fun i_732 =>
  (some i_732).bind fun kind_733 =>
  (m__law_label many_706 cell_709).bind fun r_734 =>
  (lcM (fun _ => some true) (fun one_735 => (some one_735.1)) stack_723).bind fun zs_736 =>
  (m__law_within kind_733 r_734 n_731 zs_736 false).bind fun r_737 =>
  some r_737))
noncomputable def m__law_boxes_L1_c : ((List Dy) × (List Dy)) → Option Bool := fun (todo_742, found_743) =>
  ((eqYO (upD todo_742) (upD ([] : List Dy))).bind fun e_744 => some (!e_744))
noncomputable def m__law_boxes_L1 : ((List Dy) × (List Dy)) → Option ((List Dy) × (List Dy)) := fun (todo_742, found_743) =>
  (popO0 todo_742).bind fun (pp_750, todo_751) =>
  (some pp_750).bind fun box_752 =>
  (appO found_743 box_752).bind fun found_753 =>
  ((ofD box_752 : Option (Tu Dy))).bind fun o_754 =>
  (atI o_754.l (4 : Int)).bind fun i_755 =>
  ((ofD i_755 : Option (Tu Dy))).bind fun o_756 =>
  (catO o_756.l todo_751).bind fun cat_757 =>
  (some cat_757).bind fun todo_758 =>
  some (todo_758, found_753)
noncomputable def m__law_boxes (tree_here_738 : Dy) : Option (List Dy) :=
  (some ([] : List Dy)).bind fun found_739 =>
  (some ([tree_here_738] : List Dy)).bind fun todo_740 =>
  (whileF (m__law_boxes_L1_c) (m__law_boxes_L1) (todo_740, found_739)).bind fun (todo_759, found_760) =>
  some found_760
noncomputable def m__law_named_step (rec__law_named : (Dy → Dy → Dy → Option Dy)) (tree_here_762 : Dy) (name_763 : Dy) (other_764 : Dy) : Option Dy :=
  ((ofD tree_here_762 : Option (Tu Dy))).bind fun o_766 =>
  (atI o_766.l (1 : Int)).bind fun i_767 =>
  (eqYO i_767 name_763).bind fun e_768 =>
  (if e_768 = true then (some other_764) else (((ofD tree_here_762 : Option (Tu Dy))).bind fun o_771 =>
  (cutTO o_771 none (some (4 : Int))).bind fun ct_772 =>
  ((ofD tree_here_762 : Option (Tu Dy))).bind fun o_773 =>
  (atI o_773.l (4 : Int)).bind fun i_774 =>
  ((ofD i_774 : Option (Tu Dy))).bind fun o_775 =>
  (lcM (fun _ => some true) (fun part_776 => ((rec__law_named part_776 name_763 other_764).bind fun r_778 => some r_778)) o_775.l).bind fun zs_777 =>
  ((ofD (upD ((Tu.mk zs_777), ())) : Option (Tu Dy))).bind fun o_779 =>
  (catTO ct_772 o_779).bind fun tt_780 =>
  some (upD tt_780)))
noncomputable def m__law_named : Nat → Dy → Dy → Dy → Option Dy
  | 0 => fun _ _ _ => none
  | n_ + 1 => m__law_named_step (m__law_named n_)
noncomputable def m__law_bent_own (own_here_781 : Dy) (cell_782 : Int) : Option Dy :=
  (some (cell_782 % (6 : Int))).bind fun at_here_783 =>
  (atI ([(upD (-(1 : Int))), (upD (((1000000 : Int) + (1 : Int)) + (cell_782 % (100000000000000000000 : Int)))), (upD true), (upD ("3" : Str)), (upD Nn.nn), (upD (1000000000 : Int))] : List Dy) ((cell_782 / (6 : Int)) % (6 : Int))).bind fun i_784 =>
  (some i_784).bind fun bad_785 =>
  ((if ((decide ((1 : Int) < at_here_783)) && (decide (((cell_782 / (6 : Int)) % (6 : Int)) = (5 : Int)))) = true then ((atI ([(100 : Int), (100 : Int), (10 : Int), (10 : Int)] : List Int) (at_here_783 - (2 : Int))).bind fun i_788 =>
  (some (upD i_788)).bind fun bad_789 =>
  some bad_789) else (some bad_785))).bind fun bad_790 =>
  ((if (decide (at_here_783 < (2 : Int))) = true then ((atI ([(upD (bad_790, (1000000 : Int), ())), (upD ((5 : Int), (4 : Int), ())), (upD ((1 : Int), ())), (upD ([(upD (0 : Int)), (upD (1 : Int))] : List Dy)), (upD ((0 : Int), bad_790, ())), (upD (7 : Int))] : List Dy) ((cell_782 / (36 : Int)) % (6 : Int))).bind fun i_794 =>
  (some i_794).bind fun bad_795 =>
  some bad_795) else (some bad_790))).bind fun bad_796 =>
  ((ofD own_here_781 : Option (Tu Dy))).bind fun o_798 =>
  (cutTO o_798 none (some at_here_783)).bind fun ct_799 =>
  ((ofD (upD (bad_796, ())) : Option (Tu Dy))).bind fun o_800 =>
  (catTO ct_799 o_800).bind fun tt_801 =>
  ((ofD own_here_781 : Option (Tu Dy))).bind fun o_802 =>
  (cutTO o_802 (some (at_here_783 + (1 : Int))) none).bind fun ct_803 =>
  (catTO tt_801 ct_803).bind fun tt_804 =>
  some (upD tt_804)
noncomputable def m__law_bent (box_805 : Dy) (cell_806 : Int) (first_807 : Dy) : Option Dy :=
  ((ofD box_805 : Option (Dy × Dy × Dy × Dy × Dy × Unit))).bind fun o_808 =>
  (some o_808).bind fun (kind_809, name_810, own_here_811, what_812, parts_813, _) =>
  (some (cell_806 % (8 : Int))).bind fun way_814 =>
  (some (cell_806 / (8 : Int))).bind fun cell_815 =>
  (if (decide (way_814 = (0 : Int))) = true then (((ofD name_810 : Option Str)).bind fun o_822 =>
  (cutSO o_822 (some (1 : Int)) none).bind fun cs_823 =>
  (addS ("A" : Str) cs_823).bind fun t_824 =>
  (atI ([(upD ("" : Str)), (upD t_824), (upD ("abcdefghi" : Str)), (upD (5 : Int)), (upD Nn.nn), first_807] : List Dy) (cell_815 % (6 : Int))).bind fun i_825 =>
  (some i_825).bind fun bad_826 =>
  (eqYO bad_826 name_810).bind fun e_828 =>
  ((if e_828 = true then ((some (upD ("x_" : Str))).bind fun bad_830 =>
  some bad_830) else (some bad_826))).bind fun bad_831 =>
  some (upD (kind_809, bad_831, own_here_811, what_812, parts_813, ()))) else ((if (decide (way_814 = (1 : Int))) = true then ((m__law_bent_own own_here_811 cell_815).bind fun r_836 =>
  some (upD (kind_809, name_810, r_836, what_812, parts_813, ()))) else ((if (decide (way_814 = (2 : Int))) = true then (((ofD own_here_811 : Option (Tu Dy))).bind fun o_846 =>
  (cutTO o_846 none (some (5 : Int))).bind fun ct_847 =>
  ((ofD own_here_811 : Option (Tu Dy))).bind fun o_848 =>
  ((ofD own_here_811 : Option (Tu Dy))).bind fun o_849 =>
  ((ofD (upD ((0 : Int), ())) : Option (Tu Dy))).bind fun o_850 =>
  (catTO o_849 o_850).bind fun tt_851 =>
  (atI ([(upD ct_847), (upD o_848.l), (upD tt_851), (upD Nn.nn)] : List Dy) (cell_815 % (4 : Int))).bind fun i_852 =>
  some (upD (kind_809, name_810, i_852, what_812, parts_813, ()))) else ((if (decide (way_814 = (3 : Int))) = true then (((ofD what_812 : Option (Tu Dy))).bind fun o_859 =>
  (cutTO o_859 none (some (1 : Int))).bind fun ct_860 =>
  ((ofD what_812 : Option (Tu Dy))).bind fun o_861 =>
  (atI ([(upD ct_860), (upD o_861.l), (upD Nn.nn), (upD (Tu.mk ([] : List Int)))] : List Dy) (cell_815 % (4 : Int))).bind fun i_862 =>
  some (upD (kind_809, name_810, own_here_811, i_862, parts_813, ()))) else ((if (decide (way_814 = (4 : Int))) = true then (((ofD what_812 : Option (Tu Dy))).bind fun o_866 =>
  (cutTO o_866 none (some (1 : Int))).bind fun ct_867 =>
  ((ofD (upD (("mid3" : Str), ())) : Option (Tu Dy))).bind fun o_868 =>
  (catTO ct_867 o_868).bind fun tt_869 =>
  ((ofD what_812 : Option (Tu Dy))).bind fun o_870 =>
  (cutTO o_870 (some (2 : Int)) none).bind fun ct_871 =>
  (catTO tt_869 ct_871).bind fun tt_872 =>
  some (upD (kind_809, name_810, own_here_811, tt_872, parts_813, ()))) else ((if (decide (way_814 = (5 : Int))) = true then (((ofD what_812 : Option (Tu Dy))).bind fun o_876 =>
  (cutTO o_876 (some (1 : Int)) none).bind fun ct_877 =>
  ((ofD (upD (((-(1 : Int)) - (cell_815 % (1000000000 : Int))), ())) : Option (Tu Dy))).bind fun o_878 =>
  (catTO o_878 ct_877).bind fun tt_879 =>
  some (upD (kind_809, name_810, own_here_811, tt_879, parts_813, ()))) else ((if (decide (way_814 = (6 : Int))) = true then ((atI ([(upD ("Leaf" : Str)), (upD ("box" : Str)), (upD ("" : Str)), (upD Nn.nn), (upD (3 : Int)), (upD ([(upD ("row" : Str))] : List Dy))] : List Dy) (cell_815 % (6 : Int))).bind fun i_883 =>
  some (upD (i_883, name_810, own_here_811, what_812, parts_813, ()))) else (((ofD parts_813 : Option (Tu Dy))).bind fun o_885 =>
  (atI ([(upD o_885.l), (upD Nn.nn), (upD (4 : Int)), (upD ("ab" : Str))] : List Dy) (cell_815 % (4 : Int))).bind fun i_886 =>
  some (upD (kind_809, name_810, own_here_811, what_812, i_886, ()))))))))))))))))
noncomputable def m__law_kept (tree_here_887 : Dy) : Option (Option Xc) :=
  (some none).bind fun kept_here_888 =>
  (((m_check_tree tree_here_887).bind fun r_891_0 => match r_891_0 with
  | .ex ex_892 => (if decide (ex_892.cls ∈ (["BadBox"] : List Str)) = true then (some (some ex_892)) else none)
  | .ok r_891 =>
  some kept_here_888)).bind fun kept_here_894 =>
  some kept_here_894
noncomputable def m__law_refused (tree_here_895 : Dy) (name_896 : Dy) : Option Bool :=
  (m__law_kept tree_here_895).bind fun r_897 =>
  (some r_897).bind fun kept_here_898 =>
  (kept_here_898).bind fun s_900 =>
  (xcls s_900 "BadBox").bind fun xc_901 =>
  (if false = true then (some false) else ((kept_here_898).bind fun s_905 =>
  (xcls s_905 "BadBox").bind fun xc_906 =>
  ((if false = true then some true else ((kept_here_898).bind fun s_907 => (xcls s_907 "BadBox").bind fun xc_908 => some (!true)))).bind fun b_909 =>
  (if b_909 = true then (some false) else ((kept_here_898).bind fun s_912 =>
  (xcls s_912 "BadBox").bind fun xc_913 =>
  ((if true = true then ((kept_here_898).bind fun s_914 => (xfl s_914 "BadBox" "name").bind fun fl_915 => (eqYO fl_915 name_896).bind fun e_916 => some e_916) else some false)).bind fun b_917 =>
  some b_917))))
noncomputable def m_law_L1 (tree_here_920 : Dy) (name_955 : Dy) (bad_960 : Dy) : Int → (Unit) → Option (Ctl (Unit) Bool) := fun again_962 _ =>
  (m__law_kept tree_here_920).bind fun r_969 =>
  ((if (r_969.isSome) = true then some true else ((m__law_refused bad_960 name_955).bind fun r_970 => some (!r_970)))).bind fun b_971 =>
  (if b_971 = true then (some (Ctl.rt false)) else (some (Ctl.nx ())))
noncomputable def m_law_L2 : Dy → (Unit) → Option (Ctl (Unit) Bool) := fun thing_978 _ =>
  (m__law_refused thing_978 (upD Nn.nn)).bind fun r_985 =>
  (if (!r_985) = true then (some (Ctl.rt false)) else (some (Ctl.nx ())))
noncomputable def m_law (script_918 : (Fz Int)) : Option Bool :=
  (m__law_tree script_918 (2 : Int) (18 : Int)).bind fun r_919 =>
  (some r_919).bind fun tree_here_920 =>
  (m__law_boxes tree_here_920).bind fun r_921 =>
  (some r_921).bind fun boxes_here_922 =>
  (m__law_at script_918 (1 : Int)).bind fun r_923 =>
  (some r_923).bind fun cell_924 =>
  (modO cell_924 (boxes_here_922.length : Int)).bind fun r_925 =>
  (atI boxes_here_922 r_925).bind fun i_926 =>
  (some i_926).bind fun box_927 =>
  (divO cell_924 (boxes_here_922.length : Int)).bind fun q_928 =>
  (atI boxes_here_922 (0 : Int)).bind fun i_929 =>
  ((ofD i_929 : Option (Tu Dy))).bind fun o_930 =>
  (atI o_930.l (1 : Int)).bind fun i_931 =>
  (m__law_bent box_927 q_928 i_931).bind fun r_932 =>
  (some r_932).bind fun bent_here_933 =>
  ((ofD box_927 : Option (Tu Dy))).bind fun o_934 =>
  (atI o_934.l (1 : Int)).bind fun i_935 =>
  (some i_935).bind fun name_936 =>
  ((ofD bent_here_933 : Option (Tu Dy))).bind fun o_938 =>
  (atI o_938.l (1 : Int)).bind fun i_939 =>
  (eqYO i_939 name_936).bind fun e_940 =>
  ((if (!e_940) = true then ((some (upD Nn.nn)).bind fun name_942 =>
  ((ofD bent_here_933 : Option (Tu Dy))).bind fun o_944 =>
  (atI o_944.l (1 : Int)).bind fun i_945 =>
  (atI boxes_here_922 (0 : Int)).bind fun i_946 =>
  ((ofD i_946 : Option (Tu Dy))).bind fun o_947 =>
  (atI o_947.l (1 : Int)).bind fun i_948 =>
  (eqYO i_945 i_948).bind fun e_949 =>
  (if e_949 = true then (((ofD bent_here_933 : Option (Tu Dy))).bind fun o_952 =>
  (atI o_952.l (1 : Int)).bind fun i_953 =>
  (some i_953).bind fun name_954 =>
  some name_954) else (some name_942))) else (some name_936))).bind fun name_955 =>
  ((ofD box_927 : Option (Tu Dy))).bind fun o_957 =>
  (atI o_957.l (1 : Int)).bind fun i_958 =>
  (m__law_named 8 tree_here_920 i_958 bent_here_933).bind fun r_959 =>
  (some r_959).bind fun bad_960 =>
  (rngO 0 (2 : Int)).bind fun rg_961 =>
  (forC (m_law_L1 tree_here_920 name_955 bad_960) rg_961 ()).bind fun tot_967 => match tot_967 with
  | .nx _ => (((ofD tree_here_920 : Option (Tu Dy))).bind fun o_975 =>
  (cutTO o_975 none (some (4 : Int))).bind fun ct_976 =>
  ((ofD tree_here_920 : Option (Tu Dy))).bind fun o_977 =>
  (forC (m_law_L2) ([(upD Nn.nn), (upD (5 : Int)), (upD ("leaf" : Str)), (upD (Tu.mk ([] : List Int))), (upD ([] : List Dy)), (upD ct_976), (upD o_977.l), (upD (tree_here_920, ()))] : List Dy) ()).bind fun tot_983 => match tot_983 with
  | .nx _ => (some true)
  | .bk _ => none
  | .rt r_ => some r_)
  | .bk _ => none
  | .rt r_ => some r_
end Wk06
set_option synthInstance.maxHeartbeats 4000000
set_option synthInstance.maxSize 20000
/-! the walks of k06, printed by gen.py -/
namespace Wk06
open PySem L2 Wk
def topS (i : Nat) : Stmt := PySem.Challenge.pw_boxgalley_k06_what_is_a_tree.main.body.getD i (.Pass ⟨0, 0, 0, 0⟩)
abbrev s_cells_at : Stmt := topS 1
abbrev s_is_open : Stmt := topS 2
abbrev s_put_cells : Stmt := topS 3
abbrev s_last_row : Stmt := topS 4
abbrev s_rows_taken : Stmt := topS 5
abbrev s_is_piece : Stmt := topS 32
abbrev s_are_words : Stmt := topS 33
abbrev s_is_joint : Stmt := topS 34
abbrev s_words_ok : Stmt := topS 35
abbrev s_flow_ok : Stmt := topS 36
abbrev s_is_anchor : Stmt := topS 37
abbrev s_over_ok : Stmt := topS 38
abbrev s_is_whole : Stmt := topS 48
abbrev s_is_name : Stmt := topS 49
abbrev s_is_pair : Stmt := topS 50
abbrev s_is_span : Stmt := topS 51
abbrev s_is_own : Stmt := topS 52
abbrev s_is_word : Stmt := topS 53
abbrev s_line_ok : Stmt := topS 54
abbrev s_table_ok : Stmt := topS 55
abbrev s_kind_ok : Stmt := topS 56
abbrev s_name_of : Stmt := topS 57
abbrev s_box_ok : Stmt := topS 58
abbrev s_check_box : Stmt := topS 59
abbrev s_check_tree : Stmt := topS 60
abbrev s__law_at : Stmt := topS 62
abbrev s__law_mixed : Stmt := topS 63
abbrev s__law_draws : Stmt := topS 64
abbrev s__law_label : Stmt := topS 66
abbrev s__law_span : Stmt := topS 67
abbrev s__law_own : Stmt := topS 68
abbrev s__law_leaf : Stmt := topS 69
abbrev s__law_within : Stmt := topS 70
abbrev s__law_step : Stmt := topS 71
abbrev s__law_tree : Stmt := topS 72
abbrev s__law_boxes : Stmt := topS 73
abbrev s__law_named : Stmt := topS 74
abbrev s__law_bent_own : Stmt := topS 75
abbrev s__law_bent : Stmt := topS 76
abbrev s__law_kept : Stmt := topS 77
abbrev s__law_refused : Stmt := topS 78
abbrev s_law : Stmt := topS 79
structure TX (K : Fg) (mg : Str → Option Value) (w : World) where
  a_cells_at : Addr
  d_cells_at : FuncData
  F_cells_at : Fun K "cells_at" "cells_at" s_cells_at a_cells_at d_cells_at
  b_cells_at : Binds K d_cells_at ["row", "column", "span"] []
  g_cells_at : mg "cells_at" = some (.ref a_cells_at)
  a_is_open : Addr
  d_is_open : FuncData
  F_is_open : Fun K "is_open" "is_open" s_is_open a_is_open d_is_open
  b_is_open : Binds K d_is_open ["taken", "row", "column", "span"] []
  g_is_open : mg "is_open" = some (.ref a_is_open)
  a_put_cells : Addr
  d_put_cells : FuncData
  F_put_cells : Fun K "put_cells" "put_cells" s_put_cells a_put_cells d_put_cells
  b_put_cells : Binds K d_put_cells ["columns", "spans"] []
  g_put_cells : mg "put_cells" = some (.ref a_put_cells)
  a_last_row : Addr
  d_last_row : FuncData
  F_last_row : Fun K "last_row" "last_row" s_last_row a_last_row d_last_row
  b_last_row : Binds K d_last_row ["spans", "places"] []
  g_last_row : mg "last_row" = some (.ref a_last_row)
  a_rows_taken : Addr
  d_rows_taken : FuncData
  F_rows_taken : Fun K "rows_taken" "rows_taken" s_rows_taken a_rows_taken d_rows_taken
  b_rows_taken : Binds K d_rows_taken ["columns", "spans"] []
  g_rows_taken : mg "rows_taken" = some (.ref a_rows_taken)
  a_is_piece : Addr
  d_is_piece : FuncData
  F_is_piece : Fun K "is_piece" "is_piece" s_is_piece a_is_piece d_is_piece
  b_is_piece : Binds K d_is_piece ["thing"] []
  g_is_piece : mg "is_piece" = some (.ref a_is_piece)
  a_are_words : Addr
  d_are_words : FuncData
  F_are_words : Fun K "are_words" "are_words" s_are_words a_are_words d_are_words
  b_are_words : Binds K d_are_words ["words"] []
  g_are_words : mg "are_words" = some (.ref a_are_words)
  a_is_joint : Addr
  d_is_joint : FuncData
  F_is_joint : Fun K "is_joint" "is_joint" s_is_joint a_is_joint d_is_joint
  b_is_joint : Binds K d_is_joint ["thing"] []
  g_is_joint : mg "is_joint" = some (.ref a_is_joint)
  a_words_ok : Addr
  d_words_ok : FuncData
  F_words_ok : Fun K "words_ok" "words_ok" s_words_ok a_words_ok d_words_ok
  b_words_ok : Binds K d_words_ok ["what", "parts"] []
  g_words_ok : mg "words_ok" = some (.ref a_words_ok)
  a_flow_ok : Addr
  d_flow_ok : FuncData
  F_flow_ok : Fun K "flow_ok" "flow_ok" s_flow_ok a_flow_ok d_flow_ok
  b_flow_ok : Binds K d_flow_ok ["what", "parts"] []
  g_flow_ok : mg "flow_ok" = some (.ref a_flow_ok)
  a_is_anchor : Addr
  d_is_anchor : FuncData
  F_is_anchor : Fun K "is_anchor" "is_anchor" s_is_anchor a_is_anchor d_is_anchor
  b_is_anchor : Binds K d_is_anchor ["thing"] []
  g_is_anchor : mg "is_anchor" = some (.ref a_is_anchor)
  a_over_ok : Addr
  d_over_ok : FuncData
  F_over_ok : Fun K "over_ok" "over_ok" s_over_ok a_over_ok d_over_ok
  b_over_ok : Binds K d_over_ok ["what", "parts"] []
  g_over_ok : mg "over_ok" = some (.ref a_over_ok)
  a_is_whole : Addr
  d_is_whole : FuncData
  F_is_whole : Fun K "is_whole" "is_whole" s_is_whole a_is_whole d_is_whole
  b_is_whole : Binds K d_is_whole ["thing", "least", "greatest"] []
  g_is_whole : mg "is_whole" = some (.ref a_is_whole)
  a_is_name : Addr
  d_is_name : FuncData
  F_is_name : Fun K "is_name" "is_name" s_is_name a_is_name d_is_name
  b_is_name : Binds K d_is_name ["thing"] []
  g_is_name : mg "is_name" = some (.ref a_is_name)
  a_is_pair : Addr
  d_is_pair : FuncData
  F_is_pair : Fun K "is_pair" "is_pair" s_is_pair a_is_pair d_is_pair
  b_is_pair : Binds K d_is_pair ["thing", "least", "greatest"] []
  g_is_pair : mg "is_pair" = some (.ref a_is_pair)
  a_is_span : Addr
  d_is_span : FuncData
  F_is_span : Fun K "is_span" "is_span" s_is_span a_is_span d_is_span
  b_is_span : Binds K d_is_span ["thing"] []
  g_is_span : mg "is_span" = some (.ref a_is_span)
  a_is_own : Addr
  d_is_own : FuncData
  F_is_own : Fun K "is_own" "is_own" s_is_own a_is_own d_is_own
  b_is_own : Binds K d_is_own ["thing"] []
  g_is_own : mg "is_own" = some (.ref a_is_own)
  a_is_word : Addr
  d_is_word : FuncData
  F_is_word : Fun K "is_word" "is_word" s_is_word a_is_word d_is_word
  b_is_word : Binds K d_is_word ["thing", "words"] []
  g_is_word : mg "is_word" = some (.ref a_is_word)
  a_line_ok : Addr
  d_line_ok : FuncData
  F_line_ok : Fun K "line_ok" "line_ok" s_line_ok a_line_ok d_line_ok
  b_line_ok : Binds K d_line_ok ["what", "parts"] []
  g_line_ok : mg "line_ok" = some (.ref a_line_ok)
  a_table_ok : Addr
  d_table_ok : FuncData
  F_table_ok : Fun K "table_ok" "table_ok" s_table_ok a_table_ok d_table_ok
  b_table_ok : Binds K d_table_ok ["what", "parts"] []
  g_table_ok : mg "table_ok" = some (.ref a_table_ok)
  a_kind_ok : Addr
  d_kind_ok : FuncData
  F_kind_ok : Fun K "kind_ok" "kind_ok" s_kind_ok a_kind_ok d_kind_ok
  b_kind_ok : Binds K d_kind_ok ["kind", "what", "parts"] []
  g_kind_ok : mg "kind_ok" = some (.ref a_kind_ok)
  a_name_of : Addr
  d_name_of : FuncData
  F_name_of : Fun K "name_of" "name_of" s_name_of a_name_of d_name_of
  b_name_of : Binds K d_name_of ["thing"] []
  g_name_of : mg "name_of" = some (.ref a_name_of)
  a_box_ok : Addr
  d_box_ok : FuncData
  F_box_ok : Fun K "box_ok" "box_ok" s_box_ok a_box_ok d_box_ok
  b_box_ok : Binds K d_box_ok ["thing", "deep", "tabled", "seen"] []
  g_box_ok : mg "box_ok" = some (.ref a_box_ok)
  a_check_box : Addr
  d_check_box : FuncData
  F_check_box : Fun K "check_box" "check_box" s_check_box a_check_box d_check_box
  b_check_box : Binds K d_check_box ["thing", "deep", "tabled", "seen"] []
  g_check_box : mg "check_box" = some (.ref a_check_box)
  a_check_tree : Addr
  d_check_tree : FuncData
  F_check_tree : Fun K "check_tree" "check_tree" s_check_tree a_check_tree d_check_tree
  b_check_tree : Binds K d_check_tree ["thing"] []
  g_check_tree : mg "check_tree" = some (.ref a_check_tree)
  a__law_at : Addr
  d__law_at : FuncData
  F__law_at : Fun K "_law_at" "_law_at" s__law_at a__law_at d__law_at
  b__law_at : Binds K d__law_at ["_law_script", "_law_k"] []
  g__law_at : mg "_law_at" = some (.ref a__law_at)
  a__law_mixed : Addr
  d__law_mixed : FuncData
  F__law_mixed : Fun K "_law_mixed" "_law_mixed" s__law_mixed a__law_mixed d__law_mixed
  b__law_mixed : Binds K d__law_mixed ["_law_cell"] []
  g__law_mixed : mg "_law_mixed" = some (.ref a__law_mixed)
  a__law_draws : Addr
  d__law_draws : FuncData
  F__law_draws : Fun K "_law_draws" "_law_draws" s__law_draws a__law_draws d__law_draws
  b__law_draws : Binds K d__law_draws ["_law_script", "_law_first", "_law_many", "_law_base"] []
  g__law_draws : mg "_law_draws" = some (.ref a__law_draws)
  a__law_label : Addr
  d__law_label : FuncData
  F__law_label : Fun K "_law_label" "_law_label" s__law_label a__law_label d__law_label
  b__law_label : Binds K d__law_label ["_law_k", "_law_cell"] []
  g__law_label : mg "_law_label" = some (.ref a__law_label)
  a__law_span : Addr
  d__law_span : FuncData
  F__law_span : Fun K "_law_span" "_law_span" s__law_span a__law_span d__law_span
  b__law_span : Binds K d__law_span ["_law_n"] []
  g__law_span : mg "_law_span" = some (.ref a__law_span)
  a__law_own : Addr
  d__law_own : FuncData
  F__law_own : Fun K "_law_own" "_law_own" s__law_own a__law_own d__law_own
  b__law_own : Binds K d__law_own ["_law_n", "_law_alike"] []
  g__law_own : mg "_law_own" = some (.ref a__law_own)
  a__law_leaf : Addr
  d__law_leaf : FuncData
  F__law_leaf : Fun K "_law_leaf" "_law_leaf" s__law_leaf a__law_leaf d__law_leaf
  b__law_leaf : Binds K d__law_leaf ["_law_name", "_law_n"] []
  g__law_leaf : mg "_law_leaf" = some (.ref a__law_leaf)
  a__law_within : Addr
  d__law_within : FuncData
  F__law_within : Fun K "_law_within" "_law_within" s__law_within a__law_within d__law_within
  b__law_within : Binds K d__law_within ["_law_kind", "_law_name", "_law_n", "_law_some", "_law_alike"] []
  g__law_within : mg "_law_within" = some (.ref a__law_within)
  a__law_step : Addr
  d__law_step : FuncData
  F__law_step : Fun K "_law_step" "_law_step" s__law_step a__law_step d__law_step
  b__law_step : Binds K d__law_step ["_law_stack", "_law_n", "_law_name"] []
  g__law_step : mg "_law_step" = some (.ref a__law_step)
  a__law_tree : Addr
  d__law_tree : FuncData
  F__law_tree : Fun K "_law_tree" "_law_tree" s__law_tree a__law_tree d__law_tree
  b__law_tree : Binds K d__law_tree ["_law_script", "_law_first", "_law_many"] []
  g__law_tree : mg "_law_tree" = some (.ref a__law_tree)
  a__law_boxes : Addr
  d__law_boxes : FuncData
  F__law_boxes : Fun K "_law_boxes" "_law_boxes" s__law_boxes a__law_boxes d__law_boxes
  b__law_boxes : Binds K d__law_boxes ["_law_tree_here"] []
  g__law_boxes : mg "_law_boxes" = some (.ref a__law_boxes)
  a__law_named : Addr
  d__law_named : FuncData
  F__law_named : Fun K "_law_named" "_law_named" s__law_named a__law_named d__law_named
  b__law_named : Binds K d__law_named ["_law_tree_here", "_law_name", "_law_other"] []
  g__law_named : mg "_law_named" = some (.ref a__law_named)
  a__law_bent_own : Addr
  d__law_bent_own : FuncData
  F__law_bent_own : Fun K "_law_bent_own" "_law_bent_own" s__law_bent_own a__law_bent_own d__law_bent_own
  b__law_bent_own : Binds K d__law_bent_own ["_law_own_here", "_law_cell"] []
  g__law_bent_own : mg "_law_bent_own" = some (.ref a__law_bent_own)
  a__law_bent : Addr
  d__law_bent : FuncData
  F__law_bent : Fun K "_law_bent" "_law_bent" s__law_bent a__law_bent d__law_bent
  b__law_bent : Binds K d__law_bent ["_law_box", "_law_cell", "_law_first"] []
  g__law_bent : mg "_law_bent" = some (.ref a__law_bent)
  a__law_kept : Addr
  d__law_kept : FuncData
  F__law_kept : Fun K "_law_kept" "_law_kept" s__law_kept a__law_kept d__law_kept
  b__law_kept : Binds K d__law_kept ["_law_tree_here"] []
  g__law_kept : mg "_law_kept" = some (.ref a__law_kept)
  a__law_refused : Addr
  d__law_refused : FuncData
  F__law_refused : Fun K "_law_refused" "_law_refused" s__law_refused a__law_refused d__law_refused
  b__law_refused : Binds K d__law_refused ["_law_tree_here", "_law_name"] []
  g__law_refused : mg "_law_refused" = some (.ref a__law_refused)
  a_law : Addr
  d_law : FuncData
  F_law : Fun K "law" "law" s_law a_law d_law
  b_law : Binds K d_law ["_law_script"] []
  g_law : mg "law" = some (.ref a_law)
  z_ValueError : mg "ValueError" = none
  z_all : mg "all" = none
  z_any : mg "any" = none
  z_bool : mg "bool" = none
  z_int : mg "int" = none
  z_isinstance : mg "isinstance" = none
  z_len : mg "len" = none
  z_list : mg "list" = none
  z_max : mg "max" = none
  z_range : mg "range" = none
  z_str : mg "str" = none
  z_tuple : mg "tuple" = none
  z_zip : mg "zip" = none
  c_BadBox : Addr
  gC_BadBox : mg "BadBox" = some (.ref c_BadBox)
  c_BoxError : Addr
  gC_BoxError : mg "BoxError" = some (.ref c_BoxError)
  c_NoBox : Addr
  gC_NoBox : mg "NoBox" = some (.ref c_NoBox)
  c_NoEdit : Addr
  gC_NoEdit : mg "NoEdit" = some (.ref c_NoEdit)
  c_NoFloor : Addr
  gC_NoFloor : mg "NoFloor" = some (.ref c_NoFloor)
  c_NoName : Addr
  gC_NoName : mg "NoName" = some (.ref c_NoName)
  c_NoNumber : Addr
  gC_NoNumber : mg "NoNumber" = some (.ref c_NoNumber)
  c_NoPages : Addr
  gC_NoPages : mg "NoPages" = some (.ref c_NoPages)
  c_NoRead : Addr
  gC_NoRead : mg "NoRead" = some (.ref c_NoRead)
  c_NoRow : Addr
  gC_NoRow : mg "NoRow" = some (.ref c_NoRow)
  c_NoRows : Addr
  gC_NoRows : mg "NoRows" = some (.ref c_NoRows)
  c_NoTree : Addr
  gC_NoTree : mg "NoTree" = some (.ref c_NoTree)
  c_NotTurned : Addr
  gC_NotTurned : mg "NotTurned" = some (.ref c_NotTurned)
  c_Ring : Addr
  gC_Ring : mg "Ring" = some (.ref c_Ring)
  c_TooGreat : Addr
  gC_TooGreat : mg "TooGreat" = some (.ref c_TooGreat)
  c_TooWide : Addr
  gC_TooWide : mg "TooWide" = some (.ref c_TooWide)
  oex_BadBox : OexC K c_BadBox
  no_BadBox : ∀ f ∈ (["name"] : List Str), PySem.W.findIn K (.ref c_BadBox) f = some none
  fi_BadBox : Addr
  fdi_BadBox : FuncData
  Fi_BadBox : Fun K "__init__" "BadBox.__init__" (inClass (topS 8) 0) fi_BadBox fdi_BadBox
  bi_BadBox : Binds K fdi_BadBox ["self", "name"] []
  iC_BadBox : PySem.W.findIn K (.ref c_BadBox) "__init__" = some (some (.ref fi_BadBox))
  tI_BadBox : PySem.W.typeIn K (.ref fi_BadBox) = some (.type "function")
  xf_BadBox : XfC K c_BadBox
  isx_BadBox : PySem.W.findIn K (.ref c_BadBox) "__getattribute__" = some (some (.builtin "BaseException.__getattribute__")) ∧ PySem.W.findIn K (.ref c_BadBox) "__getattr__" = some none ∧ PySem.W.subIn K (.ref c_BadBox) (.type "BaseException") = some true ∧ PySem.W.isClsIn K c_BadBox = true ∧ PySem.W.findIn K (.ref c_BadBox) "__class__" = some (some (.builtin "object.__class__")) ∧ PySem.W.specialIn K (.builtin "object.__class__") "__get__" = some (some (.builtin "getset_descriptor.__get__")) ∧ PySem.W.takesIn K (.builtin "object.__class__") = some true ∧ PySem.W.mroIn K c_BadBox (.type "object") = some true
  sg_BoxError : PySem.W.specialIn K (.ref c_BoxError) "__getattribute__" = some (some (.builtin "type.__getattribute__"))
  rd_BoxError : PySem.W.readsIn K c_BoxError (.type "type") = true
  fc_BoxError : PySem.W.findCls K (.ref c_BoxError) (.type "type") "__init__" = some (.val (.builtin "ValueError.__init__"))
  kit_BadBox_BadBox : PySem.W.kitOne K (.ref c_BadBox) (.ref c_BadBox) = some true
  kit_BadBox_NoBox : PySem.W.kitOne K (.ref c_BadBox) (.ref c_NoBox) = some false
  kit_BadBox_NoEdit : PySem.W.kitOne K (.ref c_BadBox) (.ref c_NoEdit) = some false
  kit_BadBox_NoFloor : PySem.W.kitOne K (.ref c_BadBox) (.ref c_NoFloor) = some false
  kit_BadBox_NoName : PySem.W.kitOne K (.ref c_BadBox) (.ref c_NoName) = some false
  kit_BadBox_NoNumber : PySem.W.kitOne K (.ref c_BadBox) (.ref c_NoNumber) = some false
  kit_BadBox_NoPages : PySem.W.kitOne K (.ref c_BadBox) (.ref c_NoPages) = some false
  kit_BadBox_NoRead : PySem.W.kitOne K (.ref c_BadBox) (.ref c_NoRead) = some false
  kit_BadBox_NoRow : PySem.W.kitOne K (.ref c_BadBox) (.ref c_NoRow) = some false
  kit_BadBox_NoRows : PySem.W.kitOne K (.ref c_BadBox) (.ref c_NoRows) = some false
  kit_BadBox_NoTree : PySem.W.kitOne K (.ref c_BadBox) (.ref c_NoTree) = some false
  kit_BadBox_NotTurned : PySem.W.kitOne K (.ref c_BadBox) (.ref c_NotTurned) = some false
  kit_BadBox_Ring : PySem.W.kitOne K (.ref c_BadBox) (.ref c_Ring) = some false
  kit_BadBox_TooGreat : PySem.W.kitOne K (.ref c_BadBox) (.ref c_TooGreat) = some false
  kit_BadBox_TooWide : PySem.W.kitOne K (.ref c_BadBox) (.ref c_TooWide) = some false
  kit_BadBox_ValueError : PySem.W.kitOne K (.ref c_BadBox) (.type "ValueError") = some true
  em_BadBox_BoxError : PySem.W.exmOne K (.ref c_BadBox) (.ref c_BoxError) = some true
  ti_MOST_SIGNS : Tok
  gi_MOST_SIGNS : mg "MOST_SIGNS" = some (.int 12 ti_MOST_SIGNS)
  ti_PIECE : Tok
  gi_PIECE : mg "PIECE" = some (.str "!\"#$&'()*+,-./0123456789:;<=>?\u0040ABCDEFGHIJKLMNOPQRSTUVWXYZ[\\]^_`abcdefghijklmnopqrstuvwxyz{}~" ti_PIECE)
  ti_MOST_PIECES : Tok
  gi_MOST_PIECES : mg "MOST_PIECES" = some (.int 6 ti_MOST_PIECES)
  ti_MOST_IN_ALL : Tok
  gi_MOST_IN_ALL : mg "MOST_IN_ALL" = some (.int 60 ti_MOST_IN_ALL)
  ti_MOST_JOINT : Tok
  gi_MOST_JOINT : mg "MOST_JOINT" = some (.int 999 ti_MOST_JOINT)
  ti_MOST_BY : Tok
  gi_MOST_BY : mg "MOST_BY" = some (.int 1000000 ti_MOST_BY)
  ti_MOST_OVER : Tok
  gi_MOST_OVER : mg "MOST_OVER" = some (.int 12 ti_MOST_OVER)
  ti_SMALL : Tok
  gi_SMALL : mg "SMALL" = some (.str "abcdefghijklmnopqrstuvwxyz" ti_SMALL)
  ti_GREATEST : Tok
  gi_GREATEST : mg "GREATEST" = some (.int 1000000 ti_GREATEST)
  ti_MOST_ROWS : Tok
  gi_MOST_ROWS : mg "MOST_ROWS" = some (.int 60 ti_MOST_ROWS)
  ti_MOST_BOXES : Tok
  gi_MOST_BOXES : mg "MOST_BOXES" = some (.int 60 ti_MOST_BOXES)
  ti_MOST_DEEP : Tok
  gi_MOST_DEEP : mg "MOST_DEEP" = some (.int 8 ti_MOST_DEEP)
  ta_ALIGNS : Addr
  gt_ALIGNS : mg "ALIGNS" = some (.ref ta_ALIGNS)
  tt_ALIGNS : KTup K ta_ALIGNS ["start", "end", "mid", "mid2"]
  ta_SIDES : Addr
  gt_SIDES : mg "SIDES" = some (.ref ta_SIDES)
  tt_SIDES : KTup K ta_SIDES ["left", "right"]
  ta_LINES : Addr
  gt_LINES : mg "LINES" = some (.ref ta_LINES)
  tt_LINES : KTup K ta_LINES ["row", "column", "wrap"]
  la_ANCHORS : Addr
  lg_ANCHORS : mg "ANCHORS" = some (.ref la_ANCHORS)
  lt_ANCHORS : KLst K la_ANCHORS ["start", "mid", "mid2", "end"]
def spLaw (K : Fg) : Sp := fun vs H Q _ => ∃ (a : Addr) (ns : List Int), vs = [.ref a] ∧ SqL K H a (ns.map V.int) ∧ ns.length ≤ 63 ∧ ∀ H', Q (.bl true) H'
theorem fn_weak {P : Program} {w : World} {K : Fg} {mg : Str → Option Value} {base : Heap} {k : Nat} {f : Addr} {fd : FuncData} {m : Fz Int → Option Bool}
    (h : FnOk P w K mg base CX0 k f fd ["_law_script"] (PF (τ := Fz Int × Unit) K fun t => m t.1)) (main : ∀ ns : List Int, ns.length ≤ 63 → m (Fz.mk ns) = some true) : FnOk P w K mg base CX0 k f fd ["_law_script"] (spLaw K) :=
  h.imp fun vs H Q E hh => by
    obtain ⟨a, ns, rfl, hs, hl, q⟩ := hh
    exact ⟨H, (Fz.mk ns, ()), true, Evl.Ex.refl _, ⟨.ref a, [], rfl, ⟨a, ns.map V.int, rfl, hs, fl_paired ns⟩, rfl⟩, main ns hl, fun u Kn' H' g r => by cases r; exact q H'⟩
section
variable {P : Program} {w : World} {K : Fg} {mg : Str → Option Value} {base : Heap}
def cmT (T : TX K mg w) : Str → Option Addr := fun n =>
  if n = "BadBox" then some T.c_BadBox else none
theorem exm_BoxError (T : TX K mg w) : ∀ n ∈ (["BadBox"] : List Str), ∀ A, cmT T n = some A → PySem.W.exmOne K (.ref A) (.ref T.c_BoxError) = some true := fun n hn A hA => by
  rcases List.mem_cons.mp hn with rfl | hn
  · obtain rfl : T.c_BadBox = A := Option.some.inj hA
    exact T.em_BadBox_BoxError
  cases hn
theorem sci_BadBox : FnScope ["self", "name"] ["self", "name"] (defScope (inClass (topS 8) 0)) := ⟨rfl, rfl, rfl, by decide +kernel, rfl, by decide +kernel, by decide +kernel⟩
theorem oki_BadBox (T : TX K mg w) : FnOk P w K mg base CX0 1 T.fi_BadBox T.fdi_BadBox ["self", "name"] (spI K T.c_BadBox ["name"]) := by
  refine T.Fi_BadBox.ok sci_BadBox (fun vs H Q E h => spI_len h) (fun cdv A outer s H vs Q E hr h => ?_)
  obtain ⟨a, ws, rfl, hl, T0, hno, ha, q⟩ := h
  match ws, hl with
  | [v_0], _ =>
  refine ⟨_, (pss_cons (ps_expr (pe_cinit (by rfl) T.gC_BoxError T.sg_BoxError T.rd_BoxError T.fc_BoxError (pa_cons (pv 0) (pa_cons pe_str pa_nil)))) (pss_one (ps_ost (pv 0) (pv 1)))), ?_⟩
  refine ⟨_, rfl, a, T.c_BadBox, [_], rfl, by decide, T0, ha, ?_⟩
  refine ⟨_, rfl, _, rfl, a, T.c_BadBox, rfl, T0, hno _ List.mem_cons_self, .inl ⟨ha, fun dx hdx hne => ?_⟩⟩
  exact q _ dx hdx hne upd_same (by rw [upd_ne hne]; exact upd_same) (fun b h1 h2 => by rw [upd_ne h1, upd_ne h2])
theorem sc_cells_at : FnScope ["row", "column", "span", "k"] ["row", "column", "span"] (defScope s_cells_at) := ⟨rfl, rfl, rfl, by decide +kernel, rfl, by decide +kernel, by decide +kernel⟩
set_option maxHeartbeats 4000000 in
theorem ok_cells_at (T : TX K mg w) : FnOk P w K mg base CX0 1 T.a_cells_at T.d_cells_at ["row", "column", "span"] (PL (τ := Int × Int × (Int × Int × Unit) × Unit) K (fun t => m_cells_at t.1 t.2.1 t.2.2.1)) := by
  refine T.F_cells_at.ok sc_cells_at (fun vs H Q E h => ?_) (fun cdv A outer s H vs Q E hr h => ?_)
  · obtain ⟨Kn, t, r, ek, h, hf, q⟩ := h
    exact Tp.len h
  · obtain ⟨Kn, t, r_, ek, h, hf, q⟩ := h
    obtain ⟨row_1, column_2, span_3, u_⟩ := t
    obtain ⟨v_0, rr_, rfl, hv_0, h⟩ := h
    obtain ⟨v_1, rr_, rfl, hv_1, h⟩ := h
    obtain ⟨v_2, rr_, rfl, hv_2, h⟩ := h
    obtain rfl := h
    replace hf : m_cells_at row_1 column_2 span_3 = some r_ := hf
    unfold m_cells_at at hf
    refine ⟨_, (pss_one (ps_ret (pe_lc (own := [("k", 3)]) (g := gName 3) (tt := tYes) (by rfl) sc_cells_at.nd (pi_range1 (by rfl) T.z_range (pa_cons (pe_op op_mul (pe_ix k_ixt (pv 2) pe_int (fun _ _ => rfl)) (pe_ix k_ixt (pv 2) pe_int (fun _ _ => rfl))) pa_nil)) (blkOk_by (own := [("k", 3)]) (N := ["row", "column", "span", "k"]) (sc := defScope s_cells_at) (by decide +kernel)) (fun _ _ _ _ _ => (pg_name (i := 3) sc_cells_at.nd rfl (Or.inl rfl))) (fun _ _ _ _ _ => pts_nil) (fun _ _ _ _ _ => (pe_tup (pa_cons (pe_op op_add (pv 0) (pe_op op_fdivW (pv 3) (pe_ix k_ixt (pv 2) pe_int (fun _ _ => rfl)))) (pa_cons (pe_op op_add (pv 1) (pe_op op_mod (pv 3) (pe_ix k_ixt (pv 2) pe_int (fun _ _ => rfl)))) pa_nil))))))), ?_⟩
    refine enter (K := K) (Kn := Kn) (sl := [sv row_1, sv column_2, sv span_3, .any]) ek ⟨⟨v_0, rfl, hv_0⟩, ⟨v_1, rfl, hv_1⟩, ⟨v_2, rfl, hv_2⟩, trivial, trivial⟩ ?_
    have q := rn_of q
    obtain ⟨m_4, h_m_4, hf⟩ := bind_some hf
    obtain ⟨rg_5, h_rg_5, hf⟩ := bind_some hf
    obtain ⟨zs_7, h_zs_7, hf⟩ := bind_some hf
    cases hf
    exact sb_retL (en_lc (js := [3]) (fun x => [sv row_1, sv column_2, sv span_3, sv x]) h_zs_7 (it_rng1 (ea_cons (ev_op (ev_op (ev_var (i := 2) rfl) (ev_int 0) (r2_tix (n := 0) (At.z _ _))) (ev_op (ev_var (i := 2) rfl) (ev_int 1) (r2_tix (n := 1) (At.s _ (At.z _ _)))) (r2_mulO h_m_4)) ea_nil) h_rg_5) (anyAt_of (by rfl)) (fun x => (gt_name rfl)) (sub_of (by rfl)) (fun _ _ x b h => by cases h; exact et_yes) (fun _ _ x z _ h => by obtain ⟨k_6, hx_⟩ : ∃ y, y = x := ⟨x, rfl⟩; subst hx_; obtain ⟨q_8, h_q_8, h⟩ := bind_some h; obtain ⟨r_9, h_r_9, h⟩ := bind_some h; have hz_ := Option.some.inj h; subst hz_; exact EV.is (sl' := [sv row_1, sv column_2, sv span_3, sv k_6]) rfl (ev_tup (ea_cons (ev_op (ev_var (i := 0) rfl) (ev_op (ev_var (i := 3) rfl) (ev_op (ev_var (i := 2) rfl) (ev_int 0) (r2_tix (n := 0) (At.z _ _))) (r2_divO h_q_8)) r2_add) (ea_cons (ev_op (ev_var (i := 1) rfl) (ev_op (ev_var (i := 3) rfl) (ev_op (ev_var (i := 2) rfl) (ev_int 0) (r2_tix (n := 0) (At.z _ _))) (r2_modO h_r_9)) r2_add) ea_nil))))) q (List.Sublist.refl _)
theorem sc_is_open : FnScope ["taken", "row", "column", "span", "there", "at"] ["taken", "row", "column", "span"] (defScope s_is_open) := ⟨rfl, rfl, rfl, by decide +kernel, rfl, by decide +kernel, by decide +kernel⟩
set_option maxHeartbeats 4000000 in
theorem ok_is_open (T : TX K mg w) : FnOk P w K mg base CX0 1 T.a_is_open T.d_is_open ["taken", "row", "column", "span"] (PF (τ := (Dc (Int × Int × Unit) Bool) × Int × Int × (Int × Int × Unit) × Unit) K (fun t => m_is_open t.1 t.2.1 t.2.2.1 t.2.2.2.1)) := by
  refine T.F_is_open.ok sc_is_open (fun vs H Q E h => ?_) (fun cdv A outer s H vs Q E hr h => ?_)
  · obtain ⟨Kn, t, r, ek, h, hf, q⟩ := h
    exact Tp.len h
  · obtain ⟨Kn, t, r_, ek, h, hf, q⟩ := h
    obtain ⟨taken_10, row_11, column_12, span_13, u_⟩ := t
    obtain ⟨v_0, rr_, rfl, hv_0, h⟩ := h
    obtain ⟨v_1, rr_, rfl, hv_1, h⟩ := h
    obtain ⟨v_2, rr_, rfl, hv_2, h⟩ := h
    obtain ⟨v_3, rr_, rfl, hv_3, h⟩ := h
    obtain rfl := h
    replace hf : m_is_open taken_10 row_11 column_12 span_13 = some r_ := hf
    unfold m_is_open at hf
    refine ⟨_, (pss_cons (ps_for PassesOwn.never rfl (pi_range2 (by rfl) T.z_range (pa_cons (pv 1) (pa_cons (pe_op op_add (pv 1) (pe_ix k_ixt (pv 3) pe_int (fun _ _ => rfl))) pa_nil))) (pg_name (i := 4) sc_is_open.nd rfl (.inl rfl)) (pss_one (ps_for PassesOwn.never rfl (pi_range2 (by rfl) T.z_range (pa_cons (pv 2) (pa_cons (pe_op op_add (pv 2) (pe_ix k_ixt (pv 3) pe_int (fun _ _ => rfl))) pa_nil))) (pg_name (i := 5) sc_is_open.nd rfl (.inl rfl)) (pss_one (ps_if (pt_cmp (k_din hr.units (pe_tup (pa_cons (pv 4) (pa_cons (pv 5) pa_nil))) (pv 0)) rfl) (pss_one (ps_ret pe_bl)) pss_nil)))))
      (pss_one (ps_ret pe_bl))), ?_⟩
    refine enter (K := K) (Kn := Kn) (sl := [sv taken_10, sv row_11, sv column_12, sv span_13, .any, .any]) ek ⟨⟨v_0, rfl, hv_0⟩, ⟨v_1, rfl, hv_1⟩, ⟨v_2, rfl, hv_2⟩, ⟨v_3, rfl, hv_3⟩, trivial, trivial, trivial⟩ ?_
    have q := rt_of q
    obtain ⟨rg_14, h_rg_14, hf⟩ := bind_some hf
    obtain ⟨tot_20, h_tot_20, hf⟩ := bind_some hf
    refine SB.seqB (fun kx_32 => sb_for (β := Int) (Sx := Unit) (fun s => [sv taken_10, sv row_11, sv column_12, sv span_13, .any, .any]) (fun s => []) (fun x s => [sv taken_10, sv row_11, sv column_12, sv span_13, sv x, .any]) [4] (fun xs s => forC (m_is_open_L1 taken_10 column_12 span_13) xs s = some tot_20) () (IT.m (it_rng2 (ea_cons (ev_var (i := 1) rfl) (ea_cons (ev_op (ev_var (i := 1) rfl) (ev_op (ev_var (i := 3) rfl) (ev_int 1) (r2_tix (n := 1) (At.s _ (At.z _ _)))) r2_add) ea_nil)) h_rg_14)) h_tot_20 (.keep (.keep (.keep (.keep (.keep (.keep .nil)))))) (List.Sublist.refl _) (fun x s => (gt_name rfl)) ?_ ?_)
    · intro Kn1 b1 there_15 rest_ s_ hP_17 N_ hN_16
      obtain ⟨c_, hc_18, hP_17⟩ := bind_some hP_17
      have q_19 := q.base b1
      unfold m_is_open_L1 at hc_18
      refine SB.is (sl' := [sv taken_10, sv row_11, sv column_12, sv span_13, sv there_15, .any]) (ow1 := []) rfl rfl ?_
      obtain ⟨rg_21, h_rg_21, hc_18⟩ := bind_some hc_18
      obtain ⟨tot_27, h_tot_27, hc_18⟩ := bind_some hc_18
      refine sb_for (β := Int) (Sx := Unit) (fun s => [sv taken_10, sv row_11, sv column_12, sv span_13, sv there_15, .any]) (fun s => []) (fun x s => [sv taken_10, sv row_11, sv column_12, sv span_13, sv there_15, sv x]) [5] (fun xs s => forC (m_is_open_L2 taken_10 there_15) xs s = some tot_27) () (IT.m (it_rng2 (ea_cons (ev_var (i := 2) rfl) (ea_cons (ev_op (ev_var (i := 2) rfl) (ev_op (ev_var (i := 3) rfl) (ev_int 0) (r2_tix (n := 0) (At.z _ _))) r2_add) ea_nil)) h_rg_21)) h_tot_27 (.keep (.keep (.keep (.keep (.keep (.keep .nil)))))) (List.Sublist.refl _) (fun x s => (gt_name rfl)) ?_ ?_
      · intro Kn1 b1 at_22 rest_ s_ hP_24 N_ hN_23
        obtain ⟨c_, hc_25, hP_24⟩ := bind_some hP_24
        have q_26 := q_19.base b1
        unfold m_is_open_L2 at hc_25
        refine SB.is (sl' := [sv taken_10, sv row_11, sv column_12, sv span_13, sv there_15, sv at_22]) (ow1 := []) rfl rfl ?_
        refine sb_if (b := (getD taken_10.l (there_15, at_22, ())).isSome) (et_B (ev_din (ev_var (i := 0) rfl) (ev_tup (ea_cons (ev_var (i := 4) rfl) (ea_cons (ev_var (i := 5) rfl) ea_nil))))) (fun hb_29 => ?_) (fun hb_29 => ?_)
        · have hc_25 := ite_t hb_29 hc_25
          cases hc_25
          replace hP_24 : some (Ctl.rt false) = some tot_27 := hP_24
          cases hP_24
          cases hc_18
          replace hP_17 : some (Ctl.rt false) = some tot_20 := hP_17
          cases hP_17
          replace hf : some false = some r_ := hf
          cases hf
          exact sb_ret (ev_bool false) q_26 (List.Sublist.refl _)
        · have hc_25 := ite_f hb_29 hc_25
          refine sb_nx ?_
          cases hc_25
          exact fun σ Kn H s => hN_23 _ hP_24 σ Kn H ((s.le (.keep (.keep (.keep (.keep (.keep (.drop .nil))))))).sub (List.Sublist.refl _))
      · intro s_ h0
        cases h0
        show SN _ _ _ [sv taken_10, sv row_11, sv column_12, sv span_13, sv there_15, .any] [] _
        cases hc_18
        exact fun σ Kn H s => hN_16 _ hP_17 σ Kn H ((s.le (.keep (.keep (.keep (.keep (.drop (.keep .nil))))))).sub (List.Sublist.refl _))
    · intro s_ h0
      cases h0
      refine kx_32 _ _ ?_
      refine SB.is (sl' := [sv taken_10, sv row_11, sv column_12, sv span_13, .any, .any]) (ow1 := []) rfl rfl ?_
      cases hf
      exact sb_ret (ev_bool true) q (List.Sublist.refl _)
theorem sc_put_cells : FnScope ["columns", "spans", "taken", "found", "span", "at", "cell"] ["columns", "spans"] (defScope s_put_cells) := ⟨rfl, rfl, rfl, by decide +kernel, rfl, by decide +kernel, by decide +kernel⟩
set_option maxHeartbeats 4000000 in
theorem ok_put_cells (T : TX K mg w) : FnOk P w K mg base CX0 2 T.a_put_cells T.d_put_cells ["columns", "spans"] (PL (τ := Int × (Tu (Int × Int × Unit)) × Unit) K (fun t => m_put_cells t.1 t.2.1)) := by
  refine T.F_put_cells.ok sc_put_cells (fun vs H Q E h => ?_) (fun cdv A outer s H vs Q E hr h => ?_)
  · obtain ⟨Kn, t, r, ek, h, hf, q⟩ := h
    exact Tp.len h
  · obtain ⟨Kn, t, r_, ek, h, hf, q⟩ := h
    obtain ⟨columns_33, spans_34, u_⟩ := t
    obtain ⟨v_0, rr_, rfl, hv_0, h⟩ := h
    obtain ⟨v_1, rr_, rfl, hv_1, h⟩ := h
    obtain rfl := h
    replace hf : m_put_cells columns_33 spans_34 = some r_ := hf
    unfold m_put_cells at hf
    refine ⟨_, (pss_cons (ps_set (i := 2) sc_put_cells.nd rfl (.inl rfl) pe_dnewT)
      (pss_cons (ps_set (i := 3) sc_put_cells.nd rfl (.inl rfl) (pe_lst pa_nil))
      (pss_cons (ps_for PassesOwn.never rfl (kpi_tup (pv 1)) (pg_name (i := 4) sc_put_cells.nd rfl (.inl rfl)) (pss_cons (ps_set (i := 5) sc_put_cells.nd rfl (.inl rfl) pe_int)
      (pss_cons (ps_while PassesOwn.never (PW.pt (pw_or (pt_cmpR op_gt (pe_op op_add (pe_op op_mod (pv 5) (pv 0)) (pe_ix k_ixt (pv 4) pe_int (fun _ _ => rfl))) (pv 0) (nomark _)) (pw_or1 (pt_not (pt_val (pe_call (ok_is_open T) hr (by rfl) T.g_is_open T.F_is_open.kp T.b_is_open .nil pass0 (pa_cons (pv 2) (pa_cons (pe_op op_fdivW (pv 5) (pv 0)) (pa_cons (pe_op op_mod (pv 5) (pv 0)) (pa_cons (pv 4) pa_nil)))))))))) (pss_one (ps_aug (i := 5) sc_put_cells.nd rfl (.inl rfl) pe_int ip_add)))
      (pss_cons (ps_for PassesOwn.never rfl (kpi_list (pe_call (ok_cells_at T) hr (by rfl) T.g_cells_at T.F_cells_at.kp T.b_cells_at .nil pass0 (pa_cons (pe_op op_fdivW (pv 5) (pv 0)) (pa_cons (pe_op op_mod (pv 5) (pv 0)) (pa_cons (pv 4) pa_nil))))) (pg_name (i := 6) sc_put_cells.nd rfl (.inl rfl)) (pss_one (k_dput hr.units (pv 2) (pv 6) pe_bl rfl)))
      (pss_one (ps_expr (pe_bm PySem.F.plainAttrs_list PySem.F.slot_list_append PySem.F.type_list_append mt_append (pv 3) (pa_cons (pe_tup (pa_cons (pe_op op_fdivW (pv 5) (pv 0)) (pa_cons (pe_op op_mod (pv 5) (pv 0)) pa_nil))) pa_nil))))))))
      (pss_one (ps_ret (pv 3)))))), ?_⟩
    refine enter (K := K) (Kn := Kn) (sl := [sv columns_33, sv spans_34, .any, .any, .any, .any, .any]) ek ⟨⟨v_0, rfl, hv_0⟩, ⟨v_1, rfl, hv_1⟩, trivial, trivial, trivial, trivial, trivial, trivial⟩ ?_
    have q := rn_of q
    refine SB.seqB (fun kx_ => sb_dnewT (κ := (Int × Int × Unit)) (β := Bool) (sl' := fun p_taken_35 => [sv columns_33, sv spans_34, .at p_taken_35, .any, .any, .any, .any]) rfl (fun _ => rfl) (fun p_taken_35 => (kx_ _ _ ?_)))
    obtain ⟨found_36, h_found_36, hf⟩ := bind_some hf
    refine SB.seqB (fun kx_ => sb_asgO (sl' := fun p_found_36 => [sv columns_33, sv spans_34, .at p_taken_35, .at p_found_36, .any, .any, .any]) (fun _ => rfl) (EN.cast (en_lst el_nil) (Option.some.inj h_found_36)) (fun p_found_36 => (kx_ _ _ ?_)))
    obtain ⟨⟨found_76, taken_77⟩, h_tot_44, hf⟩ := bind_some hf
    refine SB.seqB (fun kx_78 => sb_for (β := (Int × Int × Unit)) (Sx := (List (Int × Int × Unit)) × (Dc (Int × Int × Unit) Bool)) (fun s => [sv columns_33, sv spans_34, .at p_taken_35, .at p_found_36, .any, .any, .any]) (fun s => [ol p_found_36 s.1, oo p_taken_35 s.2]) (fun x s => [sv columns_33, sv spans_34, .at p_taken_35, .at p_found_36, sv x, .any, .any]) [4] (fun xs s => forS (m_put_cells_L1 columns_33) xs s = some (found_76, taken_77)) (found_36, (Dc.mk ([] : List ((Int × Int × Unit) × Bool)))) (IT.m (it_tup (ev_var (i := 1) rfl))) h_tot_44 (.keep (.keep (.keep (.keep (.keep (.keep (.keep .nil))))))) (List.Sublist.refl _) (fun x s => (gt_name rfl)) ?_ ?_)
    · intro Kn1 b1 span_39 rest_ s_ hP_41 N_ hN_40
      obtain ⟨found_37, taken_38⟩ := s_
      obtain ⟨c_, hc_42, hP_41⟩ := bind_some hP_41
      have q_43 := q.base b1
      unfold m_put_cells_L1 at hc_42
      refine SB.is (sl' := [sv columns_33, sv spans_34, .at p_taken_35, .at p_found_36, sv span_39, .any, .any]) (ow1 := [ol p_found_36 found_37, oo p_taken_35 taken_38]) rfl rfl ?_
      obtain ⟨at_45, h_at_45, hc_42⟩ := bind_some hc_42
      refine SB.seqB (fun kx_ => sb_asg (sl' := [sv columns_33, sv spans_34, .at p_taken_35, .at p_found_36, sv span_39, sv at_45, .any]) rfl (EV.cast (ev_int 0) (Option.some.inj h_at_45)) (kx_ _ _ ?_))
      obtain ⟨at_58, h_tot_56, hc_42⟩ := bind_some hc_42
      obtain ⟨n0_, h_tot_56⟩ := whileF_some h_tot_56
      refine SB.seqB (fun kx_59 => sb_while (Sx := Int) (fun s => [sv columns_33, sv spans_34, .at p_taken_35, .at p_found_36, sv span_39, sv s, .any]) (fun s => [ol p_found_36 found_37, oo p_taken_35 taken_38]) (fun n s => whileS (m_put_cells_L2_c columns_33 span_39 taken_38) (m_put_cells_L2 columns_33 span_39 taken_38) n s = some at_58) n0_ at_45 h_tot_56 (.keep (.keep (.keep (.keep (.keep (.keep (.keep .nil))))))) (List.Sublist.refl _) ?_)
      intro n_ at_46 hP_53
      cases n_ with
      | zero => cases hP_53
      | succ n_ =>
        obtain ⟨b_, ht_, hP_53⟩ := bind_some hP_53
        unfold m_put_cells_L2_c at ht_
        obtain ⟨r_47, h_r_47, ht_⟩ := bind_some ht_
        obtain ⟨b_51, h_b_51, ht_⟩ := bind_some ht_
        cases ht_
        refine ⟨_, ET.is (sl' := [sv columns_33, sv spans_34, .at p_taken_35, .at p_found_36, sv span_39, sv at_46, .any]) rfl (et_orO h_b_51 (et_test (ev_op (ev_op (ev_op (ev_var (i := 5) rfl) (ev_var (i := 0) rfl) (r2_modO h_r_47)) (ev_op (ev_var (i := 4) rfl) (ev_int 0) (r2_tix (n := 0) (At.z _ _))) r2_add) (ev_var (i := 0) rfl) r2_gt)) (fun _ _ h => by obtain ⟨q_48, h_q_48, h⟩ := bind_some h; obtain ⟨r_49, h_r_49, h⟩ := bind_some h; obtain ⟨r_50, h_r_50, h⟩ := bind_some h; have hz_ := Option.some.inj h; subst hz_; exact (et_not (et_B (ev_borG (i := 2) (j := 1) (sl' := [sv columns_33, sv spans_34, sv taken_38, .at p_found_36, sv span_39, sv at_46, .any]) (ow1 := [ol p_found_36 found_37]) rfl rfl rfl rfl (ev_call (ea_cons (ev_var (i := 2) rfl) (ea_cons (ev_op (ev_var (i := 5) rfl) (ev_var (i := 0) rfl) (r2_divO h_q_48)) (ea_cons (ev_op (ev_var (i := 5) rfl) (ev_var (i := 0) rfl) (r2_modO h_r_49)) (ea_cons (ev_var (i := 4) rfl) ea_nil)))) h_r_50)))))), fun hb_55 N_ hN_52 => ?_, fun hb_55 => ?_⟩
        · have hP_53 := ite_t hb_55 hP_53
          obtain ⟨c_, hc_54, hP_53⟩ := bind_some hP_53
          unfold m_put_cells_L2 at hc_54
          refine SB.is (sl' := [sv columns_33, sv spans_34, .at p_taken_35, .at p_found_36, sv span_39, sv at_46, .any]) (ow1 := [ol p_found_36 found_37, oo p_taken_35 taken_38]) rfl rfl ?_
          obtain ⟨at_57, h_at_57, hc_54⟩ := bind_some hc_54
          have h_at_57 := Option.some.inj h_at_57
          refine sb_aug (i := 5) (a := at_46) (c := (1 : Int)) (sl' := [sv columns_33, sv spans_34, .at p_taken_35, .at p_found_36, sv span_39, sv at_57, .any]) rfl (h_at_57 ▸ rfl) (ev_int 1) ?_
          cases hc_54
          exact fun σ Kn H s => hN_52 _ _ (Nat.lt_succ_self _) hP_53 σ Kn H ((s.le (.keep (.keep (.keep (.keep (.keep (.keep (.keep .nil)))))))).sub (List.Sublist.refl _))
        · have hP_53 := ite_f hb_55 hP_53
          cases hP_53
          refine kx_59 _ _ ?_
          refine SB.is (sl' := [sv columns_33, sv spans_34, .at p_taken_35, .at p_found_36, sv span_39, sv at_58, .any]) (ow1 := [ol p_found_36 found_37, oo p_taken_35 taken_38]) rfl rfl ?_
          obtain ⟨q_60, h_q_60, hc_42⟩ := bind_some hc_42
          obtain ⟨r_61, h_r_61, hc_42⟩ := bind_some hc_42
          obtain ⟨r_62, h_r_62, hc_42⟩ := bind_some hc_42
          obtain ⟨taken_71, h_tot_69, hc_42⟩ := bind_some hc_42
          refine SB.seqB (fun kx_72 => sb_for (β := (Int × Int × Unit)) (Sx := (Dc (Int × Int × Unit) Bool)) (fun s => [sv columns_33, sv spans_34, .at p_taken_35, .at p_found_36, sv span_39, sv at_58, .any]) (fun s => [ol p_found_36 found_37, oo p_taken_35 s]) (fun x s => [sv columns_33, sv spans_34, .at p_taken_35, .at p_found_36, sv span_39, sv at_58, sv x]) [6] (fun xs s => forS (m_put_cells_L3) xs s = some taken_71) taken_38 (IT.m (it_list (EN.ev (en_call (ea_cons (ev_op (ev_var (i := 5) rfl) (ev_var (i := 0) rfl) (r2_divO h_q_60)) (ea_cons (ev_op (ev_var (i := 5) rfl) (ev_var (i := 0) rfl) (r2_modO h_r_61)) (ea_cons (ev_var (i := 4) rfl) ea_nil))) h_r_62)))) h_tot_69 (.keep (.keep (.keep (.keep (.keep (.keep (.keep .nil))))))) (List.Sublist.refl _) (fun x s => (gt_name rfl)) ?_ ?_)
          · intro Kn1 b1 cell_64 rest_ taken_63 hP_66 N_ hN_65
            obtain ⟨c_, hc_67, hP_66⟩ := bind_some hP_66
            have q_68 := q_43.base b1
            unfold m_put_cells_L3 at hc_67
            refine SB.is (sl' := [sv columns_33, sv spans_34, .at p_taken_35, .at p_found_36, sv span_39, sv at_58, sv cell_64]) (ow1 := [ol p_found_36 found_37, oo p_taken_35 taken_63]) rfl rfl ?_
            obtain ⟨taken_70, h_taken_70, hc_67⟩ := bind_some hc_67
            refine sb_dput (i := 2) (j := 1) rfl rfl (ev_bool true) (ev_var (i := 6) rfl) h_taken_70 (ow1 := [ol p_found_36 found_37, oo p_taken_35 taken_70]) rfl ?_
            cases hc_67
            exact fun σ Kn H s => hN_65 _ hP_66 σ Kn H ((s.le (.keep (.keep (.keep (.keep (.keep (.keep (.drop .nil)))))))).sub (List.Sublist.refl _))
          · intro s_ h0
            cases h0
            refine kx_72 _ _ ?_
            refine SB.is (sl' := [sv columns_33, sv spans_34, .at p_taken_35, .at p_found_36, sv span_39, sv at_58, .any]) (ow1 := [ol p_found_36 found_37, oo p_taken_35 taken_71]) rfl rfl ?_
            obtain ⟨q_73, h_q_73, hc_42⟩ := bind_some hc_42
            obtain ⟨r_74, h_r_74, hc_42⟩ := bind_some hc_42
            obtain ⟨found_75, h_found_75, hc_42⟩ := bind_some hc_42
            refine sb_appO (i := 3) (j := 0) rfl rfl (ev_tup (ea_cons (ev_op (ev_var (i := 5) rfl) (ev_var (i := 0) rfl) (r2_divO h_q_73)) (ea_cons (ev_op (ev_var (i := 5) rfl) (ev_var (i := 0) rfl) (r2_modO h_r_74)) ea_nil))) h_found_75 (ow1 := [ol p_found_36 found_75, oo p_taken_35 taken_71]) rfl ?_
            cases hc_42
            exact fun σ Kn H s => hN_40 _ hP_41 σ Kn H ((s.le (.keep (.keep (.keep (.keep (.drop (.drop (.keep .nil)))))))).sub (List.Sublist.refl _))
    · intro s_ h0
      cases h0
      refine kx_78 _ _ ?_
      refine SB.is (sl' := [sv columns_33, sv spans_34, .at p_taken_35, .at p_found_36, .any, .any, .any]) (ow1 := [ol p_found_36 found_76, oo p_taken_35 taken_77]) rfl rfl ?_
      cases hf
      exact sb_retO (i := 3) (j := 0) rfl rfl q (List.Sublist.cons _ (List.Sublist.cons _ List.Sublist.slnil))
theorem sc_last_row : FnScope ["spans", "places", "span", "place"] ["spans", "places"] (defScope s_last_row) := ⟨rfl, rfl, rfl, by decide +kernel, rfl, by decide +kernel, by decide +kernel⟩
set_option maxHeartbeats 4000000 in
theorem ok_last_row (T : TX K mg w) : FnOk P w K mg base CX0 1 T.a_last_row T.d_last_row ["spans", "places"] (PF (τ := (Tu (Int × Int × Unit)) × (List (Int × Int × Unit)) × Unit) K (fun t => m_last_row t.1 t.2.1)) := by
  refine T.F_last_row.ok sc_last_row (fun vs H Q E h => ?_) (fun cdv A outer s H vs Q E hr h => ?_)
  · obtain ⟨Kn, t, r, ek, h, hf, q⟩ := h
    exact Tp.len h
  · obtain ⟨Kn, t, r_, ek, h, hf, q⟩ := h
    obtain ⟨spans_79, places_80, u_⟩ := t
    obtain ⟨v_0, rr_, rfl, hv_0, h⟩ := h
    obtain ⟨v_1, rr_, rfl, hv_1, h⟩ := h
    obtain rfl := h
    replace hf : m_last_row spans_79 places_80 = some r_ := hf
    unfold m_last_row at hf
    refine ⟨_, (pss_one (ps_ret (pe_callBK (k_maxDf hr.units) (by rfl) T.z_max (by decide +kernel) (pa_cons (pe_lc (own := [("span", 2), ("place", 3)]) (g := gTup K 2 (gCons (gName 2) (gCons (gName 3) gNil))) (tt := tYes) (by rfl) sc_last_row.nd (pi_zipTL (by rfl) T.z_zip (pa_cons (pv 0) (pa_cons (pv 1) pa_nil))) (blkOk_by (own := [("span", 2), ("place", 3)]) (N := ["spans", "places", "span", "place"]) (sc := defScope s_last_row) (by decide +kernel)) (fun _ _ _ _ _ => (kpg_tup (n := 2) (pgs_cons (pg_name (i := 2) sc_last_row.nd rfl (Or.inl rfl)) (pgs_cons (pg_name (i := 3) sc_last_row.nd rfl (Or.inl rfl)) pgs_nil)))) (fun _ _ _ _ _ => pts_nil) (fun _ _ _ _ _ => (pe_op op_add (pe_ix k_ixt (pv 3) pe_int (fun _ _ => rfl)) (pe_ix k_ixt (pv 2) pe_int (fun _ _ => rfl))))) pa_nil) (pk_cons pe_int pk_nil)))), ?_⟩
    refine enter (K := K) (Kn := Kn) (sl := [sv spans_79, sv places_80, .any, .any]) ek ⟨⟨v_0, rfl, hv_0⟩, ⟨v_1, rfl, hv_1⟩, trivial, trivial, trivial⟩ ?_
    have q := rt_of q
    obtain ⟨zs_83, h_zs_83, hf⟩ := bind_some hf
    cases hf
    exact sb_ret (ev_maxd (EN.ev (en_lc (js := [2, 3]) (fun x => [sv spans_79, sv places_80, sv x.1, sv x.2.1]) h_zs_83 (it_zipTL (ea_cons (ev_var (i := 0) rfl) (ea_cons (ev_var (i := 1) rfl) ea_nil))) (anyAt_of (by rfl)) (fun x => (gt_tup (gts_cons (gt_name rfl) (gts_cons (gt_name rfl) gts_nil)))) (sub_of (by rfl)) (fun _ _ x b h => by cases h; exact et_yes) (fun _ _ x z _ h => by obtain ⟨span_81, place_82, _⟩ := x; have hz_ := Option.some.inj h; subst hz_; exact EV.is (sl' := [sv spans_79, sv places_80, sv span_81, sv place_82]) rfl (ev_op (ev_op (ev_var (i := 3) rfl) (ev_int 0) (r2_tix (n := 0) (At.z _ _))) (ev_op (ev_var (i := 2) rfl) (ev_int 1) (r2_tix (n := 1) (At.s _ (At.z _ _)))) r2_add)))) (ev_int 0)) q (List.Sublist.refl _)
theorem sc_rows_taken : FnScope ["columns", "spans"] ["columns", "spans"] (defScope s_rows_taken) := ⟨rfl, rfl, rfl, by decide +kernel, rfl, by decide +kernel, by decide +kernel⟩
set_option maxHeartbeats 4000000 in
theorem ok_rows_taken (T : TX K mg w) : FnOk P w K mg base CX0 3 T.a_rows_taken T.d_rows_taken ["columns", "spans"] (PF (τ := Int × (Tu (Int × Int × Unit)) × Unit) K (fun t => m_rows_taken t.1 t.2.1)) := by
  refine T.F_rows_taken.ok sc_rows_taken (fun vs H Q E h => ?_) (fun cdv A outer s H vs Q E hr h => ?_)
  · obtain ⟨Kn, t, r, ek, h, hf, q⟩ := h
    exact Tp.len h
  · obtain ⟨Kn, t, r_, ek, h, hf, q⟩ := h
    obtain ⟨columns_84, spans_85, u_⟩ := t
    obtain ⟨v_0, rr_, rfl, hv_0, h⟩ := h
    obtain ⟨v_1, rr_, rfl, hv_1, h⟩ := h
    obtain rfl := h
    replace hf : m_rows_taken columns_84 spans_85 = some r_ := hf
    unfold m_rows_taken at hf
    refine ⟨_, (pss_one (ps_ret (pe_call (ok_last_row T) (hr.mono (by decide)) (by rfl) T.g_last_row T.F_last_row.kp T.b_last_row .nil pass0 (pa_cons (pv 1) (pa_cons (pe_call (ok_put_cells T) hr (by rfl) T.g_put_cells T.F_put_cells.kp T.b_put_cells .nil pass0 (pa_cons (pv 0) (pa_cons (pv 1) pa_nil))) pa_nil))))), ?_⟩
    refine enter (K := K) (Kn := Kn) (sl := [sv columns_84, sv spans_85]) ek ⟨⟨v_0, rfl, hv_0⟩, ⟨v_1, rfl, hv_1⟩, trivial⟩ ?_
    have q := rt_of q
    obtain ⟨r_86, h_r_86, hf⟩ := bind_some hf
    obtain ⟨r_87, h_r_87, hf⟩ := bind_some hf
    cases hf
    exact sb_ret (ev_call (ea_cons (ev_var (i := 1) rfl) (ea_cons (EN.ev (en_call (ea_cons (ev_var (i := 0) rfl) (ea_cons (ev_var (i := 1) rfl) ea_nil)) h_r_86)) ea_nil)) h_r_87) q (List.Sublist.refl _)
theorem sc_is_piece : FnScope ["thing", "sign"] ["thing"] (defScope s_is_piece) := ⟨rfl, rfl, rfl, by decide +kernel, rfl, by decide +kernel, by decide +kernel⟩
set_option maxHeartbeats 4000000 in
theorem ok_is_piece (T : TX K mg w) : FnOk P w K mg base CX0 1 T.a_is_piece T.d_is_piece ["thing"] (PF (τ := Dy × Unit) K (fun t => m_is_piece t.1)) := by
  refine T.F_is_piece.ok sc_is_piece (fun vs H Q E h => ?_) (fun cdv A outer s H vs Q E hr h => ?_)
  · obtain ⟨Kn, t, r, ek, h, hf, q⟩ := h
    exact Tp.len h
  · obtain ⟨Kn, t, r_, ek, h, hf, q⟩ := h
    obtain ⟨thing_88, u_⟩ := t
    obtain ⟨v_0, rr_, rfl, hv_0, h⟩ := h
    obtain rfl := h
    replace hf : m_is_piece thing_88 = some r_ := hf
    unfold m_is_piece at hf
    refine ⟨_, (pss_cons (ps_if (PW.pt (pw_or (pt_not (pt_val (pe_callB k_isi (by rfl) T.z_isinstance (by decide +kernel) (pa_cons (pv 0) (pa_cons (pe_bltn (v := .ty "str") (u := .type "str") (by rfl) T.z_str (by decide +kernel) rfl) pa_nil))))) (pw_or1 (pt_not (pt_chain op_le op_le pe_int (pe_callB call_len_str (by rfl) T.z_len PySem.boot_len (pa_cons (pv 0) pa_nil)) (pe_glob (v := .int 12) (by rfl) T.gi_MOST_SIGNS ⟨_, rfl⟩)))))) (pss_one (ps_ret pe_bl)) pss_nil)
      (pss_cons (ps_for PassesOwn.never rfl (pi_str (pv 0)) (pg_name (i := 1) sc_is_piece.nd rfl (.inl rfl)) (pss_one (ps_if (pt_cmpR k_notInS (pv 1) (pe_glob (v := .str "!\"#$&'()*+,-./0123456789:;<=>?\u0040ABCDEFGHIJKLMNOPQRSTUVWXYZ[\\]^_`abcdefghijklmnopqrstuvwxyz{}~") (by rfl) T.gi_PIECE ⟨_, rfl⟩) (by rfl)) (pss_one (ps_ret pe_bl)) pss_nil)))
      (pss_one (ps_ret pe_bl)))), ?_⟩
    refine enter (K := K) (Kn := Kn) (sl := [sv thing_88, .any]) ek ⟨⟨v_0, rfl, hv_0⟩, trivial, trivial⟩ ?_
    have q := rt_of q
    obtain ⟨b_92, h_b_92, hf⟩ := bind_some hf
    refine SB.seqB (fun kx_94 => sb_if (b := b_92) (et_orO h_b_92 (et_not (et_B (ev_cb (ea_cons (ev_var (i := 0) rfl) (ea_cons (ev_ty "str") ea_nil)) (rc_isiD (by decide +kernel) (by decide +kernel) (by decide +kernel) (by decide +kernel) (by decide +kernel) (by decide +kernel))))) (fun _ _ h => by obtain ⟨o_90, h_o_90, h⟩ := bind_some h; obtain ⟨n_91, h_n_91, h⟩ := bind_some h; have hz_ := Option.some.inj h; subst hz_; exact (et_not (et_test (ev_chain (ev_int 1) (ev_cb (ea_cons (ev_of (ev_var (i := 0) rfl) h_o_90) ea_nil) (rc_lenS h_n_91)) r2_le (ev_int 12) r2_le))))) (fun hb_93 => ?_) (fun hb_93 => ?_))
    · have hf := ite_t hb_93 hf
      cases hf
      exact sb_ret (ev_bool false) q (List.Sublist.refl _)
    · have hf := ite_f hb_93 hf
      refine sb_nx ?_
      refine kx_94 _ _ ?_
      obtain ⟨o_95, h_o_95, hf⟩ := bind_some hf
      obtain ⟨tot_101, h_tot_101, hf⟩ := bind_some hf
      refine SB.seqB (fun kx_106 => sb_for (β := Str) (Sx := Unit) (fun s => [sv thing_88, .any]) (fun s => []) (fun x s => [sv thing_88, sv x]) [1] (fun xs s => forC (m_is_piece_L1) xs s = some tot_101) () (IT.m (it_str (ev_of (ev_var (i := 0) rfl) h_o_95))) h_tot_101 (.keep (.keep .nil)) (List.Sublist.refl _) (fun x s => (gt_name rfl)) ?_ ?_)
      · intro Kn1 b1 sign_96 rest_ s_ hP_98 N_ hN_97
        obtain ⟨c_, hc_99, hP_98⟩ := bind_some hP_98
        have q_100 := q.base b1
        unfold m_is_piece_L1 at hc_99
        refine SB.is (sl' := [sv thing_88, sv sign_96]) (ow1 := []) rfl rfl ?_
        obtain ⟨is_103, h_is_103, hc_99⟩ := bind_some hc_99
        refine sb_if (b := (!is_103)) (et_test (ev_op (ev_var (i := 1) rfl) (ev_str ("!\"#$&'()*+,-./0123456789:;<=>?\u0040ABCDEFGHIJKLMNOPQRSTUVWXYZ[\\]^_`abcdefghijklmnopqrstuvwxyz{}~" : Str)) (r2_notInS h_is_103))) (fun hb_104 => ?_) (fun hb_104 => ?_)
        · have hc_99 := ite_t hb_104 hc_99
          cases hc_99
          replace hP_98 : some (Ctl.rt false) = some tot_101 := hP_98
          cases hP_98
          replace hf : some false = some r_ := hf
          cases hf
          exact sb_ret (ev_bool false) q_100 (List.Sublist.refl _)
        · have hc_99 := ite_f hb_104 hc_99
          refine sb_nx ?_
          cases hc_99
          exact fun σ Kn H s => hN_97 _ hP_98 σ Kn H ((s.le (.keep (.drop .nil))).sub (List.Sublist.refl _))
      · intro s_ h0
        cases h0
        refine kx_106 _ _ ?_
        refine SB.is (sl' := [sv thing_88, .any]) (ow1 := []) rfl rfl ?_
        cases hf
        exact sb_ret (ev_bool true) q (List.Sublist.refl _)
theorem sc_are_words : FnScope ["words", "many", "word", "piece"] ["words"] (defScope s_are_words) := ⟨rfl, rfl, rfl, by decide +kernel, rfl, by decide +kernel, by decide +kernel⟩
set_option maxHeartbeats 4000000 in
theorem ok_are_words (T : TX K mg w) : FnOk P w K mg base CX0 2 T.a_are_words T.d_are_words ["words"] (PF (τ := Dy × Unit) K (fun t => m_are_words t.1)) := by
  refine T.F_are_words.ok sc_are_words (fun vs H Q E h => ?_) (fun cdv A outer s H vs Q E hr h => ?_)
  · obtain ⟨Kn, t, r, ek, h, hf, q⟩ := h
    exact Tp.len h
  · obtain ⟨Kn, t, r_, ek, h, hf, q⟩ := h
    obtain ⟨words_107, u_⟩ := t
    obtain ⟨v_0, rr_, rfl, hv_0, h⟩ := h
    obtain rfl := h
    replace hf : m_are_words words_107 = some r_ := hf
    unfold m_are_words at hf
    refine ⟨_, (pss_cons (ps_if (pt_not (pt_val (pe_callB k_isi (by rfl) T.z_isinstance (by decide +kernel) (pa_cons (pv 0) (pa_cons (pe_bltn (v := .ty "tuple") (u := .type "tuple") (by rfl) T.z_tuple (by decide +kernel) rfl) pa_nil))))) (pss_one (ps_ret pe_bl)) pss_nil)
      (pss_cons (ps_set (i := 1) sc_are_words.nd rfl (.inl rfl) pe_int)
      (pss_cons (ps_for PassesOwn.never rfl (kpi_tup (pv 0)) (pg_name (i := 2) sc_are_words.nd rfl (.inl rfl)) (pss_cons (ps_if (PW.pt (pw_or (pt_not (pt_val (pe_callB k_isi (by rfl) T.z_isinstance (by decide +kernel) (pa_cons (pv 2) (pa_cons (pe_bltn (v := .ty "tuple") (u := .type "tuple") (by rfl) T.z_tuple (by decide +kernel) rfl) pa_nil))))) (pw_or1 (pt_not (pt_chain op_le op_le pe_int (pe_callB k_len (by rfl) T.z_len PySem.boot_len (pa_cons (pv 2) pa_nil)) (pe_glob (v := .int 6) (by rfl) T.gi_MOST_PIECES ⟨_, rfl⟩)))))) (pss_one (ps_ret pe_bl)) pss_nil)
      (pss_cons (ps_if (pt_cmpR k_in pe_bl (pe_lc (own := [("piece", 3)]) (g := gName 3) (tt := tYes) (by rfl) sc_are_words.nd (kpi_tup (pv 2)) (blkOk_by (own := [("piece", 3)]) (N := ["words", "many", "word", "piece"]) (sc := defScope s_are_words) (by decide +kernel)) (fun _ _ _ _ _ => (pg_name (i := 3) sc_are_words.nd rfl (Or.inl rfl))) (fun _ _ _ _ _ => pts_nil) (fun _ _ _ _ _ => (pe_call (ok_is_piece T) hr (by rfl) T.g_is_piece T.F_is_piece.kp T.b_is_piece .nil pass0 (pa_cons (pv 3) pa_nil)))) (by rfl)) (pss_one (ps_ret pe_bl)) pss_nil)
      (pss_one (ps_set (i := 1) sc_are_words.nd rfl (.inl rfl) (pe_op op_add (pv 1) (pe_callB k_len (by rfl) T.z_len PySem.boot_len (pa_cons (pv 2) pa_nil))))))))
      (pss_one (ps_ret (pe_cmpR op_le (pv 1) (pe_glob (v := .int 60) (by rfl) T.gi_MOST_IN_ALL ⟨_, rfl⟩) (nomark _))))))), ?_⟩
    refine enter (K := K) (Kn := Kn) (sl := [sv words_107, .any, .any, .any]) ek ⟨⟨v_0, rfl, hv_0⟩, trivial, trivial, trivial, trivial⟩ ?_
    have q := rt_of q
    refine SB.seqB (fun kx_110 => sb_if (b := (!(isiD words_107 "tuple"))) (et_not (et_B (ev_cb (ea_cons (ev_var (i := 0) rfl) (ea_cons (ev_ty "tuple") ea_nil)) (rc_isiD (by decide +kernel) (by decide +kernel) (by decide +kernel) (by decide +kernel) (by decide +kernel) (by decide +kernel))))) (fun hb_109 => ?_) (fun hb_109 => ?_))
    · have hf := ite_t hb_109 hf
      cases hf
      exact sb_ret (ev_bool false) q (List.Sublist.refl _)
    · have hf := ite_f hb_109 hf
      refine sb_nx ?_
      refine kx_110 _ _ ?_
      obtain ⟨many_111, h_many_111, hf⟩ := bind_some hf
      refine SB.seqB (fun kx_ => sb_asg (sl' := [sv words_107, sv many_111, .any, .any]) rfl (EV.cast (ev_int 0) (Option.some.inj h_many_111)) (kx_ _ _ ?_))
      obtain ⟨o_112, h_o_112, hf⟩ := bind_some hf
      obtain ⟨tot_119, h_tot_119, hf⟩ := bind_some hf
      refine SB.seqB (fun kx_135 => sb_for (β := Dy) (Sx := Int) (fun s => [sv words_107, sv s, .any, .any]) (fun s => []) (fun x s => [sv words_107, sv s, sv x, .any]) [2] (fun xs s => forC (m_are_words_L1) xs s = some tot_119) many_111 (IT.m (it_tup (ev_of (ev_var (i := 0) rfl) h_o_112))) h_tot_119 (.keep (.keep (.keep (.keep .nil)))) (List.Sublist.refl _) (fun x s => (gt_name rfl)) ?_ ?_)
      · intro Kn1 b1 word_114 rest_ many_113 hP_116 N_ hN_115
        obtain ⟨c_, hc_117, hP_116⟩ := bind_some hP_116
        have q_118 := q.base b1
        unfold m_are_words_L1 at hc_117
        refine SB.is (sl' := [sv words_107, sv many_113, sv word_114, .any]) (ow1 := []) rfl rfl ?_
        obtain ⟨b_122, h_b_122, hc_117⟩ := bind_some hc_117
        refine SB.seqB (fun kx_124 => sb_if (b := b_122) (et_orO h_b_122 (et_not (et_B (ev_cb (ea_cons (ev_var (i := 2) rfl) (ea_cons (ev_ty "tuple") ea_nil)) (rc_isiD (by decide +kernel) (by decide +kernel) (by decide +kernel) (by decide +kernel) (by decide +kernel) (by decide +kernel))))) (fun _ _ h => by obtain ⟨o_121, h_o_121, h⟩ := bind_some h; have hz_ := Option.some.inj h; subst hz_; exact (et_not (et_test (ev_chain (ev_int 1) (ev_cb (ea_cons (ev_of (ev_var (i := 2) rfl) h_o_121) ea_nil) rc_lenT) r2_le (ev_int 6) r2_le))))) (fun hb_123 => ?_) (fun hb_123 => ?_))
        · have hc_117 := ite_t hb_123 hc_117
          cases hc_117
          replace hP_116 : some (Ctl.rt false) = some tot_119 := hP_116
          cases hP_116
          replace hf : some false = some r_ := hf
          cases hf
          exact sb_ret (ev_bool false) q_118 (List.Sublist.refl _)
        · have hc_117 := ite_f hb_123 hc_117
          refine sb_nx ?_
          refine kx_124 _ _ ?_
          obtain ⟨o_126, h_o_126, hc_117⟩ := bind_some hc_117
          obtain ⟨zs_128, h_zs_128, hc_117⟩ := bind_some hc_117
          refine SB.seqB (fun kx_131 => sb_if (b := (decide (false ∈ zs_128))) (et_test (ev_op (ev_bool false) (EN.ev (en_lc (js := [3]) (fun x => [sv words_107, sv many_113, sv word_114, sv x]) h_zs_128 (it_tup (ev_of (ev_var (i := 2) rfl) h_o_126)) (anyAt_of (by rfl)) (fun x => (gt_name rfl)) (sub_of (by rfl)) (fun _ _ x b h => by cases h; exact et_yes) (fun _ _ x z _ h => by obtain ⟨piece_127, hx_⟩ : ∃ y, y = x := ⟨x, rfl⟩; subst hx_; obtain ⟨r_129, h_r_129, h⟩ := bind_some h; have hz_ := Option.some.inj h; subst hz_; exact EV.is (sl' := [sv words_107, sv many_113, sv word_114, sv piece_127]) rfl (ev_call (ea_cons (ev_var (i := 3) rfl) ea_nil) h_r_129)))) r2_in)) (fun hb_130 => ?_) (fun hb_130 => ?_))
          · have hc_117 := ite_t hb_130 hc_117
            cases hc_117
            replace hP_116 : some (Ctl.rt false) = some tot_119 := hP_116
            cases hP_116
            replace hf : some false = some r_ := hf
            cases hf
            exact sb_ret (ev_bool false) q_118 (List.Sublist.refl _)
          · have hc_117 := ite_f hb_130 hc_117
            refine sb_nx ?_
            refine kx_131 _ _ ?_
            obtain ⟨o_132, h_o_132, hc_117⟩ := bind_some hc_117
            obtain ⟨many_133, h_many_133, hc_117⟩ := bind_some hc_117
            refine sb_asg (sl' := [sv words_107, sv many_133, sv word_114, .any]) rfl (EV.cast (ev_op (ev_var (i := 1) rfl) (ev_cb (ea_cons (ev_of (ev_var (i := 2) rfl) h_o_132) ea_nil) rc_lenT) r2_add) (Option.some.inj h_many_133)) ?_
            cases hc_117
            exact fun σ Kn H s => hN_115 _ hP_116 σ Kn H ((s.le (.keep (.keep (.drop (.keep .nil))))).sub (List.Sublist.refl _))
      · intro many_134 h0
        cases h0
        refine kx_135 _ _ ?_
        refine SB.is (sl' := [sv words_107, sv many_134, .any, .any]) (ow1 := []) rfl rfl ?_
        cases hf
        exact sb_ret (ev_op (ev_var (i := 1) rfl) (ev_int 60) r2_le) q (List.Sublist.refl _)
theorem sc_is_joint : FnScope ["thing"] ["thing"] (defScope s_is_joint) := ⟨rfl, rfl, rfl, by decide +kernel, rfl, by decide +kernel, by decide +kernel⟩
set_option maxHeartbeats 4000000 in
theorem ok_is_joint (T : TX K mg w) : FnOk P w K mg base CX0 1 T.a_is_joint T.d_is_joint ["thing"] (PF (τ := Dy × Unit) K (fun t => m_is_joint t.1)) := by
  refine T.F_is_joint.ok sc_is_joint (fun vs H Q E h => ?_) (fun cdv A outer s H vs Q E hr h => ?_)
  · obtain ⟨Kn, t, r, ek, h, hf, q⟩ := h
    exact Tp.len h
  · obtain ⟨Kn, t, r_, ek, h, hf, q⟩ := h
    obtain ⟨thing_136, u_⟩ := t
    obtain ⟨v_0, rr_, rfl, hv_0, h⟩ := h
    obtain rfl := h
    replace hf : m_is_joint thing_136 = some r_ := hf
    unfold m_is_joint at hf
    refine ⟨_, (pss_one (ps_ret (pe_and (pe_callB k_isi (by rfl) T.z_isinstance (by decide +kernel) (pa_cons (pv 0) (pa_cons (pe_bltn (v := .ty "int") (u := .type "int") (by rfl) T.z_int (by decide +kernel) rfl) pa_nil))) (pe_and (pe_not (pe_callB k_isi (by rfl) T.z_isinstance (by decide +kernel) (pa_cons (pv 0) (pa_cons (pe_bltn (v := .ty "bool") (u := .type "bool") (by rfl) T.z_bool (by decide +kernel) rfl) pa_nil)))) (pe_one (pe_chain op_le op_le pe_int (pv 0) (pe_glob (v := .int 999) (by rfl) T.gi_MOST_JOINT ⟨_, rfl⟩))))))), ?_⟩
    refine enter (K := K) (Kn := Kn) (sl := [sv thing_136]) ek ⟨⟨v_0, rfl, hv_0⟩, trivial⟩ ?_
    have q := rt_of q
    obtain ⟨b_139, h_b_139, hf⟩ := bind_some hf
    cases hf
    exact sb_ret (ev_andO h_b_139 (ev_cb (ea_cons (ev_var (i := 0) rfl) (ea_cons (ev_ty "int") ea_nil)) (rc_isiD (by decide +kernel) (by decide +kernel) (by decide +kernel) (by decide +kernel) (by decide +kernel) (by decide +kernel))) (fun _ _ h => by obtain ⟨b_138, h_b_138, h⟩ := bind_some h; have hz_ := Option.some.inj h; subst hz_; exact (ev_andO h_b_138 (ev_notV (ev_cb (ea_cons (ev_var (i := 0) rfl) (ea_cons (ev_ty "bool") ea_nil)) (rc_isiD (by decide +kernel) (by decide +kernel) (by decide +kernel) (by decide +kernel) (by decide +kernel) (by decide +kernel)))) (fun _ _ h => by obtain ⟨o_137, h_o_137, h⟩ := bind_some h; have hz_ := Option.some.inj h; subst hz_; exact (ev_chain (ev_int 0) (ev_of (ev_var (i := 0) rfl) h_o_137) r2_le (ev_int 999) r2_le))))) q (List.Sublist.refl _)
theorem sc_words_ok : FnScope ["what", "parts"] ["what", "parts"] (defScope s_words_ok) := ⟨rfl, rfl, rfl, by decide +kernel, rfl, by decide +kernel, by decide +kernel⟩
set_option maxHeartbeats 4000000 in
theorem ok_words_ok (T : TX K mg w) : FnOk P w K mg base CX0 3 T.a_words_ok T.d_words_ok ["what", "parts"] (PF (τ := Dy × Dy × Unit) K (fun t => m_words_ok t.1 t.2.1)) := by
  refine T.F_words_ok.ok sc_words_ok (fun vs H Q E h => ?_) (fun cdv A outer s H vs Q E hr h => ?_)
  · obtain ⟨Kn, t, r, ek, h, hf, q⟩ := h
    exact Tp.len h
  · obtain ⟨Kn, t, r_, ek, h, hf, q⟩ := h
    obtain ⟨what_140, parts_141, u_⟩ := t
    obtain ⟨v_0, rr_, rfl, hv_0, h⟩ := h
    obtain ⟨v_1, rr_, rfl, hv_1, h⟩ := h
    obtain rfl := h
    replace hf : m_words_ok what_140 parts_141 = some r_ := hf
    unfold m_words_ok at hf
    refine ⟨_, (pss_cons (ps_if (PW.pt (pw_or (pt_not (pt_val (pe_callB k_isi (by rfl) T.z_isinstance (by decide +kernel) (pa_cons (pv 0) (pa_cons (pe_bltn (v := .ty "tuple") (u := .type "tuple") (by rfl) T.z_tuple (by decide +kernel) rfl) pa_nil))))) (pw_or (pt_cmpR op_ne (pe_callB k_len (by rfl) T.z_len PySem.boot_len (pa_cons (pv 0) pa_nil)) pe_int (nomark _)) (pw_or1 (pt_cmpR (k_neD hr.units) (pv 1) (pe_tup pa_nil) (nomark _)))))) (pss_one (ps_ret pe_bl)) pss_nil)
      (pss_one (ps_ret (pe_and (pe_call (ok_are_words T) hr (by rfl) T.g_are_words T.F_are_words.kp T.b_are_words .nil pass0 (pa_cons (pe_ix k_ixt (pv 0) pe_int (fun _ _ => rfl)) pa_nil)) (pe_one (pe_call (ok_is_joint T) (hr.mono (by decide)) (by rfl) T.g_is_joint T.F_is_joint.kp T.b_is_joint .nil pass0 (pa_cons (pe_ix k_ixt (pv 0) pe_int (fun _ _ => rfl)) pa_nil))))))), ?_⟩
    refine enter (K := K) (Kn := Kn) (sl := [sv what_140, sv parts_141]) ek ⟨⟨v_0, rfl, hv_0⟩, ⟨v_1, rfl, hv_1⟩, trivial⟩ ?_
    have q := rt_of q
    obtain ⟨b_146, h_b_146, hf⟩ := bind_some hf
    refine SB.seqB (fun kx_148 => sb_if (b := b_146) (et_orO h_b_146 (et_not (et_B (ev_cb (ea_cons (ev_var (i := 0) rfl) (ea_cons (ev_ty "tuple") ea_nil)) (rc_isiD (by decide +kernel) (by decide +kernel) (by decide +kernel) (by decide +kernel) (by decide +kernel) (by decide +kernel))))) (fun _ _ h => by obtain ⟨o_143, h_o_143, h⟩ := bind_some h; obtain ⟨b_145, h_b_145, h⟩ := bind_some h; have hz_ := Option.some.inj h; subst hz_; exact (et_orO h_b_145 (et_test (ev_op (ev_cb (ea_cons (ev_of (ev_var (i := 0) rfl) h_o_143) ea_nil) rc_lenT) (ev_int 2) r2_neI)) (fun _ _ h => by obtain ⟨e_144, h_e_144, h⟩ := bind_some h; have hz_ := Option.some.inj h; subst hz_; exact (et_test (ev_op (ev_var (i := 1) rfl) (ev_up (ev_tuH (xs := ([] : List Int)) el_nil)) (r2_neY h_e_144))))))) (fun hb_147 => ?_) (fun hb_147 => ?_))
    · have hf := ite_t hb_147 hf
      cases hf
      exact sb_ret (ev_bool false) q (List.Sublist.refl _)
    · have hf := ite_f hb_147 hf
      refine sb_nx ?_
      refine kx_148 _ _ ?_
      obtain ⟨o_149, h_o_149, hf⟩ := bind_some hf
      obtain ⟨i_150, h_i_150, hf⟩ := bind_some hf
      obtain ⟨r_151, h_r_151, hf⟩ := bind_some hf
      obtain ⟨b_155, h_b_155, hf⟩ := bind_some hf
      cases hf
      exact sb_ret (ev_andO h_b_155 (ev_call (ea_cons (ev_op (ev_of (ev_var (i := 0) rfl) h_o_149) (ev_int 0) (r2_ixU h_i_150)) ea_nil) h_r_151) (fun _ _ h => by obtain ⟨o_152, h_o_152, h⟩ := bind_some h; obtain ⟨i_153, h_i_153, h⟩ := bind_some h; obtain ⟨r_154, h_r_154, h⟩ := bind_some h; have hz_ := Option.some.inj h; subst hz_; exact (ev_call (ea_cons (ev_op (ev_of (ev_var (i := 0) rfl) h_o_152) (ev_int 1) (r2_ixU h_i_153)) ea_nil) h_r_154))) q (List.Sublist.refl _)
theorem sc_flow_ok : FnScope ["what", "parts", "side"] ["what", "parts"] (defScope s_flow_ok) := ⟨rfl, rfl, rfl, by decide +kernel, rfl, by decide +kernel, by decide +kernel⟩
set_option maxHeartbeats 4000000 in
theorem ok_flow_ok (T : TX K mg w) : FnOk P w K mg base CX0 3 T.a_flow_ok T.d_flow_ok ["what", "parts"] (PF (τ := Dy × Dy × Unit) K (fun t => m_flow_ok t.1 t.2.1)) := by
  refine T.F_flow_ok.ok sc_flow_ok (fun vs H Q E h => ?_) (fun cdv A outer s H vs Q E hr h => ?_)
  · obtain ⟨Kn, t, r, ek, h, hf, q⟩ := h
    exact Tp.len h
  · obtain ⟨Kn, t, r_, ek, h, hf, q⟩ := h
    obtain ⟨what_156, parts_157, u_⟩ := t
    obtain ⟨v_0, rr_, rfl, hv_0, h⟩ := h
    obtain ⟨v_1, rr_, rfl, hv_1, h⟩ := h
    obtain rfl := h
    replace hf : m_flow_ok what_156 parts_157 = some r_ := hf
    unfold m_flow_ok at hf
    refine ⟨_, (pss_cons (ps_if (PW.pt (pw_or (pt_not (pt_val (pe_callB k_isi (by rfl) T.z_isinstance (by decide +kernel) (pa_cons (pv 0) (pa_cons (pe_bltn (v := .ty "tuple") (u := .type "tuple") (by rfl) T.z_tuple (by decide +kernel) rfl) pa_nil))))) (pw_or (pt_cmpR op_ne (pe_callB k_len (by rfl) T.z_len PySem.boot_len (pa_cons (pv 0) pa_nil)) pe_int (nomark _)) (pw_or (pt_not (pt_val (pe_callB k_isi (by rfl) T.z_isinstance (by decide +kernel) (pa_cons (pe_ix k_ixt (pv 0) pe_int (fun _ _ => rfl)) (pa_cons (pe_bltn (v := .ty "tuple") (u := .type "tuple") (by rfl) T.z_tuple (by decide +kernel) rfl) pa_nil))))) (pw_or1 (pt_cmpR op_gt (pe_callB k_len (by rfl) T.z_len PySem.boot_len (pa_cons (pv 1) pa_nil)) pe_int (nomark _))))))) (pss_one (ps_ret pe_bl)) pss_nil)
      (pss_cons (ps_if (PW.pt (pw_or (pt_cmpR op_ne (pe_callB k_len (by rfl) T.z_len PySem.boot_len (pa_cons (pe_ix k_ixt (pv 0) pe_int (fun _ _ => rfl)) pa_nil)) (pe_callB k_len (by rfl) T.z_len PySem.boot_len (pa_cons (pv 1) pa_nil)) (nomark _)) (pw_or1 (pt_cmpR k_in pe_bl (pe_lc (own := [("side", 2)]) (g := gName 2) (tt := tYes) (by rfl) sc_flow_ok.nd (kpi_tup (pe_ix k_ixt (pv 0) pe_int (fun _ _ => rfl))) (blkOk_by (own := [("side", 2)]) (N := ["what", "parts", "side"]) (sc := defScope s_flow_ok) (by decide +kernel)) (fun _ _ _ _ _ => (pg_name (i := 2) sc_flow_ok.nd rfl (Or.inl rfl))) (fun _ _ _ _ _ => pts_nil) (fun _ _ _ _ _ => (pe_callB k_isi (by rfl) T.z_isinstance (by decide +kernel) (pa_cons (pv 2) (pa_cons (pe_bltn (v := .ty "str") (u := .type "str") (by rfl) T.z_str (by decide +kernel) rfl) pa_nil))))) (by rfl))))) (pss_one (ps_ret pe_bl)) pss_nil)
      (pss_cons (ps_if (pt_cmpR k_in pe_bl (pe_lc (own := [("side", 2)]) (g := gName 2) (tt := tYes) (by rfl) sc_flow_ok.nd (kpi_tup (pe_ix k_ixt (pv 0) pe_int (fun _ _ => rfl))) (blkOk_by (own := [("side", 2)]) (N := ["what", "parts", "side"]) (sc := defScope s_flow_ok) (by decide +kernel)) (fun _ _ _ _ _ => (pg_name (i := 2) sc_flow_ok.nd rfl (Or.inl rfl))) (fun _ _ _ _ _ => pts_nil) (fun _ _ _ _ _ => (pe_cmpR k_in (pv 2) (pe_lst (pa_cons pe_str (pa_cons pe_str pa_nil))) (by rfl)))) (by rfl)) (pss_one (ps_ret pe_bl)) pss_nil)
      (pss_one (ps_ret (pe_and (pe_call (ok_are_words T) hr (by rfl) T.g_are_words T.F_are_words.kp T.b_are_words .nil pass0 (pa_cons (pe_ix k_ixt (pv 0) pe_int (fun _ _ => rfl)) pa_nil)) (pe_one (pe_call (ok_is_joint T) (hr.mono (by decide)) (by rfl) T.g_is_joint T.F_is_joint.kp T.b_is_joint .nil pass0 (pa_cons (pe_ix k_ixt (pv 0) pe_int (fun _ _ => rfl)) pa_nil))))))))), ?_⟩
    refine enter (K := K) (Kn := Kn) (sl := [sv what_156, sv parts_157, .any]) ek ⟨⟨v_0, rfl, hv_0⟩, ⟨v_1, rfl, hv_1⟩, trivial, trivial⟩ ?_
    have q := rt_of q
    obtain ⟨b_165, h_b_165, hf⟩ := bind_some hf
    refine SB.seqB (fun kx_167 => sb_if (b := b_165) (et_orO h_b_165 (et_not (et_B (ev_cb (ea_cons (ev_var (i := 0) rfl) (ea_cons (ev_ty "tuple") ea_nil)) (rc_isiD (by decide +kernel) (by decide +kernel) (by decide +kernel) (by decide +kernel) (by decide +kernel) (by decide +kernel))))) (fun _ _ h => by obtain ⟨o_159, h_o_159, h⟩ := bind_some h; obtain ⟨b_164, h_b_164, h⟩ := bind_some h; have hz_ := Option.some.inj h; subst hz_; exact (et_orO h_b_164 (et_test (ev_op (ev_cb (ea_cons (ev_of (ev_var (i := 0) rfl) h_o_159) ea_nil) rc_lenT) (ev_int 3) r2_neI)) (fun _ _ h => by obtain ⟨o_160, h_o_160, h⟩ := bind_some h; obtain ⟨i_161, h_i_161, h⟩ := bind_some h; obtain ⟨b_163, h_b_163, h⟩ := bind_some h; have hz_ := Option.some.inj h; subst hz_; exact (et_orO h_b_163 (et_not (et_B (ev_cb (ea_cons (ev_op (ev_of (ev_var (i := 0) rfl) h_o_160) (ev_int 0) (r2_ixU h_i_161)) (ea_cons (ev_ty "tuple") ea_nil)) (rc_isiD (by decide +kernel) (by decide +kernel) (by decide +kernel) (by decide +kernel) (by decide +kernel) (by decide +kernel))))) (fun _ _ h => by obtain ⟨o_162, h_o_162, h⟩ := bind_some h; have hz_ := Option.some.inj h; subst hz_; exact (et_test (ev_op (ev_cb (ea_cons (ev_of (ev_var (i := 1) rfl) h_o_162) ea_nil) rc_lenT) (ev_int 12) r2_gt)))))))) (fun hb_166 => ?_) (fun hb_166 => ?_))
    · have hf := ite_t hb_166 hf
      cases hf
      exact sb_ret (ev_bool false) q (List.Sublist.refl _)
    · have hf := ite_f hb_166 hf
      refine sb_nx ?_
      refine kx_167 _ _ ?_
      obtain ⟨o_169, h_o_169, hf⟩ := bind_some hf
      obtain ⟨i_170, h_i_170, hf⟩ := bind_some hf
      obtain ⟨o_171, h_o_171, hf⟩ := bind_some hf
      obtain ⟨o_172, h_o_172, hf⟩ := bind_some hf
      obtain ⟨b_178, h_b_178, hf⟩ := bind_some hf
      refine SB.seqB (fun kx_180 => sb_if (b := b_178) (et_orO h_b_178 (et_test (ev_op (ev_cb (ea_cons (ev_of (ev_op (ev_of (ev_var (i := 0) rfl) h_o_169) (ev_int 0) (r2_ixU h_i_170)) h_o_171) ea_nil) rc_lenT) (ev_cb (ea_cons (ev_of (ev_var (i := 1) rfl) h_o_172) ea_nil) rc_lenT) r2_neI)) (fun _ _ h => by obtain ⟨o_173, h_o_173, h⟩ := bind_some h; obtain ⟨i_174, h_i_174, h⟩ := bind_some h; obtain ⟨o_175, h_o_175, h⟩ := bind_some h; obtain ⟨zs_177, h_zs_177, h⟩ := bind_some h; have hz_ := Option.some.inj h; subst hz_; exact (et_test (ev_op (ev_bool false) (EN.ev (en_lc (js := [2]) (fun x => [sv what_156, sv parts_157, sv x]) h_zs_177 (it_tup (ev_of (ev_op (ev_of (ev_var (i := 0) rfl) h_o_173) (ev_int 0) (r2_ixU h_i_174)) h_o_175)) (anyAt_of (by rfl)) (fun x => (gt_name rfl)) (sub_of (by rfl)) (fun _ _ x b h => by cases h; exact et_yes) (fun _ _ x z _ h => by obtain ⟨side_176, hx_⟩ : ∃ y, y = x := ⟨x, rfl⟩; subst hx_; have hz_ := Option.some.inj h; subst hz_; exact EV.is (sl' := [sv what_156, sv parts_157, sv side_176]) rfl (ev_cb (ea_cons (ev_var (i := 2) rfl) (ea_cons (ev_ty "str") ea_nil)) (rc_isiD (by decide +kernel) (by decide +kernel) (by decide +kernel) (by decide +kernel) (by decide +kernel) (by decide +kernel)))))) r2_in)))) (fun hb_179 => ?_) (fun hb_179 => ?_))
      · have hf := ite_t hb_179 hf
        cases hf
        exact sb_ret (ev_bool false) q (List.Sublist.refl _)
      · have hf := ite_f hb_179 hf
        refine sb_nx ?_
        refine kx_180 _ _ ?_
        obtain ⟨o_182, h_o_182, hf⟩ := bind_some hf
        obtain ⟨i_183, h_i_183, hf⟩ := bind_some hf
        obtain ⟨o_184, h_o_184, hf⟩ := bind_some hf
        obtain ⟨zs_186, h_zs_186, hf⟩ := bind_some hf
        refine SB.seqB (fun kx_189 => sb_if (b := (decide (false ∈ zs_186))) (et_test (ev_op (ev_bool false) (EN.ev (en_lc (js := [2]) (fun x => [sv what_156, sv parts_157, sv x]) h_zs_186 (it_tup (ev_of (ev_op (ev_of (ev_var (i := 0) rfl) h_o_182) (ev_int 0) (r2_ixU h_i_183)) h_o_184)) (anyAt_of (by rfl)) (fun x => (gt_name rfl)) (sub_of (by rfl)) (fun _ _ x b h => by cases h; exact et_yes) (fun _ _ x z _ h => by obtain ⟨side_185, hx_⟩ : ∃ y, y = x := ⟨x, rfl⟩; subst hx_; obtain ⟨o_187, h_o_187, h⟩ := bind_some h; have hz_ := Option.some.inj h; subst hz_; exact EV.is (sl' := [sv what_156, sv parts_157, sv side_185]) rfl (ev_op (ev_of (ev_var (i := 2) rfl) h_o_187) (EN.ev (en_lst (el_cons (ev_str ("left" : Str)) (el_cons (ev_str ("right" : Str)) el_nil)))) r2_in)))) r2_in)) (fun hb_188 => ?_) (fun hb_188 => ?_))
        · have hf := ite_t hb_188 hf
          cases hf
          exact sb_ret (ev_bool false) q (List.Sublist.refl _)
        · have hf := ite_f hb_188 hf
          refine sb_nx ?_
          refine kx_189 _ _ ?_
          obtain ⟨o_190, h_o_190, hf⟩ := bind_some hf
          obtain ⟨i_191, h_i_191, hf⟩ := bind_some hf
          obtain ⟨r_192, h_r_192, hf⟩ := bind_some hf
          obtain ⟨b_196, h_b_196, hf⟩ := bind_some hf
          cases hf
          exact sb_ret (ev_andO h_b_196 (ev_call (ea_cons (ev_op (ev_of (ev_var (i := 0) rfl) h_o_190) (ev_int 1) (r2_ixU h_i_191)) ea_nil) h_r_192) (fun _ _ h => by obtain ⟨o_193, h_o_193, h⟩ := bind_some h; obtain ⟨i_194, h_i_194, h⟩ := bind_some h; obtain ⟨r_195, h_r_195, h⟩ := bind_some h; have hz_ := Option.some.inj h; subst hz_; exact (ev_call (ea_cons (ev_op (ev_of (ev_var (i := 0) rfl) h_o_193) (ev_int 2) (r2_ixU h_i_194)) ea_nil) h_r_195))) q (List.Sublist.refl _)
theorem sc_is_anchor : FnScope ["thing", "by"] ["thing"] (defScope s_is_anchor) := ⟨rfl, rfl, rfl, by decide +kernel, rfl, by decide +kernel, by decide +kernel⟩
set_option maxHeartbeats 4000000 in
theorem ok_is_anchor (T : TX K mg w) : FnOk P w K mg base CX0 1 T.a_is_anchor T.d_is_anchor ["thing"] (PF (τ := Dy × Unit) K (fun t => m_is_anchor t.1)) := by
  refine T.F_is_anchor.ok sc_is_anchor (fun vs H Q E h => ?_) (fun cdv A outer s H vs Q E hr h => ?_)
  · obtain ⟨Kn, t, r, ek, h, hf, q⟩ := h
    exact Tp.len h
  · obtain ⟨Kn, t, r_, ek, h, hf, q⟩ := h
    obtain ⟨thing_197, u_⟩ := t
    obtain ⟨v_0, rr_, rfl, hv_0, h⟩ := h
    obtain rfl := h
    replace hf : m_is_anchor thing_197 = some r_ := hf
    unfold m_is_anchor at hf
    refine ⟨_, (pss_cons (ps_if (PW.pt (pw_or (pt_not (pt_val (pe_callB k_isi (by rfl) T.z_isinstance (by decide +kernel) (pa_cons (pv 0) (pa_cons (pe_bltn (v := .ty "tuple") (u := .type "tuple") (by rfl) T.z_tuple (by decide +kernel) rfl) pa_nil))))) (pw_or (pt_cmpR op_ne (pe_callB k_len (by rfl) T.z_len PySem.boot_len (pa_cons (pv 0) pa_nil)) pe_int (nomark _)) (pw_or (pt_not (pt_val (pe_callB k_isi (by rfl) T.z_isinstance (by decide +kernel) (pa_cons (pe_ix k_ixt (pv 0) pe_int (fun _ _ => rfl)) (pa_cons (pe_bltn (v := .ty "str") (u := .type "str") (by rfl) T.z_str (by decide +kernel) rfl) pa_nil))))) (pw_or1 (pt_cmpR k_notIn (pe_ix k_ixt (pv 0) pe_int (fun _ _ => rfl)) (pe_glob (v := .ref T.la_ANCHORS) (by rfl) T.lg_ANCHORS rfl) (by rfl))))))) (pss_one (ps_ret pe_bl)) pss_nil)
      (pss_cons (ps_set (i := 1) sc_is_anchor.nd rfl (.inl rfl) (pe_ix k_ixt (pv 0) pe_int (fun _ _ => rfl)))
      (pss_one (ps_ret (pe_and (pe_callB k_isi (by rfl) T.z_isinstance (by decide +kernel) (pa_cons (pv 1) (pa_cons (pe_bltn (v := .ty "int") (u := .type "int") (by rfl) T.z_int (by decide +kernel) rfl) pa_nil))) (pe_and (pe_not (pe_callB k_isi (by rfl) T.z_isinstance (by decide +kernel) (pa_cons (pv 1) (pa_cons (pe_bltn (v := .ty "bool") (u := .type "bool") (by rfl) T.z_bool (by decide +kernel) rfl) pa_nil)))) (pe_one (pe_chain op_le op_le (pe_op op_sub pe_int (pe_glob (v := .int 1000000) (by rfl) T.gi_MOST_BY ⟨_, rfl⟩)) (pv 1) (pe_glob (v := .int 1000000) (by rfl) T.gi_MOST_BY ⟨_, rfl⟩))))))))), ?_⟩
    refine enter (K := K) (Kn := Kn) (sl := [sv thing_197, .any]) ek ⟨⟨v_0, rfl, hv_0⟩, trivial, trivial⟩ ?_
    have q := rt_of q
    obtain ⟨b_207, h_b_207, hf⟩ := bind_some hf
    refine SB.seqB (fun kx_209 => sb_if (b := b_207) (et_orO h_b_207 (et_not (et_B (ev_cb (ea_cons (ev_var (i := 0) rfl) (ea_cons (ev_ty "tuple") ea_nil)) (rc_isiD (by decide +kernel) (by decide +kernel) (by decide +kernel) (by decide +kernel) (by decide +kernel) (by decide +kernel))))) (fun _ _ h => by obtain ⟨o_199, h_o_199, h⟩ := bind_some h; obtain ⟨b_206, h_b_206, h⟩ := bind_some h; have hz_ := Option.some.inj h; subst hz_; exact (et_orO h_b_206 (et_test (ev_op (ev_cb (ea_cons (ev_of (ev_var (i := 0) rfl) h_o_199) ea_nil) rc_lenT) (ev_int 2) r2_neI)) (fun _ _ h => by obtain ⟨o_200, h_o_200, h⟩ := bind_some h; obtain ⟨i_201, h_i_201, h⟩ := bind_some h; obtain ⟨b_205, h_b_205, h⟩ := bind_some h; have hz_ := Option.some.inj h; subst hz_; exact (et_orO h_b_205 (et_not (et_B (ev_cb (ea_cons (ev_op (ev_of (ev_var (i := 0) rfl) h_o_200) (ev_int 0) (r2_ixU h_i_201)) (ea_cons (ev_ty "str") ea_nil)) (rc_isiD (by decide +kernel) (by decide +kernel) (by decide +kernel) (by decide +kernel) (by decide +kernel) (by decide +kernel))))) (fun _ _ h => by obtain ⟨o_202, h_o_202, h⟩ := bind_some h; obtain ⟨i_203, h_i_203, h⟩ := bind_some h; obtain ⟨o_204, h_o_204, h⟩ := bind_some h; have hz_ := Option.some.inj h; subst hz_; exact (et_test (ev_op (ev_of (ev_op (ev_of (ev_var (i := 0) rfl) h_o_202) (ev_int 0) (r2_ixU h_i_203)) h_o_204) (ev_klst T.lt_ANCHORS) r2_notInF)))))))) (fun hb_208 => ?_) (fun hb_208 => ?_))
    · have hf := ite_t hb_208 hf
      cases hf
      exact sb_ret (ev_bool false) q (List.Sublist.refl _)
    · have hf := ite_f hb_208 hf
      refine sb_nx ?_
      refine kx_209 _ _ ?_
      obtain ⟨o_210, h_o_210, hf⟩ := bind_some hf
      obtain ⟨i_211, h_i_211, hf⟩ := bind_some hf
      obtain ⟨by_212, h_by_212, hf⟩ := bind_some hf
      refine SB.seqB (fun kx_ => sb_asg (sl' := [sv thing_197, sv by_212]) rfl (EV.cast (ev_op (ev_of (ev_var (i := 0) rfl) h_o_210) (ev_int 1) (r2_ixU h_i_211)) (Option.some.inj h_by_212)) (kx_ _ _ ?_))
      obtain ⟨b_215, h_b_215, hf⟩ := bind_some hf
      cases hf
      exact sb_ret (ev_andO h_b_215 (ev_cb (ea_cons (ev_var (i := 1) rfl) (ea_cons (ev_ty "int") ea_nil)) (rc_isiD (by decide +kernel) (by decide +kernel) (by decide +kernel) (by decide +kernel) (by decide +kernel) (by decide +kernel))) (fun _ _ h => by obtain ⟨b_214, h_b_214, h⟩ := bind_some h; have hz_ := Option.some.inj h; subst hz_; exact (ev_andO h_b_214 (ev_notV (ev_cb (ea_cons (ev_var (i := 1) rfl) (ea_cons (ev_ty "bool") ea_nil)) (rc_isiD (by decide +kernel) (by decide +kernel) (by decide +kernel) (by decide +kernel) (by decide +kernel) (by decide +kernel)))) (fun _ _ h => by obtain ⟨o_213, h_o_213, h⟩ := bind_some h; have hz_ := Option.some.inj h; subst hz_; exact (ev_chain (ev_op (ev_int 0) (ev_int 1000000) r2_sub) (ev_of (ev_var (i := 1) rfl) h_o_213) r2_le (ev_int 1000000) r2_le))))) q (List.Sublist.refl _)
theorem sc_over_ok : FnScope ["what", "parts", "pair"] ["what", "parts"] (defScope s_over_ok) := ⟨rfl, rfl, rfl, by decide +kernel, rfl, by decide +kernel, by decide +kernel⟩
set_option maxHeartbeats 4000000 in
theorem ok_over_ok (T : TX K mg w) : FnOk P w K mg base CX0 2 T.a_over_ok T.d_over_ok ["what", "parts"] (PF (τ := Dy × Dy × Unit) K (fun t => m_over_ok t.1 t.2.1)) := by
  refine T.F_over_ok.ok sc_over_ok (fun vs H Q E h => ?_) (fun cdv A outer s H vs Q E hr h => ?_)
  · obtain ⟨Kn, t, r, ek, h, hf, q⟩ := h
    exact Tp.len h
  · obtain ⟨Kn, t, r_, ek, h, hf, q⟩ := h
    obtain ⟨what_216, parts_217, u_⟩ := t
    obtain ⟨v_0, rr_, rfl, hv_0, h⟩ := h
    obtain ⟨v_1, rr_, rfl, hv_1, h⟩ := h
    obtain rfl := h
    replace hf : m_over_ok what_216 parts_217 = some r_ := hf
    unfold m_over_ok at hf
    refine ⟨_, (pss_cons (ps_if (PW.pt (pw_or (pt_not (pt_val (pe_callB k_isi (by rfl) T.z_isinstance (by decide +kernel) (pa_cons (pv 0) (pa_cons (pe_bltn (v := .ty "tuple") (u := .type "tuple") (by rfl) T.z_tuple (by decide +kernel) rfl) pa_nil))))) (pw_or (pt_not (pt_chain op_le op_le pe_int (pe_callB k_len (by rfl) T.z_len PySem.boot_len (pa_cons (pv 1) pa_nil)) (pe_glob (v := .int 12) (by rfl) T.gi_MOST_OVER ⟨_, rfl⟩))) (pw_or1 (pt_cmpR op_ne (pe_callB k_len (by rfl) T.z_len PySem.boot_len (pa_cons (pv 0) pa_nil)) (pe_op op_sub (pe_callB k_len (by rfl) T.z_len PySem.boot_len (pa_cons (pv 1) pa_nil)) pe_int) (nomark _)))))) (pss_one (ps_ret pe_bl)) pss_nil)
      (pss_cons (ps_for PassesOwn.never rfl (kpi_tup (pv 0)) (pg_name (i := 2) sc_over_ok.nd rfl (.inl rfl)) (pss_one (ps_if (PW.pt (pw_or (pt_not (pt_val (pe_callB k_isi (by rfl) T.z_isinstance (by decide +kernel) (pa_cons (pv 2) (pa_cons (pe_bltn (v := .ty "tuple") (u := .type "tuple") (by rfl) T.z_tuple (by decide +kernel) rfl) pa_nil))))) (pw_or (pt_cmpR op_ne (pe_callB k_len (by rfl) T.z_len PySem.boot_len (pa_cons (pv 2) pa_nil)) pe_int (nomark _)) (pw_or (pt_not (pt_val (pe_call (ok_is_anchor T) hr (by rfl) T.g_is_anchor T.F_is_anchor.kp T.b_is_anchor .nil pass0 (pa_cons (pe_ix k_ixt (pv 2) pe_int (fun _ _ => rfl)) pa_nil)))) (pw_or1 (pt_not (pt_val (pe_call (ok_is_anchor T) hr (by rfl) T.g_is_anchor T.F_is_anchor.kp T.b_is_anchor .nil pass0 (pa_cons (pe_ix k_ixt (pv 2) pe_int (fun _ _ => rfl)) pa_nil))))))))) (pss_one (ps_ret pe_bl)) pss_nil)))
      (pss_one (ps_ret pe_bl)))), ?_⟩
    refine enter (K := K) (Kn := Kn) (sl := [sv what_216, sv parts_217, .any]) ek ⟨⟨v_0, rfl, hv_0⟩, ⟨v_1, rfl, hv_1⟩, trivial, trivial⟩ ?_
    have q := rt_of q
    obtain ⟨b_223, h_b_223, hf⟩ := bind_some hf
    refine SB.seqB (fun kx_225 => sb_if (b := b_223) (et_orO h_b_223 (et_not (et_B (ev_cb (ea_cons (ev_var (i := 0) rfl) (ea_cons (ev_ty "tuple") ea_nil)) (rc_isiD (by decide +kernel) (by decide +kernel) (by decide +kernel) (by decide +kernel) (by decide +kernel) (by decide +kernel))))) (fun _ _ h => by obtain ⟨o_219, h_o_219, h⟩ := bind_some h; obtain ⟨b_222, h_b_222, h⟩ := bind_some h; have hz_ := Option.some.inj h; subst hz_; exact (et_orO h_b_222 (et_not (et_test (ev_chain (ev_int 1) (ev_cb (ea_cons (ev_of (ev_var (i := 1) rfl) h_o_219) ea_nil) rc_lenT) r2_le (ev_int 12) r2_le))) (fun _ _ h => by obtain ⟨o_220, h_o_220, h⟩ := bind_some h; obtain ⟨o_221, h_o_221, h⟩ := bind_some h; have hz_ := Option.some.inj h; subst hz_; exact (et_test (ev_op (ev_cb (ea_cons (ev_of (ev_var (i := 0) rfl) h_o_220) ea_nil) rc_lenT) (ev_op (ev_cb (ea_cons (ev_of (ev_var (i := 1) rfl) h_o_221) ea_nil) rc_lenT) (ev_int 1) r2_sub) r2_neI)))))) (fun hb_224 => ?_) (fun hb_224 => ?_))
    · have hf := ite_t hb_224 hf
      cases hf
      exact sb_ret (ev_bool false) q (List.Sublist.refl _)
    · have hf := ite_f hb_224 hf
      refine sb_nx ?_
      refine kx_225 _ _ ?_
      obtain ⟨o_226, h_o_226, hf⟩ := bind_some hf
      obtain ⟨tot_232, h_tot_232, hf⟩ := bind_some hf
      refine SB.seqB (fun kx_246 => sb_for (β := Dy) (Sx := Unit) (fun s => [sv what_216, sv parts_217, .any]) (fun s => []) (fun x s => [sv what_216, sv parts_217, sv x]) [2] (fun xs s => forC (m_over_ok_L1) xs s = some tot_232) () (IT.m (it_tup (ev_of (ev_var (i := 0) rfl) h_o_226))) h_tot_232 (.keep (.keep (.keep .nil))) (List.Sublist.refl _) (fun x s => (gt_name rfl)) ?_ ?_)
      · intro Kn1 b1 pair_227 rest_ s_ hP_229 N_ hN_228
        obtain ⟨c_, hc_230, hP_229⟩ := bind_some hP_229
        have q_231 := q.base b1
        unfold m_over_ok_L1 at hc_230
        refine SB.is (sl' := [sv what_216, sv parts_217, sv pair_227]) (ow1 := []) rfl rfl ?_
        obtain ⟨b_243, h_b_243, hc_230⟩ := bind_some hc_230
        refine sb_if (b := b_243) (et_orO h_b_243 (et_not (et_B (ev_cb (ea_cons (ev_var (i := 2) rfl) (ea_cons (ev_ty "tuple") ea_nil)) (rc_isiD (by decide +kernel) (by decide +kernel) (by decide +kernel) (by decide +kernel) (by decide +kernel) (by decide +kernel))))) (fun _ _ h => by obtain ⟨o_234, h_o_234, h⟩ := bind_some h; obtain ⟨b_242, h_b_242, h⟩ := bind_some h; have hz_ := Option.some.inj h; subst hz_; exact (et_orO h_b_242 (et_test (ev_op (ev_cb (ea_cons (ev_of (ev_var (i := 2) rfl) h_o_234) ea_nil) rc_lenT) (ev_int 2) r2_neI)) (fun _ _ h => by obtain ⟨o_235, h_o_235, h⟩ := bind_some h; obtain ⟨i_236, h_i_236, h⟩ := bind_some h; obtain ⟨r_237, h_r_237, h⟩ := bind_some h; obtain ⟨b_241, h_b_241, h⟩ := bind_some h; have hz_ := Option.some.inj h; subst hz_; exact (et_orO h_b_241 (et_not (et_B (ev_call (ea_cons (ev_op (ev_of (ev_var (i := 2) rfl) h_o_235) (ev_int 0) (r2_ixU h_i_236)) ea_nil) h_r_237))) (fun _ _ h => by obtain ⟨o_238, h_o_238, h⟩ := bind_some h; obtain ⟨i_239, h_i_239, h⟩ := bind_some h; obtain ⟨r_240, h_r_240, h⟩ := bind_some h; have hz_ := Option.some.inj h; subst hz_; exact (et_not (et_B (ev_call (ea_cons (ev_op (ev_of (ev_var (i := 2) rfl) h_o_238) (ev_int 1) (r2_ixU h_i_239)) ea_nil) h_r_240))))))))) (fun hb_244 => ?_) (fun hb_244 => ?_)
        · have hc_230 := ite_t hb_244 hc_230
          cases hc_230
          replace hP_229 : some (Ctl.rt false) = some tot_232 := hP_229
          cases hP_229
          replace hf : some false = some r_ := hf
          cases hf
          exact sb_ret (ev_bool false) q_231 (List.Sublist.refl _)
        · have hc_230 := ite_f hb_244 hc_230
          refine sb_nx ?_
          cases hc_230
          exact fun σ Kn H s => hN_228 _ hP_229 σ Kn H ((s.le (.keep (.keep (.drop .nil)))).sub (List.Sublist.refl _))
      · intro s_ h0
        cases h0
        refine kx_246 _ _ ?_
        refine SB.is (sl' := [sv what_216, sv parts_217, .any]) (ow1 := []) rfl rfl ?_
        cases hf
        exact sb_ret (ev_bool true) q (List.Sublist.refl _)
theorem sc_is_whole : FnScope ["thing", "least", "greatest"] ["thing", "least", "greatest"] (defScope s_is_whole) := ⟨rfl, rfl, rfl, by decide +kernel, rfl, by decide +kernel, by decide +kernel⟩
set_option maxHeartbeats 4000000 in
theorem ok_is_whole (T : TX K mg w) : FnOk P w K mg base CX0 1 T.a_is_whole T.d_is_whole ["thing", "least", "greatest"] (PF (τ := Dy × Int × Int × Unit) K (fun t => m_is_whole t.1 t.2.1 t.2.2.1)) := by
  refine T.F_is_whole.ok sc_is_whole (fun vs H Q E h => ?_) (fun cdv A outer s H vs Q E hr h => ?_)
  · obtain ⟨Kn, t, r, ek, h, hf, q⟩ := h
    exact Tp.len h
  · obtain ⟨Kn, t, r_, ek, h, hf, q⟩ := h
    obtain ⟨thing_247, least_248, greatest_249, u_⟩ := t
    obtain ⟨v_0, rr_, rfl, hv_0, h⟩ := h
    obtain ⟨v_1, rr_, rfl, hv_1, h⟩ := h
    obtain ⟨v_2, rr_, rfl, hv_2, h⟩ := h
    obtain rfl := h
    replace hf : m_is_whole thing_247 least_248 greatest_249 = some r_ := hf
    unfold m_is_whole at hf
    refine ⟨_, (pss_one (ps_ret (pe_and (pe_callB k_isi (by rfl) T.z_isinstance (by decide +kernel) (pa_cons (pv 0) (pa_cons (pe_bltn (v := .ty "int") (u := .type "int") (by rfl) T.z_int (by decide +kernel) rfl) pa_nil))) (pe_and (pe_not (pe_callB k_isi (by rfl) T.z_isinstance (by decide +kernel) (pa_cons (pv 0) (pa_cons (pe_bltn (v := .ty "bool") (u := .type "bool") (by rfl) T.z_bool (by decide +kernel) rfl) pa_nil)))) (pe_one (pe_chain op_le op_le (pv 1) (pv 0) (pv 2))))))), ?_⟩
    refine enter (K := K) (Kn := Kn) (sl := [sv thing_247, sv least_248, sv greatest_249]) ek ⟨⟨v_0, rfl, hv_0⟩, ⟨v_1, rfl, hv_1⟩, ⟨v_2, rfl, hv_2⟩, trivial⟩ ?_
    have q := rt_of q
    obtain ⟨b_252, h_b_252, hf⟩ := bind_some hf
    cases hf
    exact sb_ret (ev_andO h_b_252 (ev_cb (ea_cons (ev_var (i := 0) rfl) (ea_cons (ev_ty "int") ea_nil)) (rc_isiD (by decide +kernel) (by decide +kernel) (by decide +kernel) (by decide +kernel) (by decide +kernel) (by decide +kernel))) (fun _ _ h => by obtain ⟨b_251, h_b_251, h⟩ := bind_some h; have hz_ := Option.some.inj h; subst hz_; exact (ev_andO h_b_251 (ev_notV (ev_cb (ea_cons (ev_var (i := 0) rfl) (ea_cons (ev_ty "bool") ea_nil)) (rc_isiD (by decide +kernel) (by decide +kernel) (by decide +kernel) (by decide +kernel) (by decide +kernel) (by decide +kernel)))) (fun _ _ h => by obtain ⟨o_250, h_o_250, h⟩ := bind_some h; have hz_ := Option.some.inj h; subst hz_; exact (ev_chain (ev_var (i := 1) rfl) (ev_of (ev_var (i := 0) rfl) h_o_250) r2_le (ev_var (i := 2) rfl) r2_le))))) q (List.Sublist.refl _)
theorem sc_is_name : FnScope ["thing", "sign"] ["thing"] (defScope s_is_name) := ⟨rfl, rfl, rfl, by decide +kernel, rfl, by decide +kernel, by decide +kernel⟩
set_option maxHeartbeats 4000000 in
theorem ok_is_name (T : TX K mg w) : FnOk P w K mg base CX0 1 T.a_is_name T.d_is_name ["thing"] (PF (τ := Dy × Unit) K (fun t => m_is_name t.1)) := by
  refine T.F_is_name.ok sc_is_name (fun vs H Q E h => ?_) (fun cdv A outer s H vs Q E hr h => ?_)
  · obtain ⟨Kn, t, r, ek, h, hf, q⟩ := h
    exact Tp.len h
  · obtain ⟨Kn, t, r_, ek, h, hf, q⟩ := h
    obtain ⟨thing_253, u_⟩ := t
    obtain ⟨v_0, rr_, rfl, hv_0, h⟩ := h
    obtain rfl := h
    replace hf : m_is_name thing_253 = some r_ := hf
    unfold m_is_name at hf
    refine ⟨_, (pss_cons (ps_if (PW.pt (pw_or (pt_not (pt_val (pe_callB k_isi (by rfl) T.z_isinstance (by decide +kernel) (pa_cons (pv 0) (pa_cons (pe_bltn (v := .ty "str") (u := .type "str") (by rfl) T.z_str (by decide +kernel) rfl) pa_nil))))) (pw_or1 (pt_not (pt_chain op_le op_le pe_int (pe_callB call_len_str (by rfl) T.z_len PySem.boot_len (pa_cons (pv 0) pa_nil)) pe_int))))) (pss_one (ps_ret pe_bl)) pss_nil)
      (pss_one (ps_ret (pe_callB k_all (by rfl) T.z_all (by decide +kernel) (pa_cons (pe_lc (own := [("sign", 1)]) (g := gName 1) (tt := tYes) (by rfl) sc_is_name.nd (pi_str (pv 0)) (blkOk_by (own := [("sign", 1)]) (N := ["thing", "sign"]) (sc := defScope s_is_name) (by decide +kernel)) (fun _ _ _ _ _ => (pg_name (i := 1) sc_is_name.nd rfl (Or.inl rfl))) (fun _ _ _ _ _ => pts_nil) (fun _ _ _ _ _ => (pe_cmpR k_inS (pv 1) (pe_glob (v := .str "abcdefghijklmnopqrstuvwxyz") (by rfl) T.gi_SMALL ⟨_, rfl⟩) (by rfl)))) pa_nil))))), ?_⟩
    refine enter (K := K) (Kn := Kn) (sl := [sv thing_253, .any]) ek ⟨⟨v_0, rfl, hv_0⟩, trivial, trivial⟩ ?_
    have q := rt_of q
    obtain ⟨b_257, h_b_257, hf⟩ := bind_some hf
    refine SB.seqB (fun kx_259 => sb_if (b := b_257) (et_orO h_b_257 (et_not (et_B (ev_cb (ea_cons (ev_var (i := 0) rfl) (ea_cons (ev_ty "str") ea_nil)) (rc_isiD (by decide +kernel) (by decide +kernel) (by decide +kernel) (by decide +kernel) (by decide +kernel) (by decide +kernel))))) (fun _ _ h => by obtain ⟨o_255, h_o_255, h⟩ := bind_some h; obtain ⟨n_256, h_n_256, h⟩ := bind_some h; have hz_ := Option.some.inj h; subst hz_; exact (et_not (et_test (ev_chain (ev_int 1) (ev_cb (ea_cons (ev_of (ev_var (i := 0) rfl) h_o_255) ea_nil) (rc_lenS h_n_256)) r2_le (ev_int 8) r2_le))))) (fun hb_258 => ?_) (fun hb_258 => ?_))
    · have hf := ite_t hb_258 hf
      cases hf
      exact sb_ret (ev_bool false) q (List.Sublist.refl _)
    · have hf := ite_f hb_258 hf
      refine sb_nx ?_
      refine kx_259 _ _ ?_
      obtain ⟨o_260, h_o_260, hf⟩ := bind_some hf
      obtain ⟨zs_262, h_zs_262, hf⟩ := bind_some hf
      cases hf
      exact sb_ret (ev_cb (ea_cons (EN.ev (en_lc (js := [1]) (fun x => [sv thing_253, sv x]) h_zs_262 (it_str (ev_of (ev_var (i := 0) rfl) h_o_260)) (anyAt_of (by rfl)) (fun x => (gt_name rfl)) (sub_of (by rfl)) (fun _ _ x b h => by cases h; exact et_yes) (fun _ _ x z _ h => by obtain ⟨sign_261, hx_⟩ : ∃ y, y = x := ⟨x, rfl⟩; subst hx_; obtain ⟨is_263, h_is_263, h⟩ := bind_some h; have hz_ := Option.some.inj h; subst hz_; exact EV.is (sl' := [sv thing_253, sv sign_261]) rfl (ev_op (ev_var (i := 1) rfl) (ev_str ("abcdefghijklmnopqrstuvwxyz" : Str)) (r2_inS h_is_263))))) ea_nil) rc_all) q (List.Sublist.refl _)
theorem sc_is_pair : FnScope ["thing", "least", "greatest"] ["thing", "least", "greatest"] (defScope s_is_pair) := ⟨rfl, rfl, rfl, by decide +kernel, rfl, by decide +kernel, by decide +kernel⟩
set_option maxHeartbeats 4000000 in
theorem ok_is_pair (T : TX K mg w) : FnOk P w K mg base CX0 2 T.a_is_pair T.d_is_pair ["thing", "least", "greatest"] (PF (τ := Dy × Int × Int × Unit) K (fun t => m_is_pair t.1 t.2.1 t.2.2.1)) := by
  refine T.F_is_pair.ok sc_is_pair (fun vs H Q E h => ?_) (fun cdv A outer s H vs Q E hr h => ?_)
  · obtain ⟨Kn, t, r, ek, h, hf, q⟩ := h
    exact Tp.len h
  · obtain ⟨Kn, t, r_, ek, h, hf, q⟩ := h
    obtain ⟨thing_264, least_265, greatest_266, u_⟩ := t
    obtain ⟨v_0, rr_, rfl, hv_0, h⟩ := h
    obtain ⟨v_1, rr_, rfl, hv_1, h⟩ := h
    obtain ⟨v_2, rr_, rfl, hv_2, h⟩ := h
    obtain rfl := h
    replace hf : m_is_pair thing_264 least_265 greatest_266 = some r_ := hf
    unfold m_is_pair at hf
    refine ⟨_, (pss_cons (ps_if (PW.pt (pw_or (pt_not (pt_val (pe_callB k_isi (by rfl) T.z_isinstance (by decide +kernel) (pa_cons (pv 0) (pa_cons (pe_bltn (v := .ty "tuple") (u := .type "tuple") (by rfl) T.z_tuple (by decide +kernel) rfl) pa_nil))))) (pw_or1 (pt_cmpR op_ne (pe_callB k_len (by rfl) T.z_len PySem.boot_len (pa_cons (pv 0) pa_nil)) pe_int (nomark _))))) (pss_one (ps_ret pe_bl)) pss_nil)
      (pss_one (ps_ret (pe_and (pe_call (ok_is_whole T) hr (by rfl) T.g_is_whole T.F_is_whole.kp T.b_is_whole .nil pass0 (pa_cons (pe_ix k_ixt (pv 0) pe_int (fun _ _ => rfl)) (pa_cons (pv 1) (pa_cons (pv 2) pa_nil)))) (pe_one (pe_call (ok_is_whole T) hr (by rfl) T.g_is_whole T.F_is_whole.kp T.b_is_whole .nil pass0 (pa_cons (pe_ix k_ixt (pv 0) pe_int (fun _ _ => rfl)) (pa_cons (pv 1) (pa_cons (pv 2) pa_nil))))))))), ?_⟩
    refine enter (K := K) (Kn := Kn) (sl := [sv thing_264, sv least_265, sv greatest_266]) ek ⟨⟨v_0, rfl, hv_0⟩, ⟨v_1, rfl, hv_1⟩, ⟨v_2, rfl, hv_2⟩, trivial⟩ ?_
    have q := rt_of q
    obtain ⟨b_269, h_b_269, hf⟩ := bind_some hf
    refine SB.seqB (fun kx_271 => sb_if (b := b_269) (et_orO h_b_269 (et_not (et_B (ev_cb (ea_cons (ev_var (i := 0) rfl) (ea_cons (ev_ty "tuple") ea_nil)) (rc_isiD (by decide +kernel) (by decide +kernel) (by decide +kernel) (by decide +kernel) (by decide +kernel) (by decide +kernel))))) (fun _ _ h => by obtain ⟨o_268, h_o_268, h⟩ := bind_some h; have hz_ := Option.some.inj h; subst hz_; exact (et_test (ev_op (ev_cb (ea_cons (ev_of (ev_var (i := 0) rfl) h_o_268) ea_nil) rc_lenT) (ev_int 2) r2_neI)))) (fun hb_270 => ?_) (fun hb_270 => ?_))
    · have hf := ite_t hb_270 hf
      cases hf
      exact sb_ret (ev_bool false) q (List.Sublist.refl _)
    · have hf := ite_f hb_270 hf
      refine sb_nx ?_
      refine kx_271 _ _ ?_
      obtain ⟨o_272, h_o_272, hf⟩ := bind_some hf
      obtain ⟨i_273, h_i_273, hf⟩ := bind_some hf
      obtain ⟨r_274, h_r_274, hf⟩ := bind_some hf
      obtain ⟨b_278, h_b_278, hf⟩ := bind_some hf
      cases hf
      exact sb_ret (ev_andO h_b_278 (ev_call (ea_cons (ev_op (ev_of (ev_var (i := 0) rfl) h_o_272) (ev_int 0) (r2_ixU h_i_273)) (ea_cons (ev_var (i := 1) rfl) (ea_cons (ev_var (i := 2) rfl) ea_nil))) h_r_274) (fun _ _ h => by obtain ⟨o_275, h_o_275, h⟩ := bind_some h; obtain ⟨i_276, h_i_276, h⟩ := bind_some h; obtain ⟨r_277, h_r_277, h⟩ := bind_some h; have hz_ := Option.some.inj h; subst hz_; exact (ev_call (ea_cons (ev_op (ev_of (ev_var (i := 0) rfl) h_o_275) (ev_int 1) (r2_ixU h_i_276)) (ea_cons (ev_var (i := 1) rfl) (ea_cons (ev_var (i := 2) rfl) ea_nil))) h_r_277))) q (List.Sublist.refl _)
theorem sc_is_span : FnScope ["thing"] ["thing"] (defScope s_is_span) := ⟨rfl, rfl, rfl, by decide +kernel, rfl, by decide +kernel, by decide +kernel⟩
set_option maxHeartbeats 4000000 in
theorem ok_is_span (T : TX K mg w) : FnOk P w K mg base CX0 3 T.a_is_span T.d_is_span ["thing"] (PF (τ := Dy × Unit) K (fun t => m_is_span t.1)) := by
  refine T.F_is_span.ok sc_is_span (fun vs H Q E h => ?_) (fun cdv A outer s H vs Q E hr h => ?_)
  · obtain ⟨Kn, t, r, ek, h, hf, q⟩ := h
    exact Tp.len h
  · obtain ⟨Kn, t, r_, ek, h, hf, q⟩ := h
    obtain ⟨thing_279, u_⟩ := t
    obtain ⟨v_0, rr_, rfl, hv_0, h⟩ := h
    obtain rfl := h
    replace hf : m_is_span thing_279 = some r_ := hf
    unfold m_is_span at hf
    refine ⟨_, (pss_one (ps_ret (pe_and (pe_call (ok_is_pair T) hr (by rfl) T.g_is_pair T.F_is_pair.kp T.b_is_pair .nil pass0 (pa_cons (pv 0) (pa_cons pe_int (pa_cons (pe_glob (v := .int 1000000) (by rfl) T.gi_GREATEST ⟨_, rfl⟩) pa_nil)))) (pe_one (pe_cmpR op_le (pe_ix k_ixt (pv 0) pe_int (fun _ _ => rfl)) (pe_ix k_ixt (pv 0) pe_int (fun _ _ => rfl)) (nomark _)))))), ?_⟩
    refine enter (K := K) (Kn := Kn) (sl := [sv thing_279]) ek ⟨⟨v_0, rfl, hv_0⟩, trivial⟩ ?_
    have q := rt_of q
    obtain ⟨r_280, h_r_280, hf⟩ := bind_some hf
    obtain ⟨b_287, h_b_287, hf⟩ := bind_some hf
    cases hf
    exact sb_ret (ev_andO h_b_287 (ev_call (ea_cons (ev_var (i := 0) rfl) (ea_cons (ev_int 0) (ea_cons (ev_int 1000000) ea_nil))) h_r_280) (fun _ _ h => by obtain ⟨o_281, h_o_281, h⟩ := bind_some h; obtain ⟨i_282, h_i_282, h⟩ := bind_some h; obtain ⟨o_283, h_o_283, h⟩ := bind_some h; obtain ⟨i_284, h_i_284, h⟩ := bind_some h; obtain ⟨o_285, h_o_285, h⟩ := bind_some h; obtain ⟨o_286, h_o_286, h⟩ := bind_some h; have hz_ := Option.some.inj h; subst hz_; exact (ev_op (ev_of (ev_op (ev_of (ev_var (i := 0) rfl) h_o_281) (ev_int 0) (r2_ixU h_i_282)) h_o_285) (ev_of (ev_op (ev_of (ev_var (i := 0) rfl) h_o_283) (ev_int 1) (r2_ixU h_i_284)) h_o_286) r2_le))) q (List.Sublist.refl _)
theorem sc_is_own : FnScope ["thing"] ["thing"] (defScope s_is_own) := ⟨rfl, rfl, rfl, by decide +kernel, rfl, by decide +kernel, by decide +kernel⟩
set_option maxHeartbeats 4000000 in
theorem ok_is_own (T : TX K mg w) : FnOk P w K mg base CX0 4 T.a_is_own T.d_is_own ["thing"] (PF (τ := Dy × Unit) K (fun t => m_is_own t.1)) := by
  refine T.F_is_own.ok sc_is_own (fun vs H Q E h => ?_) (fun cdv A outer s H vs Q E hr h => ?_)
  · obtain ⟨Kn, t, r, ek, h, hf, q⟩ := h
    exact Tp.len h
  · obtain ⟨Kn, t, r_, ek, h, hf, q⟩ := h
    obtain ⟨thing_288, u_⟩ := t
    obtain ⟨v_0, rr_, rfl, hv_0, h⟩ := h
    obtain rfl := h
    replace hf : m_is_own thing_288 = some r_ := hf
    unfold m_is_own at hf
    refine ⟨_, (pss_cons (ps_if (PW.pt (pw_or (pt_not (pt_val (pe_callB k_isi (by rfl) T.z_isinstance (by decide +kernel) (pa_cons (pv 0) (pa_cons (pe_bltn (v := .ty "tuple") (u := .type "tuple") (by rfl) T.z_tuple (by decide +kernel) rfl) pa_nil))))) (pw_or (pt_cmpR op_ne (pe_callB k_len (by rfl) T.z_len PySem.boot_len (pa_cons (pv 0) pa_nil)) pe_int (nomark _)) (pw_or (pt_not (pt_val (pe_call (ok_is_span T) hr (by rfl) T.g_is_span T.F_is_span.kp T.b_is_span .nil pass0 (pa_cons (pe_ix k_ixt (pv 0) pe_int (fun _ _ => rfl)) pa_nil)))) (pw_or1 (pt_not (pt_val (pe_call (ok_is_span T) hr (by rfl) T.g_is_span T.F_is_span.kp T.b_is_span .nil pass0 (pa_cons (pe_ix k_ixt (pv 0) pe_int (fun _ _ => rfl)) pa_nil))))))))) (pss_one (ps_ret pe_bl)) pss_nil)
      (pss_cons (ps_if (PW.pt (pw_or (pt_not (pt_val (pe_call (ok_is_whole T) (hr.mono (by decide)) (by rfl) T.g_is_whole T.F_is_whole.kp T.b_is_whole .nil pass0 (pa_cons (pe_ix k_ixt (pv 0) pe_int (fun _ _ => rfl)) (pa_cons pe_int (pa_cons pe_int pa_nil)))))) (pw_or1 (pt_not (pt_val (pe_call (ok_is_whole T) (hr.mono (by decide)) (by rfl) T.g_is_whole T.F_is_whole.kp T.b_is_whole .nil pass0 (pa_cons (pe_ix k_ixt (pv 0) pe_int (fun _ _ => rfl)) (pa_cons pe_int (pa_cons pe_int pa_nil))))))))) (pss_one (ps_ret pe_bl)) pss_nil)
      (pss_one (ps_ret (pe_and (pe_call (ok_is_whole T) (hr.mono (by decide)) (by rfl) T.g_is_whole T.F_is_whole.kp T.b_is_whole .nil pass0 (pa_cons (pe_ix k_ixt (pv 0) pe_int (fun _ _ => rfl)) (pa_cons pe_int (pa_cons pe_int pa_nil)))) (pe_one (pe_call (ok_is_whole T) (hr.mono (by decide)) (by rfl) T.g_is_whole T.F_is_whole.kp T.b_is_whole .nil pass0 (pa_cons (pe_ix k_ixt (pv 0) pe_int (fun _ _ => rfl)) (pa_cons pe_int (pa_cons pe_int pa_nil)))))))))), ?_⟩
    refine enter (K := K) (Kn := Kn) (sl := [sv thing_288]) ek ⟨⟨v_0, rfl, hv_0⟩, trivial⟩ ?_
    have q := rt_of q
    obtain ⟨b_299, h_b_299, hf⟩ := bind_some hf
    refine SB.seqB (fun kx_301 => sb_if (b := b_299) (et_orO h_b_299 (et_not (et_B (ev_cb (ea_cons (ev_var (i := 0) rfl) (ea_cons (ev_ty "tuple") ea_nil)) (rc_isiD (by decide +kernel) (by decide +kernel) (by decide +kernel) (by decide +kernel) (by decide +kernel) (by decide +kernel))))) (fun _ _ h => by obtain ⟨o_290, h_o_290, h⟩ := bind_some h; obtain ⟨b_298, h_b_298, h⟩ := bind_some h; have hz_ := Option.some.inj h; subst hz_; exact (et_orO h_b_298 (et_test (ev_op (ev_cb (ea_cons (ev_of (ev_var (i := 0) rfl) h_o_290) ea_nil) rc_lenT) (ev_int 6) r2_neI)) (fun _ _ h => by obtain ⟨o_291, h_o_291, h⟩ := bind_some h; obtain ⟨i_292, h_i_292, h⟩ := bind_some h; obtain ⟨r_293, h_r_293, h⟩ := bind_some h; obtain ⟨b_297, h_b_297, h⟩ := bind_some h; have hz_ := Option.some.inj h; subst hz_; exact (et_orO h_b_297 (et_not (et_B (ev_call (ea_cons (ev_op (ev_of (ev_var (i := 0) rfl) h_o_291) (ev_int 0) (r2_ixU h_i_292)) ea_nil) h_r_293))) (fun _ _ h => by obtain ⟨o_294, h_o_294, h⟩ := bind_some h; obtain ⟨i_295, h_i_295, h⟩ := bind_some h; obtain ⟨r_296, h_r_296, h⟩ := bind_some h; have hz_ := Option.some.inj h; subst hz_; exact (et_not (et_B (ev_call (ea_cons (ev_op (ev_of (ev_var (i := 0) rfl) h_o_294) (ev_int 1) (r2_ixU h_i_295)) ea_nil) h_r_296))))))))) (fun hb_300 => ?_) (fun hb_300 => ?_))
    · have hf := ite_t hb_300 hf
      cases hf
      exact sb_ret (ev_bool false) q (List.Sublist.refl _)
    · have hf := ite_f hb_300 hf
      refine sb_nx ?_
      refine kx_301 _ _ ?_
      obtain ⟨o_303, h_o_303, hf⟩ := bind_some hf
      obtain ⟨i_304, h_i_304, hf⟩ := bind_some hf
      obtain ⟨r_305, h_r_305, hf⟩ := bind_some hf
      obtain ⟨b_309, h_b_309, hf⟩ := bind_some hf
      refine SB.seqB (fun kx_311 => sb_if (b := b_309) (et_orO h_b_309 (et_not (et_B (ev_call (ea_cons (ev_op (ev_of (ev_var (i := 0) rfl) h_o_303) (ev_int 2) (r2_ixU h_i_304)) (ea_cons (ev_int 0) (ea_cons (ev_int 99) ea_nil))) h_r_305))) (fun _ _ h => by obtain ⟨o_306, h_o_306, h⟩ := bind_some h; obtain ⟨i_307, h_i_307, h⟩ := bind_some h; obtain ⟨r_308, h_r_308, h⟩ := bind_some h; have hz_ := Option.some.inj h; subst hz_; exact (et_not (et_B (ev_call (ea_cons (ev_op (ev_of (ev_var (i := 0) rfl) h_o_306) (ev_int 3) (r2_ixU h_i_307)) (ea_cons (ev_int 0) (ea_cons (ev_int 99) ea_nil))) h_r_308))))) (fun hb_310 => ?_) (fun hb_310 => ?_))
      · have hf := ite_t hb_310 hf
        cases hf
        exact sb_ret (ev_bool false) q (List.Sublist.refl _)
      · have hf := ite_f hb_310 hf
        refine sb_nx ?_
        refine kx_311 _ _ ?_
        obtain ⟨o_312, h_o_312, hf⟩ := bind_some hf
        obtain ⟨i_313, h_i_313, hf⟩ := bind_some hf
        obtain ⟨r_314, h_r_314, hf⟩ := bind_some hf
        obtain ⟨b_318, h_b_318, hf⟩ := bind_some hf
        cases hf
        exact sb_ret (ev_andO h_b_318 (ev_call (ea_cons (ev_op (ev_of (ev_var (i := 0) rfl) h_o_312) (ev_int 4) (r2_ixU h_i_313)) (ea_cons (ev_int 0) (ea_cons (ev_int 9) ea_nil))) h_r_314) (fun _ _ h => by obtain ⟨o_315, h_o_315, h⟩ := bind_some h; obtain ⟨i_316, h_i_316, h⟩ := bind_some h; obtain ⟨r_317, h_r_317, h⟩ := bind_some h; have hz_ := Option.some.inj h; subst hz_; exact (ev_call (ea_cons (ev_op (ev_of (ev_var (i := 0) rfl) h_o_315) (ev_int 5) (r2_ixU h_i_316)) (ea_cons (ev_int 0) (ea_cons (ev_int 9) ea_nil))) h_r_317))) q (List.Sublist.refl _)
theorem sc_is_word : FnScope ["thing", "words"] ["thing", "words"] (defScope s_is_word) := ⟨rfl, rfl, rfl, by decide +kernel, rfl, by decide +kernel, by decide +kernel⟩
set_option maxHeartbeats 4000000 in
theorem ok_is_word (T : TX K mg w) : FnOk P w K mg base CX0 1 T.a_is_word T.d_is_word ["thing", "words"] (PF (τ := Dy × (Kt Str) × Unit) K (fun t => m_is_word t.1 t.2.1)) := by
  refine T.F_is_word.ok sc_is_word (fun vs H Q E h => ?_) (fun cdv A outer s H vs Q E hr h => ?_)
  · obtain ⟨Kn, t, r, ek, h, hf, q⟩ := h
    exact Tp.len h
  · obtain ⟨Kn, t, r_, ek, h, hf, q⟩ := h
    obtain ⟨thing_319, words_320, u_⟩ := t
    obtain ⟨v_0, rr_, rfl, hv_0, h⟩ := h
    obtain ⟨v_1, rr_, rfl, hv_1, h⟩ := h
    obtain rfl := h
    replace hf : m_is_word thing_319 words_320 = some r_ := hf
    unfold m_is_word at hf
    refine ⟨_, (pss_one (ps_ret (pe_and (pe_callB k_isi (by rfl) T.z_isinstance (by decide +kernel) (pa_cons (pv 0) (pa_cons (pe_bltn (v := .ty "str") (u := .type "str") (by rfl) T.z_str (by decide +kernel) rfl) pa_nil))) (pe_one (pe_cmpR k_in (pv 0) (pv 1) (by rfl)))))), ?_⟩
    refine enter (K := K) (Kn := Kn) (sl := [sv thing_319, sv words_320]) ek ⟨⟨v_0, rfl, hv_0⟩, ⟨v_1, rfl, hv_1⟩, trivial⟩ ?_
    have q := rt_of q
    obtain ⟨b_322, h_b_322, hf⟩ := bind_some hf
    cases hf
    exact sb_ret (ev_andO h_b_322 (ev_cb (ea_cons (ev_var (i := 0) rfl) (ea_cons (ev_ty "str") ea_nil)) (rc_isiD (by decide +kernel) (by decide +kernel) (by decide +kernel) (by decide +kernel) (by decide +kernel) (by decide +kernel))) (fun _ _ h => by obtain ⟨o_321, h_o_321, h⟩ := bind_some h; have hz_ := Option.some.inj h; subst hz_; exact (ev_op (ev_of (ev_var (i := 0) rfl) h_o_321) (ev_var (i := 1) rfl) r2_inKt))) q (List.Sublist.refl _)
theorem sc_line_ok : FnScope ["what", "parts"] ["what", "parts"] (defScope s_line_ok) := ⟨rfl, rfl, rfl, by decide +kernel, rfl, by decide +kernel, by decide +kernel⟩
set_option maxHeartbeats 4000000 in
theorem ok_line_ok (T : TX K mg w) : FnOk P w K mg base CX0 2 T.a_line_ok T.d_line_ok ["what", "parts"] (PF (τ := Dy × Dy × Unit) K (fun t => m_line_ok t.1 t.2.1)) := by
  refine T.F_line_ok.ok sc_line_ok (fun vs H Q E h => ?_) (fun cdv A outer s H vs Q E hr h => ?_)
  · obtain ⟨Kn, t, r, ek, h, hf, q⟩ := h
    exact Tp.len h
  · obtain ⟨Kn, t, r_, ek, h, hf, q⟩ := h
    obtain ⟨what_323, parts_324, u_⟩ := t
    obtain ⟨v_0, rr_, rfl, hv_0, h⟩ := h
    obtain ⟨v_1, rr_, rfl, hv_1, h⟩ := h
    obtain rfl := h
    replace hf : m_line_ok what_323 parts_324 = some r_ := hf
    unfold m_line_ok at hf
    refine ⟨_, (pss_cons (ps_if (PW.pt (pw_or (pt_not (pt_val (pe_callB k_isi (by rfl) T.z_isinstance (by decide +kernel) (pa_cons (pv 0) (pa_cons (pe_bltn (v := .ty "tuple") (u := .type "tuple") (by rfl) T.z_tuple (by decide +kernel) rfl) pa_nil))))) (pw_or (pt_cmpR op_ne (pe_callB k_len (by rfl) T.z_len PySem.boot_len (pa_cons (pv 0) pa_nil)) pe_int (nomark _)) (pw_or1 (pt_cmpR op_gt (pe_callB k_len (by rfl) T.z_len PySem.boot_len (pa_cons (pv 1) pa_nil)) pe_int (nomark _)))))) (pss_one (ps_ret pe_bl)) pss_nil)
      (pss_one (ps_ret (pe_and (pe_call (ok_is_whole T) hr (by rfl) T.g_is_whole T.F_is_whole.kp T.b_is_whole .nil pass0 (pa_cons (pe_ix k_ixt (pv 0) pe_int (fun _ _ => rfl)) (pa_cons pe_int (pa_cons pe_int pa_nil)))) (pe_and (pe_call (ok_is_word T) hr (by rfl) T.g_is_word T.F_is_word.kp T.b_is_word .nil pass0 (pa_cons (pe_ix k_ixt (pv 0) pe_int (fun _ _ => rfl)) (pa_cons (pe_glob (v := .ref T.ta_ALIGNS) (by rfl) T.gt_ALIGNS rfl) pa_nil))) (pe_one (pe_call (ok_is_word T) hr (by rfl) T.g_is_word T.F_is_word.kp T.b_is_word .nil pass0 (pa_cons (pe_ix k_ixt (pv 0) pe_int (fun _ _ => rfl)) (pa_cons (pe_glob (v := .ref T.ta_SIDES) (by rfl) T.gt_SIDES rfl) pa_nil))))))))), ?_⟩
    refine enter (K := K) (Kn := Kn) (sl := [sv what_323, sv parts_324]) ek ⟨⟨v_0, rfl, hv_0⟩, ⟨v_1, rfl, hv_1⟩, trivial⟩ ?_
    have q := rt_of q
    obtain ⟨b_329, h_b_329, hf⟩ := bind_some hf
    refine SB.seqB (fun kx_331 => sb_if (b := b_329) (et_orO h_b_329 (et_not (et_B (ev_cb (ea_cons (ev_var (i := 0) rfl) (ea_cons (ev_ty "tuple") ea_nil)) (rc_isiD (by decide +kernel) (by decide +kernel) (by decide +kernel) (by decide +kernel) (by decide +kernel) (by decide +kernel))))) (fun _ _ h => by obtain ⟨o_326, h_o_326, h⟩ := bind_some h; obtain ⟨b_328, h_b_328, h⟩ := bind_some h; have hz_ := Option.some.inj h; subst hz_; exact (et_orO h_b_328 (et_test (ev_op (ev_cb (ea_cons (ev_of (ev_var (i := 0) rfl) h_o_326) ea_nil) rc_lenT) (ev_int 3) r2_neI)) (fun _ _ h => by obtain ⟨o_327, h_o_327, h⟩ := bind_some h; have hz_ := Option.some.inj h; subst hz_; exact (et_test (ev_op (ev_cb (ea_cons (ev_of (ev_var (i := 1) rfl) h_o_327) ea_nil) rc_lenT) (ev_int 20) r2_gt)))))) (fun hb_330 => ?_) (fun hb_330 => ?_))
    · have hf := ite_t hb_330 hf
      cases hf
      exact sb_ret (ev_bool false) q (List.Sublist.refl _)
    · have hf := ite_f hb_330 hf
      refine sb_nx ?_
      refine kx_331 _ _ ?_
      obtain ⟨o_332, h_o_332, hf⟩ := bind_some hf
      obtain ⟨i_333, h_i_333, hf⟩ := bind_some hf
      obtain ⟨r_334, h_r_334, hf⟩ := bind_some hf
      obtain ⟨b_342, h_b_342, hf⟩ := bind_some hf
      cases hf
      exact sb_ret (ev_andO h_b_342 (ev_call (ea_cons (ev_op (ev_of (ev_var (i := 0) rfl) h_o_332) (ev_int 0) (r2_ixU h_i_333)) (ea_cons (ev_int 0) (ea_cons (ev_int 1000) ea_nil))) h_r_334) (fun _ _ h => by obtain ⟨o_335, h_o_335, h⟩ := bind_some h; obtain ⟨i_336, h_i_336, h⟩ := bind_some h; obtain ⟨r_337, h_r_337, h⟩ := bind_some h; obtain ⟨b_341, h_b_341, h⟩ := bind_some h; have hz_ := Option.some.inj h; subst hz_; exact (ev_andO h_b_341 (ev_call (ea_cons (ev_op (ev_of (ev_var (i := 0) rfl) h_o_335) (ev_int 1) (r2_ixU h_i_336)) (ea_cons (ev_ktup T.tt_ALIGNS) ea_nil)) h_r_337) (fun _ _ h => by obtain ⟨o_338, h_o_338, h⟩ := bind_some h; obtain ⟨i_339, h_i_339, h⟩ := bind_some h; obtain ⟨r_340, h_r_340, h⟩ := bind_some h; have hz_ := Option.some.inj h; subst hz_; exact (ev_call (ea_cons (ev_op (ev_of (ev_var (i := 0) rfl) h_o_338) (ev_int 2) (r2_ixU h_i_339)) (ea_cons (ev_ktup T.tt_SIDES) ea_nil)) h_r_340))))) q (List.Sublist.refl _)
theorem sc_table_ok : FnScope ["what", "parts", "span"] ["what", "parts"] (defScope s_table_ok) := ⟨rfl, rfl, rfl, by decide +kernel, rfl, by decide +kernel, by decide +kernel⟩
set_option maxHeartbeats 4000000 in
theorem ok_table_ok (T : TX K mg w) : FnOk P w K mg base CX0 4 T.a_table_ok T.d_table_ok ["what", "parts"] (PF (τ := Dy × Dy × Unit) K (fun t => m_table_ok t.1 t.2.1)) := by
  refine T.F_table_ok.ok sc_table_ok (fun vs H Q E h => ?_) (fun cdv A outer s H vs Q E hr h => ?_)
  · obtain ⟨Kn, t, r, ek, h, hf, q⟩ := h
    exact Tp.len h
  · obtain ⟨Kn, t, r_, ek, h, hf, q⟩ := h
    obtain ⟨what_343, parts_344, u_⟩ := t
    obtain ⟨v_0, rr_, rfl, hv_0, h⟩ := h
    obtain ⟨v_1, rr_, rfl, hv_1, h⟩ := h
    obtain rfl := h
    replace hf : m_table_ok what_343 parts_344 = some r_ := hf
    unfold m_table_ok at hf
    refine ⟨_, (pss_cons (ps_if (PW.pt (pw_or (pt_not (pt_val (pe_callB k_isi (by rfl) T.z_isinstance (by decide +kernel) (pa_cons (pv 0) (pa_cons (pe_bltn (v := .ty "tuple") (u := .type "tuple") (by rfl) T.z_tuple (by decide +kernel) rfl) pa_nil))))) (pw_or (pt_cmpR op_ne (pe_callB k_len (by rfl) T.z_len PySem.boot_len (pa_cons (pv 0) pa_nil)) pe_int (nomark _)) (pw_or1 (pt_cmpR op_gt (pe_callB k_len (by rfl) T.z_len PySem.boot_len (pa_cons (pv 1) pa_nil)) pe_int (nomark _)))))) (pss_one (ps_ret pe_bl)) pss_nil)
      (pss_cons (ps_if (PW.pt (pw_or (pt_not (pt_val (pe_call (ok_is_whole T) (hr.mono (by decide)) (by rfl) T.g_is_whole T.F_is_whole.kp T.b_is_whole .nil pass0 (pa_cons (pe_ix k_ixt (pv 0) pe_int (fun _ _ => rfl)) (pa_cons pe_int (pa_cons pe_int pa_nil)))))) (pw_or (pt_not (pt_val (pe_call (ok_is_whole T) (hr.mono (by decide)) (by rfl) T.g_is_whole T.F_is_whole.kp T.b_is_whole .nil pass0 (pa_cons (pe_ix k_ixt (pv 0) pe_int (fun _ _ => rfl)) (pa_cons pe_int (pa_cons pe_int pa_nil)))))) (pw_or1 (pt_not (pt_val (pe_call (ok_is_word T) (hr.mono (by decide)) (by rfl) T.g_is_word T.F_is_word.kp T.b_is_word .nil pass0 (pa_cons (pe_ix k_ixt (pv 0) pe_int (fun _ _ => rfl)) (pa_cons (pe_glob (v := .ref T.ta_SIDES) (by rfl) T.gt_SIDES rfl) pa_nil))))))))) (pss_one (ps_ret pe_bl)) pss_nil)
      (pss_cons (ps_if (PW.pt (pw_or (pt_not (pt_val (pe_callB k_isi (by rfl) T.z_isinstance (by decide +kernel) (pa_cons (pe_ix k_ixt (pv 0) pe_int (fun _ _ => rfl)) (pa_cons (pe_bltn (v := .ty "tuple") (u := .type "tuple") (by rfl) T.z_tuple (by decide +kernel) rfl) pa_nil))))) (pw_or1 (pt_cmpR op_ne (pe_callB k_len (by rfl) T.z_len PySem.boot_len (pa_cons (pe_ix k_ixt (pv 0) pe_int (fun _ _ => rfl)) pa_nil)) (pe_callB k_len (by rfl) T.z_len PySem.boot_len (pa_cons (pv 1) pa_nil)) (nomark _))))) (pss_one (ps_ret pe_bl)) pss_nil)
      (pss_cons (ps_for PassesOwn.never rfl (kpi_tup (pe_ix k_ixt (pv 0) pe_int (fun _ _ => rfl))) (pg_name (i := 2) sc_table_ok.nd rfl (.inl rfl)) (pss_one (ps_if (PW.pt (pw_or (pt_not (pt_val (pe_call (ok_is_pair T) (hr.mono (by decide)) (by rfl) T.g_is_pair T.F_is_pair.kp T.b_is_pair .nil pass0 (pa_cons (pv 2) (pa_cons pe_int (pa_cons pe_int pa_nil)))))) (pw_or1 (pt_cmpR op_gt (pe_ix k_ixt (pv 2) pe_int (fun _ _ => rfl)) (pe_ix k_ixt (pv 0) pe_int (fun _ _ => rfl)) (nomark _))))) (pss_one (ps_ret pe_bl)) pss_nil)))
      (pss_one (ps_ret (pe_cmpR op_le (pe_call (ok_rows_taken T) hr (by rfl) T.g_rows_taken T.F_rows_taken.kp T.b_rows_taken .nil pass0 (pa_cons (pe_ix k_ixt (pv 0) pe_int (fun _ _ => rfl)) (pa_cons (pe_ix k_ixt (pv 0) pe_int (fun _ _ => rfl)) pa_nil))) (pe_glob (v := .int 60) (by rfl) T.gi_MOST_ROWS ⟨_, rfl⟩) (nomark _)))))))), ?_⟩
    refine enter (K := K) (Kn := Kn) (sl := [sv what_343, sv parts_344, .any]) ek ⟨⟨v_0, rfl, hv_0⟩, ⟨v_1, rfl, hv_1⟩, trivial, trivial⟩ ?_
    have q := rt_of q
    obtain ⟨b_349, h_b_349, hf⟩ := bind_some hf
    refine SB.seqB (fun kx_351 => sb_if (b := b_349) (et_orO h_b_349 (et_not (et_B (ev_cb (ea_cons (ev_var (i := 0) rfl) (ea_cons (ev_ty "tuple") ea_nil)) (rc_isiD (by decide +kernel) (by decide +kernel) (by decide +kernel) (by decide +kernel) (by decide +kernel) (by decide +kernel))))) (fun _ _ h => by obtain ⟨o_346, h_o_346, h⟩ := bind_some h; obtain ⟨b_348, h_b_348, h⟩ := bind_some h; have hz_ := Option.some.inj h; subst hz_; exact (et_orO h_b_348 (et_test (ev_op (ev_cb (ea_cons (ev_of (ev_var (i := 0) rfl) h_o_346) ea_nil) rc_lenT) (ev_int 4) r2_neI)) (fun _ _ h => by obtain ⟨o_347, h_o_347, h⟩ := bind_some h; have hz_ := Option.some.inj h; subst hz_; exact (et_test (ev_op (ev_cb (ea_cons (ev_of (ev_var (i := 1) rfl) h_o_347) ea_nil) rc_lenT) (ev_int 40) r2_gt)))))) (fun hb_350 => ?_) (fun hb_350 => ?_))
    · have hf := ite_t hb_350 hf
      cases hf
      exact sb_ret (ev_bool false) q (List.Sublist.refl _)
    · have hf := ite_f hb_350 hf
      refine sb_nx ?_
      refine kx_351 _ _ ?_
      obtain ⟨o_353, h_o_353, hf⟩ := bind_some hf
      obtain ⟨i_354, h_i_354, hf⟩ := bind_some hf
      obtain ⟨r_355, h_r_355, hf⟩ := bind_some hf
      obtain ⟨b_363, h_b_363, hf⟩ := bind_some hf
      refine SB.seqB (fun kx_365 => sb_if (b := b_363) (et_orO h_b_363 (et_not (et_B (ev_call (ea_cons (ev_op (ev_of (ev_var (i := 0) rfl) h_o_353) (ev_int 0) (r2_ixU h_i_354)) (ea_cons (ev_int 1) (ea_cons (ev_int 12) ea_nil))) h_r_355))) (fun _ _ h => by obtain ⟨o_356, h_o_356, h⟩ := bind_some h; obtain ⟨i_357, h_i_357, h⟩ := bind_some h; obtain ⟨r_358, h_r_358, h⟩ := bind_some h; obtain ⟨b_362, h_b_362, h⟩ := bind_some h; have hz_ := Option.some.inj h; subst hz_; exact (et_orO h_b_362 (et_not (et_B (ev_call (ea_cons (ev_op (ev_of (ev_var (i := 0) rfl) h_o_356) (ev_int 1) (r2_ixU h_i_357)) (ea_cons (ev_int 0) (ea_cons (ev_int 1000) ea_nil))) h_r_358))) (fun _ _ h => by obtain ⟨o_359, h_o_359, h⟩ := bind_some h; obtain ⟨i_360, h_i_360, h⟩ := bind_some h; obtain ⟨r_361, h_r_361, h⟩ := bind_some h; have hz_ := Option.some.inj h; subst hz_; exact (et_not (et_B (ev_call (ea_cons (ev_op (ev_of (ev_var (i := 0) rfl) h_o_359) (ev_int 2) (r2_ixU h_i_360)) (ea_cons (ev_ktup T.tt_SIDES) ea_nil)) h_r_361))))))) (fun hb_364 => ?_) (fun hb_364 => ?_))
      · have hf := ite_t hb_364 hf
        cases hf
        exact sb_ret (ev_bool false) q (List.Sublist.refl _)
      · have hf := ite_f hb_364 hf
        refine sb_nx ?_
        refine kx_365 _ _ ?_
        obtain ⟨o_367, h_o_367, hf⟩ := bind_some hf
        obtain ⟨i_368, h_i_368, hf⟩ := bind_some hf
        obtain ⟨b_373, h_b_373, hf⟩ := bind_some hf
        refine SB.seqB (fun kx_375 => sb_if (b := b_373) (et_orO h_b_373 (et_not (et_B (ev_cb (ea_cons (ev_op (ev_of (ev_var (i := 0) rfl) h_o_367) (ev_int 3) (r2_ixU h_i_368)) (ea_cons (ev_ty "tuple") ea_nil)) (rc_isiD (by decide +kernel) (by decide +kernel) (by decide +kernel) (by decide +kernel) (by decide +kernel) (by decide +kernel))))) (fun _ _ h => by obtain ⟨o_369, h_o_369, h⟩ := bind_some h; obtain ⟨i_370, h_i_370, h⟩ := bind_some h; obtain ⟨o_371, h_o_371, h⟩ := bind_some h; obtain ⟨o_372, h_o_372, h⟩ := bind_some h; have hz_ := Option.some.inj h; subst hz_; exact (et_test (ev_op (ev_cb (ea_cons (ev_of (ev_op (ev_of (ev_var (i := 0) rfl) h_o_369) (ev_int 3) (r2_ixU h_i_370)) h_o_371) ea_nil) rc_lenT) (ev_cb (ea_cons (ev_of (ev_var (i := 1) rfl) h_o_372) ea_nil) rc_lenT) r2_neI)))) (fun hb_374 => ?_) (fun hb_374 => ?_))
        · have hf := ite_t hb_374 hf
          cases hf
          exact sb_ret (ev_bool false) q (List.Sublist.refl _)
        · have hf := ite_f hb_374 hf
          refine sb_nx ?_
          refine kx_375 _ _ ?_
          obtain ⟨o_376, h_o_376, hf⟩ := bind_some hf
          obtain ⟨i_377, h_i_377, hf⟩ := bind_some hf
          obtain ⟨o_378, h_o_378, hf⟩ := bind_some hf
          obtain ⟨tot_384, h_tot_384, hf⟩ := bind_some hf
          refine SB.seqB (fun kx_396 => sb_for (β := Dy) (Sx := Unit) (fun s => [sv what_343, sv parts_344, .any]) (fun s => []) (fun x s => [sv what_343, sv parts_344, sv x]) [2] (fun xs s => forC (m_table_ok_L1 what_343) xs s = some tot_384) () (IT.m (it_tup (ev_of (ev_op (ev_of (ev_var (i := 0) rfl) h_o_376) (ev_int 3) (r2_ixU h_i_377)) h_o_378))) h_tot_384 (.keep (.keep (.keep .nil))) (List.Sublist.refl _) (fun x s => (gt_name rfl)) ?_ ?_)
          · intro Kn1 b1 span_379 rest_ s_ hP_381 N_ hN_380
            obtain ⟨c_, hc_382, hP_381⟩ := bind_some hP_381
            have q_383 := q.base b1
            unfold m_table_ok_L1 at hc_382
            refine SB.is (sl' := [sv what_343, sv parts_344, sv span_379]) (ow1 := []) rfl rfl ?_
            obtain ⟨r_386, h_r_386, hc_382⟩ := bind_some hc_382
            obtain ⟨b_393, h_b_393, hc_382⟩ := bind_some hc_382
            refine sb_if (b := b_393) (et_orO h_b_393 (et_not (et_B (ev_call (ea_cons (ev_var (i := 2) rfl) (ea_cons (ev_int 1) (ea_cons (ev_int 12) ea_nil))) h_r_386))) (fun _ _ h => by obtain ⟨o_387, h_o_387, h⟩ := bind_some h; obtain ⟨i_388, h_i_388, h⟩ := bind_some h; obtain ⟨o_389, h_o_389, h⟩ := bind_some h; obtain ⟨i_390, h_i_390, h⟩ := bind_some h; obtain ⟨o_391, h_o_391, h⟩ := bind_some h; obtain ⟨o_392, h_o_392, h⟩ := bind_some h; have hz_ := Option.some.inj h; subst hz_; exact (et_test (ev_op (ev_of (ev_op (ev_of (ev_var (i := 2) rfl) h_o_387) (ev_int 0) (r2_ixU h_i_388)) h_o_391) (ev_of (ev_op (ev_of (ev_var (i := 0) rfl) h_o_389) (ev_int 0) (r2_ixU h_i_390)) h_o_392) r2_gt)))) (fun hb_394 => ?_) (fun hb_394 => ?_)
            · have hc_382 := ite_t hb_394 hc_382
              cases hc_382
              replace hP_381 : some (Ctl.rt false) = some tot_384 := hP_381
              cases hP_381
              replace hf : some false = some r_ := hf
              cases hf
              exact sb_ret (ev_bool false) q_383 (List.Sublist.refl _)
            · have hc_382 := ite_f hb_394 hc_382
              refine sb_nx ?_
              cases hc_382
              exact fun σ Kn H s => hN_380 _ hP_381 σ Kn H ((s.le (.keep (.keep (.drop .nil)))).sub (List.Sublist.refl _))
          · intro s_ h0
            cases h0
            refine kx_396 _ _ ?_
            refine SB.is (sl' := [sv what_343, sv parts_344, .any]) (ow1 := []) rfl rfl ?_
            obtain ⟨o_397, h_o_397, hf⟩ := bind_some hf
            obtain ⟨i_398, h_i_398, hf⟩ := bind_some hf
            obtain ⟨o_399, h_o_399, hf⟩ := bind_some hf
            obtain ⟨i_400, h_i_400, hf⟩ := bind_some hf
            obtain ⟨o_401, h_o_401, hf⟩ := bind_some hf
            obtain ⟨o_402, h_o_402, hf⟩ := bind_some hf
            obtain ⟨r_403, h_r_403, hf⟩ := bind_some hf
            cases hf
            exact sb_ret (ev_op (ev_call (ea_cons (ev_of (ev_op (ev_of (ev_var (i := 0) rfl) h_o_397) (ev_int 0) (r2_ixU h_i_398)) h_o_401) (ea_cons (ev_of (ev_op (ev_of (ev_var (i := 0) rfl) h_o_399) (ev_int 3) (r2_ixU h_i_400)) h_o_402) ea_nil)) h_r_403) (ev_int 60) r2_le) q (List.Sublist.refl _)
theorem sc_kind_ok : FnScope ["kind", "what", "parts"] ["kind", "what", "parts"] (defScope s_kind_ok) := ⟨rfl, rfl, rfl, by decide +kernel, rfl, by decide +kernel, by decide +kernel⟩
set_option maxHeartbeats 4000000 in
theorem ok_kind_ok (T : TX K mg w) : FnOk P w K mg base CX0 5 T.a_kind_ok T.d_kind_ok ["kind", "what", "parts"] (PF (τ := Dy × Dy × Dy × Unit) K (fun t => m_kind_ok t.1 t.2.1 t.2.2.1)) := by
  refine T.F_kind_ok.ok sc_kind_ok (fun vs H Q E h => ?_) (fun cdv A outer s H vs Q E hr h => ?_)
  · obtain ⟨Kn, t, r, ek, h, hf, q⟩ := h
    exact Tp.len h
  · obtain ⟨Kn, t, r_, ek, h, hf, q⟩ := h
    obtain ⟨kind_404, what_405, parts_406, u_⟩ := t
    obtain ⟨v_0, rr_, rfl, hv_0, h⟩ := h
    obtain ⟨v_1, rr_, rfl, hv_1, h⟩ := h
    obtain ⟨v_2, rr_, rfl, hv_2, h⟩ := h
    obtain rfl := h
    replace hf : m_kind_ok kind_404 what_405 parts_406 = some r_ := hf
    unfold m_kind_ok at hf
    refine ⟨_, (pss_cons (ps_if (PW.pt (pw_or (pt_not (pt_val (pe_callB k_isi (by rfl) T.z_isinstance (by decide +kernel) (pa_cons (pv 0) (pa_cons (pe_bltn (v := .ty "str") (u := .type "str") (by rfl) T.z_str (by decide +kernel) rfl) pa_nil))))) (pw_or1 (pt_not (pt_val (pe_callB k_isi (by rfl) T.z_isinstance (by decide +kernel) (pa_cons (pv 2) (pa_cons (pe_bltn (v := .ty "tuple") (u := .type "tuple") (by rfl) T.z_tuple (by decide +kernel) rfl) pa_nil)))))))) (pss_one (ps_ret pe_bl)) pss_nil)
      (pss_cons (ps_if (pt_cmpR op_eq (pv 0) pe_str (nomark _)) (pss_one (ps_ret (pe_and (pe_cmpR (k_eqD hr.units) (pv 2) (pe_tup pa_nil) (nomark _)) (pe_one (pe_call (ok_is_pair T) (hr.mono (by decide)) (by rfl) T.g_is_pair T.F_is_pair.kp T.b_is_pair .nil pass0 (pa_cons (pv 1) (pa_cons pe_int (pa_cons (pe_glob (v := .int 1000000) (by rfl) T.gi_GREATEST ⟨_, rfl⟩) pa_nil)))))))) pss_nil)
      (pss_cons (ps_if (pt_cmpR k_in (pv 0) (pe_glob (v := .ref T.ta_LINES) (by rfl) T.gt_LINES rfl) (by rfl)) (pss_one (ps_ret (pe_call (ok_line_ok T) (hr.mono (by decide)) (by rfl) T.g_line_ok T.F_line_ok.kp T.b_line_ok .nil pass0 (pa_cons (pv 1) (pa_cons (pv 2) pa_nil))))) pss_nil)
      (pss_cons (ps_if (pt_cmpR op_eq (pv 0) pe_str (nomark _)) (pss_one (ps_ret (pe_call (ok_table_ok T) hr (by rfl) T.g_table_ok T.F_table_ok.kp T.b_table_ok .nil pass0 (pa_cons (pv 1) (pa_cons (pv 2) pa_nil))))) pss_nil)
      (pss_cons (ps_if (pt_cmpR op_eq (pv 0) pe_str (nomark _)) (pss_one (ps_ret (pe_call (ok_words_ok T) (hr.mono (by decide)) (by rfl) T.g_words_ok T.F_words_ok.kp T.b_words_ok .nil pass0 (pa_cons (pv 1) (pa_cons (pv 2) pa_nil))))) pss_nil)
      (pss_cons (ps_if (pt_cmpR op_eq (pv 0) pe_str (nomark _)) (pss_one (ps_ret (pe_call (ok_flow_ok T) (hr.mono (by decide)) (by rfl) T.g_flow_ok T.F_flow_ok.kp T.b_flow_ok .nil pass0 (pa_cons (pv 1) (pa_cons (pv 2) pa_nil))))) pss_nil)
      (pss_one (ps_ret (pe_and (pe_cmpR op_eq (pv 0) pe_str (nomark _)) (pe_one (pe_call (ok_over_ok T) (hr.mono (by decide)) (by rfl) T.g_over_ok T.F_over_ok.kp T.b_over_ok .nil pass0 (pa_cons (pv 1) (pa_cons (pv 2) pa_nil))))))))))))), ?_⟩
    refine enter (K := K) (Kn := Kn) (sl := [sv kind_404, sv what_405, sv parts_406]) ek ⟨⟨v_0, rfl, hv_0⟩, ⟨v_1, rfl, hv_1⟩, ⟨v_2, rfl, hv_2⟩, trivial⟩ ?_
    have q := rt_of q
    refine SB.seqB (fun kx_409 => sb_if (b := ((!(isiD kind_404 "str")) || (!(isiD parts_406 "tuple")))) (et_or (et_not (et_B (ev_cb (ea_cons (ev_var (i := 0) rfl) (ea_cons (ev_ty "str") ea_nil)) (rc_isiD (by decide +kernel) (by decide +kernel) (by decide +kernel) (by decide +kernel) (by decide +kernel) (by decide +kernel))))) (fun _ => (et_not (et_B (ev_cb (ea_cons (ev_var (i := 2) rfl) (ea_cons (ev_ty "tuple") ea_nil)) (rc_isiD (by decide +kernel) (by decide +kernel) (by decide +kernel) (by decide +kernel) (by decide +kernel) (by decide +kernel))))))) (fun hb_408 => ?_) (fun hb_408 => ?_))
    · have hf := ite_t hb_408 hf
      cases hf
      exact sb_ret (ev_bool false) q (List.Sublist.refl _)
    · have hf := ite_f hb_408 hf
      refine sb_nx ?_
      refine kx_409 _ _ ?_
      obtain ⟨o_411, h_o_411, hf⟩ := bind_some hf
      refine SB.seqB (fun kx_413 => sb_if (b := (decide (o_411 = ("leaf" : Str)))) (et_test (ev_op (ev_of (ev_var (i := 0) rfl) h_o_411) (ev_str ("leaf" : Str)) r2_eqS)) (fun hb_412 => ?_) (fun hb_412 => ?_))
      · have hf := ite_t hb_412 hf
        obtain ⟨e_414, h_e_414, hf⟩ := bind_some hf
        obtain ⟨b_416, h_b_416, hf⟩ := bind_some hf
        cases hf
        exact sb_ret (ev_andO h_b_416 (ev_op (ev_var (i := 2) rfl) (ev_up (ev_tuH (xs := ([] : List Int)) el_nil)) (r2_eqY h_e_414)) (fun _ _ h => by obtain ⟨r_415, h_r_415, h⟩ := bind_some h; have hz_ := Option.some.inj h; subst hz_; exact (ev_call (ea_cons (ev_var (i := 1) rfl) (ea_cons (ev_int 0) (ea_cons (ev_int 1000000) ea_nil))) h_r_415))) q (List.Sublist.refl _)
      · have hf := ite_f hb_412 hf
        refine sb_nx ?_
        refine kx_413 _ _ ?_
        obtain ⟨o_418, h_o_418, hf⟩ := bind_some hf
        refine SB.seqB (fun kx_420 => sb_if (b := (decide (o_418 ∈ ([("row" : Str), ("column" : Str), ("wrap" : Str)] : List Str)))) (et_test (ev_inK T.tt_LINES (ev_of (ev_var (i := 0) rfl) h_o_418))) (fun hb_419 => ?_) (fun hb_419 => ?_))
        · have hf := ite_t hb_419 hf
          obtain ⟨r_421, h_r_421, hf⟩ := bind_some hf
          cases hf
          exact sb_ret (ev_call (ea_cons (ev_var (i := 1) rfl) (ea_cons (ev_var (i := 2) rfl) ea_nil)) h_r_421) q (List.Sublist.refl _)
        · have hf := ite_f hb_419 hf
          refine sb_nx ?_
          refine kx_420 _ _ ?_
          obtain ⟨o_423, h_o_423, hf⟩ := bind_some hf
          refine SB.seqB (fun kx_425 => sb_if (b := (decide (o_423 = ("table" : Str)))) (et_test (ev_op (ev_of (ev_var (i := 0) rfl) h_o_423) (ev_str ("table" : Str)) r2_eqS)) (fun hb_424 => ?_) (fun hb_424 => ?_))
          · have hf := ite_t hb_424 hf
            obtain ⟨r_426, h_r_426, hf⟩ := bind_some hf
            cases hf
            exact sb_ret (ev_call (ea_cons (ev_var (i := 1) rfl) (ea_cons (ev_var (i := 2) rfl) ea_nil)) h_r_426) q (List.Sublist.refl _)
          · have hf := ite_f hb_424 hf
            refine sb_nx ?_
            refine kx_425 _ _ ?_
            obtain ⟨o_428, h_o_428, hf⟩ := bind_some hf
            refine SB.seqB (fun kx_430 => sb_if (b := (decide (o_428 = ("words" : Str)))) (et_test (ev_op (ev_of (ev_var (i := 0) rfl) h_o_428) (ev_str ("words" : Str)) r2_eqS)) (fun hb_429 => ?_) (fun hb_429 => ?_))
            · have hf := ite_t hb_429 hf
              obtain ⟨r_431, h_r_431, hf⟩ := bind_some hf
              cases hf
              exact sb_ret (ev_call (ea_cons (ev_var (i := 1) rfl) (ea_cons (ev_var (i := 2) rfl) ea_nil)) h_r_431) q (List.Sublist.refl _)
            · have hf := ite_f hb_429 hf
              refine sb_nx ?_
              refine kx_430 _ _ ?_
              obtain ⟨o_433, h_o_433, hf⟩ := bind_some hf
              refine SB.seqB (fun kx_435 => sb_if (b := (decide (o_433 = ("flow" : Str)))) (et_test (ev_op (ev_of (ev_var (i := 0) rfl) h_o_433) (ev_str ("flow" : Str)) r2_eqS)) (fun hb_434 => ?_) (fun hb_434 => ?_))
              · have hf := ite_t hb_434 hf
                obtain ⟨r_436, h_r_436, hf⟩ := bind_some hf
                cases hf
                exact sb_ret (ev_call (ea_cons (ev_var (i := 1) rfl) (ea_cons (ev_var (i := 2) rfl) ea_nil)) h_r_436) q (List.Sublist.refl _)
              · have hf := ite_f hb_434 hf
                refine sb_nx ?_
                refine kx_435 _ _ ?_
                obtain ⟨o_437, h_o_437, hf⟩ := bind_some hf
                obtain ⟨b_439, h_b_439, hf⟩ := bind_some hf
                cases hf
                exact sb_ret (ev_andO h_b_439 (ev_op (ev_of (ev_var (i := 0) rfl) h_o_437) (ev_str ("over" : Str)) r2_eqS) (fun _ _ h => by obtain ⟨r_438, h_r_438, h⟩ := bind_some h; have hz_ := Option.some.inj h; subst hz_; exact (ev_call (ea_cons (ev_var (i := 1) rfl) (ea_cons (ev_var (i := 2) rfl) ea_nil)) h_r_438))) q (List.Sublist.refl _)
theorem sc_name_of : FnScope ["thing"] ["thing"] (defScope s_name_of) := ⟨rfl, rfl, rfl, by decide +kernel, rfl, by decide +kernel, by decide +kernel⟩
set_option maxHeartbeats 4000000 in
theorem ok_name_of (T : TX K mg w) : FnOk P w K mg base CX0 2 T.a_name_of T.d_name_of ["thing"] (PF (τ := Dy × Unit) K (fun t => m_name_of t.1)) := by
  refine T.F_name_of.ok sc_name_of (fun vs H Q E h => ?_) (fun cdv A outer s H vs Q E hr h => ?_)
  · obtain ⟨Kn, t, r, ek, h, hf, q⟩ := h
    exact Tp.len h
  · obtain ⟨Kn, t, r_, ek, h, hf, q⟩ := h
    obtain ⟨thing_440, u_⟩ := t
    obtain ⟨v_0, rr_, rfl, hv_0, h⟩ := h
    obtain rfl := h
    replace hf : m_name_of thing_440 = some r_ := hf
    unfold m_name_of at hf
    refine ⟨_, (pss_cons (ps_if (PW.pt (pw_and (pt_val (pe_callB k_isi (by rfl) T.z_isinstance (by decide +kernel) (pa_cons (pv 0) (pa_cons (pe_bltn (v := .ty "tuple") (u := .type "tuple") (by rfl) T.z_tuple (by decide +kernel) rfl) pa_nil)))) (pw_and (pt_cmpR op_eq (pe_callB k_len (by rfl) T.z_len PySem.boot_len (pa_cons (pv 0) pa_nil)) pe_int (nomark _)) (pw_and1 (pt_val (pe_call (ok_is_name T) hr (by rfl) T.g_is_name T.F_is_name.kp T.b_is_name .nil pass0 (pa_cons (pe_ix k_ixt (pv 0) pe_int (fun _ _ => rfl)) pa_nil))))))) (pss_one (ps_ret (pe_ix k_ixt (pv 0) pe_int (fun _ _ => rfl)))) pss_nil)
      (pss_one (ps_ret pe_non))), ?_⟩
    refine enter (K := K) (Kn := Kn) (sl := [sv thing_440]) ek ⟨⟨v_0, rfl, hv_0⟩, trivial⟩ ?_
    have q := rt_of q
    obtain ⟨b_447, h_b_447, hf⟩ := bind_some hf
    refine SB.seqB (fun kx_449 => sb_if (b := b_447) (et_andO h_b_447 (et_B (ev_cb (ea_cons (ev_var (i := 0) rfl) (ea_cons (ev_ty "tuple") ea_nil)) (rc_isiD (by decide +kernel) (by decide +kernel) (by decide +kernel) (by decide +kernel) (by decide +kernel) (by decide +kernel)))) (fun _ _ h => by obtain ⟨o_442, h_o_442, h⟩ := bind_some h; obtain ⟨b_446, h_b_446, h⟩ := bind_some h; have hz_ := Option.some.inj h; subst hz_; exact (et_andO h_b_446 (et_test (ev_op (ev_cb (ea_cons (ev_of (ev_var (i := 0) rfl) h_o_442) ea_nil) rc_lenT) (ev_int 5) r2_eqI)) (fun _ _ h => by obtain ⟨o_443, h_o_443, h⟩ := bind_some h; obtain ⟨i_444, h_i_444, h⟩ := bind_some h; obtain ⟨r_445, h_r_445, h⟩ := bind_some h; have hz_ := Option.some.inj h; subst hz_; exact (et_B (ev_call (ea_cons (ev_op (ev_of (ev_var (i := 0) rfl) h_o_443) (ev_int 1) (r2_ixU h_i_444)) ea_nil) h_r_445)))))) (fun hb_448 => ?_) (fun hb_448 => ?_))
    · have hf := ite_t hb_448 hf
      obtain ⟨o_450, h_o_450, hf⟩ := bind_some hf
      obtain ⟨i_451, h_i_451, hf⟩ := bind_some hf
      obtain ⟨o_452, h_o_452, hf⟩ := bind_some hf
      cases hf
      exact sb_ret (ev_of (ev_op (ev_of (ev_var (i := 0) rfl) h_o_450) (ev_int 1) (r2_ixU h_i_451)) h_o_452) q (List.Sublist.refl _)
    · have hf := ite_f hb_448 hf
      refine sb_nx ?_
      refine kx_449 _ _ ?_
      cases hf
      exact sb_ret ev_none q (List.Sublist.refl _)
theorem sc_box_ok : FnScope ["thing", "deep", "tabled", "seen", "name", "kind", "other", "own", "what", "parts"] ["thing", "deep", "tabled", "seen"] (defScope s_box_ok) := ⟨rfl, rfl, rfl, by decide +kernel, rfl, by decide +kernel, by decide +kernel⟩
set_option maxHeartbeats 4000000 in
theorem ok_box_ok (T : TX K mg w) : FnOk P w K mg base CX0 6 T.a_box_ok T.d_box_ok ["thing", "deep", "tabled", "seen"] (PF (τ := Dy × Int × Bool × (List Str) × Unit) K (fun t => m_box_ok t.1 t.2.1 t.2.2.1 t.2.2.2.1)) := by
  refine T.F_box_ok.ok sc_box_ok (fun vs H Q E h => ?_) (fun cdv A outer s H vs Q E hr h => ?_)
  · obtain ⟨Kn, t, r, ek, h, hf, q⟩ := h
    exact Tp.len h
  · obtain ⟨Kn, t, r_, ek, h, hf, q⟩ := h
    obtain ⟨thing_453, deep_454, tabled_455, seen_456, u_⟩ := t
    obtain ⟨v_0, rr_, rfl, hv_0, h⟩ := h
    obtain ⟨v_1, rr_, rfl, hv_1, h⟩ := h
    obtain ⟨v_2, rr_, rfl, hv_2, h⟩ := h
    obtain ⟨v_3, rr_, rfl, hv_3, h⟩ := h
    obtain rfl := h
    replace hf : m_box_ok thing_453 deep_454 tabled_455 seen_456 = some r_ := hf
    unfold m_box_ok at hf
    refine ⟨_, (pss_cons (ps_set (i := 4) sc_box_ok.nd rfl (.inl rfl) (pe_call (ok_name_of T) (hr.mono (by decide)) (by rfl) T.g_name_of T.F_name_of.kp T.b_name_of .nil pass0 (pa_cons (pv 0) pa_nil)))
      (pss_cons (ps_if (PW.pt (pw_or (pt_cmpR op_isN (pv 4) pe_non (nomark _)) (pw_or (pt_cmpR k_in (pv 4) (pv 3) (by rfl)) (pw_or (pt_cmpR op_eq (pe_callB k_len (by rfl) T.z_len PySem.boot_len (pa_cons (pv 3) pa_nil)) (pe_glob (v := .int 60) (by rfl) T.gi_MOST_BOXES ⟨_, rfl⟩) (nomark _)) (pw_or1 (pt_cmpR op_gt (pv 1) (pe_glob (v := .int 8) (by rfl) T.gi_MOST_DEEP ⟨_, rfl⟩) (nomark _))))))) (pss_one (ps_ret pe_bl)) pss_nil)
      (pss_cons (ps_asg (pv 0) (kpg_tup (n := 5) (pgs_cons (pg_name (i := 5) sc_box_ok.nd rfl (.inl rfl)) (pgs_cons (pg_name (i := 6) sc_box_ok.nd rfl (.inl rfl)) (pgs_cons (pg_name (i := 7) sc_box_ok.nd rfl (.inl rfl)) (pgs_cons (pg_name (i := 8) sc_box_ok.nd rfl (.inl rfl)) (pgs_cons (pg_name (i := 9) sc_box_ok.nd rfl (.inl rfl)) pgs_nil)))))))
      (pss_cons (ps_if (PW.pt (pw_or (pt_not (pt_val (pe_call (ok_is_own T) (hr.mono (by decide)) (by rfl) T.g_is_own T.F_is_own.kp T.b_is_own .nil pass0 (pa_cons (pv 7) pa_nil)))) (pw_or1 (pt_not (pt_val (pe_call (ok_kind_ok T) hr (by rfl) T.g_kind_ok T.F_kind_ok.kp T.b_kind_ok .nil pass0 (pa_cons (pv 5) (pa_cons (pv 8) (pa_cons (pv 9) pa_nil))))))))) (pss_one (ps_ret pe_bl)) pss_nil)
      (pss_one (ps_ret (pe_or (pe_cmpR op_eq (pe_ix k_ixt (pv 7) pe_int (fun _ _ => rfl)) pe_int (nomark _)) (pe_one (pe_and (pe_not (pv 2)) (pe_one (pe_or (pe_cmpR op_eq (pv 5) pe_str (nomark _)) (pe_one (pe_cmpR k_in (pv 5) (pe_glob (v := .ref T.ta_LINES) (by rfl) T.gt_LINES rfl) (by rfl)))))))))))))), ?_⟩
    refine enter (K := K) (Kn := Kn) (sl := [sv thing_453, sv deep_454, sv tabled_455, sv seen_456, .any, .any, .any, .any, .any, .any]) ek ⟨⟨v_0, rfl, hv_0⟩, ⟨v_1, rfl, hv_1⟩, ⟨v_2, rfl, hv_2⟩, ⟨v_3, rfl, hv_3⟩, trivial, trivial, trivial, trivial, trivial, trivial, trivial⟩ ?_
    have q := rt_of q
    obtain ⟨r_457, h_r_457, hf⟩ := bind_some hf
    obtain ⟨name_458, h_name_458, hf⟩ := bind_some hf
    refine SB.seqB (fun kx_ => sb_asg (sl' := [sv thing_453, sv deep_454, sv tabled_455, sv seen_456, sv name_458, .any, .any, .any, .any, .any]) rfl (EV.cast (ev_call (ea_cons (ev_var (i := 0) rfl) ea_nil) h_r_457) (Option.some.inj h_name_458)) (kx_ _ _ ?_))
    obtain ⟨b_461, h_b_461, hf⟩ := bind_some hf
    refine SB.seqB (fun kx_463 => sb_if (b := b_461) (et_orO h_b_461 (et_test (ev_op (ev_var (i := 4) rfl) ev_nn r2_isN)) (fun _ _ h => by obtain ⟨s_460, h_s_460, h⟩ := bind_some h; have hz_ := Option.some.inj h; subst hz_; exact (et_or (et_test (ev_op (ev_unopt (ev_var (i := 4) rfl) h_s_460) (ev_var (i := 3) rfl) r2_in)) (fun _ => (et_or (et_test (ev_op (ev_cb (ea_cons (ev_var (i := 3) rfl) ea_nil) rc_len) (ev_int 60) r2_eqI)) (fun _ => (et_test (ev_op (ev_var (i := 1) rfl) (ev_int 8) r2_gt)))))))) (fun hb_462 => ?_) (fun hb_462 => ?_))
    · have hf := ite_t hb_462 hf
      cases hf
      exact sb_ret (ev_bool false) q (List.Sublist.refl _)
    · have hf := ite_f hb_462 hf
      refine sb_nx ?_
      refine kx_463 _ _ ?_
      obtain ⟨o_464, h_o_464, hf⟩ := bind_some hf
      obtain ⟨⟨kind_465, other_466, own_467, what_468, parts_469, _⟩, h_kind_465, hf⟩ := bind_some hf
      refine SB.seqB (fun kx_ => sb_unp (sl' := [sv thing_453, sv deep_454, sv tabled_455, sv seen_456, sv name_458, sv kind_465, sv other_466, sv own_467, sv what_468, sv parts_469]) (EV.cast (ev_of (ev_var (i := 0) rfl) h_o_464) (Option.some.inj h_kind_465)) (gt_tup (gts_cons (gt_name rfl) (gts_cons (gt_name rfl) (gts_cons (gt_name rfl) (gts_cons (gt_name rfl) (gts_cons (gt_name rfl) gts_nil)))))) (kx_ _ _ ?_))
      obtain ⟨r_471, h_r_471, hf⟩ := bind_some hf
      obtain ⟨b_473, h_b_473, hf⟩ := bind_some hf
      refine SB.seqB (fun kx_475 => sb_if (b := b_473) (et_orO h_b_473 (et_not (et_B (ev_call (ea_cons (ev_var (i := 7) rfl) ea_nil) h_r_471))) (fun _ _ h => by obtain ⟨r_472, h_r_472, h⟩ := bind_some h; have hz_ := Option.some.inj h; subst hz_; exact (et_not (et_B (ev_call (ea_cons (ev_var (i := 5) rfl) (ea_cons (ev_var (i := 8) rfl) (ea_cons (ev_var (i := 9) rfl) ea_nil))) h_r_472))))) (fun hb_474 => ?_) (fun hb_474 => ?_))
      · have hf := ite_t hb_474 hf
        cases hf
        exact sb_ret (ev_bool false) q (List.Sublist.refl _)
      · have hf := ite_f hb_474 hf
        refine sb_nx ?_
        refine kx_475 _ _ ?_
        obtain ⟨o_476, h_o_476, hf⟩ := bind_some hf
        obtain ⟨i_477, h_i_477, hf⟩ := bind_some hf
        obtain ⟨o_478, h_o_478, hf⟩ := bind_some hf
        obtain ⟨b_483, h_b_483, hf⟩ := bind_some hf
        cases hf
        exact sb_ret (ev_orO h_b_483 (ev_op (ev_of (ev_op (ev_of (ev_var (i := 7) rfl) h_o_476) (ev_int 5) (r2_ixU h_i_477)) h_o_478) (ev_int 0) r2_eqI) (fun _ _ h => by obtain ⟨b_482, h_b_482, h⟩ := bind_some h; have hz_ := Option.some.inj h; subst hz_; exact (ev_andO h_b_482 (ev_notV (ev_var (i := 2) rfl)) (fun _ _ h => by obtain ⟨o_479, h_o_479, h⟩ := bind_some h; obtain ⟨b_481, h_b_481, h⟩ := bind_some h; have hz_ := Option.some.inj h; subst hz_; exact (ev_orO h_b_481 (ev_op (ev_of (ev_var (i := 5) rfl) h_o_479) (ev_str ("leaf" : Str)) r2_eqS) (fun _ _ h => by obtain ⟨o_480, h_o_480, h⟩ := bind_some h; have hz_ := Option.some.inj h; subst hz_; exact (ev_inK T.tt_LINES (ev_of (ev_var (i := 5) rfl) h_o_480)))))))) q (List.Sublist.refl _)
theorem sc_check_box : FnScope ["thing", "deep", "tabled", "seen", "part"] ["thing", "deep", "tabled", "seen"] (defScope s_check_box) := ⟨rfl, rfl, rfl, by decide +kernel, rfl, by decide +kernel, by decide +kernel⟩
set_option maxHeartbeats 4000000 in
theorem step_check_box (T : TX K mg w) (rec_check_box : (Dy → Int → Bool → (List Str) → Option (Er (Nn × (List Str))))) {k_ : Nat} (hk_ : 6 ≤ k_) (hrec : FnOk P w K mg base (L2.CX P w) k_ T.a_check_box T.d_check_box ["thing", "deep", "tabled", "seen"] (PMX (α := Nn) (β := Str) (τ := Dy × Int × Bool × Unit) K (cmT T) (fun p_ => (mV (mV (mV (mO p_ mE))))) (fun xs_ t_ => rec_check_box t_.1 t_.2.1 t_.2.2.1 xs_))) : FnOk P w K mg base (L2.CX P w) (k_ + 1) T.a_check_box T.d_check_box ["thing", "deep", "tabled", "seen"] (PMX (α := Nn) (β := Str) (τ := Dy × Int × Bool × Unit) K (cmT T) (fun p_ => (mV (mV (mV (mO p_ mE))))) (fun xs_ t_ => m_check_box_step rec_check_box t_.1 t_.2.1 t_.2.2.1 xs_)) := by
  refine T.F_check_box.okX sc_check_box (fun vs H Q E h => ?_) (fun cdv A outer s H vs Q E hr h => ?_)
  · obtain ⟨Kn, p_0, ws_, rest, t, x_, r_, rfl, ek, kp, hp, hw, h, hf, q⟩ := h
    obtain ⟨thing_484, deep_485, tabled_486, u_⟩ := t
    obtain ⟨v_0, rr_, rfl, hv_0, h⟩ := h
    obtain ⟨v_1, rr_, rfl, hv_1, h⟩ := h
    obtain ⟨v_2, rr_, rfl, hv_2, h⟩ := h
    obtain rfl := h
    rfl
  · obtain ⟨Kn, p_0, ws_, rest, t, seen_487, r_, rfl, ek, kp, hp, hw, h, hf, q⟩ := h
    obtain ⟨thing_484, deep_485, tabled_486, u_⟩ := t
    obtain ⟨v_0, rr_, rfl, hv_0, h⟩ := h
    obtain ⟨v_1, rr_, rfl, hv_1, h⟩ := h
    obtain ⟨v_2, rr_, rfl, hv_2, h⟩ := h
    obtain rfl := h
    replace hf : m_check_box_step rec_check_box thing_484 deep_485 tabled_486 seen_487 = some r_ := hf
    unfold m_check_box_step at hf
    refine ⟨_, (pss_cons (ps_if (pt_not (pt_val (pe_call (ok_box_ok T) (hr.mono (by omega)) (by rfl) T.g_box_ok T.F_box_ok.kp T.b_box_ok .nil pass0 (pa_cons (pv 0) (pa_cons (pv 1) (pa_cons (pv 2) (pa_cons (pv 3) pa_nil))))))) (pss_one (ps_raise rfl (takes_of rfl rfl rfl rfl) (pmk_oex T.oex_BadBox T.iC_BadBox T.tI_BadBox (oki_BadBox T) (hr.mono (by omega)) T.bi_BadBox .nil pass0 (by rfl) T.gC_BadBox (pa_cons (pe_call (ok_name_of T) (hr.mono (by omega)) (by rfl) T.g_name_of T.F_name_of.kp T.b_name_of .nil pass0 (pa_cons (pv 0) pa_nil)) pa_nil)))) pss_nil)
      (pss_cons (ps_expr (pe_bm PySem.F.plainAttrs_list PySem.F.slot_list_append PySem.F.type_list_append mt_append (pv 3) (pa_cons (pe_ix k_ixt (pv 0) pe_int (fun _ _ => rfl)) pa_nil)))
      (pss_one (ps_for (passes_of rfl) rfl (kpi_tup (pe_ix k_ixt (pv 0) pe_int (fun _ _ => rfl))) (pg_name (i := 4) sc_check_box.nd rfl (.inl rfl)) (pss_one (ps_expr (pe_callS hrec hr (by rfl) T.g_check_box T.F_check_box.kp T.b_check_box (fun σ => passAt (takes_of rfl rfl rfl rfl) σ) (pa_cons (pv 4) (pa_cons (pe_op op_add (pv 1) pe_int) (pa_cons (pe_or (pv 2) (pe_one (pe_cmpR op_eq (pe_ix k_ixt (pv 0) pe_int (fun _ _ => rfl)) pe_str (nomark _)))) (pa_cons (pv 3) pa_nil))))))))))), ?_⟩
    refine enterM (sl := [sv thing_484, sv deep_485, sv tabled_486, .at p_0, .any]) (p := p_0) (xs := seen_487) ek kp hp hw ⟨⟨v_0, rfl, hv_0⟩, ⟨v_1, rfl, hv_1⟩, ⟨v_2, rfl, hv_2⟩, rfl, trivial, trivial⟩ ?_
    have q := rem_of kp q
    clear hp hw ek kp
    obtain ⟨r_489, h_r_489, hf⟩ := bind_some hf
    refine SB.seqB (fun kx_491 => sb_if (b := (!r_489)) (et_not (et_B (ev_bor (i := 3) (j := 0) (sl' := [sv thing_484, sv deep_485, sv tabled_486, sv seen_487, .any]) (ow1 := []) rfl rfl rfl rfl (ev_call (ea_cons (ev_var (i := 0) rfl) (ea_cons (ev_var (i := 1) rfl) (ea_cons (ev_var (i := 2) rfl) (ea_cons (ev_var (i := 3) rfl) ea_nil)))) h_r_489)))) (fun hb_490 => ?_) (fun hb_490 => ?_))
    · have hf := ite_t hb_490 hf
      obtain ⟨r_492, h_r_492, hf⟩ := bind_some hf
      cases hf
      exact sb_raise (cm := cmT T) (fs := (["name"] : List Str)) (ea_cons (ev_call (ea_cons (ev_var (i := 0) rfl) ea_nil) h_r_492) ea_nil) rfl T.oex_BadBox T.no_BadBox rfl (by decide) q (List.nil_sublist _)
    · have hf := ite_f hb_490 hf
      refine sb_nx ?_
      refine kx_491 _ _ ?_
      obtain ⟨o_493, h_o_493, hf⟩ := bind_some hf
      obtain ⟨i_494, h_i_494, hf⟩ := bind_some hf
      obtain ⟨o_495, h_o_495, hf⟩ := bind_some hf
      obtain ⟨seen_496, h_seen_496, hf⟩ := bind_some hf
      refine SB.seqB (fun kx_ => sb_appO (i := 3) (j := 0) rfl rfl (ev_of (ev_op (ev_of (ev_var (i := 0) rfl) h_o_493) (ev_int 1) (r2_ixU h_i_494)) h_o_495) h_seen_496 (ow1 := [ol p_0 seen_496]) rfl (kx_ _ _ ?_))
      obtain ⟨o_497, h_o_497, hf⟩ := bind_some hf
      obtain ⟨i_498, h_i_498, hf⟩ := bind_some hf
      obtain ⟨o_499, h_o_499, hf⟩ := bind_some hf
      obtain ⟨tot_506, h_tot_506, hf⟩ := bind_some hf
      refine sb_for (β := Dy) (Sx := (List Str)) (fun s => [sv thing_484, sv deep_485, sv tabled_486, .at p_0, .any]) (fun s => [ol p_0 s]) (fun x s => [sv thing_484, sv deep_485, sv tabled_486, .at p_0, sv x]) [4] (fun xs s => forC (m_check_box_L1 rec_check_box thing_484 deep_485 tabled_486) xs s = some tot_506) seen_496 (IT.m (it_tup (ev_of (ev_op (ev_of (ev_var (i := 0) rfl) h_o_497) (ev_int 4) (r2_ixU h_i_498)) h_o_499))) h_tot_506 (.keep (.keep (.keep (.keep (.keep .nil))))) (List.Sublist.refl _) (fun x s => (gt_name rfl)) ?_ ?_
      · intro Kn1 b1 part_501 rest_ seen_500 hP_503 N_ hN_502
        obtain ⟨c_, hc_504, hP_503⟩ := bind_some hP_503
        have q_505 := q.base b1
        unfold m_check_box_L1 at hc_504
        refine SB.is (sl' := [sv thing_484, sv deep_485, sv tabled_486, .at p_0, sv part_501]) (ow1 := [ol p_0 seen_500]) rfl rfl ?_
        obtain ⟨b_510, h_b_510, hc_504⟩ := bind_some hc_504
        obtain ⟨r_511_0, h_r_511, hc_504⟩ := bind_some hc_504
        obtain ⟨ex_513, rfl⟩ | ⟨⟨r_511, seen_512⟩, rfl⟩ := er_cases r_511_0
        · replace hc_504 : some (Ctl.rt (Er.ex ex_513)) = some _ := hc_504
          cases hc_504
          replace hP_503 : some (Ctl.rt (Er.ex ex_513)) = some tot_506 := hP_503
          cases hP_503
          replace hf : some (Er.ex ex_513) = some r_ := hf
          cases hf
          exact sb_dropRM (er_callMX (mk := (fun p_ => (mV (mV (mV (mO p_ mE)))))) (j := 0) (emx_val (ev_var (i := 4) rfl) (emx_val (ev_op (ev_var (i := 1) rfl) (ev_int 1) r2_add) (emx_val (ev_orO h_b_510 (ev_var (i := 2) rfl) (fun _ _ h => by obtain ⟨o_507, h_o_507, h⟩ := bind_some h; obtain ⟨i_508, h_i_508, h⟩ := bind_some h; obtain ⟨o_509, h_o_509, h⟩ := bind_some h; have hz_ := Option.some.inj h; subst hz_; exact (ev_op (ev_of (ev_op (ev_of (ev_var (i := 0) rfl) h_o_507) (ev_int 0) (r2_ixU h_i_508)) h_o_509) (ev_str ("table" : Str)) r2_eqS))) (emx_own (i := 3) rfl emx_nil)))) rfl h_r_511) (rw_out q_505 (List.nil_sublist _))
        refine sb_dropM (em_callMX (mk := (fun p_ => (mV (mV (mV (mO p_ mE)))))) (j := 0) (emx_val (ev_var (i := 4) rfl) (emx_val (ev_op (ev_var (i := 1) rfl) (ev_int 1) r2_add) (emx_val (ev_orO h_b_510 (ev_var (i := 2) rfl) (fun _ _ h => by obtain ⟨o_507, h_o_507, h⟩ := bind_some h; obtain ⟨i_508, h_i_508, h⟩ := bind_some h; obtain ⟨o_509, h_o_509, h⟩ := bind_some h; have hz_ := Option.some.inj h; subst hz_; exact (ev_op (ev_of (ev_op (ev_of (ev_var (i := 0) rfl) h_o_507) (ev_int 0) (r2_ixU h_i_508)) h_o_509) (ev_str ("table" : Str)) r2_eqS))) (emx_own (i := 3) rfl emx_nil)))) rfl h_r_511) ?_
        cases hc_504
        exact fun σ Kn H s => hN_502 _ hP_503 σ Kn H ((s.le (.keep (.keep (.keep (.keep (.drop .nil)))))).sub (List.Sublist.refl _))
      · intro seen_514 h0
        cases h0
        show SN _ _ _ [sv thing_484, sv deep_485, sv tabled_486, .at p_0, .any] [ol p_0 seen_514] _
        cases hf
        exact sn_end (REM.ok_rt q) (fun _ _ h => h) (List.Sublist.refl _)
theorem ok_check_box (T : TX K mg w) : ∀ n : Nat, FnOk P w K mg base (L2.CX P w) (6 + n) T.a_check_box T.d_check_box ["thing", "deep", "tabled", "seen"] (PMX (α := Nn) (β := Str) (τ := Dy × Int × Bool × Unit) K (cmT T) (fun p_ => (mV (mV (mV (mO p_ mE))))) (fun xs_ t_ => m_check_box n t_.1 t_.2.1 t_.2.2.1 xs_))
  | 0 => fnok_noneMX
  | n + 1 => step_check_box T (m_check_box n) (Nat.le_add_right _ _) (ok_check_box T n)
theorem sc_check_tree : FnScope ["thing"] ["thing"] (defScope s_check_tree) := ⟨rfl, rfl, rfl, by decide +kernel, rfl, by decide +kernel, by decide +kernel⟩
set_option maxHeartbeats 4000000 in
theorem ok_check_tree (T : TX K mg w) : FnOk P w K mg base (L2.CX P w) 17 T.a_check_tree T.d_check_tree ["thing"] (PX (τ := Dy × Unit) K (cmT T) (fun t => m_check_tree t.1)) := by
  refine T.F_check_tree.okX sc_check_tree (fun vs H Q E h => ?_) (fun cdv A outer s H vs Q E hr h => ?_)
  · obtain ⟨Kn, t, r, ek, h, hf, q⟩ := h
    exact Tp.len h
  · obtain ⟨Kn, t, r_, ek, h, hf, q⟩ := h
    obtain ⟨thing_516, u_⟩ := t
    obtain ⟨v_0, rr_, rfl, hv_0, h⟩ := h
    obtain rfl := h
    replace hf : m_check_tree thing_516 = some r_ := hf
    unfold m_check_tree at hf
    refine ⟨_, (pss_one (ps_expr (pe_callS (ok_check_box T 10) (hr.mono (by decide)) (by rfl) T.g_check_box T.F_check_box.kp T.b_check_box (fun σ => passAt (takes_of rfl rfl rfl rfl) σ) (pa_cons (pv 0) (pa_cons pe_int (pa_cons pe_bl (pa_cons (pe_lst pa_nil) pa_nil))))))), ?_⟩
    refine enter (K := K) (Kn := Kn) (sl := [sv thing_516]) ek ⟨⟨v_0, rfl, hv_0⟩, trivial⟩ ?_
    have q := re_of q
    obtain ⟨r_517_0, h_r_517, hf⟩ := bind_some hf
    obtain ⟨ex_519, rfl⟩ | ⟨⟨r_517, tmp_518⟩, rfl⟩ := er_cases r_517_0
    · replace hf : some (Er.ex ex_519) = some _ := hf
      cases hf
      exact sb_dropR (er_callMXN (emt_val (ev_var (i := 0) rfl) (emt_val (ev_int 1) (emt_val (ev_bool false) (emt_new (en_lst el_nil) emx_nil)))) h_r_517) (rw_out q (List.Sublist.refl _))
    refine sb_drop (ev_callMXN (emt_val (ev_var (i := 0) rfl) (emt_val (ev_int 1) (emt_val (ev_bool false) (emt_new (en_lst el_nil) emx_nil)))) h_r_517) ?_
    cases hf
    exact sn_end (RE.ok_rt q) (fun _ _ h => h) (List.Sublist.refl _)
theorem sc__law_at : FnScope ["_law_script", "_law_k"] ["_law_script", "_law_k"] (defScope s__law_at) := ⟨rfl, rfl, rfl, by decide +kernel, rfl, by decide +kernel, by decide +kernel⟩
set_option maxHeartbeats 4000000 in
theorem ok__law_at (T : TX K mg w) : FnOk P w K mg base CX0 1 T.a__law_at T.d__law_at ["_law_script", "_law_k"] (PF (τ := (Fz Int) × Int × Unit) K (fun t => m__law_at t.1 t.2.1)) := by
  refine T.F__law_at.ok sc__law_at (fun vs H Q E h => ?_) (fun cdv A outer s H vs Q E hr h => ?_)
  · obtain ⟨Kn, t, r, ek, h, hf, q⟩ := h
    exact Tp.len h
  · obtain ⟨Kn, t, r_, ek, h, hf, q⟩ := h
    obtain ⟨script_520, k_521, u_⟩ := t
    obtain ⟨v_0, rr_, rfl, hv_0, h⟩ := h
    obtain ⟨v_1, rr_, rfl, hv_1, h⟩ := h
    obtain rfl := h
    replace hf : m__law_at script_520 k_521 = some r_ := hf
    unfold m__law_at at hf
    refine ⟨_, (pss_cons (ps_if (pt_cmpR op_lt (pv 1) (pe_callB k_len (by rfl) T.z_len PySem.boot_len (pa_cons (pv 0) pa_nil)) (nomark _)) (pss_one (ps_ret (pe_ix k_ixl (pv 0) (pv 1) (fun _ _ => rfl)))) pss_nil)
      (pss_one (ps_ret pe_int))), ?_⟩
    refine enter (K := K) (Kn := Kn) (sl := [sv script_520, sv k_521]) ek ⟨⟨v_0, rfl, hv_0⟩, ⟨v_1, rfl, hv_1⟩, trivial⟩ ?_
    have q := rt_of q
    refine SB.seqB (fun kx_524 => sb_if (b := (decide (k_521 < (script_520.l.length : Int)))) (et_test (ev_op (ev_var (i := 1) rfl) (ev_cb (ea_cons (ev_var (i := 0) rfl) ea_nil) rc_lenF) r2_lt)) (fun hb_523 => ?_) (fun hb_523 => ?_))
    · have hf := ite_t hb_523 hf
      obtain ⟨i_525, h_i_525, hf⟩ := bind_some hf
      cases hf
      exact sb_ret (ev_op (ev_var (i := 0) rfl) (ev_var (i := 1) rfl) (r2_ixF h_i_525)) q (List.Sublist.refl _)
    · have hf := ite_f hb_523 hf
      refine sb_nx ?_
      refine kx_524 _ _ ?_
      cases hf
      exact sb_ret (ev_int 0) q (List.Sublist.refl _)
theorem sc__law_mixed : FnScope ["_law_cell", "_law_n"] ["_law_cell"] (defScope s__law_mixed) := ⟨rfl, rfl, rfl, by decide +kernel, rfl, by decide +kernel, by decide +kernel⟩
set_option maxHeartbeats 4000000 in
theorem ok__law_mixed (T : TX K mg w) : FnOk P w K mg base CX0 1 T.a__law_mixed T.d__law_mixed ["_law_cell"] (PF (τ := Int × Unit) K (fun t => m__law_mixed t.1)) := by
  refine T.F__law_mixed.ok sc__law_mixed (fun vs H Q E h => ?_) (fun cdv A outer s H vs Q E hr h => ?_)
  · obtain ⟨Kn, t, r, ek, h, hf, q⟩ := h
    exact Tp.len h
  · obtain ⟨Kn, t, r_, ek, h, hf, q⟩ := h
    obtain ⟨cell_526, u_⟩ := t
    obtain ⟨v_0, rr_, rfl, hv_0, h⟩ := h
    obtain rfl := h
    replace hf : m__law_mixed cell_526 = some r_ := hf
    unfold m__law_mixed at hf
    refine ⟨_, (pss_cons (ps_set (i := 1) sc__law_mixed.nd rfl (.inl rfl) (pe_op op_mod (pe_op op_mul (pv 0) pe_int) pe_int))
      (pss_cons (ps_set (i := 1) sc__law_mixed.nd rfl (.inl rfl) (pe_op op_mod (pe_op op_add (pe_op op_fdiv (pv 1) pe_int) (pe_op op_mul (pv 1) pe_int)) pe_int))
      (pss_one (ps_ret (pe_op op_mod (pe_op op_mul (pv 1) (pe_op op_add (pe_op op_mod (pv 1) pe_int) pe_int)) pe_int))))), ?_⟩
    refine enter (K := K) (Kn := Kn) (sl := [sv cell_526, .any]) ek ⟨⟨v_0, rfl, hv_0⟩, trivial, trivial⟩ ?_
    have q := rt_of q
    obtain ⟨n_527, h_n_527, hf⟩ := bind_some hf
    refine SB.seqB (fun kx_ => sb_asg (sl' := [sv cell_526, sv n_527]) rfl (EV.cast (ev_op (ev_op (ev_var (i := 0) rfl) (ev_int 48271) r2_mulr) (ev_int 2147483647) r2_mod) (Option.some.inj h_n_527)) (kx_ _ _ ?_))
    obtain ⟨n_528, h_n_528, hf⟩ := bind_some hf
    refine SB.seqB (fun kx_ => sb_asg (sl' := [sv cell_526, sv n_528]) rfl (EV.cast (ev_op (ev_op (ev_op (ev_var (i := 1) rfl) (ev_int 65536) r2_div) (ev_op (ev_var (i := 1) rfl) (ev_int 16807) r2_mulr) r2_add) (ev_int 2147483629) r2_mod) (Option.some.inj h_n_528)) (kx_ _ _ ?_))
    obtain ⟨m_529, h_m_529, hf⟩ := bind_some hf
    cases hf
    exact sb_ret (ev_op (ev_op (ev_var (i := 1) rfl) (ev_op (ev_op (ev_var (i := 1) rfl) (ev_int 32768) r2_mod) (ev_int 40961) r2_add) (r2_mulO h_m_529)) (ev_int 1000000000039) r2_mod) q (List.Sublist.refl _)
theorem sc__law_draws : FnScope ["_law_script", "_law_first", "_law_many", "_law_base", "_law_found", "_law_cell", "_law_k", "_law_n"] ["_law_script", "_law_first", "_law_many", "_law_base"] (defScope s__law_draws) := ⟨rfl, rfl, rfl, by decide +kernel, rfl, by decide +kernel, by decide +kernel⟩
set_option maxHeartbeats 4000000 in
theorem ok__law_draws (T : TX K mg w) : FnOk P w K mg base CX0 2 T.a__law_draws T.d__law_draws ["_law_script", "_law_first", "_law_many", "_law_base"] (PL (τ := (Fz Int) × Int × Int × Int × Unit) K (fun t => m__law_draws t.1 t.2.1 t.2.2.1 t.2.2.2.1)) := by
  refine T.F__law_draws.ok sc__law_draws (fun vs H Q E h => ?_) (fun cdv A outer s H vs Q E hr h => ?_)
  · obtain ⟨Kn, t, r, ek, h, hf, q⟩ := h
    exact Tp.len h
  · obtain ⟨Kn, t, r_, ek, h, hf, q⟩ := h
    obtain ⟨script_530, first_531, many_532, base_533, u_⟩ := t
    obtain ⟨v_0, rr_, rfl, hv_0, h⟩ := h
    obtain ⟨v_1, rr_, rfl, hv_1, h⟩ := h
    obtain ⟨v_2, rr_, rfl, hv_2, h⟩ := h
    obtain ⟨v_3, rr_, rfl, hv_3, h⟩ := h
    obtain rfl := h
    replace hf : m__law_draws script_530 first_531 many_532 base_533 = some r_ := hf
    unfold m__law_draws at hf
    refine ⟨_, (pss_cons (ps_set (i := 4) sc__law_draws.nd rfl (.inl rfl) (pe_lst pa_nil))
      (pss_cons (ps_set (i := 5) sc__law_draws.nd rfl (.inl rfl) (pe_call (ok__law_at T) hr (by rfl) T.g__law_at T.F__law_at.kp T.b__law_at .nil pass0 (pa_cons (pv 0) (pa_cons (pv 1) pa_nil))))
      (pss_cons (ps_while PassesOwn.never (PW.pt (pw_and (pt_cmpR op_ge (pv 5) (pe_op op_pow pe_int pe_int) (nomark _)) (pw_and1 (pt_cmpR op_lt (pe_callB k_len (by rfl) T.z_len PySem.boot_len (pa_cons (pv 4) pa_nil)) (pv 2) (nomark _))))) (pss_cons (ps_expr (pe_bm PySem.F.plainAttrs_list PySem.F.slot_list_append PySem.F.type_list_append mt_append (pv 4) (pa_cons (pe_op op_mod (pv 5) (pv 3)) pa_nil)))
      (pss_one (ps_set (i := 5) sc__law_draws.nd rfl (.inl rfl) (pe_op op_fdivW (pv 5) (pv 3))))))
      (pss_cons (ps_for PassesOwn.never rfl (pi_range1 (by rfl) T.z_range (pa_cons (pe_op op_sub (pv 2) (pe_callB k_len (by rfl) T.z_len PySem.boot_len (pa_cons (pv 4) pa_nil))) pa_nil)) (pg_name (i := 6) sc__law_draws.nd rfl (.inl rfl)) (pss_cons (ps_set (i := 7) sc__law_draws.nd rfl (.inl rfl) (pe_call (ok__law_mixed T) hr (by rfl) T.g__law_mixed T.F__law_mixed.kp T.b__law_mixed .nil pass0 (pa_cons (pe_op op_add (pe_call (ok__law_at T) hr (by rfl) T.g__law_at T.F__law_at.kp T.b__law_at .nil pass0 (pa_cons (pv 0) (pa_cons (pe_op op_add (pe_op op_add (pv 1) pe_int) (pv 6)) pa_nil))) (pe_op op_mul (pe_op op_mul pe_int (pv 6)) (pv 6))) pa_nil)))
      (pss_one (ps_expr (pe_bm PySem.F.plainAttrs_list PySem.F.slot_list_append PySem.F.type_list_append mt_append (pv 4) (pa_cons (pe_op op_mod (pe_op op_add (pe_op op_mul (pv 7) pe_int) (pe_call (ok__law_mixed T) hr (by rfl) T.g__law_mixed T.F__law_mixed.kp T.b__law_mixed .nil pass0 (pa_cons (pe_op op_add (pe_op op_add (pv 7) (pe_op op_mul pe_int (pv 6))) pe_int) pa_nil))) (pv 3)) pa_nil))))))
      (pss_one (ps_ret (pv 4))))))), ?_⟩
    refine enter (K := K) (Kn := Kn) (sl := [sv script_530, sv first_531, sv many_532, sv base_533, .any, .any, .any, .any]) ek ⟨⟨v_0, rfl, hv_0⟩, ⟨v_1, rfl, hv_1⟩, ⟨v_2, rfl, hv_2⟩, ⟨v_3, rfl, hv_3⟩, trivial, trivial, trivial, trivial, trivial⟩ ?_
    have q := rn_of q
    obtain ⟨found_534, h_found_534, hf⟩ := bind_some hf
    refine SB.seqB (fun kx_ => sb_asgO (sl' := fun p_found_534 => [sv script_530, sv first_531, sv many_532, sv base_533, .at p_found_534, .any, .any, .any]) (fun _ => rfl) (EN.cast (en_lst el_nil) (Option.some.inj h_found_534)) (fun p_found_534 => (kx_ _ _ ?_)))
    obtain ⟨r_535, h_r_535, hf⟩ := bind_some hf
    obtain ⟨cell_536, h_cell_536, hf⟩ := bind_some hf
    refine SB.seqB (fun kx_ => sb_asg (sl' := [sv script_530, sv first_531, sv many_532, sv base_533, .at p_found_534, sv cell_536, .any, .any]) rfl (EV.cast (ev_call (ea_cons (ev_var (i := 0) rfl) (ea_cons (ev_var (i := 1) rfl) ea_nil)) h_r_535) (Option.some.inj h_cell_536)) (kx_ _ _ ?_))
    obtain ⟨⟨cell_548, found_549⟩, h_tot_543, hf⟩ := bind_some hf
    obtain ⟨n0_, h_tot_543⟩ := whileF_some h_tot_543
    refine SB.seqB (fun kx_550 => sb_while (Sx := Int × (List Int)) (fun s => [sv script_530, sv first_531, sv many_532, sv base_533, .at p_found_534, sv s.1, .any, .any]) (fun s => [ol p_found_534 s.2]) (fun n s => whileS (m__law_draws_L1_c many_532 base_533) (m__law_draws_L1 many_532 base_533) n s = some (cell_548, found_549)) n0_ (cell_536, found_534) h_tot_543 (.keep (.keep (.keep (.keep (.keep (.keep (.keep (.keep .nil)))))))) (List.Sublist.refl _) ?_)
    intro n_ s_ hP_540
    obtain ⟨cell_537, found_538⟩ := s_
    cases n_ with
    | zero => cases hP_540
    | succ n_ =>
      obtain ⟨b_, ht_, hP_540⟩ := bind_some hP_540
      unfold m__law_draws_L1_c at ht_
      cases ht_
      refine ⟨_, ET.is (sl' := [sv script_530, sv first_531, sv many_532, sv base_533, .at p_found_534, sv cell_537, .any, .any]) rfl (et_and (et_test (ev_op (ev_var (i := 5) rfl) (ev_op (ev_int 10) (ev_int 18) (r2_pow (r := 1000000000000000000))) r2_ge)) (fun _ => (et_test (ev_bor (i := 4) (j := 0) (sl' := [sv script_530, sv first_531, sv many_532, sv base_533, sv found_538, sv cell_537, .any, .any]) (ow1 := []) rfl rfl rfl rfl (ev_op (ev_cb (ea_cons (ev_var (i := 4) rfl) ea_nil) rc_len) (ev_var (i := 2) rfl) r2_lt))))), fun hb_542 N_ hN_539 => ?_, fun hb_542 => ?_⟩
      · have hP_540 := ite_t hb_542 hP_540
        obtain ⟨c_, hc_541, hP_540⟩ := bind_some hP_540
        unfold m__law_draws_L1 at hc_541
        refine SB.is (sl' := [sv script_530, sv first_531, sv many_532, sv base_533, .at p_found_534, sv cell_537, .any, .any]) (ow1 := [ol p_found_534 found_538]) rfl rfl ?_
        obtain ⟨r_544, h_r_544, hc_541⟩ := bind_some hc_541
        obtain ⟨found_545, h_found_545, hc_541⟩ := bind_some hc_541
        refine SB.seqB (fun kx_ => sb_appO (i := 4) (j := 0) rfl rfl (ev_op (ev_var (i := 5) rfl) (ev_var (i := 3) rfl) (r2_modO h_r_544)) h_found_545 (ow1 := [ol p_found_534 found_545]) rfl (kx_ _ _ ?_))
        obtain ⟨q_546, h_q_546, hc_541⟩ := bind_some hc_541
        obtain ⟨cell_547, h_cell_547, hc_541⟩ := bind_some hc_541
        refine sb_asg (sl' := [sv script_530, sv first_531, sv many_532, sv base_533, .at p_found_534, sv cell_547, .any, .any]) rfl (EV.cast (ev_op (ev_var (i := 5) rfl) (ev_var (i := 3) rfl) (r2_divO h_q_546)) (Option.some.inj h_cell_547)) ?_
        cases hc_541
        exact fun σ Kn H s => hN_539 _ _ (Nat.lt_succ_self _) hP_540 σ Kn H ((s.le (.keep (.keep (.keep (.keep (.keep (.keep (.keep (.keep .nil))))))))).sub (List.Sublist.refl _))
      · have hP_540 := ite_f hb_542 hP_540
        cases hP_540
        refine kx_550 _ _ ?_
        refine SB.is (sl' := [sv script_530, sv first_531, sv many_532, sv base_533, .at p_found_534, sv cell_548, .any, .any]) (ow1 := [ol p_found_534 found_549]) rfl rfl ?_
        obtain ⟨rg_551, h_rg_551, hf⟩ := bind_some hf
        obtain ⟨found_566, h_tot_558, hf⟩ := bind_some hf
        refine SB.seqB (fun kx_567 => sb_for (β := Int) (Sx := (List Int)) (fun s => [sv script_530, sv first_531, sv many_532, sv base_533, .at p_found_534, sv cell_548, .any, .any]) (fun s => [ol p_found_534 s]) (fun x s => [sv script_530, sv first_531, sv many_532, sv base_533, .at p_found_534, sv cell_548, sv x, .any]) [6] (fun xs s => forS (m__law_draws_L2 script_530 first_531 base_533) xs s = some found_566) found_549 (IT.m (it_rng1 (ea_cons (ev_op (ev_var (i := 2) rfl) (ev_bor (i := 4) (j := 0) (sl' := [sv script_530, sv first_531, sv many_532, sv base_533, sv found_549, sv cell_548, .any, .any]) (ow1 := []) rfl rfl rfl rfl (ev_cb (ea_cons (ev_var (i := 4) rfl) ea_nil) rc_len)) r2_sub) ea_nil) h_rg_551)) h_tot_558 (.keep (.keep (.keep (.keep (.keep (.keep (.keep (.keep .nil)))))))) (List.Sublist.refl _) (fun x s => (gt_name rfl)) ?_ ?_)
        · intro Kn1 b1 k_553 rest_ found_552 hP_555 N_ hN_554
          obtain ⟨c_, hc_556, hP_555⟩ := bind_some hP_555
          have q_557 := q.base b1
          unfold m__law_draws_L2 at hc_556
          refine SB.is (sl' := [sv script_530, sv first_531, sv many_532, sv base_533, .at p_found_534, sv cell_548, sv k_553, .any]) (ow1 := [ol p_found_534 found_552]) rfl rfl ?_
          obtain ⟨r_559, h_r_559, hc_556⟩ := bind_some hc_556
          obtain ⟨m_560, h_m_560, hc_556⟩ := bind_some hc_556
          obtain ⟨r_561, h_r_561, hc_556⟩ := bind_some hc_556
          obtain ⟨n_562, h_n_562, hc_556⟩ := bind_some hc_556
          refine SB.seqB (fun kx_ => sb_asg (sl' := [sv script_530, sv first_531, sv many_532, sv base_533, .at p_found_534, sv cell_548, sv k_553, sv n_562]) rfl (EV.cast (ev_call (ea_cons (ev_op (ev_call (ea_cons (ev_var (i := 0) rfl) (ea_cons (ev_op (ev_op (ev_var (i := 1) rfl) (ev_int 1) r2_add) (ev_var (i := 6) rfl) r2_add) ea_nil)) h_r_559) (ev_op (ev_op (ev_int 97) (ev_var (i := 6) rfl) r2_mull) (ev_var (i := 6) rfl) (r2_mulO h_m_560)) r2_add) ea_nil) h_r_561) (Option.some.inj h_n_562)) (kx_ _ _ ?_))
          obtain ⟨r_563, h_r_563, hc_556⟩ := bind_some hc_556
          obtain ⟨r_564, h_r_564, hc_556⟩ := bind_some hc_556
          obtain ⟨found_565, h_found_565, hc_556⟩ := bind_some hc_556
          refine sb_appO (i := 4) (j := 0) rfl rfl (ev_op (ev_op (ev_op (ev_var (i := 7) rfl) (ev_int 1000000000039) r2_mulr) (ev_call (ea_cons (ev_op (ev_op (ev_var (i := 7) rfl) (ev_op (ev_int 7) (ev_var (i := 6) rfl) r2_mull) r2_add) (ev_int 1) r2_add) ea_nil) h_r_563) r2_add) (ev_var (i := 3) rfl) (r2_modO h_r_564)) h_found_565 (ow1 := [ol p_found_534 found_565]) rfl ?_
          cases hc_556
          exact fun σ Kn H s => hN_554 _ hP_555 σ Kn H ((s.le (.keep (.keep (.keep (.keep (.keep (.keep (.drop (.drop .nil))))))))).sub (List.Sublist.refl _))
        · intro s_ h0
          cases h0
          refine kx_567 _ _ ?_
          refine SB.is (sl' := [sv script_530, sv first_531, sv many_532, sv base_533, .at p_found_534, sv cell_548, .any, .any]) (ow1 := [ol p_found_534 found_566]) rfl rfl ?_
          cases hf
          exact sb_retO (i := 4) (j := 0) rfl rfl q (List.Sublist.cons _ List.Sublist.slnil)
theorem sc__law_label : FnScope ["_law_k", "_law_cell", "_law_letters", "_law_n", "_law_word", "_law_step_here", "_law_at_here", "_law_mark"] ["_law_k", "_law_cell"] (defScope s__law_label) := ⟨rfl, rfl, rfl, by decide +kernel, rfl, by decide +kernel, by decide +kernel⟩
set_option maxHeartbeats 4000000 in
theorem ok__law_label (T : TX K mg w) : FnOk P w K mg base CX0 1 T.a__law_label T.d__law_label ["_law_k", "_law_cell"] (PF (τ := Int × Int × Unit) K (fun t => m__law_label t.1 t.2.1)) := by
  refine T.F__law_label.ok sc__law_label (fun vs H Q E h => ?_) (fun cdv A outer s H vs Q E hr h => ?_)
  · obtain ⟨Kn, t, r, ek, h, hf, q⟩ := h
    exact Tp.len h
  · obtain ⟨Kn, t, r_, ek, h, hf, q⟩ := h
    obtain ⟨k_568, cell_569, u_⟩ := t
    obtain ⟨v_0, rr_, rfl, hv_0, h⟩ := h
    obtain ⟨v_1, rr_, rfl, hv_1, h⟩ := h
    obtain rfl := h
    replace hf : m__law_label k_568 cell_569 = some r_ := hf
    unfold m__law_label at hf
    refine ⟨_, (pss_cons (ps_set (i := 2) sc__law_label.nd rfl (.inl rfl) pe_str)
      (pss_cons (ps_set (i := 3) sc__law_label.nd rfl (.inl rfl) (pe_op op_mod (pe_op op_mul (pv 1) pe_int) pe_int))
      (pss_cons (ps_set (i := 4) sc__law_label.nd rfl (.inl rfl) pe_str)
      (pss_cons (ps_for PassesOwn.never rfl (pi_range1 (by rfl) T.z_range (pa_cons (pe_op op_mod (pv 3) pe_int) pa_nil)) (pg_name (i := 5) sc__law_label.nd rfl (.inl rfl)) (pss_cons (ps_set (i := 3) sc__law_label.nd rfl (.inl rfl) (pe_op op_fdiv (pv 3) pe_int))
      (pss_one (ps_set (i := 4) sc__law_label.nd rfl (.inl rfl) (pe_op op_add_str (pv 4) (pe_ix ix_str (pv 2) (pe_op op_mod (pv 3) pe_int) (fun _ _ => rfl)))))))
      (pss_cons (ps_set (i := 6) sc__law_label.nd rfl (.inl rfl) (pe_op op_mod (pv 1) (pe_op op_add (pe_callB call_len_str (by rfl) T.z_len PySem.boot_len (pa_cons (pv 4) pa_nil)) pe_int)))
      (pss_cons (ps_set (i := 7) sc__law_label.nd rfl (.inl rfl) (pe_op op_add_str (pe_ix ix_str (pv 2) (pe_op op_mod (pe_op op_add (pv 0) (pv 1)) pe_int) (fun _ _ => rfl)) (pe_ix ix_str (pv 2) (pe_op op_fdiv (pv 0) pe_int) (fun _ _ => rfl))))
      (pss_one (ps_ret (pe_op op_add_str (pe_op op_add_str (pe_slice sl_str (pv 4) po_none (po_some (pv 6))) (pv 7)) (pe_slice sl_str (pv 4) (po_some (pv 6)) po_none)))))))))), ?_⟩
    refine enter (K := K) (Kn := Kn) (sl := [sv k_568, sv cell_569, .any, .any, .any, .any, .any, .any]) ek ⟨⟨v_0, rfl, hv_0⟩, ⟨v_1, rfl, hv_1⟩, trivial, trivial, trivial, trivial, trivial, trivial, trivial⟩ ?_
    have q := rt_of q
    obtain ⟨letters_570, h_letters_570, hf⟩ := bind_some hf
    refine SB.seqB (fun kx_ => sb_asg (sl' := [sv k_568, sv cell_569, sv letters_570, .any, .any, .any, .any, .any]) rfl (EV.cast (ev_str ("abcdefghijklmnopqrstuvwxyz" : Str)) (Option.some.inj h_letters_570)) (kx_ _ _ ?_))
    obtain ⟨n_571, h_n_571, hf⟩ := bind_some hf
    refine SB.seqB (fun kx_ => sb_asg (sl' := [sv k_568, sv cell_569, sv letters_570, sv n_571, .any, .any, .any, .any]) rfl (EV.cast (ev_op (ev_op (ev_var (i := 1) rfl) (ev_int 1099087573) r2_mulr) (ev_int 10000000000037) r2_mod) (Option.some.inj h_n_571)) (kx_ _ _ ?_))
    obtain ⟨word_572, h_word_572, hf⟩ := bind_some hf
    refine SB.seqB (fun kx_ => sb_asg (sl' := [sv k_568, sv cell_569, sv letters_570, sv n_571, sv word_572, .any, .any, .any]) rfl (EV.cast (ev_str ("" : Str)) (Option.some.inj h_word_572)) (kx_ _ _ ?_))
    obtain ⟨rg_573, h_rg_573, hf⟩ := bind_some hf
    obtain ⟨⟨n_586, word_587⟩, h_tot_581, hf⟩ := bind_some hf
    refine SB.seqB (fun kx_588 => sb_for (β := Int) (Sx := Int × Str) (fun s => [sv k_568, sv cell_569, sv letters_570, sv s.1, sv s.2, .any, .any, .any]) (fun s => []) (fun x s => [sv k_568, sv cell_569, sv letters_570, sv s.1, sv s.2, sv x, .any, .any]) [5] (fun xs s => forS (m__law_label_L1 letters_570) xs s = some (n_586, word_587)) (n_571, word_572) (IT.m (it_rng1 (ea_cons (ev_op (ev_var (i := 3) rfl) (ev_int 6) r2_mod) ea_nil) h_rg_573)) h_tot_581 (.keep (.keep (.keep (.keep (.keep (.keep (.keep (.keep .nil)))))))) (List.Sublist.refl _) (fun x s => (gt_name rfl)) ?_ ?_)
    · intro Kn1 b1 step_here_576 rest_ s_ hP_578 N_ hN_577
      obtain ⟨n_574, word_575⟩ := s_
      obtain ⟨c_, hc_579, hP_578⟩ := bind_some hP_578
      have q_580 := q.base b1
      unfold m__law_label_L1 at hc_579
      refine SB.is (sl' := [sv k_568, sv cell_569, sv letters_570, sv n_574, sv word_575, sv step_here_576, .any, .any]) (ow1 := []) rfl rfl ?_
      obtain ⟨n_582, h_n_582, hc_579⟩ := bind_some hc_579
      refine SB.seqB (fun kx_ => sb_asg (sl' := [sv k_568, sv cell_569, sv letters_570, sv n_582, sv word_575, sv step_here_576, .any, .any]) rfl (EV.cast (ev_op (ev_var (i := 3) rfl) (ev_int 7) r2_div) (Option.some.inj h_n_582)) (kx_ _ _ ?_))
      obtain ⟨i_583, h_i_583, hc_579⟩ := bind_some hc_579
      obtain ⟨t_584, h_t_584, hc_579⟩ := bind_some hc_579
      obtain ⟨word_585, h_word_585, hc_579⟩ := bind_some hc_579
      refine sb_asg (sl' := [sv k_568, sv cell_569, sv letters_570, sv n_582, sv word_585, sv step_here_576, .any, .any]) rfl (EV.cast (ev_op (ev_var (i := 4) rfl) (ev_op (ev_var (i := 2) rfl) (ev_op (ev_var (i := 3) rfl) (ev_int 26) r2_mod) (r2_ixS h_i_583)) (r2_addS h_t_584)) (Option.some.inj h_word_585)) ?_
      cases hc_579
      exact fun σ Kn H s => hN_577 _ hP_578 σ Kn H ((s.le (.keep (.keep (.keep (.keep (.keep (.drop (.keep (.keep .nil))))))))).sub (List.Sublist.refl _))
    · intro s_ h0
      cases h0
      refine kx_588 _ _ ?_
      refine SB.is (sl' := [sv k_568, sv cell_569, sv letters_570, sv n_586, sv word_587, .any, .any, .any]) (ow1 := []) rfl rfl ?_
      obtain ⟨n_589, h_n_589, hf⟩ := bind_some hf
      obtain ⟨r_590, h_r_590, hf⟩ := bind_some hf
      obtain ⟨at_here_591, h_at_here_591, hf⟩ := bind_some hf
      refine SB.seqB (fun kx_ => sb_asg (sl' := [sv k_568, sv cell_569, sv letters_570, sv n_586, sv word_587, .any, sv at_here_591, .any]) rfl (EV.cast (ev_op (ev_var (i := 1) rfl) (ev_op (ev_cb (ea_cons (ev_var (i := 4) rfl) ea_nil) (rc_lenS h_n_589)) (ev_int 1) r2_add) (r2_modO h_r_590)) (Option.some.inj h_at_here_591)) (kx_ _ _ ?_))
      obtain ⟨i_592, h_i_592, hf⟩ := bind_some hf
      obtain ⟨i_593, h_i_593, hf⟩ := bind_some hf
      obtain ⟨t_594, h_t_594, hf⟩ := bind_some hf
      obtain ⟨mark_595, h_mark_595, hf⟩ := bind_some hf
      refine SB.seqB (fun kx_ => sb_asg (sl' := [sv k_568, sv cell_569, sv letters_570, sv n_586, sv word_587, .any, sv at_here_591, sv mark_595]) rfl (EV.cast (ev_op (ev_op (ev_var (i := 2) rfl) (ev_op (ev_op (ev_var (i := 0) rfl) (ev_var (i := 1) rfl) r2_add) (ev_int 26) r2_mod) (r2_ixS h_i_592)) (ev_op (ev_var (i := 2) rfl) (ev_op (ev_var (i := 0) rfl) (ev_int 26) r2_div) (r2_ixS h_i_593)) (r2_addS h_t_594)) (Option.some.inj h_mark_595)) (kx_ _ _ ?_))
      obtain ⟨cs_596, h_cs_596, hf⟩ := bind_some hf
      obtain ⟨t_597, h_t_597, hf⟩ := bind_some hf
      obtain ⟨cs_598, h_cs_598, hf⟩ := bind_some hf
      obtain ⟨t_599, h_t_599, hf⟩ := bind_some hf
      cases hf
      exact sb_ret (ev_op (ev_op (ev_slS (ev_var (i := 4) rfl) eo_none (eo_some (ev_var (i := 6) rfl)) h_cs_596) (ev_var (i := 7) rfl) (r2_addS h_t_597)) (ev_slS (ev_var (i := 4) rfl) (eo_some (ev_var (i := 6) rfl)) eo_none h_cs_598) (r2_addS h_t_599)) q (List.Sublist.refl _)
theorem sc__law_span : FnScope ["_law_n", "_law_least"] ["_law_n"] (defScope s__law_span) := ⟨rfl, rfl, rfl, by decide +kernel, rfl, by decide +kernel, by decide +kernel⟩
set_option maxHeartbeats 4000000 in
theorem ok__law_span (T : TX K mg w) : FnOk P w K mg base CX0 1 T.a__law_span T.d__law_span ["_law_n"] (PF (τ := Int × Unit) K (fun t => m__law_span t.1)) := by
  refine T.F__law_span.ok sc__law_span (fun vs H Q E h => ?_) (fun cdv A outer s H vs Q E hr h => ?_)
  · obtain ⟨Kn, t, r, ek, h, hf, q⟩ := h
    exact Tp.len h
  · obtain ⟨Kn, t, r_, ek, h, hf, q⟩ := h
    obtain ⟨n_600, u_⟩ := t
    obtain ⟨v_0, rr_, rfl, hv_0, h⟩ := h
    obtain rfl := h
    replace hf : m__law_span n_600 = some r_ := hf
    unfold m__law_span at hf
    refine ⟨_, (pss_cons (ps_set (i := 1) sc__law_span.nd rfl (.inl rfl) (pe_ix k_ixl (pe_lst (pa_cons pe_int (pa_cons (pe_op op_mod (pv 0) pe_int) (pa_cons (pe_op op_mod (pv 0) pe_int) pa_nil)))) (pe_op op_mod (pe_op op_fdiv (pv 0) pe_int) pe_int) (fun _ _ => rfl)))
      (pss_one (ps_ret (pe_tup (pa_cons (pv 1) (pa_cons (pe_ix k_ixl (pe_lst (pa_cons (pe_op op_pow pe_int pe_int) (pa_cons (pe_op op_add (pv 1) (pe_op op_mod (pe_op op_fdiv (pv 0) pe_int) pe_int)) pa_nil))) (pe_op op_mod (pe_op op_fdiv (pv 0) pe_int) pe_int) (fun _ _ => rfl)) pa_nil)))))), ?_⟩
    refine enter (K := K) (Kn := Kn) (sl := [sv n_600, .any]) ek ⟨⟨v_0, rfl, hv_0⟩, trivial, trivial⟩ ?_
    have q := rt_of q
    obtain ⟨i_601, h_i_601, hf⟩ := bind_some hf
    obtain ⟨least_602, h_least_602, hf⟩ := bind_some hf
    refine SB.seqB (fun kx_ => sb_asg (sl' := [sv n_600, sv least_602]) rfl (EV.cast (ev_op (EN.ev (en_lst (el_cons (ev_int 0) (el_cons (ev_op (ev_var (i := 0) rfl) (ev_int 4) r2_mod) (el_cons (ev_op (ev_var (i := 0) rfl) (ev_int 30) r2_mod) el_nil))))) (ev_op (ev_op (ev_var (i := 0) rfl) (ev_int 30) r2_div) (ev_int 3) r2_mod) (r2_ixL h_i_601)) (Option.some.inj h_least_602)) (kx_ _ _ ?_))
    obtain ⟨i_603, h_i_603, hf⟩ := bind_some hf
    cases hf
    exact sb_ret (ev_tup (ea_cons (ev_var (i := 1) rfl) (ea_cons (ev_op (EN.ev (en_lst (el_cons (ev_op (ev_int 10) (ev_int 6) (r2_pow (r := 1000000))) (el_cons (ev_op (ev_var (i := 1) rfl) (ev_op (ev_op (ev_var (i := 0) rfl) (ev_int 90) r2_div) (ev_int 50) r2_mod) r2_add) el_nil)))) (ev_op (ev_op (ev_var (i := 0) rfl) (ev_int 4500) r2_div) (ev_int 2) r2_mod) (r2_ixL h_i_603)) ea_nil))) q (List.Sublist.refl _)
theorem sc__law_own : FnScope ["_law_n", "_law_alike", "_law_wide", "_law_high", "_law_group"] ["_law_n", "_law_alike"] (defScope s__law_own) := ⟨rfl, rfl, rfl, by decide +kernel, rfl, by decide +kernel, by decide +kernel⟩
set_option maxHeartbeats 4000000 in
theorem ok__law_own (T : TX K mg w) : FnOk P w K mg base CX0 2 T.a__law_own T.d__law_own ["_law_n", "_law_alike"] (PF (τ := Int × Bool × Unit) K (fun t => m__law_own t.1 t.2.1)) := by
  refine T.F__law_own.ok sc__law_own (fun vs H Q E h => ?_) (fun cdv A outer s H vs Q E hr h => ?_)
  · obtain ⟨Kn, t, r, ek, h, hf, q⟩ := h
    exact Tp.len h
  · obtain ⟨Kn, t, r_, ek, h, hf, q⟩ := h
    obtain ⟨n_604, alike_605, u_⟩ := t
    obtain ⟨v_0, rr_, rfl, hv_0, h⟩ := h
    obtain ⟨v_1, rr_, rfl, hv_1, h⟩ := h
    obtain rfl := h
    replace hf : m__law_own n_604 alike_605 = some r_ := hf
    unfold m__law_own at hf
    refine ⟨_, (pss_cons (ps_set (i := 2) sc__law_own.nd rfl (.inl rfl) (pe_call (ok__law_span T) hr (by rfl) T.g__law_span T.F__law_span.kp T.b__law_span .nil pass0 (pa_cons (pe_op op_mod (pv 0) pe_int) pa_nil)))
      (pss_cons (ps_set (i := 3) sc__law_own.nd rfl (.inl rfl) (pe_call (ok__law_span T) hr (by rfl) T.g__law_span T.F__law_span.kp T.b__law_span .nil pass0 (pa_cons (pe_op op_mod (pe_op op_fdiv (pv 0) pe_int) pe_int) pa_nil)))
      (pss_cons (ps_set (i := 0) sc__law_own.nd rfl (.inl rfl) (pe_op op_fdiv (pv 0) pe_int))
      (pss_cons (ps_set (i := 4) sc__law_own.nd rfl (.inl rfl) (pe_op op_mul (pe_ix k_ixl (pe_lst (pa_cons pe_int (pa_cons pe_int (pa_cons pe_int (pa_cons pe_int pa_nil))))) (pe_op op_mod (pe_op op_fdiv (pv 0) pe_int) pe_int) (fun _ _ => rfl)) (pe_callTy call_int1 (by rfl) T.z_int (by decide +kernel) (pa_cons (pv 1) pa_nil))))
      (pss_one (ps_ret (pe_tup (pa_cons (pv 2) (pa_cons (pv 3) (pa_cons (pe_op op_mod (pv 0) pe_int) (pa_cons (pe_op op_mod (pe_op op_fdiv (pv 0) pe_int) pe_int) (pa_cons (pe_op op_mod (pe_op op_fdiv (pv 0) pe_int) pe_int) (pa_cons (pv 4) pa_nil))))))))))))), ?_⟩
    refine enter (K := K) (Kn := Kn) (sl := [sv n_604, sv alike_605, .any, .any, .any]) ek ⟨⟨v_0, rfl, hv_0⟩, ⟨v_1, rfl, hv_1⟩, trivial, trivial, trivial, trivial⟩ ?_
    have q := rt_of q
    obtain ⟨r_606, h_r_606, hf⟩ := bind_some hf
    obtain ⟨wide_607, h_wide_607, hf⟩ := bind_some hf
    refine SB.seqB (fun kx_ => sb_asg (sl' := [sv n_604, sv alike_605, sv wide_607, .any, .any]) rfl (EV.cast (ev_call (ea_cons (ev_op (ev_var (i := 0) rfl) (ev_int 9000) r2_mod) ea_nil) h_r_606) (Option.some.inj h_wide_607)) (kx_ _ _ ?_))
    obtain ⟨r_608, h_r_608, hf⟩ := bind_some hf
    obtain ⟨high_609, h_high_609, hf⟩ := bind_some hf
    refine SB.seqB (fun kx_ => sb_asg (sl' := [sv n_604, sv alike_605, sv wide_607, sv high_609, .any]) rfl (EV.cast (ev_call (ea_cons (ev_op (ev_op (ev_var (i := 0) rfl) (ev_int 9000) r2_div) (ev_int 9000) r2_mod) ea_nil) h_r_608) (Option.some.inj h_high_609)) (kx_ _ _ ?_))
    obtain ⟨n_610, h_n_610, hf⟩ := bind_some hf
    refine SB.seqB (fun kx_ => sb_asg (sl' := [sv n_610, sv alike_605, sv wide_607, sv high_609, .any]) rfl (EV.cast (ev_op (ev_var (i := 0) rfl) (ev_int 81000000) r2_div) (Option.some.inj h_n_610)) (kx_ _ _ ?_))
    obtain ⟨i_611, h_i_611, hf⟩ := bind_some hf
    obtain ⟨m_612, h_m_612, hf⟩ := bind_some hf
    obtain ⟨group_613, h_group_613, hf⟩ := bind_some hf
    refine SB.seqB (fun kx_ => sb_asg (sl' := [sv n_610, sv alike_605, sv wide_607, sv high_609, sv group_613]) rfl (EV.cast (ev_op (ev_op (EN.ev (en_lst (el_cons (ev_int 0) (el_cons (ev_int 0) (el_cons (ev_int 1) (el_cons (ev_int 2) el_nil)))))) (ev_op (ev_op (ev_var (i := 0) rfl) (ev_int 160) r2_div) (ev_int 4) r2_mod) (r2_ixL h_i_611)) (ev_cb (ea_cons (ev_var (i := 1) rfl) ea_nil) rc_intB) (r2_mulO h_m_612)) (Option.some.inj h_group_613)) (kx_ _ _ ?_))
    cases hf
    exact sb_ret (ev_tup (ea_cons (ev_var (i := 2) rfl) (ea_cons (ev_var (i := 3) rfl) (ea_cons (ev_op (ev_var (i := 0) rfl) (ev_int 4) r2_mod) (ea_cons (ev_op (ev_op (ev_var (i := 0) rfl) (ev_int 4) r2_div) (ev_int 4) r2_mod) (ea_cons (ev_op (ev_op (ev_var (i := 0) rfl) (ev_int 16) r2_div) (ev_int 10) r2_mod) (ea_cons (ev_var (i := 4) rfl) ea_nil))))))) q (List.Sublist.refl _)
theorem sc__law_leaf : FnScope ["_law_name", "_law_n", "_law_own_here", "_law_rest"] ["_law_name", "_law_n"] (defScope s__law_leaf) := ⟨rfl, rfl, rfl, by decide +kernel, rfl, by decide +kernel, by decide +kernel⟩
set_option maxHeartbeats 4000000 in
theorem ok__law_leaf (T : TX K mg w) : FnOk P w K mg base CX0 3 T.a__law_leaf T.d__law_leaf ["_law_name", "_law_n"] (PF (τ := Str × Int × Unit) K (fun t => m__law_leaf t.1 t.2.1)) := by
  refine T.F__law_leaf.ok sc__law_leaf (fun vs H Q E h => ?_) (fun cdv A outer s H vs Q E hr h => ?_)
  · obtain ⟨Kn, t, r, ek, h, hf, q⟩ := h
    exact Tp.len h
  · obtain ⟨Kn, t, r_, ek, h, hf, q⟩ := h
    obtain ⟨name_614, n_615, u_⟩ := t
    obtain ⟨v_0, rr_, rfl, hv_0, h⟩ := h
    obtain ⟨v_1, rr_, rfl, hv_1, h⟩ := h
    obtain rfl := h
    replace hf : m__law_leaf name_614 n_615 = some r_ := hf
    unfold m__law_leaf at hf
    refine ⟨_, (pss_cons (ps_set (i := 2) sc__law_leaf.nd rfl (.inl rfl) (pe_call (ok__law_own T) hr (by rfl) T.g__law_own T.F__law_own.kp T.b__law_own .nil pass0 (pa_cons (pe_op op_fdiv (pv 1) pe_int) (pa_cons (pe_cmpR op_eq (pe_op op_mod (pv 1) pe_int) pe_int (nomark _)) pa_nil))))
      (pss_cons (ps_set (i := 3) sc__law_leaf.nd rfl (.inl rfl) (pe_op op_fdivW (pe_op op_fdiv (pv 1) pe_int) pe_int))
      (pss_one (ps_ret (pe_tup (pa_cons pe_str (pa_cons (pv 0) (pa_cons (pv 2) (pa_cons (pe_tup (pa_cons (pe_op op_mod (pv 3) pe_int) (pa_cons (pe_op op_mod (pe_op op_fdiv (pv 3) pe_int) pe_int) pa_nil))) (pa_cons (pe_tup pa_nil) pa_nil)))))))))), ?_⟩
    refine enter (K := K) (Kn := Kn) (sl := [sv name_614, sv n_615, .any, .any]) ek ⟨⟨v_0, rfl, hv_0⟩, ⟨v_1, rfl, hv_1⟩, trivial, trivial, trivial⟩ ?_
    have q := rt_of q
    obtain ⟨r_616, h_r_616, hf⟩ := bind_some hf
    obtain ⟨own_here_617, h_own_here_617, hf⟩ := bind_some hf
    refine SB.seqB (fun kx_ => sb_asg (sl' := [sv name_614, sv n_615, sv own_here_617, .any]) rfl (EV.cast (ev_call (ea_cons (ev_op (ev_var (i := 1) rfl) (ev_int 100) r2_div) (ea_cons (ev_op (ev_op (ev_var (i := 1) rfl) (ev_int 3) r2_mod) (ev_int 0) r2_eqI) ea_nil)) h_r_616) (Option.some.inj h_own_here_617)) (kx_ _ _ ?_))
    obtain ⟨rest_618, h_rest_618, hf⟩ := bind_some hf
    refine SB.seqB (fun kx_ => sb_asg (sl' := [sv name_614, sv n_615, sv own_here_617, sv rest_618]) rfl (EV.cast (ev_op (ev_op (ev_var (i := 1) rfl) (ev_int 100) r2_div) (ev_int 51840000000) r2_divw) (Option.some.inj h_rest_618)) (kx_ _ _ ?_))
    cases hf
    exact sb_ret (ev_up (ev_tup (ea_cons (ev_str ("leaf" : Str)) (ea_cons (ev_var (i := 0) rfl) (ea_cons (ev_var (i := 2) rfl) (ea_cons (ev_tup (ea_cons (ev_op (ev_var (i := 3) rfl) (ev_int 40) r2_mod) (ea_cons (ev_op (ev_op (ev_var (i := 3) rfl) (ev_int 40) r2_div) (ev_int 12) r2_mod) ea_nil))) (ea_cons (ev_tuH (xs := ([] : List Int)) el_nil) ea_nil))))))) q (List.Sublist.refl _)
theorem sc__law_within : FnScope ["_law_kind", "_law_name", "_law_n", "_law_some", "_law_alike", "_law_own_here", "_law_rest", "_law_gap", "_law_side", "_law_align", "_law_columns", "_law_spans", "_law_k", "_law_far"] ["_law_kind", "_law_name", "_law_n", "_law_some", "_law_alike"] (defScope s__law_within) := ⟨rfl, rfl, rfl, by decide +kernel, rfl, by decide +kernel, by decide +kernel⟩
set_option maxHeartbeats 4000000 in
theorem ok__law_within (T : TX K mg w) : FnOk P w K mg base CX0 3 T.a__law_within T.d__law_within ["_law_kind", "_law_name", "_law_n", "_law_some", "_law_alike"] (PF (τ := Str × Str × Int × (List Dy) × Bool × Unit) K (fun t => m__law_within t.1 t.2.1 t.2.2.1 t.2.2.2.1 t.2.2.2.2.1)) := by
  refine T.F__law_within.ok sc__law_within (fun vs H Q E h => ?_) (fun cdv A outer s H vs Q E hr h => ?_)
  · obtain ⟨Kn, t, r, ek, h, hf, q⟩ := h
    exact Tp.len h
  · obtain ⟨Kn, t, r_, ek, h, hf, q⟩ := h
    obtain ⟨kind_619, name_620, n_621, some_622, alike_623, u_⟩ := t
    obtain ⟨v_0, rr_, rfl, hv_0, h⟩ := h
    obtain ⟨v_1, rr_, rfl, hv_1, h⟩ := h
    obtain ⟨v_2, rr_, rfl, hv_2, h⟩ := h
    obtain ⟨v_3, rr_, rfl, hv_3, h⟩ := h
    obtain ⟨v_4, rr_, rfl, hv_4, h⟩ := h
    obtain rfl := h
    replace hf : m__law_within kind_619 name_620 n_621 some_622 alike_623 = some r_ := hf
    unfold m__law_within at hf
    refine ⟨_, (pss_cons (ps_set (i := 5) sc__law_within.nd rfl (.inl rfl) (pe_call (ok__law_own T) hr (by rfl) T.g__law_own T.F__law_own.kp T.b__law_own .nil pass0 (pa_cons (pe_op op_fdiv (pv 2) pe_int) (pa_cons (pv 4) pa_nil))))
      (pss_cons (ps_set (i := 6) sc__law_within.nd rfl (.inl rfl) (pe_op op_fdivW (pe_op op_fdiv (pv 2) pe_int) pe_int))
      (pss_cons (ps_set (i := 7) sc__law_within.nd rfl (.inl rfl) (pe_ix k_ixl (pe_lst (pa_cons pe_int (pa_cons pe_int (pa_cons (pe_op op_mod (pe_op op_fdiv (pv 6) pe_int) pe_int) (pa_cons (pe_op op_mod (pe_op op_fdiv (pv 6) pe_int) pe_int) pa_nil))))) (pe_op op_mod (pe_op op_fdiv (pv 6) pe_int) pe_int) (fun _ _ => rfl)))
      (pss_cons (ps_set (i := 8) sc__law_within.nd rfl (.inl rfl) (pe_ix k_ixl (pe_lst (pa_cons pe_str (pa_cons pe_str pa_nil))) (pe_op op_mod (pv 6) pe_int) (fun _ _ => rfl)))
      (pss_cons (ps_if (pt_cmpR op_ne (pv 0) pe_str (nomark _)) (pss_cons (ps_set (i := 9) sc__law_within.nd rfl (.inl rfl) (pe_ix k_ixl (pe_lst (pa_cons pe_str (pa_cons pe_str (pa_cons pe_str (pa_cons pe_str pa_nil))))) (pe_op op_mod (pe_op op_fdiv (pv 6) pe_int) pe_int) (fun _ _ => rfl)))
      (pss_one (ps_ret (pe_tup (pa_cons (pv 0) (pa_cons (pv 1) (pa_cons (pv 5) (pa_cons (pe_tup (pa_cons (pv 7) (pa_cons (pv 9) (pa_cons (pv 8) pa_nil)))) (pa_cons (pe_callTy k_tuple (by rfl) T.z_tuple (by decide +kernel) (pa_cons (pv 3) pa_nil)) pa_nil))))))))) pss_nil)
      (pss_cons (ps_set (i := 10) sc__law_within.nd rfl (.inl rfl) (pe_op op_add pe_int (pe_op op_mod (pe_op op_fdiv (pv 6) pe_int) pe_int)))
      (pss_cons (ps_set (i := 11) sc__law_within.nd rfl (.inl rfl) (pe_lst pa_nil))
      (pss_cons (ps_for PassesOwn.never rfl (pi_range1 (by rfl) T.z_range (pa_cons (pe_callB k_len (by rfl) T.z_len PySem.boot_len (pa_cons (pv 3) pa_nil)) pa_nil)) (pg_name (i := 12) sc__law_within.nd rfl (.inl rfl)) (pss_cons (ps_set (i := 13) sc__law_within.nd rfl (.inl rfl) (pe_op op_add (pe_op op_fdiv (pv 6) pe_int) (pe_op op_mul (pv 12) (pv 12))))
      (pss_one (ps_expr (pe_bm PySem.F.plainAttrs_list PySem.F.slot_list_append PySem.F.type_list_append mt_append (pv 11) (pa_cons (pe_tup (pa_cons (pe_op op_add pe_int (pe_op op_mod (pv 13) (pv 10))) (pa_cons (pe_op op_add pe_int (pe_op op_mod (pe_op op_fdiv (pv 13) pe_int) pe_int)) pa_nil))) pa_nil))))))
      (pss_one (ps_ret (pe_tup (pa_cons (pv 0) (pa_cons (pv 1) (pa_cons (pv 5) (pa_cons (pe_tup (pa_cons (pv 10) (pa_cons (pv 7) (pa_cons (pv 8) (pa_cons (pe_callTy k_tuple (by rfl) T.z_tuple (by decide +kernel) (pa_cons (pv 11) pa_nil)) pa_nil))))) (pa_cons (pe_callTy k_tuple (by rfl) T.z_tuple (by decide +kernel) (pa_cons (pv 3) pa_nil)) pa_nil)))))))))))))))), ?_⟩
    refine enter (K := K) (Kn := Kn) (sl := [sv kind_619, sv name_620, sv n_621, sv some_622, sv alike_623, .any, .any, .any, .any, .any, .any, .any, .any, .any]) ek ⟨⟨v_0, rfl, hv_0⟩, ⟨v_1, rfl, hv_1⟩, ⟨v_2, rfl, hv_2⟩, ⟨v_3, rfl, hv_3⟩, ⟨v_4, rfl, hv_4⟩, trivial, trivial, trivial, trivial, trivial, trivial, trivial, trivial, trivial, trivial⟩ ?_
    have q := rt_of q
    obtain ⟨r_624, h_r_624, hf⟩ := bind_some hf
    obtain ⟨own_here_625, h_own_here_625, hf⟩ := bind_some hf
    refine SB.seqB (fun kx_ => sb_asg (sl' := [sv kind_619, sv name_620, sv n_621, sv some_622, sv alike_623, sv own_here_625, .any, .any, .any, .any, .any, .any, .any, .any]) rfl (EV.cast (ev_call (ea_cons (ev_op (ev_var (i := 2) rfl) (ev_int 100) r2_div) (ea_cons (ev_var (i := 4) rfl) ea_nil)) h_r_624) (Option.some.inj h_own_here_625)) (kx_ _ _ ?_))
    obtain ⟨rest_626, h_rest_626, hf⟩ := bind_some hf
    refine SB.seqB (fun kx_ => sb_asg (sl' := [sv kind_619, sv name_620, sv n_621, sv some_622, sv alike_623, sv own_here_625, sv rest_626, .any, .any, .any, .any, .any, .any, .any]) rfl (EV.cast (ev_op (ev_op (ev_var (i := 2) rfl) (ev_int 100) r2_div) (ev_int 51840000000) r2_divw) (Option.some.inj h_rest_626)) (kx_ _ _ ?_))
    obtain ⟨i_627, h_i_627, hf⟩ := bind_some hf
    obtain ⟨gap_628, h_gap_628, hf⟩ := bind_some hf
    refine SB.seqB (fun kx_ => sb_asg (sl' := [sv kind_619, sv name_620, sv n_621, sv some_622, sv alike_623, sv own_here_625, sv rest_626, sv gap_628, .any, .any, .any, .any, .any, .any]) rfl (EV.cast (ev_op (EN.ev (en_lst (el_cons (ev_int 0) (el_cons (ev_int 1) (el_cons (ev_op (ev_op (ev_var (i := 6) rfl) (ev_int 8) r2_div) (ev_int 4) r2_mod) (el_cons (ev_op (ev_op (ev_var (i := 6) rfl) (ev_int 8) r2_div) (ev_int 30) r2_mod) el_nil)))))) (ev_op (ev_op (ev_var (i := 6) rfl) (ev_int 960) r2_div) (ev_int 4) r2_mod) (r2_ixL h_i_627)) (Option.some.inj h_gap_628)) (kx_ _ _ ?_))
    obtain ⟨i_629, h_i_629, hf⟩ := bind_some hf
    obtain ⟨side_630, h_side_630, hf⟩ := bind_some hf
    refine SB.seqB (fun kx_ => sb_asg (sl' := [sv kind_619, sv name_620, sv n_621, sv some_622, sv alike_623, sv own_here_625, sv rest_626, sv gap_628, sv side_630, .any, .any, .any, .any, .any]) rfl (EV.cast (ev_op (EN.ev (en_lst (el_cons (ev_str ("left" : Str)) (el_cons (ev_str ("right" : Str)) el_nil)))) (ev_op (ev_var (i := 6) rfl) (ev_int 2) r2_mod) (r2_ixL h_i_629)) (Option.some.inj h_side_630)) (kx_ _ _ ?_))
    refine SB.seqB (fun kx_633 => sb_if (b := (!decide (kind_619 = ("table" : Str)))) (et_test (ev_op (ev_var (i := 0) rfl) (ev_str ("table" : Str)) r2_neS)) (fun hb_632 => ?_) (fun hb_632 => ?_))
    · have hf := ite_t hb_632 hf
      obtain ⟨i_634, h_i_634, hf⟩ := bind_some hf
      obtain ⟨align_635, h_align_635, hf⟩ := bind_some hf
      refine SB.seqB (fun kx_ => sb_asg (sl' := [sv kind_619, sv name_620, sv n_621, sv some_622, sv alike_623, sv own_here_625, sv rest_626, sv gap_628, sv side_630, sv align_635, .any, .any, .any, .any]) rfl (EV.cast (ev_op (EN.ev (en_lst (el_cons (ev_str ("start" : Str)) (el_cons (ev_str ("end" : Str)) (el_cons (ev_str ("mid" : Str)) (el_cons (ev_str ("mid2" : Str)) el_nil)))))) (ev_op (ev_op (ev_var (i := 6) rfl) (ev_int 2) r2_div) (ev_int 4) r2_mod) (r2_ixL h_i_634)) (Option.some.inj h_align_635)) (kx_ _ _ ?_))
      cases hf
      exact sb_ret (ev_up (ev_tup (ea_cons (ev_var (i := 0) rfl) (ea_cons (ev_var (i := 1) rfl) (ea_cons (ev_var (i := 5) rfl) (ea_cons (ev_tup (ea_cons (ev_var (i := 7) rfl) (ea_cons (ev_var (i := 9) rfl) (ea_cons (ev_var (i := 8) rfl) ea_nil)))) (ea_cons (ev_cb (ea_cons (ev_var (i := 3) rfl) ea_nil) rc_tuple) ea_nil))))))) q (List.Sublist.refl _)
    · have hf := ite_f hb_632 hf
      refine sb_nx ?_
      refine kx_633 _ _ ?_
      obtain ⟨columns_636, h_columns_636, hf⟩ := bind_some hf
      refine SB.seqB (fun kx_ => sb_asg (sl' := [sv kind_619, sv name_620, sv n_621, sv some_622, sv alike_623, sv own_here_625, sv rest_626, sv gap_628, sv side_630, .any, sv columns_636, .any, .any, .any]) rfl (EV.cast (ev_op (ev_int 1) (ev_op (ev_op (ev_var (i := 6) rfl) (ev_int 2) r2_div) (ev_int 4) r2_mod) r2_add) (Option.some.inj h_columns_636)) (kx_ _ _ ?_))
      obtain ⟨spans_637, h_spans_637, hf⟩ := bind_some hf
      refine SB.seqB (fun kx_ => sb_asgO (sl' := fun p_spans_637 => [sv kind_619, sv name_620, sv n_621, sv some_622, sv alike_623, sv own_here_625, sv rest_626, sv gap_628, sv side_630, .any, sv columns_636, .at p_spans_637, .any, .any]) (fun _ => rfl) (EN.cast (en_lst el_nil) (Option.some.inj h_spans_637)) (fun p_spans_637 => (kx_ _ _ ?_)))
      obtain ⟨rg_638, h_rg_638, hf⟩ := bind_some hf
      obtain ⟨spans_650, h_tot_645, hf⟩ := bind_some hf
      refine SB.seqB (fun kx_651 => sb_for (β := Int) (Sx := (List (Int × Int × Unit))) (fun s => [sv kind_619, sv name_620, sv n_621, sv some_622, sv alike_623, sv own_here_625, sv rest_626, sv gap_628, sv side_630, .any, sv columns_636, .at p_spans_637, .any, .any]) (fun s => [ol p_spans_637 s]) (fun x s => [sv kind_619, sv name_620, sv n_621, sv some_622, sv alike_623, sv own_here_625, sv rest_626, sv gap_628, sv side_630, .any, sv columns_636, .at p_spans_637, sv x, .any]) [12] (fun xs s => forS (m__law_within_L1 rest_626 columns_636) xs s = some spans_650) spans_637 (IT.m (it_rng1 (ea_cons (ev_cb (ea_cons (ev_var (i := 3) rfl) ea_nil) rc_len) ea_nil) h_rg_638)) h_tot_645 (.keep (.keep (.keep (.keep (.keep (.keep (.keep (.keep (.keep (.keep (.keep (.keep (.keep (.keep .nil)))))))))))))) (List.Sublist.refl _) (fun x s => (gt_name rfl)) ?_ ?_)
      · intro Kn1 b1 k_640 rest_ spans_639 hP_642 N_ hN_641
        obtain ⟨c_, hc_643, hP_642⟩ := bind_some hP_642
        have q_644 := q.base b1
        unfold m__law_within_L1 at hc_643
        refine SB.is (sl' := [sv kind_619, sv name_620, sv n_621, sv some_622, sv alike_623, sv own_here_625, sv rest_626, sv gap_628, sv side_630, .any, sv columns_636, .at p_spans_637, sv k_640, .any]) (ow1 := [ol p_spans_637 spans_639]) rfl rfl ?_
        obtain ⟨m_646, h_m_646, hc_643⟩ := bind_some hc_643
        obtain ⟨far_647, h_far_647, hc_643⟩ := bind_some hc_643
        refine SB.seqB (fun kx_ => sb_asg (sl' := [sv kind_619, sv name_620, sv n_621, sv some_622, sv alike_623, sv own_here_625, sv rest_626, sv gap_628, sv side_630, .any, sv columns_636, .at p_spans_637, sv k_640, sv far_647]) rfl (EV.cast (ev_op (ev_op (ev_var (i := 6) rfl) (ev_int 3840) r2_div) (ev_op (ev_var (i := 12) rfl) (ev_var (i := 12) rfl) (r2_mulO h_m_646)) r2_add) (Option.some.inj h_far_647)) (kx_ _ _ ?_))
        obtain ⟨r_648, h_r_648, hc_643⟩ := bind_some hc_643
        obtain ⟨spans_649, h_spans_649, hc_643⟩ := bind_some hc_643
        refine sb_appO (i := 11) (j := 0) rfl rfl (ev_tup (ea_cons (ev_op (ev_int 1) (ev_op (ev_var (i := 13) rfl) (ev_var (i := 10) rfl) (r2_modO h_r_648)) r2_add) (ea_cons (ev_op (ev_int 1) (ev_op (ev_op (ev_var (i := 13) rfl) (ev_int 4) r2_div) (ev_int 2) r2_mod) r2_add) ea_nil))) h_spans_649 (ow1 := [ol p_spans_637 spans_649]) rfl ?_
        cases hc_643
        exact fun σ Kn H s => hN_641 _ hP_642 σ Kn H ((s.le (.keep (.keep (.keep (.keep (.keep (.keep (.keep (.keep (.keep (.keep (.keep (.keep (.drop (.drop .nil))))))))))))))).sub (List.Sublist.refl _))
      · intro s_ h0
        cases h0
        refine kx_651 _ _ ?_
        refine SB.is (sl' := [sv kind_619, sv name_620, sv n_621, sv some_622, sv alike_623, sv own_here_625, sv rest_626, sv gap_628, sv side_630, .any, sv columns_636, .at p_spans_637, .any, .any]) (ow1 := [ol p_spans_637 spans_650]) rfl rfl ?_
        refine sb_freeze (i := 11) (j := 0) (sl' := [sv kind_619, sv name_620, sv n_621, sv some_622, sv alike_623, sv own_here_625, sv rest_626, sv gap_628, sv side_630, .any, sv columns_636, sv spans_650, .any, .any]) (ow1 := []) rfl rfl rfl rfl ?_
        cases hf
        exact sb_ret (ev_up (ev_tup (ea_cons (ev_var (i := 0) rfl) (ea_cons (ev_var (i := 1) rfl) (ea_cons (ev_var (i := 5) rfl) (ea_cons (ev_tup (ea_cons (ev_var (i := 10) rfl) (ea_cons (ev_var (i := 7) rfl) (ea_cons (ev_var (i := 8) rfl) (ea_cons (ev_cb (ea_cons (ev_var (i := 11) rfl) ea_nil) rc_tuple) ea_nil))))) (ea_cons (ev_cb (ea_cons (ev_var (i := 3) rfl) ea_nil) rc_tuple) ea_nil))))))) q (List.Sublist.refl _)
theorem sc__law_step : FnScope ["_law_stack", "_law_n", "_law_name", "_law_way", "_law_many", "_law_leaf_here", "_law_some", "_law_deep", "_law_grouped", "_law_kind", "_law_box", "_law_one"] ["_law_stack", "_law_n", "_law_name"] (defScope s__law_step) := ⟨rfl, rfl, rfl, by decide +kernel, rfl, by decide +kernel, by decide +kernel⟩
set_option maxHeartbeats 4000000 in
theorem ok__law_step (T : TX K mg w) : FnOk P w K mg base CX0 4 T.a__law_step T.d__law_step ["_law_stack", "_law_n", "_law_name"] (PL (τ := (List (Dy × Int × Bool × Unit)) × Int × Str × Unit) K (fun t => m__law_step t.1 t.2.1 t.2.2.1)) := by
  refine T.F__law_step.ok sc__law_step (fun vs H Q E h => ?_) (fun cdv A outer s H vs Q E hr h => ?_)
  · obtain ⟨Kn, t, r, ek, h, hf, q⟩ := h
    exact Tp.len h
  · obtain ⟨Kn, t, r_, ek, h, hf, q⟩ := h
    obtain ⟨stack_652, n_653, name_654, u_⟩ := t
    obtain ⟨v_0, rr_, rfl, hv_0, h⟩ := h
    obtain ⟨v_1, rr_, rfl, hv_1, h⟩ := h
    obtain ⟨v_2, rr_, rfl, hv_2, h⟩ := h
    obtain rfl := h
    replace hf : m__law_step stack_652 n_653 name_654 = some r_ := hf
    unfold m__law_step at hf
    refine ⟨_, (pss_cons (ps_set (i := 3) sc__law_step.nd rfl (.inl rfl) (pe_op op_mod (pv 1) pe_int))
      (pss_cons (ps_set (i := 4) sc__law_step.nd rfl (.inl rfl) (pe_op op_mod (pe_op op_add pe_int (pe_op op_fdiv (pv 1) pe_int)) pe_int))
      (pss_cons (ps_if (PW.pt (pw_or (pt_cmpR op_lt (pv 3) pe_int (nomark _)) (pw_or1 (pt_cmpR op_lt (pe_callB k_len (by rfl) T.z_len PySem.boot_len (pa_cons (pv 0) pa_nil)) (pv 4) (nomark _))))) (pss_cons (ps_set (i := 5) sc__law_step.nd rfl (.inl rfl) (pe_call (ok__law_leaf T) hr (by rfl) T.g__law_leaf T.F__law_leaf.kp T.b__law_leaf .nil pass0 (pa_cons (pv 2) (pa_cons (pv 1) pa_nil))))
      (pss_one (ps_ret (pe_op op_cat (pv 0) (pe_lst (pa_cons (pe_tup (pa_cons (pv 5) (pa_cons pe_int (pa_cons (pe_cmpR op_gt (pe_ix k_ixt (pe_ix k_ixt (pv 5) pe_int (fun _ _ => rfl)) pe_int (fun _ _ => rfl)) pe_int (nomark _)) pa_nil)))) pa_nil)))))) pss_nil)
      (pss_cons (ps_set (i := 6) sc__law_step.nd rfl (.inl rfl) (pe_slice k_sll (pv 0) (po_some (pe_op op_sub (pe_callB k_len (by rfl) T.z_len PySem.boot_len (pa_cons (pv 0) pa_nil)) (pv 4))) po_none))
      (pss_cons (ps_set (i := 7) sc__law_step.nd rfl (.inl rfl) (pe_callBK (k_maxDf hr.units) (by rfl) T.z_max (by decide +kernel) (pa_cons (pe_lc (own := [("_law_one", 11)]) (g := gName 11) (tt := tYes) (by rfl) sc__law_step.nd (kpi_list (pv 6)) (blkOk_by (own := [("_law_one", 11)]) (N := ["_law_stack", "_law_n", "_law_name", "_law_way", "_law_many", "_law_leaf_here", "_law_some", "_law_deep", "_law_grouped", "_law_kind", "_law_box", "_law_one"]) (sc := defScope s__law_step) (by decide +kernel)) (fun _ _ _ _ _ => (pg_name (i := 11) sc__law_step.nd rfl (Or.inl rfl))) (fun _ _ _ _ _ => pts_nil) (fun _ _ _ _ _ => (pe_ix k_ixt (pv 11) pe_int (fun _ _ => rfl)))) pa_nil) (pk_cons pe_int pk_nil)))
      (pss_cons (ps_set (i := 8) sc__law_step.nd rfl (.inl rfl) (pe_callB k_any (by rfl) T.z_any (by decide +kernel) (pa_cons (pe_lc (own := [("_law_one", 11)]) (g := gName 11) (tt := tYes) (by rfl) sc__law_step.nd (kpi_list (pv 6)) (blkOk_by (own := [("_law_one", 11)]) (N := ["_law_stack", "_law_n", "_law_name", "_law_way", "_law_many", "_law_leaf_here", "_law_some", "_law_deep", "_law_grouped", "_law_kind", "_law_box", "_law_one"]) (sc := defScope s__law_step) (by decide +kernel)) (fun _ _ _ _ _ => (pg_name (i := 11) sc__law_step.nd rfl (Or.inl rfl))) (fun _ _ _ _ _ => pts_nil) (fun _ _ _ _ _ => (pe_ix k_ixt (pv 11) pe_int (fun _ _ => rfl)))) pa_nil)))
      (pss_cons (ps_set (i := 9) sc__law_step.nd rfl (.inl rfl) (pe_ix k_ixl (pe_lst (pa_cons pe_str (pa_cons pe_str (pa_cons pe_str (pa_cons pe_str (pa_cons pe_str (pa_cons pe_str pa_nil))))))) (pe_op op_mod (pe_op op_sub (pv 3) pe_int) pe_int) (fun _ _ => rfl)))
      (pss_cons (ps_if (pt_cmpR op_gt (pv 7) pe_int (nomark _)) (pss_cons (ps_set (i := 5) sc__law_step.nd rfl (.inl rfl) (pe_call (ok__law_leaf T) hr (by rfl) T.g__law_leaf T.F__law_leaf.kp T.b__law_leaf .nil pass0 (pa_cons (pv 2) (pa_cons (pv 1) pa_nil))))
      (pss_one (ps_ret (pe_op op_cat (pv 0) (pe_lst (pa_cons (pe_tup (pa_cons (pv 5) (pa_cons pe_int (pa_cons (pe_cmpR op_gt (pe_ix k_ixt (pe_ix k_ixt (pv 5) pe_int (fun _ _ => rfl)) pe_int (fun _ _ => rfl)) pe_int (nomark _)) pa_nil)))) pa_nil)))))) pss_nil)
      (Evl.pss_cut (ps_if (PW.pt (pw_and (pt_cmpR op_eq (pv 9) pe_str (nomark _)) (pw_and1 (pt_val (pv 8))))) (pss_one (ps_set (i := 9) sc__law_step.nd rfl (.inl rfl) pe_str)) pss_nil)
      (pss_cons (ps_set (i := 10) sc__law_step.nd rfl (.inl rfl) (pe_call (ok__law_within T) hr (by rfl) T.g__law_within T.F__law_within.kp T.b__law_within .nil pass0 (pa_cons (pv 9) (pa_cons (pv 2) (pa_cons (pv 1) (pa_cons (pe_lc (own := [("_law_one", 11)]) (g := gName 11) (tt := tYes) (by rfl) sc__law_step.nd (kpi_list (pv 6)) (blkOk_by (own := [("_law_one", 11)]) (N := ["_law_stack", "_law_n", "_law_name", "_law_way", "_law_many", "_law_leaf_here", "_law_some", "_law_deep", "_law_grouped", "_law_kind", "_law_box", "_law_one"]) (sc := defScope s__law_step) (by decide +kernel)) (fun _ _ _ _ _ => (pg_name (i := 11) sc__law_step.nd rfl (Or.inl rfl))) (fun _ _ _ _ _ => pts_nil) (fun _ _ _ _ _ => (pe_ix k_ixt (pv 11) pe_int (fun _ _ => rfl)))) (pa_cons (pe_and (pe_cmpR op_ne (pv 9) pe_str (nomark _)) (pe_one (pe_cmpR op_eq (pe_op op_mod (pe_op op_fdiv (pv 1) pe_int) pe_int) pe_int (nomark _)))) pa_nil)))))))
      (pss_one (ps_ret (pe_op op_cat (pe_slice k_sll (pv 0) po_none (po_some (pe_op op_sub (pe_callB k_len (by rfl) T.z_len PySem.boot_len (pa_cons (pv 0) pa_nil)) (pv 4)))) (pe_lst (pa_cons (pe_tup (pa_cons (pv 10) (pa_cons (pe_op op_add (pv 7) pe_int) (pa_cons (pe_or (pv 8) (pe_one (pe_cmpR op_gt (pe_ix k_ixt (pe_ix k_ixt (pv 10) pe_int (fun _ _ => rfl)) pe_int (fun _ _ => rfl)) pe_int (nomark _)))) pa_nil)))) pa_nil))))))))))))))), ?_⟩
    refine enter (K := K) (Kn := Kn) (sl := [sv stack_652, sv n_653, sv name_654, .any, .any, .any, .any, .any, .any, .any, .any, .any]) ek ⟨⟨v_0, rfl, hv_0⟩, ⟨v_1, rfl, hv_1⟩, ⟨v_2, rfl, hv_2⟩, trivial, trivial, trivial, trivial, trivial, trivial, trivial, trivial, trivial, trivial⟩ ?_
    have q := rn_of q
    obtain ⟨way_655, h_way_655, hf⟩ := bind_some hf
    refine SB.seqB (fun kx_ => sb_asg (sl' := [sv stack_652, sv n_653, sv name_654, sv way_655, .any, .any, .any, .any, .any, .any, .any, .any]) rfl (EV.cast (ev_op (ev_var (i := 1) rfl) (ev_int 16) r2_mod) (Option.some.inj h_way_655)) (kx_ _ _ ?_))
    obtain ⟨many_656, h_many_656, hf⟩ := bind_some hf
    refine SB.seqB (fun kx_ => sb_asg (sl' := [sv stack_652, sv n_653, sv name_654, sv way_655, sv many_656, .any, .any, .any, .any, .any, .any, .any]) rfl (EV.cast (ev_op (ev_op (ev_int 1) (ev_op (ev_var (i := 1) rfl) (ev_int 16) r2_div) r2_add) (ev_int 5) r2_mod) (Option.some.inj h_many_656)) (kx_ _ _ ?_))
    refine SB.seqB (fun kx_659 => sb_if (b := ((decide (way_655 < (7 : Int))) || (decide ((stack_652.length : Int) < many_656)))) (et_or (et_test (ev_op (ev_var (i := 3) rfl) (ev_int 7) r2_lt)) (fun _ => (et_test (ev_op (ev_cb (ea_cons (ev_var (i := 0) rfl) ea_nil) rc_len) (ev_var (i := 4) rfl) r2_lt)))) (fun hb_658 => ?_) (fun hb_658 => ?_))
    · have hf := ite_t hb_658 hf
      obtain ⟨r_660, h_r_660, hf⟩ := bind_some hf
      obtain ⟨leaf_here_661, h_leaf_here_661, hf⟩ := bind_some hf
      refine SB.seqB (fun kx_ => sb_asg (sl' := [sv stack_652, sv n_653, sv name_654, sv way_655, sv many_656, sv leaf_here_661, .any, .any, .any, .any, .any, .any]) rfl (EV.cast (ev_call (ea_cons (ev_var (i := 2) rfl) (ea_cons (ev_var (i := 1) rfl) ea_nil)) h_r_660) (Option.some.inj h_leaf_here_661)) (kx_ _ _ ?_))
      obtain ⟨o_662, h_o_662, hf⟩ := bind_some hf
      obtain ⟨i_663, h_i_663, hf⟩ := bind_some hf
      obtain ⟨o_664, h_o_664, hf⟩ := bind_some hf
      obtain ⟨i_665, h_i_665, hf⟩ := bind_some hf
      obtain ⟨o_666, h_o_666, hf⟩ := bind_some hf
      obtain ⟨cat_667, h_cat_667, hf⟩ := bind_some hf
      cases hf
      exact sb_retL (en_op (ev_var (i := 0) rfl) (EN.ev (en_lst (el_cons (ev_tup (ea_cons (ev_var (i := 5) rfl) (ea_cons (ev_int 1) (ea_cons (ev_op (ev_of (ev_op (ev_of (ev_op (ev_of (ev_var (i := 5) rfl) h_o_662) (ev_int 2) (r2_ixU h_i_663)) h_o_664) (ev_int 5) (r2_ixU h_i_665)) h_o_666) (ev_int 0) r2_gt) ea_nil)))) el_nil))) (r2_catO h_cat_667)) q (List.Sublist.refl _)
    · have hf := ite_f hb_658 hf
      refine sb_nx ?_
      refine kx_659 _ _ ?_
      obtain ⟨some_668, h_some_668, hf⟩ := bind_some hf
      refine SB.seqB (fun kx_ => sb_asg (sl' := [sv stack_652, sv n_653, sv name_654, sv way_655, sv many_656, .any, sv some_668, .any, .any, .any, .any, .any]) rfl (EV.cast (EN.ev (en_sl (ev_var (i := 0) rfl) (eo_some (ev_op (ev_cb (ea_cons (ev_var (i := 0) rfl) ea_nil) rc_len) (ev_var (i := 4) rfl) r2_sub)) eo_none)) (Option.some.inj h_some_668)) (kx_ _ _ ?_))
      obtain ⟨zs_670, h_zs_670, hf⟩ := bind_some hf
      obtain ⟨deep_671, h_deep_671, hf⟩ := bind_some hf
      refine SB.seqB (fun kx_ => sb_asg (sl' := [sv stack_652, sv n_653, sv name_654, sv way_655, sv many_656, .any, sv some_668, sv deep_671, .any, .any, .any, .any]) rfl (EV.cast (ev_maxd (EN.ev (en_lc (js := [11]) (fun x => [sv stack_652, sv n_653, sv name_654, sv way_655, sv many_656, .any, sv some_668, .any, .any, .any, .any, sv x]) h_zs_670 (it_list (ev_var (i := 6) rfl)) (anyAt_of (by rfl)) (fun x => (gt_name rfl)) (sub_of (by rfl)) (fun _ _ x b h => by cases h; exact et_yes) (fun _ _ x z _ h => by obtain ⟨one_669, hx_⟩ : ∃ y, y = x := ⟨x, rfl⟩; subst hx_; have hz_ := Option.some.inj h; subst hz_; exact EV.is (sl' := [sv stack_652, sv n_653, sv name_654, sv way_655, sv many_656, .any, sv some_668, .any, .any, .any, .any, sv one_669]) rfl (ev_op (ev_var (i := 11) rfl) (ev_int 1) (r2_tix (n := 1) (At.s _ (At.z _ _))))))) (ev_int 0)) (Option.some.inj h_deep_671)) (kx_ _ _ ?_))
      obtain ⟨zs_673, h_zs_673, hf⟩ := bind_some hf
      obtain ⟨grouped_674, h_grouped_674, hf⟩ := bind_some hf
      refine SB.seqB (fun kx_ => sb_asg (sl' := [sv stack_652, sv n_653, sv name_654, sv way_655, sv many_656, .any, sv some_668, sv deep_671, sv grouped_674, .any, .any, .any]) rfl (EV.cast (ev_cb (ea_cons (EN.ev (en_lc (js := [11]) (fun x => [sv stack_652, sv n_653, sv name_654, sv way_655, sv many_656, .any, sv some_668, sv deep_671, .any, .any, .any, sv x]) h_zs_673 (it_list (ev_var (i := 6) rfl)) (anyAt_of (by rfl)) (fun x => (gt_name rfl)) (sub_of (by rfl)) (fun _ _ x b h => by cases h; exact et_yes) (fun _ _ x z _ h => by obtain ⟨one_672, hx_⟩ : ∃ y, y = x := ⟨x, rfl⟩; subst hx_; have hz_ := Option.some.inj h; subst hz_; exact EV.is (sl' := [sv stack_652, sv n_653, sv name_654, sv way_655, sv many_656, .any, sv some_668, sv deep_671, .any, .any, .any, sv one_672]) rfl (ev_op (ev_var (i := 11) rfl) (ev_int 2) (r2_tix (n := 2) (At.s _ (At.s _ (At.z _ _)))))))) ea_nil) rc_any) (Option.some.inj h_grouped_674)) (kx_ _ _ ?_))
      obtain ⟨i_675, h_i_675, hf⟩ := bind_some hf
      obtain ⟨kind_676, h_kind_676, hf⟩ := bind_some hf
      refine SB.seqB (fun kx_ => sb_asg (sl' := [sv stack_652, sv n_653, sv name_654, sv way_655, sv many_656, .any, sv some_668, sv deep_671, sv grouped_674, sv kind_676, .any, .any]) rfl (EV.cast (ev_op (EN.ev (en_lst (el_cons (ev_str ("row" : Str)) (el_cons (ev_str ("column" : Str)) (el_cons (ev_str ("wrap" : Str)) (el_cons (ev_str ("table" : Str)) (el_cons (ev_str ("row" : Str)) (el_cons (ev_str ("column" : Str)) el_nil)))))))) (ev_op (ev_op (ev_var (i := 3) rfl) (ev_int 7) r2_sub) (ev_int 6) r2_mod) (r2_ixL h_i_675)) (Option.some.inj h_kind_676)) (kx_ _ _ ?_))
      refine SB.seqB (fun kx_679 => sb_if (b := (decide ((4 : Int) < deep_671))) (et_test (ev_op (ev_var (i := 7) rfl) (ev_int 4) r2_gt)) (fun hb_678 => ?_) (fun hb_678 => ?_))
      · have hf := ite_t hb_678 hf
        obtain ⟨r_680, h_r_680, hf⟩ := bind_some hf
        obtain ⟨leaf_here_681, h_leaf_here_681, hf⟩ := bind_some hf
        refine SB.seqB (fun kx_ => sb_asg (sl' := [sv stack_652, sv n_653, sv name_654, sv way_655, sv many_656, sv leaf_here_681, sv some_668, sv deep_671, sv grouped_674, sv kind_676, .any, .any]) rfl (EV.cast (ev_call (ea_cons (ev_var (i := 2) rfl) (ea_cons (ev_var (i := 1) rfl) ea_nil)) h_r_680) (Option.some.inj h_leaf_here_681)) (kx_ _ _ ?_))
        obtain ⟨o_682, h_o_682, hf⟩ := bind_some hf
        obtain ⟨i_683, h_i_683, hf⟩ := bind_some hf
        obtain ⟨o_684, h_o_684, hf⟩ := bind_some hf
        obtain ⟨i_685, h_i_685, hf⟩ := bind_some hf
        obtain ⟨o_686, h_o_686, hf⟩ := bind_some hf
        obtain ⟨cat_687, h_cat_687, hf⟩ := bind_some hf
        cases hf
        exact sb_retL (en_op (ev_var (i := 0) rfl) (EN.ev (en_lst (el_cons (ev_tup (ea_cons (ev_var (i := 5) rfl) (ea_cons (ev_int 1) (ea_cons (ev_op (ev_of (ev_op (ev_of (ev_op (ev_of (ev_var (i := 5) rfl) h_o_682) (ev_int 2) (r2_ixU h_i_683)) h_o_684) (ev_int 5) (r2_ixU h_i_685)) h_o_686) (ev_int 0) r2_gt) ea_nil)))) el_nil))) (r2_catO h_cat_687)) q (List.Sublist.refl _)
      · have hf := ite_f hb_678 hf
        refine sb_nx ?_
        refine kx_679 _ _ ?_
        obtain ⟨kind_691, hj_688, hf⟩ := bind_some hf
        refine SB.cutB (sl' := [sv stack_652, sv n_653, sv name_654, sv way_655, sv many_656, .any, sv some_668, sv deep_671, sv grouped_674, sv kind_691, .any, .any]) (ow1 := []) (fun km_692 => sb_if (b := ((decide (kind_676 = ("table" : Str))) && grouped_674)) (et_and (et_test (ev_op (ev_var (i := 9) rfl) (ev_str ("table" : Str)) r2_eqS)) (fun _ => (et_B (ev_var (i := 8) rfl)))) (fun hb_689 => ?_) (fun hb_689 => ?_)) ?_
        · have hj_688 := ite_t hb_689 hj_688
          obtain ⟨kind_690, h_kind_690, hj_688⟩ := bind_some hj_688
          refine sb_asg (sl' := [sv stack_652, sv n_653, sv name_654, sv way_655, sv many_656, .any, sv some_668, sv deep_671, sv grouped_674, sv kind_690, .any, .any]) rfl (EV.cast (ev_str ("row" : Str)) (Option.some.inj h_kind_690)) ?_
          cases hj_688
          exact km_692 _ _ (.keep (.keep (.keep (.keep (.keep (.keep (.keep (.keep (.keep (.keep (.keep (.keep .nil)))))))))))) (List.Sublist.refl _)
        · have hj_688 := ite_f hb_689 hj_688
          refine sb_nx ?_
          cases hj_688
          exact km_692 _ _ (.keep (.keep (.keep (.keep (.keep (.keep (.keep (.keep (.keep (.keep (.keep (.keep .nil)))))))))))) (List.Sublist.refl _)
        obtain ⟨zs_694, h_zs_694, hf⟩ := bind_some hf
        obtain ⟨r_695, h_r_695, hf⟩ := bind_some hf
        obtain ⟨box_696, h_box_696, hf⟩ := bind_some hf
        refine SB.seqB (fun kx_ => sb_asg (sl' := [sv stack_652, sv n_653, sv name_654, sv way_655, sv many_656, .any, sv some_668, sv deep_671, sv grouped_674, sv kind_691, sv box_696, .any]) rfl (EV.cast (ev_call (ea_cons (ev_var (i := 9) rfl) (ea_cons (ev_var (i := 2) rfl) (ea_cons (ev_var (i := 1) rfl) (ea_cons (EN.ev (en_lc (js := [11]) (fun x => [sv stack_652, sv n_653, sv name_654, sv way_655, sv many_656, .any, sv some_668, sv deep_671, sv grouped_674, sv kind_691, .any, sv x]) h_zs_694 (it_list (ev_var (i := 6) rfl)) (anyAt_of (by rfl)) (fun x => (gt_name rfl)) (sub_of (by rfl)) (fun _ _ x b h => by cases h; exact et_yes) (fun _ _ x z _ h => by obtain ⟨one_693, hx_⟩ : ∃ y, y = x := ⟨x, rfl⟩; subst hx_; have hz_ := Option.some.inj h; subst hz_; exact EV.is (sl' := [sv stack_652, sv n_653, sv name_654, sv way_655, sv many_656, .any, sv some_668, sv deep_671, sv grouped_674, sv kind_691, .any, sv one_693]) rfl (ev_op (ev_var (i := 11) rfl) (ev_int 0) (r2_tix (n := 0) (At.z _ _)))))) (ea_cons (ev_andV (ev_op (ev_var (i := 9) rfl) (ev_str ("table" : Str)) r2_neS) (fun _ => (ev_op (ev_op (ev_op (ev_var (i := 1) rfl) (ev_int 64) r2_div) (ev_int 3) r2_mod) (ev_int 0) r2_eqI))) ea_nil))))) h_r_695) (Option.some.inj h_box_696)) (kx_ _ _ ?_))
        obtain ⟨b_702, h_b_702, hf⟩ := bind_some hf
        obtain ⟨cat_703, h_cat_703, hf⟩ := bind_some hf
        cases hf
        exact sb_retL (en_op (EN.ev (en_sl (ev_var (i := 0) rfl) eo_none (eo_some (ev_op (ev_cb (ea_cons (ev_var (i := 0) rfl) ea_nil) rc_len) (ev_var (i := 4) rfl) r2_sub)))) (EN.ev (en_lst (el_cons (ev_tup (ea_cons (ev_var (i := 10) rfl) (ea_cons (ev_op (ev_var (i := 7) rfl) (ev_int 1) r2_add) (ea_cons (ev_orO h_b_702 (ev_var (i := 8) rfl) (fun _ _ h => by obtain ⟨o_697, h_o_697, h⟩ := bind_some h; obtain ⟨i_698, h_i_698, h⟩ := bind_some h; obtain ⟨o_699, h_o_699, h⟩ := bind_some h; obtain ⟨i_700, h_i_700, h⟩ := bind_some h; obtain ⟨o_701, h_o_701, h⟩ := bind_some h; have hz_ := Option.some.inj h; subst hz_; exact (ev_op (ev_of (ev_op (ev_of (ev_op (ev_of (ev_var (i := 10) rfl) h_o_697) (ev_int 2) (r2_ixU h_i_698)) h_o_699) (ev_int 5) (r2_ixU h_i_700)) h_o_701) (ev_int 0) r2_gt))) ea_nil)))) el_nil))) (r2_catO h_cat_703)) q (List.Sublist.refl _)
theorem sc__law_tree : FnScope ["_law_script", "_law_first", "_law_many", "_law_stack", "_law_cell", "_law_k", "_law_n", "_law_kind", "_law_one"] ["_law_script", "_law_first", "_law_many"] (defScope s__law_tree) := ⟨rfl, rfl, rfl, by decide +kernel, rfl, by decide +kernel, by decide +kernel⟩
set_option maxHeartbeats 4000000 in
theorem ok__law_tree (T : TX K mg w) : FnOk P w K mg base CX0 5 T.a__law_tree T.d__law_tree ["_law_script", "_law_first", "_law_many"] (PF (τ := (Fz Int) × Int × Int × Unit) K (fun t => m__law_tree t.1 t.2.1 t.2.2.1)) := by
  refine T.F__law_tree.ok sc__law_tree (fun vs H Q E h => ?_) (fun cdv A outer s H vs Q E hr h => ?_)
  · obtain ⟨Kn, t, r, ek, h, hf, q⟩ := h
    exact Tp.len h
  · obtain ⟨Kn, t, r_, ek, h, hf, q⟩ := h
    obtain ⟨script_704, first_705, many_706, u_⟩ := t
    obtain ⟨v_0, rr_, rfl, hv_0, h⟩ := h
    obtain ⟨v_1, rr_, rfl, hv_1, h⟩ := h
    obtain ⟨v_2, rr_, rfl, hv_2, h⟩ := h
    obtain rfl := h
    replace hf : m__law_tree script_704 first_705 many_706 = some r_ := hf
    unfold m__law_tree at hf
    refine ⟨_, (pss_cons (ps_set (i := 3) sc__law_tree.nd rfl (.inl rfl) (pe_lst pa_nil))
      (pss_cons (ps_set (i := 4) sc__law_tree.nd rfl (.inl rfl) (pe_call (ok__law_at T) (hr.mono (by decide)) (by rfl) T.g__law_at T.F__law_at.kp T.b__law_at .nil pass0 (pa_cons (pv 0) (pa_cons (pe_op op_add (pv 1) (pv 2)) pa_nil))))
      (pss_cons (ps_for PassesOwn.never rfl (pi_zipR (by rfl) T.z_zip (by rfl) T.z_range (pv 2) (pe_call (ok__law_draws T) (hr.mono (by decide)) (by rfl) T.g__law_draws T.F__law_draws.kp T.b__law_draws .nil pass0 (pa_cons (pv 0) (pa_cons (pv 1) (pa_cons (pv 2) (pa_cons (pe_op op_pow pe_int pe_int) pa_nil)))))) (kpg_tup (n := 2) (pgs_cons (pg_name (i := 5) sc__law_tree.nd rfl (.inl rfl)) (pgs_cons (pg_name (i := 6) sc__law_tree.nd rfl (.inl rfl)) pgs_nil))) (pss_one (ps_set (i := 3) sc__law_tree.nd rfl (.inl rfl) (pe_call (ok__law_step T) hr (by rfl) T.g__law_step T.F__law_step.kp T.b__law_step .nil pass0 (pa_cons (pv 3) (pa_cons (pv 6) (pa_cons (pe_call (ok__law_label T) (hr.mono (by decide)) (by rfl) T.g__law_label T.F__law_label.kp T.b__law_label .nil pass0 (pa_cons (pv 5) (pa_cons (pv 4) pa_nil))) pa_nil)))))))
      (pss_cons (ps_if (pt_cmpR op_eq (pe_callB k_len (by rfl) T.z_len PySem.boot_len (pa_cons (pv 3) pa_nil)) pe_int (nomark _)) (pss_one (ps_ret (pe_ix k_ixt (pe_ix k_ixl (pv 3) pe_int (fun _ _ => rfl)) pe_int (fun _ _ => rfl)))) pss_nil)
      (pss_cons (ps_set (i := 6) sc__law_tree.nd rfl (.inl rfl) (pe_op op_add (pe_op op_mul (pe_call (ok__law_mixed T) (hr.mono (by decide)) (by rfl) T.g__law_mixed T.F__law_mixed.kp T.b__law_mixed .nil pass0 (pa_cons (pv 4) pa_nil)) pe_int) (pe_call (ok__law_mixed T) (hr.mono (by decide)) (by rfl) T.g__law_mixed T.F__law_mixed.kp T.b__law_mixed .nil pass0 (pa_cons (pe_op op_add (pv 4) pe_int) pa_nil))))
      (pss_cons (ps_set (i := 7) sc__law_tree.nd rfl (.inl rfl) (pe_ix k_ixl (pe_lst (pa_cons pe_str (pa_cons pe_str (pa_cons pe_str pa_nil)))) (pe_op op_mod (pv 6) pe_int) (fun _ _ => rfl)))
      (pss_one (ps_ret (pe_call (ok__law_within T) (hr.mono (by decide)) (by rfl) T.g__law_within T.F__law_within.kp T.b__law_within .nil pass0 (pa_cons (pv 7) (pa_cons (pe_call (ok__law_label T) (hr.mono (by decide)) (by rfl) T.g__law_label T.F__law_label.kp T.b__law_label .nil pass0 (pa_cons (pv 2) (pa_cons (pv 4) pa_nil))) (pa_cons (pv 6) (pa_cons (pe_lc (own := [("_law_one", 8)]) (g := gName 8) (tt := tYes) (by rfl) sc__law_tree.nd (kpi_list (pv 3)) (blkOk_by (own := [("_law_one", 8)]) (N := ["_law_script", "_law_first", "_law_many", "_law_stack", "_law_cell", "_law_k", "_law_n", "_law_kind", "_law_one"]) (sc := defScope s__law_tree) (by decide +kernel)) (fun _ _ _ _ _ => (pg_name (i := 8) sc__law_tree.nd rfl (Or.inl rfl))) (fun _ _ _ _ _ => pts_nil) (fun _ _ _ _ _ => (pe_ix k_ixt (pv 8) pe_int (fun _ _ => rfl)))) (pa_cons pe_bl pa_nil)))))))))))))), ?_⟩
    refine enter (K := K) (Kn := Kn) (sl := [sv script_704, sv first_705, sv many_706, .any, .any, .any, .any, .any, .any]) ek ⟨⟨v_0, rfl, hv_0⟩, ⟨v_1, rfl, hv_1⟩, ⟨v_2, rfl, hv_2⟩, trivial, trivial, trivial, trivial, trivial, trivial, trivial⟩ ?_
    have q := rt_of q
    obtain ⟨stack_707, h_stack_707, hf⟩ := bind_some hf
    refine SB.seqB (fun kx_ => sb_asg (sl' := [sv script_704, sv first_705, sv many_706, sv stack_707, .any, .any, .any, .any, .any]) rfl (EV.cast (EN.ev (en_lst el_nil)) (Option.some.inj h_stack_707)) (kx_ _ _ ?_))
    obtain ⟨r_708, h_r_708, hf⟩ := bind_some hf
    obtain ⟨cell_709, h_cell_709, hf⟩ := bind_some hf
    refine SB.seqB (fun kx_ => sb_asg (sl' := [sv script_704, sv first_705, sv many_706, sv stack_707, sv cell_709, .any, .any, .any, .any]) rfl (EV.cast (ev_call (ea_cons (ev_var (i := 0) rfl) (ea_cons (ev_op (ev_var (i := 1) rfl) (ev_var (i := 2) rfl) r2_add) ea_nil)) h_r_708) (Option.some.inj h_cell_709)) (kx_ _ _ ?_))
    obtain ⟨rg_710, h_rg_710, hf⟩ := bind_some hf
    obtain ⟨r_711, h_r_711, hf⟩ := bind_some hf
    obtain ⟨stack_723, h_tot_719, hf⟩ := bind_some hf
    refine SB.seqB (fun kx_724 => sb_for (β := (Int × Int × Unit)) (Sx := (List (Dy × Int × Bool × Unit))) (fun s => [sv script_704, sv first_705, sv many_706, sv s, sv cell_709, .any, .any, .any, .any]) (fun s => []) (fun x s => [sv script_704, sv first_705, sv many_706, sv s, sv cell_709, sv x.1, sv x.2.1, .any, .any]) [5, 6] (fun xs s => forS (m__law_tree_L1 cell_709) xs s = some stack_723) stack_707 (IT.m (it_zipR (ev_var (i := 2) rfl) h_rg_710 (EN.ev (en_call (ea_cons (ev_var (i := 0) rfl) (ea_cons (ev_var (i := 1) rfl) (ea_cons (ev_var (i := 2) rfl) (ea_cons (ev_op (ev_int 10) (ev_int 18) (r2_pow (r := 1000000000000000000))) ea_nil)))) h_r_711)))) h_tot_719 (.keep (.keep (.keep (.keep (.keep (.keep (.keep (.keep (.keep .nil))))))))) (List.Sublist.refl _) (fun x s => (gt_tup (gts_cons (gt_name rfl) (gts_cons (gt_name rfl) gts_nil)))) ?_ ?_)
    · intro Kn1 b1 x_ rest_ stack_712 hP_716 N_ hN_715
      obtain ⟨k_713, n_714, _⟩ := x_
      obtain ⟨c_, hc_717, hP_716⟩ := bind_some hP_716
      have q_718 := q.base b1
      unfold m__law_tree_L1 at hc_717
      refine SB.is (sl' := [sv script_704, sv first_705, sv many_706, sv stack_712, sv cell_709, sv k_713, sv n_714, .any, .any]) (ow1 := []) rfl rfl ?_
      obtain ⟨r_720, h_r_720, hc_717⟩ := bind_some hc_717
      obtain ⟨r_721, h_r_721, hc_717⟩ := bind_some hc_717
      obtain ⟨stack_722, h_stack_722, hc_717⟩ := bind_some hc_717
      refine sb_asg (sl' := [sv script_704, sv first_705, sv many_706, sv stack_722, sv cell_709, sv k_713, sv n_714, .any, .any]) rfl (EV.cast (EN.ev (en_call (ea_cons (ev_var (i := 3) rfl) (ea_cons (ev_var (i := 6) rfl) (ea_cons (ev_call (ea_cons (ev_var (i := 5) rfl) (ea_cons (ev_var (i := 4) rfl) ea_nil)) h_r_720) ea_nil))) h_r_721)) (Option.some.inj h_stack_722)) ?_
      cases hc_717
      exact fun σ Kn H s => hN_715 _ hP_716 σ Kn H ((s.le (.keep (.keep (.keep (.keep (.keep (.drop (.drop (.keep (.keep .nil)))))))))).sub (List.Sublist.refl _))
    · intro s_ h0
      cases h0
      refine kx_724 _ _ ?_
      refine SB.is (sl' := [sv script_704, sv first_705, sv many_706, sv stack_723, sv cell_709, .any, .any, .any, .any]) (ow1 := []) rfl rfl ?_
      refine SB.seqB (fun kx_727 => sb_if (b := (decide ((stack_723.length : Int) = (1 : Int)))) (et_test (ev_op (ev_cb (ea_cons (ev_var (i := 3) rfl) ea_nil) rc_len) (ev_int 1) r2_eqI)) (fun hb_726 => ?_) (fun hb_726 => ?_))
      · have hf := ite_t hb_726 hf
        obtain ⟨i_728, h_i_728, hf⟩ := bind_some hf
        cases hf
        exact sb_ret (ev_op (ev_op (ev_var (i := 3) rfl) (ev_int 0) (r2_ixL h_i_728)) (ev_int 0) (r2_tix (n := 0) (At.z _ _))) q (List.Sublist.refl _)
      · have hf := ite_f hb_726 hf
        refine sb_nx ?_
        refine kx_727 _ _ ?_
        obtain ⟨r_729, h_r_729, hf⟩ := bind_some hf
        obtain ⟨r_730, h_r_730, hf⟩ := bind_some hf
        obtain ⟨n_731, h_n_731, hf⟩ := bind_some hf
        refine SB.seqB (fun kx_ => sb_asg (sl' := [sv script_704, sv first_705, sv many_706, sv stack_723, sv cell_709, .any, sv n_731, .any, .any]) rfl (EV.cast (ev_op (ev_op (ev_call (ea_cons (ev_var (i := 4) rfl) ea_nil) h_r_729) (ev_int 1000000000039) r2_mulr) (ev_call (ea_cons (ev_op (ev_var (i := 4) rfl) (ev_int 1) r2_add) ea_nil) h_r_730) r2_add) (Option.some.inj h_n_731)) (kx_ _ _ ?_))
        obtain ⟨i_732, h_i_732, hf⟩ := bind_some hf
        obtain ⟨kind_733, h_kind_733, hf⟩ := bind_some hf
        refine SB.seqB (fun kx_ => sb_asg (sl' := [sv script_704, sv first_705, sv many_706, sv stack_723, sv cell_709, .any, sv n_731, sv kind_733, .any]) rfl (EV.cast (ev_op (EN.ev (en_lst (el_cons (ev_str ("row" : Str)) (el_cons (ev_str ("column" : Str)) (el_cons (ev_str ("wrap" : Str)) el_nil))))) (ev_op (ev_var (i := 6) rfl) (ev_int 3) r2_mod) (r2_ixL h_i_732)) (Option.some.inj h_kind_733)) (kx_ _ _ ?_))
        obtain ⟨r_734, h_r_734, hf⟩ := bind_some hf
        obtain ⟨zs_736, h_zs_736, hf⟩ := bind_some hf
        obtain ⟨r_737, h_r_737, hf⟩ := bind_some hf
        cases hf
        exact sb_ret (ev_call (ea_cons (ev_var (i := 7) rfl) (ea_cons (ev_call (ea_cons (ev_var (i := 2) rfl) (ea_cons (ev_var (i := 4) rfl) ea_nil)) h_r_734) (ea_cons (ev_var (i := 6) rfl) (ea_cons (EN.ev (en_lc (js := [8]) (fun x => [sv script_704, sv first_705, sv many_706, sv stack_723, sv cell_709, .any, sv n_731, sv kind_733, sv x]) h_zs_736 (it_list (ev_var (i := 3) rfl)) (anyAt_of (by rfl)) (fun x => (gt_name rfl)) (sub_of (by rfl)) (fun _ _ x b h => by cases h; exact et_yes) (fun _ _ x z _ h => by obtain ⟨one_735, hx_⟩ : ∃ y, y = x := ⟨x, rfl⟩; subst hx_; have hz_ := Option.some.inj h; subst hz_; exact EV.is (sl' := [sv script_704, sv first_705, sv many_706, sv stack_723, sv cell_709, .any, sv n_731, sv kind_733, sv one_735]) rfl (ev_op (ev_var (i := 8) rfl) (ev_int 0) (r2_tix (n := 0) (At.z _ _)))))) (ea_cons (ev_bool false) ea_nil))))) h_r_737) q (List.Sublist.refl _)
theorem sc__law_boxes : FnScope ["_law_tree_here", "_law_found", "_law_todo", "_law_box"] ["_law_tree_here"] (defScope s__law_boxes) := ⟨rfl, rfl, rfl, by decide +kernel, rfl, by decide +kernel, by decide +kernel⟩
set_option maxHeartbeats 4000000 in
theorem ok__law_boxes (T : TX K mg w) : FnOk P w K mg base CX0 1 T.a__law_boxes T.d__law_boxes ["_law_tree_here"] (PL (τ := Dy × Unit) K (fun t => m__law_boxes t.1)) := by
  refine T.F__law_boxes.ok sc__law_boxes (fun vs H Q E h => ?_) (fun cdv A outer s H vs Q E hr h => ?_)
  · obtain ⟨Kn, t, r, ek, h, hf, q⟩ := h
    exact Tp.len h
  · obtain ⟨Kn, t, r_, ek, h, hf, q⟩ := h
    obtain ⟨tree_here_738, u_⟩ := t
    obtain ⟨v_0, rr_, rfl, hv_0, h⟩ := h
    obtain rfl := h
    replace hf : m__law_boxes tree_here_738 = some r_ := hf
    unfold m__law_boxes at hf
    refine ⟨_, (pss_cons (ps_set (i := 1) sc__law_boxes.nd rfl (.inl rfl) (pe_lst pa_nil))
      (pss_cons (ps_set (i := 2) sc__law_boxes.nd rfl (.inl rfl) (pe_lst (pa_cons (pv 0) pa_nil)))
      (pss_cons (ps_while PassesOwn.never (pt_cmpR (k_neD hr.units) (pv 2) (pe_lst pa_nil) (nomark _)) (pss_cons (ps_set (i := 3) sc__law_boxes.nd rfl (.inl rfl) (pe_bm PySem.F.plainAttrs_list PySem.F.slot_list_pop PySem.F.type_list_pop mt_popAt (pv 2) (pa_cons pe_int pa_nil)))
      (pss_cons (ps_expr (pe_bm PySem.F.plainAttrs_list PySem.F.slot_list_append PySem.F.type_list_append mt_append (pv 1) (pa_cons (pv 3) pa_nil)))
      (pss_one (ps_set (i := 2) sc__law_boxes.nd rfl (.inl rfl) (pe_op op_cat (pe_callTy k_list (by rfl) T.z_list (by decide +kernel) (pa_cons (pe_ix k_ixt (pv 3) pe_int (fun _ _ => rfl)) pa_nil)) (pv 2)))))))
      (pss_one (ps_ret (pv 1)))))), ?_⟩
    refine enter (K := K) (Kn := Kn) (sl := [sv tree_here_738, .any, .any, .any]) ek ⟨⟨v_0, rfl, hv_0⟩, trivial, trivial, trivial, trivial⟩ ?_
    have q := rn_of q
    obtain ⟨found_739, h_found_739, hf⟩ := bind_some hf
    refine SB.seqB (fun kx_ => sb_asgO (sl' := fun p_found_739 => [sv tree_here_738, .at p_found_739, .any, .any]) (fun _ => rfl) (EN.cast (en_lst el_nil) (Option.some.inj h_found_739)) (fun p_found_739 => (kx_ _ _ ?_)))
    obtain ⟨todo_740, h_todo_740, hf⟩ := bind_some hf
    refine SB.seqB (fun kx_ => sb_asgO (sl' := fun p_todo_740 => [sv tree_here_738, .at p_found_739, .at p_todo_740, .any]) (fun _ => rfl) (EN.cast (en_lst (el_cons (ev_var (i := 0) rfl) el_nil)) (Option.some.inj h_todo_740)) (fun p_todo_740 => (kx_ _ _ ?_)))
    obtain ⟨⟨todo_759, found_760⟩, h_tot_749, hf⟩ := bind_some hf
    obtain ⟨n0_, h_tot_749⟩ := whileF_some h_tot_749
    refine SB.seqB (fun kx_761 => sb_while (Sx := Addr × (List Dy) × (List Dy)) (fun s => [sv tree_here_738, .at p_found_739, .at s.1, .any]) (fun s => [ol s.1 s.2.1, ol p_found_739 s.2.2]) (fun n s => whileS (m__law_boxes_L1_c) (m__law_boxes_L1) n s.2 = some (todo_759, found_760)) n0_ (p_todo_740, todo_740, found_739) h_tot_749 (.keep (.keep (.keep (.keep .nil)))) (List.Sublist.refl _) ?_)
    intro n_ s_ hP_746
    obtain ⟨pa_741, todo_742, found_743⟩ := s_
    replace hP_746 : whileS (m__law_boxes_L1_c) (m__law_boxes_L1) n_ (todo_742, found_743) = some (todo_759, found_760) := hP_746
    cases n_ with
    | zero => cases hP_746
    | succ n_ =>
      obtain ⟨b_, ht_, hP_746⟩ := bind_some hP_746
      unfold m__law_boxes_L1_c at ht_
      obtain ⟨e_744, h_e_744, ht_⟩ := bind_some ht_
      cases ht_
      refine ⟨_, ET.is (sl' := [sv tree_here_738, .at p_found_739, .at pa_741, .any]) rfl (et_test (ev_bor (i := 2) (j := 0) (sl' := [sv tree_here_738, .at p_found_739, sv todo_742, .any]) (ow1 := [ol p_found_739 found_743]) rfl rfl rfl rfl (ev_op (ev_up (ev_var (i := 2) rfl)) (ev_up (EN.ev (en_lst el_nil))) (r2_neY h_e_744)))), fun hb_748 N_ hN_745 => ?_, fun hb_748 => ?_⟩
      · have hP_746 := ite_t hb_748 hP_746
        obtain ⟨c_, hc_747, hP_746⟩ := bind_some hP_746
        unfold m__law_boxes_L1 at hc_747
        refine SB.is (sl' := [sv tree_here_738, .at p_found_739, .at pa_741, .any]) (ow1 := [ol pa_741 todo_742, ol p_found_739 found_743]) rfl rfl ?_
        obtain ⟨⟨pp_750, todo_751⟩, h_pp_750, hc_747⟩ := bind_some hc_747
        obtain ⟨box_752, h_box_752, hc_747⟩ := bind_some hc_747
        refine SB.seqB (fun kx_ => sb_asgM (sl' := [sv tree_here_738, .at p_found_739, .at pa_741, sv box_752]) rfl (EM.cast (em_pop0 (i := 2) (j := 0) rfl rfl h_pp_750) (Option.some.inj h_box_752)) (kx_ _ _ ?_))
        obtain ⟨found_753, h_found_753, hc_747⟩ := bind_some hc_747
        refine SB.seqB (fun kx_ => sb_appO (i := 1) (j := 1) rfl rfl (ev_var (i := 3) rfl) h_found_753 (ow1 := [ol pa_741 todo_751, ol p_found_739 found_753]) rfl (kx_ _ _ ?_))
        obtain ⟨o_754, h_o_754, hc_747⟩ := bind_some hc_747
        obtain ⟨i_755, h_i_755, hc_747⟩ := bind_some hc_747
        obtain ⟨o_756, h_o_756, hc_747⟩ := bind_some hc_747
        obtain ⟨cat_757, h_cat_757, hc_747⟩ := bind_some hc_747
        obtain ⟨todo_758, h_todo_758, hc_747⟩ := bind_some hc_747
        refine sb_asgO (sl' := fun p_todo_758 => [sv tree_here_738, .at p_found_739, .at p_todo_758, sv box_752]) (fun _ => rfl) (EN.cast (en_catOwnR (i := 2) (j := 0) rfl rfl (EN.ev (en_cb (ea_cons (ev_of (ev_op (ev_of (ev_var (i := 3) rfl) h_o_754) (ev_int 4) (r2_ixU h_i_755)) h_o_756) ea_nil) rc_listT)) h_cat_757) (Option.some.inj h_todo_758)) (fun p_todo_758 => ?_)
        cases hc_747
        exact fun σ Kn H s => hN_745 _ (p_todo_758, todo_758, found_753) (Nat.lt_succ_self _) hP_746 σ Kn H ((s.le (.keep (.keep (.keep (.drop .nil))))).sub (List.Sublist.cons_cons _ (List.Sublist.cons _ (List.Sublist.cons_cons _ List.Sublist.slnil))))
      · have hP_746 := ite_f hb_748 hP_746
        cases hP_746
        refine kx_761 _ _ ?_
        refine SB.is (sl' := [sv tree_here_738, .at p_found_739, .at pa_741, .any]) (ow1 := [ol pa_741 todo_759, ol p_found_739 found_760]) rfl rfl ?_
        cases hf
        exact sb_retO (i := 1) (j := 1) rfl rfl q (List.Sublist.cons _ (List.Sublist.cons _ List.Sublist.slnil))
theorem sc__law_named : FnScope ["_law_tree_here", "_law_name", "_law_other", "_law_part"] ["_law_tree_here", "_law_name", "_law_other"] (defScope s__law_named) := ⟨rfl, rfl, rfl, by decide +kernel, rfl, by decide +kernel, by decide +kernel⟩
set_option maxHeartbeats 4000000 in
theorem step__law_named (T : TX K mg w) (rec__law_named : (Dy → Dy → Dy → Option Dy)) {k_ : Nat} (hk_ : 0 ≤ k_) (hrec : FnOk P w K mg base CX0 k_ T.a__law_named T.d__law_named ["_law_tree_here", "_law_name", "_law_other"] (PF (τ := Dy × Dy × Dy × Unit) K (fun t => rec__law_named t.1 t.2.1 t.2.2.1))) : FnOk P w K mg base CX0 (k_ + 1) T.a__law_named T.d__law_named ["_law_tree_here", "_law_name", "_law_other"] (PF (τ := Dy × Dy × Dy × Unit) K (fun t => m__law_named_step rec__law_named t.1 t.2.1 t.2.2.1)) := by
  refine T.F__law_named.ok sc__law_named (fun vs H Q E h => ?_) (fun cdv A outer s H vs Q E hr h => ?_)
  · obtain ⟨Kn, t, r, ek, h, hf, q⟩ := h
    exact Tp.len h
  · obtain ⟨Kn, t, r_, ek, h, hf, q⟩ := h
    obtain ⟨tree_here_762, name_763, other_764, u_⟩ := t
    obtain ⟨v_0, rr_, rfl, hv_0, h⟩ := h
    obtain ⟨v_1, rr_, rfl, hv_1, h⟩ := h
    obtain ⟨v_2, rr_, rfl, hv_2, h⟩ := h
    obtain rfl := h
    replace hf : m__law_named_step rec__law_named tree_here_762 name_763 other_764 = some r_ := hf
    unfold m__law_named_step at hf
    refine ⟨_, (pss_cons (ps_if (pt_cmpR (k_eqD hr.units) (pe_ix k_ixt (pv 0) pe_int (fun _ _ => rfl)) (pv 1) (nomark _)) (pss_one (ps_ret (pv 2))) pss_nil)
      (pss_one (ps_ret (pe_op k_catA (pe_slice k_slt (pv 0) po_none (po_some pe_int)) (pe_tup (pa_cons (pe_callTy k_tuple (by rfl) T.z_tuple (by decide +kernel) (pa_cons (pe_lc (own := [("_law_part", 3)]) (g := gName 3) (tt := tYes) (by rfl) sc__law_named.nd (kpi_tup (pe_ix k_ixt (pv 0) pe_int (fun _ _ => rfl))) (blkOk_by (own := [("_law_part", 3)]) (N := ["_law_tree_here", "_law_name", "_law_other", "_law_part"]) (sc := defScope s__law_named) (by decide +kernel)) (fun _ _ _ _ _ => (pg_name (i := 3) sc__law_named.nd rfl (Or.inl rfl))) (fun _ _ _ _ _ => pts_nil) (fun _ _ _ _ _ => (pe_call hrec hr (by rfl) T.g__law_named T.F__law_named.kp T.b__law_named .nil pass0 (pa_cons (pv 3) (pa_cons (pv 1) (pa_cons (pv 2) pa_nil)))))) pa_nil)) pa_nil)))))), ?_⟩
    refine enter (K := K) (Kn := Kn) (sl := [sv tree_here_762, sv name_763, sv other_764, .any]) ek ⟨⟨v_0, rfl, hv_0⟩, ⟨v_1, rfl, hv_1⟩, ⟨v_2, rfl, hv_2⟩, trivial, trivial⟩ ?_
    have q := rt_of q
    obtain ⟨o_766, h_o_766, hf⟩ := bind_some hf
    obtain ⟨i_767, h_i_767, hf⟩ := bind_some hf
    obtain ⟨e_768, h_e_768, hf⟩ := bind_some hf
    refine SB.seqB (fun kx_770 => sb_if (b := e_768) (et_test (ev_op (ev_op (ev_of (ev_var (i := 0) rfl) h_o_766) (ev_int 1) (r2_ixU h_i_767)) (ev_var (i := 1) rfl) (r2_eqY h_e_768))) (fun hb_769 => ?_) (fun hb_769 => ?_))
    · have hf := ite_t hb_769 hf
      cases hf
      exact sb_ret (ev_var (i := 2) rfl) q (List.Sublist.refl _)
    · have hf := ite_f hb_769 hf
      refine sb_nx ?_
      refine kx_770 _ _ ?_
      obtain ⟨o_771, h_o_771, hf⟩ := bind_some hf
      obtain ⟨ct_772, h_ct_772, hf⟩ := bind_some hf
      obtain ⟨o_773, h_o_773, hf⟩ := bind_some hf
      obtain ⟨i_774, h_i_774, hf⟩ := bind_some hf
      obtain ⟨o_775, h_o_775, hf⟩ := bind_some hf
      obtain ⟨zs_777, h_zs_777, hf⟩ := bind_some hf
      obtain ⟨o_779, h_o_779, hf⟩ := bind_some hf
      obtain ⟨tt_780, h_tt_780, hf⟩ := bind_some hf
      cases hf
      exact sb_ret (ev_up (ev_op (ev_slTu (ev_of (ev_var (i := 0) rfl) h_o_771) eo_none (eo_some (ev_int 4)) h_ct_772) (ev_of (ev_up (ev_tup (ea_cons (ev_cb (ea_cons (EN.ev (en_lc (js := [3]) (fun x => [sv tree_here_762, sv name_763, sv other_764, sv x]) h_zs_777 (it_tup (ev_of (ev_op (ev_of (ev_var (i := 0) rfl) h_o_773) (ev_int 4) (r2_ixU h_i_774)) h_o_775)) (anyAt_of (by rfl)) (fun x => (gt_name rfl)) (sub_of (by rfl)) (fun _ _ x b h => by cases h; exact et_yes) (fun _ _ x z _ h => by obtain ⟨part_776, hx_⟩ : ∃ y, y = x := ⟨x, rfl⟩; subst hx_; obtain ⟨r_778, h_r_778, h⟩ := bind_some h; have hz_ := Option.some.inj h; subst hz_; exact EV.is (sl' := [sv tree_here_762, sv name_763, sv other_764, sv part_776]) rfl (ev_call (ea_cons (ev_var (i := 3) rfl) (ea_cons (ev_var (i := 1) rfl) (ea_cons (ev_var (i := 2) rfl) ea_nil))) h_r_778)))) ea_nil) rc_tuple) ea_nil))) h_o_779) (r2_catTu h_tt_780))) q (List.Sublist.refl _)
theorem ok__law_named (T : TX K mg w) : ∀ n : Nat, FnOk P w K mg base CX0 (0 + n) T.a__law_named T.d__law_named ["_law_tree_here", "_law_name", "_law_other"] (PF (τ := Dy × Dy × Dy × Unit) K (fun t => m__law_named n t.1 t.2.1 t.2.2.1))
  | 0 => fnok_none
  | n + 1 => step__law_named T (m__law_named n) (Nat.le_add_right _ _) (ok__law_named T n)
theorem sc__law_bent_own : FnScope ["_law_own_here", "_law_cell", "_law_at_here", "_law_bad"] ["_law_own_here", "_law_cell"] (defScope s__law_bent_own) := ⟨rfl, rfl, rfl, by decide +kernel, rfl, by decide +kernel, by decide +kernel⟩
set_option maxHeartbeats 4000000 in
theorem ok__law_bent_own (T : TX K mg w) : FnOk P w K mg base CX0 1 T.a__law_bent_own T.d__law_bent_own ["_law_own_here", "_law_cell"] (PF (τ := Dy × Int × Unit) K (fun t => m__law_bent_own t.1 t.2.1)) := by
  refine T.F__law_bent_own.ok sc__law_bent_own (fun vs H Q E h => ?_) (fun cdv A outer s H vs Q E hr h => ?_)
  · obtain ⟨Kn, t, r, ek, h, hf, q⟩ := h
    exact Tp.len h
  · obtain ⟨Kn, t, r_, ek, h, hf, q⟩ := h
    obtain ⟨own_here_781, cell_782, u_⟩ := t
    obtain ⟨v_0, rr_, rfl, hv_0, h⟩ := h
    obtain ⟨v_1, rr_, rfl, hv_1, h⟩ := h
    obtain rfl := h
    replace hf : m__law_bent_own own_here_781 cell_782 = some r_ := hf
    unfold m__law_bent_own at hf
    refine ⟨_, (pss_cons (ps_set (i := 2) sc__law_bent_own.nd rfl (.inl rfl) (pe_op op_mod (pv 1) pe_int))
      (pss_cons (ps_set (i := 3) sc__law_bent_own.nd rfl (.inl rfl) (pe_ix k_ixl (pe_lst (pa_cons (pe_un un_neg pe_int) (pa_cons (pe_op op_add (pe_op op_add (pe_op op_pow pe_int pe_int) pe_int) (pe_op op_mod (pv 1) (pe_op op_pow pe_int pe_int))) (pa_cons pe_bl (pa_cons pe_str (pa_cons pe_non (pa_cons (pe_op op_pow pe_int pe_int) pa_nil))))))) (pe_op op_mod (pe_op op_fdiv (pv 1) pe_int) pe_int) (fun _ _ => rfl)))
      (Evl.pss_cut (ps_if (PW.pt (pw_and (pt_cmpR op_gt (pv 2) pe_int (nomark _)) (pw_and1 (pt_cmpR op_eq (pe_op op_mod (pe_op op_fdiv (pv 1) pe_int) pe_int) pe_int (nomark _))))) (pss_one (ps_set (i := 3) sc__law_bent_own.nd rfl (.inl rfl) (pe_ix k_ixl (pe_lst (pa_cons pe_int (pa_cons pe_int (pa_cons pe_int (pa_cons pe_int pa_nil))))) (pe_op op_sub (pv 2) pe_int) (fun _ _ => rfl)))) pss_nil)
      (Evl.pss_cut (ps_if (pt_cmpR op_lt (pv 2) pe_int (nomark _)) (pss_one (ps_set (i := 3) sc__law_bent_own.nd rfl (.inl rfl) (pe_ix k_ixl (pe_lst (pa_cons (pe_tup (pa_cons (pv 3) (pa_cons (pe_op op_pow pe_int pe_int) pa_nil))) (pa_cons (pe_tup (pa_cons pe_int (pa_cons pe_int pa_nil))) (pa_cons (pe_tup (pa_cons pe_int pa_nil)) (pa_cons (pe_lst (pa_cons pe_int (pa_cons pe_int pa_nil))) (pa_cons (pe_tup (pa_cons pe_int (pa_cons (pv 3) pa_nil))) (pa_cons pe_int pa_nil))))))) (pe_op op_mod (pe_op op_fdiv (pv 1) pe_int) pe_int) (fun _ _ => rfl)))) pss_nil)
      (pss_one (ps_ret (pe_op k_catA (pe_op k_catA (pe_slice k_slt (pv 0) po_none (po_some (pv 2))) (pe_tup (pa_cons (pv 3) pa_nil))) (pe_slice k_slt (pv 0) (po_some (pe_op op_add (pv 2) pe_int)) po_none)))))))), ?_⟩
    refine enter (K := K) (Kn := Kn) (sl := [sv own_here_781, sv cell_782, .any, .any]) ek ⟨⟨v_0, rfl, hv_0⟩, ⟨v_1, rfl, hv_1⟩, trivial, trivial, trivial⟩ ?_
    have q := rt_of q
    obtain ⟨at_here_783, h_at_here_783, hf⟩ := bind_some hf
    refine SB.seqB (fun kx_ => sb_asg (sl' := [sv own_here_781, sv cell_782, sv at_here_783, .any]) rfl (EV.cast (ev_op (ev_var (i := 1) rfl) (ev_int 6) r2_mod) (Option.some.inj h_at_here_783)) (kx_ _ _ ?_))
    obtain ⟨i_784, h_i_784, hf⟩ := bind_some hf
    obtain ⟨bad_785, h_bad_785, hf⟩ := bind_some hf
    refine SB.seqB (fun kx_ => sb_asg (sl' := [sv own_here_781, sv cell_782, sv at_here_783, sv bad_785]) rfl (EV.cast (ev_op (EN.ev (en_lst (el_cons (ev_up (ev_un (ev_int 1) r1_neg)) (el_cons (ev_up (ev_op (ev_op (ev_op (ev_int 10) (ev_int 6) (r2_pow (r := 1000000))) (ev_int 1) r2_add) (ev_op (ev_var (i := 1) rfl) (ev_op (ev_int 10) (ev_int 20) (r2_pow (r := 100000000000000000000))) r2_mod) r2_add)) (el_cons (ev_up (ev_bool true)) (el_cons (ev_up (ev_str ("3" : Str))) (el_cons (ev_up ev_nn) (el_cons (ev_up (ev_op (ev_int 10) (ev_int 9) (r2_pow (r := 1000000000)))) el_nil)))))))) (ev_op (ev_op (ev_var (i := 1) rfl) (ev_int 6) r2_div) (ev_int 6) r2_mod) (r2_ixL h_i_784)) (Option.some.inj h_bad_785)) (kx_ _ _ ?_))
    obtain ⟨bad_790, hj_786, hf⟩ := bind_some hf
    refine SB.cutB (sl' := [sv own_here_781, sv cell_782, sv at_here_783, sv bad_790]) (ow1 := []) (fun km_791 => sb_if (b := ((decide ((1 : Int) < at_here_783)) && (decide (((cell_782 / (6 : Int)) % (6 : Int)) = (5 : Int))))) (et_and (et_test (ev_op (ev_var (i := 2) rfl) (ev_int 1) r2_gt)) (fun _ => (et_test (ev_op (ev_op (ev_op (ev_var (i := 1) rfl) (ev_int 6) r2_div) (ev_int 6) r2_mod) (ev_int 5) r2_eqI)))) (fun hb_787 => ?_) (fun hb_787 => ?_)) ?_
    · have hj_786 := ite_t hb_787 hj_786
      obtain ⟨i_788, h_i_788, hj_786⟩ := bind_some hj_786
      obtain ⟨bad_789, h_bad_789, hj_786⟩ := bind_some hj_786
      refine sb_asg (sl' := [sv own_here_781, sv cell_782, sv at_here_783, sv bad_789]) rfl (EV.cast (ev_up (ev_op (EN.ev (en_lst (el_cons (ev_int 100) (el_cons (ev_int 100) (el_cons (ev_int 10) (el_cons (ev_int 10) el_nil)))))) (ev_op (ev_var (i := 2) rfl) (ev_int 2) r2_sub) (r2_ixL h_i_788))) (Option.some.inj h_bad_789)) ?_
      cases hj_786
      exact km_791 _ _ (.keep (.keep (.keep (.keep .nil)))) (List.Sublist.refl _)
    · have hj_786 := ite_f hb_787 hj_786
      refine sb_nx ?_
      cases hj_786
      exact km_791 _ _ (.keep (.keep (.keep (.keep .nil)))) (List.Sublist.refl _)
    obtain ⟨bad_796, hj_792, hf⟩ := bind_some hf
    refine SB.cutB (sl' := [sv own_here_781, sv cell_782, sv at_here_783, sv bad_796]) (ow1 := []) (fun km_797 => sb_if (b := (decide (at_here_783 < (2 : Int)))) (et_test (ev_op (ev_var (i := 2) rfl) (ev_int 2) r2_lt)) (fun hb_793 => ?_) (fun hb_793 => ?_)) ?_
    · have hj_792 := ite_t hb_793 hj_792
      obtain ⟨i_794, h_i_794, hj_792⟩ := bind_some hj_792
      obtain ⟨bad_795, h_bad_795, hj_792⟩ := bind_some hj_792
      refine sb_asg (sl' := [sv own_here_781, sv cell_782, sv at_here_783, sv bad_795]) rfl (EV.cast (ev_op (EN.ev (en_lst (el_cons (ev_up (ev_tup (ea_cons (ev_var (i := 3) rfl) (ea_cons (ev_op (ev_int 10) (ev_int 6) (r2_pow (r := 1000000))) ea_nil)))) (el_cons (ev_up (ev_tup (ea_cons (ev_int 5) (ea_cons (ev_int 4) ea_nil)))) (el_cons (ev_up (ev_tup (ea_cons (ev_int 1) ea_nil))) (el_cons (ev_up (EN.ev (en_lst (el_cons (ev_up (ev_int 0)) (el_cons (ev_up (ev_int 1)) el_nil))))) (el_cons (ev_up (ev_tup (ea_cons (ev_int 0) (ea_cons (ev_var (i := 3) rfl) ea_nil)))) (el_cons (ev_up (ev_int 7)) el_nil)))))))) (ev_op (ev_op (ev_var (i := 1) rfl) (ev_int 36) r2_div) (ev_int 6) r2_mod) (r2_ixL h_i_794)) (Option.some.inj h_bad_795)) ?_
      cases hj_792
      exact km_797 _ _ (.keep (.keep (.keep (.keep .nil)))) (List.Sublist.refl _)
    · have hj_792 := ite_f hb_793 hj_792
      refine sb_nx ?_
      cases hj_792
      exact km_797 _ _ (.keep (.keep (.keep (.keep .nil)))) (List.Sublist.refl _)
    obtain ⟨o_798, h_o_798, hf⟩ := bind_some hf
    obtain ⟨ct_799, h_ct_799, hf⟩ := bind_some hf
    obtain ⟨o_800, h_o_800, hf⟩ := bind_some hf
    obtain ⟨tt_801, h_tt_801, hf⟩ := bind_some hf
    obtain ⟨o_802, h_o_802, hf⟩ := bind_some hf
    obtain ⟨ct_803, h_ct_803, hf⟩ := bind_some hf
    obtain ⟨tt_804, h_tt_804, hf⟩ := bind_some hf
    cases hf
    exact sb_ret (ev_up (ev_op (ev_op (ev_slTu (ev_of (ev_var (i := 0) rfl) h_o_798) eo_none (eo_some (ev_var (i := 2) rfl)) h_ct_799) (ev_of (ev_up (ev_tup (ea_cons (ev_var (i := 3) rfl) ea_nil))) h_o_800) (r2_catTu h_tt_801)) (ev_slTu (ev_of (ev_var (i := 0) rfl) h_o_802) (eo_some (ev_op (ev_var (i := 2) rfl) (ev_int 1) r2_add)) eo_none h_ct_803) (r2_catTu h_tt_804))) q (List.Sublist.refl _)
theorem sc__law_bent : FnScope ["_law_box", "_law_cell", "_law_first", "_law_kind", "_law_name", "_law_own_here", "_law_what", "_law_parts", "_law_way", "_law_bad"] ["_law_box", "_law_cell", "_law_first"] (defScope s__law_bent) := ⟨rfl, rfl, rfl, by decide +kernel, rfl, by decide +kernel, by decide +kernel⟩
set_option maxHeartbeats 4000000 in
theorem ok__law_bent (T : TX K mg w) : FnOk P w K mg base CX0 2 T.a__law_bent T.d__law_bent ["_law_box", "_law_cell", "_law_first"] (PF (τ := Dy × Int × Dy × Unit) K (fun t => m__law_bent t.1 t.2.1 t.2.2.1)) := by
  refine T.F__law_bent.ok sc__law_bent (fun vs H Q E h => ?_) (fun cdv A outer s H vs Q E hr h => ?_)
  · obtain ⟨Kn, t, r, ek, h, hf, q⟩ := h
    exact Tp.len h
  · obtain ⟨Kn, t, r_, ek, h, hf, q⟩ := h
    obtain ⟨box_805, cell_806, first_807, u_⟩ := t
    obtain ⟨v_0, rr_, rfl, hv_0, h⟩ := h
    obtain ⟨v_1, rr_, rfl, hv_1, h⟩ := h
    obtain ⟨v_2, rr_, rfl, hv_2, h⟩ := h
    obtain rfl := h
    replace hf : m__law_bent box_805 cell_806 first_807 = some r_ := hf
    unfold m__law_bent at hf
    refine ⟨_, (pss_cons (ps_asg (pv 0) (kpg_tup (n := 5) (pgs_cons (pg_name (i := 3) sc__law_bent.nd rfl (.inl rfl)) (pgs_cons (pg_name (i := 4) sc__law_bent.nd rfl (.inl rfl)) (pgs_cons (pg_name (i := 5) sc__law_bent.nd rfl (.inl rfl)) (pgs_cons (pg_name (i := 6) sc__law_bent.nd rfl (.inl rfl)) (pgs_cons (pg_name (i := 7) sc__law_bent.nd rfl (.inl rfl)) pgs_nil)))))))
      (pss_cons (ps_set (i := 8) sc__law_bent.nd rfl (.inl rfl) (pe_op op_mod (pv 1) pe_int))
      (pss_cons (ps_set (i := 1) sc__law_bent.nd rfl (.inl rfl) (pe_op op_fdiv (pv 1) pe_int))
      (pss_cons (ps_if (pt_cmpR op_eq (pv 8) pe_int (nomark _)) (pss_cons (ps_set (i := 9) sc__law_bent.nd rfl (.inl rfl) (pe_ix k_ixl (pe_lst (pa_cons pe_str (pa_cons (pe_op op_add_str pe_str (pe_slice sl_str (pv 4) (po_some pe_int) po_none)) (pa_cons pe_str (pa_cons pe_int (pa_cons pe_non (pa_cons (pv 2) pa_nil))))))) (pe_op op_mod (pv 1) pe_int) (fun _ _ => rfl)))
      (Evl.pss_cut (ps_if (pt_cmpR (k_eqD hr.units) (pv 9) (pv 4) (nomark _)) (pss_one (ps_set (i := 9) sc__law_bent.nd rfl (.inl rfl) pe_str)) pss_nil)
      (pss_one (ps_ret (pe_tup (pa_cons (pv 3) (pa_cons (pv 9) (pa_cons (pv 5) (pa_cons (pv 6) (pa_cons (pv 7) pa_nil)))))))))) pss_nil)
      (pss_cons (ps_if (pt_cmpR op_eq (pv 8) pe_int (nomark _)) (pss_one (ps_ret (pe_tup (pa_cons (pv 3) (pa_cons (pv 4) (pa_cons (pe_call (ok__law_bent_own T) hr (by rfl) T.g__law_bent_own T.F__law_bent_own.kp T.b__law_bent_own .nil pass0 (pa_cons (pv 5) (pa_cons (pv 1) pa_nil))) (pa_cons (pv 6) (pa_cons (pv 7) pa_nil)))))))) pss_nil)
      (pss_cons (ps_if (pt_cmpR op_eq (pv 8) pe_int (nomark _)) (pss_one (ps_ret (pe_tup (pa_cons (pv 3) (pa_cons (pv 4) (pa_cons (pe_ix k_ixl (pe_lst (pa_cons (pe_slice k_slt (pv 5) po_none (po_some pe_int)) (pa_cons (pe_callTy k_list (by rfl) T.z_list (by decide +kernel) (pa_cons (pv 5) pa_nil)) (pa_cons (pe_op k_catA (pv 5) (pe_tup (pa_cons pe_int pa_nil))) (pa_cons pe_non pa_nil))))) (pe_op op_mod (pv 1) pe_int) (fun _ _ => rfl)) (pa_cons (pv 6) (pa_cons (pv 7) pa_nil)))))))) pss_nil)
      (pss_cons (ps_if (pt_cmpR op_eq (pv 8) pe_int (nomark _)) (pss_one (ps_ret (pe_tup (pa_cons (pv 3) (pa_cons (pv 4) (pa_cons (pv 5) (pa_cons (pe_ix k_ixl (pe_lst (pa_cons (pe_slice k_slt (pv 6) po_none (po_some pe_int)) (pa_cons (pe_callTy k_list (by rfl) T.z_list (by decide +kernel) (pa_cons (pv 6) pa_nil)) (pa_cons pe_non (pa_cons (pe_tup pa_nil) pa_nil))))) (pe_op op_mod (pv 1) pe_int) (fun _ _ => rfl)) (pa_cons (pv 7) pa_nil)))))))) pss_nil)
      (pss_cons (ps_if (pt_cmpR op_eq (pv 8) pe_int (nomark _)) (pss_one (ps_ret (pe_tup (pa_cons (pv 3) (pa_cons (pv 4) (pa_cons (pv 5) (pa_cons (pe_op k_catA (pe_op k_catA (pe_slice k_slt (pv 6) po_none (po_some pe_int)) (pe_tup (pa_cons pe_str pa_nil))) (pe_slice k_slt (pv 6) (po_some pe_int) po_none)) (pa_cons (pv 7) pa_nil)))))))) pss_nil)
      (pss_cons (ps_if (pt_cmpR op_eq (pv 8) pe_int (nomark _)) (pss_one (ps_ret (pe_tup (pa_cons (pv 3) (pa_cons (pv 4) (pa_cons (pv 5) (pa_cons (pe_op k_catA (pe_tup (pa_cons (pe_op op_sub (pe_un un_neg pe_int) (pe_op op_mod (pv 1) (pe_op op_pow pe_int pe_int))) pa_nil)) (pe_slice k_slt (pv 6) (po_some pe_int) po_none)) (pa_cons (pv 7) pa_nil)))))))) pss_nil)
      (pss_cons (ps_if (pt_cmpR op_eq (pv 8) pe_int (nomark _)) (pss_one (ps_ret (pe_tup (pa_cons (pe_ix k_ixl (pe_lst (pa_cons pe_str (pa_cons pe_str (pa_cons pe_str (pa_cons pe_non (pa_cons pe_int (pa_cons (pe_lst (pa_cons pe_str pa_nil)) pa_nil))))))) (pe_op op_mod (pv 1) pe_int) (fun _ _ => rfl)) (pa_cons (pv 4) (pa_cons (pv 5) (pa_cons (pv 6) (pa_cons (pv 7) pa_nil)))))))) pss_nil)
      (pss_one (ps_ret (pe_tup (pa_cons (pv 3) (pa_cons (pv 4) (pa_cons (pv 5) (pa_cons (pv 6) (pa_cons (pe_ix k_ixl (pe_lst (pa_cons (pe_callTy k_list (by rfl) T.z_list (by decide +kernel) (pa_cons (pv 7) pa_nil)) (pa_cons pe_non (pa_cons pe_int (pa_cons pe_str pa_nil))))) (pe_op op_mod (pv 1) pe_int) (fun _ _ => rfl)) pa_nil)))))))))))))))))), ?_⟩
    refine enter (K := K) (Kn := Kn) (sl := [sv box_805, sv cell_806, sv first_807, .any, .any, .any, .any, .any, .any, .any]) ek ⟨⟨v_0, rfl, hv_0⟩, ⟨v_1, rfl, hv_1⟩, ⟨v_2, rfl, hv_2⟩, trivial, trivial, trivial, trivial, trivial, trivial, trivial, trivial⟩ ?_
    have q := rt_of q
    obtain ⟨o_808, h_o_808, hf⟩ := bind_some hf
    obtain ⟨⟨kind_809, name_810, own_here_811, what_812, parts_813, _⟩, h_kind_809, hf⟩ := bind_some hf
    refine SB.seqB (fun kx_ => sb_unp (sl' := [sv box_805, sv cell_806, sv first_807, sv kind_809, sv name_810, sv own_here_811, sv what_812, sv parts_813, .any, .any]) (EV.cast (ev_of (ev_var (i := 0) rfl) h_o_808) (Option.some.inj h_kind_809)) (gt_tup (gts_cons (gt_name rfl) (gts_cons (gt_name rfl) (gts_cons (gt_name rfl) (gts_cons (gt_name rfl) (gts_cons (gt_name rfl) gts_nil)))))) (kx_ _ _ ?_))
    obtain ⟨way_814, h_way_814, hf⟩ := bind_some hf
    refine SB.seqB (fun kx_ => sb_asg (sl' := [sv box_805, sv cell_806, sv first_807, sv kind_809, sv name_810, sv own_here_811, sv what_812, sv parts_813, sv way_814, .any]) rfl (EV.cast (ev_op (ev_var (i := 1) rfl) (ev_int 8) r2_mod) (Option.some.inj h_way_814)) (kx_ _ _ ?_))
    obtain ⟨cell_815, h_cell_815, hf⟩ := bind_some hf
    refine SB.seqB (fun kx_ => sb_asg (sl' := [sv box_805, sv cell_815, sv first_807, sv kind_809, sv name_810, sv own_here_811, sv what_812, sv parts_813, sv way_814, .any]) rfl (EV.cast (ev_op (ev_var (i := 1) rfl) (ev_int 8) r2_div) (Option.some.inj h_cell_815)) (kx_ _ _ ?_))
    refine SB.seqB (fun kx_818 => sb_if (b := (decide (way_814 = (0 : Int)))) (et_test (ev_op (ev_var (i := 8) rfl) (ev_int 0) r2_eqI)) (fun hb_817 => ?_) (fun hb_817 => ?_))
    · have hf := ite_t hb_817 hf
      obtain ⟨o_822, h_o_822, hf⟩ := bind_some hf
      obtain ⟨cs_823, h_cs_823, hf⟩ := bind_some hf
      obtain ⟨t_824, h_t_824, hf⟩ := bind_some hf
      obtain ⟨i_825, h_i_825, hf⟩ := bind_some hf
      obtain ⟨bad_826, h_bad_826, hf⟩ := bind_some hf
      refine SB.seqB (fun kx_ => sb_asg (sl' := [sv box_805, sv cell_815, sv first_807, sv kind_809, sv name_810, sv own_here_811, sv what_812, sv parts_813, sv way_814, sv bad_826]) rfl (EV.cast (ev_op (EN.ev (en_lst (el_cons (ev_up (ev_str ("" : Str))) (el_cons (ev_up (ev_op (ev_str ("A" : Str)) (ev_slS (ev_of (ev_var (i := 4) rfl) h_o_822) (eo_some (ev_int 1)) eo_none h_cs_823) (r2_addS h_t_824))) (el_cons (ev_up (ev_str ("abcdefghi" : Str))) (el_cons (ev_up (ev_int 5)) (el_cons (ev_up ev_nn) (el_cons (ev_var (i := 2) rfl) el_nil)))))))) (ev_op (ev_var (i := 1) rfl) (ev_int 6) r2_mod) (r2_ixL h_i_825)) (Option.some.inj h_bad_826)) (kx_ _ _ ?_))
      obtain ⟨e_828, h_e_828, hf⟩ := bind_some hf
      obtain ⟨bad_831, hj_827, hf⟩ := bind_some hf
      refine SB.cutB (sl' := [sv box_805, sv cell_815, sv first_807, sv kind_809, sv name_810, sv own_here_811, sv what_812, sv parts_813, sv way_814, sv bad_831]) (ow1 := []) (fun km_832 => sb_if (b := e_828) (et_test (ev_op (ev_var (i := 9) rfl) (ev_var (i := 4) rfl) (r2_eqY h_e_828))) (fun hb_829 => ?_) (fun hb_829 => ?_)) ?_
      · have hj_827 := ite_t hb_829 hj_827
        obtain ⟨bad_830, h_bad_830, hj_827⟩ := bind_some hj_827
        refine sb_asg (sl' := [sv box_805, sv cell_815, sv first_807, sv kind_809, sv name_810, sv own_here_811, sv what_812, sv parts_813, sv way_814, sv bad_830]) rfl (EV.cast (ev_up (ev_str ("x_" : Str))) (Option.some.inj h_bad_830)) ?_
        cases hj_827
        exact km_832 _ _ (.keep (.keep (.keep (.keep (.keep (.keep (.keep (.keep (.keep (.keep .nil)))))))))) (List.Sublist.refl _)
      · have hj_827 := ite_f hb_829 hj_827
        refine sb_nx ?_
        cases hj_827
        exact km_832 _ _ (.keep (.keep (.keep (.keep (.keep (.keep (.keep (.keep (.keep (.keep .nil)))))))))) (List.Sublist.refl _)
      cases hf
      exact sb_ret (ev_up (ev_tup (ea_cons (ev_var (i := 3) rfl) (ea_cons (ev_var (i := 9) rfl) (ea_cons (ev_var (i := 5) rfl) (ea_cons (ev_var (i := 6) rfl) (ea_cons (ev_var (i := 7) rfl) ea_nil))))))) q (List.Sublist.refl _)
    · have hf := ite_f hb_817 hf
      refine sb_nx ?_
      refine kx_818 _ _ ?_
      refine SB.seqB (fun kx_835 => sb_if (b := (decide (way_814 = (1 : Int)))) (et_test (ev_op (ev_var (i := 8) rfl) (ev_int 1) r2_eqI)) (fun hb_834 => ?_) (fun hb_834 => ?_))
      · have hf := ite_t hb_834 hf
        obtain ⟨r_836, h_r_836, hf⟩ := bind_some hf
        cases hf
        exact sb_ret (ev_up (ev_tup (ea_cons (ev_var (i := 3) rfl) (ea_cons (ev_var (i := 4) rfl) (ea_cons (ev_call (ea_cons (ev_var (i := 5) rfl) (ea_cons (ev_var (i := 1) rfl) ea_nil)) h_r_836) (ea_cons (ev_var (i := 6) rfl) (ea_cons (ev_var (i := 7) rfl) ea_nil))))))) q (List.Sublist.refl _)
      · have hf := ite_f hb_834 hf
        refine sb_nx ?_
        refine kx_835 _ _ ?_
        refine SB.seqB (fun kx_839 => sb_if (b := (decide (way_814 = (2 : Int)))) (et_test (ev_op (ev_var (i := 8) rfl) (ev_int 2) r2_eqI)) (fun hb_838 => ?_) (fun hb_838 => ?_))
        · have hf := ite_t hb_838 hf
          obtain ⟨o_846, h_o_846, hf⟩ := bind_some hf
          obtain ⟨ct_847, h_ct_847, hf⟩ := bind_some hf
          obtain ⟨o_848, h_o_848, hf⟩ := bind_some hf
          obtain ⟨o_849, h_o_849, hf⟩ := bind_some hf
          obtain ⟨o_850, h_o_850, hf⟩ := bind_some hf
          obtain ⟨tt_851, h_tt_851, hf⟩ := bind_some hf
          obtain ⟨i_852, h_i_852, hf⟩ := bind_some hf
          cases hf
          exact sb_ret (ev_up (ev_tup (ea_cons (ev_var (i := 3) rfl) (ea_cons (ev_var (i := 4) rfl) (ea_cons (ev_op (EN.ev (en_lst (el_cons (ev_up (ev_slTu (ev_of (ev_var (i := 5) rfl) h_o_846) eo_none (eo_some (ev_int 5)) h_ct_847)) (el_cons (ev_up (EN.ev (en_cb (ea_cons (ev_of (ev_var (i := 5) rfl) h_o_848) ea_nil) rc_listT))) (el_cons (ev_up (ev_op (ev_of (ev_var (i := 5) rfl) h_o_849) (ev_of (ev_up (ev_tup (ea_cons (ev_int 0) ea_nil))) h_o_850) (r2_catTu h_tt_851))) (el_cons (ev_up ev_nn) el_nil)))))) (ev_op (ev_var (i := 1) rfl) (ev_int 4) r2_mod) (r2_ixL h_i_852)) (ea_cons (ev_var (i := 6) rfl) (ea_cons (ev_var (i := 7) rfl) ea_nil))))))) q (List.Sublist.refl _)
        · have hf := ite_f hb_838 hf
          refine sb_nx ?_
          refine kx_839 _ _ ?_
          refine SB.seqB (fun kx_855 => sb_if (b := (decide (way_814 = (3 : Int)))) (et_test (ev_op (ev_var (i := 8) rfl) (ev_int 3) r2_eqI)) (fun hb_854 => ?_) (fun hb_854 => ?_))
          · have hf := ite_t hb_854 hf
            obtain ⟨o_859, h_o_859, hf⟩ := bind_some hf
            obtain ⟨ct_860, h_ct_860, hf⟩ := bind_some hf
            obtain ⟨o_861, h_o_861, hf⟩ := bind_some hf
            obtain ⟨i_862, h_i_862, hf⟩ := bind_some hf
            cases hf
            exact sb_ret (ev_up (ev_tup (ea_cons (ev_var (i := 3) rfl) (ea_cons (ev_var (i := 4) rfl) (ea_cons (ev_var (i := 5) rfl) (ea_cons (ev_op (EN.ev (en_lst (el_cons (ev_up (ev_slTu (ev_of (ev_var (i := 6) rfl) h_o_859) eo_none (eo_some (ev_int 1)) h_ct_860)) (el_cons (ev_up (EN.ev (en_cb (ea_cons (ev_of (ev_var (i := 6) rfl) h_o_861) ea_nil) rc_listT))) (el_cons (ev_up ev_nn) (el_cons (ev_up (ev_tuH (xs := ([] : List Int)) el_nil)) el_nil)))))) (ev_op (ev_var (i := 1) rfl) (ev_int 4) r2_mod) (r2_ixL h_i_862)) (ea_cons (ev_var (i := 7) rfl) ea_nil))))))) q (List.Sublist.refl _)
          · have hf := ite_f hb_854 hf
            refine sb_nx ?_
            refine kx_855 _ _ ?_
            refine SB.seqB (fun kx_865 => sb_if (b := (decide (way_814 = (4 : Int)))) (et_test (ev_op (ev_var (i := 8) rfl) (ev_int 4) r2_eqI)) (fun hb_864 => ?_) (fun hb_864 => ?_))
            · have hf := ite_t hb_864 hf
              obtain ⟨o_866, h_o_866, hf⟩ := bind_some hf
              obtain ⟨ct_867, h_ct_867, hf⟩ := bind_some hf
              obtain ⟨o_868, h_o_868, hf⟩ := bind_some hf
              obtain ⟨tt_869, h_tt_869, hf⟩ := bind_some hf
              obtain ⟨o_870, h_o_870, hf⟩ := bind_some hf
              obtain ⟨ct_871, h_ct_871, hf⟩ := bind_some hf
              obtain ⟨tt_872, h_tt_872, hf⟩ := bind_some hf
              cases hf
              exact sb_ret (ev_up (ev_tup (ea_cons (ev_var (i := 3) rfl) (ea_cons (ev_var (i := 4) rfl) (ea_cons (ev_var (i := 5) rfl) (ea_cons (ev_op (ev_op (ev_slTu (ev_of (ev_var (i := 6) rfl) h_o_866) eo_none (eo_some (ev_int 1)) h_ct_867) (ev_of (ev_up (ev_tup (ea_cons (ev_str ("mid3" : Str)) ea_nil))) h_o_868) (r2_catTu h_tt_869)) (ev_slTu (ev_of (ev_var (i := 6) rfl) h_o_870) (eo_some (ev_int 2)) eo_none h_ct_871) (r2_catTu h_tt_872)) (ea_cons (ev_var (i := 7) rfl) ea_nil))))))) q (List.Sublist.refl _)
            · have hf := ite_f hb_864 hf
              refine sb_nx ?_
              refine kx_865 _ _ ?_
              refine SB.seqB (fun kx_875 => sb_if (b := (decide (way_814 = (5 : Int)))) (et_test (ev_op (ev_var (i := 8) rfl) (ev_int 5) r2_eqI)) (fun hb_874 => ?_) (fun hb_874 => ?_))
              · have hf := ite_t hb_874 hf
                obtain ⟨o_876, h_o_876, hf⟩ := bind_some hf
                obtain ⟨ct_877, h_ct_877, hf⟩ := bind_some hf
                obtain ⟨o_878, h_o_878, hf⟩ := bind_some hf
                obtain ⟨tt_879, h_tt_879, hf⟩ := bind_some hf
                cases hf
                exact sb_ret (ev_up (ev_tup (ea_cons (ev_var (i := 3) rfl) (ea_cons (ev_var (i := 4) rfl) (ea_cons (ev_var (i := 5) rfl) (ea_cons (ev_op (ev_of (ev_up (ev_tup (ea_cons (ev_op (ev_un (ev_int 1) r1_neg) (ev_op (ev_var (i := 1) rfl) (ev_op (ev_int 10) (ev_int 9) (r2_pow (r := 1000000000))) r2_mod) r2_sub) ea_nil))) h_o_878) (ev_slTu (ev_of (ev_var (i := 6) rfl) h_o_876) (eo_some (ev_int 1)) eo_none h_ct_877) (r2_catTu h_tt_879)) (ea_cons (ev_var (i := 7) rfl) ea_nil))))))) q (List.Sublist.refl _)
              · have hf := ite_f hb_874 hf
                refine sb_nx ?_
                refine kx_875 _ _ ?_
                refine SB.seqB (fun kx_882 => sb_if (b := (decide (way_814 = (6 : Int)))) (et_test (ev_op (ev_var (i := 8) rfl) (ev_int 6) r2_eqI)) (fun hb_881 => ?_) (fun hb_881 => ?_))
                · have hf := ite_t hb_881 hf
                  obtain ⟨i_883, h_i_883, hf⟩ := bind_some hf
                  cases hf
                  exact sb_ret (ev_up (ev_tup (ea_cons (ev_op (EN.ev (en_lst (el_cons (ev_up (ev_str ("Leaf" : Str))) (el_cons (ev_up (ev_str ("box" : Str))) (el_cons (ev_up (ev_str ("" : Str))) (el_cons (ev_up ev_nn) (el_cons (ev_up (ev_int 3)) (el_cons (ev_up (EN.ev (en_lst (el_cons (ev_up (ev_str ("row" : Str))) el_nil)))) el_nil)))))))) (ev_op (ev_var (i := 1) rfl) (ev_int 6) r2_mod) (r2_ixL h_i_883)) (ea_cons (ev_var (i := 4) rfl) (ea_cons (ev_var (i := 5) rfl) (ea_cons (ev_var (i := 6) rfl) (ea_cons (ev_var (i := 7) rfl) ea_nil))))))) q (List.Sublist.refl _)
                · have hf := ite_f hb_881 hf
                  refine sb_nx ?_
                  refine kx_882 _ _ ?_
                  obtain ⟨o_885, h_o_885, hf⟩ := bind_some hf
                  obtain ⟨i_886, h_i_886, hf⟩ := bind_some hf
                  cases hf
                  exact sb_ret (ev_up (ev_tup (ea_cons (ev_var (i := 3) rfl) (ea_cons (ev_var (i := 4) rfl) (ea_cons (ev_var (i := 5) rfl) (ea_cons (ev_var (i := 6) rfl) (ea_cons (ev_op (EN.ev (en_lst (el_cons (ev_up (EN.ev (en_cb (ea_cons (ev_of (ev_var (i := 7) rfl) h_o_885) ea_nil) rc_listT))) (el_cons (ev_up ev_nn) (el_cons (ev_up (ev_int 4)) (el_cons (ev_up (ev_str ("ab" : Str))) el_nil)))))) (ev_op (ev_var (i := 1) rfl) (ev_int 4) r2_mod) (r2_ixL h_i_886)) ea_nil))))))) q (List.Sublist.refl _)
theorem sc__law_kept : FnScope ["_law_tree_here", "_law_kept_here", "e"] ["_law_tree_here"] (defScope s__law_kept) := ⟨rfl, rfl, rfl, by decide +kernel, rfl, by decide +kernel, by decide +kernel⟩
set_option maxHeartbeats 4000000 in
theorem ok__law_kept (T : TX K mg w) : FnOk P w K mg base CX0 18 T.a__law_kept T.d__law_kept ["_law_tree_here"] (PF (α := (Option (Kx (cmT T)))) (τ := Dy × Unit) K (fun t => m__law_kept t.1)) := by
  refine T.F__law_kept.ok sc__law_kept (fun vs H Q E h => ?_) (fun cdv A outer s H vs Q E hr h => ?_)
  · obtain ⟨Kn, t, r, ek, h, hf, q⟩ := h
    exact Tp.len h
  · obtain ⟨Kn, t, r_, ek, h, hf, q⟩ := h
    obtain ⟨tree_here_887, u_⟩ := t
    obtain ⟨v_0, rr_, rfl, hv_0, h⟩ := h
    obtain rfl := h
    replace hf : m__law_kept tree_here_887 = some r_ := hf
    unfold m__law_kept at hf
    refine ⟨_, (pss_cons (ps_set (i := 1) sc__law_kept.nd rfl (.inl rfl) pe_non)
      (Evl.pss_cut (ps_try_keep (i := 2) rfl rfl rfl sc__law_kept.nd rfl rfl ⟨rfl, by decide, .inl T.gC_BoxError⟩ (fun W pn xe tk _ => (pss_one (ps_expr (pe_callS (ok_check_tree T) hr (by rfl) T.g_check_tree T.F_check_tree.kp T.b_check_tree (fun σ => passAt tk σ) (pa_cons (pv 0) pa_nil))))) (fun a oe cls d pn hz hf => (pss_one (ps_set (i := 1) sc__law_kept.nd rfl (.inl rfl) (pv 2)))))
      (pss_one (ps_ret (pv 1))))), ?_⟩
    refine enter (K := K) (Kn := Kn) (sl := [sv tree_here_887, .any, .any]) ek ⟨⟨v_0, rfl, hv_0⟩, trivial, trivial, trivial⟩ ?_
    have q := rt_of q
    obtain ⟨kept_here_888, h_kept_here_888, hf⟩ := bind_some hf
    refine SB.seqB (fun kx_ => sb_asg (sl' := [sv tree_here_887, sv (α := (Option (Kx (cmT T)))) kept_here_888, .any]) rfl (EV.cast ev_none (Option.some.inj h_kept_here_888)) (kx_ _ _ ?_))
    obtain ⟨kept_here_894, hj_889, hf⟩ := bind_some hf
    refine SB.cutB (sl' := [sv tree_here_887, sv (α := (Option (Kx (cmT T)))) kept_here_894, .any]) (ow1 := []) (fun km_890 => ?_) ?_
    · intro σ_ Kn_ H_ s_
      obtain ⟨r_891_0, h_r_891, hj_889⟩ := bind_some hj_889
      obtain ⟨ex_892, rfl⟩ | ⟨r_891, rfl⟩ := er_cases r_891_0
      · obtain ⟨hx_893, hj_889⟩ := ite_some hj_889
        refine sb_dropR (er_call (ea_cons (ev_var (i := 0) rfl) ea_nil) h_r_891) (rw_asK (exm_BoxError T _ (of_decide_eq_true hx_893)) (fun _ _ _ => rfl) (sl' := fun a_ cls_ d_ => [sv tree_here_887, sv (α := (Option (Kx (cmT T)))) kept_here_888, sv (Xv.mk ex_892 : Xv (cmT T) a_ cls_ d_)]) (fun a_ cls_ d_ => ?_)) σ_ Kn_ H_ s_
        refine sb_asg (i := 1) (sl' := [sv tree_here_887, sv (Xv.mk ex_892 : Xv (cmT T) a_ cls_ d_), sv (Xv.mk ex_892 : Xv (cmT T) a_ cls_ d_)]) rfl (ev_var (i := 2) rfl) ?_
        cases hj_889
        exact sn_keep (k := 1) (i := 2) rfl rfl (km_890 _ _ (.keep (.keep (.keep .nil))) (List.Sublist.refl _))
      cases hj_889
      exact sb_drop (ev_callX (ea_cons (ev_var (i := 0) rfl) ea_nil) h_r_891) (km_890 _ _ (.keep (.keep (.keep .nil))) (List.Sublist.refl _)) σ_ Kn_ H_ s_
    cases hf
    exact sb_ret (ev_var (α := (Option (Kx (cmT T)))) (i := 1) rfl) q (List.Sublist.refl _)
theorem sc__law_refused : FnScope ["_law_tree_here", "_law_name", "_law_kept_here"] ["_law_tree_here", "_law_name"] (defScope s__law_refused) := ⟨rfl, rfl, rfl, by decide +kernel, rfl, by decide +kernel, by decide +kernel⟩
set_option maxHeartbeats 4000000 in
theorem ok__law_refused (T : TX K mg w) : FnOk P w K mg base CX0 19 T.a__law_refused T.d__law_refused ["_law_tree_here", "_law_name"] (PF (τ := Dy × Dy × Unit) K (fun t => m__law_refused t.1 t.2.1)) := by
  refine T.F__law_refused.ok sc__law_refused (fun vs H Q E h => ?_) (fun cdv A outer s H vs Q E hr h => ?_)
  · obtain ⟨Kn, t, r, ek, h, hf, q⟩ := h
    exact Tp.len h
  · obtain ⟨Kn, t, r_, ek, h, hf, q⟩ := h
    obtain ⟨tree_here_895, name_896, u_⟩ := t
    obtain ⟨v_0, rr_, rfl, hv_0, h⟩ := h
    obtain ⟨v_1, rr_, rfl, hv_1, h⟩ := h
    obtain rfl := h
    replace hf : m__law_refused tree_here_895 name_896 = some r_ := hf
    unfold m__law_refused at hf
    refine ⟨_, (pss_cons (ps_set (i := 2) sc__law_refused.nd rfl (.inl rfl) (pe_call (ok__law_kept T) hr (by rfl) T.g__law_kept T.F__law_kept.kp T.b__law_kept .nil pass0 (pa_cons (pv 0) pa_nil)))
      (pss_cons (ps_if (pt_val (pe_callB (call_isKT T.isx_BadBox) (by rfl) T.z_isinstance (by decide +kernel) (pa_cons (pv 2) (pa_cons (pe_tup (pa_cons (pe_glob (v := .ref T.c_NoBox) (by rfl) T.gC_NoBox rfl) (pa_cons (pe_glob (v := .ref T.c_NoEdit) (by rfl) T.gC_NoEdit rfl) (pa_cons (pe_glob (v := .ref T.c_NoFloor) (by rfl) T.gC_NoFloor rfl) (pa_cons (pe_glob (v := .ref T.c_NoName) (by rfl) T.gC_NoName rfl) (pa_cons (pe_glob (v := .ref T.c_NoNumber) (by rfl) T.gC_NoNumber rfl) (pa_cons (pe_glob (v := .ref T.c_NoPages) (by rfl) T.gC_NoPages rfl) (pa_cons (pe_glob (v := .ref T.c_NoRead) (by rfl) T.gC_NoRead rfl) (pa_cons (pe_glob (v := .ref T.c_NoRow) (by rfl) T.gC_NoRow rfl) (pa_cons (pe_glob (v := .ref T.c_NoRows) (by rfl) T.gC_NoRows rfl) (pa_cons (pe_glob (v := .ref T.c_NotTurned) (by rfl) T.gC_NotTurned rfl) pa_nil))))))))))) pa_nil)))) (pss_one (ps_ret pe_bl)) pss_nil)
      (pss_cons (ps_if (PW.pt (pw_or (pt_val (pe_callB (call_isKT T.isx_BadBox) (by rfl) T.z_isinstance (by decide +kernel) (pa_cons (pv 2) (pa_cons (pe_tup (pa_cons (pe_glob (v := .ref T.c_NoTree) (by rfl) T.gC_NoTree rfl) (pa_cons (pe_glob (v := .ref T.c_Ring) (by rfl) T.gC_Ring rfl) (pa_cons (pe_glob (v := .ref T.c_TooGreat) (by rfl) T.gC_TooGreat rfl) (pa_cons (pe_glob (v := .ref T.c_TooWide) (by rfl) T.gC_TooWide rfl) pa_nil))))) pa_nil)))) (pw_or1 (pt_not (pt_val (pe_callB (call_isK T.isx_BadBox) (by rfl) T.z_isinstance (by decide +kernel) (pa_cons (pv 2) (pa_cons (pe_bltn (v := .ty "ValueError") (u := .type "ValueError") (by rfl) T.z_ValueError (by decide +kernel) rfl) pa_nil)))))))) (pss_one (ps_ret pe_bl)) pss_nil)
      (pss_one (ps_ret (pe_and (pe_callB (call_isK T.isx_BadBox) (by rfl) T.z_isinstance (by decide +kernel) (pa_cons (pv 2) (pa_cons (pe_glob (v := .ref T.c_BadBox) (by rfl) T.gC_BadBox rfl) pa_nil))) (pe_one (pe_cmpR (k_eqD hr.units) (pe_xk T.xf_BadBox (T.no_BadBox _ (by decide)) (pv 2)) (pv 1) (nomark _))))))))), ?_⟩
    refine enter (K := K) (Kn := Kn) (sl := [sv tree_here_895, sv name_896, .any]) ek ⟨⟨v_0, rfl, hv_0⟩, ⟨v_1, rfl, hv_1⟩, trivial, trivial⟩ ?_
    have q := rt_of q
    obtain ⟨r_897, h_r_897, hf⟩ := bind_some hf
    obtain ⟨kept_here_898, h_kept_here_898, hf⟩ := bind_some hf
    refine SB.seqB (fun kx_ => sb_asg (sl' := [sv tree_here_895, sv name_896, sv (α := (Option (Kx (cmT T)))) kept_here_898]) rfl (EV.cast (ev_call (ea_cons (ev_var (i := 0) rfl) ea_nil) h_r_897) (Option.some.inj h_kept_here_898)) (kx_ _ _ ?_))
    obtain ⟨s_900, h_s_900, hf⟩ := bind_some hf
    obtain ⟨xc_901, h_xc_901, hf⟩ := bind_some hf
    refine SB.seqB (fun kx_903 => sb_if (b := false) (et_B (ev_cb (ea_cons (ev_unopt (α := (Kx (cmT T))) (ev_var (α := (Option (Kx (cmT T)))) (i := 2) rfl) h_s_900) (ea_cons (ev_tup (ea_cons (ev_cl T.c_NoBox) (ea_cons (ev_cl T.c_NoEdit) (ea_cons (ev_cl T.c_NoFloor) (ea_cons (ev_cl T.c_NoName) (ea_cons (ev_cl T.c_NoNumber) (ea_cons (ev_cl T.c_NoPages) (ea_cons (ev_cl T.c_NoRead) (ea_cons (ev_cl T.c_NoRow) (ea_cons (ev_cl T.c_NoRows) (ea_cons (ev_cl T.c_NotTurned) ea_nil))))))))))) ea_nil)) (rc_isKT (cm := cmT T) rfl h_xc_901 (kitAny_cons T.kit_BadBox_NoBox (fun _ => (kitAny_cons T.kit_BadBox_NoEdit (fun _ => (kitAny_cons T.kit_BadBox_NoFloor (fun _ => (kitAny_cons T.kit_BadBox_NoName (fun _ => (kitAny_cons T.kit_BadBox_NoNumber (fun _ => (kitAny_cons T.kit_BadBox_NoPages (fun _ => (kitAny_cons T.kit_BadBox_NoRead (fun _ => (kitAny_cons T.kit_BadBox_NoRow (fun _ => (kitAny_cons T.kit_BadBox_NoRows (fun _ => (kitAny_cons T.kit_BadBox_NotTurned (fun _ => kitAny_nil) (fun z => nomatch z))) (fun z => nomatch z))) (fun z => nomatch z))) (fun z => nomatch z))) (fun z => nomatch z))) (fun z => nomatch z))) (fun z => nomatch z))) (fun z => nomatch z))) (fun z => nomatch z))) (fun z => nomatch z))))) (fun hb_902 => ?_) (fun hb_902 => ?_))
    · have hf := ite_t hb_902 hf
      cases hf
      exact sb_ret (ev_bool false) q (List.Sublist.refl _)
    · have hf := ite_f hb_902 hf
      refine sb_nx ?_
      refine kx_903 _ _ ?_
      obtain ⟨s_905, h_s_905, hf⟩ := bind_some hf
      obtain ⟨xc_906, h_xc_906, hf⟩ := bind_some hf
      obtain ⟨b_909, h_b_909, hf⟩ := bind_some hf
      refine SB.seqB (fun kx_911 => sb_if (b := b_909) (et_orO h_b_909 (et_B (ev_cb (ea_cons (ev_unopt (α := (Kx (cmT T))) (ev_var (α := (Option (Kx (cmT T)))) (i := 2) rfl) h_s_905) (ea_cons (ev_tup (ea_cons (ev_cl T.c_NoTree) (ea_cons (ev_cl T.c_Ring) (ea_cons (ev_cl T.c_TooGreat) (ea_cons (ev_cl T.c_TooWide) ea_nil))))) ea_nil)) (rc_isKT (cm := cmT T) rfl h_xc_906 (kitAny_cons T.kit_BadBox_NoTree (fun _ => (kitAny_cons T.kit_BadBox_Ring (fun _ => (kitAny_cons T.kit_BadBox_TooGreat (fun _ => (kitAny_cons T.kit_BadBox_TooWide (fun _ => kitAny_nil) (fun z => nomatch z))) (fun z => nomatch z))) (fun z => nomatch z))) (fun z => nomatch z))))) (fun _ _ h => by obtain ⟨s_907, h_s_907, h⟩ := bind_some h; obtain ⟨xc_908, h_xc_908, h⟩ := bind_some h; have hz_ := Option.some.inj h; subst hz_; exact (et_not (et_B (ev_cb (ea_cons (ev_unopt (α := (Kx (cmT T))) (ev_var (α := (Option (Kx (cmT T)))) (i := 2) rfl) h_s_907) (ea_cons (ev_ty "ValueError") ea_nil)) (rc_isK (cm := cmT T) rfl h_xc_908 T.kit_BadBox_ValueError)))))) (fun hb_910 => ?_) (fun hb_910 => ?_))
      · have hf := ite_t hb_910 hf
        cases hf
        exact sb_ret (ev_bool false) q (List.Sublist.refl _)
      · have hf := ite_f hb_910 hf
        refine sb_nx ?_
        refine kx_911 _ _ ?_
        obtain ⟨s_912, h_s_912, hf⟩ := bind_some hf
        obtain ⟨xc_913, h_xc_913, hf⟩ := bind_some hf
        obtain ⟨b_917, h_b_917, hf⟩ := bind_some hf
        cases hf
        exact sb_ret (ev_andO h_b_917 (ev_cb (ea_cons (ev_unopt (α := (Kx (cmT T))) (ev_var (α := (Option (Kx (cmT T)))) (i := 2) rfl) h_s_912) (ea_cons (ev_cl T.c_BadBox) ea_nil)) (rc_isKC (cm := cmT T) rfl h_xc_913 T.kit_BadBox_BadBox)) (fun _ _ h => by obtain ⟨s_914, h_s_914, h⟩ := bind_some h; obtain ⟨fl_915, h_fl_915, h⟩ := bind_some h; obtain ⟨e_916, h_e_916, h⟩ := bind_some h; have hz_ := Option.some.inj h; subst hz_; exact (ev_op (ev_xk (cm := cmT T) (n := "BadBox") (ev_unopt (α := (Kx (cmT T))) (ev_var (α := (Option (Kx (cmT T)))) (i := 2) rfl) h_s_914) rfl h_fl_915) (ev_var (i := 1) rfl) (r2_eqY h_e_916)))) q (List.Sublist.refl _)
theorem sc_law : FnScope ["_law_script", "_law_tree_here", "_law_boxes_here", "_law_cell", "_law_box", "_law_bent_here", "_law_name", "_law_bad", "_law_again", "_law_thing"] ["_law_script"] (defScope s_law) := ⟨rfl, rfl, rfl, by decide +kernel, rfl, by decide +kernel, by decide +kernel⟩
set_option maxHeartbeats 4000000 in
theorem ok_law (T : TX K mg w) : FnOk P w K mg base CX0 20 T.a_law T.d_law ["_law_script"] (PF (τ := (Fz Int) × Unit) K (fun t => m_law t.1)) := by
  refine T.F_law.ok sc_law (fun vs H Q E h => ?_) (fun cdv A outer s H vs Q E hr h => ?_)
  · obtain ⟨Kn, t, r, ek, h, hf, q⟩ := h
    exact Tp.len h
  · obtain ⟨Kn, t, r_, ek, h, hf, q⟩ := h
    obtain ⟨script_918, u_⟩ := t
    obtain ⟨v_0, rr_, rfl, hv_0, h⟩ := h
    obtain rfl := h
    replace hf : m_law script_918 = some r_ := hf
    unfold m_law at hf
    refine ⟨_, (pss_cons (ps_set (i := 1) sc_law.nd rfl (.inl rfl) (pe_call (ok__law_tree T) (hr.mono (by decide)) (by rfl) T.g__law_tree T.F__law_tree.kp T.b__law_tree .nil pass0 (pa_cons (pv 0) (pa_cons pe_int (pa_cons pe_int pa_nil)))))
      (pss_cons (ps_set (i := 2) sc_law.nd rfl (.inl rfl) (pe_call (ok__law_boxes T) (hr.mono (by decide)) (by rfl) T.g__law_boxes T.F__law_boxes.kp T.b__law_boxes .nil pass0 (pa_cons (pv 1) pa_nil)))
      (pss_cons (ps_set (i := 3) sc_law.nd rfl (.inl rfl) (pe_call (ok__law_at T) (hr.mono (by decide)) (by rfl) T.g__law_at T.F__law_at.kp T.b__law_at .nil pass0 (pa_cons (pv 0) (pa_cons pe_int pa_nil))))
      (pss_cons (ps_set (i := 4) sc_law.nd rfl (.inl rfl) (pe_ix k_ixl (pv 2) (pe_op op_mod (pv 3) (pe_callB k_len (by rfl) T.z_len PySem.boot_len (pa_cons (pv 2) pa_nil))) (fun _ _ => rfl)))
      (pss_cons (ps_set (i := 5) sc_law.nd rfl (.inl rfl) (pe_call (ok__law_bent T) (hr.mono (by decide)) (by rfl) T.g__law_bent T.F__law_bent.kp T.b__law_bent .nil pass0 (pa_cons (pv 4) (pa_cons (pe_op op_fdivW (pv 3) (pe_callB k_len (by rfl) T.z_len PySem.boot_len (pa_cons (pv 2) pa_nil))) (pa_cons (pe_ix k_ixt (pe_ix k_ixl (pv 2) pe_int (fun _ _ => rfl)) pe_int (fun _ _ => rfl)) pa_nil)))))
      (pss_cons (ps_set (i := 6) sc_law.nd rfl (.inl rfl) (pe_ix k_ixt (pv 4) pe_int (fun _ _ => rfl)))
      (Evl.pss_cut (ps_if (pt_cmpR (k_neD hr.units) (pe_ix k_ixt (pv 5) pe_int (fun _ _ => rfl)) (pv 6) (nomark _)) (pss_cons (ps_set (i := 6) sc_law.nd rfl (.inl rfl) pe_non)
      (pss_one (ps_if (pt_cmpR (k_eqD hr.units) (pe_ix k_ixt (pv 5) pe_int (fun _ _ => rfl)) (pe_ix k_ixt (pe_ix k_ixl (pv 2) pe_int (fun _ _ => rfl)) pe_int (fun _ _ => rfl)) (nomark _)) (pss_one (ps_set (i := 6) sc_law.nd rfl (.inl rfl) (pe_ix k_ixt (pv 5) pe_int (fun _ _ => rfl)))) pss_nil))) pss_nil)
      (pss_cons (ps_set (i := 7) sc_law.nd rfl (.inl rfl) (pe_call (ok__law_named T 8) (hr.mono (by decide)) (by rfl) T.g__law_named T.F__law_named.kp T.b__law_named .nil pass0 (pa_cons (pv 1) (pa_cons (pe_ix k_ixt (pv 4) pe_int (fun _ _ => rfl)) (pa_cons (pv 5) pa_nil)))))
      (pss_cons (ps_for PassesOwn.never rfl (pi_range1 (by rfl) T.z_range (pa_cons pe_int pa_nil)) (pg_name (i := 8) sc_law.nd rfl (.inl rfl)) (pss_one (ps_if (PW.pt (pw_or (pt_cmpR op_notN (pe_call (ok__law_kept T) (hr.mono (by decide)) (by rfl) T.g__law_kept T.F__law_kept.kp T.b__law_kept .nil pass0 (pa_cons (pv 1) pa_nil)) pe_non (nomark _)) (pw_or1 (pt_not (pt_val (pe_call (ok__law_refused T) hr (by rfl) T.g__law_refused T.F__law_refused.kp T.b__law_refused .nil pass0 (pa_cons (pv 7) (pa_cons (pv 6) pa_nil)))))))) (pss_one (ps_ret pe_bl)) pss_nil)))
      (pss_cons (ps_for PassesOwn.never rfl (kpi_list (pe_lst (pa_cons pe_non (pa_cons pe_int (pa_cons pe_str (pa_cons (pe_tup pa_nil) (pa_cons (pe_lst pa_nil) (pa_cons (pe_slice k_slt (pv 1) po_none (po_some pe_int)) (pa_cons (pe_callTy k_list (by rfl) T.z_list (by decide +kernel) (pa_cons (pv 1) pa_nil)) (pa_cons (pe_tup (pa_cons (pv 1) pa_nil)) pa_nil)))))))))) (pg_name (i := 9) sc_law.nd rfl (.inl rfl)) (pss_one (ps_if (pt_not (pt_val (pe_call (ok__law_refused T) hr (by rfl) T.g__law_refused T.F__law_refused.kp T.b__law_refused .nil pass0 (pa_cons (pv 9) (pa_cons pe_non pa_nil))))) (pss_one (ps_ret pe_bl)) pss_nil)))
      (pss_one (ps_ret pe_bl)))))))))))), ?_⟩
    refine enter (K := K) (Kn := Kn) (sl := [sv script_918, .any, .any, .any, .any, .any, .any, .any, .any, .any]) ek ⟨⟨v_0, rfl, hv_0⟩, trivial, trivial, trivial, trivial, trivial, trivial, trivial, trivial, trivial, trivial⟩ ?_
    have q := rt_of q
    obtain ⟨r_919, h_r_919, hf⟩ := bind_some hf
    obtain ⟨tree_here_920, h_tree_here_920, hf⟩ := bind_some hf
    refine SB.seqB (fun kx_ => sb_asg (sl' := [sv script_918, sv tree_here_920, .any, .any, .any, .any, .any, .any, .any, .any]) rfl (EV.cast (ev_call (ea_cons (ev_var (i := 0) rfl) (ea_cons (ev_int 2) (ea_cons (ev_int 18) ea_nil))) h_r_919) (Option.some.inj h_tree_here_920)) (kx_ _ _ ?_))
    obtain ⟨r_921, h_r_921, hf⟩ := bind_some hf
    obtain ⟨boxes_here_922, h_boxes_here_922, hf⟩ := bind_some hf
    refine SB.seqB (fun kx_ => sb_asg (sl' := [sv script_918, sv tree_here_920, sv boxes_here_922, .any, .any, .any, .any, .any, .any, .any]) rfl (EV.cast (EN.ev (en_call (ea_cons (ev_var (i := 1) rfl) ea_nil) h_r_921)) (Option.some.inj h_boxes_here_922)) (kx_ _ _ ?_))
    obtain ⟨r_923, h_r_923, hf⟩ := bind_some hf
    obtain ⟨cell_924, h_cell_924, hf⟩ := bind_some hf
    refine SB.seqB (fun kx_ => sb_asg (sl' := [sv script_918, sv tree_here_920, sv boxes_here_922, sv cell_924, .any, .any, .any, .any, .any, .any]) rfl (EV.cast (ev_call (ea_cons (ev_var (i := 0) rfl) (ea_cons (ev_int 1) ea_nil)) h_r_923) (Option.some.inj h_cell_924)) (kx_ _ _ ?_))
    obtain ⟨r_925, h_r_925, hf⟩ := bind_some hf
    obtain ⟨i_926, h_i_926, hf⟩ := bind_some hf
    obtain ⟨box_927, h_box_927, hf⟩ := bind_some hf
    refine SB.seqB (fun kx_ => sb_asg (sl' := [sv script_918, sv tree_here_920, sv boxes_here_922, sv cell_924, sv box_927, .any, .any, .any, .any, .any]) rfl (EV.cast (ev_op (ev_var (i := 2) rfl) (ev_op (ev_var (i := 3) rfl) (ev_cb (ea_cons (ev_var (i := 2) rfl) ea_nil) rc_len) (r2_modO h_r_925)) (r2_ixL h_i_926)) (Option.some.inj h_box_927)) (kx_ _ _ ?_))
    obtain ⟨q_928, h_q_928, hf⟩ := bind_some hf
    obtain ⟨i_929, h_i_929, hf⟩ := bind_some hf
    obtain ⟨o_930, h_o_930, hf⟩ := bind_some hf
    obtain ⟨i_931, h_i_931, hf⟩ := bind_some hf
    obtain ⟨r_932, h_r_932, hf⟩ := bind_some hf
    obtain ⟨bent_here_933, h_bent_here_933, hf⟩ := bind_some hf
    refine SB.seqB (fun kx_ => sb_asg (sl' := [sv script_918, sv tree_here_920, sv boxes_here_922, sv cell_924, sv box_927, sv bent_here_933, .any, .any, .any, .any]) rfl (EV.cast (ev_call (ea_cons (ev_var (i := 4) rfl) (ea_cons (ev_op (ev_var (i := 3) rfl) (ev_cb (ea_cons (ev_var (i := 2) rfl) ea_nil) rc_len) (r2_divO h_q_928)) (ea_cons (ev_op (ev_of (ev_op (ev_var (i := 2) rfl) (ev_int 0) (r2_ixL h_i_929)) h_o_930) (ev_int 1) (r2_ixU h_i_931)) ea_nil))) h_r_932) (Option.some.inj h_bent_here_933)) (kx_ _ _ ?_))
    obtain ⟨o_934, h_o_934, hf⟩ := bind_some hf
    obtain ⟨i_935, h_i_935, hf⟩ := bind_some hf
    obtain ⟨name_936, h_name_936, hf⟩ := bind_some hf
    refine SB.seqB (fun kx_ => sb_asg (sl' := [sv script_918, sv tree_here_920, sv boxes_here_922, sv cell_924, sv box_927, sv bent_here_933, sv name_936, .any, .any, .any]) rfl (EV.cast (ev_op (ev_of (ev_var (i := 4) rfl) h_o_934) (ev_int 1) (r2_ixU h_i_935)) (Option.some.inj h_name_936)) (kx_ _ _ ?_))
    obtain ⟨o_938, h_o_938, hf⟩ := bind_some hf
    obtain ⟨i_939, h_i_939, hf⟩ := bind_some hf
    obtain ⟨e_940, h_e_940, hf⟩ := bind_some hf
    obtain ⟨name_955, hj_937, hf⟩ := bind_some hf
    refine SB.cutB (sl' := [sv script_918, sv tree_here_920, sv boxes_here_922, sv cell_924, sv box_927, sv bent_here_933, sv name_955, .any, .any, .any]) (ow1 := []) (fun km_956 => sb_if (b := (!e_940)) (et_test (ev_op (ev_op (ev_of (ev_var (i := 5) rfl) h_o_938) (ev_int 1) (r2_ixU h_i_939)) (ev_var (i := 6) rfl) (r2_neY h_e_940))) (fun hb_941 => ?_) (fun hb_941 => ?_)) ?_
    · have hj_937 := ite_t hb_941 hj_937
      obtain ⟨name_942, h_name_942, hj_937⟩ := bind_some hj_937
      refine SB.seqB (fun kx_ => sb_asg (sl' := [sv script_918, sv tree_here_920, sv boxes_here_922, sv cell_924, sv box_927, sv bent_here_933, sv name_942, .any, .any, .any]) rfl (EV.cast (ev_up ev_nn) (Option.some.inj h_name_942)) (kx_ _ _ ?_))
      obtain ⟨o_944, h_o_944, hj_937⟩ := bind_some hj_937
      obtain ⟨i_945, h_i_945, hj_937⟩ := bind_some hj_937
      obtain ⟨i_946, h_i_946, hj_937⟩ := bind_some hj_937
      obtain ⟨o_947, h_o_947, hj_937⟩ := bind_some hj_937
      obtain ⟨i_948, h_i_948, hj_937⟩ := bind_some hj_937
      obtain ⟨e_949, h_e_949, hj_937⟩ := bind_some hj_937
      refine sb_if (b := e_949) (et_test (ev_op (ev_op (ev_of (ev_var (i := 5) rfl) h_o_944) (ev_int 1) (r2_ixU h_i_945)) (ev_op (ev_of (ev_op (ev_var (i := 2) rfl) (ev_int 0) (r2_ixL h_i_946)) h_o_947) (ev_int 1) (r2_ixU h_i_948)) (r2_eqY h_e_949))) (fun hb_950 => ?_) (fun hb_950 => ?_)
      · have hj_937 := ite_t hb_950 hj_937
        obtain ⟨o_952, h_o_952, hj_937⟩ := bind_some hj_937
        obtain ⟨i_953, h_i_953, hj_937⟩ := bind_some hj_937
        obtain ⟨name_954, h_name_954, hj_937⟩ := bind_some hj_937
        refine sb_asg (sl' := [sv script_918, sv tree_here_920, sv boxes_here_922, sv cell_924, sv box_927, sv bent_here_933, sv name_954, .any, .any, .any]) rfl (EV.cast (ev_op (ev_of (ev_var (i := 5) rfl) h_o_952) (ev_int 1) (r2_ixU h_i_953)) (Option.some.inj h_name_954)) ?_
        cases hj_937
        exact km_956 _ _ (.keep (.keep (.keep (.keep (.keep (.keep (.keep (.keep (.keep (.keep .nil)))))))))) (List.Sublist.refl _)
      · have hj_937 := ite_f hb_950 hj_937
        refine sb_nx ?_
        cases hj_937
        exact km_956 _ _ (.keep (.keep (.keep (.keep (.keep (.keep (.keep (.keep (.keep (.keep .nil)))))))))) (List.Sublist.refl _)
    · have hj_937 := ite_f hb_941 hj_937
      refine sb_nx ?_
      cases hj_937
      exact km_956 _ _ (.keep (.keep (.keep (.keep (.keep (.keep (.keep (.keep (.keep (.keep .nil)))))))))) (List.Sublist.refl _)
    obtain ⟨o_957, h_o_957, hf⟩ := bind_some hf
    obtain ⟨i_958, h_i_958, hf⟩ := bind_some hf
    obtain ⟨r_959, h_r_959, hf⟩ := bind_some hf
    obtain ⟨bad_960, h_bad_960, hf⟩ := bind_some hf
    refine SB.seqB (fun kx_ => sb_asg (sl' := [sv script_918, sv tree_here_920, sv boxes_here_922, sv cell_924, sv box_927, sv bent_here_933, sv name_955, sv bad_960, .any, .any]) rfl (EV.cast (ev_call (ea_cons (ev_var (i := 1) rfl) (ea_cons (ev_op (ev_of (ev_var (i := 4) rfl) h_o_957) (ev_int 1) (r2_ixU h_i_958)) (ea_cons (ev_var (i := 5) rfl) ea_nil))) h_r_959) (Option.some.inj h_bad_960)) (kx_ _ _ ?_))
    obtain ⟨rg_961, h_rg_961, hf⟩ := bind_some hf
    obtain ⟨tot_967, h_tot_967, hf⟩ := bind_some hf
    refine SB.seqB (fun kx_974 => sb_for (β := Int) (Sx := Unit) (fun s => [sv script_918, sv tree_here_920, sv boxes_here_922, sv cell_924, sv box_927, sv bent_here_933, sv name_955, sv bad_960, .any, .any]) (fun s => []) (fun x s => [sv script_918, sv tree_here_920, sv boxes_here_922, sv cell_924, sv box_927, sv bent_here_933, sv name_955, sv bad_960, sv x, .any]) [8] (fun xs s => forC (m_law_L1 tree_here_920 name_955 bad_960) xs s = some tot_967) () (IT.m (it_rng1 (ea_cons (ev_int 2) ea_nil) h_rg_961)) h_tot_967 (.keep (.keep (.keep (.keep (.keep (.keep (.keep (.keep (.keep (.keep .nil)))))))))) (List.Sublist.refl _) (fun x s => (gt_name rfl)) ?_ ?_)
    · intro Kn1 b1 again_962 rest_ s_ hP_964 N_ hN_963
      obtain ⟨c_, hc_965, hP_964⟩ := bind_some hP_964
      have q_966 := q.base b1
      unfold m_law_L1 at hc_965
      refine SB.is (sl' := [sv script_918, sv tree_here_920, sv boxes_here_922, sv cell_924, sv box_927, sv bent_here_933, sv name_955, sv bad_960, sv again_962, .any]) (ow1 := []) rfl rfl ?_
      obtain ⟨r_969, h_r_969, hc_965⟩ := bind_some hc_965
      obtain ⟨b_971, h_b_971, hc_965⟩ := bind_some hc_965
      refine sb_if (b := b_971) (et_orO h_b_971 (et_test (ev_op (ev_call (ea_cons (ev_var (i := 1) rfl) ea_nil) h_r_969) ev_nn (r2_notN (α := (Kx (cmT T)))))) (fun _ _ h => by obtain ⟨r_970, h_r_970, h⟩ := bind_some h; have hz_ := Option.some.inj h; subst hz_; exact (et_not (et_B (ev_call (ea_cons (ev_var (i := 7) rfl) (ea_cons (ev_var (i := 6) rfl) ea_nil)) h_r_970))))) (fun hb_972 => ?_) (fun hb_972 => ?_)
      · have hc_965 := ite_t hb_972 hc_965
        cases hc_965
        replace hP_964 : some (Ctl.rt false) = some tot_967 := hP_964
        cases hP_964
        replace hf : some false = some r_ := hf
        cases hf
        exact sb_ret (ev_bool false) q_966 (List.Sublist.refl _)
      · have hc_965 := ite_f hb_972 hc_965
        refine sb_nx ?_
        cases hc_965
        exact fun σ Kn H s => hN_963 _ hP_964 σ Kn H ((s.le (.keep (.keep (.keep (.keep (.keep (.keep (.keep (.keep (.drop (.keep .nil))))))))))).sub (List.Sublist.refl _))
    · intro s_ h0
      cases h0
      refine kx_974 _ _ ?_
      refine SB.is (sl' := [sv script_918, sv tree_here_920, sv boxes_here_922, sv cell_924, sv box_927, sv bent_here_933, sv name_955, sv bad_960, .any, .any]) (ow1 := []) rfl rfl ?_
      obtain ⟨o_975, h_o_975, hf⟩ := bind_some hf
      obtain ⟨ct_976, h_ct_976, hf⟩ := bind_some hf
      obtain ⟨o_977, h_o_977, hf⟩ := bind_some hf
      obtain ⟨tot_983, h_tot_983, hf⟩ := bind_some hf
      refine SB.seqB (fun kx_988 => sb_for (β := Dy) (Sx := Unit) (fun s => [sv script_918, sv tree_here_920, sv boxes_here_922, sv cell_924, sv box_927, sv bent_here_933, sv name_955, sv bad_960, .any, .any]) (fun s => []) (fun x s => [sv script_918, sv tree_here_920, sv boxes_here_922, sv cell_924, sv box_927, sv bent_here_933, sv name_955, sv bad_960, .any, sv x]) [9] (fun xs s => forC (m_law_L2) xs s = some tot_983) () (IT.m (it_list (EN.ev (en_lst (el_cons (ev_up ev_nn) (el_cons (ev_up (ev_int 5)) (el_cons (ev_up (ev_str ("leaf" : Str))) (el_cons (ev_up (ev_tuH (xs := ([] : List Int)) el_nil)) (el_cons (ev_up (EN.ev (en_lst el_nil))) (el_cons (ev_up (ev_slTu (ev_of (ev_var (i := 1) rfl) h_o_975) eo_none (eo_some (ev_int 4)) h_ct_976)) (el_cons (ev_up (EN.ev (en_cb (ea_cons (ev_of (ev_var (i := 1) rfl) h_o_977) ea_nil) rc_listT))) (el_cons (ev_up (ev_tup (ea_cons (ev_var (i := 1) rfl) ea_nil))) el_nil)))))))))))) h_tot_983 (.keep (.keep (.keep (.keep (.keep (.keep (.keep (.keep (.keep (.keep .nil)))))))))) (List.Sublist.refl _) (fun x s => (gt_name rfl)) ?_ ?_)
      · intro Kn1 b1 thing_978 rest_ s_ hP_980 N_ hN_979
        obtain ⟨c_, hc_981, hP_980⟩ := bind_some hP_980
        have q_982 := q.base b1
        unfold m_law_L2 at hc_981
        refine SB.is (sl' := [sv script_918, sv tree_here_920, sv boxes_here_922, sv cell_924, sv box_927, sv bent_here_933, sv name_955, sv bad_960, .any, sv thing_978]) (ow1 := []) rfl rfl ?_
        obtain ⟨r_985, h_r_985, hc_981⟩ := bind_some hc_981
        refine sb_if (b := (!r_985)) (et_not (et_B (ev_call (ea_cons (ev_var (i := 9) rfl) (ea_cons (ev_up ev_nn) ea_nil)) h_r_985))) (fun hb_986 => ?_) (fun hb_986 => ?_)
        · have hc_981 := ite_t hb_986 hc_981
          cases hc_981
          replace hP_980 : some (Ctl.rt false) = some tot_983 := hP_980
          cases hP_980
          replace hf : some false = some r_ := hf
          cases hf
          exact sb_ret (ev_bool false) q_982 (List.Sublist.refl _)
        · have hc_981 := ite_f hb_986 hc_981
          refine sb_nx ?_
          cases hc_981
          exact fun σ Kn H s => hN_979 _ hP_980 σ Kn H ((s.le (.keep (.keep (.keep (.keep (.keep (.keep (.keep (.keep (.keep (.drop .nil))))))))))).sub (List.Sublist.refl _))
      · intro s_ h0
        cases h0
        refine kx_988 _ _ ?_
        refine SB.is (sl' := [sv script_918, sv tree_here_920, sv boxes_here_922, sv cell_924, sv box_927, sv bent_here_933, sv name_955, sv bad_960, .any, .any]) (ow1 := []) rfl rfl ?_
        cases hf
        exact sb_ret (ev_bool true) q (List.Sublist.refl _)
end
theorem all_mk (main : ∀ ns : List Int, ns.length ≤ 63 → m_law (Fz.mk ns) = some true) {l : PySem.W.OpenLaw} {w : World} {K : Fg} {h : Heap} {mg : Str → Option Value} {fa f_cells_at f_is_open f_put_cells f_last_row f_rows_taken f_is_piece f_are_words f_is_joint f_words_ok f_flow_ok f_is_anchor f_over_ok f_is_whole f_is_name f_is_pair f_is_span f_is_own f_is_word f_line_ok f_table_ok f_kind_ok f_name_of f_box_ok f_check_box f_check_tree f__law_at f__law_mixed f__law_draws f__law_label f__law_span f__law_own f__law_leaf f__law_within f__law_step f__law_tree f__law_boxes f__law_named f__law_bent_own f__law_bent f__law_kept f__law_refused f_law : Addr} (X : K.In h) (G : h.Ns mainGlobals mg) (hfa : mg "law" = some (.ref fa))
     {od_cells_at an_cells_at : Option Addr} {sl_cells_at : Array (Option Value)} {oc_cells_at kV_cells_at dc_cells_at pm_cells_at cd_cells_at ct_cells_at : Value} {od_is_open an_is_open : Option Addr} {sl_is_open : Array (Option Value)} {oc_is_open kV_is_open dc_is_open pm_is_open cd_is_open ct_is_open : Value} {od_put_cells an_put_cells : Option Addr} {sl_put_cells : Array (Option Value)} {oc_put_cells kV_put_cells dc_put_cells pm_put_cells cd_put_cells ct_put_cells : Value} {od_last_row an_last_row : Option Addr} {sl_last_row : Array (Option Value)} {oc_last_row kV_last_row dc_last_row pm_last_row cd_last_row ct_last_row : Value} {od_rows_taken an_rows_taken : Option Addr} {sl_rows_taken : Array (Option Value)} {oc_rows_taken kV_rows_taken dc_rows_taken pm_rows_taken cd_rows_taken ct_rows_taken : Value} {od_is_piece an_is_piece : Option Addr} {sl_is_piece : Array (Option Value)} {oc_is_piece kV_is_piece dc_is_piece pm_is_piece cd_is_piece ct_is_piece : Value} {od_are_words an_are_words : Option Addr} {sl_are_words : Array (Option Value)} {oc_are_words kV_are_words dc_are_words pm_are_words cd_are_words ct_are_words : Value} {od_is_joint an_is_joint : Option Addr} {sl_is_joint : Array (Option Value)} {oc_is_joint kV_is_joint dc_is_joint pm_is_joint cd_is_joint ct_is_joint : Value} {od_words_ok an_words_ok : Option Addr} {sl_words_ok : Array (Option Value)} {oc_words_ok kV_words_ok dc_words_ok pm_words_ok cd_words_ok ct_words_ok : Value} {od_flow_ok an_flow_ok : Option Addr} {sl_flow_ok : Array (Option Value)} {oc_flow_ok kV_flow_ok dc_flow_ok pm_flow_ok cd_flow_ok ct_flow_ok : Value} {od_is_anchor an_is_anchor : Option Addr} {sl_is_anchor : Array (Option Value)} {oc_is_anchor kV_is_anchor dc_is_anchor pm_is_anchor cd_is_anchor ct_is_anchor : Value} {od_over_ok an_over_ok : Option Addr} {sl_over_ok : Array (Option Value)} {oc_over_ok kV_over_ok dc_over_ok pm_over_ok cd_over_ok ct_over_ok : Value} {od_is_whole an_is_whole : Option Addr} {sl_is_whole : Array (Option Value)} {oc_is_whole kV_is_whole dc_is_whole pm_is_whole cd_is_whole ct_is_whole : Value} {od_is_name an_is_name : Option Addr} {sl_is_name : Array (Option Value)} {oc_is_name kV_is_name dc_is_name pm_is_name cd_is_name ct_is_name : Value} {od_is_pair an_is_pair : Option Addr} {sl_is_pair : Array (Option Value)} {oc_is_pair kV_is_pair dc_is_pair pm_is_pair cd_is_pair ct_is_pair : Value} {od_is_span an_is_span : Option Addr} {sl_is_span : Array (Option Value)} {oc_is_span kV_is_span dc_is_span pm_is_span cd_is_span ct_is_span : Value} {od_is_own an_is_own : Option Addr} {sl_is_own : Array (Option Value)} {oc_is_own kV_is_own dc_is_own pm_is_own cd_is_own ct_is_own : Value} {od_is_word an_is_word : Option Addr} {sl_is_word : Array (Option Value)} {oc_is_word kV_is_word dc_is_word pm_is_word cd_is_word ct_is_word : Value} {od_line_ok an_line_ok : Option Addr} {sl_line_ok : Array (Option Value)} {oc_line_ok kV_line_ok dc_line_ok pm_line_ok cd_line_ok ct_line_ok : Value} {od_table_ok an_table_ok : Option Addr} {sl_table_ok : Array (Option Value)} {oc_table_ok kV_table_ok dc_table_ok pm_table_ok cd_table_ok ct_table_ok : Value} {od_kind_ok an_kind_ok : Option Addr} {sl_kind_ok : Array (Option Value)} {oc_kind_ok kV_kind_ok dc_kind_ok pm_kind_ok cd_kind_ok ct_kind_ok : Value} {od_name_of an_name_of : Option Addr} {sl_name_of : Array (Option Value)} {oc_name_of kV_name_of dc_name_of pm_name_of cd_name_of ct_name_of : Value} {od_box_ok an_box_ok : Option Addr} {sl_box_ok : Array (Option Value)} {oc_box_ok kV_box_ok dc_box_ok pm_box_ok cd_box_ok ct_box_ok : Value} {od_check_box an_check_box : Option Addr} {sl_check_box : Array (Option Value)} {oc_check_box kV_check_box dc_check_box pm_check_box cd_check_box ct_check_box : Value} {od_check_tree an_check_tree : Option Addr} {sl_check_tree : Array (Option Value)} {oc_check_tree kV_check_tree dc_check_tree pm_check_tree cd_check_tree ct_check_tree : Value} {od__law_at an__law_at : Option Addr} {sl__law_at : Array (Option Value)} {oc__law_at kV__law_at dc__law_at pm__law_at cd__law_at ct__law_at : Value} {od__law_mixed an__law_mixed : Option Addr} {sl__law_mixed : Array (Option Value)} {oc__law_mixed kV__law_mixed dc__law_mixed pm__law_mixed cd__law_mixed ct__law_mixed : Value} {od__law_draws an__law_draws : Option Addr} {sl__law_draws : Array (Option Value)} {oc__law_draws kV__law_draws dc__law_draws pm__law_draws cd__law_draws ct__law_draws : Value} {od__law_label an__law_label : Option Addr} {sl__law_label : Array (Option Value)} {oc__law_label kV__law_label dc__law_label pm__law_label cd__law_label ct__law_label : Value} {od__law_span an__law_span : Option Addr} {sl__law_span : Array (Option Value)} {oc__law_span kV__law_span dc__law_span pm__law_span cd__law_span ct__law_span : Value} {od__law_own an__law_own : Option Addr} {sl__law_own : Array (Option Value)} {oc__law_own kV__law_own dc__law_own pm__law_own cd__law_own ct__law_own : Value} {od__law_leaf an__law_leaf : Option Addr} {sl__law_leaf : Array (Option Value)} {oc__law_leaf kV__law_leaf dc__law_leaf pm__law_leaf cd__law_leaf ct__law_leaf : Value} {od__law_within an__law_within : Option Addr} {sl__law_within : Array (Option Value)} {oc__law_within kV__law_within dc__law_within pm__law_within cd__law_within ct__law_within : Value} {od__law_step an__law_step : Option Addr} {sl__law_step : Array (Option Value)} {oc__law_step kV__law_step dc__law_step pm__law_step cd__law_step ct__law_step : Value} {od__law_tree an__law_tree : Option Addr} {sl__law_tree : Array (Option Value)} {oc__law_tree kV__law_tree dc__law_tree pm__law_tree cd__law_tree ct__law_tree : Value} {od__law_boxes an__law_boxes : Option Addr} {sl__law_boxes : Array (Option Value)} {oc__law_boxes kV__law_boxes dc__law_boxes pm__law_boxes cd__law_boxes ct__law_boxes : Value} {od__law_named an__law_named : Option Addr} {sl__law_named : Array (Option Value)} {oc__law_named kV__law_named dc__law_named pm__law_named cd__law_named ct__law_named : Value} {od__law_bent_own an__law_bent_own : Option Addr} {sl__law_bent_own : Array (Option Value)} {oc__law_bent_own kV__law_bent_own dc__law_bent_own pm__law_bent_own cd__law_bent_own ct__law_bent_own : Value} {od__law_bent an__law_bent : Option Addr} {sl__law_bent : Array (Option Value)} {oc__law_bent kV__law_bent dc__law_bent pm__law_bent cd__law_bent ct__law_bent : Value} {od__law_kept an__law_kept : Option Addr} {sl__law_kept : Array (Option Value)} {oc__law_kept kV__law_kept dc__law_kept pm__law_kept cd__law_kept ct__law_kept : Value} {od__law_refused an__law_refused : Option Addr} {sl__law_refused : Array (Option Value)} {oc__law_refused kV__law_refused dc__law_refused pm__law_refused cd__law_refused ct__law_refused : Value} {od_law an_law : Option Addr} {sl_law : Array (Option Value)} {oc_law kV_law dc_law pm_law cd_law ct_law : Value} {c_BadBox : Addr} {c_BoxError : Addr} {c_NoBox : Addr} {c_NoEdit : Addr} {c_NoFloor : Addr} {c_NoName : Addr} {c_NoNumber : Addr} {c_NoPages : Addr} {c_NoRead : Addr} {c_NoRow : Addr} {c_NoRows : Addr} {c_NoTree : Addr} {c_NotTurned : Addr} {c_Ring : Addr} {c_TooGreat : Addr} {c_TooWide : Addr} {nm_BadBox qn_BadBox : Str} {nn_BadBox : Addr} {bs_BadBox : List Value} {sn_BadBox : List Str} {su_BadBox : List Value} {ab_BadBox : Bool} {co_BadBox : Option Bool} {dd_BadBox : Option Addr} {m0_BadBox m1_BadBox m2_BadBox m3_BadBox m5_BadBox : Option Value} {i_BadBox : Addr} {iod_BadBox ian_BadBox : Option Addr} {isl_BadBox : Array (Option Value)} {ioc_BadBox ikV_BadBox idc_BadBox ipm_BadBox icd_BadBox ict_BadBox : Value} {tki_MOST_SIGNS : Tok} {tki_PIECE : Tok} {tki_MOST_PIECES : Tok} {tki_MOST_IN_ALL : Tok} {tki_MOST_JOINT : Tok} {tki_MOST_BY : Tok} {tki_MOST_OVER : Tok} {tki_SMALL : Tok} {tki_GREATEST : Tok} {tki_MOST_ROWS : Tok} {tki_MOST_BOXES : Tok} {tki_MOST_DEEP : Tok} {tb_ALIGNS : Addr} {tnn_ALIGNS : Nat} {tkk_ALIGNS_0 : Tok} {tkk_ALIGNS_1 : Tok} {tkk_ALIGNS_2 : Tok} {tkk_ALIGNS_3 : Tok} {tb_SIDES : Addr} {tnn_SIDES : Nat} {tkk_SIDES_0 : Tok} {tkk_SIDES_1 : Tok} {tb_LINES : Addr} {tnn_LINES : Nat} {tkk_LINES_0 : Tok} {tkk_LINES_1 : Tok} {tkk_LINES_2 : Tok} {lb_ANCHORS : Addr} {lnn_ANCHORS : Nat} {lkk_ANCHORS_0 : Tok} {lkk_ANCHORS_1 : Tok} {lkk_ANCHORS_2 : Tok} {lkk_ANCHORS_3 : Tok}
    (a_cells_at : PySem.W.nsIn K mainGlobals "cells_at" = some (some (.ref f_cells_at))) (l_cells_at : K.lookup f_cells_at = some ⟨oc_cells_at, od_cells_at, .func (PySem.W.fnOf "cells_at" "cells_at" (defArgs s_cells_at) (defBody s_cells_at) (defScope s_cells_at) .none kV_cells_at dc_cells_at pm_cells_at an_cells_at cd_cells_at ct_cells_at), sl_cells_at⟩) (c_cells_at : PySem.W.codeIn K cd_cells_at "cells_at" = true) (k_cells_at : PySem.W.keepIn K (.ref f_cells_at) = true)
    (a_is_open : PySem.W.nsIn K mainGlobals "is_open" = some (some (.ref f_is_open))) (l_is_open : K.lookup f_is_open = some ⟨oc_is_open, od_is_open, .func (PySem.W.fnOf "is_open" "is_open" (defArgs s_is_open) (defBody s_is_open) (defScope s_is_open) .none kV_is_open dc_is_open pm_is_open an_is_open cd_is_open ct_is_open), sl_is_open⟩) (c_is_open : PySem.W.codeIn K cd_is_open "is_open" = true) (k_is_open : PySem.W.keepIn K (.ref f_is_open) = true)
    (a_put_cells : PySem.W.nsIn K mainGlobals "put_cells" = some (some (.ref f_put_cells))) (l_put_cells : K.lookup f_put_cells = some ⟨oc_put_cells, od_put_cells, .func (PySem.W.fnOf "put_cells" "put_cells" (defArgs s_put_cells) (defBody s_put_cells) (defScope s_put_cells) .none kV_put_cells dc_put_cells pm_put_cells an_put_cells cd_put_cells ct_put_cells), sl_put_cells⟩) (c_put_cells : PySem.W.codeIn K cd_put_cells "put_cells" = true) (k_put_cells : PySem.W.keepIn K (.ref f_put_cells) = true)
    (a_last_row : PySem.W.nsIn K mainGlobals "last_row" = some (some (.ref f_last_row))) (l_last_row : K.lookup f_last_row = some ⟨oc_last_row, od_last_row, .func (PySem.W.fnOf "last_row" "last_row" (defArgs s_last_row) (defBody s_last_row) (defScope s_last_row) .none kV_last_row dc_last_row pm_last_row an_last_row cd_last_row ct_last_row), sl_last_row⟩) (c_last_row : PySem.W.codeIn K cd_last_row "last_row" = true) (k_last_row : PySem.W.keepIn K (.ref f_last_row) = true)
    (a_rows_taken : PySem.W.nsIn K mainGlobals "rows_taken" = some (some (.ref f_rows_taken))) (l_rows_taken : K.lookup f_rows_taken = some ⟨oc_rows_taken, od_rows_taken, .func (PySem.W.fnOf "rows_taken" "rows_taken" (defArgs s_rows_taken) (defBody s_rows_taken) (defScope s_rows_taken) .none kV_rows_taken dc_rows_taken pm_rows_taken an_rows_taken cd_rows_taken ct_rows_taken), sl_rows_taken⟩) (c_rows_taken : PySem.W.codeIn K cd_rows_taken "rows_taken" = true) (k_rows_taken : PySem.W.keepIn K (.ref f_rows_taken) = true)
    (a_is_piece : PySem.W.nsIn K mainGlobals "is_piece" = some (some (.ref f_is_piece))) (l_is_piece : K.lookup f_is_piece = some ⟨oc_is_piece, od_is_piece, .func (PySem.W.fnOf "is_piece" "is_piece" (defArgs s_is_piece) (defBody s_is_piece) (defScope s_is_piece) .none kV_is_piece dc_is_piece pm_is_piece an_is_piece cd_is_piece ct_is_piece), sl_is_piece⟩) (c_is_piece : PySem.W.codeIn K cd_is_piece "is_piece" = true) (k_is_piece : PySem.W.keepIn K (.ref f_is_piece) = true)
    (a_are_words : PySem.W.nsIn K mainGlobals "are_words" = some (some (.ref f_are_words))) (l_are_words : K.lookup f_are_words = some ⟨oc_are_words, od_are_words, .func (PySem.W.fnOf "are_words" "are_words" (defArgs s_are_words) (defBody s_are_words) (defScope s_are_words) .none kV_are_words dc_are_words pm_are_words an_are_words cd_are_words ct_are_words), sl_are_words⟩) (c_are_words : PySem.W.codeIn K cd_are_words "are_words" = true) (k_are_words : PySem.W.keepIn K (.ref f_are_words) = true)
    (a_is_joint : PySem.W.nsIn K mainGlobals "is_joint" = some (some (.ref f_is_joint))) (l_is_joint : K.lookup f_is_joint = some ⟨oc_is_joint, od_is_joint, .func (PySem.W.fnOf "is_joint" "is_joint" (defArgs s_is_joint) (defBody s_is_joint) (defScope s_is_joint) .none kV_is_joint dc_is_joint pm_is_joint an_is_joint cd_is_joint ct_is_joint), sl_is_joint⟩) (c_is_joint : PySem.W.codeIn K cd_is_joint "is_joint" = true) (k_is_joint : PySem.W.keepIn K (.ref f_is_joint) = true)
    (a_words_ok : PySem.W.nsIn K mainGlobals "words_ok" = some (some (.ref f_words_ok))) (l_words_ok : K.lookup f_words_ok = some ⟨oc_words_ok, od_words_ok, .func (PySem.W.fnOf "words_ok" "words_ok" (defArgs s_words_ok) (defBody s_words_ok) (defScope s_words_ok) .none kV_words_ok dc_words_ok pm_words_ok an_words_ok cd_words_ok ct_words_ok), sl_words_ok⟩) (c_words_ok : PySem.W.codeIn K cd_words_ok "words_ok" = true) (k_words_ok : PySem.W.keepIn K (.ref f_words_ok) = true)
    (a_flow_ok : PySem.W.nsIn K mainGlobals "flow_ok" = some (some (.ref f_flow_ok))) (l_flow_ok : K.lookup f_flow_ok = some ⟨oc_flow_ok, od_flow_ok, .func (PySem.W.fnOf "flow_ok" "flow_ok" (defArgs s_flow_ok) (defBody s_flow_ok) (defScope s_flow_ok) .none kV_flow_ok dc_flow_ok pm_flow_ok an_flow_ok cd_flow_ok ct_flow_ok), sl_flow_ok⟩) (c_flow_ok : PySem.W.codeIn K cd_flow_ok "flow_ok" = true) (k_flow_ok : PySem.W.keepIn K (.ref f_flow_ok) = true)
    (a_is_anchor : PySem.W.nsIn K mainGlobals "is_anchor" = some (some (.ref f_is_anchor))) (l_is_anchor : K.lookup f_is_anchor = some ⟨oc_is_anchor, od_is_anchor, .func (PySem.W.fnOf "is_anchor" "is_anchor" (defArgs s_is_anchor) (defBody s_is_anchor) (defScope s_is_anchor) .none kV_is_anchor dc_is_anchor pm_is_anchor an_is_anchor cd_is_anchor ct_is_anchor), sl_is_anchor⟩) (c_is_anchor : PySem.W.codeIn K cd_is_anchor "is_anchor" = true) (k_is_anchor : PySem.W.keepIn K (.ref f_is_anchor) = true)
    (a_over_ok : PySem.W.nsIn K mainGlobals "over_ok" = some (some (.ref f_over_ok))) (l_over_ok : K.lookup f_over_ok = some ⟨oc_over_ok, od_over_ok, .func (PySem.W.fnOf "over_ok" "over_ok" (defArgs s_over_ok) (defBody s_over_ok) (defScope s_over_ok) .none kV_over_ok dc_over_ok pm_over_ok an_over_ok cd_over_ok ct_over_ok), sl_over_ok⟩) (c_over_ok : PySem.W.codeIn K cd_over_ok "over_ok" = true) (k_over_ok : PySem.W.keepIn K (.ref f_over_ok) = true)
    (a_is_whole : PySem.W.nsIn K mainGlobals "is_whole" = some (some (.ref f_is_whole))) (l_is_whole : K.lookup f_is_whole = some ⟨oc_is_whole, od_is_whole, .func (PySem.W.fnOf "is_whole" "is_whole" (defArgs s_is_whole) (defBody s_is_whole) (defScope s_is_whole) .none kV_is_whole dc_is_whole pm_is_whole an_is_whole cd_is_whole ct_is_whole), sl_is_whole⟩) (c_is_whole : PySem.W.codeIn K cd_is_whole "is_whole" = true) (k_is_whole : PySem.W.keepIn K (.ref f_is_whole) = true)
    (a_is_name : PySem.W.nsIn K mainGlobals "is_name" = some (some (.ref f_is_name))) (l_is_name : K.lookup f_is_name = some ⟨oc_is_name, od_is_name, .func (PySem.W.fnOf "is_name" "is_name" (defArgs s_is_name) (defBody s_is_name) (defScope s_is_name) .none kV_is_name dc_is_name pm_is_name an_is_name cd_is_name ct_is_name), sl_is_name⟩) (c_is_name : PySem.W.codeIn K cd_is_name "is_name" = true) (k_is_name : PySem.W.keepIn K (.ref f_is_name) = true)
    (a_is_pair : PySem.W.nsIn K mainGlobals "is_pair" = some (some (.ref f_is_pair))) (l_is_pair : K.lookup f_is_pair = some ⟨oc_is_pair, od_is_pair, .func (PySem.W.fnOf "is_pair" "is_pair" (defArgs s_is_pair) (defBody s_is_pair) (defScope s_is_pair) .none kV_is_pair dc_is_pair pm_is_pair an_is_pair cd_is_pair ct_is_pair), sl_is_pair⟩) (c_is_pair : PySem.W.codeIn K cd_is_pair "is_pair" = true) (k_is_pair : PySem.W.keepIn K (.ref f_is_pair) = true)
    (a_is_span : PySem.W.nsIn K mainGlobals "is_span" = some (some (.ref f_is_span))) (l_is_span : K.lookup f_is_span = some ⟨oc_is_span, od_is_span, .func (PySem.W.fnOf "is_span" "is_span" (defArgs s_is_span) (defBody s_is_span) (defScope s_is_span) .none kV_is_span dc_is_span pm_is_span an_is_span cd_is_span ct_is_span), sl_is_span⟩) (c_is_span : PySem.W.codeIn K cd_is_span "is_span" = true) (k_is_span : PySem.W.keepIn K (.ref f_is_span) = true)
    (a_is_own : PySem.W.nsIn K mainGlobals "is_own" = some (some (.ref f_is_own))) (l_is_own : K.lookup f_is_own = some ⟨oc_is_own, od_is_own, .func (PySem.W.fnOf "is_own" "is_own" (defArgs s_is_own) (defBody s_is_own) (defScope s_is_own) .none kV_is_own dc_is_own pm_is_own an_is_own cd_is_own ct_is_own), sl_is_own⟩) (c_is_own : PySem.W.codeIn K cd_is_own "is_own" = true) (k_is_own : PySem.W.keepIn K (.ref f_is_own) = true)
    (a_is_word : PySem.W.nsIn K mainGlobals "is_word" = some (some (.ref f_is_word))) (l_is_word : K.lookup f_is_word = some ⟨oc_is_word, od_is_word, .func (PySem.W.fnOf "is_word" "is_word" (defArgs s_is_word) (defBody s_is_word) (defScope s_is_word) .none kV_is_word dc_is_word pm_is_word an_is_word cd_is_word ct_is_word), sl_is_word⟩) (c_is_word : PySem.W.codeIn K cd_is_word "is_word" = true) (k_is_word : PySem.W.keepIn K (.ref f_is_word) = true)
    (a_line_ok : PySem.W.nsIn K mainGlobals "line_ok" = some (some (.ref f_line_ok))) (l_line_ok : K.lookup f_line_ok = some ⟨oc_line_ok, od_line_ok, .func (PySem.W.fnOf "line_ok" "line_ok" (defArgs s_line_ok) (defBody s_line_ok) (defScope s_line_ok) .none kV_line_ok dc_line_ok pm_line_ok an_line_ok cd_line_ok ct_line_ok), sl_line_ok⟩) (c_line_ok : PySem.W.codeIn K cd_line_ok "line_ok" = true) (k_line_ok : PySem.W.keepIn K (.ref f_line_ok) = true)
    (a_table_ok : PySem.W.nsIn K mainGlobals "table_ok" = some (some (.ref f_table_ok))) (l_table_ok : K.lookup f_table_ok = some ⟨oc_table_ok, od_table_ok, .func (PySem.W.fnOf "table_ok" "table_ok" (defArgs s_table_ok) (defBody s_table_ok) (defScope s_table_ok) .none kV_table_ok dc_table_ok pm_table_ok an_table_ok cd_table_ok ct_table_ok), sl_table_ok⟩) (c_table_ok : PySem.W.codeIn K cd_table_ok "table_ok" = true) (k_table_ok : PySem.W.keepIn K (.ref f_table_ok) = true)
    (a_kind_ok : PySem.W.nsIn K mainGlobals "kind_ok" = some (some (.ref f_kind_ok))) (l_kind_ok : K.lookup f_kind_ok = some ⟨oc_kind_ok, od_kind_ok, .func (PySem.W.fnOf "kind_ok" "kind_ok" (defArgs s_kind_ok) (defBody s_kind_ok) (defScope s_kind_ok) .none kV_kind_ok dc_kind_ok pm_kind_ok an_kind_ok cd_kind_ok ct_kind_ok), sl_kind_ok⟩) (c_kind_ok : PySem.W.codeIn K cd_kind_ok "kind_ok" = true) (k_kind_ok : PySem.W.keepIn K (.ref f_kind_ok) = true)
    (a_name_of : PySem.W.nsIn K mainGlobals "name_of" = some (some (.ref f_name_of))) (l_name_of : K.lookup f_name_of = some ⟨oc_name_of, od_name_of, .func (PySem.W.fnOf "name_of" "name_of" (defArgs s_name_of) (defBody s_name_of) (defScope s_name_of) .none kV_name_of dc_name_of pm_name_of an_name_of cd_name_of ct_name_of), sl_name_of⟩) (c_name_of : PySem.W.codeIn K cd_name_of "name_of" = true) (k_name_of : PySem.W.keepIn K (.ref f_name_of) = true)
    (a_box_ok : PySem.W.nsIn K mainGlobals "box_ok" = some (some (.ref f_box_ok))) (l_box_ok : K.lookup f_box_ok = some ⟨oc_box_ok, od_box_ok, .func (PySem.W.fnOf "box_ok" "box_ok" (defArgs s_box_ok) (defBody s_box_ok) (defScope s_box_ok) .none kV_box_ok dc_box_ok pm_box_ok an_box_ok cd_box_ok ct_box_ok), sl_box_ok⟩) (c_box_ok : PySem.W.codeIn K cd_box_ok "box_ok" = true) (k_box_ok : PySem.W.keepIn K (.ref f_box_ok) = true)
    (a_check_box : PySem.W.nsIn K mainGlobals "check_box" = some (some (.ref f_check_box))) (l_check_box : K.lookup f_check_box = some ⟨oc_check_box, od_check_box, .func (PySem.W.fnOf "check_box" "check_box" (defArgs s_check_box) (defBody s_check_box) (defScope s_check_box) .none kV_check_box dc_check_box pm_check_box an_check_box cd_check_box ct_check_box), sl_check_box⟩) (c_check_box : PySem.W.codeIn K cd_check_box "check_box" = true) (k_check_box : PySem.W.keepIn K (.ref f_check_box) = true)
    (a_check_tree : PySem.W.nsIn K mainGlobals "check_tree" = some (some (.ref f_check_tree))) (l_check_tree : K.lookup f_check_tree = some ⟨oc_check_tree, od_check_tree, .func (PySem.W.fnOf "check_tree" "check_tree" (defArgs s_check_tree) (defBody s_check_tree) (defScope s_check_tree) .none kV_check_tree dc_check_tree pm_check_tree an_check_tree cd_check_tree ct_check_tree), sl_check_tree⟩) (c_check_tree : PySem.W.codeIn K cd_check_tree "check_tree" = true) (k_check_tree : PySem.W.keepIn K (.ref f_check_tree) = true)
    (a__law_at : PySem.W.nsIn K mainGlobals "_law_at" = some (some (.ref f__law_at))) (l__law_at : K.lookup f__law_at = some ⟨oc__law_at, od__law_at, .func (PySem.W.fnOf "_law_at" "_law_at" (defArgs s__law_at) (defBody s__law_at) (defScope s__law_at) .none kV__law_at dc__law_at pm__law_at an__law_at cd__law_at ct__law_at), sl__law_at⟩) (c__law_at : PySem.W.codeIn K cd__law_at "_law_at" = true) (k__law_at : PySem.W.keepIn K (.ref f__law_at) = true)
    (a__law_mixed : PySem.W.nsIn K mainGlobals "_law_mixed" = some (some (.ref f__law_mixed))) (l__law_mixed : K.lookup f__law_mixed = some ⟨oc__law_mixed, od__law_mixed, .func (PySem.W.fnOf "_law_mixed" "_law_mixed" (defArgs s__law_mixed) (defBody s__law_mixed) (defScope s__law_mixed) .none kV__law_mixed dc__law_mixed pm__law_mixed an__law_mixed cd__law_mixed ct__law_mixed), sl__law_mixed⟩) (c__law_mixed : PySem.W.codeIn K cd__law_mixed "_law_mixed" = true) (k__law_mixed : PySem.W.keepIn K (.ref f__law_mixed) = true)
    (a__law_draws : PySem.W.nsIn K mainGlobals "_law_draws" = some (some (.ref f__law_draws))) (l__law_draws : K.lookup f__law_draws = some ⟨oc__law_draws, od__law_draws, .func (PySem.W.fnOf "_law_draws" "_law_draws" (defArgs s__law_draws) (defBody s__law_draws) (defScope s__law_draws) .none kV__law_draws dc__law_draws pm__law_draws an__law_draws cd__law_draws ct__law_draws), sl__law_draws⟩) (c__law_draws : PySem.W.codeIn K cd__law_draws "_law_draws" = true) (k__law_draws : PySem.W.keepIn K (.ref f__law_draws) = true)
    (a__law_label : PySem.W.nsIn K mainGlobals "_law_label" = some (some (.ref f__law_label))) (l__law_label : K.lookup f__law_label = some ⟨oc__law_label, od__law_label, .func (PySem.W.fnOf "_law_label" "_law_label" (defArgs s__law_label) (defBody s__law_label) (defScope s__law_label) .none kV__law_label dc__law_label pm__law_label an__law_label cd__law_label ct__law_label), sl__law_label⟩) (c__law_label : PySem.W.codeIn K cd__law_label "_law_label" = true) (k__law_label : PySem.W.keepIn K (.ref f__law_label) = true)
    (a__law_span : PySem.W.nsIn K mainGlobals "_law_span" = some (some (.ref f__law_span))) (l__law_span : K.lookup f__law_span = some ⟨oc__law_span, od__law_span, .func (PySem.W.fnOf "_law_span" "_law_span" (defArgs s__law_span) (defBody s__law_span) (defScope s__law_span) .none kV__law_span dc__law_span pm__law_span an__law_span cd__law_span ct__law_span), sl__law_span⟩) (c__law_span : PySem.W.codeIn K cd__law_span "_law_span" = true) (k__law_span : PySem.W.keepIn K (.ref f__law_span) = true)
    (a__law_own : PySem.W.nsIn K mainGlobals "_law_own" = some (some (.ref f__law_own))) (l__law_own : K.lookup f__law_own = some ⟨oc__law_own, od__law_own, .func (PySem.W.fnOf "_law_own" "_law_own" (defArgs s__law_own) (defBody s__law_own) (defScope s__law_own) .none kV__law_own dc__law_own pm__law_own an__law_own cd__law_own ct__law_own), sl__law_own⟩) (c__law_own : PySem.W.codeIn K cd__law_own "_law_own" = true) (k__law_own : PySem.W.keepIn K (.ref f__law_own) = true)
    (a__law_leaf : PySem.W.nsIn K mainGlobals "_law_leaf" = some (some (.ref f__law_leaf))) (l__law_leaf : K.lookup f__law_leaf = some ⟨oc__law_leaf, od__law_leaf, .func (PySem.W.fnOf "_law_leaf" "_law_leaf" (defArgs s__law_leaf) (defBody s__law_leaf) (defScope s__law_leaf) .none kV__law_leaf dc__law_leaf pm__law_leaf an__law_leaf cd__law_leaf ct__law_leaf), sl__law_leaf⟩) (c__law_leaf : PySem.W.codeIn K cd__law_leaf "_law_leaf" = true) (k__law_leaf : PySem.W.keepIn K (.ref f__law_leaf) = true)
    (a__law_within : PySem.W.nsIn K mainGlobals "_law_within" = some (some (.ref f__law_within))) (l__law_within : K.lookup f__law_within = some ⟨oc__law_within, od__law_within, .func (PySem.W.fnOf "_law_within" "_law_within" (defArgs s__law_within) (defBody s__law_within) (defScope s__law_within) .none kV__law_within dc__law_within pm__law_within an__law_within cd__law_within ct__law_within), sl__law_within⟩) (c__law_within : PySem.W.codeIn K cd__law_within "_law_within" = true) (k__law_within : PySem.W.keepIn K (.ref f__law_within) = true)
    (a__law_step : PySem.W.nsIn K mainGlobals "_law_step" = some (some (.ref f__law_step))) (l__law_step : K.lookup f__law_step = some ⟨oc__law_step, od__law_step, .func (PySem.W.fnOf "_law_step" "_law_step" (defArgs s__law_step) (defBody s__law_step) (defScope s__law_step) .none kV__law_step dc__law_step pm__law_step an__law_step cd__law_step ct__law_step), sl__law_step⟩) (c__law_step : PySem.W.codeIn K cd__law_step "_law_step" = true) (k__law_step : PySem.W.keepIn K (.ref f__law_step) = true)
    (a__law_tree : PySem.W.nsIn K mainGlobals "_law_tree" = some (some (.ref f__law_tree))) (l__law_tree : K.lookup f__law_tree = some ⟨oc__law_tree, od__law_tree, .func (PySem.W.fnOf "_law_tree" "_law_tree" (defArgs s__law_tree) (defBody s__law_tree) (defScope s__law_tree) .none kV__law_tree dc__law_tree pm__law_tree an__law_tree cd__law_tree ct__law_tree), sl__law_tree⟩) (c__law_tree : PySem.W.codeIn K cd__law_tree "_law_tree" = true) (k__law_tree : PySem.W.keepIn K (.ref f__law_tree) = true)
    (a__law_boxes : PySem.W.nsIn K mainGlobals "_law_boxes" = some (some (.ref f__law_boxes))) (l__law_boxes : K.lookup f__law_boxes = some ⟨oc__law_boxes, od__law_boxes, .func (PySem.W.fnOf "_law_boxes" "_law_boxes" (defArgs s__law_boxes) (defBody s__law_boxes) (defScope s__law_boxes) .none kV__law_boxes dc__law_boxes pm__law_boxes an__law_boxes cd__law_boxes ct__law_boxes), sl__law_boxes⟩) (c__law_boxes : PySem.W.codeIn K cd__law_boxes "_law_boxes" = true) (k__law_boxes : PySem.W.keepIn K (.ref f__law_boxes) = true)
    (a__law_named : PySem.W.nsIn K mainGlobals "_law_named" = some (some (.ref f__law_named))) (l__law_named : K.lookup f__law_named = some ⟨oc__law_named, od__law_named, .func (PySem.W.fnOf "_law_named" "_law_named" (defArgs s__law_named) (defBody s__law_named) (defScope s__law_named) .none kV__law_named dc__law_named pm__law_named an__law_named cd__law_named ct__law_named), sl__law_named⟩) (c__law_named : PySem.W.codeIn K cd__law_named "_law_named" = true) (k__law_named : PySem.W.keepIn K (.ref f__law_named) = true)
    (a__law_bent_own : PySem.W.nsIn K mainGlobals "_law_bent_own" = some (some (.ref f__law_bent_own))) (l__law_bent_own : K.lookup f__law_bent_own = some ⟨oc__law_bent_own, od__law_bent_own, .func (PySem.W.fnOf "_law_bent_own" "_law_bent_own" (defArgs s__law_bent_own) (defBody s__law_bent_own) (defScope s__law_bent_own) .none kV__law_bent_own dc__law_bent_own pm__law_bent_own an__law_bent_own cd__law_bent_own ct__law_bent_own), sl__law_bent_own⟩) (c__law_bent_own : PySem.W.codeIn K cd__law_bent_own "_law_bent_own" = true) (k__law_bent_own : PySem.W.keepIn K (.ref f__law_bent_own) = true)
    (a__law_bent : PySem.W.nsIn K mainGlobals "_law_bent" = some (some (.ref f__law_bent))) (l__law_bent : K.lookup f__law_bent = some ⟨oc__law_bent, od__law_bent, .func (PySem.W.fnOf "_law_bent" "_law_bent" (defArgs s__law_bent) (defBody s__law_bent) (defScope s__law_bent) .none kV__law_bent dc__law_bent pm__law_bent an__law_bent cd__law_bent ct__law_bent), sl__law_bent⟩) (c__law_bent : PySem.W.codeIn K cd__law_bent "_law_bent" = true) (k__law_bent : PySem.W.keepIn K (.ref f__law_bent) = true)
    (a__law_kept : PySem.W.nsIn K mainGlobals "_law_kept" = some (some (.ref f__law_kept))) (l__law_kept : K.lookup f__law_kept = some ⟨oc__law_kept, od__law_kept, .func (PySem.W.fnOf "_law_kept" "_law_kept" (defArgs s__law_kept) (defBody s__law_kept) (defScope s__law_kept) .none kV__law_kept dc__law_kept pm__law_kept an__law_kept cd__law_kept ct__law_kept), sl__law_kept⟩) (c__law_kept : PySem.W.codeIn K cd__law_kept "_law_kept" = true) (k__law_kept : PySem.W.keepIn K (.ref f__law_kept) = true)
    (a__law_refused : PySem.W.nsIn K mainGlobals "_law_refused" = some (some (.ref f__law_refused))) (l__law_refused : K.lookup f__law_refused = some ⟨oc__law_refused, od__law_refused, .func (PySem.W.fnOf "_law_refused" "_law_refused" (defArgs s__law_refused) (defBody s__law_refused) (defScope s__law_refused) .none kV__law_refused dc__law_refused pm__law_refused an__law_refused cd__law_refused ct__law_refused), sl__law_refused⟩) (c__law_refused : PySem.W.codeIn K cd__law_refused "_law_refused" = true) (k__law_refused : PySem.W.keepIn K (.ref f__law_refused) = true)
    (a_law : PySem.W.nsIn K mainGlobals "law" = some (some (.ref f_law))) (l_law : K.lookup f_law = some ⟨oc_law, od_law, .func (PySem.W.fnOf "law" "law" (defArgs s_law) (defBody s_law) (defScope s_law) .none kV_law dc_law pm_law an_law cd_law ct_law), sl_law⟩) (c_law : PySem.W.codeIn K cd_law "law" = true) (k_law : PySem.W.keepIn K (.ref f_law) = true)
    (aC_BadBox : PySem.W.nsIn K mainGlobals "BadBox" = some (some (.ref c_BadBox)))
    (aC_BoxError : PySem.W.nsIn K mainGlobals "BoxError" = some (some (.ref c_BoxError)))
    (aC_NoBox : PySem.W.nsIn K mainGlobals "NoBox" = some (some (.ref c_NoBox)))
    (aC_NoEdit : PySem.W.nsIn K mainGlobals "NoEdit" = some (some (.ref c_NoEdit)))
    (aC_NoFloor : PySem.W.nsIn K mainGlobals "NoFloor" = some (some (.ref c_NoFloor)))
    (aC_NoName : PySem.W.nsIn K mainGlobals "NoName" = some (some (.ref c_NoName)))
    (aC_NoNumber : PySem.W.nsIn K mainGlobals "NoNumber" = some (some (.ref c_NoNumber)))
    (aC_NoPages : PySem.W.nsIn K mainGlobals "NoPages" = some (some (.ref c_NoPages)))
    (aC_NoRead : PySem.W.nsIn K mainGlobals "NoRead" = some (some (.ref c_NoRead)))
    (aC_NoRow : PySem.W.nsIn K mainGlobals "NoRow" = some (some (.ref c_NoRow)))
    (aC_NoRows : PySem.W.nsIn K mainGlobals "NoRows" = some (some (.ref c_NoRows)))
    (aC_NoTree : PySem.W.nsIn K mainGlobals "NoTree" = some (some (.ref c_NoTree)))
    (aC_NotTurned : PySem.W.nsIn K mainGlobals "NotTurned" = some (some (.ref c_NotTurned)))
    (aC_Ring : PySem.W.nsIn K mainGlobals "Ring" = some (some (.ref c_Ring)))
    (aC_TooGreat : PySem.W.nsIn K mainGlobals "TooGreat" = some (some (.ref c_TooGreat)))
    (aC_TooWide : PySem.W.nsIn K mainGlobals "TooWide" = some (some (.ref c_TooWide)))
    (xl_BadBox : K.lookup c_BadBox = some (excClassObj nm_BadBox qn_BadBox c_BadBox nn_BadBox bs_BadBox [.ref c_BoxError, .type "ValueError", .type "Exception", .type "BaseException", .type "object"] true sn_BadBox su_BadBox ab_BadBox co_BadBox dd_BadBox m0_BadBox m1_BadBox m2_BadBox m3_BadBox m5_BadBox "ValueError.__new__"))
    (fi_BadBox_init : PySem.W.findIn K (.ref c_BadBox) "__init__" = some (some (.ref i_BadBox)))
    (il_BadBox : K.lookup i_BadBox = some ⟨ioc_BadBox, iod_BadBox, .func (PySem.W.fnOf "__init__" "BadBox.__init__" (defArgs (inClass (topS 8) 0)) (defBody (inClass (topS 8) 0)) (defScope (inClass (topS 8) 0)) .none ikV_BadBox idc_BadBox ipm_BadBox ian_BadBox icd_BadBox ict_BadBox), isl_BadBox⟩)
    (ic_BadBox : PySem.W.codeIn K icd_BadBox "BadBox.__init__" = true)
    (ik_BadBox : PySem.W.keepIn K (.ref i_BadBox) = true)
    (it_BadBox : PySem.W.typeIn K (.ref i_BadBox) = some (.type "function"))
    (fi_BadBox_name : PySem.W.findIn K (.ref c_BadBox) "name" = some none)
    (fi_BadBox_setattr : PySem.W.findIn K (.ref c_BadBox) "__setattr__" = some (some (.builtin "object.__setattr__")))
    (su_BadBox_BaseException : PySem.W.subIn K (.ref c_BadBox) (.type "BaseException") = some true)
    (ty_BadBox : PySem.W.typeIn K (.ref c_BadBox) = some (.type "type"))
    (kc_BadBox : PySem.W.keepIn K (.ref c_BadBox) = true)
    (fi_BadBox_getattribute : PySem.W.findIn K (.ref c_BadBox) "__getattribute__" = some (some (.builtin "BaseException.__getattribute__")))
    (fi_BadBox_getattr : PySem.W.findIn K (.ref c_BadBox) "__getattr__" = some none)
    (hd_BadBox : PySem.W.hasDictIn K c_BadBox = true)
    (is_BadBox : PySem.W.isClsIn K c_BadBox = true)
    (fi_BadBox_class : PySem.W.findIn K (.ref c_BadBox) "__class__" = some (some (.builtin "object.__class__")))
    (spc : PySem.W.specialIn K (.builtin "object.__class__") "__get__" = some (some (.builtin "getset_descriptor.__get__")))
    (tkc : PySem.W.takesIn K (.builtin "object.__class__") = some true)
    (mro_BadBox : PySem.W.mroIn K c_BadBox (.type "object") = some true)
    (su_BadBox_BadBox : PySem.W.subIn K (.ref c_BadBox) (.ref c_BadBox) = some true)
    (su_BadBox_NoBox : PySem.W.subIn K (.ref c_BadBox) (.ref c_NoBox) = some false)
    (is_NoBox : PySem.W.isClsIn K c_NoBox = true)
    (ty_NoBox : PySem.W.typeIn K (.ref c_NoBox) = some (.type "type"))
    (su_BadBox_NoEdit : PySem.W.subIn K (.ref c_BadBox) (.ref c_NoEdit) = some false)
    (is_NoEdit : PySem.W.isClsIn K c_NoEdit = true)
    (ty_NoEdit : PySem.W.typeIn K (.ref c_NoEdit) = some (.type "type"))
    (su_BadBox_NoFloor : PySem.W.subIn K (.ref c_BadBox) (.ref c_NoFloor) = some false)
    (is_NoFloor : PySem.W.isClsIn K c_NoFloor = true)
    (ty_NoFloor : PySem.W.typeIn K (.ref c_NoFloor) = some (.type "type"))
    (su_BadBox_NoName : PySem.W.subIn K (.ref c_BadBox) (.ref c_NoName) = some false)
    (is_NoName : PySem.W.isClsIn K c_NoName = true)
    (ty_NoName : PySem.W.typeIn K (.ref c_NoName) = some (.type "type"))
    (su_BadBox_NoNumber : PySem.W.subIn K (.ref c_BadBox) (.ref c_NoNumber) = some false)
    (is_NoNumber : PySem.W.isClsIn K c_NoNumber = true)
    (ty_NoNumber : PySem.W.typeIn K (.ref c_NoNumber) = some (.type "type"))
    (su_BadBox_NoPages : PySem.W.subIn K (.ref c_BadBox) (.ref c_NoPages) = some false)
    (is_NoPages : PySem.W.isClsIn K c_NoPages = true)
    (ty_NoPages : PySem.W.typeIn K (.ref c_NoPages) = some (.type "type"))
    (su_BadBox_NoRead : PySem.W.subIn K (.ref c_BadBox) (.ref c_NoRead) = some false)
    (is_NoRead : PySem.W.isClsIn K c_NoRead = true)
    (ty_NoRead : PySem.W.typeIn K (.ref c_NoRead) = some (.type "type"))
    (su_BadBox_NoRow : PySem.W.subIn K (.ref c_BadBox) (.ref c_NoRow) = some false)
    (is_NoRow : PySem.W.isClsIn K c_NoRow = true)
    (ty_NoRow : PySem.W.typeIn K (.ref c_NoRow) = some (.type "type"))
    (su_BadBox_NoRows : PySem.W.subIn K (.ref c_BadBox) (.ref c_NoRows) = some false)
    (is_NoRows : PySem.W.isClsIn K c_NoRows = true)
    (ty_NoRows : PySem.W.typeIn K (.ref c_NoRows) = some (.type "type"))
    (su_BadBox_NoTree : PySem.W.subIn K (.ref c_BadBox) (.ref c_NoTree) = some false)
    (is_NoTree : PySem.W.isClsIn K c_NoTree = true)
    (ty_NoTree : PySem.W.typeIn K (.ref c_NoTree) = some (.type "type"))
    (su_BadBox_NotTurned : PySem.W.subIn K (.ref c_BadBox) (.ref c_NotTurned) = some false)
    (is_NotTurned : PySem.W.isClsIn K c_NotTurned = true)
    (ty_NotTurned : PySem.W.typeIn K (.ref c_NotTurned) = some (.type "type"))
    (su_BadBox_Ring : PySem.W.subIn K (.ref c_BadBox) (.ref c_Ring) = some false)
    (is_Ring : PySem.W.isClsIn K c_Ring = true)
    (ty_Ring : PySem.W.typeIn K (.ref c_Ring) = some (.type "type"))
    (su_BadBox_TooGreat : PySem.W.subIn K (.ref c_BadBox) (.ref c_TooGreat) = some false)
    (is_TooGreat : PySem.W.isClsIn K c_TooGreat = true)
    (ty_TooGreat : PySem.W.typeIn K (.ref c_TooGreat) = some (.type "type"))
    (su_BadBox_TooWide : PySem.W.subIn K (.ref c_BadBox) (.ref c_TooWide) = some false)
    (is_TooWide : PySem.W.isClsIn K c_TooWide = true)
    (ty_TooWide : PySem.W.typeIn K (.ref c_TooWide) = some (.type "type"))
    (su_BadBox_ValueError : PySem.W.subIn K (.ref c_BadBox) (.type "ValueError") = some true)
    (sg_BoxError : PySem.W.specialIn K (.ref c_BoxError) "__getattribute__" = some (some (.builtin "type.__getattribute__")))
    (rd_BoxError : PySem.W.readsIn K c_BoxError (.type "type") = true)
    (fc_BoxError : PySem.W.findCls K (.ref c_BoxError) (.type "type") "__init__" = some (.val (.builtin "ValueError.__init__")))
    (su_BoxError_BaseException : PySem.W.subIn K (.ref c_BoxError) (.type "BaseException") = some true)
    (is_BoxError : PySem.W.isClsIn K c_BoxError = true)
    (ty_BoxError : PySem.W.typeIn K (.ref c_BoxError) = some (.type "type"))
    (su_BadBox_BoxError : PySem.W.subIn K (.ref c_BadBox) (.ref c_BoxError) = some true)
    (z_ValueError : PySem.W.nsIn K mainGlobals "ValueError" = some none)
    (z_all : PySem.W.nsIn K mainGlobals "all" = some none)
    (z_any : PySem.W.nsIn K mainGlobals "any" = some none)
    (z_bool : PySem.W.nsIn K mainGlobals "bool" = some none)
    (z_int : PySem.W.nsIn K mainGlobals "int" = some none)
    (z_isinstance : PySem.W.nsIn K mainGlobals "isinstance" = some none)
    (z_len : PySem.W.nsIn K mainGlobals "len" = some none)
    (z_list : PySem.W.nsIn K mainGlobals "list" = some none)
    (z_max : PySem.W.nsIn K mainGlobals "max" = some none)
    (z_range : PySem.W.nsIn K mainGlobals "range" = some none)
    (z_str : PySem.W.nsIn K mainGlobals "str" = some none)
    (z_tuple : PySem.W.nsIn K mainGlobals "tuple" = some none)
    (z_zip : PySem.W.nsIn K mainGlobals "zip" = some none)
    (ki_MOST_SIGNS : PySem.W.nsIn K mainGlobals "MOST_SIGNS" = some (some (.int 12 tki_MOST_SIGNS)))
    (ki_PIECE : PySem.W.nsIn K mainGlobals "PIECE" = some (some (.str "!\"#$&'()*+,-./0123456789:;<=>?\u0040ABCDEFGHIJKLMNOPQRSTUVWXYZ[\\]^_`abcdefghijklmnopqrstuvwxyz{}~" tki_PIECE)))
    (ki_MOST_PIECES : PySem.W.nsIn K mainGlobals "MOST_PIECES" = some (some (.int 6 tki_MOST_PIECES)))
    (ki_MOST_IN_ALL : PySem.W.nsIn K mainGlobals "MOST_IN_ALL" = some (some (.int 60 tki_MOST_IN_ALL)))
    (ki_MOST_JOINT : PySem.W.nsIn K mainGlobals "MOST_JOINT" = some (some (.int 999 tki_MOST_JOINT)))
    (ki_MOST_BY : PySem.W.nsIn K mainGlobals "MOST_BY" = some (some (.int 1000000 tki_MOST_BY)))
    (ki_MOST_OVER : PySem.W.nsIn K mainGlobals "MOST_OVER" = some (some (.int 12 tki_MOST_OVER)))
    (ki_SMALL : PySem.W.nsIn K mainGlobals "SMALL" = some (some (.str "abcdefghijklmnopqrstuvwxyz" tki_SMALL)))
    (ki_GREATEST : PySem.W.nsIn K mainGlobals "GREATEST" = some (some (.int 1000000 tki_GREATEST)))
    (ki_MOST_ROWS : PySem.W.nsIn K mainGlobals "MOST_ROWS" = some (some (.int 60 tki_MOST_ROWS)))
    (ki_MOST_BOXES : PySem.W.nsIn K mainGlobals "MOST_BOXES" = some (some (.int 60 tki_MOST_BOXES)))
    (ki_MOST_DEEP : PySem.W.nsIn K mainGlobals "MOST_DEEP" = some (some (.int 8 tki_MOST_DEEP)))
    (tn_ALIGNS : PySem.W.nsIn K mainGlobals "ALIGNS" = some (some (.ref tb_ALIGNS))) (tl_ALIGNS : K.lookup tb_ALIGNS = some ⟨.type "tuple", none, .seq #[.str "start" tkk_ALIGNS_0, .str "end" tkk_ALIGNS_1, .str "mid" tkk_ALIGNS_2, .str "mid2" tkk_ALIGNS_3] tnn_ALIGNS, #[]⟩)
    (tn_SIDES : PySem.W.nsIn K mainGlobals "SIDES" = some (some (.ref tb_SIDES))) (tl_SIDES : K.lookup tb_SIDES = some ⟨.type "tuple", none, .seq #[.str "left" tkk_SIDES_0, .str "right" tkk_SIDES_1] tnn_SIDES, #[]⟩)
    (tn_LINES : PySem.W.nsIn K mainGlobals "LINES" = some (some (.ref tb_LINES))) (tl_LINES : K.lookup tb_LINES = some ⟨.type "tuple", none, .seq #[.str "row" tkk_LINES_0, .str "column" tkk_LINES_1, .str "wrap" tkk_LINES_2] tnn_LINES, #[]⟩)
    (ln_ANCHORS : PySem.W.nsIn K mainGlobals "ANCHORS" = some (some (.ref lb_ANCHORS))) (ll_ANCHORS : K.lookup lb_ANCHORS = some ⟨.type "list", none, .seq #[.str "start" lkk_ANCHORS_0, .str "mid" lkk_ANCHORS_1, .str "mid2" lkk_ANCHORS_2, .str "end" lkk_ANCHORS_3] lnn_ANCHORS, #[]⟩) :
    ∃ fd : FuncData, (∀ (s : Shared) (v : Value), BindsTo s fd ⟨[v], []⟩ [("_law_script", v)]) ∧ ∀ base : Heap, K.In base → base.Ns mainGlobals mg → FnOk l.prog w K mg base CX0 20 fa fd ["_law_script"] (spLaw K) := by
  have e := hfa.symm.trans (PySem.W.mg_of X G a_law)
  cases e
  have F_cells_at := fun_mk (st := s_cells_at) l_cells_at c_cells_at k_cells_at
  have F_is_open := fun_mk (st := s_is_open) l_is_open c_is_open k_is_open
  have F_put_cells := fun_mk (st := s_put_cells) l_put_cells c_put_cells k_put_cells
  have F_last_row := fun_mk (st := s_last_row) l_last_row c_last_row k_last_row
  have F_rows_taken := fun_mk (st := s_rows_taken) l_rows_taken c_rows_taken k_rows_taken
  have F_is_piece := fun_mk (st := s_is_piece) l_is_piece c_is_piece k_is_piece
  have F_are_words := fun_mk (st := s_are_words) l_are_words c_are_words k_are_words
  have F_is_joint := fun_mk (st := s_is_joint) l_is_joint c_is_joint k_is_joint
  have F_words_ok := fun_mk (st := s_words_ok) l_words_ok c_words_ok k_words_ok
  have F_flow_ok := fun_mk (st := s_flow_ok) l_flow_ok c_flow_ok k_flow_ok
  have F_is_anchor := fun_mk (st := s_is_anchor) l_is_anchor c_is_anchor k_is_anchor
  have F_over_ok := fun_mk (st := s_over_ok) l_over_ok c_over_ok k_over_ok
  have F_is_whole := fun_mk (st := s_is_whole) l_is_whole c_is_whole k_is_whole
  have F_is_name := fun_mk (st := s_is_name) l_is_name c_is_name k_is_name
  have F_is_pair := fun_mk (st := s_is_pair) l_is_pair c_is_pair k_is_pair
  have F_is_span := fun_mk (st := s_is_span) l_is_span c_is_span k_is_span
  have F_is_own := fun_mk (st := s_is_own) l_is_own c_is_own k_is_own
  have F_is_word := fun_mk (st := s_is_word) l_is_word c_is_word k_is_word
  have F_line_ok := fun_mk (st := s_line_ok) l_line_ok c_line_ok k_line_ok
  have F_table_ok := fun_mk (st := s_table_ok) l_table_ok c_table_ok k_table_ok
  have F_kind_ok := fun_mk (st := s_kind_ok) l_kind_ok c_kind_ok k_kind_ok
  have F_name_of := fun_mk (st := s_name_of) l_name_of c_name_of k_name_of
  have F_box_ok := fun_mk (st := s_box_ok) l_box_ok c_box_ok k_box_ok
  have F_check_box := fun_mk (st := s_check_box) l_check_box c_check_box k_check_box
  have F_check_tree := fun_mk (st := s_check_tree) l_check_tree c_check_tree k_check_tree
  have F__law_at := fun_mk (st := s__law_at) l__law_at c__law_at k__law_at
  have F__law_mixed := fun_mk (st := s__law_mixed) l__law_mixed c__law_mixed k__law_mixed
  have F__law_draws := fun_mk (st := s__law_draws) l__law_draws c__law_draws k__law_draws
  have F__law_label := fun_mk (st := s__law_label) l__law_label c__law_label k__law_label
  have F__law_span := fun_mk (st := s__law_span) l__law_span c__law_span k__law_span
  have F__law_own := fun_mk (st := s__law_own) l__law_own c__law_own k__law_own
  have F__law_leaf := fun_mk (st := s__law_leaf) l__law_leaf c__law_leaf k__law_leaf
  have F__law_within := fun_mk (st := s__law_within) l__law_within c__law_within k__law_within
  have F__law_step := fun_mk (st := s__law_step) l__law_step c__law_step k__law_step
  have F__law_tree := fun_mk (st := s__law_tree) l__law_tree c__law_tree k__law_tree
  have F__law_boxes := fun_mk (st := s__law_boxes) l__law_boxes c__law_boxes k__law_boxes
  have F__law_named := fun_mk (st := s__law_named) l__law_named c__law_named k__law_named
  have F__law_bent_own := fun_mk (st := s__law_bent_own) l__law_bent_own c__law_bent_own k__law_bent_own
  have F__law_bent := fun_mk (st := s__law_bent) l__law_bent c__law_bent k__law_bent
  have F__law_kept := fun_mk (st := s__law_kept) l__law_kept c__law_kept k__law_kept
  have F__law_refused := fun_mk (st := s__law_refused) l__law_refused c__law_refused k__law_refused
  have F_law := fun_mk (st := s_law) l_law c_law k_law
  have b_cells_at := F_cells_at.binds (ps := ["row", "column", "span"]) fun _ _ _ _ _ _ us hl => match us, hl with | [_, _, _], _ => rfl
  have b_is_open := F_is_open.binds (ps := ["taken", "row", "column", "span"]) fun _ _ _ _ _ _ us hl => match us, hl with | [_, _, _, _], _ => rfl
  have b_put_cells := F_put_cells.binds (ps := ["columns", "spans"]) fun _ _ _ _ _ _ us hl => match us, hl with | [_, _], _ => rfl
  have b_last_row := F_last_row.binds (ps := ["spans", "places"]) fun _ _ _ _ _ _ us hl => match us, hl with | [_, _], _ => rfl
  have b_rows_taken := F_rows_taken.binds (ps := ["columns", "spans"]) fun _ _ _ _ _ _ us hl => match us, hl with | [_, _], _ => rfl
  have b_is_piece := F_is_piece.binds (ps := ["thing"]) fun _ _ _ _ _ _ us hl => match us, hl with | [_], _ => rfl
  have b_are_words := F_are_words.binds (ps := ["words"]) fun _ _ _ _ _ _ us hl => match us, hl with | [_], _ => rfl
  have b_is_joint := F_is_joint.binds (ps := ["thing"]) fun _ _ _ _ _ _ us hl => match us, hl with | [_], _ => rfl
  have b_words_ok := F_words_ok.binds (ps := ["what", "parts"]) fun _ _ _ _ _ _ us hl => match us, hl with | [_, _], _ => rfl
  have b_flow_ok := F_flow_ok.binds (ps := ["what", "parts"]) fun _ _ _ _ _ _ us hl => match us, hl with | [_, _], _ => rfl
  have b_is_anchor := F_is_anchor.binds (ps := ["thing"]) fun _ _ _ _ _ _ us hl => match us, hl with | [_], _ => rfl
  have b_over_ok := F_over_ok.binds (ps := ["what", "parts"]) fun _ _ _ _ _ _ us hl => match us, hl with | [_, _], _ => rfl
  have b_is_whole := F_is_whole.binds (ps := ["thing", "least", "greatest"]) fun _ _ _ _ _ _ us hl => match us, hl with | [_, _, _], _ => rfl
  have b_is_name := F_is_name.binds (ps := ["thing"]) fun _ _ _ _ _ _ us hl => match us, hl with | [_], _ => rfl
  have b_is_pair := F_is_pair.binds (ps := ["thing", "least", "greatest"]) fun _ _ _ _ _ _ us hl => match us, hl with | [_, _, _], _ => rfl
  have b_is_span := F_is_span.binds (ps := ["thing"]) fun _ _ _ _ _ _ us hl => match us, hl with | [_], _ => rfl
  have b_is_own := F_is_own.binds (ps := ["thing"]) fun _ _ _ _ _ _ us hl => match us, hl with | [_], _ => rfl
  have b_is_word := F_is_word.binds (ps := ["thing", "words"]) fun _ _ _ _ _ _ us hl => match us, hl with | [_, _], _ => rfl
  have b_line_ok := F_line_ok.binds (ps := ["what", "parts"]) fun _ _ _ _ _ _ us hl => match us, hl with | [_, _], _ => rfl
  have b_table_ok := F_table_ok.binds (ps := ["what", "parts"]) fun _ _ _ _ _ _ us hl => match us, hl with | [_, _], _ => rfl
  have b_kind_ok := F_kind_ok.binds (ps := ["kind", "what", "parts"]) fun _ _ _ _ _ _ us hl => match us, hl with | [_, _, _], _ => rfl
  have b_name_of := F_name_of.binds (ps := ["thing"]) fun _ _ _ _ _ _ us hl => match us, hl with | [_], _ => rfl
  have b_box_ok := F_box_ok.binds (ps := ["thing", "deep", "tabled", "seen"]) fun _ _ _ _ _ _ us hl => match us, hl with | [_, _, _, _], _ => rfl
  have b_check_box := F_check_box.binds (ps := ["thing", "deep", "tabled", "seen"]) fun _ _ _ _ _ _ us hl => match us, hl with | [_, _, _, _], _ => rfl
  have b_check_tree := F_check_tree.binds (ps := ["thing"]) fun _ _ _ _ _ _ us hl => match us, hl with | [_], _ => rfl
  have b__law_at := F__law_at.binds (ps := ["_law_script", "_law_k"]) fun _ _ _ _ _ _ us hl => match us, hl with | [_, _], _ => rfl
  have b__law_mixed := F__law_mixed.binds (ps := ["_law_cell"]) fun _ _ _ _ _ _ us hl => match us, hl with | [_], _ => rfl
  have b__law_draws := F__law_draws.binds (ps := ["_law_script", "_law_first", "_law_many", "_law_base"]) fun _ _ _ _ _ _ us hl => match us, hl with | [_, _, _, _], _ => rfl
  have b__law_label := F__law_label.binds (ps := ["_law_k", "_law_cell"]) fun _ _ _ _ _ _ us hl => match us, hl with | [_, _], _ => rfl
  have b__law_span := F__law_span.binds (ps := ["_law_n"]) fun _ _ _ _ _ _ us hl => match us, hl with | [_], _ => rfl
  have b__law_own := F__law_own.binds (ps := ["_law_n", "_law_alike"]) fun _ _ _ _ _ _ us hl => match us, hl with | [_, _], _ => rfl
  have b__law_leaf := F__law_leaf.binds (ps := ["_law_name", "_law_n"]) fun _ _ _ _ _ _ us hl => match us, hl with | [_, _], _ => rfl
  have b__law_within := F__law_within.binds (ps := ["_law_kind", "_law_name", "_law_n", "_law_some", "_law_alike"]) fun _ _ _ _ _ _ us hl => match us, hl with | [_, _, _, _, _], _ => rfl
  have b__law_step := F__law_step.binds (ps := ["_law_stack", "_law_n", "_law_name"]) fun _ _ _ _ _ _ us hl => match us, hl with | [_, _, _], _ => rfl
  have b__law_tree := F__law_tree.binds (ps := ["_law_script", "_law_first", "_law_many"]) fun _ _ _ _ _ _ us hl => match us, hl with | [_, _, _], _ => rfl
  have b__law_boxes := F__law_boxes.binds (ps := ["_law_tree_here"]) fun _ _ _ _ _ _ us hl => match us, hl with | [_], _ => rfl
  have b__law_named := F__law_named.binds (ps := ["_law_tree_here", "_law_name", "_law_other"]) fun _ _ _ _ _ _ us hl => match us, hl with | [_, _, _], _ => rfl
  have b__law_bent_own := F__law_bent_own.binds (ps := ["_law_own_here", "_law_cell"]) fun _ _ _ _ _ _ us hl => match us, hl with | [_, _], _ => rfl
  have b__law_bent := F__law_bent.binds (ps := ["_law_box", "_law_cell", "_law_first"]) fun _ _ _ _ _ _ us hl => match us, hl with | [_, _, _], _ => rfl
  have b__law_kept := F__law_kept.binds (ps := ["_law_tree_here"]) fun _ _ _ _ _ _ us hl => match us, hl with | [_], _ => rfl
  have b__law_refused := F__law_refused.binds (ps := ["_law_tree_here", "_law_name"]) fun _ _ _ _ _ _ us hl => match us, hl with | [_, _], _ => rfl
  have b_law := F_law.binds (ps := ["_law_script"]) fun _ _ _ _ _ _ us hl => match us, hl with | [_], _ => rfl
  have tt_ALIGNS : KTup K tb_ALIGNS ["start", "end", "mid", "mid2"] := ⟨_, _, _, tl_ALIGNS, rfl, rfl, (by show (4 : Nat) ≤ sizeLine; decide), .cons ⟨_, rfl⟩ (.cons ⟨_, rfl⟩ (.cons ⟨_, rfl⟩ (.cons ⟨_, rfl⟩ (.nil))))⟩
  have tt_SIDES : KTup K tb_SIDES ["left", "right"] := ⟨_, _, _, tl_SIDES, rfl, rfl, (by show (2 : Nat) ≤ sizeLine; decide), .cons ⟨_, rfl⟩ (.cons ⟨_, rfl⟩ (.nil))⟩
  have tt_LINES : KTup K tb_LINES ["row", "column", "wrap"] := ⟨_, _, _, tl_LINES, rfl, rfl, (by show (3 : Nat) ≤ sizeLine; decide), .cons ⟨_, rfl⟩ (.cons ⟨_, rfl⟩ (.cons ⟨_, rfl⟩ (.nil)))⟩
  have lt_ANCHORS : KLst K lb_ANCHORS ["start", "mid", "mid2", "end"] := ⟨_, _, _, ll_ANCHORS, rfl, rfl, rfl, (by show (4 : Nat) ≤ sizeLine; decide), .cons ⟨_, rfl⟩ (.cons ⟨_, rfl⟩ (.cons ⟨_, rfl⟩ (.cons ⟨_, rfl⟩ (.nil))))⟩
  have Fi_BadBox := fun_mk (st := (inClass (topS 8) 0)) il_BadBox ic_BadBox ik_BadBox
  let T : TX K mg w := ⟨_, _, F_cells_at, b_cells_at, PySem.W.mg_of X G a_cells_at, _, _, F_is_open, b_is_open, PySem.W.mg_of X G a_is_open, _, _, F_put_cells, b_put_cells, PySem.W.mg_of X G a_put_cells, _, _, F_last_row, b_last_row, PySem.W.mg_of X G a_last_row, _, _, F_rows_taken, b_rows_taken, PySem.W.mg_of X G a_rows_taken, _, _, F_is_piece, b_is_piece, PySem.W.mg_of X G a_is_piece, _, _, F_are_words, b_are_words, PySem.W.mg_of X G a_are_words, _, _, F_is_joint, b_is_joint, PySem.W.mg_of X G a_is_joint, _, _, F_words_ok, b_words_ok, PySem.W.mg_of X G a_words_ok, _, _, F_flow_ok, b_flow_ok, PySem.W.mg_of X G a_flow_ok, _, _, F_is_anchor, b_is_anchor, PySem.W.mg_of X G a_is_anchor, _, _, F_over_ok, b_over_ok, PySem.W.mg_of X G a_over_ok, _, _, F_is_whole, b_is_whole, PySem.W.mg_of X G a_is_whole, _, _, F_is_name, b_is_name, PySem.W.mg_of X G a_is_name, _, _, F_is_pair, b_is_pair, PySem.W.mg_of X G a_is_pair, _, _, F_is_span, b_is_span, PySem.W.mg_of X G a_is_span, _, _, F_is_own, b_is_own, PySem.W.mg_of X G a_is_own, _, _, F_is_word, b_is_word, PySem.W.mg_of X G a_is_word, _, _, F_line_ok, b_line_ok, PySem.W.mg_of X G a_line_ok, _, _, F_table_ok, b_table_ok, PySem.W.mg_of X G a_table_ok, _, _, F_kind_ok, b_kind_ok, PySem.W.mg_of X G a_kind_ok, _, _, F_name_of, b_name_of, PySem.W.mg_of X G a_name_of, _, _, F_box_ok, b_box_ok, PySem.W.mg_of X G a_box_ok, _, _, F_check_box, b_check_box, PySem.W.mg_of X G a_check_box, _, _, F_check_tree, b_check_tree, PySem.W.mg_of X G a_check_tree, _, _, F__law_at, b__law_at, PySem.W.mg_of X G a__law_at, _, _, F__law_mixed, b__law_mixed, PySem.W.mg_of X G a__law_mixed, _, _, F__law_draws, b__law_draws, PySem.W.mg_of X G a__law_draws, _, _, F__law_label, b__law_label, PySem.W.mg_of X G a__law_label, _, _, F__law_span, b__law_span, PySem.W.mg_of X G a__law_span, _, _, F__law_own, b__law_own, PySem.W.mg_of X G a__law_own, _, _, F__law_leaf, b__law_leaf, PySem.W.mg_of X G a__law_leaf, _, _, F__law_within, b__law_within, PySem.W.mg_of X G a__law_within, _, _, F__law_step, b__law_step, PySem.W.mg_of X G a__law_step, _, _, F__law_tree, b__law_tree, PySem.W.mg_of X G a__law_tree, _, _, F__law_boxes, b__law_boxes, PySem.W.mg_of X G a__law_boxes, _, _, F__law_named, b__law_named, PySem.W.mg_of X G a__law_named, _, _, F__law_bent_own, b__law_bent_own, PySem.W.mg_of X G a__law_bent_own, _, _, F__law_bent, b__law_bent, PySem.W.mg_of X G a__law_bent, _, _, F__law_kept, b__law_kept, PySem.W.mg_of X G a__law_kept, _, _, F__law_refused, b__law_refused, PySem.W.mg_of X G a__law_refused, _, _, F_law, b_law, PySem.W.mg_of X G a_law, PySem.W.mg_none_of X G z_ValueError, PySem.W.mg_none_of X G z_all, PySem.W.mg_none_of X G z_any, PySem.W.mg_none_of X G z_bool, PySem.W.mg_none_of X G z_int, PySem.W.mg_none_of X G z_isinstance, PySem.W.mg_none_of X G z_len, PySem.W.mg_none_of X G z_list, PySem.W.mg_none_of X G z_max, PySem.W.mg_none_of X G z_range, PySem.W.mg_none_of X G z_str, PySem.W.mg_none_of X G z_tuple, PySem.W.mg_none_of X G z_zip, _, PySem.W.mg_of X G aC_BadBox, _, PySem.W.mg_of X G aC_BoxError, _, PySem.W.mg_of X G aC_NoBox, _, PySem.W.mg_of X G aC_NoEdit, _, PySem.W.mg_of X G aC_NoFloor, _, PySem.W.mg_of X G aC_NoName, _, PySem.W.mg_of X G aC_NoNumber, _, PySem.W.mg_of X G aC_NoPages, _, PySem.W.mg_of X G aC_NoRead, _, PySem.W.mg_of X G aC_NoRow, _, PySem.W.mg_of X G aC_NoRows, _, PySem.W.mg_of X G aC_NoTree, _, PySem.W.mg_of X G aC_NotTurned, _, PySem.W.mg_of X G aC_Ring, _, PySem.W.mg_of X G aC_TooGreat, _, PySem.W.mg_of X G aC_TooWide, ⟨⟨nm_BadBox, qn_BadBox, nn_BadBox, bs_BadBox, _, sn_BadBox, su_BadBox, ab_BadBox, co_BadBox, dd_BadBox, m0_BadBox, m1_BadBox, m2_BadBox, m3_BadBox, m5_BadBox, xl_BadBox, by rfl⟩, fi_BadBox_setattr, su_BadBox_BaseException, ty_BadBox, kc_BadBox⟩, (fun f hf => by rcases List.mem_cons.mp hf with rfl | hf; exact fi_BadBox_name; cases hf), _, _, Fi_BadBox, (Fi_BadBox.binds (ps := ["self", "name"]) fun _ _ _ _ _ _ us hl => match us, hl with | [_, _], _ => rfl), fi_BadBox_init, it_BadBox, ⟨fi_BadBox_getattribute, fi_BadBox_getattr, su_BadBox_BaseException, hd_BadBox⟩, ⟨fi_BadBox_getattribute, fi_BadBox_getattr, su_BadBox_BaseException, is_BadBox, fi_BadBox_class, spc, tkc, mro_BadBox⟩, sg_BoxError, rd_BoxError, fc_BoxError, (kit_twoC su_BadBox_BadBox su_BadBox_BadBox is_BadBox ty_BadBox), (kit_twoC su_BadBox_NoBox su_BadBox_BadBox is_NoBox ty_NoBox), (kit_twoC su_BadBox_NoEdit su_BadBox_BadBox is_NoEdit ty_NoEdit), (kit_twoC su_BadBox_NoFloor su_BadBox_BadBox is_NoFloor ty_NoFloor), (kit_twoC su_BadBox_NoName su_BadBox_BadBox is_NoName ty_NoName), (kit_twoC su_BadBox_NoNumber su_BadBox_BadBox is_NoNumber ty_NoNumber), (kit_twoC su_BadBox_NoPages su_BadBox_BadBox is_NoPages ty_NoPages), (kit_twoC su_BadBox_NoRead su_BadBox_BadBox is_NoRead ty_NoRead), (kit_twoC su_BadBox_NoRow su_BadBox_BadBox is_NoRow ty_NoRow), (kit_twoC su_BadBox_NoRows su_BadBox_BadBox is_NoRows ty_NoRows), (kit_twoC su_BadBox_NoTree su_BadBox_BadBox is_NoTree ty_NoTree), (kit_twoC su_BadBox_NotTurned su_BadBox_BadBox is_NotTurned ty_NotTurned), (kit_twoC su_BadBox_Ring su_BadBox_BadBox is_Ring ty_Ring), (kit_twoC su_BadBox_TooGreat su_BadBox_BadBox is_TooGreat ty_TooGreat), (kit_twoC su_BadBox_TooWide su_BadBox_BadBox is_TooWide ty_TooWide), (kit_two su_BadBox_ValueError), (exm_two su_BoxError_BaseException is_BoxError ty_BoxError su_BadBox_BoxError), _, PySem.W.mg_of X G ki_MOST_SIGNS, _, PySem.W.mg_of X G ki_PIECE, _, PySem.W.mg_of X G ki_MOST_PIECES, _, PySem.W.mg_of X G ki_MOST_IN_ALL, _, PySem.W.mg_of X G ki_MOST_JOINT, _, PySem.W.mg_of X G ki_MOST_BY, _, PySem.W.mg_of X G ki_MOST_OVER, _, PySem.W.mg_of X G ki_SMALL, _, PySem.W.mg_of X G ki_GREATEST, _, PySem.W.mg_of X G ki_MOST_ROWS, _, PySem.W.mg_of X G ki_MOST_BOXES, _, PySem.W.mg_of X G ki_MOST_DEEP, _, PySem.W.mg_of X G tn_ALIGNS, tt_ALIGNS, _, PySem.W.mg_of X G tn_SIDES, tt_SIDES, _, PySem.W.mg_of X G tn_LINES, tt_LINES, _, PySem.W.mg_of X G ln_ANCHORS, lt_ANCHORS⟩
  refine ⟨PySem.W.fnOf "law" "law" (defArgs s_law) (defBody s_law) (defScope s_law) .none kV_law dc_law pm_law an_law cd_law ct_law, fun s v => .of_eq rfl, fun base _ _ => ?_⟩
  exact fn_weak (ok_law T) main
end Wk06
/-! Wp: plain facts about the mirrors' words -/
namespace Wk
open PySem L2

theorem bs {α β : Type} (a : α) (f : α → Option β) : (some a).bind f = f a := by rw [Option.bind_some]
theorem bind_ok {α β : Type} {m : Option α} {f : α → Option β} {a : α} (h : m = some a) : m.bind f = f a := by rw [h]; rfl
theorem atI_ok {α : Type} {xs : List α} {i : Int} (h0 : 0 ≤ i) (h : i < xs.length) : atI xs i = xs[i.toNat]? := by
  obtain ⟨k, rfl⟩ := Int.eq_ofNat_of_zero_le h0
  have hk : k < xs.length := by omega
  have e : xs[k]? = some xs[k] := List.getElem?_eq_getElem hk
  rw [show ((k : Int)).toNat = k from rfl, e]
  exact atI_nat e
theorem atI_some {α : Type} {xs : List α} {i : Int} (h0 : 0 ≤ i) (h : i < xs.length) : ∃ x, atI xs i = some x ∧ xs[i.toNat]? = some x := by
  have hk : i.toNat < xs.length := by omega
  exact ⟨xs[i.toNat], by rw [atI_ok h0 h]; exact List.getElem?_eq_getElem hk, List.getElem?_eq_getElem hk⟩
theorem pick2 {α : Type} (x y : α) {k : Int} (h0 : 0 ≤ k) (h : k < 2) : atI [x, y] k = some (if k = 0 then x else y) := by
  rcases (show k = 0 ∨ k = 1 by omega) with rfl | rfl <;> rfl
theorem pick3 {α : Type} (x y z : α) {k : Int} (h0 : 0 ≤ k) (h : k < 3) : atI [x, y, z] k = some (if k = 0 then x else if k = 1 then y else z) := by
  rcases (show k = 0 ∨ k = 1 ∨ k = 2 by omega) with rfl | rfl | rfl <;> rfl
theorem pick4 {α : Type} (x y z u : α) {k : Int} (h0 : 0 ≤ k) (h : k < 4) : atI [x, y, z, u] k = some (if k = 0 then x else if k = 1 then y else if k = 2 then z else u) := by
  rcases (show k = 0 ∨ k = 1 ∨ k = 2 ∨ k = 3 by omega) with rfl | rfl | rfl | rfl <;> rfl
theorem forC_all {β R : Type} {f : β → Unit → Option (Ctl Unit R)} : ∀ {xs : List β}, (∀ x ∈ xs, f x () = some (.nx ())) → forC f xs () = some (.nx ())
  | [], _ => rfl
  | x :: xs, h => by
    unfold forC
    rw [h x List.mem_cons_self]
    exact forC_all fun y hy => h y (List.mem_cons_of_mem _ hy)
/-- a loop that always goes on, by an invariant -/
theorem forC_inv {β Sx R : Type} {f : β → Sx → Option (Ctl Sx R)} (I : List β → Sx → Prop) : ∀ {xs : List β} {s : Sx}, I xs s → (∀ x rest s, I (x :: rest) s → ∃ s', f x s = some (.nx s') ∧ I rest s') → ∃ s', forC f xs s = some (.nx s') ∧ I [] s'
  | [], s, h, _ => ⟨s, rfl, h⟩
  | x :: xs, s, h, hs => by
    obtain ⟨s', e, h'⟩ := hs x xs s h
    obtain ⟨s2, e2, h2⟩ := forC_inv I h' hs
    refine ⟨s2, ?_, h2⟩
    unfold forC
    rw [e]
    exact e2
theorem forS_inv {β Sx : Type} {f : β → Sx → Option Sx} (I : List β → Sx → Prop) : ∀ {xs : List β} {s : Sx}, I xs s → (∀ x rest s, I (x :: rest) s → ∃ s', f x s = some s' ∧ I rest s') → ∃ s', forS f xs s = some s' ∧ I [] s'
  | [], s, h, _ => ⟨s, rfl, h⟩
  | x :: xs, s, h, hs => by
    obtain ⟨s', e, h'⟩ := hs x xs s h
    obtain ⟨s2, e2, h2⟩ := forS_inv I h' hs
    refine ⟨s2, ?_, h2⟩
    unfold forS
    rw [e]
    exact e2
/-- a loop as a fold -/
theorem forS_fold {β Sx : Type} {f : β → Sx → Option Sx} (g : Sx → β → Sx) (I : List β → Sx → Prop) : ∀ {xs : List β} {s : Sx}, I xs s → (∀ x rest s, I (x :: rest) s → f x s = some (g s x) ∧ I rest (g s x)) → forS f xs s = some (xs.foldl g s)
  | [], s, h, _ => rfl
  | x :: xs, s, h, hs => by
    obtain ⟨e, h'⟩ := hs x xs s h
    unfold forS
    rw [e]
    exact forS_fold g I h' hs
theorem forS_cons {β Sx : Type} {f : β → Sx → Option Sx} {x : β} {xs : List β} {s s' : Sx} (h : f x s = some s') : forS f (x :: xs) s = forS f xs s' := by
  show ((f x s).bind _) = _
  rw [h]
  rfl
theorem forC_cons {β Sx R : Type} {f : β → Sx → Option (Ctl Sx R)} {x : β} {xs : List β} {s s' : Sx} (h : f x s = some (.nx s')) : forC f (x :: xs) s = forC f xs s' := by
  show ((f x s).bind _) = _
  rw [h]
  rfl
/-- by places -/
theorem forS_ix {β Sx : Type} {f : β → Sx → Option Sx} {xs : List β} (P : Nat → Sx → Prop) {s : Sx} (h0 : P 0 s) (step : ∀ (i : Nat) (hi : i < xs.length) s, P i s → ∃ s', f xs[i] s = some s' ∧ P (i + 1) s') : ∃ s', forS f xs s = some s' ∧ P xs.length s' := by
  have key : ∀ (m i : Nat) (s : Sx), i + m = xs.length → P i s → ∃ s', forS f (xs.drop i) s = some s' ∧ P xs.length s' := by
    intro m
    induction m with
    | zero =>
      intro i s hi hp
      have e : i = xs.length := by omega
      subst e
      rw [List.drop_length]
      exact ⟨s, rfl, hp⟩
    | succ m ih =>
      intro i s hi hp
      have hl : i < xs.length := by omega
      obtain ⟨s', e, hp'⟩ := step i hl s hp
      obtain ⟨r, e2, h2⟩ := ih (i + 1) s' (by omega) hp'
      refine ⟨r, ?_, h2⟩
      rw [List.drop_eq_getElem_cons hl, forS_cons e]
      exact e2
  have := key xs.length 0 s (by omega) h0
  rwa [List.drop_zero] at this
theorem forC_ix {β Sx R : Type} {f : β → Sx → Option (Ctl Sx R)} {xs : List β} (P : Nat → Sx → Prop) {s : Sx} (h0 : P 0 s) (step : ∀ (i : Nat) (hi : i < xs.length) s, P i s → ∃ s', f xs[i] s = some (.nx s') ∧ P (i + 1) s') : ∃ s', forC f xs s = some (.nx s') ∧ P xs.length s' := by
  have key : ∀ (m i : Nat) (s : Sx), i + m = xs.length → P i s → ∃ s', forC f (xs.drop i) s = some (.nx s') ∧ P xs.length s' := by
    intro m
    induction m with
    | zero =>
      intro i s hi hp
      have e : i = xs.length := by omega
      subst e
      rw [List.drop_length]
      exact ⟨s, rfl, hp⟩
    | succ m ih =>
      intro i s hi hp
      have hl : i < xs.length := by omega
      obtain ⟨s', e, hp'⟩ := step i hl s hp
      obtain ⟨r, e2, h2⟩ := ih (i + 1) s' (by omega) hp'
      refine ⟨r, ?_, h2⟩
      rw [List.drop_eq_getElem_cons hl, forC_cons e]
      exact e2
  have := key xs.length 0 s (by omega) h0
  rwa [List.drop_zero] at this
/-- two loops over one list, turn by turn -/
theorem forS2_ix {β S1 S2 : Type} {f1 : β → S1 → Option S1} {f2 : β → S2 → Option S2} {xs : List β} (P : Nat → S1 → S2 → Prop) {s1 : S1} {s2 : S2} (h0 : P 0 s1 s2)
    (step : ∀ (i : Nat) (hi : i < xs.length) s1 s2, P i s1 s2 → ∃ s1' s2', f1 xs[i] s1 = some s1' ∧ f2 xs[i] s2 = some s2' ∧ P (i + 1) s1' s2') : ∃ r1 r2, forS f1 xs s1 = some r1 ∧ forS f2 xs s2 = some r2 ∧ P xs.length r1 r2 := by
  have key : ∀ (m i : Nat) (s1 : S1) (s2 : S2), i + m = xs.length → P i s1 s2 → ∃ r1 r2, forS f1 (xs.drop i) s1 = some r1 ∧ forS f2 (xs.drop i) s2 = some r2 ∧ P xs.length r1 r2 := by
    intro m
    induction m with
    | zero =>
      intro i s1 s2 hi hp
      have e : i = xs.length := by omega
      subst e
      rw [List.drop_length]
      exact ⟨s1, s2, rfl, rfl, hp⟩
    | succ m ih =>
      intro i s1 s2 hi hp
      have hl : i < xs.length := by omega
      obtain ⟨a, b, e1, e2, hp'⟩ := step i hl s1 s2 hp
      obtain ⟨r1, r2, h1, h2, h3⟩ := ih (i + 1) a b (by omega) hp'
      refine ⟨r1, r2, ?_, ?_, h3⟩
      · rw [List.drop_eq_getElem_cons hl, forS_cons e1]
        exact h1
      · rw [List.drop_eq_getElem_cons hl, forS_cons e2]
        exact h2
  have := key xs.length 0 s1 s2 (by omega) h0
  rwa [List.drop_zero] at this
theorem enumI_at {α : Type} (xs : List α) (i : Nat) (hi : i < (enumI xs).length) : (enumI xs)[i] = ((i : Int), xs[i]'(by simpa [enumI] using hi), ()) := by simp [enumI]
theorem whileS_inv {Sx : Type} {c : Sx → Option Bool} {f : Sx → Option Sx} (I : Sx → Prop) (μ : Sx → Nat) (step : ∀ s, I s → ∃ b, c s = some b ∧ (b = true → ∃ s', f s = some s' ∧ I s' ∧ μ s' < μ s)) :
    ∀ (n : Nat) {s : Sx}, I s → μ s < n → ∃ s', whileS c f n s = some s' ∧ I s' ∧ c s' = some false
  | 0, _, _, h => absurd h (Nat.not_lt_zero _)
  | n + 1, s, hI, hn => by
    obtain ⟨b, hb, hs⟩ := step s hI
    unfold whileS
    rw [hb]
    cases b with
    | false => exact ⟨s, rfl, hI, hb⟩
    | true =>
      obtain ⟨s', e, hI', hm⟩ := hs rfl
      obtain ⟨s2, e2, h2⟩ := whileS_inv I μ step n hI' (by omega)
      refine ⟨s2, ?_, h2⟩
      show ((f s).bind _) = _
      rw [e]
      exact e2
theorem whileF_inv {Sx : Type} {c : Sx → Option Bool} {f : Sx → Option Sx} (I : Sx → Prop) (μ : Sx → Nat) (step : ∀ s, I s → ∃ b, c s = some b ∧ (b = true → ∃ s', f s = some s' ∧ I s' ∧ μ s' < μ s)) {s : Sx} (h : I s) :
    ∃ s', whileF c f s = some s' ∧ I s' ∧ c s' = some false := by
  obtain ⟨s', e, h1, h2⟩ := whileS_inv I μ step (μ s + 1) h (Nat.lt_succ_self _)
  exact ⟨s', whileF_of e, h1, h2⟩
theorem cut_len {α : Type} (xs : List α) (lo hi : Option Int) : (cut xs lo hi).length ≤ xs.length := by
  unfold cut
  rw [List.length_take, List.length_drop]
  omega
theorem cut_mem {α : Type} {xs : List α} {lo hi : Option Int} {x : α} (h : x ∈ cut xs lo hi) : x ∈ xs := List.mem_of_mem_drop (List.mem_of_mem_take h)
theorem cut_from {α : Type} (xs : List α) (k : Nat) : cut xs (some (k : Int)) none = xs.drop k := by
  unfold cut
  rw [HT.sIx_nat, HT.sIx_none]
  by_cases h : k ≤ xs.length
  · rw [Nat.min_eq_left h, List.take_of_length_le (by rw [List.length_drop]; omega)]
  · rw [Nat.min_eq_right (by omega), List.drop_eq_nil_of_le (Nat.le_refl _), List.drop_eq_nil_of_le (show xs.length ≤ k by omega)]
    exact List.take_nil
theorem cut_to {α : Type} (xs : List α) (k : Nat) : cut xs none (some (k : Int)) = xs.take k := by
  unfold cut
  rw [HT.sIx_nat, HT.sIx_none, List.drop_zero, Nat.sub_zero]
  by_cases h : k ≤ xs.length
  · rw [Nat.min_eq_left h]
  · rw [Nat.min_eq_right (by omega), List.take_of_length_le (Nat.le_refl _), List.take_of_length_le (by omega)]
theorem rngO_ok {lo hi : Int} (h1 : -1000000000000 ≤ lo) (h2 : lo ≤ 1000000000000) (h3 : -1000000000000 ≤ hi) (h4 : hi ≤ 1000000000000) : rngO lo hi = some (irange lo hi) := if_pos ⟨h1, h2, h3, h4⟩
theorem irange_len (lo hi : Int) : (irange lo hi).length = (hi - lo).toNat := by simp [irange]
theorem enumI_len {α : Type} (xs : List α) : (enumI xs).length = xs.length := by simp [enumI]
theorem lcM_len {β γ : Type} {c : β → Option Bool} {f : β → Option γ} {xs : List β} (h : xs.length < 1000000) : lcM c f xs = lcGo c f xs := if_pos h
theorem lcGo_all {β γ : Type} {f : β → Option γ} (g : β → γ) : ∀ {xs : List β}, (∀ x ∈ xs, f x = some (g x)) → lcGo (fun _ => some true) f xs = some (xs.map g)
  | [], _ => rfl
  | x :: xs, h => by
    unfold lcGo
    show ((f x).bind _) = _
    rw [h x List.mem_cons_self, lcGo_all g fun y hy => h y (List.mem_cons_of_mem _ hy)]
    rfl
theorem lcGo_if {β γ : Type} {c : β → Option Bool} {f : β → Option γ} (p : β → Bool) (g : β → γ) : ∀ {xs : List β}, (∀ x ∈ xs, c x = some (p x)) → (∀ x ∈ xs, p x = true → f x = some (g x)) → lcGo c f xs = some ((xs.filter p).map g)
  | [], _, _ => rfl
  | x :: xs, hc, h => by
    unfold lcGo
    rw [hc x List.mem_cons_self]
    have ih := lcGo_if p g (xs := xs) (fun y hy => hc y (List.mem_cons_of_mem _ hy)) (fun y hy => h y (List.mem_cons_of_mem _ hy))
    cases e : p x with
    | true =>
      show ((f x).bind _) = _
      rw [h x List.mem_cons_self e, ih, List.filter_cons_of_pos e]
      rfl
    | false =>
      show lcGo c f xs = _
      rw [ih, List.filter_cons_of_neg (by rw [e]; exact Bool.false_ne_true)]
theorem lcM_all {β γ : Type} {f : β → Option γ} (g : β → γ) {xs : List β} (hl : xs.length < 1000000) (h : ∀ x ∈ xs, f x = some (g x)) : lcM (fun _ => some true) f xs = some (xs.map g) := by
  rw [lcM_len hl, lcGo_all g h]
/-- draws, one an item -/
theorem lcSGo_inv {β γ Sx : Type} {f : β → Sx → Option (γ × Sx)} (I : Sx → Prop) (P : γ → Prop) (step : ∀ x s, I s → ∃ z s', f x s = some (z, s') ∧ I s' ∧ P z) :
    ∀ {xs : List β} {s : Sx}, I s → ∃ zs s', lcSGo f xs s = some (zs, s') ∧ I s' ∧ zs.length = xs.length ∧ ∀ z ∈ zs, P z
  | [], s, h => ⟨[], s, rfl, h, rfl, fun _ hz => nomatch hz⟩
  | x :: xs, s, h => by
    obtain ⟨z, s', e, h', hp⟩ := step x s h
    obtain ⟨zs, s2, e2, h2, hl, hz⟩ := lcSGo_inv I P step (xs := xs) h'
    refine ⟨z :: zs, s2, ?_, h2, by rw [List.length_cons, List.length_cons, hl], fun y hy => ?_⟩
    · unfold lcSGo
      rw [e]
      show ((lcSGo f xs s').bind _) = _
      rw [e2]
      rfl
    · rcases List.mem_cons.mp hy with rfl | hy
      · exact hp
      · exact hz y hy
theorem lcS_inv {β γ Sx : Type} {f : β → Sx → Option (γ × Sx)} (I : Sx → Prop) (P : γ → Prop) (step : ∀ x s, I s → ∃ z s', f x s = some (z, s') ∧ I s' ∧ P z) {xs : List β} {s : Sx} (hl : xs.length < 1000000) (h : I s) :
    ∃ zs s', lcS f xs s = some (zs, s') ∧ I s' ∧ zs.length = xs.length ∧ ∀ z ∈ zs, P z := by
  unfold lcS
  rw [if_pos hl]
  exact lcSGo_inv I P step h
theorem forS_app {β γ : Type} {f : β → List γ → Option (List γ)} (g : β → γ) : ∀ {xs : List β} {s : List γ}, s.length + xs.length ≤ 1000000 → (∀ x ∈ xs, ∀ s : List γ, s.length < 1000000 → f x s = some (s ++ [g x])) → forS f xs s = some (s ++ xs.map g)
  | [], s, _, _ => by rw [List.map_nil, List.append_nil]; rfl
  | x :: xs, s, hl, h => by
    rw [List.length_cons] at hl
    rw [forS_cons (h x List.mem_cons_self s (by omega)), forS_app g (by rw [List.length_append, List.length_singleton]; omega) fun y hy => h y (List.mem_cons_of_mem _ hy), List.map_cons, List.append_assoc]
    rfl
theorem enumI_mem {α : Type} [Rp α] {xs : List α} {y : Int × α × Unit} (h : y ∈ enumI xs) : ∃ (i : Nat) (x : α), xs[i]? = some x ∧ y = ((i : Int), x, ()) := by
  obtain ⟨i, hi⟩ := List.getElem?_of_mem h
  obtain ⟨x, hx, e⟩ := enum_get hi
  exact ⟨i, x, hx, e⟩
theorem zipI_mem {α β : Type} [Rp α] [Rp β] {xs : List α} {ys : List β} {z : α × β × Unit} (h : z ∈ zipI xs ys) : ∃ (i : Nat) (x : α) (y : β), xs[i]? = some x ∧ ys[i]? = some y ∧ z = (x, y, ()) := by
  obtain ⟨i, hi⟩ := List.getElem?_of_mem h
  obtain ⟨x, y, hx, hy, e⟩ := zip_get hi
  exact ⟨i, x, y, hx, hy, e⟩
/-! texts -/
theorem len_app (x y : Str) : (x ++ y).length = x.length + y.length := by
  show (x.cps ++ y.cps).size = _
  rw [Array.size_append]
  rfl
theorem ok_app {x y : Str} (hx : PyData.strOk x = true) (hy : PyData.strOk y = true) : PyData.strOk (x ++ y) = true := by
  show (x.cps ++ y.cps).all _ = true
  rw [Array.all_append]
  exact Bool.and_eq_true_iff.mpr ⟨hx, hy⟩
theorem ok_join {s : Str} (hs : PyData.strOk s = true) : ∀ {ys : List Str}, (∀ y ∈ ys, PyData.strOk y = true) → PyData.strOk (Str.join s ys) = true
  | [], _ => by
    unfold Str.join
    decide +kernel
  | [x], h => h x List.mem_cons_self
  | x :: y :: r, h => ok_app (ok_app (h x List.mem_cons_self) hs) (ok_join hs fun z hz => h z (List.mem_cons_of_mem _ hz))
theorem joinO_ok {s : Str} {ys : List Str} (h : (ys.map (·.length)).sum + ys.length * s.length ≤ 1000000) : joinO s ys = some (Str.join s ys) := by
  unfold joinO
  rw [if_pos h, TL.join_eq]
/-- a sign of a written text -/
theorem ixS_ok {s : Str} {i : Int} (hl : s.length ≤ 100000) (h0 : 0 ≤ i) (h : i < (s.length : Int)) (hs : PyData.strOk s = true) : ∃ c, ixS s i = some ⟨#[c]⟩ ∧ PyData.strOk ⟨#[c]⟩ = true ∧ (⟨#[c]⟩ : Str).length = 1 := by
  have hl2 : s.cps.toList.length = s.length := Array.length_toList
  obtain ⟨c, e, e2⟩ := atI_some (xs := s.cps.toList) h0 (by rw [hl2]; exact h)
  refine ⟨c, ?_, ?_, rfl⟩
  · unfold ixS
    rw [if_pos hl, e]
    rfl
  · have hm : c ∈ s.cps := Array.mem_toList_iff.mp (List.mem_of_getElem? e2)
    have := Array.all_eq_true'.mp hs c hm
    show (#[c] : Array Nat).all _ = true
    simpa using this
/-! dicts, and more -/
theorem cut_init {α : Type} (xs : List α) : cut xs none (some (-(1 : Int))) = xs.dropLast := by
  unfold cut
  rw [HT.sIx_none, List.drop_zero, Nat.sub_zero, List.dropLast_eq_take]
  have e : HT.sIx xs.length xs.length (some (-(1 : Int))) = (-(1 : Int) + (xs.length : Int)).toNat := rfl
  rw [e]
  congr 1
  omega
theorem mem_irange {x a b : Int} : x ∈ irange a b ↔ a ≤ x ∧ x < b := by
  unfold irange
  rw [List.mem_map]
  constructor
  · rintro ⟨k, hk, rfl⟩
    rw [List.mem_range] at hk
    omega
  · intro h
    exact ⟨(x - a).toNat, List.mem_range.mpr (by omega), by omega⟩
section
variable {κ β : Type} [DecidableEq κ]
theorem getD_pos {p : κ × β} {r : List (κ × β)} {k : κ} (e : p.1 = k) : getD (p :: r) k = some p.2 := by simp [getD, List.find?_cons, e]
theorem getD_neg {p : κ × β} {r : List (κ × β)} {k : κ} (e : ¬ p.1 = k) : getD (p :: r) k = getD r k := by simp [getD, List.find?_cons, e]
theorem getD_map (k j : κ) (y : β) : ∀ kvs : List (κ × β), getD (kvs.map fun kv => if kv.1 = k then (kv.1, y) else kv) j = (getD kvs j).map fun x => if j = k then y else x
  | [] => rfl
  | p :: r => by
    rw [List.map_cons]
    have ih := getD_map k j y r
    by_cases a : p.1 = k
    · rw [if_pos a]
      by_cases b : p.1 = j
      · rw [getD_pos (p := (p.1, y)) b, getD_pos b, Option.map_some, if_pos (b.symm.trans a)]
      · rw [getD_neg (p := (p.1, y)) b, getD_neg b, ih]
    · rw [if_neg a]
      by_cases b : p.1 = j
      · rw [getD_pos b, getD_pos b, Option.map_some, if_neg (fun z => a (b.trans z))]
      · rw [getD_neg b, getD_neg b, ih]
theorem getD_snoc (k j : κ) (y : β) : ∀ kvs : List (κ × β), getD kvs k = none → getD (kvs ++ [(k, y)]) j = if j = k then some y else getD kvs j
  | [], _ => by
    by_cases e : k = j
    · rw [List.nil_append, getD_pos (p := (k, y)) e, if_pos e.symm]
    · rw [List.nil_append, getD_neg (p := (k, y)) e, if_neg (Ne.symm e)]
  | p :: r, h => by
    have hk : ¬ p.1 = k := fun e => by rw [getD_pos e] at h; cases h
    rw [getD_neg hk] at h
    have ih := getD_snoc k j y r h
    rw [List.cons_append]
    by_cases e : p.1 = j
    · rw [getD_pos e, getD_pos e, if_neg (fun z => hk (e.trans z))]
    · rw [getD_neg e, getD_neg e, ih]
theorem getD_put (kvs : List (κ × β)) (k j : κ) (y : β) : getD (putD kvs k y) j = if j = k then some y else getD kvs j := by
  unfold putD
  by_cases a : (getD kvs k).isSome = true
  · rw [if_pos a, getD_map]
    by_cases e : j = k
    · obtain ⟨x, hx⟩ := Option.isSome_iff_exists.mp a
      rw [if_pos e, e, hx, Option.map_some, if_pos rfl]
    · rw [if_neg e]
      cases getD kvs j with
      | none => rfl
      | some x => rw [Option.map_some, if_neg e]
  · rw [if_neg a]
    refine getD_snoc k j y kvs ?_
    cases q : getD kvs k with
    | none => rfl
    | some x => rw [q] at a; exact (a rfl).elim
theorem len_put (kvs : List (κ × β)) (k : κ) (y : β) : (putD kvs k y).length ≤ kvs.length + 1 := by
  unfold putD
  split
  · rw [List.length_map]; omega
  · rw [List.length_append, List.length_cons, List.length_nil]; omega
theorem putO_ok {d : Dc κ β} {k : κ} {y : β} (h : d.l.length < 1000000) : putO d k y = some ⟨putD d.l k y⟩ := if_pos h
end
theorem forC_any {β R : Type} {f : β → Unit → Option (Ctl Unit R)} {r : R} (p : β → Bool) : ∀ {xs : List β}, (∀ x ∈ xs, f x () = some (if p x = true then .rt r else .nx ())) → forC f xs () = some (if xs.any p = true then .rt r else .nx ())
  | [], _ => rfl
  | x :: xs, h => by
    have hx := h x List.mem_cons_self
    cases e : p x with
    | true =>
      rw [e] at hx
      show ((f x ()).bind _) = _
      rw [hx, List.any_cons, e]
      rfl
    | false =>
      rw [e] at hx
      rw [forC_cons (s' := ()) hx, forC_any p fun y hy => h y (List.mem_cons_of_mem _ hy), List.any_cons, e]
      rfl
end Wk
set_option synthInstance.maxHeartbeats 400000
set_option synthInstance.maxSize 2000
namespace Wk06
open PySem L2 Wk
theorem at_nat {α : Type} {xs : List α} {k : Nat} {x : α} (h : xs[k]? = some x) : atI xs (k : Int) = some x := by
  rw [atI_ok (by omega) (by have := (List.getElem?_eq_some_iff.mp h).1; omega), Int.toNat_natCast]
  exact h
theorem lenS_ok {s : Str} (h : s.length ≤ 1000000) : lenS s = some (s.length : Int) := if_pos h
/-! data of any kind -/
def okn (d : PyData) (n : Nat) : Prop := d.canLay0 = true ∧ d.depth ≤ n
theorem okn.mono {d : PyData} {n m : Nat} (h : okn d n) (l : n ≤ m) : okn d m := ⟨h.1, Nat.le_trans h.2 l⟩
theorem okn_int (i : Int) (n : Nat) : okn (.int i) n := ⟨by simp only [PyData.canLay0], by simp only [PyData.depth]; exact Nat.zero_le _⟩
theorem okn_str {s : Str} (h : PyData.strOk s = true) (n : Nat) : okn (.str s) n := ⟨by simp only [PyData.canLay0, h], by simp only [PyData.depth]; exact Nat.zero_le _⟩
theorem okn_tup {ds : List PyData} {n : Nat} (h : ∀ d ∈ ds, okn d n) : okn (.tuple ds) (n + 1) := by
  have h1 : PyData.canLayAll0 ds = true := by
    induction ds with
    | nil => rfl
    | cons d ds ih =>
      simp only [PyData.canLayAll0, (h d List.mem_cons_self).1, ih fun e he => h e (List.mem_cons_of_mem _ he), Bool.and_self]
  have h2 : PyData.depthAll ds ≤ n := by
    induction ds with
    | nil => exact Nat.zero_le _
    | cons d ds ih =>
      simp only [PyData.depthAll]
      refine Nat.max_le.mpr ⟨(h d List.mem_cons_self).2, ih (fun e he => h e (List.mem_cons_of_mem _ he)) ?_⟩
      simp only [PyData.canLayAll0, Bool.and_eq_true] at h1
      exact h1.2
  exact ⟨by simp only [PyData.canLay0, h1], by simp only [PyData.depth]; omega⟩
theorem okn_cons {d : PyData} {ds : List PyData} {n : Nat} (h : okn d n) (hs : ∀ e ∈ ds, okn e n) : ∀ e ∈ d :: ds, okn e n := fun e he => by
  rcases List.mem_cons.mp he with rfl | he
  · exact h
  · exact hs e he
theorem okn_nil {n : Nat} : ∀ e ∈ ([] : List PyData), okn e n := fun _ h => nomatch h
theorem okn_shaped {d : PyData} {n : Nat} (h : okn d n) (l : n ≤ 64) : SeqAt.shaped d = true := by
  unfold SeqAt.shaped
  rw [h.1, decide_eq_true (Nat.le_trans h.2 l)]
  rfl
theorem eqY_self {d : PyData} {n : Nat} (h : okn d n) (l : n ≤ 64) : eqYO ⟨d⟩ ⟨d⟩ = some true := by
  unfold eqYO
  rw [if_pos ⟨okn_shaped h l, okn_shaped h l⟩]
  exact congrArg some (SeqAt.eqv_refl d h.1)
theorem ofTu (ds : List PyData) : (ofD ⟨.tuple ds⟩ : Option (Tu Dy)) = some ⟨ds.map Dy.mk⟩ := by
  have : ofAll (α := Dy) ds = some (ds.map Dy.mk) := by
    induction ds with
    | nil => rfl
    | cons d ds ih =>
      show (some (Dy.mk d)).bind (fun x => (ofAll ds).bind fun xs => some (x :: xs)) = _
      rw [ih]
      rfl
  show (ofAll (α := Dy) ds).map Tu.mk = _
  rw [this]
  rfl
theorem ofTu2 (ds : List (PyData × PyData)) : (ofD ⟨.tuple (ds.map fun p => .tuple [p.1, p.2])⟩ : Option (Tu (Dy × Dy × Unit))) = some ⟨ds.map fun p => (⟨p.1⟩, ⟨p.2⟩, ())⟩ := by
  have : ofAll (α := Dy × Dy × Unit) (ds.map fun p => .tuple [p.1, p.2]) = some (ds.map fun p => (⟨p.1⟩, ⟨p.2⟩, ())) := by
    induction ds with
    | nil => rfl
    | cons d ds ih =>
      rw [List.map_cons]
      show (some ((⟨d.1⟩, ⟨d.2⟩, ()) : Dy × Dy × Unit)).bind (fun x => (ofAll _).bind fun xs => some (x :: xs)) = _
      rw [ih]
      rfl
  show (ofAll (α := Dy × Dy × Unit) _).map Tu.mk = _
  rw [this]
  rfl
theorem of2 (a b : PyData) : (ofD ⟨.tuple [a, b]⟩ : Option (Dy × Dy × Unit)) = some (⟨a⟩, ⟨b⟩, ()) := rfl
theorem of3 (a b c : PyData) : (ofD ⟨.tuple [a, b, c]⟩ : Option (Dy × Dy × Dy × Unit)) = some (⟨a⟩, ⟨b⟩, ⟨c⟩, ()) := rfl
theorem of4 (a b c d : PyData) : (ofD ⟨.tuple [a, b, c, d]⟩ : Option (Dy × Dy × Dy × Dy × Unit)) = some (⟨a⟩, ⟨b⟩, ⟨c⟩, ⟨d⟩, ()) := rfl
theorem of5 (a b c d e : PyData) : (ofD ⟨.tuple [a, b, c, d, e]⟩ : Option (Dy × Dy × Dy × Dy × Dy × Unit)) = some (⟨a⟩, ⟨b⟩, ⟨c⟩, ⟨d⟩, ⟨e⟩, ()) := rfl
theorem ofS (s : Str) : (ofD ⟨.str s⟩ : Option Str) = some s := rfl
theorem ofI (i : Int) : (ofD ⟨.int i⟩ : Option Int) = some i := rfl
theorem at2_0 {α : Type} (a b : α) : atI [a, b] (0 : Int) = some a := rfl
theorem at2_1 {α : Type} (a b : α) : atI [a, b] (1 : Int) = some b := rfl
theorem at3_0 {α : Type} (a b c : α) : atI [a, b, c] (0 : Int) = some a := rfl
theorem at3_1 {α : Type} (a b c : α) : atI [a, b, c] (1 : Int) = some b := rfl
theorem at3_2 {α : Type} (a b c : α) : atI [a, b, c] (2 : Int) = some c := rfl
theorem at4_0 {α : Type} (a b c d : α) : atI [a, b, c, d] (0 : Int) = some a := rfl
theorem at4_1 {α : Type} (a b c d : α) : atI [a, b, c, d] (1 : Int) = some b := rfl
theorem at4_2 {α : Type} (a b c d : α) : atI [a, b, c, d] (2 : Int) = some c := rfl
theorem at4_3 {α : Type} (a b c d : α) : atI [a, b, c, d] (3 : Int) = some d := rfl
theorem at5_4 {α : Type} (a b c d e : α) : atI [a, b, c, d, e] (4 : Int) = some e := rfl
theorem mapD (ds : List PyData) : (ds.map Dy.mk).map Ud.toD = ds := by
  rw [List.map_map]
  exact List.map_id _
theorem lcGo_pair {β γ : Type} {f : β → Option γ} {xs : List β} {ys : List γ} (h : Paired (fun x y => f x = some y) xs ys) : lcGo (fun _ => some true) f xs = some ys := by
  induction h with
  | nil => rfl
  | @cons x y xs ys h _ ih =>
    show (f x).bind (fun z => (lcGo _ f xs).bind fun zs => some (z :: zs)) = _
    rw [h, bs, ih]
    rfl
theorem lcM_pair {β γ : Type} {f : β → Option γ} {xs : List β} {ys : List γ} (hl : xs.length < 1000000) (h : Paired (fun x y => f x = some y) xs ys) : lcM (fun _ => some true) f xs = some ys := by
  unfold lcM
  rw [if_pos hl, lcGo_pair h]
theorem Paired.map2 {α β γ δ : Type} {R : α → β → Prop} {S : γ → δ → Prop} {f : α → γ} {g : β → δ} (hf : ∀ a b, R a b → S (f a) (g b)) : ∀ {xs : List α} {ys : List β}, Paired R xs ys → Paired S (xs.map f) (ys.map g)
  | _, _, .nil => .nil
  | _, _, .cons h t => .cons (hf _ _ h) (Paired.map2 hf t)
theorem Paired.flip {α β : Type} {R : α → β → Prop} {S : β → α → Prop} (hf : ∀ a b, R a b → S b a) : ∀ {xs : List α} {ys : List β}, Paired R xs ys → Paired S ys xs
  | _, _, .nil => .nil
  | _, _, .cons h t => .cons (hf _ _ h) (Paired.flip hf t)
theorem Paired.memL {α β : Type} {R : α → β → Prop} : ∀ {xs : List α} {ys : List β}, Paired R xs ys → ∀ x ∈ xs, ∃ y ∈ ys, R x y
  | _, _, .cons h t, x, hx => by
    rcases List.mem_cons.mp hx with rfl | hx
    · exact ⟨_, List.mem_cons_self, h⟩
    · obtain ⟨y, h1, h2⟩ := Paired.memL t x hx
      exact ⟨y, List.mem_cons_of_mem _ h1, h2⟩
/-! isinstance of values of any kind, all kinds -/
theorem isT (d : PyData) : isiD ⟨d⟩ "tuple" = (match d with | .tuple _ => true | _ => false) := by cases d <;> (first | rfl | decide)
theorem isS (d : PyData) : isiD ⟨d⟩ "str" = (match d with | .str _ => true | _ => false) := by cases d <;> (first | rfl | decide)
theorem isI (d : PyData) : isiD ⟨d⟩ "int" = (match d with | .int _ => true | .bool _ => true | _ => false) := by cases d <;> (first | rfl | decide)
theorem isB (d : PyData) : isiD ⟨d⟩ "bool" = (match d with | .bool _ => true | _ => false) := by cases d <;> (first | rfl | decide)
theorem isL (d : PyData) : isiD ⟨d⟩ "list" = (match d with | .list _ => true | _ => false) := by cases d <;> (first | rfl | decide)
theorem nf : ¬ (false = true) := Bool.false_ne_true
/-! the checker of trees, as a plain function of data -/
def isWhole (d : PyData) (a b : Int) : Bool := match d with
  | .int i => decide (a ≤ i) && decide (i ≤ b)
  | _ => false
theorem whole_is (d : PyData) (a b : Int) : m_is_whole ⟨d⟩ a b = some (isWhole d a b) := by
  unfold m_is_whole
  rw [isI, isB]
  cases d <;> rfl
def isPair (d : PyData) (a b : Int) : Bool := match d with
  | .tuple [x, y] => isWhole x a b && isWhole y a b
  | _ => false
theorem dyl (xs : List PyData) : (xs.map Dy.mk).length = xs.length := List.length_map ..
theorem pair_is (d : PyData) (a b : Int) : m_is_pair ⟨d⟩ a b = some (isPair d a b) := by
  unfold m_is_pair
  rw [isT]
  cases d with
  | tuple xs =>
    simp only [Bool.not_true, Bool.false_eq_true, if_false, ofTu, bs, dyl]
    by_cases h : xs.length = 2
    · match xs, h with
      | [x, y], _ =>
        rw [if_neg (by first | decide | exact nf)]
        simp only [List.map_cons, List.map_nil, at2_0, at2_1, bs, whole_is]
        show Option.bind (if isWhole x a b = true then _ else _) _ = _
        unfold isPair
        dsimp only
        cases isWhole x a b <;> rfl
    · rw [if_pos (by rw [decide_eq_false (by omega)]; rfl)]
      unfold isPair
      match xs, h with
      | [], _ => rfl
      | [_], _ => rfl
      | _ :: _ :: _ :: _, _ => rfl
  | _ => rfl
def isSpan (d : PyData) : Bool := match d with
  | .tuple [.int a, .int b] => decide (0 ≤ a) && decide (b ≤ 1000000) && decide (a ≤ b)
  | _ => false
theorem span_is (d : PyData) : m_is_span ⟨d⟩ = some (isSpan d) := by
  unfold m_is_span
  rw [pair_is, bs]
  unfold isPair isSpan
  cases d with
  | tuple xs =>
    match xs with
    | [x, y] =>
      cases x with
      | int i =>
        cases y with
        | int j =>
          show Option.bind (if (isWhole (.int i) 0 1000000 && isWhole (.int j) 0 1000000) = true then _ else _) _ = _
          unfold isWhole
          by_cases h : (decide ((0 : Int) ≤ i) && decide (i ≤ 1000000) && (decide ((0 : Int) ≤ j) && decide (j ≤ 1000000))) = true
          · rw [if_pos h]
            simp only [Bool.and_eq_true, decide_eq_true_eq] at h
            show some (decide (i ≤ j)) = some (decide ((0 : Int) ≤ i) && decide (j ≤ 1000000) && decide (i ≤ j))
            rw [decide_eq_true h.1.1, decide_eq_true h.2.2]
            rfl
          · rw [if_neg h]
            simp only [Bool.and_eq_true, decide_eq_true_eq] at h
            refine congrArg some (Eq.symm ?_)
            show (decide ((0 : Int) ≤ i) && decide (j ≤ 1000000) && decide (i ≤ j)) = false
            rw [Bool.eq_false_iff]
            intro z
            simp only [Bool.and_eq_true, decide_eq_true_eq] at z
            exact h ⟨⟨by omega, by omega⟩, by omega, by omega⟩
        | _ =>
          show (Option.bind (if (isWhole (.int i) 0 1000000 && false) = true then _ else _) _) = _
          rw [Bool.and_false]
          rfl
      | _ =>
        show (Option.bind (if (false && _) = true then _ else _) _) = _
        rw [Bool.false_and]
        rfl
    | [] => rfl
    | [a] => cases a <;> rfl
    | a :: b :: _ :: _ => cases a <;> cases b <;> rfl
  | _ => rfl
def isOwn (d : PyData) : Bool := match d with
  | .tuple [w, h, g, s, r, l] => isSpan w && isSpan h && isWhole g 0 99 && isWhole s 0 99 && isWhole r 0 9 && isWhole l 0 9
  | _ => false
theorem at6_0 {α : Type} (a b c d e f : α) : atI [a, b, c, d, e, f] (0 : Int) = some a := rfl
theorem at6_1 {α : Type} (a b c d e f : α) : atI [a, b, c, d, e, f] (1 : Int) = some b := rfl
theorem at6_2 {α : Type} (a b c d e f : α) : atI [a, b, c, d, e, f] (2 : Int) = some c := rfl
theorem at6_3 {α : Type} (a b c d e f : α) : atI [a, b, c, d, e, f] (3 : Int) = some d := rfl
theorem at6_4 {α : Type} (a b c d e f : α) : atI [a, b, c, d, e, f] (4 : Int) = some e := rfl
theorem at6_5 {α : Type} (a b c d e f : α) : atI [a, b, c, d, e, f] (5 : Int) = some f := rfl
theorem own_is (d : PyData) : m_is_own ⟨d⟩ = some (isOwn d) := by
  unfold m_is_own
  rw [isT]
  cases d with
  | tuple xs =>
    simp only [Bool.not_true, Bool.false_eq_true, if_false, ofTu, bs, dyl]
    by_cases h : xs.length = 6
    · match xs, h with
      | [w, h, g, s, r, l], _ =>
        rw [if_neg (by first | decide | exact nf)]
        simp only [List.map_cons, List.map_nil, at6_0, at6_1, at6_2, at6_3, at6_4, at6_5, bs, whole_is, span_is]
        unfold isOwn
        dsimp only
        cases isSpan w <;> cases isSpan h <;> cases isWhole g 0 99 <;> cases isWhole s 0 99 <;> cases isWhole r 0 9 <;> cases isWhole l 0 9 <;> rfl
    · rw [if_pos (by rw [decide_eq_false (by omega)]; rfl)]
      unfold isOwn
      match xs, h with
      | [], _ => rfl
      | [_], _ => rfl
      | [_, _], _ => rfl
      | [_, _, _], _ => rfl
      | [_, _, _, _], _ => rfl
      | [_, _, _, _, _], _ => rfl
      | _ :: _ :: _ :: _ :: _ :: _ :: _ :: _, _ => rfl
  | _ => rfl
def isWord (d : PyData) (ws : List Str) : Bool := match d with
  | .str s => decide (s ∈ ws)
  | _ => false
theorem word_is (d : PyData) (ws : List Str) : m_is_word ⟨d⟩ (Kt.mk ws) = some (isWord d ws) := by
  unfold m_is_word
  rw [isS]
  cases d <;> rfl
abbrev ALIGNS : List Str := ["start", "end", "mid", "mid2"]
abbrev SIDES : List Str := ["left", "right"]
abbrev LINES : List Str := ["row", "column", "wrap"]
def lineOk (what : PyData) (n : Nat) : Bool := match what with
  | .tuple [g, a, s] => decide (n ≤ 20) && isWhole g 0 1000 && isWord a ALIGNS && isWord s SIDES
  | _ => false
theorem line_is (what : PyData) (ps : List PyData) : m_line_ok ⟨what⟩ ⟨.tuple ps⟩ = some (lineOk what ps.length) := by
  unfold m_line_ok
  rw [isT]
  cases what with
  | tuple xs =>
    simp only [Bool.not_true, Bool.false_eq_true, if_false, ofTu, bs, dyl]
    by_cases h : xs.length = 3
    · match xs, h with
      | [g, a, s], _ =>
        rw [if_neg (by first | decide | exact nf)]
        simp only [List.map_cons, List.map_nil, at3_0, at3_1, at3_2, bs, whole_is, word_is]
        unfold lineOk
        dsimp only
        by_cases hn : ps.length ≤ 20
        · rw [if_neg (by rw [decide_eq_true_eq]; omega), decide_eq_true hn]
          cases isWhole g 0 1000 <;> cases isWord a ALIGNS <;> cases isWord s SIDES <;> rfl
        · rw [if_pos (by rw [decide_eq_true_eq]; omega), decide_eq_false hn]
          rfl
    · rw [if_pos (by rw [decide_eq_false (by omega)]; rfl)]
      unfold lineOk
      match xs, h with
      | [], _ => rfl
      | [_], _ => rfl
      | [_, _], _ => rfl
      | _ :: _ :: _ :: _ :: _, _ => rfl
  | _ => rfl
/-! texts and their signs -/
abbrev SMALL : Str := "abcdefghijklmnopqrstuvwxyz"
abbrev PIECE : Str := "!\"#$&'()*+,-./0123456789:;<=>?\u0040ABCDEFGHIJKLMNOPQRSTUVWXYZ[\\]^_`abcdefghijklmnopqrstuvwxyz{}~"
def signsIn (z tab : Str) : Bool := z.cps.toList.all fun c => decide (c ∈ tab.cps.toList)
theorem sgn_len (z : Str) : (sgn z).length = z.length := by
  unfold sgn
  rw [List.length_map, Array.length_toList]
  rfl
theorem inSO_sgn (c : Nat) (z : Str) : inSO ⟨#[c]⟩ z = some (decide (c ∈ z.cps.toList)) := rfl
def isName (d : PyData) : Bool := match d with
  | .str z => decide (1 ≤ z.length) && decide (z.length ≤ 8) && signsIn z SMALL
  | _ => false
/-- texts and tuples that are no longer than a million -/
def sm (d : PyData) : Prop := match d with
  | .str z => z.length < 1000000
  | .tuple xs => xs.length < 1000000
  | .list xs => xs.length < 1000000
  | _ => True
theorem name_is (d : PyData) (h : sm d) : m_is_name ⟨d⟩ = some (isName d) := by
  unfold m_is_name
  rw [isS]
  cases d with
  | str z =>
    have h : z.length < 1000000 := h
    simp only [Bool.not_true, Bool.false_eq_true, if_false, ofS, bs, lenS_ok (show z.length ≤ 1000000 by omega)]
    unfold isName
    dsimp only
    by_cases h1 : 1 ≤ z.length ∧ z.length ≤ 8
    · rw [decide_eq_true (show (1 : Int) ≤ (z.length : Int) by omega), decide_eq_true (show (z.length : Int) ≤ 8 by omega), if_neg (by first | decide | exact nf), decide_eq_true h1.1, decide_eq_true h1.2]
      rw [lcM_all (fun x : Str => x.cps.toList.all fun c => decide (c ∈ SMALL.cps.toList)) (by rw [sgn_len]; exact h) (fun x hx => by
        unfold sgn at hx
        obtain ⟨c, _, rfl⟩ := List.mem_map.mp hx
        rw [inSO_sgn, bs]
        simp), bs]
      refine congrArg some ?_
      rw [Bool.true_and, Bool.true_and]
      unfold signsIn sgn
      rw [List.map_map]
      simp [List.all_map, Function.comp_def]
    · rw [if_pos (by
        rw [Bool.not_eq_true', Bool.and_eq_false_iff, decide_eq_false_iff_not, decide_eq_false_iff_not]
        omega)]
      refine congrArg some (Eq.symm ?_)
      show (decide (1 ≤ z.length) && decide (z.length ≤ 8) && signsIn z SMALL) = false
      rw [Bool.eq_false_iff]
      intro q
      simp only [Bool.and_eq_true, decide_eq_true_eq] at q
      exact h1 q.1
  | _ => rfl
def isPiece (d : PyData) : Bool := match d with
  | .str z => decide (1 ≤ z.length) && decide (z.length ≤ 12) && signsIn z PIECE
  | _ => false
theorem piece_is (d : PyData) (h : sm d) : m_is_piece ⟨d⟩ = some (isPiece d) := by
  unfold m_is_piece
  rw [isS]
  cases d with
  | str z =>
    have h : z.length < 1000000 := h
    simp only [Bool.not_true, Bool.false_eq_true, if_false, ofS, bs, lenS_ok (show z.length ≤ 1000000 by omega)]
    unfold isPiece
    dsimp only
    by_cases h1 : 1 ≤ z.length ∧ z.length ≤ 12
    · rw [decide_eq_true (show (1 : Int) ≤ (z.length : Int) by omega), decide_eq_true (show (z.length : Int) ≤ 12 by omega), if_neg (by first | decide | exact nf), decide_eq_true h1.1, decide_eq_true h1.2]
      have e := forC_any (f := m_is_piece_L1) (r := false) (fun x : Str => !(x.cps.toList.all fun c => decide (c ∈ PIECE.cps.toList))) (xs := sgn z) (fun x hx => by
        unfold sgn at hx
        obtain ⟨c, _, rfl⟩ := List.mem_map.mp hx
        unfold m_is_piece_L1
        rw [inSO_sgn, bs]
        show _ = some (if (!([c].all fun c => decide (c ∈ PIECE.cps.toList))) = true then _ else _)
        rw [List.all_cons, List.all_nil, Bool.and_true]
        cases decide (c ∈ PIECE.cps.toList) <;> rfl)
      rw [e]
      have e2 : ((sgn z).any fun x : Str => !(x.cps.toList.all fun c => decide (c ∈ PIECE.cps.toList))) = !signsIn z PIECE := by
        unfold sgn signsIn
        rw [List.any_map, List.not_all_eq_any_not]
        refine congrArg (fun f => z.cps.toList.any f) (funext fun c => ?_)
        show (!([c].all fun c => decide (c ∈ PIECE.cps.toList))) = _
        rw [List.all_cons, List.all_nil, Bool.and_true]
      rw [e2]
      cases signsIn z PIECE <;> rfl
    · rw [if_pos (by
        rw [Bool.not_eq_true', Bool.and_eq_false_iff, decide_eq_false_iff_not, decide_eq_false_iff_not]
        omega)]
      refine congrArg some (Eq.symm ?_)
      show (decide (1 ≤ z.length) && decide (z.length ≤ 12) && signsIn z PIECE) = false
      rw [Bool.eq_false_iff]
      intro q
      simp only [Bool.and_eq_true, decide_eq_true_eq] at q
      exact h1 q.1
  | _ => rfl
/-! words, joints, sides, anchors -/
def wordLen (d : PyData) : Nat := match d with
  | .tuple ps => ps.length
  | _ => 0
def wordOk (d : PyData) : Bool := match d with
  | .tuple ps => decide (1 ≤ ps.length) && decide (ps.length ≤ 6) && ps.all isPiece
  | _ => false
def areWords (d : PyData) : Bool := match d with
  | .tuple ws => ws.all wordOk && decide ((ws.map wordLen).sum ≤ 60)
  | _ => false
/-- small within words -/
def smW (d : PyData) : Prop := match d with
  | .tuple ws => ∀ w ∈ ws, sm w ∧ match w with
    | .tuple ps => ∀ p ∈ ps, sm p
    | _ => True
  | _ => True
theorem all_false (xs : List Bool) : decide (false ∈ xs) = !(xs.all id) := by
  induction xs with
  | nil => rfl
  | cons x r ih =>
    rw [List.all_cons, Bool.not_and, ← ih]
    cases x <;> simp
theorem words_go : ∀ (ws : List PyData) (n : Nat), (∀ w ∈ ws, sm w ∧ match w with | .tuple ps => ∀ p ∈ ps, sm p | _ => True) →
    forC m_are_words_L1 (ws.map Dy.mk) (n : Int) = if ws.all wordOk = true then some (.nx ((n + (ws.map wordLen).sum : Nat) : Int)) else some (.rt false)
  | [], n, _ => rfl
  | w :: ws, n, h => by
    obtain ⟨h1, h2⟩ := h w List.mem_cons_self
    have ih := words_go ws
    have e : m_are_words_L1 ⟨w⟩ (n : Int) = if wordOk w = true then some (.nx ((n + wordLen w : Nat) : Int)) else some (.rt false) := by
      unfold m_are_words_L1
      rw [isT]
      cases w with
      | tuple ps =>
        have h1 : ps.length < 1000000 := h1
        have h2 : ∀ p ∈ ps, sm p := h2
        simp only [Bool.not_true, Bool.false_eq_true, if_false, ofTu, bs, dyl]
        by_cases q : 1 ≤ ps.length ∧ ps.length ≤ 6
        · rw [decide_eq_true (show (1 : Int) ≤ (ps.length : Int) by omega), decide_eq_true (show (ps.length : Int) ≤ 6 by omega), if_neg (by first | decide | exact nf)]
          rw [show wordOk (.tuple ps) = ps.all isPiece by
            unfold wordOk
            dsimp only
            rw [decide_eq_true q.1, decide_eq_true q.2]
            rfl, show wordLen (.tuple ps) = ps.length from rfl]
          rw [lcM_all (fun x : Dy => isPiece x.d) (by rw [dyl]; exact h1) (fun x hx => by
            obtain ⟨p, hp, rfl⟩ := List.mem_map.mp hx
            rw [piece_is p (h2 p hp), bs]), bs, all_false]
          have e2 : ((ps.map Dy.mk).map fun x : Dy => isPiece x.d).all id = ps.all isPiece := by
            rw [List.map_map, List.all_map]
            rfl
          rw [e2]
          cases ps.all isPiece with
          | true =>
            rw [if_neg (by first | decide | exact nf), if_pos (by first | decide | exact rfl)]
            show some (Ctl.nx ((n : Int) + (ps.length : Int))) = _
            rw [show ((n : Int) + (ps.length : Int)) = ((n + ps.length : Nat) : Int) by omega]
          | false => rfl
        · rw [if_pos (by
            rw [Bool.not_eq_true', Bool.and_eq_false_iff, decide_eq_false_iff_not, decide_eq_false_iff_not]
            omega), if_neg (by
            unfold wordOk
            dsimp only
            intro z
            simp only [Bool.and_eq_true, decide_eq_true_eq] at z
            exact q z.1)]
      | _ => rfl
    rw [List.map_cons]
    unfold forC
    rw [e, List.all_cons]
    cases hw : wordOk w with
    | true =>
      rw [if_pos rfl, bs, Bool.true_and]
      show forC m_are_words_L1 (ws.map Dy.mk) ((n + wordLen w : Nat) : Int) = _
      rw [ih (n + wordLen w) (fun v hv => h v (List.mem_cons_of_mem _ hv)), List.map_cons, List.sum_cons, Nat.add_assoc]
    | false => rfl
theorem are_words_is (d : PyData) (h : smW d) : m_are_words ⟨d⟩ = some (areWords d) := by
  unfold m_are_words
  rw [isT]
  cases d with
  | tuple ws =>
    have h : ∀ w ∈ ws, sm w ∧ match w with | .tuple ps => ∀ p ∈ ps, sm p | _ => True := h
    simp only [Bool.not_true, Bool.false_eq_true, if_false, ofTu, bs]
    rw [show (0 : Int) = ((0 : Nat) : Int) from rfl, words_go ws 0 h]
    unfold areWords
    dsimp only
    cases ws.all wordOk with
    | true =>
      rw [if_pos rfl, bs]
      show some (decide (((0 + (ws.map wordLen).sum : Nat) : Int) ≤ 60)) = _
      rw [Nat.zero_add, Bool.true_and]
      exact congrArg some (decide_eq_decide.mpr (by omega))
    | false => rfl
  | _ => rfl
def isNil (d : PyData) : Bool := match d with
  | .tuple [] => true
  | _ => false
theorem nil_is {ps : List PyData} (h : SeqAt.shaped (.tuple ps) = true) : eqYO ⟨.tuple ps⟩ (upD (Tu.mk ([] : List Int))) = some (isNil (.tuple ps)) := by
  unfold eqYO
  rw [if_pos ⟨h, rfl⟩]
  cases ps with
  | nil => rfl
  | cons p ps =>
    show some (PyData.eqv (.tuple (p :: ps)) (.tuple [])) = _
    simp [PyData.eqv, PyData.eqvAll, isNil]
def isJoint (d : PyData) : Bool := isWhole d 0 999
theorem joint_is (d : PyData) : m_is_joint ⟨d⟩ = some (isJoint d) := by
  unfold m_is_joint
  rw [isI, isB]
  cases d <;> rfl
def wordsOk (what : PyData) (ps : List PyData) : Bool := match what with
  | .tuple [w, j] => isNil (.tuple ps) && areWords w && isJoint j
  | _ => false
theorem words_ok_is (what : PyData) (ps : List PyData) (h : SeqAt.shaped (.tuple ps) = true) (hw : ∀ w j, what = .tuple [w, j] → smW w) : m_words_ok ⟨what⟩ ⟨.tuple ps⟩ = some (wordsOk what ps) := by
  unfold m_words_ok
  rw [isT]
  cases what with
  | tuple xs =>
    simp only [Bool.not_true, Bool.false_eq_true, if_false, ofTu, bs, dyl]
    by_cases q : xs.length = 2
    · match xs, q, hw with
      | [w, j], _, hw =>
        rw [if_neg (by first | decide | exact nf), nil_is h]
        simp only [List.map_cons, List.map_nil, at2_0, at2_1, bs, are_words_is w (hw w j rfl), joint_is]
        unfold wordsOk
        dsimp only
        cases isNil (.tuple ps) <;> cases areWords w <;> cases isJoint j <;> rfl
    · rw [if_pos (by rw [decide_eq_false (by omega)]; rfl)]
      unfold wordsOk
      match xs, q with
      | [], _ => rfl
      | [_], _ => rfl
      | _ :: _ :: _ :: _, _ => rfl
  | _ => rfl
def isSide (d : PyData) : Bool := isWord d SIDES
def isTxt (d : PyData) : Bool := match d with
  | .str _ => true
  | _ => false
def flowOk (what : PyData) (ps : List PyData) : Bool := match what with
  | .tuple [.tuple sides, w, j] => decide (ps.length ≤ 12) && decide (sides.length = ps.length) && sides.all isTxt && sides.all isSide && areWords w && isJoint j
  | _ => false
theorem flow_ok_is (what : PyData) (ps : List PyData) (hw : ∀ s w j, what = .tuple [s, w, j] → smW w ∧ sm s) : m_flow_ok ⟨what⟩ ⟨.tuple ps⟩ = some (flowOk what ps) := by
  unfold m_flow_ok
  rw [isT]
  cases what with
  | tuple xs =>
    simp only [Bool.not_true, Bool.false_eq_true, if_false, ofTu, bs, dyl]
    by_cases q : xs.length = 3
    · match xs, q, hw with
      | [s, w, j], _, hw =>
        obtain ⟨hw1, hw2⟩ := hw s w j rfl
        rw [if_neg (by first | decide | exact nf)]
        simp only [List.map_cons, List.map_nil, at3_0, at3_1, at3_2, bs, isT]
        cases s with
        | tuple sides =>
          have hw2 : sides.length < 1000000 := hw2
          simp only [Bool.not_true, Bool.false_eq_true, if_false, ofTu, bs, dyl]
          unfold flowOk
          dsimp only
          by_cases h1 : ps.length ≤ 12
          · rw [if_neg (by rw [decide_eq_true_eq]; omega), decide_eq_true h1]
            by_cases h2 : sides.length = ps.length
            · rw [if_neg (by rw [decide_eq_true (show (sides.length : Int) = (ps.length : Int) by omega)]; decide), decide_eq_true h2]
              rw [lcM_all (fun x : Dy => isTxt x.d) (by rw [dyl]; exact hw2) (fun x hx => by
                rw [isS]
                cases x.d <;> rfl), bs, bs, all_false]
              have e2 : ((sides.map Dy.mk).map fun x : Dy => isTxt x.d).all id = sides.all isTxt := by
                rw [List.map_map, List.all_map]
                rfl
              rw [e2]
              cases ht : sides.all isTxt with
              | false => rfl
              | true =>
                rw [if_neg (by first | decide | exact nf)]
                rw [lcM_all (fun x : Dy => isSide x.d) (by rw [dyl]; exact hw2) (fun x hx => by
                  obtain ⟨p, hp, rfl⟩ := List.mem_map.mp hx
                  have := List.all_eq_true.mp ht p hp
                  cases p with
                  | str z => rfl
                  | _ => cases this), bs, all_false]
                have e3 : ((sides.map Dy.mk).map fun x : Dy => isSide x.d).all id = sides.all isSide := by
                  rw [List.map_map, List.all_map]
                  rfl
                rw [e3, are_words_is w hw1, bs, joint_is]
                cases sides.all isSide <;> cases areWords w <;> cases isJoint j <;> rfl
            · rw [if_pos (by rw [decide_eq_false (show ¬ (sides.length : Int) = (ps.length : Int) by omega)]; rfl), decide_eq_false h2]
              rfl
          · rw [if_pos (by rw [decide_eq_true_eq]; omega), decide_eq_false h1]
            rfl
        | _ => rfl
    · rw [if_pos (by rw [decide_eq_false (by omega)]; rfl)]
      unfold flowOk
      match xs, q with
      | [], _ => rfl
      | [a], _ => cases a <;> rfl
      | [a, _], _ => cases a <;> rfl
      | a :: _ :: _ :: _ :: _, _ => cases a <;> rfl
  | _ => rfl
def isAnchor (d : PyData) : Bool := match d with
  | .tuple [.str w, b] => decide (w ∈ (["start", "mid", "mid2", "end"] : List Str)) && isWhole b (-1000000) 1000000
  | _ => false
theorem anchor_is (d : PyData) : m_is_anchor ⟨d⟩ = some (isAnchor d) := by
  unfold m_is_anchor
  rw [isT]
  cases d with
  | tuple xs =>
    simp only [Bool.not_true, Bool.false_eq_true, if_false, ofTu, bs, dyl]
    by_cases q : xs.length = 2
    · match xs, q with
      | [s, b], _ =>
        rw [if_neg (by first | decide | exact nf)]
        simp only [List.map_cons, List.map_nil, at2_0, at2_1, bs, isS, isI, isB]
        cases s with
        | str z =>
          simp only [Bool.not_true, Bool.false_eq_true, if_false, ofS, bs]
          unfold isAnchor
          dsimp only
          cases hz : decide (z ∈ (["start", "mid", "mid2", "end"] : List Str)) with
          | true =>
            rw [if_neg (by first | decide | exact nf)]
            cases b <;> rfl
          | false => rfl
        | _ => rfl
    · rw [if_pos (by rw [decide_eq_false (by omega)]; rfl)]
      unfold isAnchor
      match xs, q with
      | [], _ => rfl
      | [a], _ => cases a <;> rfl
      | a :: _ :: _ :: _, _ => cases a <;> rfl
  | _ => rfl
def isPairA (d : PyData) : Bool := match d with
  | .tuple [a, b] => isAnchor a && isAnchor b
  | _ => false
def overOk (what : PyData) (ps : List PyData) : Bool := match what with
  | .tuple prs => decide (1 ≤ ps.length) && decide (ps.length ≤ 12) && decide (prs.length + 1 = ps.length) && prs.all isPairA
  | _ => false
theorem over_L1 (d : PyData) : m_over_ok_L1 ⟨d⟩ () = some (if (!isPairA d) = true then .rt false else .nx ()) := by
  unfold m_over_ok_L1
  rw [isT]
  cases d with
  | tuple xs =>
    simp only [Bool.not_true, Bool.false_eq_true, if_false, ofTu, bs, dyl]
    by_cases q : xs.length = 2
    · match xs, q with
      | [a, b], _ =>
        rw [if_neg (by first | decide | exact nf)]
        simp only [List.map_cons, List.map_nil, at2_0, at2_1, bs, anchor_is]
        unfold isPairA
        dsimp only
        rcases Bool.eq_false_or_eq_true (isAnchor a) with e1 | e1 <;> rcases Bool.eq_false_or_eq_true (isAnchor b) with e2 | e2 <;> simp only [e1, e2] <;> rfl
    · rw [if_pos (by rw [decide_eq_false (by omega)]; rfl)]
      unfold isPairA
      match xs, q with
      | [], _ => rfl
      | [_], _ => rfl
      | _ :: _ :: _ :: _, _ => rfl
  | _ => rfl
theorem over_ok_is (what : PyData) (ps : List PyData) : m_over_ok ⟨what⟩ ⟨.tuple ps⟩ = some (overOk what ps) := by
  unfold m_over_ok
  rw [isT]
  cases what with
  | tuple prs =>
    simp only [Bool.not_true, Bool.false_eq_true, if_false, ofTu, bs, dyl]
    unfold overOk
    dsimp only
    by_cases h1 : 1 ≤ ps.length ∧ ps.length ≤ 12
    · rw [decide_eq_true (show (1 : Int) ≤ (ps.length : Int) by omega), decide_eq_true (show (ps.length : Int) ≤ 12 by omega), if_neg (by first | decide | exact nf), decide_eq_true h1.1, decide_eq_true h1.2]
      by_cases h2 : prs.length + 1 = ps.length
      · rw [decide_eq_true (show (prs.length : Int) = (ps.length : Int) - 1 by omega)]
        simp only [bs]
        rw [if_neg (by first | decide | exact nf), decide_eq_true h2]
        rw [forC_any (f := m_over_ok_L1) (r := false) (fun x : Dy => !isPairA x.d) (xs := prs.map Dy.mk) (fun x _ => over_L1 x.d)]
        have e : ((prs.map Dy.mk).any fun x : Dy => !isPairA x.d) = !prs.all isPairA := by
          rw [List.any_map, List.not_all_eq_any_not]
          rfl
        rw [e]
        cases prs.all isPairA <;> rfl
      · rw [decide_eq_false (show ¬ (prs.length : Int) = (ps.length : Int) - 1 by omega), decide_eq_false h2]
        rfl
    · rw [if_pos (by
        rw [Bool.not_eq_true', Bool.and_eq_false_iff, decide_eq_false_iff_not, decide_eq_false_iff_not]
        omega)]
      refine congrArg some (Eq.symm ?_)
      rw [Bool.eq_false_iff]
      intro z
      simp only [Bool.and_eq_true, decide_eq_true_eq] at z
      exact h1 z.1.1
  | _ => rfl
/-! tables, kinds, boxes -/
mutual
def smA : PyData → Bool
  | .str z => decide (z.length < 1000000)
  | .list xs => decide (xs.length < 1000000) && smAs xs
  | .tuple xs => decide (xs.length < 1000000) && smAs xs
  | _ => true
def smAs : List PyData → Bool
  | [] => true
  | x :: xs => smA x && smAs xs
end
theorem smAs_mem : ∀ {xs : List PyData}, smAs xs = true → ∀ x ∈ xs, smA x = true
  | [], _, _, h => nomatch h
  | y :: ys, h, x, hx => by
    simp only [smAs, Bool.and_eq_true] at h
    rcases List.mem_cons.mp hx with rfl | hx
    · exact h.1
    · exact smAs_mem h.2 x hx
theorem smA_tup {xs : List PyData} (h : smA (.tuple xs) = true) : xs.length < 1000000 ∧ ∀ x ∈ xs, smA x = true := by
  simp only [smA, Bool.and_eq_true, decide_eq_true_eq] at h
  exact ⟨h.1, smAs_mem h.2⟩
theorem smA_sm {d : PyData} (h : smA d = true) : sm d := by
  cases d with
  | str z =>
    simp only [smA, decide_eq_true_eq] at h
    exact h
  | list xs =>
    simp only [smA, Bool.and_eq_true, decide_eq_true_eq] at h
    exact h.1
  | tuple xs => exact (smA_tup h).1
  | _ => trivial
theorem smA_smW {d : PyData} (h : smA d = true) : smW d := by
  cases d with
  | tuple ws =>
    intro w hw
    have h1 := (smA_tup h).2 w hw
    refine ⟨smA_sm h1, ?_⟩
    cases w with
    | tuple ps => exact fun p hp => smA_sm ((smA_tup h1).2 p hp)
    | _ => trivial
  | _ => trivial
structure fit (d : PyData) : Prop where
  s : smA d = true
  k : okn d 60
theorem okn_child {xs : List PyData} {n : Nat} (h : okn (.tuple xs) n) : ∀ x ∈ xs, okn x n := by
  have h1 := h.1
  have h2 := h.2
  simp only [PyData.canLay0] at h1
  simp only [PyData.depth] at h2
  intro x hx
  have key : ∀ {ys : List PyData}, PyData.canLayAll0 ys = true → PyData.depthAll ys ≤ n → ∀ y ∈ ys, okn y n := by
    intro ys
    induction ys with
    | nil => intro _ _ y hy; cases hy
    | cons z zs ih =>
      intro a b y hy
      simp only [PyData.canLayAll0, Bool.and_eq_true] at a
      simp only [PyData.depthAll] at b
      rcases List.mem_cons.mp hy with rfl | hy
      · exact ⟨a.1, Nat.le_trans (Nat.le_max_left _ _) b⟩
      · exact ih a.2 (Nat.le_trans (Nat.le_max_right _ _) b) y hy
  exact key h1 (by omega) x hx
theorem fit.tup {xs : List PyData} (h : fit (.tuple xs)) : ∀ x ∈ xs, fit x := fun x hx => ⟨(smA_tup h.s).2 x hx, okn_child h.k x hx⟩
theorem fit.sh {d : PyData} (h : fit d) : SeqAt.shaped d = true := okn_shaped h.k (by omega)
/-- a pair of numbers -/
def prOf (d : PyData) : Int × Int × Unit := match d with
  | .tuple [.int a, .int b] => (a, b, ())
  | _ => (0, 0, ())
def spanIn (c : Int) (d : PyData) : Bool := isPair d 1 12 && decide ((prOf d).1 ≤ c)
noncomputable def rowsT (c : Int) (sp : List (Int × Int × Unit)) : Int := (m_rows_taken c (Tu.mk sp)).getD 0
def RowsT : Prop := ∀ (c : Int) (sp : List (Int × Int × Unit)), 1 ≤ c → c ≤ 12 → sp.length ≤ 40 → (∀ x ∈ sp, 1 ≤ x.1 ∧ x.1 ≤ c ∧ 1 ≤ x.2.1 ∧ x.2.1 ≤ 12) → ∃ R, m_rows_taken c (Tu.mk sp) = some R
theorem pair_of {d : PyData} {a b : Int} (h : isPair d a b = true) : ∃ i j, d = .tuple [.int i, .int j] ∧ a ≤ i ∧ i ≤ b ∧ a ≤ j ∧ j ≤ b := by
  unfold isPair at h
  match d, h with
  | .tuple [x, y], h =>
    rw [Bool.and_eq_true] at h
    obtain ⟨h1, h2⟩ := h
    unfold isWhole at h1 h2
    cases x with
    | int i =>
      cases y with
      | int j =>
        simp only [Bool.and_eq_true, decide_eq_true_eq] at h1 h2
        exact ⟨i, j, rfl, h1.1, h1.2, h2.1, h2.2⟩
      | _ => cases h2
    | _ => cases h1
theorem spans_of {c : Int} : ∀ {sp : List PyData}, sp.all (spanIn c) = true → (ofD ⟨.tuple sp⟩ : Option (Tu (Int × Int × Unit))) = some ⟨sp.map prOf⟩ ∧ ∀ x ∈ sp.map prOf, 1 ≤ x.1 ∧ x.1 ≤ c ∧ 1 ≤ x.2.1 ∧ x.2.1 ≤ 12 := by
  intro sp h
  have key : ∀ {sp : List PyData}, sp.all (spanIn c) = true → ofAll (α := Int × Int × Unit) sp = some (sp.map prOf) ∧ ∀ x ∈ sp.map prOf, 1 ≤ x.1 ∧ x.1 ≤ c ∧ 1 ≤ x.2.1 ∧ x.2.1 ≤ 12 := by
    intro sp
    induction sp with
    | nil => exact fun _ => ⟨rfl, fun x hx => nomatch hx⟩
    | cons d r ih =>
      intro h
      rw [List.all_cons, Bool.and_eq_true] at h
      obtain ⟨h1, h2⟩ := h
      unfold spanIn at h1
      rw [Bool.and_eq_true] at h1
      obtain ⟨i, j, rfl, a1, a2, a3, a4⟩ := pair_of h1.1
      have h3 : i ≤ c := of_decide_eq_true h1.2
      obtain ⟨e1, e2⟩ := ih h2
      refine ⟨?_, fun x hx => ?_⟩
      · show (some (i, j, ())).bind (fun x => (ofAll (α := Int × Int × Unit) r).bind fun xs => some (x :: xs)) = _
        rw [e1]
        rfl
      · rw [List.map_cons] at hx
        rcases List.mem_cons.mp hx with rfl | hx
        · exact ⟨a1, h3, a3, a4⟩
        · exact e2 x hx
  obtain ⟨e1, e2⟩ := key h
  refine ⟨?_, e2⟩
  show (ofAll (α := Int × Int × Unit) sp).map Tu.mk = _
  rw [e1]
  rfl
noncomputable def tableOk (what : PyData) (n : Nat) : Bool := match what with
  | .tuple [.int c, g, s, .tuple spans] => decide (n ≤ 40) && (decide (1 ≤ c) && decide (c ≤ 12)) && isWhole g 0 1000 && isWord s SIDES && decide (spans.length = n) && spans.all (spanIn c) && decide (rowsT c (spans.map prOf) ≤ 60)
  | _ => false
theorem table_L1 {what : PyData} {c : Int} {r : List PyData} (hw : what = .tuple (.int c :: r)) (d : PyData) : m_table_ok_L1 ⟨what⟩ ⟨d⟩ () = some (if (!spanIn c d) = true then .rt false else .nx ()) := by
  subst hw
  unfold m_table_ok_L1
  rw [pair_is, bs]
  unfold spanIn
  cases h : isPair d 1 12 with
  | false => rfl
  | true =>
    obtain ⟨i, j, rfl, _⟩ := pair_of h
    rw [if_neg (by first | decide | exact nf), ofTu, bs, ofTu]
    simp only [List.map_cons, List.map_nil, bs]
    rw [show atI [(⟨.int i⟩ : Dy), ⟨.int j⟩] (0 : Int) = some ⟨.int i⟩ from rfl, bs, show atI ((⟨.int c⟩ : Dy) :: r.map Dy.mk) (0 : Int) = some ⟨.int c⟩ from at_nat (k := 0) rfl, bs, ofI, bs, ofI, bs, bs]
    show (if decide (c < i) = true then some (Ctl.rt false) else some (Ctl.nx ())) = some (if (!(true && decide (i ≤ c))) = true then Ctl.rt false else Ctl.nx ())
    by_cases q : i ≤ c
    · rw [decide_eq_true q, decide_eq_false (show ¬ c < i by omega)]
      rfl
    · rw [decide_eq_false q, decide_eq_true (show c < i by omega)]
      rfl
theorem at4_k {α : Type} (a b c d : α) : atI [a, b, c, d] (0 : Int) = some a ∧ atI [a, b, c, d] (1 : Int) = some b ∧ atI [a, b, c, d] (2 : Int) = some c ∧ atI [a, b, c, d] (3 : Int) = some d := ⟨rfl, rfl, rfl, rfl⟩
theorem table_is (hR : RowsT) (what : PyData) (ps : List PyData) : m_table_ok ⟨what⟩ ⟨.tuple ps⟩ = some (tableOk what ps.length) := by
  unfold m_table_ok
  rw [isT]
  cases what with
  | tuple xs =>
    simp only [Bool.not_true, Bool.false_eq_true, if_false, ofTu, bs, dyl]
    by_cases q : xs.length = 4
    · match xs, q with
      | [c, g, s, sp], _ =>
        rw [if_neg (by first | decide | exact nf)]
        simp only [List.map_cons, List.map_nil, at4_0, at4_1, at4_2, at4_3, bs, whole_is, word_is, isT]
        by_cases h1 : ps.length ≤ 40
        · rw [if_neg (by rw [decide_eq_true_eq]; omega)]
          cases c with
          | int c =>
            by_cases hc : (decide (1 ≤ c) && decide (c ≤ 12)) = true
            · rw [show isWhole (.int c) 1 12 = true from hc]
              rw [if_neg (by first | decide | exact nf)]
              cases hg : isWhole g 0 1000 with
              | false =>
                unfold tableOk
                cases sp with
                | tuple spans =>
                  simp only [hg]
                  simp
                | _ => rfl
              | true =>
                simp only [Bool.not_true, Bool.false_eq_true, if_false, bs]
                cases hs : isWord s SIDES with
                | false =>
                  unfold tableOk
                  cases sp with
                  | tuple spans =>
                    simp only [hs]
                    simp
                  | _ => rfl
                | true =>
                  simp only [Bool.not_true, Bool.false_eq_true, if_false, bs]
                  unfold tableOk
                  cases sp with
                  | tuple spans =>
                    simp only [Bool.not_true, Bool.false_eq_true, if_false, ofTu, bs, dyl]
                    rw [decide_eq_true h1, hc, hg, hs]
                    by_cases h2 : spans.length = ps.length
                    · rw [if_neg (by rw [decide_eq_true (show (spans.length : Int) = (ps.length : Int) by omega)]; decide), decide_eq_true h2]
                      rw [forC_any (f := m_table_ok_L1 ⟨.tuple [.int c, g, s, .tuple spans]⟩) (r := false) (fun x : Dy => !spanIn c x.d) (xs := spans.map Dy.mk) (fun x _ => table_L1 rfl x.d)]
                      have e : ((spans.map Dy.mk).any fun x : Dy => !spanIn c x.d) = !spans.all (spanIn c) := by
                        rw [List.any_map, List.not_all_eq_any_not]
                        rfl
                      rw [e]
                      cases ha : spans.all (spanIn c) with
                      | false => rfl
                      | true =>
                        rw [if_neg (by first | decide | exact nf)]
                        simp only [bs]
                        obtain ⟨e1, e2⟩ := spans_of ha
                        simp only [Bool.and_eq_true, decide_eq_true_eq] at hc
                        obtain ⟨R, eR⟩ := hR c (spans.map prOf) hc.1 hc.2 (by rw [List.length_map]; omega) e2
                        rw [ofI, bs, e1, bs]
                        have e3 : rowsT c (spans.map prOf) = R := by
                          unfold rowsT
                          rw [eR]
                          rfl
                        rw [e3]
                        show ((m_rows_taken c (Tu.mk (spans.map prOf))).bind _) = _
                        rw [eR, bs]
                        rfl
                    · rw [if_pos (by rw [decide_eq_false (show ¬ (spans.length : Int) = (ps.length : Int) by omega)]; rfl), decide_eq_false h2]
                      rfl
                  | _ => rfl
            · have hc' : isWhole (.int c) 1 12 = false := by
                cases h : isWhole (.int c) 1 12 with
                | false => rfl
                | true => exact absurd h hc
              rw [hc', if_pos (by first | decide | exact rfl)]
              unfold tableOk
              cases sp with
              | tuple spans =>
                have : (decide (1 ≤ c) && decide (c ≤ 12)) = false := by
                  cases h : (decide (1 ≤ c) && decide (c ≤ 12)) with
                  | false => rfl
                  | true => exact absurd h hc
                simp only [this]
                simp
              | _ => rfl
          | _ => rfl
        · rw [if_pos (by rw [decide_eq_true_eq]; omega)]
          unfold tableOk
          cases c with
          | int c =>
            cases sp with
            | tuple spans =>
              simp only [decide_eq_false h1]
              simp
            | _ => rfl
          | _ => rfl
    · rw [if_pos (by rw [decide_eq_false (by omega)]; rfl)]
      unfold tableOk
      match xs, q with
      | [], _ => rfl
      | [a], _ => cases a <;> rfl
      | [a, _], _ => cases a <;> rfl
      | [a, _, _], _ => cases a <;> rfl
      | a :: _ :: _ :: d :: _ :: _, _ => cases a <;> cases d <;> rfl
  | _ => rfl
noncomputable def kindOk (kind what parts : PyData) : Bool := match kind, parts with
  | .str k, .tuple ps => if k = "leaf" then isNil (.tuple ps) && isPair what 0 1000000 else if k ∈ LINES then lineOk what ps.length else if k = "table" then tableOk what ps.length else if k = "words" then wordsOk what ps else if k = "flow" then flowOk what ps else decide (k = "over") && overOk what ps
  | _, _ => false
theorem kind_is (hR : RowsT) (kind what parts : PyData) (hw : fit what) (hp : fit parts) : m_kind_ok ⟨kind⟩ ⟨what⟩ ⟨parts⟩ = some (kindOk kind what parts) := by
  unfold m_kind_ok
  rw [isS, isT]
  cases kind with
  | str k =>
    cases parts with
    | tuple ps =>
      rw [if_neg (by first | decide | exact nf), ofS]
      simp only [bs]
      unfold kindOk
      dsimp only
      by_cases h1 : k = "leaf"
      · rw [if_pos (decide_eq_true h1), if_pos h1, nil_is hp.sh, bs, pair_is]
        cases isNil (.tuple ps) <;> rfl
      rw [if_neg (by rw [decide_eq_true_eq]; exact h1), if_neg h1]
      by_cases h2 : k ∈ LINES
      · rw [if_pos (decide_eq_true h2), if_pos h2, line_is, bs]
      rw [if_neg (by rw [decide_eq_true_eq]; exact h2), if_neg h2]
      by_cases h3 : k = "table"
      · rw [if_pos (decide_eq_true h3), if_pos h3, table_is hR, bs]
      rw [if_neg (by rw [decide_eq_true_eq]; exact h3), if_neg h3]
      by_cases h4 : k = "words"
      · rw [if_pos (decide_eq_true h4), if_pos h4, words_ok_is what ps hp.sh (fun w j e => by subst e; exact smA_smW (hw.tup w List.mem_cons_self).s), bs]
      rw [if_neg (by rw [decide_eq_true_eq]; exact h4), if_neg h4]
      by_cases h5 : k = "flow"
      · rw [if_pos (decide_eq_true h5), if_pos h5, flow_ok_is what ps (fun s w j e => by
          subst e
          exact ⟨smA_smW (hw.tup w (List.mem_cons_of_mem _ List.mem_cons_self)).s, smA_sm (hw.tup s List.mem_cons_self).s⟩), bs]
      rw [if_neg (by rw [decide_eq_true_eq]; exact h5), if_neg h5, over_ok_is]
      cases decide (k = "over") <;> rfl
    | _ => rfl
  | _ => rfl
def nameOf (d : PyData) : Option Str := match d with
  | .tuple [_, n, _, _, _] => match n with
    | .str z => if isName (.str z) = true then some z else none
    | _ => none
  | _ => none
theorem at5_1 {α : Type} (a b c d e : α) : atI [a, b, c, d, e] (1 : Int) = some b := rfl
theorem at5_0 {α : Type} (a b c d e : α) : atI [a, b, c, d, e] (0 : Int) = some a := rfl
theorem name_of_is (d : PyData) (h : fit d) : m_name_of ⟨d⟩ = some (nameOf d) := by
  unfold m_name_of
  rw [isT]
  cases d with
  | tuple xs =>
    simp only [if_true, ofTu, bs, dyl]
    by_cases q : xs.length = 5
    · match xs, q, h with
      | [k, n, o, w, p], _, h =>
        rw [if_pos (by first | decide | exact rfl)]
        simp only [List.map_cons, List.map_nil, at5_1, bs]
        rw [name_is n (smA_sm (h.tup n (List.mem_cons_of_mem _ List.mem_cons_self)).s), bs, bs, bs]
        unfold nameOf
        dsimp only
        cases n with
        | str z =>
          dsimp only
          cases isName (.str z) <;> rfl
        | _ => rfl
    · rw [if_neg (by rw [decide_eq_true_eq]; omega)]
      unfold nameOf
      match xs, q with
      | [], _ => rfl
      | [_], _ => rfl
      | [_, _], _ => rfl
      | [_, _, _], _ => rfl
      | [_, _, _, _], _ => rfl
      | _ :: _ :: _ :: _ :: _ :: _ :: _, _ => rfl
  | _ => rfl
def alike (o : PyData) : Int := match o with
  | .tuple [_, _, _, _, _, .int i] => i
  | _ => 0
def kindIs (kind : PyData) (k : Str) : Bool := match kind with
  | .str z => decide (z = k)
  | _ => false
noncomputable def boxOk (d : PyData) (deep : Int) (tabled : Bool) (seen : List Str) : Bool := match nameOf d, d with
  | some n, .tuple [k, _, o, w, p] => !decide (n ∈ seen) && !decide (seen.length = 60) && decide (deep ≤ 8) && isOwn o && kindOk k w p && (decide (alike o = 0) || (!tabled && isWord k ("leaf" :: LINES)))
  | _, _ => false
theorem box_is (hR : RowsT) (d : PyData) (h : fit d) (deep : Int) (tabled : Bool) (seen : List Str) : m_box_ok ⟨d⟩ deep tabled seen = some (boxOk d deep tabled seen) := by
  unfold m_box_ok
  rw [name_of_is d h, bs, bs]
  unfold boxOk
  cases hn : nameOf d with
  | none => rfl
  | some n =>
    rw [if_neg (show ¬ (Option.isNone (some n)) = true from fun z => by cases z), bs, bs]
    have hd : ∃ k x o w p, d = .tuple [k, x, o, w, p] := by
      unfold nameOf at hn
      match d, hn with
      | .tuple [k, x, o, w, p], _ => exact ⟨k, x, o, w, p, rfl⟩
    obtain ⟨k, x, o, w, p, rfl⟩ := hd
    show _ = some (!decide (n ∈ seen) && !decide (seen.length = 60) && decide (deep ≤ 8) && isOwn o && kindOk k w p && (decide (alike o = 0) || (!tabled && isWord k ("leaf" :: LINES))))
    have ho := h.tup o (by simp)
    have hw := h.tup w (by simp)
    have hp := h.tup p (by simp)
    have e0 : (decide ((seen.length : Int) = 60)) = decide (seen.length = 60) := decide_eq_decide.mpr (by omega)
    rw [e0]
    by_cases q1 : n ∈ seen
    · rw [decide_eq_true q1]
      rfl
    rw [decide_eq_false q1]
    by_cases q2 : seen.length = 60
    · rw [decide_eq_true q2]
      rfl
    rw [decide_eq_false q2]
    by_cases q3 : deep ≤ 8
    · rw [decide_eq_true q3, decide_eq_false (show ¬ (8 : Int) < deep by omega)]
      rw [if_neg (by first | decide | exact nf), of5, bs, bs]
      dsimp only
      rw [own_is, bs]
      cases e1 : isOwn o with
      | false => rfl
      | true =>
        rw [if_neg (by first | decide | exact nf), kind_is hR k w p hw hp, bs, bs]
        cases e2 : kindOk k w p with
        | false => rfl
        | true =>
          rw [if_neg (by first | decide | exact nf)]
          unfold isOwn at e1
          match o, e1 with
          | .tuple [a1, a2, a3, a4, a5, a6], e1 =>
            simp only [Bool.and_eq_true] at e1
            obtain ⟨i, rfl⟩ : ∃ i, a6 = .int i := by
              have := e1.2
              unfold isWhole at this
              cases a6 with
              | int i => exact ⟨i, rfl⟩
              | _ => cases this
            rw [ofTu, bs]
            simp only [List.map_cons, List.map_nil, at6_5, bs, ofI]
            unfold kindOk at e2
            match k, p, e2 with
            | .str k, .tuple ps, _ =>
              show ((if decide (i = 0) = true then some true else _).bind _) = some (true && (decide (i = 0) || (!tabled && isWord (.str k) ("leaf" :: LINES))))
              rw [ofS]
              simp only [bs]
              unfold isWord
              by_cases z : i = 0
              · rw [if_pos (decide_eq_true z), decide_eq_true z]
                rfl
              · rw [if_neg (by rw [decide_eq_true_eq]; exact z), decide_eq_false z]
                cases tabled with
                | true => rfl
                | false =>
                  rw [if_pos (by first | decide | exact rfl)]
                  dsimp only
                  by_cases z1 : k = "leaf"
                  · rw [if_pos (decide_eq_true z1)]
                    simp only [bs]
                    rw [decide_eq_true (show k ∈ (("leaf" : Str) :: LINES) by rw [z1]; exact List.mem_cons_self)]
                    rfl
                  · rw [if_neg (by rw [decide_eq_true_eq]; exact z1)]
                    simp only [bs]
                    rw [show decide (k ∈ (("leaf" : Str) :: LINES)) = decide (k ∈ LINES) from decide_eq_decide.mpr (by rw [List.mem_cons]; exact ⟨fun y => y.resolve_left z1, .inr⟩)]
                    rfl
    · rw [decide_eq_false q3, decide_eq_true (show (8 : Int) < deep by omega)]
      rfl
/-! the check of boxes -/
def partsOf (d : PyData) : List PyData := match d with
  | .tuple [_, _, _, _, .tuple ps] => ps
  | _ => []
def isTab (d : PyData) : Bool := match d with
  | .tuple [.str k, _, _, _, _] => decide (k = "table")
  | _ => false
def nmOf (d : PyData) : Str := (nameOf d).getD ""
abbrev Ck := Except (Option Str) (List Str)
def chkL (f : PyData → List Str → Ck) : List PyData → List Str → Ck
  | [], seen => .ok seen
  | p :: ps, seen => match f p seen with
    | .error e => .error e
    | .ok s => chkL f ps s
noncomputable def chkB : Nat → PyData → Int → Bool → List Str → Ck
  | 0, _, _, _, seen => .ok seen
  | n + 1, d, deep, tb, seen => if boxOk d deep tb seen = true then chkL (fun p s => chkB n p (deep + 1) (tb || isTab d) s) (partsOf d) (seen ++ [nmOf d]) else .error (nameOf d)
def bx (e : Option Str) : Xc := ⟨"BadBox", [("name", (upD e).d)]⟩
def ckE : Ck → Er (Nn × List Str)
  | .error e => .ex (bx e)
  | .ok s => .ok (Nn.nn, s)
theorem boxOk_has {d : PyData} {deep : Int} {tb : Bool} {seen : List Str} (h : boxOk d deep tb seen = true) : ∃ k z o w ps, d = .tuple [.str k, .str z, o, w, .tuple ps] ∧ nameOf d = some z ∧ seen.length ≠ 60 ∧ deep ≤ 8 := by
  unfold boxOk at h
  cases hn : nameOf d with
  | none => rw [hn] at h; cases h
  | some n =>
    rw [hn] at h
    have hn' := hn
    unfold nameOf at hn
    match d, hn, h with
    | .tuple [k, x, o, w, p], hn, h =>
      cases x with
      | str z =>
        simp only [Bool.and_eq_true, Bool.not_eq_true', decide_eq_false_iff_not, decide_eq_true_eq] at h
        obtain ⟨⟨⟨⟨⟨h1, h2⟩, h3⟩, h4⟩, h5⟩, h6⟩ := h
        unfold kindOk at h5
        match k, p, h5 with
        | .str k, .tuple ps, _ =>
          refine ⟨k, z, o, w, ps, rfl, ?_, h2, h3⟩
          dsimp only at hn
          split at hn
          · exact hn.symm
          · cases hn
      | _ => cases hn
theorem chk_go {n : Nat} {d : PyData} {deep : Int} {tb : Bool} {tb' : Bool} (hd : ∀ k x o w ps, d = .tuple [.str k, x, o, w, ps] → tb' = (tb || decide (k = "table"))) (hd2 : ∃ k x o w ps, d = .tuple [.str k, x, o, w, ps]) : ∀ (ps : List PyData), (∀ p ∈ ps, ∀ s, s.length ≤ 60 → m_check_box n ⟨p⟩ (deep + 1) tb' s = some (ckE (chkB n p (deep + 1) tb' s)) ∧ ∀ t, chkB n p (deep + 1) tb' s = .ok t → t.length ≤ 60) → ∀ s, s.length ≤ 60 →
    forC (m_check_box_L1 (m_check_box n) ⟨d⟩ deep tb) (ps.map Dy.mk) s = some (match chkL (fun p s => chkB n p (deep + 1) tb' s) ps s with | .error e => .rt (Er.ex (bx e)) | .ok t => .nx t) ∧ ∀ t, chkL (fun p s => chkB n p (deep + 1) tb' s) ps s = .ok t → t.length ≤ 60
  | [], _, s, hs => ⟨rfl, fun t e => by cases e; exact hs⟩
  | p :: ps, h, s, hs => by
    obtain ⟨e1, e2⟩ := h p List.mem_cons_self s hs
    have e : m_check_box_L1 (m_check_box n) ⟨d⟩ deep tb ⟨p⟩ s = some (match chkB n p (deep + 1) tb' s with | .error e => .rt (Er.ex (bx e)) | .ok t => .nx t) := by
      unfold m_check_box_L1
      obtain ⟨k, x, o, w, q, rfl⟩ := hd2
      rw [ofTu]
      simp only [List.map_cons, List.map_nil, bs, at5_0, ofS]
      have : (if tb = true then some true else some (decide (k = "table"))) = some tb' := by
        rw [hd k x o w q rfl]
        cases tb <;> rfl
      rw [this]
      simp only [bs]
      rw [e1]
      simp only [bs]
      cases chkB n p (deep + 1) tb' s <;> rfl
    rw [List.map_cons]
    unfold forC chkL
    rw [e]
    cases hc : chkB n p (deep + 1) tb' s with
    | error e => exact ⟨rfl, fun t z => nomatch z⟩
    | ok t =>
      simp only [bs]
      exact chk_go hd hd2 ps (fun q hq => h q (List.mem_cons_of_mem _ hq)) t (e2 t hc)
theorem check_is (hR : RowsT) : ∀ (n : Nat) (d : PyData) (deep : Int) (tb : Bool) (s : List Str), fit d → 10 ≤ n + deep → deep ≤ 9 → s.length ≤ 60 → m_check_box n ⟨d⟩ deep tb s = some (ckE (chkB n d deep tb s)) ∧ ∀ t, chkB n d deep tb s = .ok t → t.length ≤ 60
  | 0, d, deep, tb, s, _, h1, h2, _ => by omega
  | n + 1, d, deep, tb, s, hf, h1, h2, hs => by
    have e : m_check_box (n + 1) ⟨d⟩ deep tb s = m_check_box_step (m_check_box n) ⟨d⟩ deep tb s := rfl
    rw [e]
    unfold m_check_box_step chkB
    rw [box_is hR d hf, bs]
    cases hb : boxOk d deep tb s with
    | false =>
      rw [if_pos (by first | decide | exact rfl), if_neg (by first | decide | exact nf), name_of_is d hf, bs]
      exact ⟨rfl, fun t z => nomatch z⟩
    | true =>
      obtain ⟨k, z, o, w, ps, rfl, hn, hl, hdp⟩ := boxOk_has hb
      rw [if_neg (by first | decide | exact nf), if_pos rfl, ofTu]
      simp only [List.map_cons, List.map_nil, bs, at5_1, ofS]
      rw [appO_ok (by omega)]
      simp only [bs]
      rw [show atI [(⟨.str k⟩ : Dy), ⟨.str z⟩, ⟨o⟩, ⟨w⟩, ⟨.tuple ps⟩] (4 : Int) = some ⟨.tuple ps⟩ from rfl, bs, ofTu, bs]
      have hp := hf.tup (.tuple ps) (by simp)
      have ht : (tb || isTab (.tuple [.str k, .str z, o, w, .tuple ps])) = (tb || decide (k = "table")) := rfl
      have hnm : nmOf (.tuple [.str k, .str z, o, w, .tuple ps]) = z := by
        unfold nmOf
        rw [hn]
        rfl
      rw [hnm, ht]
      show (Option.bind (forC _ (ps.map Dy.mk) (s ++ [z])) _) = _ ∧ _
      obtain ⟨g1, g2⟩ := chk_go (n := n) (d := .tuple [.str k, .str z, o, w, .tuple ps]) (deep := deep) (tb := tb) (tb' := (tb || decide (k = "table"))) (fun k' x' o' w' p' he => by cases he; rfl) ⟨k, .str z, o, w, .tuple ps, rfl⟩ ps (fun p hpp s hs => check_is hR n p (deep + 1) _ s (hp.tup p hpp) (by omega) (by omega) hs) (s ++ [z]) (by rw [List.length_append, List.length_singleton]; omega)
      refine ⟨?_, g2⟩
      rw [g1]
      simp only [bs]
      show _ = some (ckE (chkL _ ps (s ++ [z])))
      cases chkL (fun p s => chkB n p (deep + 1) (tb || decide (k = "table")) s) ps (s ++ [z]) <;> rfl
theorem tree_is (hR : RowsT) (d : PyData) (hf : fit d) : m_check_tree ⟨d⟩ = some (match chkB 10 d 1 false [] with | .error e => .ex (bx e) | .ok _ => .ok Nn.nn) := by
  unfold m_check_tree
  rw [(check_is hR 10 d 1 false [] hf (by omega) (by omega) (by simp)).1, bs]
  cases chkB 10 d 1 false [] <;> rfl
abbrev P2 := Int × Int × Unit
abbrev Dk := Dc P2 Bool
def has (d : Dk) (x : P2) : Bool := (getD d.l x).isSome
def cov (r c : Int) (sp : P2) : List P2 := (irange 0 (sp.1 * sp.2.1)).map fun k => (r + k / sp.1, c + k % sp.1, ())
structure SpOk (C : Int) (sp : P2) : Prop where
  a1 : 1 ≤ sp.1
  a2 : sp.1 ≤ C
  b1 : 1 ≤ sp.2.1
  b2 : sp.2.1 ≤ 12
theorem area {C : Int} (hC : C ≤ 12) {sp : P2} (h : SpOk C sp) : 0 ≤ sp.1 * sp.2.1 ∧ sp.1 * sp.2.1 ≤ 144 := by
  have h1 := h.a1
  have h2 := h.a2
  have h3 := h.b1
  have h4 := h.b2
  constructor
  · exact Int.mul_nonneg (by omega) (by omega)
  · exact Int.le_trans (Int.mul_le_mul (show sp.1 ≤ 12 by omega) h4 (by omega) (by omega)) (by omega)
theorem cov_len {C : Int} (hC : C ≤ 12) {sp : P2} (h : SpOk C sp) (r c : Int) : (cov r c sp).length ≤ 144 := by
  unfold cov
  rw [List.length_map, irange_len]
  have := area hC h
  omega
theorem mem_cov {C : Int} {sp : P2} (h : SpOk C sp) {r c x y : Int} {u : Unit} : (x, y, u) ∈ cov r c sp ↔ (r ≤ x ∧ x < r + sp.2.1) ∧ (c ≤ y ∧ y < c + sp.1) := by
  have h1 := h.a1
  unfold cov
  rw [List.mem_map]
  constructor
  · rintro ⟨k, hk, e⟩
    rw [mem_irange] at hk
    have e1 : r + k / sp.1 = x := congrArg (·.1) e
    have e2 : c + k % sp.1 = y := congrArg (·.2.1) e
    have q1 := Int.emod_nonneg k (show sp.1 ≠ 0 by omega)
    have q2 := Int.emod_lt_of_pos k (show 0 < sp.1 by omega)
    have q3 : 0 ≤ k / sp.1 := Int.ediv_nonneg hk.1 (by omega)
    have q4 : k / sp.1 < sp.2.1 := Int.ediv_lt_of_lt_mul (by omega) (by rw [Int.mul_comm]; exact hk.2)
    omega
  · rintro ⟨⟨p1, p2⟩, p3, p4⟩
    refine ⟨(x - r) * sp.1 + (y - c), mem_irange.mpr ⟨?_, ?_⟩, ?_⟩
    · have := Int.mul_nonneg (show 0 ≤ x - r by omega) (show 0 ≤ sp.1 by omega)
      omega
    · have q : (x - r + 1) * sp.1 ≤ sp.2.1 * sp.1 := Int.mul_le_mul_of_nonneg_right (by omega) (by omega)
      rw [Int.add_mul, Int.one_mul, Int.mul_comm sp.2.1] at q
      omega
    · have e1 : ((x - r) * sp.1 + (y - c)) / sp.1 = x - r := by
        rw [Int.add_comm, Int.add_mul_ediv_right _ _ (show sp.1 ≠ 0 by omega), Int.ediv_eq_zero_of_lt (by omega) (by omega)]
        omega
      have e2 : ((x - r) * sp.1 + (y - c)) % sp.1 = y - c := by
        rw [Int.add_comm, Int.add_mul_emod_self_right, Int.emod_eq_of_lt (by omega) (by omega)]
      rw [e1, e2, show r + (x - r) = x by omega, show c + (y - c) = y by omega]
theorem cells_ok {C : Int} (hC : C ≤ 12) {sp : P2} (h : SpOk C sp) (r c : Int) : m_cells_at r c sp = some (cov r c sp) := by
  have h1 := h.a1
  have h2 := h.a2
  have ha := area hC h
  have hl : (irange 0 (sp.1 * sp.2.1)).length < 1000000 := by
    rw [irange_len]
    omega
  unfold m_cells_at
  rw [mulO_ok (by omega) (by omega)]
  simp only [bs]
  rw [rngO_ok (by omega) (by omega) (by omega) (by omega)]
  simp only [bs]
  have e : ∀ k ∈ irange 0 (sp.1 * sp.2.1), ((divO k sp.1).bind fun q_8 => (modO k sp.1).bind fun r_9 => some ((r + q_8), (c + r_9), ())) = some ((r + k / sp.1, c + k % sp.1, ()) : P2) := by
    intro k _
    rw [divO_ok (by omega) (by omega), modO_ok (by omega)]
    simp only [bs]
  rw [lcM_all (fun k => ((r + k / sp.1, c + k % sp.1, ()) : P2)) hl e]
  rfl
/-- what bars a place -/
def bar (C : Int) (d : Dk) (sp : P2) (at_ : Int) : Bool := decide (C < at_ % C + sp.1) || (cov (at_ / C) (at_ % C) sp).any (has d)
theorem open_ok {C : Int} {sp : P2} (h : SpOk C sp) (hC : C ≤ 12) {d : Dk} {r c : Int} (hr : 0 ≤ r ∧ r < 100000) (hc : 0 ≤ c ∧ c < 100000) : m_is_open d r c sp = some (!(cov r c sp).any (has d)) := by
  have h1 := h.a1
  have h2 := h.a2
  have h3 := h.b1
  have h4 := h.b2
  have inner : ∀ x, m_is_open_L1 d c sp x () = some (if (irange c (c + sp.1)).any (fun y => has d (x, y, ())) = true then .rt false else .nx ()) := by
    intro x
    unfold m_is_open_L1
    rw [rngO_ok (by omega) (by omega) (by omega) (by omega)]
    simp only [bs]
    rw [forC_any (fun y => has d (x, y, ())) (r := false) fun y _ => by
      unfold m_is_open_L2 has
      by_cases q : (getD d.l (x, y, ())).isSome = true
      · rw [if_pos q, if_pos q]
      · rw [if_neg q, if_neg q]]
    simp only [bs]
    cases (irange c (c + sp.1)).any (fun y => has d (x, y, ())) <;> rfl
  unfold m_is_open
  rw [rngO_ok (by omega) (by omega) (by omega) (by omega)]
  simp only [bs]
  rw [forC_any (fun x => (irange c (c + sp.1)).any (fun y => has d (x, y, ()))) (r := false) fun x _ => inner x]
  have e : (irange r (r + sp.2.1)).any (fun x => (irange c (c + sp.1)).any (fun y => has d (x, y, ()))) = (cov r c sp).any (has d) := by
    rw [Bool.eq_iff_iff, List.any_eq_true, List.any_eq_true]
    constructor
    · rintro ⟨x, hx, h5⟩
      rw [List.any_eq_true] at h5
      obtain ⟨y, hy, h6⟩ := h5
      exact ⟨(x, y, ()), (mem_cov h).mpr ⟨mem_irange.mp hx, mem_irange.mp hy⟩, h6⟩
    · rintro ⟨⟨x, y, u⟩, hx, h6⟩
      have := (mem_cov h).mp hx
      exact ⟨x, mem_irange.mpr this.1, List.any_eq_true.mpr ⟨y, mem_irange.mpr this.2, h6⟩⟩
  rw [e]
  cases (cov r c sp).any (has d) <;> rfl
theorem at_ok {C at_ : Int} (hC1 : 1 ≤ C) (hC : C ≤ 12) (h0 : 0 ≤ at_) (h1 : at_ < 100000) : (0 ≤ at_ / C ∧ at_ / C < 100000) ∧ (0 ≤ at_ % C ∧ at_ % C < C) := by
  have q1 := Int.emod_nonneg at_ (show C ≠ 0 by omega)
  have q2 := Int.emod_lt_of_pos at_ (show 0 < C by omega)
  have q3 : 0 ≤ at_ / C := Int.ediv_nonneg h0 (by omega)
  have q4 : at_ / C ≤ at_ := Int.ediv_le_self _ h0
  omega
theorem test_ok {C : Int} (hC1 : 1 ≤ C) (hC : C ≤ 12) {sp : P2} (h : SpOk C sp) {d : Dk} {at_ : Int} (h0 : 0 ≤ at_) (h1 : at_ < 100000) : m_put_cells_L2_c C sp d at_ = some (bar C d sp at_) := by
  obtain ⟨q1, q2⟩ := at_ok hC1 hC h0 h1
  unfold m_put_cells_L2_c
  rw [modO_ok (by omega), divO_ok (by omega) (by omega)]
  simp only [bs]
  rw [open_ok h hC q1 ⟨q2.1, by omega⟩]
  simp only [bs, Bool.not_not]
  unfold bar
  cases decide (C < at_ % C + sp.1) <;> rfl
/-! the first place -/
structure First (C : Int) (d : Dk) (sp : P2) (x : Int) : Prop where
  nn : 0 ≤ x
  free : bar C d sp x = false
  low : ∀ j, 0 ≤ j → j < x → bar C d sp j = true
structure Dok (d : Dk) (i : Nat) : Prop where
  rows : ∀ x : P2, has d x = true → x.1 < 12 * (i : Int)
  len : d.l.length ≤ 144 * i
theorem free_at {C : Int} (hC1 : 1 ≤ C) {sp : P2} (h : SpOk C sp) {d : Dk} {i : Nat} (hd : Dok d i) : bar C d sp (12 * (i : Int) * C) = false := by
  have h2 := h.a2
  unfold bar
  rw [Int.mul_emod_left, Int.mul_ediv_cancel _ (show C ≠ 0 by omega)]
  rw [decide_eq_false (by omega), Bool.false_or, ← Bool.not_eq_true, List.any_eq_true]
  rintro ⟨⟨x, y, u⟩, hx, h3⟩
  have h4 := (mem_cov h).mp hx
  have := hd.rows _ h3
  have : x < 12 * (i : Int) := this
  omega
theorem at_max {C : Int} (hC1 : 1 ≤ C) (hC : C ≤ 12) {i : Nat} (hi : i ≤ 100) : 0 ≤ 12 * (i : Int) * C ∧ 12 * (i : Int) * C ≤ 14400 := by
  constructor
  · exact Int.mul_nonneg (by omega) (by omega)
  · exact Int.le_trans (Int.mul_le_mul (show 12 * (i : Int) ≤ 1200 by omega) hC (by omega) (by omega)) (by omega)
theorem first_ok {C : Int} (hC1 : 1 ≤ C) (hC : C ≤ 12) {sp : P2} (h : SpOk C sp) {d : Dk} {i : Nat} (hi : i ≤ 100) (hd : Dok d i) :
    ∃ x, whileF (m_put_cells_L2_c C sp d) (m_put_cells_L2 C sp d) 0 = some x ∧ First C d sp x ∧ x ≤ 12 * (i : Int) * C := by
  have hm := at_max hC1 hC hi
  have hf := free_at hC1 h hd
  obtain ⟨x, e, ⟨i1, i2, i3⟩, ec⟩ := whileF_inv (c := m_put_cells_L2_c C sp d) (f := m_put_cells_L2 C sp d) (fun s => 0 ≤ s ∧ s ≤ 12 * (i : Int) * C ∧ ∀ j, 0 ≤ j → j < s → bar C d sp j = true) (fun s => (12 * (i : Int) * C - s).toNat) (fun s hs => by
    obtain ⟨s1, s2, s3⟩ := hs
    refine ⟨_, test_ok hC1 hC h s1 (by omega), fun hb => ⟨s + 1, by unfold m_put_cells_L2; rfl, ⟨by omega, ?_, fun j j1 j2 => ?_⟩, ?_⟩⟩
    · have : s ≠ 12 * (i : Int) * C := fun z => by rw [z, hf] at hb; cases hb
      omega
    · by_cases e : j = s
      · rw [e]
        exact hb
      · exact s3 j j1 (by omega)
    · have : s ≠ 12 * (i : Int) * C := fun z => by rw [z, hf] at hb; cases hb
      omega) (s := 0) ⟨Int.le_refl _, hm.1, fun j j1 j2 => by omega⟩
  refine ⟨x, e, ⟨i1, ?_, i3⟩, i2⟩
  rw [test_ok hC1 hC h i1 (by omega)] at ec
  exact Option.some.inj ec
theorem First.one {C : Int} {d : Dk} {sp : P2} {x y : Int} (a : First C d sp x) (b : First C d sp y) : x = y := by
  have h1 : ¬ x < y := fun z => by
    have := b.low x a.nn z
    rw [a.free] at this
    cases this
  have h2 : ¬ y < x := fun z => by
    have := a.low y b.nn z
    rw [b.free] at this
    cases this
  omega
open Classical in
noncomputable def fst (C : Int) (d : Dk) (sp : P2) : Int := if h : ∃ x, First C d sp x then h.choose else 0
theorem fst_eq {C : Int} {d : Dk} {sp : P2} {x : Int} (h : First C d sp x) : fst C d sp = x := by
  have e : ∃ x, First C d sp x := ⟨x, h⟩
  unfold fst
  rw [dif_pos e]
  exact First.one e.choose_spec h
def add (d : Dk) (xs : List P2) : Dk := ⟨xs.foldl (fun l x => putD l x true) d.l⟩
theorem add_go1 : ∀ (xs : List P2) (d : Dk), d.l.length + xs.length ≤ 1000000 → forS m_put_cells_L3 xs d = some (add d xs)
  | [], d, _ => rfl
  | x :: xs, d, h => by
    rw [List.length_cons] at h
    have hl := len_put d.l x true
    have h1 := add_go1 xs ⟨putD d.l x true⟩ (by show (putD d.l x true).length + _ ≤ _; omega)
    rw [forS_cons (s' := ⟨putD d.l x true⟩) (by unfold m_put_cells_L3; rw [putO_ok (by omega)]; rfl), h1]
    rfl
theorem add_len : ∀ (xs : List P2) (d : Dk), (add d xs).l.length ≤ d.l.length + xs.length
  | [], d => Nat.le_refl _
  | x :: xs, d => by
    have hl := len_put d.l x true
    have := add_len xs ⟨putD d.l x true⟩
    rw [List.length_cons]
    have e : (add d (x :: xs)) = add ⟨putD d.l x true⟩ xs := rfl
    rw [e]
    have : (add ⟨putD d.l x true⟩ xs).l.length ≤ (putD d.l x true).length + xs.length := this
    omega
theorem add_has : ∀ (xs : List P2) (d : Dk) (y : P2), has (add d xs) y = true → y ∈ xs ∨ has d y = true
  | [], d, y, h => .inr h
  | x :: xs, d, y, h => by
    rcases add_has xs ⟨putD d.l x true⟩ y h with h | h
    · exact .inl (List.mem_cons_of_mem _ h)
    · unfold has at h
      rw [show (Dc.mk (putD d.l x true)).l = putD d.l x true from rfl, getD_put] at h
      by_cases e : y = x
      · exact .inl (e ▸ List.mem_cons_self)
      · rw [if_neg e] at h
        exact .inr h
theorem dok_next {C : Int} (hC1 : 1 ≤ C) (hC : C ≤ 12) {sp : P2} (h : SpOk C sp) {d : Dk} {i : Nat} (hd : Dok d i) {x : Int} (hx0 : 0 ≤ x) (hx : x ≤ 12 * (i : Int) * C) : Dok (add d (cov (x / C) (x % C) sp)) (i + 1) := by
  have h4 := h.b2
  have q : x / C ≤ 12 * (i : Int) := by
    have := Int.ediv_le_ediv (show 0 < C by omega) hx
    rwa [Int.mul_ediv_cancel _ (show C ≠ 0 by omega)] at this
  refine ⟨fun y hy => ?_, ?_⟩
  · rcases add_has _ _ _ hy with hy | hy
    · obtain ⟨a, b, u⟩ := y
      have := (mem_cov h).mp hy
      show a < _
      omega
    · have := hd.rows y hy
      omega
  · have h1 := add_len (cov (x / C) (x % C) sp) d
    have h2 := cov_len hC h (x / C) (x % C)
    have h3 := hd.len
    omega
/-! the places -/
noncomputable def pl (C : Int) (d : Dk) (sp : P2) : P2 := (fst C d sp / C, fst C d sp % C, ())
noncomputable def nd (C : Int) (d : Dk) (sp : P2) : Dk := add d (cov (fst C d sp / C) (fst C d sp % C) sp)
noncomputable def plc (C : Int) : Dk → List P2 → List P2
  | _, [] => []
  | d, sp :: r => pl C d sp :: plc C (nd C d sp) r
noncomputable def dd (C : Int) : Dk → List P2 → Dk
  | d, [] => d
  | d, sp :: r => dd C (nd C d sp) r
theorem plc_app (C : Int) : ∀ (xs ys : List P2) (d : Dk), plc C d (xs ++ ys) = plc C d xs ++ plc C (dd C d xs) ys
  | [], _, _ => rfl
  | x :: xs, ys, d => by
    show pl C d x :: plc C (nd C d x) (xs ++ ys) = _
    rw [plc_app C xs ys]
    rfl
theorem plc_len (C : Int) : ∀ (xs : List P2) (d : Dk), (plc C d xs).length = xs.length
  | [], _ => rfl
  | x :: xs, d => by
    show (plc C (nd C d x) xs).length + 1 = xs.length + 1
    rw [plc_len C xs]
theorem plc_init (C : Int) (xs : List P2) (d : Dk) : plc C d xs.dropLast = (plc C d xs).dropLast := by
  rcases List.eq_nil_or_concat xs with rfl | ⟨ys, y, rfl⟩
  · rfl
  · rw [List.concat_eq_append, List.dropLast_concat, plc_app]
    show _ = (plc C d ys ++ [pl C (dd C d ys) y]).dropLast
    rw [List.dropLast_concat]
theorem put_go {C : Int} (hC1 : 1 ≤ C) (hC : C ≤ 12) : ∀ (xs : List P2) (d : Dk) (acc : List P2) (i : Nat), Dok d i → (∀ x ∈ xs, SpOk C x) → i + xs.length ≤ 100 → acc.length + xs.length ≤ 1000 → forS (m_put_cells_L1 C) xs (acc, d) = some (acc ++ plc C d xs, dd C d xs)
  | [], d, acc, i, _, _, _, _ => by
    rw [show plc C d [] = [] from rfl, List.append_nil]
    rfl
  | x :: xs, d, acc, i, hd, hx, hi, ha => by
    rw [List.length_cons] at hi ha
    have h := hx x List.mem_cons_self
    obtain ⟨n, e, hf, hn⟩ := first_ok hC1 hC h (i := i) (by omega) hd
    have hm := at_max hC1 hC (i := i) (by omega)
    have hn0 := hf.nn
    have hl := cov_len hC h (n / C) (n % C)
    have hdl := hd.len
    rw [forS_cons (s' := (acc ++ [pl C d x], nd C d x)) ?_, put_go hC1 hC xs (nd C d x) _ (i + 1) ?_ (fun y hy => hx y (List.mem_cons_of_mem _ hy)) (by omega) (by rw [List.length_append, List.length_singleton]; omega), List.append_assoc]
    · rfl
    · unfold nd
      rw [fst_eq hf]
      exact dok_next hC1 hC h hd hn0 hn
    · unfold m_put_cells_L1
      simp only [bs]
      rw [e]
      simp only [bs]
      rw [divO_ok (by omega) (by omega), modO_ok (by omega)]
      simp only [bs]
      rw [cells_ok hC h _ _]
      simp only [bs]
      rw [add_go1 _ _ (by omega)]
      simp only [bs]
      rw [appO_ok (by omega)]
      unfold pl nd
      rw [fst_eq hf]
      rfl
theorem dok0 : Dok (Dc.mk []) 0 := ⟨(fun x h => by cases h), Nat.le_refl _⟩
theorem put_ok {C : Int} (hC1 : 1 ≤ C) (hC : C ≤ 12) {xs : List P2} (hx : ∀ x ∈ xs, SpOk C x) (hl : xs.length ≤ 100) : m_put_cells C (Tu.mk xs) = some (plc C (Dc.mk []) xs) := by
  unfold m_put_cells
  simp only [bs]
  rw [put_go hC1 hC xs (Dc.mk []) [] 0 dok0 hx (by omega) (by simp; omega)]
  rfl
/-- the rows taken are told -/
theorem rowsT_ok : RowsT := by
  intro c sp h1 h2 h3 h4
  unfold m_rows_taken
  rw [put_ok h1 h2 (xs := sp) (fun x hx => ⟨(h4 x hx).1, (h4 x hx).2.1, (h4 x hx).2.2.1, (h4 x hx).2.2.2⟩) (by omega)]
  simp only [bs]
  unfold m_last_row
  rw [lcM_all (fun p : P2 × P2 × Unit => p.2.1.1 + p.1.2.1) (by
    unfold zipI
    rw [List.length_zipWith]
    have : (Tu.mk sp).l.length = sp.length := rfl
    omega) (fun p _ => rfl)]
  exact ⟨_, rfl⟩
/-! boxes of a tree, in general -/
abbrev OWN : PyData := .tuple [.tuple [.int 0, .int 1000000], .tuple [.int 0, .int 1000000], .int 0, .int 1, .int 0, .int 0]
def boxP (k nm : Str) (w : PyData) (ps : List PyData) : PyData := .tuple [.str k, .str nm, OWN, w, .tuple ps]
def leafX (W : PyData) (z : Str) : PyData := boxP "leaf" z W []
/-! small data -/
structure fitn (d : PyData) (n : Nat) : Prop where
  s : smA d = true
  k : okn d n
theorem smAs_all : ∀ {ds : List PyData}, (∀ d ∈ ds, smA d = true) → smAs ds = true
  | [], _ => rfl
  | d :: ds, h => by
    simp only [smAs, Bool.and_eq_true]
    exact ⟨h d List.mem_cons_self, smAs_all fun e he => h e (List.mem_cons_of_mem _ he)⟩
theorem fitn.mono {d : PyData} {n m : Nat} (h : fitn d n) (l : n ≤ m) : fitn d m := ⟨h.s, h.k.mono l⟩
theorem fitn.fit {d : PyData} {n : Nat} (h : fitn d n) (l : n ≤ 60) : fit d := ⟨h.s, h.k.mono l⟩
theorem fitn_int (i : Int) (n : Nat) : fitn (.int i) n := ⟨by simp only [smA], okn_int i n⟩
theorem fitn_tup {ds : List PyData} {n : Nat} (hl : ds.length < 1000000) (h : ∀ d ∈ ds, fitn d n) : fitn (.tuple ds) (n + 1) := ⟨by
  simp only [smA, Bool.and_eq_true, decide_eq_true_eq]
  exact ⟨hl, smAs_all fun d hd => (h d hd).s⟩, okn_tup fun d hd => (h d hd).k⟩
theorem okn_lst {ds : List PyData} {n : Nat} (h : okn (.tuple ds) n) : okn (.list ds) n := by
  obtain ⟨h1, h2⟩ := h
  simp only [PyData.canLay0] at h1
  simp only [PyData.depth] at h2
  exact ⟨by simp only [PyData.canLay0, h1], by simp only [PyData.depth]; exact h2⟩
theorem fitn_lst {ds : List PyData} {n : Nat} (h : fitn (.tuple ds) n) : fitn (.list ds) n := ⟨by
  have := h.s
  simp only [smA] at this ⊢
  exact this, okn_lst h.k⟩
theorem fitn_cons {d : PyData} {ds : List PyData} {n : Nat} (h : fitn d n) (hs : ∀ e ∈ ds, fitn e n) : ∀ e ∈ d :: ds, fitn e n := fun e he => by
  rcases List.mem_cons.mp he with rfl | he
  · exact h
  · exact hs e he
theorem fitn_nil {n : Nat} : ∀ e ∈ ([] : List PyData), fitn e n := fun _ h => nomatch h
def fitB (d : PyData) (n : Nat) : Bool := smA d && d.canLay0 && decide (d.depth ≤ n)
theorem fitB_fit {d : PyData} {n : Nat} (h : fitB d n = true) : fitn d n := by
  unfold fitB at h
  simp only [Bool.and_eq_true, decide_eq_true_eq] at h
  exact ⟨h.1.1, h.1.2, h.2⟩
theorem fitn_own : fitn OWN 3 := fitB_fit (by decide +kernel)
theorem fitn_sml {z : Str} {n : Nat} (h : fitB (.str z) 0 = true) : fitn (.str z) n := (fitB_fit h).mono (Nat.zero_le _)
theorem fitn_box {k nm : Str} {w : PyData} {ps : List PyData} {n : Nat} (hk : fitB (.str k) 0 = true) (hn : fitB (.str nm) 0 = true) (h2 : 3 ≤ n) (hw : fitn w n) (hp : fitn (.tuple ps) n) : fitn (boxP k nm w ps) (n + 1) := by
  unfold boxP
  exact fitn_tup (by simp) (fitn_cons (fitn_sml hk) (fitn_cons (fitn_sml hn) (fitn_cons (fitn_own.mono h2) (fitn_cons hw (fitn_cons hp fitn_nil)))))
theorem name_boxP {k nm : Str} {w : PyData} {ps : List PyData} (h : isName (.str nm) = true) : nameOf (boxP k nm w ps) = some nm := by
  unfold nameOf boxP
  dsimp only
  rw [if_pos h]
theorem boxOk_G {k nm : Str} {w : PyData} {ps : List PyData} {deep : Int} {tb : Bool} {seen : List Str} (h : isName (.str nm) = true) (h1 : nm ∉ seen) (h2 : seen.length < 60) (h3 : deep ≤ 8) : boxOk (boxP k nm w ps) deep tb seen = kindOk (.str k) w (.tuple ps) := by
  have e := name_boxP (k := k) (w := w) (ps := ps) h
  unfold boxOk
  rw [e]
  unfold boxP
  dsimp only
  rw [decide_eq_false h1, decide_eq_false (show ¬ seen.length = 60 by omega), decide_eq_true h3, show isOwn OWN = true by decide +kernel, show alike OWN = 0 from rfl]
  simp
theorem boxOk_no {k nm : Str} {w : PyData} {ps : List PyData} {deep : Int} {tb : Bool} {seen : List Str} (h : isName (.str nm) = true) (h1 : seen.length = 60 ∨ 8 < deep) : boxOk (boxP k nm w ps) deep tb seen = false := by
  have e := name_boxP (k := k) (w := w) (ps := ps) h
  unfold boxOk
  rw [e]
  unfold boxP
  dsimp only
  rcases h1 with h1 | h1
  · rw [decide_eq_true h1]
    simp
  · rw [decide_eq_false (show ¬ deep ≤ 8 by omega)]
    simp
theorem kind_line {k : Str} (hk : k ∈ LINES) (w : PyData) (ps : List PyData) : kindOk (.str k) w (.tuple ps) = lineOk w ps.length := by
  have h1 : k ≠ "leaf" := by
    rintro rfl
    revert hk
    decide
  unfold kindOk
  dsimp only
  rw [if_neg h1, if_pos hk]
theorem kind_table (w : PyData) (ps : List PyData) : kindOk (.str "table") w (.tuple ps) = tableOk w ps.length := by
  unfold kindOk
  dsimp only
  rw [if_neg (by decide), if_neg (by decide), if_pos rfl]
theorem kind_leaf (w : PyData) (ps : List PyData) : kindOk (.str "leaf") w (.tuple ps) = (isNil (.tuple ps) && isPair w 0 1000000) := by
  unfold kindOk
  dsimp only
  rw [if_pos rfl]
theorem kind_words (w : PyData) (ps : List PyData) : kindOk (.str "words") w (.tuple ps) = wordsOk w ps := by
  unfold kindOk
  dsimp only
  rw [if_neg (by decide), if_neg (by decide), if_neg (by decide), if_pos rfl]
theorem kind_flow (w : PyData) (ps : List PyData) : kindOk (.str "flow") w (.tuple ps) = flowOk w ps := by
  unfold kindOk
  dsimp only
  rw [if_neg (by decide), if_neg (by decide), if_neg (by decide), if_neg (by decide), if_pos rfl]
theorem kind_over (w : PyData) (ps : List PyData) : kindOk (.str "over") w (.tuple ps) = overOk w ps := by
  unfold kindOk
  dsimp only
  rw [if_neg (by decide), if_neg (by decide), if_neg (by decide), if_neg (by decide), if_neg (by decide)]
  rfl
theorem chk_raw (n : Nat) {k nm : Str} (w : PyData) (ps : List PyData) (deep : Int) (tb : Bool) (seen : List Str) (h : isName (.str nm) = true) :
    chkB (n + 1) (boxP k nm w ps) deep tb seen = if boxOk (boxP k nm w ps) deep tb seen = true then chkL (fun p s => chkB n p (deep + 1) (tb || decide (k = "table")) s) ps (seen ++ [nm]) else .error (some nm) := by
  have e : chkB (n + 1) (boxP k nm w ps) deep tb seen = if boxOk (boxP k nm w ps) deep tb seen = true then chkL (fun p s => chkB n p (deep + 1) (tb || isTab (boxP k nm w ps)) s) (partsOf (boxP k nm w ps)) (seen ++ [nmOf (boxP k nm w ps)]) else .error (nameOf (boxP k nm w ps)) := rfl
  have e1 : nmOf (boxP k nm w ps) = nm := by
    unfold nmOf
    rw [name_boxP h]
    rfl
  rw [e, e1, name_boxP h]
  rfl
theorem chk_boxG {n : Nat} {k nm : Str} {w : PyData} {ps : List PyData} {deep : Int} {tb : Bool} {seen : List Str} (h : isName (.str nm) = true) (h1 : nm ∉ seen) (h2 : seen.length < 60) (h3 : deep ≤ 8) :
    chkB (n + 1) (boxP k nm w ps) deep tb seen = if kindOk (.str k) w (.tuple ps) = true then chkL (fun p s => chkB n p (deep + 1) (tb || decide (k = "table")) s) ps (seen ++ [nm]) else .error (some nm) := by
  rw [chk_raw n w ps deep tb seen h, boxOk_G h h1 h2 h3]
theorem chk_boxN {n : Nat} {k nm : Str} {w : PyData} {ps : List PyData} {deep : Int} {tb : Bool} {seen : List Str} (h : isName (.str nm) = true) (h1 : seen.length = 60 ∨ 8 < deep) : chkB (n + 1) (boxP k nm w ps) deep tb seen = .error (some nm) := by
  rw [chk_raw n w ps deep tb seen h, boxOk_no h h1]
  rfl
theorem chk_leafG {n : Nat} {W : PyData} (hW : isPair W 0 1000000 = true) {z : Str} {deep : Int} {tb : Bool} {seen : List Str} (h : isName (.str z) = true) (h1 : z ∉ seen) (h2 : seen.length < 60) (h3 : deep ≤ 8) : chkB (n + 1) (leafX W z) deep tb seen = .ok (seen ++ [z]) := by
  unfold leafX
  rw [chk_boxG h h1 h2 h3, kind_leaf, hW, if_pos (show (isNil (.tuple []) && true) = true from rfl)]
  rfl
theorem chkL_app {f : PyData → List Str → Ck} : ∀ {ps qs : List PyData} {s t : List Str}, chkL f ps s = .ok t → chkL f (ps ++ qs) s = chkL f qs t
  | [], qs, s, t, h => by cases h; rfl
  | p :: ps, qs, s, t, h => by
    have e0 : ∀ (p : PyData) (ps : List PyData) (s : List Str), chkL f (p :: ps) s = match f p s with | .error e => .error e | .ok s => chkL f ps s := fun _ _ _ => rfl
    rw [List.cons_append, e0]
    rw [e0] at h
    cases e : f p s with
    | error x => rw [e] at h; cases h
    | ok u =>
      rw [e] at h
      exact chkL_app h
theorem chk_leavesG {n : Nat} {W : PyData} (hW : isPair W 0 1000000 = true) {deep : Int} {tb : Bool} (hd : deep ≤ 8) : ∀ (zs seen : List Str), (∀ z ∈ zs, isName (.str z) = true) → (seen ++ zs).Nodup → (seen ++ zs).length ≤ 60 → chkL (fun p s => chkB (n + 1) p deep tb s) (zs.map (leafX W)) seen = .ok (seen ++ zs)
  | [], seen, _, _, _ => by rw [List.append_nil]; rfl
  | z :: zs, seen, h, hn, hl => by
    have e : seen ++ z :: zs = seen ++ [z] ++ zs := by rw [List.append_assoc]; rfl
    have hz : z ∉ seen := fun hm => by
      have := (List.nodup_append.mp hn).2.2 z hm z List.mem_cons_self
      exact this rfl
    rw [List.length_append, List.length_cons] at hl
    rw [List.map_cons]
    unfold chkL
    rw [chk_leafG hW (h z List.mem_cons_self) hz (by omega) hd]
    show chkL _ (zs.map (leafX W)) (seen ++ [z]) = _
    rw [chk_leavesG hW hd zs (seen ++ [z]) (fun y hy => h y (List.mem_cons_of_mem _ hy)) (by rw [← e]; exact hn) (by rw [List.length_append, List.length_append, List.length_singleton]; omega), e]
/-! draws, and letters -/
theorem at_okD {ns : List Int} (k : Int) (h0 : 0 ≤ k) : ∃ c, m__law_at (Fz.mk ns) k = some c := by
  unfold m__law_at
  by_cases h : k < (ns.length : Int)
  · obtain ⟨x, e, _⟩ := atI_some (xs := ns) h0 h
    exact ⟨x, by rw [if_pos (decide_eq_true h), e]; rfl⟩
  · exact ⟨0, by rw [if_neg (by simpa using h)]⟩
theorem mixed_ok (c : Int) : ∃ r, m__law_mixed c = some r := by
  unfold m__law_mixed
  simp only [bs]
  rw [mulO_ok (by omega) (by omega)]
  exact ⟨_, rfl⟩
theorem draws_ok {ns : List Int} {first many base : Int} (f0 : 0 ≤ first) (h0 : 0 ≤ many) (hm : many ≤ 1000) (b0 : 0 < base) (b1 : base < 18446744073709551616) :
    ∃ f, m__law_draws (Fz.mk ns) first many base = some f ∧ f.length = many.toNat ∧ ∀ x ∈ f, 0 ≤ x ∧ x < base := by
  obtain ⟨c, ec⟩ := at_okD (ns := ns) first f0
  unfold m__law_draws
  simp only [bs, ec]
  obtain ⟨⟨n1, f1⟩, e1, ⟨i1, i2⟩, _⟩ := whileF_inv (c := m__law_draws_L1_c many base) (f := m__law_draws_L1 many base) (fun s => (s.2.length : Int) ≤ many ∧ ∀ x ∈ s.2, 0 ≤ x ∧ x < base) (fun s => many.toNat - s.2.length) (fun s hs => by
    obtain ⟨n, f⟩ := s
    obtain ⟨hs, hs2⟩ := hs
    have hs : (f.length : Int) ≤ many := hs
    refine ⟨_, rfl, fun hb => ?_⟩
    simp only [Bool.and_eq_true, decide_eq_true_eq] at hb
    refine ⟨(n / base, f ++ [n % base]), ?_, ⟨?_, fun x hx => ?_⟩, ?_⟩
    · unfold m__law_draws_L1
      simp only [modO_ok b0, appO_ok (show f.length < 1000000 by omega), divO_ok b0 b1, bs]
    · simp; omega
    · rcases List.mem_append.mp hx with hx | hx
      · exact hs2 x hx
      · rw [List.mem_singleton.mp hx]
        exact ⟨Int.emod_nonneg _ (by omega), Int.emod_lt_of_pos _ b0⟩
    · simp; omega) (s := (c, [])) ⟨by simpa using h0, fun x hx => nomatch hx⟩
  have i1 : (f1.length : Int) ≤ many := i1
  rw [e1]
  simp only [bs]
  rw [rngO_ok (by omega) (by omega) (by omega) (by omega)]
  simp only [bs]
  obtain ⟨f2, e2, h1, h2⟩ := forS_ix (f := m__law_draws_L2 (Fz.mk ns) first base) (xs := irange 0 (many - (f1.length : Int))) (fun i (f : List Int) => f.length = f1.length + i ∧ ∀ x ∈ f, 0 ≤ x ∧ x < base) (s := f1) ⟨rfl, i2⟩ (fun i hi f hf => by
    rw [irange_len] at hi
    have ei : (irange 0 (many - (f1.length : Int)))[i]'(by rw [irange_len]; exact hi) = (i : Int) := by simp [irange]
    rw [ei]
    obtain ⟨a, ea⟩ := at_okD (ns := ns) (first + 1 + (i : Int)) (by omega)
    obtain ⟨b, eb⟩ := mixed_ok (a + 97 * (i : Int) * (i : Int))
    obtain ⟨d, ed⟩ := mixed_ok (b + 7 * (i : Int) + 1)
    refine ⟨f ++ [(b * 1000000000039 + d) % base], ?_, by rw [List.length_append, hf.1]; simp; omega, fun x hx => ?_⟩
    · unfold m__law_draws_L2
      simp only [ea, bs]
      rw [mulO_ok (by omega) (by omega)]
      simp only [bs, eb, ed]
      rw [modO_ok b0]
      simp only [bs]
      rw [appO_ok (by omega)]
      rfl
    · rcases List.mem_append.mp hx with hx | hx
      · exact hf.2 x hx
      · rw [List.mem_singleton.mp hx]
        exact ⟨Int.emod_nonneg _ (by omega), Int.emod_lt_of_pos _ b0⟩)
  rw [e2, bs]
  rw [irange_len] at h1
  exact ⟨f2, rfl, by omega, h2⟩
def alpha : Str := "abcdefghijklmnopqrstuvwxyz"
theorem alpha_at : ∀ i : Fin 26, alpha.cps[i.val]? = some (97 + i.val) := by decide +kernel
theorem alpha_size : alpha.cps.size = 26 := by decide +kernel
theorem letter {i : Int} (h1 : 0 ≤ i) (h2 : i < 26) : ixS alpha i = some ⟨#[97 + i.toNat]⟩ := by
  have hl : alpha.length = 26 := alpha_size
  unfold ixS
  rw [if_pos (by rw [hl]; omega), atI_ok h1 (by rw [Array.length_toList, alpha_size]; omega)]
  have e : alpha.cps.toList[i.toNat]? = some (97 + i.toNat) := by
    rw [Array.getElem?_toList]
    exact alpha_at ⟨i.toNat, by omega⟩
  rw [e]
  rfl
theorem one_ok : ∀ (i : Fin 26), PyData.strOk ⟨#[97 + i.val]⟩ = true := by decide +kernel
/-! small letters -/
def Sml (z : Str) : Prop := ∀ c ∈ z.cps.toList, c ∈ SMALL.cps.toList
theorem Sml.ok {z : Str} (h : Sml z) : PyData.strOk z = true := by
  have hs := Array.all_eq_true'.mp (show PyData.strOk SMALL = true by decide +kernel)
  exact Array.all_eq_true'.mpr fun x hx => hs x (Array.mem_toList_iff.mp (h x (Array.mem_toList_iff.mpr hx)))
theorem Sml.app {x y : Str} (h : Sml x) (k : Sml y) : Sml (x ++ y) := fun c hc => by
  have e : (x ++ y).cps.toList = x.cps.toList ++ y.cps.toList := by
    show (x.cps ++ y.cps).toList = _
    rw [Array.toList_append]
  rw [e] at hc
  rcases List.mem_append.mp hc with hc | hc
  · exact h c hc
  · exact k c hc
theorem sml_one : ∀ (i : Fin 26), (97 + i.val) ∈ SMALL.cps.toList := by decide +kernel
theorem Sml.one {i : Int} (h1 : 0 ≤ i) (h2 : i < 26) : Sml ⟨#[97 + i.toNat]⟩ := fun c hc => by
  have hc : c ∈ [97 + i.toNat] := hc
  rw [List.mem_singleton.mp hc]
  exact sml_one ⟨i.toNat, by omega⟩
def lab (pre post : Str) (cell k : Int) : Str := (pre ++ ((⟨#[97 + ((k + cell) % 26).toNat]⟩ : Str) ++ ⟨#[97]⟩)) ++ post
theorem lab_inj {pre post : Str} {cell k j : Int} (k0 : 0 ≤ k) (k1 : k < 26) (j0 : 0 ≤ j) (j1 : j < 26) (h : lab pre post cell k = lab pre post cell j) : k = j := by
  have h2 : ((pre.cps ++ (#[97 + ((k + cell) % 26).toNat] ++ #[97])) ++ post.cps) = ((pre.cps ++ (#[97 + ((j + cell) % 26).toNat] ++ #[97])) ++ post.cps) := congrArg Str.cps h
  have h3 := congrArg (fun a : Array Nat => a[pre.cps.size]?) h2
  have e : ∀ x : Nat, ((pre.cps ++ (#[x] ++ #[97])) ++ post.cps)[pre.cps.size]? = some x := fun x => by
    rw [Array.getElem?_append_left (by rw [Array.size_append, Array.size_append]; show pre.cps.size < pre.cps.size + (1 + 1); omega), Array.getElem?_append_right (Nat.le_refl _), Nat.sub_self]
    rfl
  simp only [e] at h3
  have := Option.some.inj h3
  omega
theorem addS_ok {x y : Str} (h : x.length + y.length ≤ 1000000) : addS x y = some (x ++ y) := if_pos h
def takeS (z : Str) (a : Nat) : Str := ⟨(z.cps.toList.take a).toArray⟩
def dropS (z : Str) (a : Nat) : Str := ⟨(z.cps.toList.drop a).toArray⟩
theorem cut_take {z : Str} (hl : z.length ≤ 1000) (a : Nat) : cutSO z none (some (a : Int)) = some (takeS z a) := by
  have : cutSO z none (some (a : Int)) = some (cutS z none (some (a : Int))) := if_pos (by omega)
  rw [this]
  refine congrArg some (congrArg (fun l : List Nat => (⟨l.toArray⟩ : Str)) ?_)
  exact cut_to _ a
theorem cut_drop {z : Str} (hl : z.length ≤ 1000) (a : Nat) : cutSO z (some (a : Int)) none = some (dropS z a) := by
  have : cutSO z (some (a : Int)) none = some (cutS z (some (a : Int)) none) := if_pos (by omega)
  rw [this]
  refine congrArg some (congrArg (fun l : List Nat => (⟨l.toArray⟩ : Str)) ?_)
  exact cut_from _ a
theorem label_ok (cell : Int) : ∃ pre post : Str, Sml pre ∧ Sml post ∧ pre.length + post.length ≤ 5 ∧ ∀ k, 0 ≤ k → k < 26 → m__law_label k cell = some (lab pre post cell k) := by
  have hn : 0 ≤ cell * 1099087573 % 10000000000037 := Int.emod_nonneg _ (by omega)
  obtain ⟨⟨n', word⟩, ew, hok, hlen⟩ := forS_ix (f := m__law_label_L1 alpha) (xs := irange 0 (cell * 1099087573 % 10000000000037 % 6)) (fun i (s : Int × Str) => Sml s.2 ∧ s.2.length ≤ i) (s := (cell * 1099087573 % 10000000000037, "")) ⟨(fun c hc => by cases hc), Nat.le_refl _⟩ (fun i hi s hs => by
    obtain ⟨n, word⟩ := s
    obtain ⟨h1, h2⟩ := hs
    rw [irange_len] at hi
    have h2 : word.length ≤ i := h2
    have l1 := letter (i := n / 7 % 26) (by omega) (by omega)
    refine ⟨(n / 7, word ++ ⟨#[97 + (n / 7 % 26).toNat]⟩), ?_, Sml.app h1 (Sml.one (by omega) (by omega)), ?_⟩
    · unfold m__law_label_L1
      simp only [bs, l1]
      rw [addS_ok (by show word.length + 1 ≤ _; omega)]
      rfl
    · show (word ++ _ : Str).length ≤ i + 1
      rw [len_app]
      show word.length + 1 ≤ _
      omega)
  rw [irange_len] at hlen
  have hlen : word.length ≤ 5 := by
    have : word.length ≤ (cell * 1099087573 % 10000000000037 % 6 - 0).toNat := hlen
    omega
  have hok : Sml word := hok
  obtain ⟨a, ea, ha⟩ : ∃ a : Nat, cell % ((word.length : Int) + 1) = (a : Int) ∧ a ≤ word.length := by
    have h1 := Int.emod_nonneg cell (show ((word.length : Int) + 1) ≠ 0 by omega)
    have h2 := Int.emod_lt_of_pos cell (show 0 < ((word.length : Int) + 1) by omega)
    exact ⟨(cell % ((word.length : Int) + 1)).toNat, by omega, by omega⟩
  have e1 := cut_take (z := word) (by omega) a
  have e2 := cut_drop (z := word) (by omega) a
  have hlw : word.cps.toList.length = word.length := Array.length_toList
  refine ⟨takeS word a, dropS word a, fun c hc => hok c (List.mem_of_mem_take (by simpa [takeS] using hc)), fun c hc => hok c (List.mem_of_mem_drop (by simpa [dropS] using hc)), ?_, fun k k0 k1 => ?_⟩
  · show (List.take a word.cps.toList).toArray.size + (List.drop a word.cps.toList).toArray.size ≤ 5
    rw [List.size_toArray, List.size_toArray, List.length_take, List.length_drop]
    omega
  unfold m__law_label
  rw [show ("abcdefghijklmnopqrstuvwxyz" : Str) = alpha from rfl]
  simp only [bs]
  rw [rngO_ok (by omega) (by omega) (by omega) (by omega), bs, ew]
  have la := letter (i := (k + cell) % 26) (by omega) (by omega)
  have lb := letter (i := k / 26) (by omega) (by omega)
  have ez : (k / 26).toNat = 0 := by omega
  rw [ez] at lb
  have l1 : (takeS word a).length ≤ 5 := by
    show (List.take a word.cps.toList).toArray.size ≤ 5
    rw [List.size_toArray, List.length_take]
    omega
  have l2 : (dropS word a).length ≤ 5 := by
    show (List.drop a word.cps.toList).toArray.size ≤ 5
    rw [List.size_toArray, List.length_drop]
    omega
  simp only [bs]
  rw [show lenS word = some (word.length : Int) from if_pos (by omega), bs, modO_ok (by omega)]
  simp only [bs, la, lb, ea]
  rw [addS_ok (by show 1 + 1 ≤ 1000000; omega)]
  simp only [bs, e1, e2]
  rw [addS_ok (by rw [len_app]; show (takeS word a).length + (1 + 1) ≤ _; omega), bs, addS_ok (by rw [len_app, len_app]; show (takeS word a).length + (1 + 1) + (dropS word a).length ≤ _; omega)]
  rfl
theorem lab_name {pre post : Str} {cell k : Int} (h1 : Sml pre) (h2 : Sml post) (hl : pre.length + post.length ≤ 5) : isName (.str (lab pre post cell k)) = true ∧ fitn (.str (lab pre post cell k)) 0 := by
  have hs : Sml (lab pre post cell k) := Sml.app (Sml.app h1 (Sml.app (Sml.one (by omega) (by omega)) (Sml.one (i := 0) (by omega) (by omega)))) h2
  have hlen : (lab pre post cell k).length = pre.length + (1 + 1) + post.length := by
    unfold lab
    rw [len_app, len_app, len_app]
    rfl
  have e : signsIn (lab pre post cell k) SMALL = true := by
    unfold signsIn
    rw [List.all_eq_true]
    exact fun c hc => decide_eq_true (hs c hc)
  refine ⟨?_, ?_, okn_str hs.ok 0⟩
  · show (decide (1 ≤ (lab pre post cell k).length) && decide ((lab pre post cell k).length ≤ 8) && signsIn (lab pre post cell k) SMALL) = true
    rw [e, decide_eq_true (show 1 ≤ (lab pre post cell k).length by omega), decide_eq_true (show (lab pre post cell k).length ≤ 8 by omega)]
    rfl
  · show decide ((lab pre post cell k).length < 1000000) = true
    exact decide_eq_true (by omega)
/-! the tree's boxes -/
def ptsT : PyData → List PyData
  | .tuple [_, _, _, _, .tuple ps] => ps
  | _ => []
def nmT : PyData → Str
  | .tuple [_, .str nm, _, _, _] => nm
  | _ => ""
def alkT : PyData → Int
  | .tuple [_, _, o, _, _] => alike o
  | _ => 0
def Ug : Nat → PyData → Prop
  | 0, _ => True
  | n + 1, d => alkT d = 0 ∧ ∀ p ∈ ptsT d, Ug n p
def U (d : PyData) : Prop := ∀ n, Ug n d
theorem U.mk {d : PyData} (h : alkT d = 0) (hp : ∀ p ∈ ptsT d, U p) : U d := fun n => by
  cases n with
  | zero => trivial
  | succ n => exact ⟨h, fun p q => hp p q n⟩
theorem U.al {d : PyData} (h : U d) : alkT d = 0 := (h 1).1
theorem U.ps {d : PyData} (h : U d) : ∀ p ∈ ptsT d, U p := fun p hp n => (h (n + 1)).2 p hp
abbrev FIVE : List Str := ["leaf", "row", "column", "wrap", "table"]
structure BxI (k nm : Str) (a b c d e : PyData) (g : Int) (w0 w1 : PyData) (ws ps : List PyData) : Prop where
  nf : fitn (.str nm) 0
  nn : isName (.str nm) = true
  ow : isOwn (.tuple [a, b, c, d, e, .int g]) = true
  kd : kindOk (.str k) (.tuple (w0 :: w1 :: ws)) (.tuple ps) = true
  k5 : k ∈ FIVE
  fo : fitn (.tuple [a, b, c, d, e, .int g]) 2
  fw : fitn (.tuple (w0 :: w1 :: ws)) 4
  t0 : k = "table" → g = 0 ∧ ∀ p ∈ ps, U p
  pl : ps.length ≤ 20
def Bx : Nat → PyData → Prop
  | 0, _ => False
  | n + 1, x => ∃ k nm a b c d e g w0 w1 ws ps, x = .tuple [.str k, .str nm, .tuple [a, b, c, d, e, .int g], .tuple (w0 :: w1 :: ws), .tuple ps] ∧ BxI k nm a b c d e g w0 w1 ws ps ∧ ∀ p ∈ ps, Bx n p
theorem Bx.mono : ∀ {n : Nat} {d : PyData}, Bx n d → Bx (n + 1) d
  | n + 1, _, ⟨k, nm, a, b, c, d, e, g, w0, w1, ws, ps, h1, h2, h3⟩ => ⟨k, nm, a, b, c, d, e, g, w0, w1, ws, ps, h1, h2, fun p hp => Bx.mono (h3 p hp)⟩
theorem Bx.le {n m : Nat} {d : PyData} (h : Bx n d) (l : n ≤ m) : Bx m d := by
  induction l with
  | refl => exact h
  | step _ ih => exact ih.mono
theorem Bx.parts : ∀ {n : Nat} {d : PyData}, Bx (n + 1) d → ∀ p ∈ ptsT d, Bx n p
  | _, _, ⟨k, nm, a, b, c, d, e, g, w0, w1, ws, ps, rfl, h2, h3⟩ => h3
theorem k5_fit : FIVE.all (fun k => fitB (.str k) 0) = true := by decide +kernel
theorem fit_k5 {k : Str} (h : k ∈ FIVE) : fitB (.str k) 0 = true := List.all_eq_true.mp k5_fit k h
theorem Bx.fit : ∀ {n : Nat} {d : PyData}, Bx n d → fitn d (5 + 2 * n)
  | n + 1, _, ⟨k, nm, a, b, c, d, e, g, w0, w1, ws, ps, rfl, h2, h3⟩ => by
    have hp : fitn (.tuple ps) (5 + 2 * n + 1) := fitn_tup (by have := h2.pl; omega) fun d hd => Bx.fit (h3 d hd)
    exact (fitn_tup (n := 5 + 2 * n + 1) (by simp) (fitn_cons (fitn_sml (fit_k5 h2.k5)) (fitn_cons (h2.nf.mono (Nat.zero_le _)) (fitn_cons (h2.fo.mono (by omega)) (fitn_cons (h2.fw.mono (by omega)) (fitn_cons hp fitn_nil)))))).mono (by omega)
def bxT : Nat → PyData → List PyData
  | 0, _ => []
  | n + 1, d => d :: (ptsT d).flatMap (bxT n)
theorem flatMap_eq {α β : Type} {f g : α → List β} : ∀ {xs : List α}, (∀ x ∈ xs, f x = g x) → xs.flatMap f = xs.flatMap g
  | [], _ => rfl
  | x :: xs, h => by rw [List.flatMap_cons, List.flatMap_cons, h x List.mem_cons_self, flatMap_eq fun y hy => h y (List.mem_cons_of_mem _ hy)]
theorem bxT_mono : ∀ {n : Nat} {d : PyData}, Bx n d → bxT (n + 1) d = bxT n d
  | n + 1, d, h => by
    show d :: (ptsT d).flatMap (bxT (n + 1)) = d :: (ptsT d).flatMap (bxT n)
    rw [flatMap_eq fun p hp => bxT_mono (h.parts p hp)]
theorem bxT_le {n m : Nat} {d : PyData} (h : Bx n d) (l : n ≤ m) : bxT m d = bxT n d := by
  induction l with
  | refl => rfl
  | step l ih => rw [bxT_mono (h.le l), ih]
theorem bxT_mem : ∀ {n : Nat} {d : PyData}, Bx n d → ∀ b ∈ bxT n d, Bx n b
  | n + 1, d, h, b, hb => by
    rcases List.mem_cons.mp hb with rfl | hb
    · exact h
    · obtain ⟨p, hp, hb⟩ := List.mem_flatMap.mp hb
      exact (bxT_mem (h.parts p hp) b hb).mono
/-! rows of small tables -/
theorem rows_go {C : Int} (hC1 : 1 ≤ C) (hC : C ≤ 12) : ∀ (xs : List P2) (d : Dk) (i : Nat), Dok d i → (∀ x ∈ xs, SpOk C x) → i + xs.length ≤ 100 → ∀ t ∈ zipI xs (plc C d xs), t.2.1.1 + t.1.2.1 ≤ 12 * ((i + xs.length : Nat) : Int)
  | [], _, _, _, _, _ => fun t ht => nomatch ht
  | x :: xs, d, i, hd, hx, hi => fun t ht => by
    have h := hx x List.mem_cons_self
    rw [List.length_cons] at hi ⊢
    obtain ⟨n, _, hf, hn⟩ := first_ok hC1 hC h (i := i) (by omega) hd
    rcases List.mem_cons.mp (show t ∈ (x, pl C d x, ()) :: zipI xs (plc C (nd C d x) xs) from ht) with rfl | ht
    · have q : n / C ≤ 12 * (i : Int) := by
        have := Int.ediv_le_ediv (show 0 < C by omega) hn
        rwa [Int.mul_ediv_cancel _ (show C ≠ 0 by omega)] at this
      have h4 := h.b2
      show (pl C d x).1 + x.2.1 ≤ _
      unfold pl
      rw [fst_eq hf]
      show n / C + x.2.1 ≤ _
      omega
    · have := rows_go hC1 hC xs (nd C d x) (i + 1) (by unfold nd; rw [fst_eq hf]; exact dok_next hC1 hC h hd hf.nn hn) (fun y hy => hx y (List.mem_cons_of_mem _ hy)) (by omega) t ht
      rw [show i + 1 + xs.length = i + (xs.length + 1) by omega] at this
      exact this
theorem maxDf_le {xs : List Int} {B : Int} (h0 : 0 ≤ B) (h : ∀ x ∈ xs, x ≤ B) : L2.maxDf xs 0 ≤ B := by
  cases xs with
  | nil => exact h0
  | cons y ys =>
    have key : ∀ (ys : List Int) (a : Int), a ≤ B → (∀ x ∈ ys, x ≤ B) → ys.foldl max a ≤ B := by
      intro ys
      induction ys with
      | nil => exact fun a ha _ => ha
      | cons z zs ih =>
        intro a ha hz
        rw [List.foldl_cons]
        exact ih _ (by have := hz z List.mem_cons_self; omega) fun x hx => hz x (List.mem_cons_of_mem _ hx)
    exact key ys y (h y List.mem_cons_self) fun x hx => h x (List.mem_cons_of_mem _ hx)
theorem rows_small {C : Int} (hC1 : 1 ≤ C) (hC : C ≤ 12) {xs : List P2} (hx : ∀ x ∈ xs, SpOk C x) (hl : xs.length ≤ 4) : rowsT C xs ≤ 60 := by
  unfold rowsT m_rows_taken
  rw [put_ok hC1 hC hx (by omega)]
  simp only [bs]
  unfold m_last_row
  rw [lcM_all (fun p : P2 × P2 × Unit => p.2.1.1 + p.1.2.1) (by
    unfold zipI
    rw [List.length_zipWith]
    have : (Tu.mk xs).l.length = xs.length := rfl
    omega) (fun p _ => rfl)]
  show L2.maxDf _ 0 ≤ 60
  refine maxDf_le (by omega) fun x hx2 => ?_
  obtain ⟨t, ht, rfl⟩ := List.mem_map.mp hx2
  have := rows_go hC1 hC xs (Dc.mk []) 0 dok0 hx (by omega) t ht
  have : t.2.1.1 + t.1.2.1 ≤ 12 * ((0 + xs.length : Nat) : Int) := this
  omega
/-! pairs of two lists -/
theorem zip_at {α β : Type} {xs : List α} {ys : List β} (h : xs.length = ys.length) {i : Nat} (hi : i < (zipI xs ys).length) : (zipI xs ys)[i] = (xs[i]'(by simp [zipI] at hi; omega), ys[i]'(by simp [zipI] at hi; omega), ()) := by simp [zipI]
theorem zip_len {α β : Type} {xs : List α} {ys : List β} (h : xs.length = ys.length) : (zipI xs ys).length = xs.length := by simp [zipI]; omega
/-! the tree that is grown -/
theorem span_ok (n : Int) (h0 : 0 ≤ n) : ∃ a b, m__law_span n = some (a, b, ()) ∧ 0 ≤ a ∧ a ≤ b ∧ b ≤ 1000000 := by
  unfold m__law_span
  rw [pick3 _ _ _ (by omega) (by omega), bs, bs, pick2 _ _ (by omega) (by omega), bs]
  refine ⟨_, _, rfl, ?_⟩
  (repeat' split) <;> omega
theorem own_ok (n : Int) (al : Bool) : ∃ a b c d g1 g2 g3 g, m__law_own n al = some ((a, b, ()), (c, d, ()), g1, g2, g3, g, ()) ∧ isOwn (.tuple [.tuple [.int a, .int b], .tuple [.int c, .int d], .int g1, .int g2, .int g3, .int g]) = true ∧ 0 ≤ g ∧ (al = false → g = 0) := by
  obtain ⟨a, b, e1, a1, a2, a3⟩ := span_ok (n % 9000) (by omega)
  obtain ⟨c, d, e2, c1, c2, c3⟩ := span_ok (n / 9000 % 9000) (by omega)
  unfold m__law_own
  simp only [e1, e2, bs]
  rw [pick4 _ _ _ _ (by omega) (by omega), bs]
  generalize hq : (if n / 81000000 / 160 % 4 = 0 then (0 : Int) else if n / 81000000 / 160 % 4 = 1 then 0 else if n / 81000000 / 160 % 4 = 2 then 1 else 2) = q
  have hq2 : 0 ≤ q ∧ q ≤ 2 := by
    rw [← hq]
    (repeat' split) <;> omega
  obtain ⟨g, eg, g0, g2, ga⟩ : ∃ g, mulO q (if al = true then (1 : Int) else 0) = some g ∧ 0 ≤ g ∧ g ≤ 2 ∧ (al = false → g = 0) := by
    cases al with
    | true =>
      rw [if_pos rfl]
      exact ⟨q * 1, mulO_ok (by omega) (by omega), by omega, by omega, fun z => nomatch z⟩
    | false =>
      rw [if_neg nf]
      exact ⟨q * 0, mulO_ok (by omega) (by omega), by omega, by omega, fun _ => by omega⟩
  rw [eg]
  refine ⟨a, b, c, d, _, _, _, g, rfl, ?_, g0, ga⟩
  generalize h1 : n / 81000000 % 4 = x1
  generalize h2 : n / 81000000 / 4 % 4 = x2
  generalize h3 : n / 81000000 / 16 % 10 = x3
  show ((decide (0 ≤ a) && decide (b ≤ 1000000) && decide (a ≤ b)) && (decide (0 ≤ c) && decide (d ≤ 1000000) && decide (c ≤ d)) && (decide (0 ≤ x1) && decide (x1 ≤ 99)) && (decide (0 ≤ x2) && decide (x2 ≤ 99)) && (decide (0 ≤ x3) && decide (x3 ≤ 9)) && (decide (0 ≤ g) && decide (g ≤ 9))) = true
  rw [decide_eq_true a1, decide_eq_true a2, decide_eq_true a3, decide_eq_true c1, decide_eq_true c2, decide_eq_true c3, decide_eq_true g0, decide_eq_true (show g ≤ 9 by omega), decide_eq_true (show 0 ≤ x1 by omega), decide_eq_true (show x1 ≤ 99 by omega), decide_eq_true (show 0 ≤ x2 by omega), decide_eq_true (show x2 ≤ 99 by omega), decide_eq_true (show 0 ≤ x3 by omega), decide_eq_true (show x3 ≤ 9 by omega)]
  rfl
theorem fitn_two (a b : Int) : fitn (.tuple [.int a, .int b]) 1 := fitn_tup (n := 0) (by simp) (fitn_cons (fitn_int _ _) (fitn_cons (fitn_int _ _) fitn_nil))
theorem fitn_ownT (a b c d g1 g2 g3 g : Int) : fitn (.tuple [.tuple [.int a, .int b], .tuple [.int c, .int d], .int g1, .int g2, .int g3, .int g]) 2 := fitn_tup (n := 1) (by simp) (fitn_cons (fitn_two _ _) (fitn_cons (fitn_two _ _) (fitn_cons (fitn_int _ _) (fitn_cons (fitn_int _ _) (fitn_cons (fitn_int _ _) (fitn_cons (fitn_int _ _) fitn_nil))))))
structure Made (m : Nat) (nm : Str) (ps : List PyData) (al : Bool) (d : PyData) : Prop where
  b : Bx (m + 1) d
  p : ptsT d = ps
  n : nmT d = nm
  g0 : 0 ≤ alkT d
  ga : al = false → alkT d = 0
  at_ : ∃ ds os, (ofD ⟨d⟩ : Option (Tu Dy)) = some ⟨ds⟩ ∧ atI ds (2 : Int) = some ⟨.tuple os⟩ ∧ (ofD ⟨.tuple os⟩ : Option (Tu Dy)) = some ⟨os.map Dy.mk⟩ ∧ atI (os.map Dy.mk) (5 : Int) = some ⟨.int (alkT d)⟩
theorem made_mk {m : Nat} {k nm : Str} {a b c d g1 g2 g3 g : Int} {w0 w1 : PyData} {ws ps : List PyData} {al : Bool} (h1 : fitn (.str nm) 0) (h2 : isName (.str nm) = true) (h3 : isOwn (.tuple [.tuple [.int a, .int b], .tuple [.int c, .int d], .int g1, .int g2, .int g3, .int g]) = true) (h4 : kindOk (.str k) (.tuple (w0 :: w1 :: ws)) (.tuple ps) = true) (h5 : k ∈ FIVE) (h6 : fitn (.tuple (w0 :: w1 :: ws)) 4) (h7 : k = "table" → g = 0 ∧ ∀ p ∈ ps, U p) (h8 : ps.length ≤ 20) (hp : ∀ p ∈ ps, Bx m p) (g0 : 0 ≤ g) (ga : al = false → g = 0) :
    Made m nm ps al (.tuple [.str k, .str nm, .tuple [.tuple [.int a, .int b], .tuple [.int c, .int d], .int g1, .int g2, .int g3, .int g], .tuple (w0 :: w1 :: ws), .tuple ps]) :=
  ⟨⟨k, nm, _, _, _, _, _, g, w0, w1, ws, ps, rfl, ⟨h1, h2, h3, h4, h5, fitn_ownT _ _ _ _ _ _ _ _, h6, h7, h8⟩, hp⟩, rfl, rfl, g0, ga, ⟨_, _, ofTu _, rfl, ofTu _, rfl⟩⟩
theorem leaf_ok {nm : Str} (hn : isName (.str nm) = true ∧ fitn (.str nm) 0) (n : Int) : ∃ d al, m__law_leaf nm n = some ⟨d⟩ ∧ Made 0 nm [] al d := by
  obtain ⟨a, b, c, d, g1, g2, g3, g4, e, ho, g0, ga⟩ := own_ok (n / 100) (decide (n % 3 = 0))
  unfold m__law_leaf
  simp only [e, bs]
  refine ⟨.tuple [.str "leaf", .str nm, .tuple [.tuple [.int a, .int b], .tuple [.int c, .int d], .int g1, .int g2, .int g3, .int g4], .tuple [.int _, .int _], .tuple []], _, rfl, made_mk hn.2 hn.1 ho ?_ (by decide) ((fitn_two _ _).mono (by omega)) (fun z => absurd z (by decide)) (by simp) (fun p hp => nomatch hp) g0 ga⟩
  rw [kind_leaf]
  generalize h1 : n / 100 / 51840000000 % 40 = x1
  generalize h2 : n / 100 / 51840000000 / 40 % 12 = x2
  show (true && (decide (0 ≤ x1) && decide (x1 ≤ 1000000) && (decide (0 ≤ x2) && decide (x2 ≤ 1000000)))) = true
  rw [decide_eq_true (show 0 ≤ x1 by omega), decide_eq_true (show x1 ≤ 1000000 by omega), decide_eq_true (show 0 ≤ x2 by omega), decide_eq_true (show x2 ≤ 1000000 by omega)]
  rfl
theorem spans_ok {rest columns : Int} (hc : 0 < columns) : ∀ (xs : List Int) (sp : List (Int × Int × Unit)), (∀ x ∈ xs, 0 ≤ x ∧ x ≤ 1000) → sp.length + xs.length < 1000 → (∀ t ∈ sp, 1 ≤ t.1 ∧ t.1 ≤ columns ∧ 1 ≤ t.2.1 ∧ t.2.1 ≤ 2) → ∃ sp', forS (m__law_within_L1 rest columns) xs sp = some sp' ∧ sp'.length = sp.length + xs.length ∧ ∀ t ∈ sp', 1 ≤ t.1 ∧ t.1 ≤ columns ∧ 1 ≤ t.2.1 ∧ t.2.1 ≤ 2
  | [], sp, _, _, h => ⟨sp, rfl, rfl, h⟩
  | x :: xs, sp, h, hl, hs => by
    rw [List.length_cons] at hl
    have hx := h x List.mem_cons_self
    obtain ⟨y, e, hy⟩ : ∃ y : Int × Int × Unit, m__law_within_L1 rest columns x sp = some (sp ++ [y]) ∧ 1 ≤ y.1 ∧ y.1 ≤ columns ∧ 1 ≤ y.2.1 ∧ y.2.1 ≤ 2 := by
      unfold m__law_within_L1
      rw [mulO_ok (by omega) (by omega), bs, bs, modO_ok hc, bs, appO_ok (by omega)]
      have h1 := Int.emod_nonneg (rest / 3840 + x * x) (show columns ≠ 0 by omega)
      have h2 := Int.emod_lt_of_pos (rest / 3840 + x * x) hc
      exact ⟨_, rfl, by show 1 ≤ 1 + _; omega, by show 1 + _ ≤ _; omega, by show 1 ≤ 1 + _ % 2; omega, by show 1 + _ % 2 ≤ 2; omega⟩
    rw [forS_cons e]
    obtain ⟨sp', e', l', h'⟩ := spans_ok hc xs (sp ++ [y]) (fun y hy => h y (List.mem_cons_of_mem _ hy)) (by rw [List.length_append, List.length_singleton]; omega) (fun t ht => by
      rcases List.mem_append.mp ht with ht | ht
      · exact hs t ht
      · rw [List.mem_singleton.mp ht]
        exact hy)
    exact ⟨sp', e', by rw [l', List.length_append, List.length_singleton, List.length_cons]; omega, h'⟩
theorem within_ok {kind nm : Str} (hn : isName (.str nm) = true ∧ fitn (.str nm) 0) (n : Int) {some_ : List Dy} {m : Nat} (hs : ∀ x ∈ some_, Bx m x.d) (hl : some_.length ≤ 20) {al : Bool} (hk : kind ∈ LINES ∨ (kind = "table" ∧ al = false ∧ some_.length ≤ 4 ∧ ∀ x ∈ some_, U x.d)) : ∃ d, m__law_within kind nm n some_ al = some ⟨d⟩ ∧ Made m nm (some_.map Dy.d) al d := by
  obtain ⟨a, b, c, d, g1, g2, g3, g4, e, ho, g0, ga⟩ := own_ok (n / 100) al
  have hp : ∀ p ∈ some_.map Dy.d, Bx m p := fun p hp => by
    obtain ⟨x, hx, rfl⟩ := List.mem_map.mp hp
    exact hs x hx
  unfold m__law_within
  simp only [e, bs]
  rw [pick4 _ _ _ _ (by omega) (by omega)]
  simp only [bs]
  rw [pick2 _ _ (by omega) (by omega)]
  simp only [bs]
  generalize hg : (if n / 100 / 51840000000 / 960 % 4 = 0 then (0 : Int) else _) = gap
  have hgap : 0 ≤ gap ∧ gap ≤ 1000 := by
    rw [← hg]
    (repeat' split) <;> omega
  obtain ⟨side, hside, hsf, eside⟩ : ∃ z : Str, isWord (.str z) SIDES = true ∧ fitB (.str z) 0 = true ∧ (if n / 100 / 51840000000 % 2 = 0 then ("left" : Str) else "right") = z := by
    refine ⟨_, ?_, ?_, rfl⟩ <;> split <;> decide +kernel
  rw [eside]
  have hgw : isWhole (.int gap) 0 1000 = true := by
    show (decide (0 ≤ gap) && decide (gap ≤ 1000)) = true
    rw [decide_eq_true hgap.1, decide_eq_true hgap.2]
    rfl
  rcases hk with hk | ⟨rfl, rfl, hl4, hU⟩
  · have hkt : kind ≠ "table" := fun z => absurd hk (by rw [z]; decide)
    have hk5 : kind ∈ FIVE := by
      have : ∀ k ∈ LINES, k ∈ FIVE := by decide
      exact this kind hk
    rw [if_pos (by rw [decide_eq_false hkt]; rfl), pick4 _ _ _ _ (by omega) (by omega)]
    simp only [bs]
    obtain ⟨al2, hal, haf, eal⟩ : ∃ z : Str, isWord (.str z) ALIGNS = true ∧ fitB (.str z) 0 = true ∧ (if n / 100 / 51840000000 / 2 % 4 = 0 then ("start" : Str) else if n / 100 / 51840000000 / 2 % 4 = 1 then "end" else if n / 100 / 51840000000 / 2 % 4 = 2 then "mid" else "mid2") = z := by
      refine ⟨_, ?_, ?_, rfl⟩ <;> (repeat' split) <;> decide +kernel
    rw [eal]
    refine ⟨_, rfl, made_mk hn.2 hn.1 ho ?_ hk5 ((fitn_tup (n := 0) (by simp) (fitn_cons (fitn_int gap _) (fitn_cons (fitn_sml haf) (fitn_cons (fitn_sml hsf) fitn_nil)))).mono (by omega)) (fun z => absurd z hkt) (by rw [List.length_map]; exact hl) hp g0 ga⟩
    rw [kind_line hk]
    show (decide ((some_.map Dy.d).length ≤ 20) && isWhole (.int gap) 0 1000 && isWord (.str al2) ALIGNS && isWord (.str side) SIDES) = true
    rw [hgw, hal, hside, decide_eq_true (show (some_.map Dy.d).length ≤ 20 by rw [List.length_map]; exact hl)]
    rfl
  · rw [if_neg (by decide), rngO_ok (by omega) (by omega) (by omega) (by omega), bs]
    generalize hcol : 1 + n / 100 / 51840000000 / 2 % 4 = C
    obtain ⟨sp, es, lsp, hsp⟩ := spans_ok (rest := n / 100 / 51840000000) (columns := C) (by omega) (irange 0 (some_.length : Int)) [] (fun x hx => by
      rw [mem_irange] at hx
      omega) (by rw [irange_len]; show 0 + _ < _; omega) (fun t ht => nomatch ht)
    rw [es]
    simp only [bs]
    have lsp : sp.length = some_.length := by
      rw [irange_len] at lsp
      have : ([] : List (Int × Int × Unit)).length = 0 := rfl
      omega
    have fsp : fitn (.tuple (sp.map fun t => Ud.toD t)) 2 := fitn_tup (by rw [List.length_map]; omega) fun x hx => by
      obtain ⟨t, _, rfl⟩ := List.mem_map.mp hx
      obtain ⟨x, y, u⟩ := t
      exact fitn_two x y
    refine ⟨_, rfl, made_mk hn.2 hn.1 ho ?_ (show ("table" : Str) ∈ FIVE by decide) ((fitn_tup (n := 2) (by simp) (fitn_cons (fitn_int _ _) (fitn_cons (fitn_int gap _) (fitn_cons (fitn_sml hsf) (fitn_cons fsp fitn_nil))))).mono (by omega)) (fun _ => ⟨ga rfl, fun p hp => by
      obtain ⟨x, hx, rfl⟩ := List.mem_map.mp hp
      exact hU x hx⟩) (by rw [List.length_map]; exact hl) hp g0 ga⟩
    have ea : (sp.map fun t => Ud.toD t).all (spanIn C) = true := by
      rw [List.all_eq_true]
      intro d hd
      obtain ⟨⟨x, y, u⟩, ht, rfl⟩ := List.mem_map.mp hd
      obtain ⟨b1, b2, b3, b4⟩ := hsp _ ht
      have b1 : 1 ≤ x := b1
      have b2 : x ≤ C := b2
      have b3 : 1 ≤ y := b3
      have b4 : y ≤ 2 := b4
      show ((decide (1 ≤ x) && decide (x ≤ 12) && (decide (1 ≤ y) && decide (y ≤ 12))) && decide (x ≤ C)) = true
      rw [decide_eq_true b1, decide_eq_true b2, decide_eq_true b3, decide_eq_true (show x ≤ 12 by omega), decide_eq_true (show y ≤ 12 by omega)]
      rfl
    have ep : (sp.map fun t => Ud.toD t).map prOf = sp := by
      rw [List.map_map]
      exact List.map_id sp
    have er : rowsT C sp ≤ 60 := rows_small (by omega) (by omega) (fun x hx => ⟨(hsp x hx).1, (hsp x hx).2.1, (hsp x hx).2.2.1, by have := (hsp x hx).2.2.2; omega⟩) (by omega)
    rw [kind_table]
    show (decide ((some_.map Dy.d).length ≤ 40) && (decide (1 ≤ C) && decide (C ≤ 12)) && isWhole (.int gap) 0 1000 && isWord (.str side) SIDES && decide ((sp.map fun t => Ud.toD t).length = (some_.map Dy.d).length) && (sp.map fun t => Ud.toD t).all (spanIn C) && decide (rowsT C ((sp.map fun t => Ud.toD t).map prOf) ≤ 60)) = true
    rw [hgw, hside, ea, ep, decide_eq_true er, decide_eq_true (show (some_.map Dy.d).length ≤ 40 by rw [List.length_map]; omega), decide_eq_true (show 1 ≤ C by omega), decide_eq_true (show C ≤ 12 by omega), decide_eq_true (show (sp.map fun t => Ud.toD t).length = (some_.map Dy.d).length by rw [List.length_map, List.length_map]; exact lsp)]
    rfl
abbrev Se := Dy × Int × Bool × Unit
def nmsE (e : Se) : List Str := (bxT 8 e.1.d).map nmT
def SeOk (e : Se) : Prop := (∃ n : Nat, 1 ≤ n ∧ n ≤ 5 ∧ e.2.1 = (n : Int) ∧ Bx n e.1.d) ∧ (e.2.2.1 = false → U e.1.d)
structure St (stk : List Se) (used : Str → Prop) (k : Nat) : Prop where
  b : ∀ e ∈ stk, SeOk e
  nd : (stk.flatMap nmsE).Nodup
  us : ∀ x ∈ stk.flatMap nmsE, used x
  ln : (stk.flatMap nmsE).length = k
theorem nms_pos {e : Se} (h : SeOk e) : 1 ≤ (nmsE e).length := by
  unfold nmsE
  rw [show bxT 8 e.1.d = e.1.d :: (ptsT e.1.d).flatMap (bxT 7) from rfl, List.map_cons, List.length_cons]
  omega
theorem St.len {stk : List Se} {used : Str → Prop} {k : Nat} (h : St stk used k) : stk.length ≤ k := by
  rw [← h.ln]
  have hb := h.b
  clear h
  induction stk with
  | nil => exact Nat.zero_le _
  | cons e stk ih =>
    have := ih fun y hy => hb y (List.mem_cons_of_mem _ hy)
    have hp := nms_pos (hb e List.mem_cons_self)
    rw [List.flatMap_cons, List.length_cons, List.length_append]
    omega
theorem St.add {stk stk' : List Se} {used : Str → Prop} {k : Nat} {nm : Str} (h : St stk used k) (hn : ¬ used nm) (hb : ∀ e ∈ stk', SeOk e) (hp : (stk'.flatMap nmsE).Perm (nm :: stk.flatMap nmsE)) : St stk' (fun x => used x ∨ x = nm) (k + 1) :=
  ⟨hb, hp.nodup_iff.mpr (List.nodup_cons.mpr ⟨fun hm => hn (h.us _ hm), h.nd⟩), fun x hx => by
    rcases List.mem_cons.mp (hp.mem_iff.mp hx) with rfl | hx
    · exact .inr rfl
    · exact .inl (h.us x hx), by rw [hp.length_eq, List.length_cons, h.ln]⟩
theorem maxDf_ok : ∀ {xs : List Int}, (∀ x ∈ xs, 0 ≤ x) → 0 ≤ L2.maxDf xs 0 ∧ ∀ x ∈ xs, x ≤ L2.maxDf xs 0
  | [], _ => ⟨Int.le_refl _, fun x h => nomatch h⟩
  | y :: ys, h => by
    have key : ∀ (ys : List Int) (a : Int), a ≤ ys.foldl max a ∧ ∀ x ∈ ys, x ≤ ys.foldl max a := by
      intro ys
      induction ys with
      | nil => exact fun a => ⟨Int.le_refl _, fun x h => nomatch h⟩
      | cons z zs ih =>
        intro a
        obtain ⟨h1, h2⟩ := ih (max a z)
        rw [List.foldl_cons]
        refine ⟨by omega, fun x hx => ?_⟩
        rcases List.mem_cons.mp hx with rfl | hx
        · omega
        · exact h2 x hx
    obtain ⟨h1, h2⟩ := key ys y
    have := h y List.mem_cons_self
    show 0 ≤ ys.foldl max y ∧ ∀ x ∈ y :: ys, x ≤ ys.foldl max y
    refine ⟨by omega, fun x hx => ?_⟩
    rcases List.mem_cons.mp hx with rfl | hx
    · exact h1
    · exact h2 x hx
theorem made_U {m : Nat} {nm : Str} {ps : List PyData} {al : Bool} {d : PyData} (h : Made m nm ps al d) (hg : alkT d = 0) (hp : ∀ p ∈ ps, U p) : U d := U.mk hg (by rw [h.p]; exact hp)
theorem nms_leaf {d : PyData} {nm : Str} {al : Bool} (h : Made 0 nm [] al d) (i : Int) (b : Bool) : nmsE (⟨d⟩, i, b, ()) = [nm] := by
  show (d :: (ptsT d).flatMap (bxT 7)).map nmT = [nm]
  rw [h.p, ← h.n]
  rfl
theorem grow_leaf {stk : List Se} {used : Str → Prop} {k : Nat} {nm : Str} (h : St stk used k) (hk : k < 100) (hn : ¬ used nm) (ho : isName (.str nm) = true ∧ fitn (.str nm) 0) (n : Int) : ∃ stk', ((m__law_leaf nm n).bind fun r_209 => (some r_209).bind fun leaf_here_210 =>
    ((ofD leaf_here_210 : Option (Tu Dy))).bind fun o_211 => (atI o_211.l (2 : Int)).bind fun i_212 => ((ofD i_212 : Option (Tu Dy))).bind fun o_213 => (atI o_213.l (5 : Int)).bind fun i_214 => ((ofD i_214 : Option Int)).bind fun o_215 =>
    (catO stk ([(leaf_here_210, (1 : Int), (decide ((0 : Int) < o_215)), ())] : List Se)).bind fun cat_216 => some cat_216) = some stk' ∧ St stk' (fun x => used x ∨ x = nm) (k + 1) := by
  obtain ⟨d, al, e, hm⟩ := leaf_ok ho n
  obtain ⟨ds, os, e1, e2, e3, e4⟩ := hm.at_
  have := h.len
  refine ⟨stk ++ [(⟨d⟩, 1, decide (0 < alkT d), ())], ?_, h.add hn (fun x hx => ?_) ?_⟩
  · rw [e, bs, bs, e1, bs, e2, bs, e3, bs, e4, bs, ofI, bs, catO_ok (by show _ + 1 ≤ _; omega)]
    rfl
  · rcases List.mem_append.mp hx with hx | hx
    · exact h.b x hx
    · rw [List.mem_singleton.mp hx]
      refine ⟨⟨1, by omega, by omega, rfl, hm.b⟩, fun z => made_U hm ?_ (fun p hp => nomatch hp)⟩
      have z := of_decide_eq_false z
      have := hm.g0
      show alkT d = 0
      omega
  · rw [List.flatMap_append, List.flatMap_singleton, nms_leaf hm]
    exact List.perm_append_comm
theorem nms_made {m : Nat} {nm : Str} {al : Bool} {d : PyData} {xs : List Se} (h : Made m nm ((xs.map fun e => e.1).map Dy.d) al d) (hx : ∀ x ∈ xs, SeOk x) : (bxT 8 d).map nmT = nm :: xs.flatMap nmsE := by
  rw [show bxT 8 d = d :: (ptsT d).flatMap (bxT 7) from rfl, h.p, List.map_cons, h.n, List.map_flatMap, List.map_map, List.flatMap_map]
  refine congrArg (nm :: ·) (flatMap_eq fun x hx2 => ?_)
  obtain ⟨⟨m, _, m5, _, hm⟩, _⟩ := hx x hx2
  show (bxT 7 x.1.d).map nmT = (bxT 8 x.1.d).map nmT
  rw [bxT_le hm (show m ≤ 7 by omega), bxT_le hm (show m ≤ 8 by omega)]
theorem step_ok {stk : List Se} {used : Str → Prop} {k : Nat} {nm : Str} (h : St stk used k) (hk : k < 90) (hn : ¬ used nm) (ho : isName (.str nm) = true ∧ fitn (.str nm) 0) (n : Int) : ∃ stk', m__law_step stk n nm = some stk' ∧ St stk' (fun x => used x ∨ x = nm) (k + 1) := by
  have hlen := h.len
  unfold m__law_step
  simp only [bs]
  have hm : 0 ≤ (1 + n / 16) % 5 ∧ (1 + n / 16) % 5 < 5 := by omega
  generalize (1 + n / 16) % 5 = many at hm
  by_cases c1 : (decide (n % 16 < 7) || decide ((stk.length : Int) < many)) = true
  · rw [if_pos c1]
    exact grow_leaf h (by omega) hn ho n
  · rw [if_neg c1]
    rw [Bool.or_eq_true, decide_eq_true_eq, decide_eq_true_eq] at c1
    have ej : (stk.length : Int) - many = ((stk.length - many.toNat : Nat) : Int) := by omega
    rw [ej, cut_from, cut_to]
    have hjl : stk.length - (stk.length - many.toNat) ≤ 4 := by omega
    generalize stk.length - many.toNat = j at hjl
    have esp : stk.take j ++ stk.drop j = stk := List.take_append_drop j stk
    have hdl : (stk.drop j).length ≤ 4 := by rw [List.length_drop]; omega
    have hsb : ∀ e ∈ stk.drop j, SeOk e := fun e he => h.b e (List.mem_of_mem_drop he)
    rw [lcM_all (f := fun one_218 : Se => some one_218.2.1) (fun e => e.2.1) (by omega) (fun _ _ => rfl)]
    simp only [bs]
    rw [lcM_all (f := fun one_221 : Se => some one_221.2.2.1) (fun e => e.2.2.1) (by omega) (fun _ _ => rfl)]
    simp only [bs]
    obtain ⟨d0, dle⟩ := maxDf_ok (xs := (stk.drop j).map fun e => e.2.1) fun x hx => by
      obtain ⟨e, he, rfl⟩ := List.mem_map.mp hx
      obtain ⟨⟨n, _, _, e2, _⟩, _⟩ := hsb e he
      omega
    generalize hdeep : L2.maxDf ((stk.drop j).map fun e => e.2.1) 0 = deep at d0 dle
    obtain ⟨kind, hkind, ekind⟩ : ∃ z : Str, (z ∈ LINES ∨ z = "table") ∧ atI ([("row" : Str), ("column" : Str), ("wrap" : Str), ("table" : Str), ("row" : Str), ("column" : Str)] : List Str) ((n % 16 - 7) % 6) = some z := by
      obtain ⟨z, ez, hz⟩ := atI_some (xs := ([("row" : Str), ("column" : Str), ("wrap" : Str), ("table" : Str), ("row" : Str), ("column" : Str)] : List Str)) (i := (n % 16 - 7) % 6) (by omega) (by show _ < (6 : Int); omega)
      refine ⟨z, ?_, ez⟩
      have : ∀ z ∈ ([("row" : Str), ("column" : Str), ("wrap" : Str), ("table" : Str), ("row" : Str), ("column" : Str)] : List Str), z ∈ LINES ∨ z = "table" := by decide
      exact this z (List.mem_of_getElem? hz)
    rw [ekind]
    simp only [bs]
    by_cases c2 : decide (4 < deep) = true
    · rw [if_pos c2]
      exact grow_leaf h (by omega) hn ho n
    · rw [if_neg c2]
      rw [decide_eq_true_eq] at c2
      generalize hgr : ((stk.drop j).map fun e => e.2.2.1).any id = gr
      have hU : gr = false → ∀ x ∈ stk.drop j, U x.1.d := fun z x hx => by
        rw [← hgr] at z
        refine (hsb x hx).2 ?_
        cases e : x.2.2.1 with
        | false => rfl
        | true =>
          rw [← Bool.not_eq_true, List.any_eq_true] at z
          exact absurd ⟨true, List.mem_map.mpr ⟨x, hx, e⟩, rfl⟩ z
      obtain ⟨kind2, hkind2, ekind2⟩ : ∃ z : Str, (z ∈ LINES ∨ (z = "table" ∧ gr = false)) ∧ (if ((decide (kind = ("table" : Str))) && gr) = true then some ("row" : Str) else some kind) = some z := by
        split
        · exact ⟨_, .inl (by decide), rfl⟩
        · rename_i hc
          refine ⟨_, ?_, rfl⟩
          rcases hkind with hk | hk
          · exact .inl hk
          · right
            refine ⟨hk, ?_⟩
            rw [decide_eq_true hk, Bool.true_and] at hc
            cases gr with
            | false => rfl
            | true => exact absurd rfl hc
      rw [ekind2, bs, lcM_all (f := fun one_242 : Se => some one_242.1) (fun e => e.1) (by omega) (fun _ _ => rfl), bs]
      obtain ⟨d, e, hmd⟩ := within_ok (m := deep.toNat) (kind := kind2) ho n (some_ := (stk.drop j).map fun e => e.1) (al := (!decide (kind2 = ("table" : Str))) && (decide (n / 64 % 3 = 0))) (fun x hx => by
        obtain ⟨e, he, rfl⟩ := List.mem_map.mp hx
        obtain ⟨⟨n, _, _, e2, hb⟩, _⟩ := hsb e he
        have := dle e.2.1 (List.mem_map.mpr ⟨e, he, rfl⟩)
        exact hb.le (by omega)) (by rw [List.length_map]; omega) (by
        rcases hkind2 with hk | ⟨hk, hg⟩
        · exact .inl hk
        · refine .inr ⟨hk, by rw [decide_eq_true hk]; rfl, by rw [List.length_map]; omega, fun x hx => ?_⟩
          obtain ⟨e, he, rfl⟩ := List.mem_map.mp hx
          exact hU hg e he)
      rw [e]
      simp only [bs]
      obtain ⟨ds, os, e1, e2, e3, e4⟩ := hmd.at_
      obtain ⟨gr2, egr, hgr2⟩ : ∃ gr2, (if gr = true then some true else (((ofD (⟨d⟩ : Dy) : Option (Tu Dy))).bind fun o_246 => (atI o_246.l (2 : Int)).bind fun i_247 => ((ofD i_247 : Option (Tu Dy))).bind fun o_248 => (atI o_248.l (5 : Int)).bind fun i_249 => ((ofD i_249 : Option Int)).bind fun o_250 => some (decide ((0 : Int) < o_250)))) = some gr2 ∧ (gr2 = false → gr = false ∧ alkT d = 0) := by
        cases gr with
        | true => exact ⟨true, rfl, fun z => nomatch z⟩
        | false =>
          rw [if_neg nf, e1, bs, e2, bs, e3, bs, e4, bs, ofI, bs]
          refine ⟨_, rfl, fun z => ⟨rfl, ?_⟩⟩
          have z := of_decide_eq_false z
          have := hmd.g0
          omega
      rw [egr, bs, catO_ok (by rw [List.length_take]; show _ + 1 ≤ _; omega), bs]
      refine ⟨_, rfl, h.add hn (fun x hx => ?_) ?_⟩
      · rcases List.mem_append.mp hx with hx | hx
        · exact h.b x (List.mem_of_mem_take hx)
        · rw [List.mem_singleton.mp hx]
          refine ⟨⟨deep.toNat + 1, by omega, by omega, by show deep + 1 = _; omega, hmd.b⟩, fun z => ?_⟩
          obtain ⟨z1, z2⟩ := hgr2 z
          exact made_U hmd z2 fun p hp => by
            rw [List.map_map] at hp
            obtain ⟨x, hx, rfl⟩ := List.mem_map.mp hp
            exact hU z1 x hx
      · rw [List.flatMap_append, List.flatMap_singleton]
        have en : nmsE (⟨d⟩, deep + 1, gr2, ()) = nm :: (stk.drop j).flatMap nmsE := nms_made hmd hsb
        rw [en]
        refine List.perm_middle.trans (.cons _ ?_)
        rw [← List.flatMap_append, esp]
theorem tree_okD {ns : List Int} : ∃ d, m__law_tree (Fz.mk ns) 2 18 = some ⟨d⟩ ∧ Bx 6 d ∧ ((bxT 8 d).map nmT).Nodup ∧ (bxT 8 d).length ≤ 19 := by
  obtain ⟨cell, ec⟩ := at_okD (ns := ns) (2 + 18) (by omega)
  obtain ⟨pre, post, hp1, hp2, hpl, hlab⟩ := label_ok cell
  obtain ⟨fs, ef, fl, _⟩ := draws_ok (ns := ns) (first := 2) (many := 18) (base := 1000000000000000000) (by omega) (by omega) (by omega) (by omega) (by omega)
  unfold m__law_tree
  rw [bs, ec]
  simp only [bs]
  rw [rngO_ok (by omega) (by omega) (by omega) (by omega), bs, ef, bs]
  have hz : (irange 0 18).length = fs.length := by rw [irange_len, fl]; rfl
  obtain ⟨stk, es, hst⟩ := forS_ix (f := m__law_tree_L1 cell) (xs := zipI (irange 0 18) fs) (fun i (stk : List Se) => St stk (fun x => ∃ j : Nat, j < i ∧ x = lab pre post cell j) i) (s := []) ⟨(fun e h => nomatch h), List.nodup_nil, (fun x h => nomatch h), rfl⟩ (fun i hi stk hs => by
    rw [zip_at hz hi]
    rw [zip_len hz, irange_len] at hi
    have hi : i < 18 := by omega
    have ei : (irange 0 18)[i]'(by rw [irange_len]; omega) = (i : Int) := by simp [irange]
    rw [ei]
    obtain ⟨stk', e, h'⟩ := step_ok (nm := lab pre post cell i) hs (by omega) (fun ⟨j, hj, e⟩ => by
      have := lab_inj (by omega) (by omega) (by omega) (by omega) e
      omega) (lab_name hp1 hp2 hpl) (fs[i]'(by omega))
    refine ⟨stk', ?_, ⟨h'.b, h'.nd, fun x hx => ?_, h'.ln⟩⟩
    · unfold m__law_tree_L1
      simp only [hlab i (by omega) (by omega), bs, e]
    · rcases h'.us x hx with ⟨j, hj, e⟩ | e
      · exact ⟨j, by omega, e⟩
      · exact ⟨i, by omega, e⟩)
  rw [es, bs]
  rw [zip_len hz, irange_len] at hst
  have hst : St stk (fun x => ∃ j : Nat, j < 18 ∧ x = lab pre post cell j) 18 := hst
  have hlen := hst.len
  by_cases c : decide ((stk.length : Int) = 1) = true
  · rw [if_pos c]
    rw [decide_eq_true_eq] at c
    match stk, c, hst with
    | [(⟨d⟩, i, b, u)], _, hst =>
      obtain ⟨⟨n, n1, n5, _, hb⟩, _⟩ := hst.b _ List.mem_cons_self
      have hb : Bx n d := hb
      have hnd := hst.nd
      have hln := hst.ln
      rw [List.flatMap_singleton] at hnd hln
      exact ⟨d, rfl, hb.le (by omega), hnd, by
        have : ((bxT 8 d).map nmT).length = 18 := hln
        rw [List.length_map] at this
        omega⟩
  · rw [if_neg c]
    obtain ⟨r1, e1⟩ := mixed_ok cell
    obtain ⟨r2, e2⟩ := mixed_ok (cell + 1)
    rw [e1, bs, e2, bs]
    generalize r1 * 1000000000039 + r2 = n
    rw [pick3 _ _ _ (by omega) (by omega), bs, hlab 18 (by omega) (by omega), bs, lcM_all (f := fun one_284 : Se => some one_284.1) (fun e => e.1) (by omega) (fun _ _ => rfl), bs]
    obtain ⟨d, e, hmd⟩ := within_ok (m := 5) (kind := if n % 3 = 0 then ("row" : Str) else if n % 3 = 1 then "column" else "wrap") (lab_name (cell := cell) (k := 18) hp1 hp2 hpl) n (some_ := stk.map fun e => e.1) (al := false) (fun x hx => by
      obtain ⟨e, he, rfl⟩ := List.mem_map.mp hx
      obtain ⟨⟨m, _, m5, _, hb⟩, _⟩ := hst.b e he
      exact hb.le m5) (by rw [List.length_map]; omega) (.inl (by (repeat' split) <;> decide))
    rw [e, bs]
    have en := nms_made hmd hst.b
    refine ⟨d, rfl, hmd.b, ?_, ?_⟩
    · rw [en]
      refine List.nodup_cons.mpr ⟨fun hm => ?_, hst.nd⟩
      obtain ⟨j, hj, e⟩ := hst.us _ hm
      have := lab_inj (by omega) (by omega) (by omega) (by omega) e
      omega
    · have := congrArg List.length en
      rw [List.length_map, List.length_cons, hst.ln] at this
      omega
theorem chkL_ok6 {f : PyData → List Str → Ck} {p : PyData} {ps : List PyData} {s t : List Str} (h : f p s = .ok t) : chkL f (p :: ps) s = chkL f ps t := by
  show (match f p s with | Except.error e => Except.error e | Except.ok s => chkL f ps s) = _
  rw [h]
theorem chkL_no6 {f : PyData → List Str → Ck} {p : PyData} {ps : List PyData} {s : List Str} {e : Option Str} (h : f p s = .error e) : chkL f (p :: ps) s = .error e := by
  show (match f p s with | Except.error e => Except.error e | Except.ok s => chkL f ps s) = _
  rw [h]
/-! the check of such a tree -/
theorem name_is5 {k nm o w p : PyData} {z : Str} (hn : nm = .str z) (h : isName (.str z) = true) : nameOf (.tuple [k, nm, o, w, p]) = some z := by
  subst hn
  unfold nameOf
  dsimp only
  rw [if_pos h]
theorem boxOk_T {k nm : Str} {o w : PyData} {ps : List PyData} {deep : Int} {tb : Bool} {seen : List Str} (hn : isName (.str nm) = true) (h1 : nm ∉ seen) (h2 : seen.length < 60) (h3 : deep ≤ 8) (ho : isOwn o = true) (hk : kindOk (.str k) w (.tuple ps) = true) (h5 : k ∈ FIVE) (ht : k = "table" → alike o = 0) (htb : tb = true → alike o = 0) : boxOk (.tuple [.str k, .str nm, o, w, .tuple ps]) deep tb seen = true := by
  unfold boxOk
  rw [name_is5 rfl hn]
  dsimp only
  rw [decide_eq_false h1, decide_eq_false (show ¬ seen.length = 60 by omega), decide_eq_true h3, ho, hk]
  have : (decide (alike o = 0) || !tb && isWord (.str k) ("leaf" :: LINES)) = true := by
    cases tb with
    | true => rw [decide_eq_true (htb rfl)]; rfl
    | false =>
      by_cases q : k = "table"
      · rw [decide_eq_true (ht q)]
        rfl
      · have : ∀ k ∈ FIVE, k = "table" ∨ k ∈ (("leaf" : Str) :: LINES) := by decide
        have := (this k h5).resolve_left q
        show (_ || (true && decide (k ∈ (("leaf" : Str) :: LINES)))) = true
        rw [decide_eq_true this]
        simp
  rw [this]
  rfl
theorem chk_T (n : Nat) {k nm : Str} {o w : PyData} {ps : List PyData} {deep : Int} {tb : Bool} {seen : List Str} (hn : isName (.str nm) = true) : chkB (n + 1) (.tuple [.str k, .str nm, o, w, .tuple ps]) deep tb seen = if boxOk (.tuple [.str k, .str nm, o, w, .tuple ps]) deep tb seen = true then chkL (fun p s => chkB n p (deep + 1) (tb || decide (k = "table")) s) ps (seen ++ [nm]) else .error (some nm) := by
  have e : chkB (n + 1) (.tuple [.str k, .str nm, o, w, .tuple ps]) deep tb seen = if boxOk (.tuple [.str k, .str nm, o, w, .tuple ps]) deep tb seen = true then chkL (fun p s => chkB n p (deep + 1) (tb || decide (k = "table")) s) ps (seen ++ [nmOf (.tuple [.str k, .str nm, o, w, .tuple ps])]) else .error (nameOf (.tuple [.str k, .str nm, o, w, .tuple ps])) := rfl
  have e1 : nmOf (.tuple [.str k, .str nm, o, w, .tuple ps]) = nm := by
    unfold nmOf
    rw [name_is5 rfl hn]
    rfl
  rw [e, e1, name_is5 rfl hn]
abbrev nms (n : Nat) (d : PyData) : List Str := (bxT n d).map nmT
/-- parts one behind another -/
theorem chk_parts {n m : Nat} {deep : Int} {tb : Bool} : ∀ (ps : List PyData) (seen : List Str), (∀ p ∈ ps, ∀ s, (s ++ nms n p).Nodup → (s ++ nms n p).length ≤ 60 → chkB m p deep tb s = .ok (s ++ nms n p)) → (seen ++ ps.flatMap (nms n)).Nodup → (seen ++ ps.flatMap (nms n)).length ≤ 60 → chkL (fun p s => chkB m p deep tb s) ps seen = .ok (seen ++ ps.flatMap (nms n))
  | [], seen, _, _, _ => by rw [List.flatMap_nil, List.append_nil]; rfl
  | p :: ps, seen, h, hd, hl => by
    rw [List.flatMap_cons, ← List.append_assoc] at hd hl ⊢
    refine (chkL_ok6 (h p List.mem_cons_self seen (List.nodup_append.mp hd).1 (by rw [List.length_append] at hl; omega))).trans ?_
    exact chk_parts ps (seen ++ nms n p) (fun q hq => h q (List.mem_cons_of_mem _ hq)) hd hl
theorem nms_cons {n : Nat} {k nm : Str} {o w : PyData} {ps : List PyData} : nms (n + 1) (.tuple [.str k, .str nm, o, w, .tuple ps]) = nm :: ps.flatMap (nms n) := by
  show (_ :: ps.flatMap (bxT n)).map nmT = _
  rw [List.map_cons, List.map_flatMap]
  rfl
theorem chk_tree : ∀ (n : Nat) (d : PyData) (m : Nat) (deep : Int) (tb : Bool) (seen : List Str), Bx n d → n ≤ m → deep + n ≤ 9 → (tb = true → U d) → (seen ++ nms n d).Nodup → (seen ++ nms n d).length ≤ 60 → chkB m d deep tb seen = .ok (seen ++ nms n d)
  | 0, _, _, _, _, _, h, _, _, _, _, _ => h.elim
  | n + 1, _, m, deep, tb, seen, ⟨k, nm, a, b, c, d, e, g, w0, w1, ws, ps, rfl, hB, hp⟩, hm, hd, hU, hn, hl => by
    obtain ⟨m, rfl⟩ : ∃ m', m = m' + 1 := ⟨m - 1, by omega⟩
    rw [nms_cons] at hn hl ⊢
    have h1 : nm ∉ seen := fun hx => (List.nodup_append.mp hn).2.2 nm hx nm List.mem_cons_self rfl
    rw [List.length_append, List.length_cons] at hl
    rw [chk_T m hB.nn, if_pos (boxOk_T hB.nn h1 (by omega) (by omega) hB.ow hB.kd hB.k5 (fun z => (hB.t0 z).1) (fun z => (hU z).al))]
    have e2 : seen ++ nm :: ps.flatMap (nms n) = seen ++ [nm] ++ ps.flatMap (nms n) := by rw [List.append_assoc]; rfl
    rw [e2] at hn ⊢
    refine chk_parts ps (seen ++ [nm]) (fun p hpp s h1 h2 => chk_tree n p m (deep + 1) _ s (hp p hpp) (by omega) (by omega) (fun z => ?_) h1 h2) hn (by rw [List.length_append, List.length_append, List.length_singleton]; omega)
    rw [Bool.or_eq_true, decide_eq_true_eq] at z
    rcases z with z | z
    · exact (hU z).ps p hpp
    · exact (hB.t0 z).2 p hpp
/-! one box exchanged for another thing -/
def sub : Nat → PyData → Str → PyData → PyData
  | 0, d, _, _ => d
  | n + 1, .tuple [k, .str z, o, w, .tuple ps], x, b => if z = x then b else .tuple [k, .str z, o, w, .tuple (ps.map fun p => sub n p x b)]
  | _ + 1, d, _, _ => d
theorem sub_no : ∀ (n : Nat) (d : PyData) (x : Str) (b : PyData), Bx n d → x ∉ nms n d → sub n d x b = d
  | 0, _, _, _, h, _ => h.elim
  | n + 1, _, x, b, ⟨k, nm, a, c1, c, d, e, g, w0, w1, ws, ps, rfl, hB, hp⟩, hx => by
    rw [nms_cons] at hx
    have h1 : nm ≠ x := fun z => hx (by rw [z]; exact List.mem_cons_self)
    show (if nm = x then b else _) = _
    rw [if_neg h1]
    have e : (ps.map fun p => sub n p x b) = ps := by
      refine (List.map_congr_left fun p hpp => ?_).trans (List.map_id ps)
      exact sub_no n p x b (hp p hpp) fun hm => hx (List.mem_cons_of_mem _ (List.mem_flatMap.mpr ⟨p, hpp, hm⟩))
    rw [e]
theorem fit_sub : ∀ (n : Nat) (d : PyData) (x : Str) (b : PyData), Bx n d → fitn b 20 → fitn (sub n d x b) (20 + 2 * n)
  | 0, _, _, _, h, _ => h.elim
  | n + 1, _, x, b, ⟨k, nm, a, c1, c, d, e, g, w0, w1, ws, ps, rfl, hB, hp⟩, hb => by
    show fitn (if nm = x then b else _) _
    split
    · exact hb.mono (by omega)
    · have hpp : fitn (.tuple (ps.map fun p => sub n p x b)) (20 + 2 * n + 1) := fitn_tup (by rw [List.length_map]; have := hB.pl; omega) fun q hq => by
        obtain ⟨p, hpp, rfl⟩ := List.mem_map.mp hq
        exact fit_sub n p x b (hp p hpp) hb
      exact (fitn_tup (n := 20 + 2 * n + 1) (by simp) (fitn_cons (fitn_sml (fit_k5 hB.k5)) (fitn_cons (hB.nf.mono (Nat.zero_le _)) (fitn_cons (hB.fo.mono (by omega)) (fitn_cons (hB.fw.mono (by omega)) (fitn_cons hpp fitn_nil)))))).mono (by omega)
/-- what a box asks of its parts is how many there are -/
theorem kind_len {k : Str} (h5 : k ∈ FIVE) (w : PyData) {ps qs : List PyData} (hl : ps.length = qs.length) : kindOk (.str k) w (.tuple ps) = kindOk (.str k) w (.tuple qs) := by
  by_cases h1 : k = "leaf"
  · subst h1
    rw [kind_leaf, kind_leaf]
    cases ps with
    | nil => cases qs with
      | nil => rfl
      | cons _ _ => cases hl
    | cons _ _ => cases qs with
      | nil => cases hl
      | cons _ _ => rfl
  · by_cases h2 : k = "table"
    · subst h2
      rw [kind_table, kind_table, hl]
    · have : ∀ k ∈ FIVE, k = "leaf" ∨ k = "table" ∨ k ∈ LINES := by decide
      have h3 := ((this k h5).resolve_left h1).resolve_left h2
      rw [kind_line h3, kind_line h3, hl]
/-- b is refused where R holds of the names seen -/
def Refd (b : PyData) (e : Option Str) (R : List Str → Prop) : Prop := nameOf b = e ∧ ∀ (deep : Int) (tb : Bool) (seen : List Str), R seen → boxOk b deep tb seen = false
theorem chk_ref {b : PyData} {e : Option Str} {R : List Str → Prop} (h : Refd b e R) (m : Nat) (deep : Int) (tb : Bool) (seen : List Str) (hR : R seen) : chkB (m + 1) b deep tb seen = .error e := by
  have q : chkB (m + 1) b deep tb seen = if boxOk b deep tb seen = true then chkL (fun p s => chkB m p (deep + 1) (tb || isTab b) s) (partsOf b) (seen ++ [nmOf b]) else .error (nameOf b) := rfl
  rw [q, h.2 deep tb seen hR, if_neg nf, h.1]
theorem chk_sub {b : PyData} {e : Option Str} {R : List Str → Prop} (hb : Refd b e R) (hR : ∀ s t, R s → R (s ++ t)) {x : Str} : ∀ (n : Nat) (d : PyData) (m : Nat) (deep : Int) (tb : Bool) (seen : List Str), Bx n d → n ≤ m → deep + n ≤ 9 → (tb = true → U d) → (seen ++ nms n d).Nodup → (seen ++ nms n d).length ≤ 60 → x ∈ nms n d → (nmT d = x → R seen) → (nmT d ≠ x → R (seen ++ [nmT d])) → chkB m (sub n d x b) deep tb seen = .error e
  | 0, _, _, _, _, _, h, _, _, _, _, _, _, _, _ => h.elim
  | n + 1, _, m, deep, tb, seen, ⟨k, nm, a, c1, c, d, e1, g, w0, w1, ws, ps, rfl, hB, hp⟩, hm, hd, hU, hn, hl, hx, hr1, hr2 => by
    obtain ⟨m, rfl⟩ : ∃ m', m = m' + 1 := ⟨m - 1, by omega⟩
    show chkB (m + 1) (if nm = x then b else .tuple [.str k, .str nm, _, _, .tuple (ps.map fun p => sub n p x b)]) deep tb seen = _
    have hr1 : nm = x → R seen := hr1
    have hr2 : nm ≠ x → R (seen ++ [nm]) := hr2
    rw [nms_cons] at hn hl hx
    by_cases q : nm = x
    · rw [if_pos q]
      exact chk_ref hb m deep tb seen (hr1 q)
    · rw [if_neg q]
      have hR2 := hr2 q
      have h1 : nm ∉ seen := fun hx => (List.nodup_append.mp hn).2.2 nm hx nm List.mem_cons_self rfl
      rw [List.length_append, List.length_cons] at hl
      have hx2 := (List.mem_cons.mp hx).resolve_left (fun z => q z.symm)
      obtain ⟨p, hpp, hxp⟩ := List.mem_flatMap.mp hx2
      obtain ⟨l1, l2, rfl⟩ := List.append_of_mem hpp
      rw [chk_T m hB.nn, if_pos (boxOk_T hB.nn h1 (by omega) (by omega) hB.ow (by rw [kind_len hB.k5 _ (List.length_map ..)]; exact hB.kd) hB.k5 (fun z => (hB.t0 z).1) (fun z => (hU z).al))]
      have e2 : seen ++ nm :: (l1 ++ p :: l2).flatMap (nms n) = seen ++ [nm] ++ l1.flatMap (nms n) ++ nms n p ++ l2.flatMap (nms n) := by
        rw [List.flatMap_append, List.flatMap_cons]
        simp
      have hn' := hn
      rw [e2] at hn
      have nd1 := (List.nodup_append.mp hn).1
      have nd2 := (List.nodup_append.mp nd1).1
      have hlen : (seen ++ [nm] ++ l1.flatMap (nms n) ++ nms n p).length ≤ 60 := by
        have := congrArg List.length e2
        simp only [List.length_append, List.length_cons, List.length_nil] at this ⊢
        omega
      have no1 : ∀ r ∈ l1, x ∉ nms n r := fun r hr hxr => by
        have : x ∈ seen ++ [nm] ++ l1.flatMap (nms n) := List.mem_append_right _ (List.mem_flatMap.mpr ⟨r, hr, hxr⟩)
        exact (List.nodup_append.mp nd1).2.2 x this x hxp rfl
      have U2 : ∀ r ∈ l1 ++ p :: l2, (tb || decide (k = "table")) = true → U r := fun r hr z => by
        rw [Bool.or_eq_true, decide_eq_true_eq] at z
        rcases z with z | z
        · exact (hU z).ps r hr
        · exact (hB.t0 z).2 r hr
      have em : ((l1 ++ p :: l2).map fun p => sub n p x b) = l1 ++ sub n p x b :: l2.map fun p => sub n p x b := by
        rw [List.map_append, List.map_cons]
        refine congrArg (· ++ _) ?_
        refine (List.map_congr_left fun r hr => ?_).trans (List.map_id l1)
        exact sub_no n r x b (hp r (List.mem_append_left _ hr)) (no1 r hr)
      rw [em]
      have first := chk_parts (n := n) (m := m) (deep := deep + 1) (tb := tb || decide (k = "table")) l1 (seen ++ [nm]) (fun r hr s h1 h2 => chk_tree n r m (deep + 1) _ s (hp r (List.mem_append_left _ hr)) (by omega) (by omega) (U2 r (List.mem_append_left _ hr)) h1 h2) nd2 (by rw [List.length_append] at hlen; omega)
      refine (chkL_app first).trans (chkL_no6 ?_)
      exact chk_sub hb hR n p m (deep + 1) _ _ (hp p hpp) (by omega) (by omega) (U2 p hpp) nd1 hlen hxp (fun _ => hR _ _ hR2) (fun _ => by rw [List.append_assoc]; exact hR _ _ hR2)
/-! a box bent -/
theorem refd_own {k w p o : PyData} {nm : Str} (hn : isName (.str nm) = true) (h : isOwn o = false) : Refd (.tuple [k, .str nm, o, w, p]) (some nm) (fun _ => True) := by
  refine ⟨name_is5 rfl hn, fun deep tb seen _ => ?_⟩
  unfold boxOk
  rw [name_is5 rfl hn]
  dsimp only
  rw [h]
  simp
theorem refd_kind {k w p o : PyData} {nm : Str} (hn : isName (.str nm) = true) (h : kindOk k w p = false) : Refd (.tuple [k, .str nm, o, w, p]) (some nm) (fun _ => True) := by
  refine ⟨name_is5 rfl hn, fun deep tb seen _ => ?_⟩
  unfold boxOk
  rw [name_is5 rfl hn]
  dsimp only
  rw [h]
  simp
theorem name_no {k y o w p : PyData} (h : isName y = false) : nameOf (.tuple [k, y, o, w, p]) = none := by
  unfold nameOf
  cases y with
  | str z =>
    dsimp only
    rw [if_neg (by rw [h]; exact nf)]
  | _ => rfl
theorem refd_none {b : PyData} {R : List Str → Prop} (h : nameOf b = none) : Refd b none R := by
  refine ⟨h, fun deep tb seen _ => ?_⟩
  unfold boxOk
  rw [h]
theorem refd_first {k w p o : PyData} {z : Str} (hn : isName (.str z) = true) : Refd (.tuple [k, .str z, o, w, p]) (some z) (fun s => z ∈ s) := by
  refine ⟨name_is5 rfl hn, fun deep tb seen hz => ?_⟩
  unfold boxOk
  rw [name_is5 rfl hn]
  dsimp only
  rw [decide_eq_true hz]
  simp
structure Bent (nm first : Str) (b : PyData) (y : PyData) : Prop where
  at_ : ∃ k o w p, b = .tuple [k, y, o, w, p]
  f : fitn b 20
  r : (y = .str nm ∧ Refd b (some nm) (fun _ => True)) ∨ (isName y = false ∧ Refd b none (fun _ => True)) ∨ (y = .str first ∧ first ≠ nm ∧ Refd b (some first) (fun s => first ∈ s))
theorem fitn_b5 {k y o w p : PyData} {n : Nat} (h1 : fitn k n) (h2 : fitn y n) (h3 : fitn o n) (h4 : fitn w n) (h5 : fitn p n) : fitn (.tuple [k, y, o, w, p]) (n + 1) := fitn_tup (by simp) (fitn_cons h1 (fitn_cons h2 (fitn_cons h3 (fitn_cons h4 (fitn_cons h5 fitn_nil)))))
theorem fitn_child {xs : List PyData} {n : Nat} (h : fitn (.tuple xs) n) : ∀ x ∈ xs, fitn x n := fun x hx => ⟨(smA_tup h.s).2 x hx, okn_child h.k x hx⟩
theorem eqv_str (a b : Str) : PyData.eqv (.str a) (.str b) = decide (a = b) := by
  rw [Bool.eq_iff_iff, decide_eq_true_eq]
  simp [PyData.eqv]
theorem eq_str {a b : Str} (ha : fitn (.str a) 0) (hb : fitn (.str b) 0) : eqYO ⟨.str a⟩ ⟨.str b⟩ = some (decide (a = b)) := by
  unfold eqYO
  rw [if_pos ⟨okn_shaped ha.k (by omega), okn_shaped hb.k (by omega)⟩, eqv_str]
theorem eq_nstr {y : PyData} {n : Nat} {b : Str} (ha : fitn y n) (hn60 : n ≤ 60) (hb : fitn (.str b) 0) (hn : isName (.str b) = true) (hy : isName y = false) : eqYO ⟨y⟩ ⟨.str b⟩ = some false := by
  cases y with
  | str a =>
    rw [eq_str ⟨ha.s, ha.k.1, by simp only [PyData.depth]; exact Nat.le_refl _⟩ hb, decide_eq_false]
    rintro rfl
    rw [hn] at hy
    cases hy
  | _ =>
    unfold eqYO
    rw [if_pos ⟨okn_shaped ha.k (by omega), okn_shaped hb.k (by omega)⟩]
    simp [PyData.eqv]
theorem ok_drop {z : Str} (h : PyData.strOk z = true) (a : Nat) : PyData.strOk (dropS z a) = true := by
  have hz := Array.all_eq_true'.mp h
  refine Array.all_eq_true'.mpr fun x hx => hz x ?_
  have hx : x ∈ (List.drop a z.cps.toList).toArray := hx
  rw [List.mem_toArray] at hx
  exact Array.mem_toList_iff.mp (List.mem_of_mem_drop hx)
theorem fit_ok {z : Str} (h : fitn (.str z) 0) : PyData.strOk z = true := by
  have := h.k.1
  simp only [PyData.canLay0] at this
  exact this
theorem name_len {z : Str} (h : isName (.str z) = true) : z.length ≤ 8 := by
  have h : (decide (1 ≤ z.length) && decide (z.length ≤ 8) && signsIn z SMALL) = true := h
  simp only [Bool.and_eq_true, decide_eq_true_eq] at h
  exact h.1.2
theorem fitn_str {z : Str} (h : PyData.strOk z = true) (hl : z.length < 1000000) : fitn (.str z) 0 := ⟨by show decide (z.length < 1000000) = true; exact decide_eq_true hl, okn_str h 0⟩
theorem pick6 {α : Type} (a b c d e f : α) {k : Int} (h0 : 0 ≤ k) (h : k < 6) {P : α → Prop} (ha : P a) (hb : P b) (hc : P c) (hd : P d) (he : P e) (hf : P f) : ∃ x, atI [a, b, c, d, e, f] k = some x ∧ P x := by
  rcases (show k = 0 ∨ k = 1 ∨ k = 2 ∨ k = 3 ∨ k = 4 ∨ k = 5 by omega) with rfl | rfl | rfl | rfl | rfl | rfl
  · exact ⟨a, rfl, ha⟩
  · exact ⟨b, rfl, hb⟩
  · exact ⟨c, rfl, hc⟩
  · exact ⟨d, rfl, hd⟩
  · exact ⟨e, rfl, he⟩
  · exact ⟨f, rfl, hf⟩
theorem pick4P {α : Type} (a b c d : α) {k : Int} (h0 : 0 ≤ k) (h : k < 4) {P : α → Prop} (ha : P a) (hb : P b) (hc : P c) (hd : P d) : ∃ x, atI [a, b, c, d] k = some x ∧ P x := by
  rcases (show k = 0 ∨ k = 1 ∨ k = 2 ∨ k = 3 by omega) with rfl | rfl | rfl | rfl
  · exact ⟨a, rfl, ha⟩
  · exact ⟨b, rfl, hb⟩
  · exact ⟨c, rfl, hc⟩
  · exact ⟨d, rfl, hd⟩
/-- no number from nought to a bound -/
def NoW (v : PyData) (m : Int) : Prop := isWhole v 0 m = false
theorem noW_int {i m : Int} (h : i < 0 ∨ m < i) : NoW (.int i) m := by
  show (decide (0 ≤ i) && decide (i ≤ m)) = false
  rcases h with h | h
  · rw [decide_eq_false (show ¬ 0 ≤ i by omega)]
    rfl
  · rw [decide_eq_false (show ¬ i ≤ m by omega), Bool.and_false]
theorem bent_own_ok {a b c d e : PyData} {g : Int} (cell : Int) (hf : fitn (.tuple [a, b, c, d, e, .int g]) 2) : ∃ o, m__law_bent_own ⟨.tuple [a, b, c, d, e, .int g]⟩ cell = some ⟨o⟩ ∧ isOwn o = false ∧ fitn o 8 := by
  have hc := fitn_child hf
  have fa := (hc a (by simp)).mono (show 2 ≤ 7 by omega)
  have fb := (hc b (by simp)).mono (show 2 ≤ 7 by omega)
  have fc := (hc c (by simp)).mono (show 2 ≤ 7 by omega)
  have fd := (hc d (by simp)).mono (show 2 ≤ 7 by omega)
  have fe := (hc e (by simp)).mono (show 2 ≤ 7 by omega)
  have fg := fitn_int g 7
  have six : ∀ {x1 x2 x3 x4 x5 x6 : PyData}, fitn x1 7 → fitn x2 7 → fitn x3 7 → fitn x4 7 → fitn x5 7 → fitn x6 7 → fitn (.tuple [x1, x2, x3, x4, x5, x6]) 8 := fun h1 h2 h3 h4 h5 h6 => fitn_tup (by simp) (fitn_cons h1 (fitn_cons h2 (fitn_cons h3 (fitn_cons h4 (fitn_cons h5 (fitn_cons h6 fitn_nil))))))
  unfold m__law_bent_own
  rw [bs]
  generalize hat : cell % 6 = at_
  have at0 : 0 ≤ at_ ∧ at_ < 6 := by omega
  obtain ⟨v, ev, hv1, hv2⟩ := pick6 (upD (-(1 : Int))) (upD (((1000000 : Int) + (1 : Int)) + (cell % (100000000000000000000 : Int)))) (upD true) (upD ("3" : Str)) (upD Nn.nn) (upD (1000000000 : Int)) (k := cell / 6 % 6) (by omega) (by omega) (P := fun v : Dy => (∀ m : Int, m ≤ 1000000 → NoW v.d m) ∧ fitn v.d 1)
    ⟨fun m hm => noW_int (.inl (by decide)), fitn_int _ 1⟩ ⟨fun m hm => noW_int (.inr (by have := Int.emod_nonneg cell (show (100000000000000000000 : Int) ≠ 0 by omega); omega)), fitn_int _ 1⟩ ⟨fun m hm => rfl, fitB_fit (by decide +kernel)⟩ ⟨fun m hm => rfl, fitn_sml (by decide +kernel)⟩ ⟨fun m hm => rfl, fitB_fit (by decide +kernel)⟩ ⟨fun m hm => noW_int (.inr (by omega)), fitn_int _ 1⟩
  rw [ev, bs, bs]
  generalize hbd : (if at_ < 2 then (1000000 : Int) else if at_ < 4 then 99 else 9) = bd
  obtain ⟨v2, ev2, hw2, hf2⟩ : ∃ v2 : Dy, (if ((decide ((1 : Int) < at_)) && (decide (((cell / (6 : Int)) % (6 : Int)) = (5 : Int)))) = true then ((atI ([(100 : Int), (100 : Int), (10 : Int), (10 : Int)] : List Int) (at_ - (2 : Int))).bind fun i_809 => (some (upD i_809)).bind fun bad_810 => some bad_810) else (some v)) = some v2 ∧ NoW v2.d bd ∧ fitn v2.d 1 := by
    by_cases q : ((decide ((1 : Int) < at_)) && (decide (((cell / (6 : Int)) % (6 : Int)) = (5 : Int)))) = true
    · rw [if_pos q]
      rw [Bool.and_eq_true, decide_eq_true_eq] at q
      have q1 := q.1
      rcases (show at_ = 2 ∨ at_ = 3 ∨ at_ = 4 ∨ at_ = 5 by omega) with rfl | rfl | rfl | rfl
      · exact ⟨_, rfl, by rw [← hbd]; exact noW_int (.inr (by decide)), fitn_int _ 1⟩
      · exact ⟨_, rfl, by rw [← hbd]; exact noW_int (.inr (by decide)), fitn_int _ 1⟩
      · exact ⟨_, rfl, by rw [← hbd]; exact noW_int (.inr (by decide)), fitn_int _ 1⟩
      · exact ⟨_, rfl, by rw [← hbd]; exact noW_int (.inr (by decide)), fitn_int _ 1⟩
    · rw [if_neg q]
      exact ⟨v, rfl, hv1 bd (by rw [← hbd]; (repeat' split) <;> omega), hv2⟩
  rw [ev2, bs]
  obtain ⟨v2⟩ := v2
  by_cases q : at_ < 2
  · rw [if_pos (decide_eq_true q)]
    have hbd : bd = 1000000 := by rw [← hbd, if_pos q]
    subst hbd
    have hw2 : isWhole v2 0 1000000 = false := hw2
    have hf2 : fitn v2 1 := hf2
    obtain ⟨v3, ev3, hs3, hf3⟩ := pick6 (upD ((⟨v2⟩ : Dy), (1000000 : Int), ())) (upD ((5 : Int), (4 : Int), ())) (upD ((1 : Int), ())) (upD ([(upD (0 : Int)), (upD (1 : Int))] : List Dy)) (upD ((0 : Int), (⟨v2⟩ : Dy), ())) (upD (7 : Int)) (k := cell / 36 % 6) (by omega) (by omega) (P := fun v : Dy => isSpan v.d = false ∧ fitn v.d 2)
      ⟨by
        show isSpan (.tuple [v2, .int 1000000]) = false
        unfold isSpan
        cases v2 with
        | int i =>
          have hw2 : (decide (0 ≤ i) && decide (i ≤ 1000000)) = false := hw2
          show (decide (0 ≤ i) && decide ((1000000 : Int) ≤ 1000000) && decide (i ≤ 1000000)) = false
          rw [show decide ((1000000 : Int) ≤ 1000000) = true from rfl, Bool.and_true]
          exact hw2
        | _ => rfl, fitn_tup (ds := [v2, .int 1000000]) (n := 1) (by simp) (fitn_cons hf2 (fitn_cons (fitn_int _ 1) fitn_nil))⟩
      ⟨by decide +kernel, fitB_fit (by decide +kernel)⟩ ⟨rfl, fitB_fit (by decide +kernel)⟩ ⟨rfl, fitB_fit (by decide +kernel)⟩
      ⟨by
        show isSpan (.tuple [.int 0, v2]) = false
        unfold isSpan
        cases v2 with
        | int i =>
          have hw2 : (decide (0 ≤ i) && decide (i ≤ 1000000)) = false := hw2
          show (decide ((0 : Int) ≤ 0) && decide (i ≤ 1000000) && decide (0 ≤ i)) = false
          rw [show decide ((0 : Int) ≤ 0) = true from rfl, Bool.true_and, Bool.and_comm]
          exact hw2
        | _ => rfl, fitn_tup (ds := [.int 0, v2]) (n := 1) (by simp) (fitn_cons (fitn_int _ 1) (fitn_cons hf2 fitn_nil))⟩
      ⟨rfl, fitB_fit (by decide +kernel)⟩
    rw [ev3, bs, bs, bs]
    obtain ⟨v3⟩ := v3
    have hs3 : isSpan v3 = false := hs3
    have hf3 : fitn v3 7 := hf3.mono (by omega)
    rcases (show at_ = 0 ∨ at_ = 1 by omega) with rfl | rfl
    · refine ⟨.tuple [v3, b, c, d, e, .int g], rfl, ?_, six hf3 fb fc fd fe fg⟩
      unfold isOwn
      dsimp only
      rw [hs3]
      rfl
    · refine ⟨.tuple [a, v3, c, d, e, .int g], rfl, ?_, six fa hf3 fc fd fe fg⟩
      unfold isOwn
      dsimp only
      rw [hs3]
      simp
  · rw [if_neg (by rw [decide_eq_true_eq]; exact q), bs]
    have hf2 : fitn v2 7 := hf2.mono (by omega)
    rcases (show at_ = 2 ∨ at_ = 3 ∨ at_ = 4 ∨ at_ = 5 by omega) with rfl | rfl | rfl | rfl
    · have hw2 : isWhole v2 0 99 = false := by rw [← hbd] at hw2; exact hw2
      refine ⟨.tuple [a, b, v2, d, e, .int g], rfl, ?_, six fa fb hf2 fd fe fg⟩
      unfold isOwn
      dsimp only
      rw [hw2]
      simp
    · have hw2 : isWhole v2 0 99 = false := by rw [← hbd] at hw2; exact hw2
      refine ⟨.tuple [a, b, c, v2, e, .int g], rfl, ?_, six fa fb fc hf2 fe fg⟩
      unfold isOwn
      dsimp only
      rw [hw2]
      simp
    · have hw2 : isWhole v2 0 9 = false := by rw [← hbd] at hw2; exact hw2
      refine ⟨.tuple [a, b, c, d, v2, .int g], rfl, ?_, six fa fb fc fd hf2 fg⟩
      unfold isOwn
      dsimp only
      rw [hw2]
      simp
    · have hw2 : isWhole v2 0 9 = false := by rw [← hbd] at hw2; exact hw2
      refine ⟨.tuple [a, b, c, d, e, v2], rfl, ?_, six fa fb fc fd fe hf2⟩
      unfold isOwn
      dsimp only
      rw [hw2]
      simp
theorem five_of {k : Str} (h : k ∈ FIVE) : k = "leaf" ∨ k = "table" ∨ k ∈ LINES := by
  have : ∀ k ∈ FIVE, k = "leaf" ∨ k = "table" ∨ k ∈ LINES := by decide
  exact this k h
theorem kind_bad {k : Str} (h5 : k ∈ FIVE) {w : PyData} {ps : List PyData} (h1 : isPair w 0 1000000 = false) (h2 : lineOk w ps.length = false) (h3 : tableOk w ps.length = false) : kindOk (.str k) w (.tuple ps) = false := by
  rcases five_of h5 with rfl | rfl | h
  · rw [kind_leaf, h1, Bool.and_false]
  · rw [kind_table, h3]
  · rw [kind_line h, h2]
theorem kind_six {k : Str} (h : k ≠ "leaf" ∧ k ∉ LINES ∧ k ≠ "table" ∧ k ≠ "words" ∧ k ≠ "flow" ∧ k ≠ "over") (w : PyData) (ps : List PyData) : kindOk (.str k) w (.tuple ps) = false := by
  unfold kindOk
  dsimp only
  rw [if_neg h.1, if_neg h.2.1, if_neg h.2.2.1, if_neg h.2.2.2.1, if_neg h.2.2.2.2.1, decide_eq_false h.2.2.2.2.2]
  rfl
theorem all_no {α : Type} {f : α → Bool} {xs : List α} {x : α} (h : x ∈ xs) (e : f x = false) : xs.all f = false := by
  rw [Bool.eq_false_iff]
  intro z
  have := List.all_eq_true.mp z x h
  rw [e] at this
  cases this
theorem great_no (z : Str) : isName (.str (("A" : Str) ++ z)) = false := by
  have hm : 65 ∈ (("A" : Str) ++ z).cps.toList := by
    show 65 ∈ (("A" : Str).cps ++ z.cps).toList
    rw [Array.toList_append]
    exact List.mem_append_left _ (by decide +kernel)
  have e : signsIn (("A" : Str) ++ z) SMALL = false := by
    unfold signsIn
    exact all_no hm (by decide +kernel)
  show (decide (1 ≤ (("A" : Str) ++ z).length) && decide ((("A" : Str) ++ z).length ≤ 8) && signsIn (("A" : Str) ++ z) SMALL) = false
  rw [e, Bool.and_false]
theorem cutT_1 {xs : List Dy} (h : 2 ≤ xs.length) : cutTO (Tu.mk xs) none (some (1 : Int)) = some ⟨xs.take 1⟩ := by
  unfold cutTO
  rw [if_neg (by
    rintro ⟨_, z⟩
    have z : HT.sIx xs.length xs.length (some ((1 : Nat) : Int)) = xs.length := z
    rw [HT.sIx_nat] at z
    omega)]
  exact congrArg (fun l => some (Tu.mk l)) (cut_to xs 1)
theorem cutT_f {xs : List Dy} {k : Nat} (hk : 1 ≤ k) (h : 2 ≤ xs.length) : cutTO (Tu.mk xs) (some (k : Int)) none = some ⟨xs.drop k⟩ := by
  unfold cutTO
  rw [if_neg (by
    rintro ⟨z, _⟩
    have z : HT.sIx xs.length 0 (some (k : Int)) = 0 := z
    rw [HT.sIx_nat] at z
    omega)]
  exact congrArg (fun l => some (Tu.mk l)) (cut_from xs k)
theorem catT_ok {xs ys : List Dy} (h : xs.length + ys.length ≤ 1000000) : catTO (Tu.mk xs) (Tu.mk ys) = some ⟨xs ++ ys⟩ := if_pos h
theorem map_dmk6 (L : List PyData) : (L.map Dy.mk).map Dy.d = L := by
  rw [List.map_map]
  exact List.map_id L
theorem up_tu (ds : List PyData) : upD (Tu.mk (ds.map Dy.mk)) = ⟨.tuple ds⟩ := by
  refine congrArg (fun l => Dy.mk (.tuple l)) ?_
  show (ds.map Dy.mk).map Dy.d = ds
  rw [List.map_map]
  exact List.map_id ds
theorem up_li (ds : List PyData) : upD (ds.map Dy.mk) = ⟨.list ds⟩ := by
  refine congrArg (fun l => Dy.mk (.list l)) ?_
  show (ds.map Dy.mk).map Dy.d = ds
  rw [List.map_map]
  exact List.map_id ds
theorem bent_ok {k nm : Str} {a b c d e : PyData} {g : Int} {w0 w1 : PyData} {ws ps : List PyData} (hB : BxI k nm a b c d e g w0 w1 ws ps) (hps : fitn (.tuple ps) 18) {first : Str} (hf1 : isName (.str first) = true) (hf2 : fitn (.str first) 0) (cell : Int) :
    ∃ bb y, m__law_bent ⟨.tuple [.str k, .str nm, .tuple [a, b, c, d, e, .int g], .tuple (w0 :: w1 :: ws), .tuple ps]⟩ cell ⟨.str first⟩ = some ⟨bb⟩ ∧ Bent nm first bb y := by
  have fk : fitn (.str k) 19 := fitn_sml (fit_k5 hB.k5)
  have fn : fitn (.str nm) 19 := hB.nf.mono (by omega)
  have fo : fitn (.tuple [a, b, c, d, e, .int g]) 19 := hB.fo.mono (by omega)
  have fw : fitn (.tuple (w0 :: w1 :: ws)) 19 := hB.fw.mono (by omega)
  have fp : fitn (.tuple ps) 19 := hps.mono (by omega)
  have hwl : ws.length + 2 < 1000000 := (smA_tup hB.fw.s).1
  have hwc := fitn_child hB.fw
  have gen : ∀ {k' o w p : PyData}, fitn k' 19 → fitn o 19 → fitn w 19 → fitn p 19 → (isOwn o = false ∨ kindOk k' w p = false) → Bent nm first (.tuple [k', .str nm, o, w, p]) (.str nm) := fun {k' o w p} h1 h2 h3 h4 h5 => ⟨⟨_, _, _, _, rfl⟩, fitn_b5 h1 fn h2 h3 h4, .inl ⟨rfl, by
    rcases h5 with h5 | h5
    · exact refd_own hB.nn h5
    · exact refd_kind hB.nn h5⟩⟩
  unfold m__law_bent
  rw [of5, bs, bs]
  dsimp only
  rw [bs, bs]
  generalize cell / 8 = c2
  generalize hw : cell % 8 = way
  have hw0 : 0 ≤ way ∧ way < 8 := by omega
  rcases (show way = 0 ∨ way = 1 ∨ way = 2 ∨ way = 3 ∨ way = 4 ∨ way = 5 ∨ way = 6 ∨ way = 7 by omega) with rfl | rfl | rfl | rfl | rfl | rfl | rfl | rfl
  · rw [if_pos (by decide), ofS, bs]
    have hl8 := name_len hB.nn
    rw [show cutSO nm (some (1 : Int)) none = some (dropS nm 1) from cut_drop (by omega) 1, bs]
    have hdl : (dropS nm 1).length ≤ 8 := by
      show (List.drop 1 nm.cps.toList).toArray.size ≤ 8
      rw [List.size_toArray, List.length_drop, Array.length_toList]
      have : nm.cps.size = nm.length := rfl
      omega
    rw [show addS ("A" : Str) (dropS nm 1) = some (("A" : Str) ++ dropS nm 1) from if_pos (by show 1 + _ ≤ _; omega), bs]
    obtain ⟨⟨v⟩, ev, hv⟩ := pick6 (upD ("" : Str)) (upD (("A" : Str) ++ dropS nm 1)) (upD ("abcdefghi" : Str)) (upD (5 : Int)) (upD Nn.nn) (⟨.str first⟩ : Dy) (k := c2 % 6) (by omega) (by omega) (P := fun v : Dy => (isName v.d = false ∧ fitn v.d 0) ∨ v.d = .str first)
      (.inl ⟨by decide +kernel, fitB_fit (by decide +kernel)⟩) (.inl ⟨great_no _, fitn_str (ok_app (by decide +kernel) (ok_drop (fit_ok hB.nf) 1)) (by rw [len_app]; show 1 + _ < _; omega)⟩) (.inl ⟨by decide +kernel, fitB_fit (by decide +kernel)⟩) (.inl ⟨rfl, fitn_int _ 0⟩) (.inl ⟨rfl, fitB_fit (by decide +kernel)⟩) (.inr rfl)
    rw [ev, bs, bs]
    have none_ : ∀ {v : PyData}, isName v = false → fitn v 0 → Bent nm first (.tuple [.str k, v, .tuple [a, b, c, d, e, .int g], .tuple (w0 :: w1 :: ws), .tuple ps]) v := fun {v} h1 h2 => ⟨⟨_, _, _, _, rfl⟩, fitn_b5 fk (h2.mono (by omega)) fo fw fp, .inr (.inl ⟨h1, refd_none (name_no h1)⟩)⟩
    rcases hv with ⟨h1, h2⟩ | h1
    · rw [eq_nstr h2 (by omega) hB.nf hB.nn h1, bs, if_neg nf, bs]
      exact ⟨_, _, rfl, none_ h1 h2⟩
    · have h1 : v = .str first := h1
      subst h1
      rw [eq_str hf2 hB.nf, bs]
      by_cases q : first = nm
      · rw [if_pos (decide_eq_true q), bs, bs]
        exact ⟨_, .str "x_", rfl, none_ (v := .str "x_") (show isName (.str "x_") = false by decide +kernel) (show fitn (.str "x_") 0 from fitB_fit (by decide +kernel))⟩
      · rw [if_neg (by rw [decide_eq_true_eq]; exact q), bs]
        exact ⟨_, .str first, rfl, ⟨_, _, _, _, rfl⟩, fitn_b5 fk (hf2.mono (by omega)) fo fw fp, .inr (.inr ⟨rfl, q, refd_first hf1⟩)⟩
  · rw [if_neg (by decide), if_pos (by decide)]
    obtain ⟨o, eo, h1, h2⟩ := bent_own_ok (a := a) (b := b) (c := c) (d := d) (e := e) (g := g) c2 hB.fo
    rw [eo, bs]
    exact ⟨_, _, rfl, gen fk (h2.mono (by omega)) fw fp (.inl h1)⟩
  · rw [if_neg (by decide), if_neg (by decide), if_pos (by decide)]
    have hc := fitn_child hB.fo
    have h6 : ∀ x ∈ [a, b, c, d, e, .int g], fitn x 3 := fun x hx => (hc x hx).mono (by omega)
    obtain ⟨⟨v⟩, ev, hv1, hv2⟩ := pick4P (upD (Tu.mk ([⟨a⟩, ⟨b⟩, ⟨c⟩, ⟨d⟩, ⟨e⟩] : List Dy))) (upD ([⟨a⟩, ⟨b⟩, ⟨c⟩, ⟨d⟩, ⟨e⟩, ⟨.int g⟩] : List Dy)) (upD (Tu.mk ([⟨a⟩, ⟨b⟩, ⟨c⟩, ⟨d⟩, ⟨e⟩, ⟨.int g⟩, ⟨.int 0⟩] : List Dy))) (upD Nn.nn) (k := c2 % 4) (by omega) (by omega) (P := fun v : Dy => isOwn v.d = false ∧ fitn v.d 4)
      ⟨rfl, fitn_tup (ds := [a, b, c, d, e]) (n := 3) (by simp) fun x hx => h6 x (by simp only [List.mem_cons] at hx ⊢; simp only [List.not_mem_nil, or_false] at hx; rcases hx with h | h | h | h | h <;> simp [h])⟩
      ⟨rfl, fitn_lst (fitn_tup (ds := [a, b, c, d, e, .int g]) (n := 3) (by simp) h6)⟩
      ⟨rfl, fitn_tup (ds := [a, b, c, d, e, .int g, .int 0]) (n := 3) (by simp) fun x hx => by
        rcases List.mem_append.mp (show x ∈ [a, b, c, d, e, .int g] ++ [.int 0] from hx) with h | h
        · exact h6 x h
        · rw [List.mem_singleton.mp h]
          exact fitn_int _ 3⟩
      ⟨rfl, fitB_fit (by decide +kernel)⟩
    show ∃ bb y, Option.bind (atI [upD (Tu.mk ([⟨a⟩, ⟨b⟩, ⟨c⟩, ⟨d⟩, ⟨e⟩] : List Dy)), upD ([⟨a⟩, ⟨b⟩, ⟨c⟩, ⟨d⟩, ⟨e⟩, ⟨.int g⟩] : List Dy), upD (Tu.mk ([⟨a⟩, ⟨b⟩, ⟨c⟩, ⟨d⟩, ⟨e⟩, ⟨.int g⟩, ⟨.int 0⟩] : List Dy)), upD Nn.nn] (c2 % 4)) _ = _ ∧ _
    rw [ev, bs]
    exact ⟨_, _, rfl, gen fk (hv2.mono (by omega)) fw fp (.inl hv1)⟩
  · rw [if_neg (by decide), if_neg (by decide), if_neg (by decide), if_pos (by decide), ofTu, bs, cutT_1 (by simp), bs, bs]
    have e1 : ((w0 :: w1 :: ws).map Dy.mk).take 1 = [w0].map Dy.mk := rfl
    rw [e1, up_tu]
    show ∃ bb y, Option.bind (atI [(⟨.tuple [w0]⟩ : Dy), upD ((w0 :: w1 :: ws).map Dy.mk), ⟨.none⟩, ⟨.tuple []⟩] (c2 % 4)) _ = _ ∧ _
    rw [up_li]
    obtain ⟨⟨v⟩, ev, hv1, hv2⟩ := pick4P (⟨.tuple [w0]⟩ : Dy) ⟨.list (w0 :: w1 :: ws)⟩ ⟨.none⟩ ⟨.tuple []⟩ (k := c2 % 4) (by omega) (by omega) (P := fun v : Dy => kindOk (.str k) v.d (.tuple ps) = false ∧ fitn v.d 6)
      ⟨kind_bad hB.k5 rfl rfl (by cases w0 <;> rfl), (fitn_tup (ds := [w0]) (n := 4) (by simp) (fitn_cons (hwc w0 (by simp)) fitn_nil)).mono (by omega)⟩
      ⟨kind_bad hB.k5 rfl rfl rfl, (fitn_lst hB.fw).mono (by omega)⟩ ⟨kind_bad hB.k5 rfl rfl rfl, fitB_fit (by decide +kernel)⟩ ⟨kind_bad hB.k5 rfl rfl rfl, fitB_fit (by decide +kernel)⟩
    rw [ev, bs]
    exact ⟨_, _, rfl, gen fk fo (hv2.mono (by omega)) fp (.inr hv1)⟩
  · rw [if_neg (by decide), if_neg (by decide), if_neg (by decide), if_neg (by decide), if_pos (by decide), ofTu, bs, cutT_1 (by simp), bs]
    rw [show (ofD (upD (("mid3" : Str), ())) : Option (Tu Dy)) = some ⟨[⟨.str "mid3"⟩]⟩ from rfl, bs, show ((w0 :: w1 :: ws).map Dy.mk).take 1 = [(⟨w0⟩ : Dy)] from rfl, catT_ok (by simp), bs, bs, show cutTO (Tu.mk ((w0 :: w1 :: ws).map Dy.mk)) (some (2 : Int)) none = some ⟨((w0 :: w1 :: ws).map Dy.mk).drop 2⟩ from cutT_f (k := 2) (by omega) (by simp), bs, catT_ok (by simp; omega), bs]
    have e1 : ([(⟨w0⟩ : Dy)] ++ [(⟨.str "mid3"⟩ : Dy)]) ++ ((w0 :: w1 :: ws).map Dy.mk).drop 2 = (w0 :: .str "mid3" :: ws).map Dy.mk := rfl
    rw [e1]
    refine ⟨_, _, congrArg (fun l => some (Dy.mk (.tuple [.str k, .str nm, .tuple [a, b, c, d, e, .int g], .tuple l, .tuple ps]))) (map_dmk6 (w0 :: .str "mid3" :: ws)), gen fk fo ((fitn_tup (ds := w0 :: .str "mid3" :: ws) (n := 4) (by simp only [List.length_cons]; omega) fun x hx => ?_).mono (by omega)) fp (.inr (kind_bad hB.k5 ?_ ?_ ?_))⟩
    · rcases List.mem_cons.mp hx with rfl | hx
      · exact hwc _ (by simp)
      · rcases List.mem_cons.mp hx with rfl | hx
        · exact fitn_sml (by decide +kernel)
        · exact hwc x (by simp [hx])
    · cases ws with
      | nil =>
        show (isWhole w0 0 1000000 && false) = false
        rw [Bool.and_false]
      | cons _ _ => rfl
    · match ws with
      | [] => rfl
      | [s] =>
        show (decide (ps.length ≤ 20) && isWhole w0 0 1000 && isWord (.str "mid3") ALIGNS && isWord s SIDES) = false
        rw [show isWord (.str "mid3") ALIGNS = false by decide +kernel]
        simp
      | _ :: _ :: _ => rfl
    · cases w0 with
      | int i =>
        match ws with
        | [] => rfl
        | [s] => rfl
        | [s, t] =>
          cases t with
          | tuple sp =>
            show (decide (ps.length ≤ 40) && (decide (1 ≤ i) && decide (i ≤ 12)) && false && isWord s SIDES && decide (sp.length = ps.length) && sp.all (spanIn i) && decide (rowsT i (sp.map prOf) ≤ 60)) = false
            simp
          | _ => rfl
        | _ :: t :: _ :: _ => cases t <;> rfl
      | _ => rfl
  · rw [if_neg (by decide), if_neg (by decide), if_neg (by decide), if_neg (by decide), if_neg (by decide), if_pos (by decide), ofTu, bs, show cutTO (Tu.mk ((w0 :: w1 :: ws).map Dy.mk)) (some (1 : Int)) none = some ⟨((w0 :: w1 :: ws).map Dy.mk).drop 1⟩ from cutT_f (k := 1) (by omega) (by simp), bs]
    generalize hi : (-(1 : Int)) - (c2 % (1000000000 : Int)) = i
    have hi0 : i < 0 := by omega
    show ∃ bb y, Option.bind (catTO (Tu.mk [(⟨.int i⟩ : Dy)]) (Tu.mk (((w0 :: w1 :: ws).map Dy.mk).drop 1))) _ = _ ∧ _
    rw [catT_ok (by simp; omega), bs]
    have e1 : ([(⟨.int i⟩ : Dy)] ++ ((w0 :: w1 :: ws).map Dy.mk).drop 1) = (.int i :: w1 :: ws).map Dy.mk := rfl
    rw [e1]
    have n1 : ∀ m, isWhole (.int i) 0 m = false := fun m => noW_int (.inl hi0)
    refine ⟨_, _, congrArg (fun l => some (Dy.mk (.tuple [.str k, .str nm, .tuple [a, b, c, d, e, .int g], .tuple l, .tuple ps]))) (map_dmk6 (.int i :: w1 :: ws)), gen fk fo ((fitn_tup (ds := .int i :: w1 :: ws) (n := 4) (by simp only [List.length_cons]; omega) fun x hx => ?_).mono (by omega)) fp (.inr (kind_bad hB.k5 ?_ ?_ ?_))⟩
    · rcases List.mem_cons.mp hx with rfl | hx
      · exact fitn_int _ 4
      · exact hwc x (List.mem_cons_of_mem _ hx)
    · cases ws with
      | nil =>
        show (isWhole (.int i) 0 1000000 && isWhole w1 0 1000000) = false
        rw [n1]
        rfl
      | cons _ _ => rfl
    · match ws with
      | [] => rfl
      | [s] =>
        show (decide (ps.length ≤ 20) && isWhole (.int i) 0 1000 && isWord w1 ALIGNS && isWord s SIDES) = false
        rw [n1]
        simp
      | _ :: _ :: _ => rfl
    · match ws with
      | [] => rfl
      | [s] => rfl
      | [s, t] =>
        cases t with
        | tuple sp =>
          show (decide (ps.length ≤ 40) && (decide (1 ≤ i) && decide (i ≤ 12)) && isWhole w1 0 1000 && isWord s SIDES && decide (sp.length = ps.length) && sp.all (spanIn i) && decide (rowsT i (sp.map prOf) ≤ 60)) = false
          rw [decide_eq_false (show ¬ 1 ≤ i by omega)]
          simp
        | _ => rfl
      | _ :: t :: _ :: _ => cases t <;> rfl
  · rw [if_neg (by decide), if_neg (by decide), if_neg (by decide), if_neg (by decide), if_neg (by decide), if_neg (by decide), if_pos (by decide)]
    obtain ⟨⟨v⟩, ev, hv1, hv2⟩ := pick6 (upD ("Leaf" : Str)) (upD ("box" : Str)) (upD ("" : Str)) (upD Nn.nn) (upD (3 : Int)) (upD ([(upD ("row" : Str))] : List Dy)) (k := c2 % 6) (by omega) (by omega) (P := fun v : Dy => kindOk v.d (.tuple (w0 :: w1 :: ws)) (.tuple ps) = false ∧ fitn v.d 2)
      ⟨kind_six (by decide +kernel) _ _, fitn_sml (by decide +kernel)⟩ ⟨kind_six (by decide +kernel) _ _, fitn_sml (by decide +kernel)⟩ ⟨kind_six (by decide +kernel) _ _, fitn_sml (by decide +kernel)⟩ ⟨rfl, fitB_fit (by decide +kernel)⟩ ⟨rfl, fitB_fit (by decide +kernel)⟩ ⟨rfl, fitB_fit (by decide +kernel)⟩
    rw [ev, bs]
    exact ⟨_, _, rfl, gen (hv2.mono (by omega)) fo fw fp (.inr hv1)⟩
  · rw [if_neg (by decide), if_neg (by decide), if_neg (by decide), if_neg (by decide), if_neg (by decide), if_neg (by decide), if_neg (by decide), ofTu, bs]
    show ∃ bb y, Option.bind (atI [upD (ps.map Dy.mk), ⟨.none⟩, ⟨.int 4⟩, ⟨.str "ab"⟩] (c2 % 4)) _ = _ ∧ _
    rw [up_li]
    obtain ⟨⟨v⟩, ev, hv1, hv2⟩ := pick4P (⟨.list ps⟩ : Dy) ⟨.none⟩ ⟨.int 4⟩ ⟨.str "ab"⟩ (k := c2 % 4) (by omega) (by omega) (P := fun v : Dy => kindOk (.str k) (.tuple (w0 :: w1 :: ws)) v.d = false ∧ fitn v.d 18)
      ⟨rfl, fitn_lst hps⟩ ⟨rfl, fitB_fit (by decide +kernel)⟩ ⟨rfl, fitn_int _ 18⟩ ⟨rfl, fitn_sml (by decide +kernel)⟩
    rw [ev, bs]
    exact ⟨_, _, rfl, gen fk fo fw (hv2.mono (by omega)) (.inr hv1)⟩
/-! the boxes, one behind another -/
theorem fit_list {ds : List PyData} (hl : ds.length < 1000000) (h : ∀ d ∈ ds, fitn d 40) : fitn (.list ds) 41 := fitn_lst (fitn_tup hl h)
theorem Bx.of {n : Nat} {d : PyData} (h : Bx n d) : ∃ k nm o w ps, d = .tuple [.str k, .str nm, o, w, .tuple ps] := by
  cases n with
  | zero => exact h.elim
  | succ n =>
    obtain ⟨k, nm, a, b, c, e, f, g, w0, w1, ws, ps, rfl, _⟩ := h
    exact ⟨_, _, _, _, _, rfl⟩
theorem boxes_is {d : PyData} (h : Bx 8 d) (hl : (bxT 8 d).length ≤ 19) : m__law_boxes ⟨d⟩ = some ((bxT 8 d).map Dy.mk) := by
  unfold m__law_boxes
  rw [bs, bs]
  have tst : ∀ (todo : List PyData) (found : List Dy), todo.length < 1000 → (∀ p ∈ todo, Bx 8 p) → m__law_boxes_L1_c (todo.map Dy.mk, found) = some (!todo.isEmpty) := fun todo found hlt ht => by
    show (eqYO (upD (todo.map Dy.mk)) (upD ([] : List Dy))).bind (fun e_765 => some (!e_765)) = _
    rw [up_li, show upD ([] : List Dy) = ⟨.list []⟩ from rfl]
    have e : eqYO ⟨.list todo⟩ ⟨.list []⟩ = some todo.isEmpty := by
      unfold eqYO
      rw [if_pos ⟨okn_shaped (fit_list (by omega) fun p hp => (ht p hp).fit.mono (by omega)).k (by omega), rfl⟩]
      cases todo with
      | nil => rfl
      | cons p r => simp [PyData.eqv, PyData.eqvAll]
    rw [e]
    rfl
  obtain ⟨⟨t, f⟩, e, ⟨todo, found, h1, h2, h3, h4⟩, hc⟩ := whileF_inv (c := m__law_boxes_L1_c) (f := m__law_boxes_L1) (fun s => ∃ todo found : List PyData, s = (todo.map Dy.mk, found.map Dy.mk) ∧ found ++ todo.flatMap (bxT 8) = bxT 8 d ∧ (∀ p ∈ todo, Bx 8 p) ∧ todo.length ≤ (todo.flatMap (bxT 8)).length) (fun s => ((s.1.map Dy.d).flatMap (bxT 8)).length) (fun s hs => by
    obtain ⟨todo, found, rfl, h2, h3, h4⟩ := hs
    have hl2 := congrArg List.length h2
    rw [List.length_append] at hl2
    refine ⟨_, tst todo _ (by omega) h3, fun hb => ?_⟩
    cases todo with
    | nil => cases hb
    | cons p r =>
      have hp := h3 p List.mem_cons_self
      obtain ⟨k, nm, o, w, ps, rfl⟩ := hp.of
      have hpp : ∀ q ∈ ps, Bx 7 q := Bx.parts (n := 7) hp
      have e8 : (ps ++ r).flatMap (bxT 8) = ps.flatMap (bxT 7) ++ r.flatMap (bxT 8) := by
        rw [List.flatMap_append]
        refine congrArg (· ++ _) (flatMap_eq fun q hq => bxT_le (hpp q hq) (by omega))
      have e9 : (PyData.tuple [.str k, .str nm, o, w, .tuple ps] :: r).flatMap (bxT 8) = .tuple [.str k, .str nm, o, w, .tuple ps] :: (ps.flatMap (bxT 7) ++ r.flatMap (bxT 8)) := by
        rw [List.flatMap_cons]
        rfl
      have pos : ∀ (qs : List PyData) (n : Nat), (∀ q ∈ qs, Bx (n + 1) q) → qs.length ≤ (qs.flatMap (bxT (n + 1))).length := by
        intro qs n
        induction qs with
        | nil => exact fun _ => Nat.le_refl _
        | cons q qs ih =>
          intro hq
          have := ih fun y hy => hq y (List.mem_cons_of_mem _ hy)
          rw [List.flatMap_cons, List.length_append, List.length_cons]
          have : 1 ≤ (bxT (n + 1) q).length := by
            show 1 ≤ (q :: _).length
            rw [List.length_cons]
            omega
          omega
      have hps : ps.length ≤ (ps.flatMap (bxT 7)).length := pos ps 6 hpp
      have hr : r.length ≤ (r.flatMap (bxT 8)).length := pos r 7 fun q hq => h3 q (List.mem_cons_of_mem _ hq)
      rw [e9, List.length_cons, List.length_append] at hl2
      have hlen : (bxT 8 d).length ≤ 19 := hl
      refine ⟨((ps ++ r).map Dy.mk, (found ++ [PyData.tuple [.str k, .str nm, o, w, .tuple ps]]).map Dy.mk), ?_, ⟨ps ++ r, _, rfl, ?_, fun q hq => ?_, ?_⟩, ?_⟩
      · unfold m__law_boxes_L1
        show Option.bind (popO0 (_ :: r.map Dy.mk)) _ = _
        rw [show popO0 ((⟨.tuple [.str k, .str nm, o, w, .tuple ps]⟩ : Dy) :: r.map Dy.mk) = some (⟨.tuple [.str k, .str nm, o, w, .tuple ps]⟩, r.map Dy.mk) from rfl, bs]
        dsimp only
        rw [bs, appO_ok (by rw [List.length_map]; omega), bs, ofTu, bs, show atI ([PyData.str k, .str nm, o, w, .tuple ps].map Dy.mk) (4 : Int) = some ⟨.tuple ps⟩ from rfl, bs, ofTu, bs, catO_ok (by rw [List.length_map, List.length_map]; omega), bs, bs]
        rw [List.map_append, List.map_append]
        rfl
      · rw [e8, ← h2, e9]
        simp
      · rcases List.mem_append.mp hq with hq | hq
        · exact (hpp q hq).mono
        · exact h3 q (List.mem_cons_of_mem _ hq)
      · rw [e8, List.length_append, List.length_append]
        omega
      · show ((((ps ++ r).map Dy.mk).map Dy.d).flatMap (bxT 8)).length < ((((PyData.tuple [.str k, .str nm, o, w, .tuple ps] :: r).map Dy.mk).map Dy.d).flatMap (bxT 8)).length
        rw [map_dmk6, map_dmk6, e8, e9, List.length_cons]
        omega) (s := ([⟨d⟩], [])) ⟨[d], [], rfl, by simp, fun p hp => by rw [List.mem_singleton.mp hp]; exact h, by
      show 1 ≤ ([d].flatMap (bxT 8)).length
      rw [List.flatMap_singleton]
      show 1 ≤ (d :: _).length
      rw [List.length_cons]
      omega⟩
  rw [e, bs]
  cases h1
  have hl2 := congrArg List.length h2
  rw [List.length_append] at hl2
  rw [tst todo _ (by omega) h3] at hc
  have hc := Option.some.inj hc
  cases todo with
  | nil =>
    rw [List.flatMap_nil, List.append_nil] at h2
    rw [h2]
  | cons _ _ => cases hc
/-! the exchange -/
theorem named_is {x : Str} {b : PyData} (hx : fitn (.str x) 0) : ∀ (n : Nat) (d : PyData), Bx n d → m__law_named n ⟨d⟩ ⟨.str x⟩ ⟨b⟩ = some ⟨sub n d x b⟩
  | 0, _, h => h.elim
  | n + 1, _, ⟨k, nm, a, c1, c, d, e, g, w0, w1, ws, ps, rfl, hB, hp⟩ => by
    show m__law_named_step (m__law_named n) _ _ _ = _
    unfold m__law_named_step
    rw [ofTu, bs, show atI ([PyData.str k, .str nm, .tuple [a, c1, c, d, e, .int g], .tuple (w0 :: w1 :: ws), .tuple ps].map Dy.mk) (1 : Int) = some ⟨.str nm⟩ from rfl, bs, eq_str hB.nf hx, bs]
    show _ = some (Dy.mk (if nm = x then b else _))
    by_cases q : nm = x
    · rw [if_pos (decide_eq_true q), if_pos q]
    · rw [if_neg (by rw [decide_eq_true_eq]; exact q), if_neg q, bs]
      rw [show cutTO (Tu.mk ([PyData.str k, .str nm, .tuple [a, c1, c, d, e, .int g], .tuple (w0 :: w1 :: ws), .tuple ps].map Dy.mk)) none (some (4 : Int)) = some ⟨[⟨.str k⟩, ⟨.str nm⟩, ⟨.tuple [a, c1, c, d, e, .int g]⟩, ⟨.tuple (w0 :: w1 :: ws)⟩]⟩ from rfl, bs, bs, show atI ([PyData.str k, .str nm, .tuple [a, c1, c, d, e, .int g], .tuple (w0 :: w1 :: ws), .tuple ps].map Dy.mk) (4 : Int) = some ⟨.tuple ps⟩ from rfl, bs, ofTu, bs]
      have hpl := hB.pl
      rw [lcM_all (fun p : Dy => (⟨sub n p.d x b⟩ : Dy)) (by rw [List.length_map]; omega) (fun p hpm => by
        obtain ⟨p, hpp, rfl⟩ := List.mem_map.mp hpm
        rw [named_is hx n p (hp p hpp), bs]), bs]
      have e1 : (ps.map Dy.mk).map (fun p : Dy => (⟨sub n p.d x b⟩ : Dy)) = (ps.map fun p => sub n p x b).map Dy.mk := by
        rw [List.map_map, List.map_map]
        rfl
      rw [e1]
      have e2 : (ofD (upD ((Tu.mk ((ps.map fun p => sub n p x b).map Dy.mk)), ())) : Option (Tu Dy)) = some ⟨[⟨.tuple (ps.map fun p => sub n p x b)⟩]⟩ := by
        have : upD ((Tu.mk ((ps.map fun p => sub n p x b).map Dy.mk)), ()) = (⟨.tuple [.tuple (((ps.map fun p => sub n p x b).map Dy.mk).map Dy.d)]⟩ : Dy) := rfl
        rw [this, map_dmk6]
        exact ofTu _
      rw [e2, bs]
      rfl
/-! refused, and let by -/
theorem kept_is {t : PyData} (hf : fit t) : m__law_kept ⟨t⟩ = some (match chkB 10 t 1 false [] with | .error e => some (bx e) | .ok _ => none) := by
  unfold m__law_kept
  rw [bs, tree_is rowsT_ok t hf]
  cases chkB 10 t 1 false [] <;> rfl
theorem refused_is {t : PyData} (hf : fit t) {e : Option Str} (he : fit (upD e).d) (hc : chkB 10 t 1 false [] = .error e) : m__law_refused ⟨t⟩ (upD e) = some true := by
  unfold m__law_refused
  rw [kept_is hf, hc]
  simp only [bs]
  rw [show xcls (bx e) "BadBox" = some () from rfl, show xfl (bx e) "BadBox" "name" = some (upD e) from rfl]
  simp only [bs, Bool.false_eq_true, if_false, if_true, Bool.not_true]
  rw [eqY_self (d := (upD e).d) he.k (by omega)]
  rfl
theorem law_main (ns : List Int) (hl : ns.length ≤ 63) : m_law (Fz.mk ns) = some true := by
  unfold m_law
  obtain ⟨d, ed, hb6, hnd, hlen⟩ := tree_okD (ns := ns)
  have hb : Bx 8 d := hb6.le (by omega)
  obtain ⟨cell, ec⟩ := at_okD (ns := ns) 1 (by omega)
  have hbx := boxes_is hb hlen
  rw [ed, bs, bs, hbx, bs, bs, ec, bs, bs]
  have hbp : 0 < (bxT 8 d).length := by
    show 0 < (d :: _).length
    rw [List.length_cons]
    omega
  rw [modO_ok (by rw [List.length_map]; omega), bs]
  generalize hq : cell % (((bxT 8 d).map Dy.mk).length : Int) = q
  have q0 : 0 ≤ q := by rw [← hq]; exact Int.emod_nonneg _ (by rw [List.length_map]; omega)
  have q1 : q < ((bxT 8 d).length : Int) := by
    rw [← hq, List.length_map]
    exact Int.emod_lt_of_pos _ (by omega)
  obtain ⟨x, hx⟩ : ∃ x, (bxT 8 d)[q.toNat]? = some x := ⟨(bxT 8 d)[q.toNat]'(by omega), List.getElem?_eq_getElem (by omega)⟩
  have hxm : x ∈ bxT 8 d := List.mem_of_getElem? hx
  rw [show q = ((q.toNat : Nat) : Int) by omega, at_nat (x := (⟨x⟩ : Dy)) (by rw [List.getElem?_map, hx]; rfl), bs, bs, divO_ok (by rw [List.length_map]; omega) (by rw [List.length_map]; omega), bs]
  have hb' := hb
  obtain ⟨fk, fnm, fa, fb, fc, fd, fe, fg, fw0, fw1, fws, fps, ed0, hB0, hp0⟩ := hb'
  have e0 : atI ((bxT 8 d).map Dy.mk) (0 : Int) = some ⟨d⟩ := by
    rw [show bxT 8 d = d :: (ptsT d).flatMap (bxT 7) from rfl, List.map_cons]
    exact at_nat (k := 0) rfl
  rw [e0]
  simp only [bs]
  have od : (ofD (⟨d⟩ : Dy) : Option (Tu Dy)) = some ⟨[⟨.str fk⟩, ⟨.str fnm⟩, ⟨.tuple [fa, fb, fc, fd, fe, .int fg]⟩, ⟨.tuple (fw0 :: fw1 :: fws)⟩, ⟨.tuple fps⟩]⟩ := by rw [ed0]; exact ofTu _
  rw [od]
  simp only [bs]
  rw [show atI [(⟨.str fk⟩ : Dy), ⟨.str fnm⟩, ⟨.tuple [fa, fb, fc, fd, fe, .int fg]⟩, ⟨.tuple (fw0 :: fw1 :: fws)⟩, ⟨.tuple fps⟩] (1 : Int) = some ⟨.str fnm⟩ from rfl]
  simp only [bs]
  have hxm6 := hxm
  rw [bxT_le hb6 (by omega)] at hxm6
  obtain ⟨k, nm, a, b, c, e1, f, g, w0, w1, ws, ps, rfl, hB, hp⟩ := bxT_mem hb6 x hxm6
  have hpsf : fitn (.tuple ps) 18 := (fitn_tup (n := 15) (by have := hB.pl; omega) fun p hpp => Bx.fit (n := 5) (hp p hpp)).mono (by omega)
  obtain ⟨bb, y, ebb, hbent⟩ := bent_ok hB hpsf hB0.nn hB0.nf (cell / (((bxT 8 d).map Dy.mk).length : Int))
  obtain ⟨k2, o2, w2, p2, ebt⟩ := hbent.at_
  rw [ebb]
  simp only [bs]
  rw [show (ofD (⟨.tuple [.str k, .str nm, .tuple [a, b, c, e1, f, .int g], .tuple (w0 :: w1 :: ws), .tuple ps]⟩ : Dy) : Option (Tu Dy)) = some ⟨[⟨.str k⟩, ⟨.str nm⟩, ⟨.tuple [a, b, c, e1, f, .int g]⟩, ⟨.tuple (w0 :: w1 :: ws)⟩, ⟨.tuple ps⟩]⟩ from ofTu _]
  simp only [bs]
  rw [show atI [(⟨.str k⟩ : Dy), ⟨.str nm⟩, ⟨.tuple [a, b, c, e1, f, .int g]⟩, ⟨.tuple (w0 :: w1 :: ws)⟩, ⟨.tuple ps⟩] (1 : Int) = some ⟨.str nm⟩ from rfl]
  simp only [bs]
  rw [show (ofD (⟨bb⟩ : Dy) : Option (Tu Dy)) = some ⟨[⟨k2⟩, ⟨y⟩, ⟨o2⟩, ⟨w2⟩, ⟨p2⟩]⟩ by rw [ebt]; exact ofTu _]
  simp only [bs]
  rw [show atI [(⟨k2⟩ : Dy), ⟨y⟩, ⟨o2⟩, ⟨w2⟩, ⟨p2⟩] (1 : Int) = some ⟨y⟩ from rfl]
  simp only [bs]
  have hy : fitn y 20 := by
    have := hbent.f
    rw [ebt] at this
    exact fitn_child this y (by simp)
  have hnm : nm ∈ nms 8 d := List.mem_map.mpr ⟨_, hxm, rfl⟩
  have hdn : nmT d = fnm := by rw [ed0]; rfl
  obtain ⟨e, R, he, hR, href, hr1, hr2, hname⟩ : ∃ (e : Option Str) (R : List Str → Prop), fit (upD e).d ∧ (∀ s t, R s → R (s ++ t)) ∧ Refd bb e R ∧ (nmT d = nm → R []) ∧ (nmT d ≠ nm → R ([] ++ [nmT d])) ∧
      ((eqYO ⟨y⟩ ⟨.str nm⟩).bind fun e_961 => ((if (!e_961) = true then ((eqYO ⟨y⟩ ⟨.str fnm⟩).bind fun e_970 => (if e_970 = true then some (⟨y⟩ : Dy) else (some (upD Nn.nn)))) else (some (⟨.str nm⟩ : Dy))))) = some (upD e) := by
    rcases hbent.r with ⟨rfl, hr⟩ | ⟨hyn, hr⟩ | ⟨rfl, hne, hr⟩
    · refine ⟨some nm, (fun _ => True), hB.nf.fit (by omega), fun _ _ _ => trivial, hr, fun _ => trivial, fun _ => trivial, ?_⟩
      rw [eq_str hB.nf hB.nf, bs, decide_eq_true rfl, if_neg (by decide)]
      rfl
    · refine ⟨none, (fun _ => True), (fitB_fit (n := 0) (by decide +kernel)).fit (by omega), fun _ _ _ => trivial, hr, fun _ => trivial, fun _ => trivial, ?_⟩
      rw [eq_nstr hy (by omega) hB.nf hB.nn hyn, bs, if_pos (by decide), eq_nstr hy (by omega) hB0.nf hB0.nn hyn, bs, if_neg nf]
      rfl
    · refine ⟨some fnm, (fun s => fnm ∈ s), hB0.nf.fit (by omega), fun s t h => List.mem_append_left _ h, hr, fun z => absurd (hdn.symm.trans z) hne, fun _ => by rw [hdn]; exact List.mem_singleton.mpr rfl, ?_⟩
      rw [eq_str hB0.nf hB.nf, bs, decide_eq_false hne, if_pos (by decide), eq_str hB0.nf hB0.nf, bs, decide_eq_true rfl, if_pos rfl]
      rfl
  have hname2 : ∀ (F : Dy → Option Bool), ((eqYO ⟨y⟩ ⟨.str nm⟩).bind fun e_961 => ((if (!e_961) = true then ((eqYO ⟨y⟩ ⟨.str fnm⟩).bind fun e_970 => (if e_970 = true then some (⟨y⟩ : Dy) else (some (upD Nn.nn)))) else (some (⟨.str nm⟩ : Dy)))).bind F) = F (upD e) := fun F => by
    cases h1 : eqYO ⟨y⟩ ⟨.str nm⟩ with
    | none => rw [h1] at hname; cases hname
    | some v =>
      rw [h1, bs] at hname
      rw [bs, hname, bs]
  rw [hname2]
  rw [named_is hB.nf 8 d hb]
  simp only [bs]
  have okc := chk_tree 8 d 10 1 false [] hb (by omega) (by omega) (fun z => nomatch z) (by rw [List.nil_append]; exact hnd) (by rw [List.nil_append, List.length_map]; omega)
  have badc := chk_sub href hR 8 d 10 1 false [] hb (by omega) (by omega) (fun z => nomatch z) (by rw [List.nil_append]; exact hnd) (by rw [List.nil_append, List.length_map]; omega) hnm hr1 hr2
  have fgood : fit d := hb.fit.fit (by omega)
  have fbad : fit (sub 8 d nm bb) := (fit_sub 8 d nm bb hb hbent.f).fit (by omega)
  rw [show rngO 0 2 = some (irange 0 2) from rfl]
  simp only [bs]
  rw [forC_all fun i _ => by
    unfold m_law_L1
    rw [kept_is fgood, okc]
    simp only [bs]
    rw [refused_is fbad he badc]
    rfl]
  simp only [bs]
  rw [show cutTO (Tu.mk [(⟨.str fk⟩ : Dy), ⟨.str fnm⟩, ⟨.tuple [fa, fb, fc, fd, fe, .int fg]⟩, ⟨.tuple (fw0 :: fw1 :: fws)⟩, ⟨.tuple fps⟩]) none (some (4 : Int)) = some ⟨[⟨.str fk⟩, ⟨.str fnm⟩, ⟨.tuple [fa, fb, fc, fd, fe, .int fg]⟩, ⟨.tuple (fw0 :: fw1 :: fws)⟩]⟩ from rfl]
  simp only [bs]
  have odd : ∀ t : PyData, fit t → nameOf t = none → m_law_L2 ⟨t⟩ () = some (.nx ()) := fun t ht hn => by
    unfold m_law_L2
    rw [show upD Nn.nn = upD (none : Option Str) from rfl, refused_is ht ((fitB_fit (n := 0) (by decide +kernel)).fit (by omega)) (chk_ref (R := fun _ => True) (refd_none hn) 9 1 false [] trivial)]
    rfl
  have dch : ∀ z ∈ [PyData.str fk, .str fnm, .tuple [fa, fb, fc, fd, fe, .int fg], .tuple (fw0 :: fw1 :: fws), .tuple fps], fitn z 30 := fun z hz => by
    have := hb.fit
    rw [ed0] at this
    exact (fitn_child (n := 21) (this.mono (by omega)) z hz).mono (by omega)
  rw [forC_all fun t ht => by
    simp only [List.mem_cons, List.not_mem_nil, or_false] at ht
    rcases ht with rfl | rfl | rfl | rfl | rfl | rfl | rfl | rfl
    · exact odd .none ((fitB_fit (n := 0) (by decide +kernel)).fit (by omega)) rfl
    · exact odd (.int 5) ((fitB_fit (n := 0) (by decide +kernel)).fit (by omega)) rfl
    · exact odd (.str "leaf") ((fitB_fit (n := 0) (by decide +kernel)).fit (by omega)) rfl
    · exact odd (.tuple []) ((fitB_fit (n := 1) (by decide +kernel)).fit (by omega)) rfl
    · exact odd (.list []) ((fitB_fit (n := 1) (by decide +kernel)).fit (by omega)) rfl
    · exact odd (.tuple [.str fk, .str fnm, .tuple [fa, fb, fc, fd, fe, .int fg], .tuple (fw0 :: fw1 :: fws)]) ((fitn_tup (n := 30) (by simp) fun z hz => dch z (by
        simp only [List.mem_cons, List.not_mem_nil, or_false] at hz ⊢
        rcases hz with h | h | h | h <;> simp [h])).fit (by omega)) rfl
    · exact odd (.list [.str fk, .str fnm, .tuple [fa, fb, fc, fd, fe, .int fg], .tuple (fw0 :: fw1 :: fws), .tuple fps]) ((fitn_lst (fitn_tup (n := 30) (by simp) dch)).fit (by omega)) rfl
    · exact odd (.tuple [d]) ((fitn_tup (n := 30) (by simp) (fitn_cons (hb.fit.mono (by omega)) fitn_nil)).fit (by omega)) rfl]
  rfl
end Wk06
set_option synthInstance.maxHeartbeats 4000000
set_option synthInstance.maxSize 20000
open PySem PySem.W PyProof.Rows in
set_option maxRecDepth 100000 in
set_option maxHeartbeats 0 in
theorem PySem.Challenge.cw_boxgalley_k06_what_is_a_tree_holds : PySem.Challenge.rw_boxgalley_k06_what_is_a_tree.Holds := by
  w_on; o_law; k_head; (case hw => w_witness2)
  k_fill
  refine L2.walk_of (l := PySem.Challenge.rw_boxgalley_k06_what_is_a_tree) (n := 63) (k := 20) (x := "_law_script") (CX := fun _ => L2.CX0) (sp := fun w => Wk06.spLaw _) rfl (by decide) rfl ⟨rfl, by decide, by decide⟩ (fun w h Y => PySem.W.kIn_of Y) ?F (fun _ _ a ns hl _ hS => ⟨a, ns, rfl, hS, hl, fun _ => rfl⟩) (fun _ _ _ _ _ h => h)
  case F =>
    intro w mg fa h KX G hmg
    refine' Wk06.all_mk Wk06.law_main KX G hmg ?a_cells_at ?l_cells_at ?c_cells_at ?k_cells_at ?a_is_open ?l_is_open ?c_is_open ?k_is_open ?a_put_cells ?l_put_cells ?c_put_cells ?k_put_cells ?a_last_row ?l_last_row ?c_last_row ?k_last_row ?a_rows_taken ?l_rows_taken ?c_rows_taken ?k_rows_taken ?a_is_piece ?l_is_piece ?c_is_piece ?k_is_piece ?a_are_words ?l_are_words ?c_are_words ?k_are_words ?a_is_joint ?l_is_joint ?c_is_joint ?k_is_joint ?a_words_ok ?l_words_ok ?c_words_ok ?k_words_ok ?a_flow_ok ?l_flow_ok ?c_flow_ok ?k_flow_ok ?a_is_anchor ?l_is_anchor ?c_is_anchor ?k_is_anchor ?a_over_ok ?l_over_ok ?c_over_ok ?k_over_ok ?a_is_whole ?l_is_whole ?c_is_whole ?k_is_whole ?a_is_name ?l_is_name ?c_is_name ?k_is_name ?a_is_pair ?l_is_pair ?c_is_pair ?k_is_pair ?a_is_span ?l_is_span ?c_is_span ?k_is_span ?a_is_own ?l_is_own ?c_is_own ?k_is_own ?a_is_word ?l_is_word ?c_is_word ?k_is_word ?a_line_ok ?l_line_ok ?c_line_ok ?k_line_ok ?a_table_ok ?l_table_ok ?c_table_ok ?k_table_ok ?a_kind_ok ?l_kind_ok ?c_kind_ok ?k_kind_ok ?a_name_of ?l_name_of ?c_name_of ?k_name_of ?a_box_ok ?l_box_ok ?c_box_ok ?k_box_ok ?a_check_box ?l_check_box ?c_check_box ?k_check_box ?a_check_tree ?l_check_tree ?c_check_tree ?k_check_tree ?a__law_at ?l__law_at ?c__law_at ?k__law_at ?a__law_mixed ?l__law_mixed ?c__law_mixed ?k__law_mixed ?a__law_draws ?l__law_draws ?c__law_draws ?k__law_draws ?a__law_label ?l__law_label ?c__law_label ?k__law_label ?a__law_span ?l__law_span ?c__law_span ?k__law_span ?a__law_own ?l__law_own ?c__law_own ?k__law_own ?a__law_leaf ?l__law_leaf ?c__law_leaf ?k__law_leaf ?a__law_within ?l__law_within ?c__law_within ?k__law_within ?a__law_step ?l__law_step ?c__law_step ?k__law_step ?a__law_tree ?l__law_tree ?c__law_tree ?k__law_tree ?a__law_boxes ?l__law_boxes ?c__law_boxes ?k__law_boxes ?a__law_named ?l__law_named ?c__law_named ?k__law_named ?a__law_bent_own ?l__law_bent_own ?c__law_bent_own ?k__law_bent_own ?a__law_bent ?l__law_bent ?c__law_bent ?k__law_bent ?a__law_kept ?l__law_kept ?c__law_kept ?k__law_kept ?a__law_refused ?l__law_refused ?c__law_refused ?k__law_refused ?a_law ?l_law ?c_law ?k_law ?aC_BadBox ?aC_BoxError ?aC_NoBox ?aC_NoEdit ?aC_NoFloor ?aC_NoName ?aC_NoNumber ?aC_NoPages ?aC_NoRead ?aC_NoRow ?aC_NoRows ?aC_NoTree ?aC_NotTurned ?aC_Ring ?aC_TooGreat ?aC_TooWide ?xl_BadBox ?fi_BadBox_init ?il_BadBox ?ic_BadBox ?ik_BadBox ?it_BadBox ?fi_BadBox_name ?fi_BadBox_setattr ?su_BadBox_BaseException ?ty_BadBox ?kc_BadBox ?fi_BadBox_getattribute ?fi_BadBox_getattr ?hd_BadBox ?is_BadBox ?fi_BadBox_class ?spc ?tkc ?mro_BadBox ?su_BadBox_BadBox ?su_BadBox_NoBox ?is_NoBox ?ty_NoBox ?su_BadBox_NoEdit ?is_NoEdit ?ty_NoEdit ?su_BadBox_NoFloor ?is_NoFloor ?ty_NoFloor ?su_BadBox_NoName ?is_NoName ?ty_NoName ?su_BadBox_NoNumber ?is_NoNumber ?ty_NoNumber ?su_BadBox_NoPages ?is_NoPages ?ty_NoPages ?su_BadBox_NoRead ?is_NoRead ?ty_NoRead ?su_BadBox_NoRow ?is_NoRow ?ty_NoRow ?su_BadBox_NoRows ?is_NoRows ?ty_NoRows ?su_BadBox_NoTree ?is_NoTree ?ty_NoTree ?su_BadBox_NotTurned ?is_NotTurned ?ty_NotTurned ?su_BadBox_Ring ?is_Ring ?ty_Ring ?su_BadBox_TooGreat ?is_TooGreat ?ty_TooGreat ?su_BadBox_TooWide ?is_TooWide ?ty_TooWide ?su_BadBox_ValueError ?sg_BoxError ?rd_BoxError ?fc_BoxError ?su_BoxError_BaseException ?is_BoxError ?ty_BoxError ?su_BadBox_BoxError ?z_ValueError ?z_all ?z_any ?z_bool ?z_int ?z_isinstance ?z_len ?z_list ?z_max ?z_range ?z_str ?z_tuple ?z_zip ?ki_MOST_SIGNS ?ki_PIECE ?ki_MOST_PIECES ?ki_MOST_IN_ALL ?ki_MOST_JOINT ?ki_MOST_BY ?ki_MOST_OVER ?ki_SMALL ?ki_GREATEST ?ki_MOST_ROWS ?ki_MOST_BOXES ?ki_MOST_DEEP ?tn_ALIGNS ?tl_ALIGNS ?tn_SIDES ?tl_SIDES ?tn_LINES ?tl_LINES ?ln_ANCHORS ?ll_ANCHORS
    (case a_cells_at => k_is)
    (case l_cells_at => k_is)
    (case c_cells_at => k_is)
    (case k_cells_at => k_is)
    (case a_is_open => k_is)
    (case l_is_open => k_is)
    (case c_is_open => k_is)
    (case k_is_open => k_is)
    (case a_put_cells => k_is)
    (case l_put_cells => k_is)
    (case c_put_cells => k_is)
    (case k_put_cells => k_is)
    (case a_last_row => k_is)
    (case l_last_row => k_is)
    (case c_last_row => k_is)
    (case k_last_row => k_is)
    (case a_rows_taken => k_is)
    (case l_rows_taken => k_is)
    (case c_rows_taken => k_is)
    (case k_rows_taken => k_is)
    (case a_is_piece => k_is)
    (case l_is_piece => k_is)
    (case c_is_piece => k_is)
    (case k_is_piece => k_is)
    (case a_are_words => k_is)
    (case l_are_words => k_is)
    (case c_are_words => k_is)
    (case k_are_words => k_is)
    (case a_is_joint => k_is)
    (case l_is_joint => k_is)
    (case c_is_joint => k_is)
    (case k_is_joint => k_is)
    (case a_words_ok => k_is)
    (case l_words_ok => k_is)
    (case c_words_ok => k_is)
    (case k_words_ok => k_is)
    (case a_flow_ok => k_is)
    (case l_flow_ok => k_is)
    (case c_flow_ok => k_is)
    (case k_flow_ok => k_is)
    (case a_is_anchor => k_is)
    (case l_is_anchor => k_is)
    (case c_is_anchor => k_is)
    (case k_is_anchor => k_is)
    (case a_over_ok => k_is)
    (case l_over_ok => k_is)
    (case c_over_ok => k_is)
    (case k_over_ok => k_is)
    (case a_is_whole => k_is)
    (case l_is_whole => k_is)
    (case c_is_whole => k_is)
    (case k_is_whole => k_is)
    (case a_is_name => k_is)
    (case l_is_name => k_is)
    (case c_is_name => k_is)
    (case k_is_name => k_is)
    (case a_is_pair => k_is)
    (case l_is_pair => k_is)
    (case c_is_pair => k_is)
    (case k_is_pair => k_is)
    (case a_is_span => k_is)
    (case l_is_span => k_is)
    (case c_is_span => k_is)
    (case k_is_span => k_is)
    (case a_is_own => k_is)
    (case l_is_own => k_is)
    (case c_is_own => k_is)
    (case k_is_own => k_is)
    (case a_is_word => k_is)
    (case l_is_word => k_is)
    (case c_is_word => k_is)
    (case k_is_word => k_is)
    (case a_line_ok => k_is)
    (case l_line_ok => k_is)
    (case c_line_ok => k_is)
    (case k_line_ok => k_is)
    (case a_table_ok => k_is)
    (case l_table_ok => k_is)
    (case c_table_ok => k_is)
    (case k_table_ok => k_is)
    (case a_kind_ok => k_is)
    (case l_kind_ok => k_is)
    (case c_kind_ok => k_is)
    (case k_kind_ok => k_is)
    (case a_name_of => k_is)
    (case l_name_of => k_is)
    (case c_name_of => k_is)
    (case k_name_of => k_is)
    (case a_box_ok => k_is)
    (case l_box_ok => k_is)
    (case c_box_ok => k_is)
    (case k_box_ok => k_is)
    (case a_check_box => k_is)
    (case l_check_box => k_is)
    (case c_check_box => k_is)
    (case k_check_box => k_is)
    (case a_check_tree => k_is)
    (case l_check_tree => k_is)
    (case c_check_tree => k_is)
    (case k_check_tree => k_is)
    (case a__law_at => k_is)
    (case l__law_at => k_is)
    (case c__law_at => k_is)
    (case k__law_at => k_is)
    (case a__law_mixed => k_is)
    (case l__law_mixed => k_is)
    (case c__law_mixed => k_is)
    (case k__law_mixed => k_is)
    (case a__law_draws => k_is)
    (case l__law_draws => k_is)
    (case c__law_draws => k_is)
    (case k__law_draws => k_is)
    (case a__law_label => k_is)
    (case l__law_label => k_is)
    (case c__law_label => k_is)
    (case k__law_label => k_is)
    (case a__law_span => k_is)
    (case l__law_span => k_is)
    (case c__law_span => k_is)
    (case k__law_span => k_is)
    (case a__law_own => k_is)
    (case l__law_own => k_is)
    (case c__law_own => k_is)
    (case k__law_own => k_is)
    (case a__law_leaf => k_is)
    (case l__law_leaf => k_is)
    (case c__law_leaf => k_is)
    (case k__law_leaf => k_is)
    (case a__law_within => k_is)
    (case l__law_within => k_is)
    (case c__law_within => k_is)
    (case k__law_within => k_is)
    (case a__law_step => k_is)
    (case l__law_step => k_is)
    (case c__law_step => k_is)
    (case k__law_step => k_is)
    (case a__law_tree => k_is)
    (case l__law_tree => k_is)
    (case c__law_tree => k_is)
    (case k__law_tree => k_is)
    (case a__law_boxes => k_is)
    (case l__law_boxes => k_is)
    (case c__law_boxes => k_is)
    (case k__law_boxes => k_is)
    (case a__law_named => k_is)
    (case l__law_named => k_is)
    (case c__law_named => k_is)
    (case k__law_named => k_is)
    (case a__law_bent_own => k_is)
    (case l__law_bent_own => k_is)
    (case c__law_bent_own => k_is)
    (case k__law_bent_own => k_is)
    (case a__law_bent => k_is)
    (case l__law_bent => k_is)
    (case c__law_bent => k_is)
    (case k__law_bent => k_is)
    (case a__law_kept => k_is)
    (case l__law_kept => k_is)
    (case c__law_kept => k_is)
    (case k__law_kept => k_is)
    (case a__law_refused => k_is)
    (case l__law_refused => k_is)
    (case c__law_refused => k_is)
    (case k__law_refused => k_is)
    (case a_law => k_is)
    (case l_law => k_is)
    (case c_law => k_is)
    (case k_law => k_is)
    (case aC_BadBox => k_is)
    (case aC_BoxError => k_is)
    (case aC_NoBox => k_is)
    (case aC_NoEdit => k_is)
    (case aC_NoFloor => k_is)
    (case aC_NoName => k_is)
    (case aC_NoNumber => k_is)
    (case aC_NoPages => k_is)
    (case aC_NoRead => k_is)
    (case aC_NoRow => k_is)
    (case aC_NoRows => k_is)
    (case aC_NoTree => k_is)
    (case aC_NotTurned => k_is)
    (case aC_Ring => k_is)
    (case aC_TooGreat => k_is)
    (case aC_TooWide => k_is)
    (case xl_BadBox => k_is)
    (case fi_BadBox_init => k_is)
    (case il_BadBox => k_is)
    (case ic_BadBox => k_is)
    (case ik_BadBox => k_is)
    (case it_BadBox => k_is)
    (case fi_BadBox_name => k_is)
    (case fi_BadBox_setattr => k_is)
    (case su_BadBox_BaseException => k_is)
    (case ty_BadBox => k_is)
    (case kc_BadBox => k_is)
    (case fi_BadBox_getattribute => k_is)
    (case fi_BadBox_getattr => k_is)
    (case hd_BadBox => k_is)
    (case is_BadBox => k_is)
    (case fi_BadBox_class => k_is)
    (case spc => k_is)
    (case tkc => k_is)
    (case mro_BadBox => k_is)
    (case su_BadBox_BadBox => k_is)
    (case su_BadBox_NoBox => k_is)
    (case is_NoBox => k_is)
    (case ty_NoBox => k_is)
    (case su_BadBox_NoEdit => k_is)
    (case is_NoEdit => k_is)
    (case ty_NoEdit => k_is)
    (case su_BadBox_NoFloor => k_is)
    (case is_NoFloor => k_is)
    (case ty_NoFloor => k_is)
    (case su_BadBox_NoName => k_is)
    (case is_NoName => k_is)
    (case ty_NoName => k_is)
    (case su_BadBox_NoNumber => k_is)
    (case is_NoNumber => k_is)
    (case ty_NoNumber => k_is)
    (case su_BadBox_NoPages => k_is)
    (case is_NoPages => k_is)
    (case ty_NoPages => k_is)
    (case su_BadBox_NoRead => k_is)
    (case is_NoRead => k_is)
    (case ty_NoRead => k_is)
    (case su_BadBox_NoRow => k_is)
    (case is_NoRow => k_is)
    (case ty_NoRow => k_is)
    (case su_BadBox_NoRows => k_is)
    (case is_NoRows => k_is)
    (case ty_NoRows => k_is)
    (case su_BadBox_NoTree => k_is)
    (case is_NoTree => k_is)
    (case ty_NoTree => k_is)
    (case su_BadBox_NotTurned => k_is)
    (case is_NotTurned => k_is)
    (case ty_NotTurned => k_is)
    (case su_BadBox_Ring => k_is)
    (case is_Ring => k_is)
    (case ty_Ring => k_is)
    (case su_BadBox_TooGreat => k_is)
    (case is_TooGreat => k_is)
    (case ty_TooGreat => k_is)
    (case su_BadBox_TooWide => k_is)
    (case is_TooWide => k_is)
    (case ty_TooWide => k_is)
    (case su_BadBox_ValueError => k_is)
    (case sg_BoxError => k_is)
    (case rd_BoxError => k_is)
    (case fc_BoxError => k_is)
    (case su_BoxError_BaseException => k_is)
    (case is_BoxError => k_is)
    (case ty_BoxError => k_is)
    (case su_BadBox_BoxError => k_is)
    (case z_ValueError => k_is)
    (case z_all => k_is)
    (case z_any => k_is)
    (case z_bool => k_is)
    (case z_int => k_is)
    (case z_isinstance => k_is)
    (case z_len => k_is)
    (case z_list => k_is)
    (case z_max => k_is)
    (case z_range => k_is)
    (case z_str => k_is)
    (case z_tuple => k_is)
    (case z_zip => k_is)
    (case ki_MOST_SIGNS => k_is)
    (case ki_PIECE => k_is)
    (case ki_MOST_PIECES => k_is)
    (case ki_MOST_IN_ALL => k_is)
    (case ki_MOST_JOINT => k_is)
    (case ki_MOST_BY => k_is)
    (case ki_MOST_OVER => k_is)
    (case ki_SMALL => k_is)
    (case ki_GREATEST => k_is)
    (case ki_MOST_ROWS => k_is)
    (case ki_MOST_BOXES => k_is)
    (case ki_MOST_DEEP => k_is)
    (case tn_ALIGNS => k_is)
    (case tl_ALIGNS => k_is)
    (case tn_SIDES => k_is)
    (case tl_SIDES => k_is)
    (case tn_LINES => k_is)
    (case tl_LINES => k_is)
    (case ln_ANCHORS => k_is)
    (case ll_ANCHORS => k_is)
